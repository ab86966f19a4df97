import PyProof.Rows.All
import Wide.All
import OpenK.AllK
import Wide.FinOn
import KE.SortData
import KE.GoesMore
import KE.KDictPairs
import HandS.ForMost
import HandS.ForExc
import HandS.IsInst
import HandS.ExcIs
import HandS.Style
import HandS.TupAny
import HandS.TupLen
import HandS.DictComp
import HandS.Walk
import HandS.Zip
import HandS.Small
import HandS.SortInts
import PySem.Challenge.RW_putbetween_k26_whole_names_that_come_are
set_option Elab.async false
set_option linter.all false
set_option maxRecDepth 100000
set_option maxHeartbeats 4000000
/-! PbMath: the mathematics of plans, chains, runs and names, in plain Lean (core alone). -/
namespace Pb

def seen (P : List (List Nat)) (i : Nat) : List Nat := P.getD i []

structure IsPlan (P : List (List Nat)) : Prop where
  asc : ∀ i, i < P.length → (seen P i).Pairwise (· < ·)
  lt : ∀ i x, i < P.length → x ∈ seen P i → x < i
  tr : ∀ i x y, i < P.length → x ∈ seen P i → y ∈ seen P x → y ∈ seen P i

def Chain (P : List (List Nat)) (c : List Nat) : Prop :=
  c ≠ [] ∧ (∀ x, x ∈ c → x < P.length) ∧ ∀ (k : Nat) (x y : Nat), c[k]? = some x → c[k + 1]? = some y → x ∈ seen P y

def lastN (c : List Nat) : Nat := c.getLastD 0

theorem lastN_snoc (c : List Nat) (x : Nat) : lastN (c ++ [x]) = x := by
  unfold lastN
  simp [List.getLastD_eq_getLast?]
theorem snoc_last {c : List Nat} (h : c ≠ []) : c = c.dropLast ++ [lastN c] := by
  unfold lastN
  rw [List.getLastD_eq_getLast?, List.getLast?_eq_some_getLast h]
  exact (List.dropLast_concat_getLast h).symm
theorem snoc_cases {c : List Nat} (h : c ≠ []) : ∃ d x, c = d ++ [x] := ⟨_, _, snoc_last h⟩

theorem chain_one {P : List (List Nat)} {i : Nat} (h : i < P.length) : Chain P [i] := by
  refine ⟨by simp, ?_, ?_⟩
  · intro x hx
    have e : x = i := by simpa using hx
    rw [e]; exact h
  · intro k x y h1 h2
    simp at h2
theorem chain_snoc {P : List (List Nat)} {c : List Nat} {j : Nat} (h : Chain P c) (hs : lastN c ∈ seen P j) (hj : j < P.length) : Chain P (c ++ [j]) := by
  obtain ⟨h0, h1, h2⟩ := h
  refine ⟨by simp, ?_, ?_⟩
  · intro x hx
    rcases List.mem_append.mp hx with hx | hx
    · exact h1 x hx
    · have e : x = j := by simpa using hx
      rw [e]; exact hj
  · intro k x y hx hy
    by_cases hk : k + 1 < c.length
    · rw [List.getElem?_append_left (by omega)] at hx
      rw [List.getElem?_append_left hk] at hy
      exact h2 k x y hx hy
    · by_cases hk2 : k + 1 = c.length
      · rw [List.getElem?_append_left (by omega)] at hx
        rw [hk2] at hy
        have ey : j = y := by simpa using hy
        subst ey
        have e := snoc_last h0
        have hl : c.dropLast.length = k := by rw [List.length_dropLast]; omega
        rw [e, ← hl] at hx
        have ex : lastN c = x := by simpa using hx
        rw [← ex]
        exact hs
      · have hl : (c ++ [j]).length ≤ k + 1 := by rw [List.length_append, List.length_singleton]; omega
        rw [List.getElem?_eq_none hl] at hy
        cases hy
theorem chain_take {P : List (List Nat)} {c : List Nat} {n : Nat} (h : Chain P c) (hn : 0 < n) : Chain P (c.take n) := by
  obtain ⟨h0, h1, h2⟩ := h
  refine ⟨?_, ?_, ?_⟩
  · cases c with
    | nil => exact absurd rfl h0
    | cons a r =>
      cases n with
      | zero => omega
      | succ n => simp
  · intro x hx
    exact h1 x (List.mem_of_mem_take hx)
  · intro k x y hx hy
    rw [List.getElem?_take] at hx hy
    split at hx
    · split at hy
      · exact h2 k x y hx hy
      · cases hy
    · cases hx
theorem chain_pre {P : List (List Nat)} {c d : List Nat} (h : Chain P (c ++ d)) (hc : c ≠ []) : Chain P c := by
  have q := chain_take (n := c.length) h (by
    cases c with
    | nil => exact absurd rfl hc
    | cons a r => simp)
  rw [List.take_left] at q
  exact q
theorem chain_last_mid {P : List (List Nat)} {c : List Nat} {x : Nat} {r : List Nat} (h : Chain P (c ++ x :: r)) (hc : c ≠ []) : lastN c ∈ seen P x ∧ x < P.length := by
  obtain ⟨h0, h1, h2⟩ := h
  refine ⟨?_, h1 x (by simp)⟩
  have e := snoc_last hc
  have hl : c.length = c.dropLast.length + 1 := by
    rw [List.length_dropLast]
    have : 0 < c.length := List.length_pos_iff.mpr hc
    omega
  refine h2 c.dropLast.length (lastN c) x ?_ ?_
  · rw [e, List.append_assoc]
    simp [lastN_snoc]
  · rw [← hl]
    simp
theorem last_mem {c : List Nat} (h : c ≠ []) : lastN c ∈ c := by
  have e := snoc_last h
  rw [e, lastN_snoc]
  simp

/-- the items of a chain rise -/
theorem chain_lt_last {P : List (List Nat)} (hP : IsPlan P) : ∀ (n : Nat) (c : List Nat), c.length = n → Chain P c → ∀ x, x ∈ c.dropLast → x < lastN c := by
  intro n
  induction n with
  | zero =>
    intro c hl h
    exact absurd (List.length_eq_zero_iff.mp hl) h.1
  | succ n ih =>
    intro c hl h x hx
    obtain ⟨d, y, e⟩ := snoc_cases h.1
    subst e
    rw [lastN_snoc]
    rw [List.dropLast_concat] at hx
    have hd : d ≠ [] := by
      intro z
      rw [z] at hx
      cases hx
    have hm := chain_last_mid (r := []) h hd
    have hly := hP.lt y (lastN d) hm.2 hm.1
    have hcd : Chain P d := chain_pre (d := [y]) h hd
    have hln : d.length = n := by
      rw [List.length_append, List.length_singleton] at hl
      omega
    have e := snoc_last hd
    rw [e] at hx
    rcases List.mem_append.mp hx with hx | hx
    · exact Nat.lt_trans (ih d hln hcd x hx) hly
    · have ex : x = lastN d := by simpa using hx
      rw [ex]
      exact hly
theorem chain_le_last {P : List (List Nat)} (hP : IsPlan P) {c : List Nat} (h : Chain P c) {x : Nat} (hx : x ∈ c) : x ≤ lastN c := by
  have e := snoc_last h.1
  rw [e] at hx
  rcases List.mem_append.mp hx with hx | hx
  · exact Nat.le_of_lt (chain_lt_last hP _ c rfl h x hx)
  · have ex : x = lastN c := by simpa using hx
    omega
theorem chain_asc {P : List (List Nat)} (hP : IsPlan P) : ∀ (n : Nat) (c : List Nat), c.length = n → Chain P c → c.Pairwise (· < ·) := by
  intro n
  induction n with
  | zero =>
    intro c hl h
    exact absurd (List.length_eq_zero_iff.mp hl) h.1
  | succ n ih =>
    intro c hl h
    obtain ⟨d, y, e⟩ := snoc_cases h.1
    subst e
    rw [List.pairwise_append]
    by_cases hd : d = []
    · subst hd
      exact ⟨.nil, by simp, by intro a ha; cases ha⟩
    · have hln : d.length = n := by
        rw [List.length_append, List.length_singleton] at hl
        omega
      refine ⟨ih d hln (chain_pre (d := [y]) h hd), by simp, ?_⟩
      intro a ha b hb
      have eb : b = y := by simpa using hb
      have q := chain_lt_last hP _ (d ++ [y]) rfl h a (by rw [List.dropLast_concat]; exact ha)
      rw [lastN_snoc] at q
      rw [eb]
      exact q

theorem nodup_le : ∀ (n : Nat) (l : List Nat), l.Nodup → (∀ x, x ∈ l → x < n) → l.length ≤ n
  | 0, l, _, h => by
    cases l with
    | nil => exact Nat.le_refl _
    | cons a r => exact absurd (h a List.mem_cons_self) (Nat.not_lt_zero _)
  | n + 1, l, hn, h => by
    have q := nodup_le n (l.erase n) (hn.erase n) (fun x hx => by
      have q := (hn.mem_erase_iff).mp hx
      have := h x q.2
      have := q.1
      omega)
    rw [List.length_erase] at q
    split at q <;> omega
theorem asc_nodup {l : List Nat} (h : l.Pairwise (· < ·)) : l.Nodup := h.imp (fun hab => Nat.ne_of_lt hab)
theorem asc_le {n : Nat} {l : List Nat} (h : l.Pairwise (· < ·)) (hb : ∀ x, x ∈ l → x < n) : l.length ≤ n := nodup_le n l (asc_nodup h) hb
theorem chain_len {P : List (List Nat)} (hP : IsPlan P) {c : List Nat} (h : Chain P c) : c.length ≤ P.length := asc_le (chain_asc hP _ c rfl h) h.2.1
theorem seen_len {P : List (List Nat)} (hP : IsPlan P) {i : Nat} (h : i < P.length) : (seen P i).length ≤ i := asc_le (hP.asc i h) (hP.lt i · h)

/-! ### all chains -/
def down (n : Nat) : List Nat := (List.range n).map fun k => n - 1 - k
def kids (P : List (List Nat)) (x : Nat) : List Nat := (down P.length).filter fun it => (seen P it).contains x
theorem mem_down {n x : Nat} : x ∈ down n ↔ x < n := by
  unfold down
  rw [List.mem_map]
  constructor
  · rintro ⟨k, hk, rfl⟩
    have := List.mem_range.mp hk
    omega
  · intro h
    exact ⟨n - 1 - x, List.mem_range.mpr (by omega), by omega⟩
theorem down_nodup (n : Nat) : (down n).Nodup := by
  unfold down
  refine List.Pairwise.map _ ?_ ((List.pairwise_lt_range (n := n)).and List.pairwise_lt_range |>.imp_of_mem ?_) (R := fun a b => a < b ∧ b < n)
  · intro a b h
    omega
  · intro a b ha hb h
    exact ⟨h.1, List.mem_range.mp hb⟩
theorem mem_kids {P : List (List Nat)} {x y : Nat} : y ∈ kids P x ↔ y < P.length ∧ x ∈ seen P y := by
  unfold kids
  rw [List.mem_filter, mem_down, List.contains_iff_mem]
theorem kids_nodup (P : List (List Nat)) (x : Nat) : (kids P x).Nodup := (down_nodup _).filter _
theorem kids_len (P : List (List Nat)) (x : Nat) : (kids P x).length ≤ P.length := by
  refine Nat.le_trans (List.length_filter_le _ _) ?_
  unfold down
  rw [List.length_map, List.length_range]
  exact Nat.le_refl _

theorem flat_congr {α β : Type} {f g : α → List β} : ∀ {l : List α}, (∀ x, x ∈ l → f x = g x) → l.flatMap f = l.flatMap g
  | [], _ => rfl
  | x :: l, h => by
    rw [List.flatMap_cons, List.flatMap_cons, h x List.mem_cons_self, flat_congr fun y hy => h y (List.mem_cons_of_mem _ hy)]

def fromF (P : List (List Nat)) : Nat → List Nat → List (List Nat)
  | 0, line => [line]
  | k + 1, line => line :: (kids P (lastN line)).flatMap fun it => fromF P k (line ++ [it])
theorem fromF_more {P : List (List Nat)} (hP : IsPlan P) : ∀ (k : Nat) (line : List Nat), P.length ≤ lastN line + 1 + k → fromF P (k + 1) line = fromF P k line
  | 0, line, h => by
    have e : kids P (lastN line) = [] := by
      cases q : kids P (lastN line) with
      | nil => rfl
      | cons y r =>
        have hy : y ∈ kids P (lastN line) := by rw [q]; exact List.mem_cons_self
        obtain ⟨h1, h2⟩ := mem_kids.mp hy
        have := hP.lt y _ h1 h2
        omega
    unfold fromF
    rw [e]
    rfl
  | k + 1, line, h => by
    show line :: (kids P (lastN line)).flatMap (fun it => fromF P (k + 1) (line ++ [it])) = line :: (kids P (lastN line)).flatMap (fun it => fromF P k (line ++ [it]))
    rw [flat_congr fun it hit => ?_]
    obtain ⟨h1, h2⟩ := mem_kids.mp hit
    have := hP.lt it _ h1 h2
    exact fromF_more hP k (line ++ [it]) (by rw [lastN_snoc]; omega)
def frm (P : List (List Nat)) (line : List Nat) : List (List Nat) := fromF P P.length line
theorem frm_eq {P : List (List Nat)} (hP : IsPlan P) (line : List Nat) : frm P line = line :: (kids P (lastN line)).flatMap fun it => frm P (line ++ [it]) := by
  unfold frm
  have e := fromF_more hP P.length line (by omega)
  rw [← e]
  rfl
def allCh (P : List (List Nat)) : List (List Nat) := (down P.length).flatMap fun i => frm P [i]

theorem fromF_sound {P : List (List Nat)} : ∀ (k : Nat) (line : List Nat), Chain P line → ∀ c, c ∈ fromF P k line → Chain P c
  | 0, line, h, c, hc => by
    have e : c = line := by simpa [fromF] using hc
    rw [e]; exact h
  | k + 1, line, h, c, hc => by
    have hc' : c ∈ line :: (kids P (lastN line)).flatMap (fun it => fromF P k (line ++ [it])) := hc
    rcases List.mem_cons.mp hc' with e | hc'
    · rw [e]; exact h
    · obtain ⟨it, hit, hc2⟩ := List.mem_flatMap.mp hc'
      obtain ⟨h1, h2⟩ := mem_kids.mp hit
      exact fromF_sound k _ (chain_snoc h h2 h1) c hc2
theorem frm_complete {P : List (List Nat)} (hP : IsPlan P) : ∀ (e line : List Nat), line ≠ [] → Chain P (line ++ e) → line ++ e ∈ frm P line
  | [], line, _, _ => by
    rw [List.append_nil, frm_eq hP]
    exact List.mem_cons_self
  | x :: e, line, hl, h => by
    obtain ⟨h1, h2⟩ := chain_last_mid h hl
    have e1 : line ++ x :: e = (line ++ [x]) ++ e := by simp
    rw [e1] at h ⊢
    have q := frm_complete hP e (line ++ [x]) (by simp) h
    rw [frm_eq hP line]
    exact List.mem_cons_of_mem _ (List.mem_flatMap.mpr ⟨x, mem_kids.mpr ⟨h2, h1⟩, q⟩)
theorem mem_allCh {P : List (List Nat)} (hP : IsPlan P) {c : List Nat} : c ∈ allCh P ↔ Chain P c := by
  unfold allCh
  rw [List.mem_flatMap]
  constructor
  · rintro ⟨i, hi, hc⟩
    exact fromF_sound _ _ (chain_one (mem_down.mp hi)) c hc
  · intro h
    cases c with
    | nil => exact absurd rfl h.1
    | cons x r =>
      refine ⟨x, mem_down.mpr (h.2.1 x List.mem_cons_self), ?_⟩
      exact frm_complete hP r [x] (by simp) h
theorem fromF_prefix {P : List (List Nat)} : ∀ (k : Nat) (line c : List Nat), c ∈ fromF P k line → line <+: c
  | 0, line, c, hc => by
    have e : c = line := by simpa [fromF] using hc
    rw [e]; exact List.prefix_refl _
  | k + 1, line, c, hc => by
    have hc' : c ∈ line :: (kids P (lastN line)).flatMap (fun it => fromF P k (line ++ [it])) := hc
    rcases List.mem_cons.mp hc' with e | hc'
    · rw [e]; exact List.prefix_refl _
    · obtain ⟨it, hit, hc2⟩ := List.mem_flatMap.mp hc'
      exact List.IsPrefix.trans (List.prefix_append _ _) (fromF_prefix k _ c hc2)
theorem prefix_one {line c : List Nat} {a b : Nat} (h1 : line ++ [a] <+: c) (h2 : line ++ [b] <+: c) : a = b := by
  obtain ⟨t, e1⟩ := h1
  obtain ⟨u, e2⟩ := h2
  rw [← e1, List.append_assoc, List.append_assoc] at e2
  have q := List.append_cancel_left e2
  injection q with q1 _
  exact q1.symm
theorem fromF_nodup {P : List (List Nat)} : ∀ (k : Nat) (line : List Nat), (fromF P k line).Nodup
  | 0, line => by simp [fromF]
  | k + 1, line => by
    show (line :: (kids P (lastN line)).flatMap (fun it => fromF P k (line ++ [it]))).Nodup
    rw [List.nodup_cons]
    constructor
    · intro hm
      obtain ⟨it, _, hc⟩ := List.mem_flatMap.mp hm
      have := (fromF_prefix k _ _ hc).length_le
      rw [List.length_append, List.length_singleton] at this
      omega
    · show List.Pairwise _ _
      rw [List.pairwise_flatMap]
      refine ⟨fun it _ => fromF_nodup k _, ?_⟩
      refine (kids_nodup P (lastN line)).imp ?_
      intro a b hab x hx y hy e
      subst e
      exact hab (prefix_one (fromF_prefix k _ _ hx) (fromF_prefix k _ _ hy))
theorem allCh_nodup (P : List (List Nat)) : (allCh P).Nodup := by
  show List.Pairwise _ _
  unfold allCh
  rw [List.pairwise_flatMap]
  refine ⟨fun i _ => fromF_nodup _ _, ?_⟩
  refine (down_nodup P.length).imp ?_
  intro a b hab x hx y hy e
  subst e
  exact hab (prefix_one (line := []) (fromF_prefix _ _ _ hx) (fromF_prefix _ _ _ hy))
theorem flat_len {α β : Type} (f : α → List β) (b : Nat) : ∀ l : List α, (∀ x, x ∈ l → (f x).length ≤ b) → (l.flatMap f).length ≤ l.length * b
  | [], _ => by simp
  | x :: l, h => by
    rw [List.flatMap_cons, List.length_append, List.length_cons, Nat.succ_mul]
    have h1 := h x List.mem_cons_self
    have h2 := flat_len f b l fun y hy => h y (List.mem_cons_of_mem _ hy)
    omega
def fromB : Nat → Nat
  | 0 => 1
  | k + 1 => 1 + 6 * fromB k
theorem fromF_len {P : List (List Nat)} (h6 : P.length ≤ 6) : ∀ (k : Nat) (line : List Nat), (fromF P k line).length ≤ fromB k
  | 0, line => by simp [fromF, fromB]
  | k + 1, line => by
    show ((kids P (lastN line)).flatMap (fun it => fromF P k (line ++ [it]))).length + 1 ≤ 1 + 6 * fromB k
    have q := flat_len (fun it => fromF P k (line ++ [it])) (fromB k) (kids P (lastN line)) fun it _ => fromF_len h6 k _
    have q2 := kids_len P (lastN line)
    have q3 : (kids P (lastN line)).length * fromB k ≤ 6 * fromB k := Nat.mul_le_mul_right _ (by omega)
    omega
theorem fromB_mono : ∀ {a b : Nat}, a ≤ b → fromB a ≤ fromB b := by
  intro a b h
  induction h with
  | refl => exact Nat.le_refl _
  | step _ ih =>
    refine Nat.le_trans ih ?_
    show _ ≤ 1 + 6 * _
    omega
theorem frm_len {P : List (List Nat)} (h6 : P.length ≤ 6) (line : List Nat) : (frm P line).length ≤ 60000 := by
  have h := fromF_len h6 P.length line
  have h2 := fromB_mono h6
  have h3 : fromB 6 = 55987 := by decide
  unfold frm
  omega
theorem allCh_len {P : List (List Nat)} (h6 : P.length ≤ 6) : (allCh P).length ≤ 360000 := by
  unfold allCh
  have q := flat_len (fun i => frm P [i]) 60000 (down P.length) fun it _ => frm_len h6 _
  have q2 : (down P.length).length = P.length := by unfold down; rw [List.length_map, List.length_range]
  rw [q2] at q
  have q3 : P.length * 60000 ≤ 6 * 60000 := Nat.mul_le_mul_right _ h6
  omega

end Pb

/-! PbRuns: runs, plain names, wished names, in plain Lean. -/
namespace Pb

/-! ### runs -/
def runStep (f : List (List Nat)) (row : List Nat) : List (List Nat) := f.flatMap fun r => (List.range (row.length + 1)).map fun g => r ++ [g]
def runsOf (P : List (List Nat)) : List (List Nat) := P.foldl runStep [[]]
def IsRun (P : List (List Nat)) (r : List Nat) : Prop := r.length = P.length ∧ ∀ (i g : Nat), r[i]? = some g → g ≤ (seen P i).length
theorem mem_runStep {f : List (List Nat)} {row : List Nat} {r : List Nat} : r ∈ runStep f row ↔ ∃ q g, q ∈ f ∧ g ≤ row.length ∧ r = q ++ [g] := by
  unfold runStep
  rw [List.mem_flatMap]
  constructor
  · rintro ⟨q, hq, hr⟩
    obtain ⟨g, hg, rfl⟩ := List.mem_map.mp hr
    exact ⟨q, g, hq, by have := List.mem_range.mp hg; omega, rfl⟩
  · rintro ⟨q, g, hq, hg, rfl⟩
    exact ⟨q, hq, List.mem_map.mpr ⟨g, List.mem_range.mpr (by omega), rfl⟩⟩
theorem seen_app_left {P : List (List Nat)} {row : List Nat} {i : Nat} (h : i < P.length) : seen (P ++ [row]) i = seen P i := by
  unfold seen
  rw [List.getD_eq_getElem?_getD, List.getD_eq_getElem?_getD, List.getElem?_append_left h]
theorem seen_app_last {P : List (List Nat)} {row : List Nat} : seen (P ++ [row]) P.length = row := by
  unfold seen
  rw [List.getD_eq_getElem?_getD]
  simp
theorem isRun_snoc {P : List (List Nat)} {row q : List Nat} {g : Nat} (h : IsRun P q) (hg : g ≤ row.length) : IsRun (P ++ [row]) (q ++ [g]) := by
  obtain ⟨h1, h2⟩ := h
  refine ⟨by simp [h1], ?_⟩
  intro i g' hi
  by_cases hlt : i < P.length
  · rw [List.getElem?_append_left (by omega)] at hi
    rw [seen_app_left hlt]
    exact h2 i g' hi
  · by_cases he : i = P.length
    · subst he
      rw [seen_app_last]
      rw [← h1] at hi
      have e : g = g' := by simpa using hi
      omega
    · rw [List.getElem?_eq_none (by simp; omega)] at hi
      cases hi
theorem isRun_unsnoc {P : List (List Nat)} {row q : List Nat} {g : Nat} (h : IsRun (P ++ [row]) (q ++ [g])) : IsRun P q ∧ g ≤ row.length := by
  obtain ⟨h1, h2⟩ := h
  have hl : q.length = P.length := by simpa using h1
  refine ⟨⟨hl, fun i g' hi => ?_⟩, ?_⟩
  · have hlt : i < q.length := by
      rcases Nat.lt_or_ge i q.length with z | z
      · exact z
      · rw [List.getElem?_eq_none z] at hi
        cases hi
    have q2 := h2 i g' (by rw [List.getElem?_append_left hlt]; exact hi)
    rw [seen_app_left (by omega)] at q2
    exact q2
  · have q2 := h2 P.length g (by rw [← hl]; simp)
    rw [seen_app_last] at q2
    exact q2
theorem runsOf_snoc (P : List (List Nat)) (row : List Nat) : runsOf (P ++ [row]) = runStep (runsOf P) row := by
  unfold runsOf
  rw [List.foldl_append]
  rfl
theorem list_snoc_ind {α : Type} {p : List α → Prop} (h0 : p []) (hs : ∀ l a, p l → p (l ++ [a])) (l : List α) : p l := by
  have q : ∀ (n : Nat) (l : List α), l.length = n → p l := by
    intro n
    induction n with
    | zero =>
      intro l hl
      rw [List.length_eq_zero_iff.mp hl]
      exact h0
    | succ n ih =>
      intro l hl
      have hne : l ≠ [] := by
        intro z
        rw [z] at hl
        cases hl
      rw [← List.dropLast_concat_getLast hne]
      exact hs _ _ (ih _ (by rw [List.length_dropLast]; omega))
  exact q _ l rfl
theorem mem_runsOf (P : List (List Nat)) : ∀ r, r ∈ runsOf P ↔ IsRun P r := by
  refine list_snoc_ind (p := fun P => ∀ r, r ∈ runsOf P ↔ IsRun P r) ?_ ?_ P
  · intro r
    show r ∈ [[]] ↔ _
    constructor
    · intro h
      have e : r = [] := by simpa using h
      subst e
      exact ⟨rfl, fun i g hi => by simp at hi⟩
    · intro h
      have e : r = [] := List.length_eq_zero_iff.mp h.1
      simp [e]
  · intro P row ih r
    rw [runsOf_snoc, mem_runStep]
    constructor
    · rintro ⟨q, g, hq, hg, rfl⟩
      exact isRun_snoc ((ih q).mp hq) hg
    · intro h
      have hne : r ≠ [] := by
        intro z
        have := h.1
        rw [z] at this
        simp at this
      rw [← List.dropLast_concat_getLast hne] at h ⊢
      have q := isRun_unsnoc h
      exact ⟨_, _, (ih _).mpr q.1, q.2, rfl⟩
def runB : Nat → Nat
  | 0 => 1
  | n + 1 => runB n * 6
theorem runStep_len {f : List (List Nat)} {row : List Nat} (h : row.length + 1 ≤ 6) : (runStep f row).length ≤ f.length * 6 := by
  unfold runStep
  refine flat_len _ 6 f fun r _ => ?_
  rw [List.length_map, List.length_range]
  exact h
theorem runsOf_len (P : List (List Nat)) : (∀ row, row ∈ P → row.length ≤ 5) → (runsOf P).length ≤ runB P.length := by
  refine list_snoc_ind (p := fun P => (∀ row, row ∈ P → row.length ≤ 5) → (runsOf P).length ≤ runB P.length) ?_ ?_ P
  · intro _
    exact Nat.le_refl _
  · intro P row ih h
    rw [runsOf_snoc, List.length_append, List.length_singleton]
    have h1 := ih fun r hr => h r (List.mem_append_left _ hr)
    have h2 := runStep_len (f := runsOf P) (row := row) (by have := h row (by simp); omega)
    show _ ≤ runB P.length * 6
    omega
theorem runB_mono : ∀ {a b : Nat}, a ≤ b → runB a ≤ runB b := by
  intro a b h
  induction h with
  | refl => exact Nat.le_refl _
  | step _ ih =>
    refine Nat.le_trans ih ?_
    show _ ≤ _ * 6
    omega

/-! ### names -/
def key (c : List Nat) : List Int := c.map fun n => -((n : Nat) : Int)
theorem key_inj : ∀ {a b : List Nat}, key a = key b → a = b
  | [], [], _ => rfl
  | [], _ :: _, h => by cases h
  | _ :: _, [], h => by cases h
  | x :: a, y :: b, h => by
    have h' : (-((x : Nat) : Int)) :: key a = (-((y : Nat) : Int)) :: key b := h
    injection h' with h1 h2
    rw [key_inj h2]
    congr 1
    omega
theorem key_append (a b : List Nat) : key (a ++ b) = key a ++ key b := List.map_append
structure NamesOf (P : List (List Nat)) (run : List Nat) (ns : List (List Nat)) : Prop where
  len : ns.length = P.length
  nm : ∀ i, i < P.length → (run.getD i 0 = 0 ∧ ns.getD i [] = [i]) ∨ (0 < run.getD i 0 ∧ ∃ o : List Nat, o.Perm (seen P i) ∧ o.Pairwise (fun a b => key (ns.getD a []) ≤ key (ns.getD b [])) ∧
    ns.getD i [] = ns.getD (o.getD (run.getD i 0 - 1) 0) [] ++ [i])

theorem isRun_getD {P : List (List Nat)} {run : List Nat} (h : IsRun P run) {i : Nat} (hi : i < P.length) : run.getD i 0 ≤ (seen P i).length := by
  obtain ⟨h1, h2⟩ := h
  have e : run[i]? = some (run.getD i 0) := by
    rw [List.getD_eq_getElem?_getD, List.getElem?_eq_getElem (by omega)]
    rfl
  exact h2 i _ e
theorem getD_mem {l : List Nat} {k : Nat} (h : k < l.length) : l.getD k 0 ∈ l := by
  rw [List.getD_eq_getElem?_getD, List.getElem?_eq_getElem h]
  exact List.getElem_mem h
/-- every plain name is a chain that ends with its item -/
theorem names_sound {P : List (List Nat)} (hP : IsPlan P) {run : List Nat} (hr : IsRun P run) {ns : List (List Nat)} (h : NamesOf P run ns) : ∀ (n i : Nat), i < n → i < P.length → Chain P (ns.getD i []) ∧ lastN (ns.getD i []) = i := by
  intro n
  induction n with
  | zero => intro i h; omega
  | succ n ih =>
    intro i _ hi
    rcases h.nm i hi with ⟨_, e⟩ | ⟨hpos, o, hperm, _, e⟩
    · rw [e]
      exact ⟨chain_one hi, lastN_snoc [] i⟩
    · have hk : run.getD i 0 - 1 < o.length := by
        rw [hperm.length_eq]
        have := isRun_getD hr hi
        omega
      have hm : o.getD (run.getD i 0 - 1) 0 ∈ seen P i := hperm.mem_iff.mp (getD_mem hk)
      have hlt := hP.lt i _ hi hm
      obtain ⟨q1, q2⟩ := ih (o.getD (run.getD i 0 - 1) 0) (by omega) (by omega)
      rw [e]
      exact ⟨chain_snoc q1 (by rw [q2]; exact hm) hi, lastN_snoc _ _⟩

/-! ### the run that gives wished names -/
def below (known : Nat → List Nat) (K : List Int) (l : List Nat) : List Nat := l.filter fun j => decide (key (known j) < K)
def runFor (P : List (List Nat)) (known : Nat → List Nat) : List Nat := (List.range P.length).map fun i => (below known (key (known i)) (seen P i)).length
theorem runFor_getD {P : List (List Nat)} {known : Nat → List Nat} {i : Nat} (hi : i < P.length) : (runFor P known).getD i 0 = (below known (key (known i)) (seen P i)).length := by
  unfold runFor
  rw [List.getD_eq_getElem?_getD, List.getElem?_map, List.getElem?_range hi]
  rfl
theorem runFor_isRun (P : List (List Nat)) (known : Nat → List Nat) : IsRun P (runFor P known) := by
  refine ⟨by unfold runFor; rw [List.length_map, List.length_range], ?_⟩
  intro i g hi
  unfold runFor at hi
  rw [List.getElem?_map] at hi
  by_cases h : i < P.length
  · rw [List.getElem?_range h] at hi
    have e : (below known (key (known i)) (seen P i)).length = g := by simpa using hi
    rw [← e]
    exact List.length_filter_le _ _
  · rw [List.getElem?_eq_none (by rw [List.length_range]; omega)] at hi
    cases hi

/-- what is less than c with i behind it, of names all of whose items are less than i, is not beyond c -/
theorem key_gap : ∀ (c d : List Nat) (i : Nat), (∀ x, x ∈ d → x < i) → key d < key (c ++ [i]) → key d ≤ key c
  | [], [], _, _, _ => List.le_refl _
  | [], x :: d, i, hd, h => by
    exfalso
    have hx := hd x List.mem_cons_self
    have h' : ((-((x : Nat) : Int)) :: key d) < [(-((i : Nat) : Int))] := h
    rw [List.cons_lt_cons_iff] at h'
    rcases h' with h' | ⟨h', _⟩
    · omega
    · omega
  | a :: c, [], _, _, _ => by
    show ([] : List Int) ≤ _
    exact List.nil_le _
  | a :: c, x :: d, i, hd, h => by
    have h' : ((-((x : Nat) : Int)) :: key d) < ((-((a : Nat) : Int)) :: key (c ++ [i])) := h
    rw [List.cons_lt_cons_iff] at h'
    show ((-((x : Nat) : Int)) :: key d) ≤ ((-((a : Nat) : Int)) :: key c)
    rw [List.cons_le_cons_iff]
    rcases h' with h' | ⟨h', h2⟩
    · exact .inl h'
    · exact .inr ⟨h', key_gap c d i (fun y hy => hd y (List.mem_cons_of_mem _ hy)) h2⟩
theorem key_lt_snoc : ∀ (c : List Nat) (i : Nat), key c < key (c ++ [i])
  | [], i => by
    show ([] : List Int) < [_]
    exact List.nil_lt_cons _ _
  | a :: c, i => by
    show ((-((a : Nat) : Int)) :: key c) < ((-((a : Nat) : Int)) :: key (c ++ [i]))
    rw [List.cons_lt_cons_iff]
    exact .inr ⟨rfl, key_lt_snoc c i⟩

/-- in a sorted row what is less than a bound stands in front -/
theorem front {o : List Nat} {k : Nat → List Int} {K : List Int} (h : o.Pairwise fun a b => k a ≤ k b) : ∀ t, t < o.length → (k (o.getD t 0) < K ↔ t < (o.filter fun j => decide (k j < K)).length) := by
  induction o with
  | nil => intro t ht; cases ht
  | cons a o ih =>
    intro t ht
    rw [List.pairwise_cons] at h
    by_cases ha : k a < K
    · rw [List.filter_cons_of_pos (by simpa using ha), List.length_cons]
      cases t with
      | zero => simp [ha]
      | succ t =>
        have q := ih h.2 t (by simpa using ht)
        rw [List.getD_cons_succ, q]
        omega
    · have e : (o.filter fun j => decide (k j < K)) = [] := by
        rw [List.filter_eq_nil_iff]
        intro b hb hlt
        have hlt' : k b < K := by simpa using hlt
        have hle := h.1 b hb
        rcases Decidable.em (k a < k b) with z | z
        · exact ha (List.lt_trans z hlt')
        · have e2 : k a = k b := List.le_antisymm hle (List.not_lt.mp z)
          rw [e2] at ha
          exact ha hlt'
      rw [List.filter_cons_of_neg (by simpa using ha), e]
      simp only [List.length_nil, Nat.not_lt_zero, iff_false]
      cases t with
      | zero => simpa using ha
      | succ t =>
        rw [List.getD_cons_succ]
        intro hlt
        have hm : o.getD t 0 ∈ o := getD_mem (by simpa using ht)
        have hc : o.getD t 0 ∈ (o.filter fun j => decide (k j < K)) := List.mem_filter.mpr ⟨hm, by simpa using hlt⟩
        rw [e] at hc
        cases hc

structure Wished (P : List (List Nat)) (known : Nat → List Nat) : Prop where
  ch : ∀ i, i < P.length → Chain P (known i)
  last : ∀ i, i < P.length → lastN (known i) = i
  pre : ∀ i c j, i < P.length → known i = c ++ [j] ++ [i] → known j = c ++ [j]

theorem names_wished {P : List (List Nat)} (hP : IsPlan P) {known : Nat → List Nat} (hW : Wished P known) {ns : List (List Nat)} (h : NamesOf P (runFor P known) ns) : ∀ (n i : Nat), i < n → i < P.length → ns.getD i [] = known i := by
  intro n
  induction n with
  | zero => intro i h; omega
  | succ n ih =>
    intro i hin hi
    have hch := hW.ch i hi
    have hla := hW.last i hi
    have hseen : ∀ j, j ∈ seen P i → j < i ∧ j < P.length ∧ ns.getD j [] = known j := fun j hj => by
      have h1 := hP.lt i j hi hj
      exact ⟨h1, by omega, ih j (by omega) (by omega)⟩
    have hsmall : ∀ j, j ∈ seen P i → ∀ x, x ∈ known j → x < i := fun j hj x hx => by
      obtain ⟨h1, h2, _⟩ := hseen j hj
      have := chain_le_last hP (hW.ch j h2) hx
      rw [hW.last j h2] at this
      omega
    have ekn : known i = (known i).dropLast ++ [i] := by
      have e := snoc_last hch.1
      rw [hla] at e
      exact e
    by_cases hd : (known i).dropLast = []
    · -- the item alone
      rw [hd] at ekn
      have e0 : (runFor P known).getD i 0 = 0 := by
        rw [runFor_getD hi, List.length_eq_zero_iff]
        unfold below
        rw [List.filter_eq_nil_iff]
        intro j hj hlt
        have hlt' : key (known j) < key ([] ++ [i]) := by
          rw [ekn] at hlt
          simpa using hlt
        have q := key_gap [] (known j) i (hsmall j hj) hlt'
        have hne := (hW.ch j (hseen j hj).2.1).1
        cases e : known j with
        | nil => exact hne e
        | cons a r =>
          rw [e] at q
          have q' : ((-((a : Nat) : Int)) :: key r) ≤ ([] : List Int) := q
          have z := List.le_nil.mp q'
          cases z
      rcases h.nm i hi with ⟨_, e⟩ | ⟨hpos, _⟩
      · rw [e, ekn]
        rfl
      · omega
    · obtain ⟨c, j0, e1⟩ := snoc_cases hd
      rw [e1] at ekn
      have hk0 := hW.pre i c j0 hi ekn
      have hj0 : j0 ∈ seen P i := by
        have q := hch
        rw [ekn] at q
        have := (chain_last_mid (r := []) q (by simp)).1
        rw [lastN_snoc] at this
        exact this
      obtain ⟨hj0i, hj0P, hn0⟩ := hseen j0 hj0
      have hlt0 : key (known j0) < key (known i) := by
        rw [ekn, hk0]
        exact key_lt_snoc _ _
      have hcnt : 0 < (runFor P known).getD i 0 := by
        rw [runFor_getD hi]
        refine List.length_pos_of_mem (a := j0) ?_
        unfold below
        exact List.mem_filter.mpr ⟨hj0, by simpa using hlt0⟩
      rcases h.nm i hi with ⟨e, _⟩ | ⟨_, o, hperm, hsort, e⟩
      · omega
      · have hsort' : o.Pairwise fun a b => key (known a) ≤ key (known b) := by
          refine List.Pairwise.imp_of_mem ?_ hsort
          intro a b ha hb hab
          have qa := (hseen a (hperm.mem_iff.mp ha)).2.2
          have qb := (hseen b (hperm.mem_iff.mp hb)).2.2
          rw [qa, qb] at hab
          exact hab
        have hfl : (o.filter fun j => decide (key (known j) < key (known i))).length = (runFor P known).getD i 0 := by
          rw [runFor_getD hi]
          exact (hperm.filter _).length_eq
        have hfr := front (K := key (known i)) hsort'
        generalize hcv : (runFor P known).getD i 0 = cnt at hcnt hfl e
        have hcl : cnt ≤ o.length := by
          rw [← hfl]
          exact List.length_filter_le _ _
        have hm : o.getD (cnt - 1) 0 ∈ seen P i := hperm.mem_iff.mp (getD_mem (by omega))
        have hle1 : key (known (o.getD (cnt - 1) 0)) ≤ key (c ++ [j0]) := by
          refine key_gap (c ++ [j0]) _ i (hsmall _ hm) ?_
          rw [← ekn]
          exact (hfr (cnt - 1) (by omega)).mpr (by omega)
        have hle2 : key (c ++ [j0]) ≤ key (known (o.getD (cnt - 1) 0)) := by
          obtain ⟨t, ht, et⟩ := List.getElem_of_mem (hperm.mem_iff.mpr hj0)
          have etd : o.getD t 0 = j0 := by
            rw [List.getD_eq_getElem?_getD, List.getElem?_eq_getElem ht]
            exact et
          have htc : t < cnt := by
            rw [← hfl]
            refine (hfr t ht).mp ?_
            rw [etd]
            exact hlt0
          rw [← hk0, ← etd]
          rcases Nat.lt_or_ge t (cnt - 1) with z | z
          · have q := List.pairwise_iff_getElem.mp hsort' t (cnt - 1) ht (by omega) z
            rw [List.getD_eq_getElem?_getD, List.getD_eq_getElem?_getD, List.getElem?_eq_getElem ht, List.getElem?_eq_getElem (show cnt - 1 < o.length by omega)]
            exact q
          · have ez : t = cnt - 1 := by omega
            rw [ez]
            exact List.le_refl _
        have hkk : known (o.getD (cnt - 1) 0) = c ++ [j0] := key_inj (List.le_antisymm hle1 hle2)
        rw [e, (hseen _ hm).2.2, hkk, ekn]

/-! ### wishes -/
def starts (row : List (List Nat)) : List (List Nat) := row.flatMap fun c => (List.range c.length).map fun k => c.take (k + 1)
abbrev Mp := Nat → Option (List Nat)
def put1 (m : Mp) (s : List Nat) : Mp := fun i => if i = lastN s then some s else m i
def wishF : List (List Nat) → Mp → Option Mp
  | [], m => some m
  | s :: r, m => if (m (lastN s)).getD s = s then wishF r (put1 m s) else none
def wish (row : List (List Nat)) : Option Mp := wishF (starts row) fun _ => none
theorem wishF_append : ∀ (a b : List (List Nat)) (m : Mp), wishF (a ++ b) m = (wishF a m).bind (wishF b)
  | [], _, _ => rfl
  | s :: a, b, m => by
    show (if _ then wishF (a ++ b) (put1 m s) else none) = (if _ then wishF a (put1 m s) else none).bind (wishF b)
    split
    · exact wishF_append a b _
    · rfl
theorem wishF_spec : ∀ (l : List (List Nat)) (m m' : Mp), wishF l m = some m' →
    ((∀ (i : Nat) (s : List Nat), m i = some s → m' i = some s) ∧ (∀ s : List Nat, s ∈ l → m' (lastN s) = some s) ∧ (∀ (i : Nat) (s : List Nat), m' i = some s → m i = some s ∨ (s ∈ l ∧ i = lastN s)))
  | [], m, m', h => by
    have e : m = m' := Option.some.inj h
    subst e
    exact ⟨fun _ _ q => q, fun s hs => absurd hs (by simp), fun _ _ q => Or.inl q⟩
  | s :: l, m, m', h => by
    have h' : (if (m (lastN s)).getD s = s then wishF l (put1 m s) else none) = some m' := h
    split at h'
    · rename_i hg
      obtain ⟨q1, q2, q3⟩ := wishF_spec l _ _ h'
      have hput : put1 m s (lastN s) = some s := if_pos rfl
      refine ⟨fun i t ht => q1 i t ?_, fun t ht => ?_, fun i t ht => ?_⟩
      · unfold put1
        split
        · rename_i e
          subst e
          rw [ht] at hg
          have e2 : t = s := hg
          rw [e2]
        · exact ht
      · rcases List.mem_cons.mp ht with e | ht
        · rw [e]
          exact q1 _ _ hput
        · exact q2 t ht
      · rcases q3 i t ht with z | z
        · unfold put1 at z
          split at z
          · rename_i e
            have e2 : s = t := Option.some.inj z
            exact .inr ⟨by rw [e2]; exact List.mem_cons_self, by rw [e, e2]⟩
          · exact .inl z
        · exact .inr ⟨List.mem_cons_of_mem _ z.1, z.2⟩
    · cases h'
theorem mem_starts {row : List (List Nat)} {s : List Nat} : s ∈ starts row ↔ ∃ c, c ∈ row ∧ ∃ k, k < c.length ∧ s = c.take (k + 1) := by
  unfold starts
  rw [List.mem_flatMap]
  constructor
  · rintro ⟨c, hc, hs⟩
    obtain ⟨k, hk, rfl⟩ := List.mem_map.mp hs
    exact ⟨c, hc, k, List.mem_range.mp hk, rfl⟩
  · rintro ⟨c, hc, k, hk, rfl⟩
    exact ⟨c, hc, List.mem_map.mpr ⟨k, List.mem_range.mpr hk, rfl⟩⟩
def knownOf (m : Mp) (i : Nat) : List Nat := (m i).getD [i]
theorem wish_wished {P : List (List Nat)} {row : List (List Nat)} (hc : ∀ c, c ∈ row → Chain P c) {m : Mp} (h : wish row = some m) : Wished P (knownOf m) ∧ ∀ c, c ∈ row → knownOf m (lastN c) = c := by
  obtain ⟨_, q2, q3⟩ := wishF_spec _ _ _ h
  have q4 : ∀ i s, m i = some s → s ∈ starts row ∧ i = lastN s := fun i s hs => by
    rcases q3 i s hs with z | z
    · cases z
    · exact z
  have hst : ∀ s, s ∈ starts row → Chain P s := fun s hs => by
    obtain ⟨c, hcr, k, hk, rfl⟩ := mem_starts.mp hs
    exact chain_take (hc c hcr) (by omega)
  have hkn : ∀ i, i < P.length → (m i = none ∧ knownOf m i = [i]) ∨ (∃ s, m i = some s ∧ knownOf m i = s ∧ s ∈ starts row ∧ i = lastN s) := fun i _ => by
    unfold knownOf
    cases e : m i with
    | none => exact .inl ⟨rfl, rfl⟩
    | some s => exact .inr ⟨s, rfl, rfl, q4 i s e⟩
  refine ⟨⟨fun i hi => ?_, fun i hi => ?_, fun i c j hi e => ?_⟩, fun c hcr => ?_⟩
  · rcases hkn i hi with ⟨_, e⟩ | ⟨s, _, e, hs, _⟩
    · rw [e]; exact chain_one hi
    · rw [e]; exact hst s hs
  · rcases hkn i hi with ⟨_, e⟩ | ⟨s, _, e, _, hl⟩
    · rw [e]; exact lastN_snoc [] i
    · rw [e]; exact hl.symm
  · rcases hkn i hi with ⟨_, e2⟩ | ⟨s, _, e2, hs, _⟩
    · rw [e2] at e
      have := congrArg List.length e
      simp at this
    · rw [e2] at e
      obtain ⟨d, hdr, k, hk, es⟩ := mem_starts.mp hs
      have hp : c ++ [j] ∈ starts row := by
        have hl : (c ++ [j]).length = k := by
          have q := congrArg List.length (es.symm.trans e)
          rw [List.length_take, List.length_append, List.length_singleton] at q
          omega
        refine mem_starts.mpr ⟨d, hdr, k - 1, by omega, ?_⟩
        have hk1 : k - 1 + 1 = k := by
          have : 0 < (c ++ [j]).length := by simp
          omega
        rw [hk1]
        have q : (d.take (k + 1)).take k = (c ++ [j] ++ [i]).take k := by rw [es.symm.trans e]
        rw [List.take_take, Nat.min_eq_left (by omega)] at q
        rw [q, ← hl, List.take_left]
      have q := q2 _ hp
      rw [lastN_snoc] at q
      unfold knownOf
      rw [q]
      rfl
  · have hne := (hc c hcr).1
    have hp : 0 < c.length := List.length_pos_iff.mpr hne
    have hs : c ∈ starts row := mem_starts.mpr ⟨c, hcr, c.length - 1, by omega, by rw [Nat.sub_add_cancel hp, List.take_length]⟩
    unfold knownOf
    rw [q2 c hs]
    rfl
theorem wish_one_ok : ∀ (l : List (List Nat)) (m : Mp), (∀ s, s ∈ l → ∀ t, t ∈ l → lastN s = lastN t → s = t) → (∀ s, s ∈ l → ∀ t, m (lastN s) = some t → s = t) → ∃ m', wishF l m = some m'
  | [], m, _, _ => ⟨m, rfl⟩
  | s :: l, m, h, hm => by
    have hg : (m (lastN s)).getD s = s := by
      cases e : m (lastN s) with
      | none => rfl
      | some t => exact (hm s List.mem_cons_self t e).symm
    obtain ⟨m', q⟩ := wish_one_ok l (put1 m s) (fun a ha b hb e => h a (List.mem_cons_of_mem _ ha) b (List.mem_cons_of_mem _ hb) e) (fun a ha t ht => by
      unfold put1 at ht
      split at ht
      · rename_i e
        have e2 : s = t := Option.some.inj ht
        rw [← e2]
        exact h a (List.mem_cons_of_mem _ ha) s List.mem_cons_self e
      · exact hm a (List.mem_cons_of_mem _ ha) t ht)
    exact ⟨m', (if_pos hg).trans q⟩
/-- one chain can be wished -/
theorem wish_one {P : List (List Nat)} (hP : IsPlan P) {c : List Nat} (hc : Chain P c) : ∃ m, wish [c] = some m := by
  refine wish_one_ok _ _ (fun s hs t ht e => ?_) fun s _ t ht => by cases ht
  obtain ⟨d, hd, k, hk, rfl⟩ := mem_starts.mp hs
  obtain ⟨d', hd', k', hk', rfl⟩ := mem_starts.mp ht
  have e1 : d = c := by simpa using hd
  have e2 : d' = c := by simpa using hd'
  subst e1
  subst e2
  have hasc := chain_asc hP _ d' rfl hc
  have hl : ∀ k, k < d'.length → lastN (d'.take (k + 1)) = d'.getD k 0 := fun k hk => by
    rw [List.take_succ_eq_append_getElem hk, lastN_snoc, List.getD_eq_getElem?_getD, List.getElem?_eq_getElem hk]
    rfl
  rw [hl k hk, hl k' hk', List.getD_eq_getElem?_getD, List.getD_eq_getElem?_getD, List.getElem?_eq_getElem hk, List.getElem?_eq_getElem hk'] at e
  have e' : d'[k] = d'[k'] := e
  have ek : k = k' := by
    rcases Nat.lt_trichotomy k k' with z | z | z
    · have := List.pairwise_iff_getElem.mp hasc k k' hk hk' z
      omega
    · exact z
    · have := List.pairwise_iff_getElem.mp hasc k' k hk' hk z
      omega
  rw [ek]
/-- each chain is the plain name of its last item on some run -/
theorem comes {P : List (List Nat)} (hP : IsPlan P) {c : List Nat} (hc : Chain P c) : ∃ r, r ∈ runsOf P ∧ ∀ ns, NamesOf P r ns → ns.getD (lastN c) [] = c := by
  obtain ⟨m, hm⟩ := wish_one hP hc
  obtain ⟨hW, hk⟩ := wish_wished (P := P) (row := [c]) (fun d hd => by
    have e : d = c := by simpa using hd
    rw [e]; exact hc) hm
  refine ⟨runFor P (knownOf m), (mem_runsOf P _).mpr (runFor_isRun P _), fun ns hns => ?_⟩
  have hl : lastN c < P.length := hc.2.1 _ (last_mem hc.1)
  rw [names_wished hP hW hns (lastN c + 1) (lastN c) (by omega) hl, hk c (by simp)]

/-! ### the number of the chains -/
def endStep (acc : List Int) (row : List Nat) : List Int := acc ++ [1 + (row.map fun j => acc.getD j 0).sum]
def endList (P : List (List Nat)) : List Int := P.foldl endStep []
theorem endList_snoc (P : List (List Nat)) (row : List Nat) : endList (P ++ [row]) = endStep (endList P) row := by
  unfold endList
  rw [List.foldl_append]
  rfl
def endB : Nat → Int
  | 0 => 1
  | i + 1 => 1 + (i : Int) * endB i
theorem endB_pos : ∀ n, 1 ≤ endB n
  | 0 => by decide
  | n + 1 => by
    have h := endB_pos n
    show 1 ≤ 1 + (n : Int) * endB n
    have : 0 ≤ (n : Int) * endB n := Int.mul_nonneg (by omega) (by omega)
    omega
theorem endB_le : ∀ n, endB n ≤ endB (n + 1)
  | 0 => by decide
  | n + 1 => by
    show endB (n + 1) ≤ 1 + ((n + 1 : Nat) : Int) * endB (n + 1)
    have h := endB_pos (n + 1)
    have : 1 * endB (n + 1) ≤ ((n + 1 : Nat) : Int) * endB (n + 1) := Int.mul_le_mul_of_nonneg_right (by omega) (by omega)
    omega
theorem sum_le {b : Int} : ∀ l : List Int, (∀ x, x ∈ l → x ≤ b) → l.sum ≤ (l.length : Int) * b
  | [], _ => by simp
  | x :: l, h => by
    rw [List.sum_cons, List.length_cons]
    have h1 := h x List.mem_cons_self
    have h2 := sum_le l fun y hy => h y (List.mem_cons_of_mem _ hy)
    have e : ((l.length + 1 : Nat) : Int) * b = (l.length : Int) * b + b := by
      rw [Int.natCast_add, Int.add_mul]
      simp
    omega
theorem endList_spec (P : List (List Nat)) : (∀ i, i < P.length → (seen P i).length ≤ i) → (endList P).length = P.length ∧ ∀ x, x ∈ endList P → x ≤ endB P.length := by
  refine list_snoc_ind (p := fun P => (∀ i, i < P.length → (seen P i).length ≤ i) → (endList P).length = P.length ∧ ∀ x, x ∈ endList P → x ≤ endB P.length) ?_ ?_ P
  · intro _
    exact ⟨rfl, fun x hx => by cases hx⟩
  · intro P row ih h
    have hrow : row.length ≤ P.length := by
      have q := h P.length (by simp)
      rw [seen_app_last] at q
      exact q
    obtain ⟨h1, h2⟩ := ih fun i hi => by
      have q := h i (by simp; omega)
      rw [seen_app_left hi] at q
      exact q
    rw [endList_snoc]
    unfold endStep
    rw [List.length_append, List.length_singleton, List.length_append, List.length_singleton]
    refine ⟨by omega, fun x hx => ?_⟩
    rcases List.mem_append.mp hx with hx | hx
    · exact Int.le_trans (h2 x hx) (endB_le _)
    · have e : x = 1 + (row.map fun j => (endList P).getD j 0).sum := by simpa using hx
      have q := sum_le (b := endB P.length) (row.map fun j => (endList P).getD j 0) fun y hy => by
        obtain ⟨j, _, rfl⟩ := List.mem_map.mp hy
        rw [List.getD_eq_getElem?_getD]
        cases e : (endList P)[j]? with
        | none =>
          have := endB_pos P.length
          show (0 : Int) ≤ _
          omega
        | some z => exact h2 z (List.mem_of_getElem? e)
      rw [List.length_map] at q
      have q2 : (row.length : Int) * endB P.length ≤ (P.length : Int) * endB P.length := Int.mul_le_mul_of_nonneg_right (by omega) (by have := endB_pos P.length; omega)
      show x ≤ 1 + (P.length : Int) * endB P.length
      omega
theorem endB_mono : ∀ {a b : Nat}, a ≤ b → endB a ≤ endB b := by
  intro a b h
  induction h with
  | refl => exact Int.le_refl _
  | step _ ih => exact Int.le_trans ih (endB_le _)
theorem many_le {P : List (List Nat)} (hP : IsPlan P) (h6 : P.length ≤ 6) : (endList P).sum ≤ 5000 := by
  obtain ⟨h1, h2⟩ := endList_spec P fun i hi => seen_len hP hi
  have q := sum_le (b := 326) (endList P) fun x hx => by
    have a := h2 x hx
    have b := endB_mono h6
    have c : endB 6 = 326 := by decide
    omega
  rw [h1] at q
  omega
end Pb

/-! PbKit: rules that the layer lacks: enumerate of a tuple, sorted of pairs (tuple of ints, int), dict of pairs with tuple keys, an own error made without arguments. -/
namespace PySem
/-! enumerate of a tuple: the two objects that it makes -/
abbrev pbIter (l : Addr) : Obj := { cls := .type "tuple_iterator", data := .fields #[.ref l, .int 0 0] }
abbrev pbEnum (it : Addr) : Obj := { cls := .type "enumerate", data := .fields #[.none, .bool false, .ref it, rawInt 0, .none, .none] }
abbrev pbHeap (h : Heap) (l : Addr) : Heap := (h.push (pbIter l)).push (pbEnum h.objs.size)
theorem pb_enum_new (l : Addr) (xs : Array Value) (n : Nat) (dd : Option Addr) (sl : Array (Option Value)) :
    Meets (Builtin.«enumerate.__new__» ⟨[.type "enumerate", .ref l], []⟩) fun _ R s => s.heap.get? l = some ⟨.type "tuple", dd, .seq xs n, sl⟩ ∧ R (.ok (.ret (.ref (s.heap.push (pbIter l)).objs.size))) { s with heap := pbHeap s.heap l } := by
  refine .of_wp fun prog w A R ⟨hp, g, d, tk, os⟩ ⟨hl, h⟩ => ?_
  have isT : Heap.IsTuple (Shared.heap ⟨hp, g, d, tk, os⟩) l xs := ⟨_, hl, rfl, n, rfl⟩
  have hsub := sub_enumerate
  wp_walk using AutoSeq1.wpAny_loadPart' hl
  refine wpAny_stack_any fun _ => wpAny_pure ?_
  split
  case h_1 c _ _ _ _ _ =>
    generalize (c == Value.type "enumerate") = own
    cases own
    all_goals
      wp_walk using AutoSeq1.wpAny_loadPart' hl, wpAny_pyIter_tuple isT
      exact ⟨_, rfl, h⟩
  all_goals
    wp_walk using AutoSeq1.wpAny_loadPart' hl, wpAny_pyIter_tuple isT
    exact ⟨_, rfl, h⟩
theorem pb_call_enum {prog : Program} {w : World} {A : Around} {E : Value → Shared → Prop} {s : Shared} {l : Addr} {xs : Array Value} {Q : Value → Shared → Prop} (isT : s.heap.IsTuple l xs) (h : Q (.ref (s.heap.objs.size + 1)) { s with heap := pbHeap s.heap l }) :
    wpAny (model prog w) A (call (.type "enumerate") [.ref l]) Q E s := by
  obtain ⟨⟨c, dd, dt, sl⟩, hl, rfl, n, rfl⟩ := isT
  refine callType_new F.called_enumerate (by decide) (F.typeCall_enumerate_1 _) (F.newCall_enumerate_1 _) (F.args_object_init_2 · _) F.entry_enumerate_new (pb_enum_new l xs n dd sl) ⟨hl, ?_⟩
  rw [Heap.size_push]
  exact ⟨⟨pbEnum s.heap.objs.size, by have z := Heap.get?_push_size (s.heap.push (pbIter l)) (o := pbEnum s.heap.objs.size) rfl; rw [Heap.size_push] at z; exact z, rfl⟩, h⟩
end PySem

namespace Pb
open PySem PySem.Spec PyProof.Rows L2

/-! ### enumerate(tuple) -/
/-- a turn gives a pair (i, the item), the pair new -/
def IteT (K : PySem.W.Frag) (a : Addr) : It where
  go i H := ∃ (xs : List V) (x : V), SqT K H a xs ∧ xs[i]? = some x
  yld i H v H' := ∃ T x, v = .ref T ∧ H T = none ∧ H' = upd H T (.tup [.int (i : Nat), x]) ∧ ∀ xs, SqT K H a xs → xs[i]? = some x
  stop i H := ∃ xs : List V, SqT K H a xs ∧ xs.length ≤ i
/-- the enumeration e over the tuple's iterator it, i items given -/
structure EnAt (a e it : Addr) (i : Nat) (h : Heap) : Prop where
  en : ∃ old, IsEnum h e it ((i : Nat) : Int) old
  ti : h.IsTupleIter it a i
  ne : e ≠ it
theorem EnAt.two {a e it : Addr} {i : Nat} {h : Heap} (q : EnAt a e it i h) {c : Addr → Prop} (h1 : c e) (h2 : c it) : ∀ b ∈ [e, it], c b := fun b hb => by
  simp only [List.mem_cons, List.not_mem_nil, or_false] at hb
  rcases hb with rfl | rfl
  · exact h1
  · exact h2
theorem EnAt.lts {a e it : Addr} {i : Nat} {h : Heap} (q : EnAt a e it i h) : e < h.objs.size ∧ it < h.objs.size := by
  obtain ⟨⟨_, he⟩, ⟨_, hi, _⟩, _⟩ := q
  exact ⟨Heap.lt_size he, Heap.lt_size hi⟩
/-- what is no tuple lies elsewhere -/
theorem tup_ne {h : Heap} {a b : Addr} {xs : Array Value} {o : Obj} {c : String} (isT : h.IsTuple a xs) (hb : h.get? b = some o) (hc : o.cls = .type c) (hn : c ≠ "tuple") : a ≠ b := by
  intro z
  subst z
  obtain ⟨o', ho', hc', _⟩ := isT
  rw [hb] at ho'
  cases ho'
  exact hn (by injection hc.symm.trans hc')
theorem turn_enumT {P : Program} {w : World} {K : PySem.W.Frag} {elts : List Expr} {kk : Nat} {tpos : Pos} (a e it : Addr) : Turn P w K (.Tuple elts kk tpos) (IteT K a) [e, it] e (EnAt a e it) where
  mem := List.mem_cons_self
  obj i h q := by
    obtain ⟨⟨_, he⟩, ⟨o, ho, _, hd⟩, _⟩ := id q
    exact q.two ⟨_, he, fun _ z => nomatch z⟩ ⟨o, ho, fun _ z => by rw [hd] at z; cases z⟩
  keep i h h' q k := by
    obtain ⟨⟨old, he⟩, hi, hne⟩ := q
    exact ⟨⟨old, k e List.mem_cons_self _ he⟩, hi.at fun o z => k it (by simp) o z, hne⟩
  self A i s Q E q h := by
    obtain ⟨⟨_, he⟩, _, _⟩ := q
    exact wpAny_pyIter_enum he h
  item := by
    rintro X rfl rfl rfl hc i pins s σ H E I hf q ⟨xs, x, hxs, hx⟩
    obtain ⟨le, li⟩ := q.lts
    obtain ⟨⟨old, he⟩, hi, hne⟩ := q
    obtain ⟨its, rv, isT, _⟩ := I.tuple hxs
    obtain ⟨u, hu, ru⟩ := rv.get hx
    have ui : its.toArray[i]? = some u := by simpa using hu
    have nai : a ≠ it := by
      obtain ⟨o, ho, hco, _⟩ := id hi
      exact tup_ne isT ho hco (by decide)
    have nae : a ≠ e := tup_ne isT (o := { cls := .type "enumerate", data := _ }) he rfl (by decide)
    refine wpAny_pyNext_enum_itemD (Draws.tuple (A := X.A.in1) (I.ok.hd hc) it a nai its.toArray) he ⟨hi, (show s.heap.IsTuple a its.toArray from isT)⟩ (Array.getElem?_eq_some_iff.mp ui).1 hne (by simp [hne, nae.symm]) fun y h1 tk hy ho q1 hT _ hk => ?_
    have yu : y = u := Option.some.inj ((show its.toArray[i]? = some y from hy).symm.trans ui)
    subst yu
    refine ⟨_, rfl, wpAny_letOwnedTupleGo_enum (s := { s with heap := h1, toks := tk + 1 }) ho fun h2 he2 sb => ?_⟩
    -- the pair is new, and lies as it was made
    have pair : ObjOk X.prog X.w (upd H s.heap.objs.size (.tup [.int (i : Nat), x])) h2 s.heap.objs.size (.tup [.int (i : Nat), x]) := by
      refine ⟨(by show 2 ≤ sizeLine; decide), [.int i tk, y], .cons ⟨_, rfl⟩ (.cons ru .nil), _, (sb.2 _ (Nat.ne_of_gt le)).trans hT, rfl, _, rfl⟩
    have J := I.turnedNew (t' := tk + 1) (ch := [e, it]) (h' := h2) (fun b o nb z => by
      have n1 : b ≠ e := fun y => nb (y ▸ List.mem_cons_self)
      exact (sb.2 b n1).trans (hk b o n1 (fun y => nb (by simp [y])) z)) hf (Nat.le_refl _) pair
    refine ⟨.ref s.heap.objs.size, _, J, rfl, ⟨_, x, rfl, I.hok.fresh (Nat.le_refl _), rfl, fun ys hys => I.tuple_inj hys hxs ▸ hx⟩, ⟨⟨y, ?_⟩, ?_, hne⟩, ?_⟩
    · rw [show ((i + 1 : Nat) : Int) = (i : Int) + 1 from rfl]
      exact he2
    · exact (show h1.IsTupleIter it a (i + 1) from q1.1).at fun o z => (sb.2 it (Ne.symm hne)).trans z
    · intro b hb
      have lb : b < s.heap.objs.size := by
        simp only [List.mem_cons, List.not_mem_nil, or_false] at hb
        rcases hb with rfl | rfl <;> assumption
      exact (upd_ne (Nat.ne_of_lt lb)).trans (hf b hb).1
  done := by
    rintro X rfl rfl rfl hc i pins s σ H E I hf ⟨⟨old, he⟩, hi, hne⟩ ⟨xs, hxs, hle⟩
    obtain ⟨its, rv, isT, _⟩ := I.tuple hxs
    obtain ⟨g0, g1, _, g3, g4, g5⟩ := hf it (List.mem_cons_of_mem _ List.mem_cons_self)
    have ten : s.TypeIs (.ref e) "enumerate" := ⟨_, he, rfl⟩
    have size : its.toArray[i]? = none := Array.getElem?_eq_none (by have := rv.length; rw [List.size_toArray]; omega)
    unfold pyNext
    refine wpAny_bind (wpAny_attempt (wpAny_callSpecial?_slot ten F.slot_enumerate_next (wpAny_call_entry F.slot_enumerate_next ten F.entry_enumerate_next ?_ (F.args_enumerate_next_1 _))))
    show wpAny _ _ (field (.ref e) 2 >>= _) _ _ _
    refine wpAny_bind (wpAny_field he rfl (x := .ref it) rfl ?_)
    refine wpAny_bind (wpAny_nextOf_tuple_end (A := X.A.in1) (I.ok.hd hc) hi (show s.heap.IsTuple a its.toArray from isT) size fun h' v hk ⟨o, ho, hco⟩ => ?_)
    exact wpAny_bind (wpAny_isInstance (T := "StopIteration") (b := true) ⟨o, ho, hco⟩ isSubtype_stop (wpAny_pure ⟨rfl, I.turned (t' := s.toks) hk g0 g1 g3 g4 g5⟩))
def iEnumT (K : PySem.W.Frag) (ta : TA) : TI := fun σ H R => ta σ H fun vs H1 => ∃ a xs, vs = [.ref a] ∧ SqT K H1 a xs ∧ R (IteT K a) H1
theorem pi_enumT {X : Cx} {e : Expr} {ta : TA} {p pos tpos : Pos} {elts : List Expr} {kk : Nat} (hg : Gl X "enumerate") (hm : X.mg "enumerate" = none) (ha : PA X [e] ta) (hs : starEach [e] X.env = [(false, eval e X.env)] := by rfl) :
    PI X (.Tuple elts kk tpos) (.Call (.Name "enumerate" p) [e] [] pos) (iEnumT X.K ta) where
  run pins s σ H R I h := Call_ (ld_blt I hg hm boot_enumerate (PyProof.Rows.callWith_type1 (thn (ha.run pos pins s σ H _ I h) fun us s1 told => by
    obtain ⟨_, H1, J, rel, a, xs, rfl, hxs, q⟩ := told
    obtain ⟨u, rfl, ru⟩ := vals1 rel
    obtain rfl : u = .ref a := ru
    obtain ⟨its, _, isT, _⟩ := J.tuple hxs
    refine pb_call_enum (show s1.heap.IsTuple a its.toArray from isT) ?_
    have kept : ∀ b o, s1.heap.get? b = some o → (pbHeap s1.heap a).get? b = some o := fun b o z => Heap.get?_push_of_some _ (Heap.get?_push_of_some _ z)
    have isE : IsEnum (pbHeap s1.heap a) (s1.heap.objs.size + 1) s1.heap.objs.size ((0 : Nat) : Int) .none := by
      have z := Heap.get?_push_size (s1.heap.push (pbIter a)) (o := pbEnum s1.heap.objs.size) rfl
      rw [Heap.size_push] at z
      exact z
    have at0 : EnAt a (s1.heap.objs.size + 1) s1.heap.objs.size 0 (pbHeap s1.heap a) := ⟨⟨.none, isE⟩, ⟨_, Heap.get?_push_of_some _ (Heap.get?_push_size _ rfl), rfl, rfl⟩, Nat.succ_ne_self _⟩
    refine wpAny_pyIter_enum isE ⟨_, [s1.heap.objs.size + 1, s1.heap.objs.size], _, _, H1, rfl, J.kept (t' := s1.toks) kept, turn_enumT a _ _, at0, ?_, q⟩
    exact at0.two (J.fpOk (Nat.le_add_right _ _) (J.hok.fresh (Nat.le_add_right _ _))) (J.fpOk (Nat.le_refl _) (J.hok.fresh (Nat.le_refl _)))) hs rfl))
theorem walk_enumT {K : PySem.W.Frag} {a : Addr} {xs : List V} : Walk (IteT K a) xs.length (fun H => SqT K H a xs) (YPair (fun i => some (.int (i : Nat))) (fun i => xs[i]?)) where
  goes i _ hi q := ⟨xs, xs[i], q, List.getElem?_eq_getElem hi⟩
  stops _ q := ⟨xs, q, Nat.le_refl _⟩
  yields i H v H' _ q := fun ⟨T, x, ev, new, eH, there⟩ => ⟨T, _, x, ev, new, eH, rfl, there xs q⟩
theorem walk_zipT {K : PySem.W.Frag} {a b : Addr} {xs ys : List V} {n : Nat} (hn : n = min xs.length ys.length) : Walk (RZ.ItzT K a b) n (fun H => SqT K H a xs ∧ SqT K H b ys) (YPair (fun i => xs[i]?) (fun i => ys[i]?)) where
  goes i _ hi q := ⟨xs, ys, _, _, q.1, q.2, List.getElem?_eq_getElem (Nat.lt_of_lt_of_le hi (hn ▸ Nat.min_le_left _ _)), List.getElem?_eq_getElem (Nat.lt_of_lt_of_le hi (hn ▸ Nat.min_le_right _ _))⟩
  stops _ q := ⟨xs, ys, q.1, q.2, by omega⟩
  yields i H v H' _ q := fun ⟨T, x, z, ev, new, eH, inX, inY⟩ => ⟨T, x, z, ev, new, eH, inX xs q.1, inY ys q.2⟩

/-! ### sorted of pairs (a tuple of ints, an int) -/
structure SRow where
  pr : Addr
  kt : Addr
  ks : List Int
  it : Int
def SRow.enc (r : SRow) : PyData := .tuple [.tuple (r.ks.map .int), .int r.it]
theorem eqvAll_ints : ∀ xs ys : List Int, PyData.eqvAll (xs.map .int) (ys.map .int) = decide (xs = ys)
  | [], [] => by simp [PyData.eqvAll]
  | [], _ :: _ => by simp [PyData.eqvAll]
  | _ :: _, [] => by simp [PyData.eqvAll]
  | x :: xs, y :: ys => by
    have ih := eqvAll_ints xs ys
    show PyData.eqvAll (.int x :: xs.map .int) (.int y :: ys.map .int) = _
    rw [PyData.eqvAll, ih]
    simp only [PyData.eqv]
    by_cases h1 : x = y <;> by_cases h2 : xs = ys <;> simp [h1, h2]
theorem enc_lt (a b : SRow) : PySem.W.dataLt a.enc b.enc = decide (a.ks < b.ks ∨ (a.ks = b.ks ∧ a.it < b.it)) := by
  unfold SRow.enc
  rw [PySem.W.dataLt_pair (by simp [PySem.W.alike, PySem.W.alike_ints]) (by simp [PySem.W.alike]), PySem.W.dataLt_int]
  have e1 : PyData.eqv (.tuple (a.ks.map .int)) (.tuple (b.ks.map .int)) = decide (a.ks = b.ks) := by
    rw [PyData.eqv]
    exact eqvAll_ints _ _
  have e2 : PyData.eqv (.int a.it) (.int b.it) = decide (a.it = b.it) := by
    simp only [PyData.eqv]
    by_cases h1 : a.it = b.it <;> simp [h1]
  have e3 : PySem.W.dataLt (.tuple (a.ks.map .int)) (.tuple (b.ks.map .int)) = decide (a.ks < b.ks) := by
    rw [PySem.W.dataLt_tuple]
    exact PySem.W.dataLt_ints _ _
  rw [e1, e2, e3]
  by_cases h1 : a.ks = b.ks
  · have hn : ¬ b.ks < b.ks := List.lt_irrefl _
    by_cases h2 : a.it = b.it
    · simp [h1, h2, hn]
    · simp [h1, h2, hn]
  · simp [h1]
theorem enc_le (a b : SRow) : PySem.W.dataLe false SRow.enc a b = true ↔ (a.ks < b.ks ∨ (a.ks = b.ks ∧ a.it ≤ b.it)) := by
  show (!PySem.W.dataLt b.enc a.enc) = true ↔ _
  rw [enc_lt]
  simp only [Bool.not_eq_true', decide_eq_false_iff_not]
  constructor
  · intro h
    by_cases h1 : a.ks < b.ks
    · exact .inl h1
    · by_cases h2 : b.ks < a.ks
      · exact absurd (.inl h2) h
      · have e : a.ks = b.ks := List.le_antisymm (List.not_lt.mp h2) (List.not_lt.mp h1)
        refine .inr ⟨e, ?_⟩
        rcases Int.lt_or_le b.it a.it with z | z
        · exact absurd (.inr ⟨e.symm, z⟩) h
        · exact z
  · rintro (h | ⟨h, h2⟩) (z | ⟨z, z2⟩)
    · exact List.lt_irrefl _ (List.lt_trans h z)
    · rw [z] at h; exact List.lt_irrefl _ h
    · rw [h] at z; exact List.lt_irrefl _ z
    · omega
theorem enc_trans (a b c : SRow) (h1 : PySem.W.dataLe false SRow.enc a b = true) (h2 : PySem.W.dataLe false SRow.enc b c = true) : PySem.W.dataLe false SRow.enc a c = true := by
  rw [enc_le] at h1 h2 ⊢
  rcases h1 with h1 | ⟨h1, h1'⟩ <;> rcases h2 with h2 | ⟨h2, h2'⟩
  · exact .inl (List.lt_trans h1 h2)
  · exact .inl (h2 ▸ h1)
  · exact .inl (h1 ▸ h2)
  · exact .inr ⟨h1.trans h2, by omega⟩
theorem enc_total (a b : SRow) : (PySem.W.dataLe false SRow.enc a b || PySem.W.dataLe false SRow.enc b a) = true := by
  rw [Bool.or_eq_true, enc_le, enc_le]
  by_cases h1 : a.ks < b.ks
  · exact .inl (.inl h1)
  · by_cases h2 : b.ks < a.ks
    · exact .inr (.inl h2)
    · have e : a.ks = b.ks := List.le_antisymm (List.not_lt.mp h2) (List.not_lt.mp h1)
      rcases Int.le_total a.it b.it with z | z
      · exact .inl (.inr ⟨e, z⟩)
      · exact .inr (.inr ⟨e.symm, z⟩)
def SRow.at (H : Hp) (r : SRow) : Prop := H r.pr = some (.tup [.ref r.kt, .int r.it]) ∧ H r.kt = some (.tup (r.ks.map .int))
def rSortedK (K : PySem.W.Frag) : List V → Hp → VK → Prop := fun vs H Q => ∃ (a : Addr) (rows : List SRow), vs = [V.ref a] ∧ SqL K H a (rows.map fun r => V.ref r.pr) ∧ (∀ r, r ∈ rows → r.at H) ∧
  ∀ (rows' : List SRow) (p : Addr), rows'.Perm rows → rows'.Pairwise (fun r r' => r.ks ≤ r'.ks) → H p = none → Q (.ref p) (upd H p (.lst (rows'.map fun r => V.ref r.pr)))
theorem refs_eachIs : ∀ {rows : List SRow} {us : List Value}, Vals (rows.map fun r => V.ref r.pr) us → PySem.W.EachIs (fun (v : Value) (r : SRow) => v = .ref r.pr ∧ r ∈ rows) us rows := by
  intro rows us r
  have q : ∀ {rows all : List SRow} {us : List Value}, (∀ x, x ∈ rows → x ∈ all) → Vals (rows.map fun r => V.ref r.pr) us → PySem.W.EachIs (fun (v : Value) (r : SRow) => v = .ref r.pr ∧ r ∈ all) us rows := by
    intro rows
    induction rows with
    | nil =>
      intro all us _ r
      cases r
      exact .nil
    | cons x rows ih =>
      intro all us hs r
      cases r with
      | cons h t => exact .cons ⟨h, hs x List.mem_cons_self⟩ (ih (fun y hy => hs y (List.mem_cons_of_mem _ hy)) t)
  exact q (fun _ h => h) r
theorem vals_of_each {p : SRow → Prop} : ∀ {rows : List SRow} {us : List Value}, PySem.W.EachIs (fun (v : Value) (r : SRow) => v = .ref r.pr ∧ p r) us rows → Vals (rows.map fun r => V.ref r.pr) us
  | _, _, .nil => .nil
  | _, _, .cons h t => .cons h.1 (vals_of_each t)
theorem cr_sortedK {X : Cx} (hu : X.A.units + 64 < cLine) : CallR X (.builtin "sorted") (rSortedK X.K) := by
  intro pins s σ H vs us Q I r h
  obtain ⟨a, rows, rfl, hs, hat, q⟩ := h
  obtain ⟨its, rv, hl, hz⟩ := I.list hs
  rw [Vals.ref1 r]
  have e := refs_eachIs rv
  have hrd : ∀ r : SRow, r ∈ rows → ∃ as, Reads s.heap (.ref r.pr) r.enc as := fun r hr => by
    obtain ⟨h1, h2⟩ := hat r hr
    refine Dp.reads I r.enc (.ref r.pr) _ ?_ rfl
    refine Dp.tup (SqT.of h1) (.cons (Dp.tup (SqT.of h2) ?_) (.cons (.int _) .nil))
    have hints : ∀ l : List Int, DpAll X.K H (l.map V.int) (l.map PyData.int) := by
      intro l
      induction l with
      | nil => exact .nil
      | cons x l ih => exact .cons (.int x) ih
    exact hints r.ks
  have er : PySem.W.EachIs (fun (v : Value) (r : SRow) => ∃ as, Reads s.heap v r.enc as) its rows := e.mono fun v r ⟨hv, hr⟩ => by
    rw [hv]; exact hrd r hr
  have hdep : ∀ r : SRow, r.enc.depth ≤ 2 := fun r => by
    unfold SRow.enc
    simp only [PyData.depth, PyData.depthAll, PySem.W.depth_ints]
    decide
  refine PySem.W.sorted_data (enc := SRow.enc) (bs := rows) hl.isList e er (PySem.W.AllAlike.of fun b b' => by simp [SRow.enc, PySem.W.alike, PySem.W.alikeAll, PySem.W.alike_ints]) (PySem.W.Sortable.tuples fun b => ⟨_, _, rfl⟩) (by rw [List.length_map] at hz; exact hz)
    (fun b _ => by have := hdep b; omega) fun out hlen eo => ?_
  obtain ⟨ep, he'⟩ := PyProof.Rows.sortedAll_at s.heap its out.toArray
  have hperm : (rows.mergeSort (PySem.W.dataLe false SRow.enc)).Perm rows := List.mergeSort_perm _ _
  have hlen' : ((rows.mergeSort (PySem.W.dataLe false SRow.enc)).map fun r => V.ref r.pr).length ≤ sizeLine := by rw [List.length_map, hperm.length_eq]; rw [List.length_map] at hz; exact hz
  refine ⟨.ref _, upd H (s.heap.objs.size + 1) (.lst ((rows.mergeSort (PySem.W.dataLe false SRow.enc)).map fun r => V.ref r.pr)),
    I.laid (t' := s.toks) (fun _ _ => PyProof.Rows.sortedAll_old) (Nat.le_succ _) ⟨hlen', out, ep, vals_of_each eo, he'⟩, rfl, q _ _ hperm ?_ (I.hok.fresh (Nat.le_succ _))⟩
  refine (List.pairwise_mergeSort enc_trans enc_total rows).imp ?_
  intro x y hxy
  rw [enc_le] at hxy
  rcases hxy with h | ⟨h, _⟩
  · exact List.le_of_lt h
  · rw [h]; exact List.le_refl _

/-! ### dict of a list of pairs, the keys tuples -/
structure DRow where
  pr : Addr
  kt : Addr
  ks : List Key
  val : V
def DRow.at (H : Hp) (r : DRow) : Prop := H r.pr = some (.tup [.ref r.kt, r.val]) ∧ H r.kt = some (.tup (r.ks.map kV))
theorem storedAllH_new {κ : Type} [DecidableEq κ] : ∀ (ps xs : List (κ × Addr × Value)), ((xs ++ ps).map (·.1)).Nodup → storedAllH xs ps = xs ++ ps
  | [], xs, _ => by
    rw [List.append_nil]
    rfl
  | p :: ps, xs, h => by
    have hn : atKey xs p.1 = none := by
      cases q : atKey xs p.1 with
      | none => rfl
      | some v =>
        exfalso
        have hm : p.1 ∈ xs.map (·.1) := by
          clear h
          induction xs with
          | nil => simp [atKey] at q
          | cons y ys ih =>
            by_cases hy : y.1 = p.1
            · simp [hy]
            · rw [List.map_cons, List.mem_cons]
              right
              refine ih ?_
              have e : atKey (y :: ys) p.1 = atKey ys p.1 := by simp [atKey, List.find?_cons, hy]
              rw [← e]; exact q
        rw [List.map_append, List.nodup_append] at h
        exact h.2.2 _ hm p.1 (by simp) rfl
    have e : storedH xs p.1 p.2.1 p.2.2 = xs ++ [p] := storedH_new hn _ _
    show storedAllH (storedH xs p.1 p.2.1 p.2.2) ps = _
    rw [e]
    have q := storedAllH_new ps (xs ++ [p]) (by rw [List.append_assoc]; exact h)
    rw [q, List.append_assoc]
    rfl
def rDictT (K : PySem.W.Frag) : List V → Hp → VK → Prop := fun vs H Q => ∃ (a : Addr) (rows : List DRow), vs = [V.ref a] ∧ SqL K H a (rows.map fun r => V.ref r.pr) ∧ (∀ r, r ∈ rows → r.at H) ∧ (rows.map (·.ks)).Nodup ∧
  ∀ p, H p = none → Q (.ref p) (upd H p (.dT (rows.map fun r => (r.ks, r.val))))
theorem vals_refs : ∀ {rows : List DRow} {us : List Value}, Vals (rows.map fun r => V.ref r.pr) us → us = rows.map fun r => Value.ref r.pr
  | [], us, r => by
    rw [List.map_nil] at r
    cases r
    rfl
  | p :: ps, us, r => by
    rw [List.map_cons] at r
    cases r with
    | cons h t =>
      cases h
      rw [List.map_cons, ← vals_refs t]
theorem drows_at {X : Cx} {pins : List (Addr × Obj)} {σ : L2.St} {H : Hp} {s : Shared} (I : L2.Inv X pins σ H s) : ∀ (rows : List DRow), (∀ r, r ∈ rows → r.at H) →
    ∃ ps : List (List Key × Addr × Value), Paired (fun (r : DRow) (p : List Key × Addr × Value) => p.1 = r.ks ∧ p.2.1 = r.kt ∧ RelV r.val p.2.2 ∧ IsTup s.heap r.pr #[.ref r.kt, p.2.2]) rows ps
  | [], _ => ⟨[], .nil⟩
  | r :: rows, h => by
    obtain ⟨ps, q⟩ := drows_at I rows fun x hx => h x (List.mem_cons_of_mem _ hx)
    obtain ⟨h1, h2⟩ := h r List.mem_cons_self
    obtain ⟨_, its, rv, ht⟩ := (show ObjOk X.prog X.w H s.heap r.pr (.tup [.ref r.kt, r.val]) from I.hok _ _ h1)
    obtain ⟨u, y, ei, ru, ry⟩ := vals2 rv
    subst ei
    cases ru
    exact ⟨(r.ks, r.kt, y) :: ps, .cons ⟨rfl, rfl, ry, ht⟩ q⟩
theorem Paired.at {α β : Type} {F : α → β → Prop} : ∀ {xs : List α} {ys : List β}, Paired F xs ys → ∀ {j : Nat} {y : β}, ys[j]? = some y → ∃ x, xs[j]? = some x ∧ F x y
  | _, _, .nil, j, y, e => by simp at e
  | _, _, .cons h t, 0, y, e => ⟨_, rfl, by
    have e' := Option.some.inj e
    rw [← e']; exact h⟩
  | _, _, .cons h t, j + 1, y, e => by
    obtain ⟨x, h1, h2⟩ := Paired.at t (j := j) (y := y) (by simpa using e)
    exact ⟨x, by simpa using h1, h2⟩
theorem cr_dictT {X : Cx} (hcalm : X.calm = true) (hu : X.A.units + 64 < cLine) : CallR X (.type "dict") (rDictT X.K) := by
  intro pins s σ H xs us Q I r h
  obtain ⟨a, rows, rfl, hs, hat, hnd, q⟩ := h
  obtain ⟨u, eu, rx⟩ := vals1 r
  subst eu
  cases rx
  obtain ⟨its, rv, pl, hz⟩ := I.list hs
  have ei := vals_refs rv
  subst ei
  rw [List.length_map] at hz
  obtain ⟨o, n, ho, hc, hd, hdat⟩ := pl
  obtain ⟨ps, hp⟩ := drows_at I rows hat
  have hlen : rows.length = ps.length := Paired.length hp
  have hkeys : ps.map (·.1) = rows.map (·.ks) := by
    have z : ∀ {l : List DRow} {m : List (List Key × Addr × Value)}, Paired (fun (r : DRow) (p : List Key × Addr × Value) => p.1 = r.ks ∧ p.2.1 = r.kt ∧ RelV r.val p.2.2 ∧ IsTup s.heap r.pr #[.ref r.kt, p.2.2]) l m → m.map (·.1) = l.map (·.ks) := by
      intro l m hpp
      induction hpp with
      | nil => rfl
      | cons h t ih => rw [List.map_cons, List.map_cons, ih, h.1]
    exact z hp
  have hst : storedAllH [] ps = ps := by
    rw [storedAllH_new ps [] (by rw [List.nil_append, hkeys]; exact hnd), List.nil_append]
  have hkt : ∀ x, x ∈ ps → ∃ r, r ∈ rows ∧ x.1 = r.ks ∧ x.2.1 = r.kt := fun x hx => by
    obtain ⟨j, hj, ej⟩ := List.getElem_of_mem hx
    obtain ⟨r, hr, h1, h2, _⟩ := Paired.at hp (j := j) (y := x) (by rw [List.getElem?_eq_getElem hj, ej])
    exact ⟨r, List.mem_of_getElem? hr, h1, h2⟩
  have hits : ((rows.map fun r => Value.ref r.pr).toArray).size = (ps.map fun p => (Value.ref p.2.1, p.2.2)).length := by
    rw [List.size_toArray, List.length_map, List.length_map, hlen]
  refine PySem.call_dict_pairsH (knd := tupleKind (mixKind X.prog X.w)) (ps := ps) (PairArg.list a (rows.map fun r => Value.ref r.pr).toArray (fun j => ((rows[j]?).map DRow.pr).getD 0) (ps.map fun p => (Value.ref p.2.1, p.2.2)))
    (I.ok.hd hcalm) (tupleKind_room_in1 (by show X.A.units + 1 + 1 < cLine; omega)) ⟨⟨o, n, ho, hc, hd, hdat⟩, hits, fun j k v hj => ?_⟩ ⟨by rw [List.length_map], fun i key v hrel => ?_⟩ (fun h' hk x hx => ?_) (by rw [List.length_map, ← hlen]; exact hz) fun h' tk hd' hk => ?_
  · rw [List.getElem?_map] at hj
    cases ej : ps[j]? with
    | none => rw [ej] at hj; cases hj
    | some p =>
      rw [ej] at hj
      have e2 := Option.some.inj hj
      obtain ⟨r, hr, h1, h2, h3, h4⟩ := Paired.at hp ej
      have ek : k = .ref p.2.1 := (congrArg Prod.fst e2).symm
      have ev : v = p.2.2 := (congrArg Prod.snd e2).symm
      subst ek ev
      refine ⟨by simp [hr], ?_⟩
      simp only [hr, Option.map_some, Option.getD_some]
      rw [h2]
      exact .inl h4
  · have hrel' : (ps.map fun p => (Value.ref p.2.1, p.2.2))[i]? = some (key, v) := hrel
    rw [List.getElem?_map] at hrel'
    cases ej : ps[i]? with
    | none => rw [ej] at hrel'; cases hrel'
    | some p =>
      rw [ej] at hrel'
      have e2 := Option.some.inj hrel'
      have ev : p.2.2 = v := congrArg Prod.snd e2
      subst ev
      exact ⟨p.1, p.2.1, rfl, (congrArg Prod.fst e2).symm⟩
  · obtain ⟨r, hr, h1, h2⟩ := hkt x hx
    rw [h1, h2]
    obtain ⟨_, its2, rv2, ob, h3, h4, n2, h5⟩ := (show ObjOk X.prog X.w H s.heap r.kt (.tup (r.ks.map kV)) from I.hok _ _ (hat r hr).2)
    refine ⟨ob, its2.toArray, n2, hk _ _ ?_ (by simp) h3, h4, h5, by simpa using items_are rv2⟩
    exact Nat.ne_of_lt (Heap.lt_size h3)
  · rw [hst] at hd'
    obtain ⟨ob, es, ep, h1, h2, h3, h4, _, h6⟩ := hd'
    have hm : (s.heap.objs.size == sysModules) = false := beq_eq_false_iff_ne.mpr (Nat.ne_of_gt I.big)
    have hfr : H s.heap.objs.size = none := I.hok.fresh (Nat.le_refl _)
    refine ⟨.ref _, upd H s.heap.objs.size (.dT (rows.map fun r => (r.ks, r.val))), I.laid (t' := tk) (fun b ob' z => hk b ob' (by simp) z) (Nat.le_refl _) ⟨by rw [List.length_map]; exact hz, hm, ps, ?_, ob, es, ep, h1, h2, h3, h4, h6⟩, rfl, q _ hfr⟩
    have hat2 : ∀ r, r ∈ rows → upd H s.heap.objs.size (.dT (rows.map fun r => (r.ks, r.val))) r.kt = some (.tup (r.ks.map kV)) := fun r hr => by
      rw [upd_ne (ne_of_none (hat r hr).2 hfr)]
      exact (hat r hr).2
    have z : ∀ {l : List DRow} {m : List (List Key × Addr × Value)} {H' : Hp}, (∀ r, r ∈ l → H' r.kt = some (.tup (r.ks.map kV))) → Paired (fun (r : DRow) (p : List Key × Addr × Value) => p.1 = r.ks ∧ p.2.1 = r.kt ∧ RelV r.val p.2.2 ∧ IsTup s.heap r.pr #[.ref r.kt, p.2.2]) l m →
        Paired (fun (p : List Key × V) (q : List Key × Addr × Value) => p.1 = q.1 ∧ H' q.2.1 = some (.tup (p.1.map kV)) ∧ RelV p.2 q.2.2) (l.map fun r => (r.ks, r.val)) m := by
      intro l m H' hl hpp
      induction hpp with
      | nil => exact .nil
      | cons h t ih =>
        refine .cons ⟨h.1.symm, ?_, h.2.2.1⟩ (ih fun r hr => hl r (List.mem_cons_of_mem _ hr))
        rw [h.2.1]
        exact hl _ List.mem_cons_self
    exact z hat2 hp

/-! ### an own error, made without arguments -/
theorem pmk_own0 {X : Cx} {C : Addr} {bmB : List Value} {B newId initId : String} {x : Str} {p pos : Pos} (F : ExcBaseFacts B newId initId bmB) (q : PySem.W.excIn X.K C bmB newId = true) (gC : X.mg x = some (.ref C)) (kC : PySem.W.keepIn X.K (.ref C) = true) (r : Raises X (.ref C)) (hg : Gl X x)
    (hdb : (x == ("__debug__" : Str)) = false := by decide) : PMk X (.Call (.Name x p) [] [] pos) (fun _ H Q => Q (.ref C) none H) := by
  intro pins s σ H Q I h
  refine wpAny_Call_Name_kw (ld_glob I hg gC ?_ hdb)
  refine PySem.W.callWith_K0 I.kIn kC ?_
  show wpAny _ _ (call (.ref C) []) _ _ _
  obtain ⟨bm, N, nm, qn, bs, hdct, sn, sub, ab, col, dd, k0, k1, k2, k3, k5, mN, hC, hN, hni, T⟩ := exc_obj I.kIn q
  obtain ⟨hp, g, d, tk, os⟩ := s
  refine wpAny_call_exc_subT F T hC hN hni (fun h' e hm => ?_) (by decide)
  exact mk_of I hm r h (I.hok.gone hm.new)
end Pb

/-! PbHeap: how plans, rows and chains lie in the heap; comprehensions that only make; the promises' frame. -/
namespace Pb
open PySem PySem.Spec PyProof.Rows L2

/-! ### tuples stay -/
def Tk (H H' : Hp) : Prop := ∀ b xs, H b = some (.tup xs) → H' b = some (.tup xs)
theorem Tk.refl (H : Hp) : Tk H H := fun _ _ h => h
theorem Tk.trans {H H1 H2 : Hp} (a : Tk H H1) (b : Tk H1 H2) : Tk H H2 := fun c xs h => b c xs (a c xs h)
theorem tk_of {H H' : Hp} (e : Same H H') : Tk H H' := fun b xs h => e b _ h
theorem same_new {H : Hp} {p : Addr} (h : H p = none) (o : HO) : Same H (upd H p o) := fun b u q => by rw [upd_ne (ne_of_none q h)]; exact q
theorem same_mut {H H' : Hp} {p : Addr} {o : HO} (e : Same H H') (h : H p = none) : Same H (upd H' p o) := fun a u ha => by
  rw [upd_ne (ne_of_none ha h)]
  exact e a u ha
theorem tk_lst {H : Hp} {p : Addr} {xs : List V} {o : HO} (h : H p = some (.lst xs)) : Tk H (upd H p o) := fun b ys hb => by
  rw [upd_ne (ne_of hb h (fun z => nomatch z))]
  exact hb
theorem tk_dT {H : Hp} {p : Addr} {xs} {o : HO} (h : H p = some (.dT xs)) : Tk H (upd H p o) := fun b ys hb => by
  rw [upd_ne (ne_of hb h (fun z => nomatch z))]
  exact hb
theorem tk_dK {H : Hp} {p : Addr} {xs} {o : HO} (h : H p = some (.dK xs)) : Tk H (upd H p o) := fun b ys hb => by
  rw [upd_ne (ne_of hb h (fun z => nomatch z))]
  exact hb
theorem tk_new {H : Hp} {p : Addr} (h : H p = none) (o : HO) : Tk H (upd H p o) := tk_of (same_new h o)

/-! ### rows of numbers -/
def iv (l : List Nat) : List V := l.map fun n => V.int ((n : Nat) : Int)
def zl (l : List Nat) : List Int := l.map fun n => ((n : Nat) : Int)
theorem iv_zl (l : List Nat) : iv l = (zl l).map V.int := by unfold iv zl; rw [List.map_map]; rfl
theorem iv_len (l : List Nat) : (iv l).length = l.length := List.length_map _
theorem iv_get {l : List Nat} {i n : Nat} (h : l[i]? = some n) : (iv l)[i]? = some (V.int ((n : Nat) : Int)) := by
  unfold iv; rw [List.getElem?_map, h]; rfl
theorem iv_got {l : List Nat} {i : Nat} {x : V} (h : (iv l)[i]? = some x) : ∃ n, l[i]? = some n ∧ x = V.int ((n : Nat) : Int) := by
  unfold iv at h
  rw [List.getElem?_map] at h
  cases e : l[i]? with
  | none => rw [e] at h; cases h
  | some n => rw [e] at h; exact ⟨n, rfl, (Option.some.inj h).symm⟩
theorem iv_app (a b : List Nat) : iv (a ++ b) = iv a ++ iv b := List.map_append
theorem zl_inj : ∀ {a b : List Nat}, zl a = zl b → a = b
  | [], [], _ => rfl
  | [], _ :: _, h => by cases h
  | _ :: _, [], h => by cases h
  | x :: a, y :: b, h => by
    have h' : ((x : Nat) : Int) :: zl a = ((y : Nat) : Int) :: zl b := h
    injection h' with h1 h2
    rw [zl_inj h2]
    congr 1
    omega
theorem flat_iv (l : List Nat) : (iv l).all flatV = true := by
  rw [List.all_eq_true]
  intro x hx
  obtain ⟨n, _, rfl⟩ := List.mem_map.mp hx
  rfl
theorem inV_iv (n : Nat) : ∀ l : List Nat, inV (V.int ((n : Nat) : Int)) (iv l) = l.contains n
  | [] => rfl
  | x :: l => by
    have ih := inV_iv n l
    show (eqV (V.int ((x : Nat) : Int)) (V.int ((n : Nat) : Int)) || inV (V.int ((n : Nat) : Int)) (iv l)) = _
    rw [ih, List.contains_cons]
    congr 1
    show decide (((x : Nat) : Int) = ((n : Nat) : Int)) = _
    by_cases h : x = n
    · subst h; simp
    · have h2 : ¬ ((x : Nat) : Int) = ((n : Nat) : Int) := by omega
      have h3 : (n == x) = false := by simpa using (fun z => h z.symm)
      rw [h3]
      exact decide_eq_false h2
def refs (as : List Addr) : List V := as.map V.ref
theorem refs_len (as : List Addr) : (refs as).length = as.length := List.length_map _
theorem refs_get {as : List Addr} {i : Nat} {a : Addr} (h : as[i]? = some a) : (refs as)[i]? = some (V.ref a) := by
  unfold refs; rw [List.getElem?_map, h]; rfl
theorem refs_got {as : List Addr} {i : Nat} {x : V} (h : (refs as)[i]? = some x) : ∃ a, as[i]? = some a ∧ x = V.ref a := by
  unfold refs at h
  rw [List.getElem?_map] at h
  cases e : as[i]? with
  | none => rw [e] at h; cases h
  | some a => rw [e] at h; exact ⟨a, rfl, (Option.some.inj h).symm⟩
theorem refs_app (a b : List Addr) : refs (a ++ b) = refs a ++ refs b := List.map_append

structure Rws (H : Hp) (as : List Addr) (ls : List (List Nat)) : Prop where
  len : as.length = ls.length
  rw_ : ∀ (i : Nat) (a : Addr) (l : List Nat), as[i]? = some a → ls[i]? = some l → H a = some (.tup (iv l))
theorem Rws.tk {H H' : Hp} {as : List Addr} {ls : List (List Nat)} (r : Rws H as ls) (t : Tk H H') : Rws H' as ls := ⟨r.len, fun i a l h1 h2 => t _ _ (r.rw_ i a l h1 h2)⟩
theorem Rws.nil {H : Hp} : Rws H [] [] := ⟨rfl, fun i a l h => by simp at h⟩
theorem Rws.get {H : Hp} {as : List Addr} {ls : List (List Nat)} (r : Rws H as ls) {i : Nat} {l : List Nat} (h : ls[i]? = some l) : ∃ a, as[i]? = some a ∧ H a = some (.tup (iv l)) := by
  have hi := (List.getElem?_eq_some_iff.mp h).1
  have hi2 : i < as.length := by rw [r.len]; exact hi
  exact ⟨as[i], List.getElem?_eq_getElem hi2, r.rw_ i _ l (List.getElem?_eq_getElem hi2) h⟩
theorem Rws.got {H : Hp} {as : List Addr} {ls : List (List Nat)} (r : Rws H as ls) {i : Nat} {a : Addr} (h : as[i]? = some a) : ∃ l, ls[i]? = some l ∧ H a = some (.tup (iv l)) := by
  have hi := (List.getElem?_eq_some_iff.mp h).1
  have hi2 : i < ls.length := by rw [← r.len]; exact hi
  exact ⟨ls[i], List.getElem?_eq_getElem hi2, r.rw_ i a _ h (List.getElem?_eq_getElem hi2)⟩
theorem Rws.app {H : Hp} {as bs : List Addr} {ls ms : List (List Nat)} (r : Rws H as ls) (q : Rws H bs ms) : Rws H (as ++ bs) (ls ++ ms) := by
  refine ⟨by rw [List.length_append, List.length_append, r.len, q.len], fun i a l h1 h2 => ?_⟩
  by_cases hi : i < as.length
  · rw [List.getElem?_append_left hi] at h1
    rw [List.getElem?_append_left (by rw [← r.len]; exact hi)] at h2
    exact r.rw_ i a l h1 h2
  · rw [List.getElem?_append_right (by omega)] at h1
    rw [List.getElem?_append_right (by rw [← r.len]; omega), ← r.len] at h2
    exact q.rw_ _ a l h1 h2
theorem Rws.one {H : Hp} {a : Addr} {l : List Nat} (h : H a = some (.tup (iv l))) : Rws H [a] [l] := by
  refine ⟨rfl, fun i b m h1 h2 => ?_⟩
  cases i with
  | zero =>
    have e1 : a = b := by simpa using h1
    have e2 : l = m := by simpa using h2
    subst e1
    subst e2
    exact h
  | succ i => simp at h1
theorem Rws.snoc {H : Hp} {as : List Addr} {ls : List (List Nat)} {a : Addr} {l : List Nat} (r : Rws H as ls) (h : H a = some (.tup (iv l))) : Rws H (as ++ [a]) (ls ++ [l]) := r.app (.one h)
theorem Rws.take {H : Hp} {as : List Addr} {ls : List (List Nat)} (r : Rws H as ls) (n : Nat) : Rws H (as.take n) (ls.take n) := by
  refine ⟨by rw [List.length_take, List.length_take, r.len], fun i a l h1 h2 => ?_⟩
  rw [List.getElem?_take] at h1 h2
  split at h1
  · rw [if_pos (by assumption)] at h2
    exact r.rw_ i a l h1 h2
  · cases h1
theorem Rws.drop {H : Hp} {as : List Addr} {ls : List (List Nat)} (r : Rws H as ls) (n : Nat) : Rws H (as.drop n) (ls.drop n) := by
  refine ⟨by rw [List.length_drop, List.length_drop, r.len], fun i a l h1 h2 => ?_⟩
  rw [List.getElem?_drop] at h1 h2
  exact r.rw_ _ a l h1 h2

theorem getD_get {α : Type} {l : List α} {k : Nat} {d : α} (h : k < l.length) : l[k]? = some (l.getD k d) := by
  rw [List.getD_eq_getElem?_getD, List.getElem?_eq_getElem h]
  rfl
/-- a plan at a -/
def PlanAt (H : Hp) (a : Addr) (P : List (List Nat)) : Prop := ∃ as, H a = some (.tup (refs as)) ∧ Rws H as P
theorem PlanAt.tk {H H' : Hp} {a : Addr} {P : List (List Nat)} (r : PlanAt H a P) (t : Tk H H') : PlanAt H' a P := let ⟨as, h, q⟩ := r; ⟨as, t _ _ h, q.tk t⟩
theorem PlanAt.same {H H' : Hp} {a : Addr} {P : List (List Nat)} (r : PlanAt H a P) (t : Same H H') : PlanAt H' a P := r.tk (tk_of t)
/-- a list of rows at a -/
def RowsAt (H : Hp) (a : Addr) (ls : List (List Nat)) : Prop := ∃ as, H a = some (.lst (refs as)) ∧ Rws H as ls
theorem RowsAt.same {H H' : Hp} {a : Addr} {P : List (List Nat)} (r : RowsAt H a P) (t : Same H H') : RowsAt H' a P := let ⟨as, h, q⟩ := r; ⟨as, t _ _ h, q.tk (tk_of t)⟩
theorem tupT {K : PySem.W.Frag} {H : Hp} {a : Addr} {xs : List V} (h : H a = some (.tup xs)) : SqT K H a xs := .inl (.inl h)
theorem lstL {K : PySem.W.Frag} {H : Hp} {a : Addr} {xs : List V} (h : H a = some (.lst xs)) : SqL K H a xs := .inl (.inl h)
theorem szl {n : Nat} (h : n ≤ 10000000) : n ≤ sizeLine := Nat.le_trans h (by decide)
theorem szt {n : Nat} (h : n ≤ 10000000) : n < sizeLine := Nat.lt_of_le_of_lt h (by decide)
theorem seen_get {P : List (List Nat)} {i : Nat} (h : i < P.length) : P[i]? = some (seen P i) := by
  unfold seen
  rw [List.getD_eq_getElem?_getD, List.getElem?_eq_getElem h]
  rfl
theorem at_nat {xs : List V} {j : Nat} {v : V} (h : xs[j]? = some v) : atI xs ((j : Nat) : Int) = some v := atI_nat h
theorem at_last {xs : List V} {v : V} (h : xs ≠ []) (e : xs[xs.length - 1]? = some v) : atI xs (-1) = some v := by
  have hp : 0 < xs.length := List.length_pos_iff.mpr h
  unfold atI ixN
  rw [if_neg (by omega), if_pos (by omega)]
  show xs[((-1 : Int) + (xs.length : Int)).toNat]? = some v
  have e2 : ((-1 : Int) + (xs.length : Int)).toNat = xs.length - 1 := by omega
  rw [e2]
  exact e
theorem iv_last {c : List Nat} (h : c ≠ []) : atI (iv c) (-1) = some (V.int ((lastN c : Nat) : Int)) := by
  have e := snoc_last h
  rw [e, iv_app, lastN_snoc]
  exact atI_last _ _

theorem walk_range0 {n : Nat} : Walk (Itr 0 n) n (fun _ => True) (YFn fun i => .int ((i : Nat) : Int)) :=
  walk_range.mono (fun _ h => h) (fun i H x H' _ _ y => ⟨y.1, by
    rw [y.2]
    show V.int ((0 : Int) + ((i : Nat) : Int)) = V.int ((i : Nat) : Int)
    rw [Int.zero_add]⟩)
/-! ### a list comprehension that only makes -/
theorem lc_acc {J : It} {n : Nat} {G : Hp → Prop} {Y : Nat → Hp → V → Hp → Prop} (w : Walk J n G Y) {g : TG} {tt : TT} {te : TE} {vs : List Nat} {σ : L2.St} {H1 : Hp} {D : Addr} {Qd : Hp → Prop} (hD : H1 D = none) (Acc : Nat → List V → Hp → Prop)
    (mono : ∀ i acc H H', Tk H H' → Acc i acc H → Acc i acc H') (h0 : Acc 0 [] H1) (hlen : ∀ i acc H, i < n → Acc i acc H → acc.length < sizeLine) (hG : ∀ H, Same H1 H → G H)
    (hs : ∀ i x H acc H' (Yes : V → Hp → Prop) (No : Hp → Prop), i < n → Same H1 H → Acc i acc H → Y i H x H' → (∀ y H4, Same H H4 → Acc (i + 1) (acc ++ [y]) H4 → Yes y H4) → (∀ H3, Same H H3 → Acc (i + 1) acc H3 → No H3) →
      g x (wipe σ vs) H' fun σ2 H2 => wipe σ2 vs = wipe σ vs ∧ tt σ2 H2 fun b H3 => if b = true then te σ2 H3 Yes else No H3)
    (hd : ∀ H acc, Same H1 H → H D = some (.lst acc) → Acc n acc H → Qd H) :
    ∃ W : Nat → Nat → Hp → Prop, (∃ m, W 0 m (upd H1 D (.lst []))) ∧ ∀ i m H, W i m H →
      (J.stop i H ∧ Qd H) ∨ (J.go i H ∧ ∃ Nx : Hp → Prop, (∀ H', Nx H' → ∃ m', m' < m ∧ W (i + 1) m' H') ∧ ∀ x H', J.yld i H x H' → g x (wipe σ vs) H' fun σ2 H2 => wipe σ2 vs = wipe σ vs ∧ tt σ2 H2 fun b H3 =>
        if b = true then te σ2 H3 fun y H4 => ∃ acc, H4 D = some (.lst acc) ∧ acc.length < sizeLine ∧ Nx (upd H4 D (.lst (acc ++ [y]))) else Nx H3) := by
  refine lc_it w (fun i H => Same H1 H ∧ ∃ acc, H D = some (.lst acc) ∧ Acc i acc H) ⟨same_new hD _, [], upd_same, mono _ _ _ _ (tk_new hD _) h0⟩ (fun i H _ p => hG H p.1) (fun i x H H' hi p y => ?_) fun H p => ?_
  · obtain ⟨sm, acc, hacc, ha⟩ := p
    refine hs i x H acc H' _ _ hi sm ha y (fun z H4 s4 a4 => ?_) fun H3 s3 a3 => ?_
    · have hD4 := s4 _ _ hacc
      exact ⟨acc, hD4, hlen i acc H hi ha, same_mut (sm.trans s4) hD, _, upd_same, mono _ _ _ _ (tk_lst hD4) a4⟩
    · exact ⟨sm.trans s3, acc, s3 _ _ hacc, a3⟩
  · obtain ⟨sm, acc, hacc, ha⟩ := p
    exact hd H acc sm hacc ha

/-! ### the frame of the promises -/
/-- a def of the text that keeps its promise -/
structure Callee (P : Program) (w : World) (K : PySem.W.Frag) (mg : Str → Option Value) (base : Heap) (CX : CXT) (k : Nat) (x : Str) (f : Addr) (fd : FuncData) (ps : List Str) (sp : Sp) : Prop where
  ok : FnOk P w K mg base CX k f fd ps sp
  bd : Binds K fd ps []
  kp : PySem.W.keepIn K (.ref f) = true
  gl : mg x = some (.ref f)
theorem pe_c {X : Cx} {k j : Nat} {x : Str} {f : Addr} {fd : FuncData} {ps : List Str} {sp : Sp} {p pos : Pos} {e : Expr} {es : List Expr} {t : TA} (C : Callee X.prog X.w X.K X.mg X.base CX0 k x f fd ps sp) (hr : Room j X.A) (hg : Gl X x) (ha : PA X (e :: es) t) (hj : k ≤ j := by decide)
    (hdb : (x == ("__debug__" : Str)) = false := by decide) (he : starEach (e :: es) X.env = (false, eval e X.env) :: starEach es X.env := by rfl) (hpl : (backTo pos (starEach es X.env)).any (·.1) = false := by rfl) :
    PE X (.Call (.Name x p) (e :: es) [] pos) (tCall sp [] E0 t) := pe_call C.ok (hr.mono hj) hg C.gl C.kp C.bd .nil pass0 ha hdb he hpl
/-- the built-in names that the text leaves as they are -/
structure Blt (mg : Str → Option Value) : Prop where
  isinstance : mg "isinstance" = none
  int : mg "int" = none
  bool : mg "bool" = none
  str : mg "str" = none
  list : mg "list" = none
  tuple : mg "tuple" = none
  dict : mg "dict" = none
  len : mg "len" = none
  all : mg "all" = none
  sum : mg "sum" = none
  sorted : mg "sorted" = none
  range : mg "range" = none
  enumerate : mg "enumerate" = none
  zip : mg "zip" = none
  min : mg "min" = none
  max : mg "max" = none
theorem bt_isinstance : bootBuiltins "isinstance" = some (.builtin "isinstance") := by decide +kernel
theorem bt_int : bootBuiltins "int" = some (.type "int") := by decide +kernel
theorem bt_bool : bootBuiltins "bool" = some (.type "bool") := by decide +kernel
theorem bt_str : bootBuiltins "str" = some (.type "str") := by decide +kernel
theorem bt_list : bootBuiltins "list" = some (.type "list") := by decide +kernel
theorem bt_tuple : bootBuiltins "tuple" = some (.type "tuple") := by decide +kernel
theorem bt_dict : bootBuiltins "dict" = some (.type "dict") := by decide +kernel
theorem bt_len : bootBuiltins "len" = some (.builtin "len") := by decide +kernel
theorem bt_all : bootBuiltins "all" = some (.builtin "all") := by decide +kernel
theorem bt_sum : bootBuiltins "sum" = some (.builtin "sum") := by decide +kernel
theorem bt_sorted : bootBuiltins "sorted" = some (.builtin "sorted") := by decide +kernel
theorem bt_min : bootBuiltins "min" = some (.builtin "min") := by decide +kernel
theorem bt_max : bootBuiltins "max" = some (.builtin "max") := by decide +kernel
/-- the name of a value's class -/
inductive Kd (H : Hp) : V → String → Prop
  | non : Kd H .non "NoneType"
  | bl (b : Bool) : Kd H (.bl b) "bool"
  | int (i : Int) : Kd H (.int i) "int"
  | str (x : Str) : Kd H (.str x) "str"
  | lst {a : Addr} {xs : List V} (e : H a = some (.lst xs)) : Kd H (.ref a) "list"
  | tup {a : Addr} {xs : List V} (e : H a = some (.tup xs)) : Kd H (.ref a) "tuple"
theorem Kd.ty {K : PySem.W.Frag} {H : Hp} {v : V} {t : String} (k : Kd H v t) : TyX K H v (.type t) := by
  cases k with
  | non => exact .base .non
  | bl b => exact .base (.bl b)
  | int i => exact .base (.int i)
  | str x => exact .base (.str x)
  | lst e => exact .base (.lst e)
  | tup e => exact .base (.tup e)
/-- what isinstance answers -/
def rIsiB (T : String) : List V → Hp → VK → Prop := fun vs H Q => ∃ (x : V) (t : String) (r : Bool), vs = [x, .ty T] ∧ Kd H x t ∧ kitB t T = some r ∧ Q (.bl r) H
theorem call_isiB {X : Cx} {T : String} : CallR X (.builtin "isinstance") (rIsiB T) := by
  intro pins s σ H xs us Q I r h
  obtain ⟨x, t, b, rfl, k, e, q⟩ := h
  exact call_isi pins s σ H _ us Q I r ⟨x, .ty T, .type t, .type T, b, rfl, .ty T, k.ty, kit_ty e, q⟩
/-- isinstance(e, T), T a built-in class -/
theorem pe_isi {X : Cx} {x : Str} {p p2 pos : Pos} {e : Expr} {te : TE} {T : String} (B : Blt X.mg) (hg : Gl X "isinstance") (he : PE X e te) (hgT : Gl X x) (hm : X.mg x = none) (hv : bootBuiltins x = some (.type T)) (hdb : (x == ("__debug__" : Str)) = false := by decide) (hn : x ≠ "__name__" := by decide)
    (h1 : starEach (e :: [.Name x p2]) X.env = (false, eval e X.env) :: starEach [.Name x p2] X.env := by rfl) (h2 : starEach [.Name x p2] X.env = [(false, eval (.Name x p2) X.env)] := by rfl) (hpl : (backTo pos (starEach [.Name x p2] X.env)).any (·.1) = false := by rfl) :
    PE X (.Call (.Name "isinstance" p) [e, .Name x p2] [] pos) (tCB (rIsiB T) (tCons te (tCons (tC (.ty T)) tNil))) :=
  pe_callB call_isiB hg B.isinstance bt_isinstance (pa_cons he (pa_cons (pe_bltn (v := .ty T) hgT hm hv rfl hn hdb) pa_nil h2) h1) (by decide) (by decide) h1 hpl
theorem q_of {Q : VK} {b c : Bool} {H : Hp} (e : b = c) (q : Q (.bl c) H) : Q (.bl b) H := by rw [e]; exact q
theorem q_int {Q : VK} {b c : Int} {H : Hp} (e : b = c) (q : Q (.int c) H) : Q (.int b) H := by rw [e]; exact q
theorem if_t {b : Bool} {A B : Prop} (h : b = true) (x : A) : if b = true then A else B := by rw [if_pos h]; exact x
theorem if_f {b : Bool} {A B : Prop} (h : b = false) (x : B) : if b = true then A else B := by rw [h]; exact iteF x
theorem lexLt_eq : ∀ a b : List Int, HT.lexLt a b = decide (a < b)
  | [], [] => by
    rw [HT.lexLt_nil_nil]
    exact (decide_eq_false (List.not_lt_nil _)).symm
  | [], y :: b => by
    rw [HT.lexLt_nil_cons]
    exact (decide_eq_true (List.nil_lt_cons _ _)).symm
  | x :: a, [] => by
    rw [HT.lexLt_cons_nil]
    exact (decide_eq_false (List.not_lt_nil _)).symm
  | x :: a, y :: b => by
    rw [HT.lexLt_cons, lexLt_eq a b]
    by_cases h : x = y
    · rw [if_pos h]
      simp [List.cons_lt_cons_iff, h]
    · rw [if_neg h]
      simp [List.cons_lt_cons_iff, h]
/-- the statements of the text -/
def top (i : Nat) : Stmt := PySem.Challenge.pw_putbetween_k26_whole_names_that_come_are.main.body.getD i (.Pass ⟨0, 0, 0, 0⟩)
end Pb

/-! PbA: checks: is_integer, is_within, is_listed, are_items. -/
namespace Pb
open PySem PySem.Spec PyProof.Rows L2

abbrev sIsInteger : Stmt := top 8
abbrev sIsWithin : Stmt := top 9
abbrev sIsListed : Stmt := top 10
abbrev sAreItems : Stmt := top 11
/-! ### what stands in a thing -/
def flat3 : V → Bool
  | .non => true
  | .bl _ => true
  | .int _ => true
  | _ => false
def isI : V → Bool
  | .int _ => true
  | _ => false
def toI : V → Int
  | .int i => i
  | _ => 0
/-- a thing that may be asked: no tuple, or a tuple of flat things -/
inductive Thing (H : Hp) : V → Option (List V) → Prop
  | non : Thing H .non none
  | str (x : Str) : Thing H (.str x) none
  | lst {a : Addr} {xs : List V} (e : H a = some (.lst xs)) : Thing H (.ref a) none
  | tup {a : Addr} {xs : List V} (e : H a = some (.tup xs)) (f : xs.all flat3 = true) (z : xs.length ≤ 1000) : Thing H (.ref a) (some xs)
theorem Thing.same {H H' : Hp} {v : V} {o : Option (List V)} (t : Thing H v o) (s : Same H H') : Thing H' v o := by
  cases t with
  | non => exact .non
  | str x => exact .str x
  | lst e => exact .lst (s _ _ e)
  | tup e f z => exact .tup (s _ _ e) f z
/-- the items of a tuple rise from -1 on and stay below the bound -/
def upTo (bound : Int) : Int → List Int → Bool
  | _, [] => true
  | last, x :: r => if x ≤ last ∨ bound ≤ x then false else upTo bound x r
def areV : Option (List V) → Int → Bool
  | none, _ => false
  | some vs, bound => vs.all isI && upTo bound (-1) (vs.map toI)

def spIsInteger : Sp := fun vs H Q _ => ∃ x, vs = [x] ∧ flat3 x = true ∧ Q (.bl (isI x)) H
def spIsWithin : Sp := fun vs H Q _ => ∃ i lo hi : Int, vs = [.int i, .int lo, .int hi] ∧ lo ≤ i ∧ i ≤ hi ∧ Q (.bl true) H
def spIsListed : Sp := fun vs H Q _ => ∃ (x : V) (t : String) (b1 b2 : Bool), vs = [x] ∧ Kd H x t ∧ kitB t "list" = some b1 ∧ kitB t "tuple" = some b2 ∧ ∀ H', Same H H' → Q (.bl (b1 || b2)) H'
theorem kit2 {K : PySem.W.Frag} {t : String} {b1 b2 : Bool} (h1 : kitB t "list" = some b1) (h2 : kitB t "tuple" = some b2) : PySem.W.kitAny K (.type t) [.type "list", .type "tuple"] = some (b1 || b2) := by
  refine kitAny_cons (kit_ty h1) (fun e1 => ?_) (fun e1 => by rw [e1]; rfl)
  rw [e1, Bool.false_or]
  exact kitAny_cons (kit_ty h2) (fun e2 => by rw [e2]; exact kitAny_nil) (fun e2 => e2)
def spAreItems : Sp := fun vs H Q _ => ∃ (x : V) (o : Option (List V)) (bound : Int), vs = [x, .int bound] ∧ Thing H x o ∧ ∀ H', Same H H' → Q (.bl (areV o bound)) H'

section
variable {P : Program} {w : World} {K : PySem.W.Frag} {mg : Str → Option Value} {base : Heap} {f : Addr} {fd : FuncData}
theorem sc_IsInteger : FnScope ["thing"] ["thing"] (defScope sIsInteger) := ⟨rfl, rfl, rfl, by decide +kernel, rfl, by decide +kernel, by decide +kernel⟩
theorem ok_IsInteger (B : Blt mg) (F : Fun K "is_integer" "is_integer" sIsInteger f fd) : FnOk P w K mg base CX0 1 f fd ["thing"] spIsInteger := by
  refine F.ok sc_IsInteger (fun vs H Q E h => ?_) (fun cdv A outer s H vs Q E hr h => ?_)
  · obtain ⟨x, rfl, _⟩ := h
    rfl
  obtain ⟨x, rfl, hf, q⟩ := h
  refine ⟨_, pss_one (ps_ret (pe_and (pe_isi B rfl (pv 0) rfl B.int bt_int) (pe_one (pe_not (pe_isi B rfl (pv 0) rfl B.bool bt_bool))))), ?_⟩
  cases x with
  | non =>
    refine ⟨_, rfl, _, _, false, rfl, .non, by decide +kernel, _, rfl, ?_⟩
    exact iteF q
  | bl b =>
    refine ⟨_, rfl, _, _, true, rfl, .bl b, by decide +kernel, _, rfl, ?_⟩
    exact iteT ⟨_, rfl, _, _, true, rfl, .bl b, by decide +kernel, _, rfl, q⟩
  | int i =>
    refine ⟨_, rfl, _, _, true, rfl, .int i, by decide +kernel, _, rfl, ?_⟩
    exact iteT ⟨_, rfl, _, _, false, rfl, .int i, by decide +kernel, _, rfl, q⟩
  | str x => cases hf
  | byt x => cases hf
  | flt x => cases hf
  | ref x => cases hf
  | ty x => cases hf
theorem sc_IsWithin : FnScope ["thing", "least", "most"] ["thing", "least", "most"] (defScope sIsWithin) := ⟨rfl, rfl, rfl, by decide +kernel, rfl, by decide +kernel, by decide +kernel⟩
theorem ok_IsWithin {f1 : Addr} {fd1 : FuncData} (C1 : Callee P w K mg base CX0 1 "is_integer" f1 fd1 ["thing"] spIsInteger) (F : Fun K "is_within" "is_within" sIsWithin f fd) : FnOk P w K mg base CX0 2 f fd ["thing", "least", "most"] spIsWithin := by
  refine F.ok sc_IsWithin (fun vs H Q E h => ?_) (fun cdv A outer s H vs Q E hr h => ?_)
  · obtain ⟨i, lo, hi, rfl, _⟩ := h
    rfl
  obtain ⟨i, lo, hi, rfl, h1, h2, q⟩ := h
  refine ⟨_, pss_one (ps_ret (pe_and (pe_c C1 hr rfl (pa_cons (pv 0) pa_nil)) (pe_one (pe_chain op_le op_le (pv 1) (pv 0) (pv 2))))), ?_⟩
  refine ⟨_, rfl, .int i, rfl, rfl, _, rfl, ?_⟩
  refine iteT ⟨_, rfl, _, rfl, _, _, rfl, rfl, _, rfl, ?_⟩
  refine if_t (decide_eq_true h1) ⟨_, rfl, _, _, rfl, rfl, ?_⟩
  exact q_of (decide_eq_true h2) q
theorem sc_IsListed : FnScope ["thing"] ["thing"] (defScope sIsListed) := ⟨rfl, rfl, rfl, by decide +kernel, rfl, by decide +kernel, by decide +kernel⟩
theorem ok_IsListed (B : Blt mg) (F : Fun K "is_listed" "is_listed" sIsListed f fd) : FnOk P w K mg base CX0 1 f fd ["thing"] spIsListed := by
  refine F.ok sc_IsListed (fun vs H Q E h => ?_) (fun cdv A outer s H vs Q E hr h => ?_)
  · obtain ⟨x, t, b1, b2, rfl, _⟩ := h
    rfl
  obtain ⟨x, t, b1, b2, rfl, hk, h1, h2, q⟩ := h
  refine ⟨_, pss_one (ps_ret (pe_callB call_isiT rfl B.isinstance bt_isinstance (pa_cons (pv 0) (pa_cons (pe_tup (pa_cons (pe_bltn (v := .ty "list") rfl B.list bt_list rfl) (pa_cons (pe_bltn (v := .ty "tuple") rfl B.tuple bt_tuple rfl) pa_nil))) pa_nil)))), ?_⟩
  refine ⟨_, rfl, (by show 2 ≤ sizeLine; decide), fun p hp => ?_⟩
  have hp' : upd H p (.tup [.ty "list", .ty "tuple"]) p = some (.tup [.ty "list", .ty "tuple"]) := upd_same
  have hs : Same H (upd H p (.tup [.ty "list", .ty "tuple"])) := same_new hp _
  have hk' : Kd (upd H p (.tup [.ty "list", .ty "tuple"])) x t := by
    cases hk with
    | non => exact .non
    | bl b => exact .bl b
    | int i => exact .int i
    | str x => exact .str x
    | lst e => exact .lst (hs _ _ e)
    | tup e => exact .tup (hs _ _ e)
  exact ⟨x, p, _, .type t, [.type "list", .type "tuple"], b1 || b2, rfl, hp', .cons (.ty _) (.cons (.ty _) .nil), hk'.ty, kit2 h1 h2, q _ hs⟩

theorem sc_AreItems : FnScope ["thing", "bound", "item", "last"] ["thing", "bound"] (defScope sAreItems) := ⟨rfl, rfl, rfl, by decide +kernel, rfl, by decide +kernel, by decide +kernel⟩
theorem thing_kd {H : Hp} {x : V} {o : Option (List V)} (t : Thing H x o) : ∃ k, Kd H x k ∧ kitB k "tuple" = some o.isSome := by
  cases t with
  | non => exact ⟨_, .non, by decide +kernel⟩
  | str x => exact ⟨_, .str x, by decide +kernel⟩
  | lst e => exact ⟨_, .lst e, by decide +kernel⟩
  | tup e f z => exact ⟨_, .tup e, (by decide +kernel : kitB "tuple" "tuple" = some true)⟩
theorem all_take {α β : Type} {vs : List α} {p : α → β} {i : Nat} {x : α} (h : vs[i]? = some x) : (vs.take (i + 1)).map p = (vs.take i).map p ++ [p x] := by
  rw [List.take_add_one, h, List.map_append]
  rfl
theorem upTo_app (bound : Int) : ∀ (a b : List Int) (last : Int), upTo bound last (a ++ b) = (upTo bound last a && upTo bound (a.getLastD last) b)
  | [], b, last => by simp [upTo]
  | x :: a, b, last => by
    show (if _ then false else upTo bound x (a ++ b)) = _
    show _ = ((if _ then false else upTo bound x a) && _)
    split
    · rfl
    · rw [upTo_app bound a b x]
      congr 2
      cases a with
      | nil => rfl
      | cons y a => rfl
theorem ok_AreItems (B : Blt mg) {f1 : Addr} {fd1 : FuncData} (C1 : Callee P w K mg base CX0 1 "is_integer" f1 fd1 ["thing"] spIsInteger) (F : Fun K "are_items" "are_items" sAreItems f fd) : FnOk P w K mg base CX0 2 f fd ["thing", "bound"] spAreItems := by
  refine F.ok sc_AreItems (fun vs H Q E h => ?_) (fun cdv A outer s H vs Q E hr h => ?_)
  · obtain ⟨x, o, b, rfl, _⟩ := h
    rfl
  obtain ⟨x, o, bound, rfl, ht, q⟩ := h
  refine ⟨_, pss_cons (ps_if (PW.pt (pw_or (pt_not (pt_val (pe_isi B rfl (pv 0) rfl B.tuple bt_tuple))) (pw_or1 (pt_not (pt_val (pe_callB (cr_all rfl) rfl B.all bt_all (pa_cons
        (pe_lc (own := [("item", 2)]) (g := gName 2) (tt := tYes) rfl sc_AreItems.nd (pi_tup (pv 0)) (blkOk_by (N := ["thing", "bound", "item", "last"]) (sc := defScope sAreItems) (by decide +kernel))
          (fun _ _ _ _ _ => pg_name (i := 2) sc_AreItems.nd rfl (Or.inl rfl)) (fun _ _ _ _ _ => pts_nil) (fun _ _ _ _ _ => pe_c C1 hr rfl (pa_cons (pv 2) pa_nil))) pa_nil))))))) (pss_one (ps_ret pe_bl)) pss_nil)
    (pss_cons (ps_set (i := 3) sc_AreItems.nd rfl (Or.inl rfl) (pe_un un_neg pe_int))
    (pss_cons (ps_for PassesOwn.never rfl (pi_tup (pv 0)) (pg_name (i := 2) sc_AreItems.nd rfl (Or.inl rfl))
      (pss_cons (ps_if (PW.pt (pw_or (pt_cmpR op_le (pv 2) (pv 3) (nomark _)) (pw_or1 (pt_cmpR op_ge (pv 2) (pv 1) (nomark _))))) (pss_one (ps_ret pe_bl)) pss_nil)
      (pss_one (ps_set (i := 3) sc_AreItems.nd rfl (Or.inl rfl) (pv 2)))))
    (pss_one (ps_ret pe_bl)))), ?_⟩
  obtain ⟨k, hk, hkt⟩ := thing_kd ht
  refine ⟨_, rfl, _, _, _, rfl, hk, hkt, _, rfl, ?_⟩
  cases ht with
  | non => exact iteT (iteT (q _ (Same.refl _)))
  | str y => exact iteT (iteT (q _ (Same.refl _)))
  | lst e => exact iteT (iteT (q _ (Same.refl _)))
  | @tup a xs e hf hz =>
    refine iteF ⟨_, rfl, a, rfl, ⟨_, tupT e⟩, fun D hD => ?_⟩
    refine lc_acc (walk_tup (xs := xs)) hD (fun i acc _ => acc = (xs.take i).map fun x => V.bl (isI x)) (fun i acc H H' _ h => h) rfl (fun i acc H hi h => by rw [h, List.length_map, List.length_take]; exact szt (by omega)) (fun H s => tupT (s _ _ e)) ?_ ?_
    · rintro i y H' acc H'' Yes No hi sm ha ⟨rfl, hy⟩ ky kn
      have hfy : flat3 y = true := List.all_eq_true.mp hf y (List.mem_of_getElem? hy)
      refine ⟨rfl, _, rfl, y, rfl, hfy, ky _ _ (Same.refl _) ?_⟩
      rw [ha, List.take_add_one, hy, List.map_append]
      rfl
    · rintro H' acc sm hacc rfl
      rw [List.take_length] at hacc
      refine ⟨D, xs.map isI, rfl, ?_, _, rfl, ?_⟩
      · rw [List.map_map]
        exact lstL hacc
      by_cases hall : xs.all isI = true
      · have e1 : (xs.map isI).all id = true := by rw [List.all_map]; exact hall
        refine if_f (by rw [e1]; rfl) ?_
        refine ⟨_, rfl, _, rfl, a, rfl, ⟨_, tupT (sm _ _ e)⟩, ?_⟩
        refine for_it (walk_tup (xs := xs)) (fun i σ H' => ∃ (z : Option V) (l : Int), σ = [some (.ref a), some (.int bound), z, some (.int l)] ∧ Same H H' ∧ upTo bound (-1) ((xs.take i).map toI) = true ∧ l = ((xs.take i).map toI).getLastD (-1))
          ⟨none, -1, rfl, sm, rfl, rfl⟩ (fun i σ H' _ p => by obtain ⟨_, _, _, s5, _⟩ := p; exact tupT (s5 _ _ e)) ?_ ?_
        · rintro i y σ H' H'' hi ⟨z, l, rfl, s5, hup, hl⟩ ⟨rfl, hy⟩
          have hiy : isI y = true := List.all_eq_true.mp hall y (List.mem_of_getElem? hy)
          obtain ⟨v, rfl⟩ : ∃ v, y = .int v := by
            cases y with
            | int v => exact ⟨v, rfl⟩
            | _ => cases hiy
          have et : (xs.take (i + 1)).map toI = (xs.take i).map toI ++ [v] := all_take hy
          have eu : upTo bound (-1) ((xs.take (i + 1)).map toI) = upTo bound l [v] := by rw [et, upTo_app, hup, ← hl]; rfl
          have ebad : upTo bound l [v] = false → Q (.bl false) H'' := fun hb => by
            refine q_of ?_ (q _ s5)
            show false = (xs.all isI && upTo bound (-1) (xs.map toI))
            have esp : xs.map toI = (xs.take (i + 1)).map toI ++ (xs.drop (i + 1)).map toI := by rw [← List.map_append, List.take_append_drop]
            rw [esp, upTo_app, eu, hb, Bool.false_and, Bool.and_false]
          refine ⟨_, rfl, _, rfl, _, _, rfl, rfl, _, rfl, ?_⟩
          by_cases c1 : v ≤ l
          · refine if_t (decide_eq_true c1) ?_
            refine ebad ?_
            show (if _ then false else _) = false
            rw [if_pos (Or.inl c1)]
          · refine if_f (decide_eq_false c1) ?_
            refine ⟨_, rfl, _, rfl, _, _, rfl, rfl, _, rfl, ?_⟩
            by_cases c2 : bound ≤ v
            · refine if_t (decide_eq_true c2) ?_
              refine ebad ?_
              show (if _ then false else _) = false
              rw [if_pos (Or.inr c2)]
            · refine if_f (decide_eq_false c2) ?_
              have eok : upTo bound l [v] = true := by
                show (if _ then false else true) = true
                rw [if_neg (by omega)]
              refine ⟨_, rfl, _, v, rfl, s5, by rw [eu, eok], ?_⟩
              rw [et, List.getLastD_eq_getLast?]
              simp
        · rintro σ H' ⟨z, l, rfl, s5, hup, hl⟩
          rw [List.take_length] at hup
          refine q_of ?_ (q _ s5)
          show true = (xs.all isI && upTo bound (-1) (xs.map toI))
          rw [hall, hup]
          rfl
      · have hall' : xs.all isI = false := Bool.eq_false_iff.mpr hall
        have e1 : (xs.map isI).all id = false := by rw [List.all_map]; exact hall'
        refine if_t (by rw [e1]; rfl) ?_
        refine q_of ?_ (q _ sm)
        show false = (xs.all isI && _)
        rw [hall']
        rfl
end
end Pb

/-! PbB: is_sound, check_plan, check_most. -/
namespace Pb
open PySem PySem.Spec PyProof.Rows L2

abbrev sIsSound : Stmt := top 12
abbrev sCheckPlan : Stmt := top 13
abbrev sCheckMost : Stmt := top 14
def spIsSound : Sp := fun vs H Q _ => ∃ (a : Addr) (P : List (List Nat)), vs = [.ref a] ∧ PlanAt H a P ∧ IsPlan P ∧ P.length ≤ 40 ∧ ∀ H', Same H H' → Q (.bl true) H'
def spCheckPlan : Sp := fun vs H Q _ => ∃ (a : Addr) (P : List (List Nat)), vs = [.ref a] ∧ PlanAt H a P ∧ IsPlan P ∧ P.length ≤ 40 ∧ ∀ H', Same H H' → Q .non H'
def spCheckMost : Sp := fun vs H Q _ => ∃ i j : Int, vs = [.int i, .int j] ∧ i ≤ j ∧ Q .non H

theorem isI_iv (l : List Nat) : (iv l).all isI = true := by
  rw [List.all_eq_true]
  intro x hx
  obtain ⟨n, _, rfl⟩ := List.mem_map.mp hx
  rfl
theorem flat3_iv (l : List Nat) : (iv l).all flat3 = true := by
  rw [List.all_eq_true]
  intro x hx
  obtain ⟨n, _, rfl⟩ := List.mem_map.mp hx
  rfl
theorem toI_iv (l : List Nat) : (iv l).map toI = zl l := by
  unfold iv zl
  rw [List.map_map]
  rfl
theorem upTo_asc {n : Nat} : ∀ {l : List Nat} {last : Int}, l.Pairwise (· < ·) → (∀ x, x ∈ l → x < n) → (∀ x, x ∈ l → last < ((x : Nat) : Int)) → upTo (n : Int) last (zl l) = true
  | [], _, _, _, _ => rfl
  | x :: l, last, h, hb, hl => by
    rw [List.pairwise_cons] at h
    show (if ((x : Nat) : Int) ≤ last ∨ (n : Int) ≤ ((x : Nat) : Int) then false else upTo (n : Int) ((x : Nat) : Int) (zl l)) = true
    have h1 := hb x List.mem_cons_self
    have h2 := hl x List.mem_cons_self
    rw [if_neg (by omega)]
    exact upTo_asc h.2 (fun y hy => hb y (List.mem_cons_of_mem _ hy)) fun y hy => by have := h.1 y hy; omega
theorem areV_row {n : Nat} {l : List Nat} (h : l.Pairwise (· < ·)) (hb : ∀ x, x ∈ l → x < n) : areV (some (iv l)) ((n : Nat) : Int) = true := by
  show ((iv l).all isI && upTo _ (-1) ((iv l).map toI)) = true
  rw [isI_iv, toI_iv, upTo_asc h hb fun x _ => by omega]
  rfl
theorem thing_row {H : Hp} {a : Addr} {l : List Nat} (h : H a = some (.tup (iv l))) (hz : l.length ≤ 1000) : Thing H (.ref a) (some (iv l)) := .tup h (flat3_iv l) (by rw [iv_len]; exact hz)

section
variable {P : Program} {w : World} {K : PySem.W.Frag} {mg : Str → Option Value} {base : Heap} {f : Addr} {fd : FuncData}
abbrev nIsSound : List Str := ["thing", "item", "seen", "other", "known", "more"]
theorem sc_IsSound : FnScope nIsSound ["thing"] (defScope sIsSound) := ⟨rfl, rfl, rfl, by decide +kernel, rfl, by decide +kernel, by decide +kernel⟩
theorem ok_IsSound (B : Blt mg) {tk : Tok} (mI : mg "MOST_ITEMS" = some (.int 40 tk)) {f1 : Addr} {fd1 : FuncData} (C1 : Callee P w K mg base CX0 2 "are_items" f1 fd1 ["thing", "bound"] spAreItems) (F : Fun K "is_sound" "is_sound" sIsSound f fd) :
    FnOk P w K mg base CX0 3 f fd ["thing"] spIsSound := by
  refine F.ok sc_IsSound (fun vs H Q E h => ?_) (fun cdv A outer s H vs Q E hr h => ?_)
  · obtain ⟨a, p, rfl, _⟩ := h
    rfl
  obtain ⟨a, p, rfl, ⟨as, ha, hrw⟩, hP, h40, q⟩ := h
  have hu := hu_of hr
  refine ⟨_, pss_cons (ps_if (PW.pt (pw_or (pt_not (pt_val (pe_isi B rfl (pv 0) rfl B.tuple bt_tuple))) (pw_or1 (pt_cmpR op_gt (pe_callB call_len_seq rfl B.len bt_len (pa_cons (pv 0) pa_nil)) (pe_glob (v := .int 40) rfl mI ⟨_, rfl⟩) (nomark _))))) (pss_one (ps_ret pe_bl)) pss_nil)
    (pss_cons (ps_for PassesOwn.never rfl (pi_enumT rfl B.enumerate (pa_cons (pv 0) pa_nil)) (pg_tup rfl (pgs_cons (pg_name (i := 1) sc_IsSound.nd rfl (Or.inl rfl)) (pgs_cons (pg_name (i := 2) sc_IsSound.nd rfl (Or.inl rfl)) pgs_nil)))
      (pss_cons (ps_if (pt_not (pt_val (pe_c C1 hr rfl (pa_cons (pv 2) (pa_cons (pv 1) pa_nil))))) (pss_one (ps_ret pe_bl)) pss_nil)
      (pss_cons (ps_set (i := 4) sc_IsSound.nd rfl (Or.inr rfl) (pe_dc (own := [("other", 3)]) (g := gName 3) (tt := tYes) rfl sc_IsSound.nd (pi_tup (pv 2)) (blkOk_by (N := nIsSound) (sc := defScope sIsSound) (by decide +kernel))
          (fun _ _ _ _ _ => pg_name (i := 3) sc_IsSound.nd rfl (Or.inl rfl)) (fun _ _ _ _ _ => pts_nil) (fun _ _ _ _ _ => pv 3) (fun _ _ _ _ _ => pe_bl)))
      (pss_one (ps_for PassesOwn.never rfl (pi_tup (pv 2)) (pg_name (i := 3) sc_IsSound.nd rfl (Or.inl rfl))
        (pss_one (ps_if (pt_not (pt_val (pe_callB (cr_all rfl) rfl B.all bt_all (pa_cons
          (pe_lc (own := [("more", 5)]) (g := gName 5) (tt := tYes) rfl sc_IsSound.nd (pi_tup (pe_ix ix_tup (pv 0) (pv 3) (fun _ _ => rfl))) (blkOk_by (N := nIsSound) (sc := defScope sIsSound) (by decide +kernel))
            (fun _ _ _ _ _ => pg_name (i := 5) sc_IsSound.nd rfl (Or.inl rfl)) (fun _ _ _ _ _ => pts_nil) (fun _ _ _ _ _ => pe_cmp (pc_din hu (pv 5) (pv 4)) rfl)) pa_nil)))) (pss_one (ps_ret pe_bl)) pss_nil)))))))
    (pss_one (ps_ret pe_bl))), ?_⟩
  have hlen : as.length = p.length := hrw.len
  refine ⟨_, rfl, _, _, true, rfl, .tup ha, by decide +kernel, _, rfl, ?_⟩
  refine iteF ⟨_, rfl, a, _, rfl, .inr (tupT ha), _, _, rfl, rfl, _, rfl, ?_⟩
  refine if_f (decide_eq_false (by rw [refs_len]; omega)) ?_
  refine ⟨_, rfl, a, _, rfl, tupT ha, ?_⟩
  refine for_it (walk_enumT (xs := refs as)) (fun i σ H' => ∃ z1 z2 z3 z4 z5 : Option V, σ = [some (.ref a), z1, z2, z3, z4, z5] ∧ Same H H')
    ⟨none, none, none, none, none, rfl, Same.refl _⟩ (fun i σ H' _ pv => by obtain ⟨_, _, _, _, _, _, s1⟩ := pv; exact tupT (s1 _ _ ha)) ?_ ?_
  · rintro i x σ H' H'' hi ⟨z1, z2, z3, z4, z5, rfl, s1⟩ ⟨T, x1, x2, rfl, hT, rfl, ex1, ex2⟩
    have ex1' : V.int ((i : Nat) : Int) = x1 := Option.some.inj ex1
    subst ex1'
    obtain ⟨b, hb, rfl⟩ := refs_got ex2
    have hip : i < p.length := by rw [refs_len] at hi; omega
    have hbrow : H b = some (.tup (iv (seen p i))) := hrw.rw_ i b _ hb (seen_get hip)
    have s2 : Same H (upd H' T (.tup [.int ((i : Nat) : Int), .ref b])) := s1.trans (same_new hT _)
    generalize hH2 : upd H' T (.tup [.int ((i : Nat) : Int), .ref b]) = H2 at s2
    have hTt : H2 T = some (.tup [.int ((i : Nat) : Int), .ref b]) := by rw [← hH2]; exact upd_same
    have hrl : (seen p i).length ≤ 40 := by have := seen_len hP hip; omega
    refine ⟨T, _, rfl, tupT hTt, rfl, _, _, rfl, _, _, rfl, rfl, ?_⟩
    refine ⟨_, rfl, _, rfl, .ref b, _, ((i : Nat) : Int), rfl, thing_row (s2 _ _ hbrow) (by omega), fun H3 s3 => ?_⟩
    have hare : areV (some (iv (seen p i))) ((i : Nat) : Int) = true := areV_row (hP.asc i hip) (hP.lt i · hip)
    refine ⟨_, rfl, if_f (by rw [hare]; rfl) ?_⟩
    have s23 := s2.trans s3
    refine ⟨_, rfl, b, rfl, ⟨_, tupT (s23 _ _ hbrow)⟩, fun D hD => ?_⟩
    refine dc_tup (xs := iv (seen p i)) (fun j H' => Same H3 H' ∧ ∃ kvs : List (Key × V), H' D = some (.dK kvs) ∧ kvs.length ≤ j ∧ ∀ m, m ∈ (seen p i).take j → (valV kvs (.inl ((m : Nat) : Int))).isSome = true)
      ⟨same_new hD _, [], upd_same, Nat.le_refl _, fun m hm => by simp at hm⟩ (fun j H' _ pv => tupT (pv.1 _ _ (s23 _ _ hbrow))) ?_ ?_
    · rintro j y H4 hy ⟨s4, kvs, hkv, hkl, hk⟩
      obtain ⟨n, hn, rfl⟩ := iv_got hy
      have hjl : j < (seen p i).length := (List.getElem?_eq_some_iff.mp hn).1
      refine ⟨rfl, _, rfl, kvs, .inl ((n : Nat) : Int), rfl, hkv, szt (by omega), same_mut s4 hD, _, upd_same, ?_, fun m hm => ?_⟩
      · have := length_putK kvs (Sum.inl ((n : Nat) : Int)) (V.bl true)
        omega
      · rw [valV_put]
        split
        · rfl
        · rename_i hne
          rw [List.take_add_one, hn] at hm
          rcases List.mem_append.mp hm with hm | hm
          · exact hk m hm
          · have em : m = n := by simpa using hm
            exact absurd (by rw [em]) hne
    · rintro H4 ⟨s4, kvs, hkv, _, hk⟩
      rw [iv_len, List.take_length] at hk
      have s24 := s23.trans s4
      refine ⟨_, rfl, b, rfl, ⟨_, tupT (s24 _ _ hbrow)⟩, ?_⟩
      refine for_it (walk_tup (xs := iv (seen p i))) (fun j σ H' => ∃ z1 z3 z5 : Option V, σ = [some (.ref a), z1, some (.ref b), z3, some (.ref D), z5] ∧ Same H4 H')
        ⟨_, _, _, rfl, Same.refl _⟩ (fun j σ H' _ pv => by obtain ⟨_, _, _, _, s5⟩ := pv; exact tupT (s5 _ _ (s24 _ _ hbrow))) ?_ ?_
      · rintro j y σ H5 H5' hj ⟨z1, z3, z5, rfl, s5⟩ ⟨rfl, hy⟩
        obtain ⟨n, hn, rfl⟩ := iv_got hy
        have hm : n ∈ seen p i := List.mem_of_getElem? hn
        have hni : n < i := hP.lt i n hip hm
        obtain ⟨c, hc, hcr⟩ := hrw.get (seen_get (show n < p.length by omega))
        have s25 := s24.trans s5
        refine ⟨_, rfl, _, rfl, a, _, _, _, rfl, rfl, tupT (s25 _ _ ha), at_nat (refs_get hc), c, rfl, ⟨_, tupT (s25 _ _ hcr)⟩, fun D2 hD2 => ?_⟩
        refine lc_acc (walk_tup (xs := iv (seen p n))) hD2 (fun l acc _ => acc = (List.replicate l true).map V.bl) (fun l acc _ _ _ h => h) rfl (fun l acc H hl h => by
          rw [h, List.length_map, List.length_replicate]
          rw [iv_len] at hl
          have := seen_len hP (show n < p.length by omega)
          exact szt (by omega)) (fun H6 s6 => tupT (s6 _ _ (s25 _ _ hcr))) ?_ ?_
        · rintro l y H6 acc H6' Yes No hl s6 rfl ⟨rfl, hy⟩ ky kn
          obtain ⟨m, hm2, rfl⟩ := iv_got hy
          have hmi : m ∈ seen p i := hP.tr i n m hip hm (List.mem_of_getElem? hm2)
          refine ⟨rfl, _, rfl, _, rfl, D, _, rfl, DGet.k (k := Sum.inl ((m : Nat) : Int)) (s6 _ _ (s5 _ _ hkv)), ky _ _ (Same.refl _) ?_⟩
          rw [hk m hmi, List.replicate_succ', List.map_append]
          rfl
        · rintro H6 acc s6 hacc rfl
          refine ⟨D2, _, rfl, lstL hacc, _, rfl, if_f (by simp) ?_⟩
          exact ⟨_, _, _, rfl, s5.trans s6⟩
      · rintro σ H5 ⟨z1, z3, z5, rfl, s5⟩
        exact ⟨_, _, _, _, _, rfl, s24.trans s5⟩
  · rintro σ H' ⟨z1, z2, z3, z4, z5, rfl, s1⟩
    exact q _ s1
theorem sc_CheckPlan : FnScope ["thing"] ["thing"] (defScope sCheckPlan) := ⟨rfl, rfl, rfl, by decide +kernel, rfl, by decide +kernel, by decide +kernel⟩
theorem ok_CheckPlan {f1 : Addr} {fd1 : FuncData} (C1 : Callee P w K mg base CX0 3 "is_sound" f1 fd1 ["thing"] spIsSound) (F : Fun K "check_plan" "check_plan" sCheckPlan f fd) :
    FnOk P w K mg base CX0 4 f fd ["thing"] spCheckPlan := by
  refine F.ok sc_CheckPlan (fun vs H Q E h => ?_) (fun cdv A outer s H vs Q E hr h => ?_)
  · obtain ⟨a, p, rfl, _⟩ := h
    rfl
  obtain ⟨a, p, rfl, h1, h2, h3, q⟩ := h
  refine ⟨_, pss_one (ps_if (pt_not (pt_val (pe_c C1 hr rfl (pa_cons (pv 0) pa_nil)))) (pss_one ps_never) pss_nil), ?_⟩
  refine ⟨_, rfl, a, p, rfl, h1, h2, h3, fun H' s' => ⟨_, rfl, ?_⟩⟩
  exact iteF (q _ s')
theorem sc_CheckMost : FnScope ["many", "most"] ["many", "most"] (defScope sCheckMost) := ⟨rfl, rfl, rfl, by decide +kernel, rfl, by decide +kernel, by decide +kernel⟩
theorem ok_CheckMost (F : Fun K "check_most" "check_most" sCheckMost f fd) : FnOk P w K mg base CX0 1 f fd ["many", "most"] spCheckMost := by
  refine F.ok sc_CheckMost (fun vs H Q E h => ?_) (fun cdv A outer s H vs Q E hr h => ?_)
  · obtain ⟨i, j, rfl, _⟩ := h
    rfl
  obtain ⟨i, j, rfl, h1, q⟩ := h
  refine ⟨_, pss_one (ps_if (pt_cmpR op_gt (pv 0) (pv 1) (nomark _)) (pss_one ps_never) pss_nil), ?_⟩
  refine ⟨_, rfl, _, rfl, _, _, rfl, rfl, _, rfl, ?_⟩
  exact if_f (decide_eq_false (by omega)) q
end
end Pb

/-! PbC: is_chain_of, check_chain, ending_of, many_chains. -/
namespace Pb
open PySem PySem.Spec PyProof.Rows L2

abbrev sIsChainOf : Stmt := top 16
abbrev sCheckChain : Stmt := top 17
abbrev sEndingOf : Stmt := top 18
abbrev sManyChains : Stmt := top 19

def chainB (P : List (List Nat)) (l : List Nat) : Bool := !l.isEmpty && (List.range (l.length - 1)).all fun k => (seen P (l.getD (k + 1) 0)).contains (l.getD k 0)
def toN (v : V) : Nat := (toI v).toNat
def chainV (P : List (List Nat)) : Option (List V) → Bool
  | none => false
  | some vs => areV (some vs) ((P.length : Nat) : Int) && chainB P (vs.map toN)
theorem toN_iv (l : List Nat) : (iv l).map toN = l := by
  unfold iv
  rw [List.map_map]
  have e : (toN ∘ fun n : Nat => V.int ((n : Nat) : Int)) = id := by
    funext n
    show (((n : Nat) : Int)).toNat = n
    omega
  rw [e, List.map_id]
theorem upTo_nat {n : Nat} : ∀ {zs : List Int} {last : Int}, -1 ≤ last → upTo (n : Int) last zs = true → ∃ l : List Nat, zs = zl l ∧ l.Pairwise (· < ·) ∧ ∀ x, x ∈ l → x < n ∧ last < ((x : Nat) : Int)
  | [], _, _, _ => ⟨[], rfl, .nil, fun x hx => by cases hx⟩
  | z :: zs, last, hl, h => by
    have h' : (if z ≤ last ∨ (n : Int) ≤ z then false else upTo (n : Int) z zs) = true := h
    split at h'
    · cases h'
    · rename_i hn
      have h1 : last < z := by omega
      have h2 : z < (n : Int) := by omega
      obtain ⟨l, e, hp, hb⟩ := upTo_nat (n := n) (zs := zs) (last := z) (by omega) h'
      refine ⟨z.toNat :: l, ?_, ?_, ?_⟩
      · rw [e]
        show z :: zl l = ((z.toNat : Nat) : Int) :: zl l
        congr 1
        omega
      · rw [List.pairwise_cons]
        refine ⟨fun y hy => ?_, hp⟩
        have := (hb y hy).2
        omega
      · intro x hx
        rcases List.mem_cons.mp hx with rfl | hx
        · omega
        · have := hb x hx
          omega
theorem all_isI : ∀ {vs : List V}, vs.all isI = true → vs = (vs.map toI).map V.int
  | [], _ => rfl
  | v :: vs, h => by
    rw [List.all_cons, Bool.and_eq_true] at h
    have ih := all_isI h.2
    have e : v = V.int (toI v) := by
      cases v with
      | int i => rfl
      | _ => cases h.1
    rw [List.map_cons, List.map_cons, ← e, ← ih]
theorem areV_nat {n : Nat} {vs : List V} (h : areV (some vs) ((n : Nat) : Int) = true) : ∃ l : List Nat, vs = iv l ∧ l.Pairwise (· < ·) ∧ ∀ x, x ∈ l → x < n := by
  have h' : (vs.all isI && upTo _ (-1) (vs.map toI)) = true := h
  rw [Bool.and_eq_true] at h'
  obtain ⟨l, e, hp, hb⟩ := upTo_nat (by omega) h'.2
  refine ⟨l, ?_, hp, fun x hx => (hb x hx).1⟩
  rw [all_isI h'.1, e, iv_zl]
theorem chainB_of {P : List (List Nat)} {c : List Nat} (h : Chain P c) : chainB P c = true := by
  obtain ⟨h0, _, h2⟩ := h
  unfold chainB
  rw [Bool.and_eq_true]
  refine ⟨?_, ?_⟩
  · cases c with
    | nil => exact absurd rfl h0
    | cons _ _ => rfl
  · rw [List.all_eq_true]
    intro k hk
    have hk' := List.mem_range.mp hk
    have e1 : c[k]? = some (c.getD k 0) := by rw [List.getD_eq_getElem?_getD, List.getElem?_eq_getElem (by omega)]; rfl
    have e2 : c[k + 1]? = some (c.getD (k + 1) 0) := by rw [List.getD_eq_getElem?_getD, List.getElem?_eq_getElem (by omega)]; rfl
    exact List.contains_iff_mem.mpr (h2 k _ _ e1 e2)
theorem chainV_of {P : List (List Nat)} (hP : IsPlan P) {c : List Nat} (h : Chain P c) : chainV P (some (iv c)) = true := by
  show (areV (some (iv c)) _ && chainB P ((iv c).map toN)) = true
  rw [areV_row (chain_asc hP _ c rfl h) (fun x hx => h.2.1 x hx), toN_iv, chainB_of h]
  rfl

def spIsChainOf : Sp := fun vs H Q _ => ∃ (a : Addr) (P : List (List Nat)) (x : V) (o : Option (List V)), vs = [.ref a, x] ∧ PlanAt H a P ∧ IsPlan P ∧ P.length ≤ 40 ∧ Thing H x o ∧ ∀ H', Same H H' → Q (.bl (chainV P o)) H'
def spCheckChain (C : Addr) : Sp := fun vs H Q E => ∃ (a : Addr) (P : List (List Nat)) (x : V) (o : Option (List V)), vs = [.ref a, x] ∧ PlanAt H a P ∧ IsPlan P ∧ P.length ≤ 40 ∧ Thing H x o ∧
  (chainV P o = true → ∀ H', Same H H' → Q .non H') ∧ (chainV P o = false → ∀ H', Same H H' → E (.ref C) none H')
def spEndingOf : Sp := fun vs H Q _ => ∃ (a : Addr) (P : List (List Nat)), vs = [.ref a] ∧ PlanAt H a P ∧ IsPlan P ∧ P.length ≤ 40 ∧ ∀ H' p, Same H H' → H' p = some (.lst ((endList P).map V.int)) → Q (.ref p) H'
def spManyChains : Sp := fun vs H Q _ => ∃ (a : Addr) (P : List (List Nat)), vs = [.ref a] ∧ PlanAt H a P ∧ IsPlan P ∧ P.length ≤ 40 ∧ ∀ H', Same H H' → Q (.int (endList P).sum) H'
/-- what the top has written of an error's class -/
structure XTxt (K : PySem.W.Frag) (mg : Str → Option Value) (x : Str) (C : Addr) : Prop where
  g : mg x = some (.ref C)
  x : PySem.W.excIn K C [.type "ValueError", .type "Exception", .type "BaseException", .type "object"] "ValueError.__new__" = true
  k : PySem.W.keepIn K (.ref C) = true
  b : PySem.W.subIn K (.ref C) (.type "BaseException") = some true
  t : PySem.W.typeIn K (.ref C) = some (.type "type")

section
variable {P : Program} {w : World} {K : PySem.W.Frag} {mg : Str → Option Value} {base : Heap} {f : Addr} {fd : FuncData}
abbrev nIsChainOf : List Str := ["plan", "thing", "at"]
theorem sc_IsChainOf : FnScope nIsChainOf ["plan", "thing"] (defScope sIsChainOf) := ⟨rfl, rfl, rfl, by decide +kernel, rfl, by decide +kernel, by decide +kernel⟩
theorem ok_IsChainOf (B : Blt mg) {f1 : Addr} {fd1 : FuncData} (C1 : Callee P w K mg base CX0 2 "are_items" f1 fd1 ["thing", "bound"] spAreItems) (F : Fun K "is_chain_of" "is_chain_of" sIsChainOf f fd) :
    FnOk P w K mg base CX0 3 f fd ["plan", "thing"] spIsChainOf := by
  refine F.ok sc_IsChainOf (fun vs H Q E h => ?_) (fun cdv A outer s H vs Q E hr h => ?_)
  · obtain ⟨a, p, x, o, rfl, _⟩ := h
    rfl
  obtain ⟨a, p, x, o, rfl, ⟨as, ha, hrw⟩, hP, h40, ht, q⟩ := h
  refine ⟨_, pss_cons (ps_if (PW.pt (pw_or (pt_not (pt_val (pe_c C1 hr rfl (pa_cons (pv 1) (pa_cons (pe_callB call_len_seq rfl B.len bt_len (pa_cons (pv 0) pa_nil)) pa_nil))))) (pw_or1 (pt_cmpR op_eq (pe_callB call_len_seq rfl B.len bt_len (pa_cons (pv 1) pa_nil)) pe_int (nomark _))))) (pss_one (ps_ret pe_bl)) pss_nil)
    (pss_one (ps_ret (pe_callB (cr_all rfl) rfl B.all bt_all (pa_cons
      (pe_lc (own := [("at", 2)]) (g := gName 2) (tt := tYes) (te := tOp (rIn K false) (tOp (rIxT K) (tVar 1) (tVar 2)) (tOp (rIxT K) (tVar 0) (tOp (rIxT K) (tVar 1) (tOp (rI0 fun i j => .int (i + j)) (tVar 2) (tC (.int 1)))))) rfl sc_IsChainOf.nd (pi_range1 rfl B.range (pa_cons (pe_op op_sub (pe_callB call_len_seq rfl B.len bt_len (pa_cons (pv 1) pa_nil)) pe_int) pa_nil)) (blkOk_by (N := nIsChainOf) (sc := defScope sIsChainOf) (by decide +kernel))
        (fun _ _ _ _ _ => pg_name (i := 2) sc_IsChainOf.nd rfl (Or.inl rfl)) (fun _ _ _ _ _ => pts_nil)
        (fun _ _ _ _ _ => pe_cmpR op_in_seq (pe_ix ix_tup (pv 1) (pv 2) (fun _ _ => rfl)) (pe_ix ix_tup (pv 0) (pe_ix ix_tup (pv 1) (pe_op op_add (pv 2) pe_int) (fun _ _ => rfl)) (fun _ _ => rfl)) (by rfl))) pa_nil)))), ?_⟩
  have hlen : as.length = p.length := hrw.len
  refine ⟨_, rfl, _, rfl, a, _, rfl, .inr (tupT ha), x, o, (((refs as).length : Nat) : Int), rfl, ht, fun H1 s1 => ⟨_, rfl, ?_⟩⟩
  rw [refs_len, hlen]
  cases ht with
  | non => exact if_t rfl (q _ s1)
  | str y => exact if_t rfl (q _ s1)
  | lst e => exact if_t rfl (q _ s1)
  | @tup b xs e hf hz =>
    by_cases hare : areV (some xs) ((p.length : Nat) : Int) = true
    · obtain ⟨l, rfl, hasc, hlb⟩ := areV_nat hare
      have ecv : chainV p (some (iv l)) = chainB p l := by
        show (areV (some (iv l)) _ && chainB p ((iv l).map toN)) = _
        rw [hare, toN_iv, Bool.true_and]
      rw [ecv] at q
      refine if_f (by rw [hare]; rfl) ?_
      refine ⟨_, rfl, b, _, rfl, .inr (tupT (s1 _ _ e)), rfl, _, rfl, ?_⟩
      by_cases hl0 : l = []
      · subst hl0
        exact if_t (by decide) (q _ s1)
      · have hlp : 0 < l.length := List.length_pos_iff.mpr hl0
        refine if_f (decide_eq_false (by
          intro z
          have z' := V.int.inj z
          rw [iv_len] at z'
          omega)) ?_
        rw [iv_len] at hz
        refine ⟨_, rfl, b, _, rfl, .inr (tupT (s1 _ _ e)), _, _, rfl, rfl, (((iv l).length : Nat) : Int) - 1, rfl, by rw [iv_len]; omega, by rw [iv_len]; omega, fun D hD => ?_⟩
        rw [iv_len]
        have en : ((l.length : Int) - 1).toNat = l.length - 1 := by omega
        rw [en]
        refine lc_acc walk_range hD (fun j acc _ => acc = (((List.range j).map fun k => (seen p (l.getD (k + 1) 0)).contains (l.getD k 0)).map V.bl)) (fun j acc _ _ _ h => h) rfl (fun j acc H hj h => by
          rw [h, List.length_map, List.length_map, List.length_range]
          exact szt (by omega)) (fun _ _ => trivial) ?_ ?_
        · rintro j y H2 acc H2' Yes No hj s2 rfl ⟨rfl, rfl⟩ ky kn
          have s12 := s1.trans s2
          have e1 : l[j]? = some (l.getD j 0) := by rw [List.getD_eq_getElem?_getD, List.getElem?_eq_getElem (by omega)]; rfl
          have e2 : l[j + 1]? = some (l.getD (j + 1) 0) := by rw [List.getD_eq_getElem?_getD, List.getElem?_eq_getElem (by omega)]; rfl
          have hlt : l.getD (j + 1) 0 < p.length := hlb _ (List.mem_of_getElem? e2)
          obtain ⟨c, hc, hcr⟩ := hrw.get (seen_get hlt)
          have ej : (0 : Int) + ((j : Nat) : Int) = ((j : Nat) : Int) := by omega
          have ej1 : (0 : Int) + ((j : Nat) : Int) + 1 = ((j + 1 : Nat) : Int) := by omega
          refine ⟨rfl, _, rfl, _, rfl, b, _, _, _, rfl, rfl, tupT (s12 _ _ e), at_of ej (iv_get e1), _, rfl, _, rfl, _, rfl, _, _, rfl, rfl, b, _, _, _, rfl, rfl, tupT (s12 _ _ e), at_of ej1 (iv_get e2), a, _, _, _, rfl, rfl, tupT (s12 _ _ ha), at_nat (refs_get hc), ?_⟩
          refine ⟨c, _, rfl, .inr (tupT (s12 _ _ hcr)), rfl, flat_iv _, ky _ _ (Same.refl _) ?_⟩
          show _ = _
          rw [List.range_succ, List.map_append, List.map_append]
          congr 1
          show [V.bl (inV (V.int ((l.getD j 0 : Nat) : Int)) (iv (seen p (l.getD (j + 1) 0))))] = _
          rw [inV_iv]
          rfl
        · rintro H2 acc s2 hacc rfl
          refine ⟨D, _, rfl, lstL hacc, ?_⟩
          refine q_of ?_ (q _ (s1.trans s2))
          rw [List.all_map]
          unfold chainB
          have e3 : l.isEmpty = false := by
            cases l with
            | nil => exact absurd rfl hl0
            | cons _ _ => rfl
          rw [e3]
          rfl
    · have hare' : areV (some xs) ((p.length : Nat) : Int) = false := Bool.eq_false_iff.mpr hare
      have ecv : chainV p (some xs) = false := by
        show (areV (some xs) _ && _) = false
        rw [hare', Bool.false_and]
      rw [ecv] at q
      exact if_t (by rw [hare']; rfl) (q _ s1)
theorem sc_CheckChain : FnScope ["plan", "thing"] ["plan", "thing"] (defScope sCheckChain) := ⟨rfl, rfl, rfl, by decide +kernel, rfl, by decide +kernel, by decide +kernel⟩
theorem ok_CheckChain {C : Addr} (T : XTxt K mg "NoChain" C) {f1 : Addr} {fd1 : FuncData} (C1 : Callee P w K mg base CX0 3 "is_chain_of" f1 fd1 ["plan", "thing"] spIsChainOf) (F : Fun K "check_chain" "check_chain" sCheckChain f fd) :
    FnOk P w K mg base (L2.CX P w) 4 f fd ["plan", "thing"] (spCheckChain C) := by
  refine F.okX sc_CheckChain (fun vs H Q E h => ?_) (fun cdv A outer s H vs Q E hr h => ?_)
  · obtain ⟨a, p, x, o, rfl, _⟩ := h
    rfl
  obtain ⟨a, p, x, o, rfl, h1, h2, h3, h4, q1, q2⟩ := h
  refine ⟨_, pss_one (ps_if (pt_not (pt_val (pe_c C1 hr rfl (pa_cons (pv 0) (pa_cons (pv 1) pa_nil))))) (pss_one (ps_raise rfl (takes_of rfl rfl rfl rfl) (pmk_own0 PySem.F.excBase_ValueError T.x T.g T.k (raises_own T.b T.t) rfl))) pss_nil), ?_⟩
  refine ⟨_, rfl, _, rfl, a, p, x, o, rfl, h1, h2, h3, h4, fun H' s' => ⟨_, rfl, ?_⟩⟩
  cases e : chainV p o with
  | true => exact iteF (q1 e _ s')
  | false => exact iteT (q2 e _ s')
abbrev nEndingOf : List Str := ["plan", "found", "seen", "item"]
theorem sc_EndingOf : FnScope nEndingOf ["plan"] (defScope sEndingOf) := ⟨rfl, rfl, rfl, by decide +kernel, rfl, by decide +kernel, by decide +kernel⟩
theorem endList_take {p : List (List Nat)} {i : Nat} (hi : i < p.length) : endList (p.take (i + 1)) = endStep (endList (p.take i)) (seen p i) := by
  rw [List.take_add_one, seen_get hi]
  exact endList_snoc _ _
theorem endList_len (p : List (List Nat)) : (endList p).length = p.length := by
  refine list_snoc_ind (p := fun p => (endList p).length = p.length) rfl ?_ p
  intro l a h
  rw [endList_snoc]
  unfold endStep
  rw [List.length_append, List.length_append, h]
  rfl
theorem ok_EndingOf (B : Blt mg) (F : Fun K "ending_of" "ending_of" sEndingOf f fd) : FnOk P w K mg base CX0 1 f fd ["plan"] spEndingOf := by
  refine F.ok sc_EndingOf (fun vs H Q E h => ?_) (fun cdv A outer s H vs Q E hr h => ?_)
  · obtain ⟨a, p, rfl, _⟩ := h
    rfl
  obtain ⟨a, p, rfl, ⟨as, ha, hrw⟩, hP, h40, q⟩ := h
  refine ⟨_, pss_cons (ps_set (i := 1) sc_EndingOf.nd rfl (Or.inr rfl) (pe_lst pa_nil))
    (pss_cons (ps_for PassesOwn.never rfl (pi_tup (pv 0)) (pg_name (i := 2) sc_EndingOf.nd rfl (Or.inl rfl))
      (pss_one (ps_expr (pe_bm PySem.F.plainAttrs_list PySem.F.slot_list_append PySem.F.type_list_append mt_append (pv 1) (pa_cons (pe_op op_add pe_int (pe_callB (cr_sum rfl) rfl B.sum bt_sum (pa_cons
        (pe_lc (own := [("item", 3)]) (g := gName 3) (tt := tYes) (te := tOp (rIxL K) (tVar 1) (tVar 3)) rfl sc_EndingOf.nd (pi_tup (pv 2)) (blkOk_by (N := nEndingOf) (sc := defScope sEndingOf) (by decide +kernel))
          (fun _ _ _ _ _ => pg_name (i := 3) sc_EndingOf.nd rfl (Or.inl rfl)) (fun _ _ _ _ _ => pts_nil) (fun _ _ _ _ _ => pe_ix ix_list (pv 1) (pv 3) (fun _ _ => rfl))) pa_nil))) pa_nil)))))
    (pss_one (ps_ret (pv 1)))), ?_⟩
  have hlen : as.length = p.length := hrw.len
  refine ⟨(by show 0 ≤ sizeLine; decide), fun l hl => ?_⟩
  refine ⟨_, rfl, a, rfl, ⟨_, tupT (same_new hl _ _ _ ha)⟩, ?_⟩
  refine for_it (walk_tup (xs := refs as)) (fun i σ H' => ∃ z1 z2 : Option V, σ = [some (.ref a), some (.ref l), z1, z2] ∧ Same H H' ∧ H' l = some (.lst ((endList (p.take i)).map V.int)))
    ⟨_, _, rfl, same_new hl _, upd_same⟩ (fun i σ H' _ pv => by obtain ⟨_, _, _, s1, _⟩ := pv; exact tupT (s1 _ _ ha)) ?_ ?_
  · rintro i x σ H' H'' hi ⟨z1, z2, rfl, s1, hl1⟩ ⟨rfl, hx⟩
    obtain ⟨b, hb, rfl⟩ := refs_got hx
    rw [refs_len] at hi
    have hip : i < p.length := by omega
    have hbrow : H b = some (.tup (iv (seen p i))) := hrw.rw_ i b _ hb (seen_get hip)
    have hrl : (seen p i).length ≤ 40 := by have := seen_len hP hip; omega
    refine ⟨_, rfl, .inl ⟨rfl, _, lstL hl1⟩, _, rfl, b, rfl, ⟨_, tupT (s1 _ _ hbrow)⟩, fun D hD => ?_⟩
    have hlenE : (endList (p.take i)).length = i := by rw [endList_len, List.length_take]; omega
    refine lc_acc (walk_tup (xs := iv (seen p i))) hD (fun j acc _ => acc = (((seen p i).take j).map fun x => (endList (p.take i)).getD x 0).map V.int) (fun j acc _ _ _ h => h) rfl (fun j acc H hj h => by
      rw [h, List.length_map, List.length_map, List.length_take]
      exact szt (by omega)) (fun H2 s2 => tupT (s2 _ _ (s1 _ _ hbrow))) ?_ ?_
    · rintro j y H2 acc H2' Yes No hj s2 rfl ⟨rfl, hy⟩ ky kn
      obtain ⟨n, hn, rfl⟩ := iv_got hy
      have hni : n < i := hP.lt i n hip (List.mem_of_getElem? hn)
      have eg : ((endList (p.take i)).map V.int)[n]? = some (.int ((endList (p.take i)).getD n 0)) := by
        rw [List.getElem?_map, List.getD_eq_getElem?_getD, List.getElem?_eq_getElem (by omega)]
        rfl
      refine ⟨rfl, _, rfl, _, rfl, l, _, _, _, rfl, rfl, lstL (s2 _ _ hl1), at_nat eg, ky _ _ (Same.refl _) ?_⟩
      rw [all_take hn, List.map_append]
      rfl
    · rintro H2 acc s2 hacc rfl
      rw [iv_len, List.take_length] at hacc
      refine ⟨D, _, rfl, lstL hacc, _, _, rfl, rfl, l, _, _, rfl, rfl, s2 _ _ hl1, szt (by rw [List.length_map]; omega), ?_⟩
      refine ⟨_, _, rfl, same_mut (s1.trans s2) hl, ?_⟩
      rw [endList_take hip]
      unfold endStep
      rw [List.map_append]
      exact upd_same
  · rintro σ H' ⟨z1, z2, rfl, s1, hl1⟩
    rw [refs_len, hlen, List.take_length] at hl1
    exact ⟨_, rfl, q _ _ s1 hl1⟩
theorem sc_ManyChains : FnScope ["plan"] ["plan"] (defScope sManyChains) := ⟨rfl, rfl, rfl, by decide +kernel, rfl, by decide +kernel, by decide +kernel⟩
theorem ok_ManyChains (B : Blt mg) {f1 : Addr} {fd1 : FuncData} (C1 : Callee P w K mg base CX0 1 "ending_of" f1 fd1 ["plan"] spEndingOf) (F : Fun K "many_chains" "many_chains" sManyChains f fd) : FnOk P w K mg base CX0 2 f fd ["plan"] spManyChains := by
  refine F.ok sc_ManyChains (fun vs H Q E h => ?_) (fun cdv A outer s H vs Q E hr h => ?_)
  · obtain ⟨a, p, rfl, _⟩ := h
    rfl
  obtain ⟨a, p, rfl, h1, h2, h3, q⟩ := h
  refine ⟨_, pss_one (ps_ret (pe_callB (cr_sum rfl) rfl B.sum bt_sum (pa_cons (pe_c C1 hr rfl (pa_cons (pv 0) pa_nil)) pa_nil))), ?_⟩
  exact ⟨_, rfl, a, p, rfl, h1, h2, h3, fun H' l s' hl => ⟨l, _, rfl, lstL hl, q _ s'⟩⟩
end
end Pb

/-! PbD: chain_key, later_items, listed_chains, all_chains. -/
namespace Pb
open PySem PySem.Spec PyProof.Rows L2

abbrev sChainKey : Stmt := top 22
abbrev sLaterItems : Stmt := top 23
abbrev sListedChains : Stmt := top 24
abbrev sAllChains : Stmt := top 25
def kv (c : List Nat) : List V := (key c).map V.int
theorem kv_len (c : List Nat) : (kv c).length = c.length := by unfold kv key; rw [List.length_map, List.length_map]
def spChainKey : Sp := fun vs H Q _ => ∃ (a : Addr) (c : List Nat), vs = [.ref a] ∧ H a = some (.tup (iv c)) ∧ c.length ≤ 1000 ∧ ∀ H' p, Same H H' → H' p = some (.tup (kv c)) → Q (.ref p) H'
def spLaterItems : Sp := fun vs H Q _ => ∃ (a : Addr) (P : List (List Nat)) (x : Nat), vs = [.ref a, .int ((x : Nat) : Int), .int 0] ∧ PlanAt H a P ∧ P.length ≤ 40 ∧ ∀ H' p, Same H H' → H' p = some (.lst (iv (kids P x))) → Q (.ref p) H'
def spListedChains : Sp := fun vs H Q _ => ∃ (a : Addr) (P : List (List Nat)), vs = [.ref a] ∧ PlanAt H a P ∧ IsPlan P ∧ P.length ≤ 6 ∧ ∀ H' p, Same H H' → RowsAt H' p (allCh P) → Q (.ref p) H'

def downI (n i : Nat) : List Nat := (List.range i).map fun k => n - 1 - k
theorem downI_succ (n i : Nat) : downI n (i + 1) = downI n i ++ [n - 1 - i] := by unfold downI; rw [List.range_succ, List.map_append]; rfl
def kidsI (P : List (List Nat)) (x i : Nat) : List Nat := (downI P.length i).filter fun it => (seen P it).contains x
theorem kidsI_succ (P : List (List Nat)) (x i : Nat) : kidsI P x (i + 1) = kidsI P x i ++ (if (seen P (P.length - 1 - i)).contains x then [P.length - 1 - i] else []) := by
  unfold kidsI
  rw [downI_succ, List.filter_append]
  congr 1
  by_cases h : (seen P (P.length - 1 - i)).contains x = true
  · rw [if_pos h]
    exact List.filter_cons_of_pos h
  · rw [if_neg h]
    exact List.filter_cons_of_neg h
theorem kidsI_len (P : List (List Nat)) (x i : Nat) : (kidsI P x i).length ≤ i := by
  refine Nat.le_trans (List.length_filter_le _ _) ?_
  unfold downI
  rw [List.length_map, List.length_range]
  exact Nat.le_refl _

section
variable {P : Program} {w : World} {K : PySem.W.Frag} {mg : Str → Option Value} {base : Heap} {f : Addr} {fd : FuncData}
abbrev nChainKey : List Str := ["chain", "item"]
theorem sc_ChainKey : FnScope nChainKey ["chain"] (defScope sChainKey) := ⟨rfl, rfl, rfl, by decide +kernel, rfl, by decide +kernel, by decide +kernel⟩
theorem ok_ChainKey (B : Blt mg) (F : Fun K "chain_key" "chain_key" sChainKey f fd) : FnOk P w K mg base CX0 1 f fd ["chain"] spChainKey := by
  refine F.ok sc_ChainKey (fun vs H Q E h => ?_) (fun cdv A outer s H vs Q E hr h => ?_)
  · obtain ⟨a, c, rfl, _⟩ := h
    rfl
  obtain ⟨a, c, rfl, ha, hz, q⟩ := h
  refine ⟨_, pss_one (ps_ret (pe_callTy call_tuple_of rfl B.tuple bt_tuple (pa_cons (pe_lc (own := [("item", 1)]) (g := gName 1) (tt := tYes) rfl sc_ChainKey.nd (pi_tup (pv 0)) (blkOk_by (N := nChainKey) (sc := defScope sChainKey) (by decide +kernel))
      (fun _ _ _ _ _ => pg_name (i := 1) sc_ChainKey.nd rfl (Or.inl rfl)) (fun _ _ _ _ _ => pts_nil) (fun _ _ _ _ _ => pe_un un_neg (pv 1))) pa_nil))), ?_⟩
  refine ⟨_, rfl, a, rfl, ⟨_, tupT ha⟩, fun D hD => ?_⟩
  refine lc_acc (walk_tup (xs := iv c)) hD (fun j acc _ => acc = (key (c.take j)).map V.int) (fun j acc _ _ _ h => h) rfl (fun j acc H hj h => by
    rw [h]
    show (kv _).length < _
    rw [kv_len, List.length_take]
    exact szt (by omega)) (fun H2 s2 => tupT (s2 _ _ ha)) ?_ ?_
  · rintro j y H2 acc H2' Yes No hj s2 rfl ⟨rfl, hy⟩ ky kn
    obtain ⟨n, hn, rfl⟩ := iv_got hy
    refine ⟨rfl, _, rfl, _, rfl, ky _ _ (Same.refl _) ?_⟩
    unfold key
    rw [all_take hn, List.map_append]
    rfl
  · rintro H2 acc s2 hacc rfl
    rw [iv_len, List.take_length] at hacc
    refine ⟨D, _, rfl, .inl ⟨lstL hacc, fun p hp => q _ p (s2.trans (same_new hp _)) upd_same⟩⟩

theorem sc_LaterItems : FnScope ["plan", "last", "low", "found", "item"] ["plan", "last", "low"] (defScope sLaterItems) := ⟨rfl, rfl, rfl, by decide +kernel, rfl, by decide +kernel, by decide +kernel⟩
theorem ok_LaterItems (B : Blt mg) (F : Fun K "later_items" "later_items" sLaterItems f fd) : FnOk P w K mg base CX0 1 f fd ["plan", "last", "low"] spLaterItems := by
  refine F.ok sc_LaterItems (fun vs H Q E h => ?_) (fun cdv A outer s H vs Q E hr h => ?_)
  · obtain ⟨a, p, x, rfl, _⟩ := h
    rfl
  obtain ⟨a, p, x, rfl, ⟨as, ha, hrw⟩, h40, q⟩ := h
  refine ⟨_, pss_cons (ps_set (i := 3) sc_LaterItems.nd rfl (Or.inl rfl) (pe_lst pa_nil))
    (pss_cons (ps_for PassesOwn.never rfl (pi_range3 rfl B.range (pa_cons (pe_op op_sub (pe_callB call_len_seq rfl B.len bt_len (pa_cons (pv 0) pa_nil)) pe_int) (pa_cons (pe_op op_sub (pv 2) pe_int) (pa_cons (pe_un un_neg pe_int) pa_nil)))) (pg_name (i := 4) sc_LaterItems.nd rfl (Or.inl rfl))
      (pss_one (ps_if (PW.pt (pw_or (pt_cmpR op_isN (pv 1) pe_non (nomark _)) (pw_or1 (pt_cmpR op_in_seq (pv 1) (pe_ix ix_tup (pv 0) (pv 4) (fun _ _ => rfl)) (by rfl)))))
        (pss_one (ps_expr (pe_bm PySem.F.plainAttrs_list PySem.F.slot_list_append PySem.F.type_list_append mt_append (pv 3) (pa_cons (pv 4) pa_nil)))) pss_nil)))
    (pss_one (ps_ret (pv 3)))), ?_⟩
  have hlen : as.length = p.length := hrw.len
  refine ⟨(by show 0 ≤ sizeLine; decide), fun l hl => ?_⟩
  refine ⟨_, rfl, a, _, rfl, .inr (tupT (same_new hl _ _ _ ha)), _, _, rfl, rfl, _, rfl, _, _, rfl, rfl, _, rfl, (((refs as).length : Nat) : Int) - 1, -1, -1, p.length, rfl, ?_, ?_⟩
  · have e : ((((refs as).length : Nat) : Int) - 1 - (-1)).toNat = p.length := by rw [refs_len]; omega
    have z := RgC.neg (i := (((refs as).length : Nat) : Int) - 1) (j := -1) (by rw [refs_len]; omega) (by rw [refs_len]; omega) (by omega) (by omega)
    rw [e] at z
    exact z
  refine for_rangeC (fun i σ H' => ∃ z : Option V, σ = [some (.ref a), some (.int ((x : Nat) : Int)), some (.int 0), some (.ref l), z] ∧ Same H H' ∧ H' l = some (.lst (iv (kidsI p x i))))
    ⟨_, rfl, same_new hl _, upd_same⟩ ?_ ?_
  · rintro i σ H' hi ⟨z, rfl, s1, hl1⟩
    have ev : (((refs as).length : Nat) : Int) - 1 + ((i : Nat) : Int) * (-1) = ((p.length - 1 - i : Nat) : Int) := by rw [refs_len]; omega
    rw [ev]
    obtain ⟨c, hc, hcr⟩ := hrw.get (seen_get (show p.length - 1 - i < p.length by omega))
    refine ⟨_, rfl, rfl, _, rfl, ?_⟩
    refine if_f (decide_eq_false fun z => by cases z) ?_
    refine ⟨_, rfl, _, rfl, _, rfl, a, _, _, _, rfl, rfl, tupT (s1 _ _ ha), at_nat (refs_get hc), c, _, rfl, .inr (tupT (s1 _ _ hcr)), rfl, flat_iv _, _, rfl, ?_⟩
    show (if inV (V.int ((x : Nat) : Int)) (iv (seen p (p.length - 1 - i))) = true then _ else _)
    rw [inV_iv]
    by_cases hin : (seen p (p.length - 1 - i)).contains x = true
    · refine if_t hin ?_
      refine ⟨_, rfl, .inl ⟨rfl, _, lstL hl1⟩, _, rfl, l, _, _, rfl, rfl, hl1, szt (by rw [iv_len]; have := kidsI_len p x i; omega), ?_⟩
      refine ⟨_, rfl, same_mut s1 hl, ?_⟩
      rw [kidsI_succ, if_pos hin, iv_app]
      exact upd_same
    · refine if_f (Bool.eq_false_iff.mpr hin) ?_
      refine ⟨_, rfl, s1, ?_⟩
      rw [kidsI_succ, if_neg hin, List.append_nil]
      exact hl1
  · rintro σ H' ⟨z, rfl, s1, hl1⟩
    exact ⟨_, rfl, q _ _ s1 hl1⟩

abbrev nListedChains : List Str := ["plan", "found", "waiting", "chain", "item"]
theorem sc_ListedChains : FnScope nListedChains ["plan"] (defScope sListedChains) := ⟨rfl, rfl, rfl, by decide +kernel, rfl, by decide +kernel, by decide +kernel⟩
theorem ones_rev (P : List (List Nat)) : (((List.range P.length).map fun i => [i]).reverse).flatMap (frm P) = allCh P := by
  unfold allCh
  have e : (((List.range P.length).map fun i => [i]).reverse) = (down P.length).map fun i => [i] := by
    unfold down
    rw [← List.map_reverse, List.map_map]
    refine List.ext_getElem (by simp) fun k h1 h2 => ?_
    simp at h1
    simp
  rw [e, List.flatMap_map]
theorem ok_ListedChains (B : Blt mg) {f1 : Addr} {fd1 : FuncData} (C1 : Callee P w K mg base CX0 1 "later_items" f1 fd1 ["plan", "last", "low"] spLaterItems) (F : Fun K "listed_chains" "listed_chains" sListedChains f fd) :
    FnOk P w K mg base CX0 2 f fd ["plan"] spListedChains := by
  refine F.ok sc_ListedChains (fun vs H Q E h => ?_) (fun cdv A outer s H vs Q E hr h => ?_)
  · obtain ⟨a, p, rfl, _⟩ := h
    rfl
  obtain ⟨a, p, rfl, ⟨as, ha, hrw⟩, hP, h6, q⟩ := h
  refine ⟨_, pss_cons (ps_set (i := 1) sc_ListedChains.nd rfl (Or.inl rfl) (pe_lst pa_nil))
    (pss_cons (ps_setLc (i := 2) (own := [("item", 4)]) (g := gName 4) (tt := tYes) (te := tTup (tCons (tVar 4) tNil)) (by rfl) sc_ListedChains.nd rfl rfl (sw_true rfl rfl rfl (by decide +kernel)) (pi_range1 rfl B.range (pa_cons (pe_callB call_len_seq rfl B.len bt_len (pa_cons (pv 0) pa_nil)) pa_nil)) (blkOk_by (N := nListedChains) (sc := defScope sListedChains) (by decide +kernel))
      (fun _ _ _ _ _ => pg_name (i := 4) sc_ListedChains.nd rfl (Or.inl rfl)) (fun _ _ _ _ _ => pts_nil) (fun _ _ _ _ _ => pe_tup (pa_cons (pv 4) pa_nil)))
    (pss_cons (ps_while PassesOwn.never (pt_cmpR op_gt (pe_callB call_len_seq rfl B.len bt_len (pa_cons (pv 2) pa_nil)) pe_int (nomark _))
      (pss_cons (ps_set (i := 3) sc_ListedChains.nd rfl (Or.inr rfl) (pe_bm0 PySem.F.plainAttrs_list PySem.F.slot_list_pop PySem.F.type_list_pop mt_pop (pv 2)))
      (pss_cons (ps_expr (pe_bm PySem.F.plainAttrs_list PySem.F.slot_list_append PySem.F.type_list_append mt_append (pv 1) (pa_cons (pv 3) pa_nil)))
      (pss_one (ps_expr (pe_bm PySem.F.plainAttrs_list PySem.F.slot_list_extend PySem.F.type_list_extend mt_extend (pv 2) (pa_cons
        (pe_lc (own := [("item", 4)]) (g := gName 4) (tt := tYes) (te := tOp (rCatT K) (tVar 3) (tTup (tCons (tVar 4) tNil))) rfl sc_ListedChains.nd (pi_list (pe_revL (pe_c C1 hr rfl (pa_cons (pv 0) (pa_cons (pe_ix ix_tup (pv 3) (pe_un un_neg pe_int) (fun _ _ => rfl)) (pa_cons pe_int pa_nil)))))) (blkOk_by (N := nListedChains) (sc := defScope sListedChains) (by decide +kernel))
          (fun _ _ _ _ _ => pg_name (i := 4) sc_ListedChains.nd rfl (Or.inl rfl)) (fun _ _ _ _ _ => pts_nil) (fun _ _ _ _ _ => pe_op op_catT (pv 3) (pe_tup (pa_cons (pv 4) pa_nil)))) pa_nil)))))))
    (pss_one (ps_ret (pv 1))))), ?_⟩
  have hlen : as.length = p.length := hrw.len
  refine ⟨(by show 0 ≤ sizeLine; decide), fun l hl => ?_⟩
  have s0 : Same H (upd H l (.lst [])) := same_new hl _
  have hl0 : upd H l (.lst []) l = some (.lst []) := upd_same
  generalize upd H l (.lst []) = H0 at s0 hl0
  refine ⟨_, rfl, a, _, rfl, .inr (tupT (s0 _ _ ha)), (((refs as).length : Nat) : Int), rfl, by rw [refs_len]; omega, by rw [refs_len]; omega, fun D hD => ?_⟩
  have en : ((((refs as).length : Nat) : Int)).toNat = p.length := by rw [refs_len]; omega
  rw [en]
  refine lc_acc walk_range0 hD (fun j acc H' => ∃ ds, acc = refs ds ∧ Rws H' ds ((List.range j).map fun i => [i])) (fun j acc _ _ t h => by
    obtain ⟨ds, h1, h2⟩ := h
    exact ⟨ds, h1, h2.tk t⟩) ⟨[], rfl, .nil⟩ (fun j acc H hj h => by
      obtain ⟨ds, h1, h2⟩ := h
      have := h2.len
      rw [List.length_map, List.length_range] at this
      rw [h1, refs_len]
      exact szt (by omega)) (fun _ _ => trivial) ?_ ?_
  · rintro j y H2 acc H2' Yes No hj s2 ⟨ds, rfl, hds⟩ ⟨rfl, rfl⟩ ky kn
    refine ⟨rfl, _, rfl, (by show 1 ≤ sizeLine; decide), fun t ht => ky _ _ (same_new ht _) ⟨ds ++ [t], by rw [refs_app]; rfl, ?_⟩⟩
    rw [List.range_succ, List.map_append]
    exact (hds.tk (tk_new ht _)).snoc upd_same
  · rintro H2 acc s2 hacc ⟨ds, rfl, hds⟩
    have hne : l ≠ D := ne_of_none hl0 hD
    refine ⟨fun m σ H' => ∃ (z1 z2 : Option V) (fnd wt : List (List Nat)) (fs bs : List Addr), σ = [some (.ref a), some (.ref l), some (.ref D), z1, z2] ∧ Same H H' ∧ H' l = some (.lst (refs fs)) ∧ Rws H' fs fnd ∧ H' D = some (.lst (refs bs)) ∧ Rws H' bs wt ∧
      fnd ++ wt.reverse.flatMap (frm p) = allCh p ∧ (∀ c, c ∈ wt → Chain p c) ∧ m = (wt.reverse.flatMap (frm p)).length, ⟨_, none, none, [], _, [], ds, rfl, s0.trans s2, s2 _ _ hl0, .nil, hacc, hds, ones_rev p, ?_, rfl⟩, ?_⟩
    · intro c hc
      obtain ⟨i, hi, rfl⟩ := List.mem_map.mp hc
      exact chain_one (List.mem_range.mp hi)
    · rintro m σ H3 ⟨z1, z2, fnd, wt, fs, bs, rfl, s3, hl3, hf3, hD3, hb3, hall, hch, rfl⟩
      have hzl : (allCh p).length ≤ 360000 := allCh_len h6
      have hfl : fnd.length ≤ 360000 := by rw [← hall, List.length_append] at hzl; omega
      refine ⟨_, rfl, D, _, rfl, .inl (lstL hD3), _, _, rfl, rfl, _, rfl, ?_⟩
      by_cases hw : wt = []
      · subst hw
        have hbl : bs.length = 0 := hb3.len
        refine if_f (decide_eq_false (by rw [refs_len, hbl]; decide)) ?_
        refine ⟨_, rfl, q _ _ s3 ⟨fs, hl3, ?_⟩⟩
        have e : fnd = allCh p := by rw [← hall]; simp
        rw [← e]
        exact hf3
      · obtain ⟨wt', c, rfl⟩ : ∃ wt' c, wt = wt' ++ [c] := ⟨_, _, (List.dropLast_concat_getLast hw).symm⟩
        have hbl : bs.length = wt'.length + 1 := by rw [hb3.len, List.length_append]; rfl
        have hbn : bs ≠ [] := by
          intro z
          rw [z] at hbl
          cases hbl
        obtain ⟨bs', b, rfl⟩ : ∃ bs' b, bs = bs' ++ [b] := ⟨_, _, (List.dropLast_concat_getLast hbn).symm⟩
        have hbl' : bs'.length = wt'.length := by rw [List.length_append] at hbl; simpa using hbl
        have hcb : H3 b = some (.tup (iv c)) := hb3.rw_ wt'.length b c (by rw [← hbl']; simp) (by simp)
        have hb' : Rws H3 bs' wt' := by
          have z := hb3.take wt'.length
          rw [← hbl', List.take_left, hbl', List.take_left] at z
          exact z
        have hc := hch c (by simp)
        have hcl : c.length ≤ 6 := by have := chain_len hP hc; omega
        refine if_t (decide_eq_true (by rw [refs_len, hbl]; omega)) ?_
        refine ⟨fun σ' H' => ∃ (z1 z2 : Option V) (fnd2 wt2 : List (List Nat)) (fs bs : List Addr), σ' = [some (.ref a), some (.ref l), some (.ref D), z1, z2] ∧ Same H H' ∧ H' l = some (.lst (refs fs)) ∧ Rws H' fs fnd2 ∧ H' D = some (.lst (refs bs)) ∧ Rws H' bs wt2 ∧
          fnd2 ++ wt2.reverse.flatMap (frm p) = allCh p ∧ (∀ c, c ∈ wt2 → Chain p c) ∧ (wt2.reverse.flatMap (frm p)).length < ((wt' ++ [c]).reverse.flatMap (frm p)).length, fun σ' H' ⟨z1, z2, fnd2, wt2, fs, bs, g1, g2, g3, g4, g5, g6, g7, g8, g9⟩ => ⟨_, g9, z1, z2, fnd2, wt2, fs, bs, g1, g2, g3, g4, g5, g6, g7, g8, rfl⟩, ?_⟩
        have hD3' : H3 D = some (.lst (refs bs' ++ [V.ref b])) := by rw [hD3, refs_app]; rfl
        refine ⟨_, rfl, .inl ⟨rfl, _, lstL hD3'⟩, D, _, V.ref b, rfl, rfl, hD3', by simp, ?_⟩
        rw [List.dropLast_concat]
        have t4 : Tk H3 (upd H3 D (.lst (refs bs'))) := tk_lst hD3
        have s4 : Same H (upd H3 D (.lst (refs bs'))) := fun x o hx => by
          rw [upd_ne (fun z => by
            subst z
            have := (s0.trans s2) _ _ hx
            rw [s0 _ _ hx] at hD
            cases hD)]
          exact s3 _ _ hx
        have hl4 : upd H3 D (.lst (refs bs')) l = some (.lst (refs fs)) := by rw [upd_ne hne]; exact hl3
        have hD4 : upd H3 D (.lst (refs bs')) D = some (.lst (refs bs')) := upd_same
        generalize upd H3 D (.lst (refs bs')) = H4 at t4 s4 hl4 hD4
        refine ⟨_, rfl, .inl ⟨rfl, _, lstL hl4⟩, _, rfl, l, _, _, rfl, rfl, hl4, szt (by rw [refs_len, hf3.len]; omega), ?_⟩
        have t5 : Tk H4 (upd H4 l (.lst (refs fs ++ [V.ref b]))) := tk_lst hl4
        have s5 : Same H (upd H4 l (.lst (refs fs ++ [V.ref b]))) := same_mut s4 hl
        have hl5 : upd H4 l (.lst (refs fs ++ [V.ref b])) l = some (.lst (refs (fs ++ [b]))) := by rw [refs_app]; exact upd_same
        have hD5 : upd H4 l (.lst (refs fs ++ [V.ref b])) D = some (.lst (refs bs')) := by rw [upd_ne (Ne.symm hne)]; exact hD4
        generalize upd H4 l (.lst (refs fs ++ [V.ref b])) = H5 at t5 s5 hl5 hD5
        have t35 := t4.trans t5
        refine ⟨_, rfl, .inl ⟨rfl, _, lstL hD5⟩, _, rfl, _, rfl, _, rfl, b, _, _, _, rfl, rfl, tupT (t35 _ _ hcb), iv_last hc.1, a, p, lastN c, rfl, ⟨as, s5 _ _ ha, (hrw.tk (tk_of s5))⟩, by omega, fun H6 k s6 hk => ?_⟩
        refine ⟨k, _, rfl, lstL hk, fun k2 hk2 => ?_⟩
        have s7 : Same H5 (upd H6 k2 (.lst (iv (kids p (lastN c))).reverse)) := s6.trans (same_new hk2 _)
        have hk7 : upd H6 k2 (.lst (iv (kids p (lastN c))).reverse) k2 = some (.lst (iv (kids p (lastN c)).reverse)) := by
          rw [upd_same]
          unfold iv
          rw [List.map_reverse]
        generalize upd H6 k2 (.lst (iv (kids p (lastN c))).reverse) = H7 at s7 hk7
        refine ⟨k2, rfl, ⟨_, lstL hk7⟩, fun D2 hD2 => ?_⟩
        refine lc_acc (walk_list (xs := iv (kids p (lastN c)).reverse)) hD2 (fun j acc H' => ∃ es, acc = refs es ∧ Rws H' es (((kids p (lastN c)).reverse.take j).map fun it => c ++ [it])) (fun j acc _ _ t h => by
          obtain ⟨es, h1, h2⟩ := h
          exact ⟨es, h1, h2.tk t⟩) ⟨[], rfl, .nil⟩ (fun j acc H hj h => by
            obtain ⟨es, h1, h2⟩ := h
            have := h2.len
            have hkl := kids_len p (lastN c)
            rw [List.length_map, List.length_take, List.length_reverse] at this
            rw [h1, refs_len]
            exact szt (by omega)) (fun H8 s8 => lstL (s8 _ _ hk7)) ?_ ?_
        · rintro j y H8 acc H8' Yes No hj s8 ⟨es, rfl, hes⟩ ⟨rfl, hy⟩ ky kn
          obtain ⟨n, hn, rfl⟩ := iv_got hy
          have t8 := t35.trans (tk_of (s7.trans s8))
          refine ⟨rfl, _, rfl, _, rfl, (by show 1 ≤ sizeLine; decide), fun t ht => ?_⟩
          have t9 := tk_new ht (.tup [V.int ((n : Nat) : Int)])
          refine ⟨b, t, _, _, rfl, rfl, tupT (t9 _ _ (t8 _ _ hcb)), tupT upd_same, ?_, szl (by rw [iv_len]; show c.length + 1 ≤ _; omega), fun z => (by cases z), fun _ t2 ht2 => ?_⟩
          · intro z
            have := congrArg List.length z
            rw [iv_len] at this
            exact hc.1 (List.length_eq_zero_iff.mp this)
          · refine ky _ _ ((same_new ht _).trans (same_new ht2 _)) ⟨es ++ [t2], by rw [refs_app]; rfl, ?_⟩
            rw [all_take hn]
            refine ((hes.tk t9).tk (tk_new ht2 _)).snoc ?_
            rw [iv_app]
            exact upd_same
        · rintro H8 acc s8 hacc8 ⟨es, rfl, hes⟩
          rw [iv_len, List.take_length] at hes
          have s58 := s7.trans s8
          have hD8 : H8 D = some (.lst (refs bs')) := s58 _ _ hD5
          refine ⟨D, D2, _, _, rfl, rfl, hD8, hacc8, ?_, ?_⟩
          · refine szl ?_
            have hkl := kids_len p (lastN c)
            have e2 := hes.len
            rw [List.length_map, List.length_reverse] at e2
            have hwl : wt'.length ≤ 360000 := by
              have z : (wt' ++ [c]).length ≤ ((wt' ++ [c]).reverse.flatMap (frm p)).length := by
                have gen : ∀ l : List (List Nat), l.length ≤ (l.flatMap (frm p)).length := by
                  intro l
                  induction l with
                  | nil => simp
                  | cons x l ih =>
                    rw [List.flatMap_cons, List.length_append, List.length_cons, frm_eq hP, List.length_cons]
                    omega
                have z2 := gen (wt' ++ [c]).reverse
                rw [List.length_reverse] at z2
                exact z2
              rw [← hall, List.length_append] at hzl
              rw [List.length_append] at z
              omega
            rw [refs_len, refs_len, e2, hbl']
            omega
          · have t8 : Tk H3 H8 := t35.trans (tk_of s58)
            have t9 : Tk H8 (upd H8 D (.lst (refs bs' ++ refs es))) := tk_lst hD8
            have efr : ((kids p (lastN c)).reverse.map fun it => c ++ [it]).reverse.flatMap (frm p) = (kids p (lastN c)).flatMap fun it => frm p (c ++ [it]) := by
              rw [← List.map_reverse, List.reverse_reverse, List.flatMap_map]
            have ec := frm_eq hP c
            refine ⟨_, _, fnd ++ [c], wt' ++ ((kids p (lastN c)).reverse.map fun it => c ++ [it]), fs ++ [b], bs' ++ es, rfl, ?_, ?_, ((hf3.tk t8).tk t9).snoc (t9 _ _ (t8 _ _ hcb)), by rw [refs_app]; exact upd_same, ((hb'.tk t8).tk t9).app (hes.tk t9), ?_, ?_, ?_⟩
            · intro x o hx
              rw [upd_ne (fun z => by
                subst z
                rw [s0 _ _ hx] at hD
                cases hD)]
              exact s58 _ _ (s5 _ _ hx)
            · rw [upd_ne hne]
              exact s58 _ _ hl5
            · rw [List.reverse_append, List.flatMap_append, efr, ← hall, List.reverse_append, List.flatMap_append]
              show fnd ++ [c] ++ _ = fnd ++ ([c].flatMap (frm p) ++ _)
              rw [List.flatMap_singleton, ec]
              simp
            · intro d hd
              rcases List.mem_append.mp hd with hd | hd
              · exact hch d (List.mem_append_left _ hd)
              · obtain ⟨it, hit, rfl⟩ := List.mem_map.mp hd
                obtain ⟨g1, g2⟩ := mem_kids.mp (List.mem_reverse.mp hit)
                exact chain_snoc hc g2 g1
            · rw [List.reverse_append, List.flatMap_append, efr, List.reverse_append, List.flatMap_append, List.length_append, List.length_append]
              show _ < ([c].flatMap (frm p)).length + _
              rw [List.flatMap_singleton, ec, List.length_cons]
              omega
end
end Pb

/-! PbE: all_chains, is_run, check_run, in_order, plain_names, names. -/
namespace Pb
open PySem PySem.Spec PyProof.Rows L2

abbrev sAllChains' : Stmt := top 25
abbrev sIsRun : Stmt := top 27
abbrev sCheckRun : Stmt := top 28
abbrev sInOrder : Stmt := top 30
abbrev sPlainNames : Stmt := top 31
abbrev sNames : Stmt := top 32
def spAllChains : Sp := fun vs H Q _ => ∃ (a : Addr) (P : List (List Nat)), vs = [.ref a] ∧ PlanAt H a P ∧ IsPlan P ∧ P.length ≤ 6 ∧ ∀ H' p, Same H H' → RowsAt H' p (allCh P) → Q (.ref p) H'
def spIsRun : Sp := fun vs H Q _ => ∃ (a : Addr) (P : List (List Nat)) (b : Addr) (r : List Nat), vs = [.ref a, .ref b] ∧ PlanAt H a P ∧ P.length ≤ 40 ∧ H b = some (.tup (iv r)) ∧ IsRun P r ∧ ∀ H', Same H H' → Q (.bl true) H'
def spCheckRun : Sp := fun vs H Q _ => ∃ (a : Addr) (P : List (List Nat)) (b : Addr) (r : List Nat), vs = [.ref a, .ref b] ∧ PlanAt H a P ∧ P.length ≤ 40 ∧ H b = some (.tup (iv r)) ∧ IsRun P r ∧ ∀ H', Same H H' → Q .non H'
def spInOrder : Sp := fun vs H Q _ => ∃ (a : Addr) (l : List Nat) (b : Addr) (ns : List (List Nat)), vs = [.ref a, .ref b] ∧ H a = some (.tup (iv l)) ∧ RowsAt H b ns ∧ (∀ x, x ∈ l → x < ns.length) ∧ l.length ≤ 40 ∧ (∀ c, c ∈ ns → c.length ≤ 40) ∧
  ∀ H' p (o : List Nat), Same H H' → H' p = some (.lst (iv o)) → o.Perm l → o.Pairwise (fun x y => key (ns.getD x []) ≤ key (ns.getD y [])) → Q (.ref p) H'
def spPlainNames : Sp := fun vs H Q _ => ∃ (a : Addr) (P : List (List Nat)) (b : Addr) (r : List Nat), vs = [.ref a, .ref b] ∧ PlanAt H a P ∧ IsPlan P ∧ P.length ≤ 40 ∧ H b = some (.tup (iv r)) ∧ IsRun P r ∧
  ∀ H' p ns, Same H H' → RowsAt H' p ns → NamesOf P r ns → Q (.ref p) H'
def spNames : Sp := fun vs H Q _ => ∃ (a : Addr) (P : List (List Nat)) (b : Addr) (r : List Nat), vs = [.ref a, .ref b] ∧ PlanAt H a P ∧ IsPlan P ∧ P.length ≤ 40 ∧ H b = some (.tup (iv r)) ∧ IsRun P r ∧
  ∀ H' p ns, Same H H' → PlanAt H' p ns → NamesOf P r ns → Q (.ref p) H'
/-- the names of the items below i -/
structure NamesUp (P : List (List Nat)) (run : List Nat) (i : Nat) (ns : List (List Nat)) : Prop where
  len : ns.length = i
  nm : ∀ j, j < i → (run.getD j 0 = 0 ∧ ns.getD j [] = [j]) ∨ (0 < run.getD j 0 ∧ ∃ o : List Nat, o.Perm (seen P j) ∧ o.Pairwise (fun a b => key (ns.getD a []) ≤ key (ns.getD b [])) ∧
    ns.getD j [] = ns.getD (o.getD (run.getD j 0 - 1) 0) [] ++ [j])
  ch : ∀ j, j < i → Chain P (ns.getD j []) ∧ lastN (ns.getD j []) = j
theorem getD_app {ns : List (List Nat)} {c : List Nat} {j : Nat} (h : j < ns.length) : (ns ++ [c]).getD j [] = ns.getD j [] := by
  rw [List.getD_eq_getElem?_getD, List.getD_eq_getElem?_getD, List.getElem?_append_left h]
theorem getD_last {ns : List (List Nat)} {c : List Nat} : (ns ++ [c]).getD ns.length [] = c := by
  rw [List.getD_eq_getElem?_getD]
  simp
theorem NamesUp.snoc {P : List (List Nat)} (hP : IsPlan P) {run : List Nat} (hr : IsRun P run) {i : Nat} {ns : List (List Nat)} (h : NamesUp P run i ns) {c : List Nat} (hi : i < P.length)
    (hc : (run.getD i 0 = 0 ∧ c = [i]) ∨ (0 < run.getD i 0 ∧ ∃ o : List Nat, o.Perm (seen P i) ∧ o.Pairwise (fun a b => key (ns.getD a []) ≤ key (ns.getD b [])) ∧ c = ns.getD (o.getD (run.getD i 0 - 1) 0) [] ++ [i])) : NamesUp P run (i + 1) (ns ++ [c]) := by
  have hlen := h.len
  have hsm : ∀ j, j ≤ i → ∀ o : List Nat, o.Perm (seen P j) → ∀ x, x ∈ o → x < i := fun j hj o ho x hx => by
    have := hP.lt j x (by omega) (ho.mem_iff.mp hx)
    omega
  have hpw : ∀ j, j ≤ i → ∀ o : List Nat, o.Perm (seen P j) → o.Pairwise (fun a b => key (ns.getD a []) ≤ key (ns.getD b [])) → o.Pairwise (fun a b => key ((ns ++ [c]).getD a []) ≤ key ((ns ++ [c]).getD b [])) := fun j hj o ho hp => by
    refine List.Pairwise.imp_of_mem ?_ hp
    intro a b ha hb hab
    rw [getD_app (by rw [hlen]; exact hsm j hj o ho a ha), getD_app (by rw [hlen]; exact hsm j hj o ho b hb)]
    exact hab
  have hgap : ∀ j, j ≤ i → 0 < run.getD j 0 → ∀ o : List Nat, o.Perm (seen P j) → o.getD (run.getD j 0 - 1) 0 ∈ seen P j := fun j hj hpos o ho => by
    have hg := isRun_getD hr (show j < P.length by omega)
    exact ho.mem_iff.mp (getD_mem (by rw [ho.length_eq]; omega))
  refine ⟨by rw [List.length_append, hlen]; rfl, fun j hj => ?_, fun j hj => ?_⟩
  · by_cases hji : j < i
    · rw [getD_app (by omega)]
      rcases h.nm j hji with q | ⟨q1, o, q2, q3, q4⟩
      · exact .inl q
      · refine .inr ⟨q1, o, q2, hpw j (by omega) o q2 q3, ?_⟩
        have hm := hP.lt j _ (by omega) (hgap j (by omega) q1 o q2)
        rw [getD_app (by omega)]
        exact q4
    · have e : j = i := by omega
      subst e
      have e2 : (ns ++ [c]).getD j [] = c := by rw [← hlen]; exact getD_last
      rw [e2]
      rcases hc with q | ⟨q1, o, q2, q3, q4⟩
      · exact .inl q
      · refine .inr ⟨q1, o, q2, hpw j (Nat.le_refl _) o q2 q3, ?_⟩
        have hm := hP.lt j _ hi (hgap j (Nat.le_refl _) q1 o q2)
        rw [getD_app (by omega)]
        exact q4
  · by_cases hji : j < i
    · rw [getD_app (by omega)]
      exact h.ch j hji
    · have e : j = i := by omega
      subst e
      have e2 : (ns ++ [c]).getD j [] = c := by rw [← hlen]; exact getD_last
      rw [e2]
      rcases hc with ⟨_, q⟩ | ⟨q1, o, q2, q3, q4⟩
      · rw [q]
        exact ⟨chain_one hi, lastN_snoc [] j⟩
      · have hms := hgap j (Nat.le_refl _) q1 o q2
        have hm := hP.lt j _ hi hms
        obtain ⟨g1, g2⟩ := h.ch _ hm
        rw [q4]
        exact ⟨chain_snoc g1 (by rw [g2]; exact hms) hi, lastN_snoc _ _⟩
theorem NamesUp.all {P : List (List Nat)} {run : List Nat} {ns : List (List Nat)} (h : NamesUp P run P.length ns) : NamesOf P run ns := ⟨h.len, h.nm⟩

section
variable {P : Program} {w : World} {K : PySem.W.Frag} {mg : Str → Option Value} {base : Heap} {f : Addr} {fd : FuncData}
theorem sc_AllChains : FnScope ["plan"] ["plan"] (defScope sAllChains') := ⟨rfl, rfl, rfl, by decide +kernel, rfl, by decide +kernel, by decide +kernel⟩
theorem ok_AllChains {tk : Tok} (mL : mg "MOST_LISTED" = some (.int 5000 tk)) {f1 f2 f3 f4 : Addr} {fd1 fd2 fd3 fd4 : FuncData} (C1 : Callee P w K mg base CX0 4 "check_plan" f1 fd1 ["thing"] spCheckPlan) (C2 : Callee P w K mg base CX0 1 "check_most" f2 fd2 ["many", "most"] spCheckMost)
    (C3 : Callee P w K mg base CX0 2 "many_chains" f3 fd3 ["plan"] spManyChains) (C4 : Callee P w K mg base CX0 2 "listed_chains" f4 fd4 ["plan"] spListedChains) (F : Fun K "all_chains" "all_chains" sAllChains' f fd) : FnOk P w K mg base CX0 5 f fd ["plan"] spAllChains := by
  refine F.ok sc_AllChains (fun vs H Q E h => ?_) (fun cdv A outer s H vs Q E hr h => ?_)
  · obtain ⟨a, p, rfl, _⟩ := h
    rfl
  obtain ⟨a, p, rfl, h1, h2, h3, q⟩ := h
  refine ⟨_, pss_cons (ps_expr (pe_c C1 hr rfl (pa_cons (pv 0) pa_nil)))
    (pss_cons (ps_expr (pe_c C2 hr rfl (pa_cons (pe_c C3 hr rfl (pa_cons (pv 0) pa_nil)) (pa_cons (pe_glob (v := .int 5000) rfl mL ⟨_, rfl⟩) pa_nil))))
    (pss_one (ps_ret (pe_c C4 hr rfl (pa_cons (pv 0) pa_nil))))), ?_⟩
  refine ⟨_, rfl, a, p, rfl, h1, h2, by omega, fun H1 s1 => ?_⟩
  refine ⟨_, rfl, a, p, rfl, h1.same s1, h2, by omega, fun H2 s2 => ?_⟩
  refine ⟨_, _, rfl, many_le h2 h3, ?_⟩
  exact ⟨_, rfl, a, p, rfl, h1.same (s1.trans s2), h2, h3, fun H3 k s3 hk => q _ _ (s1.trans (s2.trans s3)) hk⟩

abbrev nIsRun : List Str := ["plan", "thing", "gap", "seen"]
theorem sc_IsRun : FnScope nIsRun ["plan", "thing"] (defScope sIsRun) := ⟨rfl, rfl, rfl, by decide +kernel, rfl, by decide +kernel, by decide +kernel⟩
theorem ok_IsRun (B : Blt mg) {f1 : Addr} {fd1 : FuncData} (C1 : Callee P w K mg base CX0 2 "is_within" f1 fd1 ["thing", "least", "most"] spIsWithin) (F : Fun K "is_run" "is_run" sIsRun f fd) : FnOk P w K mg base CX0 3 f fd ["plan", "thing"] spIsRun := by
  refine F.ok sc_IsRun (fun vs H Q E h => ?_) (fun cdv A outer s H vs Q E hr h => ?_)
  · obtain ⟨a, p, b, r, rfl, _⟩ := h
    rfl
  obtain ⟨a, p, b, r, rfl, ⟨as, ha, hrw⟩, h40, hb, hrun, q⟩ := h
  refine ⟨_, pss_cons (ps_if (PW.pt (pw_or (pt_not (pt_val (pe_isi B rfl (pv 1) rfl B.tuple bt_tuple))) (pw_or1 (pt_cmpR op_ne (pe_callB call_len_seq rfl B.len bt_len (pa_cons (pv 1) pa_nil)) (pe_callB call_len_seq rfl B.len bt_len (pa_cons (pv 0) pa_nil)) (nomark _))))) (pss_one (ps_ret pe_bl)) pss_nil)
    (pss_one (ps_ret (pe_callB (cr_all rfl) rfl B.all bt_all (pa_cons
      (pe_lc (own := [("gap", 2), ("seen", 3)]) (g := gTup K 2 (gCons (gName 2) (gCons (gName 3) gNil))) (tt := tYes) (te := tCall spIsWithin [] E0 (tCons (tVar 2) (tCons (tC (.int 0)) (tCons (tCB (fun xs H Q => ∃ p ys, xs = [.ref p] ∧ (SqL K H p ys ∨ SqT K H p ys) ∧ Q (.int ys.length) H) (tCons (tVar 3) tNil)) tNil)))) rfl sc_IsRun.nd
        (RZ.pi_zipA rfl B.zip (pa_cons (pv 1) (pa_cons (pv 0) pa_nil))) (blkOk_by (N := nIsRun) (sc := defScope sIsRun) (by decide +kernel))
        (fun _ _ _ _ _ => pg_tup rfl (pgs_cons (pg_name (i := 2) sc_IsRun.nd rfl (Or.inl rfl)) (pgs_cons (pg_name (i := 3) sc_IsRun.nd rfl (Or.inl rfl)) pgs_nil))) (fun _ _ _ _ _ => pts_nil)
        (fun _ _ _ _ _ => pe_c C1 hr rfl (pa_cons (pv 2) (pa_cons pe_int (pa_cons (pe_callB call_len_seq rfl B.len bt_len (pa_cons (pv 3) pa_nil)) pa_nil))))) pa_nil)))), ?_⟩
  have hlen : as.length = p.length := hrw.len
  have hrl : r.length = p.length := hrun.1
  refine ⟨_, rfl, _, _, true, rfl, .tup hb, by decide +kernel, _, rfl, ?_⟩
  refine iteF ⟨_, rfl, b, _, rfl, .inr (tupT hb), _, rfl, a, _, rfl, .inr (tupT ha), rfl, _, rfl, ?_⟩
  have e1 : V.int (((iv r).length : Nat) : Int) = V.int (((refs as).length : Nat) : Int) := by rw [iv_len, refs_len, hrl, hlen]
  refine if_f (by rw [decide_eq_true e1]; rfl) ?_
  refine ⟨_, rfl, _, rfl, b, a, _, _, rfl, .inr ⟨tupT hb, tupT ha, fun D hD => ?_⟩⟩
  refine lc_acc (walk_zipT (xs := iv r) (ys := refs as) (n := p.length) (by rw [iv_len, refs_len]; omega)) hD (fun j acc _ => acc = (List.replicate j true).map V.bl) (fun j acc _ _ _ h => h) rfl (fun j acc H hj h => by
    rw [h, List.length_map, List.length_replicate]
    exact szt (by omega)) (fun H2 s2 => ⟨tupT (s2 _ _ hb), tupT (s2 _ _ ha)⟩) ?_ ?_
  · rintro j y H2 acc H2' Yes No hj s2 rfl ⟨T, x1, x2, rfl, hT, rfl, hx1, hx2⟩ ky kn
    obtain ⟨g, hg, rfl⟩ := iv_got hx1
    obtain ⟨c, hc, rfl⟩ := refs_got hx2
    have hcr : H c = some (.tup (iv (seen p j))) := hrw.rw_ j c _ hc (seen_get hj)
    have hgl := hrun.2 j g hg
    have s3 := same_new hT (.tup [V.int ((g : Nat) : Int), V.ref c])
    refine ⟨T, _, rfl, tupT upd_same, rfl, _, _, rfl, _, _, rfl, rfl, rfl, _, rfl, _, rfl, c, _, rfl, .inr (tupT ((s2.trans s3) _ _ hcr)), _, _, _, rfl, by omega, by rw [iv_len]; omega, ky _ _ s3 ?_⟩
    rw [List.replicate_succ', List.map_append]
    rfl
  · rintro H2 acc s2 hacc rfl
    refine ⟨D, _, rfl, lstL hacc, ?_⟩
    exact q_of (by simp) (q _ s2)
theorem sc_CheckRun : FnScope ["plan", "thing"] ["plan", "thing"] (defScope sCheckRun) := ⟨rfl, rfl, rfl, by decide +kernel, rfl, by decide +kernel, by decide +kernel⟩
theorem ok_CheckRun {f1 : Addr} {fd1 : FuncData} (C1 : Callee P w K mg base CX0 3 "is_run" f1 fd1 ["plan", "thing"] spIsRun) (F : Fun K "check_run" "check_run" sCheckRun f fd) : FnOk P w K mg base CX0 4 f fd ["plan", "thing"] spCheckRun := by
  refine F.ok sc_CheckRun (fun vs H Q E h => ?_) (fun cdv A outer s H vs Q E hr h => ?_)
  · obtain ⟨a, p, b, r, rfl, _⟩ := h
    rfl
  obtain ⟨a, p, b, r, rfl, h1, h2, h3, h4, q⟩ := h
  refine ⟨_, pss_one (ps_if (pt_not (pt_val (pe_c C1 hr rfl (pa_cons (pv 0) (pa_cons (pv 1) pa_nil))))) (pss_one ps_never) pss_nil), ?_⟩
  refine ⟨_, rfl, _, rfl, a, p, b, r, rfl, h1, h2, h3, h4, fun H' s' => ⟨_, rfl, ?_⟩⟩
  exact iteF (q _ s')

abbrev nInOrder : List Str := ["items", "names", "rows", "item", "row"]
theorem sc_InOrder : FnScope nInOrder ["items", "names"] (defScope sInOrder) := ⟨rfl, rfl, rfl, by decide +kernel, rfl, by decide +kernel, by decide +kernel⟩
theorem SRow.at_tk {H H' : Hp} {r : SRow} (h : r.at H) (t : Tk H H') : r.at H' := ⟨t _ _ h.1, t _ _ h.2⟩
theorem ok_InOrder (B : Blt mg) {f1 : Addr} {fd1 : FuncData} (C1 : Callee P w K mg base CX0 1 "chain_key" f1 fd1 ["chain"] spChainKey) (F : Fun K "in_order" "in_order" sInOrder f fd) : FnOk P w K mg base CX0 2 f fd ["items", "names"] spInOrder := by
  refine F.ok sc_InOrder (fun vs H Q E h => ?_) (fun cdv A outer s H vs Q E hr h => ?_)
  · obtain ⟨a, l, b, ns, rfl, _⟩ := h
    rfl
  obtain ⟨a, l, b, ns, rfl, ha, ⟨bs, hb, hrw⟩, hlb, hl40, hc40, q⟩ := h
  refine ⟨_, pss_cons (ps_set (i := 2) sc_InOrder.nd rfl (Or.inl rfl) (pe_callB (cr_sortedK hr.units) rfl B.sorted bt_sorted (pa_cons
      (pe_lc (own := [("item", 3)]) (g := gName 3) (tt := tYes) (te := tTup (tCons (tCall spChainKey [] E0 (tCons (tOp (rIxL K) (tVar 1) (tVar 3)) tNil)) (tCons (tVar 3) tNil))) rfl sc_InOrder.nd (pi_tup (pv 0)) (blkOk_by (N := nInOrder) (sc := defScope sInOrder) (by decide +kernel))
        (fun _ _ _ _ _ => pg_name (i := 3) sc_InOrder.nd rfl (Or.inl rfl)) (fun _ _ _ _ _ => pts_nil) (fun _ _ _ _ _ => pe_tup (pa_cons (pe_c C1 hr rfl (pa_cons (pe_ix ix_list (pv 1) (pv 3) (fun _ _ => rfl)) pa_nil)) (pa_cons (pv 3) pa_nil)))) pa_nil)))
    (pss_one (ps_ret (pe_lc (own := [("row", 4)]) (g := gName 4) (tt := tYes) (te := tOp (rIxT K) (tVar 4) (tC (.int 1))) rfl sc_InOrder.nd (pi_list (pv 2)) (blkOk_by (N := nInOrder) (sc := defScope sInOrder) (by decide +kernel))
        (fun _ _ _ _ _ => pg_name (i := 4) sc_InOrder.nd rfl (Or.inl rfl)) (fun _ _ _ _ _ => pts_nil) (fun _ _ _ _ _ => pe_ix ix_tup (pv 4) pe_int (fun _ _ => rfl))))), ?_⟩
  refine ⟨_, rfl, a, rfl, ⟨_, tupT ha⟩, fun D hD => ?_⟩
  refine lc_acc (walk_tup (xs := iv l)) hD (fun j acc H' => ∃ rows : List SRow, acc = (rows.map fun r => V.ref r.pr) ∧ (∀ r, r ∈ rows → r.at H') ∧ (rows.map fun r => (r.ks, r.it)) = (l.take j).map fun n => (key (ns.getD n []), ((n : Nat) : Int))) (fun j acc _ _ t h => by
    obtain ⟨rows, h1, h2, h3⟩ := h
    exact ⟨rows, h1, fun r hr => SRow.at_tk (h2 r hr) t, h3⟩) ⟨[], rfl, (fun r hr => by cases hr), rfl⟩ (fun j acc H hj h => by
      obtain ⟨rows, h1, h2, h3⟩ := h
      have := congrArg List.length h3
      rw [List.length_map, List.length_map, List.length_take] at this
      rw [h1, List.length_map]
      exact szt (by omega)) (fun H2 s2 => tupT (s2 _ _ ha)) ?_ ?_
  · rintro j y H2 acc H2' Yes No hj s2 ⟨rows, rfl, hat, hks⟩ ⟨rfl, hy⟩ ky kn
    obtain ⟨n, hn, rfl⟩ := iv_got hy
    have hnl := hlb n (List.mem_of_getElem? hn)
    have hng : ns[n]? = some (ns.getD n []) := by rw [List.getD_eq_getElem?_getD, List.getElem?_eq_getElem hnl]; rfl
    obtain ⟨c, hc, hcr⟩ := hrw.get hng
    have hcl := hc40 _ (List.mem_of_getElem? hng)
    refine ⟨rfl, _, rfl, _, rfl, b, _, _, _, rfl, rfl, lstL (s2 _ _ hb), at_nat (refs_get hc), c, _, rfl, s2 _ _ hcr, by omega, fun H3 k s3 hk => ?_⟩
    refine ⟨_, rfl, (by show 2 ≤ sizeLine; decide), fun t ht => ?_⟩
    have s4 := s3.trans (same_new ht (.tup [V.ref k, V.int ((n : Nat) : Int)]))
    refine ky _ _ s4 ⟨rows ++ [⟨t, k, key (ns.getD n []), ((n : Nat) : Int)⟩], by rw [List.map_append]; rfl, fun r hr => ?_, ?_⟩
    · rcases List.mem_append.mp hr with hr | hr
      · exact SRow.at_tk (hat r hr) (tk_of s4)
      · have e : r = ⟨t, k, key (ns.getD n []), ((n : Nat) : Int)⟩ := by simpa using hr
        rw [e]
        exact ⟨upd_same, same_new ht _ _ _ hk⟩
    · rw [List.map_append, hks, all_take hn]
      rfl
  · rintro H2 acc s2 hacc ⟨rows, rfl, hat, hks⟩
    rw [iv_len, List.take_length] at hks
    refine ⟨D, rows, rfl, lstL hacc, hat, fun rows' p hperm hpw hp => ?_⟩
    have s3 := s2.trans (same_new hp (.lst (rows'.map fun r => V.ref r.pr)))
    have hp3 : upd H2 p (.lst (rows'.map fun r => V.ref r.pr)) p = some (.lst (rows'.map fun r => V.ref r.pr)) := upd_same
    have hat3 : ∀ r, r ∈ rows' → r.at (upd H2 p (.lst (rows'.map fun r => V.ref r.pr))) := fun r hr => SRow.at_tk (hat r (hperm.mem_iff.mp hr)) (tk_new hp _)
    generalize upd H2 p (.lst (rows'.map fun r => V.ref r.pr)) = H3 at s3 hp3 hat3
    refine ⟨_, rfl, p, rfl, ⟨_, lstL hp3⟩, fun D2 hD2 => ?_⟩
    have hmem : ∀ r, r ∈ rows' → ∃ n, n ∈ l ∧ r.ks = key (ns.getD n []) ∧ r.it = ((n : Nat) : Int) := fun r hr => by
      have hm : (r.ks, r.it) ∈ rows.map fun r => (r.ks, r.it) := List.mem_map.mpr ⟨r, hperm.mem_iff.mp hr, rfl⟩
      rw [hks] at hm
      obtain ⟨n, hn, e⟩ := List.mem_map.mp hm
      exact ⟨n, hn, (congrArg Prod.fst e).symm, (congrArg Prod.snd e).symm⟩
    have hlen' : rows'.length ≤ 40 := by
      have := congrArg List.length hks
      rw [List.length_map, List.length_map] at this
      rw [hperm.length_eq]
      omega
    refine lc_acc (walk_list (xs := rows'.map fun r => V.ref r.pr)) hD2 (fun j acc _ => acc = (rows'.take j).map fun r => V.int r.it) (fun j acc _ _ _ h => h) rfl (fun j acc H hj h => by
      rw [h, List.length_map, List.length_take]
      exact szt (by omega)) (fun H4 s4 => lstL (s4 _ _ hp3)) ?_ ?_
    · rintro j y H4 acc H4' Yes No hj s4 rfl ⟨rfl, hy⟩ ky kn
      rw [List.getElem?_map] at hy
      cases er : rows'[j]? with
      | none => rw [er] at hy; cases hy
      | some r =>
        rw [er] at hy
        have e := Option.some.inj hy
        subst e
        have hr4 := SRow.at_tk (hat3 r (List.mem_of_getElem? er)) (tk_of s4)
        refine ⟨rfl, _, rfl, r.pr, _, _, _, rfl, rfl, tupT hr4.1, rfl, ky _ _ (Same.refl _) ?_⟩
        rw [all_take er]
    · rintro H4 acc s4 hacc4 rfl
      rw [List.length_map, List.take_length] at hacc4
      have eiv : (rows'.map fun r => V.int r.it) = iv (rows'.map fun r => r.it.toNat) := by
        unfold iv
        rw [List.map_map]
        refine List.map_congr_left fun r hr => ?_
        obtain ⟨n, _, _, e2⟩ := hmem r hr
        show V.int r.it = V.int ((r.it.toNat : Nat) : Int)
        rw [e2]
        congr 1
      rw [eiv] at hacc4
      refine q _ _ (rows'.map fun r => r.it.toNat) (s3.trans s4) hacc4 ?_ ?_
      · have z := hperm.map fun r => r.it.toNat
        have e2 : rows.map (fun r => r.it.toNat) = l := by
          have z2 := congrArg (List.map fun p : List Int × Int => p.2.toNat) hks
          rw [List.map_map, List.map_map] at z2
          have e3 : ((fun p : List Int × Int => p.2.toNat) ∘ fun n : Nat => (key (ns.getD n []), ((n : Nat) : Int))) = id := by
            funext n
            show (((n : Nat) : Int)).toNat = n
            omega
          rw [e3, List.map_id] at z2
          exact z2
        rw [e2] at z
        exact z
      · rw [List.pairwise_map]
        refine List.Pairwise.imp_of_mem ?_ hpw
        intro r r' hr hr' hle
        obtain ⟨n, _, e1, e2⟩ := hmem r hr
        obtain ⟨n', _, e1', e2'⟩ := hmem r' hr'
        have z1 : r.it.toNat = n := by rw [e2]; omega
        have z2 : r'.it.toNat = n' := by rw [e2']; omega
        rw [z1, z2, ← e1, ← e1']
        exact hle

abbrev nPlainNames : List Str := ["plan", "run", "names", "item", "seen", "gap"]
theorem sc_PlainNames : FnScope nPlainNames ["plan", "run"] (defScope sPlainNames) := ⟨rfl, rfl, rfl, by decide +kernel, rfl, by decide +kernel, by decide +kernel⟩
theorem ok_PlainNames (B : Blt mg) {f1 : Addr} {fd1 : FuncData} (C1 : Callee P w K mg base CX0 2 "in_order" f1 fd1 ["items", "names"] spInOrder) (F : Fun K "plain_names" "plain_names" sPlainNames f fd) : FnOk P w K mg base CX0 3 f fd ["plan", "run"] spPlainNames := by
  refine F.ok sc_PlainNames (fun vs H Q E h => ?_) (fun cdv A outer s H vs Q E hr h => ?_)
  · obtain ⟨a, p, b, r, rfl, _⟩ := h
    rfl
  obtain ⟨a, p, b, r, rfl, ⟨as, ha, hrw⟩, hP, h40, hb, hrun, q⟩ := h
  refine ⟨_, pss_cons (ps_set (i := 2) sc_PlainNames.nd rfl (Or.inl rfl) (pe_lst pa_nil))
    (pss_cons (ps_for PassesOwn.never rfl (pi_enumT rfl B.enumerate (pa_cons (pv 0) pa_nil)) (pg_tup rfl (pgs_cons (pg_name (i := 3) sc_PlainNames.nd rfl (Or.inl rfl)) (pgs_cons (pg_name (i := 4) sc_PlainNames.nd rfl (Or.inl rfl)) pgs_nil)))
      (pss_cons (ps_set (i := 5) sc_PlainNames.nd rfl (Or.inl rfl) (pe_ix ix_tup (pv 1) (pv 3) (fun _ _ => rfl)))
      (pss_one (ps_if (pt_cmpR op_eq (pv 5) pe_int (nomark _))
        (pss_one (ps_expr (pe_bm PySem.F.plainAttrs_list PySem.F.slot_list_append PySem.F.type_list_append mt_append (pv 2) (pa_cons (pe_tup (pa_cons (pv 3) pa_nil)) pa_nil))))
        (pss_one (ps_expr (pe_bm PySem.F.plainAttrs_list PySem.F.slot_list_append PySem.F.type_list_append mt_append (pv 2) (pa_cons
          (pe_op op_catT (pe_ix ix_list (pv 2) (pe_ix ix_list (pe_c C1 hr rfl (pa_cons (pv 4) (pa_cons (pv 2) pa_nil))) (pe_op op_sub (pv 5) pe_int) (fun _ _ => rfl)) (fun _ _ => rfl)) (pe_tup (pa_cons (pv 3) pa_nil))) pa_nil))))))))
    (pss_one (ps_ret (pv 2)))), ?_⟩
  have hlen : as.length = p.length := hrw.len
  have hrl : r.length = p.length := hrun.1
  refine ⟨(by show 0 ≤ sizeLine; decide), fun l hl => ?_⟩
  refine ⟨_, rfl, a, _, rfl, tupT (same_new hl _ _ _ ha), ?_⟩
  refine for_it (walk_enumT (xs := refs as)) (fun i σ H' => ∃ (z1 z2 z3 : Option V) (ns : List (List Nat)), σ = [some (.ref a), some (.ref b), some (.ref l), z1, z2, z3] ∧ Same H H' ∧ RowsAt H' l ns ∧ NamesUp p r i ns)
    ⟨_, _, _, [], rfl, same_new hl _, ⟨[], upd_same, .nil⟩, ⟨rfl, (fun j hj => by omega), (fun j hj => by omega)⟩⟩ (fun i σ H' _ pv => by obtain ⟨_, _, _, _, _, s1, _⟩ := pv; exact tupT (s1 _ _ ha)) ?_ ?_
  · rintro i x σ H' H'' hi ⟨z1, z2, z3, ns, rfl, s1, ⟨ds, hl1, hds⟩, hup⟩ ⟨T, x1, x2, rfl, hT, rfl, ex1, ex2⟩
    have ex1' : V.int ((i : Nat) : Int) = x1 := Option.some.inj ex1
    subst ex1'
    obtain ⟨c, hc, rfl⟩ := refs_got ex2
    have hip : i < p.length := by rw [refs_len] at hi; omega
    have hcr0 : H c = some (.tup (iv (seen p i))) := hrw.rw_ i c _ hc (seen_get hip)
    have t1 := same_new hT (.tup [.int ((i : Nat) : Int), .ref c])
    have hTt : upd H' T (.tup [.int ((i : Nat) : Int), .ref c]) T = some (.tup [.int ((i : Nat) : Int), .ref c]) := upd_same
    have hl2 := t1 _ _ hl1
    have hds2 := hds.tk (tk_of t1)
    have s2 := s1.trans t1
    generalize upd H' T (.tup [.int ((i : Nat) : Int), .ref c]) = H2 at hTt hl2 hds2 s2
    have hrg : r[i]? = some (r.getD i 0) := getD_get (by omega)
    refine ⟨T, _, rfl, tupT hTt, rfl, _, _, rfl, _, _, rfl, rfl, ?_⟩
    refine ⟨_, rfl, _, rfl, b, _, _, _, rfl, rfl, tupT (s2 _ _ hb), at_nat (iv_get hrg), ?_⟩
    refine ⟨_, rfl, rfl, _, rfl, ?_⟩
    have hnl := hup.len
    have hdl := hds.len
    by_cases hg0 : r.getD i 0 = 0
    · refine if_t (decide_eq_true (by rw [hg0]; rfl)) ?_
      refine ⟨_, rfl, .inl ⟨rfl, _, lstL hl2⟩, _, rfl, (by show 1 ≤ sizeLine; decide), fun t ht => ?_⟩
      have t3 := same_new ht (.tup [V.int ((i : Nat) : Int)])
      have htt : upd H2 t (.tup [V.int ((i : Nat) : Int)]) t = some (.tup (iv [i])) := upd_same
      have hl3 := t3 _ _ hl2
      have hds3 := hds2.tk (tk_of t3)
      have s3 := s2.trans t3
      generalize upd H2 t (.tup [V.int ((i : Nat) : Int)]) = H3 at htt hl3 hds3 s3
      refine ⟨l, _, _, rfl, rfl, hl3, szt (by rw [refs_len]; omega), ?_⟩
      have t4 := tk_lst (o := .lst (refs ds ++ [V.ref t])) hl3
      refine ⟨_, _, _, ns ++ [[i]], rfl, same_mut s3 hl, ⟨ds ++ [t], by rw [refs_app]; exact upd_same, (hds3.tk t4).snoc (t4 _ _ htt)⟩, hup.snoc hP hrun hip (.inl ⟨hg0, rfl⟩)⟩
    · have hgle := isRun_getD hrun hip
      refine if_f (decide_eq_false (fun z => hg0 (by have := V.int.inj z; omega))) ?_
      refine ⟨_, rfl, .inl ⟨rfl, _, lstL hl2⟩, _, rfl, _, rfl, _, rfl, c, seen p i, l, ns, rfl, s2 _ _ hcr0, ⟨ds, hl2, hds2⟩, ?_, ?_, ?_, fun H3 k o s3 hk hperm hpw => ?_⟩
      · intro y hy
        have := hP.lt i y hip hy
        omega
      · have := seen_len hP hip
        omega
      · intro d hd
        obtain ⟨j, hj, ej⟩ := List.getElem_of_mem hd
        have := (hup.ch j (by omega)).1
        have hcl := chain_len hP this
        have ed : ns.getD j [] = d := by rw [List.getD_eq_getElem?_getD, List.getElem?_eq_getElem hj]; exact ej
        rw [ed] at hcl
        omega
      · have hol : o.length = (seen p i).length := hperm.length_eq
        have eg : (((r.getD i 0 : Nat) : Int) - 1) = ((r.getD i 0 - 1 : Nat) : Int) := by omega
        have hog : o[r.getD i 0 - 1]? = some (o.getD (r.getD i 0 - 1) 0) := getD_get (by omega)
        have hom : o.getD (r.getD i 0 - 1) 0 ∈ seen p i := hperm.mem_iff.mp (List.mem_of_getElem? hog)
        have hoi := hP.lt i _ hip hom
        have hng : ns[o.getD (r.getD i 0 - 1) 0]? = some (ns.getD (o.getD (r.getD i 0 - 1) 0) []) := getD_get (by omega)
        have hds3 := hds2.tk (tk_of s3)
        obtain ⟨d, hd, hdr⟩ := hds3.get hng
        have hchd := hup.ch _ hoi
        have hcl := chain_len hP hchd.1
        refine ⟨_, rfl, _, _, rfl, rfl, k, _, _, _, rfl, rfl, lstL hk, at_of eg (iv_get hog), l, _, _, _, rfl, rfl, lstL (s3 _ _ hl2), at_nat (refs_get hd), ?_⟩
        refine ⟨_, rfl, (by show 1 ≤ sizeLine; decide), fun t ht => ?_⟩
        have t4 := same_new ht (.tup [V.int ((i : Nat) : Int)])
        refine ⟨d, t, _, _, rfl, rfl, tupT (t4 _ _ hdr), tupT upd_same, ?_, szl (by rw [iv_len]; show _ + 1 ≤ _; omega), fun z => (by cases z), fun _ t2 ht2 => ?_⟩
        · intro z
          have := congrArg List.length z
          rw [iv_len] at this
          exact hchd.1.1 (List.length_eq_zero_iff.mp this)
        · have t5 := t4.trans (same_new ht2 (.tup (iv (ns.getD (o.getD (r.getD i 0 - 1) 0) []) ++ [V.int ((i : Nat) : Int)])))
          have htt : upd (upd H3 t (.tup [V.int ((i : Nat) : Int)])) t2 (.tup (iv (ns.getD (o.getD (r.getD i 0 - 1) 0) []) ++ [V.int ((i : Nat) : Int)])) t2 = some (.tup (iv (ns.getD (o.getD (r.getD i 0 - 1) 0) [] ++ [i]))) := by rw [iv_app]; exact upd_same
          generalize upd (upd H3 t (.tup [V.int ((i : Nat) : Int)])) t2 (.tup (iv (ns.getD (o.getD (r.getD i 0 - 1) 0) []) ++ [V.int ((i : Nat) : Int)])) = H5 at t5 htt
          have hl5 := t5 _ _ (s3 _ _ hl2)
          have t6 := tk_lst (o := .lst (refs ds ++ [V.ref t2])) hl5
          refine ⟨l, _, _, rfl, rfl, hl5, szt (by rw [refs_len]; omega), ?_⟩
          exact ⟨_, _, _, ns ++ [ns.getD (o.getD (r.getD i 0 - 1) 0) [] ++ [i]], rfl, same_mut ((s2.trans s3).trans t5) hl, ⟨ds ++ [t2], by rw [refs_app]; exact upd_same, ((hds3.tk (tk_of t5)).tk t6).snoc (t6 _ _ htt)⟩,
            hup.snoc hP hrun hip (.inr ⟨by omega, o, hperm, hpw, rfl⟩)⟩
  · rintro σ H' ⟨z1, z2, z3, ns, rfl, s1, hl1, hup⟩
    rw [refs_len, hlen] at hup
    exact ⟨_, rfl, q _ _ ns s1 hl1 hup.all⟩
theorem sc_Names : FnScope ["plan", "run"] ["plan", "run"] (defScope sNames) := ⟨rfl, rfl, rfl, by decide +kernel, rfl, by decide +kernel, by decide +kernel⟩
theorem ok_Names (B : Blt mg) {f1 f2 f3 : Addr} {fd1 fd2 fd3 : FuncData} (C1 : Callee P w K mg base CX0 4 "check_plan" f1 fd1 ["thing"] spCheckPlan) (C2 : Callee P w K mg base CX0 4 "check_run" f2 fd2 ["plan", "thing"] spCheckRun)
    (C3 : Callee P w K mg base CX0 3 "plain_names" f3 fd3 ["plan", "run"] spPlainNames) (F : Fun K "names" "names" sNames f fd) : FnOk P w K mg base CX0 5 f fd ["plan", "run"] spNames := by
  refine F.ok sc_Names (fun vs H Q E h => ?_) (fun cdv A outer s H vs Q E hr h => ?_)
  · obtain ⟨a, p, b, r, rfl, _⟩ := h
    rfl
  obtain ⟨a, p, b, r, rfl, h1, h2, h3, h4, h5, q⟩ := h
  refine ⟨_, pss_cons (ps_expr (pe_c C1 hr rfl (pa_cons (pv 0) pa_nil)))
    (pss_cons (ps_expr (pe_c C2 hr rfl (pa_cons (pv 0) (pa_cons (pv 1) pa_nil))))
    (pss_one (ps_ret (pe_callTy call_tuple_of rfl B.tuple bt_tuple (pa_cons (pe_c C3 hr rfl (pa_cons (pv 0) (pa_cons (pv 1) pa_nil))) pa_nil))))), ?_⟩
  refine ⟨_, rfl, a, p, rfl, h1, h2, h3, fun H1 s1 => ?_⟩
  refine ⟨_, rfl, _, rfl, a, p, b, r, rfl, h1.same s1, h3, s1 _ _ h4, h5, fun H2 s2 => ?_⟩
  have s12 := s1.trans s2
  refine ⟨_, rfl, _, rfl, a, p, b, r, rfl, h1.same s12, h2, h3, s12 _ _ h4, h5, fun H3 k ns s3 hk hns => ?_⟩
  obtain ⟨ds, hk1, hds⟩ := hk
  refine ⟨k, _, rfl, .inl ⟨lstL hk1, fun t ht => ?_⟩⟩
  exact q _ t ns ((s12.trans s3).trans (same_new ht _)) ⟨ds, upd_same, hds.tk (tk_new ht _)⟩ hns
end
end Pb

/-! PbF: wished_names, run_with. -/
namespace Pb
open PySem PySem.Spec PyProof.Rows L2

abbrev sWishedNames : Stmt := top 33
abbrev sRunWith : Stmt := top 34

/-! ### a for over a list or a tuple, whichever it is -/
def iLT (K : PySem.W.Frag) (tl : TE) : TI := fun σ H R => tl σ H fun x H1 => ∃ a, x = .ref a ∧ ((∃ xs, SqL K H1 a xs ∧ R (Itl K a) H1) ∨ (∃ xs, SqT K H1 a xs ∧ R (Itt K a) H1))
theorem pi_lt {X : Cx} {tg l : Expr} {i : Nat} (hl : PE X l (tVar i)) : PI X tg l (iLT X.K (tVar i)) where
  run pins s σ H R I := fun ⟨x, hx, a, ex, q⟩ => q.elim (fun ⟨xs, hq, r⟩ => (pi_list hl).run pins s σ H R I ⟨x, hx, a, ex, ⟨xs, hq⟩, r⟩) fun ⟨xs, hq, r⟩ => (pi_tup hl).run pins s σ H R I ⟨x, hx, a, ex, ⟨xs, hq⟩, r⟩
def Lt (H : Hp) (a : Addr) (xs : List V) : Prop := H a = some (.lst xs) ∨ H a = some (.tup xs)
theorem Lt.same {H H' : Hp} {a : Addr} {xs : List V} (h : Lt H a xs) (s : Same H H') : Lt H' a xs := h.elim (fun z => .inl (s _ _ z)) fun z => .inr (s _ _ z)
theorem keep_lt {H00 H H' : Hp} {a : Addr} {xs : List V} (hx : Lt H00 a xs) (s0 : Same H00 H) (s : Same H00 H') : (H a = some (.lst xs) → H' a = some (.lst xs)) ∧ (H a = some (.tup xs) → H' a = some (.tup xs)) := by
  rcases hx with hx | hx
  · refine ⟨fun _ => s _ _ hx, fun z => ?_⟩
    rw [s0 _ _ hx] at z
    cases z
  · refine ⟨fun z => ?_, fun _ => s _ _ hx⟩
    rw [s0 _ _ hx] at z
    cases z
theorem for_lt {K : PySem.W.Frag} {a : Addr} {xs : List V} {g : TG} {tb : TS} {D : Ends} {σ : L2.St} {H : Hp} (hx : Lt H a xs) (Pv : Nat → L2.St → Hp → Prop) (h0 : Pv 0 σ H) (hG : ∀ i σ' H', i ≤ xs.length → Pv i σ' H' → (H a = some (.lst xs) → H' a = some (.lst xs)) ∧ (H a = some (.tup xs) → H' a = some (.tup xs)))
    (hs : ∀ i x σ' H', i < xs.length → Pv i σ' H' → xs[i]? = some x → g x σ' H' fun σ2 H2 => tb { D with nx := Pv (i + 1), ct := Pv (i + 1), bk := D.nx } σ2 H2) (hd : ∀ σ' H', Pv xs.length σ' H' → D.nx σ' H') :
    (∃ ys, SqL K H a ys ∧ ∃ W : Nat → Nat → L2.St → Hp → Prop, (∃ m, W 0 m σ H) ∧ ∀ i m σ H, W i m σ H →
      ((Itl K a).stop i H ∧ D.nx σ H) ∨ ((Itl K a).go i H ∧ ∃ N : L2.St → Hp → Prop, (∀ σ' H', N σ' H' → ∃ m', m' < m ∧ W (i + 1) m' σ' H') ∧ ∀ x H', (Itl K a).yld i H x H' → g x σ H' fun σ2 H2 => tb { D with nx := N, ct := N, bk := D.nx } σ2 H2)) ∨
    (∃ ys, SqT K H a ys ∧ ∃ W : Nat → Nat → L2.St → Hp → Prop, (∃ m, W 0 m σ H) ∧ ∀ i m σ H, W i m σ H →
      ((Itt K a).stop i H ∧ D.nx σ H) ∨ ((Itt K a).go i H ∧ ∃ N : L2.St → Hp → Prop, (∀ σ' H', N σ' H' → ∃ m', m' < m ∧ W (i + 1) m' σ' H') ∧ ∀ x H', (Itt K a).yld i H x H' → g x σ H' fun σ2 H2 => tb { D with nx := N, ct := N, bk := D.nx } σ2 H2)) := by
  rcases hx with hx | hx
  · refine .inl ⟨xs, lstL hx, for_it (walk_list (xs := xs)) Pv h0 (fun i σ' H' hi p => lstL ((hG i σ' H' hi p).1 hx)) (fun i x σ' H' H'' hi p y => ?_) hd⟩
    obtain ⟨rfl, hy⟩ := y
    exact hs i x σ' _ hi p hy
  · refine .inr ⟨xs, tupT hx, for_it (walk_tup (xs := xs)) Pv h0 (fun i σ' H' hi p => tupT ((hG i σ' H' hi p).2 hx)) (fun i x σ' H' H'' hi p y => ?_) hd⟩
    obtain ⟨rfl, hy⟩ := y
    exact hs i x σ' _ hi p hy

/-! ### slices from the front, dicts of chains -/
theorem cut_take {K : PySem.W.Frag} {H : Hp} {a : Addr} {c : List Nat} {n : Nat} {Q : VK} (ha : H a = some (.tup (iv c))) (hn : n ≤ c.length) (k : ∀ t H', Same H H' → H' t = some (.tup (iv (c.take n))) → Q (.ref t) H') : rSlA K (.ref a) none (some ((n : Nat) : Int)) H Q := by
  refine ⟨a, _, rfl, tupT ha, fun h => ?_, fun _ p hp => ?_⟩
  · have h2 := h.2
    rw [HT.sIx_nat, iv_len] at h2
    refine k a H (Same.refl _) ?_
    rw [show c.take n = c from List.take_of_length_le (by omega)]
    exact ha
  · refine k p _ (same_new hp _) ?_
    rw [upd_same]
    unfold cutV
    rw [HT.sIx_none, HT.sIx_nat, iv_len, List.drop_zero, Nat.sub_zero, Nat.min_eq_left hn]
    unfold iv
    rw [List.map_take]
theorem shaped_zl : ∀ l : List Nat, SeqAt.shaped (.tuple ((zl l).map .int)) = true := by
  intro l
  have h : ∀ m : List Int, PyData.canLayAll0 (m.map .int) = true := by
    intro m
    induction m with
    | nil => simp [PyData.canLayAll0]
    | cons x m ih =>
      show PyData.canLayAll0 (.int x :: m.map .int) = true
      rw [PyData.canLayAll0, ih]
      simp [PyData.canLay0]
  unfold SeqAt.shaped
  rw [Bool.and_eq_true]
  refine ⟨by simp only [PyData.canLay0]; exact h _, decide_eq_true ?_⟩
  simp only [PyData.depth, PySem.W.depth_ints]
  omega
theorem dp_iv {K : PySem.W.Frag} {H : Hp} {a : Addr} {l : List Nat} (h : H a = some (.tup (iv l))) : Dp K H (.ref a) (.tuple ((zl l).map .int)) := by
  refine Dp.tup (tupT h) ?_
  rw [iv_zl]
  have hh : ∀ m : List Int, DpAll K H (m.map V.int) (m.map PyData.int) := by
    intro m
    induction m with
    | nil => exact .nil
    | cons x m ih => exact .cons (.int x) ih
  exact hh _
theorem eqv_zl (a b : List Nat) : PyData.eqv (.tuple ((zl a).map .int)) (.tuple ((zl b).map .int)) = decide (a = b) := by
  rw [PyData.eqv]
  have e := eqvAll_ints (zl a) (zl b)
  rw [e]
  by_cases h : a = b
  · subst h; simp
  · have h2 : ¬ zl a = zl b := fun z => h (zl_inj z)
    rw [decide_eq_false h, decide_eq_false h2]
def DictAt (H : Hp) (kvs : List (Key × V)) (m : Mp) : Prop := ∀ i : Nat, (m i = none ∧ valV kvs (.inl ((i : Nat) : Int)) = none) ∨ ∃ c a, m i = some c ∧ valV kvs (.inl ((i : Nat) : Int)) = some (.ref a) ∧ H a = some (.tup (iv c))
theorem DictAt.tk {H H' : Hp} {kvs : List (Key × V)} {m : Mp} (h : DictAt H kvs m) (t : Tk H H') : DictAt H' kvs m := fun i => by
  rcases h i with q | ⟨c, a, q1, q2, q3⟩
  · exact .inl q
  · exact .inr ⟨c, a, q1, q2, t _ _ q3⟩
theorem DictAt.put {H : Hp} {kvs : List (Key × V)} {m : Mp} (h : DictAt H kvs m) {s : List Nat} {t : Addr} (ht : H t = some (.tup (iv s))) : DictAt H (putK kvs (.inl ((lastN s : Nat) : Int)) (.ref t)) (put1 m s) := fun i => by
  unfold put1
  rw [valV_put]
  by_cases e : i = lastN s
  · subst e
    rw [if_pos rfl, if_pos rfl]
    exact .inr ⟨s, t, rfl, rfl, ht⟩
  · rw [if_neg e, if_neg (fun z => e (by have := Sum.inl.inj z; omega))]
    exact h i
/-- d.get(lastN s, s) -/
theorem DictAt.got {H : Hp} {kvs : List (Key × V)} {m : Mp} (h : DictAt H kvs m) {i : Nat} {s : List Nat} {t : Addr} (ht : H t = some (.tup (iv s))) :
    ∃ b, (valV kvs (.inl ((i : Nat) : Int))).getD (.ref t) = .ref b ∧ H b = some (.tup (iv ((m i).getD s))) := by
  rcases h i with ⟨q1, q2⟩ | ⟨c, a, q1, q2, q3⟩
  · rw [q1, q2]
    exact ⟨t, rfl, ht⟩
  · rw [q1, q2]
    exact ⟨a, rfl, q3⟩
theorem starts_app (a b : List (List Nat)) : starts (a ++ b) = starts a ++ starts b := by unfold starts; rw [List.flatMap_append]
def sts (c : List Nat) (j : Nat) : List (List Nat) := (List.range j).map fun k => c.take (k + 1)
theorem sts_succ (c : List Nat) (j : Nat) : sts c (j + 1) = sts c j ++ [c.take (j + 1)] := by unfold sts; rw [List.range_succ, List.map_append]; rfl
theorem starts_one (c : List Nat) : starts [c] = sts c c.length := by unfold starts sts; simp
theorem starts_take {cs : List (List Nat)} {i : Nat} {c : List Nat} (h : cs[i]? = some c) : starts (cs.take (i + 1)) = starts (cs.take i) ++ sts c c.length := by
  rw [List.take_add_one, h, starts_app]
  show _ ++ starts [c] = _
  rw [starts_one]
theorem sts_split (c : List Nat) {j : Nat} (hj : j < c.length) : ∃ r, sts c c.length = sts c j ++ [c.take (j + 1)] ++ r := by
  refine ⟨(sts c c.length).drop (j + 1), ?_⟩
  have e : (sts c c.length).take (j + 1) = sts c (j + 1) := by
    unfold sts
    rw [← List.map_take, List.take_range, Nat.min_eq_left (by omega)]
  rw [← sts_succ, ← e, List.take_append_drop]
/-- where one start falls, the wish falls -/
theorem wish_falls {cs : List (List Nat)} {i : Nat} {c : List Nat} (hc : cs[i]? = some c) {j : Nat} (hj : j < c.length) {m : Mp} (h : wishF (starts (cs.take i) ++ sts c j) (fun _ => none) = some m) (hf : ¬ (m (lastN (c.take (j + 1)))).getD (c.take (j + 1)) = c.take (j + 1)) : wish cs = none := by
  obtain ⟨r, er⟩ := sts_split c hj
  have e : starts cs = (starts (cs.take i) ++ sts c j) ++ (c.take (j + 1) :: (r ++ starts (cs.drop (i + 1)))) := by
    have e1 : cs = cs.take (i + 1) ++ cs.drop (i + 1) := (List.take_append_drop _ _).symm
    rw [congrArg starts e1, starts_app, starts_take hc, er]
    simp
  unfold wish
  rw [e, wishF_append, h]
  show (if _ then _ else none) = none
  rw [if_neg hf]
theorem take_last {c : List Nat} {j : Nat} (hj : j < c.length) : c.take (j + 1) ≠ [] := by
  intro z
  have := congrArg List.length z
  rw [List.length_take, List.length_nil] at this
  omega

def spWishedNames : Sp := fun vs H Q _ => ∃ (a : Addr) (as : List Addr) (cs : List (List Nat)), vs = [.ref a] ∧ Lt H a (refs as) ∧ Rws H as cs ∧ (∀ c, c ∈ cs → c.length ≤ 40) ∧ cs.length ≤ 100 ∧
  (wish cs = none → ∀ H', Same H H' → Q .non H') ∧ ∀ m, wish cs = some m → ∀ H' p kvs, Same H H' → H' p = some (.dK kvs) → DictAt H' kvs m → Q (.ref p) H'
section
variable {P : Program} {w : World} {K : PySem.W.Frag} {mg : Str → Option Value} {base : Heap} {f : Addr} {fd : FuncData}
abbrev nWishedNames : List Str := ["row", "found", "chain", "size", "start"]
theorem sc_WishedNames : FnScope nWishedNames ["row"] (defScope sWishedNames) := ⟨rfl, rfl, rfl, by decide +kernel, rfl, by decide +kernel, by decide +kernel⟩
theorem ok_WishedNames (B : Blt mg) (F : Fun K "wished_names" "wished_names" sWishedNames f fd) : FnOk P w K mg base CX0 1 f fd ["row"] spWishedNames := by
  refine F.ok sc_WishedNames (fun vs H Q E h => ?_) (fun cdv A outer s H vs Q E hr h => ?_)
  · obtain ⟨a, as, cs, rfl, _⟩ := h
    rfl
  obtain ⟨a, as, cs, rfl, ha, hrw, h40, h100, q1, q2⟩ := h
  have hu := hu_of hr
  refine ⟨_, pss_cons (ps_set (i := 1) sc_WishedNames.nd rfl (Or.inl rfl) pe_dnewK)
    (pss_cons (ps_for PassesOwn.never rfl (pi_lt (pv 0)) (pg_name (i := 2) sc_WishedNames.nd rfl (Or.inl rfl))
      (pss_one (ps_for PassesOwn.never rfl (pi_range2 rfl B.range (pa_cons pe_int (pa_cons (pe_op op_add (pe_callB call_len_seq rfl B.len bt_len (pa_cons (pv 2) pa_nil)) pe_int) pa_nil))) (pg_name (i := 3) sc_WishedNames.nd rfl (Or.inl rfl))
        (pss_cons (ps_set (i := 4) sc_WishedNames.nd rfl (Or.inl rfl) (pe_slice sl_tupA (pv 2) po_none (po_some (pv 3))))
        (pss_cons (ps_if (pt_cmpR (op_neD hr.units) (pe_dget2 hu (pv 1) (pe_ix ix_tup (pv 4) (pe_un un_neg pe_int) (fun _ _ => rfl)) (pv 4) ⟨rfl, rfl, rfl, rfl⟩) (pv 4) (nomark _)) (pss_one (ps_ret pe_non)) pss_nil)
        (pss_one (ps_dput hu (pv 1) (pe_ix ix_tup (pv 4) (pe_un un_neg pe_int) (fun _ _ => rfl)) (pv 4) rfl)))))))
    (pss_one (ps_ret (pv 1)))), ?_⟩
  intro d hd
  have s0 := same_new hd (.dK [])
  have hd0 : upd H d (.dK []) d = some (.dK []) := upd_same
  generalize upd H d (.dK []) = H0 at s0 hd0
  have hlen := hrw.len
  refine ⟨_, rfl, a, rfl, for_lt (ha.same s0) (fun i σ' H' => ∃ (z1 z2 z3 : Option V) (kvs : List (Key × V)) (m : Mp), σ' = [some (.ref a), some (.ref d), z1, z2, z3] ∧ Same H H' ∧ H' d = some (.dK kvs) ∧ kvs.length ≤ i * 40 ∧ DictAt H' kvs m ∧ wishF (starts (cs.take i)) (fun _ => none) = some m)
    ⟨_, _, _, [], fun _ => none, rfl, s0, hd0, Nat.zero_le _, fun i => .inl ⟨rfl, rfl⟩, rfl⟩ (fun i σ' H' _ pv => by obtain ⟨_, _, _, _, _, _, s1, _⟩ := pv; exact keep_lt ha s0 s1) ?_ ?_⟩
  · rintro i x σ' H1 hi ⟨z1, z2, z3, kvs, m, rfl, s1, hd1, hkl, hda, hw⟩ hx
    obtain ⟨b, hb, rfl⟩ := refs_got hx
    obtain ⟨c, hc, hcr⟩ := hrw.got hb
    have hi100 : i < 100 := by rw [refs_len] at hi; omega
    have hcl := h40 c (List.mem_of_getElem? hc)
    refine ⟨_, rfl, b, _, rfl, .inr (tupT (s1 _ _ hcr)), _, _, rfl, rfl, 1, (((iv c).length : Nat) : Int) + 1, rfl, ⟨by omega, by omega, by omega, by rw [iv_len]; omega⟩, ?_⟩
    have en : ((((iv c).length : Nat) : Int) + 1 - 1).toNat = c.length := by rw [iv_len]; omega
    rw [en]
    refine for_range (fun j σ' H' => ∃ (z2 z3 : Option V) (kvs : List (Key × V)) (m : Mp), σ' = [some (.ref a), some (.ref d), some (.ref b), z2, z3] ∧ Same H H' ∧ H' d = some (.dK kvs) ∧ kvs.length ≤ i * 40 + j ∧ DictAt H' kvs m ∧ wishF (starts (cs.take i) ++ sts c j) (fun _ => none) = some m)
      ⟨_, _, kvs, m, rfl, s1, hd1, hkl, hda, by show wishF (_ ++ []) _ = _; rw [List.append_nil]; exact hw⟩ ?_ ?_
    · rintro j σ' H2 hj ⟨z2, z3, kvs, m, rfl, s2, hd2, hkl2, hda2, hw2⟩
      have ej : (1 : Int) + ((j : Nat) : Int) = ((j + 1 : Nat) : Int) := by omega
      rw [ej]
      refine ⟨_, rfl, _, rfl, _, rfl, cut_take (s2 _ _ hcr) (by omega) fun t H3 s3 ht => ?_⟩
      have hne := take_last hj
      have hd3 := s3 _ _ hd2
      have hda3 := hda2.tk (tk_of s3)
      generalize hs : c.take (j + 1) = s at ht hne
      obtain ⟨e, he, her⟩ := hda3.got (i := lastN s) ht
      refine ⟨_, rfl, d, rfl, .inl ⟨_, .inl hd3⟩, _, rfl, _, rfl, t, _, _, _, rfl, rfl, tupT ht, iv_last hne, _, rfl, _, DGet.k (k := Sum.inl ((lastN s : Nat) : Int)) hd3, ?_⟩
      refine ⟨_, rfl, (.tuple ((zl ((m (lastN s)).getD s)).map .int)), (.tuple ((zl s).map .int)), ?_, dp_iv ht, shaped_zl _, shaped_zl _, _, rfl, ?_⟩
      · rw [he]
        exact dp_iv her
      · rw [eqv_zl]
        by_cases hg : (m (lastN s)).getD s = s
        · refine if_f (by rw [decide_eq_true hg]; rfl) ?_
          refine ⟨_, rfl, _, rfl, _, rfl, _, rfl, t, _, _, _, rfl, rfl, tupT ht, iv_last hne, d, _, rfl, DPut.k (k := Sum.inl ((lastN s : Nat) : Int)) hd3 (szt (by omega)), ?_⟩
          have t4 := tk_dK (o := .dK (putK kvs (Sum.inl ((lastN s : Nat) : Int)) (.ref t))) hd3
          refine ⟨_, _, _, put1 m s, rfl, same_mut (s2.trans s3) hd, upd_same, ?_, (hda3.put ht).tk t4, ?_⟩
          · have := length_putK kvs (Sum.inl ((lastN s : Nat) : Int)) (V.ref t)
            omega
          · rw [sts_succ, ← List.append_assoc, wishF_append, hw2, hs]
            show (if _ then wishF [] (put1 m s) else none) = _
            rw [if_pos hg]
            rfl
        · refine if_t (by rw [decide_eq_false hg]; rfl) ?_
          refine q1 (wish_falls hc hj hw2 (by rw [hs]; exact hg)) _ (s2.trans s3)
    · rintro σ' H2 ⟨z2, z3, kvs, m, rfl, s2, hd2, hkl2, hda2, hw2⟩
      refine ⟨_, _, _, kvs, m, rfl, s2, hd2, by omega, hda2, ?_⟩
      rw [starts_take hc]
      exact hw2
  · rintro σ' H1 ⟨z1, z2, z3, kvs, m, rfl, s1, hd1, hkl, hda, hw⟩
    rw [refs_len, hlen, List.take_length] at hw
    exact ⟨_, rfl, q2 m hw _ _ kvs s1 hd1 hda⟩
end
end Pb

/-! PbG: run_with. -/
namespace Pb
open PySem PySem.Spec PyProof.Rows L2

inductive BadRow (P : List (List Nat)) (H : Hp) : V → Prop
  | non : BadRow P H .non
  | str (x : Str) : BadRow P H (.str x)
  | row {b : Addr} {as : List Addr} {cs : List (List Nat)} {bad : V} {o : Option (List V)} {post : List V} (hb : Lt H b (refs as ++ bad :: post)) (hr : Rws H as cs) (hc : ∀ c, c ∈ cs → Chain P c) (ht : Thing H bad o) (hv : chainV P o = false) : BadRow P H (.ref b)
def spRunWith (C : Addr) : Sp := fun vs H Q E => ∃ (a : Addr) (P : List (List Nat)) (x : V), vs = [.ref a, x] ∧ PlanAt H a P ∧ IsPlan P ∧ P.length ≤ 40 ∧
  ((BadRow P H x ∧ ∀ H', Same H H' → E (.ref C) none H') ∨
    (∃ (b : Addr) (as : List Addr) (cs : List (List Nat)), x = .ref b ∧ Lt H b (refs as) ∧ Rws H as cs ∧ (∀ c, c ∈ cs → Chain P c) ∧ cs.length ≤ 100 ∧ (wish cs = none → ∀ H', Same H H' → Q .non H') ∧
      ∀ m, wish cs = some m → ∀ H' p, Same H H' → H' p = some (.tup (iv (runFor P (knownOf m)))) → Q (.ref p) H'))
theorem lt_kd {H : Hp} {a : Addr} {xs : List V} (h : Lt H a xs) : ∃ t b1 b2, Kd H (.ref a) t ∧ kitB t "list" = some b1 ∧ kitB t "tuple" = some b2 ∧ (b1 || b2) = true := by
  rcases h with h | h
  · exact ⟨_, true, false, .lst h, by decide +kernel, by decide +kernel, rfl⟩
  · exact ⟨_, false, true, .tup h, by decide +kernel, by decide +kernel, rfl⟩
section
variable {P : Program} {w : World} {K : PySem.W.Frag} {mg : Str → Option Value} {base : Heap} {f : Addr} {fd : FuncData}
abbrev nRunWith : List Str := ["plan", "row", "chain", "wished", "known", "run", "item", "seen", "name", "other"]
theorem sc_RunWith : FnScope nRunWith ["plan", "row"] (defScope sRunWith) := ⟨rfl, rfl, rfl, by decide +kernel, rfl, by decide +kernel, by decide +kernel⟩
theorem ok_RunWith (B : Blt mg) {C : Addr} (T : XTxt K mg "NoChain" C) {f1 f2 f3 f4 f5 : Addr} {fd1 fd2 fd3 fd4 fd5 : FuncData} (C1 : Callee P w K mg base CX0 4 "check_plan" f1 fd1 ["thing"] spCheckPlan) (C2 : Callee P w K mg base CX0 1 "is_listed" f2 fd2 ["thing"] spIsListed)
    (C3 : Callee P w K mg base (L2.CX P w) 4 "check_chain" f3 fd3 ["plan", "thing"] (spCheckChain C)) (C4 : Callee P w K mg base CX0 1 "wished_names" f4 fd4 ["row"] spWishedNames) (C5 : Callee P w K mg base CX0 1 "chain_key" f5 fd5 ["chain"] spChainKey)
    (F : Fun K "run_with" "run_with" sRunWith f fd) : FnOk P w K mg base (L2.CX P w) 5 f fd ["plan", "row"] (spRunWith C) := by
  refine F.okX sc_RunWith (fun vs H Q E h => ?_) (fun cdv A outer s H vs Q E hr h => ?_)
  · obtain ⟨a, p, x, rfl, _⟩ := h
    rfl
  obtain ⟨a, p, x, rfl, ⟨as, ha, hrw⟩, hP, h40, q⟩ := h
  have hu := hu_of hr
  have hlen : as.length = p.length := hrw.len
  refine ⟨_, pss_cons (ps_expr (pe_c C1 hr rfl (pa_cons (pv 0) pa_nil)))
    (pss_cons (ps_if (pt_not (pt_val (pe_c C2 hr rfl (pa_cons (pv 1) pa_nil)))) (pss_one (ps_raise rfl (takes_of rfl rfl rfl rfl) (pmk_own0 PySem.F.excBase_ValueError T.x T.g T.k (raises_own T.b T.t) rfl))) pss_nil)
    (pss_cons (ps_for (passes_of rfl) rfl (pi_lt (pv 1)) (pg_name (i := 2) sc_RunWith.nd rfl (Or.inl rfl))
      (pss_one (ps_expr (pe_call (E := E) C3.ok (hr.mono (by decide)) rfl C3.gl C3.kp C3.bd .nil (passes_call (takes_of rfl rfl rfl rfl) (fun _ _ _ _ h => h)) (pa_cons (pv 0) (pa_cons (pv 2) pa_nil))))))
    (pss_cons (ps_set (i := 3) sc_RunWith.nd rfl (Or.inl rfl) (pe_c C4 hr rfl (pa_cons (pv 1) pa_nil)))
    (pss_cons (ps_if (pt_cmpR op_isN (pv 3) pe_non (nomark _)) (pss_one (ps_ret pe_non)) pss_nil)
    (pss_cons (ps_set (i := 4) sc_RunWith.nd rfl (Or.inr rfl) (pe_lst pa_nil))
    (pss_cons (ps_set (i := 5) sc_RunWith.nd rfl (Or.inl rfl) (pe_lst pa_nil))
    (pss_cons (ps_for (passes_of rfl) rfl (pi_enumT rfl B.enumerate (pa_cons (pv 0) pa_nil)) (pg_tup rfl (pgs_cons (pg_name (i := 6) sc_RunWith.nd rfl (Or.inl rfl)) (pgs_cons (pg_name (i := 7) sc_RunWith.nd rfl (Or.inl rfl)) pgs_nil)))
      (pss_cons (ps_set (i := 8) sc_RunWith.nd rfl (Or.inr rfl) (pe_dget2 hu (pv 3) (pv 6) (pe_tup (pa_cons (pv 6) pa_nil)) ⟨rfl, rfl, rfl, rfl⟩))
      (pss_cons (ps_expr (pe_bm PySem.F.plainAttrs_list PySem.F.slot_list_append PySem.F.type_list_append mt_append (pv 5) (pa_cons (pe_callB call_len_seq rfl B.len bt_len (pa_cons
        (pe_lc (own := [("other", 9)]) (g := gName 9) (tt := tTest (tOp (rLtT K) (tCall spChainKey [] E0 (tCons (tOp (rIxL K) (tVar 4) (tVar 9)) tNil)) (tCall spChainKey [] E0 (tCons (tVar 8) tNil)))) (te := tVar 9) rfl sc_RunWith.nd (pi_tup (pv 7)) (blkOk_by (N := nRunWith) (sc := defScope sRunWith) (by decide +kernel))
          (fun _ _ _ _ _ => pg_name (i := 9) sc_RunWith.nd rfl (Or.inl rfl)) (fun _ _ _ _ _ => pts_one (pt_cmpR (op_ltT hr.units0) (pe_c C5 hr rfl (pa_cons (pe_ix ix_list (pv 4) (pv 9) (fun _ _ => rfl)) pa_nil)) (pe_c C5 hr rfl (pa_cons (pv 8) pa_nil)) (nomark _))) (fun _ _ _ _ _ => pv 9)) pa_nil)) pa_nil)))
      (pss_one (ps_expr (pe_bm PySem.F.plainAttrs_list PySem.F.slot_list_append PySem.F.type_list_append mt_append (pv 4) (pa_cons (pv 8) pa_nil)))))))
    (pss_one (ps_ret (pe_callTy call_tuple_of rfl B.tuple bt_tuple (pa_cons (pv 5) pa_nil))))))))))), ?_⟩
  refine ⟨_, rfl, a, p, rfl, ⟨as, ha, hrw⟩, hP, h40, fun H1 s1 => ?_⟩
  have ha1 := s1 _ _ ha
  have hrw1 := hrw.tk (tk_of s1)
  -- the chains of a row are asked, one after another
  rcases q with ⟨hbad, qE⟩ | ⟨b, bs, cs, rfl, hb, hbr, hch, h100, q1, q2⟩
  · cases hbad with
    | non =>
      refine ⟨_, rfl, .non, _, false, false, rfl, .non, by decide +kernel, by decide +kernel, fun H2 s2 => ⟨_, rfl, ?_⟩⟩
      exact iteT (qE _ (s1.trans s2))
    | str y =>
      refine ⟨_, rfl, .str y, _, false, false, rfl, .str y, by decide +kernel, by decide +kernel, fun H2 s2 => ⟨_, rfl, ?_⟩⟩
      exact iteT (qE _ (s1.trans s2))
    | @row b bs cs bad o post hb hbr hc ht hv =>
      obtain ⟨t, b1, b2, k1, k2, k3, k4⟩ := lt_kd (hb.same s1)
      refine ⟨_, rfl, _, t, b1, b2, rfl, k1, k2, k3, fun H2 s2 => ⟨_, rfl, ?_⟩⟩
      refine if_f (by rw [k4]; rfl) ?_
      have s12 := s1.trans s2
      refine ⟨_, rfl, b, rfl, for_lt (hb.same s12) (fun i σ' H' => ∃ z : Option V, σ' = [some (.ref a), some (.ref b), z, none, none, none, none, none, none, none] ∧ Same H H' ∧ i ≤ bs.length) ⟨_, rfl, s12, Nat.zero_le _⟩
        (fun i σ' H' _ pv => by obtain ⟨_, _, s3, _⟩ := pv; exact keep_lt hb s12 s3) ?_ ?_⟩
      · rintro i y σ' H3 hi ⟨z, rfl, s3, hle⟩ hy
        by_cases hlt : i < bs.length
        · rw [List.getElem?_append_left (by rw [refs_len]; exact hlt)] at hy
          obtain ⟨d, hd, rfl⟩ := refs_got hy
          obtain ⟨c, hcg, hcr⟩ := hbr.got hd
          have hcc := hc c (List.mem_of_getElem? hcg)
          have hcl := chain_len hP hcc
          refine ⟨_, rfl, _, rfl, a, p, .ref d, some (iv c), rfl, ⟨as, s3 _ _ ha, hrw.tk (tk_of s3)⟩, hP, h40, thing_row (s3 _ _ hcr) (by omega), fun _ H4 s4 => ?_, fun hf => ?_⟩
          · exact ⟨_, rfl, s3.trans s4, hlt⟩
          · rw [chainV_of hP hcc] at hf
            cases hf
        · have e : i = bs.length := by omega
          subst e
          rw [List.getElem?_append_right (by rw [refs_len]; omega), refs_len, Nat.sub_self] at hy
          have ey : bad = y := by simpa using hy
          subst ey
          refine ⟨_, rfl, _, rfl, a, p, bad, o, rfl, ⟨as, s3 _ _ ha, hrw.tk (tk_of s3)⟩, hP, h40, ht.same s3, fun hf => ?_, fun _ H4 s4 => qE _ (s3.trans s4)⟩
          rw [hv] at hf
          cases hf
      · rintro σ' H3 ⟨z, _, _, hle⟩
        rw [List.length_append, refs_len, List.length_cons] at hle
        omega
  · obtain ⟨t, b1, b2, k1, k2, k3, k4⟩ := lt_kd (hb.same s1)
    refine ⟨_, rfl, _, t, b1, b2, rfl, k1, k2, k3, fun H2 s2 => ⟨_, rfl, ?_⟩⟩
    refine if_f (by rw [k4]; rfl) ?_
    have s12 := s1.trans s2
    refine ⟨_, rfl, b, rfl, for_lt (hb.same s12) (fun i σ' H' => ∃ z : Option V, σ' = [some (.ref a), some (.ref b), z, none, none, none, none, none, none, none] ∧ Same H H') ⟨_, rfl, s12⟩
      (fun i σ' H' _ pv => by obtain ⟨_, _, s3⟩ := pv; exact keep_lt hb s12 s3) ?_ ?_⟩
    · rintro i y σ' H3 hi ⟨z, rfl, s3⟩ hy
      obtain ⟨d, hd, rfl⟩ := refs_got hy
      obtain ⟨c, hcg, hcr⟩ := hbr.got hd
      have hcc := hch c (List.mem_of_getElem? hcg)
      have hcl := chain_len hP hcc
      refine ⟨_, rfl, _, rfl, a, p, .ref d, some (iv c), rfl, ⟨as, s3 _ _ ha, hrw.tk (tk_of s3)⟩, hP, h40, thing_row (s3 _ _ hcr) (by omega), fun _ H4 s4 => ?_, fun hf => ?_⟩
      · exact ⟨_, rfl, s3.trans s4⟩
      · rw [chainV_of hP hcc] at hf
        cases hf
    · rintro σ' H3 ⟨z, rfl, s3⟩
      refine ⟨_, rfl, b, bs, cs, rfl, hb.same s3, hbr.tk (tk_of s3), fun c hc => by have := chain_len hP (hch c hc); omega, h100, fun hw H4 s4 => ?_, fun m hw H4 d kvs s4 hd4 hda4 => ?_⟩
      · refine ⟨_, rfl, rfl, _, rfl, ?_⟩
        exact if_t (by decide) (q1 hw _ (s3.trans s4))
      · obtain ⟨hW, _⟩ := wish_wished hch hw
        have s04 := s3.trans s4
        refine ⟨_, rfl, rfl, _, rfl, ?_⟩
        refine if_f (decide_eq_false fun z => by cases z) ?_
        refine ⟨(by show 0 ≤ sizeLine; decide), fun kn hkn => ?_⟩
        have s5 := same_new hkn (.lst [])
        have hk5 : upd H4 kn (.lst []) kn = some (.lst []) := upd_same
        have hn0 : H kn = none := s04.free hkn
        generalize upd H4 kn (.lst []) = H5 at s5 hk5
        refine ⟨(by show 0 ≤ sizeLine; decide), fun rn hrn => ?_⟩
        have s6 := same_new hrn (.lst [])
        have hr6 : upd H5 rn (.lst []) rn = some (.lst []) := upd_same
        have hr0 : H rn = none := (s04.trans s5).free hrn
        have hnr : kn ≠ rn := ne_of_none hk5 hrn
        have hdr : d ≠ rn := ne_of_none (s5 _ _ hd4) hrn
        have hdk : d ≠ kn := ne_of_none hd4 hkn
        have hk6 := s6 _ _ hk5
        generalize upd H5 rn (.lst []) = H6 at s6 hr6 hk6
        have s06 := s04.trans (s5.trans s6)
        have t46 := tk_of (s5.trans s6)
        refine ⟨_, rfl, a, _, rfl, tupT (s06 _ _ ha), ?_⟩
        refine for_it (walk_enumT (xs := refs as)) (fun i σ' H' => ∃ (z1 z2 z3 z4 z5 : Option V) (es : List Addr), σ' = [some (.ref a), some (.ref b), z1, some (.ref d), some (.ref kn), some (.ref rn), z2, z3, z4, z5] ∧ Same H H' ∧ H' d = some (.dK kvs) ∧ DictAt H' kvs m ∧
          H' kn = some (.lst (refs es)) ∧ Rws H' es ((List.range i).map (knownOf m)) ∧ H' rn = some (.lst (iv ((List.range i).map fun i => (below (knownOf m) (key (knownOf m i)) (seen p i)).length))))
          ⟨_, _, _, _, _, [], rfl, s06, (s5.trans s6) _ _ hd4, hda4.tk t46, hk6, .nil, hr6⟩ (fun i σ' H' _ pv => by obtain ⟨_, _, _, _, _, _, _, s7, _⟩ := pv; exact tupT (s7 _ _ ha)) ?_ ?_
        · rintro i y σ' H7 H7' hi ⟨z1, z2, z3, z4, z5, es, rfl, s7, hd7, hda7, hk7, hes7, hr7⟩ ⟨U, x1, x2, rfl, hU, rfl, ex1, ex2⟩
          have ex1' : V.int ((i : Nat) : Int) = x1 := Option.some.inj ex1
          subst ex1'
          obtain ⟨c, hc, rfl⟩ := refs_got ex2
          have hip : i < p.length := by rw [refs_len] at hi; omega
          have hcr0 : H c = some (.tup (iv (seen p i))) := hrw.rw_ i c _ hc (seen_get hip)
          have t8 := same_new hU (.tup [.int ((i : Nat) : Int), .ref c])
          have hU8 : upd H7 U (.tup [.int ((i : Nat) : Int), .ref c]) U = some (.tup [.int ((i : Nat) : Int), .ref c]) := upd_same
          generalize upd H7 U (.tup [.int ((i : Nat) : Int), .ref c]) = H8 at t8 hU8
          have s8 := s7.trans t8
          have hes8 := hes7.tk (tk_of t8)
          have hel := hes7.len
          rw [List.length_map, List.length_range] at hel
          refine ⟨U, _, rfl, tupT hU8, rfl, _, _, rfl, _, _, rfl, rfl, ?_⟩
          refine ⟨_, rfl, d, rfl, .inl ⟨_, .inl (t8 _ _ hd7)⟩, _, rfl, _, rfl, (by show 1 ≤ sizeLine; decide), fun u hu2 => ?_⟩
          have t9 := same_new hu2 (.tup [V.int ((i : Nat) : Int)])
          have hu9 : upd H8 u (.tup [V.int ((i : Nat) : Int)]) u = some (.tup (iv [i])) := upd_same
          generalize upd H8 u (.tup [V.int ((i : Nat) : Int)]) = H9 at t9 hu9
          have t79 := t8.trans t9
          have s9 := s7.trans t79
          obtain ⟨nm, hnm, hnmr⟩ := (hda7.tk (tk_of t79)).got (i := i) hu9
          refine ⟨_, DGet.k (k := Sum.inl ((i : Nat) : Int)) (t79 _ _ hd7), ?_⟩
          rw [hnm]
          have hnmr' : H9 nm = some (.tup (iv (knownOf m i))) := hnmr
          have hkl : (knownOf m i).length ≤ 40 := by have := chain_len hP (hW.ch i hip); omega
          have hr9 := t79 _ _ hr7
          refine ⟨_, rfl, .inl ⟨rfl, _, lstL hr9⟩, _, rfl, c, rfl, ⟨_, tupT (s9 _ _ hcr0)⟩, fun D hD => ?_⟩
          have hsl := seen_len hP hip
          refine lc_acc (walk_tup (xs := iv (seen p i))) hD (fun j acc _ => acc = iv (below (knownOf m) (key (knownOf m i)) ((seen p i).take j))) (fun j acc _ _ _ h => h) rfl (fun j acc H hj h => by
            rw [h, iv_len]
            unfold below
            have := List.length_filter_le (fun j => decide (key (knownOf m j) < key (knownOf m i))) ((seen p i).take j)
            rw [List.length_take] at this
            exact szt (by omega)) (fun H10 s10 => tupT (s10 _ _ (s9 _ _ hcr0))) ?_ ?_
          · rintro j y H10 acc H10' Yes No hj s10 rfl ⟨rfl, hy⟩ ky kn2
            obtain ⟨n, hn, rfl⟩ := iv_got hy
            have hni : n < i := hP.lt i n hip (List.mem_of_getElem? hn)
            have hnP : n < p.length := by omega
            have heg : ((List.range i).map (knownOf m))[n]? = some (knownOf m n) := by rw [List.getElem?_map, List.getElem?_range hni]; rfl
            obtain ⟨g, hg, hgr⟩ := (hes7.tk (tk_of (t79.trans s10))).get heg
            have hgl : (knownOf m n).length ≤ 40 := by have := chain_len hP (hW.ch n hnP); omega
            refine ⟨rfl, _, rfl, _, rfl, kn, _, _, _, rfl, rfl, lstL (s10 _ _ (t79 _ _ hk7)), at_nat (refs_get hg), g, _, rfl, hgr, by omega, fun H11 k s11 hk => ?_⟩
            refine ⟨_, rfl, nm, _, rfl, s11 _ _ (s10 _ _ hnmr'), by omega, fun H12 k' s12' hk' => ?_⟩
            refine ⟨k, k', key (knownOf m n), key (knownOf m i), rfl, rfl, tupT (s12' _ _ hk), tupT hk', _, rfl, ?_⟩
            rw [lexLt_eq]
            have s102 := s11.trans s12'
            have etk : below (knownOf m) (key (knownOf m i)) ((seen p i).take (j + 1)) = below (knownOf m) (key (knownOf m i)) ((seen p i).take j) ++ below (knownOf m) (key (knownOf m i)) [n] := by
              unfold below
              rw [List.take_add_one, hn, List.filter_append]
              rfl
            by_cases hlt : key (knownOf m n) < key (knownOf m i)
            · refine if_t (decide_eq_true hlt) ?_
              refine ⟨_, rfl, ky _ _ s102 ?_⟩
              rw [etk, iv_app]
              congr 1
              have e : below (knownOf m) (key (knownOf m i)) [n] = [n] := List.filter_cons_of_pos (by simpa using hlt)
              rw [e]
              rfl
            · refine if_f (decide_eq_false hlt) (kn2 _ s102 ?_)
              have e : below (knownOf m) (key (knownOf m i)) [n] = [] := List.filter_cons_of_neg (by simpa using hlt)
              rw [etk, e, List.append_nil]
          · rintro H10 acc s10 hacc rfl
            rw [iv_len, List.take_length] at hacc
            have hr10 := s10 _ _ hr9
            have s710 := t79.trans s10
            refine ⟨D, _, rfl, .inl (lstL hacc), rn, _, _, rfl, rfl, hr10, szt (by rw [iv_len, List.length_map, List.length_range]; omega), ?_⟩
            have t11 := tk_lst (o := .lst (iv ((List.range i).map fun i => (below (knownOf m) (key (knownOf m i)) (seen p i)).length) ++ [V.int (((iv (below (knownOf m) (key (knownOf m i)) (seen p i))).length : Nat) : Int)])) hr10
            have hr11 : upd H10 rn (.lst (iv ((List.range i).map fun i => (below (knownOf m) (key (knownOf m i)) (seen p i)).length) ++ [V.int (((iv (below (knownOf m) (key (knownOf m i)) (seen p i))).length : Nat) : Int)])) rn = some (.lst (iv ((List.range (i + 1)).map fun i => (below (knownOf m) (key (knownOf m i)) (seen p i)).length))) := by
              rw [upd_same, List.range_succ, List.map_append, iv_app, iv_len]
              rfl
            have s11 : Same H (upd H10 rn (.lst (iv ((List.range i).map fun i => (below (knownOf m) (key (knownOf m i)) (seen p i)).length) ++ [V.int (((iv (below (knownOf m) (key (knownOf m i)) (seen p i))).length : Nat) : Int)]))) := same_mut (s9.trans s10) hr0
            have hk11 : upd H10 rn (.lst (iv ((List.range i).map fun i => (below (knownOf m) (key (knownOf m i)) (seen p i)).length) ++ [V.int (((iv (below (knownOf m) (key (knownOf m i)) (seen p i))).length : Nat) : Int)])) kn = some (.lst (refs es)) := by
              rw [upd_ne hnr]
              exact s710 _ _ hk7
            have hd11 : upd H10 rn (.lst (iv ((List.range i).map fun i => (below (knownOf m) (key (knownOf m i)) (seen p i)).length) ++ [V.int (((iv (below (knownOf m) (key (knownOf m i)) (seen p i))).length : Nat) : Int)])) d = some (.dK kvs) := by
              rw [upd_ne hdr]
              exact s710 _ _ hd7
            generalize upd H10 rn (.lst (iv ((List.range i).map fun i => (below (knownOf m) (key (knownOf m i)) (seen p i)).length) ++ [V.int (((iv (below (knownOf m) (key (knownOf m i)) (seen p i))).length : Nat) : Int)])) = H11 at t11 hr11 s11 hk11 hd11
            have t711 := (tk_of s710).trans t11
            have t911 := (tk_of s10).trans t11
            refine ⟨_, rfl, .inl ⟨rfl, _, lstL hk11⟩, _, rfl, kn, _, _, rfl, rfl, hk11, szt (by rw [refs_len]; omega), ?_⟩
            have t12 := tk_lst (o := .lst (refs es ++ [V.ref nm])) hk11
            refine ⟨_, _, _, _, _, es ++ [nm], rfl, same_mut s11 hn0, by rw [upd_ne hdk]; exact hd11, (hda7.tk t711).tk t12, by rw [refs_app]; exact upd_same, ?_, by rw [upd_ne (Ne.symm hnr)]; exact hr11⟩
            rw [List.range_succ, List.map_append]
            exact ((hes7.tk t711).tk t12).snoc (t12 _ _ (t911 _ _ hnmr'))
        · rintro σ' H7 ⟨z1, z2, z3, z4, z5, es, rfl, s7, hd7, hda7, hk7, hes7, hr7⟩
          rw [refs_len, hlen] at hr7
          refine ⟨_, rfl, rn, _, rfl, .inl ⟨lstL hr7, fun k hk => ?_⟩⟩
          exact q2 m hw _ k (s7.trans (same_new hk _)) upd_same
end
end Pb

/-! PbH: the law's helpers: _law_state, _law_draw, _law_plan. -/
namespace Pb
open PySem PySem.Spec PyProof.Rows L2

abbrev sLawState : Stmt := top 36
abbrev sLawDraw : Stmt := top 37
abbrev sLawPlan : Stmt := top 38
/-- the law's state: a list of three ints -/
def StAt (H : Hp) (st : Addr) : Prop := ∃ x y z : Int, H st = some (.lst [.int x, .int y, .int z])
/-- all but the state is as it was -/
def Kp (st : Addr) (H H' : Hp) : Prop := ∀ b o, b ≠ st → H b = some o → H' b = some o
theorem Kp.refl (st : Addr) (H : Hp) : Kp st H H := fun _ _ _ h => h
theorem Kp.trans {st : Addr} {H H1 H2 : Hp} (a : Kp st H H1) (b : Kp st H1 H2) : Kp st H H2 := fun c o hc h => b c o hc (a c o hc h)
theorem kp_of {st : Addr} {H H' : Hp} (s : Same H H') : Kp st H H' := fun b o _ h => s b o h
theorem Kp.tk {st : Addr} {H H' : Hp} (k : Kp st H H') (hs : StAt H st) : Tk H H' := fun b xs hb => by
  obtain ⟨x, y, z, h⟩ := hs
  exact k b _ (ne_of hb h (fun z => nomatch z)) hb
theorem kp_upd {st : Addr} {H : Hp} {o : HO} : Kp st H (upd H st o) := fun b o' hb h => by rw [upd_ne hb]; exact h
theorem kp_mut {st p : Addr} {H H' : Hp} {o : HO} (k : Kp st H H') (h : H p = none) : Kp st H (upd H' p o) := fun b o' hb hh => by
  rw [upd_ne (ne_of_none hh h)]
  exact k b o' hb hh
theorem Kp.free {st : Addr} {H H' : Hp} (k : Kp st H H') (hs : StAt H st) {l : Addr} (hs' : StAt H' st) (h : H' l = none) : H l = none := by
  cases q : H l with
  | none => rfl
  | some o =>
    by_cases e : l = st
    · subst e
      obtain ⟨x, y, z, g⟩ := hs'
      rw [h] at g
      cases g
    · rw [k l o e q] at h
      cases h
theorem StAt.same {H H' : Hp} {st : Addr} (h : StAt H st) (s : Same H H') : StAt H' st := let ⟨x, y, z, g⟩ := h; ⟨x, y, z, s _ _ g⟩
theorem st_ne {H : Hp} {st p : Addr} (h : StAt H st) (hp : H p = none) : p ≠ st := by
  intro e
  subst e
  obtain ⟨x, y, z, g⟩ := h
  rw [hp] at g
  cases g

def spLawState (K : PySem.W.Frag) : Sp := fun vs H Q _ => ∃ (a : Addr) (ns : List Int) (k : Int), vs = [.ref a, .int k] ∧ SqL K H a (ns.map V.int) ∧ ns.length ≤ 63 ∧ 0 ≤ k ∧ k ≤ 1000 ∧ ∀ H' p, Same H H' → H p = none → StAt H' p → Q (.ref p) H'
def spLawDraw : Sp := fun vs H Q _ => ∃ (st : Addr) (m : Int), vs = [.ref st, .int m] ∧ StAt H st ∧ 0 < m ∧ m < 1000 ∧ ∀ (r : Nat) H', ((r : Nat) : Int) < m → Kp st H H' → StAt H' st → (∀ b, H' b = none ↔ H b = none) → Q (.int ((r : Nat) : Int)) H'
def spLawPlan : Sp := fun vs H Q _ => ∃ (st : Addr) (n : Nat), vs = [.ref st, .int ((n : Nat) : Int)] ∧ StAt H st ∧ n ≤ 40 ∧ ∀ H' p P, Kp st H H' → StAt H' st → PlanAt H' p P → IsPlan P → P.length = n → Q (.ref p) H'

section
variable {P : Program} {w : World} {K : PySem.W.Frag} {mg : Str → Option Value} {base : Heap} {f : Addr} {fd : FuncData}
abbrev nLawState : List Str := ["_law_script", "_law_k", "_law_cell", "_law_rest"]
theorem sc_LawState : FnScope nLawState ["_law_script", "_law_k"] (defScope sLawState) := ⟨rfl, rfl, rfl, by decide +kernel, rfl, by decide +kernel, by decide +kernel⟩
theorem ok_LawState (B : Blt mg) (F : Fun K "_law_state" "_law_state" sLawState f fd) : FnOk P w K mg base CX0 1 f fd ["_law_script", "_law_k"] (spLawState K) := by
  refine F.ok sc_LawState (fun vs H Q E h => ?_) (fun cdv A outer s H vs Q E hr h => ?_)
  · obtain ⟨a, ns, k, rfl, _⟩ := h
    rfl
  obtain ⟨a, ns, k, rfl, ha, h63, hk0, hk1, q⟩ := h
  refine ⟨_, pss_cons (ps_set (i := 2) sc_LawState.nd rfl (Or.inl rfl) (pe_ifExp (pt_cmpR op_lt (pv 1) (pe_callB call_len_seq rfl B.len bt_len (pa_cons (pv 0) pa_nil)) (nomark _)) (pe_ix ix_list (pv 0) (pv 1) (fun _ _ => rfl))
      (pe_op op_add (pe_op op_mul pe_int (pv 1)) (pe_op op_mul pe_int (pe_callB call_len_seq rfl B.len bt_len (pa_cons (pv 0) pa_nil))))))
    (pss_cons (ps_set (i := 3) sc_LawState.nd rfl (Or.inl rfl) (pe_ifExp (pt_cmpR op_ge (pv 2) (pe_op op_pow pe_int pe_int) (nomark _)) (pv 2) pe_int))
    (pss_one (ps_ret (pe_lst (pa_cons (pv 3) (pa_cons (pe_op op_mod (pe_callTy call_int1 rfl B.int bt_int (pa_cons (pe_op op_add (pv 2) (pe_op op_mul pe_int (pv 1))) pa_nil)) pe_int) (pa_cons pe_int pa_nil))))))), ?_⟩
  have key : ∀ c : Int, ∀ D : Ends, D.rt = Q → tSeq (tAsg (tIf (tTest (tOp (rI0 fun i j => .bl (decide (j ≤ i))) (tVar 2) (tOp (rI CPow fun i j => .int (i ^ j.toNat)) (tC (.int 10)) (tC (.int 18))))) (tVar 2) (tC (.int 0))) (gName 3))
      (tRet (tLst (tCons (tVar 3) (tCons (tOp (rI (fun _ j => 0 < j) fun i j => .int (i % j)) (tCB (fun xs H Q => (∃ i, xs = [.int i] ∧ Q (.int i) H) ∨ ∃ k, xs = [.bl k] ∧ Q (.int (if k then 1 else 0)) H) (tCons (tOp (rI0 fun i j => .int (i + j)) (tVar 2) (tOp (rI CMul fun i j => .int (i * j)) (tC (.int 104729)) (tVar 1))) tNil)) (tC (.int 1000000007))) (tCons (tC (.int 0)) tNil))))) D [some (.ref a), some (.int k), some (.int c), none] H := by
    intro c D hD
    have fin : ∀ z : Int, (tRet (tLst (tCons (tVar 3) (tCons (tOp (rI (fun _ j => 0 < j) fun i j => .int (i % j)) (tCB (fun xs H Q => (∃ i, xs = [.int i] ∧ Q (.int i) H) ∨ ∃ k, xs = [.bl k] ∧ Q (.int (if k then 1 else 0)) H) (tCons (tOp (rI0 fun i j => .int (i + j)) (tVar 2) (tOp (rI CMul fun i j => .int (i * j)) (tC (.int 104729)) (tVar 1))) tNil)) (tC (.int 1000000007))) (tCons (tC (.int 0)) tNil))))) D [some (.ref a), some (.int k), some (.int c), some (.int z)] H := by
      intro z
      refine ⟨_, rfl, _, rfl, _, rfl, _, _, rfl, rfl, .inl ⟨by omega, by omega⟩, _, _, rfl, rfl, .inl ⟨_, rfl, _, _, rfl, rfl, (show (0 : Int) < 1000000007 by decide), (by show 3 ≤ sizeLine; decide), fun p hp => ?_⟩⟩
      rw [hD]
      exact q _ p (same_new hp _) hp ⟨_, _, _, upd_same⟩
    refine ⟨_, rfl, _, _, rfl, rfl, ⟨by decide, by decide, by decide⟩, _, _, rfl, rfl, _, rfl, ?_⟩
    by_cases hc : (10 : Int) ^ (18 : Int).toNat ≤ c
    · exact if_t (decide_eq_true hc) ⟨_, rfl, fin c⟩
    · exact if_f (decide_eq_false hc) (fin 0)
  refine ⟨_, rfl, _, rfl, a, _, rfl, .inl ha, _, _, rfl, rfl, _, rfl, ?_⟩
  by_cases hlt : k < (((ns.map V.int).length : Nat) : Int)
  · refine if_t (decide_eq_true hlt) ?_
    rw [List.length_map] at hlt
    have eg : (ns.map V.int)[k.toNat]? = some (.int (ns.getD k.toNat 0)) := by
      rw [List.getElem?_map, getD_get (d := 0) (by omega)]
      rfl
    refine ⟨_, rfl, _, rfl, a, _, k, _, rfl, rfl, ha, at_of (by omega) eg, ?_⟩
    exact key _ _ rfl
  · refine if_f (decide_eq_false hlt) ?_
    refine ⟨_, rfl, _, _, rfl, rfl, .inl ⟨by omega, by omega⟩, _, rfl, a, _, rfl, .inl ha, _, _, rfl, rfl, .inl ⟨by omega, by omega⟩, _, _, rfl, rfl, ?_⟩
    exact key _ _ rfl

abbrev nLawDraw : List Str := ["_law_state_here", "_law_many", "_law_number"]
theorem sc_LawDraw : FnScope nLawDraw ["_law_state_here", "_law_many"] (defScope sLawDraw) := ⟨rfl, rfl, rfl, by decide +kernel, rfl, by decide +kernel, by decide +kernel⟩
theorem at3_0 {x y z : V} : atI [x, y, z] 0 = some x := rfl
theorem at3_1 {x y z : V} : atI [x, y, z] 1 = some y := rfl
theorem at3_2 {x y z : V} : atI [x, y, z] 2 = some z := rfl
theorem upd_none_iff {H : Hp} {st : Addr} {o o' : HO} (h : H st = some o) : ∀ b, upd H st o' b = none ↔ H b = none := fun b => by
  by_cases e : b = st
  · subst e
    rw [upd_same, h]
    simp
  · rw [upd_ne e]
theorem ok_LawDraw (B : Blt mg) (F : Fun K "_law_draw" "_law_draw" sLawDraw f fd) : FnOk P w K mg base CX0 1 f fd ["_law_state_here", "_law_many"] spLawDraw := by
  refine F.ok sc_LawDraw (fun vs H Q E h => ?_) (fun cdv A outer s H vs Q E hr h => ?_)
  · obtain ⟨st, m, rfl, _⟩ := h
    rfl
  obtain ⟨st, m, rfl, ⟨x, y, z, hst⟩, hm0, hm1, q⟩ := h
  refine ⟨_, pss_cons (ps_if (pt_cmpR op_gt (pe_ix ix_list (pv 0) pe_int (fun _ _ => rfl)) pe_int (nomark _))
      (pss_cons (ps_set (i := 2) sc_LawDraw.nd rfl (Or.inl rfl) (pe_op op_mod (pe_callTy call_int1 rfl B.int bt_int (pa_cons (pe_ix ix_list (pv 0) pe_int (fun _ _ => rfl)) pa_nil)) (pv 1)))
      (pss_cons (ps_asg (pe_op op_fdiv (pe_ix ix_list (pv 0) pe_int (fun _ _ => rfl)) (pv 1)) (pg_sub (pv 0) pe_int set_list))
      (pss_one (ps_ret (pv 2))))) pss_nil)
    (pss_cons (ps_asg (pe_op op_add (pe_ix ix_list (pv 0) pe_int (fun _ _ => rfl)) pe_int) (pg_sub (pv 0) pe_int set_list))
    (pss_cons (ps_set (i := 2) sc_LawDraw.nd rfl (Or.inl rfl) (pe_op op_mod (pe_callTy call_int1 rfl B.int bt_int (pa_cons (pe_op op_mul (pe_op op_add (pe_op op_add (pe_ix ix_list (pv 0) pe_int (fun _ _ => rfl)) (pe_op op_mul pe_int (pe_ix ix_list (pv 0) pe_int (fun _ _ => rfl)))) pe_int) pe_int) pa_nil)) pe_int))
    (pss_cons (ps_set (i := 2) sc_LawDraw.nd rfl (Or.inl rfl) (pe_op op_mod (pe_callTy call_int1 rfl B.int bt_int (pa_cons (pe_op op_mul (pv 2) (pe_op op_add (pe_op op_fdiv (pv 2) pe_int) pe_int)) pa_nil)) pe_int))
    (pss_cons (ps_set (i := 2) sc_LawDraw.nd rfl (Or.inl rfl) (pe_op op_mod (pe_callTy call_int1 rfl B.int bt_int (pa_cons (pe_op op_mul (pv 2) (pe_op op_add (pe_op op_add (pe_op op_fdiv (pv 2) pe_int) pe_int) (pe_ix ix_list (pv 0) pe_int (fun _ _ => rfl)))) pa_nil)) pe_int))
    (pss_one (ps_ret (pe_op op_mod (pe_callTy call_int1 rfl B.int bt_int (pa_cons (pe_op op_fdiv (pv 2) pe_int) pa_nil)) (pv 1)))))))), ?_⟩
  refine ⟨_, rfl, st, _, 0, _, rfl, rfl, lstL hst, at3_0, _, _, rfl, rfl, _, rfl, ?_⟩
  by_cases hx : 0 < x
  · refine if_t (decide_eq_true hx) ?_
    refine ⟨_, rfl, st, _, 0, _, rfl, rfl, lstL hst, at3_0, .inl ⟨_, rfl, _, rfl, _, _, rfl, rfl, hm0, ?_⟩⟩
    refine ⟨_, rfl, st, _, 0, _, rfl, rfl, lstL hst, at3_0, _, rfl, _, _, rfl, rfl, ⟨hm0, by omega⟩, _, rfl, st, _, 0, 0, rfl, rfl, hst, rfl, ?_⟩
    refine ⟨_, rfl, ?_⟩
    have h1 := Int.emod_nonneg x (show m ≠ 0 by omega)
    have h2 := Int.emod_lt_of_pos x hm0
    have e : x % m = (((x % m).toNat : Nat) : Int) := by omega
    have q' := q (x % m).toNat (upd H st (.lst [.int (x / m), .int y, .int z])) (by omega) kp_upd ⟨_, _, _, upd_same⟩ (upd_none_iff hst)
    rw [← e] at q'
    exact q'
  · refine if_f (decide_eq_false hx) ?_
    refine ⟨_, rfl, st, _, 2, _, rfl, rfl, lstL hst, at3_2, _, _, rfl, rfl, _, rfl, st, _, 2, 2, rfl, rfl, hst, rfl, ?_⟩
    have h2 : upd H st (.lst ([V.int x, V.int y, V.int z].set 2 (V.int (z + 1)))) st = some (.lst [.int x, .int y, .int (z + 1)]) := upd_same
    have k2 : Kp st H (upd H st (.lst ([V.int x, V.int y, V.int z].set 2 (V.int (z + 1))))) := kp_upd
    have n2 : ∀ b, upd H st (.lst ([V.int x, V.int y, V.int z].set 2 (V.int (z + 1)))) b = none ↔ H b = none := upd_none_iff hst
    show tSeq _ _ _ _ (upd H st (.lst ([V.int x, V.int y, V.int z].set 2 (V.int (z + 1)))))
    generalize upd H st (.lst ([V.int x, V.int y, V.int z].set 2 (V.int (z + 1)))) = H2 at h2 k2 n2
    refine ⟨_, rfl, st, _, 1, _, rfl, rfl, lstL h2, at3_1, _, rfl, st, _, 2, _, rfl, rfl, lstL h2, at3_2, _, _, rfl, rfl, .inl ⟨by omega, by omega⟩, _, _, rfl, rfl, _, _, rfl, rfl, _, _, rfl, rfl, .inr ⟨by omega, by omega⟩, .inl ⟨_, rfl, _, _, rfl, rfl, (show (0 : Int) < 2147483647 by decide), ?_⟩⟩
    generalize hn1 : ((y + 7919 * (z + 1) + 1) * 48271) % 2147483647 = n1
    have b1 : 0 ≤ n1 ∧ n1 < 2147483647 := by rw [← hn1]; omega
    refine ⟨_, rfl, _, rfl, _, _, rfl, rfl, ⟨by decide, by decide⟩, _, _, rfl, rfl, _, _, rfl, rfl, .inl ⟨by omega, by omega⟩, .inl ⟨_, rfl, _, _, rfl, rfl, (show (0 : Int) < 2147483647 by decide), ?_⟩⟩
    generalize hn2 : (n1 * (n1 / 1009 + 69621)) % 2147483647 = n2'
    have b2 : 0 ≤ n2' ∧ n2' < 2147483647 := by
      rw [← hn2]
      exact ⟨Int.emod_nonneg _ (by decide), Int.emod_lt_of_pos _ (by decide)⟩
    refine ⟨_, rfl, _, rfl, _, _, rfl, rfl, ⟨by decide, by decide⟩, _, _, rfl, rfl, _, rfl, st, _, 2, _, rfl, rfl, lstL h2, at3_2, _, _, rfl, rfl, _, _, rfl, rfl, .inl ⟨by omega, by omega⟩, .inl ⟨_, rfl, _, _, rfl, rfl, (show (0 : Int) < 2147483399 by decide), ?_⟩⟩
    refine ⟨_, rfl, _, _, rfl, rfl, ⟨by decide, by decide⟩, .inl ⟨_, rfl, _, rfl, _, _, rfl, rfl, hm0, ?_⟩⟩
    have fin : ∀ t : Int, Q (.int ((t / 16) % m)) H2 := fun t => by
      have h3 := Int.emod_nonneg (t / 16) (show m ≠ 0 by omega)
      have h4 := Int.emod_lt_of_pos (t / 16) hm0
      have e : (t / 16) % m = ((((t / 16) % m).toNat : Nat) : Int) := by omega
      have q' := q ((t / 16) % m).toNat H2 (by omega) k2 ⟨_, _, _, h2⟩ n2
      rw [← e] at q'
      exact q'
    exact fin _

theorem seen_snoc {P : List (List Nat)} {row : List Nat} {i : Nat} (h : i < P.length + 1) : seen (P ++ [row]) i = if i < P.length then seen P i else row := by
  split
  · exact seen_app_left (by assumption)
  · have e : i = P.length := by omega
    subst e
    exact seen_app_last
theorem isPlan_snoc {P : List (List Nat)} (hP : IsPlan P) {row : List Nat} (h1 : row.Pairwise (· < ·)) (h2 : ∀ x, x ∈ row → x < P.length) (h3 : ∀ x y, x ∈ row → y ∈ seen P x → y ∈ row) : IsPlan (P ++ [row]) := by
  refine ⟨fun i hi => ?_, fun i x hi hx => ?_, fun i x y hi hx hy => ?_⟩
  · rw [List.length_append, List.length_singleton] at hi
    rw [seen_snoc hi]
    split
    · exact hP.asc i (by assumption)
    · exact h1
  · rw [List.length_append, List.length_singleton] at hi
    rw [seen_snoc hi] at hx
    split at hx
    · exact hP.lt i x (by assumption) hx
    · have := h2 x hx
      omega
  · rw [List.length_append, List.length_singleton] at hi
    rw [seen_snoc hi] at hx ⊢
    split at hx
    · rename_i hip
      rw [if_pos hip]
      have hxl := hP.lt i x hip hx
      rw [seen_snoc (by omega), if_pos (by omega)] at hy
      exact hP.tr i x y hip hx hy
    · rename_i hip
      rw [if_neg hip]
      have hxl := h2 x hx
      rw [seen_snoc (by omega), if_pos hxl] at hy
      exact h3 x y hx hy
/-- a row under way: what is in it has with it what it has seen -/
structure RowUp (R : List (List Nat)) (w : List Nat) : Prop where
  nd : w.Nodup
  lt : ∀ x, x ∈ w → x < R.length
  cl : ∀ x y, x ∈ w → y ∈ seen R x → y ∈ w
theorem RowUp.add {R : List (List Nat)} (hR : IsPlan R) {w : List Nat} (h : RowUp R w) {o : Nat} (ho : o < R.length) (hn : o ∉ w) : RowUp R (w ++ [o] ++ (seen R o).filter fun x => !w.contains x) := by
  have hs : ∀ x, x ∈ seen R o → x < o := fun x hx => hR.lt o x ho hx
  have mem : ∀ x, x ∈ w ++ [o] ++ (seen R o).filter (fun x => !w.contains x) ↔ x ∈ w ∨ x = o ∨ x ∈ seen R o := fun x => by
    rw [List.mem_append, List.mem_append, List.mem_filter]
    constructor
    · rintro ((h | h) | h)
      · exact .inl h
      · exact .inr (.inl (by simpa using h))
      · exact .inr (.inr h.1)
    · rintro (h | h | h)
      · exact .inl (.inl h)
      · exact .inl (.inr (by simp [h]))
      · by_cases hw : x ∈ w
        · exact .inl (.inl hw)
        · exact .inr ⟨h, by simpa using hw⟩
  refine ⟨?_, fun x hx => ?_, fun x y hx hy => ?_⟩
  · rw [List.nodup_append, List.nodup_append]
    refine ⟨⟨h.nd, by simp, ?_⟩, List.Pairwise.filter _ (asc_nodup (hR.asc o ho)), ?_⟩
    · intro a ha b hb e
      have eb : b = o := by simpa using hb
      rw [e, eb] at ha
      exact hn ha
    · intro a ha b hb e
      subst e
      obtain ⟨h1, h2⟩ := List.mem_filter.mp hb
      rcases List.mem_append.mp ha with ha | ha
      · simp at h2
        exact h2 ha
      · have ea : a = o := by simpa using ha
        have := hs a h1
        omega
  · rcases (mem x).mp hx with hx | hx | hx
    · exact h.lt x hx
    · omega
    · have := hs x hx
      omega
  · refine (mem y).mpr ?_
    rcases (mem x).mp hx with hx | hx | hx
    · exact .inl (h.cl x y hx hy)
    · subst hx
      exact .inr (.inr hy)
    · exact .inr (.inr (hR.tr o x y ho hx hy))
end
end Pb

/-! PbI: _law_plan. -/
namespace Pb
open PySem PySem.Spec PyProof.Rows L2

theorem zl_perm {w : List Nat} {ns : List Int} (h : ns.Perm (zl w)) : ns = zl (ns.map Int.toNat) ∧ (ns.map Int.toNat).Perm w := by
  have hm : ∀ x, x ∈ ns → ∃ n : Nat, x = ((n : Nat) : Int) := fun x hx => by
    have := h.mem_iff.mp hx
    unfold zl at this
    obtain ⟨n, _, e⟩ := List.mem_map.mp this
    exact ⟨n, e.symm⟩
  refine ⟨?_, ?_⟩
  · unfold zl
    rw [List.map_map]
    have e : ns.map ((fun n : Nat => ((n : Nat) : Int)) ∘ Int.toNat) = ns.map id := List.map_congr_left fun x hx => by
      obtain ⟨n, rfl⟩ := hm x hx
      show ((((n : Nat) : Int).toNat : Nat) : Int) = ((n : Nat) : Int)
      omega
    rw [e, List.map_id]
  · have z := h.map Int.toNat
    unfold zl at z
    rw [List.map_map] at z
    have e : w.map (Int.toNat ∘ fun n : Nat => ((n : Nat) : Int)) = w.map id := List.map_congr_left fun x _ => by
      show ((x : Nat) : Int).toNat = x
      omega
    rw [e, List.map_id] at z
    exact z
section
variable {P : Program} {w : World} {K : PySem.W.Frag} {mg : Str → Option Value} {base : Heap} {f : Addr} {fd : FuncData}
abbrev nLawPlan : List Str := ["_law_state_here", "_law_size", "_law_wide", "_law_level", "_law_rows", "_law_item", "_law_row", "_law_other", "_law_more"]
theorem sc_LawPlan : FnScope nLawPlan ["_law_state_here", "_law_size"] (defScope sLawPlan) := ⟨rfl, rfl, rfl, by decide +kernel, rfl, by decide +kernel, by decide +kernel⟩
theorem ok_LawPlan (B : Blt mg) {f1 : Addr} {fd1 : FuncData} (C1 : Callee P w K mg base CX0 1 "_law_draw" f1 fd1 ["_law_state_here", "_law_many"] spLawDraw) (F : Fun K "_law_plan" "_law_plan" sLawPlan f fd) : FnOk P w K mg base CX0 2 f fd ["_law_state_here", "_law_size"] spLawPlan := by
  refine F.ok sc_LawPlan (fun vs H Q E h => ?_) (fun cdv A outer s H vs Q E hr h => ?_)
  · obtain ⟨st, n, rfl, _⟩ := h
    rfl
  obtain ⟨st, n, rfl, hst, h40, q⟩ := h
  refine ⟨_, pss_cons (ps_set (i := 2) sc_LawPlan.nd rfl (Or.inl rfl) (pe_ifExp (pt_cmpR op_lt (pv 1) pe_int (nomark _)) pe_int (pe_ix ix_list (pe_lst (pa_cons pe_int (pa_cons pe_int (pa_cons pe_int pa_nil)))) (pe_c C1 hr rfl (pa_cons (pv 0) (pa_cons pe_int pa_nil))) (fun _ _ => rfl))))
    (pss_cons (ps_set (i := 3) sc_LawPlan.nd rfl (Or.inl rfl) (pe_op op_add pe_int (pe_c C1 hr rfl (pa_cons (pv 0) (pa_cons pe_int pa_nil)))))
    (pss_cons (ps_set (i := 4) sc_LawPlan.nd rfl (Or.inl rfl) (pe_lst pa_nil))
    (pss_cons (ps_for PassesOwn.never rfl (pi_range1 rfl B.range (pa_cons (pv 1) pa_nil)) (pg_name (i := 5) sc_LawPlan.nd rfl (Or.inl rfl))
      (pss_cons (ps_set (i := 6) sc_LawPlan.nd rfl (Or.inr rfl) (pe_lst pa_nil))
      (pss_cons (ps_for PassesOwn.never rfl (pi_range3 rfl B.range (pa_cons (pe_op op_sub (pv 5) pe_int) (pa_cons (pe_un un_neg pe_int) (pa_cons (pe_un un_neg pe_int) pa_nil)))) (pg_name (i := 7) sc_LawPlan.nd rfl (Or.inl rfl))
        (pss_one (ps_if (PW.pt (pw_and (pt_cmpR op_notIn_seq (pv 7) (pv 6) (by rfl)) (pw_and1 (pt_cmpR op_lt (pe_c C1 hr rfl (pa_cons (pv 0) (pa_cons (pv 2) pa_nil))) (pv 3) (nomark _)))))
          (pss_one (ps_set (i := 6) sc_LawPlan.nd rfl (Or.inr rfl) (pe_op op_cat (pe_op op_cat (pv 6) (pe_lst (pa_cons (pv 7) pa_nil)))
            (pe_lc (own := [("_law_more", 8)]) (g := gName 8) (tt := tTest (tOp (rIn K true) (tVar 8) (tVar 6))) (te := tVar 8) rfl sc_LawPlan.nd (pi_tup (pe_ix ix_list (pv 4) (pv 7) (fun _ _ => rfl))) (blkOk_by (N := nLawPlan) (sc := defScope sLawPlan) (by decide +kernel))
              (fun _ _ _ _ _ => pg_name (i := 8) sc_LawPlan.nd rfl (Or.inl rfl)) (fun _ _ _ _ _ => pts_one (pt_cmpR op_notIn_seq (pv 8) (pv 6) (by rfl))) (fun _ _ _ _ _ => pv 8))))) pss_nil)))
      (pss_one (ps_expr (pe_bm PySem.F.plainAttrs_list PySem.F.slot_list_append PySem.F.type_list_append mt_append (pv 4) (pa_cons (pe_callTy call_tuple_of rfl B.tuple bt_tuple (pa_cons (pe_callB cr_sorted rfl B.sorted bt_sorted (pa_cons (pv 6) pa_nil)) pa_nil)) pa_nil))))))
    )
    (pss_one (ps_ret (pe_callTy call_tuple_of rfl B.tuple bt_tuple (pa_cons (pv 4) pa_nil))))))), ?_⟩
  -- how wide
  have split : ∀ (t : TS) (D : Ends), (∀ (wd lv : Int) (H0 : Hp), 0 < wd → wd < 1000 → Kp st H H0 → StAt H0 st → t D [some (.ref st), some (.int ((n : Nat) : Int)), some (.int wd), some (.int lv), none, none, none, none, none] H0) →
      tSeq (tAsg (tIf (tTest (tOp (rI0 fun i j => .bl (decide (i < j))) (tVar 1) (tC (.int 9)))) (tC (.int 4)) (tOp (rIxL K) (tLst (tCons (tC (.int 4)) (tCons (tC (.int 14)) (tCons (tC (.int 60)) tNil)))) (tCall spLawDraw [] E0 (tCons (tVar 0) (tCons (tC (.int 3)) tNil))))) (gName 2))
        (tSeq (tAsg (tOp (rI0 fun i j => .int (i + j)) (tC (.int 1)) (tCall spLawDraw [] E0 (tCons (tVar 0) (tCons (tC (.int 3)) tNil)))) (gName 3)) t) D [some (.ref st), some (.int ((n : Nat) : Int)), none, none, none, none, none, none, none] H := by
    intro t D kk
    have rest : ∀ (wd : Int) (H1 : Hp), 0 < wd → wd < 1000 → Kp st H H1 → StAt H1 st →
        tSeq (tAsg (tOp (rI0 fun i j => .int (i + j)) (tC (.int 1)) (tCall spLawDraw [] E0 (tCons (tVar 0) (tCons (tC (.int 3)) tNil)))) (gName 3)) t D [some (.ref st), some (.int ((n : Nat) : Int)), some (.int wd), none, none, none, none, none, none] H1 := by
      intro wd H1 h1 h2 k1 s1
      refine ⟨_, rfl, st, 3, rfl, s1, by omega, by omega, fun r H2 _ k2 s2 _ => ⟨_, _, rfl, rfl, ?_⟩⟩
      exact kk _ _ _ h1 h2 (k1.trans k2) s2
    refine ⟨_, rfl, _, _, rfl, rfl, _, rfl, ?_⟩
    by_cases h9 : ((n : Nat) : Int) < 9
    · refine if_t (decide_eq_true h9) ?_
      exact rest 4 H (by omega) (by omega) (Kp.refl _ _) hst
    · refine if_f (decide_eq_false h9) ?_
      refine ⟨(by show 3 ≤ sizeLine; decide), fun p hp => ?_⟩
      have hps := st_ne hst hp
      refine ⟨_, rfl, st, 3, rfl, hst.same (same_new hp _), by omega, by omega, fun r H1 hr3 k1 s1 _ => ?_⟩
      have hp1 := k1 _ _ hps upd_same
      have kk : Kp st H H1 := (kp_of (same_new hp _)).trans k1
      have e : ∃ wd : Int, 0 < wd ∧ wd < 1000 ∧ atI [V.int 4, V.int 14, V.int 60] ((r : Nat) : Int) = some (.int wd) := by
        have hr' : r = 0 ∨ r = 1 ∨ r = 2 := by omega
        rcases hr' with rfl | rfl | rfl
        · exact ⟨4, by omega, by omega, rfl⟩
        · exact ⟨14, by omega, by omega, rfl⟩
        · exact ⟨60, by omega, by omega, rfl⟩
      obtain ⟨wd, hw0, hw1, hw⟩ := e
      refine ⟨p, _, _, _, rfl, rfl, lstL hp1, hw, ?_⟩
      exact rest wd H1 hw0 hw1 kk s1
  refine split _ _ fun wd lv H0 hwd0 hwd1 k0 s0 => ?_
  refine ⟨(by show 0 ≤ sizeLine; decide), fun rl hrl => ?_⟩
  have hrs := st_ne s0 hrl
  have hrH : H rl = none := k0.free hst s0 hrl
  have k1 := k0.trans (kp_of (same_new hrl (.lst [])))
  have s1 := s0.same (same_new hrl (.lst []))
  have hr1 : upd H0 rl (.lst []) rl = some (.lst []) := upd_same
  generalize upd H0 rl (.lst []) = H1 at k1 s1 hr1
  refine ⟨_, rfl, ((n : Nat) : Int), rfl, by omega, by omega, ?_⟩
  rw [show (((n : Nat) : Int)).toNat = n by omega]
  refine for_it (walk_range0 (n := n)) (fun i σ H' => ∃ (z1 z2 z3 z4 : Option V) (ds : List Addr) (R : List (List Nat)), σ = [some (.ref st), some (.int ((n : Nat) : Int)), some (.int wd), some (.int lv), some (.ref rl), z1, z2, z3, z4] ∧ Kp st H H' ∧ StAt H' st ∧ H' rl = some (.lst (refs ds)) ∧ Rws H' ds R ∧ IsPlan R ∧ R.length = i)
    ⟨_, _, _, _, [], [], rfl, k1, s1, hr1, .nil, ⟨fun i hi => absurd hi (Nat.not_lt_zero _), fun i x hi => absurd hi (Nat.not_lt_zero _), fun i x y hi => absurd hi (Nat.not_lt_zero _)⟩, rfl⟩ (fun _ _ _ _ _ => trivial) ?_ ?_
  · rintro i x σ H2 H2' hi ⟨z1, z2, z3, z4, ds, R, rfl, k2, s2, hr2, hd2, hR, hRl⟩ ⟨rfl, rfl⟩
    refine ⟨(by show 0 ≤ sizeLine; decide), fun ra hra => ?_⟩
    have hras := st_ne s2 hra
    have hraH : H ra = none := k2.free hst s2 hra
    have hrlra : rl ≠ ra := ne_of_none hr2 hra
    have t3 := same_new hra (.lst [])
    have k3 := k2.trans (kp_of t3)
    have s3 := s2.same t3
    have hr3 := t3 _ _ hr2
    have hd3 := hd2.tk (tk_of t3)
    have hra3 : upd H2' ra (.lst []) ra = some (.lst (iv [])) := upd_same
    generalize upd H2' ra (.lst []) = H3 at k3 s3 hr3 hd3 hra3
    have rg : RgC (((i : Nat) : Int) - 1) (-1) (-1) i := by
      have z := RgC.neg (i := ((i : Nat) : Int) - 1) (j := -1) (by omega) (by omega) (by omega) (by omega)
      have e : (((i : Nat) : Int) - 1 - (-1)).toNat = i := by omega
      rw [e] at z
      exact z
    refine ⟨_, rfl, _, _, rfl, rfl, _, rfl, _, rfl, ((i : Nat) : Int) - 1, -1, -1, i, rfl, rg, ?_⟩
    refine for_rangeC (fun j σ H' => ∃ (z3 z4 : Option V) (ra : Addr) (w : List Nat), σ = [some (.ref st), some (.int ((n : Nat) : Int)), some (.int wd), some (.int lv), some (.ref rl), some (.int ((i : Nat) : Int)), some (.ref ra), z3, z4] ∧ Kp st H H' ∧ StAt H' st ∧ H' rl = some (.lst (refs ds)) ∧ Rws H' ds R ∧
        ra ≠ st ∧ H ra = none ∧ rl ≠ ra ∧ H' ra = some (.lst (iv w)) ∧ RowUp R w)
      ⟨_, _, ra, [], rfl, k3, s3, hr3, hd3, hras, hraH, hrlra, hra3, ⟨.nil, (fun x hx => by cases hx), (fun x y hx => by cases hx)⟩⟩ ?_ ?_
    · rintro j σ H4 hj ⟨z3, z4, ra, w', rfl, k4, s4, hr4, hd4, hras, hraH, hrlra, hra4, hup⟩
      have ev : ((i : Nat) : Int) - 1 + ((j : Nat) : Int) * (-1) = ((i - 1 - j : Nat) : Int) := by omega
      rw [ev]
      generalize ho : i - 1 - j = o
      have hoR : o < R.length := by omega
      have hwl : w'.length ≤ 40 := by have := nodup_le R.length w' hup.nd hup.lt; omega
      refine ⟨_, rfl, _, rfl, ra, _, rfl, .inl (lstL hra4), rfl, flat_iv _, _, rfl, ?_⟩
      show (if (!inV (V.int ((o : Nat) : Int)) (iv w')) = true then _ else _)
      rw [inV_iv]
      by_cases how : o ∈ w'
      · refine if_f (by rw [List.contains_iff_mem.mpr how]; rfl) ?_
        exact ⟨_, _, ra, w', rfl, k4, s4, hr4, hd4, hras, hraH, hrlra, hra4, hup⟩
      · refine if_t (by rw [show w'.contains o = false from Bool.eq_false_iff.mpr fun z => how (List.contains_iff_mem.mp z)]; rfl) ?_
        refine ⟨_, rfl, _, rfl, st, wd, rfl, s4, hwd0, hwd1, fun r H5 hr5 k5 s5 _ => ?_⟩
        have t5 := k5.tk s4
        have hra5 := k5 _ _ hras hra4
        have hrl5 := k5 _ _ hrs hr4
        have hd5 := hd4.tk t5
        have k05 := k4.trans k5
        refine ⟨_, rfl, _, _, rfl, rfl, _, rfl, ?_⟩
        by_cases hlv : ((r : Nat) : Int) < lv
        · refine if_t (decide_eq_true hlv) ?_
          refine ⟨_, rfl, _, rfl, (by show 1 ≤ sizeLine; decide), fun p1 hp1 => ?_⟩
          have t6 := same_new hp1 (.lst [V.int ((o : Nat) : Int)])
          have hp1' : upd H5 p1 (.lst [V.int ((o : Nat) : Int)]) p1 = some (.lst [V.int ((o : Nat) : Int)]) := upd_same
          generalize upd H5 p1 (.lst [V.int ((o : Nat) : Int)]) = H6 at t6 hp1'
          refine ⟨ra, p1, _, _, rfl, rfl, t6 _ _ hra5, hp1', szl (by rw [iv_len]; show _ + 1 ≤ _; omega), fun p2 hp2 => ?_⟩
          have t7 := same_new hp2 (.lst (iv w' ++ [V.int ((o : Nat) : Int)]))
          have hp2' : upd H6 p2 (.lst (iv w' ++ [V.int ((o : Nat) : Int)])) p2 = some (.lst (iv (w' ++ [o]))) := by rw [iv_app]; exact upd_same
          generalize upd H6 p2 (.lst (iv w' ++ [V.int ((o : Nat) : Int)])) = H7 at t7 hp2'
          have t57 := t6.trans t7
          obtain ⟨c, hc, hcr⟩ := (hd5.tk (tk_of t57)).get (seen_get hoR)
          have hsl := seen_len hR hoR
          refine ⟨_, rfl, _, rfl, rl, _, _, _, rfl, rfl, lstL (t57 _ _ hrl5), at_nat (refs_get hc), c, rfl, ⟨_, tupT hcr⟩, fun D hD => ?_⟩
          refine lc_acc (walk_tup (xs := iv (seen R o))) hD (fun l acc _ => acc = iv (((seen R o).take l).filter fun x => !w'.contains x)) (fun l acc _ _ _ h => h) rfl (fun l acc H hl h => by
            rw [h, iv_len]
            have := List.length_filter_le (fun x => !w'.contains x) ((seen R o).take l)
            rw [List.length_take] at this
            exact szt (by omega)) (fun H8 s8 => tupT (s8 _ _ hcr)) ?_ ?_
          · rintro l y H8 acc H8' Yes No hl s8 rfl ⟨rfl, hy⟩ ky kn
            obtain ⟨m, hm, rfl⟩ := iv_got hy
            refine ⟨rfl, _, rfl, _, rfl, ra, _, rfl, .inl (lstL ((t57.trans s8) _ _ hra5)), rfl, flat_iv _, _, rfl, ?_⟩
            show (if (!inV (V.int ((m : Nat) : Int)) (iv w')) = true then _ else _)
            rw [inV_iv]
            have etk : ((seen R o).take (l + 1)).filter (fun x => !w'.contains x) = ((seen R o).take l).filter (fun x => !w'.contains x) ++ [m].filter (fun x => !w'.contains x) := by
              rw [List.take_add_one, hm, List.filter_append]
              rfl
            cases hcm : w'.contains m with
            | true =>
              refine if_f rfl (kn _ (Same.refl _) ?_)
              have e : [m].filter (fun x => !w'.contains x) = [] := List.filter_cons_of_neg (by rw [hcm]; decide)
              rw [etk, e, List.append_nil]
            | false =>
              refine if_t rfl ⟨_, rfl, ky _ _ (Same.refl _) ?_⟩
              have e : [m].filter (fun x => !w'.contains x) = [m] := List.filter_cons_of_pos (by rw [hcm]; rfl)
              rw [etk, e, iv_app]
              rfl
          · rintro H8 acc s8 hacc rfl
            rw [iv_len, List.take_length] at hacc
            have hup' := hup.add hR hoR how
            have hul := nodup_le R.length _ hup'.nd hup'.lt
            have t58 := t57.trans s8
            refine ⟨p2, D, _, _, rfl, rfl, s8 _ _ hp2', hacc, szl (by rw [iv_len, iv_len]; rw [List.length_append] at hul; omega), fun p3 hp3 => ?_⟩
            have t9 := same_new hp3 (.lst (iv (w' ++ [o]) ++ iv ((seen R o).filter fun x => !w'.contains x)))
            have hp3' : upd H8 p3 (.lst (iv (w' ++ [o]) ++ iv ((seen R o).filter fun x => !w'.contains x))) p3 = some (.lst (iv (w' ++ [o] ++ (seen R o).filter fun x => !w'.contains x))) := by rw [iv_app (w' ++ [o])]; exact upd_same
            have t59 := t58.trans t9
            have s8' := s5.same t58
            refine ⟨_, _, p3, _, rfl, k05.trans (kp_of t59), s5.same t59, t59 _ _ hrl5, hd5.tk (tk_of t59), st_ne s8' hp3, (k05.trans (kp_of t58)).free hst s8' hp3, ne_of_none (t58 _ _ hrl5) hp3, hp3', hup'⟩
        · refine if_f (decide_eq_false hlv) ?_
          exact ⟨_, _, ra, w', rfl, k05, s5, hrl5, hd5, hras, hraH, hrlra, hra5, hup⟩
    · rintro σ H4 ⟨z3, z4, ra, w', rfl, k4, s4, hr4, hd4, hras, hraH, hrlra, hra4, hup⟩
      have hwl : w'.length ≤ 40 := by have := nodup_le R.length w' hup.nd hup.lt; omega
      refine ⟨_, rfl, .inl ⟨rfl, _, lstL hr4⟩, _, rfl, ra, zl w', rfl, ?_, ?_, fun ns' p hperm hpw hp => ?_⟩
      · rw [← iv_zl]
        exact lstL hra4
      · unfold zl
        rw [List.length_map]
        omega
      · obtain ⟨ez, hperm'⟩ := zl_perm hperm
        have t5 := same_new hp (.lst (ns'.map V.int))
        have hp' : upd H4 p (.lst (ns'.map V.int)) p = some (.lst (iv (ns'.map Int.toNat))) := by
          rw [upd_same, iv_zl, ← ez]
        generalize upd H4 p (.lst (ns'.map V.int)) = H5 at t5 hp'
        refine ⟨p, _, rfl, .inl ⟨lstL hp', fun t ht => ?_⟩⟩
        have t6 := t5.trans (same_new ht (.tup (iv (ns'.map Int.toNat))))
        have ht' : upd H5 t (.tup (iv (ns'.map Int.toNat))) t = some (.tup (iv (ns'.map Int.toNat))) := upd_same
        generalize upd H5 t (.tup (iv (ns'.map Int.toNat))) = H6 at t6 ht'
        have hdl := hd4.len
        refine ⟨rl, _, _, rfl, rfl, t6 _ _ hr4, szt (by rw [refs_len]; omega), ?_⟩
        have t7 := tk_lst (o := .lst (refs ds ++ [V.ref t])) (t6 _ _ hr4)
        refine ⟨_, _, _, _, ds ++ [t], R ++ [ns'.map Int.toNat], rfl, kp_mut (k4.trans (kp_of t6)) hrH, ?_, by rw [refs_app]; exact upd_same, ((hd4.tk (tk_of t6)).tk t7).snoc (t7 _ _ ht'), ?_, by rw [List.length_append, hRl]; rfl⟩
        · obtain ⟨x, y, z, g⟩ := s4.same t6
          exact ⟨x, y, z, by rw [upd_ne (Ne.symm hrs)]; exact g⟩
        · refine isPlan_snoc hR ?_ (fun x hx => hup.lt x (hperm'.mem_iff.mp hx)) fun x y hx hy => hperm'.mem_iff.mpr (hup.cl x y (hperm'.mem_iff.mp hx) hy)
          have hnd : (ns'.map Int.toNat).Nodup := hperm'.nodup_iff.mpr hup.nd
          have hpw' : (ns'.map Int.toNat).Pairwise (· ≤ ·) := by
            rw [List.pairwise_map]
            refine hpw.imp ?_
            intro a b hab
            omega
          exact (hpw'.and hnd).imp fun h => Nat.lt_of_le_of_ne h.1 h.2
  · rintro σ H2 ⟨z1, z2, z3, z4, ds, R, rfl, k2, s2, hr2, hd2, hR, hRl⟩
    refine ⟨_, rfl, rl, _, rfl, .inl ⟨lstL hr2, fun t ht => ?_⟩⟩
    have t3 := same_new ht (.tup (refs ds))
    exact q _ t R (k2.trans (kp_of t3)) (s2.same t3) ⟨ds, upd_same, hd2.tk (tk_of t3)⟩ hR hRl
end
end Pb

/-! PbJ: _law_runs, _law_from, _law_chains, _law_short. -/
namespace Pb
open PySem PySem.Spec PyProof.Rows L2

abbrev sLawRuns : Stmt := top 39
abbrev sLawChains : Stmt := top 40
abbrev sLawFrom : Stmt := top 41
abbrev sLawAlike : Stmt := top 42
abbrev sLawShort : Stmt := top 43
abbrev sLawIsLine : Stmt := top 44
def spLawRuns : Sp := fun vs H Q _ => ∃ (a : Addr) (P : List (List Nat)), vs = [.ref a] ∧ PlanAt H a P ∧ IsPlan P ∧ P.length ≤ 6 ∧ ∀ H' p, Same H H' → RowsAt H' p (runsOf P) → Q (.ref p) H'
def spLawChains : Sp := fun vs H Q _ => ∃ (a : Addr) (P : List (List Nat)), vs = [.ref a] ∧ PlanAt H a P ∧ IsPlan P ∧ P.length ≤ 6 ∧ ∀ H' p, Same H H' → RowsAt H' p (allCh P) → Q (.ref p) H'
def spLawFrom (m : Nat) : Sp := fun vs H Q _ => ∃ (a : Addr) (P : List (List Nat)) (b : Addr) (c : List Nat), vs = [.ref a, .ref b] ∧ PlanAt H a P ∧ IsPlan P ∧ P.length ≤ 6 ∧ H b = some (.tup (iv c)) ∧ Chain P c ∧ P.length ≤ lastN c + m ∧
  ∀ H' p, Same H H' → RowsAt H' p (frm P c) → Q (.ref p) H'
def spLawShort : Sp := fun vs H Q _ => ∃ (a : Addr) (P : List (List Nat)) (m : Int), vs = [.ref a, .int m] ∧ PlanAt H a P ∧ P.length ≤ 40 ∧ (∀ i, i < P.length → (seen P i).length ≤ 40) ∧ ∀ H' p n, Same H H' → PlanAt H' p (P.take n) → Q (.ref p) H'

/-- r + (g,) -/
theorem cat_snoc {K : PySem.W.Frag} {H : Hp} {a b : Addr} {r : List Nat} {g : Nat} {Q : VK} (ha : H a = some (.tup (iv r))) (hb : H b = some (.tup [V.int ((g : Nat) : Int)])) (hz : r.length ≤ 1000) (k : ∀ t H', Same H H' → H' t = some (.tup (iv (r ++ [g]))) → Q (.ref t) H') : rCatA K (.ref a) (.ref b) H Q := by
  refine ⟨a, b, _, _, rfl, rfl, tupT ha, tupT hb, szl (by rw [iv_len]; show _ + 1 ≤ _; omega), fun e => ?_, fun _ e => (by cases e), fun _ _ p hp => ?_⟩
  · have er : r = [] := by
      have := congrArg List.length e
      rw [iv_len] at this
      exact List.length_eq_zero_iff.mp this
    subst er
    exact k b H (Same.refl _) hb
  · refine k p _ (same_new hp _) ?_
    rw [upd_same, iv_app]
    rfl
theorem isPlan_take {P : List (List Nat)} (hP : IsPlan P) (n : Nat) : IsPlan (P.take n) := by
  have e : ∀ i, i < (P.take n).length → seen (P.take n) i = seen P i := fun i hi => by
    rw [List.length_take] at hi
    unfold seen
    rw [List.getD_eq_getElem?_getD, List.getD_eq_getElem?_getD, List.getElem?_take, if_pos (by omega)]
  refine ⟨fun i hi => ?_, fun i x hi hx => ?_, fun i x y hi hx hy => ?_⟩
  · rw [e i hi]
    exact hP.asc i (by rw [List.length_take] at hi; omega)
  · rw [e i hi] at hx
    exact hP.lt i x (by rw [List.length_take] at hi; omega) hx
  · rw [e i hi] at hx ⊢
    have hil : i < P.length := by rw [List.length_take] at hi; omega
    have hxi := hP.lt i x hil hx
    rw [e x (by omega)] at hy
    exact hP.tr i x y hil hx hy
theorem kidsI_done {P : List (List Nat)} (hP : IsPlan P) {x : Nat} (hx : x < P.length) : kidsI P x (P.length - 1 - x) = kids P x := by
  have gen : ∀ d : Nat, P.length - 1 - x + d ≤ P.length → kidsI P x (P.length - 1 - x + d) = kidsI P x (P.length - 1 - x) := by
    intro d
    induction d with
    | zero => intro _; rfl
    | succ d ih =>
      intro h
      rw [show P.length - 1 - x + (d + 1) = (P.length - 1 - x + d) + 1 by omega, kidsI_succ, ih (by omega)]
      have hn : ¬ (seen P (P.length - 1 - (P.length - 1 - x + d))).contains x = true := fun z => by
        have := hP.lt _ x (by omega) (List.contains_iff_mem.mp z)
        omega
      rw [if_neg hn, List.append_nil]
  have e := gen (x + 1) (by omega)
  rw [show P.length - 1 - x + (x + 1) = P.length by omega] at e
  rw [← e]
  rfl
section
variable {P : Program} {w : World} {K : PySem.W.Frag} {mg : Str → Option Value} {base : Heap} {f : Addr} {fd : FuncData}
abbrev nLawRuns : List Str := ["_law_plan_here", "_law_found", "_law_seen", "_law_grown", "_law_run", "_law_gap"]
theorem sc_LawRuns : FnScope nLawRuns ["_law_plan_here"] (defScope sLawRuns) := ⟨rfl, rfl, rfl, by decide +kernel, rfl, by decide +kernel, by decide +kernel⟩
theorem runStep_snoc {f : List (List Nat)} {row r : List Nat} : runStep (f ++ [r]) row = runStep f row ++ (List.range (row.length + 1)).map fun g => r ++ [g] := by
  unfold runStep
  rw [List.flatMap_append]
  simp
theorem ok_LawRuns (B : Blt mg) (F : Fun K "_law_runs" "_law_runs" sLawRuns f fd) : FnOk P w K mg base CX0 1 f fd ["_law_plan_here"] spLawRuns := by
  refine F.ok sc_LawRuns (fun vs H Q E h => ?_) (fun cdv A outer s H vs Q E hr h => ?_)
  · obtain ⟨a, p, rfl, _⟩ := h
    rfl
  obtain ⟨a, p, rfl, ⟨as, ha, hrw⟩, hP, h6, q⟩ := h
  refine ⟨_, pss_cons (ps_set (i := 1) sc_LawRuns.nd rfl (Or.inl rfl) (pe_lst (pa_cons (pe_tup pa_nil) pa_nil)))
    (pss_cons (ps_for PassesOwn.never rfl (pi_tup (pv 0)) (pg_name (i := 2) sc_LawRuns.nd rfl (Or.inl rfl))
      (pss_cons (ps_set (i := 3) sc_LawRuns.nd rfl (Or.inl rfl) (pe_lst pa_nil))
      (pss_cons (ps_for PassesOwn.never rfl (pi_list (pv 1)) (pg_name (i := 4) sc_LawRuns.nd rfl (Or.inr rfl))
        (pss_one (ps_expr (pe_bm PySem.F.plainAttrs_list PySem.F.slot_list_extend PySem.F.type_list_extend mt_extend (pv 3) (pa_cons
          (pe_lc (own := [("_law_gap", 5)]) (g := gName 5) (tt := tYes) (te := tOp (rCatA K) (tVar 4) (tTup (tCons (tVar 5) tNil))) rfl sc_LawRuns.nd (pi_range1 rfl B.range (pa_cons (pe_op op_add (pe_callB call_len_seq rfl B.len bt_len (pa_cons (pv 2) pa_nil)) pe_int) pa_nil)) (blkOk_by (N := nLawRuns) (sc := defScope sLawRuns) (by decide +kernel))
            (fun _ _ _ _ _ => pg_name (i := 5) sc_LawRuns.nd rfl (Or.inl rfl)) (fun _ _ _ _ _ => pts_nil) (fun _ _ _ _ _ => pe_op op_catA (pv 4) (pe_tup (pa_cons (pv 5) pa_nil)))) pa_nil)))))
      (pss_one (ps_set (i := 1) sc_LawRuns.nd rfl (Or.inl rfl) (pv 3))))))
    (pss_one (ps_ret (pv 1)))), ?_⟩
  have hlen : as.length = p.length := hrw.len
  refine ⟨(by show 0 ≤ sizeLine; decide), fun e0 he0 => ?_⟩
  have s0 := same_new he0 (.tup [])
  have he0' : upd H e0 (.tup []) e0 = some (.tup (iv [])) := upd_same
  generalize upd H e0 (.tup []) = H0 at s0 he0'
  refine ⟨(by show 1 ≤ sizeLine; decide), fun l hl => ?_⟩
  have s1 := same_new hl (.lst [V.ref e0])
  have hl1 : upd H0 l (.lst [V.ref e0]) l = some (.lst (refs [e0])) := upd_same
  have he1 := s1 _ _ he0'
  generalize upd H0 l (.lst [V.ref e0]) = H1 at s1 hl1 he1
  have s01 := s0.trans s1
  refine ⟨_, rfl, a, rfl, ⟨_, tupT (s01 _ _ ha)⟩, ?_⟩
  have hpl : ∀ i, i ≤ p.length → (runsOf (p.take i)).length ≤ 46656 := fun i hi => by
    have h1 := runsOf_len (p.take i) fun row hrow => by
      obtain ⟨j, hj, ej⟩ := List.getElem_of_mem (List.mem_of_mem_take hrow)
      have e2 : seen p j = row := by unfold seen; rw [List.getD_eq_getElem?_getD, List.getElem?_eq_getElem hj]; exact ej
      have := seen_len hP hj
      rw [e2] at this
      omega
    have h2 : runB (p.take i).length ≤ runB 6 := runB_mono (by rw [List.length_take]; omega)
    have h3 : runB 6 = 46656 := by decide
    omega
  refine for_it (walk_tup (xs := refs as)) (fun i σ H' => ∃ (z1 z2 z3 z4 : Option V) (l : Addr), σ = [some (.ref a), some (.ref l), z1, z2, z3, z4] ∧ Same H H' ∧ RowsAt H' l (runsOf (p.take i)))
    ⟨_, _, _, _, l, rfl, s01, ⟨[e0], hl1, .one he1⟩⟩ (fun i σ H' _ pv => by obtain ⟨_, _, _, _, _, _, s2, _⟩ := pv; exact tupT (s2 _ _ ha)) ?_ ?_
  · rintro i x σ H2 H2' hi ⟨z1, z2, z3, z4, l, rfl, s2, ⟨ds, hl2, hds⟩⟩ ⟨rfl, hx⟩
    obtain ⟨b, hb, rfl⟩ := refs_got hx
    have hip : i < p.length := by rw [refs_len] at hi; omega
    have hbr : H b = some (.tup (iv (seen p i))) := hrw.rw_ i b _ hb (seen_get hip)
    have hsl := seen_len hP hip
    have hrl := hpl i (by omega)
    refine ⟨(by show 0 ≤ sizeLine; decide), fun g hg => ?_⟩
    have s3 := same_new hg (.lst [])
    have hg3 : upd H2' g (.lst []) g = some (.lst (refs [])) := upd_same
    have hgH : H g = none := s2.free hg
    have hgl : g ≠ l := fun z => by rw [z, hl2] at hg; cases hg
    generalize upd H2' g (.lst []) = H3 at s3 hg3
    have s23 := s2.trans s3
    refine ⟨_, rfl, l, rfl, ⟨_, lstL (s3 _ _ hl2)⟩, ?_⟩
    refine for_it (walk_list (xs := refs ds)) (fun j σ H' => ∃ (z3 z4 : Option V) (es : List Addr), σ = [some (.ref a), some (.ref l), some (.ref b), some (.ref g), z3, z4] ∧ Same H H' ∧ H' l = some (.lst (refs ds)) ∧ Rws H' ds (runsOf (p.take i)) ∧ H' g = some (.lst (refs es)) ∧ Rws H' es (runStep ((runsOf (p.take i)).take j) (seen p i)))
      ⟨_, _, [], rfl, s23, s3 _ _ hl2, hds.tk (tk_of s3), hg3, .nil⟩ (fun j σ H' _ pv => by obtain ⟨_, _, _, _, _, g1, _⟩ := pv; exact lstL g1) ?_ ?_
    · rintro j y σ H4 H4' hj ⟨z3, z4, es, rfl, s4, hl4, hds4, hg4, hes4⟩ ⟨rfl, hy⟩
      obtain ⟨c, hc, rfl⟩ := refs_got hy
      obtain ⟨r, hr, hcr⟩ := hds4.got hc
      have hrr : IsRun (p.take i) r := (mem_runsOf _ r).mp (List.mem_of_getElem? hr)
      have hr6 : r.length ≤ 6 := by rw [hrr.1, List.length_take]; omega
      refine ⟨_, rfl, .inl ⟨rfl, _, lstL hg4⟩, _, rfl, b, _, rfl, .inr (tupT (s4 _ _ hbr)), _, _, rfl, rfl, (((iv (seen p i)).length : Nat) : Int) + 1, rfl, by rw [iv_len]; omega, by rw [iv_len]; omega, fun D hD => ?_⟩
      rw [show ((((iv (seen p i)).length : Nat) : Int) + 1).toNat = (seen p i).length + 1 by rw [iv_len]; omega]
      refine lc_acc walk_range0 hD (fun k acc H' => ∃ fs, acc = refs fs ∧ Rws H' fs ((List.range k).map fun g => r ++ [g])) (fun k acc _ _ t h => by
        obtain ⟨fs, h1, h2⟩ := h
        exact ⟨fs, h1, h2.tk t⟩) ⟨[], rfl, .nil⟩ (fun k acc H hk h => by
          obtain ⟨fs, h1, h2⟩ := h
          have := h2.len
          rw [List.length_map, List.length_range] at this
          rw [h1, refs_len]
          exact szt (by omega)) (fun _ _ => trivial) ?_ ?_
      · rintro k y H5 acc H5' Yes No hk s5 ⟨fs, rfl, hfs⟩ ⟨rfl, rfl⟩ ky kn
        refine ⟨rfl, _, rfl, _, rfl, (by show 1 ≤ sizeLine; decide), fun t ht => ?_⟩
        have t6 := same_new ht (.tup [V.int ((k : Nat) : Int)])
        refine cat_snoc ((s5.trans t6) _ _ hcr) upd_same (by omega) fun t2 H7 s7 ht2 => ?_
        refine ky _ _ (t6.trans s7) ⟨fs ++ [t2], by rw [refs_app]; rfl, ?_⟩
        rw [List.range_succ, List.map_append]
        exact (hfs.tk (tk_of (t6.trans s7))).snoc ht2
      · rintro H5 acc s5 hacc ⟨fs, rfl, hfs⟩
        have hg5 := s5 _ _ hg4
        have hel := hes4.len
        have hfl := hfs.len
        rw [List.length_map, List.length_range] at hfl
        have hst : (runStep ((runsOf (p.take i)).take j) (seen p i)).length ≤ j * 6 := by
          have z := runStep_len (f := (runsOf (p.take i)).take j) (row := seen p i) (by omega)
          rw [List.length_take] at z
          have : min j (runsOf (p.take i)).length * 6 ≤ j * 6 := Nat.mul_le_mul_right _ (Nat.min_le_left _ _)
          omega
        have hjl : j ≤ 46656 := by rw [refs_len, hds4.len] at hj; omega
        refine ⟨g, D, _, _, rfl, rfl, hg5, hacc, szl (by rw [refs_len, refs_len]; omega), ?_⟩
        have t6 := tk_lst (o := .lst (refs es ++ refs fs)) hg5
        refine ⟨_, _, es ++ fs, rfl, same_mut (s4.trans s5) hgH, by rw [upd_ne (Ne.symm hgl)]; exact s5 _ _ hl4, (hds4.tk (tk_of s5)).tk t6, by rw [refs_app]; exact upd_same, ?_⟩
        rw [List.take_add_one, hr]
        show Rws _ _ (runStep (_ ++ [r]) _)
        rw [runStep_snoc]
        exact ((hes4.tk (tk_of s5)).tk t6).app (hfs.tk t6)
    · rintro σ H4 ⟨z3, z4, es, rfl, s4, hl4, hds4, hg4, hes4⟩
      rw [refs_len, hds4.len, List.take_length] at hes4
      refine ⟨_, rfl, _, _, _, _, g, rfl, s4, ⟨es, hg4, ?_⟩⟩
      rw [List.take_add_one, seen_get hip]
      show Rws _ _ (runsOf (_ ++ [_]))
      rw [runsOf_snoc]
      exact hes4
  · rintro σ H2 ⟨z1, z2, z3, z4, l, rfl, s2, hl2⟩
    rw [refs_len, hlen, List.take_length] at hl2
    exact ⟨_, rfl, q _ _ s2 hl2⟩

abbrev nLawFrom : List Str := ["_law_plan_here", "_law_line_here", "_law_found", "_law_item"]
theorem sc_LawFrom : FnScope nLawFrom ["_law_plan_here", "_law_line_here"] (defScope sLawFrom) := ⟨rfl, rfl, rfl, by decide +kernel, rfl, by decide +kernel, by decide +kernel⟩
theorem from_none : FnOk P w K mg base CX0 0 f fd ["_law_plan_here", "_law_line_here"] (spLawFrom 0) := by
  have no : ∀ vs H Q E, ¬ spLawFrom 0 vs H Q E := fun vs H Q E h => by
    obtain ⟨a, p, b, c, _, _, _, _, _, hc, hle, _⟩ := h
    have := hc.2.1 _ (last_mem hc.1)
    omega
  exact ⟨fun vs H Q E h => absurd h (no vs H Q E), fun A outer s H args us vs Q E _ _ _ _ h => absurd h (no vs H Q E)⟩
theorem ok_LawFrom {m : Nat} (B : Blt mg) (F : Fun K "_law_from" "_law_from" sLawFrom f fd) (C1 : Callee P w K mg base CX0 m "_law_from" f fd ["_law_plan_here", "_law_line_here"] (spLawFrom m)) : FnOk P w K mg base CX0 (m + 1) f fd ["_law_plan_here", "_law_line_here"] (spLawFrom (m + 1)) := by
  refine F.ok sc_LawFrom (fun vs H Q E h => ?_) (fun cdv A outer s H vs Q E hr h => ?_)
  · obtain ⟨a, p, b, c, rfl, _⟩ := h
    rfl
  obtain ⟨a, p, b, c, rfl, ⟨as, ha, hrw⟩, hP, h6, hb, hc, hm, q⟩ := h
  refine ⟨_, pss_cons (ps_set (i := 2) sc_LawFrom.nd rfl (Or.inl rfl) (pe_lst (pa_cons (pv 1) pa_nil)))
    (pss_cons (ps_for PassesOwn.never rfl (pi_range3 rfl B.range (pa_cons (pe_op op_sub (pe_callB call_len_seq rfl B.len bt_len (pa_cons (pv 0) pa_nil)) pe_int) (pa_cons (pe_ix ix_tup (pv 1) (pe_un un_neg pe_int) (fun _ _ => rfl)) (pa_cons (pe_un un_neg pe_int) pa_nil)))) (pg_name (i := 3) sc_LawFrom.nd rfl (Or.inl rfl))
      (pss_one (ps_if (pt_cmpR op_in_seq (pe_ix ix_tup (pv 1) (pe_un un_neg pe_int) (fun _ _ => rfl)) (pe_ix ix_tup (pv 0) (pv 3) (fun _ _ => rfl)) (by rfl))
        (pss_one (ps_expr (pe_bm PySem.F.plainAttrs_list PySem.F.slot_list_extend PySem.F.type_list_extend mt_extend (pv 2) (pa_cons (pe_c C1 hr rfl (pa_cons (pv 0) (pa_cons (pe_op op_catT (pv 1) (pe_tup (pa_cons (pv 3) pa_nil))) pa_nil)) (Nat.le_refl _)) pa_nil)))) pss_nil)))
    (pss_one (ps_ret (pv 2)))), ?_⟩
  have hlen : as.length = p.length := hrw.len
  have hcl := chain_len hP hc
  have hlc := hc.2.1 _ (last_mem hc.1)
  refine ⟨_, rfl, (by show 1 ≤ sizeLine; decide), fun l hl => ?_⟩
  have s1 := same_new hl (.lst [V.ref b])
  have hl1 : upd H l (.lst [V.ref b]) l = some (.lst (refs [b])) := upd_same
  generalize upd H l (.lst [V.ref b]) = H1 at s1 hl1
  have rg : RgC ((((refs as).length : Nat) : Int) - 1) ((lastN c : Nat) : Int) (-1) (p.length - 1 - lastN c) := by
    have z := RgC.neg (i := (((refs as).length : Nat) : Int) - 1) (j := ((lastN c : Nat) : Int)) (by rw [refs_len]; omega) (by rw [refs_len]; omega) (by omega) (by omega)
    have e : ((((refs as).length : Nat) : Int) - 1 - ((lastN c : Nat) : Int)).toNat = p.length - 1 - lastN c := by rw [refs_len]; omega
    rw [e] at z
    exact z
  refine ⟨_, rfl, a, _, rfl, .inr (tupT (s1 _ _ ha)), _, _, rfl, rfl, _, rfl, _, rfl, b, _, _, _, rfl, rfl, tupT (s1 _ _ hb), iv_last hc.1, _, rfl, (((refs as).length : Nat) : Int) - 1, ((lastN c : Nat) : Int), -1, p.length - 1 - lastN c, rfl, rg, ?_⟩
  refine for_rangeC (fun j σ H' => ∃ (z : Option V) (es : List Addr), σ = [some (.ref a), some (.ref b), some (.ref l), z] ∧ Same H H' ∧ H' l = some (.lst (refs es)) ∧ Rws H' es (c :: (kidsI p (lastN c) j).flatMap fun it => frm p (c ++ [it])))
    ⟨_, [b], rfl, s1, hl1, .one (s1 _ _ hb)⟩ ?_ ?_
  · rintro j σ H2 hj ⟨z, es, rfl, s2, hl2, hes⟩
    have ev : (((refs as).length : Nat) : Int) - 1 + ((j : Nat) : Int) * (-1) = ((p.length - 1 - j : Nat) : Int) := by rw [refs_len]; omega
    rw [ev]
    obtain ⟨d, hd, hdr⟩ := hrw.get (seen_get (show p.length - 1 - j < p.length by omega))
    refine ⟨_, rfl, _, rfl, b, _, _, _, rfl, rfl, tupT (s2 _ _ hb), iv_last hc.1, _, rfl, _, rfl, a, _, _, _, rfl, rfl, tupT (s2 _ _ ha), at_nat (refs_get hd), d, _, rfl, .inr (tupT (s2 _ _ hdr)), rfl, flat_iv _, _, rfl, ?_⟩
    show (if inV (V.int ((lastN c : Nat) : Int)) (iv (seen p (p.length - 1 - j))) = true then _ else _)
    rw [inV_iv]
    by_cases hin : (seen p (p.length - 1 - j)).contains (lastN c) = true
    · refine if_t hin ?_
      refine ⟨_, rfl, .inl ⟨rfl, _, lstL hl2⟩, _, rfl, _, rfl, _, rfl, (by show 1 ≤ sizeLine; decide), fun t ht => ?_⟩
      have t3 := same_new ht (.tup [V.int ((p.length - 1 - j : Nat) : Int)])
      refine ⟨b, t, _, _, rfl, rfl, tupT (t3 _ _ (s2 _ _ hb)), tupT upd_same, ?_, szl (by rw [iv_len]; show _ + 1 ≤ _; omega), fun z => (by cases z), fun _ t2 ht2 => ?_⟩
      · intro z
        have := congrArg List.length z
        rw [iv_len] at this
        exact hc.1 (List.length_eq_zero_iff.mp this)
      · have t4 := t3.trans (same_new ht2 (.tup (iv c ++ [V.int ((p.length - 1 - j : Nat) : Int)])))
        have ht4 : upd (upd H2 t (.tup [V.int ((p.length - 1 - j : Nat) : Int)])) t2 (.tup (iv c ++ [V.int ((p.length - 1 - j : Nat) : Int)])) t2 = some (.tup (iv (c ++ [p.length - 1 - j]))) := by rw [iv_app]; exact upd_same
        generalize upd (upd H2 t (.tup [V.int ((p.length - 1 - j : Nat) : Int)])) t2 (.tup (iv c ++ [V.int ((p.length - 1 - j : Nat) : Int)])) = H4 at t4 ht4
        have s4 := s2.trans t4
        refine ⟨a, p, t2, c ++ [p.length - 1 - j], rfl, ⟨as, s4 _ _ ha, hrw.tk (tk_of s4)⟩, hP, h6, ht4, chain_snoc hc (List.contains_iff_mem.mp hin) (by omega), by rw [lastN_snoc]; omega, fun H5 k s5 hk => ?_⟩
        obtain ⟨fs, hk5, hfs⟩ := hk
        have hl5 := (t4.trans s5) _ _ hl2
        have hel := hes.len
        have hfl := hfs.len
        have hfr := frm_len h6 (c ++ [p.length - 1 - j])
        have hkl := kidsI_len p (lastN c) j
        have hkf := flat_len (fun it => frm p (c ++ [it])) 60000 (kidsI p (lastN c) j) fun it _ => frm_len h6 _
        have hk6 : (kidsI p (lastN c) j).length * 60000 ≤ 6 * 60000 := Nat.mul_le_mul_right _ (by omega)
        rw [List.length_cons] at hel
        refine ⟨l, k, _, _, rfl, rfl, hl5, hk5, szl (by rw [refs_len, refs_len]; omega), ?_⟩
        have t6 := tk_lst (o := .lst (refs es ++ refs fs)) hl5
        refine ⟨_, es ++ fs, rfl, same_mut (s4.trans s5) hl, by rw [refs_app]; exact upd_same, ?_⟩
        rw [kidsI_succ, if_pos hin, List.flatMap_append, List.flatMap_singleton, ← List.cons_append]
        exact ((hes.tk (tk_of (t4.trans s5))).tk t6).app (hfs.tk t6)
    · refine if_f (Bool.eq_false_iff.mpr hin) ?_
      refine ⟨_, es, rfl, s2, hl2, ?_⟩
      rw [kidsI_succ, if_neg hin, List.append_nil]
      exact hes
  · rintro σ H2 ⟨z, es, rfl, s2, hl2, hes⟩
    rw [kidsI_done hP hlc, ← frm_eq hP] at hes
    exact ⟨_, rfl, q _ _ s2 ⟨es, hl2, hes⟩⟩
theorem all_LawFrom (B : Blt mg) (F : Fun K "_law_from" "_law_from" sLawFrom f fd) (b : Binds K fd ["_law_plan_here", "_law_line_here"] []) (g : mg "_law_from" = some (.ref f)) : ∀ m : Nat, FnOk P w K mg base CX0 m f fd ["_law_plan_here", "_law_line_here"] (spLawFrom m)
  | 0 => from_none
  | m + 1 => ok_LawFrom B F ⟨all_LawFrom B F b g m, b, F.kp, g⟩
abbrev nLawChains : List Str := ["_law_plan_here", "_law_found", "_law_item"]
theorem sc_LawChains : FnScope nLawChains ["_law_plan_here"] (defScope sLawChains) := ⟨rfl, rfl, rfl, by decide +kernel, rfl, by decide +kernel, by decide +kernel⟩
theorem ok_LawChains (B : Blt mg) {f1 : Addr} {fd1 : FuncData} (C1 : Callee P w K mg base CX0 6 "_law_from" f1 fd1 ["_law_plan_here", "_law_line_here"] (spLawFrom 6)) (F : Fun K "_law_chains" "_law_chains" sLawChains f fd) : FnOk P w K mg base CX0 7 f fd ["_law_plan_here"] spLawChains := by
  refine F.ok sc_LawChains (fun vs H Q E h => ?_) (fun cdv A outer s H vs Q E hr h => ?_)
  · obtain ⟨a, p, rfl, _⟩ := h
    rfl
  obtain ⟨a, p, rfl, ⟨as, ha, hrw⟩, hP, h6, q⟩ := h
  refine ⟨_, pss_cons (ps_set (i := 1) sc_LawChains.nd rfl (Or.inl rfl) (pe_lst pa_nil))
    (pss_cons (ps_for PassesOwn.never rfl (pi_range3 rfl B.range (pa_cons (pe_op op_sub (pe_callB call_len_seq rfl B.len bt_len (pa_cons (pv 0) pa_nil)) pe_int) (pa_cons (pe_un un_neg pe_int) (pa_cons (pe_un un_neg pe_int) pa_nil)))) (pg_name (i := 2) sc_LawChains.nd rfl (Or.inl rfl))
      (pss_one (ps_expr (pe_bm PySem.F.plainAttrs_list PySem.F.slot_list_extend PySem.F.type_list_extend mt_extend (pv 1) (pa_cons (pe_c C1 hr rfl (pa_cons (pv 0) (pa_cons (pe_tup (pa_cons (pv 2) pa_nil)) pa_nil))) pa_nil)))))
    (pss_one (ps_ret (pv 1)))), ?_⟩
  have hlen : as.length = p.length := hrw.len
  refine ⟨(by show 0 ≤ sizeLine; decide), fun l hl => ?_⟩
  have s1 := same_new hl (.lst [])
  have hl1 : upd H l (.lst []) l = some (.lst (refs [])) := upd_same
  generalize upd H l (.lst []) = H1 at s1 hl1
  have rg : RgC ((((refs as).length : Nat) : Int) - 1) (-1) (-1) p.length := by
    have z := RgC.neg (i := (((refs as).length : Nat) : Int) - 1) (j := -1) (by rw [refs_len]; omega) (by rw [refs_len]; omega) (by omega) (by omega)
    have e : ((((refs as).length : Nat) : Int) - 1 - (-1)).toNat = p.length := by rw [refs_len]; omega
    rw [e] at z
    exact z
  refine ⟨_, rfl, a, _, rfl, .inr (tupT (s1 _ _ ha)), _, _, rfl, rfl, _, rfl, _, rfl, (((refs as).length : Nat) : Int) - 1, -1, -1, p.length, rfl, rg, ?_⟩
  refine for_rangeC (fun j σ H' => ∃ (z : Option V) (es : List Addr), σ = [some (.ref a), some (.ref l), z] ∧ Same H H' ∧ H' l = some (.lst (refs es)) ∧ Rws H' es ((downI p.length j).flatMap fun i => frm p [i]))
    ⟨_, [], rfl, s1, hl1, .nil⟩ ?_ ?_
  · rintro j σ H2 hj ⟨z, es, rfl, s2, hl2, hes⟩
    have ev : (((refs as).length : Nat) : Int) - 1 + ((j : Nat) : Int) * (-1) = ((p.length - 1 - j : Nat) : Int) := by rw [refs_len]; omega
    rw [ev]
    refine ⟨_, rfl, .inl ⟨rfl, _, lstL hl2⟩, _, rfl, _, rfl, (by show 1 ≤ sizeLine; decide), fun t ht => ?_⟩
    have t3 := same_new ht (.tup [V.int ((p.length - 1 - j : Nat) : Int)])
    have ht3 : upd H2 t (.tup [V.int ((p.length - 1 - j : Nat) : Int)]) t = some (.tup (iv [p.length - 1 - j])) := upd_same
    generalize upd H2 t (.tup [V.int ((p.length - 1 - j : Nat) : Int)]) = H3 at t3 ht3
    have s3 := s2.trans t3
    refine ⟨a, p, t, [p.length - 1 - j], rfl, ⟨as, s3 _ _ ha, hrw.tk (tk_of s3)⟩, hP, h6, ht3, chain_one (by omega), by omega, fun H4 k s4 hk => ?_⟩
    obtain ⟨fs, hk4, hfs⟩ := hk
    have hl4 := (t3.trans s4) _ _ hl2
    have hel := hes.len
    have hfl := hfs.len
    have hfr := frm_len h6 [p.length - 1 - j]
    have hkf := flat_len (fun i => frm p [i]) 60000 (downI p.length j) fun it _ => frm_len h6 _
    have hdl : (downI p.length j).length = j := by unfold downI; rw [List.length_map, List.length_range]
    have hk6 : (downI p.length j).length * 60000 ≤ 6 * 60000 := Nat.mul_le_mul_right _ (by omega)
    refine ⟨l, k, _, _, rfl, rfl, hl4, hk4, szl (by rw [refs_len, refs_len]; omega), ?_⟩
    have t6 := tk_lst (o := .lst (refs es ++ refs fs)) hl4
    refine ⟨_, es ++ fs, rfl, same_mut (s3.trans s4) hl, by rw [refs_app]; exact upd_same, ?_⟩
    rw [downI_succ, List.flatMap_append, List.flatMap_singleton]
    exact ((hes.tk (tk_of (t3.trans s4))).tk t6).app (hfs.tk t6)
  · rintro σ H2 ⟨z, es, rfl, s2, hl2, hes⟩
    exact ⟨_, rfl, q _ _ s2 ⟨es, hl2, hes⟩⟩

abbrev nLawShort : List Str := ["_law_plan_here", "_law_most", "_law_many", "_law_size", "_law_seen"]
theorem sc_LawShort : FnScope nLawShort ["_law_plan_here", "_law_most"] (defScope sLawShort) := ⟨rfl, rfl, rfl, by decide +kernel, rfl, by decide +kernel, by decide +kernel⟩
theorem ok_LawShort (B : Blt mg) (F : Fun K "_law_short" "_law_short" sLawShort f fd) : FnOk P w K mg base CX0 1 f fd ["_law_plan_here", "_law_most"] spLawShort := by
  refine F.ok sc_LawShort (fun vs H Q E h => ?_) (fun cdv A outer s H vs Q E hr h => ?_)
  · obtain ⟨a, p, m, rfl, _⟩ := h
    rfl
  obtain ⟨a, p, m, rfl, ⟨as, ha, hrw⟩, h40, hs40, q⟩ := h
  refine ⟨_, pss_cons (ps_set (i := 2) sc_LawShort.nd rfl (Or.inl rfl) pe_int)
    (pss_cons (ps_set (i := 3) sc_LawShort.nd rfl (Or.inl rfl) pe_int)
    (pss_cons (ps_for PassesOwn.never rfl (pi_tup (pv 0)) (pg_name (i := 4) sc_LawShort.nd rfl (Or.inl rfl))
      (pss_cons (ps_set (i := 2) sc_LawShort.nd rfl (Or.inl rfl) (pe_op op_mul (pv 2) (pe_op op_add (pe_callB call_len_seq rfl B.len bt_len (pa_cons (pv 4) pa_nil)) pe_int)))
      (pss_one (ps_if (pt_cmpR op_le (pv 2) (pv 1) (nomark _)) (pss_one (ps_set (i := 3) sc_LawShort.nd rfl (Or.inl rfl) (pe_op op_add (pv 3) pe_int))) pss_nil))))
    (pss_one (ps_ret (pe_slice sl_tupA (pv 0) po_none (po_some (pv 3))))))), ?_⟩
  have hlen : as.length = p.length := hrw.len
  refine ⟨_, rfl, a, rfl, ⟨_, tupT ha⟩, ?_⟩
  refine for_it (walk_tup (xs := refs as)) (fun i σ H' => ∃ (z : Option V) (x : Int) (n : Nat), σ = [some (.ref a), some (.int m), some (.int x), some (.int ((n : Nat) : Int)), z] ∧ H' = H ∧ n ≤ i)
    ⟨_, 1, 0, rfl, rfl, Nat.le_refl _⟩ (fun i σ H' _ pv => by obtain ⟨_, _, _, _, rfl, _⟩ := pv; exact tupT ha) ?_ ?_
  · rintro i y σ H2 H2' hi ⟨z, x, n, rfl, rfl, hn⟩ ⟨rfl, hy⟩
    obtain ⟨b, hb, rfl⟩ := refs_got hy
    have hip : i < p.length := by rw [refs_len] at hi; omega
    have hbr : H2' b = some (.tup (iv (seen p i))) := hrw.rw_ i b _ hb (seen_get hip)
    have := hs40 i hip
    refine ⟨_, rfl, _, rfl, b, _, rfl, .inr (tupT hbr), _, _, rfl, rfl, _, _, rfl, rfl, .inr ⟨by rw [iv_len]; omega, by rw [iv_len]; omega⟩, ?_⟩
    refine ⟨_, rfl, _, rfl, _, _, rfl, rfl, _, rfl, ?_⟩
    refine ite2 (fun _ => ?_) (fun _ => ?_)
    · exact ⟨_, rfl, _, _, rfl, rfl, _, _, n + 1, rfl, rfl, by omega⟩
    · exact ⟨_, _, n, rfl, rfl, by omega⟩
  · rintro σ H2 ⟨z, x, n, rfl, rfl, hn⟩
    rw [refs_len, hlen] at hn
    refine ⟨_, rfl, _, rfl, _, rfl, a, _, rfl, tupT ha, fun hw => ?_, fun hw k hk => ?_⟩
    · have h2 := hw.2
      rw [HT.sIx_nat, refs_len] at h2
      refine q _ a n (Same.refl _) ⟨as, ha, ?_⟩
      rw [List.take_of_length_le (by omega)]
      exact hrw
    · have t3 := same_new hk (.tup (cutV (refs as) none (some ((n : Nat) : Int))))
      refine q _ k n t3 ⟨as.take n, ?_, (hrw.tk (tk_of t3)).take n⟩
      rw [upd_same]
      unfold cutV
      rw [HT.sIx_none, HT.sIx_nat, refs_len, List.drop_zero, Nat.sub_zero, Nat.min_eq_left (by omega)]
      unfold refs
      rw [List.map_take]
end
end Pb

/-! PbK: _law_alike, _law_is_line, _law_all_come. -/
namespace Pb
open PySem PySem.Spec PyProof.Rows L2

abbrev sLawAllCome : Stmt := top 45
/-- two equal data of ints, tuples, lists, to a depth -/
def Ak : Nat → Hp → V → V → Prop
  | 0, _, x, y => ∃ i : Int, x = .int i ∧ y = .int i
  | d + 1, H, x, y => (∃ i : Int, x = .int i ∧ y = .int i) ∨ ∃ (a b : Addr) (xs ys : List V), x = .ref a ∧ y = .ref b ∧ ((H a = some (.tup xs) ∧ H b = some (.tup ys)) ∨ (H a = some (.lst xs) ∧ H b = some (.lst ys))) ∧ xs.length = ys.length ∧ ys.length ≤ 1000000 ∧
    ∀ (i : Nat) (x y : V), xs[i]? = some x → ys[i]? = some y → Ak d H x y
theorem Ak.same : ∀ {d : Nat} {H H' : Hp} {x y : V}, Ak d H x y → Same H H' → Ak d H' x y
  | 0, _, _, _, _, h, _ => h
  | d + 1, H, H', x, y, h, s => by
    rcases h with h | ⟨a, b, xs, ys, e1, e2, hh, e3, e4, h⟩
    · exact .inl h
    · refine .inr ⟨a, b, xs, ys, e1, e2, ?_, e3, e4, fun i x y h1 h2 => (h i x y h1 h2).same s⟩
      rcases hh with ⟨h1, h2⟩ | ⟨h1, h2⟩
      · exact .inl ⟨s _ _ h1, s _ _ h2⟩
      · exact .inr ⟨s _ _ h1, s _ _ h2⟩
theorem ak_row {H : Hp} {a b : Addr} {l : List Nat} (ha : H a = some (.tup (iv l))) (hb : H b = some (.tup (iv l))) (hz : l.length ≤ 1000) (d : Nat) : Ak (d + 1) H (.ref a) (.ref b) := by
  refine .inr ⟨a, b, _, _, rfl, rfl, .inl ⟨ha, hb⟩, rfl, by rw [iv_len]; omega, fun i x y h1 h2 => ?_⟩
  rw [h1] at h2
  have e := Option.some.inj h2
  subst e
  obtain ⟨n, _, rfl⟩ := iv_got h1
  cases d with
  | zero => exact ⟨_, rfl, rfl⟩
  | succ d => exact .inl ⟨_, rfl, rfl⟩
theorem ak_rows {H : Hp} {a b : Addr} {ls : List (List Nat)} (ha : RowsAt H a ls) (hb : RowsAt H b ls) (hz : ls.length ≤ 1000000) (hl : ∀ l, l ∈ ls → l.length ≤ 1000) : Ak 2 H (.ref a) (.ref b) := by
  obtain ⟨as, ha, hra⟩ := ha
  obtain ⟨bs, hb, hrb⟩ := hb
  refine .inr ⟨a, b, _, _, rfl, rfl, .inr ⟨ha, hb⟩, by rw [refs_len, refs_len, hra.len, hrb.len], by rw [refs_len, hrb.len]; exact hz, fun i x y h1 h2 => ?_⟩
  obtain ⟨c, hc, rfl⟩ := refs_got h1
  obtain ⟨d, hd, rfl⟩ := refs_got h2
  obtain ⟨l, hl1, hcl⟩ := hra.got hc
  exact ak_row hcl (hrb.rw_ i d l hd hl1) (hl l (List.mem_of_getElem? hl1)) 0
theorem ix_lt {K : PySem.W.Frag} {H : Hp} {a : Addr} {xs : List V} {i : Int} {v : V} {Q : VK} (h : Lt H a xs) (hi : atI xs i = some v) (q : Q v H) : rIx K (.ref a) (.int i) H Q := by
  rcases h with h | h
  · exact .inl ⟨a, xs, i, v, rfl, rfl, lstL h, hi, q⟩
  · exact .inr (.inl ⟨a, xs, i, v, rfl, rfl, tupT h, hi, q⟩)
theorem lt_sq {K : PySem.W.Frag} {H : Hp} {a : Addr} {xs : List V} (h : Lt H a xs) : SqL K H a xs ∨ SqT K H a xs := h.elim (fun z => .inl (lstL z)) fun z => .inr (tupT z)
def spLawAlike : Nat → Sp
  | 0 => fun _ _ _ _ => False
  | d + 1 => fun vs H Q _ => ∃ x y, vs = [x, y] ∧ Ak d H x y ∧ ∀ H', Same H H' → Q (.bl true) H'
section
variable {P : Program} {w : World} {K : PySem.W.Frag} {mg : Str → Option Value} {base : Heap} {f : Addr} {fd : FuncData}
abbrev nLawAlike : List Str := ["_law_told", "_law_due", "_law_k"]
theorem sc_LawAlike : FnScope nLawAlike ["_law_told", "_law_due"] (defScope sLawAlike) := ⟨rfl, rfl, rfl, by decide +kernel, rfl, by decide +kernel, by decide +kernel⟩
theorem alike_none : FnOk P w K mg base CX0 0 f fd ["_law_told", "_law_due"] (spLawAlike 0) :=
  ⟨fun vs H Q E h => h.elim, fun A outer s H args us vs Q E _ _ _ _ h => h.elim⟩
theorem ok_LawAlike {d : Nat} (B : Blt mg) (F : Fun K "_law_alike" "_law_alike" sLawAlike f fd) (C1 : Callee P w K mg base CX0 d "_law_alike" f fd ["_law_told", "_law_due"] (spLawAlike d)) : FnOk P w K mg base CX0 (d + 1) f fd ["_law_told", "_law_due"] (spLawAlike (d + 1)) := by
  refine F.ok sc_LawAlike (fun vs H Q E h => ?_) (fun cdv A outer s H vs Q E hr h => ?_)
  · obtain ⟨x, y, rfl, _⟩ := h
    rfl
  obtain ⟨x, y, rfl, hak, q⟩ := h
  refine ⟨_, pss_cons (ps_if (pt_cmpR op_isN (pv 1) pe_non (nomark _)) (pss_one (ps_ret (pe_cmpR op_isN (pv 0) pe_non (nomark _)))) pss_nil)
    (pss_cons (ps_if (pt_val (pe_isi B rfl (pv 1) rfl B.bool bt_bool)) (pss_one (ps_ret (pe_and (pe_isi B rfl (pv 0) rfl B.bool bt_bool) (pe_one (pe_cmpR op_eq (pv 0) (pv 1) (nomark _)))))) pss_nil)
    (pss_cons (ps_if (pt_val (pe_isi B rfl (pv 1) rfl B.str bt_str)) (pss_one (ps_ret (pe_and (pe_isi B rfl (pv 0) rfl B.str bt_str) (pe_one (pe_cmpR op_eq (pv 0) (pv 1) (nomark _)))))) pss_nil)
    (pss_cons (ps_if (pt_val (pe_isi B rfl (pv 1) rfl B.int bt_int)) (pss_one (ps_ret (pe_and (pe_isi B rfl (pv 0) rfl B.int bt_int) (pe_and (pe_not (pe_isi B rfl (pv 0) rfl B.bool bt_bool)) (pe_one (pe_cmpR op_eq (pv 0) (pv 1) (nomark _))))))) pss_nil)
    (pss_cons (ps_if (PW.pt (pw_or (pt_cmpR op_ne (pe_isi B rfl (pv 1) rfl B.tuple bt_tuple) (pe_isi B rfl (pv 0) rfl B.tuple bt_tuple) (nomark _)) (pw_or1 (pt_cmpR op_ne (pe_isi B rfl (pv 1) rfl B.list bt_list) (pe_isi B rfl (pv 0) rfl B.list bt_list) (nomark _))))) (pss_one (ps_ret pe_bl)) pss_nil)
    (pss_cons (ps_if (pt_cmpR op_ne (pe_callB call_len_seq rfl B.len bt_len (pa_cons (pv 0) pa_nil)) (pe_callB call_len_seq rfl B.len bt_len (pa_cons (pv 1) pa_nil)) (nomark _)) (pss_one (ps_ret pe_bl)) pss_nil)
    (pss_one (ps_ret (pe_callB (cr_all rfl) rfl B.all bt_all (pa_cons
      (pe_lc (own := [("_law_k", 2)]) (g := gName 2) (tt := tYes) (te := tCall (spLawAlike d) [] E0 (tCons (tOp (rIx K) (tVar 0) (tVar 2)) (tCons (tOp (rIx K) (tVar 1) (tVar 2)) tNil))) rfl sc_LawAlike.nd (pi_range1 rfl B.range (pa_cons (pe_callB call_len_seq rfl B.len bt_len (pa_cons (pv 1) pa_nil)) pa_nil)) (blkOk_by (N := nLawAlike) (sc := defScope sLawAlike) (by decide +kernel))
        (fun _ _ _ _ _ => pg_name (i := 2) sc_LawAlike.nd rfl (Or.inl rfl)) (fun _ _ _ _ _ => pts_nil) (fun _ _ _ _ _ => pe_c C1 hr rfl (pa_cons (pe_ix ix_seq (pv 0) (pv 2) (fun _ _ => rfl)) (pa_cons (pe_ix ix_seq (pv 1) (pv 2) (fun _ _ => rfl)) pa_nil)) (Nat.le_refl _))) pa_nil))))))))), ?_⟩
  have cs : (∃ i : Int, x = .int i ∧ y = .int i) ∨ ∃ (d' : Nat) (a b : Addr) (xs ys : List V) (t : String) (r1 r2 : Bool), d = d' + 1 ∧ x = .ref a ∧ y = .ref b ∧ Lt H a xs ∧ Lt H b ys ∧ Kd H (.ref a) t ∧ Kd H (.ref b) t ∧
      kitB t "bool" = some false ∧ kitB t "str" = some false ∧ kitB t "int" = some false ∧ kitB t "tuple" = some r1 ∧ kitB t "list" = some r2 ∧ xs.length = ys.length ∧ ys.length ≤ 1000000 ∧ ∀ (i : Nat) (x y : V), xs[i]? = some x → ys[i]? = some y → Ak d' H x y := by
    cases d with
    | zero => exact .inl hak
    | succ d =>
      rcases hak with h | ⟨a, b, xs, ys, e1, e2, hh, e3, e4, h⟩
      · exact .inl h
      · rcases hh with ⟨h1, h2⟩ | ⟨h1, h2⟩
        · exact .inr ⟨d, a, b, xs, ys, _, true, false, rfl, e1, e2, .inr h1, .inr h2, .tup h1, .tup h2, by decide +kernel, by decide +kernel, by decide +kernel, by decide +kernel, by decide +kernel, e3, e4, h⟩
        · exact .inr ⟨d, a, b, xs, ys, _, false, true, rfl, e1, e2, .inl h1, .inl h2, .lst h1, .lst h2, by decide +kernel, by decide +kernel, by decide +kernel, by decide +kernel, by decide +kernel, e3, e4, h⟩
  rcases cs with ⟨i, rfl, rfl⟩ | ⟨d', a, b, xs, ys, t, r1, r2, rfl, rfl, rfl, hx, hy, ka, kb, k1, k2, k3, k4, k5, hlen, hle, hel⟩
  · refine ⟨_, rfl, rfl, _, rfl, if_f (decide_eq_false fun z => by cases z) ?_⟩
    refine ⟨_, rfl, _, _, false, rfl, .int i, by decide +kernel, _, rfl, iteF ?_⟩
    refine ⟨_, rfl, _, _, false, rfl, .int i, by decide +kernel, _, rfl, iteF ?_⟩
    refine ⟨_, rfl, _, _, true, rfl, .int i, by decide +kernel, _, rfl, ?_⟩
    refine iteT ⟨_, rfl, _, _, true, rfl, .int i, by decide +kernel, _, rfl, ?_⟩
    refine iteT ⟨_, rfl, _, _, false, rfl, .int i, by decide +kernel, _, rfl, _, rfl, ?_⟩
    refine iteT ⟨_, rfl, _, rfl, rfl, ?_⟩
    exact q_of (decide_eq_true rfl) (q _ (Same.refl _))
  · refine ⟨_, rfl, rfl, _, rfl, if_f (decide_eq_false fun z => by cases z) ?_⟩
    refine ⟨_, rfl, _, _, false, rfl, kb, k1, _, rfl, iteF ?_⟩
    refine ⟨_, rfl, _, _, false, rfl, kb, k2, _, rfl, iteF ?_⟩
    refine ⟨_, rfl, _, _, false, rfl, kb, k3, _, rfl, iteF ?_⟩
    refine ⟨_, rfl, _, _, r1, rfl, kb, k4, _, rfl, _, _, r1, rfl, ka, k4, rfl, _, rfl, if_f (by simp) ?_⟩
    refine ⟨_, rfl, _, _, r2, rfl, kb, k5, _, rfl, _, _, r2, rfl, ka, k5, rfl, _, rfl, if_f (by simp) ?_⟩
    refine ⟨_, rfl, a, _, rfl, lt_sq hx, _, rfl, b, _, rfl, lt_sq hy, rfl, _, rfl, if_f (by rw [hlen]; simp) ?_⟩
    refine ⟨_, rfl, b, _, rfl, lt_sq hy, ((ys.length : Nat) : Int), rfl, by omega, by omega, fun D hD => ?_⟩
    rw [show (((ys.length : Nat) : Int)).toNat = ys.length by omega]
    refine lc_acc walk_range0 hD (fun j acc _ => acc = (List.replicate j true).map V.bl) (fun j acc _ _ _ h => h) rfl (fun j acc H hj h => by
      rw [h, List.length_map, List.length_replicate]
      exact szt (by omega)) (fun _ _ => trivial) ?_ ?_
    · rintro j z H2 acc H2' Yes No hj s2 rfl ⟨rfl, rfl⟩ ky kn
      have ex : xs[j]? = some xs[j] := List.getElem?_eq_getElem (by omega)
      have ey : ys[j]? = some ys[j] := List.getElem?_eq_getElem hj
      refine ⟨rfl, _, rfl, _, rfl, ix_lt (hx.same s2) (at_nat ex) ⟨_, rfl, _, rfl, ix_lt (hy.same s2) (at_nat ey) ?_⟩⟩
      refine ⟨_, _, rfl, (hel j _ _ ex ey).same s2, fun H3 s3 => ky _ _ s3 ?_⟩
      rw [List.replicate_succ', List.map_append]
      rfl
    · rintro H2 acc s2 hacc rfl
      refine ⟨D, _, rfl, lstL hacc, ?_⟩
      exact q_of (by simp) (q _ s2)
theorem all_LawAlike (B : Blt mg) (F : Fun K "_law_alike" "_law_alike" sLawAlike f fd) (b : Binds K fd ["_law_told", "_law_due"] []) (g : mg "_law_alike" = some (.ref f)) : ∀ d : Nat, FnOk P w K mg base CX0 d f fd ["_law_told", "_law_due"] (spLawAlike d)
  | 0 => alike_none
  | d + 1 => ok_LawAlike B F ⟨all_LawAlike B F b g d, b, F.kp, g⟩

/-! ### _law_is_line -/
def kc (c : List Nat) : List Key := c.map fun n => Sum.inl ((n : Nat) : Int)
theorem kc_iv (c : List Nat) : (kc c).map kV = iv c := by unfold kc iv; rw [List.map_map]; rfl
theorem kc_inj : ∀ {a b : List Nat}, kc a = kc b → a = b
  | [], [], _ => rfl
  | [], _ :: _, h => by cases h
  | _ :: _, [], h => by cases h
  | x :: a, y :: b, h => by
    have h' : (Sum.inl ((x : Nat) : Int) : Key) :: kc a = Sum.inl ((y : Nat) : Int) :: kc b := h
    injection h' with h1 h2
    rw [kc_inj h2]
    have := Sum.inl.inj h1
    congr 1
    omega
def spIsLine : Sp := fun vs H Q _ => ∃ (a d : Addr) (c : List Nat) (kvs : List (List Key × V)), vs = [.ref a, .ref d] ∧ H a = some (.tup (iv c)) ∧ c.length ≤ 1000 ∧ H d = some (.dT kvs) ∧ (valV kvs (kc c)).isSome = true ∧ ∀ H', Same H H' → Q (.bl true) H'
abbrev nIsLine : List Str := ["_law_told", "_law_known", "_law_item"]
theorem sc_IsLine : FnScope nIsLine ["_law_told", "_law_known"] (defScope sLawIsLine) := ⟨rfl, rfl, rfl, by decide +kernel, rfl, by decide +kernel, by decide +kernel⟩
theorem ok_IsLine (B : Blt mg) (F : Fun K "_law_is_line" "_law_is_line" sLawIsLine f fd) : FnOk P w K mg base CX0 1 f fd ["_law_told", "_law_known"] spIsLine := by
  refine F.ok sc_IsLine (fun vs H Q E h => ?_) (fun cdv A outer s H vs Q E hr h => ?_)
  · obtain ⟨a, d, c, kvs, rfl, _⟩ := h
    rfl
  obtain ⟨a, d, c, kvs, rfl, ha, hz, hd, hv, q⟩ := h
  have hu := hu_of hr
  refine ⟨_, pss_cons (ps_if (pt_not (pt_val (pe_isi B rfl (pv 0) rfl B.tuple bt_tuple))) (pss_one (ps_ret pe_bl)) pss_nil)
    (pss_cons (ps_if (pt_not (pt_val (pe_callB (cr_all rfl) rfl B.all bt_all (pa_cons
        (pe_lc (own := [("_law_item", 2)]) (g := gName 2) (tt := tYes) rfl sc_IsLine.nd (pi_tup (pv 0)) (blkOk_by (N := nIsLine) (sc := defScope sLawIsLine) (by decide +kernel))
          (fun _ _ _ _ _ => pg_name (i := 2) sc_IsLine.nd rfl (Or.inl rfl)) (fun _ _ _ _ _ => pts_nil) (fun _ _ _ _ _ => pe_and (pe_isi B rfl (pv 2) rfl B.int bt_int) (pe_one (pe_not (pe_isi B rfl (pv 2) rfl B.bool bt_bool))))) pa_nil)))) (pss_one (ps_ret pe_bl)) pss_nil)
    (pss_one (ps_ret (pe_cmp (pc_din hu (pv 0) (pv 1)) rfl)))), ?_⟩
  refine ⟨_, rfl, _, _, true, rfl, .tup ha, by decide +kernel, _, rfl, iteF ?_⟩
  refine ⟨_, rfl, a, rfl, ⟨_, tupT ha⟩, fun D hD => ?_⟩
  refine lc_acc (walk_tup (xs := iv c)) hD (fun j acc _ => acc = (List.replicate j true).map V.bl) (fun j acc _ _ _ h => h) rfl (fun j acc H hj h => by
    rw [h, List.length_map, List.length_replicate]
    rw [iv_len] at hj
    exact szt (by omega)) (fun H2 s2 => tupT (s2 _ _ ha)) ?_ ?_
  · rintro j z H2 acc H2' Yes No hj s2 rfl ⟨rfl, hy⟩ ky kn
    obtain ⟨n, hn, rfl⟩ := iv_got hy
    refine ⟨rfl, _, rfl, _, _, true, rfl, .int _, by decide +kernel, _, rfl, ?_⟩
    refine iteT ⟨_, rfl, _, _, false, rfl, .int _, by decide +kernel, _, rfl, ky _ _ (Same.refl _) ?_⟩
    rw [List.replicate_succ', List.map_append]
    rfl
  · rintro H2 acc s2 hacc rfl
    refine ⟨D, _, rfl, lstL hacc, _, rfl, if_f (by simp) ?_⟩
    refine ⟨_, rfl, _, rfl, d, _, rfl, DGet.t (k := kc c) (s2 _ _ hd) (by rw [kc_iv]; exact s2 _ _ ha), ?_⟩
    exact q_of hv (q _ s2)
end
end Pb

/-! PbL: _law_all_come. -/
namespace Pb
open PySem PySem.Spec PyProof.Rows L2

/-! ### the keys of a dict of chains -/
theorem sub_len : ∀ (a b : List (List Nat)), a.Nodup → (∀ x, x ∈ a → x ∈ b) → a.length ≤ b.length
  | [], b, _, _ => Nat.zero_le _
  | x :: a, b, h, hs => by
    have hx := hs x List.mem_cons_self
    have hn := List.nodup_cons.mp h
    have ih := sub_len a (b.erase x) hn.2 fun y hy => by
      have hne : y ≠ x := fun z => hn.1 (z ▸ hy)
      exact (List.mem_erase_of_ne hne).mpr (hs y (List.mem_cons_of_mem _ hy))
    rw [List.length_erase_of_mem hx] at ih
    have : 0 < b.length := List.length_pos_of_mem hx
    rw [List.length_cons]
    omega
structure Cm (P : List (List Nat)) (kvs : List (List Key × V)) (ms : List (List Nat)) : Prop where
  ks : kvs.map (·.1) = ms.map kc
  nd : ms.Nodup
  ch : ∀ c, c ∈ ms → Chain P c
theorem map_upd (k : List Key) (v : V) (kvs : List (List Key × V)) : (kvs.map (fun kv => if kv.1 = k then (kv.1, v) else kv)).map (·.1) = kvs.map (·.1) := by
  rw [List.map_map]
  refine List.map_congr_left fun x _ => ?_
  show (if x.1 = k then (x.1, v) else x).1 = x.1
  split <;> rfl
theorem Cm.put {P : List (List Nat)} {kvs : List (List Key × V)} {ms : List (List Nat)} (h : Cm P kvs ms) {c : List Nat} (hc : Chain P c) (v : V) : ∃ ms', Cm P (putK kvs (kc c) v) ms' ∧ (∀ x, x ∈ ms → x ∈ ms') ∧ c ∈ ms' := by
  by_cases hm : c ∈ ms
  · refine ⟨ms, ⟨?_, h.nd, h.ch⟩, fun x hx => hx, hm⟩
    have ha : (kvs.any fun kv => decide (kv.1 = kc c)) = true := by
      have h2 : kc c ∈ kvs.map (·.1) := by rw [h.ks]; exact List.mem_map_of_mem hm
      obtain ⟨kv, hkv, e⟩ := List.mem_map.mp h2
      exact List.any_eq_true.mpr ⟨kv, hkv, decide_eq_true e⟩
    unfold putK
    rw [if_pos ha, map_upd]
    exact h.ks
  · refine ⟨ms ++ [c], ⟨?_, ?_, fun x hx => ?_⟩, fun x hx => List.mem_append_left _ hx, by simp⟩
    · have ha : ¬ (kvs.any fun kv => decide (kv.1 = kc c)) = true := fun z => by
        obtain ⟨kv, hkv, e⟩ := List.any_eq_true.mp z
        have h2 : kc c ∈ ms.map kc := by rw [← h.ks, ← of_decide_eq_true e]; exact List.mem_map_of_mem hkv
        obtain ⟨d, hd, e2⟩ := List.mem_map.mp h2
        exact hm (kc_inj e2 ▸ hd)
      unfold putK
      rw [if_neg ha, List.map_append, h.ks, List.map_append]
      rfl
    · rw [List.nodup_append]
      refine ⟨h.nd, by simp, fun a ha b hb => ?_⟩
      have e : b = c := by simpa using hb
      subst e
      exact fun z => hm (z ▸ ha)
    · rcases List.mem_append.mp hx with q | q
      · exact h.ch x q
      · have e : x = c := by simpa using q
        subst e
        exact hc
theorem Cm.len {P : List (List Nat)} {kvs : List (List Key × V)} {ms : List (List Nat)} (h : Cm P kvs ms) : kvs.length = ms.length := by
  have := congrArg List.length h.ks
  rw [List.length_map, List.length_map] at this
  exact this
theorem Cm.le {P : List (List Nat)} (hP : IsPlan P) {kvs : List (List Key × V)} {ms : List (List Nat)} (h : Cm P kvs ms) : kvs.length ≤ (allCh P).length := by
  rw [h.len]
  exact sub_len _ _ h.nd fun x hx => (mem_allCh hP).mpr (h.ch x hx)
theorem Cm.eq {P : List (List Nat)} (hP : IsPlan P) {kvs : List (List Key × V)} {ms : List (List Nat)} (h : Cm P kvs ms) (hs : ∀ c, Chain P c → c ∈ ms) : kvs.length = (allCh P).length := by
  refine Nat.le_antisymm (h.le hP) ?_
  rw [h.len]
  exact sub_len _ _ (allCh_nodup P) fun x hx => hs x ((mem_allCh hP).mp hx)
theorem known_some {rows : List DRow} {ls : List (List Nat)} (h : rows.map (·.ks) = ls.map kc) {c : List Nat} (hc : c ∈ ls) : (valV (rows.map fun r => (r.ks, r.val)) (kc c)).isSome = true := by
  rw [← valV_any]
  have h2 : kc c ∈ rows.map (·.ks) := by rw [h]; exact List.mem_map_of_mem hc
  obtain ⟨r, hr, e⟩ := List.mem_map.mp h2
  exact List.any_eq_true.mpr ⟨(r.ks, r.val), List.mem_map_of_mem hr, decide_eq_true e⟩
def spLawAllCome : Sp := fun vs H Q _ => ∃ (a : Addr) (P : List (List Nat)), vs = [.ref a] ∧ PlanAt H a P ∧ IsPlan P ∧ P.length ≤ 6 ∧ ∀ H', Same H H' → Q (.bl true) H'
section
variable {P : Program} {w : World} {K : PySem.W.Frag} {mg : Str → Option Value} {base : Heap} {f : Addr} {fd : FuncData}
abbrev nAllCome : List Str := ["_law_plan_here", "_law_due", "_law_known", "_law_come", "_law_run", "_law_told", "_law_item", "_law_line_here"]
theorem sc_AllCome : FnScope nAllCome ["_law_plan_here"] (defScope sLawAllCome) := ⟨rfl, rfl, rfl, by decide +kernel, rfl, by decide +kernel, by decide +kernel⟩
theorem ok_AllCome (B : Blt mg) {f1 f2 f3 f4 f5 f6 : Addr} {fd1 fd2 fd3 fd4 fd5 fd6 : FuncData} (C1 : Callee P w K mg base CX0 7 "_law_chains" f1 fd1 ["_law_plan_here"] spLawChains) (C2 : Callee P w K mg base CX0 1 "_law_runs" f2 fd2 ["_law_plan_here"] spLawRuns)
    (C3 : Callee P w K mg base CX0 5 "names" f3 fd3 ["plan", "run"] spNames) (C4 : Callee P w K mg base CX0 1 "_law_is_line" f4 fd4 ["_law_told", "_law_known"] spIsLine) (C5 : Callee P w K mg base CX0 5 "all_chains" f5 fd5 ["plan"] spAllChains)
    (C6 : Callee P w K mg base CX0 3 "_law_alike" f6 fd6 ["_law_told", "_law_due"] (spLawAlike 3)) (F : Fun K "_law_all_come" "_law_all_come" sLawAllCome f fd) : FnOk P w K mg base CX0 8 f fd ["_law_plan_here"] spLawAllCome := by
  refine F.ok sc_AllCome (fun vs H Q E h => ?_) (fun cdv A outer s H vs Q E hr h => ?_)
  · obtain ⟨a, p, rfl, _⟩ := h
    rfl
  obtain ⟨a, p, rfl, ⟨as, ha, hrw⟩, hP, h6, q⟩ := h
  have hu := hu_of hr
  refine ⟨_, pss_cons (ps_set (i := 1) sc_AllCome.nd rfl (Or.inl rfl) (pe_c C1 hr rfl (pa_cons (pv 0) pa_nil)))
    (pss_cons (ps_set (i := 2) sc_AllCome.nd rfl (Or.inl rfl) (pe_callTy (cr_dictT rfl hr.units) rfl B.dict bt_dict (pa_cons
      (pe_lc (own := [("_law_line_here", 7)]) (g := gName 7) (tt := tYes) (te := tTup (tCons (tVar 7) (tCons (tC (.bl true)) tNil))) rfl sc_AllCome.nd (pi_list (pv 1)) (blkOk_by (N := nAllCome) (sc := defScope sLawAllCome) (by decide +kernel))
          (fun _ _ _ _ _ => pg_name (i := 7) sc_AllCome.nd rfl (Or.inl rfl)) (fun _ _ _ _ _ => pts_nil) (fun _ _ _ _ _ => pe_tup (pa_cons (pv 7) (pa_cons pe_bl pa_nil)))) pa_nil)))
    (pss_cons (ps_set (i := 3) sc_AllCome.nd rfl (Or.inl rfl) pe_dnewT)
    (pss_cons (ps_for PassesOwn.never rfl (pi_list (pe_c C2 hr rfl (pa_cons (pv 0) pa_nil))) (pg_name (i := 4) sc_AllCome.nd rfl (Or.inl rfl))
      (pss_cons (ps_set (i := 5) sc_AllCome.nd rfl (Or.inl rfl) (pe_c C3 hr rfl (pa_cons (pv 0) (pa_cons (pv 4) pa_nil))))
      (pss_cons (ps_if (PW.pt (pw_or (pt_not (pt_val (pe_isi B rfl (pv 5) rfl B.tuple bt_tuple))) (pw_or1 (pt_cmpR op_ne (pe_callB call_len_seq rfl B.len bt_len (pa_cons (pv 5) pa_nil)) (pe_callB call_len_seq rfl B.len bt_len (pa_cons (pv 0) pa_nil)) (nomark _))))) (pss_one (ps_ret pe_bl)) pss_nil)
      (pss_one (ps_for PassesOwn.never rfl (pi_range1 rfl B.range (pa_cons (pe_callB call_len_seq rfl B.len bt_len (pa_cons (pv 0) pa_nil)) pa_nil)) (pg_name (i := 6) sc_AllCome.nd rfl (Or.inl rfl))
        (pss_cons (ps_if (PW.pt (pw_or (pt_not (pt_val (pe_c C4 hr rfl (pa_cons (pe_ix ix_tup (pv 5) (pv 6) (fun _ _ => rfl)) (pa_cons (pv 2) pa_nil))))) (pw_or1 (pt_cmpR op_ne (pe_ix ix_tup (pe_ix ix_tup (pv 5) (pv 6) (fun _ _ => rfl)) (pe_un un_neg pe_int) (fun _ _ => rfl)) (pv 6) (nomark _))))) (pss_one (ps_ret pe_bl)) pss_nil)
        (pss_one (ps_dput hu (pv 3) (pe_ix ix_tup (pv 5) (pv 6) (fun _ _ => rfl)) pe_bl rfl))))))))
    (pss_one (ps_ret (pe_and (pe_cmpR op_eq (pe_callB call_len_dT rfl B.len bt_len (pa_cons (pv 3) pa_nil)) (pe_callB call_len_seq rfl B.len bt_len (pa_cons (pv 1) pa_nil)) (nomark _)) (pe_one (pe_c C6 hr rfl (pa_cons (pe_c C5 hr rfl (pa_cons (pv 0) pa_nil)) (pa_cons (pv 1) pa_nil)))))))))), ?_⟩
  have hlen : as.length = p.length := hrw.len
  refine ⟨_, rfl, a, p, rfl, ⟨as, ha, hrw⟩, hP, h6, fun H1 du s1 hdu => ?_⟩
  obtain ⟨ds, hdu1, hds1⟩ := hdu
  have hal := allCh_len h6
  have hchl : ∀ c, Chain p c → c.length ≤ 6 := fun c hc => Nat.le_trans (chain_len hP hc) h6
  refine ⟨_, rfl, du, rfl, ⟨_, lstL hdu1⟩, fun D hD => ?_⟩
  refine lc_acc (walk_list (xs := refs ds)) hD (fun i acc H' => ∃ rows : List DRow, acc = rows.map (fun r => V.ref r.pr) ∧ (∀ r, r ∈ rows → r.at H') ∧ rows.map (·.ks) = ((allCh p).take i).map kc) (fun i acc _ _ t h => by
    obtain ⟨rows, h1, h2, h3⟩ := h
    exact ⟨rows, h1, fun r hr => ⟨t _ _ (h2 r hr).1, t _ _ (h2 r hr).2⟩, h3⟩) ⟨[], rfl, (fun r hr => by cases hr), rfl⟩ (fun i acc H hi h => by
    obtain ⟨rows, h1, h2, h3⟩ := h
    have := congrArg List.length h3
    rw [List.length_map, List.length_map, List.length_take] at this
    rw [h1, List.length_map]
    exact szt (by omega)) (fun H2 s2 => lstL (s2 _ _ hdu1)) ?_ ?_
  · rintro i x H2 acc H2' Yes No hi s2 ⟨rows, rfl, h2, h3⟩ ⟨rfl, hx⟩ ky kn
    obtain ⟨c, hc, rfl⟩ := refs_got hx
    obtain ⟨l, hl, hcl⟩ := hds1.got hc
    refine ⟨rfl, _, rfl, (by show 2 ≤ sizeLine; decide), fun t ht => ?_⟩
    have t3 := same_new ht (.tup [V.ref c, .bl true])
    refine ky _ _ t3 ⟨rows ++ [⟨t, c, kc l, .bl true⟩], by rw [List.map_append]; rfl, fun r hr => ?_, ?_⟩
    · rcases List.mem_append.mp hr with h | h
      · exact ⟨t3 _ _ (h2 r h).1, t3 _ _ (h2 r h).2⟩
      · have e : r = ⟨t, c, kc l, .bl true⟩ := by simpa using h
        subst e
        refine ⟨upd_same, ?_⟩
        show _ = some (HO.tup ((kc l).map kV))
        rw [kc_iv]
        exact (s2.trans t3) _ _ hcl
    · rw [List.map_append, h3, List.take_add_one, hl, List.map_append]
      rfl
  rintro H2 acc s2 hacc ⟨rows, rfl, h2, h3⟩
  rw [refs_len, hds1.len, List.take_length] at h3
  have hnd : (rows.map (·.ks)).Nodup := by
    rw [h3]
    unfold List.Nodup
    rw [List.pairwise_map]
    exact (allCh_nodup p).imp fun hab z => hab (kc_inj z)
  refine ⟨D, rows, rfl, lstL hacc, h2, hnd, fun kn hkn => ?_⟩
  have t3 := same_new hkn (.dT (rows.map fun r => (r.ks, r.val)))
  have hk3 : upd H2 kn (.dT (rows.map fun r => (r.ks, r.val))) kn = some (.dT (rows.map fun r => (r.ks, r.val))) := upd_same
  generalize upd H2 kn (.dT (rows.map fun r => (r.ks, r.val))) = H3 at t3 hk3
  have s13 := s2.trans t3
  have s03 := s1.trans s13
  have hdu3 := s13 _ _ hdu1
  have hds3 := hds1.tk (tk_of s13)
  have ha3 := s03 _ _ ha
  have hrw3 := hrw.tk (tk_of s03)
  intro cm hcm
  have t4 := same_new hcm (.dT [])
  have hc4 : upd H3 cm (.dT []) cm = some (.dT []) := upd_same
  generalize upd H3 cm (.dT []) = H4 at t4 hc4
  refine ⟨_, rfl, a, p, rfl, ⟨as, t4 _ _ ha3, hrw3.tk (tk_of t4)⟩, hP, h6, fun H5 rl s5 hrl => ?_⟩
  obtain ⟨rs, hrs5, hrr5⟩ := hrl
  have s35 := t4.trans s5
  have hc5 := s5 _ _ hc4
  have hne : rl ≠ cm := fun z => by rw [z, hc5] at hrs5; cases hrs5
  refine ⟨rl, rfl, ⟨_, lstL hrs5⟩, ?_⟩
  refine for_it (walk_list (xs := refs rs)) (fun i σ H' => ∃ (z4 z5 z6 : Option V) (kvs : List (List Key × V)) (ms : List (List Nat)), σ = [some (.ref a), some (.ref du), some (.ref kn), some (.ref cm), z4, z5, z6, none] ∧ Same H3 H' ∧ H' rl = some (.lst (refs rs)) ∧ Rws H' rs (runsOf p) ∧ H' cm = some (.dT kvs) ∧ Cm p kvs ms ∧
      ∀ (j : Nat) (r : List Nat), j < i → (runsOf p)[j]? = some r → ∃ ns, NamesOf p r ns ∧ ∀ k, k < p.length → ns.getD k [] ∈ ms)
    ⟨_, _, _, [], [], rfl, s35, hrs5, hrr5, hc5, ⟨rfl, List.nodup_nil, fun c hc => by cases hc⟩, fun j r hj => by omega⟩ (fun i σ H' _ pv => by obtain ⟨_, _, _, _, _, _, _, g, _⟩ := pv; exact lstL g) ?_ ?_
  · rintro i x σ H6 H6' hi ⟨z4, z5, z6, kvs, ms, rfl, s6, hrl6, hrr6, hc6, hcm6, hdone⟩ ⟨rfl, hx⟩
    obtain ⟨b, hb, rfl⟩ := refs_got hx
    obtain ⟨r, hr0, hbr⟩ := hrr6.got hb
    have hrun : IsRun p r := (mem_runsOf p r).mp (List.mem_of_getElem? hr0)
    refine ⟨_, rfl, _, rfl, a, p, b, r, rfl, ⟨as, s6 _ _ ha3, hrw3.tk (tk_of s6)⟩, hP, by omega, hbr, hrun, fun H7 td ns s7 htd hns => ?_⟩
    obtain ⟨ts, htd7, hts7⟩ := htd
    have hnl : ns.length = p.length := hns.len
    have htl := hts7.len
    have s67 := s6.trans s7
    have e1 : V.int (((refs ts).length : Nat) : Int) = V.int (((refs as).length : Nat) : Int) := by rw [refs_len, refs_len, htl, hnl, hlen]
    refine ⟨_, rfl, _, _, true, rfl, .tup htd7, by decide +kernel, _, rfl, ?_⟩
    refine iteF ⟨_, rfl, td, _, rfl, .inr (tupT htd7), _, rfl, a, _, rfl, .inr (tupT (s67 _ _ ha3)), rfl, _, rfl, ?_⟩
    refine if_f (by rw [decide_eq_true e1]; rfl) ?_
    have hsound := fun k (hk : k < p.length) => names_sound hP hrun hns (k + 1) k (Nat.lt_succ_self k) hk
    refine ⟨_, rfl, a, _, rfl, .inr (tupT (s67 _ _ ha3)), (((refs as).length : Nat) : Int), rfl, by omega, by rw [refs_len]; omega, ?_⟩
    rw [show ((((refs as).length : Nat) : Int)).toNat = p.length by rw [refs_len]; omega]
    refine for_it (walk_range0 (n := p.length)) (fun k σ H' => ∃ (z6 : Option V) (kvs : List (List Key × V)) (ms : List (List Nat)), σ = [some (.ref a), some (.ref du), some (.ref kn), some (.ref cm), some (.ref b), some (.ref td), z6, none] ∧ Same H3 H' ∧ H' rl = some (.lst (refs rs)) ∧ Rws H' rs (runsOf p) ∧ H' td = some (.tup (refs ts)) ∧ Rws H' ts ns ∧ H' cm = some (.dT kvs) ∧ Cm p kvs ms ∧
      (∀ (j : Nat) (r : List Nat), j < i → (runsOf p)[j]? = some r → ∃ ns, NamesOf p r ns ∧ ∀ k, k < p.length → ns.getD k [] ∈ ms) ∧ ∀ j, j < k → ns.getD j [] ∈ ms)
      ⟨_, kvs, ms, rfl, s67, s7 _ _ hrl6, hrr6.tk (tk_of s7), htd7, hts7, s7 _ _ hc6, hcm6, hdone, fun j hj => by omega⟩ (fun _ _ _ _ _ => trivial) ?_ ?_
    · rintro k x σ H8 H8' hk ⟨z6, kvs, ms, rfl, s8, hrl8, hrr8, htd8, hts8, hc8, hcm8, hdone8, hk8⟩ ⟨rfl, rfl⟩
      obtain ⟨hch, hlast⟩ := hsound k hk
      have hget : ns[k]? = some (ns.getD k []) := getD_get (by omega)
      obtain ⟨e, he, her⟩ := hts8.get hget
      have hel := hchl _ hch
      generalize hcd : ns.getD k [] = c at hch hlast hget her hel
      have hsome := known_some h3 ((mem_allCh hP).mpr hch)
      have hel2 : c.length ≤ 1000 := by omega
      refine ⟨_, rfl, _, rfl, td, _, _, _, rfl, rfl, tupT htd8, at_nat (refs_get he), ?_⟩
      refine ⟨_, rfl, e, kn, c, _, rfl, her, hel2, s8 _ _ hk3, hsome, fun H9 s9 => ?_⟩
      have her9 := s9 _ _ her
      refine ⟨_, rfl, iteF ⟨_, rfl, _, rfl, td, _, _, _, rfl, rfl, tupT (s9 _ _ htd8), at_nat (refs_get he), _, rfl, e, _, _, _, rfl, rfl, tupT her9, iv_last hch.1, _, rfl, rfl, _, rfl, ?_⟩⟩
      refine if_f (by rw [hlast]; simp) ?_
      have hc9 := s9 _ _ hc8
      have hkl := hcm8.le hP
      refine ⟨_, rfl, _, rfl, _, rfl, td, _, _, _, rfl, rfl, tupT (s9 _ _ htd8), at_nat (refs_get he), cm, _, rfl, DPut.t (k := kc c) hc9 (by rw [kc_iv]; exact her9) (szt (by omega)), ?_⟩
      obtain ⟨ms', hcm9, hsub, hin⟩ := hcm8.put hch (.bl true)
      have t10 := tk_dT (o := .dT (putK kvs (kc c) (.bl true))) hc9
      have s89 := s8.trans s9
      have hned : rl ≠ cm := hne
      refine ⟨_, _, ms', rfl, same_mut s89 hcm, by rw [upd_ne hned]; exact s9 _ _ hrl8, (hrr8.tk (tk_of s9)).tk t10, t10 _ _ (s9 _ _ htd8), (hts8.tk (tk_of s9)).tk t10, upd_same, hcm9, fun j r hj hr => ?_, fun j hj => ?_⟩
      · obtain ⟨ns, g1, g2⟩ := hdone8 j r hj hr
        exact ⟨ns, g1, fun k hk => hsub _ (g2 k hk)⟩
      · by_cases hjk : j < k
        · exact hsub _ (hk8 j hjk)
        · have ej : j = k := by omega
          subst ej
          rw [hcd]
          exact hin
    · rintro σ H8 ⟨z6, kvs, ms, rfl, s8, hrl8, hrr8, htd8, hts8, hc8, hcm8, hdone8, hk8⟩
      refine ⟨_, _, _, kvs, ms, rfl, s8, hrl8, hrr8, hc8, hcm8, fun j r' hj hr' => ?_⟩
      by_cases hji : j < i
      · exact hdone8 j r' hji hr'
      · have e : j = i := by omega
        subst e
        rw [hr0] at hr'
        have e2 := Option.some.inj hr'
        subst e2
        exact ⟨ns, hns, hk8⟩
  · rintro σ H6 ⟨z4, z5, z6, kvs, ms, rfl, s6, hrl6, hrr6, hc6, hcm6, hdone⟩
    have hall : ∀ c, Chain p c → c ∈ ms := fun c hc => by
      obtain ⟨r, hr, hnm⟩ := comes hP hc
      obtain ⟨j, hj, ej⟩ := List.getElem_of_mem hr
      obtain ⟨ns, h1, h2⟩ := hdone j r (by rw [refs_len, hrr5.len]; exact hj) (by rw [List.getElem?_eq_getElem hj, ej])
      have := h2 (lastN c) (hc.2.1 _ (last_mem hc.1))
      rw [hnm ns h1] at this
      exact this
    have hkl := hcm6.eq hP hall
    refine ⟨_, rfl, cm, kvs, rfl, hc6, _, rfl, du, _, rfl, .inl (lstL (s6 _ _ hdu3)), ?_⟩
    refine ⟨rfl, ?_⟩
    have e9 : V.int ((kvs.length : Nat) : Int) = V.int (((refs ds).length : Nat) : Int) := by rw [refs_len, hds3.len, hkl]
    refine ⟨_, rfl, if_t (decide_eq_true e9) ?_⟩
    refine ⟨_, rfl, a, p, rfl, ⟨as, s6 _ _ ha3, hrw3.tk (tk_of s6)⟩, hP, h6, fun H7 al s7 hal7 => ?_⟩
    have s67 := s6.trans s7
    refine ⟨_, rfl, .ref al, .ref du, rfl, ak_rows hal7 ⟨ds, s67 _ _ hdu3, hds3.tk (tk_of s67)⟩ (by omega) (fun l hl => by have := hchl l ((mem_allCh hP).mp hl); omega), fun H8 s8 => q _ (s03.trans (s67.trans s8))⟩
end
end Pb

/-! PbM: _law_line, _law_wished, _law_is_run. -/
namespace Pb
open PySem PySem.Spec PyProof.Rows L2

abbrev sLawLine : Stmt := top 46
abbrev sLawWished : Stmt := top 47
abbrev sLawSpoiled : Stmt := top 48
abbrev sLawIsRun : Stmt := top 49
abbrev sLawWish : Stmt := top 50
abbrev sLaw : Stmt := top 51
def spLawLine : Sp := fun vs H Q _ => ∃ (st a : Addr) (P : List (List Nat)), vs = [.ref st, .ref a] ∧ StAt H st ∧ PlanAt H a P ∧ IsPlan P ∧ 0 < P.length ∧ P.length ≤ 40 ∧ ∀ H' p c, Kp st H H' → StAt H' st → H' p = some (.tup (iv c)) → Chain P c → Q (.ref p) H'
def ups (P : List (List Nat)) (x : Nat) (j : Nat) : List Nat := (List.range j).filter fun i => (seen P i).contains x
theorem ups_succ (P : List (List Nat)) (x j : Nat) : ups P x (j + 1) = ups P x j ++ (if (seen P j).contains x = true then [j] else []) := by
  unfold ups
  rw [List.range_succ, List.filter_append]
  congr 1
  by_cases h : (seen P j).contains x = true
  · rw [if_pos h]
    exact List.filter_cons_of_pos h
  · rw [if_neg h]
    exact List.filter_cons_of_neg h
theorem ups_len (P : List (List Nat)) (x j : Nat) : (ups P x j).length ≤ j := by
  have := List.length_filter_le (fun i => (seen P i).contains x) (List.range j)
  rw [List.length_range] at this
  exact this
theorem mem_ups {P : List (List Nat)} {x j y : Nat} (h : y ∈ ups P x j) : y < j ∧ x ∈ seen P y := by
  obtain ⟨h1, h2⟩ := List.mem_filter.mp h
  exact ⟨List.mem_range.mp h1, List.contains_iff_mem.mp h2⟩
section
variable {P : Program} {w : World} {K : PySem.W.Frag} {mg : Str → Option Value} {base : Heap} {f : Addr} {fd : FuncData}
abbrev nLawLine : List Str := ["_law_state_here", "_law_plan_here", "_law_line_here", "_law_k", "_law_later", "_law_item"]
theorem sc_LawLine : FnScope nLawLine ["_law_state_here", "_law_plan_here"] (defScope sLawLine) := ⟨rfl, rfl, rfl, by decide +kernel, rfl, by decide +kernel, by decide +kernel⟩
theorem ok_LawLine (B : Blt mg) {f1 : Addr} {fd1 : FuncData} (C1 : Callee P w K mg base CX0 1 "_law_draw" f1 fd1 ["_law_state_here", "_law_many"] spLawDraw) (F : Fun K "_law_line" "_law_line" sLawLine f fd) : FnOk P w K mg base CX0 2 f fd ["_law_state_here", "_law_plan_here"] spLawLine := by
  refine F.ok sc_LawLine (fun vs H Q E h => ?_) (fun cdv A outer s H vs Q E hr h => ?_)
  · obtain ⟨st, a, p, rfl, _⟩ := h
    rfl
  obtain ⟨st, a, p, rfl, hst, ⟨as, ha, hrw⟩, hP, h0, h40, q⟩ := h
  refine ⟨_, pss_cons (ps_set (i := 2) sc_LawLine.nd rfl (Or.inr rfl) (pe_tup (pa_cons (pe_c C1 hr rfl (pa_cons (pv 0) (pa_cons (pe_callB call_len_seq rfl B.len bt_len (pa_cons (pv 1) pa_nil)) pa_nil))) pa_nil)))
    (pss_cons (ps_for PassesOwn.never rfl (pi_range1 rfl B.range (pa_cons (pe_c C1 hr rfl (pa_cons (pv 0) (pa_cons pe_int pa_nil))) pa_nil)) (pg_name (i := 3) sc_LawLine.nd rfl (Or.inl rfl))
      (pss_cons (ps_setLc (i := 4) (own := [("_law_item", 5)]) (g := gName 5) (tt := tTest (tOp (rIn K false) (tOp (rIxT K) (tVar 2) (tUn (rU fun i => V.int (-i)) (tC (V.int 1)))) (tOp (rIxT K) (tVar 1) (tVar 5)))) (te := tVar 5) (by rfl) sc_LawLine.nd rfl rfl (sw_true rfl rfl rfl (by decide +kernel)) (pi_range1 rfl B.range (pa_cons (pe_callB call_len_seq rfl B.len bt_len (pa_cons (pv 1) pa_nil)) pa_nil)) (blkOk_by (N := nLawLine) (sc := defScope sLawLine) (by decide +kernel))
        (fun _ _ _ _ _ => pg_name (i := 5) sc_LawLine.nd rfl (Or.inl rfl)) (fun _ _ _ _ _ => pts_one (pt_cmpR op_in_seq (pe_ix ix_tup (pv 2) (pe_un un_neg pe_int) (fun _ _ => rfl)) (pe_ix ix_tup (pv 1) (pv 5) (fun _ _ => rfl)) (by rfl))) (fun _ _ _ _ _ => pv 5))
      (pss_one (ps_if (pt_cmpR op_gt (pe_callB call_len_seq rfl B.len bt_len (pa_cons (pv 4) pa_nil)) pe_int (nomark _))
        (pss_one (ps_set (i := 2) sc_LawLine.nd rfl (Or.inr rfl) (pe_op op_catA (pv 2) (pe_tup (pa_cons (pe_ix ix_list (pv 4) (pe_c C1 hr rfl (pa_cons (pv 0) (pa_cons (pe_callB call_len_seq rfl B.len bt_len (pa_cons (pv 4) pa_nil)) pa_nil))) (fun _ _ => rfl)) pa_nil))))) pss_nil))))
    (pss_one (ps_ret (pv 2)))), ?_⟩
  have hlen : as.length = p.length := hrw.len
  refine ⟨_, rfl, _, rfl, a, _, rfl, .inr (tupT ha), st, _, rfl, hst, by rw [refs_len]; omega, by rw [refs_len]; omega, fun r0 H1 hr1 k1 s1 _ => ?_⟩
  rw [refs_len, hlen] at hr1
  refine ⟨(by show 1 ≤ sizeLine; decide), fun l0 hl0 => ?_⟩
  have t2 := same_new hl0 (.tup [V.int ((r0 : Nat) : Int)])
  have hl2 : upd H1 l0 (.tup [V.int ((r0 : Nat) : Int)]) l0 = some (.tup (iv [r0])) := upd_same
  generalize upd H1 l0 (.tup [V.int ((r0 : Nat) : Int)]) = H2 at t2 hl2
  have k2 := k1.trans (kp_of t2)
  have s2 := s1.same t2
  refine ⟨_, rfl, st, 8, rfl, s2, by omega, by omega, fun n H3 hn k3 s3 _ => ?_⟩
  refine ⟨((n : Nat) : Int), rfl, by omega, by omega, ?_⟩
  rw [show (((n : Nat) : Int)).toNat = n by omega]
  refine for_it (walk_range0 (n := n)) (fun i σ H' => ∃ (z3 z4 z5 : Option V) (l : Addr) (c : List Nat), σ = [some (.ref st), some (.ref a), some (.ref l), z3, z4, z5] ∧ Kp st H H' ∧ StAt H' st ∧ H' l = some (.tup (iv c)) ∧ Chain p c)
    ⟨_, _, _, l0, [r0], rfl, k2.trans k3, s3, k3.tk s2 _ _ hl2, chain_one (by omega)⟩ (fun _ _ _ _ _ => trivial) ?_ ?_
  · rintro i x σ H4 H4' hi ⟨z3, z4, z5, l, c, rfl, k4, s4, hl4, hc⟩ ⟨rfl, rfl⟩
    have ha4 := k4.tk hst _ _ ha
    have hrw4 := hrw.tk (k4.tk hst)
    have hcl := chain_len hP hc
    refine ⟨_, rfl, a, _, rfl, .inr (tupT ha4), (((refs as).length : Nat) : Int), rfl, by rw [refs_len]; omega, by rw [refs_len]; omega, fun D hD => ?_⟩
    rw [show ((((refs as).length : Nat) : Int)).toNat = p.length by rw [refs_len]; omega]
    have hDst := st_ne s4 hD
    refine lc_acc walk_range0 hD (fun j acc _ => acc = iv (ups p (lastN c) j)) (fun j acc _ _ _ h => h) rfl (fun j acc H hj h => by
      rw [h, iv_len]
      have := ups_len p (lastN c) j
      exact szt (by omega)) (fun _ _ => trivial) ?_ ?_
    · rintro j y H5 acc H5' Yes No hj s5 rfl ⟨rfl, rfl⟩ ky kn
      obtain ⟨d, hd, hdr⟩ := (hrw4.tk (tk_of s5)).get (seen_get hj)
      refine ⟨rfl, _, rfl, _, rfl, l, _, _, _, rfl, rfl, tupT (s5 _ _ hl4), iv_last hc.1, _, rfl, _, rfl, a, _, _, _, rfl, rfl, tupT (s5 _ _ ha4), at_nat (refs_get hd), d, _, rfl, .inr (tupT hdr), rfl, flat_iv _, _, rfl, ?_⟩
      show (if inV (V.int ((lastN c : Nat) : Int)) (iv (seen p j)) = true then _ else _)
      rw [inV_iv]
      by_cases hin : (seen p j).contains (lastN c) = true
      · refine if_t hin ⟨_, rfl, ky _ _ (Same.refl _) ?_⟩
        rw [ups_succ, if_pos hin, iv_app]
        rfl
      · refine if_f (Bool.eq_false_iff.mpr hin) (kn _ (Same.refl _) ?_)
        rw [ups_succ, if_neg hin, List.append_nil]
    · rintro H5 acc s5 hacc rfl
      have k5 := k4.trans (kp_of s5)
      have hst5 := s4.same s5
      have hul := ups_len p (lastN c) p.length
      refine ⟨_, rfl, D, _, rfl, .inl (lstL hacc), _, _, rfl, rfl, _, rfl, ?_⟩
      by_cases hpos : ((0 : Int)) < (((iv (ups p (lastN c) p.length)).length : Nat) : Int)
      · refine if_t (decide_eq_true hpos) ?_
        rw [iv_len] at hpos
        refine ⟨_, rfl, _, rfl, _, rfl, _, rfl, D, _, rfl, .inl (lstL hacc), st, _, rfl, hst5, by rw [iv_len]; omega, by rw [iv_len]; omega, fun r H6 hr6 k6 s6 _ => ?_⟩
        rw [iv_len] at hr6
        have hg : (ups p (lastN c) p.length)[r]? = some ((ups p (lastN c) p.length).getD r 0) := getD_get (by omega)
        generalize (ups p (lastN c) p.length).getD r 0 = g at hg
        obtain ⟨hg1, hg2⟩ := mem_ups (List.mem_of_getElem? hg)
        refine ⟨D, _, _, _, rfl, rfl, lstL (k6 _ _ hDst hacc), at_nat (iv_get hg), (by show 1 ≤ sizeLine; decide), fun t ht => ?_⟩
        have t7 := same_new ht (.tup [V.int ((g : Nat) : Int)])
        have hl6 := k6.tk hst5 _ _ (s5 _ _ hl4)
        refine cat_snoc (t7 _ _ hl6) upd_same (by omega) fun t2 H8 s8 ht2 => ?_
        have t68 := t7.trans s8
        exact ⟨_, _, _, t2, c ++ [g], rfl, (k5.trans k6).trans (kp_of t68), s6.same t68, ht2, chain_snoc hc hg2 hg1⟩
      · refine if_f (decide_eq_false hpos) ?_
        exact ⟨_, _, _, l, c, rfl, k5, hst5, s5 _ _ hl4, hc⟩
  · rintro σ H4 ⟨z3, z4, z5, l, c, rfl, k4, s4, hl4, hc⟩
    exact ⟨_, rfl, q _ l c k4 s4 hl4 hc⟩
end
end Pb

/-! PbN: _law_wished, _law_is_run. -/
namespace Pb
open PySem PySem.Spec PyProof.Rows L2

def spLawWished : Sp := fun vs H Q _ => ∃ (a : Addr) (as : List Addr) (cs : List (List Nat)), vs = [.ref a] ∧ H a = some (.lst (refs as)) ∧ Rws H as cs ∧ (∀ c, c ∈ cs → c.length ≤ 40) ∧ cs.length ≤ 100 ∧ ∀ H', Same H H' → Q (.bl (wish cs).isSome) H'
def spLawIsRun : Sp := fun vs H Q _ => ∃ (a : Addr) (P : List (List Nat)) (b : Addr) (r : List Nat), vs = [.ref a, .ref b] ∧ PlanAt H a P ∧ P.length ≤ 40 ∧ H b = some (.tup (iv r)) ∧ IsRun P r ∧ ∀ H', Same H H' → Q (.bl true) H'
section
variable {P : Program} {w : World} {K : PySem.W.Frag} {mg : Str → Option Value} {base : Heap} {f : Addr} {fd : FuncData}
abbrev nLawWished : List Str := ["_law_row", "_law_found", "_law_line_here", "_law_size"]
theorem sc_LawWished : FnScope nLawWished ["_law_row"] (defScope sLawWished) := ⟨rfl, rfl, rfl, by decide +kernel, rfl, by decide +kernel, by decide +kernel⟩
theorem ok_LawWished (B : Blt mg) (F : Fun K "_law_wished" "_law_wished" sLawWished f fd) : FnOk P w K mg base CX0 1 f fd ["_law_row"] spLawWished := by
  refine F.ok sc_LawWished (fun vs H Q E h => ?_) (fun cdv A outer s H vs Q E hr h => ?_)
  · obtain ⟨a, as, cs, rfl, _⟩ := h
    rfl
  obtain ⟨a, as, cs, rfl, ha, hrw, h40, h100, q⟩ := h
  have hu := hu_of hr
  refine ⟨_, pss_cons (ps_set (i := 1) sc_LawWished.nd rfl (Or.inl rfl) pe_dnewK)
    (pss_cons (ps_for PassesOwn.never rfl (pi_list (pv 0)) (pg_name (i := 2) sc_LawWished.nd rfl (Or.inl rfl))
      (pss_one (ps_for PassesOwn.never rfl (pi_range2 rfl B.range (pa_cons pe_int (pa_cons (pe_op op_add (pe_callB call_len_seq rfl B.len bt_len (pa_cons (pv 2) pa_nil)) pe_int) pa_nil))) (pg_name (i := 3) sc_LawWished.nd rfl (Or.inl rfl))
        (pss_cons (ps_if (pt_cmpR (op_neD hr.units) (pe_dget2 hu (pv 1) (pe_ix ix_tup (pv 2) (pe_op op_sub (pv 3) pe_int) (fun _ _ => rfl)) (pe_slice sl_tupA (pv 2) po_none (po_some (pv 3))) ⟨rfl, rfl, rfl, rfl⟩) (pe_slice sl_tupA (pv 2) po_none (po_some (pv 3))) (nomark _)) (pss_one (ps_ret pe_bl)) pss_nil)
        (pss_one (ps_dput hu (pv 1) (pe_ix ix_tup (pv 2) (pe_op op_sub (pv 3) pe_int) (fun _ _ => rfl)) (pe_slice sl_tupA (pv 2) po_none (po_some (pv 3))) rfl))))))
    (pss_one (ps_ret pe_bl))), ?_⟩
  intro d hd
  have s0 := same_new hd (.dK [])
  have hd0 : upd H d (.dK []) d = some (.dK []) := upd_same
  generalize upd H d (.dK []) = H0 at s0 hd0
  have hlen := hrw.len
  refine ⟨_, rfl, a, rfl, ⟨_, lstL (s0 _ _ ha)⟩, ?_⟩
  refine for_it (walk_list (xs := refs as)) (fun i σ' H' => ∃ (z1 z2 : Option V) (kvs : List (Key × V)) (m : Mp), σ' = [some (.ref a), some (.ref d), z1, z2] ∧ Same H H' ∧ H' d = some (.dK kvs) ∧ kvs.length ≤ i * 40 ∧ DictAt H' kvs m ∧ wishF (starts (cs.take i)) (fun _ => none) = some m)
    ⟨_, _, [], fun _ => none, rfl, s0, hd0, Nat.zero_le _, fun i => .inl ⟨rfl, rfl⟩, rfl⟩ (fun i σ' H' _ pv => by obtain ⟨_, _, _, _, _, s1, _⟩ := pv; exact lstL (s1 _ _ ha)) ?_ ?_
  · rintro i x σ' H1 H1' hi ⟨z1, z2, kvs, m, rfl, s1, hd1, hkl, hda, hw⟩ ⟨rfl, hx⟩
    obtain ⟨b, hb, rfl⟩ := refs_got hx
    obtain ⟨c, hc, hcr⟩ := hrw.got hb
    have hi100 : i < 100 := by rw [refs_len] at hi; omega
    have hcl := h40 c (List.mem_of_getElem? hc)
    refine ⟨_, rfl, b, _, rfl, .inr (tupT (s1 _ _ hcr)), _, _, rfl, rfl, 1, (((iv c).length : Nat) : Int) + 1, rfl, ⟨by omega, by omega, by omega, by rw [iv_len]; omega⟩, ?_⟩
    have en : ((((iv c).length : Nat) : Int) + 1 - 1).toNat = c.length := by rw [iv_len]; omega
    rw [en]
    refine for_range (fun j σ' H' => ∃ (z2 : Option V) (kvs : List (Key × V)) (m : Mp), σ' = [some (.ref a), some (.ref d), some (.ref b), z2] ∧ Same H H' ∧ H' d = some (.dK kvs) ∧ kvs.length ≤ i * 40 + j ∧ DictAt H' kvs m ∧ wishF (starts (cs.take i) ++ sts c j) (fun _ => none) = some m)
      ⟨_, kvs, m, rfl, s1, hd1, hkl, hda, by show wishF (_ ++ []) _ = _; rw [List.append_nil]; exact hw⟩ ?_ ?_
    · rintro j σ' H2 hj ⟨z2, kvs, m, rfl, s2, hd2, hkl2, hda2, hw2⟩
      have ej : (1 : Int) + ((j : Nat) : Int) = ((j + 1 : Nat) : Int) := by omega
      rw [ej]
      have hat : atI (iv c) (((j + 1 : Nat) : Int) - 1) = some (V.int ((lastN (c.take (j + 1)) : Nat) : Int)) := by
        rw [show ((j + 1 : Nat) : Int) - 1 = ((j : Nat) : Int) by omega]
        refine at_nat (iv_get ?_)
        rw [List.getElem?_eq_getElem hj]
        have e2 : c.take (j + 1) = c.take j ++ [c[j]] := by rw [List.take_add_one, List.getElem?_eq_getElem hj]; rfl
        rw [e2, lastN_snoc]
      have hne := take_last hj
      have hb2 := s2 _ _ hcr
      refine ⟨_, rfl, d, rfl, .inl ⟨_, .inl hd2⟩, _, rfl, _, rfl, _, _, rfl, rfl, b, _, _, _, rfl, rfl, tupT hb2, hat, _, rfl, _, rfl, _, rfl, cut_take hb2 (by omega) fun t H3 s3 ht => ?_⟩
      have hd3 := s3 _ _ hd2
      have hda3 := hda2.tk (tk_of s3)
      generalize hs : c.take (j + 1) = s at ht hne hat
      obtain ⟨e, he, her⟩ := hda3.got (i := lastN s) ht
      refine ⟨_, DGet.k (k := Sum.inl ((lastN s : Nat) : Int)) hd3, _, rfl, _, rfl, _, rfl, cut_take (s3 _ _ hb2) (by omega) fun t' H4 s4 ht' => ?_⟩
      rw [hs] at ht'
      have s34 := s3.trans s4
      refine ⟨(.tuple ((zl ((m (lastN s)).getD s)).map .int)), (.tuple ((zl s).map .int)), ?_, dp_iv ht', shaped_zl _, shaped_zl _, _, rfl, ?_⟩
      · rw [he]
        exact dp_iv (s4 _ _ her)
      · rw [eqv_zl]
        by_cases hg : (m (lastN s)).getD s = s
        · refine if_f (by rw [decide_eq_true hg]; rfl) ?_
          refine ⟨_, rfl, _, rfl, _, rfl, cut_take (s34 _ _ hb2) (by omega) fun u H5 s5 hu5 => ?_⟩
          rw [hs] at hu5
          have s35 := s34.trans s5
          have hd5 := s35 _ _ hd2
          refine ⟨_, rfl, _, rfl, _, rfl, _, _, rfl, rfl, b, _, _, _, rfl, rfl, tupT (s35 _ _ hb2), hat, d, _, rfl, DPut.k (k := Sum.inl ((lastN s : Nat) : Int)) hd5 (szt (by omega)), ?_⟩
          have t4 := tk_dK (o := .dK (putK kvs (Sum.inl ((lastN s : Nat) : Int)) (.ref u))) hd5
          refine ⟨_, _, put1 m s, rfl, same_mut (s2.trans s35) hd, upd_same, ?_, ((hda2.tk (tk_of s35)).put hu5).tk t4, ?_⟩
          · have := length_putK kvs (Sum.inl ((lastN s : Nat) : Int)) (V.ref u)
            omega
          · rw [sts_succ, ← List.append_assoc, wishF_append, hw2, hs]
            show (if _ then wishF [] (put1 m s) else none) = _
            rw [if_pos hg]
            rfl
        · refine if_t (by rw [decide_eq_false hg]; rfl) ?_
          have hwn := wish_falls hc hj hw2 (by rw [hs]; exact hg)
          have q' := q _ (s2.trans s34)
          rw [hwn] at q'
          exact q'
    · rintro σ' H2 ⟨z2, kvs, m, rfl, s2, hd2, hkl2, hda2, hw2⟩
      refine ⟨_, _, kvs, m, rfl, s2, hd2, by omega, hda2, ?_⟩
      rw [starts_take hc]
      exact hw2
  · rintro σ' H1 ⟨z1, z2, kvs, m, rfl, s1, hd1, hkl, hda, hw⟩
    rw [refs_len, hlen, List.take_length] at hw
    have q' := q _ s1
    have hw' : wish cs = some m := hw
    rw [hw'] at q'
    exact q'

abbrev nLawIsRun : List Str := ["_law_plan_here", "_law_thing", "_law_item"]
theorem sc_LawIsRun : FnScope nLawIsRun ["_law_plan_here", "_law_thing"] (defScope sLawIsRun) := ⟨rfl, rfl, rfl, by decide +kernel, rfl, by decide +kernel, by decide +kernel⟩
theorem ok_LawIsRun (B : Blt mg) (F : Fun K "_law_is_run" "_law_is_run" sLawIsRun f fd) : FnOk P w K mg base CX0 1 f fd ["_law_plan_here", "_law_thing"] spLawIsRun := by
  refine F.ok sc_LawIsRun (fun vs H Q E h => ?_) (fun cdv A outer s H vs Q E hr h => ?_)
  · obtain ⟨a, p, b, r, rfl, _⟩ := h
    rfl
  obtain ⟨a, p, b, r, rfl, ⟨as, ha, hrw⟩, h40, hb, hrun, q⟩ := h
  refine ⟨_, pss_cons (ps_if (PW.pt (pw_or (pt_not (pt_val (pe_isi B rfl (pv 1) rfl B.tuple bt_tuple))) (pw_or1 (pt_cmpR op_ne (pe_callB call_len_seq rfl B.len bt_len (pa_cons (pv 1) pa_nil)) (pe_callB call_len_seq rfl B.len bt_len (pa_cons (pv 0) pa_nil)) (nomark _))))) (pss_one (ps_ret pe_bl)) pss_nil)
    (pss_cons (ps_for PassesOwn.never rfl (pi_range1 rfl B.range (pa_cons (pe_callB call_len_seq rfl B.len bt_len (pa_cons (pv 0) pa_nil)) pa_nil)) (pg_name (i := 2) sc_LawIsRun.nd rfl (Or.inl rfl))
      (pss_cons (ps_if (PW.pt (pw_or (pt_not (pt_val (pe_isi B rfl (pe_ix ix_tup (pv 1) (pv 2) (fun _ _ => rfl)) rfl B.int bt_int))) (pw_or1 (pt_val (pe_isi B rfl (pe_ix ix_tup (pv 1) (pv 2) (fun _ _ => rfl)) rfl B.bool bt_bool))))) (pss_one (ps_ret pe_bl)) pss_nil)
      (pss_one (ps_if (PW.pt (pw_or (pt_cmpR op_lt (pe_ix ix_tup (pv 1) (pv 2) (fun _ _ => rfl)) pe_int (nomark _)) (pw_or1 (pt_cmpR op_gt (pe_ix ix_tup (pv 1) (pv 2) (fun _ _ => rfl)) (pe_callB call_len_seq rfl B.len bt_len (pa_cons (pe_ix ix_tup (pv 0) (pv 2) (fun _ _ => rfl)) pa_nil)) (nomark _))))) (pss_one (ps_ret pe_bl)) pss_nil))))
    (pss_one (ps_ret pe_bl))), ?_⟩
  have hlen : as.length = p.length := hrw.len
  have hrl : r.length = p.length := hrun.1
  refine ⟨_, rfl, _, _, true, rfl, .tup hb, by decide +kernel, _, rfl, ?_⟩
  refine iteF ⟨_, rfl, b, _, rfl, .inr (tupT hb), _, rfl, a, _, rfl, .inr (tupT ha), rfl, _, rfl, ?_⟩
  have e1 : V.int (((iv r).length : Nat) : Int) = V.int (((refs as).length : Nat) : Int) := by rw [iv_len, refs_len, hrl, hlen]
  refine if_f (by rw [decide_eq_true e1]; rfl) ?_
  refine ⟨_, rfl, a, _, rfl, .inr (tupT ha), (((refs as).length : Nat) : Int), rfl, by rw [refs_len]; omega, by rw [refs_len]; omega, ?_⟩
  rw [show ((((refs as).length : Nat) : Int)).toNat = p.length by rw [refs_len]; omega]
  refine for_it (walk_range0 (n := p.length)) (fun i σ H' => ∃ (z : Option V), σ = [some (.ref a), some (.ref b), z] ∧ H' = H) ⟨_, rfl, rfl⟩ (fun _ _ _ _ _ => trivial) ?_ ?_
  · rintro i x σ H1 H1' hi ⟨z, rfl, rfl⟩ ⟨rfl, rfl⟩
    have hg : r[i]? = some (r.getD i 0) := getD_get (by omega)
    have hle := hrun.2 i _ hg
    generalize r.getD i 0 = g at hg hle
    obtain ⟨c, hc, hcr⟩ := hrw.get (seen_get hi)
    refine ⟨_, rfl, _, rfl, b, _, _, _, rfl, rfl, tupT hb, at_nat (iv_get hg), _, _, true, rfl, .int _, by decide +kernel, _, rfl, ?_⟩
    refine iteF ⟨_, rfl, _, rfl, b, _, _, _, rfl, rfl, tupT hb, at_nat (iv_get hg), _, _, false, rfl, .int _, by decide +kernel, _, rfl, ?_⟩
    refine iteF ⟨_, rfl, _, rfl, b, _, _, _, rfl, rfl, tupT hb, at_nat (iv_get hg), _, _, rfl, rfl, _, rfl, ?_⟩
    refine if_f (decide_eq_false (by omega)) ?_
    refine ⟨_, rfl, _, rfl, b, _, _, _, rfl, rfl, tupT hb, at_nat (iv_get hg), _, rfl, _, rfl, a, _, _, _, rfl, rfl, tupT ha, at_nat (refs_get hc), c, _, rfl, .inr (tupT hcr), _, _, rfl, rfl, _, rfl, ?_⟩
    refine if_f (decide_eq_false (by rw [iv_len]; omega)) ?_
    exact ⟨_, rfl, rfl⟩
  · rintro σ H1 ⟨z, rfl, rfl⟩
    exact q _ (Same.refl _)
end
end Pb

/-! PbO: _law_spoiled. -/
namespace Pb
open PySem PySem.Spec PyProof.Rows L2

/-! ### what is no chain -/
theorem chainV_inv {P : List (List Nat)} {vs : List V} (h : chainV P (some vs) = true) : ∃ l : List Nat, vs = iv l ∧ l.Pairwise (· < ·) ∧ (∀ x, x ∈ l → x < P.length) ∧ chainB P l = true := by
  have h' : (areV (some vs) ((P.length : Nat) : Int) && chainB P (vs.map toN)) = true := h
  rw [Bool.and_eq_true] at h'
  obtain ⟨l, e, hp, hb⟩ := areV_nat h'.1
  refine ⟨l, e, hp, hb, ?_⟩
  have := h'.2
  rw [e, toN_iv] at this
  exact this
theorem iv_inj {a b : List Nat} (h : iv a = iv b) : a = b := by
  have := congrArg (List.map toN) h
  rw [toN_iv, toN_iv] at this
  exact this
theorem bad_nil (P : List (List Nat)) : chainV P (some []) = false := by
  refine Bool.eq_false_iff.mpr fun h => ?_
  obtain ⟨l, e, _, _, hb⟩ := chainV_inv h
  have e2 : l = [] := (iv_inj (a := []) e).symm
  subst e2
  cases hb
theorem bad_two (P : List (List Nat)) (x : Nat) : chainV P (some (iv [x, x])) = false := by
  refine Bool.eq_false_iff.mpr fun h => ?_
  obtain ⟨l, e, hp, _, _⟩ := chainV_inv h
  have e2 := iv_inj e
  subst e2
  have := (List.pairwise_cons.mp hp).1 x (by simp)
  omega
theorem bad_len (P : List (List Nat)) : chainV P (some (iv [P.length])) = false := by
  refine Bool.eq_false_iff.mpr fun h => ?_
  obtain ⟨l, e, _, hb, _⟩ := chainV_inv h
  have e2 := iv_inj e
  subst e2
  have := hb P.length (by simp)
  omega
theorem bad_end (P : List (List Nat)) (c : List Nat) (v : V) (hv : ∀ n : Nat, v ≠ V.int ((n : Nat) : Int)) : chainV P (some (iv c ++ [v])) = false := by
  refine Bool.eq_false_iff.mpr fun h => ?_
  obtain ⟨l, e, _, _, _⟩ := chainV_inv h
  have hm : v ∈ iv l := by rw [← e]; simp
  obtain ⟨n, _, e2⟩ := List.mem_map.mp hm
  exact hv n e2.symm
theorem bad_apart (P : List (List Nat)) (x y : Nat) (r : List Nat) (hx : (seen P y).contains x = false) : chainV P (some (iv (x :: y :: r))) = false := by
  refine Bool.eq_false_iff.mpr fun h => ?_
  obtain ⟨l, e, _, _, hb⟩ := chainV_inv h
  have e2 := iv_inj e
  subst e2
  unfold chainB at hb
  rw [Bool.and_eq_true] at hb
  have h2 := List.all_eq_true.mp hb.2 0 (List.mem_range.mpr (by simp))
  have h3 : (seen P y).contains x = true := h2
  rw [hx] at h3
  cases h3
/-- no chain, and not the state -/
def BadIt (st : Addr) (P : List (List Nat)) (H : Hp) (v : V) : Prop := ∃ o, Thing H v o ∧ chainV P o = false ∧ ∀ a, v = .ref a → a ≠ st
theorem BadIt.same {st : Addr} {P : List (List Nat)} {H H' : Hp} {v : V} (h : BadIt st P H v) (s : Same H H') : BadIt st P H' v := let ⟨o, h1, h2, h3⟩ := h; ⟨o, h1.same s, h2, h3⟩
theorem BadIt.kp {st : Addr} {P : List (List Nat)} {H H' : Hp} {v : V} (h : BadIt st P H v) (k : Kp st H H') : BadIt st P H' v := by
  obtain ⟨o, h1, h2, h3⟩ := h
  refine ⟨o, ?_, h2, h3⟩
  cases h1 with
  | non => exact .non
  | str x => exact .str x
  | lst e => exact .lst (k _ _ (h3 _ rfl) e)
  | tup e f z => exact .tup (k _ _ (h3 _ rfl) e) f z
theorem flat3_iv' (l : List Nat) : (iv l).all flat3 = true := by
  rw [List.all_eq_true]
  intro x hx
  obtain ⟨n, _, rfl⟩ := List.mem_map.mp hx
  rfl
theorem bad_tup {st : Addr} {P : List (List Nat)} {H : Hp} {a : Addr} {xs : List V} (hst : StAt H st) (h : H a = some (.tup xs)) (f : xs.all flat3 = true) (z : xs.length ≤ 1000) (hb : chainV P (some xs) = false) : BadIt st P H (.ref a) := by
  refine ⟨some xs, .tup h f z, hb, fun b e => ?_⟩
  have e2 := V.ref.inj e
  subst e2
  intro e3
  subst e3
  obtain ⟨x, y, w, g⟩ := hst
  rw [h] at g
  cases g
theorem cut_pre {xs : List V} {n : Nat} (h : n ≤ xs.length) : cutV xs none (some ((n : Nat) : Int)) = xs.take n := by
  unfold cutV
  rw [HT.sIx_none, HT.sIx_nat, List.drop_zero, Nat.sub_zero, Nat.min_eq_left h]
theorem cut_post {xs : List V} {n : Nat} (h : n ≤ xs.length) : cutV xs (some ((n : Nat) : Int)) none = xs.drop n := by
  unfold cutV
  rw [HT.sIx_none, HT.sIx_nat, Nat.min_eq_left h]
  exact List.take_of_length_le (by rw [List.length_drop]; omega)
/-- t + u, neither empty -/
theorem cat_tup {K : PySem.W.Frag} {H : Hp} {a b : Addr} {xs ys : List V} {Q : VK} (ha : H a = some (.tup xs)) (hb : H b = some (.tup ys)) (hx : xs ≠ []) (hy : ys ≠ []) (hz : xs.length + ys.length ≤ 10000000) (k : ∀ t H', Same H H' → H' t = some (.tup (xs ++ ys)) → Q (.ref t) H') : rCatA K (.ref a) (.ref b) H Q :=
  ⟨a, b, _, _, rfl, rfl, tupT ha, tupT hb, szl hz, fun e => absurd e hx, fun _ e => absurd e hy, fun _ _ p hp => k p _ (same_new hp _) upd_same⟩
def apr (P : List (List Nat)) (y j : Nat) : List Nat := (List.range j).filter fun i => !(seen P y).contains i
theorem apr_succ (P : List (List Nat)) (y j : Nat) : apr P y (j + 1) = apr P y j ++ (if (seen P y).contains j = true then [] else [j]) := by
  unfold apr
  rw [List.range_succ, List.filter_append]
  congr 1
  by_cases h : (seen P y).contains j = true
  · rw [if_pos h]
    exact List.filter_cons_of_neg (by rw [h]; decide)
  · rw [if_neg h]
    exact List.filter_cons_of_pos (by rw [Bool.eq_false_iff.mpr h]; rfl)
theorem mem_apr {P : List (List Nat)} {y j x : Nat} (h : x ∈ apr P y j) : (seen P y).contains x = false := by
  have := (List.mem_filter.mp h).2
  cases e : (seen P y).contains x with
  | false => rfl
  | true => rw [e] at this; cases this
theorem apr_len (P : List (List Nat)) (y j : Nat) : (apr P y j).length ≤ j := by
  have := List.length_filter_le (fun i => !(seen P y).contains i) (List.range j)
  rw [List.length_range] at this
  exact this

def spLawSpoiled : Sp := fun vs H Q _ => ∃ (st a rw_ : Addr) (P : List (List Nat)) (rs : List Addr) (cs : List (List Nat)), vs = [.ref st, .ref a, .ref rw_] ∧ StAt H st ∧ PlanAt H a P ∧ IsPlan P ∧ 0 < P.length ∧ P.length ≤ 40 ∧ rw_ ≠ st ∧ H rw_ = some (.lst (refs rs)) ∧ Rws H rs cs ∧ (∀ c, c ∈ cs → Chain P c) ∧ cs.length ≤ 100 ∧
  ∀ H' x, Kp st H H' → StAt H' st → (∀ b, x = .ref b → b ≠ st) → (∀ H'', Kp st H' H'' → StAt H'' st → BadRow P H'' x) → Q x H'
section
variable {P : Program} {w : World} {K : PySem.W.Frag} {mg : Str → Option Value} {base : Heap} {f : Addr} {fd : FuncData}
abbrev nLawSpoiled : List Str := ["_law_state_here", "_law_plan_here", "_law_row", "_law_line_here", "_law_menu", "_law_apart", "_law_worse", "_law_kind", "_law_at", "_law_item"]
theorem sc_LawSpoiled : FnScope nLawSpoiled ["_law_state_here", "_law_plan_here", "_law_row"] (defScope sLawSpoiled) := ⟨rfl, rfl, rfl, by decide +kernel, rfl, by decide +kernel, by decide +kernel⟩
theorem ok_LawSpoiled (B : Blt mg) {f1 f2 : Addr} {fd1 fd2 : FuncData} (C1 : Callee P w K mg base CX0 1 "_law_draw" f1 fd1 ["_law_state_here", "_law_many"] spLawDraw) (C2 : Callee P w K mg base CX0 2 "_law_line" f2 fd2 ["_law_state_here", "_law_plan_here"] spLawLine)
    (F : Fun K "_law_spoiled" "_law_spoiled" sLawSpoiled f fd) : FnOk P w K mg base CX0 3 f fd ["_law_state_here", "_law_plan_here", "_law_row"] spLawSpoiled := by
  refine F.ok sc_LawSpoiled (fun vs H Q E h => ?_) (fun cdv A outer s H vs Q E hr h => ?_)
  · obtain ⟨st, a, rw_, p, rs, cs, rfl, _⟩ := h
    rfl
  obtain ⟨st, a, rl, p, rs, cs, rfl, hst, ⟨as, ha, hrw⟩, hP, h0, h40, hrlst, hrl, hrs, hch, h100, q⟩ := h
  refine ⟨_, pss_cons (ps_set (i := 3) sc_LawSpoiled.nd rfl (Or.inr rfl) (pe_c C2 hr rfl (pa_cons (pv 0) (pa_cons (pv 1) pa_nil))))
    (pss_cons (ps_set (i := 4) sc_LawSpoiled.nd rfl (Or.inl rfl) (pe_lst (pa_cons (pe_tup pa_nil) (pa_cons (pe_callTy call_list_of rfl B.list bt_list (pa_cons (pv 3) pa_nil)) (pa_cons (pe_tup (pa_cons (pe_ix ix_tup (pv 3) pe_int (fun _ _ => rfl)) (pa_cons (pe_ix ix_tup (pv 3) pe_int (fun _ _ => rfl)) pa_nil)))
      (pa_cons (pe_tup (pa_cons (pe_callB call_len_seq rfl B.len bt_len (pa_cons (pv 1) pa_nil)) pa_nil)) (pa_cons (pe_tup (pa_cons pe_bl pa_nil)) (pa_cons pe_non (pa_cons (pe_op op_catA (pv 3) (pe_tup (pa_cons (pe_un un_neg pe_int) pa_nil))) (pa_cons pe_str (pa_cons (pe_op op_catA (pv 3) (pe_tup (pa_cons pe_non pa_nil))) pa_nil)))))))))))
    (pss_cons (ps_setLc (i := 5) (own := [("_law_item", 9)]) (g := gName 9) (tt := tTest (tOp (rIn K true) (tVar 9) (tOp (rIxT K) (tVar 1) (tOp (rIxT K) (tVar 3) (tC (.int 0)))))) (te := tVar 9) (by rfl) sc_LawSpoiled.nd rfl rfl (sw_true rfl rfl rfl (by decide +kernel)) (pi_range1 rfl B.range (pa_cons (pe_ix ix_tup (pv 3) pe_int (fun _ _ => rfl)) pa_nil)) (blkOk_by (N := nLawSpoiled) (sc := defScope sLawSpoiled) (by decide +kernel))
        (fun _ _ _ _ _ => pg_name (i := 9) sc_LawSpoiled.nd rfl (Or.inl rfl)) (fun _ _ _ _ _ => pts_one (pt_cmpR op_notIn_seq (pv 9) (pe_ix ix_tup (pv 1) (pe_ix ix_tup (pv 3) pe_int (fun _ _ => rfl)) (fun _ _ => rfl)) (by rfl))) (fun _ _ _ _ _ => pv 9))
    (pss_cons (ps_if (pt_cmpR op_gt (pe_callB call_len_seq rfl B.len bt_len (pa_cons (pv 5) pa_nil)) pe_int (nomark _))
      (pss_cons (ps_expr (pe_bm PySem.F.plainAttrs_list PySem.F.slot_list_append PySem.F.type_list_append mt_append (pv 4) (pa_cons (pe_tup (pa_cons (pe_ix ix_list (pv 5) pe_int (fun _ _ => rfl)) (pa_cons (pe_ix ix_tup (pv 3) pe_int (fun _ _ => rfl)) pa_nil))) pa_nil)))
      (pss_one (ps_expr (pe_bm PySem.F.plainAttrs_list PySem.F.slot_list_append PySem.F.type_list_append mt_append (pv 4) (pa_cons (pe_op op_catA (pe_tup (pa_cons (pe_ix ix_list (pv 5) (pe_un un_neg pe_int) (fun _ _ => rfl)) pa_nil)) (pv 3)) pa_nil))))) pss_nil)
    (pss_cons (ps_set (i := 6) sc_LawSpoiled.nd rfl (Or.inl rfl) (pe_ix ix_list (pv 4) (pe_c C1 hr rfl (pa_cons (pv 0) (pa_cons (pe_callB call_len_seq rfl B.len bt_len (pa_cons (pv 4) pa_nil)) pa_nil))) (fun _ _ => rfl)))
    (pss_cons (ps_set (i := 7) sc_LawSpoiled.nd rfl (Or.inl rfl) (pe_c C1 hr rfl (pa_cons (pv 0) (pa_cons pe_int pa_nil))))
    (pss_cons (ps_if (pt_cmpR op_lt (pv 7) pe_int (nomark _)) (pss_one (ps_ret (pe_ix ix_list (pe_lst (pa_cons pe_non (pa_cons pe_str pa_nil))) (pv 7) (fun _ _ => rfl)))) pss_nil)
    (pss_cons (ps_set (i := 8) sc_LawSpoiled.nd rfl (Or.inl rfl) (pe_c C1 hr rfl (pa_cons (pv 0) (pa_cons (pe_op op_add (pe_callB call_len_seq rfl B.len bt_len (pa_cons (pv 2) pa_nil)) pe_int) pa_nil))))
    (pss_one (ps_ret (pe_op op_cat (pe_op op_cat (pe_slice sl_list (pv 2) po_none (po_some (pv 8))) (pe_lst (pa_cons (pv 6) pa_nil))) (pe_slice sl_list (pv 2) (po_some (pv 8)) po_none))))))))))), ?_⟩
  have hlen : as.length = p.length := hrw.len
  have hrsl : rs.length = cs.length := hrs.len
  refine ⟨_, rfl, _, rfl, st, a, p, rfl, hst, ⟨as, ha, hrw⟩, hP, h0, h40, fun H1 ln c k1 s1 hln hc => ?_⟩
  have hcl := chain_len hP hc
  obtain ⟨y, r, rfl⟩ : ∃ y r, c = y :: r := by
    cases c with
    | nil => exact absurd rfl hc.1
    | cons y r => exact ⟨y, r, rfl⟩
  have hat0 : atI (iv (y :: r)) 0 = some (V.int ((y : Nat) : Int)) := at_nat (j := 0) rfl
  have hy : y < p.length := hc.2.1 y (by simp)
  have ha1 := k1.tk hst _ _ ha
  have hrl1 := k1 _ _ hrlst hrl
  have hne : iv (y :: r) ≠ [] := fun z => by cases z
  -- the menu
  refine ⟨(by show 0 ≤ sizeLine; decide), fun m0 hm0 => ?_⟩
  have u0 := same_new hm0 (.tup [])
  have b0 : BadIt st p (upd H1 m0 (.tup [])) (.ref m0) := bad_tup (s1.same u0) upd_same rfl (by decide) (bad_nil p)
  generalize upd H1 m0 (.tup []) = G0 at u0 b0
  refine ⟨_, rfl, ln, _, rfl, .inr (tupT (u0 _ _ hln)), fun m1 hm1 => ?_⟩
  have v1 := same_new hm1 (.lst (iv (y :: r)))
  have u1 := u0.trans v1
  have b1 : BadIt st p (upd G0 m1 (.lst (iv (y :: r)))) (.ref m1) := ⟨none, .lst upd_same, rfl, fun b e => by
    have e2 := V.ref.inj e
    subst e2
    exact st_ne (s1.same u0) hm1⟩
  have b0 := b0.same v1
  generalize upd G0 m1 (.lst (iv (y :: r))) = G1 at u1 b0 b1
  refine ⟨_, rfl, ln, _, _, _, rfl, rfl, tupT (u1 _ _ hln), hat0, _, rfl, ln, _, _, _, rfl, rfl, tupT (u1 _ _ hln), hat0, (by show 2 ≤ sizeLine; decide), fun m2 hm2 => ?_⟩
  have v2 := same_new hm2 (.tup (iv [y, y]))
  have u2 := u1.trans v2
  have b2 : BadIt st p (upd G1 m2 (.tup (iv [y, y]))) (.ref m2) := bad_tup (s1.same u2) upd_same (flat3_iv' _) (by show 2 ≤ 1000; omega) (bad_two p y)
  have b0 := b0.same v2
  have b1 := b1.same v2
  change tCons _ _ _ (upd G1 m2 (.tup (iv [y, y]))) _
  generalize upd G1 m2 (.tup (iv [y, y])) = G2 at u2 b0 b1 b2
  refine ⟨_, rfl, a, _, rfl, .inr (tupT (u2 _ _ ha1)), (by show 1 ≤ sizeLine; decide), fun m3 hm3 => ?_⟩
  have v3 := same_new hm3 (.tup [V.int (((refs as).length : Nat) : Int)])
  have u3 := u2.trans v3
  have b3 : BadIt st p (upd G2 m3 (.tup [V.int (((refs as).length : Nat) : Int)])) (.ref m3) := by
    refine bad_tup (s1.same u3) upd_same rfl (by show 1 ≤ 1000; omega) ?_
    rw [refs_len, hlen]
    exact bad_len p
  have b0 := b0.same v3
  have b1 := b1.same v3
  have b2 := b2.same v3
  generalize upd G2 m3 (.tup [V.int (((refs as).length : Nat) : Int)]) = G3 at u3 b0 b1 b2 b3
  refine ⟨(by show 1 ≤ sizeLine; decide), fun m4 hm4 => ?_⟩
  have v4 := same_new hm4 (.tup [V.bl false])
  have u4 := u3.trans v4
  have b4 : BadIt st p (upd G3 m4 (.tup [V.bl false])) (.ref m4) := bad_tup (s1.same u4) upd_same rfl (by show 1 ≤ 1000; omega) rfl
  have b0 := b0.same v4
  have b1 := b1.same v4
  have b2 := b2.same v4
  have b3 := b3.same v4
  generalize upd G3 m4 (.tup [V.bl false]) = G4 at u4 b0 b1 b2 b3 b4
  refine ⟨_, rfl, _, rfl, (by show 1 ≤ sizeLine; decide), fun t6 ht6 => ?_⟩
  have w6 := same_new ht6 (.tup [V.int (-1)])
  refine cat_tup ((u4.trans w6) _ _ hln) upd_same hne (by simp) (by rw [iv_len]; show _ + 1 ≤ _; omega) fun m6 G6 v6 hm6 => ?_
  have v6 := w6.trans v6
  have u6 := u4.trans v6
  have b6 : BadIt st p G6 (.ref m6) := by
    refine bad_tup (s1.same u6) hm6 ?_ (by rw [List.length_append, iv_len]; show _ + 1 ≤ _; omega) (bad_end p _ _ fun n e => ?_)
    · rw [List.all_append, flat3_iv']
      rfl
    · have := V.int.inj e
      omega
  have b0 := b0.same v6
  have b1 := b1.same v6
  have b2 := b2.same v6
  have b3 := b3.same v6
  have b4 := b4.same v6
  refine ⟨_, rfl, (by show 1 ≤ sizeLine; decide), fun t8 ht8 => ?_⟩
  have w8 := same_new ht8 (.tup [V.non])
  refine cat_tup ((u6.trans w8) _ _ hln) upd_same hne (by simp) (by rw [iv_len]; show _ + 1 ≤ _; omega) fun m8 G8 v8 hm8 => ?_
  have v8 := w8.trans v8
  have u8 := u6.trans v8
  have b8 : BadIt st p G8 (.ref m8) := by
    refine bad_tup (s1.same u8) hm8 ?_ (by rw [List.length_append, iv_len]; show _ + 1 ≤ _; omega) (bad_end p _ _ fun n e => (by cases e))
    rw [List.all_append, flat3_iv']
    rfl
  have b0 := b0.same v8
  have b1 := b1.same v8
  have b2 := b2.same v8
  have b3 := b3.same v8
  have b4 := b4.same v8
  have b6 := b6.same v8
  have hbad : ∀ v, v ∈ [V.ref m0, .ref m1, .ref m2, .ref m3, .ref m4, .non, .ref m6, .str "z", .ref m8] → BadIt st p G8 v := by
    intro v hv
    simp only [List.mem_cons, List.not_mem_nil, or_false] at hv
    rcases hv with rfl | rfl | rfl | rfl | rfl | rfl | rfl | rfl | rfl
    · exact b0
    · exact b1
    · exact b2
    · exact b3
    · exact b4
    · exact ⟨none, .non, rfl, fun a e => by cases e⟩
    · exact b6
    · exact ⟨none, .str _, rfl, fun a e => by cases e⟩
    · exact b8
  have hil : ([V.ref m0, .ref m1, .ref m2, .ref m3, .ref m4, .non, .ref m6, .str "z", .ref m8] : List V).length = 9 := rfl
  refine ⟨(by show 9 ≤ sizeLine; decide), fun mn hmn => ?_⟩
  change (fun (its : List V) => tSeq _ _ _ [some (.ref st), some (.ref a), some (.ref rl), some (.ref ln), some (.ref mn), none, none, none, none, none] (upd G8 mn (.lst its))) [V.ref m0, .ref m1, .ref m2, .ref m3, .ref m4, .non, .ref m6, .str "z", .ref m8]
  generalize ([V.ref m0, .ref m1, .ref m2, .ref m3, .ref m4, .non, .ref m6, .str "z", .ref m8] : List V) = its at hbad hil
  have v9 := same_new hmn (.lst its)
  have u9 := u8.trans v9
  have hmn9 : upd G8 mn (.lst its) mn = some (.lst its) := upd_same
  have hmnst := st_ne (s1.same u8) hmn
  have hmn1 : H1 mn = none := u8.free hmn
  have hbad9 : ∀ v, v ∈ its → BadIt st p (upd G8 mn (.lst its)) v := fun v hv => (hbad v hv).same v9
  show tSeq _ _ _ [some (.ref st), some (.ref a), some (.ref rl), some (.ref ln), some (.ref mn), none, none, none, none, none] (upd G8 mn (.lst its))
  generalize upd G8 mn (.lst its) = G9 at v9 u9 hmn9 hbad9
  have ha9 := u9 _ _ ha1
  have hrw9 := hrw.tk ((k1.tk hst).trans (tk_of u9))
  have hln9 := u9 _ _ hln
  obtain ⟨d, hd, hdr⟩ := hrw9.get (seen_get hy)
  refine ⟨_, rfl, ln, _, _, _, rfl, rfl, tupT hln9, hat0, ((y : Nat) : Int), rfl, by omega, by omega, fun D hD => ?_⟩
  rw [show (((y : Nat) : Int)).toNat = y by omega]
  refine lc_acc (walk_range0 (n := y)) hD (fun j acc _ => acc = iv (apr p y j)) (fun j acc _ _ _ h => h) rfl (fun j acc H hj h => by
    rw [h, iv_len]
    have := apr_len p y j
    exact szt (by omega)) (fun _ _ => trivial) ?_ ?_
  · rintro j x G acc G' Yes No hj v rfl ⟨rfl, rfl⟩ ky kn
    refine ⟨rfl, _, rfl, _, rfl, _, rfl, ln, _, _, _, rfl, rfl, tupT (v _ _ hln9), hat0, a, _, _, _, rfl, rfl, tupT (v _ _ ha9), at_nat (refs_get hd), d, _, rfl, .inr (tupT (v _ _ hdr)), rfl, flat_iv _, _, rfl, ?_⟩
    show (if (!inV (V.int ((j : Nat) : Int)) (iv (seen p y))) = true then _ else _)
    rw [inV_iv]
    cases hin : (seen p y).contains j with
    | true =>
      refine if_f rfl (kn _ (Same.refl _) ?_)
      rw [apr_succ, if_pos hin, List.append_nil]
    | false =>
      refine if_t rfl ⟨_, rfl, ky _ _ (Same.refl _) ?_⟩
      rw [apr_succ, if_neg (by rw [hin]; decide), iv_app]
      rfl
  rintro G10 acc v10 hacc rfl
  have u10 := u9.trans v10
  have hmn10 := v10 _ _ hmn9
  have hbad10 : ∀ v, v ∈ its → BadIt st p G10 v := fun v hv => (hbad9 v hv).same v10
  have hmnD : mn ≠ D := ne_of_none hmn9 hD
  have hapl := apr_len p y y
  refine ⟨_, rfl, D, _, rfl, .inl (lstL hacc), _, _, rfl, rfl, _, rfl, ?_⟩
  refine (fun (tail : ∀ (σ : L2.St) (H5 : Hp), (∃ (z5 z9 : Option V) (items : List V), σ = [some (.ref st), some (.ref a), some (.ref rl), some (.ref ln), some (.ref mn), z5, none, none, none, z9] ∧ Same H1 H5 ∧ H5 mn = some (.lst items) ∧ 0 < items.length ∧ items.length ≤ 11 ∧ ∀ v, v ∈ items → BadIt st p H5 v) → (?R : L2.St → Hp → Prop) σ H5) => ?_) ?_
  rotate_left 1
  · by_cases hpos : ¬ ((0 : Int)) < (((iv (apr p y y)).length : Nat) : Int)
    · refine if_f (decide_eq_false hpos) ?_
      exact tail _ _ ⟨_, _, its, rfl, u10, hmn10, by omega, by omega, hbad10⟩
    · have hpos := Decidable.not_not.mp hpos
      refine if_t (decide_eq_true hpos) ?_
      obtain ⟨x, rr, hx⟩ : ∃ x rr, apr p y y = x :: rr := by
        cases e : apr p y y with
        | nil =>
          rw [e] at hpos
          exact absurd hpos (by decide)
        | cons x rr => exact ⟨x, rr, rfl⟩
      have hne5 : apr p y y ≠ [] := by rw [hx]; simp
      have hmx : (seen p y).contains x = false := mem_apr (j := y) (by rw [hx]; simp)
      have hlx : (seen p y).contains (lastN (apr p y y)) = false := mem_apr (last_mem hne5)
      have hat5 : atI (iv (apr p y y)) 0 = some (V.int ((x : Nat) : Int)) := by rw [hx]; exact at_nat (j := 0) rfl
      have hatL := iv_last hne5
      refine ⟨_, rfl, .inl ⟨rfl, _, lstL hmn10⟩, _, rfl, D, _, _, _, rfl, rfl, lstL hacc, hat5, _, rfl, ln, _, _, _, rfl, rfl, tupT (v10 _ _ hln9), hat0, (by show 2 ≤ sizeLine; decide), fun t ht => ?_⟩
      have w11 := same_new ht (.tup (iv [x, y]))
      have ht11 : upd G10 t (.tup (iv [x, y])) t = some (.tup (iv [x, y])) := upd_same
      have hmn11 := w11 _ _ hmn10
      refine ⟨mn, _, _, rfl, rfl, hmn11, szt (by omega), ?_⟩
      have k12 := tk_lst (o := .lst (its ++ [V.ref t])) hmn11
      have hD12 : upd (upd G10 t (.tup (iv [x, y]))) mn (.lst (its ++ [V.ref t])) D = some (.lst (iv (apr p y y))) := by rw [upd_ne hmnD.symm]; exact w11 _ _ hacc
      have hmn12 : upd (upd G10 t (.tup (iv [x, y]))) mn (.lst (its ++ [V.ref t])) mn = some (.lst (its ++ [V.ref t])) := upd_same
      have v12 : Same G8 (upd (upd G10 t (.tup (iv [x, y]))) mn (.lst (its ++ [V.ref t]))) := same_mut (v9.trans (v10.trans w11)) hmn
      have u12 : Same H1 (upd (upd G10 t (.tup (iv [x, y]))) mn (.lst (its ++ [V.ref t]))) := same_mut (u10.trans w11) hmn1
      have hln12 := k12 _ _ (w11 _ _ (v10 _ _ hln9))
      have ht12 := k12 _ _ ht11
      change (fun G : Hp => _) (upd (upd G10 t (.tup (iv [x, y]))) mn (.lst (its ++ [V.ref t])))
      generalize upd (upd G10 t (.tup (iv [x, y]))) mn (.lst (its ++ [V.ref t])) = G12 at hD12 hmn12 v12 u12 hln12 ht12
      refine ⟨_, rfl, .inl ⟨rfl, _, lstL hmn12⟩, _, rfl, _, rfl, D, _, _, _, rfl, rfl, lstL hD12, hatL, (by show 1 ≤ sizeLine; decide), fun t2 ht2 => ?_⟩
      have w13 := same_new ht2 (.tup [V.int ((lastN (apr p y y) : Nat) : Int)])
      refine ⟨_, rfl, cat_tup upd_same (w13 _ _ hln12) (by simp) hne (by rw [iv_len]; show 1 + _ ≤ _; omega) fun m10 G14 v14 hm10 => ?_⟩
      have v14 := w13.trans v14
      have hmn14 := v14 _ _ hmn12
      refine ⟨mn, _, _, rfl, rfl, hmn14, szt (by rw [List.length_append]; show _ + 1 ≤ _; omega), ?_⟩
      have k15 := tk_lst (o := .lst (its ++ [V.ref t] ++ [V.ref m10])) hmn14
      have v15 : Same G8 (upd G14 mn (.lst (its ++ [V.ref t] ++ [V.ref m10]))) := same_mut (v12.trans v14) hmn
      have u15 : Same H1 (upd G14 mn (.lst (its ++ [V.ref t] ++ [V.ref m10]))) := same_mut (u12.trans v14) hmn1
      have hil2 : (its ++ [V.ref t] ++ [V.ref m10]).length = 11 := by rw [List.length_append, List.length_append, hil]; rfl
      refine tail _ _ ⟨_, _, its ++ [V.ref t] ++ [V.ref m10], rfl, u15, upd_same, by omega, by omega, fun v hv => ?_⟩
      rcases List.mem_append.mp hv with hv | hv
      · rcases List.mem_append.mp hv with hv | hv
        · exact (hbad v hv).same v15
        · have e : v = .ref t := by simpa using hv
          subst e
          exact bad_tup (s1.same u15) (k15 _ _ (v14 _ _ ht12)) (flat3_iv' _) (by show 2 ≤ 1000; omega) (bad_apart p x y [] hmx)
      · have e : v = .ref m10 := by simpa using hv
        subst e
        exact bad_tup (xs := iv (lastN (apr p y y) :: y :: r)) (s1.same u15) (k15 _ _ hm10) (flat3_iv' _) (by rw [iv_len]; show _ + 1 ≤ _; omega) (bad_apart p _ y r hlx)
  · rintro σ H5 ⟨z5, z9, items, rfl, u5, hmn5, hl0, hl11, hbad⟩
    have s5 := s1.same u5
    have k5 := k1.trans (kp_of (st := st) u5)
    refine ⟨_, rfl, _, rfl, _, rfl, mn, _, rfl, .inl (lstL hmn5), st, _, rfl, s5, by omega, by omega, fun r1 H6 hr1 k6 s6 _ => ?_⟩
    have hit : items[r1]? = some items[r1] := List.getElem?_eq_getElem (by omega)
    have hbw := (hbad _ (List.mem_of_getElem? hit)).kp k6
    generalize items[r1] = worse at hit hbw
    refine ⟨mn, _, _, _, rfl, rfl, lstL (k6 _ _ hmnst hmn5), at_nat hit, ?_⟩
    refine ⟨_, rfl, st, 8, rfl, s6, by omega, by omega, fun r2 H7 hr2 k7 s7 _ => ?_⟩
    have hbw := hbw.kp k7
    have k17 := (k5.trans k6).trans k7
    refine ⟨_, rfl, _, _, rfl, rfl, _, rfl, ?_⟩
    by_cases h2 : ((r2 : Nat) : Int) < 2
    · refine if_t (decide_eq_true h2) ?_
      refine ⟨(by show 2 ≤ sizeLine; decide), fun l hl => ⟨_, rfl, ?_⟩⟩
      have t8 := same_new hl (.lst [V.non, .str "zy"])
      have hr' : r2 = 0 ∨ r2 = 1 := by omega
      rcases hr' with rfl | rfl
      · exact ⟨l, _, _, _, rfl, rfl, lstL upd_same, rfl, q _ _ (k17.trans (kp_of t8)) (s7.same t8) (fun b e => by cases e) fun _ _ _ => .non⟩
      · exact ⟨l, _, _, _, rfl, rfl, lstL upd_same, rfl, q _ _ (k17.trans (kp_of t8)) (s7.same t8) (fun b e => by cases e) fun _ _ _ => .str _⟩
    · refine if_f (decide_eq_false h2) ?_
      have hrl7 := k17 _ _ hrlst hrl
      refine ⟨_, rfl, _, rfl, rl, _, rfl, .inl (lstL hrl7), _, _, rfl, rfl, st, _, rfl, s7, by omega, by rw [refs_len]; omega, fun r3 H8 hr3 k8 s8 _ => ?_⟩
      rw [refs_len] at hr3
      have hbw := hbw.kp k8
      have k18 := k17.trans k8
      have hrl8 := k18 _ _ hrlst hrl
      have hrs8 := hrs.tk (k18.tk hst)
      refine ⟨_, rfl, _, rfl, _, rfl, rl, _, rfl, lstL hrl8, fun p1 hp1 => ?_⟩
      rw [cut_pre (by rw [refs_len]; omega)]
      have t9 := same_new hp1 (.lst ((refs rs).take r3))
      have g1 : upd H8 p1 (.lst ((refs rs).take r3)) p1 = some (.lst ((refs rs).take r3)) := upd_same
      generalize upd H8 p1 (.lst ((refs rs).take r3)) = H9 at t9 g1
      refine ⟨_, rfl, (by show 1 ≤ sizeLine; decide), fun p2 hp2 => ?_⟩
      have t10 := same_new hp2 (.lst [worse])
      have g2 : upd H9 p2 (.lst [worse]) p2 = some (.lst [worse]) := upd_same
      have g1 := t10 _ _ g1
      generalize upd H9 p2 (.lst [worse]) = H10 at t10 g1 g2
      have hlt : ((refs rs).take r3).length ≤ 100 := by rw [List.length_take, refs_len]; omega
      have hld : ((refs rs).drop r3).length ≤ 100 := by rw [List.length_drop, refs_len]; omega
      refine ⟨p1, p2, _, _, rfl, rfl, g1, g2, szl (by show _ + 1 ≤ _; omega), fun p3 hp3 => ?_⟩
      have t11 := same_new hp3 (.lst ((refs rs).take r3 ++ [worse]))
      have g3 : upd H10 p3 (.lst ((refs rs).take r3 ++ [worse])) p3 = some (.lst ((refs rs).take r3 ++ [worse])) := upd_same
      generalize upd H10 p3 (.lst ((refs rs).take r3 ++ [worse])) = H11 at t11 g3
      have t811 := t9.trans (t10.trans t11)
      refine ⟨_, rfl, _, rfl, _, rfl, rl, _, rfl, lstL (t811 _ _ hrl8), fun p4 hp4 => ?_⟩
      rw [cut_post (by rw [refs_len]; omega)]
      have t12 := same_new hp4 (.lst ((refs rs).drop r3))
      have g4 : upd H11 p4 (.lst ((refs rs).drop r3)) p4 = some (.lst ((refs rs).drop r3)) := upd_same
      have g3 := t12 _ _ g3
      generalize upd H11 p4 (.lst ((refs rs).drop r3)) = H12 at t12 g3 g4
      refine ⟨p3, p4, _, _, rfl, rfl, g3, g4, szl (by rw [List.length_append]; show _ + 1 + _ ≤ _; omega), fun p5 hp5 => ?_⟩
      have t812 := t811.trans t12
      have hp5st := st_ne (s8.same t812) hp5
      have t13 := same_new hp5 (.lst ((refs rs).take r3 ++ [worse] ++ (refs rs).drop r3))
      have g5 : upd H12 p5 (.lst ((refs rs).take r3 ++ [worse] ++ (refs rs).drop r3)) p5 = some (.lst (refs (rs.take r3) ++ worse :: refs (rs.drop r3))) := by
        rw [upd_same, List.append_assoc]
        unfold refs
        rw [List.map_take, List.map_drop]
        rfl
      have t813 := t812.trans t13
      refine q _ _ (k18.trans (kp_of t813)) (s8.same t813) (fun b e => by rw [← V.ref.inj e]; exact hp5st) fun H' kk ss => ?_
      obtain ⟨o, h1, h2, h3⟩ := (hbw.same t813).kp kk
      exact .row (.inl (kk _ _ hp5st g5)) (((hrs8.tk (tk_of t813)).tk (kk.tk (s8.same t813))).take r3) (fun c hc => hch c (List.mem_of_mem_take hc)) h1 h2
end
end Pb

/-! PbP: _law_wish. -/
namespace Pb
open PySem PySem.Spec PyProof.Rows L2

/-- what the top says of the two errors' classes -/
structure XIs (K : PySem.W.Frag) (mg : Str → Option Value) (C BE : Addr) : Prop where
  gB : mg "BetweenError" = some (.ref BE)
  exm : PySem.W.exmOne K (.ref C) (.ref BE) = some true
  xc : ExcC K C
def tIsE (K : PySem.W.Frag) (C a : Addr) (cls : Value) (d : Option Addr) (te : TA) : TE := fun σ H Q => cls = .ref C ∧ d = none ∧ te σ H fun xs H1 => rIsE K C a xs H1 Q
theorem pe_isE {X : Cx} {a C : Addr} {oe : Obj} {cls : Value} {d : Option Addr} {pn : List (Addr × Obj)} {e e2 : Expr} {te : TA} {p pos : Pos} (xc : ExcC X.K C) (hz : Zc cls d oe) (hf : ∃ vs, oe.data = .fields vs) (B : Blt X.mg) (hg : Gl X "isinstance") (ha : PA (X.suite a ((a, oe) :: pn)) [e, e2] te)
    (he : starEach (e :: [e2]) X.env = (false, eval e X.env) :: starEach [e2] X.env := by rfl) (hpl : (backTo pos (starEach [e2] X.env)).any (·.1) = false := by rfl) :
    PE (X.suite a ((a, oe) :: pn)) (.Call (.Name "isinstance" p) [e, e2] [] pos) (tIsE X.K C a cls d te) := by
  refine ⟨fun pins s σ H Q I h => ?_⟩
  obtain ⟨h1, h2, h3⟩ := h
  subst h1
  subst h2
  exact (pe_callB (X := X.suite a ((a, oe) :: pn)) (call_isE xc hz hf) hg B.isinstance bt_isinstance ha (by decide) (by decide) he hpl).run pins s σ H Q I h3
theorem bad_kd {P : List (List Nat)} {H : Hp} {x : V} (h : BadRow P H x) : ∃ t b1, Kd H x t ∧ kitB t "list" = some b1 ∧ (b1 = true → ∃ b xs, x = .ref b ∧ H b = some (.lst xs) ∧ ∀ H' u, Same H H' → H' u = some (.tup xs) → BadRow P H' (.ref u)) := by
  cases h with
  | non => exact ⟨_, false, .non, by decide +kernel, fun z => by cases z⟩
  | str y => exact ⟨_, false, .str y, by decide +kernel, fun z => by cases z⟩
  | @row b as cs bad o post hb hr hc ht hv =>
    rcases hb with hb | hb
    · exact ⟨_, true, .lst hb, by decide +kernel, fun _ => ⟨b, _, rfl, hb, fun H' u s hu => .row (.inr hu) (hr.tk (tk_of s)) hc (ht.same s) hv⟩⟩
    · exact ⟨_, false, .tup hb, by decide +kernel, fun z => by cases z⟩
theorem bad_tuple {P : List (List Nat)} {H H' : Hp} {b u : Addr} {xs : List V} (h : BadRow P H (.ref b)) (hb : H b = some (.lst xs)) (s : Same H H') (hu : H' u = some (.tup xs)) : BadRow P H' (.ref u) := by
  cases h with
  | row hb' hr hc ht hv =>
    rcases hb' with hb' | hb'
    · rw [hb] at hb'
      have e := HO.lst.inj (Option.some.inj hb')
      subst e
      exact .row (.inr hu) (hr.tk (tk_of s)) hc (ht.same s) hv
    · rw [hb] at hb'
      cases hb'
theorem tz_all : ∀ ls : List (List Nat), PyData.canLayAll0 (ls.map fun l => PyData.tuple ((zl l).map .int)) = true ∧ PyData.depthAll (ls.map fun l => PyData.tuple ((zl l).map .int)) ≤ 1 ∧ PyData.eqvAll (ls.map fun l => PyData.tuple ((zl l).map .int)) (ls.map fun l => PyData.tuple ((zl l).map .int)) = true
  | [] => by simp [PyData.canLayAll0, PyData.depthAll, PyData.eqvAll]
  | l :: ls => by
    obtain ⟨h1, h2, h3⟩ := tz_all ls
    have g1 := SeqAt.canLay_of_shaped (shaped_zl l)
    have g3 := eqv_zl l l
    rw [decide_eq_true rfl] at g3
    refine ⟨?_, ?_, ?_⟩
    · show PyData.canLayAll0 (_ :: _) = true
      rw [PyData.canLayAll0, g1, h1]
      rfl
    · show PyData.depthAll (_ :: _) ≤ 1
      have g2 : (PyData.tuple ((zl l).map .int)).depth ≤ 1 := by simp only [PyData.depth, PySem.W.depth_ints]; omega
      simp only [PyData.depthAll]
      omega
    · show PyData.eqvAll (_ :: _) (_ :: _) = true
      rw [PyData.eqvAll, g3, h3]
      rfl
def tzs (ls : List (List Nat)) : List PyData := ls.map fun l => PyData.tuple ((zl l).map .int)
theorem shaped_list (ls : List (List Nat)) : SeqAt.shaped (.list (tzs ls)) = true ∧ SeqAt.shaped (.tuple (tzs ls)) = true ∧ PyData.eqv (.list (tzs ls)) (.list (tzs ls)) = true ∧ PyData.eqv (.tuple (tzs ls)) (.tuple (tzs ls)) = true := by
  obtain ⟨h1, h2, h3⟩ := tz_all ls
  refine ⟨?_, ?_, ?_, ?_⟩
  · unfold SeqAt.shaped
    rw [Bool.and_eq_true]
    refine ⟨by simp only [PyData.canLay0]; exact h1, decide_eq_true ?_⟩
    simp only [PyData.depth]
    unfold tzs
    omega
  · unfold SeqAt.shaped
    rw [Bool.and_eq_true]
    refine ⟨by simp only [PyData.canLay0]; exact h1, decide_eq_true ?_⟩
    simp only [PyData.depth]
    unfold tzs
    omega
  · rw [PyData.eqv]
    exact h3
  · rw [PyData.eqv]
    exact h3
theorem dp_rows {K : PySem.W.Frag} {H : Hp} : ∀ {ds : List Addr} {cs : List (List Nat)}, Rws H ds cs → DpAll K H (refs ds) (tzs cs)
  | [], [], _ => .nil
  | [], _ :: _, h => by have := h.len; simp at this
  | _ :: _, [], h => by have := h.len; simp at this
  | d :: ds, c :: cs, h => .cons (dp_iv (h.rw_ 0 d c rfl rfl)) (dp_rows (ds := ds) (cs := cs) ⟨by have := h.len; simpa using this, fun i a l h1 h2 => h.rw_ (i + 1) a l (by simpa using h1) (by simpa using h2)⟩)
theorem BadRow.same {P : List (List Nat)} {H H' : Hp} {x : V} (h : BadRow P H x) (s : Same H H') : BadRow P H' x := by
  cases h with
  | non => exact .non
  | str y => exact .str y
  | row hb hr hc ht hv => exact .row (hb.same s) (hr.tk (tk_of s)) hc (ht.same s) hv
/-- the row that is passed, and its copy -/
def Two (H : Hp) (b kb : Addr) (xs : List V) : Prop := (H b = some (.lst xs) ∧ H kb = some (.lst xs)) ∨ (H b = some (.tup xs) ∧ kb = b)
theorem Two.same {H H' : Hp} {b kb : Addr} {xs : List V} (h : Two H b kb xs) (s : Same H H') : Two H' b kb xs := h.elim (fun z => .inl ⟨s _ _ z.1, s _ _ z.2⟩) fun z => .inr ⟨s _ _ z.1, z.2⟩
theorem Two.dp {K : PySem.W.Frag} {H : Hp} {b kb : Addr} {ds : List Addr} {cs : List (List Nat)} (h : Two H b kb (refs ds)) (r : Rws H ds cs) : ∃ d, Dp K H (.ref b) d ∧ Dp K H (.ref kb) d ∧ SeqAt.shaped d = true ∧ PyData.eqv d d = true := by
  obtain ⟨g1, g2, g3, g4⟩ := shaped_list cs
  rcases h with ⟨h1, h2⟩ | ⟨h1, rfl⟩
  · exact ⟨_, .lst (lstL h1) (dp_rows r), .lst (lstL h2) (dp_rows r), g1, g3⟩
  · exact ⟨_, .tup (tupT h1) (dp_rows r), .tup (tupT h1) (dp_rows r), g2, g4⟩
def spLawWish : Sp := fun vs H Q _ => ∃ (st a : Addr) (P : List (List Nat)), vs = [.ref st, .ref a] ∧ StAt H st ∧ PlanAt H a P ∧ IsPlan P ∧ 0 < P.length ∧ P.length ≤ 40 ∧ ∀ H', Kp st H H' → Q (.bl true) H'
section
variable {P : Program} {w : World} {K : PySem.W.Frag} {mg : Str → Option Value} {base : Heap} {f : Addr} {fd : FuncData}
abbrev nLawWish : List Str := ["_law_state_here", "_law_plan_here", "_law_row", "_law_good", "_law_passed", "_law_kept", "_law_told", "_law_refused", "e", "_law_due", "_law_k", "_law_line_here"]
theorem sc_LawWish : FnScope nLawWish ["_law_state_here", "_law_plan_here"] (defScope sLawWish) := ⟨rfl, rfl, rfl, by decide +kernel, rfl, by decide +kernel, by decide +kernel⟩
theorem ok_LawWish (B : Blt mg) {C BE : Addr} (T : XTxt K mg "NoChain" C) (XI : XIs K mg C BE) {f1 f2 f3 f4 f5 f6 f7 f8 : Addr} {fd1 fd2 fd3 fd4 fd5 fd6 fd7 fd8 : FuncData} (C1 : Callee P w K mg base CX0 1 "_law_draw" f1 fd1 ["_law_state_here", "_law_many"] spLawDraw) (C2 : Callee P w K mg base CX0 2 "_law_line" f2 fd2 ["_law_state_here", "_law_plan_here"] spLawLine)
    (C3 : Callee P w K mg base CX0 3 "_law_spoiled" f3 fd3 ["_law_state_here", "_law_plan_here", "_law_row"] spLawSpoiled) (C4 : Callee P w K mg base (L2.CX P w) 5 "run_with" f4 fd4 ["plan", "row"] (spRunWith C)) (C5 : Callee P w K mg base CX0 1 "_law_wished" f5 fd5 ["_law_row"] spLawWished)
    (C6 : Callee P w K mg base CX0 1 "_law_is_run" f6 fd6 ["_law_plan_here", "_law_thing"] spLawIsRun) (C7 : Callee P w K mg base CX0 5 "names" f7 fd7 ["plan", "run"] spNames) (C8 : Callee P w K mg base CX0 3 "_law_alike" f8 fd8 ["_law_told", "_law_due"] (spLawAlike 3))
    (F : Fun K "_law_wish" "_law_wish" sLawWish f fd) : FnOk P w K mg base CX0 6 f fd ["_law_state_here", "_law_plan_here"] spLawWish := by
  refine F.ok sc_LawWish (fun vs H Q E h => ?_) (fun cdv A outer s H vs Q E hr h => ?_)
  · obtain ⟨st, a, p, rfl, _⟩ := h
    rfl
  obtain ⟨st, a, p, rfl, hst, ⟨as, ha, hrw⟩, hP, h0, h40, q⟩ := h
  refine ⟨_, pss_cons (ps_setLc (i := 2) (own := [("_law_k", 10)]) (g := gName 10) (tt := tYes) (te := tCall spLawLine [] E0 (tCons (tVar 0) (tCons (tVar 1) tNil))) (by rfl) sc_LawWish.nd rfl rfl (sw_true rfl rfl rfl (by decide +kernel)) (pi_range1 rfl B.range (pa_cons (pe_c C1 hr rfl (pa_cons (pv 0) (pa_cons pe_int pa_nil))) pa_nil)) (blkOk_by (N := nLawWish) (sc := defScope sLawWish) (by decide +kernel))
        (fun _ _ _ _ _ => pg_name (i := 10) sc_LawWish.nd rfl (Or.inl rfl)) (fun _ _ _ _ _ => pts_nil) (fun _ _ _ _ _ => pe_c C2 hr rfl (pa_cons (pv 0) (pa_cons (pv 1) pa_nil))))
    (pss_cons (ps_set (i := 3) sc_LawWish.nd rfl (Or.inl rfl) (pe_cmpR op_gt (pe_c C1 hr rfl (pa_cons (pv 0) (pa_cons pe_int pa_nil))) pe_int (nomark _)))
    (pss_cons (ps_set (i := 4) sc_LawWish.nd rfl (Or.inl rfl) (pe_ifExp (pt_val (pv 3)) (pe_callTy call_list_of rfl B.list bt_list (pa_cons (pv 2) pa_nil)) (pe_c C3 hr rfl (pa_cons (pv 0) (pa_cons (pv 1) (pa_cons (pv 2) pa_nil))))))
    (pss_cons (ps_if (PW.pt (pw_and (pt_val (pe_isi B rfl (pv 4) rfl B.list bt_list)) (pw_and1 (pt_cmpR op_eq (pe_c C1 hr rfl (pa_cons (pv 0) (pa_cons pe_int pa_nil))) pe_int (nomark _))))) (pss_one (ps_set (i := 4) sc_LawWish.nd rfl (Or.inl rfl) (pe_callTy call_tuple_of rfl B.tuple bt_tuple (pa_cons (pv 4) pa_nil)))) pss_nil)
    (pss_cons (ps_set (i := 5) sc_LawWish.nd rfl (Or.inl rfl) (pe_ifExp (pt_val (pe_isi B rfl (pv 4) rfl B.list bt_list)) (pe_callTy call_list_of rfl B.list bt_list (pa_cons (pv 4) pa_nil)) (pv 4)))
    (pss_cons (ps_set (i := 6) sc_LawWish.nd rfl (Or.inl rfl) pe_non)
    (pss_cons (ps_set (i := 7) sc_LawWish.nd rfl (Or.inl rfl) pe_non)
    (pss_cons (ps_try_as (i := 8) (tb := fun W => tAsg (tCallS (spRunWith C) (WE W) (tCons (tVar 1) (tCons (tVar 4) tNil))) (gName 6)) (ts := fun a cls d => tAsg (tIsE K C a cls d (tCons (tVar 8) (tCons (tC (.ref C)) tNil))) (gName 7)) (Wout := fun _ _ _ _ => False) rfl rfl sc_LawWish.nd rfl rfl ⟨rfl, by decide, Or.inl XI.gB⟩ takes0
        (fun W pn xe tk _ => pss_one (ps_set (i := 6) sc_LawWish.nd rfl (Or.inl rfl) (by exact (pe_callS C4.ok (hr.mono (by decide)) rfl C4.gl C4.kp C4.bd (fun σ => passAt tk σ) (by exact (pa_cons (pv 1) (pa_cons (pv 4) pa_nil)))))))
        (fun a oe cls d pn hz hf => pss_one (ps_set (i := 7) sc_LawWish.nd rfl (Or.inl rfl) (by exact (pe_isE XI.xc hz hf B rfl (by exact (pa_cons (pv 8) (pa_cons (pe_glob (v := .ref C) rfl T.g rfl) pa_nil))))))))
    (pss_cons (ps_if (pt_not (pt_val (pv 3))) (pss_one (ps_ret (pe_cmpR op_isBl (pv 7) pe_bl (nomark _)))) pss_nil)
    (pss_cons (ps_if (PW.pt (pw_or (pt_cmpR op_notN (pv 7) pe_non (nomark _)) (pw_or1 (pt_cmpR (op_neD hr.units) (pv 4) (pv 5) (nomark _))))) (pss_one (ps_ret pe_bl)) pss_nil)
    (pss_cons (ps_if (pt_not (pt_val (pe_c C5 hr rfl (pa_cons (pv 2) pa_nil)))) (pss_one (ps_ret (pe_cmpR op_isN (pv 6) pe_non (nomark _)))) pss_nil)
    (pss_cons (ps_if (pt_not (pt_val (pe_c C6 hr rfl (pa_cons (pv 1) (pa_cons (pv 6) pa_nil))))) (pss_one (ps_ret pe_bl)) pss_nil)
    (pss_cons (ps_set (i := 9) sc_LawWish.nd rfl (Or.inr rfl) (pe_c C7 hr rfl (pa_cons (pv 1) (pa_cons (pv 6) pa_nil))))
    (pss_cons (ps_if (PW.pt (pw_or (pt_not (pt_val (pe_isi B rfl (pv 9) rfl B.tuple bt_tuple))) (pw_or1 (pt_cmpR op_ne (pe_callB call_len_seq rfl B.len bt_len (pa_cons (pv 9) pa_nil)) (pe_callB call_len_seq rfl B.len bt_len (pa_cons (pv 1) pa_nil)) (nomark _))))) (pss_one (ps_ret pe_bl)) pss_nil)
    (pss_one (ps_ret (pe_callB (cr_all rfl) rfl B.all bt_all (pa_cons
      (pe_lc (own := [("_law_line_here", 11)]) (g := gName 11) (tt := tYes) (te := tCall (spLawAlike 3) [] E0 (tCons (tOp (rIxT K) (tVar 9) (tOp (rIxT K) (tVar 11) (tUn (rU fun i => V.int (-i)) (tC (V.int 1))))) (tCons (tVar 11) tNil))) rfl sc_LawWish.nd (pi_list (pv 2)) (blkOk_by (N := nLawWish) (sc := defScope sLawWish) (by decide +kernel))
        (fun _ _ _ _ _ => pg_name (i := 11) sc_LawWish.nd rfl (Or.inl rfl)) (fun _ _ _ _ _ => pts_nil) (fun _ _ _ _ _ => pe_c C8 hr rfl (pa_cons (pe_ix ix_tup (pv 9) (pe_ix ix_tup (pv 11) (pe_un un_neg pe_int) (fun _ _ => rfl)) (fun _ _ => rfl)) (pa_cons (pv 11) pa_nil)))) pa_nil))))))))))))))))), ?_⟩
  have hlen : as.length = p.length := hrw.len
  refine ⟨_, rfl, st, 5, rfl, hst, by omega, by omega, fun n H1 hn k1 s1 _ => ?_⟩
  refine ⟨((n : Nat) : Int), rfl, by omega, by omega, fun D hD => ?_⟩
  rw [show (((n : Nat) : Int)).toNat = n by omega]
  have hDst := st_ne s1 hD
  have hDH := k1.free hst s1 hD
  refine lc_it (walk_range0 (n := n)) (fun i H' => Kp st H H' ∧ StAt H' st ∧ ∃ ds cs, H' D = some (.lst (refs ds)) ∧ Rws H' ds cs ∧ (∀ c, c ∈ cs → Chain p c) ∧ cs.length = i)
    ⟨k1.trans (kp_of (same_new hD _)), s1.same (same_new hD _), [], [], upd_same, .nil, (fun c hc => by cases hc), rfl⟩ (fun _ _ _ _ => trivial) ?_ ?_
  · rintro i x G G' hi ⟨k, s, ds, cs, hDG, hds, hch, hl⟩ ⟨rfl, rfl⟩
    refine ⟨rfl, _, rfl, _, rfl, st, a, p, rfl, s, ⟨as, k.tk hst _ _ ha, hrw.tk (k.tk hst)⟩, hP, h0, h40, fun H' l c k' s' hl' hc => ?_⟩
    have hDG' := k' _ _ hDst hDG
    have hdl := hds.len
    refine ⟨refs ds, hDG', szt (by rw [refs_len]; omega), ?_⟩
    have t := tk_lst (o := .lst (refs ds ++ [V.ref l])) hDG'
    refine ⟨kp_mut (k.trans k') hDH, ?_, ds ++ [l], cs ++ [c], by rw [refs_app]; exact upd_same, ((hds.tk (k'.tk s)).tk t).snoc (t _ _ hl'), fun d hd => ?_, by rw [List.length_append, hl]; rfl⟩
    · obtain ⟨x, y, z, g⟩ := s'
      exact ⟨x, y, z, by rw [upd_ne (Ne.symm hDst)]; exact g⟩
    · rcases List.mem_append.mp hd with h | h
      · exact hch d h
      · have e : d = c := by simpa using h
        subst e
        exact hc
  rintro H2 ⟨k2, s2, ds, cs, hD2, hds2, hch, hcsl⟩
  have hdl := hds2.len
  refine ⟨_, rfl, st, 5, rfl, s2, by omega, by omega, fun r H3 hr3 k3 s3 _ => ?_⟩
  have k03 := k2.trans k3
  have hD3 := k3 _ _ hDst hD2
  have hds3 := hds2.tk (k3.tk s2)
  refine ⟨_, _, rfl, rfl, ?_⟩
  by_cases hg : (0 : Int) < ((r : Nat) : Int)
  · -- a row of chains
    refine ⟨_, rfl, _, rfl, if_t (decide_eq_true hg) ?_⟩
    refine ⟨_, rfl, D, _, rfl, .inl (lstL hD3), fun pa hpa => ?_⟩
    have t4 := same_new hpa (.lst (refs ds))
    have hpa4 : upd H3 pa (.lst (refs ds)) pa = some (.lst (refs ds)) := upd_same
    have hpast := st_ne s3 hpa
    generalize upd H3 pa (.lst (refs ds)) = H4 at t4 hpa4
    have s4 := s3.same t4
    refine ⟨_, rfl, _, _, true, rfl, .lst hpa4, by decide +kernel, _, rfl, iteT ?_⟩
    refine ⟨_, rfl, st, 2, rfl, s4, by omega, by omega, fun r2 H5 hr5 k5 s5 _ => ?_⟩
    have k05 := (k03.trans (kp_of t4)).trans k5
    have hD5 := k5 _ _ hDst (t4 _ _ hD3)
    have hds5 := (hds3.tk (tk_of t4)).tk (k5.tk s4)
    have hpa5 := k5 _ _ hpast hpa4
    refine ⟨rfl, _, rfl, ?_⟩
    refine (fun (tail : ∀ (σ : L2.St) (H6 : Hp), (∃ (b : Addr) (z1 z2 : Option V), σ = [some (.ref st), some (.ref a), some (.ref D), some (.bl (decide ((0 : Int) < ((r : Nat) : Int)))), some (.ref b), none, none, none, none, none, z1, z2] ∧ Kp st H H6 ∧ H6 D = some (.lst (refs ds)) ∧ Rws H6 ds cs ∧ Lt H6 b (refs ds)) → (?R : L2.St → Hp → Prop) σ H6) => ?_) ?_
    rotate_left 1
    · by_cases hr2 : ¬ V.int ((r2 : Nat) : Int) = V.int 1
      · refine if_f (decide_eq_false hr2) ?_
        exact tail _ _ ⟨pa, _, _, rfl, k05, hD5, hds5, .inl hpa5⟩
      · refine if_t (decide_eq_true (Decidable.not_not.mp hr2)) ?_
        refine ⟨_, rfl, pa, _, rfl, .inl ⟨lstL hpa5, fun t ht => ?_⟩⟩
        have t6 := same_new ht (.tup (refs ds))
        exact tail _ _ ⟨t, _, _, rfl, k05.trans (kp_of t6), t6 _ _ hD5, hds5.tk (tk_of t6), .inr upd_same⟩
    rintro σ H6 ⟨b, z1, z2, rfl, k6, hD6, hds6, hb6⟩
    obtain ⟨t, b1, b2, hkd, hkt, hkt2, hor⟩ := lt_kd hb6
    refine ⟨_, rfl, _, _, b1, rfl, hkd, hkt, _, rfl, ?_⟩
    refine (fun (tail : ∀ (σ : L2.St) (H7 : Hp), (∃ (kb : Addr) (z1 z2 : Option V), σ = [some (.ref st), some (.ref a), some (.ref D), some (.bl (decide ((0 : Int) < ((r : Nat) : Int)))), some (.ref b), some (.ref kb), none, none, none, none, z1, z2] ∧ Kp st H H7 ∧ H7 D = some (.lst (refs ds)) ∧ Rws H7 ds cs ∧ Two H7 b kb (refs ds)) → (?R4 : L2.St → Hp → Prop) σ H7) => ?_) ?_
    rotate_left 1
    · by_cases hb1 : b1 = false
      · have hbt : H6 b = some (.tup (refs ds)) := by
          rcases hb6 with h | h
          · rw [hb1] at hkt
            cases hkd with
            | lst e => exact absurd hkt (by decide +kernel)
            | tup e => rw [e] at h; cases h
          · exact h
        refine if_f hb1 ⟨_, rfl, ?_⟩
        exact tail _ _ ⟨b, _, _, rfl, k6, hD6, hds6, .inr ⟨hbt, rfl⟩⟩
      · have hb1 : b1 = true := by simpa using hb1
        have hbl : H6 b = some (.lst (refs ds)) := by
          rcases hb6 with h | h
          · exact h
          · rw [hb1] at hkt
            cases hkd with
            | lst e => rw [e] at h; cases h
            | tup e => exact absurd hkt (by decide +kernel)
        refine if_t hb1 ⟨_, rfl, b, _, rfl, .inl (lstL hbl), fun l hl => ?_⟩
        have t7 := same_new hl (.lst (refs ds))
        exact tail _ _ ⟨l, _, _, rfl, k6.trans (kp_of t7), t7 _ _ hD6, hds6.tk (tk_of t7), .inl ⟨t7 _ _ hbl, upd_same⟩⟩
    rintro σ H7 ⟨kb, z1, z2, rfl, k7, hD7, hds7, hb7⟩
    have hlt7 : Lt H7 b (refs ds) := hb7.elim (fun z => .inl z.1) fun z => .inr z.1
    have ha7 := k7.tk hst _ _ ha
    have hrw7 := hrw.tk (k7.tk hst)
    have hch40 : ∀ c, c ∈ cs → c.length ≤ 40 := fun c hc => by have := chain_len hP (hch c hc); omega
    refine ⟨_, rfl, _, rfl, a, p, .ref b, rfl, ⟨as, ha7, hrw7⟩, hP, h40, .inr ⟨b, ds, cs, rfl, hlt7, hds7, hch, by omega, fun hw H8 s8 => ?_, fun m hw H8 td s8 htd => ?_⟩⟩
    · -- no run comes out
      refine ⟨_, rfl, _, rfl, if_f (by rw [decide_eq_true hg]; rfl) ?_⟩
      refine ⟨_, rfl, rfl, _, rfl, if_f (by decide) ?_⟩
      obtain ⟨dd, d1, d2, d3, d4⟩ := (hb7.same s8).dp (K := K) (hds7.tk (tk_of s8))
      refine ⟨_, rfl, _, rfl, dd, dd, d1, d2, d3, d3, _, rfl, if_f (by rw [d4]; rfl) ?_⟩
      refine ⟨_, rfl, D, ds, cs, rfl, s8 _ _ hD7, hds7.tk (tk_of s8), hch40, by omega, fun H9 s9 => ⟨_, rfl, ?_⟩⟩
      refine if_t (by rw [hw]; rfl) ?_
      exact ⟨_, rfl, rfl, q_of (decide_eq_true rfl) (q _ (k7.trans (kp_of (s8.trans s9))))⟩
    · refine ⟨_, rfl, _, rfl, if_f (by rw [decide_eq_true hg]; rfl) ?_⟩
      refine ⟨_, rfl, rfl, _, rfl, if_f (by decide) ?_⟩
      obtain ⟨dd, d1, d2, d3, d4⟩ := (hb7.same s8).dp (K := K) (hds7.tk (tk_of s8))
      refine ⟨_, rfl, _, rfl, dd, dd, d1, d2, d3, d3, _, rfl, if_f (by rw [d4]; rfl) ?_⟩
      refine ⟨_, rfl, D, ds, cs, rfl, s8 _ _ hD7, hds7.tk (tk_of s8), hch40, by omega, fun H9 s9 => ⟨_, rfl, ?_⟩⟩
      refine if_f (by rw [hw]; rfl) ?_
      obtain ⟨hW, hin⟩ := wish_wished hch hw
      have hrun := runFor_isRun p (knownOf m)
      have s89 := s8.trans s9
      have htd9 := s9 _ _ htd
      refine ⟨_, rfl, _, rfl, a, p, td, _, rfl, ⟨as, s89 _ _ ha7, hrw7.tk (tk_of s89)⟩, h40, htd9, hrun, fun H10 s10 => ⟨_, rfl, iteF ?_⟩⟩
      have s80 := s89.trans s10
      refine ⟨_, rfl, _, rfl, a, p, td, _, rfl, ⟨as, s80 _ _ ha7, hrw7.tk (tk_of s80)⟩, hP, h40, s10 _ _ htd9, hrun, fun H11 du ns s11 hdu hns => ?_⟩
      obtain ⟨us, hdu11, hus11⟩ := hdu
      have s81 := s80.trans s11
      have hnl : ns.length = p.length := hns.len
      have hul := hus11.len
      have e1 : V.int (((refs us).length : Nat) : Int) = V.int (((refs as).length : Nat) : Int) := by rw [refs_len, refs_len, hul, hnl, hlen]
      refine ⟨_, rfl, _, _, true, rfl, .tup hdu11, by decide +kernel, _, rfl, ?_⟩
      refine iteF ⟨_, rfl, du, _, rfl, .inr (tupT hdu11), _, rfl, a, _, rfl, .inr (tupT (s81 _ _ ha7)), rfl, _, rfl, ?_⟩
      refine if_f (by rw [decide_eq_true e1]; rfl) ?_
      have hD11 := s81 _ _ hD7
      have hds11 := hds7.tk (tk_of s81)
      refine ⟨_, rfl, D, rfl, ⟨_, lstL hD11⟩, fun L hL => ?_⟩
      refine lc_acc (walk_list (xs := refs ds)) hL (fun j acc _ => acc = (List.replicate j true).map V.bl) (fun j acc _ _ _ h => h) rfl (fun j acc H hj h => by
        rw [h, List.length_map, List.length_replicate]
        rw [refs_len] at hj
        exact szt (by omega)) (fun G s => lstL (s _ _ hD11)) ?_ ?_
      · rintro j x G acc G' Yes No hj sG rfl ⟨rfl, hx⟩ ky kn
        obtain ⟨l, hl, rfl⟩ := refs_got hx
        obtain ⟨c, hc, hcr⟩ := (hds11.tk (tk_of sG)).got hl
        have hcm := List.mem_of_getElem? hc
        have hcc := hch c hcm
        have hcl := hch40 c hcm
        have hlt := hcc.2.1 _ (last_mem hcc.1)
        have hnm : ns.getD (lastN c) [] = c := (names_wished hP hW hns (lastN c + 1) (lastN c) (Nat.lt_succ_self _) hlt).trans (hin c hcm)
        have hget : ns[lastN c]? = some c := by
          rw [getD_get (d := []) (show lastN c < ns.length by omega), hnm]
        obtain ⟨g, hg1, hg2⟩ := (hus11.tk (tk_of sG)).get hget
        refine ⟨rfl, _, rfl, _, rfl, _, rfl, l, _, _, _, rfl, rfl, tupT hcr, iv_last hcc.1, du, _, _, _, rfl, rfl, tupT (sG _ _ hdu11), at_nat (refs_get hg1), _, rfl, ?_⟩
        refine ⟨_, _, rfl, ak_row hg2 hcr (by omega) 1, fun G2 s2 => ky _ _ s2 ?_⟩
        rw [List.replicate_succ', List.map_append]
        rfl
      · rintro G acc sG hacc rfl
        refine ⟨L, _, rfl, lstL hacc, ?_⟩
        exact q_of (by simp) (q _ (k7.trans (kp_of (s81.trans sG))))
  · -- a spoiled row
    refine ⟨_, rfl, _, rfl, if_f (decide_eq_false hg) ?_⟩
    refine ⟨_, rfl, _, rfl, _, rfl, st, a, D, p, ds, cs, rfl, s3, ⟨as, k03.tk hst _ _ ha, hrw.tk (k03.tk hst)⟩, hP, h0, h40, hDst, hD3, hds3, hch, by omega, fun H4 x k4 s4 hxst hbad => ?_⟩
    have k04 := k03.trans k4
    refine (fun (tail : ∀ (σ : L2.St) (H6 : Hp), (∃ (x : V) (z1 z2 : Option V), σ = [some (.ref st), some (.ref a), some (.ref D), some (.bl (decide ((0 : Int) < ((r : Nat) : Int)))), some x, none, none, none, none, none, z1, z2] ∧ Kp st H H6 ∧ BadRow p H6 x) → (?R2 : L2.St → Hp → Prop) σ H6) => ?_) ?_
    rotate_left 1
    · have hb4 := hbad H4 (Kp.refl _ _) s4
      obtain ⟨t, b1, hkd, hkt, hls⟩ := bad_kd hb4
      refine ⟨_, rfl, _, _, b1, rfl, hkd, hkt, _, rfl, ?_⟩
      cases b1 with
      | false =>
        refine iteF (iteF ?_)
        exact tail _ _ ⟨_, _, _, rfl, k04, hb4⟩
      | true =>
        refine iteT ?_
        refine ⟨_, rfl, st, 2, rfl, s4, by omega, by omega, fun r2 H5 hr5 k5 s5 _ => ?_⟩
        refine ⟨rfl, _, rfl, ?_⟩
        have hb5 := hbad H5 k5 s5
        by_cases hr2 : ¬ V.int ((r2 : Nat) : Int) = V.int 1
        · refine if_f (decide_eq_false hr2) ?_
          exact tail _ _ ⟨_, _, _, rfl, k04.trans k5, hb5⟩
        · refine if_t (decide_eq_true (Decidable.not_not.mp hr2)) ?_
          obtain ⟨b, xs, ex, hbl, _⟩ := hls rfl
          have hbl5 := k5 _ _ (hxst b ex) hbl
          refine ⟨_, rfl, b, xs, (by rw [ex]), .inl ⟨lstL hbl5, fun u hu => ?_⟩⟩
          have t6 := same_new hu (.tup xs)
          exact tail _ _ ⟨_, _, _, rfl, (k04.trans k5).trans (kp_of t6), bad_tuple (ex ▸ hb5) hbl5 t6 upd_same⟩
    rintro σ H6 ⟨x, z1, z2, rfl, k6, hb6⟩
    obtain ⟨t, b1, hkd, hkt, hls⟩ := bad_kd hb6
    refine ⟨_, rfl, _, _, b1, rfl, hkd, hkt, _, rfl, ?_⟩
    refine (fun (tail : ∀ (σ : L2.St) (H7 : Hp), (∃ (y : V) (z1 z2 : Option V), σ = [some (.ref st), some (.ref a), some (.ref D), some (.bl (decide ((0 : Int) < ((r : Nat) : Int)))), some x, some y, none, none, none, none, z1, z2] ∧ Kp st H H7 ∧ BadRow p H7 x) → (?R3 : L2.St → Hp → Prop) σ H7) => ?_) ?_
    rotate_left 1
    · cases b1 with
      | false =>
        refine iteF ⟨_, rfl, ?_⟩
        exact tail _ _ ⟨_, _, _, rfl, k6, hb6⟩
      | true =>
        obtain ⟨b, xs, ex, hbl, _⟩ := hls rfl
        refine iteT ⟨_, rfl, b, xs, (by rw [ex]), .inl (lstL hbl), fun l hl => ?_⟩
        have t7 := same_new hl (.lst xs)
        exact tail _ _ ⟨_, _, _, rfl, k6.trans (kp_of t7), hb6.same t7⟩
    rintro σ H7 ⟨y, z1, z2, rfl, k7, hb7⟩
    refine ⟨_, rfl, _, rfl, a, p, x, rfl, ⟨as, k7.tk hst _ _ ha, hrw.tk (k7.tk hst)⟩, hP, h40, .inl ⟨hb7, fun H8 s8 => ?_⟩⟩
    refine ⟨true, XI.exm, fun _ ea hea => ?_, fun z => nomatch z⟩
    refine ⟨rfl, rfl, _, rfl, .ref C, .ref C, true, rfl, (fun u hu => hu), (by simp [PySem.W.kitOne]), ?_⟩
    refine ⟨_, rfl, _, rfl, if_t (by rw [decide_eq_false hg]; rfl) ?_⟩
    exact ⟨_, rfl, true, true, rfl, rfl, q_of (by rfl) (q _ (k7.trans (kp_of s8)))⟩
end
end Pb

/-! PbQ: law. -/
namespace Pb
open PySem PySem.Spec PyProof.Rows L2

theorem kp_same {st : Addr} {H H1 H2 : Hp} (k : Kp st H1 H2) (s : Same H H1) (h : H st = none) : Same H H2 := fun b o hb => k b o (ne_of_none hb h) (s b o hb)
theorem if_two {b : Bool} {i j : Int} {σ : L2.St} {H : Hp} {Q : VK} (h : ∀ m : Int, (m = i ∨ m = j) → Q (.int m) H) : if b = true then tC (.int i) σ H Q else tC (.int j) σ H Q := by
  cases b with
  | false => exact iteF (h j (.inr rfl))
  | true => exact iteT (h i (.inl rfl))
def spLaw (K : PySem.W.Frag) : Sp := fun vs H Q _ => ∃ (a : Addr) (ns : List Int), vs = [.ref a] ∧ SqL K H a (ns.map V.int) ∧ ns.length ≤ 63 ∧ ∀ H', Same H H' → Q (.bl true) H'
section
variable {P : Program} {w : World} {K : PySem.W.Frag} {mg : Str → Option Value} {base : Heap} {f : Addr} {fd : FuncData}
abbrev nLaw : List Str := ["_law_script", "_law_state_here", "_law_most", "_law_size", "_law_plan_here", "_law_k"]
theorem sc_Law : FnScope nLaw ["_law_script"] (defScope sLaw) := ⟨rfl, rfl, rfl, by decide +kernel, rfl, by decide +kernel, by decide +kernel⟩
theorem ok_Law (B : Blt mg) {f1 f2 f3 f4 f5 f6 : Addr} {fd1 fd2 fd3 fd4 fd5 fd6 : FuncData} (C1 : Callee P w K mg base CX0 1 "_law_state" f1 fd1 ["_law_script", "_law_k"] (spLawState K)) (C2 : Callee P w K mg base CX0 1 "_law_draw" f2 fd2 ["_law_state_here", "_law_many"] spLawDraw)
    (C3 : Callee P w K mg base CX0 2 "_law_plan" f3 fd3 ["_law_state_here", "_law_size"] spLawPlan) (C4 : Callee P w K mg base CX0 1 "_law_short" f4 fd4 ["_law_plan_here", "_law_most"] spLawShort) (C5 : Callee P w K mg base CX0 8 "_law_all_come" f5 fd5 ["_law_plan_here"] spLawAllCome)
    (C6 : Callee P w K mg base CX0 6 "_law_wish" f6 fd6 ["_law_state_here", "_law_plan_here"] spLawWish) (F : Fun K "law" "law" sLaw f fd) : FnOk P w K mg base CX0 9 f fd ["_law_script"] (spLaw K) := by
  refine F.ok sc_Law (fun vs H Q E h => ?_) (fun cdv A outer s H vs Q E hr h => ?_)
  · obtain ⟨a, ns, rfl, _⟩ := h
    rfl
  obtain ⟨a, ns, rfl, hS, h63, q⟩ := h
  refine ⟨_, pss_cons (ps_set (i := 1) sc_Law.nd rfl (Or.inl rfl) (pe_c C1 hr rfl (pa_cons (pv 0) (pa_cons pe_int pa_nil))))
    (pss_cons (ps_set (i := 2) sc_Law.nd rfl (Or.inl rfl) (pe_ifExp (pt_cmpR op_eq (pe_c C2 hr rfl (pa_cons (pv 1) (pa_cons pe_int pa_nil))) pe_int (nomark _)) pe_int pe_int))
    (pss_cons (ps_if (pt_not (pt_val (pe_c C5 hr rfl (pa_cons (pe_c C4 hr rfl (pa_cons (pe_c C3 hr rfl (pa_cons (pv 1) (pa_cons (pe_c C2 hr rfl (pa_cons (pv 1) (pa_cons pe_int pa_nil))) pa_nil))) (pa_cons (pv 2) pa_nil))) pa_nil)))) (pss_one (ps_ret pe_bl)) pss_nil)
    (pss_cons (ps_set (i := 3) sc_Law.nd rfl (Or.inl rfl) (pe_op op_add pe_int (pe_c C2 hr rfl (pa_cons (pv 1) (pa_cons pe_int pa_nil)))))
    (pss_cons (ps_if (pt_cmpR op_eq (pe_c C2 hr rfl (pa_cons (pv 1) (pa_cons pe_int pa_nil))) pe_int (nomark _)) (pss_one (ps_set (i := 3) sc_Law.nd rfl (Or.inl rfl) (pe_op op_add pe_int (pe_c C2 hr rfl (pa_cons (pv 1) (pa_cons pe_int pa_nil)))))) pss_nil)
    (pss_cons (ps_set (i := 4) sc_Law.nd rfl (Or.inl rfl) (pe_c C3 hr rfl (pa_cons (pv 1) (pa_cons (pv 3) pa_nil))))
    (pss_cons (ps_for PassesOwn.never rfl (pi_range2 rfl B.range (pa_cons pe_int (pa_cons (pe_op op_add pe_int (pe_callB (call_min2 rfl) rfl B.min bt_min (pa_cons (pe_ifExp (pt_cmpR op_lt (pv 3) pe_int (nomark _)) pe_int pe_int) (pa_cons (pe_callB (call_max2 rfl) rfl B.max bt_max (pa_cons pe_int (pa_cons (pe_op op_sub (pe_callB call_len_seq rfl B.len bt_len (pa_cons (pv 0) pa_nil)) pe_int) pa_nil))) pa_nil)))) pa_nil))) (pg_name (i := 5) sc_Law.nd rfl (Or.inl rfl))
      (pss_one (ps_if (pt_not (pt_val (pe_c C6 hr rfl (pa_cons (pe_c C1 hr rfl (pa_cons (pv 0) (pa_cons (pv 5) pa_nil))) (pa_cons (pv 4) pa_nil))))) (pss_one (ps_ret pe_bl)) pss_nil)))
    (pss_one (ps_ret pe_bl)))))))), ?_⟩
  refine ⟨_, rfl, a, ns, 0, rfl, hS, h63, by omega, by omega, fun H1 st s1 hst0 hst1 => ?_⟩
  refine ⟨_, rfl, st, 8, rfl, hst1, by omega, by omega, fun r1 H2 _ k2 s2 _ => ⟨rfl, _, rfl, ?_⟩⟩
  refine if_two fun m hm => ?_
  refine ⟨_, rfl, _, rfl, st, 7, rfl, s2, by omega, by omega, fun r3 H3 hr3 k3 s3 _ => ?_⟩
  refine ⟨st, r3, rfl, s3, by omega, fun H4 pl0 P0 k4 s4 hpl0 hP0 hPl0 => ?_⟩
  refine ⟨_, rfl, pl0, P0, m, rfl, hpl0, by omega, fun i hi => by have := seen_len hP0 hi; omega, fun H5 sh n0 s5 hsh => ?_⟩
  refine ⟨sh, P0.take n0, rfl, hsh, isPlan_take hP0 n0, by rw [List.length_take]; omega, fun H6 s6 => ⟨_, rfl, iteF ?_⟩⟩
  have k6 := ((k2.trans k3).trans k4).trans (kp_of (s5.trans s6))
  have s06 := s4.same (s5.trans s6)
  refine ⟨_, rfl, st, 9, rfl, s06, by omega, by omega, fun r4 H7 hr4 k7 s7 _ => ⟨_, _, rfl, rfl, ?_⟩⟩
  refine ⟨_, rfl, st, 4, rfl, s7, by omega, by omega, fun r5 H8 hr5 k8 s8 _ => ⟨rfl, _, rfl, ?_⟩⟩
  have k18 := (k6.trans k7).trans k8
  refine (fun (tail : ∀ (σ : L2.St) (H' : Hp), (∃ (n : Nat) (z : Option V), σ = [some (.ref a), some (.ref st), some (.int m), some (.int ((n : Nat) : Int)), none, z] ∧ 1 ≤ n ∧ n ≤ 40 ∧ Kp st H1 H' ∧ StAt H' st) → (?R2 : L2.St → Hp → Prop) σ H') => ?_) ?_
  rotate_left 1
  · by_cases hz : ¬ V.int ((r5 : Nat) : Int) = V.int 0
    · refine if_f (decide_eq_false hz) ?_
      exact tail _ _ ⟨1 + r4, _, rfl, by omega, by omega, k18, s8⟩
    · refine if_t (decide_eq_true (Decidable.not_not.mp hz)) ?_
      refine ⟨_, rfl, st, 40, rfl, s8, by omega, by omega, fun r6 H9 hr6 k9 s9 _ => ⟨_, _, rfl, rfl, ?_⟩⟩
      exact tail _ _ ⟨1 + r6, _, rfl, by omega, by omega, k18.trans k9, s9⟩
  rintro σ H9 ⟨n, z, rfl, hn1, hn40, k9, s9⟩
  refine ⟨_, rfl, _, rfl, st, n, rfl, s9, hn40, fun H10 pl P1 k10 s10 hpl hP hPl => ?_⟩
  have sm := kp_same (k9.trans k10) s1 hst0
  refine ⟨_, rfl, _, _, rfl, rfl, _, rfl, ?_⟩
  refine if_two fun m1 hm1 => ?_
  have hS10 := sm.seq hS
  refine ⟨_, rfl, a, _, rfl, .inl hS10, _, _, rfl, rfl, 2, _, rfl, ?_⟩
  have hmx : 2 ≤ (if (((ns.map V.int).length : Nat) : Int) - 1 > 2 then (((ns.map V.int).length : Nat) : Int) - 1 else 2) := by split <;> omega
  generalize (if (((ns.map V.int).length : Nat) : Int) - 1 > 2 then (((ns.map V.int).length : Nat) : Int) - 1 else 2) = mx at hmx
  refine ⟨m1, mx, rfl, ?_⟩
  have hmn : 2 ≤ (if mx < m1 then mx else m1) ∧ (if mx < m1 then mx else m1) ≤ 12 := by split <;> omega
  generalize (if mx < m1 then mx else m1) = mm at hmn
  refine ⟨_, _, rfl, rfl, 1, 1 + mm, rfl, ⟨by omega, by omega, by omega, by omega⟩, ?_⟩
  refine for_range (fun j σ' H' => ∃ z : Option V, σ' = [some (.ref a), some (.ref st), some (.int m), some (.int ((n : Nat) : Int)), some (.ref pl), z] ∧ Same H10 H') ⟨_, rfl, Same.refl _⟩ ?_ ?_
  · rintro j σ' H11 hj ⟨z', rfl, s11⟩
    have hj12 : j < 12 := by omega
    refine ⟨_, rfl, _, rfl, a, ns, 1 + ((j : Nat) : Int), rfl, s11.seq hS10, h63, by omega, by omega, fun H12 st' s12 hn12 hst12 => ?_⟩
    refine ⟨_, rfl, st', pl, P1, rfl, hst12, hpl.same (s11.trans s12), hP, by omega, by omega, fun H13 k13 => ⟨_, rfl, iteF ?_⟩⟩
    exact ⟨_, rfl, s11.trans (kp_same k13 s12 hn12)⟩
  · rintro σ' H11 ⟨z', rfl, s11⟩
    exact q _ (sm.trans s11)
end
end Pb

/-! PbEnd: what the program's top has written, the walk, the theorem. -/
namespace Pb
open PySem PySem.Spec PyProof.Rows L2

theorem all_mk {l : PySem.W.OpenLaw} {w : World} {K : PySem.W.Frag} {h : Heap} {mg : Str → Option Value} {fa C BE f8 f9 f10 f11 f12 f13 f14 f16 f17 f18 f19 f22 f23 f24 f25 f27 f28 f30 f31 f32 f33 f34 f36 f37 f38 f39 f40 f41 f42 f43 f44 f45 f46 f47 f48 f49 f50 f51 : Addr} {tI tL : Tok} (X : K.In h) (G : h.Ns mainGlobals mg) (hfa : mg "law" = some (.ref fa))
    {od8 an8 od9 an9 od10 an10 od11 an11 od12 an12 od13 an13 od14 an14 od16 an16 od17 an17 od18 an18 od19 an19 od22 an22 od23 an23 od24 an24 od25 an25 od27 an27 od28 an28 od30 an30 od31 an31 od32 an32 od33 an33 od34 an34 od36 an36 od37 an37 od38 an38 od39 an39 od40 an40 od41 an41 od42 an42 od43 an43 od44 an44 od45 an45 od46 an46 od47 an47 od48 an48 od49 an49 od50 an50 od51 an51 : Option Addr} {sl8 sl9 sl10 sl11 sl12 sl13 sl14 sl16 sl17 sl18 sl19 sl22 sl23 sl24 sl25 sl27 sl28 sl30 sl31 sl32 sl33 sl34 sl36 sl37 sl38 sl39 sl40 sl41 sl42 sl43 sl44 sl45 sl46 sl47 sl48 sl49 sl50 sl51 : Array (Option Value)} {oc8 kV8 dc8 pm8 cd8 ct8 oc9 kV9 dc9 pm9 cd9 ct9 oc10 kV10 dc10 pm10 cd10 ct10 oc11 kV11 dc11 pm11 cd11 ct11 oc12 kV12 dc12 pm12 cd12 ct12 oc13 kV13 dc13 pm13 cd13 ct13 oc14 kV14 dc14 pm14 cd14 ct14 oc16 kV16 dc16 pm16 cd16 ct16 oc17 kV17 dc17 pm17 cd17 ct17 oc18 kV18 dc18 pm18 cd18 ct18 oc19 kV19 dc19 pm19 cd19 ct19 oc22 kV22 dc22 pm22 cd22 ct22 oc23 kV23 dc23 pm23 cd23 ct23 oc24 kV24 dc24 pm24 cd24 ct24 oc25 kV25 dc25 pm25 cd25 ct25 oc27 kV27 dc27 pm27 cd27 ct27 oc28 kV28 dc28 pm28 cd28 ct28 oc30 kV30 dc30 pm30 cd30 ct30 oc31 kV31 dc31 pm31 cd31 ct31 oc32 kV32 dc32 pm32 cd32 ct32 oc33 kV33 dc33 pm33 cd33 ct33 oc34 kV34 dc34 pm34 cd34 ct34 oc36 kV36 dc36 pm36 cd36 ct36 oc37 kV37 dc37 pm37 cd37 ct37 oc38 kV38 dc38 pm38 cd38 ct38 oc39 kV39 dc39 pm39 cd39 ct39 oc40 kV40 dc40 pm40 cd40 ct40 oc41 kV41 dc41 pm41 cd41 ct41 oc42 kV42 dc42 pm42 cd42 ct42 oc43 kV43 dc43 pm43 cd43 ct43 oc44 kV44 dc44 pm44 cd44 ct44 oc45 kV45 dc45 pm45 cd45 ct45 oc46 kV46 dc46 pm46 cd46 ct46 oc47 kV47 dc47 pm47 cd47 ct47 oc48 kV48 dc48 pm48 cd48 ct48 oc49 kV49 dc49 pm49 cd49 ct49 oc50 kV50 dc50 pm50 cd50 ct50 oc51 kV51 dc51 pm51 cd51 ct51 : Value}
    (a8 : PySem.W.nsIn K mainGlobals "is_integer" = some (some (.ref f8))) (l8 : K.lookup f8 = some ⟨oc8, od8, .func (PySem.W.fnOf "is_integer" "is_integer" (defArgs sIsInteger) (defBody sIsInteger) (defScope sIsInteger) .none kV8 dc8 pm8 an8 cd8 ct8), sl8⟩) (c8 : PySem.W.codeIn K cd8 "is_integer" = true) (k8 : PySem.W.keepIn K (.ref f8) = true)
    (a9 : PySem.W.nsIn K mainGlobals "is_within" = some (some (.ref f9))) (l9 : K.lookup f9 = some ⟨oc9, od9, .func (PySem.W.fnOf "is_within" "is_within" (defArgs sIsWithin) (defBody sIsWithin) (defScope sIsWithin) .none kV9 dc9 pm9 an9 cd9 ct9), sl9⟩) (c9 : PySem.W.codeIn K cd9 "is_within" = true) (k9 : PySem.W.keepIn K (.ref f9) = true)
    (a10 : PySem.W.nsIn K mainGlobals "is_listed" = some (some (.ref f10))) (l10 : K.lookup f10 = some ⟨oc10, od10, .func (PySem.W.fnOf "is_listed" "is_listed" (defArgs sIsListed) (defBody sIsListed) (defScope sIsListed) .none kV10 dc10 pm10 an10 cd10 ct10), sl10⟩) (c10 : PySem.W.codeIn K cd10 "is_listed" = true) (k10 : PySem.W.keepIn K (.ref f10) = true)
    (a11 : PySem.W.nsIn K mainGlobals "are_items" = some (some (.ref f11))) (l11 : K.lookup f11 = some ⟨oc11, od11, .func (PySem.W.fnOf "are_items" "are_items" (defArgs sAreItems) (defBody sAreItems) (defScope sAreItems) .none kV11 dc11 pm11 an11 cd11 ct11), sl11⟩) (c11 : PySem.W.codeIn K cd11 "are_items" = true) (k11 : PySem.W.keepIn K (.ref f11) = true)
    (a12 : PySem.W.nsIn K mainGlobals "is_sound" = some (some (.ref f12))) (l12 : K.lookup f12 = some ⟨oc12, od12, .func (PySem.W.fnOf "is_sound" "is_sound" (defArgs sIsSound) (defBody sIsSound) (defScope sIsSound) .none kV12 dc12 pm12 an12 cd12 ct12), sl12⟩) (c12 : PySem.W.codeIn K cd12 "is_sound" = true) (k12 : PySem.W.keepIn K (.ref f12) = true)
    (a13 : PySem.W.nsIn K mainGlobals "check_plan" = some (some (.ref f13))) (l13 : K.lookup f13 = some ⟨oc13, od13, .func (PySem.W.fnOf "check_plan" "check_plan" (defArgs sCheckPlan) (defBody sCheckPlan) (defScope sCheckPlan) .none kV13 dc13 pm13 an13 cd13 ct13), sl13⟩) (c13 : PySem.W.codeIn K cd13 "check_plan" = true) (k13 : PySem.W.keepIn K (.ref f13) = true)
    (a14 : PySem.W.nsIn K mainGlobals "check_most" = some (some (.ref f14))) (l14 : K.lookup f14 = some ⟨oc14, od14, .func (PySem.W.fnOf "check_most" "check_most" (defArgs sCheckMost) (defBody sCheckMost) (defScope sCheckMost) .none kV14 dc14 pm14 an14 cd14 ct14), sl14⟩) (c14 : PySem.W.codeIn K cd14 "check_most" = true) (k14 : PySem.W.keepIn K (.ref f14) = true)
    (a16 : PySem.W.nsIn K mainGlobals "is_chain_of" = some (some (.ref f16))) (l16 : K.lookup f16 = some ⟨oc16, od16, .func (PySem.W.fnOf "is_chain_of" "is_chain_of" (defArgs sIsChainOf) (defBody sIsChainOf) (defScope sIsChainOf) .none kV16 dc16 pm16 an16 cd16 ct16), sl16⟩) (c16 : PySem.W.codeIn K cd16 "is_chain_of" = true) (k16 : PySem.W.keepIn K (.ref f16) = true)
    (a17 : PySem.W.nsIn K mainGlobals "check_chain" = some (some (.ref f17))) (l17 : K.lookup f17 = some ⟨oc17, od17, .func (PySem.W.fnOf "check_chain" "check_chain" (defArgs sCheckChain) (defBody sCheckChain) (defScope sCheckChain) .none kV17 dc17 pm17 an17 cd17 ct17), sl17⟩) (c17 : PySem.W.codeIn K cd17 "check_chain" = true) (k17 : PySem.W.keepIn K (.ref f17) = true)
    (a18 : PySem.W.nsIn K mainGlobals "ending_of" = some (some (.ref f18))) (l18 : K.lookup f18 = some ⟨oc18, od18, .func (PySem.W.fnOf "ending_of" "ending_of" (defArgs sEndingOf) (defBody sEndingOf) (defScope sEndingOf) .none kV18 dc18 pm18 an18 cd18 ct18), sl18⟩) (c18 : PySem.W.codeIn K cd18 "ending_of" = true) (k18 : PySem.W.keepIn K (.ref f18) = true)
    (a19 : PySem.W.nsIn K mainGlobals "many_chains" = some (some (.ref f19))) (l19 : K.lookup f19 = some ⟨oc19, od19, .func (PySem.W.fnOf "many_chains" "many_chains" (defArgs sManyChains) (defBody sManyChains) (defScope sManyChains) .none kV19 dc19 pm19 an19 cd19 ct19), sl19⟩) (c19 : PySem.W.codeIn K cd19 "many_chains" = true) (k19 : PySem.W.keepIn K (.ref f19) = true)
    (a22 : PySem.W.nsIn K mainGlobals "chain_key" = some (some (.ref f22))) (l22 : K.lookup f22 = some ⟨oc22, od22, .func (PySem.W.fnOf "chain_key" "chain_key" (defArgs sChainKey) (defBody sChainKey) (defScope sChainKey) .none kV22 dc22 pm22 an22 cd22 ct22), sl22⟩) (c22 : PySem.W.codeIn K cd22 "chain_key" = true) (k22 : PySem.W.keepIn K (.ref f22) = true)
    (a23 : PySem.W.nsIn K mainGlobals "later_items" = some (some (.ref f23))) (l23 : K.lookup f23 = some ⟨oc23, od23, .func (PySem.W.fnOf "later_items" "later_items" (defArgs sLaterItems) (defBody sLaterItems) (defScope sLaterItems) .none kV23 dc23 pm23 an23 cd23 ct23), sl23⟩) (c23 : PySem.W.codeIn K cd23 "later_items" = true) (k23 : PySem.W.keepIn K (.ref f23) = true)
    (a24 : PySem.W.nsIn K mainGlobals "listed_chains" = some (some (.ref f24))) (l24 : K.lookup f24 = some ⟨oc24, od24, .func (PySem.W.fnOf "listed_chains" "listed_chains" (defArgs sListedChains) (defBody sListedChains) (defScope sListedChains) .none kV24 dc24 pm24 an24 cd24 ct24), sl24⟩) (c24 : PySem.W.codeIn K cd24 "listed_chains" = true) (k24 : PySem.W.keepIn K (.ref f24) = true)
    (a25 : PySem.W.nsIn K mainGlobals "all_chains" = some (some (.ref f25))) (l25 : K.lookup f25 = some ⟨oc25, od25, .func (PySem.W.fnOf "all_chains" "all_chains" (defArgs sAllChains') (defBody sAllChains') (defScope sAllChains') .none kV25 dc25 pm25 an25 cd25 ct25), sl25⟩) (c25 : PySem.W.codeIn K cd25 "all_chains" = true) (k25 : PySem.W.keepIn K (.ref f25) = true)
    (a27 : PySem.W.nsIn K mainGlobals "is_run" = some (some (.ref f27))) (l27 : K.lookup f27 = some ⟨oc27, od27, .func (PySem.W.fnOf "is_run" "is_run" (defArgs sIsRun) (defBody sIsRun) (defScope sIsRun) .none kV27 dc27 pm27 an27 cd27 ct27), sl27⟩) (c27 : PySem.W.codeIn K cd27 "is_run" = true) (k27 : PySem.W.keepIn K (.ref f27) = true)
    (a28 : PySem.W.nsIn K mainGlobals "check_run" = some (some (.ref f28))) (l28 : K.lookup f28 = some ⟨oc28, od28, .func (PySem.W.fnOf "check_run" "check_run" (defArgs sCheckRun) (defBody sCheckRun) (defScope sCheckRun) .none kV28 dc28 pm28 an28 cd28 ct28), sl28⟩) (c28 : PySem.W.codeIn K cd28 "check_run" = true) (k28 : PySem.W.keepIn K (.ref f28) = true)
    (a30 : PySem.W.nsIn K mainGlobals "in_order" = some (some (.ref f30))) (l30 : K.lookup f30 = some ⟨oc30, od30, .func (PySem.W.fnOf "in_order" "in_order" (defArgs sInOrder) (defBody sInOrder) (defScope sInOrder) .none kV30 dc30 pm30 an30 cd30 ct30), sl30⟩) (c30 : PySem.W.codeIn K cd30 "in_order" = true) (k30 : PySem.W.keepIn K (.ref f30) = true)
    (a31 : PySem.W.nsIn K mainGlobals "plain_names" = some (some (.ref f31))) (l31 : K.lookup f31 = some ⟨oc31, od31, .func (PySem.W.fnOf "plain_names" "plain_names" (defArgs sPlainNames) (defBody sPlainNames) (defScope sPlainNames) .none kV31 dc31 pm31 an31 cd31 ct31), sl31⟩) (c31 : PySem.W.codeIn K cd31 "plain_names" = true) (k31 : PySem.W.keepIn K (.ref f31) = true)
    (a32 : PySem.W.nsIn K mainGlobals "names" = some (some (.ref f32))) (l32 : K.lookup f32 = some ⟨oc32, od32, .func (PySem.W.fnOf "names" "names" (defArgs sNames) (defBody sNames) (defScope sNames) .none kV32 dc32 pm32 an32 cd32 ct32), sl32⟩) (c32 : PySem.W.codeIn K cd32 "names" = true) (k32 : PySem.W.keepIn K (.ref f32) = true)
    (a33 : PySem.W.nsIn K mainGlobals "wished_names" = some (some (.ref f33))) (l33 : K.lookup f33 = some ⟨oc33, od33, .func (PySem.W.fnOf "wished_names" "wished_names" (defArgs sWishedNames) (defBody sWishedNames) (defScope sWishedNames) .none kV33 dc33 pm33 an33 cd33 ct33), sl33⟩) (c33 : PySem.W.codeIn K cd33 "wished_names" = true) (k33 : PySem.W.keepIn K (.ref f33) = true)
    (a34 : PySem.W.nsIn K mainGlobals "run_with" = some (some (.ref f34))) (l34 : K.lookup f34 = some ⟨oc34, od34, .func (PySem.W.fnOf "run_with" "run_with" (defArgs sRunWith) (defBody sRunWith) (defScope sRunWith) .none kV34 dc34 pm34 an34 cd34 ct34), sl34⟩) (c34 : PySem.W.codeIn K cd34 "run_with" = true) (k34 : PySem.W.keepIn K (.ref f34) = true)
    (a36 : PySem.W.nsIn K mainGlobals "_law_state" = some (some (.ref f36))) (l36 : K.lookup f36 = some ⟨oc36, od36, .func (PySem.W.fnOf "_law_state" "_law_state" (defArgs sLawState) (defBody sLawState) (defScope sLawState) .none kV36 dc36 pm36 an36 cd36 ct36), sl36⟩) (c36 : PySem.W.codeIn K cd36 "_law_state" = true) (k36 : PySem.W.keepIn K (.ref f36) = true)
    (a37 : PySem.W.nsIn K mainGlobals "_law_draw" = some (some (.ref f37))) (l37 : K.lookup f37 = some ⟨oc37, od37, .func (PySem.W.fnOf "_law_draw" "_law_draw" (defArgs sLawDraw) (defBody sLawDraw) (defScope sLawDraw) .none kV37 dc37 pm37 an37 cd37 ct37), sl37⟩) (c37 : PySem.W.codeIn K cd37 "_law_draw" = true) (k37 : PySem.W.keepIn K (.ref f37) = true)
    (a38 : PySem.W.nsIn K mainGlobals "_law_plan" = some (some (.ref f38))) (l38 : K.lookup f38 = some ⟨oc38, od38, .func (PySem.W.fnOf "_law_plan" "_law_plan" (defArgs sLawPlan) (defBody sLawPlan) (defScope sLawPlan) .none kV38 dc38 pm38 an38 cd38 ct38), sl38⟩) (c38 : PySem.W.codeIn K cd38 "_law_plan" = true) (k38 : PySem.W.keepIn K (.ref f38) = true)
    (a39 : PySem.W.nsIn K mainGlobals "_law_runs" = some (some (.ref f39))) (l39 : K.lookup f39 = some ⟨oc39, od39, .func (PySem.W.fnOf "_law_runs" "_law_runs" (defArgs sLawRuns) (defBody sLawRuns) (defScope sLawRuns) .none kV39 dc39 pm39 an39 cd39 ct39), sl39⟩) (c39 : PySem.W.codeIn K cd39 "_law_runs" = true) (k39 : PySem.W.keepIn K (.ref f39) = true)
    (a40 : PySem.W.nsIn K mainGlobals "_law_chains" = some (some (.ref f40))) (l40 : K.lookup f40 = some ⟨oc40, od40, .func (PySem.W.fnOf "_law_chains" "_law_chains" (defArgs sLawChains) (defBody sLawChains) (defScope sLawChains) .none kV40 dc40 pm40 an40 cd40 ct40), sl40⟩) (c40 : PySem.W.codeIn K cd40 "_law_chains" = true) (k40 : PySem.W.keepIn K (.ref f40) = true)
    (a41 : PySem.W.nsIn K mainGlobals "_law_from" = some (some (.ref f41))) (l41 : K.lookup f41 = some ⟨oc41, od41, .func (PySem.W.fnOf "_law_from" "_law_from" (defArgs sLawFrom) (defBody sLawFrom) (defScope sLawFrom) .none kV41 dc41 pm41 an41 cd41 ct41), sl41⟩) (c41 : PySem.W.codeIn K cd41 "_law_from" = true) (k41 : PySem.W.keepIn K (.ref f41) = true)
    (a42 : PySem.W.nsIn K mainGlobals "_law_alike" = some (some (.ref f42))) (l42 : K.lookup f42 = some ⟨oc42, od42, .func (PySem.W.fnOf "_law_alike" "_law_alike" (defArgs sLawAlike) (defBody sLawAlike) (defScope sLawAlike) .none kV42 dc42 pm42 an42 cd42 ct42), sl42⟩) (c42 : PySem.W.codeIn K cd42 "_law_alike" = true) (k42 : PySem.W.keepIn K (.ref f42) = true)
    (a43 : PySem.W.nsIn K mainGlobals "_law_short" = some (some (.ref f43))) (l43 : K.lookup f43 = some ⟨oc43, od43, .func (PySem.W.fnOf "_law_short" "_law_short" (defArgs sLawShort) (defBody sLawShort) (defScope sLawShort) .none kV43 dc43 pm43 an43 cd43 ct43), sl43⟩) (c43 : PySem.W.codeIn K cd43 "_law_short" = true) (k43 : PySem.W.keepIn K (.ref f43) = true)
    (a44 : PySem.W.nsIn K mainGlobals "_law_is_line" = some (some (.ref f44))) (l44 : K.lookup f44 = some ⟨oc44, od44, .func (PySem.W.fnOf "_law_is_line" "_law_is_line" (defArgs sLawIsLine) (defBody sLawIsLine) (defScope sLawIsLine) .none kV44 dc44 pm44 an44 cd44 ct44), sl44⟩) (c44 : PySem.W.codeIn K cd44 "_law_is_line" = true) (k44 : PySem.W.keepIn K (.ref f44) = true)
    (a45 : PySem.W.nsIn K mainGlobals "_law_all_come" = some (some (.ref f45))) (l45 : K.lookup f45 = some ⟨oc45, od45, .func (PySem.W.fnOf "_law_all_come" "_law_all_come" (defArgs sLawAllCome) (defBody sLawAllCome) (defScope sLawAllCome) .none kV45 dc45 pm45 an45 cd45 ct45), sl45⟩) (c45 : PySem.W.codeIn K cd45 "_law_all_come" = true) (k45 : PySem.W.keepIn K (.ref f45) = true)
    (a46 : PySem.W.nsIn K mainGlobals "_law_line" = some (some (.ref f46))) (l46 : K.lookup f46 = some ⟨oc46, od46, .func (PySem.W.fnOf "_law_line" "_law_line" (defArgs sLawLine) (defBody sLawLine) (defScope sLawLine) .none kV46 dc46 pm46 an46 cd46 ct46), sl46⟩) (c46 : PySem.W.codeIn K cd46 "_law_line" = true) (k46 : PySem.W.keepIn K (.ref f46) = true)
    (a47 : PySem.W.nsIn K mainGlobals "_law_wished" = some (some (.ref f47))) (l47 : K.lookup f47 = some ⟨oc47, od47, .func (PySem.W.fnOf "_law_wished" "_law_wished" (defArgs sLawWished) (defBody sLawWished) (defScope sLawWished) .none kV47 dc47 pm47 an47 cd47 ct47), sl47⟩) (c47 : PySem.W.codeIn K cd47 "_law_wished" = true) (k47 : PySem.W.keepIn K (.ref f47) = true)
    (a48 : PySem.W.nsIn K mainGlobals "_law_spoiled" = some (some (.ref f48))) (l48 : K.lookup f48 = some ⟨oc48, od48, .func (PySem.W.fnOf "_law_spoiled" "_law_spoiled" (defArgs sLawSpoiled) (defBody sLawSpoiled) (defScope sLawSpoiled) .none kV48 dc48 pm48 an48 cd48 ct48), sl48⟩) (c48 : PySem.W.codeIn K cd48 "_law_spoiled" = true) (k48 : PySem.W.keepIn K (.ref f48) = true)
    (a49 : PySem.W.nsIn K mainGlobals "_law_is_run" = some (some (.ref f49))) (l49 : K.lookup f49 = some ⟨oc49, od49, .func (PySem.W.fnOf "_law_is_run" "_law_is_run" (defArgs sLawIsRun) (defBody sLawIsRun) (defScope sLawIsRun) .none kV49 dc49 pm49 an49 cd49 ct49), sl49⟩) (c49 : PySem.W.codeIn K cd49 "_law_is_run" = true) (k49 : PySem.W.keepIn K (.ref f49) = true)
    (a50 : PySem.W.nsIn K mainGlobals "_law_wish" = some (some (.ref f50))) (l50 : K.lookup f50 = some ⟨oc50, od50, .func (PySem.W.fnOf "_law_wish" "_law_wish" (defArgs sLawWish) (defBody sLawWish) (defScope sLawWish) .none kV50 dc50 pm50 an50 cd50 ct50), sl50⟩) (c50 : PySem.W.codeIn K cd50 "_law_wish" = true) (k50 : PySem.W.keepIn K (.ref f50) = true)
    (a51 : PySem.W.nsIn K mainGlobals "law" = some (some (.ref f51))) (l51 : K.lookup f51 = some ⟨oc51, od51, .func (PySem.W.fnOf "law" "law" (defArgs sLaw) (defBody sLaw) (defScope sLaw) .none kV51 dc51 pm51 an51 cd51 ct51), sl51⟩) (c51 : PySem.W.codeIn K cd51 "law" = true) (k51 : PySem.W.keepIn K (.ref f51) = true)
    (z_isinstance : PySem.W.nsIn K mainGlobals "isinstance" = some none)
    (z_int : PySem.W.nsIn K mainGlobals "int" = some none)
    (z_bool : PySem.W.nsIn K mainGlobals "bool" = some none)
    (z_str : PySem.W.nsIn K mainGlobals "str" = some none)
    (z_list : PySem.W.nsIn K mainGlobals "list" = some none)
    (z_tuple : PySem.W.nsIn K mainGlobals "tuple" = some none)
    (z_dict : PySem.W.nsIn K mainGlobals "dict" = some none)
    (z_len : PySem.W.nsIn K mainGlobals "len" = some none)
    (z_all : PySem.W.nsIn K mainGlobals "all" = some none)
    (z_sum : PySem.W.nsIn K mainGlobals "sum" = some none)
    (z_sorted : PySem.W.nsIn K mainGlobals "sorted" = some none)
    (z_range : PySem.W.nsIn K mainGlobals "range" = some none)
    (z_enumerate : PySem.W.nsIn K mainGlobals "enumerate" = some none)
    (z_zip : PySem.W.nsIn K mainGlobals "zip" = some none)
    (z_min : PySem.W.nsIn K mainGlobals "min" = some none)
    (z_max : PySem.W.nsIn K mainGlobals "max" = some none)
    (aI : PySem.W.nsIn K mainGlobals "MOST_ITEMS" = some (some (.int 40 tI))) (aL : PySem.W.nsIn K mainGlobals "MOST_LISTED" = some (some (.int 5000 tL)))
    (xN : PySem.W.nsIn K mainGlobals "NoChain" = some (some (.ref C)))
    (xB : PySem.W.nsIn K mainGlobals "BetweenError" = some (some (.ref BE)))
    (xE : PySem.W.excIn K C [.type "ValueError", .type "Exception", .type "BaseException", .type "object"] "ValueError.__new__" = true)
    (xk : PySem.W.keepIn K (.ref C) = true)
    (xb : PySem.W.subIn K (.ref C) (.type "BaseException") = some true)
    (xt : PySem.W.typeIn K (.ref C) = some (.type "type"))
    (yb : PySem.W.subIn K (.ref BE) (.type "BaseException") = some true)
    (yd : PySem.W.hasDictIn K BE = true)
    (yt : PySem.W.typeIn K (.ref BE) = some (.type "type"))
    (ys : PySem.W.subIn K (.ref C) (.ref BE) = some true)
    (ug : PySem.W.findIn K (.ref C) "__getattribute__" = some (some (.builtin "BaseException.__getattribute__")))
    (uk : PySem.W.findIn K (.ref C) "__getattr__" = some none)
    (ud : PySem.W.hasDictIn K C = true)
    (ua : PySem.W.findIn K (.ref C) "__class__" = some (some (.builtin "object.__class__")))
    (un : PySem.W.specialIn K (.builtin "object.__class__") "__get__" = some (some (.builtin "getset_descriptor.__get__")))
    (ut : PySem.W.takesIn K (.builtin "object.__class__") = some true)
    (um : PySem.W.mroIn K C (.type "object") = some true)
    : ∃ fd : FuncData, (∀ (s : Shared) (v : Value), BindsTo s fd ⟨[v], []⟩ [("_law_script", v)]) ∧ ∀ base : Heap, K.In base → base.Ns mainGlobals mg → FnOk l.prog w K mg base CX0 9 fa fd ["_law_script"] (spLaw K) := by
  have e := hfa.symm.trans (PySem.W.mg_of X G a51)
  cases e
  have B : Blt mg := ⟨PySem.W.mg_none_of X G z_isinstance, PySem.W.mg_none_of X G z_int, PySem.W.mg_none_of X G z_bool, PySem.W.mg_none_of X G z_str, PySem.W.mg_none_of X G z_list, PySem.W.mg_none_of X G z_tuple, PySem.W.mg_none_of X G z_dict, PySem.W.mg_none_of X G z_len, PySem.W.mg_none_of X G z_all, PySem.W.mg_none_of X G z_sum, PySem.W.mg_none_of X G z_sorted, PySem.W.mg_none_of X G z_range, PySem.W.mg_none_of X G z_enumerate, PySem.W.mg_none_of X G z_zip, PySem.W.mg_none_of X G z_min, PySem.W.mg_none_of X G z_max⟩
  have mI := PySem.W.mg_of X G aI
  have mL := PySem.W.mg_of X G aL
  have T : XTxt K mg "NoChain" C := ⟨PySem.W.mg_of X G xN, xE, xk, xb, xt⟩
  have XI : XIs K mg C BE := ⟨PySem.W.mg_of X G xB, PySem.W.exm_ref yb yd yt ys, ⟨ug, uk, xb, ud, ua, un, ut, um⟩⟩
  have F8 := fun_mk (st := sIsInteger) l8 c8 k8
  have b8 := F8.binds (ps := ["thing"]) fun _ _ _ _ _ _ us hl => match us, hl with | [_], _ => rfl
  have g8 := PySem.W.mg_of X G a8
  have F9 := fun_mk (st := sIsWithin) l9 c9 k9
  have b9 := F9.binds (ps := ["thing", "least", "most"]) fun _ _ _ _ _ _ us hl => match us, hl with | [_, _, _], _ => rfl
  have g9 := PySem.W.mg_of X G a9
  have F10 := fun_mk (st := sIsListed) l10 c10 k10
  have b10 := F10.binds (ps := ["thing"]) fun _ _ _ _ _ _ us hl => match us, hl with | [_], _ => rfl
  have g10 := PySem.W.mg_of X G a10
  have F11 := fun_mk (st := sAreItems) l11 c11 k11
  have b11 := F11.binds (ps := ["thing", "bound"]) fun _ _ _ _ _ _ us hl => match us, hl with | [_, _], _ => rfl
  have g11 := PySem.W.mg_of X G a11
  have F12 := fun_mk (st := sIsSound) l12 c12 k12
  have b12 := F12.binds (ps := ["thing"]) fun _ _ _ _ _ _ us hl => match us, hl with | [_], _ => rfl
  have g12 := PySem.W.mg_of X G a12
  have F13 := fun_mk (st := sCheckPlan) l13 c13 k13
  have b13 := F13.binds (ps := ["thing"]) fun _ _ _ _ _ _ us hl => match us, hl with | [_], _ => rfl
  have g13 := PySem.W.mg_of X G a13
  have F14 := fun_mk (st := sCheckMost) l14 c14 k14
  have b14 := F14.binds (ps := ["many", "most"]) fun _ _ _ _ _ _ us hl => match us, hl with | [_, _], _ => rfl
  have g14 := PySem.W.mg_of X G a14
  have F16 := fun_mk (st := sIsChainOf) l16 c16 k16
  have b16 := F16.binds (ps := ["plan", "thing"]) fun _ _ _ _ _ _ us hl => match us, hl with | [_, _], _ => rfl
  have g16 := PySem.W.mg_of X G a16
  have F17 := fun_mk (st := sCheckChain) l17 c17 k17
  have b17 := F17.binds (ps := ["plan", "thing"]) fun _ _ _ _ _ _ us hl => match us, hl with | [_, _], _ => rfl
  have g17 := PySem.W.mg_of X G a17
  have F18 := fun_mk (st := sEndingOf) l18 c18 k18
  have b18 := F18.binds (ps := ["plan"]) fun _ _ _ _ _ _ us hl => match us, hl with | [_], _ => rfl
  have g18 := PySem.W.mg_of X G a18
  have F19 := fun_mk (st := sManyChains) l19 c19 k19
  have b19 := F19.binds (ps := ["plan"]) fun _ _ _ _ _ _ us hl => match us, hl with | [_], _ => rfl
  have g19 := PySem.W.mg_of X G a19
  have F22 := fun_mk (st := sChainKey) l22 c22 k22
  have b22 := F22.binds (ps := ["chain"]) fun _ _ _ _ _ _ us hl => match us, hl with | [_], _ => rfl
  have g22 := PySem.W.mg_of X G a22
  have F23 := fun_mk (st := sLaterItems) l23 c23 k23
  have b23 := F23.binds (ps := ["plan", "last", "low"]) fun _ _ _ _ _ _ us hl => match us, hl with | [_, _, _], _ => rfl
  have g23 := PySem.W.mg_of X G a23
  have F24 := fun_mk (st := sListedChains) l24 c24 k24
  have b24 := F24.binds (ps := ["plan"]) fun _ _ _ _ _ _ us hl => match us, hl with | [_], _ => rfl
  have g24 := PySem.W.mg_of X G a24
  have F25 := fun_mk (st := sAllChains') l25 c25 k25
  have b25 := F25.binds (ps := ["plan"]) fun _ _ _ _ _ _ us hl => match us, hl with | [_], _ => rfl
  have g25 := PySem.W.mg_of X G a25
  have F27 := fun_mk (st := sIsRun) l27 c27 k27
  have b27 := F27.binds (ps := ["plan", "thing"]) fun _ _ _ _ _ _ us hl => match us, hl with | [_, _], _ => rfl
  have g27 := PySem.W.mg_of X G a27
  have F28 := fun_mk (st := sCheckRun) l28 c28 k28
  have b28 := F28.binds (ps := ["plan", "thing"]) fun _ _ _ _ _ _ us hl => match us, hl with | [_, _], _ => rfl
  have g28 := PySem.W.mg_of X G a28
  have F30 := fun_mk (st := sInOrder) l30 c30 k30
  have b30 := F30.binds (ps := ["items", "names"]) fun _ _ _ _ _ _ us hl => match us, hl with | [_, _], _ => rfl
  have g30 := PySem.W.mg_of X G a30
  have F31 := fun_mk (st := sPlainNames) l31 c31 k31
  have b31 := F31.binds (ps := ["plan", "run"]) fun _ _ _ _ _ _ us hl => match us, hl with | [_, _], _ => rfl
  have g31 := PySem.W.mg_of X G a31
  have F32 := fun_mk (st := sNames) l32 c32 k32
  have b32 := F32.binds (ps := ["plan", "run"]) fun _ _ _ _ _ _ us hl => match us, hl with | [_, _], _ => rfl
  have g32 := PySem.W.mg_of X G a32
  have F33 := fun_mk (st := sWishedNames) l33 c33 k33
  have b33 := F33.binds (ps := ["row"]) fun _ _ _ _ _ _ us hl => match us, hl with | [_], _ => rfl
  have g33 := PySem.W.mg_of X G a33
  have F34 := fun_mk (st := sRunWith) l34 c34 k34
  have b34 := F34.binds (ps := ["plan", "row"]) fun _ _ _ _ _ _ us hl => match us, hl with | [_, _], _ => rfl
  have g34 := PySem.W.mg_of X G a34
  have F36 := fun_mk (st := sLawState) l36 c36 k36
  have b36 := F36.binds (ps := ["_law_script", "_law_k"]) fun _ _ _ _ _ _ us hl => match us, hl with | [_, _], _ => rfl
  have g36 := PySem.W.mg_of X G a36
  have F37 := fun_mk (st := sLawDraw) l37 c37 k37
  have b37 := F37.binds (ps := ["_law_state_here", "_law_many"]) fun _ _ _ _ _ _ us hl => match us, hl with | [_, _], _ => rfl
  have g37 := PySem.W.mg_of X G a37
  have F38 := fun_mk (st := sLawPlan) l38 c38 k38
  have b38 := F38.binds (ps := ["_law_state_here", "_law_size"]) fun _ _ _ _ _ _ us hl => match us, hl with | [_, _], _ => rfl
  have g38 := PySem.W.mg_of X G a38
  have F39 := fun_mk (st := sLawRuns) l39 c39 k39
  have b39 := F39.binds (ps := ["_law_plan_here"]) fun _ _ _ _ _ _ us hl => match us, hl with | [_], _ => rfl
  have g39 := PySem.W.mg_of X G a39
  have F40 := fun_mk (st := sLawChains) l40 c40 k40
  have b40 := F40.binds (ps := ["_law_plan_here"]) fun _ _ _ _ _ _ us hl => match us, hl with | [_], _ => rfl
  have g40 := PySem.W.mg_of X G a40
  have F41 := fun_mk (st := sLawFrom) l41 c41 k41
  have b41 := F41.binds (ps := ["_law_plan_here", "_law_line_here"]) fun _ _ _ _ _ _ us hl => match us, hl with | [_, _], _ => rfl
  have g41 := PySem.W.mg_of X G a41
  have F42 := fun_mk (st := sLawAlike) l42 c42 k42
  have b42 := F42.binds (ps := ["_law_told", "_law_due"]) fun _ _ _ _ _ _ us hl => match us, hl with | [_, _], _ => rfl
  have g42 := PySem.W.mg_of X G a42
  have F43 := fun_mk (st := sLawShort) l43 c43 k43
  have b43 := F43.binds (ps := ["_law_plan_here", "_law_most"]) fun _ _ _ _ _ _ us hl => match us, hl with | [_, _], _ => rfl
  have g43 := PySem.W.mg_of X G a43
  have F44 := fun_mk (st := sLawIsLine) l44 c44 k44
  have b44 := F44.binds (ps := ["_law_told", "_law_known"]) fun _ _ _ _ _ _ us hl => match us, hl with | [_, _], _ => rfl
  have g44 := PySem.W.mg_of X G a44
  have F45 := fun_mk (st := sLawAllCome) l45 c45 k45
  have b45 := F45.binds (ps := ["_law_plan_here"]) fun _ _ _ _ _ _ us hl => match us, hl with | [_], _ => rfl
  have g45 := PySem.W.mg_of X G a45
  have F46 := fun_mk (st := sLawLine) l46 c46 k46
  have b46 := F46.binds (ps := ["_law_state_here", "_law_plan_here"]) fun _ _ _ _ _ _ us hl => match us, hl with | [_, _], _ => rfl
  have g46 := PySem.W.mg_of X G a46
  have F47 := fun_mk (st := sLawWished) l47 c47 k47
  have b47 := F47.binds (ps := ["_law_row"]) fun _ _ _ _ _ _ us hl => match us, hl with | [_], _ => rfl
  have g47 := PySem.W.mg_of X G a47
  have F48 := fun_mk (st := sLawSpoiled) l48 c48 k48
  have b48 := F48.binds (ps := ["_law_state_here", "_law_plan_here", "_law_row"]) fun _ _ _ _ _ _ us hl => match us, hl with | [_, _, _], _ => rfl
  have g48 := PySem.W.mg_of X G a48
  have F49 := fun_mk (st := sLawIsRun) l49 c49 k49
  have b49 := F49.binds (ps := ["_law_plan_here", "_law_thing"]) fun _ _ _ _ _ _ us hl => match us, hl with | [_, _], _ => rfl
  have g49 := PySem.W.mg_of X G a49
  have F50 := fun_mk (st := sLawWish) l50 c50 k50
  have b50 := F50.binds (ps := ["_law_state_here", "_law_plan_here"]) fun _ _ _ _ _ _ us hl => match us, hl with | [_, _], _ => rfl
  have g50 := PySem.W.mg_of X G a50
  have F51 := fun_mk (st := sLaw) l51 c51 k51
  refine ⟨PySem.W.fnOf "law" "law" (defArgs sLaw) (defBody sLaw) (defScope sLaw) .none kV51 dc51 pm51 an51 cd51 ct51, fun s v => .of_eq rfl, fun base _ _ => ?_⟩
  have c8 : Callee l.prog w K mg base CX0 1 "is_integer" f8 _ ["thing"] spIsInteger := ⟨ok_IsInteger B F8, b8, k8, g8⟩
  have c9 : Callee l.prog w K mg base CX0 2 "is_within" f9 _ ["thing", "least", "most"] spIsWithin := ⟨ok_IsWithin c8 F9, b9, k9, g9⟩
  have c10 : Callee l.prog w K mg base CX0 1 "is_listed" f10 _ ["thing"] spIsListed := ⟨ok_IsListed B F10, b10, k10, g10⟩
  have c11 : Callee l.prog w K mg base CX0 2 "are_items" f11 _ ["thing", "bound"] spAreItems := ⟨ok_AreItems B c8 F11, b11, k11, g11⟩
  have c12 : Callee l.prog w K mg base CX0 3 "is_sound" f12 _ ["thing"] spIsSound := ⟨ok_IsSound B mI c11 F12, b12, k12, g12⟩
  have c13 : Callee l.prog w K mg base CX0 4 "check_plan" f13 _ ["thing"] spCheckPlan := ⟨ok_CheckPlan c12 F13, b13, k13, g13⟩
  have c14 : Callee l.prog w K mg base CX0 1 "check_most" f14 _ ["many", "most"] spCheckMost := ⟨ok_CheckMost F14, b14, k14, g14⟩
  have c16 : Callee l.prog w K mg base CX0 3 "is_chain_of" f16 _ ["plan", "thing"] spIsChainOf := ⟨ok_IsChainOf B c11 F16, b16, k16, g16⟩
  have c17 : Callee l.prog w K mg base (L2.CX l.prog w) 4 "check_chain" f17 _ ["plan", "thing"] (spCheckChain C) := ⟨ok_CheckChain T c16 F17, b17, k17, g17⟩
  have c18 : Callee l.prog w K mg base CX0 1 "ending_of" f18 _ ["plan"] spEndingOf := ⟨ok_EndingOf B F18, b18, k18, g18⟩
  have c19 : Callee l.prog w K mg base CX0 2 "many_chains" f19 _ ["plan"] spManyChains := ⟨ok_ManyChains B c18 F19, b19, k19, g19⟩
  have c22 : Callee l.prog w K mg base CX0 1 "chain_key" f22 _ ["chain"] spChainKey := ⟨ok_ChainKey B F22, b22, k22, g22⟩
  have c23 : Callee l.prog w K mg base CX0 1 "later_items" f23 _ ["plan", "last", "low"] spLaterItems := ⟨ok_LaterItems B F23, b23, k23, g23⟩
  have c24 : Callee l.prog w K mg base CX0 2 "listed_chains" f24 _ ["plan"] spListedChains := ⟨ok_ListedChains B c23 F24, b24, k24, g24⟩
  have c25 : Callee l.prog w K mg base CX0 5 "all_chains" f25 _ ["plan"] spAllChains := ⟨ok_AllChains mL c13 c14 c19 c24 F25, b25, k25, g25⟩
  have c27 : Callee l.prog w K mg base CX0 3 "is_run" f27 _ ["plan", "thing"] spIsRun := ⟨ok_IsRun B c9 F27, b27, k27, g27⟩
  have c28 : Callee l.prog w K mg base CX0 4 "check_run" f28 _ ["plan", "thing"] spCheckRun := ⟨ok_CheckRun c27 F28, b28, k28, g28⟩
  have c30 : Callee l.prog w K mg base CX0 2 "in_order" f30 _ ["items", "names"] spInOrder := ⟨ok_InOrder B c22 F30, b30, k30, g30⟩
  have c31 : Callee l.prog w K mg base CX0 3 "plain_names" f31 _ ["plan", "run"] spPlainNames := ⟨ok_PlainNames B c30 F31, b31, k31, g31⟩
  have c32 : Callee l.prog w K mg base CX0 5 "names" f32 _ ["plan", "run"] spNames := ⟨ok_Names B c13 c28 c31 F32, b32, k32, g32⟩
  have c33 : Callee l.prog w K mg base CX0 1 "wished_names" f33 _ ["row"] spWishedNames := ⟨ok_WishedNames B F33, b33, k33, g33⟩
  have c34 : Callee l.prog w K mg base (L2.CX l.prog w) 5 "run_with" f34 _ ["plan", "row"] (spRunWith C) := ⟨ok_RunWith B T c13 c10 c17 c33 c22 F34, b34, k34, g34⟩
  have c36 : Callee l.prog w K mg base CX0 1 "_law_state" f36 _ ["_law_script", "_law_k"] (spLawState K) := ⟨ok_LawState B F36, b36, k36, g36⟩
  have c37 : Callee l.prog w K mg base CX0 1 "_law_draw" f37 _ ["_law_state_here", "_law_many"] spLawDraw := ⟨ok_LawDraw B F37, b37, k37, g37⟩
  have c38 : Callee l.prog w K mg base CX0 2 "_law_plan" f38 _ ["_law_state_here", "_law_size"] spLawPlan := ⟨ok_LawPlan B c37 F38, b38, k38, g38⟩
  have c39 : Callee l.prog w K mg base CX0 1 "_law_runs" f39 _ ["_law_plan_here"] spLawRuns := ⟨ok_LawRuns B F39, b39, k39, g39⟩
  have c41 : Callee l.prog w K mg base CX0 6 "_law_from" f41 _ ["_law_plan_here", "_law_line_here"] (spLawFrom 6) := ⟨all_LawFrom B F41 b41 g41 6, b41, k41, g41⟩
  have c40 : Callee l.prog w K mg base CX0 7 "_law_chains" f40 _ ["_law_plan_here"] spLawChains := ⟨ok_LawChains B c41 F40, b40, k40, g40⟩
  have c42 : Callee l.prog w K mg base CX0 3 "_law_alike" f42 _ ["_law_told", "_law_due"] (spLawAlike 3) := ⟨all_LawAlike B F42 b42 g42 3, b42, k42, g42⟩
  have c43 : Callee l.prog w K mg base CX0 1 "_law_short" f43 _ ["_law_plan_here", "_law_most"] spLawShort := ⟨ok_LawShort B F43, b43, k43, g43⟩
  have c44 : Callee l.prog w K mg base CX0 1 "_law_is_line" f44 _ ["_law_told", "_law_known"] spIsLine := ⟨ok_IsLine B F44, b44, k44, g44⟩
  have c45 : Callee l.prog w K mg base CX0 8 "_law_all_come" f45 _ ["_law_plan_here"] spLawAllCome := ⟨ok_AllCome B c40 c39 c32 c44 c25 c42 F45, b45, k45, g45⟩
  have c46 : Callee l.prog w K mg base CX0 2 "_law_line" f46 _ ["_law_state_here", "_law_plan_here"] spLawLine := ⟨ok_LawLine B c37 F46, b46, k46, g46⟩
  have c47 : Callee l.prog w K mg base CX0 1 "_law_wished" f47 _ ["_law_row"] spLawWished := ⟨ok_LawWished B F47, b47, k47, g47⟩
  have c48 : Callee l.prog w K mg base CX0 3 "_law_spoiled" f48 _ ["_law_state_here", "_law_plan_here", "_law_row"] spLawSpoiled := ⟨ok_LawSpoiled B c37 c46 F48, b48, k48, g48⟩
  have c49 : Callee l.prog w K mg base CX0 1 "_law_is_run" f49 _ ["_law_plan_here", "_law_thing"] spLawIsRun := ⟨ok_LawIsRun B F49, b49, k49, g49⟩
  have c50 : Callee l.prog w K mg base CX0 6 "_law_wish" f50 _ ["_law_state_here", "_law_plan_here"] spLawWish := ⟨ok_LawWish B T XI c37 c46 c48 c34 c47 c49 c32 c42 F50, b50, k50, g50⟩
  exact ok_Law B c36 c37 c38 c43 c45 c50 F51
theorem walk {l : PySem.W.OpenLaw} {q : Program} {loose : List Str} {XP : (Str → Option Value) → Heap → Prop} {YP : World → Heap → Prop} {d : DefRec} {K : Params → PySem.W.Frag} (hn : l.most = some 63) (hdf : d.params.defaults = [])
    (hY : ∀ (w : World) (h : Heap), YP w h → (K w.params).In h)
    (F : ∀ (w : World) (mg : Str → Option Value) (fa : Addr) (h : Heap), (K w.params).In h → h.Ns mainGlobals mg → mg d.name = some (.ref fa) →
      ∃ fd : FuncData, (∀ (s : Shared) (u : Value), BindsTo s fd ⟨[u], []⟩ [("_law_script", u)]) ∧ ∀ base : Heap, (K w.params).In base → base.Ns mainGlobals mg → FnOk l.prog w (K w.params) mg base CX0 9 fa fd ["_law_script"] (spLaw (K w.params))) :
    PySem.W.WalkO q loose XP YP l.row.toRowW d [] (fun f vs => PySem.call f vs) :=
  L2.walk_of (n := 63) (k := 9) (x := "_law_script") (CX := fun _ => CX0) (sp := fun w => spLaw (K w.params)) hn (by decide) hdf ⟨rfl, by decide, by decide⟩ hY F (fun _ _ a ns hl _ hS => ⟨a, ns, rfl, hS, hl, fun _ _ => rfl⟩) fun _ _ _ _ _ z => z
end Pb
open PySem PySem.W PyProof.Rows
set_option maxRecDepth 100000 in
set_option maxHeartbeats 0 in
theorem PySem.Challenge.cw_putbetween_k26_whole_names_that_come_are_holds : PySem.Challenge.rw_putbetween_k26_whole_names_that_come_are.Holds := by
  w_on; o_law; k_head; (case hw => w_witness2)
  k_fill
  refine Pb.walk (l := PySem.Challenge.rw_putbetween_k26_whole_names_that_come_are) rfl rfl (fun w h Y => PySem.W.kIn_of Y) ?F
  case F =>
    intro w mg fa h KX G hmg
    refine' Pb.all_mk KX G hmg ?a8 ?l8 ?c8 ?k8 ?a9 ?l9 ?c9 ?k9 ?a10 ?l10 ?c10 ?k10 ?a11 ?l11 ?c11 ?k11 ?a12 ?l12 ?c12 ?k12 ?a13 ?l13 ?c13 ?k13 ?a14 ?l14 ?c14 ?k14 ?a16 ?l16 ?c16 ?k16 ?a17 ?l17 ?c17 ?k17 ?a18 ?l18 ?c18 ?k18 ?a19 ?l19 ?c19 ?k19 ?a22 ?l22 ?c22 ?k22 ?a23 ?l23 ?c23 ?k23 ?a24 ?l24 ?c24 ?k24 ?a25 ?l25 ?c25 ?k25 ?a27 ?l27 ?c27 ?k27 ?a28 ?l28 ?c28 ?k28 ?a30 ?l30 ?c30 ?k30 ?a31 ?l31 ?c31 ?k31 ?a32 ?l32 ?c32 ?k32 ?a33 ?l33 ?c33 ?k33 ?a34 ?l34 ?c34 ?k34 ?a36 ?l36 ?c36 ?k36 ?a37 ?l37 ?c37 ?k37 ?a38 ?l38 ?c38 ?k38 ?a39 ?l39 ?c39 ?k39 ?a40 ?l40 ?c40 ?k40 ?a41 ?l41 ?c41 ?k41 ?a42 ?l42 ?c42 ?k42 ?a43 ?l43 ?c43 ?k43 ?a44 ?l44 ?c44 ?k44 ?a45 ?l45 ?c45 ?k45 ?a46 ?l46 ?c46 ?k46 ?a47 ?l47 ?c47 ?k47 ?a48 ?l48 ?c48 ?k48 ?a49 ?l49 ?c49 ?k49 ?a50 ?l50 ?c50 ?k50 ?a51 ?l51 ?c51 ?k51 ?z_isinstance ?z_int ?z_bool ?z_str ?z_list ?z_tuple ?z_dict ?z_len ?z_all ?z_sum ?z_sorted ?z_range ?z_enumerate ?z_zip ?z_min ?z_max ?aI ?aL ?xN ?xB ?xE ?xk ?xb ?xt ?yb ?yd ?yt ?ys ?ug ?uk ?ud ?ua ?un ?ut ?um
    (case a8 => k_is)
    (case l8 => k_is)
    (case c8 => k_is)
    (case k8 => k_is)
    (case a9 => k_is)
    (case l9 => k_is)
    (case c9 => k_is)
    (case k9 => k_is)
    (case a10 => k_is)
    (case l10 => k_is)
    (case c10 => k_is)
    (case k10 => k_is)
    (case a11 => k_is)
    (case l11 => k_is)
    (case c11 => k_is)
    (case k11 => k_is)
    (case a12 => k_is)
    (case l12 => k_is)
    (case c12 => k_is)
    (case k12 => k_is)
    (case a13 => k_is)
    (case l13 => k_is)
    (case c13 => k_is)
    (case k13 => k_is)
    (case a14 => k_is)
    (case l14 => k_is)
    (case c14 => k_is)
    (case k14 => k_is)
    (case a16 => k_is)
    (case l16 => k_is)
    (case c16 => k_is)
    (case k16 => k_is)
    (case a17 => k_is)
    (case l17 => k_is)
    (case c17 => k_is)
    (case k17 => k_is)
    (case a18 => k_is)
    (case l18 => k_is)
    (case c18 => k_is)
    (case k18 => k_is)
    (case a19 => k_is)
    (case l19 => k_is)
    (case c19 => k_is)
    (case k19 => k_is)
    (case a22 => k_is)
    (case l22 => k_is)
    (case c22 => k_is)
    (case k22 => k_is)
    (case a23 => k_is)
    (case l23 => k_is)
    (case c23 => k_is)
    (case k23 => k_is)
    (case a24 => k_is)
    (case l24 => k_is)
    (case c24 => k_is)
    (case k24 => k_is)
    (case a25 => k_is)
    (case l25 => k_is)
    (case c25 => k_is)
    (case k25 => k_is)
    (case a27 => k_is)
    (case l27 => k_is)
    (case c27 => k_is)
    (case k27 => k_is)
    (case a28 => k_is)
    (case l28 => k_is)
    (case c28 => k_is)
    (case k28 => k_is)
    (case a30 => k_is)
    (case l30 => k_is)
    (case c30 => k_is)
    (case k30 => k_is)
    (case a31 => k_is)
    (case l31 => k_is)
    (case c31 => k_is)
    (case k31 => k_is)
    (case a32 => k_is)
    (case l32 => k_is)
    (case c32 => k_is)
    (case k32 => k_is)
    (case a33 => k_is)
    (case l33 => k_is)
    (case c33 => k_is)
    (case k33 => k_is)
    (case a34 => k_is)
    (case l34 => k_is)
    (case c34 => k_is)
    (case k34 => k_is)
    (case a36 => k_is)
    (case l36 => k_is)
    (case c36 => k_is)
    (case k36 => k_is)
    (case a37 => k_is)
    (case l37 => k_is)
    (case c37 => k_is)
    (case k37 => k_is)
    (case a38 => k_is)
    (case l38 => k_is)
    (case c38 => k_is)
    (case k38 => k_is)
    (case a39 => k_is)
    (case l39 => k_is)
    (case c39 => k_is)
    (case k39 => k_is)
    (case a40 => k_is)
    (case l40 => k_is)
    (case c40 => k_is)
    (case k40 => k_is)
    (case a41 => k_is)
    (case l41 => k_is)
    (case c41 => k_is)
    (case k41 => k_is)
    (case a42 => k_is)
    (case l42 => k_is)
    (case c42 => k_is)
    (case k42 => k_is)
    (case a43 => k_is)
    (case l43 => k_is)
    (case c43 => k_is)
    (case k43 => k_is)
    (case a44 => k_is)
    (case l44 => k_is)
    (case c44 => k_is)
    (case k44 => k_is)
    (case a45 => k_is)
    (case l45 => k_is)
    (case c45 => k_is)
    (case k45 => k_is)
    (case a46 => k_is)
    (case l46 => k_is)
    (case c46 => k_is)
    (case k46 => k_is)
    (case a47 => k_is)
    (case l47 => k_is)
    (case c47 => k_is)
    (case k47 => k_is)
    (case a48 => k_is)
    (case l48 => k_is)
    (case c48 => k_is)
    (case k48 => k_is)
    (case a49 => k_is)
    (case l49 => k_is)
    (case c49 => k_is)
    (case k49 => k_is)
    (case a50 => k_is)
    (case l50 => k_is)
    (case c50 => k_is)
    (case k50 => k_is)
    (case a51 => k_is)
    (case l51 => k_is)
    (case c51 => k_is)
    (case k51 => k_is)
    (case z_isinstance => k_is)
    (case z_int => k_is)
    (case z_bool => k_is)
    (case z_str => k_is)
    (case z_list => k_is)
    (case z_tuple => k_is)
    (case z_dict => k_is)
    (case z_len => k_is)
    (case z_all => k_is)
    (case z_sum => k_is)
    (case z_sorted => k_is)
    (case z_range => k_is)
    (case z_enumerate => k_is)
    (case z_zip => k_is)
    (case z_min => k_is)
    (case z_max => k_is)
    (case aI => k_is)
    (case aL => k_is)
    (case xN => k_is)
    (case xB => k_is)
    (case xE => k_exc)
    (case xk => k_is)
    (case xb => k_is)
    (case xt => k_is)
    (case yb => k_is)
    (case yd => k_is)
    (case yt => k_is)
    (case ys => k_is)
    (case ug => k_is)
    (case uk => k_is)
    (case ud => k_is)
    (case ua => k_is)
    (case un => k_is)
    (case ut => k_is)
    (case um => k_is)
