import PyProof.Rows.All
import Wide.All
import OpenK.AllK
import Wide.FinOn
import KE.BytesMake
import KE.KBytesCut
import KE.KBytesMore
import KE.KBits
import KE.KSortTup
import KE.KTurns
import PyProof.ExcInit
import PyProof.InstStoreFacts
import PyProof.ListStr
import PyProof.Conv_int
import Wide.WTab
import Lean
import PySem.Challenge.RW_tk0089_01
set_option Elab.async false
set_option compiler.extract_closed false
set_option linter.all false
set_option linter.unusedVariables false
set_option linter.deprecated false

section
open PySem PySem.W PyProof.Rows
namespace Mine
noncomputable def kw {α : Type} (key : Nat → Nat) (n : Nat) : KasT α → (α → Prop) → Prop
  | .ret a, Q => Q a
  | .ask i j k, Q => i < n ∧ j < n ∧ kw key n (k (decide (key i < key j))) Q
theorem kw_bind {α β : Type} {key : Nat → Nat} {n : Nat} {f : α → KasT β} {Q : β → Prop} : ∀ (t : KasT α), kw key n t (fun a => kw key n (f a) Q) → kw key n (t.bind f) Q
  | .ret a, h => h
  | .ask i j k, h => ⟨h.1, h.2.1, kw_bind _ h.2.2⟩
theorem kw_mono {α : Type} {key : Nat → Nat} {n : Nat} {Q Q' : α → Prop} (hq : ∀ a, Q a → Q' a) : ∀ (t : KasT α), kw key n t Q → kw key n t Q'
  | .ret a, h => hq a h
  | .ask i j k, h => ⟨h.1, h.2.1, kw_mono hq _ h.2.2⟩
theorem kw_ask {α : Type} {key : Nat → Nat} {n i j : Nat} {k : Bool → KasT α} {Q : α → Prop} (hi : i < n) (hj : j < n) (h1 : key i < key j → kw key n (k true) Q) (h2 : key j ≤ key i → kw key n (k false) Q) : kw key n (.ask i j k) Q := by
  refine ⟨hi, hj, ?_⟩
  by_cases h : key i < key j
  · rw [decide_eq_true h]; exact h1 h
  · rw [decide_eq_false h]; exact h2 (by lia)
theorem kw_use {α : Type} {key : Nat → Nat} {n : Nat} {cmp : Nat → Nat → (Bool → Shared → Prop) → Shared → Prop} {I : Shared → Prop} {Q : α → Shared → Prop}
    (hc : ∀ i j C s, i < n → j < n → I s → (∀ s', I s' → C (decide (key i < key j)) s') → cmp i j C s) :
    ∀ (t : KasT α) (s : Shared), I s → kw key n t (fun a => ∀ s', I s' → Q a s') → t.kasWp cmp Q s
  | .ret a, s, hs, h => h s hs
  | .ask i j k, s, hs, h => hc i j _ s h.1 h.2.1 hs fun s' hs' => kw_use hc _ s' hs' h.2.2

noncomputable def kv (key : Nat → Nat) (p : Array Nat) (k : Nat) : Nat := key (p.getD k 0)
noncomputable def Srt (key : Nat → Nat) (p : Array Nat) (m : Nat) : Prop := ∀ i j, i ≤ j → j < m → kv key p i ≤ kv key p j
noncomputable def Dsc (key : Nat → Nat) (p : Array Nat) (m : Nat) : Prop := ∀ i j, i ≤ j → j < m → kv key p j ≤ kv key p i
noncomputable def Pm (n : Nat) (p : Array Nat) : Prop := p.toList.Perm (List.range n)
theorem Pm.size {n : Nat} {p : Array Nat} (h : Pm n p) : p.size = n := by
  have := h.length_eq
  simpa using this
theorem Pm.lt {n k : Nat} {p : Array Nat} (h : Pm n p) (hn : 0 < n) : p.getD k 0 < n := by
  by_cases hk : k < p.size
  · have e : p.getD k 0 = p[k] := by simp [hk]
    rw [e]
    have : p[k] ∈ p.toList := by simp
    simpa using h.mem_iff.mp this
  · have e : p.getD k 0 = 0 := by simp [hk]
    lia
theorem Pm.rev {n i j : Nat} {p : Array Nat} (h : Pm n p) : Pm n (kas_rev p i j) := (Array.perm_iff_toList_perm.mp (mirror_perm p i j _)).trans h
theorem Pm.bub {n k d : Nat} {p : Array Nat} (h : Pm n p) : Pm n (bubble p k d) := (Array.perm_iff_toList_perm.mp (bubble_perm p k d)).trans h
variable {key : Nat → Nat} {n : Nat} {p : Array Nat}
theorem kv_congr {p q : Array Nat} {i j : Nat} (h : p[i]? = q[j]?) : kv key p i = kv key q j := by
  unfold kv
  rw [Array.getD_eq_getD_getElem?, Array.getD_eq_getD_getElem?, h]
theorem kv_rev {i j : Nat} (hj : j ≤ p.size) (k : Nat) : kv key (kas_rev p i j) k = if i ≤ k ∧ k < j then kv key p (i + j - 1 - k) else kv key p k := by
  have e := getElem?_mirror_all (xs := p) (i := i) hj k
  unfold kas_rev
  split
  · rename_i h; rw [if_pos h] at e; exact kv_congr e
  · rename_i h; rw [if_neg h] at e; exact kv_congr e
theorem kv_bub {src d : Nat} (hs : src < p.size) (hd : d ≤ src) (k : Nat) :
    kv key (bubble p src d) k = if k = src - d then kv key p src else if src - d < k ∧ k ≤ src then kv key p (k - 1) else kv key p k := by
  have e := getElem?_bubble hs d hd k
  split
  · rename_i h; rw [if_pos h] at e; exact kv_congr e
  · rename_i h
    rw [if_neg h] at e
    split
    · rename_i h2; rw [if_pos h2] at e; exact kv_congr e
    · rename_i h2; rw [if_neg h2] at e; exact kv_congr e

theorem kw_asc (hp : Pm n p) {nrem : Nat} (hz : nrem ≤ n) {Q : Nat → Prop} (hQ : ∀ r, 1 ≤ r → r ≤ nrem → Srt key p r → (r < nrem → kv key p r < kv key p (r - 1)) → Q r) :
    ∀ (f m : Nat), 1 ≤ m → m + f = nrem → Srt key p m → kw key n (kas_asc p f m) Q
  | 0, m, h1, he, hs => hQ m h1 (Nat.le_of_eq he) hs fun h => absurd he (Nat.ne_of_lt h)
  | f + 1, m, h1, he, hs => by
    unfold kas_asc
    have hm : m < nrem := he ▸ Nat.lt_add_of_pos_right (Nat.succ_pos f)
    have h0 : 0 < n := Nat.lt_of_lt_of_le h1 (Nat.le_trans (Nat.le_of_lt hm) hz)
    refine kw_ask (hp.lt h0) (hp.lt h0) (fun hlt => ?_) fun hge => ?_
    · rw [if_pos rfl]
      exact hQ m h1 (Nat.le_of_lt hm) hs fun _ => hlt
    · rw [if_neg Bool.false_ne_true]
      refine kw_asc hp hz hQ f (m + 1) (Nat.succ_pos m) ((Nat.add_right_comm m 1 f).trans he) fun i j hij hj => ?_
      rcases Nat.lt_or_eq_of_le (Nat.le_of_lt_succ hj) with hjm | rfl
      · exact hs i j hij hjm
      · rcases Nat.lt_or_eq_of_le hij with hij' | rfl
        · exact Nat.le_trans (hs i (j - 1) (Nat.le_sub_one_of_lt hij') (Nat.sub_lt h1 Nat.one_pos)) hge
        · exact Nat.le_refl _

theorem rev_same {i j : Nat} (hj : j ≤ p.size) (heq : ∀ k, i ≤ k → k < j → kv key p k = kv key p (j - 1)) (k : Nat) : kv key (kas_rev p i j) k = kv key p k := by
  rw [kv_rev hj]
  split
  · rw [heq _ (by lia) (by lia), heq k (by lia) (by lia)]
  · rfl
theorem Dsc.congr {p q : Array Nat} {m : Nat} (h : Dsc key p m) (e : ∀ k, kv key q k = kv key p k) : Dsc key q m := fun i j a b => by rw [e, e]; exact h i j a b
theorem Dsc.snoc {m : Nat} (h : Dsc key p m) (h1 : 1 ≤ m) (hle : kv key p m ≤ kv key p (m - 1)) : Dsc key p (m + 1) := fun i j hij hj => by
  rcases Nat.lt_or_eq_of_le (Nat.le_of_lt_succ hj) with hjm | rfl
  · exact h i j hij hjm
  · rcases Nat.lt_or_eq_of_le hij with hij' | rfl
    · exact Nat.le_trans hle (h i (j - 1) (Nat.le_sub_one_of_lt hij') (Nat.sub_lt h1 Nat.one_pos))
    · exact Nat.le_refl _
theorem last_one {m k : Nat} (a : m + 1 - (0 + 1) ≤ k) (b : k < m + 1) : k = m + 1 - 1 := Nat.le_antisymm (Nat.le_of_lt_succ b) a
theorem kw_desc {nrem : Nat} (hz : nrem ≤ n) {Q : Array Nat × Nat × Nat → Prop} (hQ : ∀ p m q, Pm n p → 1 ≤ m → m ≤ nrem → Dsc key p m → q + 1 ≤ m → (∀ k, m - (q + 1) ≤ k → k < m → kv key p k = kv key p (m - 1)) → Q (p, m, q)) :
    ∀ (f : Nat) (p : Array Nat) (m q : Nat), Pm n p → 1 ≤ m → m + f = nrem → Dsc key p m → q + 1 ≤ m → (∀ k, m - (q + 1) ≤ k → k < m → kv key p k = kv key p (m - 1)) → kw key n (kas_desc f p m q) Q
  | 0, p, m, q, hp, h1, he, hs, hq, heq => hQ p m q hp h1 (by lia) hs hq heq
  | f + 1, p, m, q, hp, h1, he, hs, hq, heq => by
    unfold kas_desc
    have hm : m + 1 + f = nrem := (Nat.add_right_comm m 1 f).trans he
    have hmn : m < n := Nat.lt_of_lt_of_le (he ▸ Nat.lt_add_of_pos_right (Nat.succ_pos f)) hz
    have h0 : 0 < n := Nat.lt_of_lt_of_le h1 (Nat.le_of_lt hmn)
    refine kw_ask (hp.lt h0) (hp.lt h0) (fun hlt => ?_) fun hge => ?_
    · rw [if_pos rfl]
      by_cases hq0 : q > 0
      · rw [if_pos hq0]
        have e := rev_same (key := key) (p := p) (i := m - (q + 1)) (j := m) (hp.size.symm ▸ Nat.le_of_lt hmn) heq
        exact kw_desc hz hQ f _ (m + 1) 0 hp.rev (Nat.succ_pos m) hm ((hs.snoc h1 (Nat.le_of_lt hlt)).congr e) (Nat.succ_pos m) fun k a b => last_one a b ▸ rfl
      · rw [if_neg hq0]
        exact kw_desc hz hQ f _ (m + 1) 0 hp (Nat.succ_pos m) hm (hs.snoc h1 (Nat.le_of_lt hlt)) (Nat.succ_pos m) fun k a b => last_one a b ▸ rfl
    · rw [if_neg Bool.false_ne_true]
      refine kw_ask (hp.lt h0) (hp.lt h0) (fun hlt => ?_) fun hge2 => ?_
      · rw [if_pos rfl]
        exact hQ p m q hp h1 (Nat.le_trans (Nat.le_add_right _ _) (Nat.le_of_eq he)) hs hq heq
      · rw [if_neg Bool.false_ne_true]
        have heq1 : kv key p m = kv key p (m - 1) := Nat.le_antisymm hge2 hge
        refine kw_desc hz hQ f p (m + 1) (q + 1) hp (Nat.succ_pos m) hm (hs.snoc h1 (Nat.le_of_eq heq1)) (Nat.succ_le_succ hq) fun k a b => ?_
        rw [Nat.add_sub_cancel, heq1]
        rcases Nat.lt_or_eq_of_le (Nat.le_of_lt_succ b) with hk | rfl
        · exact heq k (by omega) hk
        · exact heq1

theorem Dsc.rev {m : Nat} (hz : m ≤ p.size) (h : Dsc key p m) : Srt key (kas_rev p 0 m) m := fun i j hij hj => by
  rw [kv_rev hz, kv_rev hz, if_pos ⟨Nat.zero_le _, Nat.lt_of_le_of_lt hij hj⟩, if_pos ⟨Nat.zero_le _, hj⟩, Nat.zero_add]
  exact h _ _ (Nat.sub_le_sub_left hij _) (Nat.lt_of_le_of_lt (Nat.sub_le _ _) (Nat.pred_lt (Nat.ne_of_gt (Nat.lt_of_le_of_lt (Nat.zero_le _) hj))))
noncomputable def Done (key : Nat → Nat) (n nrem : Nat) (r : Nat × Array Nat) : Prop := Pm n r.2 ∧ 1 ≤ r.1 ∧ r.1 ≤ nrem ∧ Srt key r.2 r.1
theorem kw_tail3 {nrem m : Nat} (hp : Pm n p) (hz : nrem ≤ n) (h1 : 1 ≤ m) (hm : m ≤ nrem) (h : Dsc key p m) : kw key n (kas_tail3 m nrem p) (Done key n nrem) := by
  unfold kas_tail3
  refine kw_bind _ (kw_asc hp.rev hz (fun r a b c _ => ?_) _ m h1 (by lia) (Dsc.rev (by rw [hp.size]; lia) h))
  exact ⟨hp.rev, a, b, c⟩
theorem kw_descPart {nrem m : Nat} (hp : Pm n p) (hz : nrem ≤ n) (hm : m + 1 ≤ nrem) (h : Dsc key p (m + 1)) : kw key n (kas_descPart m nrem p) (Done key n nrem) := by
  unfold kas_descPart
  refine kw_bind _ (kw_desc hz (fun p' m' q hp' h1 hm' hs hq heq => ?_) _ p (m + 1) 0 hp (by lia) (by lia) h (by lia) fun k a b => ?_)
  · dsimp only
    split
    · have e := rev_same (key := key) (p := p') (i := m' - (q + 1)) (j := m') (by rw [hp'.size]; lia) heq
      exact kw_tail3 hp'.rev hz h1 hm' (hs.congr e)
    · exact kw_tail3 hp' hz h1 hm' hs
  · have : k = m := by lia
    subst this; rfl
theorem kw_count {nrem : Nat} (hp : Pm n p) (h1 : 1 ≤ nrem) (hz : nrem ≤ n) : kw key n (kas_count nrem p) (Done key n nrem) := by
  unfold kas_count
  have hone : ∀ p, Srt key p 1 := fun p i j a b => by
    have : i = j := by lia
    subst this; exact Nat.le_refl _
  refine kw_bind _ (kw_asc hp hz (fun r a b c d => ?_) _ 1 (Nat.le_refl _) (by lia) (hone p))
  by_cases hr : r = nrem
  · rw [if_pos (by simp [hr])]
    exact ⟨hp, a, b, c⟩
  · rw [if_neg (by simp [hr])]
    have hd := d (by lia)
    by_cases hr1 : r > 1
    · rw [if_pos hr1]
      refine kw_ask (hp.lt (by lia)) (hp.lt (by lia)) (fun hlt => ?_) fun hge => ?_
      · rw [if_pos rfl]; exact ⟨hp, a, b, c⟩
      · rw [if_neg Bool.false_ne_true]
        have heq : ∀ k, 0 ≤ k → k < r → kv key p k = kv key p (r - 1) := fun k _ hk => by
          have x1 := c 0 k (by lia) hk
          have x2 := c k (r - 1) (by lia) (by lia)
          have x3 : kv key p (r - 1) ≤ kv key p 0 := hge
          lia
        have e := rev_same (key := key) (p := p) (i := 0) (j := r) (by rw [hp.size]; lia) heq
        have hds : Dsc key p (r + 1) := by
          refine Dsc.snoc (fun i j hij hj => ?_) a (Nat.le_of_lt hd)
          rw [heq i (by lia) (by lia), heq j (by lia) hj]
          exact Nat.le_refl _
        exact kw_descPart hp.rev hz (by lia) (hds.congr e)
    · rw [if_neg hr1]
      have hr2 : r = 1 := by lia
      subst hr2
      refine kw_descPart hp hz (by lia) (Dsc.snoc (fun i j hij hj => ?_) (Nat.le_refl _) (Nat.le_of_lt hd))
      have : i = j := by lia
      subst this; exact Nat.le_refl _
theorem half_ge {l r : Nat} (h : l < r) : l ≤ (l + r) / 2 := by omega
theorem half_lt {l r : Nat} (h : l < r) : (l + r) / 2 < r := by omega
theorem half_f {l r c f : Nat} (h1 : l ≤ c) (h2 : c < r) (hf : r - l ≤ f + 1) : c - l ≤ f := by omega
theorem half_g {l r c f : Nat} (h1 : l ≤ c) (h2 : c < r) (hf : r - l ≤ f + 1) : r - (c + 1) ≤ f := by omega
theorem kw_place {k : Nat} (hp : Pm n p) (hk : k < n) (hs : Srt key p k) {Q : Nat → Prop} (hQ : ∀ l, l ≤ k → (∀ i, i < l → kv key p i ≤ kv key p k) → (∀ i, l ≤ i → i < k → kv key p k < kv key p i) → Q l) :
    ∀ (f l r : Nat), l ≤ r → r ≤ k → r - l ≤ f → (∀ i, i < l → kv key p i ≤ kv key p k) → (∀ i, r ≤ i → i < k → kv key p k < kv key p i) → kw key n (kas_place p k f l r) Q
  | 0, l, r, hlr, hr, hf, hlo, hhi => by
    have : l = r := by lia
    subst this
    exact hQ l hr hlo hhi
  | f + 1, l, r, hlr, hr, hf, hlo, hhi => by
    unfold kas_place
    by_cases hge : l ≥ r
    · rw [if_pos hge]
      have : l = r := by lia
      subst this
      exact hQ l hr hlo hhi
    · rw [if_neg hge]
      have h0 : 0 < n := Nat.lt_of_le_of_lt (Nat.zero_le _) hk
      have hlr : l < r := Nat.lt_of_not_le hge
      have m1 : l ≤ (l + r) / 2 := half_ge hlr
      have m2 : (l + r) / 2 < r := half_lt hlr
      generalize (l + r) / 2 = c at m1 m2 ⊢
      refine kw_ask (hp.lt h0) (hp.lt h0) (fun hlt => ?_) fun hge' => ?_
      · rw [if_pos rfl]
        exact kw_place hp hk hs hQ f l c m1 (Nat.le_trans (Nat.le_of_lt m2) hr) (half_f m1 m2 hf) hlo fun i a b => Nat.lt_of_lt_of_le hlt (hs _ _ a b)
      · rw [if_neg Bool.false_ne_true]
        exact kw_place hp hk hs hQ f (c + 1) r m2 hr (half_g m1 m2 hf) (fun i a => Nat.le_trans (hs i c (Nat.le_of_lt_succ a) (Nat.lt_of_lt_of_le m2 hr)) hge') hhi
theorem Srt.put {k l : Nat} {q : Array Nat} (hs : Srt key p k) (hl : l ≤ k) (hlo : ∀ i, i < l → kv key p i ≤ kv key p k) (hhi : ∀ i, l ≤ i → i < k → kv key p k < kv key p i)
    (e0 : ∀ i, i < l → kv key q i = kv key p i) (e1 : kv key q l = kv key p k) (e2 : ∀ i, l ≤ i → i < k → kv key q (i + 1) = kv key p i) : Srt key q (k + 1) := fun i j hij hj => by
  rcases Nat.lt_trichotomy j l with hjl | rfl | hjl
  · rw [e0 j hjl, e0 i (Nat.lt_of_le_of_lt hij hjl)]
    exact hs i j hij (Nat.lt_of_lt_of_le hjl hl)
  · rw [e1]
    rcases Nat.lt_or_eq_of_le hij with h | rfl
    · rw [e0 i h]; exact hlo i h
    · rw [e1]; exact Nat.le_refl _
  · obtain ⟨j, rfl⟩ : ∃ j', j = j' + 1 := ⟨j - 1, (Nat.succ_pred_eq_of_pos (Nat.lt_of_le_of_lt (Nat.zero_le _) hjl)).symm⟩
    have hlj := Nat.le_of_lt_succ hjl
    have hjk := Nat.lt_of_succ_lt_succ hj
    rw [e2 j hlj hjk]
    rcases Nat.lt_trichotomy i l with hil | rfl | hil
    · rw [e0 i hil]; exact hs i j (Nat.le_trans (Nat.le_of_lt hil) hlj) hjk
    · rw [e1]; exact Nat.le_of_lt (hhi j hlj hjk)
    · obtain ⟨i, rfl⟩ : ∃ i', i = i' + 1 := ⟨i - 1, (Nat.succ_pred_eq_of_pos (Nat.lt_of_le_of_lt (Nat.zero_le _) hil)).symm⟩
      have hij := Nat.le_of_succ_le_succ hij
      rw [e2 i (Nat.le_of_lt_succ hil) (Nat.lt_of_le_of_lt hij hjk)]
      exact hs i j hij hjk
theorem kw_bin {Q : Array Nat → Prop} (hQ : ∀ p, Pm n p → Srt key p n → Q p) : ∀ (f : Nat) (p : Array Nat) (k : Nat), Pm n p → k + f = n → Srt key p k → kw key n (kas_bin f p k) Q
  | 0, p, k, hp, he, hs => by
    have : k = n := by lia
    subst this; exact hQ p hp hs
  | f + 1, p, k, hp, he, hs => by
    unfold kas_bin
    have hk : k < n := he ▸ Nat.lt_add_of_pos_right (Nat.succ_pos f)
    have hks : k < p.size := hp.size.symm ▸ hk
    refine kw_bind _ (kw_place hp hk hs (fun l hl hlo hhi => ?_) k 0 k (Nat.zero_le _) (Nat.le_refl _) (Nat.le_refl _) (fun i a => absurd a (Nat.not_lt_zero i)) fun i a b => absurd b (Nat.not_lt_of_le a))
    refine kw_bin hQ f _ (k + 1) hp.bub ((Nat.add_right_comm k 1 f).trans he) (hs.put hl hlo hhi (fun i hi => ?_) ?_ fun i h1 h2 => ?_)
    · rw [kv_bub hks (Nat.sub_le _ _), Nat.sub_sub_self hl, if_neg (Nat.ne_of_lt hi), if_neg fun q => Nat.lt_asymm hi q.1]
    · rw [kv_bub hks (Nat.sub_le _ _), Nat.sub_sub_self hl, if_pos rfl]
    · rw [kv_bub hks (Nat.sub_le _ _), Nat.sub_sub_self hl, if_neg (Nat.ne_of_gt (Nat.lt_succ_of_le h1)), if_pos ⟨Nat.lt_succ_of_le h1, h2⟩]
      rfl
theorem kw_sort (h1 : 1 ≤ n) : kw key n (kas_sort n) (fun p => Pm n p ∧ Srt key p n) := by
  unfold kas_sort
  have hp : Pm n (List.toArray (List.range n)) := by unfold Pm; simp
  refine kw_bind _ (kw_mono (fun r hr => ?_) _ (kw_count hp h1 (Nat.le_refl _)))
  obtain ⟨a, b, c, d⟩ := hr
  split
  · have e : max r.1 1 = r.1 := by lia
    rw [e]
    exact kw_bin (fun p a b => ⟨a, b⟩) _ _ _ a (by lia) d
  · have : r.1 = n := by lia
    rw [this] at d
    exact ⟨a, d⟩
end Mine
end

section
open PySem PySem.W PySem.Calls PyProof.Rows
open PySem.Sem (wp)
set_option maxRecDepth 100000
namespace Mine

/-! The logic of this proof: the library's `wpAny`, but over those contexts alone whose stack bears no decoder that holds a buffer
(`bytearray`'s built-ins look for them on the whole stack). -/

/-- the goal, sealed while facts are taken apart -/
theorem shut {G : Prop} (h : ∀ X : Prop, (G → X) → X) : G := h G id

noncomputable def fineCode : Code → Bool
  | .builtin id _ => !Builtin.Bytes.decodersThatHold.contains id
  | _ => true

noncomputable def FineC (Γ : Ctx) : Prop := fineCode Γ.code = true ∧ ∀ x ∈ Γ.below, fineCode x.1 = true

theorem FineC.goto {Γ : Ctx} (h : FineC Γ) {c : Code} (hc : fineCode c = true) : FineC (Γ.goto c) := ⟨hc, h.2⟩
theorem FineC.enter {Γ : Ctx} (h : FineC Γ) {c : Code} (hc : fineCode c = true) (x : Option Value) (p : Pos) : FineC (Γ.enter c x p) :=
  ⟨hc, fun y hy => by
    rcases List.mem_cons.mp hy with rfl | hy
    · exact h.1
    · exact h.2 y hy⟩

noncomputable def wpG {α : Type} (M : Model) (A : Around) (t : Sem α) (Q : α → Shared → Prop) (E : Value → Shared → Prop) (s : Shared) : Prop :=
  ∀ Γ p, Γ.In A → FineC Γ → wp M Γ t (fun a _ s' => Q a s') (fun e _ s' => E e s') p s

noncomputable def codeG (M : Model) (A : Around) (c : Code) (R : Result → Shared → Prop) (s : Shared) : Prop :=
  ∀ Γ p, Γ.code = c → Γ.Below A → FineC Γ → wpCode M Γ R p s

section
variable {α β : Type} {M : Model} {A : Around} {E : Value → Shared → Prop} {s : Shared}

theorem lift {t : Sem α} {Q : α → Shared → Prop} (h : wpAny M A t Q E s) : wpG M A t Q E s := fun Γ p hΓ _ => h Γ p hΓ
theorem codeG_lift {c : Code} {R : Result → Shared → Prop} (h : codeAny M A c R s) : codeG M A c R s := fun Γ p hc hΓ _ => h Γ p hc hΓ

theorem g_pure {a : α} {Q : α → Shared → Prop} (h : Q a s) : wpG M A (pure a) Q E s := fun _ _ _ _ => h

theorem g_mono {t : Sem α} {Q Q' : α → Shared → Prop} {E' : Value → Shared → Prop} (h : wpG M A t Q E s)
    (hQ : ∀ a s, Q a s → Q' a s) (hE : ∀ e s, E e s → E' e s) : wpG M A t Q' E' s :=
  fun Γ p hΓ hf => Sem.wp_mono M Γ t (fun a _ s => hQ a s) (fun e _ s => hE e s) p s (h Γ p hΓ hf)

theorem g_bind {m : Sem α} {f : α → Sem β} {Q : β → Shared → Prop} (h : wpG M A m (fun a s' => wpG M A (f a) Q E s') E s) :
    wpG M A (m >>= f) Q E s := fun Γ p hΓ hf => by
  rw [Sem.wp_bind']
  exact Sem.wp_mono M Γ m (fun a p' s' h' => h' Γ p' hΓ hf) (fun _ _ _ h' => h') p s (h Γ p hΓ hf)

theorem g_map {m : Sem α} {f : α → β} {Q : β → Shared → Prop} (h : wpG M A m (fun a s' => Q (f a) s') E s) :
    wpG M A (f <$> m) Q E s := fun Γ p hΓ hf => by rw [Sem.wp_map]; exact h Γ p hΓ hf

theorem g_tryCatch {m : Sem α} {k : Value → Sem α} {Q : α → Shared → Prop} (h : wpG M A m Q (fun e s' => wpG M A (k e) Q E s') s) :
    wpG M A (tryCatch m k) Q E s := fun Γ p hΓ hf => by
  rw [Sem.wp_tryCatch']
  exact Sem.wp_mono M Γ m (fun _ _ _ h' => h') (fun e p' s' h' => h' Γ p' hΓ hf) p s (h Γ p hΓ hf)

theorem g_onRaise {m : Sem α} {k : Value → Sem Unit} {Q : α → Shared → Prop}
    (h : wpG M A m Q (fun e s' => wpG M A (k e) (fun _ s'' => E e s'') E s') s) : wpG M A (m.onRaise k) Q E s := fun Γ p hΓ hf => by
  rw [Sem.wp_onRaise]
  exact Sem.wp_mono M Γ m (fun _ _ _ h' => h') (fun e p' s' h' => h' Γ p' hΓ hf) p s (h Γ p hΓ hf)

theorem g_attempt {m : Sem α} {Q : Except Value α → Shared → Prop} (h : wpG M A m (fun a => Q (.ok a)) (fun e => Q (.error e)) s) :
    wpG M A m.attempt Q E s := fun Γ p hΓ hf => by rw [Sem.wp_attempt]; exact h Γ p hΓ hf

theorem g_holding {vs : List Value} {m : Sem α} {Q : α → Shared → Prop} (h : wpG M A m Q E s) : wpG M A (holding vs m) Q E s :=
  fun Γ p hΓ hf => by rw [Sem.wp_holding]; exact h Γ p hΓ hf
theorem g_keep {vs : List Value} {m : Sem α} {Q : α → Shared → Prop} (h : wpG M A m Q E s) : wpG M A (m.keep vs) Q E s :=
  fun Γ p hΓ hf => by rw [Sem.wp_keep]; exact h Γ p hΓ hf

theorem g_standAt {pos : Pos} {Q : Unit → Shared → Prop} (h : Q () s) : wpG M A (standAt pos) Q E s := fun _ _ _ _ => h
theorem g_rule {tag : String} {Q : Unit → Shared → Prop} (h : Q () s) : wpG M A (rule tag) Q E s := fun _ _ _ _ => h
theorem g_point {Q : Unit → Shared → Prop} (h : Q () s) : wpG M A point Q E s := fun _ _ _ _ => h
theorem g_ite {c : Prop} [Decidable c] {a b : Sem α} {Q : α → Shared → Prop} (h : if c then wpG M A a Q E s else wpG M A b Q E s) :
    wpG M A (if c then a else b) Q E s := by split <;> simp_all

theorem codeG_mono {c : Code} {R R' : Result → Shared → Prop} (h : codeG M A c R s) (hR : ∀ r s, R r s → R' r s) : codeG M A c R' s :=
  fun Γ p hc hΓ hf => wpCode_mono hR (h Γ p hc hΓ hf)

theorem g_run {c : Code} {h : Option Value} {Q : Flow → Shared → Prop} (hfc : fineCode c = true)
    (hc : codeG M (A.mark h) c (fun r s' => match r with | .ok f => Q f s' | .error e => E e s') s) (hnb : h ≠ some byPass := by intro x; cases x) :
    wpG M A (run c h) Q E s :=
  fun Γ p hΓ hf => by rw [Sem.wp_run]; exact hc _ p rfl (hΓ.enter c h p hnb) (hf.enter hfc h p)

theorem g_runValue {c : Code} {Q : Value → Shared → Prop} (hfc : fineCode c = true)
    (hc : codeG M A c (fun r s' => match r with | .ok (.ret v) => Q v s' | .ok _ => False | .error e => E e s') s) :
    wpG M A (runValue c) Q E s := fun Γ p hΓ hf => by
  rw [Sem.wp_runValue]; exact hc _ p rfl (hΓ.enter c none p (by intro x; cases x)) (hf.enter hfc none p)

theorem g_call {f : Value} {pos : List Value} {kw : List (Str × Value)} {Q : Value → Shared → Prop}
    (hc : codeG M A (.call f ⟨pos, kw⟩) (fun r s' => match r with | .ok (.ret v) => Q v s' | .ok _ => False | .error e => E e s') s) :
    wpG M A (call f pos kw) Q E s := g_runValue rfl hc

theorem codeG_of_tree {c : Code} {R : Result → Shared → Prop}
    (h : wpG M (A.under c) (M.den c) (fun fin s' => match fin with | .done f => R (.ok f) s' | .again c' => c'.quiet = true ∧ fineCode c' = true ∧ codeG M A c' R s')
      (fun e s' => R (.error e) s') s) : codeG M A c R s := fun Γ p hc hΓ hf => by
  rw [wpCode_iff_wp, hc]
  refine Sem.wp_mono M Γ _ (fun fin p' s' h' => ?_) (fun _ _ _ h' => h') p s (h Γ p (hc ▸ hΓ.in) hf)
  cases fin with
  | done f => exact h'
  | again c' => exact ⟨h'.1, h'.2.2 (Γ.goto c') p' rfl (hΓ.goto c') (hf.goto h'.2.1)⟩

theorem codeG_loop {c : Code} {R : Result → Shared → Prop} (hq : c.quiet = true) (hfc : fineCode c = true) (I : Nat → Shared → Prop)
    (turn : ∀ n s, I n s → wpG M (A.under c) (M.den c)
      (fun fin s' => match fin with | .done f => R (.ok f) s' | .again c' => c' = c ∧ ∃ m, m < n ∧ I m s') (fun e s' => R (.error e) s') s)
    (n : Nat) (h : I n s) : codeG M A c R s := by
  induction n using Nat.strongRecOn generalizing s with
  | ind n ih =>
    refine codeG_of_tree (g_mono (turn n s h) (fun fin s' hf => ?_) fun _ _ h' => h')
    cases fin with
    | done f => exact hf
    | again c' => obtain ⟨rfl, m, hm, hI⟩ := hf; exact ⟨hq, hfc, ih m hm hI⟩

theorem g_units_le {t : Sem α} {Q : α → Shared → Prop} {u : Nat} (h : wpG M A t Q E s) (hu : u ≤ A.units) : wpG M { A with units := u } t Q E s :=
  fun Γ p hΓ hf => h Γ p (hΓ.units_le hu) hf
theorem g_of_in1 {t : Sem α} {Q : α → Shared → Prop} (h : wpG M A.in1 t Q E s) : wpG M A t Q E s :=
  fun Γ p hΓ hf => h Γ p ⟨hΓ.1, hΓ.2.1, hΓ.2.2.1, hΓ.2.2.2.1, Nat.le_succ_of_le hΓ.2.2.2.2⟩ hf

/-- the one look that wants it: no decoder on the stack, no guard either -/
theorem look_false (v : Value) (c : Code) (q : Pos) (h1 : c.isGuard = false) (h2 : fineCode c = true) : (match ((c, q) : Code × Pos) with
      | (.builtin "bytearray.__contains__" ⟨v' :: _, _⟩, _) | (.builtin "bytearray.__mod__" ⟨v' :: _, _⟩, _)
      | (.builtin "bytearray.__rmod__" ⟨_ :: v' :: _, _⟩, _) | (.builtin "_struct.pack_into.held" ⟨v' :: _, _⟩, _) => Builtin.Bytes.sameRef v' v
      | (.builtin "bytearray.find.held" ⟨_ :: _ :: held, _⟩, _) => held.any (Builtin.Bytes.sameRef v)
      | (.builtin id ⟨v' :: _, _⟩, _) => Builtin.Bytes.sameRef v' v && Builtin.Bytes.decodersThatHold.contains id
      | _ => false) = false := by
  cases c with
  | builtin id args =>
    have h3 : Builtin.Bytes.decodersThatHold.contains id = false := by simpa [fineCode] using h2
    have hg : guardIds.contains id = false := h1
    have n : ∀ {x : String}, guardIds.contains x = true → id ≠ x := fun {x} hx e => by rw [e, hx] at hg; cases hg
    delta look_false.match_1
    refine (dif_neg (n (x := "bytearray.__contains__") (by decide))).trans ?_
    refine (dif_neg (n (x := "bytearray.__mod__") (by decide))).trans ?_
    refine (dif_neg (n (x := "bytearray.__rmod__") (by decide))).trans ?_
    refine (dif_neg (n (x := "_struct.pack_into.held") (by decide))).trans ?_
    refine (dif_neg (n (x := "bytearray.find.held") (by decide))).trans ?_
    obtain ⟨pos, kw⟩ := args
    cases pos with
    | nil => rfl
    | cons a l => exact (congrArg _ h3).trans (Bool.and_false _)
  | _ => rfl
theorem g_exported {v : Value} {Q : Bool → Shared → Prop} (hg : A.guards = some []) (h : Q false s) : wpG M A (Builtin.Bytes.exported v) Q E s := fun Γ p hΓ hf => by
  have key : ∀ l : List (Code × Pos), guardsOf l = [] → (∀ x ∈ l, fineCode x.1 = true) → (l.any fun
      | (.builtin "bytearray.__contains__" ⟨v' :: _, _⟩, _) | (.builtin "bytearray.__mod__" ⟨v' :: _, _⟩, _)
      | (.builtin "bytearray.__rmod__" ⟨_ :: v' :: _, _⟩, _) | (.builtin "_struct.pack_into.held" ⟨v' :: _, _⟩, _) => Builtin.Bytes.sameRef v' v
      | (.builtin "bytearray.find.held" ⟨_ :: _ :: held, _⟩, _) => held.any (Builtin.Bytes.sameRef v)
      | (.builtin id ⟨v' :: _, _⟩, _) => Builtin.Bytes.sameRef v' v && Builtin.Bytes.decodersThatHold.contains id
      | _ => false) = false := by
    intro l hl hfl
    rw [List.any_eq_false]
    rintro ⟨c, q⟩ hx
    have h1 : c.isGuard = false := by
      cases hcg : c.isGuard with
      | false => rfl
      | true =>
        have hm : c ∈ guardsOf l := by
          unfold guardsOf
          exact List.mem_filter.mpr ⟨List.mem_map.mpr ⟨(c, q), hx, rfl⟩, hcg⟩
        rw [hl] at hm
        cases hm
    exact fun h => Bool.false_ne_true ((look_false v c q h1 (hfl _ hx)).symm.trans h)
  have hl : guardsOf ((Γ.code, p) :: Γ.below) = [] := by rw [guardsOf_cons]; exact hΓ.2.2.2.1 [] hg
  have e := key _ hl (fun x hx => by
    rcases List.mem_cons.mp hx with rfl | hx
    · exact hf.1
    · exact hf.2 x hx)
  refine Eq.mp (congrArg (fun b => Q b s) ?_) h
  exact e.symm
end
end Mine
end

section
open PySem PySem.W PySem.Calls PyProof.Rows
open PySem.Sem (wp)
set_option maxRecDepth 100000
namespace Mine

/-! The head, for `wpG`: the caller's own context bears no decoder. -/

theorem caller_fine : FineC (⟨.builtin "claim.caller" {}, none, none, [], none⟩ : Ctx) := ⟨by decide +kernel, fun x hx => nomatch hx⟩

theorem wp_of_g_done {M : Model} {A : Around} {Γ : Ctx} {t : Sem Fin} {R : Result → Shared → Prop} {s : Shared} (hin : Γ.In A) (hf : FineC Γ)
    (h : wpG M A t (fun fin s' => ∃ f, fin = .done f ∧ R (.ok f) s') (fun e s' => R (.error e) s') s) (p : Pos) :
    wp M Γ t (Sem.finPost M Γ R) (fun e _ s' => R (.error e) s') p s := by
  refine Sem.wp_mono M Γ t (fun fin p' s' h' => ?_) (fun _ _ _ h' => h') p s (h Γ p hin hf)
  obtain ⟨f, rfl, hq⟩ := h'
  exact hq

theorem callFrom_g {c : ClaimW} {tree : List Value → Sem Fin} {w : World} {s : Shared} {free : Addr → Prop} {gens : Prop} {kept : Heap → Prop} (hz : s.asleep) (hgens : s.gens = #[])
    (hspec : ∀ args, c.pre args = true → WData.layableAll args = true →
      ∀ ord : List DictEntry → List DictEntry, (∀ l, (ord l).Perm l) →
      ∃ vs s₁, layAllW c.records (classAt s.heap) w.params ord args s = some (vs, s₁) ∧
        wpG (model c.prog w) callerA (tree vs) (fun fin s' => ∃ f, fin = .done f ∧ (c.Ends s args vs s₁ (.ok f) s' ∧ s'.os = s.os ∧ AllBare s'.gens ∧ kept s'.heap))
          (fun e s' => c.Ends s args vs s₁ (.error e) s' ∧ s'.os = s.os ∧ AllBare s'.gens ∧ kept s'.heap) s₁) :
    c.CallFrom (fun vs => ⟨tree vs, .builtin "claim.caller" {}, default, []⟩) w free gens kept s := by
  intro args hpre hlay ord hord
  refine shut fun X hX => ?_
  obtain ⟨vs, s₁, hlaid, hcode⟩ := hspec args hpre hlay ord hord
  have hal := layAllW_rest _ _ _ hlaid
  have hR := g_mono (Q' := fun fin s' => ∃ f, fin = .done f ∧ ((c.Ends s args vs s₁ (.ok f) s' ∧ s'.os = s.os ∧ kept s'.heap) ∧ leftWithCleanup s'.gens = false))
    (E' := fun e s' => (c.Ends s args vs s₁ (.error e) s' ∧ s'.os = s.os ∧ kept s'.heap) ∧ leftWithCleanup s'.gens = false) hcode
    (fun fin s' x => shut fun X hX => by
      obtain ⟨f, e, h1, h2, h3, h4⟩ := x
      exact hX ⟨f, e, ⟨h1, h2, h4⟩, leftWithCleanup_false_of_bare h3⟩)
    (fun e s' ⟨h1, h2, h3, h4⟩ => ⟨⟨h1, h2, h4⟩, leftWithCleanup_false_of_bare h3⟩)
  obtain ⟨k, r, s'', s', hsched, hrun, hfo, hcase, hos, hkp⟩ := wp_halts_full (M := model c.prog w)
    (R := fun r s' => c.Ends s args vs s₁ r s' ∧ s'.os = s.os ∧ kept s'.heap) (Shared.asleep_of_life hal.2.2.2 hz)
    (wp_of_g_done (R := fun r s' => (c.Ends s args vs s₁ r s' ∧ s'.os = s.os ∧ kept s'.heap) ∧ leftWithCleanup s'.gens = false) caller_in caller_fine hR default)
  obtain ⟨eh, _, _, eo, _⟩ := Shared.forget_eq hfo
  have hcase := hcase.congr eh
  rw [← eo] at hos
  have hlife : s'.heap.life = s.heap.life := (runN_life _ _ _ hrun).trans hal.2.2.2
  refine hX ⟨vs, s₁, hlaid, k, _, s', hsched, ?_, (fun _ i x hx => by rw [hgens] at hx; simp at hx), eh ▸ hkp, by rw [hlife], Shared.rest_eq hos⟩
  refine shut fun Y hY => ?_
  rcases hcase with ⟨v, rfl, d1, d2, d3, d4, d5⟩ | ⟨e, ob, cls, rfl, d1, d2, d3, d4, d5⟩
  · exact hY (.inl ⟨v, rfl, d1, d2, d3, fun b o y _ => d4 b o y, d5⟩)
  · exact hY (.inr ⟨e, ob, cls, rfl, d1, d2, d3, d4, fun b o y _ => d5 b o y⟩)

noncomputable abbrev WalkG (q : Program) (loose : List Str) (XP : (Str → Option Value) → Heap → Prop) (YP : World → Heap → Prop) (r : RowW) (d : DefRec) (kwd : List (Str × PySem.Expr)) : Prop :=
  ∀ (w : World) (s₀ s₁ : Shared) (mg mb : Str → Option Value), Ground q loose r.records XP w s₀ mg mb s₁.heap → YP w s₁.heap → ∀ (a : Addr) (o : Obj) (pm cd doc dV kV : Value), s₁.heap.get? a = some o →
    o.data = .func { docDef d.name d.params d.body d.scope pm cd doc with defaults := dV, kwdefaults := kV } → s₁.heap.CodeRec cd d.name → Dflts mg s₁.heap d.params kwd dV kV → mg d.name = some (.ref a) → s₁.gens = #[] →
    ∀ (args : List WData) (vals : List Value) (as : List Addr), r.claim.pre args = true → WData.layableAll args = true → ReadsAllW r.records (classAt s₀.heap) s₁.heap vals args as → WellAll w.params s₁.heap vals args → (∀ a ∈ as, (a == sysModules) = false) →
      wpG (model r.prog w) callerA (call (.ref a) vals) (fun v s' => GoodWG r.claim (classAt s₀.heap) (ExcName.means s₀.heap) args s₁ (.ok (.ret v)) s')
        (fun e s' => GoodWG r.claim (classAt s₀.heap) (ExcName.means s₀.heap) args s₁ (.error e) s') s₁

theorem PySem.W.holds_open {r : OpenRow} {q : Program} {loose : List Str} {Xt : Shared → Bool} {XP : (Str → Option Value) → Heap → Prop} {α : Type} {Yf : Shared → α} {Ya : World → α} {YP : World → Heap → Prop} {d : DefRec} {kwd : List (Str × PySem.Expr)} {N : Nat}
    (left : LeftO r.prog q loose Xt Yf Ya N) (hY : ∀ w s, Yf s = Ya w → YP w s.heap) (hYk : ∀ w h h', YP w h → (∀ b o, h.get? b = some o → h'.get? b = some o) → YP w h')
    (hX : ∀ s, Xt s = true → XP (s.heap.nsMap mainGlobals) s.heap) (hXk : ∀ mg h h', XP mg h → (∀ b o, h.get? b = some o → h'.get? b = some o) → XP mg h')
    (hdef : defOf q r.name = some (d, kwd)) (hp : r.prog.theDef r.name = some (d.params, d.body, d.scope)) (hk : kwWritten? d.params.kwonlyargs d.params.kw_defaults = some kwd) (hRf : ∀ s, Xt s = true → RecFacts r.records s.heap) (hwr : (!r.writes || r.records.isEmpty) = true)
    (k1 : r.wellSaid = true) (ok : (chainsOk q && opensWell r.prog && (frees r.toRowW && r.within.isEmpty)) = true) (hb : r.prog.bare) (hw : r.toRowW.promised)
    (walk : WalkG q loose XP YP r.toRowW d kwd) : r.Holds := by
  refine ⟨k1, hw, ?_⟩
  obtain ⟨ok, k5⟩ := Bool.and_eq_true_iff.mp ok
  obtain ⟨hch, o1⟩ := Bool.and_eq_true_iff.mp ok
  obtain ⟨k5, k6⟩ := Bool.and_eq_true_iff.mp k5
  obtain ⟨hsame, hu, ha, hap, hm⟩ := frees_parts k5
  refine ⟨⟨hb, o1, by show r.makers.map _ = []; rw [hm]; rfl⟩, hw.witness, fun w => ⟨(left.behind hX hch w).1, fun s' hs' => shut fun X hX0 => ?_⟩⟩
  obtain ⟨s₀, hf, hg0, s, hT, hz, hgens, hg, G00, y⟩ := (left.behind (XP := fun mg h => XP mg h ∧ RecFacts r.records h) (fun s hs => ⟨hX s hs, hRf s hs⟩) hch w).2 s' hs'
  have G0 : Ground q loose [] XP w s (s.heap.nsMap mainGlobals) (s.heap.nsMap builtinsNs) s.heap := ⟨G00.T, G00.B, G00.D, G00.TE, G00.TD, G00.W, G00.X.1, G00.cls, G00.has, G00.apart, G00.once, G00.K⟩
  have RF := G00.X.2
  have hT' := hT
  refine hX0 ⟨s₀, hf, hg0, s, hT, fun n hn => ?_, RF.1, RF.2.1, ?_⟩
  · obtain rfl : n = r.name := by split at hn <;> simp_all
    exact pinned_of_view hg G0 hdef hp hk
  have hgens : s.gens = #[] := Array.eq_empty_of_size_eq_zero (beq_iff_eq.mp hgens)
  have G : Ground q loose r.records XP w s _ _ s.heap := RF.ground G0
  refine callFrom_g (c := r.toRowW.claim) (tree := fun vs => do match ← nsGet mainNs r.name with
      | some f => do ret (← PySem.call f vs)
      | none => unsupported "claim.caller:no-such-global") hz hgens fun args hpre hlay ord hord => shut fun Y hY0 => ?_
  obtain ⟨⟨vs, s₁⟩, hlaid⟩ := Option.isSome_iff_exists.mp (layAllW_isSome (P := w.params) (ord := ord) G.has args r.args s (pre_splitW hpre).1)
  have keeps := layAllW_keeps _ _ _ hlaid
  have hal := layAllW_rest _ _ _ hlaid
  obtain ⟨as, hrd, hin, hold⟩ := reads_layAllW hord _ _ _ hlaid hlay s₁.heap (fun _ _ e => e)
  have L : Laid r.records w s s₁ args vs as := ⟨⟨ord, hord, hlaid⟩, hrd, hin, hold, keeps, hal.1.trans hgens, hal.2.2.1⟩
  have G₁ := G.keeps hXk keeps
  obtain ⟨a, o, pm, cd, doc, dV, kV, h1, h2, h3, h4, h5⟩ := G₁.fn hdef
  have h := walk w s s₁ _ _ G₁ (hYk _ _ _ (hY w s y) keeps) a o pm cd doc dV kV h2 h3 h4 h5 (defOf_name hdef ▸ h1) L.gens args vs as hpre hlay L.reads L.well (L.low G.low)
  have hi := ident_freeW hu ha hap
  have hwi : r.toRowW.claim.within = [] := List.isEmpty_iff.mp k6
  refine hY0 ⟨vs, s₁, hlaid, g_bind (lift (wpAny_nsGet G₁.T.g ?_))⟩
  rw [h1]
  refine g_bind (g_mono h (fun v s' g => g_pure ⟨_, rfl, ?_⟩) fun e s' g => ?_)
  · have z := g.laid (c := r.toRowW.claim) hsame hwi hi L
    exact ⟨z.1, z.2.1, z.2.2, fun q => ⟨namesKept_of hT' hg _ keeps g.2.1.old, noTable hwr q⟩⟩
  · have z := g.laid (c := r.toRowW.claim) hsame hwi hi L
    exact ⟨z.1, z.2.1, z.2.2, fun q => ⟨namesKept_of hT' hg _ keeps g.2.1.old, noTable hwr q⟩⟩
end Mine
end

section
open PySem PySem.W PySem.Calls PyProof.Rows
set_option maxRecDepth 100000
set_option maxHeartbeats 8000000
namespace Mine
open_top hd for PySem.Challenge.rw_tk0089_01
end Mine
end

section
open PySem PySem.W PySem.Calls PyProof.Rows
open PySem.Sem (wp)
set_option maxRecDepth 100000
namespace Mine

/-! States, frames, evaluation of plain expressions. -/

structure Rest where
  g : Array GenState
  d : Drawn
  o : OsState
@[reducible] def Rest.at (r : Rest) (h : Heap) (tk : Nat) : Shared := ⟨h, r.g, r.d, tk, r.o⟩

noncomputable def Kp (h h' : Heap) : Prop := ∀ b x, h.get? b = some x → h'.get? b = some x
theorem Kp.refl (h : Heap) : Kp h h := fun _ _ e => e
theorem Kp.trans {a b c : Heap} (x : Kp a b) (y : Kp b c) : Kp a c := fun i o e => y i o (x i o e)

noncomputable def KpB (wr : List Addr) (h h' : Heap) : Prop := ∀ b o, b ∉ wr → h.get? b = some o → h'.get? b = some o
theorem KpB.refl (wr : List Addr) (h : Heap) : KpB wr h h := fun _ _ _ e => e
theorem KpB.trans {wr : List Addr} {a b c : Heap} (x : KpB wr a b) (y : KpB wr b c) : KpB wr a c := fun i o hi e => y i o hi (x i o hi e)
theorem KpB.mono {wr wr' : List Addr} {a b : Heap} (x : KpB wr a b) (hs : ∀ i ∈ wr, i ∈ wr') : KpB wr' a b := fun i o hi e => x i o (fun q => hi (hs i q)) e
theorem Kp.but {wr : List Addr} {h h' : Heap} (k : Kp h h') : KpB wr h h' := fun b o _ e => k b o e
theorem KpB.kp {h₀ h h' : Heap} {wr : List Addr} (k : KpB wr h h') (k₀ : Kp h₀ h) (hw : ∀ b ∈ wr, h₀.get? b = none) : Kp h₀ h' := fun b o e => k b o (fun hb => by rw [hw b hb] at e; cases e) (k₀ b o e)
theorem Kp.push (h : Heap) (o : Obj) : Kp h (h.push o) := fun _ _ e => Heap.get?_push_of_some _ e

theorem lt_dec {a b : Nat} (h : decide ((a : Int) < (b : Int)) = true) : a < b := Int.ofNat_lt.mp (of_decide_eq_true h)
theorem nlt_dec {a b : Nat} (h : decide ((a : Int) < (b : Int)) = false) : ¬ a < b := fun q => of_decide_eq_false h (Int.ofNat_lt.mpr q)
theorem ge_dec {a b : Nat} (h : decide ((a : Int) ≥ (b : Int)) = true) (q : a < b) : False := Nat.not_le.mpr q (Int.ofNat_le.mp (of_decide_eq_true h))
theorem gt_dec {a b c : Nat} (h : decide ((a : Int) + (b : Int) > (c : Int)) = true) (q : a + b ≤ c) : False := absurd (of_decide_eq_true h) (Int.not_lt.mpr (by rw [← Int.natCast_add]; exact Int.ofNat_le.mpr q))
theorem Kp.none' {h h' : Heap} {b : Addr} (k : Kp h h') (e : h'.get? b = none) : h.get? b = none := by
  cases q : h.get? b with
  | none => rfl
  | some o => rw [k _ _ q] at e; cases e
theorem seqIx {i : Int} {n : Nat} (h0 : 0 ≤ i) (h1 : i < n) : seqIndex? i n = some i.toNat := by
  have e : (if i < 0 then i + n else i) = i := if_neg (Int.not_lt.mpr h0)
  unfold seqIndex?
  simp only [e, decide_eq_true h0, decide_eq_true h1]
  rfl
theorem seqIxN {i n : Nat} (h : i < n) : seqIndex? (i : Int) n = some i := seqIx (Int.natCast_nonneg i) (Int.ofNat_lt.mpr h)
theorem nm {a b : Addr} (h : a ≠ b) : a ∉ [b] := fun q => by cases q with
  | head => exact h rfl
  | tail _ q => cases q
theorem nm2 {a b c : Addr} (h : a ≠ b) (h2 : a ≠ c) : a ∉ [b, c] := fun q => by cases q with
  | head => exact h rfl
  | tail _ q => exact nm h2 q

/-- what the text's own run has laid -/
structure SB (K : Frag) (mg mb : Str → Option Value) (h : Heap) : Prop where
  X : K.In h
  g : h.Ns mainGlobals mg
  b : h.Ns builtinsNs mb
  bb : ∀ x : Str, x ≠ "__name__" → mb x = bootBuiltins x
  lim : h.NoLimit
theorem SB.keeps {K : Frag} {mg mb : Str → Option Value} {h h' : Heap} (S : SB K mg mb h) (k : Kp h h') : SB K mg mb h' :=
  ⟨fun a o e => k a o (S.X a o e), S.g.keeps k, S.b.keeps k, S.bb, S.lim.keeps k⟩

structure Room (A : Around) (n : Nat) : Prop where
  depth : A.depth + n < recursionLimit
  units : A.units + 8 * n < cLine
  guards : A.guards = some []
  hand : A.handled = none
theorem Room.deeper {A : Around} {n : Nat} (R : Room A (n + 1)) (env : Env) : Room (A.deeper env) n :=
  ⟨by have := R.depth; show A.depth + 1 + n < _; lia, by have := R.units; show A.units + 3 + 8 * n < _; lia, R.guards, R.hand⟩
theorem Room.le {A : Around} {n k : Nat} (R : Room A n) (h : k ≤ n) : Room A k :=
  ⟨by have := R.depth; lia, by have := R.units; lia, R.guards, R.hand⟩
theorem Room.in1 {A : Around} {n : Nat} (R : Room A (n + 1)) : Room A.in1 n :=
  ⟨by have := R.depth; show A.depth + n < _; lia, by have := R.units; show A.units + 1 + 8 * n < _; lia, R.guards, R.hand⟩
theorem Room.dep {A : Around} {n : Nat} (R : Room A n) : A.depth < recursionLimit := by have := R.depth; lia
theorem Room.un {A : Around} {n : Nat} (R : Room A n) : A.units < cLine := by have := R.units; lia

noncomputable def upd (m : Str → Option Value) (x : Str) (v : Value) : Str → Option Value := fun y => if y = x then some v else m y
theorem upd_same {m : Str → Option Value} {x : Str} {v : Value} : upd m x v x = some v := if_pos rfl
theorem upd_ne {m : Str → Option Value} {x y : Str} {v : Value} (h : y ≠ x) : upd m x v y = m y := if_neg h

structure Fm (h₀ : Heap) (L : Addr) (m : Str → Option Value) (news : List (Addr × Obj)) (h : Heap) : Prop where
  F : Fr h₀ L h m
  N : News h₀ L h news
theorem Fm.kept {h₀ h h' : Heap} {L : Addr} {m : Str → Option Value} {news : List (Addr × Obj)} (S : Fm h₀ L m news h) (k : Kp h h') : Fm h₀ L m news h' := ⟨S.F.kept k, S.N.grown k⟩
theorem Fm.kp {h₀ h : Heap} {L : Addr} {m : Str → Option Value} {news : List (Addr × Obj)} (S : Fm h₀ L m news h) : Kp h₀ h := S.F.keep

noncomputable def Ev (M : Model) (A : Around) (env : Env) (r : Rest) (h : Heap) (e : Expr) (P : Value → Prop) : Prop :=
  ∀ (E Q : Value → Shared → Prop) (tk : Nat), (∀ v tk', P v → Q v (r.at h tk')) → wpG M A (eval e env) Q E (r.at h tk)
noncomputable def Et (M : Model) (A : Around) (env : Env) (r : Rest) (h : Heap) (e : Expr) (b : Bool) : Prop :=
  ∀ (E : Value → Shared → Prop) (Q : Bool → Shared → Prop) (tk : Nat), (∀ tk', Q b (r.at h tk')) → wpG M A (isTrue e env (eval e env)) Q E (r.at h tk)
noncomputable def Evs (M : Model) (A : Around) (env : Env) (r : Rest) (h : Heap) (es : List Expr) (P : List Value → Prop) : Prop :=
  ∀ (E : Value → Shared → Prop) (Q : List Value → Shared → Prop) (pos : Pos) (tk : Nat), (∀ vs tk', P vs → Q vs (r.at h tk')) → wpG M A (spliced (backTo pos (starEach es env))) Q E (r.at h tk)

noncomputable def IsI (i : Int) (v : Value) : Prop := ∃ t, v = .int i t
noncomputable def IsBy (b : Array UInt8) (v : Value) : Prop := ∃ t, v = .bytes b t
noncomputable def IsS (x : Str) (v : Value) : Prop := ∃ t, v = .str x t

section
variable {prog : Program} {w : World} {A : Around} {E : Value → Shared → Prop} {env : Env} {r : Rest} {h h₀ : Heap} {L : Addr} {m : Str → Option Value} {news : List (Addr × Obj)} {K : Frag} {mg mb : Str → Option Value}

theorem Ev.mono {M : Model} {e : Expr} {P P' : Value → Prop} (x : Ev M A env r h e P) (hp : ∀ v, P v → P' v) : Ev M A env r h e P' :=
  fun E Q tk hq => x E Q tk fun v tk' hv => hq v tk' (hp v hv)

theorem Ev.loc {M : Model} {x : Str} {pos : Pos} {v : Value} {P : Value → Prop} (S : Fm h₀ L m news h) (hv : m x = some v) (hp : P v) (hL : env.locals = L := by rfl)
    (hk : env.scope.kind = .function := by rfl) (hl : env.kindOf x = some .local := by rfl) (hd : (x == ("__debug__" : Str)) = false := by decide) :
    Ev M A env r h (.Name x pos) P := fun _ _ tk hq => by
  subst hL
  exact lift (wpAny_Name (wpAny_loadName_local (s := r.at h tk) hk hl S.F.ns hv (hq v tk hp)) hd)

theorem Ev.glob {M : Model} {x : Str} {pos : Pos} {v : Value} {P : Value → Prop} (S : SB K mg mb h) (e : nsIn K mainGlobals x = some (some v)) (hp : P v) (hg : env.globals = mainGlobals := by rfl)
    (hk : env.scope.kind = .function := by rfl) (hx : env.kindOf x = some .globalImplicit := by rfl) (hd : (x == ("__debug__" : Str)) = false := by decide) :
    Ev M A env r h (.Name x pos) P := fun _ _ tk hq => by
  refine lift (Calls.Name_function_global (s := r.at h tk) hk hx (Calls.loadGlobal_global (by rw [hg]; exact S.g) (mg_of S.X S.g e) (hq v tk hp)) hd)
theorem Ev.blt {M : Model} {x : Str} {pos : Pos} {v : Value} {P : Value → Prop} (S : SB K mg mb h) (e : nsIn K mainGlobals x = some none) (hv : bootBuiltins x = some v) (hp : P v) (hn : x ≠ "__name__" := by decide)
    (hg : env.globals = mainGlobals := by rfl) (hb : env.builtins = builtinsNs := by rfl)
    (hk : env.scope.kind = .function := by rfl) (hx : env.kindOf x = some .globalImplicit := by rfl) (hd : (x == ("__debug__" : Str)) = false := by decide) :
    Ev M A env r h (.Name x pos) P := fun _ _ tk hq => by
  refine lift (Calls.Name_function_global (s := r.at h tk) hk hx (Calls.loadGlobal_builtin (mg := mg) (mb := mb) (by rw [hg]; exact S.g) (mg_none_of S.X S.g e) (by rw [hb]; exact S.b) ((S.bb x hn).trans hv) (hq v tk hp)) hd)

theorem Ev.int {M : Model} {i : Int} {k : Nat} {pos : Pos} : Ev M A env r h (.Constant (.int i) k pos) (IsI i) := fun _ _ tk hq =>
  lift (wpAny_Constant_int (s := r.at h tk) (hq (.int i tk) (tk + 1) ⟨_, rfl⟩))
theorem Ev.str {M : Model} {x : Str} {k : Nat} {pos : Pos} : Ev M A env r h (.Constant (.str x) k pos) (IsS x) := fun _ _ tk hq =>
  lift (Calls.Constant_str (s := r.at h tk) (hq (.str x tk) (tk + 1) ⟨_, rfl⟩))
theorem Ev.none {M : Model} {k : Nat} {pos : Pos} : Ev M A env r h (.Constant .none k pos) (· = .none) := fun _ _ tk hq => g_pure (hq .none tk rfl)
theorem Ev.bool {M : Model} {b : Bool} {k : Nat} {pos : Pos} : Ev M A env r h (.Constant (.bool b) k pos) (· = .bool b) := fun _ _ tk hq => g_pure (hq (.bool b) tk rfl)

theorem g_BinOp {M : Model} {l op rr pos} {s : Shared} {Q : Value → Shared → Prop}
    (x : wpG M A (eval l env) (fun a s₁ => wpG M A (eval rr env) (fun b s₂ => wpG M A (binaryOp op a b) Q E s₂) E s₁) E s) :
    wpG M A (eval (.BinOp l op rr pos) env) Q E s := fun Γ p hΓ hf => by
  simp only [eval_BinOp, Sem.wp_bind', Sem.wp_holding, Sem.wp_cmd_standAt, Sem.wp_operate]
  exact Sem.wp_mono M Γ _ (fun a p₁ s₁ h₁ => Sem.wp_mono M Γ _ (fun b _ s₂ h₂ => h₂ Γ _ hΓ hf) (fun _ _ _ h' => h') _ _ (h₁ Γ p₁ hΓ hf))
    (fun _ _ _ h' => h') _ _ (x Γ p hΓ hf)

/-- an operation of two ints that changes nothing -/
noncomputable def OpI (M : Model) (A : Around) (op : Operator) (a b c : Int) : Prop := ∀ (r : Rest) (h : Heap) (E Q : Value → Shared → Prop) (t u tk : Nat), (∀ t tk', Q (.int c t) (r.at h tk')) → wpG M A (binaryOp op (.int a t) (.int b u)) Q E (r.at h tk)

theorem Ev.bin {M : Model} {l rr : Expr} {op : Operator} {pos : Pos} {a b c : Int} (x : Ev M A env r h l (IsI a)) (y : Ev M A env r h rr (IsI b)) (z : OpI M A op a b c) :
    Ev M A env r h (.BinOp l op rr pos) (IsI c) := fun E Q tk hq => by
  refine g_BinOp (x _ _ _ fun v tk₁ hv => y _ _ _ fun v' tk₂ hv' => ?_)
  obtain ⟨t, rfl⟩ := hv
  obtain ⟨u, rfl⟩ := hv'
  exact z r h E Q t u tk₂ fun t' tk' => hq _ _ ⟨t', rfl⟩

theorem OpI.add {a b : Int} : OpI (model prog w) A .Add a b (a + b) := fun r h E Q t u tk hq => lift (PySem.P.add_int (s := r.at h tk) (hq _ _))
theorem OpI.sub {a b : Int} : OpI (model prog w) A .Sub a b (a - b) := fun r h E Q t u tk hq => lift (PySem.P.sub_int (s := r.at h tk) (hq _ _))
theorem OpI.mul {a b : Int} (hm : IntMulOk a b) : OpI (model prog w) A .Mult a b (a * b) := fun r h E Q t u tk hq => lift (PySem.P.mul_int (s := r.at h tk) (hq _ _) hm)
theorem OpI.mod {a b : Int} (hb : b ≠ 0) : OpI (model prog w) A .Mod a b (a.fmod b) := fun r h E Q t u tk hq => lift (mod_int' (s := r.at h tk) hb (hq _ _))
theorem OpI.fdiv {a b : Int} (hb : b ≠ 0) (hp : Builtin.divisionGoesByPylong a b = false) : OpI (model prog w) A .FloorDiv a b (a.fdiv b) := fun r h E Q t u tk hq => lift (floordiv_int (s := r.at h tk) hb (hq _ _) (.inl hp))
theorem OpI.shl {a n : Int} (hn : 0 ≤ n) (hn2 : n ≤ 1000000) (ha : a.natAbs < 2 ^ 64) : OpI (model prog w) A .LShift a n (a * 2 ^ n.toNat) := fun r h E Q t u tk hq => lift (lshift_int_small (s := r.at h tk) hn hn2 ha (hq _ _))
theorem OpI.shr {a n : Int} (hn : 0 ≤ n) : OpI (model prog w) A .RShift a n (a.fdiv (2 ^ n.toNat)) := fun r h E Q t u tk hq => lift (rshift_int (s := r.at h tk) hn (hq _ _))
theorem OpI.and {a b : Int} : OpI (model prog w) A .BitAnd a b (Builtin.bitAnd a b) := fun r h E Q t u tk hq => lift (and_int (s := r.at h tk) (hq _ _))
theorem OpI.or {a b : Int} : OpI (model prog w) A .BitOr a b (Builtin.bitOr a b) := fun r h E Q t u tk hq => lift (or_int (s := r.at h tk) (hq _ _))
theorem OpI.pow {a n : Int} (hn : 0 ≤ n) (hn2 : n ≤ 1000000) (ha : a.natAbs < 2 ^ 64) : OpI (model prog w) A .Pow a n (a ^ n.toNat) := fun r h E Q t u tk hq => lift (pow_int_small (s := r.at h tk) hn hn2 ha (hq _ _))
theorem OpI.eq {M : Model} {op : Operator} {a b c c' : Int} (x : OpI M A op a b c) (e : c = c') : OpI M A op a b c' := e ▸ x

/-! comparisons -/
noncomputable def CmpI (M : Model) (A : Around) (op : CmpOp) (a b : Int) (c : Bool) : Prop := ∀ (s : Shared) (E Q : Value → Shared → Prop) (t u : Nat), Q (.bool c) s → wpG M A (compareOp op (.int a t) (.int b u)) Q E s
theorem CmpI.eq {a b : Int} : CmpI (model prog w) A .Eq a b (a == b) := fun _ _ _ _ _ hq => lift (PySem.P.eq_int hq)
theorem CmpI.ne {a b : Int} : CmpI (model prog w) A .NotEq a b (a != b) := fun _ _ _ _ _ hq => lift (PySem.P.ne_int hq)
theorem CmpI.lt {a b : Int} : CmpI (model prog w) A .Lt a b (decide (a < b)) := fun _ _ _ _ _ hq => lift (PySem.P.lt_int hq)
theorem CmpI.le {a b : Int} : CmpI (model prog w) A .LtE a b (decide (a ≤ b)) := fun _ _ _ _ _ hq => lift (PySem.P.le_int hq)
theorem CmpI.gt {a b : Int} : CmpI (model prog w) A .Gt a b (decide (a > b)) := fun _ _ _ _ _ hq => lift (PySem.P.gt_int hq)
theorem CmpI.ge {a b : Int} : CmpI (model prog w) A .GtE a b (decide (a ≥ b)) := fun _ _ _ _ _ hq => lift (PySem.P.ge_int hq)

theorem g_isTrue_Compare1 {M : Model} {l op rr pos whole} {s : Shared} {Q : Bool → Shared → Prop}
    (x : wpG M A (eval l env) (fun a s₁ => wpG M A (eval rr env) (fun b s₂ => wpG M A (compareOp op a b)
      (fun c s₃ => wpG M A (truthy c) Q E s₃) E s₂) E s₁) E s)
    (hm : behindInMarks op rr = false := by with_unfolding_all rfl) : wpG M A (isTrue (.Compare l [op] [rr] pos) env whole) Q E s := fun Γ p hΓ hf => by
  simp only [isTrue_Compare1, markedBehindIn_of_false hm, Sem.wp_bind', Sem.wp_holding, Sem.wp_cmd_standAt, Sem.wp_operate]
  exact Sem.wp_mono M Γ _ (fun a p₁ s₁ h₁ => Sem.wp_mono M Γ _ (fun b _ s₂ h₂ => Sem.wp_mono M Γ _ (fun c p₃ s₃ h₃ => h₃ Γ p₃ hΓ hf)
    (fun _ _ _ h' => h') _ _ (h₂ Γ _ hΓ hf)) (fun _ _ _ h' => h') _ _ (h₁ Γ p₁ hΓ hf)) (fun _ _ _ h' => h') _ _ (x Γ p hΓ hf)

theorem g_Compare1 {M : Model} {l op rr pos} {s : Shared} {Q : Value → Shared → Prop}
    (x : wpG M A (eval l env) (fun a s₁ => wpG M A (eval rr env) (fun b s₂ => wpG M A (compareOp op a b) Q E s₂) E s₁) E s)
    (hm : behindInMarks op rr = false := by with_unfolding_all rfl) :
    wpG M A (eval (.Compare l [op] [rr] pos) env) Q E s := fun Γ p hΓ hf => by
  simp only [eval_Compare1, markedBehindIn_of_false hm, Sem.wp_bind', Sem.wp_holding, Sem.wp_cmd_standAt, Sem.wp_operate]
  exact Sem.wp_mono M Γ _ (fun a p₁ s₁ h₁ => Sem.wp_mono M Γ _ (fun b _ s₂ h₂ => h₂ Γ _ hΓ hf) (fun _ _ _ h' => h') _ _ (h₁ Γ p₁ hΓ hf))
    (fun _ _ _ h' => h') _ _ (x Γ p hΓ hf)

theorem g_truthy_bool {M : Model} {b : Bool} {s : Shared} {Q : Bool → Shared → Prop} (x : Q b s) : wpG M A (truthy (.bool b)) Q E s := lift (wpAny_truthy_bool x)

theorem Et.cmp {M : Model} {l rr : Expr} {op : CmpOp} {pos : Pos} {a b : Int} {c : Bool} (x : Ev M A env r h l (IsI a)) (y : Ev M A env r h rr (IsI b)) (z : CmpI M A op a b c)
    (hm : behindInMarks op rr = false := by with_unfolding_all rfl) : Et M A env r h (.Compare l [op] [rr] pos) c := fun E Q tk hq => by
  refine g_isTrue_Compare1 (x _ _ _ fun v tk₁ hv => y _ _ _ fun v' tk₂ hv' => ?_) hm
  obtain ⟨t, rfl⟩ := hv
  obtain ⟨u, rfl⟩ := hv'
  exact z _ _ _ t u (g_truthy_bool (hq _))
theorem Ev.cmp {M : Model} {l rr : Expr} {op : CmpOp} {pos : Pos} {a b : Int} {c : Bool} (x : Ev M A env r h l (IsI a)) (y : Ev M A env r h rr (IsI b)) (z : CmpI M A op a b c)
    (hm : behindInMarks op rr = false := by with_unfolding_all rfl) : Ev M A env r h (.Compare l [op] [rr] pos) (· = .bool c) := fun E Q tk hq => by
  refine g_Compare1 (x _ _ _ fun v tk₁ hv => y _ _ _ fun v' tk₂ hv' => ?_) hm
  obtain ⟨t, rfl⟩ := hv
  obtain ⟨u, rfl⟩ := hv'
  exact z _ _ _ t u (hq _ _ rfl)
theorem Et.eq {M : Model} {e : Expr} {b c : Bool} (x : Et M A env r h e b) (q : b = c) : Et M A env r h e c := q ▸ x

/-! `and`, `or` in a test -/
theorem g_allTrue_cons {M : Model} {op : BoolOp} {x : Expr} {rest : List Expr} {s : Shared} {Q : Bool → Shared → Prop}
    (k : wpG M A (isTrue x env (eval x env)) (fun b s' => match op, b with | .And, false => Q false s' | .Or, true => Q true s' | _, _ => wpG M A (allTrue op rest env) Q E s') E s) :
    wpG M A (allTrue op (x :: rest) env) Q E s := by
  show wpG M A (do match op, ← isTrue x env (eval x env) with
    | .And, false => pure false
    | .Or, true => pure true
    | _, _ => allTrue op rest env) Q E s
  refine g_bind (g_mono k (fun b s' hb => ?_) fun _ _ e => e)
  cases op <;> cases b <;> first | exact g_pure hb | exact hb
theorem Et.or2 {M : Model} {x y : Expr} {pos : Pos} {a b : Bool} (hx : Et M A env r h x a) (hy : a = false → Et M A env r h y b) : Et M A env r h (.BoolOp .Or [x, y] pos) (a || b) := fun E Q tk hq => by
  show wpG M A (allTrue .Or [x, y] env) Q E _
  refine g_allTrue_cons (hx _ _ _ fun tk₁ => ?_)
  cases a with
  | true => exact hq _
  | false =>
    refine g_allTrue_cons (hy rfl _ _ _ fun tk₂ => ?_)
    cases b with
    | true => exact hq _
    | false => exact g_pure (hq _)
theorem Et.and2 {M : Model} {x y : Expr} {pos : Pos} {a b : Bool} (hx : Et M A env r h x a) (hy : a = true → Et M A env r h y b) : Et M A env r h (.BoolOp .And [x, y] pos) (a && b) := fun E Q tk hq => by
  show wpG M A (allTrue .And [x, y] env) Q E _
  refine g_allTrue_cons (hx _ _ _ fun tk₁ => ?_)
  cases a with
  | false => exact hq _
  | true =>
    refine g_allTrue_cons (hy rfl _ _ _ fun tk₂ => ?_)
    cases b with
    | false => exact hq _
    | true => exact g_pure (hq _)

/-! arguments -/
theorem g_spliced_none {M : Model} {pos : Pos} {s : Shared} {Q : List Value → Shared → Prop} (x : Q [] s) : wpG M A (spliced (backTo pos (starEach [] env))) Q E s := lift (spliced_none x)
theorem g_spliced {M : Model} {e : Expr} {rest : List Expr} {pos : Pos} {s : Shared} {Q : List Value → Shared → Prop}
    (x : wpG M A (eval e env) (fun v s₁ => wpG M A (spliced (backTo pos (starEach rest env))) (fun vs s₂ => Q (v :: vs) s₂) E s₁) E s)
    (he : starEach (e :: rest) env = (false, eval e env) :: starEach rest env := by rfl) : wpG M A (spliced (backTo pos (starEach (e :: rest) env))) Q E s := by
  rw [he]
  show wpG M A (spliced ((false, eval e env) :: backTo pos (starEach rest env))) Q E s
  rw [spliced]
  refine g_bind (g_mono x (fun v s₁ h₁ => ?_) fun _ _ x => x)
  simp only [Bool.false_eq_true, if_false]
  exact g_bind (g_pure (g_bind (g_holding (g_mono h₁ (fun vs s₂ h₂ => g_pure h₂) fun _ _ x => x))))
theorem Evs.nil {M : Model} : Evs M A env r h [] (· = []) := fun _ _ _ tk hq => g_spliced_none (hq [] tk rfl)
theorem Evs.cons {M : Model} {e : Expr} {rest : List Expr} {P : Value → Prop} {Ps : List Value → Prop} (x : Ev M A env r h e P) (xs : Evs M A env r h rest Ps)
    (he : starEach (e :: rest) env = (false, eval e env) :: starEach rest env := by rfl) : Evs M A env r h (e :: rest) (fun vs => ∃ v vs', vs = v :: vs' ∧ P v ∧ Ps vs') := fun E Q pos tk hq =>
  g_spliced (x _ _ _ fun v tk₁ hv => xs _ _ _ _ fun vs tk₂ hvs => hq _ _ ⟨v, vs, rfl, hv, hvs⟩) he

/-! calls by a name -/
theorem g_evalArgs0 {M : Model} {f : Value} {s : Shared} {Q : Args → Shared → Prop} (x : Q ⟨[], []⟩ s) : wpG M A (evalArgs f true [] []) Q E s := lift (evalArgs_nil3 x)
theorem g_evalArgs1 {M : Model} {f : Value} {t : Sem Value} {rest : List (Bool × Sem Value)} {s : Shared} {Q : Args → Shared → Prop}
    (x : wpG M A (spliced ((false, t) :: rest)) (fun vs s' => Q ⟨vs, []⟩ s') E s) : wpG M A (evalArgs f true ((false, t) :: rest) []) Q E s := by
  unfold evalArgs
  show wpG M A (spliced ((false, t) :: rest) >>= _) Q E s
  refine g_bind (g_mono x (fun vs s' h' => ?_) fun _ _ x => x)
  refine g_holding ?_
  exact g_bind (g_pure (g_bind (g_pure (g_pure h'))))

theorem g_callBehind {M : Model} {f : Value} {first : List Value} {pos : Pos} {trees : List (Bool × Sem Value)} {k : Keeper} {s : Shared} {Q : Value → Shared → Prop}
    (hk : k = .frame ∨ k = .machine) (hstar : trees.any (·.1) = false)
    (x : wpG M A (evalArgs f true trees []) (fun a s₁ => a.kw = [] ∧ Looks M s₁.heap (keeperOf f) k ∧ wpG M A (call f (first ++ a.pos)) Q E s₁) E s) :
    wpG M A (callWith pos f first trees []) Q E s := by
  unfold callWith
  refine g_bind (g_holding (g_mono x (fun a s₁ h₁ => g_bind (g_standAt ?_)) fun _ _ x => x))
  obtain ⟨hkw, hl, hc⟩ := h₁
  dsimp only
  rw [hstar, hkw]
  refine g_bind (lift (hl.here ?_))
  have tail : ∀ {t : Sem Value}, wpG M A t Q E s₁ → wpG M A (t >>= fun r => holding [r] point >>= fun _ => pure r) Q E s₁ :=
    fun ht => g_bind (g_mono ht (fun r s₂ hr => g_bind (g_holding (g_point (g_pure hr)))) fun _ _ x => x)
  have marked (mk : Value) : wpG M A (callMarked mk f (first ++ a.pos) []) Q E s₁ := by unfold callMarked; exact g_keep hc
  rcases hk with rfl | rfl
  · show wpG M A (if trees.length + 2 * ([] : List (Option Str × Sem Value)).length > 30 then _ else _) Q E s₁
    split
    · exact tail hc
    · exact tail (marked _)
  · exact tail hc

theorem g_callWith {M : Model} {f : Value} {first : List Value} {pos : Pos} {e : Expr} {es : List Expr} {k : Keeper} {s : Shared} {Q : Value → Shared → Prop}
    (hk : k = .frame ∨ k = .machine)
    (x : wpG M A (spliced (backTo pos (starEach (e :: es) env))) (fun vs s₁ => Looks M s₁.heap (keeperOf f) k ∧ wpG M A (call f (first ++ vs)) Q E s₁) E s)
    (he : starEach (e :: es) env = (false, eval e env) :: starEach es env := by rfl) (hpl : (starEach es env).any (·.1) = false := by rfl) :
    wpG M A (callWith pos f first (backTo pos (starEach (e :: es) env)) []) Q E s := by
  rw [he] at x ⊢
  refine g_callBehind hk ?_ (g_evalArgs1 (t := eval e env) (g_mono x (fun vs s₁ h₁ => ⟨rfl, h₁⟩) fun _ _ x => x))
  have : (backTo pos (starEach es env)).any (·.1) = false := by unfold backTo; rw [List.any_map]; exact hpl
  show (false || (backTo pos (starEach es env)).any (·.1)) = false
  rw [this]; rfl
theorem g_callWith0 {M : Model} {f : Value} {first : List Value} {pos : Pos} {k : Keeper} {s : Shared} {Q : Value → Shared → Prop}
    (hk : k = .frame ∨ k = .machine) (hl : Looks M s.heap (keeperOf f) k) (x : wpG M A (call f (first ++ [])) Q E s) :
    wpG M A (callWith pos f first (backTo pos (starEach [] env)) []) Q E s := g_callBehind hk rfl (g_evalArgs0 ⟨rfl, hl, x⟩)

theorem g_Call {M : Model} {x : Str} {p pos : Pos} {es : List Expr} {s : Shared} {Q : Value → Shared → Prop}
    (k : wpG M A (eval (.Name x p) env) (fun f s₁ => wpG M A (callWith pos f [] (backTo pos (starEach es env)) []) Q E s₁) E s) :
    wpG M A (eval (.Call (.Name x p) es [] pos) env) Q E s := g_bind k
end
end Mine
end

section
open PySem PySem.W PySem.Calls PyProof.Rows
open PySem.Sem (wp)
set_option maxRecDepth 100000
namespace Mine

/-! Defs entered; statements. -/
section
variable {prog : Program} {w : World} {A : Around} {E : Value → Shared → Prop} {R : Result → Shared → Prop} {s : Shared}

theorem codeG_func {body env}
    (h : wpG (model prog w) (A.deeper env) (execs body env) (fun f s' => R (.ok (.ret (match f with | .ret v => v | _ => .none))) s')
      (fun e s' => wpG (model prog w) (A.deeper env) (leaving env e) (fun _ s'' => R (.error e) s'') (fun e' s'' => R (.error e') s'') s') s) :
    codeG (model prog w) A (.func body env) R s := by
  refine codeG_of_tree ?_
  show wpG _ (A.deeper env) (do point; match ← (execs body env).onRaise (leaving env) with | .ret v => ret v | _ => ret .none) _ _ s
  refine g_bind (g_point (g_bind (g_onRaise (g_mono h (fun f s' h' => ?_) fun _ _ h' => h'))))
  cases f <;> exact g_pure h'

theorem codeG_call_function {a : Addr} {args : Args} {o : Obj} {fd : FuncData} {body : List Stmt} (hroom : A.depth < recursionLimit)
    (ho : s.heap.get? a = some o)
    (hd' : o.data = .func fd) (hco : fd.scope.isCoroutine = false) (hgen : fd.scope.isGenerator = false) (hbody : fd.body = .stmts body) (hcd : s.heap.CodeRec fd.code fd.qualname)
    (h : wpG (model prog w) A.in1 (bindArgs fd args) (fun binds s₁ =>
      wpG (model prog w) A.in1 (newFunctionEnv fd.scope fd.globals fd.closure binds (fd.qualname ++ ".<locals>.") (some a) fd.code none fd.builtins)
        (fun env s₂ => s₂.heap.NoLimit ∧ codeG (model prog w) A (.func body env) R s₂) (fun e s' => R (.error e) s') s₁) (fun e s' => R (.error e) s') s) :
    codeG (model prog w) A (.call (.ref a) args) R s := by
  refine codeG_of_tree ?_
  show wpG _ A.in1 (callAny (.ref a) args) _ _ s
  simp only [callAny]
  refine g_bind (lift (wpAny_load ho ?_))
  refine shut fun X0 hX0 => ?_
  obtain ⟨c, oc, vs, tq, hc, hoc, hdc, hq⟩ := hcd
  refine hX0 ?_
  clear hX0
  simp only [hd', callFunction, hco, hgen, hbody, hc]
  rw [hc] at h
  refine g_bind (m := field (.ref c) 1) (lift (wpAny_field hoc hdc hq (g_bind (g_pure ?_))))
  exact g_bind (g_mono h (fun binds s₁ h₁ => g_bind (g_mono h₁ (fun env s₂ h₂ => g_bind (lift (wpAny_enterFrame h₂.1 hroom
    (g_pure (And.intro rfl ⟨rfl, h₂.2⟩))))) fun _ _ h' => h')) fun _ _ h' => h')
end

section
variable {prog : Program} {w : World} {A : Around} {E : Value → Shared → Prop} {r : Rest} {h : Heap} {tk : Nat} {K : Frag} {mg mb : Str → Option Value}

/-- the def at a written address -/
structure FnAt (K : Frag) (f : Addr) (fd : FuncData) (body : List Stmt) : Prop where
  there : ∃ c d sl, K.lookup f = some ⟨c, d, .func fd, sl⟩
  code : codeIn K fd.code fd.qualname = true
  body : fd.body = .stmts body
  co : fd.scope.isCoroutine = false
  gen : fd.scope.isGenerator = false
  kind : fd.scope.kind = .function

theorem call_g {f : Addr} {fd : FuncData} {body : List Stmt} {vs : List Value} {binds : List (Str × Value)} {Q : Value → Shared → Prop}
    (S : SB K mg mb h) (D : FnAt K f fd body) (hroom : A.depth < recursionLimit) (hbind : ∀ s, BindsTo s fd ⟨vs, []⟩ binds)
    (hcell : ∀ x ∈ fd.scope.names, x.2 ≠ .cell) (hloc : ∀ x ∈ binds, fd.scope.names.lookup x.1 = some .local)
    (k : ∀ h₁ tk₁, h₁.Ns h.objs.size (fun x => binds.reverse.lookup x) → Kp h h₁ →
      wpG (model prog w) (A.deeper (callEnv fd h.objs.size f)) (execs body (callEnv fd h.objs.size f)) (fun fl s' => Q (match fl with | .ret v => v | _ => .none) s')
        (fun e s' => wpG (model prog w) (A.deeper (callEnv fd h.objs.size f)) (leaving (callEnv fd h.objs.size f) e) (fun _ s'' => E e s'') (fun e' s'' => E e' s'') s') (r.at h₁ tk₁)) :
    wpG (model prog w) A (call (.ref f) vs) Q E (r.at h tk) := by
  refine shut fun X0 hX0 => ?_
  obtain ⟨c, d, sl, hl⟩ := D.there
  refine hX0 ?_
  clear hX0
  refine g_call (codeG_call_function (fd := fd) (body := body) hroom (S.X _ _ hl) rfl D.co D.gen D.body (codeRec_of S.X D.code) (lift (hbind _ _ _ _ _ ?_)))
  refine lift (wpAny_newFunctionEnv (s := r.at h tk) hcell hloc (fun h₁ hns hsb => ⟨S.lim.fresh _ hsb, codeG_func ?_⟩) D.kind)
  refine g_mono (k h₁ _ hns fun b o e => hsb.extBut b o (Nat.ne_of_lt (Heap.lt_size e)) (Heap.get?_push_of_some _ e)) (fun _ _ x => x) fun _ _ x => x

/-- no way raises -/
theorem call_g0 {f : Addr} {fd : FuncData} {body : List Stmt} {vs : List Value} {binds : List (Str × Value)} {Q : Value → Shared → Prop}
    (S : SB K mg mb h) (D : FnAt K f fd body) (hroom : A.depth < recursionLimit) (hbind : ∀ s, BindsTo s fd ⟨vs, []⟩ binds)
    (hcell : ∀ x ∈ fd.scope.names, x.2 ≠ .cell) (hloc : ∀ x ∈ binds, fd.scope.names.lookup x.1 = some .local)
    (k : ∀ h₁ tk₁, h₁.Ns h.objs.size (fun x => binds.reverse.lookup x) → Kp h h₁ →
      wpG (model prog w) (A.deeper (callEnv fd h.objs.size f)) (execs body (callEnv fd h.objs.size f)) (fun fl s' => Q (match fl with | .ret v => v | _ => .none) s') (fun _ _ => False) (r.at h₁ tk₁)) :
    wpG (model prog w) A (call (.ref f) vs) Q E (r.at h tk) :=
  call_g S D hroom hbind hcell hloc fun h₁ tk₁ a b => g_mono (k h₁ tk₁ a b) (fun _ _ x => x) fun _ _ x => x.elim

theorem keeper_fn {M : Model} {f : Addr} {fd : FuncData} {body : List Stmt} (S : SB K mg mb h) (D : FnAt K f fd body) : Looks M h (keeperOf (.ref f)) .frame := by
  refine shut fun X0 hX0 => ?_
  obtain ⟨c, d, sl, hl⟩ := D.there
  refine hX0 ?_
  clear hX0
  exact (Looks.ld (part := none) (S.X _ _ hl)).andThen .now
end

section
variable {M : Model} {A : Around} {E : Value → Shared → Prop} {env : Env} {s : Shared} {Q : Flow → Shared → Prop} {rest : List Stmt}

theorem x_nil (k : Q .next s) : wpG M A (execs [] env) Q E s := lift (wpAny_execs_nil k)
theorem x_cons {st : Stmt} (k : wpG M A (exec st env) (fun f s' => match f with | .next => wpG M A (execs rest env) Q E s' | f => Q f s') E s) : wpG M A (execs (st :: rest) env) Q E s := by
  rw [execs_cons]
  refine g_bind (g_mono k (fun f s' x => ?_) fun _ _ x => x)
  cases f <;> first | exact x | exact g_pure x

theorem g_bindName {x : Str} {v : Value} {Q : Unit → Shared → Prop} (k : wpG M A (storeName env x v) Q E s) : wpG M A (bindName env x v) Q E s :=
  fun Γ p hΓ hf => by rw [Sem.wp_bindName]; exact k Γ p hΓ hf

theorem x_Assign {x : Str} {pos' pos : Pos} {value : Expr}
    (k : wpG M A (eval value env) (fun v s₁ => wpG M A (storeName env x v) (fun _ s₂ => wpG M A (execs rest env) Q E s₂) E s₁) E s)
    (hs : swapsWith value (some (.Name x pos')) pos.line env = pure false := by rfl) : wpG M A (execs (.Assign [.Name x pos'] value pos :: rest) env) Q E s := by
  refine x_cons ?_
  rw [exec_Assign_Name env x pos' value pos hs]
  exact g_bind (g_standAt (g_bind (g_mono k (fun v s₁ h₁ => g_bind (g_standAt (g_bind (g_bindName (g_mono h₁ (fun _ s₂ h₂ => g_pure h₂) fun _ _ x => x))))) fun _ _ x => x)))

/-- a place of a container gets a plain value -/
theorem x_AssignSub {o i : Expr} {pos' pos : Pos} {value : Expr}
    (k : wpG M A (eval value env) (fun v s₁ => wpG M A (eval o env) (fun ov s₂ => wpG M A (eval i env) (fun iv s₃ => wpG M A (setItem ov iv v) (fun _ s₄ => wpG M A (execs rest env) Q E s₄) E s₃) E s₂) E s₁) E s)
    (hs : swapsWithSole [.Subscript o i pos'] value pos.line env = pure false := by rfl) (hw : swappedStores [.Subscript o i pos'] value env = pure none := by rfl) :
    wpG M A (execs (.Assign [.Subscript o i pos'] value pos :: rest) env) Q E s := by
  refine x_cons ?_
  show wpG M A (do
    standAt pos
    if ← swapsWithSole [.Subscript o i pos'] value pos.line env then do
      evalThenUse value env fun v => assignAll v ((assignEach [.Subscript o i pos'] env).map (·.2))
      pure .next
    else do
      let v ← eval value env
      assignStores env v (← swappedStores [.Subscript o i pos'] value env) ((assignEach [.Subscript o i pos'] env).map (·.2))) _ E s
  rw [hs, hw]
  refine g_bind (g_standAt (g_bind (g_pure ?_)))
  simp only [Bool.false_eq_true, if_false]
  refine g_bind (g_mono k (fun v s₁ h₁ => g_bind (g_pure ?_)) fun _ _ x => x)
  show wpG M A (do assignAll v [assign (.Subscript o i pos') env]; pure Flow.next) _ E s₁
  refine g_bind ?_
  show wpG M A (do
    let ov ← holding [v] (eval o env)
    let iv ← holding [v, ov] (eval i env)
    standAt pos'
    holding [v, ov, iv] (setItem ov iv v)
    release (match (generalizing := false) i with | .Slice _ _ none _ => [iv, v, ov] | _ => [v, ov, iv]) []) _ E s₁
  refine g_bind (g_holding (g_mono h₁ (fun ov s₂ h₂ => ?_) fun _ _ x => x))
  refine g_bind (g_holding (g_mono h₂ (fun iv s₃ h₃ => ?_) fun _ _ x => x))
  refine g_bind (g_standAt (g_bind (g_holding (g_mono h₃ (fun _ s₄ h₄ => ?_) fun _ _ x => x))))
  have rel : ∀ (vs keep : List Value) (Q' : Unit → Shared → Prop), Q' () s₄ → wpG M A (release vs keep) Q' E s₄ := fun vs keep Q' hq Γ p hΓ hf => by rw [Sem.wp_release]; exact hq
  exact rel _ _ _ (g_pure h₄)

theorem x_If {test : Expr} {body orelse : List Stmt} {pos : Pos}
    (k : wpG M A (isTrue test env (eval test env)) (fun b s' => if b then wpG M A (execs body env) (fun f s' => match f with | .next => wpG M A (execs rest env) Q E s' | f => Q f s') E s'
      else wpG M A (execs orelse env) (fun f s' => match f with | .next => wpG M A (execs rest env) Q E s' | f => Q f s') E s') E s) : wpG M A (execs (.If test body orelse pos :: rest) env) Q E s := by
  refine x_cons ?_
  rw [exec_If]
  refine g_bind (g_standAt (g_bind (g_mono k (fun b s' hb => ?_) fun _ _ x => x)))
  cases b <;> exact hb
/-- a test that is not met, with nothing else -/
theorem x_IfNot {test : Expr} {body : List Stmt} {pos : Pos} (k : wpG M A (isTrue test env (eval test env)) (fun b s' => b = false ∧ wpG M A (execs rest env) Q E s') E s) :
    wpG M A (execs (.If test body [] pos :: rest) env) Q E s := x_If (g_mono k (fun b s' hb => by
      obtain ⟨rfl, hb⟩ := hb
      exact x_nil hb) fun _ _ x => x)
/-- a test that is met -/
theorem x_IfYes {test : Expr} {body orelse : List Stmt} {pos : Pos} (k : wpG M A (isTrue test env (eval test env)) (fun b s' => b = true ∧ wpG M A (execs body env) (fun f s' => match f with | .next => wpG M A (execs rest env) Q E s' | f => Q f s') E s') E s) :
    wpG M A (execs (.If test body orelse pos :: rest) env) Q E s := x_If (g_mono k (fun b s' hb => by
      obtain ⟨rfl, hb⟩ := hb
      exact hb) fun _ _ x => x)

theorem x_Return {e : Expr} {pos : Pos} (k : wpG M A (eval e env) (fun v => Q (.ret v)) E s) : wpG M A (execs (.Return (some e) pos :: rest) env) Q E s := by
  refine x_cons ?_
  rw [exec_Return_some]
  exact g_bind (g_standAt (g_bind (g_mono k (fun v s' hv => g_pure hv) fun _ _ x => x)))

/-- a call as a statement that gives None -/
theorem x_Expr {e : Expr} {pos : Pos} (k : wpG M A (eval e env) (fun v s' => v = .none ∧ wpG M A (execs rest env) Q E s') E s)
    (hi : interactive env = false := by rfl) (hs : swapsWith e none pos.line env = pure false := by rfl) : wpG M A (execs (.Expr e pos :: rest) env) Q E s := by
  refine x_cons ?_
  rw [exec_Expr env e pos hi hs]
  refine g_bind (g_standAt (g_bind (g_mono k (fun v s' hv => ?_) fun _ _ x => x)))
  obtain ⟨rfl, hv⟩ := hv
  rw [dropValue_plain (fun a e => by cases e)]
  exact g_pure hv
end

section
variable {M : Model} {A : Around} {E : Value → Shared → Prop} {env : Env} {r : Rest} {h h₀ : Heap} {L : Addr} {m : Str → Option Value} {news : List (Addr × Obj)} {tk : Nat}

theorem g_store {x : Str} {v : Value} {Q : Unit → Shared → Prop} (S : Fm h₀ L m news h) (k : ∀ h' tk', KpB [L] h h' → Fm h₀ L (upd m x v) news h' → Q () (r.at h' tk')) (hL : env.locals = L := by rfl)
    (hk : env.scope.kind = .function := by rfl) (hl : env.kindOf x = some .local := by rfl) : wpG M A (storeName env x v) Q E (r.at h tk) := by
  subst hL
  refine lift (wpAny_storeName_local (s := r.at h tk) hl S.F.ns (fun h' hn hs => k h' _ (fun b o hb e => (hs.2 b (fun q => hb (by rw [q]; exact .head _))).trans e) ⟨S.F.set hn hs, S.N.set hs⟩) ?_)
  show (env.scope.kind == .class || (env.scope.kind == .module && env.locals != env.globals)) = false
  rw [hk]; rfl

/-- a local gets a plain value -/
theorem x_Let {x : Str} {pos' pos : Pos} {value : Expr} {rest : List Stmt} {P : Value → Prop} {Q : Flow → Shared → Prop} (S : Fm h₀ L m news h) (ev : Ev M A env r h value P)
    (k : ∀ v h' tk', P v → KpB [L] h h' → Fm h₀ L (upd m x v) news h' → wpG M A (execs rest env) Q E (r.at h' tk')) (hL : env.locals = L := by rfl)
    (hk : env.scope.kind = .function := by rfl) (hl : env.kindOf x = some .local := by rfl) (hs : swapsWith value (some (.Name x pos')) pos.line env = pure false := by rfl) :
    wpG M A (execs (.Assign [.Name x pos'] value pos :: rest) env) Q E (r.at h tk) :=
  x_Assign (ev _ _ _ fun v tk₁ hv => g_store S (fun h' tk' kb S' => k v h' tk' hv kb S') hL hk hl) hs
theorem x_RetP {e : Expr} {pos : Pos} {rest : List Stmt} {P : Value → Prop} {Q : Flow → Shared → Prop} (ev : Ev M A env r h e P) (k : ∀ v tk', P v → Q (.ret v) (r.at h tk')) :
    wpG M A (execs (.Return (some e) pos :: rest) env) Q E (r.at h tk) := x_Return (ev _ _ _ k)
theorem x_Skip {test : Expr} {body : List Stmt} {pos : Pos} {rest : List Stmt} {Q : Flow → Shared → Prop} (ev : Et M A env r h test false) (k : ∀ tk', wpG M A (execs rest env) Q E (r.at h tk')) :
    wpG M A (execs (.If test body [] pos :: rest) env) Q E (r.at h tk) := x_IfNot (ev _ _ _ fun tk' => ⟨rfl, k tk'⟩)
theorem x_IfE {test : Expr} {body orelse : List Stmt} {pos : Pos} {rest : List Stmt} {b : Bool} {Q : Flow → Shared → Prop} (ev : Et M A env r h test b)
    (k1 : b = true → ∀ tk', wpG M A (execs body env) (fun f s' => match f with | .next => wpG M A (execs rest env) Q E s' | f => Q f s') E (r.at h tk'))
    (k2 : b = false → ∀ tk', wpG M A (execs orelse env) (fun f s' => match f with | .next => wpG M A (execs rest env) Q E s' | f => Q f s') E (r.at h tk')) :
    wpG M A (execs (.If test body orelse pos :: rest) env) Q E (r.at h tk) := x_If (ev _ _ _ fun tk' => by
      cases b with
      | true => exact k1 rfl tk'
      | false => exact k2 rfl tk')
end
end Mine
end

section
open PySem PySem.W PySem.Calls PyProof.Rows
open PySem.Sem (wp)
set_option maxRecDepth 100000
namespace Mine

/-! Loops. -/
theorem Fm.but {h₀ h h' : Heap} {L : Addr} {m : Str → Option Value} {news : List (Addr × Obj)} {wr : List Addr} (S : Fm h₀ L m news h) (k : KpB wr h h') (hL : L ∉ wr) (hw : ∀ b ∈ wr, h₀.get? b = none)
    (hn : ∀ p ∈ news, p.1 ∉ wr) : Fm h₀ L m news h' := by
  refine shut fun X0 hX0 => ?_
  obtain ⟨⟨⟨oL, es, ep, e1, e2⟩, kp, ab⟩, N⟩ := S
  refine hX0 ?_
  clear hX0
  exact ⟨⟨⟨oL, es, ep, k _ _ hL e1, e2⟩, k.kp kp hw, ab⟩, fun p hp => ⟨k _ _ (hn p hp) (N p hp).1, (N p hp).2⟩⟩
theorem Fm.but1 {h₀ h h' : Heap} {L b : Addr} {m : Str → Option Value} (S : Fm h₀ L m [] h) (k : KpB [b] h h') (hL : L ≠ b) (hw : h₀.get? b = none) : Fm h₀ L m [] h' :=
  S.but k (nm hL) (fun x hx => by cases hx with
    | head => exact hw
    | tail _ q => cases q) (fun _ hp => by cases hp)

section
variable {prog : Program} {w : World} {A : Around} {E : Value → Shared → Prop} {env : Env} {r : Rest}

theorem codeG_block0 {R : Result → Shared → Prop} {s : Shared} (k : R (.ok .next) s) : codeG (model prog w) A (.block [] env) R s := by
  refine codeG_of_tree ?_
  show wpG _ _ (do return Fin.done (← (execs [] env).onRaise (fun x => do noteFrame x env; theTreesLotGoes x))) _ _ s
  exact g_bind (g_onRaise (x_nil (g_pure k)))

/-- a loop that leaves by its end alone or by a return, and raises nothing -/
theorem codeG_for {I : Addr} {fp wr : List Addr} {n : Nat} {P : Nat → Value → Prop} {St : Nat → Heap → Prop} {target : Expr} {body : List Stmt} {R : Result → Shared → Prop}
    (W : Walks prog w A I fp wr n P St) (Inv : Nat → Heap → Prop) (hst : ∀ i h, Inv i h → St i h)
    (ht : ∀ i h tk v (Q : Unit → Shared → Prop), St i h → Q () (r.at h tk) → wpG (model prog w) A (letOwnedTupleGo target (.ref I) v) Q (fun _ _ => False) (r.at h tk))
    (turn : ∀ i h v h' tk', i < n → Inv i h → P i v → St (i + 1) h' → KpB wr h h' →
      wpG (model prog w) A (assign target env v) (fun _ s₂ => wpG (model prog w) A (execs body env) (fun f s₃ => match f with
        | .next | .cont => ∃ h₃ tk₃, s₃ = r.at h₃ tk₃ ∧ Inv (i + 1) h₃
        | .brk => False
        | .ret v => R (.ok (.ret v)) s₃) (fun _ _ => False) s₂) (fun _ _ => False) (r.at h' tk'))
    (done : ∀ h h' tk', Inv n h → KpB wr h h' → R (.ok .next) (r.at h' tk')) :
    ∀ {i₀ : Nat} {h : Heap} {tk : Nat}, i₀ ≤ n → Inv i₀ h → codeG (model prog w) A (.forLoop target (.ref I) body [] env) R (r.at h tk) := by
  have all : ∀ k i h tk, n - i = k → i ≤ n → Inv i h → codeG (model prog w) A (.forLoop target (.ref I) body [] env) R (r.at h tk) := by
    intro k
    induction k with
    | zero =>
      intro i h tk hk hi hI
      obtain rfl : i = n := by omega
      refine codeG_of_tree ?_
      show wpG _ A ((forTurn target (.ref I) body [] env).onRaise (fun x => do noteFrame x env; theTreesLotGoes x)) _ _ _
      refine g_onRaise ?_
      simp only [forTurn]
      refine g_bind (g_standAt (g_bind (g_onRaise ?_)))
      refine lift (W.done (r.at h tk) _ _ (hst _ _ hI) fun h' tk' k' => ?_)
      exact g_pure ⟨rfl, rfl, codeG_block0 (done h h' tk' hI k')⟩
    | succ k ih =>
      intro i h tk hk hi hI
      refine codeG_of_tree ?_
      show wpG _ A ((forTurn target (.ref I) body [] env).onRaise (fun x => do noteFrame x env; theTreesLotGoes x)) _ _ _
      refine g_onRaise ?_
      simp only [forTurn]
      refine g_bind (g_standAt (g_bind (g_onRaise ?_)))
      refine lift (W.item i (r.at h tk) _ _ (by omega) (hst _ _ hI) fun v h' tk' hP hS k' => ?_)
      refine g_bind (g_mono (ht (i + 1) h' tk' v _ hS (g_bind (g_mono (turn i h v h' tk' (by omega) hI hP hS k') (fun _ s₂ h₂ => g_bind (g_mono h₂ (fun f s₃ h₃ => ?_) fun _ _ x => x.elim)) fun _ _ x => x.elim))) (fun _ _ x => x) fun _ _ x => x.elim)
      cases f with
      | next => obtain ⟨h₃, tk₃, rfl, h₃'⟩ := h₃; exact g_pure ⟨rfl, rfl, ih (i + 1) h₃ tk₃ (by omega) (by omega) h₃'⟩
      | cont => obtain ⟨h₃, tk₃, rfl, h₃'⟩ := h₃; exact g_pure ⟨rfl, rfl, ih (i + 1) h₃ tk₃ (by omega) (by omega) h₃'⟩
      | brk => exact h₃.elim
      | ret v => exact g_pure h₃
  intro i₀ h tk hi h0
  exact all _ _ _ _ rfl hi h0

/-- the same, what the body must leave kept behind a name -/
theorem codeG_forP {I : Addr} {fp wr : List Addr} {n : Nat} {P : Nat → Value → Prop} {St : Nat → Heap → Prop} {target : Expr} {body : List Stmt} {R : Result → Shared → Prop}
    (W : Walks prog w A I fp wr n P St) (Inv : Nat → Heap → Prop) (hst : ∀ i h, Inv i h → St i h)
    (ht : ∀ i h tk v (Q : Unit → Shared → Prop), St i h → Q () (r.at h tk) → wpG (model prog w) A (letOwnedTupleGo target (.ref I) v) Q (fun _ _ => False) (r.at h tk))
    (turn : ∀ i h v h' tk' (Post : Flow → Shared → Prop), (∀ h₃ tk₃, Inv (i + 1) h₃ → Post .next (r.at h₃ tk₃)) → (∀ v s, R (.ok (.ret v)) s → Post (.ret v) s) → i < n → Inv i h → P i v → St (i + 1) h' → KpB wr h h' →
      wpG (model prog w) A (assign target env v) (fun _ s₂ => wpG (model prog w) A (execs body env) Post (fun _ _ => False) s₂) (fun _ _ => False) (r.at h' tk'))
    (done : ∀ h h' tk', Inv n h → KpB wr h h' → R (.ok .next) (r.at h' tk')) :
    ∀ {i₀ : Nat} {h : Heap} {tk : Nat}, i₀ ≤ n → Inv i₀ h → codeG (model prog w) A (.forLoop target (.ref I) body [] env) R (r.at h tk) :=
  codeG_for W Inv hst ht (fun i h v h' tk' hi hI hP hS hk => turn i h v h' tk' _ (fun h₃ tk₃ hI' => ⟨h₃, tk₃, rfl, hI'⟩) (fun v s hr => hr) hi hI hP hS hk) done

/-- a def entered, its frame, its context and what it must leave kept behind names -/
theorem call_g1 {K : Frag} {mg mb : Str → Option Value} {h : Heap} {tk : Nat} {E : Value → Shared → Prop} {n : Nat} {f : Addr} {fd : FuncData} {body : List Stmt} {vs : List Value} {binds : List (Str × Value)} {Q : Value → Shared → Prop}
    (S : SB K mg mb h) (D : FnAt K f fd body) (R : Room A (n + 1)) (hbind : ∀ s, BindsTo s fd ⟨vs, []⟩ binds)
    (hcell : ∀ x ∈ fd.scope.names, x.2 ≠ .cell) (hloc : ∀ x ∈ binds, fd.scope.names.lookup x.1 = some .local)
    (k : ∀ L A1 (Post : Flow → Shared → Prop) h₁ tk₁, A1 = A.deeper (callEnv fd L f) → Room A1 n → (∀ v s, Q v s → Post (.ret v) s) → h.objs.size = L → Fm h L (fun x => binds.reverse.lookup x) [] h₁ →
      wpG (model prog w) A1 (execs body (callEnv fd L f)) Post (fun _ _ => False) (r.at h₁ tk₁)) :
    wpG (model prog w) A (call (.ref f) vs) Q E (r.at h tk) :=
  call_g0 S D R.dep hbind hcell hloc fun h₁ tk₁ hns hk => k h.objs.size _ _ h₁ tk₁ rfl (R.deeper _) (fun v s hq => hq) rfl ⟨⟨hns, hk, Nat.le_refl _⟩, News.nil⟩

theorem own_name {M : Model} {x : Str} {px : Pos} {it v : Value} {s : Shared} {Q : Unit → Shared → Prop} (k : Q () s) : wpG M A (letOwnedTupleGo (.Name x px) it v) Q E s := g_pure k
theorem own_list {M : Model} {es : List Expr} {n : Nat} {pos : Pos} {I l : Addr} {i : Nat} {v : Value} {h : Heap} {tk : Nat} {Q : Unit → Shared → Prop} (hI : h.IsListIter I l i) (k : Q () (r.at h tk)) :
    wpG M A (letOwnedTupleGo (.Tuple es n pos) (.ref I) v) Q E (r.at h tk) := by
  refine shut fun X0 hX0 => ?_
  obtain ⟨o, ho, hc, hd⟩ := hI
  refine hX0 ?_
  clear hX0
  unfold letOwnedTupleGo
  cases v with
  | ref a =>
    refine g_bind (lift (wpAny_load (s := r.at h tk) ho ?_))
    rw [hc, hd]
    dsimp only
    rw [if_neg (by rw [show (["enumerate", "zip", "dict_itemiterator", "dict_reverseitemiterator", "odict_iterator", "itertools.zip_longest", "itertools.pairwise"] : List String).contains "list_iterator" = false by decide]; simp)]
    exact g_pure k
  | _ => exact g_pure k

theorem g_runOwn0 {c : Code} {s : Shared} {Q : Flow → Shared → Prop} (hc : fineCode c = true)
    (k : codeG (model prog w) A c (fun r s' => match r with | .ok f => Q f s' | .error e => False) s) : wpG (model prog w) A (runOwn c env) Q E s := by
  unfold runOwn
  refine g_onRaise (g_run hc ?_)
  have e : A.mark none = A := by obtain ⟨⟩ := A; rfl
  rw [e]
  exact codeG_mono k fun r s' x => by cases r <;> first | exact x | exact x.elim

/-- the For statement over an iterator that is made from a plain value -/
theorem x_For {target iter : Expr} {body rest : List Stmt} {pos : Pos} {s : Shared} {Q : Flow → Shared → Prop} (hf : ∀ x, foldedSetIterable iter env x = pure x := by intro _; rfl)
    (k : wpG (model prog w) A (eval iter env) (fun x s₁ => wpG (model prog w) A (pyIter x) (fun it s₂ => codeG (model prog w) A (.forLoop target it body [] env) (fun r s' => match r with
      | .ok f => (match f with | .next => wpG (model prog w) A (execs rest env) Q E s' | f => Q f s')
      | .error e => False) s₂) E s₁) E s) :
    wpG (model prog w) A (execs (.For target iter body [] pos :: rest) env) Q E s := by
  refine x_cons ?_
  show wpG (model prog w) A (do
    standAt pos
    let x ← foldedSetIterable iter env (← eval iter env)
    standAt iter.pos
    runOwn (.forLoop target (← holding [x] (pyIter x)) body [] env) env) _ E s
  refine g_bind (g_standAt (g_bind (g_mono k (fun x s₁ h₁ => ?_) fun _ _ x => x)))
  rw [hf]
  refine g_bind (g_pure (g_bind (g_standAt (g_bind (g_holding (g_mono h₁ (fun it s₂ h₂ => ?_) fun _ _ x => x))))))
  exact g_runOwn0 rfl h₂
end
end Mine
end

section
open PySem PySem.W PySem.Calls PyProof.Rows
set_option maxRecDepth 100000
namespace Mine
noncomputable abbrev KF (P : Params) : Frag := hd.heap_39 P

section
variable {prog : Program} {w : World} {A : Around} {E : Value → Shared → Prop} {env : Env} {r : Rest} {h h₀ : Heap} {L : Addr} {m mg mb : Str → Option Value} {news : List (Addr × Obj)} {tk : Nat} {P : Params}

theorem n_VS (P : Params) : nsIn (KF P) mainGlobals (Str.ofString "VARINT_SIZES") = some (some (.ref 75)) := by kernel_rfl

theorem g_assignName {M : Model} {x : Str} {px : Pos} {v : Value} {s : Shared} {Q : Unit → Shared → Prop} (k : wpG M A (storeName env x v) Q E s) : wpG M A (assign (.Name x px) env v) Q E s := by
  show wpG M A (do standAt px; bindName env x v) Q E s
  exact g_bind (g_standAt (g_bindName k))

theorem Et.chain2 {M : Model} {l e1 e2 : Expr} {op1 op2 : CmpOp} {pos : Pos} {a b c : Int} {c1 c2 : Bool} (x : Ev M A env r h l (IsI a)) (y : Ev M A env r h e1 (IsI b)) (z : Ev M A env r h e2 (IsI c)) (u : CmpI M A op1 a b c1) (v : CmpI M A op2 b c c2)
    (hm : markedEach [op1, op2] [e1, e2] (evalEach [e1, e2] env) = [eval e1 env, eval e2 env] := by with_unfolding_all rfl) : Et M A env r h (.Compare l [op1, op2] [e1, e2] pos) (c1 && c2) := fun E Q tk hq => by
  show wpG M A (do testChain pos (← eval l env) [op1, op2] (markedEach [op1, op2] [e1, e2] (evalEach [e1, e2] env))) Q E _
  rw [hm]
  refine g_bind (x _ _ _ fun va tk₁ ⟨ta, ea⟩ => ?_)
  subst ea
  show wpG M A (do
    let rv ← holding [.int a ta] (eval e1 env)
    standAt pos
    let c ← holding [.int a ta, rv] (compareOp op1 (.int a ta) rv)
    release [.int a ta, rv] [c]
    if ← holding [c, rv] (truthy c) then testChain pos rv [op2] [eval e2 env] else pure false) Q E _
  have rel : ∀ (vs keep : List Value) (s : Shared) (Q' : Unit → Shared → Prop), Q' () s → wpG M A (release vs keep) Q' E s := fun vs keep s Q' hq Γ p hΓ hf => by rw [Sem.wp_release]; exact hq
  refine g_bind (g_holding (y _ _ _ fun vb tk₂ ⟨tb, eb⟩ => ?_))
  subst eb
  refine g_bind (g_standAt (g_bind (g_holding (u _ _ _ _ _ (g_bind (rel _ _ _ _ (g_bind (g_holding (g_truthy_bool ?_)))))))))
  cases c1 with
  | false => exact g_pure (hq _)
  | true =>
    simp only [if_true]
    show wpG M A (do
      let rv ← holding [.int b tb] (eval e2 env)
      standAt pos
      let c ← operate [.int b tb, rv] (compareOp op2 (.int b tb) rv)
      holding [c] (truthy c)) Q E _
    refine g_bind (g_holding (z _ _ _ fun vc tk₃ ⟨tc, ec⟩ => ?_))
    subst ec
    have op : ∀ (vs : List Value) (t : Sem Value) (s : Shared) (Q' : Value → Shared → Prop), wpG M A t Q' E s → wpG M A (operate vs t) Q' E s := fun vs t s Q' ht Γ p hΓ hf => by rw [Sem.wp_operate]; exact ht Γ p hΓ hf
    exact g_bind (g_standAt (g_bind (op _ _ _ _ (v _ _ _ _ _ (g_holding (g_truthy_bool (hq _)))))))

noncomputable def vsz (n : Int) : Int := if n < 2 ^ 6 then 1 else if n < 2 ^ 14 then 2 else if n < 2 ^ 30 then 4 else 8

theorem p6 : 1 * (2 : Int) ^ (8 * ((2 ^ 0 : Nat) : Int) - 2).toNat = 2 ^ 6 := by decide
theorem p14 : 1 * (2 : Int) ^ (8 * ((2 ^ 1 : Nat) : Int) - 2).toNat = 2 ^ 14 := by decide
theorem p30 : 1 * (2 : Int) ^ (8 * ((2 ^ 2 : Nat) : Int) - 2).toNat = 2 ^ 30 := by decide
theorem p62 : 1 * (2 : Int) ^ (8 * ((2 ^ 3 : Nat) : Int) - 2).toNat = 2 ^ 62 := by decide
theorem vsz_of {n : Int} : ∀ {i : Nat}, i < 4 → (∀ j, j < i → ¬ n < 1 * 2 ^ (8 * ((2 ^ j : Nat) : Int) - 2).toNat) → n < 1 * 2 ^ (8 * ((2 ^ i : Nat) : Int) - 2).toNat → ((2 ^ i : Nat) : Int) = vsz n
  | 0, _, _, hn => (if_pos (p6 ▸ hn)).symm
  | 1, _, lo, hn => ((if_neg (p6 ▸ lo 0 (by decide))).trans (if_pos (p14 ▸ hn))).symm
  | 2, _, lo, hn => ((if_neg (p6 ▸ lo 0 (by decide))).trans ((if_neg (p14 ▸ lo 1 (by decide))).trans (if_pos (p30 ▸ hn)))).symm
  | 3, _, lo, hn => ((if_neg (p6 ▸ lo 0 (by decide))).trans ((if_neg (p14 ▸ lo 1 (by decide))).trans (if_neg (p30 ▸ lo 2 (by decide))))).symm
theorem vs_end {n : Int} (h1 : n < 2 ^ 62) (lo : ∀ j, j < 4 → ¬ n < 1 * 2 ^ (8 * ((2 ^ j : Nat) : Int) - 2).toNat) : False := lo 3 (by decide) (p62 ▸ h1)
theorem vs_there (S : SB (KF P) mg mb h) : ∃ items : Array Value, h.IsTuple 75 items ∧ items.size = 4 ∧ ∀ i v, items[i]? = some v → ∃ t, v = Value.int ((2 ^ i : Nat) : Int) t := by
  refine ⟨_, ⟨_, S.X 75 _ rfl, rfl, _, rfl⟩, rfl, ?_⟩
  intro i v hv
  match i, hv with
  | 0, hv => cases hv; exact ⟨_, rfl⟩
  | 1, hv => cases hv; exact ⟨_, rfl⟩
  | 2, hv => cases hv; exact ⟨_, rfl⟩
  | 3, hv => cases hv; exact ⟨_, rfl⟩
  | n + 4, hv => simp at hv

/-- what the loop of varint_size keeps -/
structure VSInv (h : Heap) (L I : Addr) (items : Array Value) (n : Int) (t : Tok) (i : Nat) (h' : Heap) (m' : Str → Option Value) : Prop where
  F : Fm h L m' [] h'
  hn : m' (Str.ofString "n") = some (.int n t)
  it : h'.IsTupleIter I 75 i
  tu : h'.IsTuple 75 items
  b : ∀ j, j < i → ¬ n < 1 * 2 ^ (8 * ((2 ^ j : Nat) : Int) - 2).toNat
theorem varint_size_g {n : Int} {t : Tok} {Q : Value → Shared → Prop} (R : Room A 2) (S : SB (KF P) mg mb h) (h0 : 0 ≤ n) (h1 : n < 2 ^ 62)
    (k : ∀ t h' tk', Kp h h' → Q (.int (vsz n) t) (r.at h' tk')) : wpG (model prog w) A (call (.ref 96) [.int n t]) Q E (r.at h tk) := by
  refine call_g1 (binds := [(Str.ofString "n", .int n t)]) S ⟨⟨_, _, _, rfl⟩, by kernel_rfl, rfl, rfl, rfl, rfl⟩ R (fun s => BindsTo.of_eq rfl) (by decide) (locs rfl) fun L A1 Post h₁ tk₁ hA R1 hret hLe F1 => ?_
  clear hA
  have hbig : ∀ {b : Addr}, L < b → h.get? b = none := fun hlt => Heap.get?_none_of_le (hLe ▸ Nat.le_of_lt hlt)
  have S1 : SB (KF P) mg mb h₁ := S.keeps F1.kp
  refine x_For (fun _ => rfl) ((Ev.glob S1 (n_VS P) rfl : Ev _ _ _ _ _ _ (· = .ref 75)) _ _ _ fun v tk₂ hv => ?_)
  subst hv
  refine shut fun X0 hX0 => ?_
  obtain ⟨items, hit, hsz, hitems⟩ := vs_there S1
  refine hX0 ?_
  clear hX0
  refine lift (wpAny_pyIter_tuple (s := r.at h₁ tk₂) hit ?_)
  have hL1 : L < h₁.objs.size := F1.F.ns.lt
  have h75 : 75 < L := by obtain ⟨_, ⟨_, ho, _⟩, _⟩ := vs_there S; exact hLe ▸ Heap.lt_size ho
  refine codeG_forP (Walks.tuple R1.hand _ 75 (Nat.ne_of_lt (Nat.lt_trans h75 hL1)) items) (fun i h' => ∃ m', VSInv h L h₁.objs.size items n t i h' m') ?_ ?_ ?_ ?_ (Nat.zero_le _) ?_
  · exact fun i h' ⟨m', V⟩ => ⟨V.it, V.tu⟩
  · intro i h' tk v Q _ hq; exact own_name hq
  · rintro i h' v h2 tk2 Post2 hnx hrt hi ⟨m', V⟩ hv ⟨st1, st2⟩ kb
    obtain ⟨tv, rfl⟩ := hitems i v hv
    have hI : L ≠ h₁.objs.size := Nat.ne_of_lt hL1
    have F2 : Fm h L m' [] h2 := V.F.but1 kb (hI) (hbig ( hL1))
    have hn := V.hn
    have hlo := V.b
    clear V
    refine g_assignName (g_store F2 fun h3 tk3 kb3 F3 => ?_)
    have st3 := (Walks.tuple (prog := prog) (w := w) (A := A) R.hand h₁.objs.size 75 (Nat.ne_of_lt (Nat.lt_trans h75 hL1)) items).frame (i + 1) h2 h3 ⟨st1, st2⟩
      (fun b hb o e => kb3 b o (by simp only [List.mem_cons, List.mem_nil_iff, or_false] at hb ⊢; rcases hb with rfl | rfl; exact Ne.symm hI; exact Nat.ne_of_lt h75) e)
    have hn3 : upd m' (Str.ofString "size") (.int ((2 ^ i : Nat) : Int) tv) (Str.ofString "n") = some (.int n t) := (upd_ne (by decide)).trans hn
    have hs3 : upd m' (Str.ofString "size") (.int ((2 ^ i : Nat) : Int) tv) (Str.ofString "size") = some (.int ((2 ^ i : Nat) : Int) tv) := upd_same
    have hi4 : i < 4 := by lia
    have hb : (2 ^ i : Nat) ≤ 2 ^ 3 := Nat.pow_le_pow_right (by decide) (by lia)
    have hb1 : 1 ≤ (2 ^ i : Nat) := Nat.one_le_two_pow
    refine x_IfE (b := decide (0 ≤ n) && decide (n < 1 * 2 ^ (8 * ((2 ^ i : Nat) : Int) - 2).toNat))
      (Et.chain2 Ev.int (Ev.loc F3 hn3 ⟨t, rfl⟩) (Ev.bin Ev.int (Ev.bin (Ev.bin Ev.int (Ev.loc F3 hs3 ⟨tv, rfl⟩) (OpI.mul ?a)) Ev.int OpI.sub) (OpI.shl ?b ?c (by decide))) CmpI.le CmpI.lt) ?yes ?no
    case a => exact IntMulOk.of_left (by decide)
    case b => lia
    case c => lia
    case yes =>
      intro hc tk4
      refine x_RetP (Ev.loc F3 hs3 rfl) fun v tk5 hv => ?_
      subst hv
      refine hrt _ _ (hret _ _ ?_)
      have e : ((2 ^ i : Nat) : Int) = vsz n := vsz_of hi4 hlo (of_decide_eq_true (Bool.and_eq_true_iff.mp hc).2)
      rw [e]
      exact k tv _ _ F3.kp
    case no =>
      intro hc tk4
      refine x_nil (x_nil (hnx h3 tk4 ⟨_, F3, hn3, st3.1, st3.2, ?_⟩))
      intro j hj hlt
      cases Nat.lt_or_eq_of_le (Nat.le_of_lt_succ hj) with
      | inl q => exact hlo j q hlt
      | inr q =>
        subst q
        rw [decide_eq_true h0, decide_eq_true hlt] at hc
        cases hc
  · rintro h' h2 tk2 ⟨m', V⟩ _
    exact (vs_end h1 (hsz ▸ V.b)).elim
  · exact ⟨_, ⟨F1.F.push _, fun p hp => nomatch hp⟩, rfl, ⟨_, Heap.get?_push_size _ rfl, rfl, rfl⟩, hit.push _, fun j q => absurd q (Nat.not_lt_zero j)⟩
end
end Mine
end

section
open PySem PySem.W PySem.Calls PyProof.Rows
open PySem.Sem (wp)
set_option maxRecDepth 100000
namespace Mine

section
variable {M : Model} {α β : Type} {A : Around} {E : Value → Shared → Prop} {s : Shared}
theorem g_of_eq {t : Sem α} {a : α} {Q : α → Shared → Prop} (e : t = pure a) (k : Q a s) : wpG M A t Q E s := e ▸ g_pure k
theorem g_no {c : Bool} {a b : Sem α} {Q : α → Shared → Prop} (hc : c = false) (h : wpG M A b Q E s) : wpG M A (if c = true then a else b) Q E s := by subst hc; exact h
theorem g_yes {c : Bool} {a b : Sem α} {Q : α → Shared → Prop} (hc : c = true) (h : wpG M A a Q E s) : wpG M A (if c = true then a else b) Q E s := by subst hc; exact h
end

section
variable {prog : Program} {w : World} {A : Around} {E : Value → Shared → Prop} {R : Result → Shared → Prop} {s : Shared}

theorem codeG_builtin {id : String} {args : Args} {b : Builtin} (hb : entryFor table id = some b)
    (h : wpG (model prog w) (A.under (.builtin id args)) (b args)
      (fun fin s' => match fin with | .done f => R (.ok f) s' | .again c' => c'.quiet = true ∧ fineCode c' = true ∧ codeG (model prog w) A c' R s') (fun e s' => R (.error e) s') s) :
    codeG (model prog w) A (.builtin id args) R s := by
  refine codeG_of_tree ?_
  show wpG _ _ (match entryFor table id with | some b => b args | none => unsupported ((withoutEnding? id "#data").getD id)) _ _ s
  rw [hb]; exact h

/-- a call of a built-in, its arguments checked -/
theorem codeG_call_builtin {id : String} {args : Args} {b : Builtin} (hq : plainId id = true) (hfc : fineCode (.builtin id args) = true) (hb : entryFor table id = some b)
    (h : wpG (model prog w) A.in1 (checkBuiltinCall id args) (fun _ s₁ => wpG (model prog w) A.in1 (b args)
      (fun fin s' => match fin with | .done f => R (.ok f) s' | .again c' => c'.quiet = true ∧ fineCode c' = true ∧ codeG (model prog w) A c' R s') (fun e s' => R (.error e) s') s₁)
      (fun e s' => R (.error e) s') s) : codeG (model prog w) A (.call (.builtin id) args) R s := by
  refine codeG_of_tree ?_
  show wpG _ A.in1 (do checkBuiltinCall id args; again (.builtin id args)) _ _ s
  refine g_bind (g_mono h (fun _ s₁ h₁ => g_pure ⟨plainId_quiet hq args, hfc, codeG_builtin hb ?_⟩) fun _ _ h' => h')
  rw [Around.under_plainId hq args]
  exact h₁

noncomputable def gw (Q : Value → Shared → Prop) (E : Value → Shared → Prop) (r : Result) (s' : Shared) : Prop := match r with | .ok (.ret v) => Q v s' | .ok _ => False | .error e => E e s'

theorem g_callSlot {self : Value} {T : String} {name : Str} {id : String} {args : List Value} {b : Builtin} {Q : Option Value → Shared → Prop} (hT : s.TypeIs self T) (h : Slot T name id) (hfc : ∀ x, fineCode (.builtin id x) = true)
    (hb : entryFor table id = some b) (ha : argsOk id ⟨self :: args, []⟩)
    (hc : wpG (model prog w) A.in1 (b ⟨self :: args, []⟩) (fun fin s' => ∃ v, fin = .done (.ret v) ∧ Q (some v) s') E s) : wpG (model prog w) A (callSpecial? self name args) Q E s := by
  simp only [callSpecial?]
  refine g_bind (lift (wpAny_specialOf hT h.lookup ?_))
  simp only [h.bind]
  refine g_holding (g_bind (g_pure (g_bind ?_)))
  refine g_call (codeG_call_builtin h.plain (hfc _) hb (lift (h.check _ _ _ _ _ _ _ _ hT ha (g_mono hc (fun fin s' h' => ?_) fun _ _ h' => h'))))
  obtain ⟨v, rfl, hv⟩ := h'
  exact g_pure hv

theorem g_callMeth {self : Value} {T : String} {name : Str} {id : String} {args : List Value} {b : Builtin} {Q : Value → Shared → Prop} (hT : s.TypeIs self T) (h : Slot T name id) (hfc : ∀ x, fineCode (.builtin id x) = true)
    (hb : entryFor table id = some b) (ha : argsOk id ⟨self :: args, []⟩)
    (hc : wpG (model prog w) A.in1 (b ⟨self :: args, []⟩) (fun fin s' => ∃ v, fin = .done (.ret v) ∧ Q v s') E s) : wpG (model prog w) A (call (.builtin id) (self :: args)) Q E s := by
  refine g_call (codeG_call_builtin h.plain (hfc _) hb (lift (h.check _ _ _ _ _ _ _ _ hT ha (g_mono hc (fun fin s' h' => ?_) fun _ _ h' => h'))))
  obtain ⟨v, rfl, hv⟩ := h'
  exact hv

/-- something of a built-in type: made by its __new__, then its __init__ (which gives None at once) -/
theorem g_callType {T newId initId : String} {Bi : Builtin} {args : List Value} {Q Q₁ : Value → Shared → Prop} (ft : TypeCalled T newId initId)
    (hct : checkTypeCall T ⟨args, []⟩ = pure ()) (entryI : entryFor table initId = some Bi)
    (hnew : codeG (model prog w) A.in1 (.call (.builtin newId) ⟨.type T :: args, []⟩) (wants Q₁ E) s) (hfi : ∀ x, fineCode (.builtin initId x) = true)
    (hnext : ∀ obj s₁, Q₁ obj s₁ → s₁.TypeIs obj T ∧ argsOk initId ⟨obj :: args, []⟩ ∧
      wpG (model prog w) A.in1.in1 (Bi ⟨obj :: args, []⟩) (fun fin s' => fin = .done (.ret .none) ∧ Q obj s') E s₁) :
    wpG (model prog w) A (call (.type T) args) Q E s := by
  obtain ⟨c, tl, hmro⟩ := ft.mro
  refine g_call (codeG_of_tree ?_)
  show wpG _ _ (callAny (.type T) _) _ _ _
  refine g_pure ⟨Code.quiet_builtin _ (by decide +kernel), (by show (!Builtin.Bytes.decodersThatHold.contains "type.__call__") = true; decide), codeG_builtin F.entry_type_call ?_⟩
  rw [Around.under_plain (weight_type_call_type T args []) rfl]
  unfold Builtin.«type.__call__»
  dsimp only
  refine g_no ft.notType (g_no ft.canCreate ?_)
  refine g_bind (g_of_eq hct (g_bind (g_of_eq hmro (g_no rfl (g_bind (g_of_eq ft.made ?_))))))
  dsimp only
  refine g_bind (g_pure (g_bind (g_holding (g_call (codeG_mono hnew fun r s₁ hr => ?_)))))
  cases r with
  | error e => exact hr
  | ok fl =>
    cases fl with
    | ret obj =>
      obtain ⟨hT, hok, hi⟩ := hnext _ _ hr
      refine g_bind (lift (wpAny_isInstance hT ft.sub (g_no rfl (g_bind (g_holding (g_callSlot hT ft.init hfi entryI hok (g_mono hi (fun fin s' hf => ?_) fun _ _ x => x)))))))
      obtain ⟨rfl, hq⟩ := hf
      refine ⟨_, rfl, ?_⟩
      dsimp only
      exact g_no (by decide) (g_pure hq)
    | _ => exact hr.elim
end

namespace BA
theorem mro : mroOf (.type "bytearray") = pure [.type "bytearray", .type "object"] := by rw [mroOf_type]; kernel_rfl
theorem lookup_new : typeLookup (.type "bytearray") "__new__" = pure (some (.builtin "bytearray.__new__")) := by rw [typeLookup_type, builtinLookup_eq_fast]; kernel_rfl
theorem slot_init : Slot "bytearray" "__init__" "bytearray.__init__" :=
  .of (owner := "bytearray") (n := "__init__") (by rw [typeLookup_type, builtinLookup_eq_fast]; kernel_rfl) (by decide +kernel) (by decide +kernel) (by decide +kernel)
    (by first | exact .inl (by decide +kernel) | exact .inr (by decide +kernel)) (by rw [isSubtype_type]; kernel_rfl)
theorem sub : isSubtype (.type "bytearray") (.type "bytearray") = pure true := by rw [isSubtype_type]; kernel_rfl
theorem called : TypeCalled "bytearray" "bytearray.__new__" "bytearray.__init__" :=
  ⟨by decide +kernel, by decide +kernel, ⟨_, _, mro⟩, madeBy_type mro lookup_new (by decide +kernel), by decide +kernel, sub, slot_init⟩
theorem entry_init : entryFor table "bytearray.__init__" = some Builtin.«bytearray.__init__» := by first | exact entryFor_of_fast (by kernel_rfl) | exact entryFor_of_tree (by kernel_rfl)
theorem entry_new : entryFor table "bytearray.__new__" = some Builtin.«list.__new__» := entryFor_alias (id' := "list.__new__") (by kernel_rfl) rfl (by decide +kernel) (by kernel_rfl)
theorem plain_new : plainId "bytearray.__new__" = true := by decide +kernel
theorem typeCall0 : checkTypeCall "bytearray" ⟨[], []⟩ = pure () := by kernel_rfl
theorem typeCall1 (a : Value) : checkTypeCall "bytearray" ⟨[a], []⟩ = pure () := by kernel_rfl
theorem newCall0 : checkBuiltinCall "bytearray.__new__" ⟨[.type "bytearray"], []⟩ = pure () := by kernel_rfl
theorem newCall1 (a : Value) : checkBuiltinCall "bytearray.__new__" ⟨[.type "bytearray", a], []⟩ = pure () := by kernel_rfl
theorem args_init0 (a : Value) : argsOk "bytearray.__init__" ⟨[a], []⟩ := by unfold argsOk; kernel_rfl
theorem args_init1 (a b : Value) : argsOk "bytearray.__init__" ⟨[a, b], []⟩ := by unfold argsOk; kernel_rfl
set_option maxRecDepth 1000000 in
set_option maxHeartbeats 4000000 in
theorem owner_new : ("bytearray.__new__".splitOn ".__new__").headD "" = "bytearray" := by simp +decide [String.splitOn, String.splitOnAux]
theorem noDict : typeHasDict (.type "bytearray") = false := by decide +kernel

section
variable {prog : Program} {w : World} {A : Around} {E : Value → Shared → Prop} {s : Shared}
theorem code_new0 {Q₁ : Value → Shared → Prop} (h : Q₁ (.ref s.heap.objs.size) { s with heap := s.heap.push { cls := .type "bytearray", data := .bytearray #[] } }) :
    codeAny (model prog w) A (.call (.builtin "bytearray.__new__") ⟨[.type "bytearray"], []⟩) (wants Q₁ E) s := by
  refine codeAny_of_tree ?_
  show wpAny _ A.in1 (do checkBuiltinCall "bytearray.__new__" ⟨[.type "bytearray"], []⟩; again (.builtin "bytearray.__new__" ⟨[.type "bytearray"], []⟩)) _ _ s
  refine wpAny_bind (wpAny_of_eq newCall0 (wpAny_pure ⟨plainId_quiet plain_new _, codeAny_builtin_stack entry_new rfl fun p st => ?_⟩))
  rw [Around.under_plainId plain_new _]
  have hsub := sub
  have hown := owner_new
  refine shut fun X0 hX0 => ?_
  obtain ⟨hp, g, d, tk, os⟩ := s
  refine hX0 ?_
  clear hX0
  simp only [hown]
  wp_walk
  exact h
end
end BA
end Mine
end

section
open PySem PySem.W PySem.Calls PyProof.Rows
open PySem.Sem (wp)
set_option maxRecDepth 100000
namespace Mine
namespace BA
noncomputable abbrev obj (b : Array UInt8) : Obj := { cls := .type "bytearray", data := .bytearray b }
section
variable {prog : Program} {w : World} {A : Around} {E : Value → Shared → Prop} {s : Shared} {r : Rest} {h : Heap} {tk : Nat} {a : Addr} {b : Array UInt8}
theorem typeIs (hb : s.heap.get? a = some (obj b)) : s.TypeIs (.ref a) "bytearray" := ⟨_, hb, rfl⟩

theorem look_release : typeLookup (.type "bytearray") "__release_buffer__" = pure (some (.builtin "bytearray.__release_buffer__")) := by rw [typeLookup_type, builtinLookup_eq_fast]; kernel_rfl
theorem rel_ends : "bytearray.__release_buffer__".endsWith ("." ++ "__release_buffer__") = true := by decide +kernel
theorem rel_drop : "bytearray.__release_buffer__".dropRight ("__release_buffer__".length + 1) = "bytearray" := by decide +kernel
theorem ownRelease {M : Model} {Q : Bool → Shared → Prop} (hb : s.heap.get? a = some (obj b)) (k : Q false s) : wpG M A (Builtin.Bytes.ownRelease (.ref a)) Q E s := by
  unfold Builtin.Bytes.ownRelease Builtin.Bytes.slotIsOwn
  refine g_bind (g_bind (lift (wpAny_specialOf (typeIs hb) look_release ?_)))
  dsimp only
  rw [rel_ends, rel_drop]
  refine g_no rfl ?_
  exact lift (wpAny_isInstance (typeIs hb) sub (g_pure k))
theorem exportsOf {M : Model} {Q : Nat → Shared → Prop} (hb : s.heap.get? a = some (obj b)) (k : Q 0 s) : wpG M A (Builtin.Bytes.exportsOf (.ref a)) Q E s := by
  unfold Builtin.Bytes.exportsOf
  exact g_bind (lift (wpAny_load hb (g_pure k)))
theorem free {M : Model} {Q : Bool → Shared → Prop} (hg : A.guards = some []) (hb : s.heap.get? a = some (obj b)) (k : Q false s) :
    wpG M A (Builtin.Bytes.exported (.ref a) <||> (do return (← Builtin.Bytes.exportsOf (.ref a)) > 0)) Q E s := by
  unfold orM
  refine g_bind (g_exported hg ?_)
  exact g_bind (exportsOf hb (g_pure k))
theorem checkResize {M : Model} {Q : Unit → Shared → Prop} (hg : A.guards = some []) (hb : s.heap.get? a = some (obj b)) (k : Q () s) : wpG M A (Builtin.Bytes.checkResize (.ref a)) Q E s := by
  unfold Builtin.Bytes.checkResize
  exact g_bind (free hg hb (g_no rfl (g_pure k)))
theorem payload {M : Model} {Q : Array UInt8 → Shared → Prop} (hb : s.heap.get? a = some (obj b)) (k : Q b s) : wpG M A (Builtin.Bytes.payload (.ref a)) Q E s := by
  unfold Builtin.Bytes.payload Builtin.Bytes.payload?
  exact g_bind (g_bind (lift (wpAny_load hb (g_pure (g_pure k)))))
theorem write {M : Model} {f : Array UInt8 → Array UInt8} {Q : Unit → Shared → Prop} (hb : h.get? a = some (obj b)) (hz : (f b).size ≤ sizeLine)
    (k : ∀ h', h'.get? a = some (obj (f b)) → Heap.SameBut a h h' → Q () (r.at h' tk)) : wpG M A (Builtin.Bytes.write (.ref a) f) Q E (r.at h tk) := by
  unfold Builtin.Bytes.write
  show wpG M A (updateBytearray a f) Q E _
  unfold updateBytearray
  refine g_bind (lift (wpAny_load (s := r.at h tk) hb ?_))
  show wpG M A (update a (Obj.mapBytearray f) >>= fun _ => lookBehind a) _ _ _
  have hb' : (h.update a (Obj.mapBytearray f)).get? a = some (obj (f b)) := Heap.get?_update_self (Obj.mapBytearray f) hb rfl
  refine g_bind (lift (wpAny_update (s := r.at h tk) hb ?_))
  refine lift (wpAny_lookBehind (s := r.at (h.update a (Obj.mapBytearray f)) tk) hb' ?_ (k _ hb' (Heap.SameBut.update ..)))
  show (if (f b).size > sizeLine then some "bytearray:memory" else none) = none
  rw [if_neg (by lia)]
end
theorem bindOpt1 (v : Value) : Builtin.Bytes.bindOptional "bytearray.__init__" "bytearray" ["source", "encoding", "errors"] [v] [] = pure [some v, none, none] := by kernel_rfl
theorem bindOpt0 : Builtin.Bytes.bindOptional "bytearray.__init__" "bytearray" ["source", "encoding", "errors"] [] [] = pure [none, none, none] := by kernel_rfl
theorem int_index : typeLookup (.type "int") "__index__" = pure (some (.builtin "int.__index__")) := by rw [typeLookup_type, builtinLookup_eq_fast]; kernel_rfl
section
variable {prog : Program} {w : World} {A : Around} {E : Value → Shared → Prop} {r : Rest} {h : Heap} {tk : Nat} {a : Addr}
theorem init_int {n : Int} {t : Tok} {Q : PySem.Fin → Shared → Prop} (hg : A.guards = some []) (hb : h.get? a = some (obj #[])) (h0 : 0 ≤ n) (h1 : n ≤ 1000)
    (k : ∀ h', h'.get? a = some (obj (Array.replicate n.toNat 0)) → Heap.SameBut a h h' → Q (.done (.ret .none)) (r.at h' tk)) : wpG (model prog w) A (Builtin.«bytearray.__init__» ⟨[.ref a, .int n t], []⟩) Q E (r.at h tk) := by
  unfold Builtin.«bytearray.__init__»
  dsimp only
  refine g_bind (ownRelease hb (g_no rfl ?_))
  refine g_bind (g_of_eq (bindOpt1 _) ?_)
  dsimp only
  refine g_bind (g_pure (g_bind (g_pure ?_)))
  refine g_bind (free hg hb (g_no rfl ?_))
  refine g_bind (write hb (Nat.zero_le _) fun h₁ hb₁ s₁ => ?_)
  refine g_bind (g_of_eq (a := none) rfl (g_no rfl ?_))
  refine g_bind (g_pure ?_)
  refine g_bind (lift (wpAny_specialOf (T := "int") rfl int_index (g_yes rfl ?_)))
  refine g_bind (g_attempt (g_of_eq (a := n) rfl ?_))
  dsimp only
  refine g_no (by unfold Builtin.Bytes.fitsIndex; simp; lia) ?_
  rw [if_neg (by lia)]
  refine g_no (by simp; lia) ?_
  refine g_no (by unfold Builtin.Bytes.tooLong; rw [sizeLine_eq]; simp; lia) ?_
  refine g_bind (g_rule ?_)
  by_cases hn : n > 0
  · rw [if_pos hn]
    refine g_bind (write hb₁ (by rw [Array.size_replicate, sizeLine_eq]; lia) fun h₂ hb₂ s₂ => g_pure (k h₂ hb₂ (s₁.trans s₂)))
  · rw [if_neg hn]
    have : n = 0 := by lia
    subst this
    exact g_pure (k h₁ hb₁ s₁)
theorem init_none {Q : PySem.Fin → Shared → Prop} (hg : A.guards = some []) (hb : h.get? a = some (obj #[]))
    (k : ∀ h', h'.get? a = some (obj #[]) → Heap.SameBut a h h' → Q (.done (.ret .none)) (r.at h' tk)) : wpG (model prog w) A (Builtin.«bytearray.__init__» ⟨[.ref a], []⟩) Q E (r.at h tk) := by
  unfold Builtin.«bytearray.__init__»
  dsimp only
  refine g_bind (ownRelease hb (g_no rfl ?_))
  refine g_bind (g_of_eq bindOpt0 ?_)
  dsimp only
  refine g_bind (g_pure (g_bind (g_pure ?_)))
  refine g_bind (free hg hb (g_no rfl ?_))
  refine g_bind (write hb (Nat.zero_le _) fun h₁ hb₁ s₁ => ?_)
  refine g_bind (g_pure ?_)
  exact g_pure (k h₁ hb₁ s₁)
end
end BA
end Mine
end

section
open PySem PySem.W PySem.Calls PyProof.Rows
open PySem.Sem (wp)
set_option maxRecDepth 100000
namespace Mine
namespace BA
theorem plainAttrs : PlainAttrs "bytearray" :=
  ⟨⟨"bytearray.__getattribute__", by rw [typeLookup_type, builtinLookup_eq_fast]; kernel_rfl, by decide +kernel⟩, by rw [typeLookup_type, builtinLookup_eq_fast]; kernel_rfl⟩
theorem slot_append : Slot "bytearray" "append" "bytearray.append" :=
  .of (owner := "bytearray") (n := "append") (by rw [typeLookup_type, builtinLookup_eq_fast]; kernel_rfl) (by decide +kernel) (by decide +kernel) (by decide +kernel)
    (by first | exact .inl (by decide +kernel) | exact .inr (by decide +kernel)) (by rw [isSubtype_type]; kernel_rfl)
theorem slot_extend : Slot "bytearray" "extend" "bytearray.extend" :=
  .of (owner := "bytearray") (n := "extend") (by rw [typeLookup_type, builtinLookup_eq_fast]; kernel_rfl) (by decide +kernel) (by decide +kernel) (by decide +kernel)
    (by first | exact .inl (by decide +kernel) | exact .inr (by decide +kernel)) (by rw [isSubtype_type]; kernel_rfl)
theorem slot_setitem : Slot "bytearray" "__setitem__" "bytearray.__setitem__" :=
  .of (owner := "bytearray") (n := "__setitem__") (by rw [typeLookup_type, builtinLookup_eq_fast]; kernel_rfl) (by decide +kernel) (by decide +kernel) (by decide +kernel)
    (by first | exact .inl (by decide +kernel) | exact .inr (by decide +kernel)) (by rw [isSubtype_type]; kernel_rfl)
theorem slot_getitem : Slot "bytearray" "__getitem__" "bytearray.__getitem__" :=
  .of (owner := "bytearray") (n := "__getitem__") (by rw [typeLookup_type, builtinLookup_eq_fast]; kernel_rfl) (by decide +kernel) (by decide +kernel) (by decide +kernel)
    (by first | exact .inl (by decide +kernel) | exact .inr (by decide +kernel)) (by rw [isSubtype_type]; kernel_rfl)
theorem slot_len : Slot "bytearray" "__len__" "bytearray.__len__" :=
  .of (owner := "bytearray") (n := "__len__") (by rw [typeLookup_type, builtinLookup_eq_fast]; kernel_rfl) (by decide +kernel) (by decide +kernel) (by decide +kernel)
    (by first | exact .inl (by decide +kernel) | exact .inr (by decide +kernel)) (by rw [isSubtype_type]; kernel_rfl)
theorem type_append : typeOf (.builtin "bytearray.append") = pure (.type "method_descriptor") := by show builtinType _ = _; rw [builtinType_eq_fast]; kernel_rfl
theorem type_extend : typeOf (.builtin "bytearray.extend") = pure (.type "method_descriptor") := by show builtinType _ = _; rw [builtinType_eq_fast]; kernel_rfl
theorem entry_append : entryFor table "bytearray.append" = some Builtin.«bytearray.append» := by first | exact entryFor_of_fast (by kernel_rfl) | exact entryFor_of_tree (by kernel_rfl)
theorem entry_extend : entryFor table "bytearray.extend" = some Builtin.«bytearray.extend» := by first | exact entryFor_of_fast (by kernel_rfl) | exact entryFor_of_tree (by kernel_rfl)
theorem entry_setitem : entryFor table "bytearray.__setitem__" = some Builtin.«bytearray.__setitem__» := by first | exact entryFor_of_fast (by kernel_rfl) | exact entryFor_of_tree (by kernel_rfl)
theorem entry_getitem : entryFor table "bytearray.__getitem__" = some Builtin.«bytearray.__getitem__» := by first | exact entryFor_of_fast (by kernel_rfl) | exact entryFor_of_tree (by kernel_rfl)
theorem entry_len : entryFor table "bytearray.__len__" = some Builtin.«bytearray.__len__» := by first | exact entryFor_of_fast (by kernel_rfl) | exact entryFor_of_tree (by kernel_rfl)
theorem args_append (a b : Value) : argsOk "bytearray.append" ⟨[a, b], []⟩ := by unfold argsOk; kernel_rfl
theorem args_extend (a b : Value) : argsOk "bytearray.extend" ⟨[a, b], []⟩ := by unfold argsOk; kernel_rfl
theorem args_setitem (a b c : Value) : argsOk "bytearray.__setitem__" ⟨[a, b, c], []⟩ := by unfold argsOk; kernel_rfl
theorem args_getitem (a b : Value) : argsOk "bytearray.__getitem__" ⟨[a, b], []⟩ := by unfold argsOk; kernel_rfl
theorem args_len (a : Value) : argsOk "bytearray.__len__" ⟨[a], []⟩ := by unfold argsOk; kernel_rfl
theorem fine_of {id : String} (h : Builtin.Bytes.decodersThatHold.contains id = false) (x : Args) : fineCode (.builtin id x) = true := by show (!Builtin.Bytes.decodersThatHold.contains id) = true; rw [h]; rfl
end BA
end Mine
end

section
open PySem PySem.W PySem.Calls PyProof.Rows
open PySem.Sem (wp)
set_option maxRecDepth 100000
namespace Mine
namespace BA
section
variable {prog : Program} {w : World} {A : Around} {E : Value → Shared → Prop} {s : Shared}
theorem code_new1 (v : Value) {Q₁ : Value → Shared → Prop} (h : Q₁ (.ref s.heap.objs.size) { s with heap := s.heap.push { cls := .type "bytearray", data := .bytearray #[] } }) :
    codeAny (model prog w) A (.call (.builtin "bytearray.__new__") ⟨[.type "bytearray", v], []⟩) (wants Q₁ E) s := by
  refine codeAny_of_tree ?_
  show wpAny _ A.in1 (do checkBuiltinCall "bytearray.__new__" ⟨[.type "bytearray", v], []⟩; again (.builtin "bytearray.__new__" ⟨[.type "bytearray", v], []⟩)) _ _ s
  refine wpAny_bind (wpAny_of_eq (newCall1 v) (wpAny_pure ⟨plainId_quiet plain_new _, codeAny_builtin_stack entry_new rfl fun p st => ?_⟩))
  rw [Around.under_plainId plain_new _]
  have hsub := sub
  have hown := owner_new
  refine shut fun X0 hX0 => ?_
  obtain ⟨hp, g, d, tk, os⟩ := s
  refine hX0 ?_
  clear hX0
  simp only [hown]
  wp_walk
  exact h
end
section
variable {prog : Program} {w : World} {A : Around} {E : Value → Shared → Prop} {r : Rest} {h : Heap} {tk : Nat} {a : Addr} {b : Array UInt8} {Q : Value → Shared → Prop}

/-- what a new bytearray leaves -/
theorem kp_new {h h' : Heap} {o : Obj} (s : Heap.SameBut h.objs.size (h.push o) h') : Kp h h' := fun b x e =>
  (s.2 b (Nat.ne_of_lt (Heap.lt_size e))).trans (Heap.get?_push_of_some _ e)

theorem make_int {n : Int} {t : Tok} (hg : A.guards = some []) (h0 : 0 ≤ n) (h1 : n ≤ 1000)
    (k : ∀ h', Kp h h' → h'.get? h.objs.size = some (obj (Array.replicate n.toNat 0)) → Q (.ref h.objs.size) (r.at h' tk)) : wpG (model prog w) A (call (.type "bytearray") [.int n t]) Q E (r.at h tk) := by
  refine g_callType (s := r.at h tk) (Q₁ := fun o s₁ => o = .ref h.objs.size ∧ s₁ = r.at (h.push (obj #[])) tk) called (typeCall1 _) entry_init (codeG_lift (code_new1 _ ⟨rfl, rfl⟩)) (fine_of (by decide)) ?_
  rintro _ _ ⟨rfl, rfl⟩
  have hb : (h.push (obj #[])).get? h.objs.size = some (obj #[]) := Heap.get?_push_size _ rfl
  exact ⟨typeIs hb, args_init1 _ _, init_int hg hb h0 h1 fun h' hb' s' => ⟨rfl, k h' (kp_new s') hb'⟩⟩
theorem make_none (hg : A.guards = some [])
    (k : ∀ h', Kp h h' → h'.get? h.objs.size = some (obj #[]) → Q (.ref h.objs.size) (r.at h' tk)) : wpG (model prog w) A (call (.type "bytearray") []) Q E (r.at h tk) := by
  refine g_callType (s := r.at h tk) (Q₁ := fun o s₁ => o = .ref h.objs.size ∧ s₁ = r.at (h.push (obj #[])) tk) called typeCall0 entry_init (codeG_lift (code_new0 ⟨rfl, rfl⟩)) (fine_of (by decide)) ?_
  rintro _ _ ⟨rfl, rfl⟩
  have hb : (h.push (obj #[])).get? h.objs.size = some (obj #[]) := Heap.get?_push_size _ rfl
  exact ⟨typeIs hb, args_init0 _, init_none hg hb fun h' hb' s' => ⟨rfl, k h' (kp_new s') hb'⟩⟩

theorem byteValue {M : Model} {n : Int} {t : Tok} {s : Shared} {Q : UInt8 → Shared → Prop} (h0 : 0 ≤ n) (h1 : n < 256) (k : Q n.toNat.toUInt8 s) : wpG M A (Builtin.Bytes.byteValue (.int n t)) Q E s := by
  unfold Builtin.Bytes.byteValue
  refine g_bind (g_of_eq (a := n) rfl (g_no (by simp; lia) (g_pure k)))

theorem append {n : Int} {t : Tok} (hg : A.guards = some []) (hb : h.get? a = some (obj b)) (h0 : 0 ≤ n) (h1 : n < 256) (hz : b.size < 1000000)
    (k : ∀ h', h'.get? a = some (obj (b.push n.toNat.toUInt8)) → Heap.SameBut a h h' → Q .none (r.at h' tk)) : wpG (model prog w) A (call (.builtin "bytearray.append") [.ref a, .int n t]) Q E (r.at h tk) := by
  refine g_callMeth (s := r.at h tk) (typeIs hb) slot_append (fine_of (by decide)) entry_append (args_append _ _) ?_
  unfold Builtin.«bytearray.append»
  refine g_bind (g_of_eq (a := (Value.ref a, Value.int n t)) rfl ?_)
  dsimp only
  refine g_bind (byteValue h0 h1 (g_bind (checkResize hg hb (g_bind (write hb (by rw [Array.size_push, sizeLine_eq]; lia) fun h' hb' s' => ?_)))))
  exact g_pure ⟨_, rfl, k h' hb' s'⟩

/-- a place gets an octet -/
theorem setItem_int {i n : Int} {t u : Tok} {Q : Unit → Shared → Prop} (hb : h.get? a = some (obj b)) (hi : 0 ≤ i) (hi2 : i < b.size) (hz : b.size < 1000000) (h0 : 0 ≤ n) (h1 : n < 256)
    (k : ∀ h', h'.get? a = some (obj (b.setIfInBounds i.toNat n.toNat.toUInt8)) → Heap.SameBut a h h' → Q () (r.at h' tk)) : wpG (model prog w) A (setItem (.ref a) (.int i t) (.int n u)) Q E (r.at h tk) := by
  unfold setItem
  refine g_holding (g_bind (lift (wpAny_sequenceKey (s := r.at h tk) (typeIs hb) (by decide) (g_bind (g_callSlot (typeIs hb) slot_setitem (fine_of (by decide)) entry_setitem (args_setitem _ _ _) ?_)))))
  unfold Builtin.«bytearray.__setitem__»
  dsimp only
  refine g_no rfl ?_
  refine g_bind ?_
  unfold Builtin.Bytes.subscript?
  refine g_bind (lift (wpAny_specialOf (T := "int") rfl int_index (g_no rfl ?_)))
  refine g_bind (g_of_eq (a := i) rfl (g_no (by unfold Builtin.Bytes.fitsIndex; simp; lia) (g_pure ?_)))
  dsimp only
  refine g_bind (byteValue h0 h1 (g_bind (payload hb ?_)))
  have hs : seqIndex? i b.size = some i.toNat := seqIx (by omega) (by omega)
  rw [hs]
  dsimp only
  refine g_bind (write hb (by rw [Array.size_setIfInBounds, sizeLine_eq]; lia) fun h' hb' s' => ?_)
  exact g_pure ⟨_, rfl, g_pure (k h' hb' s')⟩
end
end BA
end Mine
end

section
open PySem PySem.W PySem.Calls PyProof.Rows
open PySem.Sem (wp)
set_option maxRecDepth 100000
namespace Mine
namespace BA
theorem no_bytes : typeLookup (.type "bytearray") "__bytes__" = pure none := by rw [typeLookup_type, builtinLookup_eq_fast]; kernel_rfl
theorem noIndex : typeLookup (.type "bytearray") "__index__" = pure none := by rw [typeLookup_type, builtinLookup_eq_fast]; kernel_rfl
theorem look_buffer : typeLookup (.type "bytearray") "__buffer__" = pure (some (.builtin "bytearray.__buffer__")) := by rw [typeLookup_type, builtinLookup_eq_fast]; kernel_rfl
theorem buf_ends : "bytearray.__buffer__".endsWith ("." ++ "__buffer__") = true := by decide +kernel
theorem buf_drop : "bytearray.__buffer__".dropRight ("__buffer__".length + 1) = "bytearray" := by decide +kernel
theorem bbuf_look : typeLookup (.type "bytes") "__buffer__" = pure (some (.builtin "bytes.__buffer__")) := by rw [typeLookup_type, builtinLookup_eq_fast]; kernel_rfl
theorem bbuf_ends : "bytes.__buffer__".endsWith ("." ++ "__buffer__") = true := by decide +kernel
theorem bbuf_drop : "bytes.__buffer__".dropRight ("__buffer__".length + 1) = "bytes" := by decide +kernel
theorem brel_look : typeLookup (.type "bytes") "__release_buffer__" = pure none := by rw [typeLookup_type, builtinLookup_eq_fast]; kernel_rfl
theorem bytes_sub : isSubtype (.type "bytes") (.type "bytes") = pure true := F.bm_sub
theorem obj_init {T newId : String} {self x : Value} (hl : typeLookup (.type T) "__init__" = pure (some (.builtin "object.__init__")))
    (hm : Bind.madeBy (.type T) = pure (some newId)) (hne : (some newId != some "object.__new__") = true) {M : Model} {A : Around} {E : Value → Shared → Prop} {s : Shared} {Q : Fin → Shared → Prop}
    (hT : s.TypeIs self T) (hq : Q (.done (.ret .none)) s) : wpAny M A (Builtin.«object.__init__» ⟨[self, x], []⟩) Q E s := by
  repeat (any_goals (first | assumption | wp_step))
section
variable {prog : Program} {w : World} {A : Around} {E : Value → Shared → Prop} {r : Rest} {h : Heap} {tk : Nat} {a : Addr} {b : Array UInt8} {Q : Value → Shared → Prop}

theorem ownBuf {M : Model} {s : Shared} {Q : Bool → Shared → Prop} (hb : s.heap.get? a = some (obj b)) (k : Q true s) : wpG M A (Builtin.Bytes.slotIsOwn (.ref a) "__buffer__") Q E s := by
  unfold Builtin.Bytes.slotIsOwn
  refine g_bind (lift (wpAny_specialOf (typeIs hb) look_buffer ?_))
  dsimp only
  rw [buf_ends, buf_drop]
  exact g_no rfl (lift (wpAny_isInstance (typeIs hb) sub k))
theorem ownBufB {M : Model} {t : Tok} {s : Shared} {Q : Bool → Shared → Prop} (k : Q true s) : wpG M A (Builtin.Bytes.slotIsOwn (.bytes b t) "__buffer__") Q E s := by
  have hT : s.TypeIs (.bytes b t) "bytes" := rfl
  unfold Builtin.Bytes.slotIsOwn
  refine g_bind (lift (wpAny_specialOf hT bbuf_look ?_))
  dsimp only
  rw [bbuf_ends, bbuf_drop]
  exact g_no rfl (lift (wpAny_isInstance hT bytes_sub k))
theorem buffer {M : Model} {id : String} {full : Bool} {s : Shared} {Q : Option (Array UInt8) → Shared → Prop} (hb : s.heap.get? a = some (obj b)) (k : Q (some b) s) : wpG M A (Builtin.Bytes.buffer? id (.ref a) full) Q E s := by
  unfold Builtin.Bytes.buffer?
  refine g_bind (lift (wpAny_specialOf (typeIs hb) look_buffer ?_))
  dsimp only
  refine g_bind (ownBuf hb (g_no rfl ?_))
  refine g_bind (lift (wpAny_specialOf (typeIs hb) look_buffer ?_))
  exact g_bind (ownRelease hb (g_no rfl (g_bind (payload hb (g_pure k)))))
theorem bufferB {M : Model} {id : String} {full : Bool} {t : Tok} {s : Shared} {Q : Option (Array UInt8) → Shared → Prop} (k : Q (some b) s) : wpG M A (Builtin.Bytes.buffer? id (.bytes b t) full) Q E s := by
  have hT : s.TypeIs (.bytes b t) "bytes" := rfl
  unfold Builtin.Bytes.buffer?
  refine g_bind (lift (wpAny_specialOf hT bbuf_look ?_))
  dsimp only
  refine g_bind (ownBufB (g_no rfl ?_))
  refine g_bind (lift (wpAny_specialOf hT bbuf_look ?_))
  refine g_bind ?_
  unfold Builtin.Bytes.ownRelease Builtin.Bytes.slotIsOwn
  refine g_bind (g_bind (lift (wpAny_specialOf hT brel_look (g_pure (g_pure (g_no rfl ?_))))))
  exact g_bind (g_of_eq (a := b) rfl (g_pure k))

/-- bytes of a bytearray -/
theorem to_bytes (hb : h.get? a = some (obj b)) (hz : b.size < 1000000) (k : ∀ t tk', Q (.bytes b t) (r.at h tk')) : wpG (model prog w) A (call (.type "bytes") [.ref a]) Q E (r.at h tk) := by
  refine g_callType (s := r.at h tk) (Q₁ := fun o s₁ => ∃ t tk', o = .bytes b t ∧ s₁ = r.at h tk') F.bm_called (F.bm_typeCall _) F.entry_object_init ?_ (fine_of (by decide)) ?_
  · refine codeG_call_builtin F.bm_plain (fine_of (by decide) _) F.bm_entry (g_of_eq (F.bm_newCall _) ?_)
    unfold Builtin.«bytes.__new__»
    refine g_bind (g_of_eq (a := true) rfl (g_no rfl ?_))
    refine g_bind (g_of_eq F.bm_sub (g_no rfl ?_))
    refine g_bind (g_of_eq (F.bm_bind _) ?_)
    refine g_bind (g_of_eq (a := ()) rfl (g_bind (g_of_eq (a := ()) rfl (g_no rfl ?_))))
    refine g_bind (lift (wpAny_specialOf (typeIs (s := r.at h tk) hb) no_bytes ?_))
    dsimp only
    refine g_bind (g_bind (g_bind (lift (wpAny_load (s := r.at h tk) hb (g_pure (g_pure (g_no rfl ?_)))))))
    refine g_bind (lift (wpAny_specialOf (typeIs (s := r.at h tk) hb) noIndex (g_yes rfl ?_)))
    refine g_bind (buffer (s := r.at h tk) hb ?_)
    dsimp only
    refine g_bind (g_rule (g_bind (lift (wpAny_mkBytes ?_ (by rw [sizeLine_eq]; lia)))))
    refine g_yes (by decide) ?_
    exact g_pure (show ∃ t tk', Value.bytes b tk = .bytes b t ∧ _ = r.at h tk' from ⟨_, tk + 1, rfl, rfl⟩)
  · rintro _ _ ⟨t, tk', rfl, rfl⟩
    refine ⟨rfl, F.args_object_init_2 _ _, ?_⟩
    exact lift (obj_init F.bm_called.init.lookup F.bm_called.made (by decide) rfl (And.intro rfl (k t tk')))
end
end BA
end Mine
end

section
open PySem PySem.W PySem.Calls PyProof.Rows
open PySem.Sem (wp)
set_option maxRecDepth 100000
namespace Mine

section
variable {prog : Program} {w : World} {A : Around} {E : Value → Shared → Prop} {env : Env} {s : Shared}
/-- a method of a built-in type, called -/
theorem g_Method {o : Expr} {name : Str} {apos pos : Pos} {args : List Expr} {T id : String} {Q : Value → Shared → Prop}
    (pa : PlainAttrs T) (slot : Slot T name id) (hty : typeOf (.builtin id) = pure (.type "method_descriptor"))
    (h : wpG (model prog w) A (eval o env) (fun ov s₁ => s₁.TypeIs ov T ∧ (∀ a, ov = .ref a → ∃ ob, s₁.heap.get? a = some ob ∧ ob.dict = none) ∧
      wpG (model prog w) A (callWith pos (.builtin id) [ov] (backTo pos (starEach args env)) []) Q E s₁) E s)
    (hbase : attributeBase o name env (eval o env) = eval o env := by rfl)
    (hfew : ((backTo pos (starEach args env)).all (fun x => !x.1) && (backToKw pos (keywordEach [] env)).all (fun x => x.1.isSome)
      && decide (args.length + ([] : List Keyword).length + (if ([] : List Keyword).isEmpty then 0 else 1) < 30)) = true := by rfl)
    (hline : (apos.endLine == pos.line) = true := by rfl) :
    wpG (model prog w) A (eval (.Call (.Attribute o name apos) args [] pos) env) Q E s := by
  rw [arm_eval_Call, hbase]
  refine g_bind (g_mono h (fun ov s₁ h₁ => ?_) fun _ _ e => e)
  obtain ⟨hT, hd, hc⟩ := h₁
  refine g_bind (g_standAt ?_)
  have hform : methodCallForm (args.length + ([] : List Keyword).length) (backTo pos (starEach args env)) (backToKw pos (keywordEach [] env)) = true := hfew
  have hpos : methodCallPos true o env apos pos = pure pos := by unfold methodCallPos; simp [hline]
  unfold methodCall
  rw [hform]
  refine g_bind (g_holding (lift (getMethod_builtin hT pa slot hty hd ?_)))
  exact g_bind (g_of_eq hpos hc)

theorem g_Subscript {M : Model} {value slice : Expr} {pos : Pos} {Q : Value → Shared → Prop}
    (h : wpG M A (eval value env) (fun o s₁ => wpG M A (eval slice env) (fun i s₂ => wpG M A (subscriptTail value slice o i) Q E s₂) E s₁) E s) :
    wpG M A (eval (.Subscript value slice pos) env) Q E s := by
  rw [eval_Subscript]
  exact g_bind (g_mono h (fun o s₁ h₁ => g_bind (g_holding (g_mono h₁ (fun i s₂ h₂ => g_bind (g_standAt h₂)) fun _ _ x => x))) fun _ _ x => x)

theorem g_Slice {M : Model} {lower upper step : Option Expr} {p : Pos} {Q : Value → Shared → Prop}
    (h : wpG M A (evalPart lower env) (fun l s₁ => wpG M A (evalPart upper env) (fun u s₂ => wpG M A (evalPart step env) (fun st s₃ =>
      Q (.ref s₃.heap.objs.size) { s₃ with heap := s₃.heap.push { cls := .type "slice", data := .fields #[l, u, st] } }) E s₂) E s₁) E s) :
    wpG M A (eval (.Slice lower upper step p) env) Q E s := by
  rw [arm_eval_Slice]
  refine g_bind (g_mono h (fun l s₁ h₁ => g_bind (g_holding (g_mono h₁ (fun u s₂ h₂ => g_bind (g_holding (g_mono h₂ (fun st s₃ h₃ => ?_) fun _ _ x => x))) fun _ _ x => x))) fun _ _ x => x)
  exact lift (wpAny_newObj_type h₃)

/-- an item of a built-in container -/
theorem g_item {value slice : Expr} {o i : Value} {ops : List Value} {T id : String} {Q : Value → Shared → Prop} (hT : s.TypeIs o T)
    (hl : typeLookup (.type T) "__getitem__" = pure (some (.builtin id))) (hg : wpAny (model prog w) A (getItem o i) Q E s)
    (hs : subscripted slice false o i = operate ops (getItem o i)) : wpG (model prog w) A (subscriptTail value slice o i) Q E s := lift (tail_any hT hl hg hs)
end

namespace BA
section
variable {prog : Program} {w : World} {A : Around} {E : Value → Shared → Prop} {s : Shared} {r : Rest} {h : Heap} {tk : Nat} {a : Addr} {b : Array UInt8} {Q : Value → Shared → Prop}
theorem payloadA {M : Model} {Q : Array UInt8 → Shared → Prop} (hb : s.heap.get? a = some (obj b)) (k : Q b s) : wpAny M A (Builtin.Bytes.payload (.ref a)) Q E s := by
  unfold Builtin.Bytes.payload Builtin.Bytes.payload?
  exact wpAny_bind (wpAny_bind (wpAny_load hb (wpAny_pure (wpAny_pure k))))
theorem meets_len (a : Addr) (b : Array UInt8) : Meets (Builtin.«bytearray.__len__» ⟨[.ref a], []⟩) (fun _ R s => s.heap.get? a = some (obj b) ∧ R (.ok (.ret (.int b.size s.toks))) { s with toks := s.toks + 1 }) := by
  refine .of_wp fun prog w A R s hS => ?_
  obtain ⟨hb, hr⟩ := hS
  show wpAny _ _ (Builtin.Bytes.payload (.ref a) >>= fun r => _) _ _ s
  exact wpAny_bind (payloadA hb (wpAny_bind (wpAny_mkInt (wpAny_pure ⟨_, rfl, hr⟩))))
theorem len {s : Shared} (hb : s.heap.get? a = some (obj b)) (hz : b.size < 1000000) (k : ∀ t tk', Q (.int b.size t) { s with toks := tk' }) : wpAny (model prog w) A (call (.builtin "len") [.ref a]) Q E s :=
  call_len_meets (typeIs hb) slot_len entry_len (args_len _) (meets_len a b) (n := b.size) (by lia) (by lia) (fun Q' hq => ⟨hb, hq⟩) (k _ _)
theorem meets_item (a : Addr) (b : Array UInt8) (i : Int) (u : Tok) (c : UInt8) (h0 : 0 ≤ i) (h1 : i < b.size) (hz : b.size < 1000000) (hc : b[i.toNat]? = some c) : Meets (Builtin.«bytearray.__getitem__» ⟨[.ref a, .int i u], []⟩) (fun _ R s => s.heap.get? a = some (obj b) ∧ R (.ok (.ret (.int c.toNat s.toks))) { s with toks := s.toks + 1 }) := by
  refine .of_wp fun prog w A R s hS => ?_
  obtain ⟨hb, hr⟩ := hS
  show wpAny _ _ (Builtin.Bytes.subscript? (.int i u) >>= fun r => _) _ _ s
  refine wpAny_bind ?_
  unfold Builtin.Bytes.subscript?
  refine wpAny_bind (wpAny_specialOf (typeIs_int s i u) F.slot_int_index.lookup ?_)
  have hr' : Builtin.Bytes.fitsIndex i = true := by unfold Builtin.Bytes.fitsIndex; simp; lia
  show wpAny _ _ (if (!Builtin.Bytes.fitsIndex i) = true then _ else pure (some i)) _ _ s
  rw [hr']
  refine wpAny_pure (wpAny_bind (payloadA hb ?_))
  have hs : seqIndex? i b.size = some i.toNat := seqIx h0 (by have := (Array.getElem?_eq_some_iff.mp hc).1; omega)
  rw [hs]
  show wpAny _ _ (match b[i.toNat]? with | some x => _ | none => _) _ _ s
  rw [hc]
  exact wpAny_bind (wpAny_mkInt (wpAny_pure ⟨_, rfl, hr⟩))
theorem item {i : Int} {u : Tok} {c : UInt8} (h0 : 0 ≤ i) (hz : b.size < 1000000) (hc : b[i.toNat]? = some c) (hb : s.heap.get? a = some (obj b)) (k : ∀ t tk', Q (.int c.toNat t) { s with toks := tk' }) : wpAny (model prog w) A (getItem (.ref a) (.int i u)) Q E s :=
  getItem_meets (typeIs hb) (by decide) slot_getitem entry_getitem (args_getitem _ _) (meets_item a b i u c h0 (by have := (Array.getElem?_eq_some_iff.mp hc).1; lia) hz hc) ⟨hb, k _ _⟩

theorem meets_cut (a sl : Addr) (b : Array UInt8) (n : Nat) (u : Tok) (hn : n ≤ b.size) (hz : b.size < 1000000) : Meets (Builtin.«bytearray.__getitem__» ⟨[.ref a, .ref sl], []⟩) (fun _ R s => s.heap.get? a = some (obj b) ∧ s.heap.IsSliceOf sl .none (.int n u) .none ∧
    R (.ok (.ret (.ref s.heap.objs.size))) { s with heap := s.heap.push (obj (b.toList.take n).toArray) }) := by
  refine .of_wp fun prog w A R s hS => ?_
  refine shut fun X0 hX0 => ?_
  obtain ⟨hb, ⟨o, ho, hc, hd⟩, h⟩ := hS
  refine hX0 ?_
  clear hX0
  have hT : s.TypeIs (.ref sl) "slice" := ⟨o, ho, hc⟩
  show wpAny _ _ (Builtin.Bytes.subscript? (.ref sl) >>= fun r => _) _ _ s
  refine wpAny_bind ?_
  unfold Builtin.Bytes.subscript?
  refine wpAny_bind (wpAny_specialOf hT slice_no_index (wpAny_pure ?_))
  refine wpAny_bind (wpAny_typeOf hT ?_)
  show wpAny _ _ (Builtin.Bytes.sliceParts (.ref sl) >>= fun r => _) _ _ s
  refine wpAny_bind ?_
  unfold Builtin.Bytes.sliceParts
  refine wpAny_bind (wpAny_field (x := .none) ho hd rfl ?_)
  kby_none
  refine wpAny_ite (KBy.ite_no (show ¬ ((Value.none == rawInt 0) = true) from Bool.false_ne_true) ?_)
  refine wpAny_bind (wpAny_field (x := .none) ho hd rfl ?_)
  have go : wpAny (model prog w) A.in1 (sliceIndices (rawPart none) (rawPart (some (n : Int))) (rawPart none) b.size) (fun r s' => r = sliceBounds none (some (n : Int)) none b.size ∧ s' = s) (fun _ _ => False) s :=
    wpAny_of_eq (sliceIndices_raw none (some (n : Int)) none b.size (fun e => nomatch e)) ⟨rfl, rfl⟩
  kby_none
  refine wpAny_bind (wpAny_field (x := .int _ _) ho hd rfl ?_)
  kby_int
  refine wpAny_pure ?_
  refine wpAny_bind (payloadA hb ?_)
  refine wpAny_bind (wpAny_mono go (fun r s' hr => ?_) fun _ _ e => e.elim)
  obtain ⟨hr1, hr2⟩ := hr
  subst hr1 hr2
  have e : Builtin.Bytes.sliced b (sliceBounds none (some (n : Int)) none b.size).1 (sliceBounds none (some (n : Int)) none b.size).2.1 (sliceBounds none (some (n : Int)) none b.size).2.2 = (b.toList.take n).toArray := by
    rw [show Builtin.Bytes.sliced b (sliceBounds none (some (n : Int)) none b.size).1 (sliceBounds none (some (n : Int)) none b.size).2.1 (sliceBounds none (some (n : Int)) none b.size).2.2 = KBy.picked b none (some (n : Int)) from rfl, KBc.picked_eq]
    simp [clipAt_nat]
  show wpAny _ _ (Builtin.Bytes.newBytearray (Builtin.Bytes.sliced b (sliceBounds none (some (n : Int)) none b.size).1 (sliceBounds none (some (n : Int)) none b.size).2.1 (sliceBounds none (some (n : Int)) none b.size).2.2) >>= fun r => _) _ _ _
  rw [e]
  exact wpAny_bind (wpAny_newObj_type (wpAny_pure ⟨_, rfl, h⟩) (by show (b.toList.take n).toArray.size ≤ sizeLine; rw [sizeLine_eq]; simp; lia))

theorem ext_add {more : Array UInt8} {Q : Fin → Shared → Prop} (hg : A.guards = some []) (hb : h.get? a = some (obj b)) (hz : b.size + more.size < 1000000)
    (k : ∀ h', h'.get? a = some (obj (b ++ more)) → Heap.SameBut a h h' → Q (.done (.ret .none)) (r.at h' tk)) : wpG (model prog w) A (do if !more.isEmpty then Builtin.Bytes.checkResize (.ref a)
                                                                                                                                          Builtin.Bytes.write (.ref a) (· ++ more)
                                                                                                                                          ret .none) Q E (r.at h tk) := by
  have fin : wpG (model prog w) A (Builtin.Bytes.write (.ref a) (· ++ more) >>= fun _ => ret .none) Q E (r.at h tk) :=
    g_bind (write hb (by simp [sizeLine_eq]; lia) fun h' hb' s' => g_pure (k h' hb' s'))
  dsimp only
  split
  · exact g_bind (checkResize hg hb fin)
  · exact fin
theorem extend {c : Array UInt8} {t : Tok} (hg : A.guards = some []) (hb : h.get? a = some (obj b)) (hz : b.size + c.size < 1000000)
    (k : ∀ h', h'.get? a = some (obj (b ++ c)) → Heap.SameBut a h h' → Q .none (r.at h' tk)) : wpG (model prog w) A (call (.builtin "bytearray.extend") [.ref a, .bytes c t]) Q E (r.at h tk) := by
  refine g_callMeth (s := r.at h tk) (typeIs hb) slot_extend (fine_of (by decide)) entry_extend (args_extend _ _) ?_
  have hT : (r.at h tk).TypeIs (.bytes c t) "bytes" := rfl
  unfold Builtin.«bytearray.extend»
  refine g_bind (g_of_eq (a := (Value.ref a, Value.bytes c t)) rfl ?_)
  dsimp only
  refine g_bind (lift (wpAny_specialOf hT bbuf_look (g_yes rfl ?_)))
  refine g_bind (g_rule (g_bind (payload hb ?_)))
  refine g_bind ?_
  unfold Builtin.Bytes.takeBufferQuiet?
  refine g_bind (g_attempt ?_)
  unfold Builtin.Bytes.takeBuffer?
  refine g_bind (lift (wpAny_specialOf hT bbuf_look ?_))
  refine g_bind (ownBufB (g_no rfl ?_))
  refine g_bind (lift (wpAny_specialOf hT bbuf_look ?_))
  refine g_bind (bufferB (g_pure (g_pure ?_)))
  dsimp only [Option.map]
  refine g_yes rfl ?_
  exact ext_add (Q := fun fin s' => ∃ v, fin = Fin.done (.ret v) ∧ Q v s') hg hb hz fun h' hb' s' => ⟨_, rfl, k h' hb' s'⟩
end
end BA
end Mine
end

section
open PySem PySem.W PySem.Calls PyProof.Rows
open PySem.Sem (wp)
set_option maxRecDepth 100000
namespace Mine

section
variable {prog : Program} {w : World} {A : Around} {E : Value → Shared → Prop} {env : Env} {r : Rest} {h h₀ : Heap} {L : Addr} {m mg mb : Str → Option Value} {news : List (Addr × Obj)} {tk : Nat} {K : Frag}

theorem Ev.neg {e : Expr} {pos : Pos} {a : Int} (x : Ev (model prog w) A env r h e (IsI a)) : Ev (model prog w) A env r h (.UnaryOp .USub e pos) (IsI (-a)) := fun E Q tk hq => by
  rw [arm_eval_UnaryOp]
  refine g_bind (x _ _ _ fun v tk₁ hv => ?_)
  obtain ⟨t, rfl⟩ := hv
  exact g_bind (g_standAt (g_holding (lift (PySem.P.neg_int (s := r.at h tk₁) (hq _ _ ⟨_, rfl⟩)))))

theorem looks_type {M : Model} {T : String} : Looks M h (keeperOf (.type T)) .machine := .now
theorem looks_blt {M : Model} {T : String} : Looks M h (keeperOf (.builtin T)) .machine := .now

/-- a call by a name, its arguments plain -/
theorem g_CallE {M : Model} {x : Str} {p pos : Pos} {e : Expr} {es : List Expr} {f : Value} {k : Keeper} {Ps : List Value → Prop} {Q : Value → Shared → Prop} (ef : Ev M A env r h (.Name x p) (· = f)) (hl : Looks M h (keeperOf f) k)
    (args : Evs M A env r h (e :: es) Ps) (c : ∀ vs tk', Ps vs → wpG M A (call f vs) Q E (r.at h tk')) (hk : k = .frame ∨ k = .machine := by first | exact .inl rfl | exact .inr rfl)
    (he : starEach (e :: es) env = (false, eval e env) :: starEach es env := by rfl) (hpl : (starEach es env).any (·.1) = false := by rfl) :
    wpG M A (eval (.Call (.Name x p) (e :: es) [] pos) env) Q E (r.at h tk) := by
  refine g_Call (ef _ _ _ fun v tk₁ hv => ?_)
  subst hv
  refine g_callWith hk (args _ _ _ _ fun vs tk₂ hvs => ⟨hl, ?_⟩) he hpl
  exact c vs tk₂ hvs
theorem g_CallE0 {M : Model} {x : Str} {p pos : Pos} {f : Value} {k : Keeper} {Q : Value → Shared → Prop} (ef : Ev M A env r h (.Name x p) (· = f)) (hl : Looks M h (keeperOf f) k)
    (c : ∀ tk', wpG M A (call f []) Q E (r.at h tk')) (hk : k = .frame ∨ k = .machine := by first | exact .inl rfl | exact .inr rfl) :
    wpG M A (eval (.Call (.Name x p) [] [] pos) env) Q E (r.at h tk) := by
  refine g_Call (ef _ _ _ fun v tk₁ hv => ?_)
  subst hv
  exact g_callWith0 hk hl (c _)
theorem g_Call1 {M : Model} {x : Str} {p pos : Pos} {e : Expr} {f : Value} {k : Keeper} {P : Value → Prop} {Q : Value → Shared → Prop} (ef : Ev M A env r h (.Name x p) (· = f)) (hl : Looks M h (keeperOf f) k)
    (a : Ev M A env r h e P) (c : ∀ v tk', P v → wpG M A (call f [v]) Q E (r.at h tk')) (hk : k = .frame ∨ k = .machine := by first | exact .inl rfl | exact .inr rfl)
    (he : starEach [e] env = (false, eval e env) :: starEach [] env := by rfl) :
    wpG M A (eval (.Call (.Name x p) [e] [] pos) env) Q E (r.at h tk) :=
  g_CallE ef hl (Evs.cons a Evs.nil he) (fun vs tk' ⟨v, vs', e1, hv, e2⟩ => by subst e2; subst e1; exact c v tk' hv) hk he
theorem g_Call2 {M : Model} {x : Str} {p pos : Pos} {e e2 : Expr} {f : Value} {k : Keeper} {P P2 : Value → Prop} {Q : Value → Shared → Prop} (ef : Ev M A env r h (.Name x p) (· = f)) (hl : Looks M h (keeperOf f) k)
    (a : Ev M A env r h e P) (a2 : Ev M A env r h e2 P2) (c : ∀ v v2 tk', P v → P2 v2 → wpG M A (call f [v, v2]) Q E (r.at h tk')) (hk : k = .frame ∨ k = .machine := by first | exact .inl rfl | exact .inr rfl)
    (he : starEach [e, e2] env = (false, eval e env) :: starEach [e2] env := by rfl) (he2 : starEach [e2] env = (false, eval e2 env) :: starEach [] env := by rfl) :
    wpG M A (eval (.Call (.Name x p) [e, e2] [] pos) env) Q E (r.at h tk) :=
  g_CallE ef hl (Evs.cons a (Evs.cons a2 Evs.nil he2) he) (fun vs tk' ⟨v, vs', e1, hv, v2, vs2, e2, hv2, e3⟩ => by subst e3; subst e2; subst e1; exact c v v2 tk' hv hv2) hk he (by rw [he2]; rfl)
theorem g_Call3 {M : Model} {x : Str} {p pos : Pos} {e e2 e3 : Expr} {f : Value} {k : Keeper} {P P2 P3 : Value → Prop} {Q : Value → Shared → Prop} (ef : Ev M A env r h (.Name x p) (· = f)) (hl : Looks M h (keeperOf f) k)
    (a : Ev M A env r h e P) (a2 : Ev M A env r h e2 P2) (a3 : Ev M A env r h e3 P3) (c : ∀ v v2 v3 tk', P v → P2 v2 → P3 v3 → wpG M A (call f [v, v2, v3]) Q E (r.at h tk')) (hk : k = .frame ∨ k = .machine := by first | exact .inl rfl | exact .inr rfl)
    (he : starEach [e, e2, e3] env = (false, eval e env) :: starEach [e2, e3] env := by rfl) (he2 : starEach [e2, e3] env = (false, eval e2 env) :: starEach [e3] env := by rfl) (he3 : starEach [e3] env = (false, eval e3 env) :: starEach [] env := by rfl) :
    wpG M A (eval (.Call (.Name x p) [e, e2, e3] [] pos) env) Q E (r.at h tk) :=
  g_CallE ef hl (Evs.cons a (Evs.cons a2 (Evs.cons a3 Evs.nil he3) he2) he) (fun vs tk' ⟨v, vs', e1, hv, v2, vs2, e2, hv2, v3, vs3, e3, hv3, e4⟩ => by subst e4; subst e3; subst e2; subst e1; exact c v v2 v3 tk' hv hv2 hv3) hk he (by rw [he2, he3]; rfl)

theorem boot_bytearray : bootBuiltins "bytearray" = some (.type "bytearray") := by decide +kernel
theorem boot_bytes : bootBuiltins "bytes" = some (.type "bytes") := by decide +kernel
theorem boot_range : bootBuiltins "range" = some (.type "range") := by decide +kernel
theorem boot_len' : bootBuiltins "len" = some (.builtin "len") := boot_len
theorem n_bytearray (P : Params) : nsIn (KF P) mainGlobals (Str.ofString "bytearray") = some none := by kernel_rfl
theorem n_bytes (P : Params) : nsIn (KF P) mainGlobals (Str.ofString "bytes") = some none := by kernel_rfl
theorem n_range (P : Params) : nsIn (KF P) mainGlobals (Str.ofString "range") = some none := by kernel_rfl
theorem n_len (P : Params) : nsIn (KF P) mainGlobals (Str.ofString "len") = some none := by kernel_rfl

/-- an expression whose evaluation lays new objects alone -/
noncomputable def Ek (M : Model) (A : Around) (env : Env) (r : Rest) (h : Heap) (e : Expr) (P : Value → Heap → Prop) : Prop :=
  ∀ (E Q : Value → Shared → Prop) (tk : Nat), (∀ v h' tk', Kp h h' → P v h' → Q v (r.at h' tk')) → wpG M A (eval e env) Q E (r.at h tk)
theorem Ev.ek {M : Model} {e : Expr} {P : Value → Prop} (x : Ev M A env r h e P) : Ek M A env r h e (fun v _ => P v) := fun E Q tk hq => x E Q tk fun v tk' hv => hq v h tk' (Kp.refl h) hv
theorem Ek.mono {M : Model} {e : Expr} {P P' : Value → Heap → Prop} (x : Ek M A env r h e P) (hp : ∀ v h', Kp h h' → P v h' → P' v h') : Ek M A env r h e P' := fun E Q tk hq => x E Q tk fun v h' tk' kp hv => hq v h' tk' kp (hp v h' kp hv)
theorem x_LetK {x : Str} {pos' pos : Pos} {value : Expr} {rest : List Stmt} {Q : Flow → Shared → Prop} {P : Value → Heap → Prop} (S : Fm h₀ L m news h)
    (ev : Ek (model prog w) A env r h value P)
    (k : ∀ v h₁ h' tk', P v h₁ → Kp h h₁ → KpB [L] h₁ h' → Fm h₀ L (upd m x v) news h' → wpG (model prog w) A (execs rest env) Q E (r.at h' tk')) (hL : env.locals = L := by rfl)
    (hk : env.scope.kind = .function := by rfl) (hl : env.kindOf x = some .local := by rfl) (hs : swapsWith value (some (.Name x pos')) pos.line env = pure false := by rfl) :
    wpG (model prog w) A (execs (.Assign [.Name x pos'] value pos :: rest) env) Q E (r.at h tk) :=
  x_Assign (ev _ _ _ fun v h' tk' kp hp => g_store (S.kept kp) (fun h₂ tk₂ kb S' => k v h' h₂ tk₂ hp kp kb S') hL hk hl) hs
theorem x_RetK {e : Expr} {pos : Pos} {rest : List Stmt} {P : Value → Heap → Prop} {Q : Flow → Shared → Prop} (ev : Ek (model prog w) A env r h e P) (k : ∀ v h' tk', Kp h h' → P v h' → Q (.ret v) (r.at h' tk')) :
    wpG (model prog w) A (execs (.Return (some e) pos :: rest) env) Q E (r.at h tk) := x_Return (ev _ _ _ k)
theorem x_AssignSubE {o i : Expr} {pos' pos : Pos} {value : Expr} {rest : List Stmt} {Q : Flow → Shared → Prop} {Pv Po Pi : Value → Prop}
    (ev : Ev (model prog w) A env r h value Pv) (eo : Ev (model prog w) A env r h o Po) (ei : Ev (model prog w) A env r h i Pi)
    (k : ∀ v ov iv tk', Pv v → Po ov → Pi iv → wpG (model prog w) A (setItem ov iv v) (fun _ s₄ => wpG (model prog w) A (execs rest env) Q E s₄) E (r.at h tk'))
    (hs : swapsWithSole [.Subscript o i pos'] value pos.line env = pure false := by rfl) (hw : swappedStores [.Subscript o i pos'] value env = pure none := by rfl) :
    wpG (model prog w) A (execs (.Assign [.Subscript o i pos'] value pos :: rest) env) Q E (r.at h tk) :=
  x_AssignSub (ev _ _ _ fun v tk1 hv => eo _ _ _ fun ov tk2 ho => ei _ _ _ fun iv tk3 hi => k v ov iv tk3 hv ho hi) hs hw
end
end Mine
end

section
open PySem PySem.W PySem.Calls PyProof.Rows
open PySem.Sem (wp)
set_option maxRecDepth 100000
namespace Mine
/-- the octets of a number, the greatest first -/
noncomputable def be : Nat → Nat → List UInt8
  | 0, _ => []
  | s + 1, n => UInt8.ofNat (n / 256 ^ s) :: be s n
theorem be_length : ∀ s n, (be s n).length = s
  | 0, _ => rfl
  | s + 1, n => by simp [be, be_length s n]
theorem rep_set (k : Nat) (l : List UInt8) (d : UInt8) : (List.replicate (k + 1) 0 ++ l).set k d = List.replicate k 0 ++ d :: l := by
  induction k with
  | zero => rfl
  | succ k ih =>
    rw [List.replicate_succ (n := k + 1), List.cons_append, List.set_cons_succ, ih, List.replicate_succ (n := k)]
    rfl
theorem nat_fdiv (a b : Nat) : ((a : Int)).fdiv (b : Int) = ((a / b : Nat) : Int) := by
  rw [Int.fdiv_eq_ediv_of_nonneg _ (by lia)]
  exact (Int.natCast_ediv a b).symm
theorem nat_fmod (a b : Nat) : ((a : Int)).fmod (b : Int) = ((a % b : Nat) : Int) := by
  rw [Int.fmod_eq_emod_of_nonneg _ (by lia)]
  exact (Int.natCast_emod a b).symm
theorem nat_two (k : Nat) : (2 : Int) ^ k = ((2 ^ k : Nat) : Int) := by simp
theorem rangeSize_down (s : Nat) : Builtin.Range.rangeSize ((s : Int) - 1) (-1) (-1) = s := by
  unfold Builtin.Range.rangeSize
  rw [if_neg (by decide)]
  split
  · simp
  · lia
theorem small_down (s : Nat) (hs : s < 1000) : Builtin.Range.small ((s : Int) - 1) (-1) (-1) = true := by
  unfold Builtin.Range.small
  rw [rangeSize_down]
  simp [Builtin.Range.rangeFitsLong]
  lia

theorem pw_len {s i N : Nat} (h : i < s) : (List.replicate (s - i) 0 ++ be i N).toArray.size = s := by
  rw [List.size_toArray, List.length_append, List.length_replicate, be_length]
  exact Nat.sub_add_cancel (Nat.le_of_lt h)
theorem pw_at {s i : Nat} (h : i < s) : (s : Int) - 1 + (i : Nat) * (-1) = ((s - (i + 1) : Nat) : Int) := by omega
theorem pw_step {s i N : Nat} (h : i < s) : (List.replicate (s - i) 0 ++ be i N).toArray.setIfInBounds ((s : Int) - 1 + (i : Nat) * (-1)).toNat (((N / 256 ^ i : Nat) : Int).fmod 256).toNat.toUInt8 = (List.replicate (s - (i + 1)) 0 ++ be (i + 1) N).toArray := by
  rw [pw_at h, show (256 : Int) = ((256 : Nat) : Int) by rfl, nat_fmod, Int.toNat_natCast, Int.toNat_natCast]
  obtain ⟨j, rfl⟩ : ∃ j, s = i + 1 + j := ⟨s - (i + 1), (Nat.add_sub_cancel' h).symm⟩
  rw [Nat.add_sub_cancel_left, show i + 1 + j - i = j + 1 by omega, List.setIfInBounds_toArray, rep_set]
  exact congrArg (fun d => (List.replicate j 0 ++ d :: be i N).toArray) UInt8.ofNat_mod_size'
theorem pw_oct {x : Nat} : 0 ≤ ((x : Nat) : Int).fmod 256 ∧ ((x : Nat) : Int).fmod 256 < 256 := by
  rw [show (256 : Int) = ((256 : Nat) : Int) by rfl, nat_fmod]
  exact ⟨Int.natCast_nonneg _, Int.ofNat_lt.mpr (Nat.mod_lt _ (by decide))⟩
theorem pw_next {N i : Nat} : ((N / 256 ^ i : Nat) : Int).fdiv 256 = ((N / 256 ^ (i + 1) : Nat) : Int) := by
  rw [show (256 : Int) = ((256 : Nat) : Int) by rfl, nat_fdiv, Nat.div_div_eq_div_mul, ← Nat.pow_succ]
theorem pw_fit {N s : Nat} (hN : N < 256 ^ s) : (decide ((N : Int) < 0) || ((N : Int).fdiv (2 ^ (8 * (s : Int)).toNat) != 0)) = false := by
  have e : ((N : Int)).fdiv (2 ^ (8 * (s : Int)).toNat) = 0 := by
    rw [show (8 * (s : Int)).toNat = 8 * s by omega, nat_two, nat_fdiv, Nat.pow_mul, Nat.div_eq_of_lt hN]
    rfl
  rw [e, decide_eq_false (Int.not_lt.mpr (Int.natCast_nonneg _))]
  rfl

section
variable {prog : Program} {w : World} {A : Around} {E : Value → Shared → Prop} {env : Env} {r : Rest} {h h₀ : Heap} {L : Addr} {m mg mb : Str → Option Value} {news : List (Addr × Obj)} {tk : Nat} {P : Params}

/-- what the loop of put_whole keeps -/
structure PWInv (h : Heap) (L B I : Addr) (N s : Nat) (i : Nat) (h' : Heap) (m' : Str → Option Value) (t' : Tok) : Prop where
  F : Fm h L m' [] h'
  hn : m' (Str.ofString "n") = some (.int (N / 256 ^ i : Nat) t')
  hf : m' (Str.ofString "found") = some (.ref B)
  it : IsRangeIter h' I ((s : Int) - 1 + (i : Nat) * (-1)) ((s : Int) - (i : Nat)) (-1)
  hb : h'.get? B = some (BA.obj (List.replicate (s - i) 0 ++ be i N).toArray)
theorem put_whole_g {N s : Nat} {t u : Tok} {Q : Value → Shared → Prop} (R : Room A 2) (S : SB (KF P) mg mb h) (hs1 : 1 ≤ s) (hs : s ≤ 8) (hN : N < 256 ^ s)
    (k : ∀ t h' tk', Kp h h' → Q (.bytes (be s N).toArray t) (r.at h' tk')) : wpG (model prog w) A (call (.ref 82) [.int N t, .int s u]) Q E (r.at h tk) := by
  refine call_g1 (binds := [(Str.ofString "n", .int N t), (Str.ofString "size", .int s u)]) S ⟨⟨_, _, _, rfl⟩, by kernel_rfl, rfl, rfl, rfl, rfl⟩ R (fun s => BindsTo.of_eq rfl) (by decide) (locs rfl) fun L A1 Post h₁ tk₁ hA R1 hret hLe F1 => ?_
  clear hA
  have hbig : ∀ {b : Addr}, L < b → h.get? b = none := fun hlt => Heap.get?_none_of_le (hLe ▸ Nat.le_of_lt hlt)
  have S1 : SB (KF P) mg mb h₁ := S.keeps F1.kp
  have hL1 : L < h₁.objs.size := F1.F.ns.lt
  refine x_IfE (b := (decide ((N : Int) < 0) || ((N : Int).fdiv (2 ^ (8 * (s : Int)).toNat) != 0))) (Et.or2 (Et.cmp (Ev.loc F1 rfl ⟨t, rfl⟩) Ev.int CmpI.lt)
    fun _ => Et.cmp (Ev.bin (Ev.loc F1 rfl ⟨t, rfl⟩) (Ev.bin Ev.int (Ev.loc F1 rfl ⟨u, rfl⟩) (OpI.mul (IntMulOk.of_left (by decide)))) (OpI.shr (by lia))) Ev.int CmpI.ne) ?yes ?no
  case yes =>
    intro hc
    rw [pw_fit hN] at hc
    cases hc
  case no =>
    intro hc tk2
    refine x_nil ?_
    refine x_LetK (P := fun v h' => v = .ref h₁.objs.size ∧ h'.get? h₁.objs.size = some (BA.obj (Array.replicate s 0))) F1
      (fun E Q tk hq => g_Call1 (Ev.blt S1 (n_bytearray P) boot_bytearray rfl) looks_type (Ev.loc F1 rfl (rfl : _ = Value.int s u)) fun v tk' hv => ?_) ?_
    · subst hv
      exact BA.make_int R1.guards (Int.natCast_nonneg _) (Int.ofNat_le.mpr (Nat.le_trans hs (by decide))) fun h' kp hb => hq _ _ _ kp ⟨rfl, hb⟩
    · rintro _ h2 h3 tk3 ⟨rfl, hb2⟩ kp2 kb3 F3
      have S3 : SB (KF P) mg mb h3 := S.keeps F3.kp
      have hB : L ≠ h₁.objs.size := Nat.ne_of_lt hL1
      have hB3 : h3.get? h₁.objs.size = some (BA.obj (Array.replicate s 0)) := kb3 _ _ (nm (Ne.symm hB)) hb2
      have hB3s : h₁.objs.size < h3.objs.size := Heap.lt_size hB3
      refine x_For (fun _ => rfl) (g_Call3 (Ev.blt S3 (n_range P) boot_range rfl) looks_type (Ev.bin (Ev.loc F3 rfl ⟨u, rfl⟩) Ev.int OpI.sub) (Ev.neg Ev.int) (Ev.neg Ev.int) fun v v2 v3 tk4 hv hv2 hv3 => ?_)
      obtain ⟨t1, rfl⟩ := hv
      obtain ⟨t2, rfl⟩ := hv2
      obtain ⟨t3, rfl⟩ := hv3
      refine lift (call_range_3 (s := r.at h3 tk4) (by decide) ?_ (.inl (PyProof.noPylong_small (by decide))))
      refine lift (wpAny_pyIter_range (IsRange.new ..) (small_down s (Nat.lt_of_le_of_lt hs (by decide))) ?_)
      rw [rangeSize_down]
      have hsz : (h3.push { cls := .type "range", data := .fields #[.int (s - 1) t1, .int (-1) t2, .int (-1) t3] }).objs.size = h3.objs.size + 1 := Heap.size_push _ _
      have hI : L ≠ h3.objs.size + 1 := Nat.ne_of_lt (Nat.lt_succ_of_lt (Nat.lt_trans hL1 hB3s))
      have hI2 : h₁.objs.size ≠ h3.objs.size + 1 := Nat.ne_of_lt (Nat.lt_succ_of_lt hB3s)
      show codeG (model prog w) _ (.forLoop _ (.ref (h3.push _).objs.size) _ _ _) _ _
      rw [hsz]
      refine codeG_forP (Walks.range R1.hand (h3.objs.size + 1) ((s : Int) - 1) (-1) s) (fun i h' => ∃ m' t', PWInv h L h₁.objs.size (h3.objs.size + 1) N s i h' m' t') ?_ ?_ ?_ ?_ (Nat.zero_le _) ?_
      · exact fun i h' ⟨_, _, V⟩ => V.it
      · intro i h' tk v Q _ hq; exact own_name hq
      · rintro i h' v h2 tk2 Post2 hnx hrt hi ⟨m', t', V⟩ ⟨tv, rfl⟩ st kb
        have F2 : Fm h L m' [] h2 := V.F.but1 kb (hI) (hbig ( (Nat.lt_succ_of_lt (Nat.lt_trans hL1 hB3s))))
        have hb2 := kb _ _ (nm (hI2)) V.hb
        have hn := V.hn
        have hf := V.hf
        clear V kb
        refine g_assignName (g_store F2 fun h4 tk4 kb4 F4 => ?_)
        have hb4 := kb4 _ _ (nm (Ne.symm hB)) hb2
        have st4 : IsRangeIter h4 (h3.objs.size + 1) ((s : Int) - 1 + ((i + 1 : Nat) : Int) * (-1)) ((s : Int) - ((i + 1 : Nat) : Int)) (-1) := kb4 _ _ (nm (Ne.symm hI)) st
        clear st hb2 F2
        refine x_AssignSubE (Ev.bin (Ev.loc F4 ((upd_ne (by decide)).trans hn) ⟨t', rfl⟩) Ev.int (OpI.mod (by decide))) (Ev.loc F4 ((upd_ne (by decide)).trans hf) (rfl : _ = Value.ref h₁.objs.size)) (Ev.loc F4 upd_same (rfl : _ = Value.int ((s : Int) - 1 + (i : Nat) * (-1)) tv)) ?_
        rintro _ _ _ tk5 ⟨t5, rfl⟩ rfl rfl
        refine BA.setItem_int hb4 (by rw [pw_at hi]; exact Int.natCast_nonneg _) (by rw [pw_at hi, pw_len hi]; exact Int.ofNat_lt.mpr (Nat.sub_lt hs1 (Nat.succ_pos i))) (by rw [pw_len hi]; exact Nat.lt_of_le_of_lt hs (by decide)) pw_oct.1 pw_oct.2 fun h5 hb5 sb5 => ?_
        rw [pw_step hi] at hb5
        have kb5 : KpB [h₁.objs.size] h4 h5 := fun b o hb' e => (sb5.2 b (fun q => hb' (q ▸ List.Mem.head _))).trans e
        have F5 : Fm h L _ [] h5 := F4.but1 kb5 (hB) (hbig ( hL1))
        refine x_Let F5 (Ev.bin (Ev.loc F5 ((upd_ne (by decide)).trans hn) ⟨t', rfl⟩) Ev.int (OpI.eq (OpI.fdiv (by decide) (PyProof.noPylong_small (by decide))) pw_next)) fun v6 h6 tk6 hv6 kb6 F6 => ?_
        obtain ⟨t6, rfl⟩ := hv6
        exact x_nil (hnx h6 tk6 ⟨_, t6, F6, upd_same, (upd_ne (by decide)).trans ((upd_ne (by decide)).trans hf), kb6 _ _ (nm (Ne.symm hI)) (kb5 _ _ (nm (Ne.symm hI2)) st4), kb6 _ _ (nm (Ne.symm hB)) hb5⟩)
      · rintro h' h6 tk6 ⟨m', t', V⟩ kb
        have F6 : Fm h L m' [] h6 := V.F.but1 kb (hI) (hbig ( (Nat.lt_succ_of_lt (Nat.lt_trans hL1 hB3s))))
        have S6 : SB (KF P) mg mb h6 := S.keeps F6.kp
        have hb6 := kb _ _ (nm (hI2)) V.hb
        rw [Nat.sub_self] at hb6
        have hf := V.hf
        clear V
        refine x_RetK (P := fun v h' => ∃ t, v = .bytes (be s N).toArray t) (fun E Q tk hq => g_Call1 (Ev.blt S6 (n_bytes P) boot_bytes rfl) looks_type (Ev.loc F6 hf (rfl : _ = Value.ref h₁.objs.size)) fun v tk' hv => ?_) fun v h7 tk7 kp7 hv => ?_
        · subst hv
          exact BA.to_bytes (b := (be s N).toArray) hb6 (by rw [List.size_toArray, be_length]; exact Nat.lt_of_le_of_lt hs (by decide)) fun t tk' => hq _ _ _ (Kp.refl _) ⟨t, rfl⟩
        · obtain ⟨t7, rfl⟩ := hv
          exact hret _ _ (k t7 h7 tk7 (F6.kp.trans kp7))
      · refine ⟨_, t, F3.kept ((Kp.push _ _).trans (Kp.push _ _)), (by rw [Nat.pow_zero, Nat.div_one]; rfl), upd_same, ?_, ?_⟩
        · rw [← hsz]
          exact (Heap.get?_push_size _ rfl).trans (by simp)
        · rw [Heap.get?_push_of_some _ (Heap.get?_push_of_some _ hB3)]
          simp [be, List.toArray_replicate]
end
end Mine
end

section
open PySem PySem.W PySem.Calls PyProof.Rows
open PySem.Sem (wp)
set_option maxRecDepth 100000
namespace Mine

theorem ints_at : ∀ {vs : List Value} {ns : List Int}, IntsAre vs ns → ∀ (i : Nat) {n : Int}, ns[i]? = some n → ∃ t, vs[i]? = some (.int n t)
  | _, _, .nil, _, _, h => by simp at h
  | _, _, .cons m t hr, 0, n, h => by simp at h; subst h; exact ⟨t, rfl⟩
  | _, _, .cons m t hr, i + 1, n, h => by simpa using ints_at hr i (by simpa using h)
theorem meets_index (a : Addr) (items : Array Value) (ns : List Int) (x : Int) (u : Tok) (i : Nat) (hi : IntsAre items.toList ns) (hx : ns[i]? = some x) (hne : ∀ j, j < i → ns[j]? ≠ some x) :
    Meets (Builtin.«tuple.index» ⟨[.ref a, .int x u], []⟩) (fun _ R s => IsTup s.heap a items ∧ R (.ok (.ret (.int i s.toks))) { s with toks := s.toks + 1 }) := by
  refine .of_wp fun prog w A R s hS => ?_
  obtain ⟨ht, hr⟩ := hS
  show wpAny _ _ (Builtin.Tuple.tupleItemsOf (.ref a) >>= _) _ _ s
  refine wpAny_bind (tupleItemsOf_ ht ?_)
  refine wpAny_bind (wpAny_pure (wpAny_bind (wpAny_pure ?_)))
  have hlen : items.size = ns.length := by have := hi.length; simpa using this
  have hil : i < ns.length := by
    rcases Nat.lt_or_ge i ns.length with h | h
    · exact h
    · rw [List.getElem?_eq_none h] at hx; cases hx
  refine wpAny_bind ?_
  rw [Std.Legacy.Range.forIn_eq_forIn_range']
  have hsz : ([0:min items.size items.size] : Std.Legacy.Range).size = items.size := by simp [Std.Legacy.Range.size]
  show wpAny _ _ (forIn (List.range' 0 ([0:min items.size items.size] : Std.Legacy.Range).size 1) _ _) _ _ s
  rw [hsz]
  refine wpAny_forIn_list _ (fun rest b s' => b.1 = none ∧ s' = s ∧ ∃ k, k ≤ i ∧ rest = List.range' k (items.size - k)) _ ?_ ?_ _ _ ⟨rfl, rfl, 0, Nat.zero_le _, by simp⟩
  · rintro y rest b s' ⟨hb, rfl, k, hk, hrest⟩
    have hkl : k < items.size := by lia
    obtain ⟨c, hc⟩ : ∃ c, items.size - k = c + 1 := ⟨items.size - k - 1, by lia⟩
    rw [hc, List.range'_succ] at hrest
    obtain ⟨rfl, rfl⟩ := List.cons.inj hrest
    have hkn : ns[y]? = some (ns[y]'(by lia)) := List.getElem?_eq_getElem _
    obtain ⟨t', ht'⟩ := ints_at hi y hkn
    have hget : items[y]? = some (.int (ns[y]'(by lia)) t') := by simpa using ht'
    rw [hget]
    refine wpAny_bind (wpAny_eqBool_int ?_)
    by_cases hyi : y = i
    · subst hyi
      rw [hkn] at hx
      have e : ns[y]'(by lia) = x := Option.some.inj hx
      rw [e]
      simp only [beq_self_eq_true, if_true]
      exact wpAny_bind (wpAny_bind (wpAny_mkInt (wpAny_pure (wpAny_pure (wpAny_pure ⟨_, rfl, hr⟩)))))
    · have hlt : y < i := by lia
      have e : ((ns[y]'(by lia)) == x) = false := by
        rw [beq_eq_false_iff_ne]
        intro h
        exact hne y hlt (by rw [hkn, h])
      rw [e]
      exact wpAny_pure ⟨rfl, rfl, y + 1, hlt, by rw [show items.size - (y + 1) = c by lia]⟩
  · rintro b s' ⟨hb, rfl, k, hk, hrest⟩
    exfalso
    have := congrArg List.length hrest
    simp at this
    lia

section
variable {prog : Program} {w : World} {A : Around} {E : Value → Shared → Prop} {env : Env} {r : Rest} {h h₀ : Heap} {L : Addr} {m mg mb : Str → Option Value} {news : List (Addr × Obj)} {tk : Nat} {P : Params}

theorem tuple_index {a : Addr} {items : Array Value} {ns : List Int} {x : Int} {u : Tok} {i : Nat} {s : Shared} {Q : Value → Shared → Prop} (ht : IsTup s.heap a items) (hi : IntsAre items.toList ns) (hx : ns[i]? = some x) (hne : ∀ j, j < i → ns[j]? ≠ some x)
    (k : Q (.int i s.toks) { s with toks := s.toks + 1 }) : wpAny (model prog w) A (call (.builtin "tuple.index") [.ref a, .int x u]) Q E s :=
  call_meets PySem.F.slot_tuple_index ht.typeIs PySem.F.entry_tuple_index (PySem.F.args_tuple_index_2 _ _) (meets_index a items ns x u i hi hx hne) ⟨ht, k⟩

/-- a method of one plain argument that changes nothing -/
theorem Ev.meth1 {o e : Expr} {name : Str} {apos pos : Pos} {T id : String} {ov : Value} {Pe P : Value → Prop}
    (pa : PlainAttrs T) (slot : Slot T name id) (hty : typeOf (.builtin id) = pure (.type "method_descriptor"))
    (eo : Ev (model prog w) A env r h o (· = ov)) (hT : (r.at h 0).TypeIs ov T) (hd : ∀ a, ov = .ref a → ∃ ob, h.get? a = some ob ∧ ob.dict = Option.none)
    (ee : Ev (model prog w) A env r h e Pe) (k : ∀ v (E Q : Value → Shared → Prop) tk, Pe v → (∀ v' tk', P v' → Q v' (r.at h tk')) → wpG (model prog w) A (call (.builtin id) [ov, v]) Q E (r.at h tk))
    (hbase : attributeBase o name env (eval o env) = eval o env := by rfl)
    (hfew : ((backTo pos (starEach [e] env)).all (fun x => !x.1) && (backToKw pos (keywordEach [] env)).all (fun x => x.1.isSome)
      && decide ([e].length + ([] : List Keyword).length + (if ([] : List Keyword).isEmpty then 0 else 1) < 30)) = true := by rfl)
    (hline : (apos.endLine == pos.line) = true := by rfl) (he : starEach [e] env = (false, eval e env) :: starEach [] env := by rfl) :
    Ev (model prog w) A env r h (.Call (.Attribute o name apos) [e] [] pos) P := fun E Q tk hq => by
  refine g_Method pa slot hty (eo _ _ _ fun v tk1 hv => ?_) hbase hfew hline
  subst hv
  refine ⟨hT, hd, g_callWith (.inr rfl) (Evs.cons ee Evs.nil he _ _ _ _ fun vs tk2 ⟨v, vs', e1, hv, e2⟩ => ⟨looks_blt, ?_⟩) he⟩
  subst e2
  subst e1
  exact k v E Q tk2 hv hq

theorem Et.isNone {e : Expr} {pos p : Pos} {k : Nat} {v : Value} (x : Ev (model prog w) A env r h e (· = v)) : Et (model prog w) A env r h (.Compare e [.Is] [.Constant .none k p] pos) (v == .none) := fun E Q tk hq => by
  refine g_isTrue_Compare1 (x _ _ _ fun v' tk₁ hv => (Ev.none : Ev (model prog w) A env r h _ _) _ _ _ fun v2 tk₂ hv' => ?_)
  subst hv hv'
  exact lift (is_none_gen (s := r.at h tk₂) (lift (wpAny_truthy_bool (hq _)) : wpG _ _ _ _ _ _)) 
theorem Et.notIn {e e2 : Expr} {pos : Pos} {a : Addr} {items : Array Value} {ns : List Int} {x : Int} (ex : Ev (model prog w) A env r h e (IsI x)) (et : Ev (model prog w) A env r h e2 (· = .ref a)) (ht : IsTup h a items) (hi : IntsAre items.toList ns)
    (hm : behindInMarks .NotIn e2 = false := by with_unfolding_all rfl) : Et (model prog w) A env r h (.Compare e [.NotIn] [e2] pos) (!(ns.any (· == x))) := fun E Q tk hq => by
  refine g_isTrue_Compare1 (ex _ _ _ fun v' tk₁ hv => et _ _ _ fun v2 tk₂ hv' => ?_) hm
  obtain ⟨t, rfl⟩ := hv
  subst hv'
  exact lift (notin_tuple_ints (s := r.at h tk₂) ht hi (g_truthy_bool (hq _)))

theorem bitOr_nat (a b : Nat) : Builtin.bitOr (a : Int) (b : Int) = ((a ||| b : Nat) : Int) := by
  have h1 : Builtin.bitNot (a : Int) = -(a : Int) - 1 := rfl
  have h2 : Builtin.bitNot (b : Int) = -(b : Int) - 1 := rfl
  have h3 : Builtin.bitNot (-(a : Int) - 1) = a := by show -(-(a : Int) - 1) - 1 = a; lia
  have h4 : Builtin.bitNot (-(b : Int) - 1) = b := by show -(-(b : Int) - 1) - 1 = b; lia
  unfold Builtin.bitOr
  rw [h1, h2]
  unfold Builtin.bitAnd
  rw [decide_eq_false (by lia), decide_eq_false (by lia)]
  show Builtin.bitNot (Builtin.bitNot _) = _
  rw [h3, h4]
  show -(-(((a : Int).toNat ||| (b : Int).toNat : Nat) : Int) - 1) - 1 = _
  simp only [Int.toNat_natCast]
  lia
theorem bitOr_shl (i k n : Nat) (hn : n < 2 ^ k) : Builtin.bitOr ((i * 2 ^ k : Nat) : Int) (n : Int) = ((i * 2 ^ k + n : Nat) : Int) := by
  rw [bitOr_nat]
  congr 1
  rw [Nat.mul_comm, Nat.two_pow_add_eq_or_of_lt hn]
end
end Mine
end

section
open PySem PySem.W PySem.Calls PyProof.Rows
open PySem.Sem (wp)
set_option maxRecDepth 100000
namespace Mine

noncomputable def vix (n : Nat) : Nat := if n < 2 ^ 6 then 0 else if n < 2 ^ 14 then 1 else if n < 2 ^ 30 then 2 else 3
/-- a number written in 2 to the power i octets -/
noncomputable def pv (i n : Nat) : List UInt8 := be (2 ^ i) (i * 2 ^ (8 * 2 ^ i - 2) + n)
theorem vix_lt (n : Nat) : vix n < 4 := by unfold vix; (repeat' split) <;> lia
theorem vsz_eq (n : Nat) : vsz (n : Int) = ((2 ^ vix n : Nat) : Int) := by
  unfold vsz vix
  by_cases h1 : n < 2 ^ 6
  · rw [if_pos (by lia), if_pos h1]; rfl
  rw [if_neg (by lia), if_neg h1]
  by_cases h2 : n < 2 ^ 14
  · rw [if_pos (by lia), if_pos h2]; rfl
  rw [if_neg (by lia), if_neg h2]
  by_cases h3 : n < 2 ^ 30
  · rw [if_pos (by lia), if_pos h3]; rfl
  rw [if_neg (by lia), if_neg h3]; rfl
theorem lt_of_vix {n i : Nat} (hi : i < 4) (hv : vix n ≤ i) (hn : n < 2 ^ 62) : n < 2 ^ (8 * 2 ^ i - 2) := by
  unfold vix at hv
  obtain rfl | rfl | rfl | rfl : i = 0 ∨ i = 1 ∨ i = 2 ∨ i = 3 := by lia
  all_goals (simp only [Nat.reducePow, Nat.reduceMul, Nat.reduceSub] at hv hn ⊢; revert hv; repeat' split) <;> lia
theorem four {p : Nat → Prop} (h0 : p 0) (h1 : p 1) (h2 : p 2) (h3 : p 3) : ∀ i, i < 4 → p i
  | 0, _ => h0
  | 1, _ => h1
  | 2, _ => h2
  | 3, _ => h3
theorem pv_any : ∀ i : Nat, i < 4 → ([(1 : Int), 2, 4, 8].any (· == ((2 ^ i : Nat) : Int))) = true := four (by decide) (by decide) (by decide) (by decide)
theorem pv_get : ∀ i : Nat, i < 4 → ([1, 2, 4, 8] : List Int)[i]? = some ((2 ^ i : Nat) : Int) := four rfl rfl rfl rfl
theorem pv_first : ∀ i : Nat, i < 4 → ∀ j, j < i → ([1, 2, 4, 8] : List Int)[j]? ≠ some ((2 ^ i : Nat) : Int) := four (by decide) (by decide) (by decide) (by decide)
theorem pv_sh0 : ∀ i : Nat, i < 4 → (0 : Int) ≤ 8 * ((2 ^ i : Nat) : Int) - 2 := four (by decide) (by decide) (by decide) (by decide)
theorem pv_sh1 : ∀ i : Nat, i < 4 → 8 * ((2 ^ i : Nat) : Int) - 2 ≤ (1000000 : Int) := four (by decide) (by decide) (by decide) (by decide)
theorem pv_sh2 : ∀ i : Nat, i < 4 → (i : Int).natAbs < 2 ^ 64 := four (by decide) (by decide) (by decide) (by decide)
theorem pv_le8 : ∀ i : Nat, i < 4 → 2 ^ i ≤ 8 := four (by decide) (by decide) (by decide) (by decide)
theorem pv_top (i : Nat) : (8 * ((2 ^ i : Nat) : Int) - 2).toNat = 8 * 2 ^ i - 2 := by omega
theorem pv_lt {n i : Nat} (hi : i < 4) (h : n < 2 ^ (8 * 2 ^ i - 2)) : i * 2 ^ (8 * 2 ^ i - 2) + n < 256 ^ (2 ^ i) := by
  obtain rfl | rfl | rfl | rfl : i = 0 ∨ i = 1 ∨ i = 2 ∨ i = 3 := by lia
  all_goals (simp only [Nat.reducePow, Nat.reduceMul, Nat.reduceSub] at h ⊢) <;> lia

section
variable {prog : Program} {w : World} {A : Around} {E : Value → Shared → Prop} {env : Env} {r : Rest} {h h₀ : Heap} {L : Addr} {m mg mb : Str → Option Value} {news : List (Addr × Obj)} {tk : Nat} {P : Params}

theorem x_IfJ {M : Model} {test : Expr} {body orelse : List Stmt} {pos : Pos} {rest : List Stmt} {b : Bool} {Q : Flow → Shared → Prop} {J : Shared → Prop} (ev : Et M A env r h test b)
    (k1 : b = true → ∀ tk', wpG M A (execs body env) (fun f s' => f = .next ∧ J s') E (r.at h tk'))
    (k2 : b = false → ∀ tk', wpG M A (execs orelse env) (fun f s' => f = .next ∧ J s') E (r.at h tk'))
    (k : ∀ s', J s' → wpG M A (execs rest env) Q E s') :
    wpG M A (execs (.If test body orelse pos :: rest) env) Q E (r.at h tk) :=
  x_IfE ev (fun hb tk' => g_mono (k1 hb tk') (fun f s' ⟨e, hj⟩ => by subst e; exact k s' hj) fun _ _ x => x) (fun hb tk' => g_mono (k2 hb tk') (fun f s' ⟨e, hj⟩ => by subst e; exact k s' hj) fun _ _ x => x)

theorem n_vsize (P : Params) : nsIn (KF P) mainGlobals (Str.ofString "varint_size") = some (some (.ref 96)) := by kernel_rfl
theorem n_pwhole (P : Params) : nsIn (KF P) mainGlobals (Str.ofString "put_whole") = some (some (.ref 82)) := by kernel_rfl
theorem kp_vsize {M : Model} (S : SB (KF P) mg mb h) : Looks M h (keeperOf (.ref 96)) .frame := (Looks.ld (part := Option.none) (S.X 96 _ rfl)).andThen .now
theorem kp_pwhole {M : Model} (S : SB (KF P) mg mb h) : Looks M h (keeperOf (.ref 82)) .frame := (Looks.ld (part := Option.none) (S.X 82 _ rfl)).andThen .now

theorem vs_ints (S : SB (KF P) mg mb h) : ∃ items : Array Value, IsTup h 75 items ∧ IntsAre items.toList [1, 2, 4, 8] ∧ (∃ ob, h.get? 75 = some ob ∧ ob.dict = none) := by
  refine ⟨_, ⟨_, S.X 75 _ rfl, rfl, _, rfl⟩, .cons 1 _ (.cons 2 _ (.cons 4 _ (.cons 8 _ .nil))), ⟨_, S.X 75 _ rfl, rfl⟩⟩

theorem put_varint_g {n i : Nat} {t : Tok} {sv : Value} {Q : Value → Shared → Prop} (R : Room A 4) (S : SB (KF P) mg mb h) (hi : i < 4) (hv : vix n ≤ i) (hn : n < 2 ^ 62) (hsv : sv = .none ∧ i = vix n ∨ ∃ u, sv = .int (2 ^ i : Nat) u)
    (k : ∀ t h' tk', Kp h h' → Q (.bytes (pv i n).toArray t) (r.at h' tk')) : wpG (model prog w) A (call (.ref 103) [.int n t, sv]) Q E (r.at h tk) := by
  refine call_g1 (binds := [(Str.ofString "n", .int n t), (Str.ofString "size", sv)]) S ⟨⟨_, _, _, rfl⟩, by kernel_rfl, rfl, rfl, rfl, rfl⟩ R (fun s => BindsTo.of_eq rfl) (by decide) (locs rfl) fun L A1 Post h₁ tk₁ hA R1 hret hLe F1 => ?_
  clear hA hLe
  have S1 := S.keeps F1.kp
  have hN := lt_of_vix hi hv hn
  have hw : ((2 ^ vix n : Nat) : Int) ≤ ((2 ^ i : Nat) : Int) := Int.ofNat_le.mpr (Nat.pow_le_pow_right (by decide) hv)
  have hsz := vsz_eq n
  have hqi : i = vix n → 2 ^ vix n = 2 ^ i := fun e => e ▸ rfl
  generalize 2 ^ vix n = q at hw hsz hqi
  refine x_LetK (P := fun v _ => IsI (q : Int) v) F1 (fun E Q tk hq => g_Call1 (Ev.glob S1 (n_vsize P) rfl) (kp_vsize S1) (Ev.loc F1 rfl (rfl : _ = Value.int n t)) fun v tk' hv => ?_) fun v2 h2 h3 tk3 hv2 kp2 kb3 F3 => ?_
  · subst hv
    exact varint_size_g (R1.le (by decide)) S1 (Int.natCast_nonneg n) (Int.ofNat_lt.mpr hn) fun t h' tk' kp => hq _ h' tk' kp ⟨t, congrArg (fun x => Value.int x t) hsz⟩
  clear hsz F1 S1 kp2 kb3
  obtain ⟨t2, rfl⟩ := hv2
  have S3 : SB (KF P) mg mb h3 := S.keeps F3.kp
  refine x_IfJ (b := (sv == .none)) (J := fun s' => ∃ h' tk' m' u, s' = r.at h' tk' ∧ Fm h L m' [] h' ∧ m' (Str.ofString "n") = some (.int n t) ∧ m' (Str.ofString "least") = some (.int q t2) ∧ m' (Str.ofString "size") = some (.int (2 ^ i : Nat) u))
    (Et.isNone (Ev.loc F3 (rfl : _ = some sv) rfl)) ?_ ?_ ?_
  · intro hb tk4
    obtain ⟨_, hie⟩ | ⟨u, hu⟩ := hsv
    · refine x_Let F3 (Ev.loc F3 rfl (rfl : _ = Value.int q t2)) fun v h5 tk5 hv5 kb5 F5 => ?_
      subst hv5
      exact x_nil ⟨rfl, h5, tk5, _, t2, rfl, F5, rfl, rfl, congrArg (fun x : Nat => some (Value.int x t2)) (hqi hie)⟩
    · rw [hu] at hb; cases hb
  · intro hb tk4
    obtain ⟨e, _⟩ | ⟨u, hu⟩ := hsv
    · rw [e] at hb; cases hb
    · exact x_nil ⟨rfl, h3, tk4, _, u, rfl, F3, rfl, rfl, congrArg some hu⟩
  · clear hsv F3 S3
    rintro _ ⟨h4, tk4, m', u, rfl, F4, a1, a2, a3⟩
    have S4 : SB (KF P) mg mb h4 := S.keeps F4.kp
    refine shut fun X0 hX0 => ?_
    obtain ⟨items, ht, his, hdict⟩ := vs_ints S4
    refine hX0 ?_
    clear hX0
    refine x_IfE (b := (decide (((2 ^ i : Nat) : Int) < (q : Int)) || !([(1 : Int), 2, 4, 8].any (· == ((2 ^ i : Nat) : Int))))) (Et.or2 (Et.cmp (Ev.loc F4 a3 ⟨u, rfl⟩) (Ev.loc F4 a2 ⟨t2, rfl⟩) CmpI.lt)
      fun _ => Et.notIn (Ev.loc F4 a3 ⟨u, rfl⟩) (Ev.glob S4 (n_VS P) rfl) ht his) ?_ ?_
    · intro hc
      rw [decide_eq_false (Int.not_lt.mpr hw), pv_any i hi] at hc
      cases hc
    · intro _ tk5
      refine x_nil ?_
      refine x_RetK (P := fun v h' => IsBy (pv i n).toArray v) (fun E Q tk hq => ?_) fun v h' tk' kp ⟨t, hv⟩ => ?_
      · refine g_Call2 (Ev.glob S4 (n_pwhole P) rfl) (kp_pwhole S4) (P := IsI ((i * 2 ^ (8 * 2 ^ i - 2) + n : Nat) : Int)) (Ev.bin (Ev.bin (Ev.meth1 PySem.F.plainAttrs_tuple PySem.F.slot_tuple_index PySem.F.type_tuple_index (P := IsI i) (Ev.glob S4 (n_VS P) rfl)
          ht.typeIs (fun a e => by cases e; exact hdict) (Ev.loc F4 a3 (rfl : _ = Value.int (2 ^ i : Nat) u)) fun v E Q tk hv hq => ?_) (Ev.bin (Ev.bin Ev.int (Ev.loc F4 a3 ⟨u, rfl⟩) (OpI.mul (IntMulOk.of_left (by decide)))) Ev.int OpI.sub) (OpI.shl (pv_sh0 i hi) (pv_sh1 i hi) (pv_sh2 i hi))) (Ev.loc F4 a1 ⟨t, rfl⟩) (OpI.eq OpI.or ?_))
          (Ev.loc F4 a3 (rfl : _ = Value.int (2 ^ i : Nat) u)) fun v v2 tk6 hv hv2 => ?_
        · subst hv
          exact lift (tuple_index (s := r.at h4 tk) (i := i) ht his (pv_get i hi) (pv_first i hi) (hq _ _ ⟨_, rfl⟩))
        · rw [pv_top i, show (i : Int) * 2 ^ (8 * 2 ^ i - 2) = ((i * 2 ^ (8 * 2 ^ i - 2) : Nat) : Int) by rw [nat_two]; exact (Int.natCast_mul _ _).symm, bitOr_shl _ _ _ hN]
        · obtain ⟨t6, rfl⟩ := hv
          subst hv2
          exact put_whole_g (R1.le (by decide)) S4 (Nat.one_le_two_pow) (pv_le8 i hi) (pv_lt hi hN) fun t h' tk' kp => hq _ h' tk' kp ⟨t, rfl⟩
      · subst hv
        exact hret _ _ (k t h' tk' (F4.kp.trans kp))
end
end Mine
end

section
open PySem PySem.W PySem.Calls PyProof.Rows
open PySem.Sem (wp)
set_option maxRecDepth 100000
namespace Mine

section
variable {prog : Program} {w : World} {A : Around} {E : Value → Shared → Prop} {env : Env} {r : Rest} {h h₀ : Heap} {L : Addr} {m mg mb : Str → Option Value} {news : List (Addr × Obj)} {tk : Nat} {P : Params}

theorem Ek.run {M : Model} {e : Expr} {P : Value → Heap → Prop} (x : Ek M A env r h e P) {Q : Value → Shared → Prop} (k : ∀ v h' tk', Kp h h' → P v h' → Q v (r.at h' tk')) : wpG M A (eval e env) Q E (r.at h tk) := x E Q tk k
theorem Ev.run {M : Model} {e : Expr} {P : Value → Prop} (x : Ev M A env r h e P) {Q : Value → Shared → Prop} (k : ∀ v tk', P v → Q v (r.at h tk')) : wpG M A (eval e env) Q E (r.at h tk) := x E Q tk k
/-- a call that changes nothing -/
theorem Ev.call1 {M : Model} {x : Str} {p pos : Pos} {e : Expr} {f : Value} {k : Keeper} {P P' : Value → Prop} (ef : Ev M A env r h (.Name x p) (· = f)) (hl : Looks M h (keeperOf f) k)
    (a : Ev M A env r h e P) (c : ∀ v (E Q : Value → Shared → Prop) tk, P v → (∀ v' tk', P' v' → Q v' (r.at h tk')) → wpG M A (call f [v]) Q E (r.at h tk)) (hk : k = .frame ∨ k = .machine := by first | exact .inl rfl | exact .inr rfl)
    (he : starEach [e] env = (false, eval e env) :: starEach [] env := by rfl) : Ev M A env r h (.Call (.Name x p) [e] [] pos) P' := fun E Q tk hq =>
  g_Call1 ef hl a (fun v tk' hv => c v E Q tk' hv hq) hk he
theorem Ev.lenB {p pos : Pos} {e : Expr} {b : Array UInt8} {t : Tok} (ef : Ev (model prog w) A env r h (.Name (Str.ofString "len") p) (· = .builtin "len")) (a : Ev (model prog w) A env r h e (· = .bytes b t)) (hz : b.size < 1000000)
    (he : starEach [e] env = (false, eval e env) :: starEach [] env := by rfl) : Ev (model prog w) A env r h (.Call (.Name (Str.ofString "len") p) [e] [] pos) (IsI b.size) :=
  Ev.call1 ef looks_blt a (fun v E Q tk hv hq => by subst hv; exact lift (len_bytes (s := r.at h tk) (by lia) (hq _ _ ⟨_, rfl⟩))) (.inr rfl) he

theorem bytes_item {s : Shared} {b : Array UInt8} {i : Int} {t u : Tok} {c : UInt8} {Q : Value → Shared → Prop} (h0 : 0 ≤ i) (hlt : i < b.size) (hz : b.size < 1000000) (hc : b[i.toNat]? = some c) (k : Q (.int c.toNat s.toks) { s with toks := s.toks + 1 }) :
    wpAny (model prog w) A (getItem (.bytes b t) (.int i u)) Q E s := by
  have h1 : Builtin.Bytes.fitsIndex i = true := by simp only [Builtin.Bytes.fitsIndex, Bool.and_eq_true, decide_eq_true_eq]; lia
  have h2 : (seqIndex? i b.size).bind (b[·]?) = some c := by
    have : seqIndex? i b.size = some i.toNat := seqIx h0 hlt
    rw [this]
    exact hc
  have g0 := @gives_bytes_getitem b i t u c
  have g1 := g0 h1
  have g := g1 h2
  exact getItem_gives (typeIs_bytes _ b t) (by decide) FB.slot_bytes_getitem FB.entry_bytes_getitem (FB.args_bytes_getitem_2 _ _) g k
theorem Ev.itemB {value slice : Expr} {pos : Pos} {b : Array UInt8} {t : Tok} {i : Nat} {c : UInt8} (ev : Ev (model prog w) A env r h value (· = .bytes b t)) (ei : Ev (model prog w) A env r h slice (IsI i)) (hz : b.size < 1000000) (hc : b[i]? = some c)
    (hs : ∀ t u, subscripted slice false (.bytes b t) (.int i u) = operate [.bytes b t, .int i u] (getItem (.bytes b t) (.int i u)) := by intro _ _; with_unfolding_all rfl) :
    Ev (model prog w) A env r h (.Subscript value slice pos) (IsI c.toNat) := fun E Q tk hq => by
  refine g_Subscript (ev _ _ _ fun v tk1 hv => ei _ _ _ fun v2 tk2 ⟨u, hv2⟩ => ?_)
  subst hv hv2
  have hlt := (Array.getElem?_eq_some_iff.mp hc).1
  refine g_item (s := r.at h tk2) (typeIs_bytes _ _ _) FB.slot_bytes_getitem.lookup ?_ (hs t u)
  exact bytes_item (s := r.at h tk2) (i := (i : Int)) (by lia) (by lia) hz (by rw [Int.toNat_natCast]; exact hc) (hq (.int c.toNat tk2) (tk2 + 1) ⟨tk2, rfl⟩)

theorem Ev.itemT {value slice : Expr} {pos : Pos} {a : Addr} {items : Array Value} {i : Nat} {x : Value} {Pv : Value → Prop} (ev : Ev (model prog w) A env r h value (· = .ref a)) (ei : Ev (model prog w) A env r h slice (IsI i)) (ht : IsTup h a items) (hi : i < 1000000)
    (hx : items[i]? = some x) (hp : Pv x)
    (hs : ∀ u, subscripted slice false (.ref a) (.int i u) = operate [.ref a, .int i u] (getItem (.ref a) (.int i u)) := by intro _; with_unfolding_all rfl) :
    Ev (model prog w) A env r h (.Subscript value slice pos) Pv := fun E Q tk hq => by
  refine g_Subscript (ev _ _ _ fun v tk1 hv => ei _ _ _ fun v2 tk2 ⟨u, hv2⟩ => ?_)
  subst hv hv2
  have hlt := (Array.getElem?_eq_some_iff.mp hx).1
  refine g_item (s := r.at h tk2) ht.typeIs slot_tuple_getitem.lookup (getItem_tuple (j := i) ht (by lia) (by lia) (seqIxN hlt) hx (hq _ _ hp)) (hs u)

theorem Ek.cutB {value lo hi : Expr} {p pos : Pos} {b : Array UInt8} {t : Tok} {l u : Nat} (ev : Ev (model prog w) A env r h value (· = .bytes b t)) (el : Ev (model prog w) A env r h lo (IsI l)) (eu : Ev (model prog w) A env r h hi (IsI u)) (hlu : l ≤ u) (hu : u ≤ b.size)
    (hz : b.size < 1000000) (hs : ∀ i, subscripted (.Slice (some lo) (some hi) none p) false (.bytes b t) i = operate [i, .bytes b t] (getItem (.bytes b t) i) := by intro _; with_unfolding_all rfl) :
    Ek (model prog w) A env r h (.Subscript value (.Slice (some lo) (some hi) none p) pos) (fun v _ => IsBy ((b.toList.drop l).take (u - l)).toArray v) := fun E Q tk hq => by
  refine g_Subscript (ev _ _ _ fun v tk1 hv => g_Slice (show wpG _ _ (eval lo env) _ _ _ from el _ _ _ fun v2 tk2 ⟨t2, hv2⟩ => (show wpG _ _ (eval hi env) _ _ _ from eu _ _ _ fun v3 tk3 ⟨t3, hv3⟩ => g_pure ?_)))
  subst hv hv2 hv3
  have e : KBy.picked b (some (l : Int)) (some (u : Int)) = ((b.toList.drop l).take (u - l)).toArray := by
    rw [KBc.picked_eq]
    simp only [Option.elim, clipAt_nat]
    rw [Nat.min_eq_left hu, Nat.min_eq_left (Nat.le_trans hlu hu)]
  refine g_item (s := (r.at h tk3).1 |> fun hh => r.at (hh.push { cls := .type "slice", data := .fields #[.int l t2, .int u t3, .none] }) tk3) (typeIs_bytes _ _ _) FB.slot_bytes_getitem.lookup ?_ (hs _)
  refine getItem_meets (typeIs_bytes _ _ _) (by decide) FB.slot_bytes_getitem FB.entry_bytes_getitem (FB.args_bytes_getitem_2 _ _) (KBc.meets_slice2 b t _ (.int l t2) (.int u t3))
    ⟨Heap.IsSliceOf.new _ _ _ _, Nat.le_trans (KBc.size_picked_le b _ _) (by rw [sizeLine_eq]; lia), fun t' k => ?_⟩
  rw [e]
  exact hq _ _ _ (Kp.push _ _) ⟨t', rfl⟩

noncomputable def valOf (l : List UInt8) : Nat := l.foldl (fun a c => a * 256 + c.toNat) 0

structure GWInv (h : Heap) (L I : Addr) (cs : List UInt8) (t3 : Tok) (i : Nat) (h' : Heap) (m' : Str → Option Value) (t' : Tok) : Prop where
  F : Fm h L m' [] h'
  hf : m' (Str.ofString "found") = some (.int (valOf (cs.take i) : Nat) t')
  it : KBw.IsBytesIter h' I cs.toArray t3 i
theorem valOf_next {cs : List UInt8} {c : UInt8} {i : Nat} (e : cs[i]? = some c) : ((valOf (cs.take i) : Nat) : Int) * 256 + ((c.toNat : Nat) : Int) = ((valOf (cs.take (i + 1)) : Nat) : Int) := by
  rw [List.take_add_one, e]
  unfold valOf
  rw [List.foldl_append]
  exact (congrArg (· + (c.toNat : Int)) (Int.natCast_mul _ 256).symm).trans (Int.natCast_add _ _).symm
theorem get_whole_g {b : Array UInt8} {at_ size : Nat} {tb ta ts : Tok} {Q : Value → Shared → Prop} (R : Room A 2) (S : SB (KF P) mg mb h) (hz : b.size < 1000000) (hfit : at_ + size ≤ b.size) (hsz : size ≤ 8)
    (k : ∀ t h' tk', Kp h h' → Q (.int (valOf ((b.toList.drop at_).take size) : Nat) t) (r.at h' tk')) : wpG (model prog w) A (call (.ref 89) [.bytes b tb, .int at_ ta, .int size ts]) Q E (r.at h tk) := by
  refine call_g1 (binds := [(Str.ofString "data", .bytes b tb), (Str.ofString "at", .int at_ ta), (Str.ofString "size", .int size ts)]) S ⟨⟨_, _, _, rfl⟩, by kernel_rfl, rfl, rfl, rfl, rfl⟩ R (fun s => BindsTo.of_eq rfl) (by decide) (locs rfl) fun L A1 Post h₁ tk₁ hA R1 hret hLe F1 => ?_
  clear hA
  have hbig : ∀ {b : Addr}, L < b → h.get? b = none := fun hlt => Heap.get?_none_of_le (hLe ▸ Nat.le_of_lt hlt)
  clear hLe
  have S1 := S.keeps F1.kp
  refine x_IfE (b := decide (((at_ : Int) + (size : Int)) > (b.size : Int))) (Et.cmp (Ev.bin (Ev.loc F1 rfl ⟨ta, rfl⟩) (Ev.loc F1 rfl ⟨ts, rfl⟩) OpI.add) (Ev.lenB (Ev.blt S1 (n_len P) boot_len rfl) (Ev.loc F1 rfl (rfl : _ = Value.bytes b tb)) hz) CmpI.gt) (fun hc => (gt_dec hc hfit).elim) ?_
  intro _ tk2
  refine x_nil (x_Let F1 Ev.int fun v h2 tk2 ⟨t2, hv2⟩ kb2 F2 => ?_)
  subst hv2
  refine x_For (fun _ => rfl) (Ek.run (Ek.cutB (l := at_) (u := at_ + size) (Ev.loc F2 rfl (rfl : _ = Value.bytes b tb)) (Ev.loc F2 rfl ⟨ta, rfl⟩) (Ev.bin (Ev.loc F2 rfl ⟨ta, rfl⟩) (Ev.loc F2 rfl ⟨ts, rfl⟩) OpI.add) (Nat.le_add_right _ _) hfit hz) fun v h3 tk3 kp3 ⟨t3, hv3⟩ => ?_)
  subst hv3
  rw [Nat.add_sub_cancel_left]
  have hlen : ((b.toList.drop at_).take size).length ≤ 8 := Nat.le_trans (List.length_take_le _ _) hsz
  generalize (b.toList.drop at_).take size = cs at k hlen ⊢
  refine lift (KBw.pyIter_bytes (s := r.at h3 tk3) ?_)
  have F3 := F2.kept kp3
  have hI : L ≠ h3.objs.size := Nat.ne_of_lt F3.F.ns.lt
  have hIn := hbig F3.F.ns.lt
  refine codeG_forP (KBw.walks R1.hand h3.objs.size cs.toArray t3) (fun i h' => ∃ m' t', GWInv h L h3.objs.size cs t3 i h' m' t') (fun i h' ⟨_, _, V⟩ => V.it) ?_ ?_ ?_ (Nat.zero_le _) ?_
  · intro i h' tk v Q _ hq; exact own_name hq
  · rintro i h' v h4 tk4 Post2 hnx hrt hi ⟨m', t', V⟩ ⟨c, tv, hcc, rfl⟩ st kb
    have F4 : Fm h L m' [] h4 := V.F.but1 kb hI hIn
    have hf := V.hf
    clear V
    refine g_assignName (g_store F4 fun h5 tk5 kb5 F5 => ?_)
    refine x_Let F5 (Ev.bin (Ev.bin (Ev.loc F5 ((upd_ne (by decide)).trans hf) ⟨t', rfl⟩) Ev.int (OpI.mul (IntMulOk.of_right (by decide)))) (Ev.loc F5 upd_same ⟨tv, rfl⟩) (OpI.eq OpI.add (valOf_next (by simpa using hcc)))) fun v h6 tk6 ⟨t6, hv6⟩ kb6 F6 => ?_
    subst hv6
    exact x_nil (hnx h6 tk6 ⟨_, t6, F6, upd_same, let ⟨o, ho, rest⟩ := st; ⟨o, kb6 _ _ (nm (Ne.symm hI)) (kb5 _ _ (nm (Ne.symm hI)) ho), rest⟩⟩)
  · rintro h' h6 tk6 ⟨m', t', V⟩ kb
    have F6 : Fm h L m' [] h6 := V.F.but1 kb hI hIn
    refine x_RetP (Ev.loc F6 V.hf rfl) fun v tk7 hv => ?_
    subst hv
    have e : cs.take cs.toArray.size = cs := List.take_length
    rw [e]
    exact hret _ _ (k t' h6 tk7 F6.kp)
  · exact ⟨_, t2, F3.kept (Kp.push _ _), rfl, ⟨_, Heap.get?_push_size _ rfl, rfl, rfl⟩⟩
end
end Mine
end

section
open PySem PySem.W PySem.Calls PyProof.Rows
open PySem.Sem (wp)
set_option maxRecDepth 100000
namespace Mine

noncomputable def Eks (M : Model) (A : Around) (env : Env) (r : Rest) (h : Heap) (es : List Expr) (P : List Value → Heap → Prop) : Prop :=
  ∀ (E : Value → Shared → Prop) (Q : List Value → Shared → Prop) (pos : Pos) (tk : Nat), (∀ vs h' tk', Kp h h' → P vs h' → Q vs (r.at h' tk')) → wpG M A (spliced (backTo pos (starEach es env))) Q E (r.at h tk)

section
variable {prog : Program} {w : World} {A : Around} {E : Value → Shared → Prop} {env : Env} {r : Rest} {h h₀ : Heap} {L : Addr} {m mg mb : Str → Option Value} {news : List (Addr × Obj)} {tk : Nat} {P : Params}

theorem Eks.nil {M : Model} : Eks M A env r h [] (fun vs _ => vs = []) := fun _ _ _ tk hq => g_spliced_none (hq [] h tk (Kp.refl h) rfl)
theorem Eks.cons {M : Model} {e : Expr} {rest : List Expr} {P : Value → Heap → Prop} {Ps : Value → List Value → Heap → Prop} (x : Ek M A env r h e P) (xs : ∀ v h', Kp h h' → P v h' → Eks M A env r h' rest (Ps v))
    (he : starEach (e :: rest) env = (false, eval e env) :: starEach rest env := by rfl) : Eks M A env r h (e :: rest) (fun vs h' => ∃ v vs', vs = v :: vs' ∧ Ps v vs' h') := fun E Q pos tk hq =>
  g_spliced (x _ _ _ fun v h1 tk₁ kp hv => xs v h1 kp hv _ _ _ _ fun vs h2 tk₂ kp2 hvs => hq _ _ _ (kp.trans kp2) ⟨v, vs, rfl, hvs⟩) he

theorem g_Tuple {M : Model} {elts : List Expr} {k : Nat} {pos : Pos} {s : Shared} {Q : Value → Shared → Prop}
    (x : wpG M A (spliced (backTo pos (starEach elts env))) (fun vs s₁ => vs.length ≤ sizeLine ∧ Q (.ref s₁.heap.objs.size) { s₁ with heap := s₁.heap.push { cls := .type "tuple", data := .seq vs.toArray } }) E s) :
    wpG M A (eval (.Tuple elts k pos) env) Q E s := by
  show wpG M A (do standAt pos; newTuple (← spliced (backTo pos (starEach elts env)))) Q E s
  refine g_bind (g_standAt (g_bind (g_mono x (fun vs s₁ ⟨hz, hq⟩ => ?_) fun _ _ x => x)))
  exact lift (wpAny_newObj_type hq (by show vs.toArray.size ≤ sizeLine; rw [List.size_toArray]; exact hz))
theorem g_List {M : Model} {elts : List Expr} {pos : Pos} {s : Shared} {Q : Value → Shared → Prop}
    (x : wpG M A (spliced (backTo pos (starEach elts env))) (fun vs s₁ => vs.length ≤ sizeLine ∧ Q (.ref s₁.heap.objs.size) { s₁ with heap := s₁.heap.push { cls := .type "list", data := .seq vs.toArray } }) E s) :
    wpG M A (eval (.List elts pos) env) Q E s := by
  show wpG M A (do standAt pos; newList (← spliced (backTo pos (starEach elts env)))) Q E s
  refine g_bind (g_standAt (g_bind (g_mono x (fun vs s₁ ⟨hz, hq⟩ => ?_) fun _ _ x => x)))
  exact lift (wpAny_newObj_type hq (by show vs.toArray.size ≤ sizeLine; rw [List.size_toArray]; exact hz))

theorem Ek.tuple {M : Model} {elts : List Expr} {k : Nat} {pos : Pos} {Ps : List Value → Heap → Prop} (x : Eks M A env r h elts Ps) (hz : ∀ vs h', Ps vs h' → vs.length ≤ 1000) :
    Ek M A env r h (.Tuple elts k pos) (fun v h' => ∃ h₁ vs, v = .ref h₁.objs.size ∧ h' = h₁.push { cls := .type "tuple", data := .seq vs.toArray } ∧ Kp h h₁ ∧ Ps vs h₁) := fun E Q tk hq =>
  g_Tuple (x _ _ _ _ fun vs h1 tk1 kp hvs => ⟨by have := hz vs h1 hvs; rw [sizeLine_eq]; omega, hq _ _ _ (kp.trans (Kp.push _ _)) ⟨h1, vs, rfl, rfl, kp, hvs⟩⟩)
theorem Ek.list {M : Model} {elts : List Expr} {pos : Pos} {Ps : List Value → Heap → Prop} (x : Eks M A env r h elts Ps) (hz : ∀ vs h', Ps vs h' → vs.length ≤ 1000) :
    Ek M A env r h (.List elts pos) (fun v h' => ∃ h₁ vs, v = .ref h₁.objs.size ∧ h' = h₁.push { cls := .type "list", data := .seq vs.toArray } ∧ Kp h h₁ ∧ Ps vs h₁) := fun E Q tk hq =>
  g_List (x _ _ _ _ fun vs h1 tk1 kp hvs => ⟨by have := hz vs h1 hvs; rw [sizeLine_eq]; omega, hq _ _ _ (kp.trans (Kp.push _ _)) ⟨h1, vs, rfl, rfl, kp, hvs⟩⟩)

/-- a pair of two plain values -/
theorem Ek.pair {M : Model} {e e2 : Expr} {k : Nat} {pos : Pos} {P P2 : Value → Prop} (x : Ek M A env r h e (fun v _ => P v)) (y : ∀ h', Kp h h' → Ek M A env r h' e2 (fun v _ => P2 v))
    (he : starEach [e, e2] env = (false, eval e env) :: starEach [e2] env := by rfl) (he2 : starEach [e2] env = (false, eval e2 env) :: starEach [] env := by rfl) :
    Ek M A env r h (.Tuple [e, e2] k pos) (fun v h' => ∃ a v1 v2, v = .ref a ∧ h.get? a = Option.none ∧ h'.get? a = some { cls := .type "tuple", data := .seq #[v1, v2] } ∧ P v1 ∧ P2 v2) := by
  refine (Ek.tuple (Ps := fun vs _ => ∃ v1 v2, vs = [v1, v2] ∧ P v1 ∧ P2 v2) (fun E Q pos tk hq => ?_) ?_).mono ?_
  · refine g_spliced (x _ _ _ fun v h1 tk₁ kp hv => g_spliced (y h1 kp _ _ _ fun v2 h2 tk2 kp2 hv2 => ?_) he2) he
    exact g_spliced_none (hq _ _ _ (kp.trans kp2) ⟨v, v2, rfl, hv, hv2⟩)
  · rintro vs h' ⟨v1, v2, rfl, _⟩
    exact (by decide : 2 ≤ 1000)
  · rintro v h' kp ⟨h1, vs, rfl, rfl, kp1, v1, v2, rfl, hp, hp2⟩
    refine ⟨_, v1, v2, rfl, ?_, Heap.get?_push_size _ rfl, hp, hp2⟩
    cases q : h.get? h1.objs.size with
    | none => rfl
    | some o => exact absurd (Heap.lt_size (kp1 _ _ q)) (Nat.lt_irrefl _)

theorem Ek.binL {M : Model} {l rr : Expr} {op : Operator} {pos : Pos} {a b c : Int} (x : Ek M A env r h l (fun v _ => IsI a v)) (y : ∀ h', Kp h h' → Ev M A env r h' rr (IsI b)) (z : OpI M A op a b c) :
    Ek M A env r h (.BinOp l op rr pos) (fun v _ => IsI c v) := fun E Q tk hq => by
  refine g_BinOp (x _ _ _ fun v h1 tk₁ kp hv => y h1 kp _ _ _ fun v' tk₂ hv' => ?_)
  obtain ⟨t, rfl⟩ := hv
  obtain ⟨u, rfl⟩ := hv'
  exact z r h1 E Q t u tk₂ fun t' tk' => hq _ _ _ kp ⟨t', rfl⟩

theorem n_gwhole (P : Params) : nsIn (KF P) mainGlobals (Str.ofString "get_whole") = some (some (.ref 89)) := by kernel_rfl
theorem kp_gwhole {M : Model} (S : SB (KF P) mg mb h) : Looks M h (keeperOf (.ref 89)) .frame := (Looks.ld (part := Option.none) (S.X 89 _ rfl)).andThen .now
theorem two_pow_sub (k : Nat) : ((1 : Int) * 2 ^ k - 1) = ((2 ^ k - 1 : Nat) : Int) := by
  have : 0 < 2 ^ k := Nat.two_pow_pos k
  rw [nat_two]
  omega
theorem bitAnd_mask (n k : Nat) : Builtin.bitAnd (n : Int) ((2 ^ k - 1 : Nat) : Int) = ((n % 2 ^ k : Nat) : Int) := by
  have e := kbt_mask (n : Int) k
  have h1 : ((2 ^ k - 1 : Nat) : Int) = (2 : Int) ^ k - 1 := by
    have : 0 < 2 ^ k := Nat.two_pow_pos k
    rw [nat_two]
    omega
  rw [h1, e, nat_two, Int.natCast_emod]

set_option maxHeartbeats 4000000 in
theorem get_varint_g {b : Array UInt8} {at_ i : Nat} {c : UInt8} {tb ta : Tok} {Q : Value → Shared → Prop} (R : Room A 4) (S : SB (KF P) mg mb h) (hz : b.size < 1000000) (hc : b[at_]? = some c) (hi : i = c.toNat / 64) (hfit : at_ + 2 ^ i ≤ b.size)
    (k : ∀ a t1 t2 h' tk', Kp h h' → h.get? a = none → h'.get? a = some { cls := .type "tuple", data := .seq #[.int (valOf ((b.toList.drop at_).take (2 ^ i)) % 2 ^ (8 * 2 ^ i - 2) : Nat) t1, .int (at_ + 2 ^ i : Nat) t2] } → Q (.ref a) (r.at h' tk')) :
    wpG (model prog w) A (call (.ref 110) [.bytes b tb, .int at_ ta]) Q E (r.at h tk) := by
  refine call_g1 (binds := [(Str.ofString "data", .bytes b tb), (Str.ofString "at", .int at_ ta)]) S ⟨⟨_, _, _, rfl⟩, by kernel_rfl, rfl, rfl, rfl, rfl⟩ R (fun s => BindsTo.of_eq rfl) (by decide) (locs rfl) fun L A1 Post h₁ tk₁ hA R1 hret hLe F1 => ?_
  clear hA hLe
  have S1 := S.keeps F1.kp
  have hi4 : i < 4 := hi ▸ Nat.div_lt_of_lt_mul c.toNat_lt
  refine x_IfE (b := decide (((at_ : Int)) ≥ (b.size : Int))) (Et.cmp (Ev.loc F1 rfl ⟨ta, rfl⟩) (Ev.lenB (Ev.blt S1 (n_len P) boot_len rfl) (Ev.loc F1 rfl (rfl : _ = Value.bytes b tb)) hz) CmpI.ge) (fun hq => (ge_dec hq (Array.getElem?_eq_some_iff.mp hc).1).elim) ?_
  intro _ tk2
  refine shut fun X0 hX0 => ?_
  obtain ⟨items, ht, his, _⟩ := vs_ints S1
  refine hX0 ?_
  clear hX0
  obtain ⟨tv, htv⟩ := ints_at his i (n := ((2 ^ i : Nat) : Int)) (pv_get i hi4)
  refine x_nil (x_Let (P := fun v => v = .int (2 ^ i : Nat) tv) F1 (Ev.itemT (i := i) (Ev.glob S1 (n_VS P) rfl) (Ev.bin (Ev.itemB (Ev.loc F1 rfl (rfl : _ = Value.bytes b tb)) (Ev.loc F1 rfl ⟨ta, rfl⟩) hz hc) Ev.int (OpI.eq (OpI.shr (by decide)) ?_)) ht (Nat.lt_trans hi4 (by decide)) (by simpa using htv) rfl) fun v h2 tk2 hv2 kb2 F2 => ?_)
  · rw [nat_two, nat_fdiv, hi]
    rfl
  subst hv2
  clear S1 F1 ht his htv kb2
  have S2 : SB (KF P) mg mb h2 := S.keeps F2.kp
  refine x_RetK (Ek.pair (P := IsI (valOf ((b.toList.drop at_).take (2 ^ i)) % 2 ^ (8 * 2 ^ i - 2) : Nat)) (P2 := IsI (at_ + 2 ^ i : Nat)) (Ek.binL (a := (valOf ((b.toList.drop at_).take (2 ^ i)) : Nat)) (fun E Q tk hq => ?_) (fun h' kp => Ev.bin (Ev.bin Ev.int (Ev.bin (Ev.bin Ev.int (Ev.loc (F2.kept kp) rfl ⟨tv, rfl⟩) (OpI.mul (IntMulOk.of_left (by decide)))) Ev.int OpI.sub) (OpI.shl (pv_sh0 i hi4) (pv_sh1 i hi4) (by decide))) Ev.int (OpI.eq OpI.sub (by rw [two_pow_sub, pv_top]))) (OpI.eq OpI.and (bitAnd_mask _ _)))
    fun h' kp => Ev.ek (Ev.bin (Ev.loc (F2.kept kp) rfl ⟨ta, rfl⟩) (Ev.loc (F2.kept kp) rfl ⟨tv, rfl⟩) (OpI.eq OpI.add (Int.natCast_add _ _).symm))) ?_
  · refine g_Call3 (Ev.glob S2 (n_gwhole P) rfl) (kp_gwhole S2) (Ev.loc F2 rfl (rfl : _ = Value.bytes b tb)) (Ev.loc F2 rfl (rfl : _ = Value.int at_ ta)) (Ev.loc F2 rfl (rfl : _ = Value.int (2 ^ i : Nat) tv)) fun v v2 v3 tk6 hv hv2 hv3 => ?_
    subst hv hv2 hv3
    exact get_whole_g (R1.le (by decide)) S2 hz hfit (pv_le8 i hi4) fun t h' tk' kp => hq _ h' tk' kp ⟨t, rfl⟩
  · rintro v h' tk' kp ⟨a, v1, v2, rfl, ha, ha', ⟨t1, rfl⟩, ⟨t2, rfl⟩⟩
    exact hret _ _ (k a t1 t2 h' tk' (F2.kp.trans kp) (F2.kp.none' ha) ha')
end
end Mine
end

section
open PySem PySem.W PySem.Calls PyProof.Rows
open PySem.Sem (wp)
set_option maxRecDepth 100000
namespace Mine
namespace SH
theorem f1 (P : Params) : nsIn (KF P) 70 "__init__" = some (some (.ref 68)) := by kernel_rfl
theorem f1s (P : Params) : nsIn (KF P) 70 "__setattr__" = some none := by kernel_rfl
theorem f1t (P : Params) : nsIn (KF P) 70 "text" = some none := by kernel_rfl
theorem exc_type : typeOf (.type "Exception") = pure (.type "type") := by kernel_rfl
theorem exc_text : typeLookup (.type "Exception") "text" = pure none := by rw [typeLookup_type, builtinLookup_eq_fast]; kernel_rfl
theorem exc_found (P : Params) : findCls (KF P) (.type "Exception") (.type "type") "__init__" = some (.val (.builtin "Exception.__init__")) := by kernel_rfl
theorem n_Exception (P : Params) : nsIn (KF P) mainGlobals (Str.ofString "Exception") = some none := by kernel_rfl
theorem boot_Exception : bootBuiltins "Exception" = some (.type "Exception") := by decide +kernel
theorem n_Short (P : Params) : nsIn (KF P) mainGlobals (Str.ofString "Short") = some (some (.ref 71)) := by kernel_rfl

section
variable {prog : Program} {w : World} {A : Around} {E : Value → Shared → Prop} {r : Rest} {h : Heap} {tk : Nat} {mg mb : Str → Option Value} {P : Params}

theorem method_exc {s : Shared} {name : Str} {pl : Sem Bool} {Q : Value × List Value → Shared → Prop} (h : wpAny (model prog w) A (getAttr (.type "Exception") name) (fun v => Q (v, [])) E s) : wpAny (model prog w) A (getMethod (.type "Exception") name pl) Q E s := by
  unfold getMethod
  refine wpAny_bind ?_
  unfold specialOf
  refine wpAny_bind (wpAny_of_eq exc_type (wpAny_of_eq KF.slot_tga.lookup ?_))
  dsimp only
  rw [if_pos canon_tga]
  exact wpAny_bind (wpAny_mono h (fun _ _ z => wpAny_pure z) fun _ _ z => z)

theorem attr_init {s : Shared} {expr : Bool} {Q : Value → Shared → Prop} (X : (KF P).In s.heap) (k : Q (.builtin "Exception.__init__") { s with toks := s.toks + 1 }) : wpAny (model prog w) A (getAttr (.type "Exception") "__init__" expr) Q E s := by
  have hstub : opaqueClassAbove (.type "Exception") = pure none := by kernel_rfl
  refine cls_open X (Looks.of_pure hstub) (Looks.of_pure exc_type) type_tga (looks_hook X (r := none) (by rfl)) (by show subIn _ _ _ = _; rfl) (exc_found P) ?_
  show wpAny _ _ (ret (.builtin "Exception.__init__")) _ _ _
  exact wpAny_pure (handed_on rfl k)

theorem cls_at (S : SB (KF P) mg mb h) : ∃ nm q bs sn sub ab col dd k0 k1 k2 k3 k5, h.get? 71 = some (excClassObj nm q 71 70 bs [.type "Exception", .type "BaseException", .type "object"] true sn sub ab col dd k0 k1 k2 k3 k5 "Exception.__new__") :=
  ⟨_, _, _, _, _, _, _, _, _, _, _, _, _, S.X 71 _ rfl⟩

theorem bexc_init {M : Model} {s : Shared} {e t0 : Addr} {v : Value} {Q : Fin → Shared → Prop} (he : s.heap.get? e = some { cls := .ref 71, data := .fields #[.ref t0, .none, .none, .none, .bool false, .none] })
    (k : ∀ h', Heap.ExtBut e s.heap h' → h'.get? e = some { cls := .ref 71, data := .fields #[.ref s.heap.objs.size, .none, .none, .none, .bool false, .none] } → Q (.done (.ret .none)) { s with heap := h' }) :
    wpAny M A (Builtin.«BaseException.__init__» ⟨[.ref e, v], []⟩) Q E s := by
  refine shut fun X0 hX0 => ?_
  obtain ⟨hh, g, d, tk, os⟩ := s
  refine hX0 ?_
  clear hX0
  dsimp only at he k ⊢
  have hlt := Heap.lt_size he
  wp_walk
  refine k _ (fun b o hb hbo => ?_) ?_
  · rw [Heap.get?_update_ne _ _ _ _ hb]
    exact Heap.get?_push_of_some _ hbo
  · rw [Heap.get?_update_self _ (Heap.get?_push_of_some _ he) rfl]
    rfl
theorem ns_at (S : SB (KF P) mg mb h) : ∃ mN, h.Ns 70 mN ∧ mN "__init__" = some (.ref 68) ∧ mN "__setattr__" = none ∧ mN "text" = none := by
  refine ⟨_, ⟨_, _, _, S.X 70 _ rfl, rfl, ?_, fun _ => rfl⟩, by kernel_rfl, by kernel_rfl, by kernel_rfl⟩
  intro en hen
  simp only [List.mem_toArray, List.mem_cons, List.mem_nil_iff, or_false] at hen
  rcases hen with rfl | rfl | rfl | rfl | rfl | rfl | rfl <;> exact ⟨_, _, rfl⟩
noncomputable def ExcObj (h : Heap) (e : Addr) : Prop := ∃ o t1, h.get? e = some o ∧ o.cls = .ref 71 ∧ o.data = .fields #[.ref t1, .none, .none, .none, .bool false, .none]
/-- the own __init__, called -/
theorem init_run {h₀ : Heap} {e t0 : Addr} {x : Str} {t : Tok} {Q : Value → Shared → Prop} (hroom : A.depth < recursionLimit) (S₀ : SB (KF P) mg mb h₀) (hk₀ : Kp h₀ h) (hen : h₀.get? e = none) (he : h.get? e = some { cls := .ref 71, data := .fields #[.ref t0, .none, .none, .none, .bool false, .none] })
    (k : ∀ h' tk', Kp h₀ h' → ExcObj h' e → Q .none (r.at h' tk')) :
    wpAny (model prog w) A (call (.ref 68) [.ref e, .str x t]) Q E (r.at h tk) := by
  have S := S₀.keeps hk₀
  have hne : ∀ b o, h₀.get? b = some o → b ≠ e := fun b o x y => by rw [y, hen] at x; cases x
  have X := S.X
  refine wpAny_call (codeAny_call_function hroom (X 68 _ rfl) rfl rfl rfl rfl (codeRec_of X (by kernel_rfl)) ((BindsTo.of_eq rfl : BindsTo _ _ _ [(Str.ofString "self", .ref e), (Str.ofString "text", .str x t)]) _ _ _ _ ?_))
  refine wpAny_newFunctionEnv (s := r.at h tk) (by decide) (locs rfl) (fun h₁ hns hsb => ⟨S.lim.fresh _ hsb, codeAny_func ?_⟩) rfl
  have hk : Kp h h₁ := fun b o e => hsb.extBut b o (Nat.ne_of_lt (Heap.lt_size e)) (Heap.get?_push_of_some _ e)
  have S1 := S.keeps hk
  refine shut fun X0 hX0 => ?_
  obtain ⟨nm, q, bs, sn, sub, ab, col, dd, k0, k1, k2, k3, k5, hC⟩ := cls_at S1
  refine hX0 ?_
  clear hX0
  have he1 := hk _ _ he
  refine wpAny_execs_cons (wpAny_Expr ?_)
  rw [arm_eval_Call]
  refine wpAny_bind (show wpAny _ _ (eval (.Name (Str.ofString "Exception") _) _) _ _ (r.at h₁ _) from Calls.Name_function_global rfl rfl (Calls.loadGlobal_builtin (mg := mg) (mb := mb) S1.g (mg_none_of S1.X S1.g (n_Exception P)) S1.b ((S1.bb _ (by decide)).trans boot_Exception) ?_) (by decide))
  refine wpAny_bind (wpAny_standAt ?_)
  unfold methodCall
  refine wpAny_bind (wpAny_holding (method_exc (attr_init (P := P) S1.X ?_)))
  refine wpAny_bind (wpAny_of_eq (a := _) rfl ?_)
  refine Calls.callWith_builtin rfl ?_
  refine Calls.evalArgs_plain (Calls.spliced_cons (wpAny_Name (wpAny_loadName_local rfl rfl hns rfl ?_) (by decide)))
  refine Calls.spliced_cons (wpAny_Name (wpAny_loadName_local rfl rfl hns rfl ?_) (by decide))
  refine Calls.spliced_nil ?_
  have F := PySem.F.excBase_Exception
  refine wpAny_call (codeAny_call_builtin F.init.plain F.initEntry (wpAny_check_init_sub F hC he1 rfl ?_))
  refine bexc_init (s := r.at h₁ _) he1 fun h2 hs2 he2 => ?_
  have hns2 : h2.Ns h.objs.size _ := hns.extBut hs2 (Ne.symm (Nat.ne_of_lt (Heap.lt_size he)))
  have hk2 : Kp h₀ h2 := fun b o x => hs2 b o (hne b o x) (hk _ _ (hk₀ _ _ x))
  have S2 : SB (KF P) mg mb h2 := S₀.keeps hk2
  refine shut fun X0 hX0 => ?_
  obtain ⟨nm, q, bs, sn, sub, ab, col, dd, k0, k1, k2, k3, k5, hC2⟩ := cls_at S2
  refine hX0 ?_
  clear hX0
  refine shut fun X0 hX0 => ?_
  obtain ⟨mN, hN, _, hN1, hN2⟩ := ns_at S2
  refine hX0 ?_
  clear hX0
  have he71 : e ≠ 71 := Ne.symm (hne _ _ (S₀.X 71 _ rfl))
  refine wpAny_execs_cons (plainObj_wpAny_Assign_Attribute ?_ rfl)
  refine wpAny_Name (wpAny_loadName_local (s := r.at h2 _) rfl rfl hns2 rfl ?_) (by decide)
  refine wpAny_Name (wpAny_loadName_local (s := r.at h2 _) rfl rfl hns2 rfl ?_) (by decide)
  refine store_attr (mA := fun _ => none) (ns := []) PySem.F.store_Exception hC2 hN hN1 hN2 exc_text he71 ⟨_, he2, rfl, (by intro c hc; cases hc), .inl ⟨rfl, fun _ => rfl⟩⟩ ?_
  rintro h3 tk3 I3 hk3 hx3
  refine wpAny_execs_nil ?_
  refine k h3 tk3 (fun b o x => hk3 b o (hne b o x) (fun o₀ dx q1 q2 => ?_) (hk2 _ _ x)) ?_
  · rw [he2] at q1
    cases q1
    cases q2
  · obtain ⟨o₁, q1, q2, q3, _⟩ := hx3 _ he2
    exact ⟨o₁, _, q1, q2, q3⟩
end
end SH
end Mine
namespace Mine
namespace SH
section
variable {prog : Program} {w : World} {A : Around} {E : Value → Shared → Prop} {env : Env} {r : Rest} {h : Heap} {tk : Nat} {mg mb : Str → Option Value} {P : Params}

/-- a Short, made -/
theorem made {x : Str} {t : Tok} {Q : Value → Shared → Prop} (hroom : A.depth + 1 < recursionLimit) (S : SB (KF P) mg mb h)
    (k : ∀ e h' tk', Kp h h' → h.get? e = none → ExcObj h' e → Q (.ref e) (r.at h' tk')) : wpAny (model prog w) A (call (.ref 71) [.str x t]) Q E (r.at h tk) := by
  refine shut fun X0 hX0 => ?_
  obtain ⟨nm, q, bs, sn, sub, ab, col, dd, k0, k1, k2, k3, k5, hC⟩ := cls_at S
  refine hX0 ?_
  clear hX0
  refine shut fun X0 hX0 => ?_
  obtain ⟨mN, hN, hNi, hN1, hN2⟩ := ns_at S
  refine hX0 ?_
  clear hX0
  refine wpAny_call_exc_init PySem.F.excBase_Exception hC hN hNi (S.X 68 _ rfl) rfl (fun h' e hm => ?_) (by rw [sizeLine_eq]; show 1 ≤ 16777216; lia)
  refine shut fun X0 hX0 => ?_
  obtain ⟨t0, he, _, _⟩ := hm.there
  refine hX0 ?_
  clear hX0
  exact init_run (r := r) (h₀ := h) (by rw [depth_under_make]; exact hroom) S hm.keeps hm.new he fun h'' tk'' kp ho => ⟨rfl, k e h'' tk'' kp hm.new ho⟩

theorem raiseStmt_g {s : Shared} {x : Sem Value} {Q : Flow → Shared → Prop} (hh : A.handled = none)
    (k : wpG (model prog w) A x (fun v s₁ => ∃ e, v = .ref e ∧ SB (KF P) mg mb s₁.heap ∧ ExcObj s₁.heap e ∧ E (.ref e) s₁) E s) : wpG (model prog w) A (raiseStmt env (some x) none) Q E s := by
  unfold raiseStmt
  refine g_bind (g_mono k (fun v s₁ h₁ => ?_) fun _ _ x => x)
  obtain ⟨e, rfl, S, ⟨o, t1, he, hc, hd⟩, hE⟩ := h₁
  refine shut fun X0 hX0 => ?_
  obtain ⟨nm, q, bs, sn, sub, ab, col, dd, k0, k1, k2, k3, k5, hC⟩ := cls_at S
  refine hX0 ?_
  clear hX0
  have hcB : (Value.ref 71 :: [Value.type "Exception", .type "BaseException", .type "object"]).contains (.type "BaseException") = true := by decide
  refine shut fun X0 hX0 => ?_
  obtain ⟨hp, g, d, tk, os⟩ := s₁
  refine hX0 ?_
  clear hX0
  refine lift ?_
  repeat (first | (with_reducible refine wpAny_loadPart_at he ?_; rw [hc]) | with_reducible refine wpAny_loadPart_at hC ?_ | (with_reducible refine wpAny_isSubtype_exc hC ?_; rw [hcB]) | wp_step)
  rw [hd]
  repeat wp_step
  exact wpAny_raiseNew_none hh hE

/-- raise Short(words) -/
theorem x_Raise {x : Str} {px cpos pos kpos : Pos} {kk : Nat} {rest : List Stmt} {Q : Flow → Shared → Prop} (hh : A.handled = none) (hroom : A.depth + 1 < recursionLimit) (S : SB (KF P) mg mb h)
    (eS : Ev (model prog w) A env r h (.Name (Str.ofString "Short") px) (· = .ref 71))
    (k : ∀ e h' tk', Kp h h' → h.get? e = none → ExcObj h' e → E (.ref e) (r.at h' tk'))
    (he : starEach [.Constant (.str x) kk kpos] env = (false, eval (.Constant (.str x) kk kpos) env) :: starEach [] env := by rfl) :
    wpG (model prog w) A (execs (.Raise (some (.Call (.Name (Str.ofString "Short") px) [.Constant (.str x) kk kpos] [] cpos)) none pos :: rest) env) Q E (r.at h tk) := by
  refine x_cons ?_
  show wpG _ A (do standAt pos; raiseStmt env (some (do let v ← eval (.Call (.Name (Str.ofString "Short") px) [.Constant (.str x) kk kpos] [] cpos) env; standAt pos; pure v)) none) _ E _
  refine g_bind (g_standAt (raiseStmt_g hh (P := P) (mg := mg) (mb := mb) (g_bind ?_)))
  refine g_Call1 (k := .machine) eS ?_ Ev.str (fun v tk' hv => ?_) (.inr rfl) he
  · obtain ⟨nm, q, bs, sn, sub, ab, col, dd, k0, k1, k2, k3, k5, hC⟩ := cls_at S
    intro A' Q' E' s' kp hq
    refine shut fun X0 hX0 => ?_
    obtain ⟨hp, g, d, tk, os⟩ := s'
    refine hX0 ?_
    clear hX0
    exact wpAny_keeperOf_exc (kp _ _ hC) hq
  · obtain ⟨t, rfl⟩ := hv
    refine lift (made (r := r) hroom S fun e h' tk'' kp hen ho => g_bind (g_standAt (g_pure (And.intro rfl ⟨S.keeps kp, ho, k e h' tk'' kp hen ho⟩ |> Exists.intro e))))
end
end SH
end Mine
end

section
open PySem PySem.W PySem.Calls PyProof.Rows
open PySem.Sem (wp)
set_option maxRecDepth 100000
namespace Mine
/-- an exception on its way through the frames -/
noncomputable def Fly (base : Heap) (outer : List Env) (e : Addr) (h h' : Heap) : Prop := ∃ a0, Heap.FlyingW base outer e (.ref 71) a0 h' ∧ h.UpToSlots h'

section
variable {prog : Program} {w : World} {A : Around} {E : Value → Shared → Prop} {env : Env} {r : Rest} {h h₀ base : Heap} {outer : List Env} {L : Addr} {m mg mb : Str → Option Value} {news : List (Addr × Obj)} {tk : Nat} {P : Params}

theorem below_call {fd : FuncData} {f : Addr} (K : Below A base outer h₀) (F : Fm h₀ L m news h) (hk : fd.scope.kind = .function := by rfl) : Below (A.deeper (callEnv fd L f)) base (callEnv fd L f :: outer) h := by
  have hnew : base.get? L = none := by
    cases hq : base.get? L with
    | none => rfl
    | some o => exact absurd (Nat.lt_of_lt_of_le (Heap.lt_size (K.stays L o hq)) F.F.above) (Nat.lt_irrefl _)
  refine ⟨Around.frames_deeper K.stack, fun b o e => F.kp b o (K.stays b o e), ?_⟩
  exact .cons (by show fd.scope.kind ≠ .module; rw [hk]; decide) rfl F.F.ns hnew (K.frames.of_keeps fun b o e _ => ⟨o, F.kp b o e, rfl⟩)
theorem Below.kp {h' : Heap} (K : Below A base outer h) (k : Kp h h') : Below A base outer h' := ⟨K.stack, fun b o e => k b o (K.stays b o e), K.frames.of_keeps fun b o e _ => ⟨o, k b o e, rfl⟩⟩

/-- a fresh exception leaves the first frame -/
theorem leave_first {e : Addr} {h' : Heap} {Q : Unit → Shared → Prop} (K : Below (A.deeper env) base (env :: outer) h) (hf : env.frame = some L) (kp : Kp h h') (hen : h.get? e = none) (ho : SH.ExcObj h' e)
    (k : ∀ h'', Fly base outer e h' h'' → Q () (r.at h'' tk)) : wpG (model prog w) (A.deeper env) (leaving env (.ref e)) Q E (r.at h' tk) := by
  refine shut fun X0 hX0 => ?_
  obtain ⟨o, t1, he, hc, hd⟩ := ho
  refine hX0 ?_
  clear hX0
  have hbe : base.get? e = none := by
    cases hq : base.get? e with
    | none => rfl
    | some o => have := K.stays _ _ hq; rw [hen] at this; cases this
  refine lift (wpAny_leaving_firstW (s := r.at h' tk) (base := base) (a0 := .ref t1) K.stack (Below.kp K kp).frames hf he (Below.kp K kp).stays hbe hd rfl rfl fun h'' hL => ?_)
  refine shut fun X0 hX0 => ?_
  obtain ⟨k1, ⟨_, _, k2⟩, k3, k4⟩ := hL
  refine hX0 ?_
  clear hX0
  rw [hc] at k3
  exact k h'' ⟨_, ⟨k1, hbe, k2, k3⟩, k4⟩
/-- and a further one -/
theorem leave_next {e : Addr} {h' : Heap} {Q : Unit → Shared → Prop} (hs : (A.deeper env).frames = some (env :: outer)) (hf : env.frame = some L) (fl : Fly base (env :: outer) e h h')
    (k : ∀ h'', Fly base outer e h h'' → Q () (r.at h'' tk)) : wpG (model prog w) (A.deeper env) (leaving env (.ref e)) Q E (r.at h' tk) := by
  obtain ⟨a0, fl, up⟩ := fl
  exact lift (wpAny_leaves_onW (s := r.at h' tk) hs hf fl fun h'' f2 u2 => k h'' ⟨a0, f2, up.trans u2⟩)

theorem get_whole_short {b : Array UInt8} {at_ size : Nat} {tb ta ts : Tok} {Q : Value → Shared → Prop} (R : Room A 3) (K : Below A base outer h) (S : SB (KF P) mg mb h) (hz : b.size < 1000000) (hfit : b.size < at_ + size)
    (k : ∀ e h' tk', Fly base outer e h h' → E (.ref e) (r.at h' tk')) : wpG (model prog w) A (call (.ref 89) [.bytes b tb, .int at_ ta, .int size ts]) Q E (r.at h tk) := by
  refine call_g (binds := [(Str.ofString "data", .bytes b tb), (Str.ofString "at", .int at_ ta), (Str.ofString "size", .int size ts)]) S ⟨⟨_, _, _, rfl⟩, by kernel_rfl, rfl, rfl, rfl, rfl⟩ R.dep (fun s => BindsTo.of_eq rfl) (by decide) (locs rfl) fun h₁ tk₁ hns hk => ?_
  have S1 := S.keeps hk
  have F1 : Fm h h.objs.size _ [] h₁ := ⟨⟨hns, hk, Nat.le_refl _⟩, News.nil⟩
  refine x_IfE (b := decide (((at_ : Int) + (size : Int)) > (b.size : Int))) (Et.cmp (Ev.bin (Ev.loc F1 rfl ⟨ta, rfl⟩) (Ev.loc F1 rfl ⟨ts, rfl⟩) OpI.add) (Ev.lenB (Ev.blt S1 (n_len P) boot_len rfl) (Ev.loc F1 rfl (rfl : _ = Value.bytes b tb)) hz) CmpI.gt) ?_ ?_
  · intro _ tk2
    refine SH.x_Raise (P := P) (R.deeper _).hand (by have := (R.deeper (callEnv default h.objs.size 89)).depth; show A.depth + 1 + 1 < _; have := R.depth; lia) S1 (Ev.glob S1 (SH.n_Short P) rfl) fun e h' tk' kp hen ho => ?_
    exact leave_first (below_call K F1) rfl kp hen ho fun h'' ⟨a0, f, u⟩ => k e h'' tk' ⟨a0, f, ((Heap.UpToSlots.of_keeps hk).trans (Heap.UpToSlots.of_keeps kp)).trans u⟩
  · intro hc
    simp at hc
    lia

set_option maxHeartbeats 4000000 in
theorem get_varint_short {b : Array UInt8} {at_ i : Nat} {c : UInt8} {tb ta : Tok} {Q : Value → Shared → Prop} (R : Room A 5) (K : Below A base outer h) (S : SB (KF P) mg mb h) (hz : b.size < 1000000) (hc : b[at_]? = some c) (hi : i = c.toNat / 64) (hfit : b.size < at_ + 2 ^ i)
    (k : ∀ e h' tk', Fly base outer e h h' → E (.ref e) (r.at h' tk')) :
    wpG (model prog w) A (call (.ref 110) [.bytes b tb, .int at_ ta]) Q E (r.at h tk) := by
  refine call_g (binds := [(Str.ofString "data", .bytes b tb), (Str.ofString "at", .int at_ ta)]) S ⟨⟨_, _, _, rfl⟩, by kernel_rfl, rfl, rfl, rfl, rfl⟩ R.dep (fun s => BindsTo.of_eq rfl) (by decide) (locs rfl) fun h₁ tk₁ hns hk => ?_
  have S1 := S.keeps hk
  have F1 : Fm h h.objs.size _ [] h₁ := ⟨⟨hns, hk, Nat.le_refl _⟩, News.nil⟩
  have hlt : at_ < b.size := (Array.getElem?_eq_some_iff.mp hc).1
  have hc256 := c.toNat_lt
  have hi4 : i < 4 := by lia
  have hi4' : i = 0 ∨ i = 1 ∨ i = 2 ∨ i = 3 := by lia
  refine x_IfE (b := decide (((at_ : Int)) ≥ (b.size : Int))) (Et.cmp (Ev.loc F1 rfl ⟨ta, rfl⟩) (Ev.lenB (Ev.blt S1 (n_len P) boot_len rfl) (Ev.loc F1 rfl (rfl : _ = Value.bytes b tb)) hz) CmpI.ge) ?_ ?_
  · intro hc
    simp at hc
    lia
  intro _ tk2
  refine shut fun X0 hX0 => ?_
  obtain ⟨items, ht, his, _⟩ := vs_ints S1
  refine hX0 ?_
  clear hX0
  obtain ⟨tv, htv⟩ := ints_at his i (n := ((2 ^ i : Nat) : Int)) (by obtain rfl | rfl | rfl | rfl := hi4' <;> rfl)
  refine x_nil (x_Let (P := fun v => v = .int (2 ^ i : Nat) tv) F1 (Ev.itemT (i := i) (Ev.glob S1 (n_VS P) rfl) (Ev.bin (Ev.itemB (Ev.loc F1 rfl (rfl : _ = Value.bytes b tb)) (Ev.loc F1 rfl ⟨ta, rfl⟩) hz hc) Ev.int (OpI.eq (OpI.shr (by decide)) ?_)) ht (by lia) (by simpa using htv) rfl) fun v h2 tk2 hv2 kb2 F2 => ?_)
  · rw [nat_two, nat_fdiv, hi]
    rfl
  subst hv2
  have S2 : SB (KF P) mg mb h2 := S.keeps F2.kp
  refine x_Return (g_Tuple (g_spliced (g_BinOp (g_Call3 (Ev.glob S2 (n_gwhole P) rfl) (kp_gwhole S2) (Ev.loc F2 rfl (rfl : _ = Value.bytes b tb)) (Ev.loc F2 rfl (rfl : _ = Value.int at_ ta)) (Ev.loc F2 rfl (rfl : _ = Value.int (2 ^ i : Nat) tv)) fun v v2 v3 tk6 hv hv2 hv3 => ?_))))
  subst hv hv2 hv3
  refine get_whole_short ((R.deeper _).le (by decide)) (below_call K F2) S2 hz hfit fun e h' tk' fl => ?_
  exact leave_next (below_call K F2).stack rfl fl fun h'' ⟨a0, f, u⟩ => k e h'' tk' ⟨a0, f, (Heap.UpToSlots.of_keeps F2.kp).trans u⟩
end
end Mine
end

section
open PySem PySem.W PySem.Calls PyProof.Rows
open PySem.Sem (wp)
set_option maxRecDepth 100000
namespace Mine

section
variable {prog : Program} {w : World} {A : Around} {E : Value → Shared → Prop} {env : Env} {r : Rest} {h h₀ base : Heap} {outer : List Env} {L : Addr} {m mg mb : Str → Option Value} {news : List (Addr × Obj)} {tk : Nat} {P : Params}

/-- a while loop; the body ends by next, by return or by an exception -/
theorem codeG_while {test : Expr} {body : List Stmt} {R : Result → Shared → Prop} (I : Nat → Shared → Prop)
    (turn : ∀ n s, I n s → wpG (model prog w) A (isTrue test env (eval test env)) (fun b s₁ => if b = true then wpG (model prog w) A (execs body env) (fun f s₂ => match f with
        | .next | .cont => ∃ k, k < n ∧ I k s₂
        | .brk => False
        | .ret v => R (.ok (.ret v)) s₂) (fun _ _ => False) s₁
      else R (.ok .next) s₁) (fun _ _ => False) s) :
    ∀ n s, I n s → codeG (model prog w) A (.whileLoop test body [] env) R s := by
  intro n
  induction n using Nat.strongRecOn with
  | ind n ih =>
    intro s hI
    refine codeG_of_tree ?_
    show wpG _ A ((whileTurn test body [] env).onRaise (fun x => do noteFrame x env; theTreesLotGoes x)) _ _ _
    refine g_onRaise ?_
    simp only [whileTurn]
    refine g_bind (g_mono (turn n s hI) (fun b s₁ hb => ?_) fun _ _ x => x.elim)
    cases b with
    | false =>
      simp only [Bool.false_eq_true, if_false] at hb ⊢
      exact g_bind (x_nil (g_pure hb))
    | true =>
      simp only [if_true] at hb ⊢
      refine g_bind (g_mono hb (fun f s₂ hf => ?_) fun _ _ x => x.elim)
      cases f with
      | next => obtain ⟨k, hk, hI'⟩ := hf; exact g_pure ⟨rfl, rfl, ih k hk _ hI'⟩
      | cont => obtain ⟨k, hk, hI'⟩ := hf; exact g_pure ⟨rfl, rfl, ih k hk _ hI'⟩
      | brk => exact hf.elim
      | ret v => exact g_pure hf

/-- the same, what the body must leave kept behind a name -/
theorem codeG_whileP {test : Expr} {body : List Stmt} {R : Result → Shared → Prop} (I : Nat → Shared → Prop)
    (turn : ∀ n s (Post : Flow → Shared → Prop), (∀ k s', k < n → I k s' → Post .next s') → (∀ v s', R (.ok (.ret v)) s' → Post (.ret v) s') → I n s → wpG (model prog w) A (isTrue test env (eval test env)) (fun b s₁ => if b = true then wpG (model prog w) A (execs body env) Post (fun _ _ => False) s₁
      else R (.ok .next) s₁) (fun _ _ => False) s) :
    ∀ n s, I n s → codeG (model prog w) A (.whileLoop test body [] env) R s :=
  codeG_while I fun n s hI => turn n s _ (fun k s' hk hI' => ⟨k, hk, hI'⟩) (fun v s' h => h) hI

theorem x_While {test : Expr} {body rest : List Stmt} {pos : Pos} {s : Shared} {Q : Flow → Shared → Prop}
    (k : codeG (model prog w) A (.whileLoop test body [] env) (fun r s' => match r with
      | .ok f => (match f with | .next => wpG (model prog w) A (execs rest env) Q E s' | f => Q f s')
      | .error e => False) s) :
    wpG (model prog w) A (execs (.While test body [] pos :: rest) env) Q E s := by
  refine x_cons ?_
  show wpG (model prog w) A (do standAt pos; runOwn (.whileLoop test body [] env) env) _ E s
  exact g_bind (g_standAt (g_runOwn0 rfl k))

/-- `a, b = x, y`: the stores in the order of the stack -/
theorem x_Swap2 {x y : Str} {px py p pv pos : Pos} {k kv : Nat} {e1 e2 : Expr} {rest : List Stmt} {Q : Flow → Shared → Prop} {P : Value → Value → Heap → Prop} (hh : A.handled = none) (S : Fm h₀ L m news h)
    (ev : Ek (model prog w) A env r h (.Tuple [e1, e2] kv pv) (fun v h' => ∃ a v1 v2, v = .ref a ∧ h.get? a = none ∧ h'.get? a = some { cls := .type "tuple", data := .seq #[v1, v2] } ∧ P v1 v2 h'))
    (kk : ∀ v1 v2 h₁ h' tk', P v1 v2 h₁ → Kp h h₁ → KpB [L] h₁ h' → Fm h₀ L (upd (upd m y v2) x v1) news h' → wpG (model prog w) A (execs rest env) Q E (r.at h' tk')) (hL : env.locals = L := by rfl)
    (hk : env.scope.kind = .function := by rfl) (hl : env.kindOf x = some .local := by rfl) (hl2 : env.kindOf y = some .local := by rfl)
    (hs : swapsWithSole [.Tuple [.Name x px, .Name y py] k p] (.Tuple [e1, e2] kv pv) pos.line env = pure false := by rfl) (hw : swappedStores [.Tuple [.Name x px, .Name y py] k p] (.Tuple [e1, e2] kv pv) env = pure (some [x, y]) := by rfl) :
    wpG (model prog w) A (execs (.Assign [.Tuple [.Name x px, .Name y py] k p] (.Tuple [e1, e2] kv pv) pos :: rest) env) Q E (r.at h tk) := by
  refine x_cons ?_
  show wpG (model prog w) A (do
    standAt pos
    if ← swapsWithSole [.Tuple [.Name x px, .Name y py] k p] (.Tuple [e1, e2] kv pv) pos.line env then do
      evalThenUse (.Tuple [e1, e2] kv pv) env fun v => assignAll v ((assignEach [.Tuple [.Name x px, .Name y py] k p] env).map (·.2))
      pure .next
    else do
      let v ← eval (.Tuple [e1, e2] kv pv) env
      assignStores env v (← swappedStores [.Tuple [.Name x px, .Name y py] k p] (.Tuple [e1, e2] kv pv) env) ((assignEach [.Tuple [.Name x px, .Name y py] k p] env).map (·.2))) _ E _
  rw [hs, hw]
  refine g_bind (g_standAt (g_bind (g_pure ?_)))
  simp only [Bool.false_eq_true, if_false]
  refine g_bind (ev _ _ _ fun v h1 tk1 kp hv => g_bind (g_pure ?_))
  obtain ⟨a, v1, v2, rfl, hn, ha, hp⟩ := hv
  show wpG _ A (do
    rule "assign.swapped-stores"
    let items ← unpackItems (.ref a) 2 none
    assignInOrder [fun v => bindName env y v, fun v => bindName env x v] items.reverse
    pure Flow.next) _ E _
  refine g_bind (g_rule (g_bind (lift (unpackItems_tuple (s := r.at h1 tk1) (items := #[v1, v2]) hh ⟨_, ha, rfl, _, rfl⟩ fun h2 he2 => ?_))))
  have kp2 : Kp h1 h2 := fun b o e => he2 b o (Nat.ne_of_lt (Heap.lt_size e)) e
  have S2 := S.kept (kp.trans kp2)
  show wpG _ A (do assignInOrder [fun v => bindName env y v, fun v => bindName env x v] [v2, v1]; pure Flow.next) _ E (r.at h2 tk1)
  unfold assignInOrder assignInOrder assignInOrder
  refine g_bind (g_bind (g_holding (g_bindName (g_store S2 (fun h3 tk3 kb3 S3 => ?_) hL hk hl2))))
  refine g_bind (g_holding (g_bindName (g_store S3 (fun h4 tk4 kb4 S4 => ?_) hL hk hl)))
  refine g_pure (g_pure ?_)
  exact kk v1 v2 h1 h4 tk4 hp kp (fun b o hb e => kb4 b o hb (kb3 b o hb (kp2 b o e))) S4

/-- `a, b = value` -/
theorem x_Unpack2 {x y : Str} {px py p pos : Pos} {k : Nat} {value : Expr} {rest : List Stmt} {Q : Flow → Shared → Prop} (hh : A.handled = none)
    (ev : wpG (model prog w) A (eval value env) (fun v s₁ => ∃ a v1 v2 h1 tk1, v = .ref a ∧ s₁ = r.at h1 tk1 ∧ h1.get? a = some { cls := .type "tuple", data := .seq #[v1, v2] } ∧ Fm h₀ L m news h1 ∧
      (∀ h' tk', KpB [L] h1 h' → Fm h₀ L (upd (upd m x v1) y v2) news h' → wpG (model prog w) A (execs rest env) Q E (r.at h' tk'))) E (r.at h tk)) (hL : env.locals = L := by rfl)
    (hk : env.scope.kind = .function := by rfl) (hl : env.kindOf x = some .local := by rfl) (hl2 : env.kindOf y = some .local := by rfl)
    (hs : swapsWithSole [.Tuple [.Name x px, .Name y py] k p] value pos.line env = pure false := by rfl) (hw : swappedStores [.Tuple [.Name x px, .Name y py] k p] value env = pure none := by rfl) :
    wpG (model prog w) A (execs (.Assign [.Tuple [.Name x px, .Name y py] k p] value pos :: rest) env) Q E (r.at h tk) := by
  refine x_cons ?_
  show wpG (model prog w) A (do
    standAt pos
    if ← swapsWithSole [.Tuple [.Name x px, .Name y py] k p] value pos.line env then do
      evalThenUse value env fun v => assignAll v ((assignEach [.Tuple [.Name x px, .Name y py] k p] env).map (·.2))
      pure .next
    else do
      let v ← eval value env
      assignStores env v (← swappedStores [.Tuple [.Name x px, .Name y py] k p] value env) ((assignEach [.Tuple [.Name x px, .Name y py] k p] env).map (·.2))) _ E _
  rw [hs, hw]
  refine g_bind (g_standAt (g_bind (g_pure ?_)))
  simp only [Bool.false_eq_true, if_false]
  refine g_bind (g_mono ev (fun v s₁ hv => g_bind (g_pure ?_)) fun _ _ x => x)
  obtain ⟨a, v1, v2, h1, tk1, rfl, rfl, ha, S, kk⟩ := hv
  show wpG _ A (do assignAll (.ref a) [assign (.Tuple [.Name x px, .Name y py] k p) env]; pure Flow.next) _ E _
  refine g_bind ?_
  show wpG _ A (do standAt p; unpack (.ref a) [(false, assign (.Name x px) env), (false, assign (.Name y py) env)]) _ E _
  refine g_bind (g_standAt ?_)
  unfold unpack
  refine g_bind (g_holding (lift (unpackItems_tuple (s := r.at h1 tk1) (items := #[v1, v2]) hh ⟨_, ha, rfl, _, rfl⟩ fun h2 he2 => ?_)))
  have kp2 : Kp h1 h2 := fun b o e => he2 b o (Nat.ne_of_lt (Heap.lt_size e)) e
  have S2 := S.kept kp2
  show wpG _ A (assignInOrder [assign (.Name x px) env, assign (.Name y py) env] [v1, v2]) _ E (r.at h2 tk1)
  unfold assignInOrder assignInOrder assignInOrder
  refine g_bind (g_holding (g_assignName (g_store S2 (fun h3 tk3 kb3 S3 => ?_) hL hk hl)))
  refine g_bind (g_holding (g_assignName (g_store S3 (fun h4 tk4 kb4 S4 => ?_) hL hk hl2)))
  refine g_pure (g_pure ?_)
  exact kk h4 tk4 (fun b o hb e => kb4 b o hb (kb3 b o hb (kp2 b o e))) S4

/-- a list grows -/
noncomputable abbrev lobj (vs : List Value) (n : Nat) : Obj := { cls := .type "list", data := .seq vs.toArray n }
theorem append_g {l : Addr} {vs : List Value} {n : Nat} {v : Value} {Q : Value → Shared → Prop} (hl : h.get? l = some (lobj vs n)) (hz : vs.length < 100000)
    (k : ∀ h' n', h'.get? l = some (lobj (vs ++ [v]) n') → Heap.SameBut l h h' → Q .none (r.at h' tk)) : wpG (model prog w) A (call (.builtin "list.append") [.ref l, v]) Q E (r.at h tk) := by
  refine lift (wpAny_list_append_plain (s := r.at h tk) ⟨n, hl⟩ (fun h' ⟨n', e⟩ sb => k h' n' ?_ sb) (by rw [sizeLine_eq, List.size_toArray]; lia))
  rw [e]
  simp

/-- try: body / except C: suite, C an own class -/
theorem x_Try {body suite : List Stmt} {b₀ : Stmt} {t : Expr} {hp pos : Pos} {rest : List Stmt} {s : Shared} {Q : Flow → Shared → Prop}
    (k : wpG (model prog w) A (execs body env) (fun f s' => f = .next ∧ wpG (model prog w) A (execs rest env) Q E s')
      (fun e s' => wpG (model prog w) A (noteFrame e env) (fun _ s₁ => wpG (model prog w) A (setFlight e none) (fun _ s₂ => e ≠ byPass ∧
        wpG (model prog w) (A.mark (some e)) (eval t env) (fun c s₃ => wpG (model prog w) (A.mark (some e)) (excMatches e c) (fun b s₄ => b = true ∧
          wpG (model prog w) (A.mark (some e)) (setFlight e none) (fun _ s₅ => wpG (model prog w) (A.mark (some e)) (execs (b₀ :: suite) env) (fun f s₆ => match f with | .next => wpG (model prog w) A (execs rest env) Q E s₆ | f => Q f s₆) (fun _ _ => False) s₅) (fun _ _ => False) s₄) (fun _ _ => False) s₃) (fun _ _ => False) s₂) E s₁) E s') s) :
    wpG (model prog w) A (execs (.Try body [.ExceptHandler (some t) none (b₀ :: suite) hp] [] [] pos :: rest) env) Q E s := by
  refine x_cons ?_
  show wpG _ A (do standAt pos; tryStmt false (execs body env) [.ExceptHandler (some t) none (b₀ :: suite) hp] (execs [] env) [] env) _ E s
  refine g_bind (g_standAt ?_)
  unfold tryStmt
  refine g_bind (g_attempt (g_mono k (fun f s' ⟨hf, hs⟩ => ?_) fun e s' he => ?_))
  · subst hf
    exact x_nil hs
  dsimp only
  refine g_bind (g_mono he (fun _ s₁ h₁ => ?_) fun _ _ x => x)
  refine g_no rfl (g_bind (g_mono h₁ (fun _ s₂ h₂ => ?_) fun _ _ x => x))
  refine g_no rfl (g_no rfl ?_)
  obtain ⟨hnb, h₂⟩ := h₂
  have hnb' : (some e : Option Value) ≠ some byPass := fun x => hnb (Option.some.inj x)
  rw [handleBy]
  refine g_bind (g_holding ?_)
  unfold runOwn
  refine g_onRaise (g_run rfl (codeG_of_tree ?_) hnb')
  show wpG _ _ (do return Fin.done (← (handleWith e env [.ExceptHandler (some t) none [] hp]).onRaise (fun x => do noteFrame x env; theTreesLotGoes x))) _ _ _
  refine g_bind (g_onRaise ?_)
  unfold handleWith
  refine g_bind (g_standAt (g_bind (g_mono h₂ (fun c s₃ h₃ => g_bind (g_standAt (g_bind (g_mono h₃ (fun b s₄ h₄ => g_pure (g_pure ?_)) fun _ _ x => x.elim)))) fun _ _ x => x.elim)))
  obtain ⟨rfl, h₄⟩ := h₄
  show wpG _ _ (pure true >>= fun hit => if (!hit) = true then handleBy e env [] else _) _ _ _
  refine g_bind (g_pure (g_no rfl (g_bind (g_holding ?_))))
  refine g_onRaise (g_run rfl (codeG_of_tree ?_) hnb')
  show wpG _ _ (do return Fin.done (← (handleWith e env [.ExceptHandler none none (b₀ :: suite) hp]).onRaise (fun x => do noteFrame x env; theTreesLotGoes x))) _ _ _
  refine g_bind (g_onRaise ?_)
  unfold handleWith
  refine g_bind (g_standAt (g_bind (g_mono h₄ (fun _ s₅ h₅ => g_mono h₅ (fun f s₆ h₆ => g_pure ?_) fun _ _ x => x.elim) fun _ _ x => x.elim)))
  exact g_pure h₆
end
end Mine
end

section
open PySem PySem.W PySem.Calls PyProof.Rows
open PySem.Sem (wp)
set_option maxRecDepth 100000
namespace Mine

inductive All2 {α β : Type} (R : α → β → Prop) : List α → List β → Prop
  | nil : All2 R [] []
  | cons {x y xs ys} : R x y → All2 R xs ys → All2 R (x :: xs) (y :: ys)
section
variable {α β : Type} {R R' : α → β → Prop} {xs : List α} {ys : List β}
theorem All2.mono (h : ∀ x y, R x y → R' x y) (q : All2 R xs ys) : All2 R' xs ys := by
  induction q with
  | nil => exact .nil
  | cons a _ ih => exact .cons (h _ _ a) ih
theorem All2.snoc {x : α} {y : β} (h : R x y) (q : All2 R xs ys) : All2 R (xs ++ [x]) (ys ++ [y]) := by
  induction q with
  | nil => exact .cons h .nil
  | cons a _ ih => exact .cons a ih
theorem All2.length (q : All2 R xs ys) : xs.length = ys.length := by
  induction q with
  | nil => rfl
  | cons _ _ ih => exact congrArg (· + 1) ih
theorem All2.get' (q : All2 R xs ys) : ∀ (i : Nat) {x}, xs[i]? = some x → ∃ y, ys[i]? = some y ∧ R x y := by
  induction q with
  | nil => intro i x h; cases h
  | cons a _ ih =>
    intro i x h
    cases i with
    | zero => cases h; exact ⟨_, rfl, a⟩
    | succ i => exact ih i h
end

noncomputable abbrev tobj (vs : List Value) : Obj := { cls := .type "tuple", data := .seq vs.toArray }
/-- a pair of a number and the octets it took -/
inductive IsPair (h : Heap) (v : Value) (p : Nat × Nat) : Prop
  | mk (a t1 t2) : v = .ref a → h.get? a = some (tobj [.int p.1 t1, .int (2 ^ p.2 : Nat) t2]) → IsPair h v p
theorem IsPair.keep {h h' : Heap} {v : Value} {p : Nat × Nat} (x : IsPair h v p) (k : ∀ a l, h.get? a = some (tobj l) → h'.get? a = some (tobj l)) : IsPair h' v p := by
  cases x with
  | mk a t1 t2 e ha => exact .mk a t1 t2 e (k _ _ ha)

/-- what any row of octets is read as -/
noncomputable def readL (l : List UInt8) : Nat → Nat → List (Nat × Nat) × Nat
  | 0, at_ => ([], at_)
  | f + 1, at_ => match l[at_]? with
    | none => ([], at_)
    | some c => if at_ + 2 ^ (c.toNat / 64) ≤ l.length then
        ((valOf ((l.drop at_).take (2 ^ (c.toNat / 64))) % 2 ^ (8 * 2 ^ (c.toNat / 64) - 2), c.toNat / 64) :: (readL l f (at_ + 2 ^ (c.toNat / 64))).1, (readL l f (at_ + 2 ^ (c.toNat / 64))).2)
      else ([], at_)

theorem ns_not_list {h : Heap} {L a : Addr} {m : Str → Option Value} {c : Value} {d : Option Addr} {vs : Array Value} {n : Nat} {sl : Array (Option Value)} (hn : h.Ns L m) (ha : h.get? a = some ⟨c, d, .seq vs n, sl⟩) : a ≠ L := by
  rintro rfl
  refine shut fun X0 hX0 => ?_
  obtain ⟨o, es, ep, e1, e2, _⟩ := hn
  refine hX0 ?_
  clear hX0
  rw [ha] at e1
  cases e1
  cases e2

section
variable {prog : Program} {w : World} {A : Around} {E : Value → Shared → Prop} {env : Env} {r : Rest} {h h₀ base : Heap} {outer : List Env} {L : Addr} {m mg mb : Str → Option Value} {news : List (Addr × Obj)} {tk : Nat} {P : Params}

theorem Ek.pair2 {M : Model} {e e2 : Expr} {k : Nat} {pos : Pos} {P : Value → Heap → Prop} {P2 : Value → Heap → Prop} (x : Ek M A env r h e P) (y : ∀ v h', Kp h h' → P v h' → Ek M A env r h' e2 P2)
    (he : starEach [e, e2] env = (false, eval e env) :: starEach [e2] env := by rfl) (he2 : starEach [e2] env = (false, eval e2 env) :: starEach [] env := by rfl) :
    Ek M A env r h (.Tuple [e, e2] k pos) (fun v h' => ∃ a v1 v2, v = .ref a ∧ h.get? a = Option.none ∧ h'.get? a = some (tobj [v1, v2]) ∧ ∃ h1 h2, P v1 h1 ∧ P2 v2 h2 ∧ Kp h1 h2 ∧ Kp h2 h') := by
  refine (Ek.tuple (Ps := fun vs h2 => ∃ v1 v2 h1, vs = [v1, v2] ∧ P v1 h1 ∧ P2 v2 h2 ∧ Kp h1 h2) (fun E Q pos tk hq => ?_) ?_).mono ?_
  · refine g_spliced (x _ _ _ fun v h1 tk₁ kp hv => g_spliced (y v h1 kp hv _ _ _ fun v2 h2 tk2 kp2 hv2 => ?_) he2) he
    exact g_spliced_none (hq _ _ _ (kp.trans kp2) ⟨v, v2, h1, rfl, hv, hv2, kp2⟩)
  · rintro vs h' ⟨v1, v2, h1, rfl, _⟩
    exact (by decide : 2 ≤ 1000)
  · rintro v h' kp ⟨h2, vs, rfl, rfl, kp1, v1, v2, h1, rfl, hp, hp2, kp2⟩
    refine ⟨_, v1, v2, rfl, ?_, Heap.get?_push_size _ rfl, h1, h2, hp, hp2, kp2, Kp.push _ _⟩
    cases q : h.get? h2.objs.size with
    | none => rfl
    | some o => exact absurd (Heap.lt_size (kp1 _ _ q)) (Nat.lt_irrefl _)
/-- two new values at once -/
theorem x_SwapK {x y : Str} {px py p pv pos : Pos} {k kv : Nat} {e1 e2 : Expr} {rest : List Stmt} {Q : Flow → Shared → Prop} {P1 P2 : Value → Heap → Prop} (hh : A.handled = none) (S : Fm h₀ L m news h)
    (a : Ek (model prog w) A env r h e1 P1) (b : ∀ v h', Kp h h' → P1 v h' → Ek (model prog w) A env r h' e2 P2)
    (kk : ∀ v1 v2 h1 h2 h' tk', P1 v1 h1 → P2 v2 h2 → Kp h h2 → Kp h1 h2 → KpB [L] h2 h' → Fm h₀ L (upd (upd m y v2) x v1) news h' → wpG (model prog w) A (execs rest env) Q E (r.at h' tk')) (hL : env.locals = L := by rfl)
    (hk : env.scope.kind = .function := by rfl) (hl : env.kindOf x = some .local := by rfl) (hl2 : env.kindOf y = some .local := by rfl)
    (hs : swapsWithSole [.Tuple [.Name x px, .Name y py] k p] (.Tuple [e1, e2] kv pv) pos.line env = pure false := by rfl) (hw : swappedStores [.Tuple [.Name x px, .Name y py] k p] (.Tuple [e1, e2] kv pv) env = pure (some [x, y]) := by rfl)
    (he : starEach [e1, e2] env = (false, eval e1 env) :: starEach [e2] env := by rfl) (he2 : starEach [e2] env = (false, eval e2 env) :: starEach [] env := by rfl) :
    wpG (model prog w) A (execs (.Assign [.Tuple [.Name x px, .Name y py] k p] (.Tuple [e1, e2] kv pv) pos :: rest) env) Q E (r.at h tk) := by
  refine x_Swap2 (P := fun v1 v2 h' => ∃ h1 h2, P1 v1 h1 ∧ P2 v2 h2 ∧ Kp h h2 ∧ Kp h1 h2 ∧ Kp h2 h') hh S ((Ek.pair2 (P := fun v h' => P1 v h' ∧ Kp h h') (fun E Q tk hq => a E Q tk fun v h' tk' kp hv => hq v h' tk' kp ⟨hv, kp⟩) (fun v h' kp hv => b v h' kp hv.1) he he2).mono ?_) ?_ hL hk hl hl2 hs hw
  · rintro v h' kp ⟨a, v1, v2, rfl, ha, ha', h1, h2, ⟨hp1, kp1⟩, hp2, k12, k2⟩
    exact ⟨a, v1, v2, rfl, ha, ha', h1, h2, hp1, hp2, kp1.trans k12, k12, k2⟩
  · rintro v1 v2 h3 h' tk' ⟨h1, h2, hp1, hp2, k2, k12, k23⟩ kp kb F
    exact kk v1 v2 h1 h2 h' tk' hp1 hp2 k2 k12 (fun b o hb e => kb b o hb (k23 _ _ e)) F
/-- a pair goes back -/
theorem x_RetPair {e1 e2 : Expr} {kv : Nat} {pv pos : Pos} {rest : List Stmt} {Q : Flow → Shared → Prop} {P1 P2 : Value → Prop} (a : Ev (model prog w) A env r h e1 P1) (b : Ev (model prog w) A env r h e2 P2)
    (kk : ∀ a v1 v2 h' tk', h.get? a = none → h'.get? a = some (tobj [v1, v2]) → P1 v1 → P2 v2 → Kp h h' → Q (.ret (.ref a)) (r.at h' tk'))
    (he : starEach [e1, e2] env = (false, eval e1 env) :: starEach [e2] env := by rfl) (he2 : starEach [e2] env = (false, eval e2 env) :: starEach [] env := by rfl) :
    wpG (model prog w) A (execs (.Return (some (.Tuple [e1, e2] kv pv)) pos :: rest) env) Q E (r.at h tk) :=
  x_Return (g_Tuple (g_spliced (a _ _ _ fun v1 tk1 h1 => g_spliced (b _ _ _ fun v2 tk2 h2 => g_spliced_none ⟨by rw [sizeLine_eq]; show 2 ≤ _; omega,
    kk _ v1 v2 _ _ (Heap.get?_none_of_le (Nat.le_refl _)) (Heap.get?_push_size _ rfl) h1 h2 (Kp.push _ _)⟩) he2) he))
theorem Et.run {M : Model} {e : Expr} {b : Bool} (x : Et M A env r h e b) {Q : Bool → Shared → Prop} (k : ∀ tk', Q b (r.at h tk')) : wpG M A (isTrue e env (eval e env)) Q E (r.at h tk) := x E Q tk k
/-- a new empty list -/
theorem Ek.nilList {M : Model} {pos : Pos} : Ek M A env r h (.List [] pos) (fun v h' => v = .ref h.objs.size ∧ h'.get? h.objs.size = some (lobj [] 0)) := fun E Q tk hq =>
  g_List (g_spliced_none ⟨Nat.zero_le _, hq _ _ _ (Kp.push _ _) ⟨rfl, Heap.get?_push_size _ rfl⟩⟩)

theorem readL_step {l : List UInt8} {f at_ : Nat} {c : UInt8} (hc : l[at_]? = some c) (hfit : at_ + 2 ^ (c.toNat / 64) ≤ l.length) : readL l (f + 1) at_ =
    ((valOf ((l.drop at_).take (2 ^ (c.toNat / 64))) % 2 ^ (8 * 2 ^ (c.toNat / 64) - 2), c.toNat / 64) :: (readL l f (at_ + 2 ^ (c.toNat / 64))).1, (readL l f (at_ + 2 ^ (c.toNat / 64))).2) := by
  simp only [readL, hc, if_pos hfit]
theorem readL_short {l : List UInt8} {f at_ : Nat} {c : UInt8} (hc : l[at_]? = some c) (hfit : ¬ at_ + 2 ^ (c.toNat / 64) ≤ l.length) : readL l f at_ = ([], at_) := by
  cases f with
  | zero => rfl
  | succ f => simp only [readL, hc, if_neg hfit]
theorem readL_end {l : List UInt8} {f at_ : Nat} (h : l.length ≤ at_) : readL l f at_ = ([], at_) := by
  cases f with
  | zero => rfl
  | succ f => simp only [readL, List.getElem?_eq_none h]
theorem n_gvar (P : Params) : nsIn (KF P) mainGlobals (Str.ofString "get_varint") = some (some (.ref 110)) := by kernel_rfl
theorem kp_gvar {M : Model} (S : SB (KF P) mg mb h) : Looks M h (keeperOf (.ref 110)) .frame := (Looks.ld (part := Option.none) (S.X 110 _ rfl)).andThen .now

/-- what the loop of _law_read keeps -/
structure LRInv (h : Heap) (L F : Addr) (b : Array UInt8) (tb : Tok) (n : Nat) (h' : Heap) (m' : Str → Option Value) (t' : Tok) (at_ : Nat) (vs : List Value) (nn : Nat) (dn : List (Nat × Nat)) : Prop where
  hn : b.size ≤ n + at_
  Fm : Fm h L m' [] h'
  hd : m' (Str.ofString "data") = some (.bytes b tb)
  hf : m' (Str.ofString "found") = some (.ref F)
  ha : m' (Str.ofString "at") = some (.int (at_ : Nat) t')
  hl : h'.get? F = some (lobj vs nn)
  hvs : All2 (IsPair h') vs dn
  hlen : dn.length ≤ at_
  e1 : (readL b.toList b.size 0).1 = dn ++ (readL b.toList n at_).1
  e2 : (readL b.toList b.size 0).2 = (readL b.toList n at_).2
set_option maxHeartbeats 4000000 in
theorem law_read_g {b : Array UInt8} {tb : Tok} {envL : Env} {Ll : Addr} {ml : Str → Option Value} {Q : Value → Shared → Prop} (R : Room A 7) (S₀ : SB (KF P) mg mb h₀) (hk₀ : Kp h₀ h) (hLn : h₀.get? Ll = none) (hst : A.frames = some [envL]) (hfr : envL.frame = some Ll) (hkd : envL.scope.kind ≠ .module)
    (hns₀ : h.Ns Ll ml) (hz : b.size < 10000)
    (k : ∀ a F t vs n h' tk', (∀ b o, b ≠ Ll → h.get? b = some o → h'.get? b = some o) → h.UpToSlots h' → h'.get? a = some (tobj [.ref F, .int ((readL b.toList b.size 0).2 : Nat) t]) → h'.get? F = some (lobj vs n) → h.get? F = none → All2 (IsPair h') vs (readL b.toList b.size 0).1 → Q (.ref a) (r.at h' tk')) :
    wpG (model prog w) A (call (.ref 145) [.bytes b tb]) Q E (r.at h tk) := by
  have S := S₀.keeps hk₀
  refine call_g1 (binds := [(Str.ofString "data", .bytes b tb)]) S ⟨⟨_, _, _, rfl⟩, by kernel_rfl, rfl, rfl, rfl, rfl⟩ R (fun s => BindsTo.of_eq rfl) (by decide) (locs rfl) fun L A1 Post h₁ tk₁ hA R1 hret hLe F1 => ?_
  have hst' := hA ▸ Around.frames_deeper hst
  clear hA
  have S1 : SB (KF P) mg mb h₁ := S.keeps F1.kp
  have hLl : Ll < L := hLe ▸ hns₀.lt
  have hLh : h.get? L = none := Heap.get?_none_of_le (Nat.le_of_eq hLe)
  refine x_SwapK (P1 := fun v h' => v = .ref h₁.objs.size ∧ h'.get? h₁.objs.size = some (lobj [] 0)) (P2 := fun v _ => IsI 0 v) R1.hand F1 Ek.nilList (fun v h' kp hv => Ev.ek Ev.int) ?_
  · rintro _ _ _ h2 h3 tk3 ⟨rfl, hF2⟩ ⟨t0, rfl⟩ kp2 k12 kb3 F3
    have hL1 : L < h₁.objs.size := F1.F.ns.lt
    have hFn1 : h₁.get? h₁.objs.size = none := Heap.get?_none_of_le (Nat.le_refl _)
    have hFL : h₁.objs.size ≠ L := Nat.ne_of_gt hL1
    have hF3 : h3.get? h₁.objs.size = some (lobj [] 0) := kb3 _ _ (nm hFL) (k12 _ _ hF2)
    have hFn : h.get? h₁.objs.size = none := F1.kp.none' hFn1
    have hLF : Ll ≠ h₁.objs.size := Nat.ne_of_lt (Nat.lt_trans hLl hL1)
    generalize h₁.objs.size = FF at hFL hF3 hFn hLF F3
    refine x_While ?_
    refine codeG_whileP (fun n s => ∃ h' tk' m' t' at_ vs nn dn, s = r.at h' tk' ∧ LRInv h L FF b tb n h' m' t' at_ vs nn dn) ?_ b.size _ ⟨h3, tk3, _, t0, 0, [], 0, [], rfl, Nat.le_refl _, F3, rfl, rfl, rfl, hF3, .nil, Nat.zero_le _, rfl, rfl⟩
    rintro n _ Post2 hnx hrt ⟨h4, tk4, m4, t4, at_, vs, nn, dn, rfl, hn, F4, hd, hf, ha, hl, hvs, hlen, e1, e2⟩
    have S4 : SB (KF P) mg mb h4 := S.keeps F4.kp
    refine Et.run (Et.cmp (Ev.loc F4 ha ⟨t4, rfl⟩) (Ev.lenB (Ev.blt S4 (n_len P) boot_len rfl) (Ev.loc F4 hd (rfl : _ = Value.bytes b tb)) (by lia)) CmpI.lt) fun tk5 => ?_
    have fin : ∀ h5 m5 t5 vs5 n5 (at5 : Nat), Fm h L m5 [] h5 → m5 (Str.ofString "found") = some (.ref FF) → m5 (Str.ofString "at") = some (.int (at5 : Nat) t5) → h5.get? FF = some (lobj vs5 n5) → All2 (IsPair h5) vs5 (readL b.toList b.size 0).1 → at5 = (readL b.toList b.size 0).2 →
        ∀ a h' tk', Kp h5 h' → h'.get? a = some (tobj [.ref FF, .int (at5 : Nat) t5]) → Q (.ref a) (r.at h' tk') := by
      intro h5 m5 t5 vs5 n5 at5 F5 _ _ q1 q2 q3 a h' tk' kp q4
      refine k a FF t5 vs5 n5 h' tk' (fun b o _ e => kp _ _ (F5.kp _ _ e)) (Heap.UpToSlots.of_keeps (F5.kp.trans kp)) (by rw [← q3]; exact q4) (kp _ _ q1) hFn (q2.mono fun v p hp => hp.keep fun a l e => kp _ _ e)
    by_cases hlt : at_ < b.size
    · rw [decide_eq_true (by lia), if_pos rfl]
      obtain ⟨c, hc⟩ : ∃ c, b[at_]? = some c := ⟨b[at_], Array.getElem?_eq_getElem hlt⟩
      have hcl : b.toList[at_]? = some c := by rw [Array.getElem?_toList]; exact hc
      obtain ⟨n', rfl⟩ : ∃ n', n = n' + 1 := ⟨n - 1, by lia⟩
      refine x_Try ?_
      by_cases hfit : at_ + 2 ^ (c.toNat / 64) ≤ b.size
      · have hst := readL_step (f := n') hcl (by simpa using hfit)
        refine x_Unpack2 (h₀ := h) (L := L) (m := m4) (news := []) R1.hand (g_Call2 (Ev.glob S4 (n_gvar P) rfl) (kp_gvar S4) (Ev.loc F4 hd (rfl : _ = Value.bytes b tb)) (Ev.loc F4 ha (rfl : _ = Value.int (at_ : Nat) t4)) fun v v2 tk6 hv hv2 => ?_)
        subst hv hv2
        refine get_varint_g (R1.le (by decide)) S4 (by lia) hc rfl hfit fun a t1 t2 h6 tk6 kp6 han ha6 => ?_
        refine ⟨a, _, _, h6, tk6, rfl, rfl, ha6, F4.kept kp6, fun h7 tk7 kb7 F7 => x_nil ⟨rfl, ?_⟩⟩
        have hF7 : h7.get? FF = some (lobj vs nn) := kb7 _ _ (nm hFL) (kp6 _ _ hl)
        have hvs7 : All2 (IsPair h7) vs dn := hvs.mono fun v p hp => hp.keep fun a l e => kb7 _ _ (nm (ns_not_list F4.F.ns e)) (kp6 _ _ e)
        refine x_Expr (g_Method PySem.F.plainAttrs_list slot_list_append type_list_append (Ev.run (Ev.loc F7 ((upd_ne (by decide)).trans ((upd_ne (by decide)).trans hf)) (rfl : _ = Value.ref FF)) fun v tk8 hv => ?_))
        subst hv
        refine ⟨⟨_, hF7, rfl⟩, fun a e => by cases e; exact ⟨_, hF7, rfl⟩, g_callWith (.inr rfl) (g_spliced (Ek.run (Ek.pair2 (P := fun v _ => v = .int (valOf ((b.toList.drop at_).take (2 ^ (c.toNat / 64))) % 2 ^ (8 * 2 ^ (c.toNat / 64) - 2) : Nat) t1) (P2 := fun v _ => IsI (2 ^ (c.toNat / 64) : Nat) v)
          (Ev.ek (Ev.loc F7 rfl rfl)) fun v h' kp _ => Ev.ek (Ev.bin (Ev.loc (F7.kept kp) rfl ⟨t2, rfl⟩) (Ev.loc (F7.kept kp) ((upd_ne (by decide)).trans ((upd_ne (by decide)).trans ha)) ⟨t4, rfl⟩) (OpI.eq OpI.sub (by lia)))) fun v h8 tk8 kp8 hv => g_spliced_none ⟨looks_blt, ?_⟩))⟩
        obtain ⟨T, _, v2, rfl, hTn, hT, _, _, rfl, ⟨t8, rfl⟩, _, _⟩ := hv
        refine append_g (kp8 _ _ hF7) (by rw [hvs.length]; lia) fun h9 n9 hF9 sb9 => ⟨rfl, ?_⟩
        have F8 := F7.kept kp8
        have kb9 : KpB [FF] h8 h9 := fun b o hb e => (sb9.2 b (by simpa using hb)).trans e
        have F9 := F8.but1 kb9 (Ne.symm hFL) hFn
        refine x_Let F9 (Ev.loc F9 rfl rfl) fun v h10 tk10 hv kb10 F10 => ?_
        subst hv
        have keepT : ∀ a l, h8.get? a = some (tobj l) → h10.get? a = some (tobj l) := fun a l e => kb10 _ _ (nm (ns_not_list F8.F.ns e)) (kb9 _ _ (by
          simp only [List.mem_singleton]
          rintro rfl
          rw [kp8 _ _ hF7] at e
          simp [tobj, lobj] at e) e)
        refine x_nil (hnx n' _ (Nat.lt_succ_self _) ⟨h10, tk10, _, t2, at_ + 2 ^ (c.toNat / 64), _, n9, _, rfl, ?_, F10, (upd_ne (by decide)).trans ((upd_ne (by decide)).trans ((upd_ne (by decide)).trans hd)), (upd_ne (by decide)).trans ((upd_ne (by decide)).trans ((upd_ne (by decide)).trans hf)), rfl,
          kb10 _ _ (nm hFL) hF9, (hvs7.mono fun v p hp => hp.keep fun a l e => keepT _ _ (kp8 _ _ e)).snoc (show IsPair h10 (.ref T) (valOf ((b.toList.drop at_).take (2 ^ (c.toNat / 64))) % 2 ^ (8 * 2 ^ (c.toNat / 64) - 2), c.toNat / 64) from ⟨T, t1, t8, rfl, keepT _ _ hT⟩), ?_, ?_, ?_⟩)
        · have := Nat.one_le_two_pow (n := c.toNat / 64)
          lia
        · have := Nat.one_le_two_pow (n := c.toNat / 64)
          simp
          lia
        · rw [e1, hst]
          simp
        · rw [e2, hst]
      · have hsh := readL_short (f := n' + 1) hcl (by simpa using hfit)
        refine x_Unpack2 (h₀ := h) (L := L) (m := m4) (news := []) R1.hand (g_Call2 (Ev.glob S4 (n_gvar P) rfl) (kp_gvar S4) (Ev.loc F4 hd (rfl : _ = Value.bytes b tb)) (Ev.loc F4 ha (rfl : _ = Value.int (at_ : Nat) t4)) fun v v2 tk6 hv hv2 => ?_)
        subst hv hv2
        have hbl : ∀ x o, ((h4.hide Ll).hide L).get? x = some o → h4.get? x = some o := fun x o e => Heap.of_hide (Heap.of_hide e)
        have hbg : ∀ x o, x ≠ L → x ≠ Ll → h4.get? x = some o → ((h4.hide Ll).hide L).get? x = some o := fun x o h1 h2 e => by rw [Heap.hide_ne _ h1, Heap.hide_ne _ h2]; exact e
        have hnL : h4.Ns Ll ml := hns₀.keeps F4.kp
        refine get_varint_short (base := (h4.hide Ll).hide L) (outer := [callEnv _ L 145, envL]) (R1.le (by decide)) ⟨hst', hbl, ?_⟩ S4 (by lia) hc rfl (by lia) fun e h6 tk6 fl => ?_
        · refine .cons (by intro q; cases q) rfl F4.F.ns (Heap.hide_self _ _) (.cons hkd hfr hnL ?_ trivial)
          cases q : ((h4.hide Ll).hide L).get? Ll with
          | none => rfl
          | some o => have := Heap.of_hide q; rw [Heap.hide_self] at this; cases this
        obtain ⟨a0, fl, up⟩ := fl
        refine lift (wpAny_looks_onW (s := r.at h6 tk6) (hst') rfl fl fun h7 held up7 => ?_)
        refine lift (wpAny_landsW (s := r.at h7 tk6) held fun h8 fl8 up8 => ⟨(by intro q; cases q), ?_⟩)
        have kb : Kp h₀ ((h4.hide Ll).hide L) := fun x o q => hbg x o (Nat.ne_of_lt (Nat.lt_of_lt_of_eq (Heap.lt_size (hk₀ _ _ q)) hLe)) (by rintro rfl; rw [hLn] at q; cases q) (F4.kp _ _ (hk₀ _ _ q))
        have S8 : SB (KF P) mg mb h8 := S₀.keeps (kb.trans fl8.1)
        refine Ev.run (h := h8) (tk := tk6) (Ev.glob S8 (SH.n_Short P) rfl) fun v tk8 hv => ?_
        subst hv
        obtain ⟨oe, heo, hcls⟩ := fl8.there
        refine shut fun X0 hX0 => ?_
        obtain ⟨nm, q, bs, sn, sub, ab, col, dd, k0, k1, k2, k3, k5, hC⟩ := SH.cls_at S8
        refine hX0 ?_
        clear hX0
        refine lift (wpAny_excMatches_sub_self hC heo hcls (by decide) ⟨rfl, ?_⟩)
        refine lift (lands_againW (s := r.at h8 tk8) fl8 fun h9 fl9 up9 => ?_)
        have up4 : h4.UpToSlots h9 := ((up.trans up7).trans up8).trans up9
        have F9 : Fm default L m4 [] h9 := ⟨⟨up4.ns F4.F.ns, fun x o q => (by cases q), Nat.zero_le _⟩, News.nil⟩
        refine x_RetPair (h := h9) (tk := tk8) (P1 := fun v => v = .ref FF) (P2 := fun v => v = .int (at_ : Nat) t4) (Ev.loc F9 hf rfl) (Ev.loc F9 ha rfl) ?_
        rintro a _ _ h' tk' _ ha' rfl rfl kp
        refine hrt _ _ (hret _ _ (k a FF t4 vs nn h' tk' (fun x o q1 q2 => kp _ _ (fl9.1 _ _ (hbg x o (Nat.ne_of_lt (Nat.lt_of_lt_of_eq (Heap.lt_size q2) hLe)) q1 (F4.kp _ _ q2)))) (((Heap.UpToSlots.of_keeps F4.kp).trans up4).trans (Heap.UpToSlots.of_keeps kp)) ?_ ?_ hFn ?_))
        · rw [e2, hsh]
          exact ha'
        · exact kp _ _ (fl9.1 _ _ (hbg _ _ hFL (Ne.symm hLF) hl))
        · rw [e1, hsh]
          simp only [List.append_nil]
          exact hvs.mono fun v p hp => hp.keep fun a l q => kp _ _ (fl9.1 _ _ (hbg _ _ (ns_not_list F4.F.ns q) (ns_not_list hnL q) q))
    · rw [decide_eq_false (by lia), if_neg (by decide)]
      have hend : readL b.toList n at_ = ([], at_) := readL_end (by simp; lia)
      refine x_RetPair (P1 := fun v => v = .ref FF) (P2 := fun v => v = .int (at_ : Nat) t4) (Ev.loc F4 hf rfl) (Ev.loc F4 ha rfl) ?_
      rintro a _ _ h' tk' _ ha' rfl rfl kp
      refine hret _ _ (fin h4 m4 t4 vs nn at_ F4 hf ha hl ?_ (by rw [e2, hend]) a h' tk' kp ha')
      rw [e1, hend]
      simpa using hvs
end
end Mine
end

section
open PySem PySem.W PySem.Calls PyProof.Rows
open PySem.Sem (wp)
set_option maxRecDepth 100000
namespace Mine
theorem sbKpb {b : Addr} {h h' : Heap} (s : Heap.SameBut b h h') : KpB [b] h h' := fun x o hx e => (s.2 x (fun q => hx (q ▸ List.Mem.head _))).trans e
namespace BA
section
variable {prog : Program} {w : World} {A : Around} {E : Value → Shared → Prop} {r : Rest} {h : Heap} {tk : Nat} {a l : Addr} {Q : Value → Shared → Prop}
theorem init_one {n : Int} {t : Tok} {nn : Nat} {Q : PySem.Fin → Shared → Prop} (hg : A.guards = some []) (hb : h.get? a = some (obj #[])) (hl : h.get? l = some (lobj [.int n t] nn)) (h0 : 0 ≤ n) (h1 : n < 256)
    (k : ∀ h', h'.get? a = some (obj #[n.toNat.toUInt8]) → Heap.SameBut a h h' → Q (.done (.ret .none)) (r.at h' tk)) : wpG (model prog w) A (Builtin.«bytearray.__init__» ⟨[.ref a, .ref l], []⟩) Q E (r.at h tk) := by
  unfold Builtin.«bytearray.__init__»
  dsimp only
  refine g_bind (ownRelease hb (g_no rfl ?_))
  refine g_bind (g_of_eq (bindOpt1 _) ?_)
  dsimp only
  refine g_bind (g_pure (g_bind (g_pure ?_)))
  refine g_bind (free hg hb (g_no rfl ?_))
  refine g_bind (write hb (Nat.zero_le _) fun h₁ hb₁ s₁ => ?_)
  have hla : l ≠ a := by
    rintro rfl
    rw [hl] at hb
    simp [lobj, obj] at hb
  have hl₁ : h₁.get? l = some (lobj [.int n t] nn) := (s₁.2 l hla).trans hl
  have hT : (r.at h₁ tk).TypeIs (.ref l) "list" := ⟨_, hl₁, rfl⟩
  refine g_bind (g_bind (lift (wpAny_load (s := r.at h₁ tk) hl₁ (g_pure (g_no rfl ?_)))))
  refine g_bind (g_pure ?_)
  refine g_bind (lift (wpAny_specialOf hT F.bm_no_index (g_no rfl ?_)))
  refine g_bind ?_
  unfold Builtin.Bytes.buffer?
  refine g_bind (lift (wpAny_specialOf hT F.bm_no_buffer ?_))
  refine g_bind (lift (wpAny_specialOf hT F.bm_no_buffer (g_pure ?_)))
  dsimp only
  refine g_bind (lift (wpAny_typeOf hT (g_yes rfl ?_)))
  refine g_bind (lift (wpAny_seqItems (s := r.at h₁ tk) hl₁ rfl ?_))
  dsimp only
  simp only [List.takeWhile, decide_eq_true h0, decide_eq_true h1, Bool.and_self]
  refine g_bind (g_rule (g_bind (write hb₁ (by show 1 ≤ sizeLine; rw [sizeLine_eq]; lia) fun h₂ hb₂ s₂ => ?_)))
  exact g_pure (k h₂ hb₂ (s₁.trans s₂))
theorem make_one {n : Int} {t : Tok} {nn : Nat} (hg : A.guards = some []) (hl : h.get? l = some (lobj [.int n t] nn)) (h0 : 0 ≤ n) (h1 : n < 256)
    (k : ∀ h', Kp h h' → h'.get? h.objs.size = some (obj #[n.toNat.toUInt8]) → Q (.ref h.objs.size) (r.at h' tk)) : wpG (model prog w) A (call (.type "bytearray") [.ref l]) Q E (r.at h tk) := by
  refine g_callType (s := r.at h tk) (Q₁ := fun o s₁ => o = .ref h.objs.size ∧ s₁ = r.at (h.push (obj #[])) tk) called (typeCall1 _) entry_init (codeG_lift (code_new1 _ ⟨rfl, rfl⟩)) (fine_of (by decide)) ?_
  rintro _ _ ⟨rfl, rfl⟩
  have hb : (h.push (obj #[])).get? h.objs.size = some (obj #[]) := Heap.get?_push_size _ rfl
  exact ⟨typeIs hb, args_init1 _ _, init_one hg hb (Heap.get?_push_of_some _ hl) h0 h1 fun h' hb' s' => ⟨rfl, k h' (kp_new s') hb'⟩⟩
end
end BA

/-- the octets of base 128, the least first -/
noncomputable def b128F : Nat → Nat → List UInt8
  | 0, _ => []
  | k + 1, m => if m < 128 then [UInt8.ofNat m] else UInt8.ofNat (128 + m % 128) :: b128F k (m / 128)
noncomputable def b128 (m : Nat) : List UInt8 := b128F (m + 1) m
/-- a prefix number -/
noncomputable def pp (bits n : Nat) : List UInt8 := if n < 2 ^ bits - 1 then [UInt8.ofNat n] else UInt8.ofNat (2 ^ bits - 1) :: b128 (n - (2 ^ bits - 1))

theorem b128F_eq : ∀ {k j m : Nat}, m < k → m < j → b128F k m = b128F j m
  | k + 1, j + 1, m, hk, hj => by
    show (if m < 128 then _ else _) = (if m < 128 then _ else _)
    split
    · rfl
    · exact congrArg _ (b128F_eq (Nat.lt_of_lt_of_le (Nat.div_lt_self (by omega) (by decide)) (Nat.le_of_lt_succ hk)) (Nat.lt_of_lt_of_le (Nat.div_lt_self (by omega) (by decide)) (Nat.le_of_lt_succ hj)))
theorem b128_lt {m : Nat} (h : m < 128) : b128 m = [UInt8.ofNat m] := if_pos h
theorem b128_ge {m : Nat} (h : ¬ m < 128) : b128 m = UInt8.ofNat (128 + m % 128) :: b128 (m / 128) :=
  (if_neg h).trans (congrArg _ (b128F_eq (Nat.div_lt_self (by omega) (by decide)) (Nat.lt_succ_self _)))
theorem b128_pos {m : Nat} : 0 < (b128 m).length := by
  by_cases h : m < 128
  · rw [b128_lt h]; exact Nat.zero_lt_one
  · rw [b128_ge h]; exact Nat.succ_pos _
theorem b128_len : ∀ (k : Nat) {m : Nat}, m < 128 ^ (k + 1) → (b128 m).length ≤ k + 1
  | 0, m, hm => by
    rw [b128_lt (by simpa using hm)]
    exact Nat.le_refl _
  | k + 1, m, hm => by
    by_cases h : m < 128
    · rw [b128_lt h]; exact Nat.succ_le_succ (Nat.zero_le _)
    · have := b128_len k (m := m / 128) (by rw [Nat.div_lt_iff_lt_mul (by decide)]; rwa [← Nat.pow_succ])
      rw [b128_ge h]
      exact Nat.succ_le_succ this
theorem u1 {m : Nat} (h : m < 256) : (UInt8.ofNat m).toNat = m := Nat.mod_eq_of_lt h
theorem u2 {m : Nat} : (UInt8.ofNat (128 + m % 128)).toNat = 128 + m % 128 := Nat.mod_eq_of_lt (Nat.add_lt_add_left (Nat.mod_lt m (by decide)) 128)
theorem u128 {m : Nat} (h : m < 128) : (UInt8.ofNat m).toNat = m := u1 (Nat.lt_trans h (by decide))
theorem most_le {bits : Nat} (hb : bits ≤ 8) : 2 ^ bits ≤ 256 := Nat.pow_le_pow_right (n := 2) (by decide) hb
theorem most_lt {bits : Nat} (hb : bits ≤ 8) : 2 ^ bits - 1 < 256 := Nat.lt_of_lt_of_le (Nat.sub_lt (Nat.pow_pos (by decide)) (by decide)) (most_le hb)
theorem pp_lt {bits n : Nat} (h : n < 2 ^ bits - 1) : pp bits n = [UInt8.ofNat n] := if_pos h
theorem pp_ge {bits n : Nat} (h : ¬ n < 2 ^ bits - 1) : pp bits n = UInt8.ofNat (2 ^ bits - 1) :: b128 (n - (2 ^ bits - 1)) := if_neg h
theorem b128_div {m : Nat} (h : ¬ m < 128) : m / 128 < m := Nat.div_lt_self (Nat.lt_of_lt_of_le (by decide) (Nat.not_lt.mp h)) (by decide)
theorem pp_len {bits n : Nat} (hn : n < 2 ^ 63) : (pp bits n).length ≤ 11 := by
  unfold pp
  split
  · exact (by decide : 1 ≤ 11)
  · have := b128_len 9 (m := n - (2 ^ bits - 1)) (by
      have : (128 : Nat) ^ (9 + 1) = 2 ^ 70 := by decide
      lia)
    simp only [List.length_cons]
    lia
theorem pp_size {b : Array UInt8} {q n bits : Nat} (hn : n < 2 ^ 63) (hpp : b.toList ++ b128 q = pp bits n) : b.size < 1000000 := by
  have h := congrArg List.length hpp
  rw [List.length_append] at h
  exact Nat.lt_of_le_of_lt (Nat.le_trans (Nat.le_add_right b.toList.length _) (h ▸ pp_len hn)) (by decide)
theorem nge128 {q : Nat} (h : q < 128) : ¬ (q : Int) ≥ 128 := Int.not_le.mpr (Int.ofNat_lt.mpr h)
theorem ge128 {q : Nat} (h : ¬ q < 128) : (q : Int) ≥ 128 := Int.ofNat_le.mpr (Nat.not_lt.mp h)

section
variable {prog : Program} {w : World} {A : Around} {E : Value → Shared → Prop} {env : Env} {r : Rest} {h h₀ base : Heap} {outer : List Env} {L : Addr} {m mg mb : Str → Option Value} {news : List (Addr × Obj)} {tk : Nat} {P : Params}
theorem Ek.oneList {M : Model} {e : Expr} {pos : Pos} {P : Value → Prop} (x : Ev M A env r h e P) (he : starEach [e] env = (false, eval e env) :: starEach [] env := by rfl) :
    Ek M A env r h (.List [e] pos) (fun v h' => ∃ a v1, v = .ref a ∧ h'.get? a = some (lobj [v1] 0) ∧ P v1) := fun E Q tk hq =>
  g_List (g_spliced (x _ _ _ fun v tk1 hv => g_spliced_none ⟨by rw [sizeLine_eq]; show 1 ≤ 16777216; lia, hq _ _ _ (Kp.push _ _) ⟨_, v, rfl, Heap.get?_push_size _ rfl, hv⟩⟩) he)
/-- a call by a name of one argument that may lay objects -/
theorem g_Call1K {M : Model} {x : Str} {p pos : Pos} {e : Expr} {f : Value} {k : Keeper} {P : Value → Heap → Prop} {Q : Value → Shared → Prop} (ef : Ev M A env r h (.Name x p) (· = f)) (hl : ∀ h', Kp h h' → Looks M h' (keeperOf f) k)
    (a : Ek M A env r h e P) (c : ∀ v h' tk', Kp h h' → P v h' → wpG M A (call f [v]) Q E (r.at h' tk')) (hk : k = .frame ∨ k = .machine := by first | exact .inl rfl | exact .inr rfl)
    (he : starEach [e] env = (false, eval e env) :: starEach [] env := by rfl) :
    wpG M A (eval (.Call (.Name x p) [e] [] pos) env) Q E (r.at h tk) := by
  refine g_Call (ef _ _ _ fun v tk₁ hv => ?_)
  subst hv
  refine g_callWith hk (g_spliced (a _ _ _ fun v h1 tk1 kp hv => g_spliced_none ⟨hl h1 kp, ?_⟩) he) he
  exact c v h1 tk1 kp hv
theorem bitOr_zero (n : Nat) : Builtin.bitOr (0 : Int) (n : Int) = (n : Int) := by
  have := bitOr_nat 0 n
  simpa using this

/-- what the loop of put_prefix keeps -/
structure PPInv (h : Heap) (L B : Addr) (l : List UInt8) (q : Nat) (h' : Heap) (m' : Str → Option Value) (t' : Tok) (b : Array UInt8) : Prop where
  F : Fm h L m' [] h'
  hf : m' (Str.ofString "found") = some (.ref B)
  hl : m' (Str.ofString "left") = some (.int (q : Nat) t')
  hB : h'.get? B = some (BA.obj b)
  hpp : b.toList ++ b128 q = l
set_option maxHeartbeats 4000000 in
theorem put_prefix_g {n bits : Nat} {tn tb th : Tok} {Q : Value → Shared → Prop} (R : Room A 3) (S : SB (KF P) mg mb h) (hb1 : 1 ≤ bits) (hb : bits ≤ 8) (hn : n < 2 ^ 63)
    (k : ∀ t h' tk', Kp h h' → Q (.bytes (pp bits n).toArray t) (r.at h' tk')) : wpG (model prog w) A (call (.ref 117) [.int n tn, .int bits tb, .int 0 th]) Q E (r.at h tk) := by
  refine call_g1 (binds := [(Str.ofString "number", .int n tn), (Str.ofString "bits", .int bits tb), (Str.ofString "head", .int 0 th)]) S ⟨⟨_, _, _, rfl⟩, by kernel_rfl, rfl, rfl, rfl, rfl⟩ R (fun s => BindsTo.of_eq rfl) (by decide) (locs rfl) fun L A1 Post h₁ tk₁ hA R1 hret hLe F1 => ?_
  clear hA
  have hbig : ∀ {b : Addr}, L < b → h.get? b = none := fun hlt => Heap.get?_none_of_le (hLe ▸ Nat.le_of_lt hlt)
  have S1 : SB (KF P) mg mb h₁ := S.keeps F1.kp
  have hmost := most_lt hb
  refine x_Let (P := IsI (2 ^ bits - 1 : Nat)) F1 (Ev.bin (Ev.bin Ev.int (Ev.loc F1 rfl ⟨tb, rfl⟩) (OpI.shl (Int.natCast_nonneg _) (Int.ofNat_le.mpr (Nat.le_trans hb (by decide))) (by decide))) Ev.int (OpI.eq OpI.sub (by rw [two_pow_sub, Int.toNat_natCast]))) fun v h2 tk2 ⟨t2, hv2⟩ kb2 F2 => ?_
  subst hv2
  have S2 : SB (KF P) mg mb h2 := S.keeps F2.kp
  refine x_IfE (Et.cmp (Ev.loc F2 rfl ⟨tn, rfl⟩) (Ev.loc F2 rfl ⟨t2, rfl⟩) CmpI.lt) ?_ ?_
  · intro hc tk3
    have hlt : n < 2 ^ bits - 1 := lt_dec hc
    have h256 := Nat.lt_trans hlt hmost
    refine x_RetK (P := fun v h' => IsBy (pp bits n).toArray v) (fun E Q tk hq => g_Call1K (Ev.blt S2 (n_bytes P) boot_bytes rfl) (fun _ _ => looks_type) (Ek.oneList (Ev.bin (Ev.loc F2 rfl ⟨th, rfl⟩) (Ev.loc F2 rfl ⟨tn, rfl⟩) (OpI.eq OpI.or (bitOr_zero n)))) fun v h3 tk3 kp3 hv => ?_) fun v h4 tk4 kp4 ⟨t, hv⟩ => ?_
    · obtain ⟨a, v1, rfl, hl, ⟨t1, rfl⟩⟩ := hv
      refine lift (call_bytes_ints (s := r.at h3 tk3) (vs := [.int n t1]) (ns := [(n : Int)]) ⟨_, hl, rfl, _, rfl⟩ (.cons _ _ .nil) (by simp; lia) (by rw [sizeLine_eq]; show 1 ≤ 16777216; lia) R1.hand fun h' t' k' kp' => hq _ h' k' (kp3.trans kp') ⟨t', ?_⟩)
      rw [pp_lt hlt]
      unfold byteArr
      simp
    · subst hv
      exact hret _ _ (k t h4 tk4 (F2.kp.trans kp4))
  · intro hc tk3
    have hge : ¬ n < 2 ^ bits - 1 := nlt_dec hc
    refine x_nil (x_SwapK (P1 := fun v h' => ∃ B, v = .ref B ∧ L < B ∧ h'.get? B = some (BA.obj #[UInt8.ofNat (2 ^ bits - 1)])) (P2 := fun v _ => IsI ((n - (2 ^ bits - 1) : Nat) : Int) v) R1.hand F2 (fun E Q tk hq => ?_) (fun v h' kp hv => Ev.ek (Ev.bin (Ev.loc (F2.kept kp) rfl ⟨tn, rfl⟩) (Ev.loc (F2.kept kp) rfl ⟨t2, rfl⟩) (OpI.eq OpI.sub (Int.ofNat_sub (Nat.not_lt.mp hge)).symm))) ?_)
    · refine g_Call1K (Ev.blt S2 (n_bytearray P) boot_bytearray rfl) (fun _ _ => looks_type) (Ek.oneList (Ev.bin (Ev.loc F2 rfl ⟨th, rfl⟩) (Ev.loc F2 rfl ⟨t2, rfl⟩) (OpI.eq OpI.or (bitOr_zero _)))) fun v h3 tk3 kp3 hv => ?_
      obtain ⟨a, v1, rfl, hl, ⟨t1, rfl⟩⟩ := hv
      refine BA.make_one R1.guards hl (Int.natCast_nonneg _) (Int.ofNat_lt.mpr hmost) fun h4 kp4 hB => hq _ h4 _ (kp3.trans kp4) ⟨_, rfl, (F2.kept kp3).F.ns.lt, ?_⟩
      rw [hB]
      simp
    · rintro _ _ _ h3 h4 tk4 ⟨B, rfl, hLB, hBx⟩ ⟨t4, rfl⟩ _ k12 kb4 F4
      have hBL : B ≠ L := Nat.ne_of_gt hLB
      have hBn : h.get? B = none := hbig hLB
      have hB4 := kb4 _ _ (nm hBL) (k12 _ _ hBx)
      refine x_While ?_
      refine codeG_whileP (fun q s => ∃ h' tk' m' t' b, s = r.at h' tk' ∧ PPInv h L B (pp bits n) q h' m' t' b) ?_ (n - (2 ^ bits - 1)) _
        ⟨h4, tk4, _, t4, _, rfl, F4, rfl, rfl, hB4, (pp_ge hge).symm⟩
      rintro q _ Post2 hnx hrt ⟨h5, tk5, m5, t5, b, rfl, V⟩
      have F5 := V.F
      have hf := V.hf
      have hl := V.hl
      have hB5 := V.hB
      have hpp := V.hpp
      clear V
      have hbs := pp_size hn hpp
      refine Et.run (Et.cmp (Ev.loc F5 hl ⟨t5, rfl⟩) Ev.int CmpI.ge) fun tk6 => ?_
      by_cases hq : q < 128
      · rw [decide_eq_false (nge128 hq), if_neg (by decide)]
        refine x_Expr (g_Method BA.plainAttrs BA.slot_append BA.type_append (Ev.run (Ev.loc F5 hf (rfl : _ = Value.ref B)) fun v tk7 hv => ?_))
        subst hv
        refine ⟨BA.typeIs hB5, fun a e => by cases e; exact ⟨_, hB5, rfl⟩, g_callWith (.inr rfl) (g_spliced (Ev.run (Ev.loc F5 hl (rfl : _ = Value.int (q : Nat) t5)) fun v tk8 hv => g_spliced_none ⟨looks_blt, ?_⟩))⟩
        subst hv
        refine BA.append R1.guards hB5 (Int.natCast_nonneg _) (Int.ofNat_lt.mpr (Nat.lt_trans hq (by decide))) hbs fun h6 hB6 sb6 => ⟨rfl, ?_⟩
        have kb6 : KpB [B] h5 h6 := sbKpb sb6
        have F6 := F5.but1 kb6 (Ne.symm hBL) (hBn)
        have S6 : SB (KF P) mg mb h6 := S.keeps F6.kp
        have hend : (b.push (q : Int).toNat.toUInt8) = (pp bits n).toArray := by
          rw [← hpp, b128_lt hq]
          simp [Array.push]
        rw [hend] at hB6
        refine x_RetK (P := fun v h' => IsBy (pp bits n).toArray v) (fun E Q tk hq => g_Call1 (Ev.blt S6 (n_bytes P) boot_bytes rfl) looks_type (Ev.loc F6 hf (rfl : _ = Value.ref B)) fun v tk' hv => ?_) fun v h7 tk7 kp7 ⟨t7, hv⟩ => ?_
        · subst hv
          exact BA.to_bytes hB6 (Nat.lt_of_le_of_lt (pp_len hn) (by decide)) fun t tk' => hq _ _ _ (Kp.refl _) ⟨t, rfl⟩
        · subst hv
          exact hret _ _ (k t7 h7 tk7 (F6.kp.trans kp7))
      · rw [decide_eq_true (ge128 hq), if_pos rfl]
        refine x_Expr (g_Method BA.plainAttrs BA.slot_append BA.type_append (Ev.run (Ev.loc F5 hf (rfl : _ = Value.ref B)) fun v tk7 hv => ?_))
        subst hv
        refine ⟨BA.typeIs hB5, fun a e => by cases e; exact ⟨_, hB5, rfl⟩, g_callWith (.inr rfl) (g_spliced (Ev.run (Ev.bin Ev.int (Ev.bin (Ev.loc F5 hl ⟨t5, rfl⟩) Ev.int (OpI.eq (OpI.mod (by decide)) (show _ = ((q % 128 : Nat) : Int) from nat_fmod q 128))) (OpI.eq OpI.add (show _ = ((128 + q % 128 : Nat) : Int) from (Int.natCast_add 128 _).symm))) fun v tk8 hv => g_spliced_none ⟨looks_blt, ?_⟩))⟩
        obtain ⟨t8, rfl⟩ := hv
        refine BA.append R1.guards hB5 (Int.natCast_nonneg _) (Int.ofNat_lt.mpr (Nat.add_lt_add_left (Nat.mod_lt q (by decide)) 128)) hbs fun h6 hB6 sb6 => ⟨rfl, ?_⟩
        have kb6 : KpB [B] h5 h6 := sbKpb sb6
        have F6 := F5.but1 kb6 (Ne.symm hBL) (hBn)
        refine x_Let F6 (Ev.bin (Ev.loc F6 hl ⟨t5, rfl⟩) Ev.int (OpI.eq (OpI.fdiv (by decide) (PyProof.noPylong_small (by decide))) (show _ = ((q / 128 : Nat) : Int) from nat_fdiv q 128))) fun v h7 tk7 ⟨t7, hv⟩ kb7 F7 => ?_
        subst hv
        refine x_nil (hnx (q / 128) _ (b128_div hq) ⟨h7, tk7, _, t7, _, rfl, F7, (upd_ne (by decide)).trans hf, rfl, kb7 _ _ (nm (hBL)) hB6, ?_⟩)
        rw [← hpp, b128_ge hq]
        simp only [Array.toList_push, List.append_assoc, List.singleton_append, Int.toNat_natCast]
end
end Mine
end

section
namespace Mine
/-! Plain laws of octets. -/
theorem fold_val (l : List UInt8) : ∀ a, l.foldl (fun a c => a * 256 + c.toNat) a = a * 256 ^ l.length + valOf l := by
  induction l with
  | nil => intro a; simp [valOf]
  | cons c l ih =>
    intro a
    have h1 := ih (a * 256 + c.toNat)
    have h2 := ih (0 * 256 + c.toNat)
    simp only [valOf, List.foldl_cons, List.length_cons] at h1 h2 ⊢
    rw [h1, h2, Nat.pow_succ, Nat.zero_mul, Nat.zero_add, Nat.add_mul, Nat.mul_assoc, Nat.mul_comm 256, Nat.add_assoc]
theorem val_cons (c : UInt8) (l : List UInt8) : valOf (c :: l) = c.toNat * 256 ^ l.length + valOf l := by
  have := fold_val l (0 * 256 + c.toNat)
  simp only [Nat.zero_mul, Nat.zero_add] at this
  simpa [valOf] using this
theorem val_lt : ∀ l : List UInt8, valOf l < 256 ^ l.length
  | [] => by simp [valOf]
  | c :: l => by
    have h1 := val_lt l
    have h2 := c.toNat_lt
    rw [val_cons, List.length_cons, Nat.pow_succ]
    have h3 : c.toNat * 256 ^ l.length ≤ 255 * 256 ^ l.length := Nat.mul_le_mul_right _ (by lia)
    lia
theorem be_val : ∀ l : List UInt8, be l.length (valOf l) = l
  | [] => rfl
  | c :: l => by
    have hl := val_lt l
    have hp : 0 < 256 ^ l.length := Nat.pow_pos (by decide)
    rw [List.length_cons, be, val_cons]
    have h1 : (c.toNat * 256 ^ l.length + valOf l) / 256 ^ l.length = c.toNat := by
      rw [Nat.mul_comm, Nat.mul_add_div hp, Nat.div_eq_of_lt hl, Nat.add_zero]
    rw [h1]
    congr 1
    · exact UInt8.ofNat_toNat
    · have key : ∀ (s n q : Nat), be s (q * 256 ^ s + n) = be s n := by
        intro s
        induction s with
        | zero => intro n q; rfl
        | succ s ih =>
          intro n q
          have e : q * 256 ^ (s + 1) + n = (q * 256) * 256 ^ s + n := by rw [Nat.pow_succ, Nat.mul_comm (256 ^ s), ← Nat.mul_assoc]
          have hp : 0 < 256 ^ s := Nat.pow_pos (by decide)
          rw [be, be, e, ih]
          congr 1
          rw [Nat.mul_comm, Nat.mul_add_div hp]
          apply UInt8.toNat.inj
          rw [UInt8.toNat_ofNat', UInt8.toNat_ofNat']
          lia
      rw [key]
      exact be_val l
theorem val_be : ∀ (s n : Nat), valOf (be s n) = n % 256 ^ s
  | 0, n => by simp [be, valOf, Nat.mod_one]
  | s + 1, n => by
    rw [be, val_cons, be_length, val_be s n, UInt8.toNat_ofNat']
    have h := Nat.mod_mul (x := n) (a := 256 ^ s) (b := 256)
    rw [show (256 : Nat) ^ (s + 1) = 256 ^ s * 256 from Nat.pow_succ .., h, Nat.mul_comm]
    exact Nat.add_comm ..

/-! one number: written and read back -/
theorem idx_cases {i : Nat} (h : i < 4) : i = 0 ∨ i = 1 ∨ i = 2 ∨ i = 3 := by lia
theorem pv_length (i n : Nat) : (pv i n).length = 2 ^ i := be_length _ _
theorem pw_eq {i k : Nat} (hk : 2 ^ i = k + 1) : 2 ^ (8 * 2 ^ i - 2) = 64 * 256 ^ k := by
  rw [hk, show 8 * (k + 1) - 2 = 6 + 8 * k by lia, Nat.pow_add, Nat.pow_mul]
theorem pv_head {i n : Nat} (hi : i < 4) (hn : n < 2 ^ (8 * 2 ^ i - 2)) : ∃ c r, pv i n = c :: r ∧ c.toNat / 64 = i ∧ c.toNat % 64 = n / 256 ^ (2 ^ i - 1) := by
  unfold pv
  obtain ⟨k, hk⟩ : ∃ k, 2 ^ i = k + 1 := ⟨2 ^ i - 1, by have := Nat.one_le_two_pow (n := i); lia⟩
  have hM := pw_eq hk
  rw [hM] at hn ⊢
  rw [hk, be, Nat.add_sub_cancel]
  refine ⟨_, _, rfl, ?_⟩
  have hM0 : 0 < 256 ^ k := Nat.pow_pos (by decide)
  have hq : n / 256 ^ k < 64 := Nat.div_lt_of_lt_mul (by rw [Nat.mul_comm]; exact hn)
  have e : (i * (64 * 256 ^ k) + n) / 256 ^ k = i * 64 + n / 256 ^ k := by
    rw [← Nat.mul_assoc, Nat.mul_comm (i * 64), Nat.mul_add_div hM0]
  rw [UInt8.toNat_ofNat', e]
  generalize n / 256 ^ k = q at hq
  lia
theorem pv_val {i n : Nat} (hi : i < 4) (hn : n < 2 ^ (8 * 2 ^ i - 2)) : valOf (pv i n) % 2 ^ (8 * 2 ^ i - 2) = n := by
  unfold pv
  rw [val_be, Nat.mod_eq_of_lt (pv_lt hi hn), Nat.mul_comm, Nat.mul_add_mod, Nat.mod_eq_of_lt hn]
/-- a row of the octets that its first one wants is what put_varint writes -/
theorem pv_back {l : List UInt8} {c : UInt8} {r : List UInt8} (hl : l = c :: r) (hlen : l.length = 2 ^ (c.toNat / 64)) : pv (c.toNat / 64) (valOf l % 2 ^ (8 * 2 ^ (c.toNat / 64) - 2)) = l := by
  have hc := c.toNat_lt
  have hi : c.toNat / 64 < 4 := by lia
  have hb := be_val l
  have hv := val_lt l
  have e : c.toNat / 64 * 2 ^ (8 * 2 ^ (c.toNat / 64) - 2) + valOf l % 2 ^ (8 * 2 ^ (c.toNat / 64) - 2) = valOf l := by
    have hq : valOf l / 2 ^ (8 * 2 ^ (c.toNat / 64) - 2) = c.toNat / 64 := by
      have hvc : valOf l = c.toNat * 256 ^ r.length + valOf r := by rw [hl, val_cons]
      have hvr := val_lt r
      have hrl : r.length + 1 = 2 ^ (c.toNat / 64) := by rw [← hlen, hl]; rfl
      rw [pw_eq hrl.symm, Nat.mul_comm 64, ← Nat.div_div_eq_div_mul, hvc, Nat.mul_comm c.toNat, Nat.mul_add_div (Nat.pow_pos (by decide)), Nat.div_eq_of_lt hvr, Nat.add_zero]
    have := Nat.div_add_mod (valOf l) (2 ^ (8 * 2 ^ (c.toNat / 64) - 2))
    rw [hq, Nat.mul_comm] at this
    exact this
  unfold pv
  rw [e, ← hlen]
  exact hb

theorem take_drop_split {l : List UInt8} {a n : Nat} (h : a + n ≤ l.length) : l.take (a + n) = l.take a ++ (l.drop a).take n := by
  rw [List.take_add]
/-- any row of octets, read and put back -/
theorem readL_back (l : List UInt8) : ∀ (f at_ : Nat), at_ ≤ l.length → at_ ≤ (readL l f at_).2 ∧ (readL l f at_).2 ≤ l.length ∧ l.take (readL l f at_).2 = l.take at_ ++ ((readL l f at_).1.map fun p => pv p.2 p.1).flatten ∧
    (∀ p ∈ (readL l f at_).1, p.2 < 4 ∧ p.1 < 2 ^ (8 * 2 ^ p.2 - 2)) ∧ (l.length ≤ f + at_ → ∀ c, l[(readL l f at_).2]? = some c → l.length < (readL l f at_).2 + 2 ^ (c.toNat / 64))
  | 0, at_, h => by
    refine ⟨Nat.le_refl _, h, by simp [readL], by simp [readL], fun hf c hc => ?_⟩
    rw [show (readL l 0 at_).2 = at_ from rfl, List.getElem?_eq_none (by lia)] at hc
    cases hc
  | f + 1, at_, h => by
    rcases Nat.lt_or_ge at_ l.length with hlt | hge
    · have hc : l[at_]? = some l[at_] := List.getElem?_eq_getElem hlt
      generalize l[at_] = c at hc
      by_cases hfit : at_ + 2 ^ (c.toNat / 64) ≤ l.length
      · rw [readL_step hc hfit]
        refine shut fun X0 hX0 => ?_
        obtain ⟨h1, h2, h3, h4, h5⟩ := readL_back l f (at_ + 2 ^ (c.toNat / 64)) hfit
        refine hX0 ?_
        clear hX0
        have h2p := Nat.one_le_two_pow (n := c.toNat / 64)
        refine ⟨by lia, h2, ?_, ?_, fun hf => h5 (by lia)⟩
        · rw [h3, take_drop_split hfit, List.map_cons, List.flatten_cons, List.append_assoc]
          congr 2
          have hd : l.drop at_ = c :: l.drop (at_ + 1) := by
            rw [List.drop_eq_getElem_cons hlt]
            rw [List.getElem?_eq_getElem hlt] at hc
            rw [Option.some.inj hc]
          obtain ⟨k, hk⟩ : ∃ k, 2 ^ (c.toNat / 64) = k + 1 := ⟨2 ^ (c.toNat / 64) - 1, by lia⟩
          refine (pv_back (r := (l.drop (at_ + 1)).take k) ?_ ?_).symm
          · rw [hk, hd, List.take_succ_cons]
          · rw [List.length_take, List.length_drop]
            lia
        · intro p hp
          rcases List.mem_cons.mp hp with rfl | hp
          · have := c.toNat_lt
            exact ⟨by show c.toNat / 64 < 4; lia, Nat.mod_lt _ (Nat.two_pow_pos _)⟩
          · exact h4 p hp
      · rw [readL_short hc hfit]
        refine ⟨Nat.le_refl _, h, by simp, by simp, fun _ c' hc' => ?_⟩
        rw [hc] at hc'
        cases hc'
        show l.length < at_ + _
        lia
    · rw [readL_end hge]
      refine ⟨Nat.le_refl _, h, by simp, by simp, fun _ c' hc' => ?_⟩
      rw [List.getElem?_eq_none hge] at hc'
      cases hc'
end Mine
end

section
open PySem
namespace Mine
noncomputable abbrev ord := Builtin.Bytes.order
theorem ord_head {x y : UInt8} {a b : List UInt8} (h : x.toNat < y.toNat) : ord (x :: a) (y :: b) = .lt := by
  have : x < y := UInt8.lt_iff_toNat_lt.mpr h
  simp [ord, Builtin.Bytes.order, this]
theorem ord_same {x : UInt8} {a b : List UInt8} : ord (x :: a) (x :: b) = ord a b := by
  simp [ord, Builtin.Bytes.order, UInt8.lt_irrefl]
theorem be_mod : ∀ (s n : Nat), be s (n % 256 ^ s) = be s n := fun s n => by
  have h1 := be_val (be s n)
  rw [be_length, val_be] at h1
  exact h1
theorem ord_be : ∀ (s : Nat) {n m : Nat}, n < m → m < 256 ^ s → ord (be s n) (be s m) = .lt
  | 0, n, m, h1, h2 => by simp at h2; lia
  | s + 1, n, m, h1, h2 => by
    have hp : 0 < 256 ^ s := Nat.pow_pos (by decide)
    have hm : m / 256 ^ s < 256 := by rw [Nat.div_lt_iff_lt_mul hp, Nat.mul_comm]; rwa [Nat.pow_succ] at h2
    have hle : n / 256 ^ s ≤ m / 256 ^ s := Nat.div_le_div_right (Nat.le_of_lt h1)
    rw [be, be]
    rcases Nat.lt_or_eq_of_le hle with h | h
    · apply ord_head
      rw [UInt8.toNat_ofNat', UInt8.toNat_ofNat', Nat.mod_eq_of_lt (Nat.lt_trans h hm), Nat.mod_eq_of_lt hm]
      exact h
    · rw [h, ord_same, ← be_mod s n, ← be_mod s m]
      apply ord_be s
      · have e1 := Nat.div_add_mod n (256 ^ s)
        have e2 := Nat.div_add_mod m (256 ^ s)
        rw [h] at e1
        lia
      · exact Nat.mod_lt _ hp
theorem vix_mono {n m : Nat} (h : n ≤ m) : vix n ≤ vix m := by
  unfold vix
  (repeat' split) <;> lia
theorem vix_le {n i : Nat} (hi : i < 4) (h : n < 2 ^ (8 * 2 ^ i - 2)) : vix n ≤ i := by
  unfold vix
  obtain rfl | rfl | rfl | rfl := idx_cases hi
  all_goals
    simp only [Nat.reducePow, Nat.reduceMul, Nat.reduceSub] at h ⊢
    (repeat' split) <;> lia
/-- numbers sort as their octets do -/
theorem pv_ord {n m : Nat} (h : n < m) (hm : m < 2 ^ 62) : ord (pv (vix n) n) (pv (vix m) m) = .lt := by
  have hn4 := vix_lt n
  have hm4 := vix_lt m
  have hN := lt_of_vix hn4 (Nat.le_refl _) (Nat.lt_trans h hm)
  have hM := lt_of_vix hm4 (Nat.le_refl _) hm
  rcases Nat.lt_or_eq_of_le (vix_mono (Nat.le_of_lt h)) with hi | hi
  · obtain ⟨c, r, e1, e2, _⟩ := pv_head hn4 hN
    refine shut fun X0 hX0 => ?_
    obtain ⟨d, q, f1, f2, _⟩ := pv_head hm4 hM
    refine hX0 ?_
    clear hX0
    rw [e1, f1]
    exact ord_head (by lia)
  · rw [hi] at hN ⊢
    exact ord_be _ (by lia) (pv_lt hm4 hM)
/-- none begins another -/
theorem pv_begins {i j n m : Nat} (hi : i < 4) (hj : j < 4) (hn : n < 2 ^ (8 * 2 ^ i - 2)) (hm : m < 2 ^ (8 * 2 ^ j - 2)) (hne : pv i n ≠ pv j m) : (pv j m).take (pv i n).length ≠ pv i n := by
  intro h
  by_cases hij : i = j
  · subst hij
    rw [pv_length, List.take_of_length_le (by rw [pv_length]; exact Nat.le_refl _)] at h
    exact hne h.symm
  · obtain ⟨c, r, e1, e2, _⟩ := pv_head hi hn
    refine shut fun X0 hX0 => ?_
    obtain ⟨d, q, f1, f2, _⟩ := pv_head hj hm
    refine hX0 ?_
    clear hX0
    rw [e1, f1, List.length_cons, List.take_succ_cons] at h
    have := (List.cons.inj h).1
    rw [this] at f2
    lia
end Mine
end

section
open PySem
namespace Mine
theorem ord_app : ∀ {a b c d : List UInt8}, a.length = b.length → ord a b = .lt → ord (a ++ c) (b ++ d) = .lt
  | [], [], _, _, _, h => by simp [ord, Builtin.Bytes.order] at h
  | x :: a, y :: b, c, d, hl, h => by
    simp only [ord, Builtin.Bytes.order, List.cons_append] at h ⊢
    split at h
    · rename_i h1; rw [if_pos h1]
    · rename_i h1
      rw [if_neg h1]
      split at h
      · cases h
      · rename_i h2
        rw [if_neg h2]
        exact ord_app (by simpa using hl) h
theorem ord_pre : ∀ {a c d : List UInt8}, ord (a ++ c) (a ++ d) = ord c d
  | [], _, _ => rfl
  | x :: a, c, d => by rw [List.cons_append, List.cons_append, ord_same]; exact ord_pre
theorem b128_top {n m : Nat} (hn : ¬ n < 128) (h : n ≤ m) : ¬ m < 128 := fun q => hn (Nat.lt_of_le_of_lt h q)
theorem b128_low {n m : Nat} (h : n < m) (hq : n / 128 = m / 128) : n % 128 < m % 128 := by omega
theorem b128_mono : ∀ (m : Nat) {n : Nat}, n ≤ m → (b128 n).length ≤ (b128 m).length := fun m => by
  induction m using Nat.strongRecOn with
  | ind m ih =>
    intro n h
    by_cases hn : n < 128
    · rw [b128_lt hn]
      exact b128_pos
    · have hm := b128_top hn h
      rw [b128_ge hn, b128_ge hm]
      exact Nat.succ_le_succ (ih (m / 128) (b128_div hm) (Nat.div_le_div_right h))
theorem b128_ord : ∀ (m : Nat) {n : Nat}, n < m → (b128 n).length = (b128 m).length → ord (b128 n).reverse (b128 m).reverse = .lt := fun m => by
  induction m using Nat.strongRecOn with
  | ind m ih =>
    intro n h hl
    by_cases hn : n < 128
    · by_cases hm : m < 128
      · rw [b128_lt hn, b128_lt hm]
        exact ord_head (by rw [u128 hn, u128 hm]; exact h)
      · rw [b128_lt hn, b128_ge hm] at hl
        exact absurd (Nat.succ.inj hl) (Nat.ne_of_lt b128_pos)
    · have hm := b128_top hn (Nat.le_of_lt h)
      rw [b128_ge hn, b128_ge hm] at hl ⊢
      rw [List.reverse_cons, List.reverse_cons]
      have hl' : (b128 (n / 128)).length = (b128 (m / 128)).length := Nat.succ.inj hl
      by_cases hq : n / 128 = m / 128
      · rw [hq, ord_pre]
        exact ord_head (by rw [u2, u2]; exact Nat.add_lt_add_left (b128_low h hq) 128)
      · exact ord_app (by rw [List.length_reverse, List.length_reverse]; exact hl') (ih (m / 128) (b128_div hm) (Nat.lt_of_le_of_ne (Nat.div_le_div_right (Nat.le_of_lt h)) hq) hl')
theorem b128_head_ne {n m : Nat} (hn : n < 128) {a b : List UInt8} : UInt8.ofNat n :: a ≠ UInt8.ofNat (128 + m % 128) :: b := fun h => by
  have := congrArg UInt8.toNat (List.cons.inj h).1
  rw [u128 hn, u2] at this
  exact absurd (this ▸ hn) (Nat.not_lt.mpr (Nat.le_add_right _ _))
theorem b128_begins : ∀ (n : Nat) {m : Nat}, (b128 m).take (b128 n).length = b128 n → b128 m = b128 n := fun n => by
  induction n using Nat.strongRecOn with
  | ind n ih =>
    intro m h
    by_cases hn : n < 128
    · rw [b128_lt hn] at h ⊢
      by_cases hm : m < 128
      · rw [b128_lt hm] at h ⊢
        exact h
      · rw [b128_ge hm] at h
        exact absurd h.symm (b128_head_ne hn)
    · rw [b128_ge hn] at h ⊢
      by_cases hm : m < 128
      · rw [b128_lt hm] at h
        exact absurd h (b128_head_ne hm)
      · rw [b128_ge hm] at h ⊢
        obtain ⟨h1, h2⟩ := List.cons.inj h
        rw [h1, ih (n / 128) (b128_div hn) h2]

theorem pp_mono {bits n m : Nat} (h : n ≤ m) : (pp bits n).length ≤ (pp bits m).length := by
  by_cases hn : n < 2 ^ bits - 1
  · rw [pp_lt hn]
    by_cases hm : m < 2 ^ bits - 1
    · rw [pp_lt hm]; exact Nat.le_refl _
    · rw [pp_ge hm]; exact Nat.succ_pos _
  · rw [pp_ge hn, pp_ge fun q => hn (Nat.lt_of_le_of_lt h q)]
    exact Nat.succ_le_succ (b128_mono _ (Nat.sub_le_sub_right h _))
theorem pp_ord {bits n m : Nat} (hb : bits ≤ 8) (h : n < m) (hl : (pp bits n).length = (pp bits m).length) : ord (pp bits n).reverse (pp bits m).reverse = .lt := by
  have hp := most_lt hb
  by_cases hn : n < 2 ^ bits - 1
  · rw [pp_lt hn] at hl ⊢
    by_cases hm : m < 2 ^ bits - 1
    · rw [pp_lt hm]
      exact ord_head (by rw [u1 (Nat.lt_trans hn hp), u1 (Nat.lt_trans hm hp)]; exact h)
    · rw [pp_ge hm] at hl
      exact absurd (Nat.succ.inj hl) (Nat.ne_of_lt b128_pos)
  · have hm : ¬ m < 2 ^ bits - 1 := fun q => hn (Nat.lt_trans h q)
    rw [pp_ge hn, pp_ge hm] at hl ⊢
    rw [List.reverse_cons, List.reverse_cons]
    have hl' := Nat.succ.inj hl
    exact ord_app (by rw [List.length_reverse, List.length_reverse]; exact hl') (b128_ord _ (Nat.sub_lt_sub_right (Nat.not_lt.mp hn) h) hl')
theorem pp_head_ne {bits n : Nat} (hb : bits ≤ 8) (hn : n < 2 ^ bits - 1) {a b : List UInt8} : UInt8.ofNat n :: a ≠ UInt8.ofNat (2 ^ bits - 1) :: b := fun h => by
  have hp := most_lt hb
  have := congrArg UInt8.toNat (List.cons.inj h).1
  rw [u1 (Nat.lt_trans hn hp), u1 hp] at this
  exact Nat.ne_of_lt hn this
theorem pp_begins {bits n m : Nat} (hb : bits ≤ 8) (hb1 : 1 ≤ bits) (hne : pp bits n ≠ pp bits m) : (pp bits m).take (pp bits n).length ≠ pp bits n := by
  intro h
  apply hne
  by_cases hn : n < 2 ^ bits - 1
  · rw [pp_lt hn] at h ⊢
    by_cases hm : m < 2 ^ bits - 1
    · rw [pp_lt hm] at h ⊢
      exact h.symm
    · rw [pp_ge hm] at h
      exact absurd h.symm (pp_head_ne hb hn)
  · rw [pp_ge hn] at h ⊢
    by_cases hm : m < 2 ^ bits - 1
    · rw [pp_lt hm] at h
      exact absurd h (pp_head_ne hb hm)
    · rw [pp_ge hm] at h ⊢
      rw [b128_begins _ (List.cons.inj h).2]
/-- how many numbers have one octet, two, three -/
theorem pp_counts {bits : Nat} (hb : bits ≤ 8) (hb1 : 1 ≤ bits) : ([0, 2 ^ bits - 1 - 1, 2 ^ bits - 1, 2 ^ bits - 1 + 127, 2 ^ bits - 1 + 128, 2 ^ bits - 1 + 16383, 2 ^ bits - 1 + 16384].map fun n => (pp bits n).length) = [1, 1, 2, 2, 3, 3, 4] := by
  have h2 : 2 ≤ 2 ^ bits := by
    have := Nat.pow_le_pow_right (n := 2) (by decide) hb1
    omega
  have small : ∀ n, n < 2 ^ bits - 1 → (pp bits n).length = 1 := fun n h => by unfold pp; rw [if_pos h]; rfl
  have big : ∀ k, (pp bits (2 ^ bits - 1 + k)).length = (b128 k).length + 1 := fun k => by
    unfold pp
    rw [if_neg (by omega), Nat.add_sub_cancel_left]
    rfl
  have b0 := big 0
  rw [Nat.add_zero] at b0
  simp only [List.map_cons, List.map_nil, small 0 (by omega), small (2 ^ bits - 1 - 1) (by omega), b0, big]
  rw [b128_lt (m := 0) (by decide), b128_lt (m := 127) (by decide), b128_ge (m := 128) (by decide), b128_lt (m := 128 / 128) (by decide), b128_ge (m := 16383) (by decide), b128_lt (m := 16383 / 128) (by decide), b128_ge (m := 16384) (by decide), b128_ge (m := 16384 / 128) (by decide), b128_lt (m := 16384 / 128 / 128) (by decide)]
  rfl
end Mine
end

section
open PySem PySem.W PySem.Calls PyProof.Rows
open PySem.Sem (wp)
set_option maxRecDepth 100000
namespace Mine
section
variable {prog : Program} {w : World} {A : Around} {E : Value → Shared → Prop} {env : Env} {r : Rest} {h h₀ base : Heap} {outer : List Env} {L : Addr} {m mg mb : Str → Option Value} {news : List (Addr × Obj)} {tk : Nat} {P : Params}

/-- a global whose value the text gives -/
theorem Ev.globV {M : Model} {K : Frag} {x : Str} {pos : Pos} {v : Value} {P : Value → Prop} (S : SB K mg mb h) (e : mg x = some v) (hp : P v) (hg : env.globals = mainGlobals := by rfl)
    (hk : env.scope.kind = .function := by rfl) (hx : env.kindOf x = some .globalImplicit := by rfl) (hd : (x == ("__debug__" : Str)) = false := by decide) :
    Ev M A env r h (.Name x pos) P := fun _ _ tk hq => by
  refine lift (Calls.Name_function_global (s := r.at h tk) hk hx (Calls.loadGlobal_global (by rw [hg]; exact S.g) e (hq v tk hp)) hd)
theorem Et.true {pos : Pos} {k : Nat} : Et (model prog w) A env r h (.Constant (.bool true) k pos) Bool.true := fun E Q tk hq => by
  show wpG (model prog w) A (eval (.Constant (.bool Bool.true) k pos) env >>= truthy) Q E (r.at h tk)
  refine g_bind (g_pure (lift (wpAny_truthy_bool (hq _))))
theorem nat_shl (a k : Nat) : ((a : Int) * 2 ^ k) = ((a * 2 ^ k : Nat) : Int) := by rw [nat_two]; exact (Int.natCast_mul _ _).symm

theorem b128_head {q : Nat} : ∃ c rest, b128 q = c :: rest ∧ c.toNat % 128 = q % 128 ∧ (c.toNat < 128 → q < 128 ∧ rest = []) ∧ (¬ c.toNat < 128 → 128 ≤ q ∧ rest = b128 (q / 128)) := by
  by_cases h : q < 128
  · exact ⟨_, _, b128_lt h, by rw [u128 h], fun _ => ⟨h, rfl⟩, fun n => absurd ((u128 h).symm ▸ h) n⟩
  · exact ⟨_, _, b128_ge h, by rw [u2, Nat.add_mod_left, Nat.mod_mod], fun n => absurd (u2 ▸ n) (Nat.not_lt.mpr (Nat.le_add_right _ _)), fun _ => ⟨Nat.not_lt.mp h, rfl⟩⟩
theorem pp_head {bits n : Nat} (hb : bits ≤ 8) : ∃ c0 rest, pp bits n = c0 :: rest ∧ c0.toNat ≤ 2 ^ bits - 1 ∧ (c0.toNat < 2 ^ bits - 1 → c0.toNat = n ∧ rest = []) ∧ (¬ c0.toNat < 2 ^ bits - 1 → c0.toNat = 2 ^ bits - 1 ∧ 2 ^ bits - 1 ≤ n ∧ rest = b128 (n - (2 ^ bits - 1))) := by
  by_cases h : n < 2 ^ bits - 1
  · have e := u1 (Nat.lt_trans h (most_lt hb))
    exact ⟨_, _, pp_lt h, e.symm ▸ Nat.le_of_lt h, fun _ => ⟨e, rfl⟩, fun n => absurd (e.symm ▸ h) n⟩
  · have e := u1 (most_lt hb)
    exact ⟨_, _, pp_ge h, Nat.le_of_eq e, fun q => absurd (e ▸ q) (Nat.lt_irrefl _), fun _ => ⟨e, Nat.not_lt.mp h, rfl⟩⟩
theorem gp_sh {fd q sh n : Nat} (hsum : fd + q * 2 ^ sh = n) (hn : n < 2 ^ 62) (hq0 : q = 0 → sh = 0) : sh < 62 := by
  rcases Nat.lt_or_ge sh 62 with h | h
  · exact h
  · rcases Nat.eq_zero_or_pos q with q0 | q0
    · rw [hq0 q0]; decide
    · exact absurd (hsum ▸ hn) (Nat.not_lt.mpr (Nat.le_trans (Nat.pow_le_pow_right (by decide) h) (Nat.le_trans (Nat.le_mul_of_pos_left _ q0) (Nat.le_add_left _ _))))
theorem gp_part {fd q sh n : Nat} (hsum : fd + q * 2 ^ sh = n) : fd + q % 128 * 2 ^ sh ≤ n := hsum ▸ Nat.add_le_add_left (Nat.mul_le_mul_right _ (Nat.mod_le _ _)) _
theorem gp_gt {x n : Nat} (h : x ≤ n) (hn : n < 2 ^ 62) : ¬ ((x : Int) > 2 ^ 62 - 1) := by omega
theorem gp_gt62 {x : Nat} (h : x < 62) : ¬ ((x : Int) > 62) := by omega
theorem drop_cons_lt {α : Type} {l r : List α} {c : α} {k : Nat} (h : l.drop k = c :: r) : k < l.length := by
  rcases Nat.lt_or_ge k l.length with q | q
  · exact q
  · rw [List.drop_of_length_le q] at h; cases h
theorem drop_one {α : Type} {l : List α} {c : α} {k : Nat} (h : l.drop k = [c]) : k + 1 = l.length := by
  have := congrArg List.length h
  rw [List.length_drop, List.length_singleton] at this
  omega
theorem drop_at {α : Type} {l r : List α} {c : α} {k : Nat} (h : l.drop k = c :: r) : l.toArray[k]? = some c := by
  have e : l[k]? = (l.drop k)[0]? := by rw [List.getElem?_drop]; rfl
  rw [List.getElem?_toArray, e, h]
  rfl
theorem gp_sum {fd q sh n : Nat} (hsum : fd + q * 2 ^ sh = n) : fd + q % 128 * 2 ^ sh + q / 128 * 2 ^ (sh + 7) = n := by
  have e := Nat.div_add_mod q 128
  rw [← hsum, Nat.pow_add]
  generalize q / 128 = u at e ⊢
  generalize q % 128 = v at e ⊢
  rw [← e, Nat.add_mul, show (2 : Nat) ^ 7 = 128 by rfl, Nat.mul_comm 128 u, Nat.mul_assoc, Nat.mul_comm (2 ^ sh) 128, Nat.add_assoc, Nat.add_comm (v * 2 ^ sh)]
/-- what the loop of get_prefix keeps -/
structure GPInv (h : Heap) (L : Addr) (l : List UInt8) (tr : Tok) (n q : Nat) (h' : Heap) (m' : Str → Option Value) (t1 t2 t3 : Tok) (fd sh at_ : Nat) : Prop where
  F : Fm h L m' [] h'
  hd : m' (Str.ofString "data") = some (.bytes l.toArray tr)
  hf : m' (Str.ofString "found") = some (.int (fd : Nat) t1)
  hs : m' (Str.ofString "shift") = some (.int (sh : Nat) t2)
  ha : m' (Str.ofString "at") = some (.int (at_ : Nat) t3)
  hdr : l.drop at_ = b128 q
  hsum : fd + q * 2 ^ sh = n
  hq0 : q = 0 → sh = 0
set_option maxHeartbeats 4000000 in
theorem get_prefix_g {n bits : Nat} {tr ta tb tg : Tok} {Q : Value → Shared → Prop} (R : Room A 3) (S : SB (KF P) mg mb h) (hG : mg (Str.ofString "GREATEST") = some (.int (2 ^ 62 - 1) tg)) (hb1 : 1 ≤ bits) (hb : bits ≤ 8) (hn : n < 2 ^ 62)
    (k : ∀ a t1 t2 h' tk', Kp h h' → h.get? a = none → h'.get? a = some (tobj [.int n t1, .int ((pp bits n).length : Nat) t2]) → Q (.ref a) (r.at h' tk')) :
    wpG (model prog w) A (call (.ref 124) [.bytes (pp bits n).toArray tr, .int 0 ta, .int bits tb]) Q E (r.at h tk) := by
  obtain ⟨c0, rest, hpp, hle0, hlo0, hhi0⟩ := pp_head (n := n) hb
  have hzz : (pp bits n).length < 1000000 := Nat.lt_of_le_of_lt (pp_len (Nat.lt_trans hn (by decide))) (by decide)
  have hb63 : (bits : Int) < 63 := by omega
  generalize pp bits n = l at hpp hzz k ⊢
  have hmask : c0.toNat % 2 ^ bits = c0.toNat := Nat.mod_eq_of_lt (Nat.lt_of_le_of_lt hle0 (Nat.sub_lt (Nat.pow_pos (by decide)) (by decide)))
  have h0c : l.toArray[0]? = some c0 := by rw [hpp]; rfl
  refine call_g1 (binds := [(Str.ofString "data", .bytes (l).toArray tr), (Str.ofString "at", .int 0 ta), (Str.ofString "bits", .int bits tb)]) S ⟨⟨_, _, _, rfl⟩, by kernel_rfl, rfl, rfl, rfl, rfl⟩ R (fun s => BindsTo.of_eq rfl) (by decide) (locs rfl) fun L A1 Post h₁ tk₁ hA R1 hret hLe F1 => ?_
  have S1 : SB (KF P) mg mb h₁ := S.keeps F1.kp
  refine x_IfE (b := decide ((0 : Int) ≥ (l.toArray.size : Int))) (Et.cmp (Ev.loc F1 rfl ⟨ta, rfl⟩) (Ev.lenB (Ev.blt S1 (n_len P) boot_len rfl) (Ev.loc F1 rfl (rfl : _ = Value.bytes l.toArray tr)) hzz) CmpI.ge) (fun hc => (ge_dec (a := 0) hc (hpp ▸ Nat.succ_pos _)).elim) ?_
  intro _ tk2
  refine x_nil ?_
  refine x_Let (P := IsI (2 ^ bits - 1 : Nat)) F1 (Ev.bin (Ev.bin Ev.int (Ev.loc F1 rfl ⟨tb, rfl⟩) (OpI.shl (by lia) (by lia) (by decide))) Ev.int (OpI.eq OpI.sub (by rw [two_pow_sub, Int.toNat_natCast]))) fun v h2 tk2 ⟨t2, hv2⟩ kb2 F2 => ?_
  subst hv2
  refine x_SwapK (P1 := fun v _ => IsI (c0.toNat : Nat) v) (P2 := fun v _ => IsI (0 : Nat) v) R1.hand F2 (Ev.ek (Ev.bin (Ev.itemB (i := 0) (Ev.loc F2 rfl (rfl : _ = Value.bytes l.toArray tr)) (Ev.loc F2 rfl ⟨ta, rfl⟩) hzz h0c) (Ev.loc F2 rfl ⟨t2, rfl⟩) (OpI.eq OpI.and (by rw [bitAnd_mask, hmask])))) (fun v h' kp hv => Ev.ek Ev.int) ?_
  rintro _ _ _ h3 h4 tk4 ⟨t3, rfl⟩ ⟨t4, rfl⟩ kp3 _ kb4 F4
  refine x_Let (P := IsI (1 : Nat)) F4 (Ev.bin (Ev.loc F4 rfl ⟨ta, rfl⟩) Ev.int (OpI.eq OpI.add (by decide))) fun v h5 tk5 ⟨t5, hv5⟩ kb5 F5 => ?_
  subst hv5
  refine x_IfE (Et.cmp (Ev.loc F5 rfl ⟨t3, rfl⟩) (Ev.loc F5 rfl ⟨t2, rfl⟩) CmpI.lt) ?_ ?_
  · intro hc tk6
    have hc0 := hlo0 (lt_dec hc)
    refine x_RetPair (P1 := fun v => v = .int (c0.toNat : Nat) t3) (P2 := fun v => v = .int (1 : Nat) t5) (Ev.loc F5 rfl rfl) (Ev.loc F5 rfl rfl) ?_
    rintro a _ _ h' tk' ha ha' rfl rfl kp
    refine hret _ _ (k a t3 t5 h' tk' (F5.kp.trans kp) (F5.kp.none' ha) ?_)
    rw [hpp, ← hc0.1, hc0.2]
    exact ha'
  · intro hc tk6
    have hc0 := hhi0 (nlt_dec hc)
    clear hlo0 hhi0 hc
    refine x_nil (x_While ?_)
    refine codeG_whileP (fun q s => ∃ h' tk' m' t1 t2' t3', ∃ fd sh at_ : Nat, s = r.at h' tk' ∧ GPInv h L l tr n q h' m' t1 t2' t3' fd sh at_) ?_ (n - (2 ^ bits - 1)) _
      ⟨h5, tk6, _, t3, t4, t5, c0.toNat, 0, 1, rfl, F5, rfl, rfl, rfl, rfl, by rw [hpp, hc0.2.2]; rfl, by rw [hc0.1, Nat.pow_zero, Nat.mul_one]; exact Nat.add_sub_cancel' hc0.2.1, fun _ => rfl⟩
    clear hc0 F5 F4 F2 F1 hmask h0c hpp hle0
    rintro q _ Post2 hnx hrt ⟨h6, tk7, m6, t6, t7, t8, fd, sh, at_, rfl, V⟩
    have F6 := V.F
    have hd := V.hd
    have hf := V.hf
    have hs := V.hs
    have ha := V.ha
    have hdr := V.hdr
    have hsum := V.hsum
    have hsh := gp_sh hsum hn V.hq0
    clear V
    have S6 : SB (KF P) mg mb h6 := S.keeps F6.kp
    refine shut fun X0 hX0 => ?_
    obtain ⟨c, rest', hb, hcm, hlt, hge'⟩ := b128_head (q := q)
    refine hX0 ?_
    clear hX0
    rw [hb] at hdr
    have hat := drop_cons_lt hdr
    have hcat := drop_at hdr
    have hpart := gp_part hsum
    refine Et.run Et.true fun tk8 => ?_
    rw [if_pos rfl]
    refine x_IfE (b := decide ((at_ : Int) ≥ (l.toArray.size : Int))) (Et.cmp (Ev.loc F6 ha ⟨t8, rfl⟩) (Ev.lenB (Ev.blt S6 (n_len P) boot_len rfl) (Ev.loc F6 hd (rfl : _ = Value.bytes l.toArray tr)) hzz) CmpI.ge) (fun hc => (ge_dec hc hat).elim) ?_
    intro _ tk9
    refine x_nil ?_
    have e1 : Builtin.bitAnd ((c.toNat : Nat) : Int) 127 = ((q % 128 : Nat) : Int) := by
      rw [show (127 : Int) = ((2 ^ 7 - 1 : Nat) : Int) by rfl, bitAnd_mask, ← hcm]
    have e2 : ((q % 128 : Nat) : Int) * 2 ^ ((sh : Nat) : Int).toNat = ((q % 128 * 2 ^ sh : Nat) : Int) := by
      rw [Int.toNat_natCast, nat_shl]
    refine x_Let (P := IsI (fd + q % 128 * 2 ^ sh : Nat)) F6 (Ev.bin (Ev.loc F6 hf ⟨t6, rfl⟩) (Ev.bin (Ev.bin (Ev.itemB (Ev.loc F6 hd (rfl : _ = Value.bytes l.toArray tr)) (Ev.loc F6 ha ⟨t8, rfl⟩) hzz hcat) Ev.int (OpI.eq OpI.and e1)) (Ev.loc F6 hs ⟨t7, rfl⟩) (OpI.eq (OpI.shl (by lia) (by lia) (by lia)) e2)) (OpI.eq OpI.add (Int.natCast_add _ _).symm)) fun v h7 tk7 ⟨t9, hv9⟩ kb7 F7 => ?_
    subst hv9
    have S7 : SB (KF P) mg mb h7 := S.keeps F7.kp
    have hs7 := (upd_ne (m := m6) (x := Str.ofString "found") (v := .int (fd + q % 128 * 2 ^ sh : Nat) t9) (y := Str.ofString "shift") (by decide)).trans hs
    refine x_IfE (b := (decide (((fd + q % 128 * 2 ^ sh : Nat) : Int) > 2 ^ 62 - 1) || decide ((sh : Int) > 62))) (Et.or2 (Et.cmp (Ev.loc F7 rfl ⟨t9, rfl⟩) (Ev.globV S7 hG ⟨tg, rfl⟩) CmpI.gt) fun _ => Et.cmp (Ev.loc F7 hs7 ⟨t7, rfl⟩) Ev.int CmpI.gt) ?_ ?_
    · intro hc
      rw [decide_eq_false (gp_gt hpart hn), decide_eq_false (gp_gt62 hsh)] at hc
      cases hc
    intro _ tk10
    refine x_nil ?_
    refine x_SwapK (P1 := fun v _ => IsI (at_ + 1 : Nat) v) (P2 := fun v _ => IsI (sh + 7 : Nat) v) R1.hand F7 (Ev.ek (Ev.bin (Ev.loc F7 ((upd_ne (by decide)).trans ha) ⟨t8, rfl⟩) Ev.int (OpI.eq OpI.add (Int.natCast_add _ _).symm))) (fun v h' kp hv => Ev.ek (Ev.bin (Ev.loc (F7.kept kp) hs7 ⟨t7, rfl⟩) Ev.int (OpI.eq OpI.add (Int.natCast_add _ _).symm))) ?_
    rintro _ _ _ h8 h9 tk11 ⟨t10, rfl⟩ ⟨t11, rfl⟩ kp8 _ kb9 F9
    have e3 : ((at_ + 1 : Nat) : Int) - 1 = ((at_ : Nat) : Int) := by rw [Int.natCast_add]; exact Int.add_sub_cancel _ _
    have hd9 := ((upd_ne (by decide)).trans ((upd_ne (by decide)).trans ((upd_ne (by decide)).trans hd)) : (upd (upd (upd m6 (Str.ofString "found") (.int (fd + q % 128 * 2 ^ sh : Nat) t9)) (Str.ofString "at") (.int (at_ + 1 : Nat) t10)) (Str.ofString "shift") (.int (sh + 7 : Nat) t11)) (Str.ofString "data") = _)
    refine x_IfE (Et.cmp (Ev.itemB (Ev.loc F9 hd9 (rfl : _ = Value.bytes l.toArray tr)) (Ev.bin (Ev.loc F9 rfl ⟨t10, rfl⟩) Ev.int (OpI.eq OpI.sub e3)) hzz hcat) Ev.int CmpI.lt) ?_ ?_
    · intro hc tk12
      have hq := hlt (lt_dec (b := 128) hc)
      rw [hq.2] at hdr
      have hlen := drop_one hdr
      have hval : fd + q % 128 * 2 ^ sh = n := by rw [Nat.mod_eq_of_lt hq.1]; exact hsum
      refine x_RetPair (P1 := fun v => v = .int (fd + q % 128 * 2 ^ sh : Nat) t9) (P2 := fun v => v = .int (at_ + 1 : Nat) t10) (Ev.loc F9 rfl rfl) (Ev.loc F9 rfl rfl) ?_
      rintro a _ _ h' tk' hna ha' rfl rfl kp
      refine hrt _ _ (hret _ _ (k a t9 t10 h' tk' (F9.kp.trans kp) (F9.kp.none' hna) ?_))
      rw [hlen, hval] at ha'
      exact ha'
    · intro hc tk12
      have hq := hge' (nlt_dec (b := 128) hc)
      have h128 : q / 128 < q := Nat.div_lt_self (Nat.lt_of_lt_of_le (by decide) hq.1) (by decide)
      refine x_nil (x_nil (hnx (q / 128) _ h128 ⟨h9, tk12, _, t9, t11, t10, fd + q % 128 * 2 ^ sh, sh + 7, at_ + 1, rfl, F9, hd9, rfl, rfl, rfl, ?_, gp_sum hsum, fun q0 => absurd q0 (Nat.ne_of_gt (Nat.div_pos hq.1 (by decide)))⟩))
      rw [← List.drop_drop, hdr, hq.2]
      rfl
end
end Mine
end

section
open PySem PySem.W PySem.Calls PyProof.Rows
open PySem.Sem (wp)
set_option maxRecDepth 100000
namespace Mine
inductive NC : List Expr → Prop
  | nil : NC []
  | cons {n a : Nat} {b : Pos} {es : List Expr} : NC es → NC (.Constant (.int (Int.ofNat n)) a b :: es)
section
variable {prog : Program} {w : World} {A : Around} {E : Value → Shared → Prop} {env : Env} {r : Rest} {h h₀ base : Heap} {outer : List Env} {L : Addr} {m mg mb : Str → Option Value} {news : List (Addr × Obj)} {tk : Nat} {P : Params}

theorem Evs.consts {M : Model} {es : List Expr} (x : NC es) : Evs M A env r h es (fun vs => vs.length = es.length ∧ ∀ v ∈ vs, ∃ k : Nat, IsI k v) := by
  induction x with
  | nil => exact fun E Q pos tk hq => g_spliced_none (hq [] tk ⟨rfl, fun v hv => nomatch hv⟩)
  | cons _ ih =>
    exact fun E Q pos tk hq => g_spliced (Ev.int _ _ _ fun v tk1 hv => ih _ _ _ _ fun vs tk2 q => hq _ _ ⟨congrArg (· + 1) q.1, fun v' hv' => by
      cases hv' with
      | head => exact ⟨_, hv⟩
      | tail _ hv' => exact q.2 _ hv'⟩) rfl
theorem Evs.eks {M : Model} {es : List Expr} {P : List Value → Prop} (x : Evs M A env r h es P) : Eks M A env r h es (fun vs _ => P vs) := fun E Q pos tk hq => x E Q pos tk fun vs tk' hvs => hq vs h tk' (Kp.refl h) hvs

/-- an item of a new tuple -/
theorem Ek.itemN {value slice : Expr} {pos : Pos} {i : Nat} {Pt : Value → Heap → Prop} {Pv : Value → Prop} (ev : Ek (model prog w) A env r h value Pt) (ei : ∀ h', Kp h h' → Ev (model prog w) A env r h' slice (IsI i)) (hi : i < 100000)
    (hp : ∀ v h', Pt v h' → ∃ a items x, v = .ref a ∧ IsTup h' a items ∧ items[i]? = some x ∧ Pv x)
    (hs : ∀ a u, subscripted slice false (.ref a) (.int i u) = operate [.ref a, .int i u] (getItem (.ref a) (.int i u)) := by intro _ _; with_unfolding_all rfl) :
    Ek (model prog w) A env r h (.Subscript value slice pos) (fun v _ => Pv v) := fun E Q tk hq => by
  refine g_Subscript (ev _ _ _ fun v h1 tk1 kp hv => ei h1 kp _ _ _ fun v2 tk2 ⟨u, hv2⟩ => ?_)
  subst hv2
  obtain ⟨a, items, x, rfl, ht, hx, hpx⟩ := hp v h1 hv
  have hlt := (Array.getElem?_eq_some_iff.mp hx).1
  refine g_item (s := r.at h1 tk2) ht.typeIs slot_tuple_getitem.lookup (getItem_tuple (j := i) ht (by lia) (by lia) (seqIxN hlt) hx (hq _ _ _ kp hpx)) (hs a u)
/-- an item of a list -/
theorem Ev.itemL {value slice : Expr} {pos : Pos} {a : Addr} {items : Array Value} {i : Nat} {x : Value} {Pv : Value → Prop} (ev : Ev (model prog w) A env r h value (· = .ref a)) (ei : Ev (model prog w) A env r h slice (IsI i)) (ht : h.IsList a items) (hi : i < 1000000)
    (hx : items[i]? = some x) (hp : Pv x)
    (hs : ∀ u, subscripted slice false (.ref a) (.int i u) = operate [.ref a, .int i u] (getItem (.ref a) (.int i u)) := by intro _; with_unfolding_all rfl) :
    Ev (model prog w) A env r h (.Subscript value slice pos) Pv := fun E Q tk hq => by
  refine g_Subscript (ev _ _ _ fun v tk1 hv => ei _ _ _ fun v2 tk2 ⟨u, hv2⟩ => ?_)
  subst hv hv2
  refine g_item (s := r.at h tk2) ht.typeIs slot_list_getitem.lookup (wpAny_getItem_list ht (by lia) (by lia) (by rw [Int.toNat_natCast]; exact hx) (hq _ _ hp)) (hs u)
theorem Ev.lenL {p pos : Pos} {e : Expr} {a : Addr} {items : Array Value} (ef : Ev (model prog w) A env r h (.Name (Str.ofString "len") p) (· = .builtin "len")) (x : Ev (model prog w) A env r h e (· = .ref a)) (hl : h.IsList a items) (hz : items.size < 1000000)
    (he : starEach [e] env = (false, eval e env) :: starEach [] env := by rfl) : Ev (model prog w) A env r h (.Call (.Name (Str.ofString "len") p) [e] [] pos) (IsI items.size) :=
  Ev.call1 ef looks_blt x (fun v E Q tk hv hq => by subst hv; exact lift (call_len_list (s := r.at h tk) hl (by lia) (hq _ _ ⟨_, rfl⟩))) (.inr rfl) he

theorem boot_abs : bootBuiltins "abs" = some (.builtin "abs") := by decide +kernel
theorem n_abs (P : Params) : nsIn (KF P) mainGlobals (Str.ofString "abs") = some none := by kernel_rfl
theorem Kp.hide (h : Heap) (p : Addr) : Kp (h.hide p) h := fun _ _ e => Heap.of_hide e
theorem islist_keep {h h' : Heap} {a : Addr} {items : Array Value} (x : h.IsList a items) (k : ∀ o, h.get? a = some o → h'.get? a = some o) : h'.IsList a items := let ⟨o, ho, r⟩ := x; ⟨o, k o ho, r⟩

/-- the pool of draws -/
structure Pool (h : Heap) (p c : Addr) (s : Nat) (ks : Array Value) : Prop where
  list : ∃ t, h.IsList p #[.ref c, .int s t]
  cells : h.IsList c ks
  ne : c ≠ p
  nums : ∀ v ∈ ks, ∃ i t, v = .int i t
  few : ks.size ≤ 100
theorem Pool.keep {h h' : Heap} {p c : Addr} {s : Nat} {ks : Array Value} (x : Pool h p c s ks) (k : ∀ b o, b = p ∨ b = c → h.get? b = some o → h'.get? b = some o) : Pool h' p c s ks :=
  ⟨let ⟨t, y⟩ := x.list; ⟨t, islist_keep y fun o e => k _ _ (.inl rfl) e⟩, islist_keep x.cells fun o e => k _ _ (.inr rfl) e, x.ne, x.nums, x.few⟩
theorem list_not_ns {h : Heap} {L a : Addr} {m : Str → Option Value} {items : Array Value} (hn : h.Ns L m) (ha : h.IsList a items) : a ≠ L := by
  rintro rfl
  refine shut fun X0 hX0 => ?_
  obtain ⟨o, es, ep, e1, e2, _⟩ := hn
  refine hX0 ?_
  clear hX0
  refine shut fun X0 hX0 => ?_
  obtain ⟨o', e3, e4, n, e5⟩ := ha
  refine hX0 ?_
  clear hX0
  rw [e1] at e3
  cases e3
  rw [e2] at e5
  cases e5
theorem Pool.keepB {h h' : Heap} {L p c : Addr} {m : Str → Option Value} {s : Nat} {ks : Array Value} (x : Pool h p c s ks) (hn : h.Ns L m) (k : KpB [L] h h') : Pool h' p c s ks :=
  x.keep fun b o hb e => k b o (by
    simp only [List.mem_singleton]
    rcases hb with rfl | rfl
    · obtain ⟨t, y⟩ := x.list; exact list_not_ns hn y
    · exact list_not_ns hn x.cells) e

set_option maxHeartbeats 400000 in
theorem law_draw_g {p c : Addr} {s many : Nat} {ks : Array Value} {tm : Tok} {Q : Value → Shared → Prop} (R : Room A 2) (S : SB (KF P) mg mb (h.hide p)) (hP : Pool h p c s ks) (hs : s < 10000) (hm : 0 < many) (hm2 : many < 100000)
    (k : ∀ (q : Nat) t h' tk', q < many → Kp (h.hide p) h' → Pool h' p c (s + 1) ks → Q (.int q t) (r.at h' tk')) : wpG (model prog w) A (call (.ref 131) [.ref p, .int many tm]) Q E (r.at h tk) := by
  have Sh := S.keeps (Kp.hide h p)
  refine call_g0 (binds := [(Str.ofString "pool", .ref p), (Str.ofString "many", .int many tm)]) Sh ⟨⟨_, _, _, rfl⟩, by kernel_rfl, rfl, rfl, rfl, rfl⟩ R.dep (fun s => BindsTo.of_eq rfl) (by decide) (locs rfl) fun h₁ tk₁ hns hk => ?_
  have S1 := Sh.keeps hk
  have F1 : Fm (h.hide p) h.objs.size _ [] h₁ := ⟨⟨hns, (Kp.hide h p).trans hk, by rw [Heap.hide_size]; exact Nat.le_refl _⟩, News.nil⟩
  have P1 : Pool h₁ p c s ks := hP.keep fun b o _ e => hk b o e
  obtain ⟨ts, hl1⟩ := P1.list
  refine x_Let F1 (Ev.itemL (i := 1) (Ev.loc F1 rfl (rfl : _ = Value.ref p)) Ev.int hl1 (by decide) rfl (rfl : _ = Value.int s ts)) fun v h2 tk2 hv kb2 F2 => ?_
  subst hv
  have P2 := P1.keepB F1.F.ns kb2
  obtain ⟨ts2, hl2⟩ := P2.list
  refine x_AssignSubE (Ev.bin (Ev.loc F2 rfl ⟨ts, rfl⟩) Ev.int (OpI.eq OpI.add (show _ = ((s + 1 : Nat) : Int) by lia))) (Ev.loc F2 rfl (rfl : _ = Value.ref p)) (Ev.int (i := 1)) ?_
  rintro _ _ _ tk3 ⟨t3, rfl⟩ rfl ⟨t4, rfl⟩
  refine lift (wpAny_setItem_list (s := r.at h2 tk3) hl2 (by decide) (by decide) (by show (1 : Int) < 2; decide) fun h3 hl3 sb3 => ?_)
  have hpL : p ≠ h.objs.size := list_not_ns F2.F.ns hl2
  have hcL : c ≠ h.objs.size := list_not_ns F2.F.ns P2.cells
  have kb3 : KpB [p] h2 h3 := fun b o hb e => (sb3.2 b (by simpa using hb)).trans e
  have F3 : Fm (h.hide p) h.objs.size _ [] h3 := F2.but kb3 (by simpa using Ne.symm hpL) (by simpa using Heap.hide_self h p) (by simp)
  have S3 : SB (KF P) mg mb h3 := S.keeps F3.kp
  have hc3 : h3.IsList c ks := islist_keep P2.cells fun o e => kb3 _ _ (nm (P2.ne)) e
  have P3 : Pool h3 p c (s + 1) ks := ⟨⟨t3, hl3⟩, hc3, P2.ne, P2.nums, P2.few⟩
  refine x_IfE (Et.cmp (Ev.loc F3 rfl ⟨ts, rfl⟩) (Ev.lenL (Ev.blt S3 (n_len P) boot_len rfl) (Ev.itemL (i := 0) (Ev.loc F3 rfl (rfl : _ = Value.ref p)) Ev.int hl3 (by decide) rfl (rfl : _ = Value.ref c)) hc3 (by have := P2.few; lia)) CmpI.lt) ?_ ?_
  · intro hc tk5
    simp only [decide_eq_true_eq] at hc
    obtain ⟨i, ti, hi⟩ := P2.nums _ (Array.getElem_mem (i := s) (by lia))
    refine x_RetP (P := IsI ((i.natAbs % many : Nat) : Int)) (Ev.bin (Ev.call1 (P' := IsI ((i.natAbs : Nat) : Int)) (Ev.blt S3 (n_abs P) boot_abs rfl) looks_blt (Ev.itemL (i := s) (Ev.itemL (i := 0) (Ev.loc F3 rfl (rfl : _ = Value.ref p)) Ev.int hl3 (by decide) rfl (rfl : _ = Value.ref c)) (Ev.loc F3 rfl ⟨ts, rfl⟩) (Pv := (· = .int i ti)) hc3 (by lia) (Array.getElem?_eq_getElem (by lia)) hi) fun v E Q tk hv hq => ?_) (Ev.loc F3 rfl ⟨tm, rfl⟩) (OpI.eq (OpI.mod (by lia)) (nat_fmod _ _))) fun v tk6 ⟨t6, hv⟩ => ?_
    · subst hv
      refine lift (call_abs_int (s := r.at h3 tk) fun u tk' => hq _ _ ⟨u, ?_⟩)
      congr 1
      split <;> lia
    · subst hv
      exact k _ t6 h3 tk6 (Nat.mod_lt _ hm) F3.kp P3
  · intro hc tk5
    refine x_nil ?_
    refine x_Return ?_
    refine Ek.run (P := fun v _ => ∃ q : Nat, q < many ∧ IsI (q : Nat) v) ?_ ?_
    · intro E Q tk hq
      refine g_BinOp ?_
      refine Ek.run (Ek.itemN (i := s % 16) (Pv := fun v => ∃ q : Nat, IsI (q : Nat) v) (Ek.tuple (Evs.consts (by repeat first | exact NC.nil | refine NC.cons ?_)).eks ?_) (fun h' kp => Ev.bin (Ev.loc (F3.kept kp) rfl ⟨ts, rfl⟩) Ev.int (OpI.eq (OpI.mod (by decide)) (nat_fmod s 16))) (by lia) ?_) ?_
      · rintro vs h' ⟨hl, _⟩
        rw [hl]
        decide
      · rintro v h' ⟨h1, vs, rfl, rfl, _, hl, hv⟩
        have hlen : vs.length = 16 := hl
        refine ⟨_, _, vs[s % 16]'(by lia), rfl, ⟨_, Heap.get?_push_size _ rfl, rfl, _, rfl⟩, ?_, hv _ (List.getElem_mem _)⟩
        simp
      · rintro v h4 tk6 kp4 ⟨q, tq, rfl⟩
        refine Ev.run (Ev.loc (F3.kept kp4) rfl (rfl : _ = Value.int many tm)) fun v tk7 hv => ?_
        subst hv
        refine OpI.eq (OpI.mod (by lia)) (nat_fmod q many) _ _ _ _ _ _ _ fun t' tk' => hq _ _ _ kp4 ⟨_, Nat.mod_lt _ hm, t', rfl⟩
    · rintro v h4 tk6 kp4 ⟨q, hq, t6, rfl⟩
      exact k q t6 h4 tk6 hq (F3.kp.trans kp4) (P3.keep fun b o _ e => kp4 b o e)
end
end Mine
end

section
open PySem PySem.W PySem.Calls PyProof.Rows
open PySem.Sem (wp)
set_option maxRecDepth 100000
namespace Mine
section
variable {prog : Program} {w : World} {A : Around} {E : Value → Shared → Prop} {env : Env} {r : Rest} {h h₀ base : Heap} {outer : List Env} {L : Addr} {m mg mb : Str → Option Value} {news : List (Addr × Obj)} {tk : Nat} {P : Params}

theorem x_Swap2X {x y : Str} {px py p pv pos : Pos} {k kv : Nat} {e1 e2 : Expr} {rest : List Stmt} {Q : Flow → Shared → Prop} (hh : A.handled = none)
    (ev : wpG (model prog w) A (eval (.Tuple [e1, e2] kv pv) env) (fun v s₁ => ∃ a v1 v2 h1 tk1, v = .ref a ∧ s₁ = r.at h1 tk1 ∧ h1.get? a = some { cls := .type "tuple", data := .seq #[v1, v2] } ∧ Fm h₀ L m news h1 ∧
      (∀ h' tk', KpB [L] h1 h' → Fm h₀ L (upd (upd m y v2) x v1) news h' → wpG (model prog w) A (execs rest env) Q E (r.at h' tk'))) E (r.at h tk)) (hL : env.locals = L := by rfl)
    (hk : env.scope.kind = .function := by rfl) (hl : env.kindOf x = some .local := by rfl) (hl2 : env.kindOf y = some .local := by rfl)
    (hs : swapsWithSole [.Tuple [.Name x px, .Name y py] k p] (.Tuple [e1, e2] kv pv) pos.line env = pure false := by rfl) (hw : swappedStores [.Tuple [.Name x px, .Name y py] k p] (.Tuple [e1, e2] kv pv) env = pure (some [x, y]) := by rfl) :
    wpG (model prog w) A (execs (.Assign [.Tuple [.Name x px, .Name y py] k p] (.Tuple [e1, e2] kv pv) pos :: rest) env) Q E (r.at h tk) := by
  refine x_cons ?_
  show wpG (model prog w) A (do
    standAt pos
    if ← swapsWithSole [.Tuple [.Name x px, .Name y py] k p] (.Tuple [e1, e2] kv pv) pos.line env then do
      evalThenUse (.Tuple [e1, e2] kv pv) env fun v => assignAll v ((assignEach [.Tuple [.Name x px, .Name y py] k p] env).map (·.2))
      pure .next
    else do
      let v ← eval (.Tuple [e1, e2] kv pv) env
      assignStores env v (← swappedStores [.Tuple [.Name x px, .Name y py] k p] (.Tuple [e1, e2] kv pv) env) ((assignEach [.Tuple [.Name x px, .Name y py] k p] env).map (·.2))) _ E _
  rw [hs, hw]
  refine g_bind (g_standAt (g_bind (g_pure ?_)))
  simp only [Bool.false_eq_true, if_false]
  refine g_bind (g_mono ev (fun v s₁ hv => g_bind (g_pure ?_)) fun _ _ x => x)
  obtain ⟨a, v1, v2, h1, tk1, rfl, rfl, ha, S, kk⟩ := hv
  show wpG (model prog w) A (do
    rule "assign.swapped-stores"
    let items ← unpackItems (.ref a) 2 none
    assignInOrder [fun v => bindName env y v, fun v => bindName env x v] items.reverse
    pure Flow.next) _ E _
  refine g_bind (g_rule (g_bind (lift (unpackItems_tuple (s := r.at h1 tk1) (items := #[v1, v2]) hh ⟨_, ha, rfl, _, rfl⟩ fun h2 he2 => ?_))))
  have kp2 : Kp h1 h2 := fun b o e => he2 b o (Nat.ne_of_lt (Heap.lt_size e)) e
  have S2 := S.kept kp2
  show wpG (model prog w) A (do assignInOrder [fun v => bindName env y v, fun v => bindName env x v] [v2, v1]; pure Flow.next) _ E (r.at h2 tk1)
  unfold assignInOrder assignInOrder assignInOrder
  refine g_bind (g_bind (g_holding (g_bindName (g_store S2 (fun h3 tk3 kb3 S3 => ?_) hL hk hl2))))
  refine g_bind (g_holding (g_bindName (g_store S3 (fun h4 tk4 kb4 S4 => ?_) hL hk hl)))
  refine g_pure (g_pure ?_)
  exact kk h4 tk4 (fun b o hb e => kb4 b o hb (kb3 b o hb (kp2 b o e))) S4

theorem g_Call1X {M : Model} {x : Str} {p pos : Pos} {e : Expr} {f : Value} {k : Keeper} {Q : Value → Shared → Prop} (ef : Ev M A env r h (.Name x p) (· = f))
    (c : ∀ tk', wpG M A (eval e env) (fun v s₁ => Looks M s₁.heap (keeperOf f) k ∧ wpG M A (call f [v]) Q E s₁) E (r.at h tk')) (hk : k = .frame ∨ k = .machine := by first | exact .inl rfl | exact .inr rfl)
    (he : starEach [e] env = (false, eval e env) :: starEach [] env := by rfl) :
    wpG M A (eval (.Call (.Name x p) [e] [] pos) env) Q E (r.at h tk) := by
  refine g_Call (ef _ _ _ fun v tk₁ hv => ?_)
  subst hv
  refine g_callWith hk (g_spliced (g_mono (c tk₁) (fun v s₁ h₁ => g_spliced_none h₁) fun _ _ x => x) he) he

theorem g_IfExp {M : Model} {test body orelse : Expr} {pos : Pos} {b : Bool} {Q : Value → Shared → Prop} (ev : Et M A env r h test b)
    (k1 : b = true → ∀ tk', wpG M A (eval body env) Q E (r.at h tk')) (k2 : b = false → ∀ tk', wpG M A (eval orelse env) Q E (r.at h tk')) : wpG M A (eval (.IfExp test body orelse pos) env) Q E (r.at h tk) := by
  rw [arm_eval_IfExp]
  refine g_bind (ev _ _ _ fun tk' => ?_)
  cases b with
  | true => exact k1 rfl tk'
  | false => exact k2 rfl tk'

theorem n_draw (P : Params) : nsIn (KF P) mainGlobals (Str.ofString "_law_draw") = some (some (.ref 131)) := by kernel_rfl
theorem kp_draw {M : Model} (S : SB (KF P) mg mb h) : Looks M h (keeperOf (.ref 131)) .frame := (Looks.ld (part := Option.none) (S.X 131 _ rfl)).andThen .now
theorem keeps_hide {p : Addr} (k : Kp h₀ h) (hp : h₀.get? p = none) : Kp h₀ (h.hide p) := fun b o e => (Heap.hide_ne _ (by rintro rfl; rw [hp] at e; cases e)).trans (k b o e)
theorem hide_kpb {p : Addr} {h' : Heap} (k : Kp (h.hide p) h') : KpB [p] h h' := fun b o hb e => k b o ((Heap.hide_ne _ (by simpa using hb)).trans e)

/-- one draw -/
theorem g_draw {p c : Addr} {s many : Nat} {ks : Array Value} {px ps pc pos : Pos} {kk : Nat} {Q : Value → Shared → Prop} (R : Room A 3) (S₀ : SB (KF P) mg mb h₀) (F : Fm h₀ L m [] h) (hp : h₀.get? p = none) (hP : Pool h p c s ks) (hs : s < 10000) (hm : 0 < many) (hm2 : many < 100000)
    (ef : Ev (model prog w) A env r h (.Name (Str.ofString "_law_draw") px) (· = .ref 131)) (ep : Ev (model prog w) A env r h (.Name (Str.ofString "pool") ps) (· = .ref p))
    (k : ∀ (q : Nat) t h' tk', q < many → KpB [p] h h' → Fm h₀ L m [] h' → Pool h' p c (s + 1) ks → Q (.int q t) (r.at h' tk'))
    (he : starEach [.Name (Str.ofString "pool") ps, .Constant (.int (many : Int)) kk pc] env = (false, eval (.Name (Str.ofString "pool") ps) env) :: starEach [.Constant (.int (many : Int)) kk pc] env := by rfl) (he2 : starEach [.Constant (.int (many : Int)) kk pc] env = (false, eval (.Constant (.int (many : Int)) kk pc) env) :: starEach [] env := by rfl) :
    wpG (model prog w) A (eval (.Call (.Name (Str.ofString "_law_draw") px) [.Name (Str.ofString "pool") ps, .Constant (.int (many : Int)) kk pc] [] pos) env) Q E (r.at h tk) := by
  have hpL : p ≠ L := by obtain ⟨t, y⟩ := hP.list; exact list_not_ns F.F.ns y
  refine g_Call2 ef (kp_draw (S₀.keeps F.kp)) ep Ev.int (fun v v2 tk' hv hv2 => ?_) (.inl rfl) he he2
  obtain ⟨t, rfl⟩ := hv2
  subst hv
  refine law_draw_g (R.le (by decide)) (S₀.keeps (keeps_hide F.kp hp)) hP hs hm hm2 fun q t h' tk' hq kp hP' => ?_
  exact k q t h' tk' hq (hide_kpb kp) (F.but1 (hide_kpb kp) (Ne.symm hpL) (hp)) hP'
end
end Mine
end

section
open PySem PySem.W PySem.Calls PyProof.Rows
open PySem.Sem (wp)
set_option maxRecDepth 100000
namespace Mine
/-- a list of numbers -/
noncomputable def NumList (h : Heap) (l : Addr) (ns : List Nat) : Prop := ∃ vs n, h.get? l = some (lobj vs n) ∧ All2 (fun v k => IsI ((k : Nat) : Int) v) vs ns
theorem NumList.keep {h h' : Heap} {l : Addr} {ns : List Nat} (x : NumList h l ns) (k : ∀ o, h.get? l = some o → h'.get? l = some o) : NumList h' l ns := let ⟨vs, n, a, b⟩ := x; ⟨vs, n, k _ a, b⟩
section
variable {prog : Program} {w : World} {A : Around} {E : Value → Shared → Prop} {env : Env} {r : Rest} {h h₀ base : Heap} {outer : List Env} {L : Addr} {m mg mb : Str → Option Value} {news : List (Addr × Obj)} {tk : Nat} {P : Params}
theorem boot_max : bootBuiltins "max" = some (.builtin "max") := by decide +kernel
theorem boot_min : bootBuiltins "min" = some (.builtin "min") := by decide +kernel
theorem n_max (P : Params) : nsIn (KF P) mainGlobals (Str.ofString "max") = some none := by kernel_rfl
theorem n_min (P : Params) : nsIn (KF P) mainGlobals (Str.ofString "min") = some none := by kernel_rfl
theorem small_up (n : Nat) (hn : n < 100000) : Builtin.Range.small 0 n 1 = true := small_one (by decide) (by decide) (by lia) (by lia)
theorem rangeSize_up (n : Nat) : Builtin.Range.rangeSize 0 n 1 = n := by rw [rangeSize_one]; split <;> lia

theorem Ek.max0 {p0 pc pos : Pos} {k0 : Nat} {e : Expr} {z : Int} (hh : A.handled = Option.none) (ef : Ev (model prog w) A env r h (.Name (Str.ofString "max") p0) (· = .builtin "max")) (ez : Ev (model prog w) A env r h e (IsI z))
    (he : starEach [.Constant (.int 0) k0 pc, e] env = (false, eval (.Constant (.int 0) k0 pc) env) :: starEach [e] env := by rfl) (he2 : starEach [e] env = (false, eval e env) :: starEach [] env := by rfl) :
    Ek (model prog w) A env r h (.Call (.Name (Str.ofString "max") p0) [.Constant (.int 0) k0 pc, e] [] pos) (fun v _ => ∃ k : Nat, IsI (k : Nat) v) := fun E Q tk hq => by
  refine g_Call2 ef looks_blt Ev.int ez (fun v v2 tk' hv hv2 => ?_) (.inr rfl) he he2
  obtain ⟨t, rfl⟩ := hv
  obtain ⟨t2, rfl⟩ := hv2
  refine lift (max_two_ints (s := r.at h tk') hh fun h' tk2 kp => hq _ h' tk2 kp ?_)
  split
  · exact ⟨z.toNat, t2, by congr 1; lia⟩
  · exact ⟨0, t, rfl⟩
theorem Ek.clamp {pm p0 pc pz p2 p3 p4 p5 p6 pos : Pos} {k0 k2 k3 k4 : Nat} {e : Expr} {z : Int} (hh : A.handled = Option.none) (ef : Ev (model prog w) A env r h (.Name (Str.ofString "min") pm) (· = .builtin "min")) (ef0 : Ev (model prog w) A env r h (.Name (Str.ofString "max") p0) (· = .builtin "max"))
    (ez : Ev (model prog w) A env r h e (IsI z))
    (he : starEach [.Constant (.int 0) k0 pc, e] env = (false, eval (.Constant (.int 0) k0 pc) env) :: starEach [e] env := by rfl) (he2 : starEach [e] env = (false, eval e env) :: starEach [] env := by rfl) :
    Ek (model prog w) A env r h (.Call (.Name (Str.ofString "min") pm) [.Call (.Name (Str.ofString "max") p0) [.Constant (.int 0) k0 pc, e] [] pz, .BinOp (.BinOp (.Constant (.int 2) k2 p2) .Pow (.Constant (.int 62) k3 p3) p4) .Sub (.Constant (.int 1) k4 p5) p6] [] pos)
      (fun v _ => ∃ k : Nat, k < 2 ^ 62 ∧ IsI (k : Nat) v) := fun E Q tk hq => by
  refine g_Call (ef.run fun v tk1 hv => ?_)
  subst hv
  refine g_callWith (.inr rfl) (g_spliced ((Ek.max0 hh ef0 ez he he2).run fun v h1 tk2 kp1 ⟨k1, t1, hv⟩ => g_spliced (Ev.run (Ev.bin (Ev.bin Ev.int Ev.int (OpI.eq (OpI.pow (by decide) (by decide) (by decide)) (show _ = (4611686018427387904 : Int) by decide))) Ev.int OpI.sub) fun v2 tk3 ⟨t2, hv2⟩ => g_spliced_none ⟨looks_blt, ?_⟩)))
  subst hv hv2
  refine lift (min_two_ints (s := r.at h1 tk3) hh fun h' tk4 kp => hq _ h' tk4 (kp1.trans kp) ?_)
  split
  · exact ⟨4611686018427387903, by decide, t2, rfl⟩
  · exact ⟨k1, by lia, t1, rfl⟩

/-- what the loop of _law_numbers keeps -/
structure LNInv (base : Heap) (L p c FF I : Addr) (ks : Array Value) (s n : Nat) (i : Nat) (h' : Heap) (m' : Str → Option Value) (ns : List Nat) (s' : Nat) : Prop where
  F : Fm base L m' [] h'
  hp : m' (Str.ofString "pool") = some (.ref p)
  hf : m' (Str.ofString "found") = some (.ref FF)
  it : IsRangeIter h' I (0 + (i : Nat) * 1) ((n : Int) - (i : Nat)) 1
  P : Pool h' p c s' ks
  hs : s' ≤ s + 1 + 4 * i
  N : NumList h' FF ns
  hl : ns.length = i
  h62 : ∀ k ∈ ns, k < 2 ^ 62
/-- a number before it is clamped -/
structure LNMid (base : Heap) (L p c : Addr) (m9 : Str → Option Value) (ks : Array Value) (s' : Nat) (h9 : Heap) (v : Value) (z : Int) (t : Tok) (h10 : Heap) (s2 : Nat) : Prop where
  e : v = .int z t
  kb : KpB [p] h9 h10
  F : Fm base L m9 [] h10
  P : Pool h10 p c s2 ks
  hs : s2 ≤ s' + 3
set_option maxHeartbeats 1000000 in
theorem law_numbers_g {p c : Addr} {s : Nat} {ks : Array Value} {Q : Value → Shared → Prop} (R : Room A 5) (S : SB (KF P) mg mb (h.hide p)) (hP : Pool h p c s ks) (hs : s < 1000)
    (k : ∀ F ns s' h' tk', s' < s + 100 → 4 ≤ ns.length → ns.length ≤ 6 → (∀ k ∈ ns, k < 2 ^ 62) → Kp (h.hide p) h' → Pool h' p c s' ks → NumList h' F ns → (h.hide p).get? F = none → F ≠ p → Q (.ref F) (r.at h' tk')) : wpG (model prog w) A (call (.ref 138) [.ref p]) Q E (r.at h tk) := by
  have Sh := S.keeps (Kp.hide h p)
  refine call_g1 (binds := [(Str.ofString "pool", .ref p)]) Sh ⟨⟨_, _, _, rfl⟩, by kernel_rfl, rfl, rfl, rfl, rfl⟩ R (fun s => BindsTo.of_eq rfl) (by decide) (locs rfl) fun L A1 Post h₁ tk₁ hA R1 hret hLe F1 => ?_
  clear hA
  have hbig : ∀ {b : Addr}, L < b → h.get? b = none := fun hlt => Heap.get?_none_of_le (hLe ▸ Nat.le_of_lt hlt)
  have hk := F1.kp
  have P1 : Pool h₁ p c s ks := hP.keep fun b o _ e => hk b o e
  have hp0 : (h.hide p).get? p = none := Heap.hide_self h p
  have hps : p < L := by obtain ⟨t, o, ho, _⟩ := hP.list; exact hLe ▸ Heap.lt_size ho
  have hL1 : L < h₁.objs.size := F1.F.ns.lt
  have hFn : (h.hide p).get? h₁.objs.size = none := Heap.get?_none_of_le (by rw [Heap.hide_size]; exact hLe ▸ Nat.le_of_lt hL1)
  replace F1 : Fm (h.hide p) L _ [] h₁ := ⟨⟨F1.F.ns, (Kp.hide h p).trans hk, by rw [Heap.hide_size]; exact Nat.le_of_eq hLe⟩, News.nil⟩
  clear hbig hk Sh
  generalize h.hide p = base at S k F1 hp0 hFn
  refine x_LetK F1 Ek.nilList fun v h2 h3 tk3 ⟨hv, hF2⟩ kp2 kb3 F3 => ?_
  subst hv
  have hFL : h₁.objs.size ≠ L := Nat.ne_of_gt hL1
  have hFp : h₁.objs.size ≠ p := Nat.ne_of_gt (Nat.lt_trans hps hL1)
  have hF3 := kb3 _ _ (nm (hFL)) hF2
  have hcF : c ≠ h₁.objs.size := Nat.ne_of_lt (Nat.lt_of_lt_of_le (by obtain ⟨o, ho, _⟩ := hP.cells; exact hLe ▸ Heap.lt_size ho) (Nat.le_of_lt hL1))
  have P3 : Pool h3 p c s ks := (P1.keep fun b o _ e => kp2 b o e).keepB (F1.kept kp2).F.ns kb3
  have S3 : SB (KF P) mg mb h3 := S.keeps F3.kp
  refine x_For (fun _ => rfl) ?_
  refine g_Call1X (k := .machine) (Ev.blt S3 (n_range P) boot_range rfl) fun tk4 => ?_
  refine g_BinOp (Ev.run (Ev.int (i := 4)) fun v tk5 ⟨t5, hv⟩ => ?_)
  subst hv
  refine g_draw (many := 3) (R1.le (by decide)) S F3 hp0 P3 (by lia) (by decide) (by decide) (Ev.glob S3 (n_draw P) rfl) (Ev.loc F3 rfl rfl) fun q tq h4 tk6 hq kb4 F4 P4 => ?_
  refine OpI.add _ _ _ _ _ _ _ fun t6 tk7 => ⟨looks_type, ?_⟩
  rw [show (4 : Int) + (q : Nat) = ((4 + q : Nat) : Int) by lia]
  refine lift (PySem.call_range_1 (s := r.at h4 tk7) ?_)
  refine lift (wpAny_pyIter_range (IsRange.new ..) (small_up _ (by lia)) ?_)
  rw [rangeSize_up]
  have hF4 : h4.get? h₁.objs.size = some (lobj [] 0) := kb4 _ _ (nm (hFp)) hF3
  show codeG (model prog w) _ (.forLoop _ (.ref (h4.push _).objs.size) _ _ _) _ _
  rw [Heap.size_push]
  have kp5 : Kp h4 ((h4.push { cls := .type "range", data := .fields #[.int 0 tk7, .int (4 + q : Nat) t6, .int 1 (tk7 + 1)] }).push { cls := .type "range_iterator", data := .fields #[rawInt 0, rawInt (4 + q : Nat), rawInt 1] }) := (Kp.push _ _).trans (Kp.push _ _)
  have hIt := Heap.get?_push_size (h4.push { cls := .type "range", data := .fields #[.int 0 tk7, .int (4 + q : Nat) t6, .int 1 (tk7 + 1)] }) (o := { cls := .type "range_iterator", data := .fields #[rawInt 0, rawInt (4 + q : Nat), rawInt 1] }) rfl
  rw [Heap.size_push] at hIt
  have hI4 : h4.get? (h4.objs.size + 1) = none := Heap.get?_none_of_le (Nat.le_succ _)
  show codeG (model prog w) _ (.forLoop _ (.ref (h4.objs.size + 1)) _ _ _) _ (r.at ((h4.push { cls := .type "range", data := .fields #[.int 0 tk7, .int (4 + q : Nat) t6, .int 1 (tk7 + 1)] }).push { cls := .type "range_iterator", data := .fields #[rawInt 0, rawInt (4 + q : Nat), rawInt 1] }) _)
  generalize (h4.push { cls := .type "range", data := .fields #[.int 0 tk7, .int (4 + q : Nat) t6, .int 1 (tk7 + 1)] }).push { cls := .type "range_iterator", data := .fields #[rawInt 0, rawInt (4 + q : Nat), rawInt 1] } = h5 at kp5 hIt
  generalize h4.objs.size + 1 = I at hIt hI4
  generalize h₁.objs.size = FF at hF4 hFL hFp hcF hFn F4
  have hIL : L ≠ I := by rintro rfl; obtain ⟨o, es, ep, e1, _⟩ := F4.F.ns; rw [hI4] at e1; cases e1
  have hIF : FF ≠ I := by rintro rfl; rw [hI4] at hF4; cases hF4
  have hIp : p ≠ I := by rintro rfl; obtain ⟨t, o, e, _⟩ := P4.list; rw [hI4] at e; cases e
  have hIc : c ≠ I := by rintro rfl; obtain ⟨o, e, _⟩ := P4.cells; rw [hI4] at e; cases e
  have hIn : base.get? I = none := F4.kp.none' hI4
  have hcL : c ≠ L := list_not_ns F4.F.ns P4.cells
  have hpL : p ≠ L := Nat.ne_of_lt hps
  refine codeG_forP (Walks.range R1.hand I 0 1 (4 + q)) (fun i h' => ∃ m' ns s', LNInv base L p c FF I ks s (4 + q) i h' m' ns s') ?_ ?_ ?_ ?_ (Nat.zero_le _) ?_
  · rintro i h' ⟨m', ns, s', _, _, _, a, _⟩; exact a
  · intro i h' tk v Q _ hq; exact own_name hq
  · rintro i h' v h5 tk5 Post2 hnx hrt hi ⟨m', ns, s', F', hpool, hfound, _, P', hs', hN', hlen, hns62⟩ ⟨tv, rfl⟩ st kb
    have F5 : Fm (base) L m' [] h5 := F'.but1 kb (hIL) (hIn)
    have P5 : Pool h5 p c s' ks := P'.keep fun b o hb e => kb b o (by rcases hb with rfl | rfl <;> simpa) e
    have N5 : NumList h5 FF ns := hN'.keep fun o e => kb _ _ (nm (hIF)) e
    refine g_assignName (g_store F5 fun h6 tk6 kb6 F6 => ?_)
    have P6 := P5.keepB F5.F.ns kb6
    have N6 : NumList h6 FF ns := N5.keep fun o e => kb6 _ _ (nm (hFL)) e
    have I6 : IsRangeIter h6 I (0 + ((i + 1 : Nat) : Int) * 1) (((4 + q : Nat) : Int) - ((i + 1 : Nat) : Int)) 1 := kb6 _ _ (nm (Ne.symm hIL)) st
    have S6 : SB (KF P) mg mb h6 := S.keeps F6.kp
    refine x_Swap2X (h₀ := base) (L := L) (m := upd m' (Str.ofString "turn") (.int (0 + (i : Nat) * 1) tv)) (news := []) R1.hand ?_
    refine g_Tuple (g_spliced ?_)
    refine g_BinOp (Ev.run (Ev.int (i := 2)) fun v tk7 ⟨t7, hv⟩ => ?_)
    subst hv
    refine g_draw (many := 62) (R1.le (by decide)) S F6 hp0 P6 (by lia) (by decide) (by decide) (Ev.glob S6 (n_draw P) rfl) (Ev.loc F6 ((upd_ne (by decide)).trans hpool) rfl) fun q1 tq1 h7 tk8 hq1 kb7 F7 P7 => ?_
    refine OpI.pow (by lia) (by lia) (by decide) _ _ _ _ _ _ _ fun t9 tk9 => ?_
    have S7 : SB (KF P) mg mb h7 := S.keeps F7.kp
    refine g_spliced ?_
    refine g_draw (many := 4) (R1.le (by decide)) S F7 hp0 P7 (by lia) (by decide) (by decide) (Ev.glob S7 (n_draw P) rfl) (Ev.loc F7 ((upd_ne (by decide)).trans hpool) rfl) fun q2 tq2 h8 tk10 hq2 kb8 F8 P8 => ?_
    refine g_spliced_none ⟨by rw [sizeLine_eq]; show 2 ≤ 16777216; lia, _, _, _, _, tk10, rfl, rfl, Heap.get?_push_size _ rfl, F8.kept (Kp.push _ _), fun h9 tk11 kb9 F9 => ?_⟩
    have S9 : SB (KF P) mg mb h9 := S.keeps F9.kp
    have P9 : Pool h9 p c (s' + 1 + 1) ks := (P8.keep fun b o _ e => Heap.get?_push_of_some _ e).keepB (F8.kept (Kp.push _ _)).F.ns kb9
    have k69 : ∀ b o, b ≠ p → b ≠ L → h6.get? b = some o → h9.get? b = some o := fun b o h1 h2 e => kb9 _ _ (nm (h2)) (Heap.get?_push_of_some _ (kb8 _ _ (nm (h1)) (kb7 _ _ (nm (h1)) e)))
    refine shut fun X0 hX0 => ?_
    obtain ⟨m9, F9, e1, e2, e3, e4⟩ : ∃ m9, Fm (base) L m9 [] h9 ∧ m9 (Str.ofString "pool") = some (.ref p) ∧ m9 (Str.ofString "found") = some (.ref FF) ∧ m9 (Str.ofString "form") = some (.int (q2 : Nat) tq2) ∧ m9 (Str.ofString "power") = some (.int (2 ^ (q1 : Int).toNat) t9) :=
      ⟨_, F9, (upd_ne (by decide)).trans ((upd_ne (by decide)).trans ((upd_ne (by decide)).trans hpool)), (upd_ne (by decide)).trans ((upd_ne (by decide)).trans ((upd_ne (by decide)).trans hfound)), rfl, rfl⟩
    refine hX0 ?_
    clear hX0
    have N9 : NumList h9 FF ns := N6.keep fun o e => k69 _ _ hFp hFL e
    have I9 : IsRangeIter h9 I (0 + ((i + 1 : Nat) : Int) * 1) (((4 + q : Nat) : Int) - ((i + 1 : Nat) : Int)) 1 := k69 _ _ (Ne.symm hIp) (Ne.symm hIL) I6
    refine x_Assign ?_
    refine g_BinOp (Ev.run (Ev.loc F9 e4 rfl) fun v tk12 hv => ?_)
    subst hv
    refine g_mono (Q := fun v st => ∃ (z : Int) (t : Tok) (h10 : Heap) (tk' s2 : Nat), st = r.at h10 tk' ∧ LNMid base L p c m9 ks s' h9 v z t h10 s2) (E := fun _ _ => False) ?_ ?_ fun _ _ x => x.elim
    · refine g_IfExp (Et.cmp (Ev.loc F9 e3 ⟨tq2, rfl⟩) Ev.int CmpI.lt) (fun _ tk13 => ?_) fun _ tk13 => ?_
      · refine Ev.run (Ev.bin (Ev.loc F9 e3 ⟨tq2, rfl⟩) Ev.int OpI.sub) fun v tk14 ⟨t14, hv⟩ => ?_
        exact ⟨_, t14, h9, tk14, _, rfl, hv, KpB.refl _ _, F9, P9, by lia⟩
      · refine g_draw (many := 1000) (R1.le (by decide)) S F9 hp0 P9 (by lia) (by decide) (by decide) (Ev.glob S9 (n_draw P) rfl) (Ev.loc F9 e1 rfl) fun q3 tq3 h10 tk14 hq3 kb10 F10 P10 => ?_
        exact ⟨_, tq3, h10, tk14, _, rfl, rfl, kb10, F10, P10, by lia⟩
    · rintro v st ⟨z, tz, h10, tk13, s2, rfl, rfl, kb10, F10, P10, hs2⟩
      refine OpI.add _ _ _ _ _ _ _ fun t14 tk14 => ?_
      refine g_store F10 fun h11 tk15 kb11 F11 => ?_
      have S11 : SB (KF P) mg mb h11 := S.keeps F11.kp
      have P11 := P10.keepB F10.F.ns kb11
      refine shut fun X0 hX0 => ?_
      obtain ⟨vs, nn, hl, hvs⟩ := N9
      refine hX0 ?_
      clear hX0
      have hl11 : h11.get? FF = some (lobj vs nn) := kb11 _ _ (nm (hFL)) (kb10 _ _ (nm (hFp)) hl)
      have I11 : IsRangeIter h11 I (0 + ((i + 1 : Nat) : Int) * 1) (((4 + q : Nat) : Int) - ((i + 1 : Nat) : Int)) 1 := kb11 _ _ (nm (Ne.symm hIL)) (kb10 _ _ (nm (Ne.symm hIp)) I9)
      refine x_Expr (g_Method PySem.F.plainAttrs_list slot_list_append type_list_append (Ev.run (Ev.loc F11 ((upd_ne (by decide)).trans e2) (rfl : _ = Value.ref FF)) fun v tk16 hv => ?_))
      subst hv
      refine ⟨⟨_, hl11, rfl⟩, fun a e => by cases e; exact ⟨_, hl11, rfl⟩, g_callWith (.inr rfl) (g_spliced (Ek.run (Ek.clamp R1.hand (Ev.blt S11 (n_min P) boot_min rfl) (Ev.blt S11 (n_max P) boot_max rfl) (Ev.loc F11 rfl ⟨t14, rfl⟩)) fun v h12 tk17 kp12 ⟨kk, hkk, t17, hv⟩ => g_spliced_none ⟨looks_blt, ?_⟩))⟩
      subst hv
      refine append_g (kp12 _ _ hl11) (by rw [hvs.length]; lia) fun h13 n13 hl13 sb13 => ⟨rfl, ?_⟩
      have kb13 : KpB [FF] h12 h13 := sbKpb sb13
      have F13 := (F11.kept kp12).but1 kb13 (Ne.symm hFL) (hFn)
      refine x_nil (hnx h13 _ ⟨_, ns ++ [kk], s2, F13, (upd_ne (by decide)).trans e1, (upd_ne (by decide)).trans e2, kb13 _ _ (nm (Ne.symm hIF)) (kp12 _ _ I11), (P11.keep fun b o _ e => kp12 _ _ e).keep fun b o hb e => kb13 b o (by rcases hb with rfl | rfl <;> simp <;> first | exact Ne.symm hFp | exact hcF) e, by lia,
        ⟨_, n13, hl13, hvs.snoc ⟨t17, rfl⟩⟩, by simp [hlen], fun x hx => ?_⟩)
      rcases List.mem_append.mp hx with hx | hx
      · exact hns62 x hx
      · rw [List.mem_singleton.mp hx]; exact hkk
  · rintro h' h5 tk5 ⟨m', ns, s', F', hpool, hfound, _, P', hs', hN', hlen, hns62⟩ kb
    have F5 : Fm (base) L m' [] h5 := F'.but1 kb (hIL) (hIn)
    have P5 : Pool h5 p c s' ks := P'.keep fun b o hb e => kb b o (by rcases hb with rfl | rfl <;> simpa) e
    have N5 : NumList h5 FF ns := hN'.keep fun o e => kb _ _ (nm (hIF)) e
    refine x_RetP (Ev.loc F5 hfound rfl) fun v tk6 hv => ?_
    subst hv
    exact hret _ _ (k FF ns s' h5 tk6 (by lia) (by lia) (by lia) hns62 F5.kp P5 N5 hFn hFp)
  · exact ⟨_, [], s + 1, F4.kept kp5, rfl, upd_same, hIt, P4.keep fun b o _ e => kp5 _ _ e, by lia, ⟨[], 0, kp5 _ _ hF4, .nil⟩, rfl, fun k hk => nomatch hk⟩
end
end Mine
end

section
open PySem PySem.W PySem.Calls PyProof.Rows
open PySem.Sem (wp)
set_option maxRecDepth 100000
namespace Mine
section
variable {prog : Program} {w : World} {A : Around} {E : Value → Shared → Prop} {env : Env} {r : Rest} {h h₀ base : Heap} {L : Addr} {m mg mb : Str → Option Value} {tk : Nat} {P : Params}

/-- what a comprehension's loop leaves, nothing raised -/
noncomputable def CompEnd (M : Model) (A : Around) (E : Value → Shared → Prop) (use : Option (Value → Sem Unit)) (Q : Value → Shared → Prop) (acc : Value) (C : Addr) (r : Result) (s' : Shared) : Prop :=
  match r, use with
  | .ok _, none => ∃ m, s'.heap.Ns C m ∧ ∀ h', Heap.SameBut C s'.heap h' → Q acc { s' with heap := h' }
  | .ok _, some u => wpG M A (u acc) (fun _ s'' => ∃ m, s''.heap.Ns C m ∧ ∀ h', Heap.SameBut C s''.heap h' → Q .none { s'' with heap := h' }) E s'
  | .error _, _ => False

theorem g_comprehension {M : Model} {e : Expr} {scope : Scope} {pos : Pos} {newAcc first : Sem Value} {g : Comprehension} {gs : List Comprehension} {cl : List (Str × Addr)} {use : Option (Value → Sem Unit)} {s : Shared}
    {Q : Value → Shared → Prop}
    (hcl : clausesOf e = g :: gs) (hs : ∀ x, foldedSetIterable g.iter env x = pure x) (hclos : closureFor scope env = pure cl)
    (hkind : scope.kind = .function) (hnames : ∀ x ∈ scope.names, x.2 = .local → scope.names.lookup x.1 = some .local)
    (k : wpG M A first (fun x s₁ => wpG M A (pyIter x) (fun it s₂ => wpG M A newAcc (fun acc s₃ =>
      wpG M A (newFunctionEnv scope env.globals cl [] env.qual none .none (some env)) (fun cenv s₄ =>
        codeG M A (.compStart e 0 it acc { cenv with scope := relabel scope env }) (CompEnd M A E use Q acc cenv.locals) s₄) E s₃) E s₂) E s₁) E s) :
    wpG M A (comprehension e scope env pos newAcc false first use) Q E s := by
  have stand : ∀ {α : Type} {c : Prop} [Decidable c] {p : Pos} {t : PUnit → Sem α} {Q' : α → Shared → Prop} {s' : Shared}, wpG M A (t ()) Q' E s' → wpG M A (if c then (standAt p >>= t) else t ()) Q' E s' := by
    intro α c _ p t Q' s' ht
    split
    · exact g_bind (g_standAt ht)
    · exact ht
  have hmark : A.mark none = A := by obtain ⟨⟩ := A; rfl
  unfold comprehension
  rw [hclos, hcl]
  refine g_bind (g_mono k (fun x s₁ h₁ => ?_) fun _ _ z => z)
  refine g_bind (g_standAt (g_bind (g_of_eq (hs x) (g_bind (g_holding (g_mono h₁ (fun it s₂ h₂ => ?_) fun _ _ z => z))))))
  refine stand (g_bind (g_mono h₂ (fun acc s₃ h₃ => ?_) fun _ _ z => z))
  refine g_bind (g_pure (g_bind (g_mono h₃ (fun cenv s₄ h₄ => ?_) fun _ _ z => z)))
  dsimp only
  have hv : ∀ x ∈ (scope.names.filter fun x => (x.2 == .local || x.2 == .cell) && x.1 != (".0" : Str)).reverse, x.2 = .local →
      Env.kindOf { cenv with scope := relabel scope env } x.1 = some .local := fun x hx hl => lookup_relabel_local (hnames x (List.mem_filter.mp (List.mem_reverse.mp hx)).1 hl)
  refine g_holding (g_bind (g_attempt (g_holding (g_run rfl ?_))))
  rw [hmark]
  refine codeG_mono h₄ fun r s' hr => ?_
  cases r with
  | error x => cases use <;> exact hr.elim
  | ok f =>
    cases use with
    | none =>
      obtain ⟨m, hn, hr⟩ := hr
      exact g_bind (g_holding (lift (wpAny_comp_letGo (cenv := { cenv with scope := relabel scope env }) hkind _ s' m hv hn fun h' m' _ hs' => g_pure (hr h' hs'))))
    | some u =>
      refine g_bind (g_rule (g_bind (g_holding (g_mono hr (fun _ s'' hr' => ?_) fun _ _ z => z))))
      obtain ⟨m, hn, hr'⟩ := hr'
      refine g_bind (lift (wpAny_comp_letGo (cenv := { cenv with scope := relabel scope env }) hkind _ s'' m (fun x hx hl => ?_) hn fun h' m' _ hs' => g_pure (hr' h' hs')))
      rcases List.mem_append.mp hx with h1 | h1
      · exact hv x (List.mem_of_mem_drop h1) hl
      · exact hv x (List.mem_of_mem_take h1) hl
end
end Mine
end

section
open PySem PySem.W PySem.Calls PyProof.Rows
open PySem.Sem (wp)
set_option maxRecDepth 100000
namespace Mine
/-- tuples stay, but for those of a list -/
noncomputable def Kq (X : List Addr) (h h' : Heap) : Prop := ∀ b l, b ∉ X → h.get? b = some (tobj l) → h'.get? b = some (tobj l)
theorem Kq.trans {X : List Addr} {a b c : Heap} (x : Kq X a b) (y : Kq X b c) : Kq X a c := fun i l n e => y i l n (x i l n e)
theorem Kp.kq {X : List Addr} {h h' : Heap} (x : Kp h h') : Kq X h h' := fun _ _ _ e => x _ _ e
section
variable {prog : Program} {w : World} {A : Around} {E : Value → Shared → Prop} {env : Env} {r : Rest} {h h₀ base : Heap} {L : Addr} {m mg mb : Str → Option Value} {tk : Nat} {P : Params}

theorem codeG_comp1 {elt target iter : Expr} {scope : Scope} {pos : Pos} {I : Addr} {acc : Value} {fp wr : List Addr} {n : Nat} {Pi : Nat → Value → Prop} {St : Nat → Heap → Prop} {cenv : Env} {R : Result → Shared → Prop}
    (W : Walks prog w A I fp wr n Pi St) (Inv : Nat → Heap → Prop) (hst : ∀ i h, Inv i h → St i h)
    (ht : ∀ i h tk v (Q : Unit → Shared → Prop), St i h → Q () (r.at h tk) → wpG (model prog w) A (letOwnedTupleGo target (.ref I) v) Q (fun _ _ => False) (r.at h tk))
    (turn : ∀ i h v h' tk', i < n → Inv i h → Pi i v → St (i + 1) h' → KpB wr h h' →
      wpG (model prog w) A (assign target cenv v) (fun _ s₂ => wpG (model prog w) A (eval elt cenv) (fun y s₃ => wpG (model prog w) A (call (.builtin "list.append") [acc, y]) (fun _ s₄ => ∃ h₄ tk₄, s₄ = r.at h₄ tk₄ ∧ Inv (i + 1) h₄) (fun _ _ => False) s₃) (fun _ _ => False) s₂) (fun _ _ => False) (r.at h' tk'))
    (done : ∀ h h' tk', Inv n h → KpB wr h h' → R (.ok .next) (r.at h' tk')) :
    ∀ {h : Heap} {tk : Nat}, Inv 0 h → codeG (model prog w) A (.compLoop (.ListComp elt [⟨target, iter, [], 0⟩] scope pos) 0 (.ref I) acc cenv) R (r.at h tk) := by
  have all : ∀ k i h tk, n - i = k → i ≤ n → Inv i h → codeG (model prog w) A (.compLoop (.ListComp elt [⟨target, iter, [], 0⟩] scope pos) 0 (.ref I) acc cenv) R (r.at h tk) := by
    intro k
    induction k with
    | zero =>
      intro i h tk hk hi hI
      obtain rfl : i = n := by omega
      refine codeG_of_tree ?_
      show wpG _ A ((compTurn (.ListComp elt [⟨target, iter, [], 0⟩] scope pos) 0 (.ref I) acc cenv).onRaise (fun x => do noteFrame x cenv; theTreesLotGoes x)) _ _ _
      refine g_onRaise ?_
      rw [compTurn_list1]
      refine g_bind (g_standAt (g_bind (lift (W.done (r.at h tk) _ _ (hst _ _ hI) fun h' tk' k' => ?_))))
      exact g_pure (done h h' tk' hI k')
    | succ k ih =>
      intro i h tk hk hi hI
      refine codeG_of_tree ?_
      show wpG _ A ((compTurn (.ListComp elt [⟨target, iter, [], 0⟩] scope pos) 0 (.ref I) acc cenv).onRaise (fun x => do noteFrame x cenv; theTreesLotGoes x)) _ _ _
      refine g_onRaise ?_
      rw [compTurn_list1]
      refine g_bind (g_standAt (g_bind (lift (W.item i (r.at h tk) _ _ (by omega) (hst _ _ hI) fun v h' tk' hP hS k' => ?_))))
      refine g_bind (g_mono (ht (i + 1) h' tk' v _ hS (g_bind (g_mono (turn i h v h' tk' (by omega) hI hP hS k') (fun _ s₂ h₂ => ?_) fun _ _ z => z.elim))) (fun _ _ z => z) fun _ _ z => z.elim)
      refine g_bind (g_bind (g_mono h₂ (fun y s₃ h₃ => g_bind (g_mono h₃ (fun _ s₄ h₄ => g_pure ?_) fun _ _ z => z.elim)) fun _ _ z => z.elim))
      obtain ⟨h₄, tk₄, rfl, hI'⟩ := h₄
      exact g_pure ⟨rfl, rfl, ih (i + 1) h₄ tk₄ (by omega) (by omega) hI'⟩
  intro h tk h0
  exact all _ 0 h tk rfl (Nat.zero_le _) h0

theorem codeG_compStart {elt target iter : Expr} {ifs : List Expr} {rest : List Comprehension} {scope : Scope} {pos : Pos} {it acc : Value} {cenv : Env} {R : Result → Shared → Prop} {s : Shared}
    (h0 : codeG (model prog w) A (.compLoop (.ListComp elt (⟨target, iter, ifs, 0⟩ :: rest) scope pos) 0 it acc cenv) R s)
    (h1 : wpG (model prog w) A (pyIter it) (fun it' s' => codeG (model prog w) A (.compLoop (.ListComp elt (⟨target, iter, ifs, 0⟩ :: rest) scope pos) 0 it' acc cenv) R s') (fun _ _ => False) s) :
    codeG (model prog w) A (.compStart (.ListComp elt (⟨target, iter, ifs, 0⟩ :: rest) scope pos) 0 it acc cenv) R s := by
  refine codeG_of_tree ?_
  show wpG _ A ((compStart (.ListComp elt (⟨target, iter, ifs, 0⟩ :: rest) scope pos) 0 it acc cenv).onRaise (fun x => do noteFrame x cenv; standAt theWindowsPlace)) _ _ s
  refine g_onRaise ?_
  unfold compStart
  show wpG _ A (ask >>= _) _ _ s
  refine g_bind (lift (wpAny_askSetting ?_))
  refine (?_ : wpG _ _ _ _ _ _)
  refine g_ite ?_
  split
  · exact g_bind (g_pure (g_pure ⟨rfl, rfl, h0⟩))
  · exact g_bind (g_rule (g_bind (g_standAt (g_bind (g_mono h1 (fun it' s' h' => g_pure ⟨rfl, rfl, h'⟩) fun _ _ z => z.elim)))))

/-- the list of a comprehension of one generator without tests, collected -/
theorem g_collect {elt target iter : Expr} {scope : Scope} {pos : Pos} {cl : List (Str × Addr)} {I : Addr} {fp wr : List Addr} {n : Nat} {Pi : Nat → Value → Prop} {St : Nat → Heap → Prop} {h₂ : Heap} {RR : Value → Addr → Result → Shared → Prop}
    (W : Walks prog w A I fp wr n Pi St) (hn : n ≤ 10000) (Y : Nat → Value → Heap → Prop) {X : List Addr} (hw : ∀ i h b l, St i h → b ∉ X → h.get? b = some (tobj l) → b ∉ wr) (hY : ∀ i y h h', Kq X h h' → Y i y h → Y i y h')
    (hcell : ∀ y ∈ scope.names, y.2 ≠ .cell) (hkind : scope.kind = .function) (hst : St 0 h₂) (hfp : ∀ b ∈ fp, h₂.get? b ≠ none)
    (ht : ∀ i h tk v (Q : Unit → Shared → Prop), St i h → Q () (r.at h tk) → wpG (model prog w) A (letOwnedTupleGo target (.ref I) v) Q (fun _ _ => False) (r.at h tk))
    (turn : ∀ C i v h' tk' m, i < n → Pi i v → h'.Ns C m → h₂.get? C = none → h₂.objs.size ≤ C → KpB wr h₂ h' → St (i + 1) h' →
      wpG (model prog w) A (assign target (compEnvC scope cl C env) v) (fun _ s => ∃ h'' tk'' m'', s = r.at h'' tk'' ∧ KpB [C] h' h'' ∧ h''.Ns C m'' ∧ Ek (model prog w) A (compEnvC scope cl C env) r h'' elt (fun y h3 => Y i y h3)) (fun _ _ => False) (r.at h' tk'))
    (hRR : ∀ D C h' tk' m' ys nn, h₂.get? D = none → h₂.get? C = none → D ≠ C → h'.Ns C m' → h'.get? D = some (lobj ys nn) → ys.length = n → (∀ i y, ys[i]? = some y → Y i y h') → KpB wr h₂ h' → RR (.ref D) C (.ok .next) (r.at h' tk')) :
    wpG (model prog w) A (newList []) (fun acc s₃ => wpG (model prog w) A (newFunctionEnv scope env.globals cl [] env.qual none .none (some env)) (fun cenv s₄ =>
      codeG (model prog w) A (.compStart (.ListComp elt [⟨target, iter, [], 0⟩] scope pos) 0 (.ref I) acc { cenv with scope := relabel scope env }) (RR acc cenv.locals) s₄) E s₃) E (r.at h₂ tk) := by
  refine lift (wpAny_newObj_type (s := r.at h₂ tk) (lift (wpAny_newFunctionEnv (s := r.at (h₂.push (lobj [] 0)) tk) hcell (by intro y hy; simp at hy) (fun h₃ hns hsb => ?_) hkind) : wpG _ _ _ _ _ _) (by rw [show sizeOk _ = (0 ≤ sizeLine) from rfl]; exact Nat.zero_le _))
  have hsz : (h₂.push (lobj [] 0)).objs.size = h₂.objs.size + 1 := Heap.size_push _ _
  have hns' : h₃.Ns (h₂.objs.size + 1) _ := hsz ▸ hns
  have hDn : h₂.get? h₂.objs.size = none := Heap.get?_none_of_le (Nat.le_refl _)
  have hCn : h₂.get? (h₂.objs.size + 1) = none := Heap.get?_none_of_le (Nat.le_succ _)
  have hDC : h₂.objs.size ≠ h₂.objs.size + 1 := Nat.ne_of_lt (Nat.lt_succ_self _)
  have k3 : Kp h₂ h₃ := fun b o e => hsb.extBut b o (by rw [show (r.at (h₂.push (lobj [] 0)) tk).heap.objs.size = h₂.objs.size + 1 from hsz]; exact Nat.ne_of_lt (Nat.lt_succ_of_lt (Heap.lt_size e))) (Heap.get?_push_of_some _ (Heap.get?_push_of_some _ e))
  have hD3 : h₃.get? h₂.objs.size = some (lobj [] 0) := hsb.extBut _ _ (by rw [show (r.at (h₂.push (lobj [] 0)) tk).heap.objs.size = h₂.objs.size + 1 from hsz]; exact hDC) (Heap.get?_push_of_some _ (Heap.get?_push_size _ rfl))
  have hDf : h₂.objs.size ∉ fp := fun q => hfp _ q hDn
  have hCf : h₂.objs.size + 1 ∉ fp := fun q => hfp _ q hCn
  have hDw : h₂.objs.size ∉ wr := fun q => hDf (W.sub _ q)
  have hCw : h₂.objs.size + 1 ∉ wr := fun q => hCf (W.sub _ q)
  have loop : ∀ tk, codeG (model prog w) A (.compLoop (.ListComp elt [⟨target, iter, [], 0⟩] scope pos) 0 (.ref I) (.ref h₂.objs.size) (compEnvC scope cl (h₂.objs.size + 1) env)) (RR (.ref h₂.objs.size) (h₂.objs.size + 1)) (r.at h₃ tk) := by
    intro tk
    refine codeG_comp1 W (fun i h' => ∃ m' ys nn, St i h' ∧ h'.Ns (h₂.objs.size + 1) m' ∧ h'.get? h₂.objs.size = some (lobj ys nn) ∧ ys.length = i ∧ (∀ j y, ys[j]? = some y → Y j y h') ∧ KpB wr h₂ h') ?_ ht ?_ ?_ ?_
    · rintro i h' ⟨_, _, _, a, _⟩; exact a
    · rintro i h' v h4 tk4 hi ⟨m', ys, nn, hSt, hns4, hD, hlen, hys, kb0⟩ hP hS kb
      have hns5 : h4.Ns (h₂.objs.size + 1) m' := by
        refine shut fun X0 hX0 => ?_
        obtain ⟨o, es, ep, e1, r⟩ := hns4
        refine hX0 ?_
        clear hX0
        exact ⟨o, es, ep, kb _ _ hCw e1, r⟩
      refine g_mono (turn (h₂.objs.size + 1) i v h4 tk4 m' hi hP hns5 hCn (Nat.le_succ _) (kb0.trans kb) hS) (fun _ s hs => ?_) fun _ _ z => z
      obtain ⟨h5, tk5, m5, rfl, kb5, ns5, ek⟩ := hs
      refine ek.run fun y h6 tk6 kp6 hy => ?_
      have hD6 : h6.get? h₂.objs.size = some (lobj ys nn) := kp6 _ _ (kb5 _ _ (nm (hDC)) (kb _ _ hDw hD))
      refine append_g hD6 (by omega) fun h7 n7 hD7 sb7 => ⟨h7, tk6, rfl, m5, ys ++ [y], n7, ?_, ?_, hD7, by simp [hlen], ?_, ?_⟩
      · refine W.frame _ _ _ hS fun b hb o e => (sb7.2 b (fun q => hDf (q ▸ hb))).trans (kp6 _ _ (kb5 _ _ (by simp only [List.mem_singleton]; exact fun q => hCf (q ▸ hb)) e))
      · obtain ⟨o, es, ep, e1, r⟩ := ns5
        exact ⟨o, es, ep, (sb7.2 _ (Ne.symm hDC)).trans (kp6 _ _ e1), r⟩
      · have q67 : Kq X h6 h7 := fun b l _ e => (sb7.2 b (by rintro rfl; rw [hD6] at e; simp [lobj, tobj] at e)).trans e
        have q46 : Kq X h4 h6 := fun b l _ e => kp6 _ _ (kb5 _ _ (by simpa using ns_not_list hns5 e) e)
        have q04 : Kq X h' h4 := fun b l hn e => kb _ _ (hw _ _ b l hSt hn e) e
        intro j z hz
        rcases Nat.lt_or_ge j ys.length with hj | hj
        · rw [List.getElem?_append_left hj] at hz
          exact hY _ _ _ _ ((q04.trans q46).trans q67) (hys j z hz)
        · rw [List.getElem?_append_right hj] at hz
          have hj0 : j = ys.length := by
            rcases Nat.eq_zero_or_pos (j - ys.length) with q | q
            · omega
            · rw [List.getElem?_eq_none (by show 1 ≤ _; exact q)] at hz; cases hz
          subst hj0
          simp at hz
          subst hz
          rw [hlen]
          exact hY _ _ _ _ q67 hy
      · intro b o hb e
        have hb1 : b ≠ h₂.objs.size := by rintro rfl; rw [hDn] at e; cases e
        have hb2 : b ≠ h₂.objs.size + 1 := by rintro rfl; rw [hCn] at e; cases e
        exact (sb7.2 b hb1).trans (kp6 _ _ (kb5 _ _ (nm (hb2)) (kb _ _ hb (kb0 _ _ hb e))))
    · rintro h' h4 tk4 ⟨m', ys, nn, hSt, hns4, hD, hlen, hys, kb0⟩ kb
      refine hRR _ _ h4 tk4 m' ys nn hDn hCn hDC ?_ (kb _ _ hDw hD) hlen (fun j y hy => hY _ _ _ _ (fun b l hn e => kb _ _ (hw _ _ b l hSt hn e) e) (hys j y hy)) (kb0.trans kb)
      refine shut fun X0 hX0 => ?_
      obtain ⟨o, es, ep, e1, r⟩ := hns4
      refine hX0 ?_
      clear hX0
      exact ⟨o, es, ep, kb _ _ hCw e1, r⟩
    · refine ⟨_, [], 0, W.frame _ _ _ hst fun b _ o e => k3 _ _ e, hns', hD3, rfl, fun j y hy => by simp at hy, k3.but⟩
  show codeG (model prog w) A (.compStart _ 0 (.ref I) (.ref h₂.objs.size) (compEnvC scope cl (h₂.push (lobj [] 0)).objs.size env)) (RR (.ref h₂.objs.size) (h₂.push (lobj [] 0)).objs.size) (r.at h₃ _)
  rw [hsz]
  exact codeG_compStart (loop _) (lift (W.self 0 _ _ _ (W.frame _ _ _ hst fun b _ o e => k3 _ _ e) (loop _)))
end
end Mine
end

section
open PySem PySem.W PySem.Calls PyProof.Rows
open PySem.Sem (wp)
set_option maxRecDepth 100000
namespace Mine
section
variable {prog : Program} {w : World} {A : Around} {E : Value → Shared → Prop} {env : Env} {r : Rest} {h h₀ base : Heap} {L : Addr} {m mg mb : Str → Option Value} {tk : Nat} {P : Params}

/-- what the block of a comprehension over a list needs -/
structure CompOk (prog : Program) (w : World) (A : Around) (env : Env) (r : Rest) (h : Heap) (scope : Scope) (cl : List (Str × Addr)) (target elt : Expr) (items : List Value) (Y : Nat → Value → Heap → Prop) : Prop where
  cell : ∀ y ∈ scope.names, y.2 ≠ .cell
  kind : scope.kind = .function
  names : ∀ x ∈ scope.names, x.2 = .local → scope.names.lookup x.1 = some .local
  stay : ∀ i y h1 h2, Kq [] h1 h2 → Y i y h1 → Y i y h2
  own : ∀ I l i v h tk (Q : Unit → Shared → Prop), h.IsListIter I l i → Q () (r.at h tk) → wpG (model prog w) A (letOwnedTupleGo target (.ref I) v) Q (fun _ _ => False) (r.at h tk)
  turn : ∀ C i v h' tk' m, items[i]? = some v → Fm h C m [] h' →
      wpG (model prog w) A (assign target (compEnvC scope cl C env) v) (fun _ s => ∃ h'' tk'' m'', s = r.at h'' tk'' ∧ KpB [C] h' h'' ∧ h''.Ns C m'' ∧ Ek (model prog w) A (compEnvC scope cl C env) r h'' elt (fun y h3 => Y i y h3)) (fun _ _ => False) (r.at h' tk')

theorem comp_block {elt target iter : Expr} {scope : Scope} {pos : Pos} {cl : List (Str × Addr)} {l : Addr} {items : List Value} {Y : Nat → Value → Heap → Prop} {RR : Value → Addr → Result → Shared → Prop}
    (hh : A.handled = none) (hl : h.IsList l items.toArray) (hn : items.length ≤ 10000) (ok : CompOk prog w A env r h scope cl target elt items Y)
    (hRR : ∀ D C h' tk' m' ys nn, h.get? C = none → D ≠ C → h'.Ns C m' → h.get? D = none → h'.get? D = some (lobj ys nn) → ys.length = items.length → (∀ i y, ys[i]? = some y → Y i y h') → Kp h h' → RR (.ref D) C (.ok .next) (r.at h' tk')) :
    wpG (model prog w) A (pyIter (.ref l)) (fun it s₂ => wpG (model prog w) A (newList []) (fun acc s₃ => wpG (model prog w) A (newFunctionEnv scope env.globals cl [] env.qual none .none (some env)) (fun cenv s₄ =>
      codeG (model prog w) A (.compStart (.ListComp elt [⟨target, iter, [], 0⟩] scope pos) 0 it acc { cenv with scope := relabel scope env }) (RR acc cenv.locals) s₄) E s₃) E s₂) E (r.at h tk) := by
  have hlt : l < h.objs.size := by obtain ⟨o, ho, _⟩ := hl; exact Heap.lt_size ho
  have hne : l ≠ h.objs.size := Nat.ne_of_lt hlt
  refine lift (wpAny_pyIter_list (s := r.at h tk) hl ?_)
  have kp : Kp h (h.push { cls := .type "list_iterator", data := .fields #[.ref l, .int 0 0] }) := Kp.push _ _
  have hI := Heap.get?_push_size h (o := { cls := .type "list_iterator", data := .fields #[.ref l, .int 0 0] }) rfl
  have hIn : h.get? h.objs.size = none := Heap.get?_none_of_le (Nat.le_refl _)
  have hsz : (h.push { cls := .type "list_iterator", data := .fields #[.ref l, .int 0 0] }).objs.size = h.objs.size + 1 := Heap.size_push _ _
  refine g_collect (h₂ := h.push { cls := .type "list_iterator", data := .fields #[.ref l, .int 0 0] }) (Walks.list hh h.objs.size l hne items.toArray) (by simpa using hn) Y (X := []) ?_ ok.stay ok.cell ok.kind
    ⟨⟨_, hI, rfl, rfl⟩, islist_keep hl fun o e => kp _ _ e⟩ ?_ ?_ ?_ ?_
  · rintro i h1 b l ⟨⟨o, e1, e2, _⟩, _⟩ _ e
    simp only [List.mem_singleton]
    rintro rfl
    rw [e] at e1
    cases e1
    simp [tobj] at e2
  · intro b hb
    simp only [List.mem_cons, List.mem_nil_iff, or_false] at hb
    rcases hb with rfl | rfl
    · rw [hI]; intro q; cases q
    · obtain ⟨o, ho, _⟩ := hl
      rw [kp _ _ ho]; intro q; cases q
  · rintro i h1 tk1 v Q ⟨a, _⟩ hq
    exact ok.own _ _ _ _ _ _ _ a hq
  · intro C i v h' tk' m hi hv hns hCn hC kb _
    refine ok.turn C i v h' tk' m (by simpa using hv) ⟨⟨hns, fun b o e => kb b o (by simp only [List.mem_singleton]; exact Nat.ne_of_lt (Heap.lt_size e)) (kp _ _ e), Nat.le_of_lt (Nat.lt_of_lt_of_le (by rw [hsz]; exact Nat.lt_succ_self _) hC)⟩, News.nil⟩
  · intro D C h' tk' m' ys nn hDn hCn hDC hns hD hlen hys kb
    have back : ∀ b, (h.push { cls := .type "list_iterator", data := .fields #[.ref l, .int 0 0] }).get? b = none → h.get? b = none := fun b e => by
      cases q : h.get? b with
      | none => rfl
      | some o => rw [kp _ _ q] at e; cases e
    exact hRR D C h' tk' m' ys nn (back _ hCn) hDC hns (back _ hDn) hD (by simpa using hlen) hys fun b o e => kb b o (by simp only [List.mem_singleton]; exact Nat.ne_of_lt (Heap.lt_size e)) (kp _ _ e)

theorem Ek.listComp {elt target iter : Expr} {scope : Scope} {pos : Pos} {cl : List (Str × Addr)} {l : Addr} {items : List Value} {Y : Nat → Value → Heap → Prop}
    (hh : A.handled = Option.none) (ei : Ev (model prog w) A env r h iter (· = .ref l)) (hl : h.IsList l items.toArray) (hn : items.length ≤ 10000) (ok : CompOk prog w A env r h scope cl target elt items Y)
    (hclos : closureFor scope env = pure cl := by rfl) (hs : ∀ x, foldedSetIterable iter env x = pure x := by intro _; rfl) :
    Ek (model prog w) A env r h (.ListComp elt [⟨target, iter, [], 0⟩] scope pos) (fun v h' => ∃ D ys nn, v = .ref D ∧ h.get? D = Option.none ∧ h'.get? D = some (lobj ys nn) ∧ ys.length = items.length ∧ ∀ i y, ys[i]? = some y → Y i y h') := fun E Q tk hq => by
  rw [eval_ListComp]
  refine g_comprehension rfl hs hclos ok.kind ok.names ?_
  refine ei.run fun v tk1 hv => ?_
  subst hv
  refine comp_block hh hl hn ok fun D C h' tk' m' ys nn hCn hDC hns hDn hD hlen hys kp => ⟨m', hns, fun h'' sb => ?_⟩
  have kp2 : Kp h h'' := fun b o e => (sb.2 b (by rintro rfl; rw [hCn] at e; cases e)).trans (kp _ _ e)
  exact hq (.ref D) h'' tk' kp2 ⟨D, ys, nn, rfl, hDn, (sb.2 _ hDC).trans hD, hlen, fun i y hy => ok.stay i y _ _ (fun b l _ e => (sb.2 b (ns_not_list hns e)).trans e) (hys i y hy)⟩

/-- a local gets a comprehension's list -/
theorem x_AssignComp {x : Str} {pos' pos cpos : Pos} {elt target iter : Expr} {scope : Scope} {cl : List (Str × Addr)} {l : Addr} {items : List Value} {Y : Nat → Value → Heap → Prop} {rest : List Stmt} {Q : Flow → Shared → Prop}
    (hh : A.handled = none) (S : Fm h₀ L m [] h) (ei : Ev (model prog w) A env r h iter (· = .ref l)) (hl : h.IsList l items.toArray) (hn : items.length ≤ 10000) (ok : CompOk prog w A env r h scope cl target elt items Y)
    (k : ∀ D ys nn h' tk', KpB [L] h h' → Fm h₀ L (upd m x (.ref D)) [] h' → h.get? D = none → h'.get? D = some (lobj ys nn) → ys.length = items.length → (∀ i y, ys[i]? = some y → Y i y h') → wpG (model prog w) A (execs rest env) Q E (r.at h' tk'))
    (hL : env.locals = L := by rfl) (hk : env.scope.kind = .function := by rfl) (hlo : env.kindOf x = some .local := by rfl)
    (hclos : closureFor scope env = pure cl := by rfl) (hs : ∀ x, foldedSetIterable iter env x = pure x := by intro _; rfl)
    (hsw : swapsWith (.ListComp elt [⟨target, iter, [], 0⟩] scope cpos) (some (.Name x pos')) pos.line env = pure true := by rfl) :
    wpG (model prog w) A (execs (.Assign [.Name x pos'] (.ListComp elt [⟨target, iter, [], 0⟩] scope cpos) pos :: rest) env) Q E (r.at h tk) := by
  refine x_cons ?_
  rw [exec_Assign_Name_used x pos' _ pos hsw]
  refine g_bind (g_standAt (g_bind ?_))
  rw [arm_evalThenUse_ListComp]
  refine g_bind ?_
  refine g_comprehension rfl hs hclos ok.kind ok.names ?_
  refine ei.run fun v tk1 hv => ?_
  subst hv
  refine comp_block hh hl hn ok fun D C h' tk' m' ys nn hCn hDC hns hDn hD hlen hys kp => ?_
  show wpG (model prog w) A (assign (.Name x pos') env (.ref D)) _ _ _
  refine g_assignName (g_store (S.kept kp) (fun h2 tk2 kb2 S2 => ?_) hL hk hlo)
  have hLC : C ≠ L := by
    rintro rfl
    have := S.F.ns
    refine shut fun X0 hX0 => ?_
    obtain ⟨o, es, ep, e1, _⟩ := this
    refine hX0 ?_
    clear hX0
    rw [hCn] at e1
    cases e1
  have hLD : D ≠ L := by
    rintro rfl
    refine shut fun X0 hX0 => ?_
    obtain ⟨o, es, ep, e1, _⟩ := S.F.ns
    refine hX0 ?_
    clear hX0
    rw [hDn] at e1
    cases e1
  have hns2 : h2.Ns C m' := by
    refine shut fun X0 hX0 => ?_
    obtain ⟨o, es, ep, e1, r⟩ := hns
    refine hX0 ?_
    clear hX0
    exact ⟨o, es, ep, kb2 _ _ (nm (hLC)) e1, r⟩
  refine ⟨m', hns2, fun h3 sb => g_pure (g_pure ?_)⟩
  have kb3 : KpB [C] h2 h3 := fun b o hb e => (sb.2 b (by simpa using hb)).trans e
  have hC0 : h₀.get? C = none := by
    cases q : h₀.get? C with
    | none => rfl
    | some o => rw [S.kp _ _ q] at hCn; cases hCn
  refine k D ys nn h3 tk2 (fun b o hb e => (sb.2 b (by rintro rfl; rw [hCn] at e; cases e)).trans (kb2 b o hb (kp b o e))) (S2.but1 kb3 (Ne.symm hLC) (hC0)) hDn ((sb.2 _ hDC).trans (kb2 _ _ (nm (hLD)) hD)) hlen fun i y hy => ok.stay i y _ _ (fun b l _ e => ?_) (hys i y hy)
  exact (sb.2 b (ns_not_list hns e)).trans (kb2 b _ (by simpa using ns_not_list (S.kept kp).F.ns e) e)
end
end Mine
end

section
open PySem PySem.W PySem.Calls PyProof.Rows
open PySem.Sem (wp)
set_option maxRecDepth 100000
namespace Mine
section
variable {prog : Program} {w : World} {A : Around} {E : Value → Shared → Prop} {env : Env} {r : Rest} {h h₀ base : Heap} {L : Addr} {m mg mb : Str → Option Value} {tk : Nat} {P : Params}
theorem CompOk.name {x : Str} {px : Pos} {scope : Scope} {cl : List (Str × Addr)} {elt : Expr} {items : List Value} {Y : Nat → Value → Heap → Prop}
    (stay : ∀ i y h1 h2, Kq [] h1 h2 → Y i y h1 → Y i y h2)
    (turn : ∀ C i v h' m, items[i]? = some v → Fm h C m [] h' → m x = some v → Ek (model prog w) A (compEnvC scope cl C env) r h' elt (fun y h3 => Y i y h3))
    (cell : ∀ y ∈ scope.names, y.2 ≠ .cell := by decide) (kind : scope.kind = .function := by rfl) (names : ∀ x ∈ scope.names, x.2 = .local → scope.names.lookup x.1 = some .local := by decide) (hx : scope.names.lookup x = some .local := by rfl) :
    CompOk prog w A env r h scope cl (.Name x px) elt items Y where
  cell := cell
  kind := kind
  names := names
  stay := stay
  own := fun I l i v h tk Q _ hq => own_name hq
  turn := fun C i v h' tk' m hv F => g_assignName (g_store F (fun h2 tk2 kb2 F2 => ⟨h2, tk2, _, rfl, kb2, F2.F.ns, turn C i v h2 _ hv F2 upd_same⟩) rfl kind (lookup_relabel_local hx))

/-! _law_begins -/
end
end Mine
end

section
open PySem PySem.W PySem.Calls PyProof.Rows
open PySem.Sem (wp)
set_option maxRecDepth 100000
namespace Mine
section
variable {prog : Program} {w : World} {A : Around} {E : Value → Shared → Prop} {env : Env} {r : Rest} {h h₀ base : Heap} {L : Addr} {m mg mb : Str → Option Value} {tk : Nat} {P : Params} {K : Frag}

/-- a def with cells, entered; no way raises -/
theorem call_gC {f : Addr} {fd : FuncData} {body : List Stmt} {vs : List Value} {binds : List (Str × Value)} {Q : Value → Shared → Prop}
    (S : SB K mg mb h) (D : FnAt K f fd body) (hroom : A.depth < recursionLimit) (hbind : ∀ s, BindsTo s fd ⟨vs, []⟩ binds) (hclo : fd.closure = [])
    (hkind : ∀ x ∈ binds, fd.scope.names.lookup x.1 = some .local ∨ (fd.scope.names.lookup x.1 = some .cell ∧ ((cellsFrom (h.objs.size + 1) fd.scope.names []).lookup x.1).isSome = true))
    (k : ∀ h₁ tk₁, h₁.Ns h.objs.size (bindL (callEnvC fd h.objs.size f).kindOf binds fun _ => none) → Kp h h₁ → (∀ n c, (cellsFrom (h.objs.size + 1) fd.scope.names []).lookup n = some c → h₁.IsCell c (bindC (callEnvC fd h.objs.size f).kindOf binds (fun _ => none) n)) →
      wpG (model prog w) (A.deeper (callEnvC fd h.objs.size f)) (execs body (callEnvC fd h.objs.size f)) (fun fl s' => Q (match fl with | .ret v => v | _ => .none) s') (fun _ _ => False) (r.at h₁ tk₁)) :
    wpG (model prog w) A (call (.ref f) vs) Q E (r.at h tk) := by
  refine shut fun X0 hX0 => ?_
  obtain ⟨c, d, sl, hl⟩ := D.there
  refine hX0 ?_
  clear hX0
  refine g_call (codeG_call_function (fd := fd) (body := body) hroom (S.X _ _ hl) rfl D.co D.gen D.body (codeRec_of S.X D.code) (lift (hbind _ _ _ _ _ ?_)))
  rw [hclo]
  refine lift (wpAny_newFunctionEnv_cells (s := r.at h tk) D.kind hkind fun env he s' x => ?_)
  subst he
  obtain ⟨h', tk', rfl, kp⟩ := x.done
  refine ⟨S.lim.keeps kp, codeG_func ?_⟩
  refine g_mono (k h' _ x.toInCall.ns kp x.cell) (fun _ _ z => z) fun _ _ z => z.elim

theorem Ev.cell {M : Model} {x : Str} {pos : Pos} {c : Addr} {v : Value} {P : Value → Prop} (hc : env.cells.lookup x = some c) (hv : h.IsCell c (some v)) (hp : P v)
    (hk : env.scope.kind = .function := by rfl) (hl : env.kindOf x = some .cell := by rfl) (hd : (x == ("__debug__" : Str)) = false := by decide) : Ev M A env r h (.Name x pos) P := fun _ _ tk hq =>
  lift (wpAny_Name (wpAny_loadName_cell (s := r.at h tk) hk hl hc hv (hq v tk hp)) hd)

/-- two loops that never collect -/
theorem codeG_compTest {elt target iter cond : Expr} {g0 : Comprehension} {scope : Scope} {pos : Pos} {I : Addr} {acc : Value} {fp wr : List Addr} {n : Nat} {Pi : Nat → Value → Prop} {St : Nat → Heap → Prop} {cenv : Env} {R : Result → Shared → Prop}
    (W : Walks prog w A I fp wr n Pi St) (Inv : Nat → Heap → Prop) (hst : ∀ i h, Inv i h → St i h)
    (ht : ∀ i h tk v (Q : Unit → Shared → Prop), St i h → Q () (r.at h tk) → wpG (model prog w) A (letOwnedTupleGo target (.ref I) v) Q (fun _ _ => False) (r.at h tk))
    (turn : ∀ i h v h' tk', i < n → Inv i h → Pi i v → St (i + 1) h' → KpB wr h h' →
      wpG (model prog w) A (assign target cenv v) (fun _ s₂ => wpG (model prog w) A (isTrue cond cenv (eval cond cenv)) (fun b s₃ => b = false ∧ ∃ h₄ tk₄, s₃ = r.at h₄ tk₄ ∧ Inv (i + 1) h₄) (fun _ _ => False) s₂) (fun _ _ => False) (r.at h' tk'))
    (done : ∀ h h' tk', Inv n h → KpB wr h h' → R (.ok .next) (r.at h' tk')) :
    ∀ {h : Heap} {tk : Nat}, Inv 0 h → codeG (model prog w) A (.compLoop (.ListComp elt [g0, ⟨target, iter, [cond], 0⟩] scope pos) 1 (.ref I) acc cenv) R (r.at h tk) := by
  have all : ∀ k i h tk, n - i = k → i ≤ n → Inv i h → codeG (model prog w) A (.compLoop (.ListComp elt [g0, ⟨target, iter, [cond], 0⟩] scope pos) 1 (.ref I) acc cenv) R (r.at h tk) := by
    intro k
    induction k with
    | zero =>
      intro i h tk hk hi hI
      obtain rfl : i = n := by omega
      refine codeG_of_tree ?_
      show wpG _ A ((compTurn (.ListComp elt [g0, ⟨target, iter, [cond], 0⟩] scope pos) 1 (.ref I) acc cenv).onRaise (fun x => do noteFrame x cenv; theTreesLotGoes x)) _ _ _
      refine g_onRaise ?_
      unfold compTurn
      refine g_bind (g_standAt (g_bind (lift (W.done (r.at h tk) _ _ (hst _ _ hI) fun h' tk' k' => ?_))))
      exact g_pure (done h h' tk' hI k')
    | succ k ih =>
      intro i h tk hk hi hI
      refine codeG_of_tree ?_
      show wpG _ A ((compTurn (.ListComp elt [g0, ⟨target, iter, [cond], 0⟩] scope pos) 1 (.ref I) acc cenv).onRaise (fun x => do noteFrame x cenv; theTreesLotGoes x)) _ _ _
      refine g_onRaise ?_
      unfold compTurn
      refine g_bind (g_standAt (g_bind (lift (W.item i (r.at h tk) _ _ (by omega) (hst _ _ hI) fun v h' tk' hP hS k' => ?_))))
      refine g_bind (g_mono (ht (i + 1) h' tk' v _ hS (g_bind (g_mono (turn i h v h' tk' (by omega) hI hP hS k') (fun _ s₂ h₂ => ?_) fun _ _ z => z.elim))) (fun _ _ z => z) fun _ _ z => z.elim)
      refine g_bind ?_
      rw [List.forIn_cons]
      refine g_bind (g_yes rfl (g_bind (g_mono h₂ (fun b s₃ h₃ => ?_) fun _ _ z => z.elim)))
      obtain ⟨rfl, h₄, tk₄, rfl, hI'⟩ := h₃
      refine g_pure ?_
      dsimp only
      rw [List.forIn_nil]
      refine g_pure (g_no rfl ?_)
      exact g_pure ⟨rfl, rfl, ih (i + 1) h₄ tk₄ (by omega) (by omega) hI'⟩
  intro h tk h0
  exact all _ 0 h tk rfl (Nat.zero_le _) h0

/-- the outer loop of two -/
theorem codeG_compOut {elt target iter target2 iter2 : Expr} {ifs2 : List Expr} {scope : Scope} {pos : Pos} {I : Addr} {acc : Value} {fp wr : List Addr} {n : Nat} {Pi : Nat → Value → Prop} {St : Nat → Heap → Prop} {cenv : Env} {R : Result → Shared → Prop}
    (W : Walks prog w A I fp wr n Pi St) (Inv : Nat → Heap → Prop) (hst : ∀ i h, Inv i h → St i h)
    (ht : ∀ i h tk v (Q : Unit → Shared → Prop), St i h → Q () (r.at h tk) → wpG (model prog w) A (letOwnedTupleGo target (.ref I) v) Q (fun _ _ => False) (r.at h tk))
    (turn : ∀ i h v h' tk', i < n → Inv i h → Pi i v → St (i + 1) h' → KpB wr h h' →
      wpG (model prog w) A (assign target cenv v) (fun _ s₂ => wpG (model prog w) A (eval iter2 cenv) (fun x s₃ => wpG (model prog w) A (pyIter x) (fun it s₄ =>
        codeG (model prog w) A (.compStart (.ListComp elt [⟨target, iter, [], 0⟩, ⟨target2, iter2, ifs2, 0⟩] scope pos) 1 it acc cenv) (fun r' s₅ => r' = .ok .next ∧ ∃ h₄ tk₄, s₅ = r.at h₄ tk₄ ∧ Inv (i + 1) h₄) s₄) (fun _ _ => False) s₃) (fun _ _ => False) s₂) (fun _ _ => False) (r.at h' tk'))
    (done : ∀ h h' tk', Inv n h → KpB wr h h' → R (.ok .next) (r.at h' tk')) (hs : ∀ x, foldedSetIterable iter2 cenv x = pure x) :
    ∀ {h : Heap} {tk : Nat}, Inv 0 h → codeG (model prog w) A (.compLoop (.ListComp elt [⟨target, iter, [], 0⟩, ⟨target2, iter2, ifs2, 0⟩] scope pos) 0 (.ref I) acc cenv) R (r.at h tk) := by
  have all : ∀ k i h tk, n - i = k → i ≤ n → Inv i h → codeG (model prog w) A (.compLoop (.ListComp elt [⟨target, iter, [], 0⟩, ⟨target2, iter2, ifs2, 0⟩] scope pos) 0 (.ref I) acc cenv) R (r.at h tk) := by
    intro k
    induction k with
    | zero =>
      intro i h tk hk hi hI
      obtain rfl : i = n := by omega
      refine codeG_of_tree ?_
      show wpG _ A ((compTurn (.ListComp elt [⟨target, iter, [], 0⟩, ⟨target2, iter2, ifs2, 0⟩] scope pos) 0 (.ref I) acc cenv).onRaise (fun x => do noteFrame x cenv; theTreesLotGoes x)) _ _ _
      refine g_onRaise ?_
      unfold compTurn
      refine g_bind (g_standAt (g_bind (lift (W.done (r.at h tk) _ _ (hst _ _ hI) fun h' tk' k' => ?_))))
      exact g_pure (done h h' tk' hI k')
    | succ k ih =>
      intro i h tk hk hi hI
      refine codeG_of_tree ?_
      show wpG _ A ((compTurn (.ListComp elt [⟨target, iter, [], 0⟩, ⟨target2, iter2, ifs2, 0⟩] scope pos) 0 (.ref I) acc cenv).onRaise (fun x => do noteFrame x cenv; theTreesLotGoes x)) _ _ _
      refine g_onRaise ?_
      unfold compTurn
      refine g_bind (g_standAt (g_bind (lift (W.item i (r.at h tk) _ _ (by omega) (hst _ _ hI) fun v h' tk' hP hS k' => ?_))))
      refine g_bind (g_mono (ht (i + 1) h' tk' v _ hS (g_bind (g_mono (turn i h v h' tk' (by omega) hI hP hS k') (fun _ s₂ h₂ => ?_) fun _ _ z => z.elim))) (fun _ _ z => z) fun _ _ z => z.elim)
      refine g_bind ?_
      rw [List.forIn_nil]
      refine g_pure (g_yes rfl ?_)
      dsimp only
      refine g_bind (g_mono h₂ (fun x s₃ h₃ => ?_) fun _ _ z => z.elim)
      refine g_bind (g_standAt (g_no rfl (g_bind (g_of_eq (hs x) ?_))))
      refine g_bind (g_holding (g_no rfl (g_mono h₃ (fun it s₄ h₄ => ?_) fun _ _ z => z.elim)))
      refine g_bind ?_
      unfold runOwn
      refine g_onRaise (g_run rfl ?_)
      have e : A.mark none = A := by obtain ⟨⟩ := A; rfl
      rw [e]
      refine codeG_mono h₄ fun r' s₅ ⟨e1, h₆, tk₆, e2, hI'⟩ => ?_
      subst e1 e2
      exact g_pure ⟨rfl, rfl, ih (i + 1) h₆ tk₆ (by omega) (by omega) hI'⟩
  intro h tk h0
  exact all _ 0 h tk rfl (Nat.zero_le _) h0

/-- the start of the inner loop -/
theorem codeG_compStart1 {elt : Expr} {g0 : Comprehension} {target iter : Expr} {ifs : List Expr} {scope : Scope} {pos : Pos} {it acc : Value} {cenv : Env} {R : Result → Shared → Prop} {s : Shared}
    (h0 : codeG (model prog w) A (.compLoop (.ListComp elt [g0, ⟨target, iter, ifs, 0⟩] scope pos) 1 it acc cenv) R s)
    (h1 : wpG (model prog w) A (pyIter it) (fun it' s' => codeG (model prog w) A (.compLoop (.ListComp elt [g0, ⟨target, iter, ifs, 0⟩] scope pos) 1 it' acc cenv) R s') (fun _ _ => False) s) :
    codeG (model prog w) A (.compStart (.ListComp elt [g0, ⟨target, iter, ifs, 0⟩] scope pos) 1 it acc cenv) R s := by
  refine codeG_of_tree ?_
  show wpG _ A ((compStart (.ListComp elt [g0, ⟨target, iter, ifs, 0⟩] scope pos) 1 it acc cenv).onRaise (fun x => do noteFrame x cenv; standAt theWindowsPlace)) _ _ s
  refine g_onRaise ?_
  unfold compStart
  show wpG _ A (ask >>= _) _ _ s
  refine g_bind (lift (wpAny_askSetting ?_))
  refine (?_ : wpG _ _ _ _ _ _)
  refine g_ite ?_
  split
  · exact g_bind (g_pure (g_pure ⟨rfl, rfl, h0⟩))
  · exact g_bind (g_rule (g_bind (g_standAt (g_bind (g_mono h1 (fun it' s' h' => g_pure ⟨rfl, rfl, h'⟩) fun _ _ z => z.elim)))))
end
end Mine
end

section
open PySem PySem.W PySem.Calls PyProof.Rows
open PySem.Sem (wp)
set_option maxRecDepth 100000
namespace Mine
/-- a list of octet rows -/
noncomputable def RowList (h : Heap) (l : Addr) (bs : List (List UInt8)) : Prop := ∃ vs n, h.get? l = some (lobj vs n) ∧ All2 (fun v b => IsBy b.toArray v) vs bs
theorem RowList.keep {h h' : Heap} {l : Addr} {bs : List (List UInt8)} (x : RowList h l bs) (k : ∀ o, h.get? l = some o → h'.get? l = some o) : RowList h' l bs := let ⟨vs, n, a, b⟩ := x; ⟨vs, n, k _ a, b⟩
section
variable {prog : Program} {w : World} {A : Around} {E : Value → Shared → Prop} {env : Env} {r : Rest} {h h₀ base : Heap} {L : Addr} {m mg mb : Str → Option Value} {tk : Nat} {P : Params}

theorem Ek.cutTo {value hi : Expr} {p pos : Pos} {b : List UInt8} {t : Tok} {u : Nat} (ev : Ev (model prog w) A env r h value (· = .bytes b.toArray t)) (eu : Ev (model prog w) A env r h hi (IsI u))
    (hz : b.length < 1000000) (hs : ∀ i, subscripted (.Slice none (some hi) none p) false (.bytes b.toArray t) i = operate [i, .bytes b.toArray t] (getItem (.bytes b.toArray t) i) := by intro _; with_unfolding_all rfl) :
    Ek (model prog w) A env r h (.Subscript value (.Slice none (some hi) none p) pos) (fun v _ => IsBy (b.take u).toArray v) := fun E Q tk hq => by
  refine g_Subscript (ev _ _ _ fun v tk1 hv => g_Slice (g_pure (show wpG _ _ (eval hi env) _ _ _ from eu _ _ _ fun v3 tk3 ⟨t3, hv3⟩ => g_pure ?_)))
  subst hv hv3
  have e : KBy.picked b.toArray none (some (u : Int)) = (b.take u).toArray := by
    rw [KBc.picked_eq]
    simp only [Option.elim, clipAt_nat, Nat.sub_zero, List.drop_zero]
    congr 1
    rcases Nat.lt_or_ge u b.length with q | q
    · rw [List.size_toArray, Nat.min_eq_left (Nat.le_of_lt q)]
    · rw [List.size_toArray, Nat.min_eq_right q, List.take_of_length_le q, List.take_of_length_le (Nat.le_refl _)]
  refine g_item (s := r.at (h.push { cls := .type "slice", data := .fields #[.none, .int u t3, .none] }) tk3) (typeIs_bytes _ _ _) FB.slot_bytes_getitem.lookup ?_ (hs _)
  refine getItem_meets (typeIs_bytes _ _ _) (by decide) FB.slot_bytes_getitem FB.entry_bytes_getitem (FB.args_bytes_getitem_2 _ _) (KBc.meets_slice2 b.toArray t _ .none (.int u t3))
    ⟨Heap.IsSliceOf.new _ _ _ _, Nat.le_trans (KBc.size_picked_le _ _ _) (by rw [sizeLine_eq, List.size_toArray]; lia), fun t' k => ?_⟩
  rw [e]
  exact hq _ _ _ (Kp.push _ _) ⟨t', rfl⟩

/-- the test of _law_begins -/
theorem begins_test {e1 e2 e1' e2' e3 : Expr} {a b : List UInt8} {ta tb : Tok} {p1 p2 p5 p6 pos : Pos} {Q : Bool → Shared → Prop} (ha : a.length < 1000000) (hb : b.length < 1000000) (hab : a ≠ b → b.take a.length ≠ a)
    (x1 : Ev (model prog w) A env r h e1 (· = .bytes a.toArray ta)) (x2 : Ev (model prog w) A env r h e2 (· = .bytes b.toArray tb)) (x2' : Ev (model prog w) A env r h e2' (· = .bytes b.toArray tb)) (x3 : Ev (model prog w) A env r h e3 (IsI a.length))
    (y1 : ∀ h', Kp h h' → Ev (model prog w) A env r h' e1' (· = .bytes a.toArray ta))
    (k : ∀ h' tk', Kp h h' → Q false (r.at h' tk'))
    (hm1 : behindInMarks .NotEq e2 = false := by with_unfolding_all rfl) (hm2 : behindInMarks .Eq e1' = false := by with_unfolding_all rfl)
    (hs : ∀ i, subscripted (.Slice none (some e3) none p5) false (.bytes b.toArray tb) i = operate [i, .bytes b.toArray tb] (getItem (.bytes b.toArray tb) i) := by intro _; with_unfolding_all rfl) :
    wpG (model prog w) A (isTrue (.BoolOp .And [.Compare e1 [.NotEq] [e2] p1, .Compare (.Subscript e2' (.Slice none (some e3) none p5) p6) [.Eq] [e1'] p2] pos) env (eval (.BoolOp .And [.Compare e1 [.NotEq] [e2] p1, .Compare (.Subscript e2' (.Slice none (some e3) none p5) p6) [.Eq] [e1'] p2] pos) env)) Q E (r.at h tk) := by
  show wpG (model prog w) A (allTrue .And [.Compare e1 [.NotEq] [e2] p1, .Compare (.Subscript e2' (.Slice none (some e3) none p5) p6) [.Eq] [e1'] p2] env) Q E _
  refine g_allTrue_cons (g_isTrue_Compare1 (x1.run fun v tk1 hv => x2.run fun v2 tk2 hv2 => ?_) hm1)
  subst hv hv2
  refine lift (ne_bytes (s := r.at h tk2) (g_truthy_bool ?_))
  by_cases hne : a = b
  · subst hne
    have : (a.toArray.toList != a.toArray.toList) = false := by simp
    rw [this]
    exact k h _ (Kp.refl h)
  · have : (a.toArray.toList != b.toArray.toList) = true := by simpa using hne
    rw [this]
    refine g_allTrue_cons (g_isTrue_Compare1 ((Ek.cutTo x2' x3 hb hs).run fun v h1 tk3 kp hv => (y1 h1 kp).run fun v2 tk4 hv2 => ?_) hm2)
    obtain ⟨t, rfl⟩ := hv
    subst hv2
    refine lift (eq_bytes (s := r.at h1 tk4) (g_truthy_bool ?_))
    have : ((b.take a.length).toArray.toList == a.toArray.toList) = false := by simpa using hab hne
    rw [this]
    exact k h1 _ kp
end
end Mine
end

section
open PySem PySem.W PySem.Calls PyProof.Rows
open PySem.Sem (wp)
set_option maxRecDepth 100000
namespace Mine
section
variable {prog : Program} {w : World} {A : Around} {E : Value → Shared → Prop} {env : Env} {r : Rest} {h h₀ base : Heap} {L : Addr} {m mg mb : Str → Option Value} {tk : Nat} {P : Params}

theorem ne_nil {D l2 : Addr} {n n2 : Nat} {s : Shared} {Q : Value → Shared → Prop} (hu : A.units < cLine) (h1 : s.heap.get? D = some (lobj [] n)) (h2 : s.heap.get? l2 = some (lobj [] n2)) (k : Q (.bool false) s) : wpAny (model prog w) A (compareOp .NotEq (.ref D) (.ref l2)) Q E s :=
  PySem.SeqAt.RcNeAt.lists (items := #[]) (items2 := #[]) (e := fun _ => true) ⟨_, h1, rfl, _, rfl⟩ ⟨_, h2, rfl, _, rfl⟩ rfl hu (fun j q _ => absurd q (Nat.not_lt_zero _)) prog w E Q k

theorem codeG_compStartL {elt target iter : Expr} {ifs : List Expr} {rest : List Comprehension} {scope : Scope} {pos : Pos} {acc : Value} {cenv : Env} {R : Result → Shared → Prop} {I : Addr} {fp wr : List Addr} {n : Nat} {Pi : Nat → Value → Prop} {St : Nat → Heap → Prop}
    (W : Walks prog w A I fp wr n Pi St) (hst : St 0 h) (loop : ∀ tk, codeG (model prog w) A (.compLoop (.ListComp elt (⟨target, iter, ifs, 0⟩ :: rest) scope pos) 0 (.ref I) acc cenv) R (r.at h tk)) :
    codeG (model prog w) A (.compStart (.ListComp elt (⟨target, iter, ifs, 0⟩ :: rest) scope pos) 0 (.ref I) acc cenv) R (r.at h tk) :=
  codeG_compStart (loop tk) (lift (W.self 0 (r.at h tk) _ _ hst (loop tk)))
theorem codeG_compStartL1 {elt : Expr} {g0 : Comprehension} {target iter : Expr} {ifs : List Expr} {scope : Scope} {pos : Pos} {acc : Value} {cenv : Env} {R : Result → Shared → Prop} {I : Addr} {fp wr : List Addr} {n : Nat} {Pi : Nat → Value → Prop} {St : Nat → Heap → Prop}
    (W : Walks prog w A I fp wr n Pi St) (hst : St 0 h) (loop : ∀ tk, codeG (model prog w) A (.compLoop (.ListComp elt [g0, ⟨target, iter, ifs, 0⟩] scope pos) 1 (.ref I) acc cenv) R (r.at h tk)) :
    codeG (model prog w) A (.compStart (.ListComp elt [g0, ⟨target, iter, ifs, 0⟩] scope pos) 1 (.ref I) acc cenv) R (r.at h tk) :=
  codeG_compStart1 (loop tk) (lift (W.self 0 (r.at h tk) _ _ hst (loop tk)))

structure BgO (h₁ h' : Heap) (C D I l : Addr) (items : Array Value) (i : Nat) (m' : Str → Option Value) : Prop where
  it : h'.IsListIter I l i
  ls : h'.IsList l items
  F : Fm h₁ C m' [] h'
  hD : h'.get? D = some (lobj [] 0)
structure BgI (h₁ h' : Heap) (C D I l J : Addr) (items : Array Value) (v : Value) (i j : Nat) (m' : Str → Option Value) : Prop where
  jt : h'.IsListIter J l j
  ls : h'.IsList l items
  F : Fm h₁ C m' [] h'
  one : m' (Str.ofString "one") = some v
  hD : h'.get? D = some (lobj [] 0)
  it : h'.IsListIter I l i
theorem iter_keep {h h' : Heap} {I l : Addr} {i : Nat} (x : h.IsListIter I l i) (k : ∀ o, h.get? I = some o → h'.get? I = some o) : h'.IsListIter I l i := let ⟨o, e1, e2⟩ := x; ⟨o, k o e1, e2⟩

set_option maxHeartbeats 1000000 in
theorem law_begins_g {l : Addr} {bs : List (List UInt8)} {Q : Value → Shared → Prop} (R : Room A 3) (S : SB (KF P) mg mb h) (hl : RowList h l bs) (hlen : bs.length ≤ 1000) (hsz : ∀ b ∈ bs, b.length < 1000) (hbs : ∀ a ∈ bs, ∀ b ∈ bs, a ≠ b → b.take a.length ≠ a)
    (k : ∀ h' tk', Kp h h' → Q (.bool false) (r.at h' tk')) : wpG (model prog w) A (call (.ref 150) [.ref l]) Q E (r.at h tk) := by
  refine call_gC (binds := [(Str.ofString "some", .ref l)]) S ⟨⟨_, _, _, rfl⟩, by kernel_rfl, rfl, rfl, rfl, rfl⟩ R.dep (fun s => BindsTo.of_eq rfl) rfl (by intro x hx; simp only [List.mem_singleton] at hx; subst hx; exact .inr ⟨rfl, rfl⟩) fun h₁ tk₁ hns hk hcell => ?_
  have S1 := S.keeps hk
  have hc1 : h₁.IsCell (h.objs.size + 1) (some (.ref l)) := hcell (Str.ofString "some") _ rfl
  refine shut fun X0 hX0 => ?_
  obtain ⟨vs, nn, hl0, hvs⟩ := hl
  refine hX0 ?_
  clear hX0
  have hl1 := hk _ _ hl0
  have hvl : vs.length = bs.length := hvs.length
  have hll : h₁.IsList l vs.toArray := ⟨_, hl1, rfl, _, rfl⟩
  refine x_Return ?_
  refine g_Compare1 ?_
  rw [eval_ListComp]
  refine g_comprehension (cl := [(Str.ofString "some", h.objs.size + 1)]) rfl (by intro _; rfl) rfl rfl (by decide) ?_
  refine Ev.run (Ev.cell rfl hc1 rfl) fun v tk2 hv => ?_
  subst hv
  refine lift (wpAny_pyIter_list (s := r.at h₁ tk2) hll ?_)
  have kp2 : Kp h₁ (h₁.push { cls := .type "list_iterator", data := .fields #[.ref l, .int 0 0] }) := Kp.push _ _
  have hI := Heap.get?_push_size h₁ (o := { cls := .type "list_iterator", data := .fields #[.ref l, .int 0 0] }) rfl
  generalize hh2 : h₁.push { cls := .type "list_iterator", data := .fields #[.ref l, .int 0 0] } = h2 at kp2 hI
  have hs2 : h2.objs.size = h₁.objs.size + 1 := by rw [← hh2]; exact Heap.size_push _ _
  refine lift (wpAny_newObj_type (s := r.at h2 tk2) (lift (wpAny_newFunctionEnv (s := r.at (h2.push (lobj [] 0)) tk2) (by decide) (by intro y hy; simp at hy) (fun h₃ hns3 hsb => ?_) rfl) : wpG _ _ _ _ _ _) (by rw [show sizeOk _ = (0 ≤ sizeLine) from rfl]; exact Nat.zero_le _))
  have hDn : h2.get? h2.objs.size = none := Heap.get?_none_of_le (Nat.le_refl _)
  have hsz3 : (h2.push (lobj [] 0)).objs.size = h2.objs.size + 1 := Heap.size_push _ _
  have hDC : h2.objs.size ≠ h2.objs.size + 1 := Nat.ne_of_lt (Nat.lt_succ_self _)
  have k3 : Kp h2 h₃ := fun b o e => hsb.extBut b o (by rw [show (r.at (h2.push (lobj [] 0)) tk2).heap.objs.size = h2.objs.size + 1 from hsz3]; exact Nat.ne_of_lt (Nat.lt_succ_of_lt (Heap.lt_size e))) (Heap.get?_push_of_some _ (Heap.get?_push_of_some _ e))
  have hD3 : h₃.get? h2.objs.size = some (lobj [] 0) := hsb.extBut _ _ (by rw [show (r.at (h2.push (lobj [] 0)) tk2).heap.objs.size = h2.objs.size + 1 from hsz3]; exact hDC) (Heap.get?_push_of_some _ (Heap.get?_push_size _ rfl))
  have hns3' : h₃.Ns (h2.objs.size + 1) _ := hsz3 ▸ hns3
  have hI1 : h₁.objs.size < h2.objs.size := by rw [hs2]; exact Nat.lt_succ_self _
  have F3 : Fm h₁ (h2.objs.size + 1) _ [] h₃ := ⟨⟨hns3', kp2.trans k3, Nat.le_of_lt (Nat.lt_succ_of_lt hI1)⟩, News.nil⟩
  have hD1 : h₁.get? h2.objs.size = none := Heap.get?_none_of_le (Nat.le_of_lt hI1)
  have hlI : l ≠ h₁.objs.size := Nat.ne_of_lt (Heap.lt_size hl1)
  have hIn1 : h₁.get? h₁.objs.size = none := Heap.get?_none_of_le (Nat.le_refl _)
  have hIC : h₁.objs.size ≠ h2.objs.size + 1 := Nat.ne_of_lt (Nat.lt_succ_of_lt hI1)
  have hID : h₁.objs.size ≠ h2.objs.size := Nat.ne_of_lt hI1
  show codeG (model prog w) _ (.compStart _ 0 (.ref h₁.objs.size) (.ref h2.objs.size) (compEnvC _ [(Str.ofString "some", h.objs.size + 1)] (h2.push (lobj [] 0)).objs.size _)) (CompEnd _ _ _ none _ _ (h2.push (lobj [] 0)).objs.size) (r.at h₃ _)
  rw [hsz3]
  have hC1 : ¬ ∃ o, h₁.get? (h2.objs.size + 1) = some o := fun ⟨o, e⟩ => Nat.lt_irrefl _ (Nat.lt_trans (Heap.lt_size e) (Nat.lt_succ_of_lt hI1))
  clear hns3 hns3' hs2 hDn hsz3 hI1
  generalize h2.objs.size + 1 = C at F3 hDC hIC hC1 ⊢
  generalize h2.objs.size = D at hD3 hDC hD1 hID ⊢
  generalize h₁.objs.size = I at hI hlI hIn1 hIC hID ⊢
  refine codeG_compStartL (Walks.list (R.deeper _).hand I l hlI vs.toArray) ⟨⟨_, k3 _ _ hI, rfl, rfl⟩, islist_keep hll fun o e => k3 _ _ (kp2 _ _ e)⟩ fun tk3 => ?_
  refine codeG_compOut (Walks.list (R.deeper _).hand I l hlI vs.toArray) (fun i h' => ∃ m', BgO h₁ h' C D I l vs.toArray i m') (fun i h' ⟨_, a⟩ => ⟨a.it, a.ls⟩) (fun i h' tk v Q _ hq => own_name hq) ?_ ?_ (by intro _; rfl) ?_
  · rintro i h' v h4 tk4 hi ⟨m', B⟩ hv ⟨st1, st2⟩ kb
    have F4 : Fm h₁ C m' [] h4 := B.F.but1 kb (Ne.symm hIC) (hIn1)
    have hD4 := kb _ _ (nm (Ne.symm hID)) B.hD
    clear B
    obtain ⟨a, ha, ⟨ta, rfl⟩⟩ := hvs.get' i (by simpa using hv)
    refine g_assignName (g_store F4 (fun h5 tk5 kb5 F5 => ?_))
    have hD5 := kb5 _ _ (nm (hDC)) hD4
    have I5 := iter_keep st1 fun _ e1 => kb5 _ _ (nm (hIC)) e1
    have hl5 : h5.IsList l vs.toArray := islist_keep hll fun o e => F5.kp _ _ e
    have hL5 : l < h5.objs.size := let ⟨o, e, _⟩ := hl5; Heap.lt_size e
    refine Ev.run (Ev.cell rfl (hc1.keeps F5.kp) rfl) fun v tk6 hv => ?_
    subst hv
    refine lift (wpAny_pyIter_list (s := r.at h5 tk6) hl5 ?_)
    have kp6 : Kp h5 (h5.push { cls := .type "list_iterator", data := .fields #[.ref l, .int 0 0] }) := Kp.push _ _
    have hI6 := Heap.get?_push_size h5 (o := { cls := .type "list_iterator", data := .fields #[.ref l, .int 0 0] }) rfl
    generalize h5.push { cls := .type "list_iterator", data := .fields #[.ref l, .int 0 0] } = h6 at kp6 hI6
    have hn5 : h₁.get? h5.objs.size = none := F5.kp.none' (Heap.get?_none_of_le (Nat.le_refl _))
    have hIC5 : h5.objs.size ≠ C := Nat.ne_of_gt F5.F.ns.lt
    have hID5 : h5.objs.size ≠ D := Nat.ne_of_gt (Heap.lt_size hD5)
    have hII5 : h5.objs.size ≠ I := let ⟨o, e, _⟩ := I5; Nat.ne_of_gt (Heap.lt_size e)
    have hlJ : l ≠ h5.objs.size := Nat.ne_of_lt hL5
    generalize h5.objs.size = J at hI6 hn5 hIC5 hID5 hII5 hlJ ⊢
    have F6 := F5.kept kp6
    refine codeG_compStartL1 (Walks.list (R.deeper _).hand J l hlJ vs.toArray) ⟨⟨_, hI6, rfl, rfl⟩, islist_keep hl5 fun o e => kp6 _ _ e⟩ fun tk7 => ?_
    refine codeG_compTest (Walks.list (R.deeper _).hand J l hlJ vs.toArray) (fun j h' => ∃ m'', BgI h₁ h' C D I l J vs.toArray (.bytes a.toArray ta) (i + 1) j m'') (fun j h' ⟨_, a⟩ => ⟨a.jt, a.ls⟩) (fun j h' tk v Q _ hq => own_name hq) ?_ ?_ ?_
    · rintro j h' v2 h7 tk7 hj ⟨m'', B⟩ hv2 ⟨st3, st4⟩ kb7
      obtain ⟨b, hb, ⟨tb, rfl⟩⟩ := hvs.get' j (by simpa using hv2)
      have F7 : Fm h₁ C m'' [] h7 := B.F.but1 kb7 (Ne.symm hIC5) (hn5)
      have hD7 := kb7 _ _ (nm (Ne.symm hID5)) B.hD
      have I7 := iter_keep B.it fun _ e1 => kb7 _ _ (nm (Ne.symm hII5)) e1
      have hone := B.one
      clear B
      refine g_assignName (g_store F7 (fun h8 tk8 kb8 F8 => ?_))
      have S8 : SB (KF P) mg mb h8 := S1.keeps F8.kp
      have ham : a ∈ bs := List.mem_of_getElem? ha
      have hbm : b ∈ bs := List.mem_of_getElem? hb
      have ho8 := (upd_ne (m := m'') (x := Str.ofString "other") (v := .bytes b.toArray tb) (y := Str.ofString "one") (by decide)).trans hone
      have ha8 : a.length < 1000000 := Nat.lt_trans (hsz a ham) (by decide)
      refine begins_test (a := a) (b := b) ha8 (Nat.lt_trans (hsz b hbm) (by decide)) (hbs a ham b hbm) (Ev.loc F8 ho8 rfl) (Ev.loc F8 upd_same rfl) (Ev.loc F8 upd_same rfl)
        (Ev.lenB (Ev.blt S8 (n_len P) boot_len rfl) (Ev.loc F8 ho8 rfl) (by simp; lia)) (fun h' kp => Ev.loc (F8.kept kp) ho8 rfl) fun h9 tk9 kp9 => ?_
      exact ⟨rfl, h9, tk9, rfl, _, iter_keep st3 fun _ e1 => kp9 _ _ (kb8 _ _ (nm (hIC5)) e1), islist_keep hll fun o e => kp9 _ _ (F8.kp _ _ e), F8.kept kp9, ho8, kp9 _ _ (kb8 _ _ (nm (hDC)) hD7), iter_keep I7 fun _ e1 => kp9 _ _ (kb8 _ _ (nm (hIC)) e1)⟩
    · rintro h' h7 tk7 ⟨m'', B⟩ kb7
      have F7 : Fm h₁ C m'' [] h7 := B.F.but1 kb7 (Ne.symm hIC5) (hn5)
      exact ⟨rfl, h7, tk7, rfl, m'', iter_keep B.it fun _ e1 => kb7 _ _ (nm (Ne.symm hII5)) e1, islist_keep hll fun o e => F7.kp _ _ e, F7, kb7 _ _ (nm (Ne.symm hID5)) B.hD⟩
    · exact ⟨_, ⟨_, hI6, rfl, rfl⟩, islist_keep hl5 fun o e => kp6 _ _ e, F6, upd_same, kp6 _ _ hD5, iter_keep I5 fun _ e1 => kp6 _ _ e1⟩
  · rintro h' h4 tk4 ⟨m', B⟩ kb
    have F4 : Fm h₁ C m' [] h4 := B.F.but1 kb (Ne.symm hIC) (hIn1)
    have hD4 := kb _ _ (nm (Ne.symm hID)) B.hD
    clear B
    refine ⟨m', F4.F.ns, fun h5 sb => ?_⟩
    have kp5 : Kp h₁ h5 := fun b o e => (sb.2 b (fun q => hC1 (q ▸ ⟨o, e⟩))).trans (F4.kp _ _ e)
    refine Ek.run (h := h5) (tk := tk4) Ek.nilList fun v h6 tk6 kp6 ⟨hv, hnew⟩ => ?_
    subst hv
    refine lift (ne_nil (s := r.at h6 tk6) (R.deeper _).un (kp6 _ _ ((sb.2 _ hDC).trans hD4)) hnew ?_)
    exact k h6 tk6 ((hk.trans kp5).trans kp6)
  · exact ⟨_, ⟨_, k3 _ _ hI, rfl, rfl⟩, islist_keep hll fun o e => k3 _ _ (kp2 _ _ e), F3, hD3⟩
end
end Mine
end

section
open PySem PySem.W PySem.Calls PyProof.Rows
open PySem.Sem (wp)
set_option maxRecDepth 100000
namespace Mine
theorem ints_of_num : ∀ {vs : List Value} {ns : List Nat}, All2 (fun v k => IsI ((k : Nat) : Int) v) vs ns → IntsAre vs (ns.map fun k : Nat => (k : Int))
  | _, _, .nil => .nil
  | _, _, .cons ⟨t, e⟩ b => by subst e; exact .cons _ t (ints_of_num b)
theorem num_of_ints : ∀ {vs : List Value} {ns : List Nat}, IntsAre vs (ns.map fun k : Nat => (k : Int)) → All2 (fun v k => IsI ((k : Nat) : Int) v) vs ns
  | _, [], .nil => .nil
  | _, k :: ns, .cons _ t b => .cons ⟨t, rfl⟩ (num_of_ints b)
section
variable {prog : Program} {w : World} {A : Around} {E : Value → Shared → Prop} {env : Env} {r : Rest} {h : Heap} {tk : Nat}
theorem sorted_num {l : Addr} {ns : List Nat} {Q : Value → Shared → Prop} (hl : NumList h l ns) (h64 : ns.length < 64)
    (k : ∀ D ns' h' tk', Kp h h' → h.get? D = none → NumList h' D ns' → ns'.Perm ns → ns'.Pairwise (· ≤ ·) → Q (.ref D) (r.at h' tk')) : wpG (model prog w) A (call (.builtin "sorted") [.ref l]) Q E (r.at h tk) := by
  refine shut fun X0 hX0 => ?_
  obtain ⟨vs, n, hl0, hvs⟩ := hl
  refine hX0 ?_
  clear hX0
  have hlen := hvs.length
  refine lift (sorted_ints (s := r.at h tk) ⟨_, hl0, rfl, _, rfl⟩ (ints_of_num hvs) (by lia) fun out ns' a1 a2 a3 => ?_)
  obtain ⟨e, he⟩ := sortedAll_at h vs out
  obtain ⟨ms, rfl⟩ : ∃ ms : List Nat, ns' = ms.map fun k : Nat => (k : Int) := by
    refine ⟨ns'.map Int.toNat, ?_⟩
    rw [List.map_map]
    conv => lhs; rw [← List.map_id ns']
    apply List.map_congr_left
    intro x hx
    obtain ⟨y, _, rfl⟩ := List.mem_map.mp (a2.mem_iff.mp hx)
    simp
  refine k (h.objs.size + 1) ms (sortedAll h vs out) _ (fun b o e => sortedAll_old e) (Heap.get?_none_of_le (Nat.le_succ _)) ⟨out.toList, e, by rw [he], num_of_ints a1⟩ ?_ ?_
  · have := a2.map Int.toNat
    simpa [List.map_map, Function.comp_def] using this
  · exact (List.pairwise_map.mp a3).imp fun h => Int.ofNat_le.mp h
end
end Mine
end

section
open PySem PySem.W PySem.Calls PyProof.Rows
open PySem.Sem (wp)
set_option maxRecDepth 100000
namespace Mine
theorem ord_lt_iff : ∀ a b : List UInt8, (ord a b == .lt) = decide (a.map (·.toNat) < b.map (·.toNat))
  | [], [] => by simp [ord, Builtin.Bytes.order]
  | [], _ :: _ => by simp [ord, Builtin.Bytes.order]
  | _ :: _, [] => by simp [ord, Builtin.Bytes.order]
  | x :: a, y :: b => by
    have ih := ord_lt_iff a b
    simp only [ord, Builtin.Bytes.order, List.map_cons] at ih ⊢
    by_cases h1 : x < y
    · have h2 : x.toNat < y.toNat := UInt8.lt_iff_toNat_lt.mp h1
      rw [if_pos h1]
      symm
      simp only [beq_self_eq_true, decide_eq_true_eq]
      exact List.cons_lt_cons_iff.mpr (.inl h2)
    · rw [if_neg h1]
      by_cases h2 : x > y
      · have h3 : y.toNat < x.toNat := UInt8.lt_iff_toNat_lt.mp h2
        rw [if_pos h2]
        symm
        rw [show (Ordering.gt == Ordering.lt) = false from rfl, decide_eq_false_iff_not, List.cons_lt_cons_iff]
        lia
      · have h3 : x = y := UInt8.le_antisymm (UInt8.not_lt.mp h2) (UInt8.not_lt.mp h1)
        subst h3
        rw [if_neg h2, ih]
        rw [decide_eq_decide, List.cons_lt_cons_iff]
        constructor
        · intro q; exact .inr ⟨rfl, q⟩
        · rintro (q | ⟨_, q⟩)
          · lia
          · exact q

@[reducible] def bytesKind : KeyKind where
  α := List Nat
  blt a b := decide (a < b)
  irrefl a := strKind.irrefl a
  trans a b c := strKind.trans a b c
  negTrans a b c := strKind.negTrans a b c
  total a b := strKind.total a b
  keyOf v := match v with | .bytes x _ => some (x.toList.map (·.toNat)) | _ => none
  dflt := []
namespace BY
theorem slot_lt : Slot "bytes" "__lt__" "bytes.__lt__" :=
  .of (owner := "bytes") (n := "__lt__") (by rw [typeLookup_type, builtinLookup_eq_fast]; kernel_rfl) (by decide +kernel) (by decide +kernel) (by decide +kernel)
    (by first | exact .inl (by decide +kernel) | exact .inr (by decide +kernel)) (by rw [isSubtype_type]; kernel_rfl)
theorem entry_lt : entryFor table "bytes.__lt__" = some Builtin.«bytes.__lt__» := by first | exact entryFor_of_fast (by kernel_rfl) | exact entryFor_of_tree (by kernel_rfl)
theorem args_lt (a b : Value) : argsOk "bytes.__lt__" ⟨[a, b], []⟩ := by unfold argsOk; kernel_rfl
theorem gives_lt (b c : Array UInt8) (t u : Tok) : Gives (Builtin.«bytes.__lt__» ⟨[.bytes b t, .bytes c u], []⟩) (.val (.bool (ord b.toList c.toList == .lt))) := by
  refine .of_wp fun M A E s Q hq => ?_
  show wpAny M A (isInstance (.bytes c u) (.type "bytes") >>= fun r => _) _ E s
  refine wpAny_bind (wpAny_isInstance (typeIs_bytes s c u) F.sub_bytes_bytes ?_)
  exact wpAny_pure ⟨_, rfl, hq⟩
section
variable {prog : Program} {w : World} {A : Around} {E : Value → Shared → Prop} {s : Shared}
theorem oneLt_bytes {a b : Array UInt8} {t u : Tok} {Q : Bool → Shared → Prop} (h : Q (decide (a.toList.map (·.toNat) < b.toList.map (·.toNat))) s) : wpAny (model prog w) A (oneLt' true (.bytes a t) (.bytes b u)) Q E s := by
  rw [oneLt'_eq]
  simp only [if_true]
  refine wpAny_bind (wpAny_cRoomFor_byValue rfl ?_)
  refine wpAny_bind (wpAny_callSpecialIfBound?_slot (typeIs_bytes s a t) slot_lt (call_gives slot_lt (typeIs_bytes s a t) entry_lt (args_lt _ _) (gives_lt a b t u) ?_))
  show wpAny _ _ _ _ _ s
  rw [← ord_lt_iff] at h
  exact wpAny_truthy_bool h
end
theorem oneLt : bytesKind.OneLt := by
  intro prog w A E s x y a b Q ha hb h
  cases x <;> simp only [bytesKind, reduceCtorEq, Option.some.injEq] at ha
  cases y <;> simp only [bytesKind, reduceCtorEq, Option.some.injEq] at hb
  cases ha; cases hb
  exact oneLt_bytes h
end BY
end Mine
end

section
open PySem PySem.W PySem.Calls PyProof.Rows PySem.SeqAt
open PySem.Sem (wp)
set_option maxRecDepth 100000
namespace Mine
noncomputable def rowOf : Value → List UInt8
  | .bytes x _ => x.toList
  | _ => []
noncomputable abbrev RowsAre (vs : List Value) (bs : List (List UInt8)) : Prop := All2 (fun v b => IsBy b.toArray v) vs bs
theorem RowsAre.all {vs : List Value} {bs : List (List UInt8)} (q : RowsAre vs bs) : ∀ v, v ∈ vs → ∃ x t, v = .bytes x t := by
  induction q with
  | nil => intro v hv; cases hv
  | cons a _ ih =>
    intro v hv
    cases hv with
    | head => exact ⟨_, a⟩
    | tail _ hv => exact ih v hv
theorem RowsAre.rows {vs : List Value} {bs : List (List UInt8)} (q : RowsAre vs bs) : vs.map rowOf = bs := by
  induction q with
  | nil => rfl
  | cons a _ ih => obtain ⟨t, rfl⟩ := a; rw [List.map_cons, ih]; rfl
theorem rowsAre_map : ∀ (vs : List Value), (∀ v, v ∈ vs → ∃ x t, v = .bytes x t) → RowsAre vs (vs.map rowOf)
  | [], _ => .nil
  | v :: vs, h => by
    obtain ⟨x, t, rfl⟩ := h v (List.mem_cons_self ..)
    exact .cons ⟨t, by simp [rowOf]⟩ (rowsAre_map vs fun u hu => h u (List.mem_cons_of_mem _ hu))
theorem RowsAre.keysOf {vs : List Value} {bs : List (List UInt8)} (hS : RowsAre vs bs) : KeysOf bytesKind (pairsOf vs) := by
  intro p hp
  rw [pairsOf_toList] at hp
  obtain ⟨x, t, e⟩ := hS.all _ (mem_zip_self hp).2
  exact ⟨x.toList.map (·.toNat), by rw [e]⟩
theorem mapM_first_rows : ∀ {vs : List Value} {bs : List (List UInt8)}, RowsAre vs bs → vs.mapM firstOfTuple' = pure (vs.map fun _ => Option.none)
  | _, _, .nil => by simp
  | _, _, .cons ⟨t, e⟩ b => by
    subst e
    rw [List.mapM_cons, show firstOfTuple' (.bytes _ t) = pure Option.none from rfl, mapM_first_rows b]; simp
theorem mapM_typeOf_rows : ∀ {vs : List Value} {bs : List (List UInt8)}, RowsAre vs bs → vs.mapM typeOf = pure (vs.map fun _ => Value.type "bytes")
  | _, _, .nil => by simp
  | _, _, .cons ⟨t, e⟩ b => by
    subst e
    rw [List.mapM_cons, mapM_typeOf_rows b]
    show (pure (Value.type "bytes") >>= fun b => pure _ >>= fun bs => pure (b :: bs)) = _
    simp
theorem keyKind_rows {v₁ v₂ : Value} {vs : List Value} {bs : List (List UInt8)} (hS : RowsAre (v₁ :: v₂ :: vs) bs) : keyKind' (v₁ :: v₂ :: vs).toArray = pure oneType' := by
  rw [keyKind'_eq, List.mapM_toArray, mapM_first_rows hS]
  simp only [map_pure, pure_bind]
  rw [if_neg (by simp), if_neg (by simp)]
  rw [oneTypeOnly'_eq, List.mapM_toArray, mapM_typeOf_rows hS]
  simp only [map_pure, pure_bind]
  have hall : ((List.map (fun _ => Value.type "bytes") (v₁ :: v₂ :: vs)).toArray.all fun x => x == Value.type "bytes") = true := by
    simp only [List.all_toArray, List.all_map, List.all_eq_true]
    intro _ _
    rfl
  have h0 : (List.map (fun _ => Value.type "bytes") (v₁ :: v₂ :: vs)).toArray[0]? = some (Value.type "bytes") := by simp
  rw [h0]
  simp only [hall, if_true, pure_bind, Option.isSome_some]
theorem KK_rows {xs : Array Keyed} {i : Nat} (hi : i < xs.size) {x : Array UInt8} {t : Tok} {q : Value} (hx : xs[i] = (.bytes x t, q)) : KK bytesKind xs i = x.toList.map (·.toNat) := by
  unfold KK; rw [getElem?_pos xs i hi, hx]; rfl
theorem sorted_out_rows {vs : List Value} {bs : List (List UInt8)} (hS : RowsAre vs bs) {xs : Array Keyed} (hp : xs.Perm (pairsOf vs)) (hs : SortedToK bytesKind xs (pairsOf vs).size) :
    ∃ bs', RowsAre (xs.map (·.2)).toList bs' ∧ bs'.Perm bs ∧ bs'.Pairwise (fun a b => ¬ b.map (·.toNat) < a.map (·.toNat)) := by
  have hl : xs.toList.Perm (vs.zip vs) := by rw [← pairsOf_toList]; exact Array.perm_iff_toList_perm.mp hp
  have hmem : ∀ p, p ∈ xs.toList → p.1 = p.2 ∧ p.1 ∈ vs := fun p hp' => mem_zip_self (hl.mem_iff.mp hp')
  refine ⟨xs.toList.map (fun p => rowOf p.1), ?_, ?_, ?_⟩
  · have e : (xs.map (·.2)).toList = xs.toList.map (·.1) := by
      rw [Array.toList_map]; exact List.map_congr_left fun p hp' => (hmem p hp').1.symm
    rw [e]
    have h1 := rowsAre_map (xs.toList.map (·.1)) (by
      intro v hv
      obtain ⟨p, hp', rfl⟩ := List.mem_map.mp hv
      exact hS.all _ (hmem p hp').2)
    rwa [List.map_map] at h1
  · have h1 := hl.map (fun p => rowOf p.1)
    have e2 : (vs.zip vs).map (fun p => rowOf p.1) = bs := by
      have : (vs.zip vs).map (fun p => rowOf p.1) = ((vs.zip vs).map Prod.fst).map rowOf := by rw [List.map_map]; rfl
      rw [this, List.map_fst_zip (Nat.le_refl _), hS.rows]
    rwa [e2] at h1
  · rw [List.pairwise_iff_getElem]
    intro i j hi hj hij
    have hi' : i < xs.size := by simpa using hi
    have hj' : j < xs.size := by simpa using hj
    have h1 := hs i j (Nat.le_of_lt hij) (by rw [← hp.size_eq]; exact hj')
    obtain ⟨x, t, ex⟩ := hS.all _ (hmem xs[i] (by simp)).2
    obtain ⟨y, u, ey⟩ := hS.all _ (hmem xs[j] (by simp)).2
    rw [KK_rows hi' (x := x) (t := t) (q := xs[i].2) (Prod.ext ex rfl), KK_rows hj' (x := y) (t := u) (q := xs[j].2) (Prod.ext ey rfl)] at h1
    change decide (y.toList.map (·.toNat) < x.toList.map (·.toNat)) = false at h1
    simp only [List.getElem_map, Array.getElem_toList]
    rw [show rowOf xs[i].1 = x.toList by rw [ex]; rfl, show rowOf xs[j].1 = y.toList by rw [ey]; rfl]
    exact of_decide_eq_false h1
theorem All2.len {α β : Type} {R : α → β → Prop} {as : List α} {bs : List β} (h : All2 R as bs) : as.length = bs.length := h.length
theorem All2.nth {α β : Type} {R : α → β → Prop} {as : List α} {bs : List β} (q : All2 R as bs) : ∀ i (h1 : i < as.length) (h2 : i < bs.length), R as[i] bs[i] := by
  induction q with
  | nil => intro i h1 _; cases h1
  | cons a _ ih =>
    intro i h1 h2
    cases i with
    | zero => exact a
    | succ i => exact ih i (Nat.lt_of_succ_lt_succ h1) (Nat.lt_of_succ_lt_succ h2)
section
variable {prog : Program} {w : World} {A : Around} {E : Value → Shared → Prop} {env : Env} {r : Rest} {h : Heap} {tk : Nat}
theorem sorted_rows {l : Addr} {bs : List (List UInt8)} {Q : Value → Shared → Prop} (hl : RowList h l bs) (h64 : bs.length < 64)
    (k : ∀ D bs' h' tk', Kp h h' → h.get? D = none → RowList h' D bs' → bs'.Perm bs → bs'.Pairwise (fun a b => ¬ b.map (·.toNat) < a.map (·.toNat)) → Q (.ref D) (r.at h' tk')) :
    wpG (model prog w) A (call (.builtin "sorted") [.ref l]) Q E (r.at h tk) := by
  refine shut fun X0 hX0 => ?_
  obtain ⟨vs, n, hl0, hvs⟩ := hl
  refine hX0 ?_
  clear hX0
  have hlen := hvs.length
  have hkk : ∀ v₁ v₂ rest, vs = v₁ :: v₂ :: rest → keyKind' (v₁ :: v₂ :: rest).toArray = pure oneType' := fun v₁ v₂ rest e => by
    subst e
    exact keyKind_rows hvs
  have key : ∀ out : Array Value, (∃ bs', RowsAre out.toList bs' ∧ bs'.Perm bs ∧ bs'.Pairwise (fun a b => ¬ b.map (·.toNat) < a.map (·.toNat))) → Q (.ref (h.objs.size + 1)) (r.at (sortedAll h vs out) tk) := fun out q => by
    refine shut fun X0 hX0 => ?_
    obtain ⟨bs', b1, b2, b3⟩ := q
    refine hX0 ?_
    clear hX0
    obtain ⟨e, he⟩ := sortedAll_at h vs out
    exact k (h.objs.size + 1) bs' (sortedAll h vs out) _ (fun b o e => sortedAll_old e) (Heap.get?_none_of_le (Nat.le_succ _)) ⟨out.toList, e, by rw [he], b1⟩ b2 b3
  refine lift (sortedK (s := r.at h tk) (κ := bytesKind) BY.oneLt ⟨_, hl0, rfl, _, rfl⟩ (RowsAre.keysOf hvs) hkk (by lia) fun st' a1 a2 => ?_)
  exact key _ (sorted_out_rows hvs a1 a2)

/-- lists whose elements are equal, one by one -/
theorem ne_same {l b : Addr} {vs us : List Value} {n m : Nat} {Q : Value → Shared → Prop} (hl : h.get? l = some (lobj vs n)) (hb : h.get? b = some (lobj us m)) (hu : A.units < cLine)
    (he : All2 (fun v u => ∀ tk, EqAt A.in1 (r.at h tk) v u true) vs us) (k : Q (.bool false) (r.at h tk)) : wpG (model prog w) A (compareOp .NotEq (.ref l) (.ref b)) Q E (r.at h tk) := by
  have hlen := he.length
  have := RcNeAt.lists (A := A) (s := r.at h tk) (l := l) (b := b) (items := vs.toArray) (items2 := us.toArray) (e := fun _ => true) ⟨_, hl, rfl, _, rfl⟩ ⟨_, hb, rfl, _, rfl⟩ (by simpa using hlen) hu
    (fun j h1 h2 => by
      have := he.nth j (by simpa using h1) (by simpa using h2) tk
      simpa using this)
  exact lift (this prog w E Q (by rw [show (List.range vs.toArray.size).all (fun _ => Bool.true) = Bool.true from by rw [List.all_eq_true]; intros; rfl]; exact k))
theorem eq_same {l b : Addr} {vs us : List Value} {n m : Nat} {Q : Value → Shared → Prop} (hl : h.get? l = some (lobj vs n)) (hb : h.get? b = some (lobj us m)) (hu : A.units < cLine)
    (he : All2 (fun v u => ∀ tk, EqAt A.in1 (r.at h tk) v u true) vs us) (k : Q (.bool true) (r.at h tk)) : wpG (model prog w) A (compareOp .Eq (.ref l) (.ref b)) Q E (r.at h tk) := by
  have hlen := he.length
  have := RcAt.lists (A := A) (s := r.at h tk) (l := l) (b := b) (items := vs.toArray) (items2 := us.toArray) (e := fun _ => true) ⟨_, hl, rfl, _, rfl⟩ ⟨_, hb, rfl, _, rfl⟩ (by simpa using hlen) hu
    (fun j h1 h2 => by
      have := he.nth j (by simpa using h1) (by simpa using h2) tk
      simpa using this)
  exact lift (this prog w E Q (by rw [show (List.range vs.toArray.size).all (fun _ => Bool.true) = Bool.true from by rw [List.all_eq_true]; intros; rfl]; exact k))
end
end Mine
end

section
open PySem PySem.W PySem.Calls PyProof.Rows PySem.SeqAt
open PySem.AutoSeq1 (wpAny_loadPart')
open PySem.MeetsSeq PySem.MeetsSeq2 PySem.MeetsSeq3
open PySem.Sem (wp)
set_option maxRecDepth 100000
namespace Mine
set_option maxHeartbeats 2000000 in
theorem lt_loopAt (l b : Addr) (items items2 : Array Value) (n n2 : Nat) (dd dd2 : Option Addr) (sl sl2 : Array (Option Value)) (ns ms : List Int) (hI : IntsAre items.toList ns) (hJ : IntsAre items2.toList ms) (k : Nat) :
    ∀ i : Nat, items.size - i = k → Meets (Builtin.«list.__eq__.loop» ⟨[.ref l, .ref b, rawInt i, rawInt 0], []⟩)
      (fun A R s => s.heap.get? l = some { cls := .type "list", dict := dd, data := .seq items n, slots := sl } ∧ s.heap.get? b = some { cls := .type "list", dict := dd2, data := .seq items2 n2, slots := sl2 } ∧
        i ≤ items.size ∧ i ≤ items2.size ∧
        R (.ok (.ret (.bool (decide (ns.drop i < ms.drop i))))) s) := by
  have hl1 : items.size = ns.length := by have := hI.length; simpa using this
  have hl2 : items2.size = ms.length := by have := hJ.length; simpa using this
  induction k with
  | zero =>
    intro i hk prog w A R s h
    refine shut fun X0 hX0 => ?_
    obtain ⟨hp, g, d, tk, os⟩ := s; obtain ⟨hl, hb, hi, hi2, h⟩ := h
    refine hX0 ?_
    clear hX0
    wp_walk using wpAny_loadPart' hl, wpAny_loadPart' hb
    have hi1 : items[((i : Nat) : Int).toNat]? = none := by simp; lia
    rw [hi1]
    wp_walk using wpAny_loadPart' hl, wpAny_loadPart' hb
    show R (.ok (.ret (.bool (decide (items.size < items2.size))))) _
    have e1 : ns.drop i = [] := List.drop_of_length_le (by lia)
    rw [e1] at h
    have e2 : decide (items.size < items2.size) = decide (([] : List Int) < ms.drop i) := by
      rw [decide_eq_decide]
      cases e3 : ms.drop i with
      | nil =>
        have := List.drop_eq_nil_iff.mp e3
        constructor
        · intro q; lia
        · intro q; exact absurd q (List.not_lt_nil _)
      | cons x r =>
        have : ¬ ms.length ≤ i := fun q => by rw [List.drop_of_length_le q] at e3; cases e3
        exact ⟨fun _ => List.nil_lt_cons _ _, fun _ => by lia⟩
    rw [e2]
    exact h
  | succ k ih =>
    intro i hk prog w A R s h
    refine shut fun X0 hX0 => ?_
    obtain ⟨hp, g, d, tk, os⟩ := s; obtain ⟨hl, hb, hi, hi2, h⟩ := h
    refine hX0 ?_
    clear hX0
    have hlt : i < items.size := by lia
    have hi1 : items[((i : Nat) : Int).toNat]? = some items[i] := by simp [hlt]
    obtain ⟨x, t, ex⟩ := hI.all items[i] (by simp)
    have exn : ns[i]? = some x := by
      have := hI.nums
      rw [← this, List.getElem?_map]
      simp [hlt, ex, numOf]
    have hdn : ns.drop i = x :: ns.drop (i + 1) := by
      rw [List.drop_eq_getElem_cons (by lia)]
      congr 1
      have := List.getElem?_eq_getElem (l := ns) (i := i) (by lia)
      rw [exn] at this
      exact (Option.some.inj this).symm
    by_cases hlt2 : i < items2.size
    · have hj1 : items2[((i : Nat) : Int).toNat]? = some items2[i] := by simp [hlt2]
      obtain ⟨y, u, ey⟩ := hJ.all items2[i] (by simp)
      have eyn : ms[i]? = some y := by
        have := hJ.nums
        rw [← this, List.getElem?_map]
        simp [hlt2, ey, numOf]
      have hdm : ms.drop i = y :: ms.drop (i + 1) := by
        rw [List.drop_eq_getElem_cons (by lia)]
        congr 1
        have := List.getElem?_eq_getElem (l := ms) (i := i) (by lia)
        rw [eyn] at this
        exact (Option.some.inj this).symm
      have hc : ((i : Int) + 1) = ((i + 1 : Nat) : Int) := by push_cast; rfl
      wp_walk using wpAny_loadPart' hl, wpAny_loadPart' hb
      rw [hi1, hj1]
      refine wpAny_bind ?_
      rw [ex, ey]
      refine EqAt.int_int x t y u prog w _ _ ?_
      rw [hdn, hdm] at h
      by_cases hxy : x = y
      · subst hxy
        rw [beq_self_eq_true]
        have e : decide (x :: ns.drop (i + 1) < x :: ms.drop (i + 1)) = decide (ns.drop (i + 1) < ms.drop (i + 1)) := by
          rw [decide_eq_decide, List.cons_lt_cons_iff]
          constructor
          · rintro (q | ⟨_, q⟩)
            · lia
            · exact q
          · intro q; exact .inr ⟨rfl, q⟩
        rw [e] at h
        wp_walk
        rw [hc]
        exact ⟨plainId_quiet plain_eq_loop _, codeAny_builtin entry_eq_loop (by
          rw [Around.under_plainId plain_eq_loop _]
          exact ih (i + 1) (by lia) prog w A R _ ⟨hl, hb, by lia, by lia, h⟩)⟩
      · rw [show (x == y) = false from by simpa using hxy]
        have e : decide (x :: ns.drop (i + 1) < y :: ms.drop (i + 1)) = decide (x < y) := by
          rw [decide_eq_decide, List.cons_lt_cons_iff]
          constructor
          · rintro (q | ⟨q, _⟩)
            · exact q
            · exact absurd q hxy
          · intro q; exact .inl q
        rw [e] at h
        wp_walk using wpAny_loadPart' hl, wpAny_loadPart' hb
        rw [hi1, hj1, ex, ey]
        show wpAny _ _ (richCompare .Lt (.int x t) (.int y u) >>= fun v => _) _ _ _
        refine wpAny_bind (PySem.P.lt_int ?_)
        wp_walk
        exact h
    · have hj1 : items2[((i : Nat) : Int).toNat]? = none := by simp; lia
      have hdm : ms.drop i = [] := List.drop_of_length_le (by lia)
      rw [hdn, hdm] at h
      wp_walk using wpAny_loadPart' hl, wpAny_loadPart' hb
      rw [hi1, hj1]
      wp_walk using wpAny_loadPart' hl, wpAny_loadPart' hb
      show R (.ok (.ret (.bool (decide (items.size < items2.size))))) _
      rw [decide_eq_false (by lia : ¬ items.size < items2.size)]
      rw [decide_eq_false (List.not_lt_nil _)] at h
      exact h

theorem list_ltAt (l b : Addr) (items items2 : Array Value) (n n2 : Nat) (dd dd2 : Option Addr) (sl sl2 : Array (Option Value)) (ns ms : List Int) (hI : IntsAre items.toList ns) (hJ : IntsAre items2.toList ms) :
    Meets (Builtin.«list.__lt__» ⟨[.ref l, .ref b], []⟩)
      (fun A R s => s.heap.get? l = some { cls := .type "list", dict := dd, data := .seq items n, slots := sl } ∧ s.heap.get? b = some { cls := .type "list", dict := dd2, data := .seq items2 n2, slots := sl2 } ∧
        R (.ok (.ret (.bool (decide (ns < ms))))) s) := by
  intro prog w A R s h
  refine shut fun X0 hX0 => ?_
  obtain ⟨hp, g, d, tk, os⟩ := s; obtain ⟨hl, hb, h⟩ := h
  refine hX0 ?_
  clear hX0
  have f3 := AutoSeq1.sub_list_list
  wp_walk using wpAny_loadPart' hl, wpAny_loadPart' hb
  exact ⟨plainId_quiet plain_eq_loop _, codeAny_builtin entry_eq_loop (by
    rw [Around.under_plainId plain_eq_loop _]
    exact lt_loopAt l b items items2 n n2 dd dd2 sl sl2 ns ms hI hJ _ 0 rfl prog w A R _ ⟨hl, hb, Nat.zero_le _, Nat.zero_le _, h⟩)⟩
theorem lt_lists {prog : Program} {w : World} {A : Around} {E : Value → Shared → Prop} {s : Shared} {Q : Value → Shared → Prop} {l b : Addr} {vs us : List Value} {n m : Nat} {ns ms : List Int} (hl : s.heap.get? l = some (lobj vs n)) (hb : s.heap.get? b = some (lobj us m)) (hI : IntsAre vs ns) (hJ : IntsAre us ms) (hu : A.units < cLine)
    (k : Q (.bool (decide (ns < ms))) s) : wpAny (model prog w) A (richCompare .Lt (.ref l) (.ref b)) Q E s :=
  richCompare_meets_room (op := .Lt) ⟨_, hl, rfl⟩ ⟨_, hb, rfl⟩ F.slot_list_lt F.entry_list_lt (F.args_list_lt_2 _ _) (list_ltAt l b vs.toArray us.toArray n m _ _ _ _ ns ms hI hJ)
    ⟨hl, hb, show Value.bool (decide (ns < ms)) ≠ Value.notImplemented ∧ Q (.bool (decide (ns < ms))) s from ⟨(fun x => nomatch x), k⟩⟩ hu
end Mine
end

section
open PySem PySem.W PySem.Calls PyProof.Rows PySem.SeqAt PySem.MeetsSeq
open PySem.Sem (wp)
set_option maxRecDepth 100000
namespace Mine
/-- a key: its length, its octets, its number -/
noncomputable abbrev Key := Nat × List Nat × Nat
inductive IsKey (h : Heap) (v : Value) (k : Key) : Prop
  | mk (a b t1 t2 us n) : v = .ref a → h.get? a = some (tobj [.int (k.1 : Nat) t1, .ref b, .int (k.2.2 : Nat) t2]) → h.get? b = some (lobj us n) → IntsAre us (k.2.1.map fun x : Nat => (x : Int)) → IsKey h v k
/-- keys grow with their numbers -/
noncomputable def KeysGrow (ks : List Key) : Prop := ∀ p q, p ∈ ks → q ∈ ks → p.2.1.length = p.1 ∧ (p.2.2 = q.2.2 → p.1 = q.1 ∧ p.2.1 = q.2.1) ∧ (p.2.2 < q.2.2 → p.1 < q.1 ∨ (p.1 = q.1 ∧ p.2.1 < q.2.1))
section
variable {prog : Program} {w : World} {A : Around} {E : Value → Shared → Prop}
theorem ints_eqAt {s : Shared} {us vs : List Value} {ns ms : List Int} (hi : IntsAre us ns) (hj : IntsAre vs ms) (hl : ns.length = ms.length) : ∃ e : Nat → Bool, (∀ j (h1 : j < us.toArray.size) (h2 : j < vs.toArray.size), EqAt A s us.toArray[j] vs.toArray[j] (e j)) ∧ ((List.range us.toArray.size).all e = decide (ns = ms)) := by
  have l1 : us.length = ns.length := by have := hi.length; simpa using this
  have l2 : vs.length = ms.length := by have := hj.length; simpa using this
  refine ⟨fun j => ns.getD j 0 == ms.getD j 0, fun j h1 h2 => ?_, ?_⟩
  · have h1' : j < us.length := by simpa using h1
    have h2' : j < vs.length := by simpa using h2
    obtain ⟨x, t, ex⟩ := hi.all us[j] (by simp)
    obtain ⟨y, u, ey⟩ := hj.all vs[j] (by simp)
    have ex' : us.toArray[j] = .int x t := by simpa using ex
    have ey' : vs.toArray[j] = .int y u := by simpa using ey
    have exn : ns.getD j 0 = x := by
      have := hi.nums
      rw [← this]
      simp [List.getD, h1', ex, numOf]
    have eyn : ms.getD j 0 = y := by
      have := hj.nums
      rw [← this]
      simp [List.getD, h2', ey, numOf]
    show EqAt A s _ _ (ns.getD j 0 == ms.getD j 0)
    rw [ex', ey', exn, eyn]
    exact EqAt.int_int x t y u
  · have e0 : us.toArray.size = ns.length := by simpa using l1
    rw [e0]
    by_cases h : ns = ms
    · subst h
      rw [decide_eq_true rfl, List.all_eq_true]
      intro j _
      simp
    · rw [decide_eq_false h]
      rw [Bool.eq_false_iff]
      intro q
      apply h
      rw [List.all_eq_true] at q
      apply List.ext_getElem hl
      intro j h1 h2
      have := q j (List.mem_range.mpr h1)
      simpa [List.getD, h1, h2] using this
theorem lex_nat : ∀ {a b : List Nat}, (a.map fun x : Nat => (x : Int)) < (b.map fun x : Nat => (x : Int)) ↔ a < b
  | [], [] => by simp
  | [], _ :: _ => by simp
  | _ :: _, [] => by simp
  | x :: a, y :: b => by
    rw [List.map_cons, List.map_cons, List.cons_lt_cons_iff, List.cons_lt_cons_iff, lex_nat, Int.ofNat_lt, Int.natCast_inj]
theorem map_inj_nat {a b : List Nat} : (a.map fun x : Nat => (x : Int)) = (b.map fun x : Nat => (x : Int)) ↔ a = b :=
  ⟨fun h => by
    have := congrArg (List.map Int.toNat) h
    simpa [List.map_map, Function.comp_def] using this, fun h => h ▸ rfl⟩
/-- keys compare as their numbers -/
theorem key_lt {s : Shared} {ks : List Key} (hg : KeysGrow ks) {v u : Value} {p q : Key} (hp : p ∈ ks) (hq : q ∈ ks) (hv : IsKey s.heap v p) (hw : IsKey s.heap u q) (hu : A.in1.units < cLine) {Q : Bool → Shared → Prop}
    (k : Q (decide (p.2.2 < q.2.2)) s) : wpAny (model prog w) A (keyLt' (tuples' true) v u) Q E s := by
  obtain ⟨a, b, t1, t2, us, n, rfl, ha, hb, hi⟩ := hv
  obtain ⟨a', b', u1, u2, us', n', rfl, ha', hb', hi'⟩ := hw
  obtain ⟨gl, ge, gl2⟩ := hg p q hp hq
  obtain ⟨gl', ge', gl2'⟩ := hg q p hq hp
  refine kat_lt ha rfl ha' rfl ?_
  show KatLex prog w A true _ Q [(.int (p.1 : Nat) t1, .int (q.1 : Nat) u1), (.ref b, .ref b'), (.int (p.2.2 : Nat) t2, .int (q.2.2 : Nat) u2)] 0 s
  have irr : ∀ l : List Nat, ¬ l < l := fun l => List.lt_irrefl l
  refine kat_cons (EqAt.int_int _ t1 _ u1 prog w _ _ (kat_go (fun e1 => kat_yes ?_) fun e1 => kat_no ?_))
  · have e1 : p.1 = q.1 := Int.ofNat.inj (eq_of_beq e1)
    have hlen : p.2.1.length = q.2.1.length := by rw [gl, gl', e1]
    by_cases e2 : p.2.1 = q.2.1
    · have e3 : p.2.2 = q.2.2 := by
        rcases Nat.lt_trichotomy p.2.2 q.2.2 with c | c | c
        · rcases gl2 c with d | ⟨_, d⟩
          · lia
          · rw [e2] at d; exact absurd d (irr _)
        · exact c
        · rcases gl2' c with d | ⟨_, d⟩
          · lia
          · rw [e2] at d; exact absurd d (irr _)
      have hEq : EqAt A s (.ref b) (.ref b') true := by
        by_cases hbb : b = b'
        · subst hbb; exact EqAt.same _
        · obtain ⟨e, he1, he2⟩ := ints_eqAt (A := A.in1) (s := s) hi hi' (by simpa using hlen)
          have h1 := hi.length
          have h2 := hi'.length
          have := RcAt.lists (A := A) (s := s) (l := b) (b := b') (items := us.toArray) (items2 := us'.toArray) (e := e) ⟨_, hb, rfl, _, rfl⟩ ⟨_, hb', rfl, _, rfl⟩ (by simp at h1 h2 ⊢; lia) (by have : A.in1.units = A.units + 1 := rfl; lia) he1
          rw [he2, decide_eq_true (map_inj_nat.mpr e2)] at this
          exact EqAt.of_refs hbb this
      refine kat_cons (hEq prog w _ _ (kat_yes ?_))
      refine kat_cons (EqAt.int_int _ t2 _ u2 prog w _ _ ?_)
      rw [show (((p.2.2 : Nat) : Int) == ((q.2.2 : Nat) : Int)) = true by rw [e3]; simp]
      refine kat_yes (kat_nil ?_)
      rw [e3] at k
      simpa using k
    · have hEq : EqAt A s (.ref b) (.ref b') false := by
        have hbb : b ≠ b' := by
          rintro rfl
          rw [hb] at hb'
          have h1 : us = us' := by
            have := Option.some.inj hb'
            exact (by simpa using congrArg Obj.data this : us = us' ∧ n = n').1
          subst h1
          apply e2
          have := hi.nums
          have h2 := hi'.nums
          rw [this] at h2
          exact map_inj_nat.mp h2
        obtain ⟨e, he1, he2⟩ := ints_eqAt (A := A.in1) (s := s) hi hi' (by simpa using hlen)
        have h1 := hi.length
        have h2 := hi'.length
        have := RcAt.lists (A := A) (s := s) (l := b) (b := b') (items := us.toArray) (items2 := us'.toArray) (e := e) ⟨_, hb, rfl, _, rfl⟩ ⟨_, hb', rfl, _, rfl⟩ (by simp at h1 h2 ⊢; lia) (by have : A.in1.units = A.units + 1 := rfl; lia) he1
        rw [he2, decide_eq_false (fun q => e2 (map_inj_nat.mp q))] at this
        exact EqAt.of_refs hbb this
      refine kat_cons (hEq prog w _ _ (kat_no ?_))
      refine kat_one _ _ (lt_lists hb hb' hi hi' (by have : A.in1.units = A.units + 1 := rfl; lia) ?_)
      show Q _ s
      have e5 : decide ((p.2.1.map fun x : Nat => (x : Int)) < (q.2.1.map fun x : Nat => (x : Int))) = decide (p.2.2 < q.2.2) := by
        rw [decide_eq_decide, lex_nat]
        constructor
        · intro l
          rcases Nat.lt_trichotomy p.2.2 q.2.2 with c | c | c
          · exact c
          · exact absurd (ge c).2 e2
          · rcases gl2' c with d | ⟨_, d⟩
            · lia
            · exact absurd (List.lt_trans d l) (irr _)
        · intro c
          rcases gl2 c with d | ⟨_, d⟩
          · lia
          · exact d
      rw [e5]
      exact k
  · have e1 : p.1 ≠ q.1 := fun c => by rw [c] at e1; simp at e1
    show wpAny (model prog w) A (oneLt' true _ _) Q _ s
    refine oneLt_int ?_
    have e5 : decide (((p.1 : Nat) : Int) < ((q.1 : Nat) : Int)) = decide (p.2.2 < q.2.2) := by
      rw [decide_eq_decide, Int.ofNat_lt]
      constructor
      · intro l
        rcases Nat.lt_trichotomy p.2.2 q.2.2 with c | c | c
        · exact c
        · exact absurd (ge c).1 e1
        · rcases gl2' c with d | ⟨d, _⟩ <;> lia
      · intro c
        rcases gl2 c with d | ⟨d, _⟩
        · exact d
        · exact absurd d e1
    rw [e5]
    exact k
noncomputable def KeyList (h : Heap) (l : Addr) (ks : List Key) : Prop := ∃ vs n, h.get? l = some (lobj vs n) ∧ All2 (IsKey h) vs ks
noncomputable def allBut (h₀ h : Heap) (L : Addr) : List (Addr × Obj) := (List.range h.objs.size).filterMap fun a => if a = L then none else match h₀.get? a with
  | some _ => none
  | none => (h.get? a).map fun o => (a, o)
theorem allBut_iff {h₀ h : Heap} {L : Addr} {p : Addr × Obj} : p ∈ allBut h₀ h L ↔ p.1 ≠ L ∧ h₀.get? p.1 = none ∧ h.get? p.1 = some p.2 := by
  unfold allBut
  rw [List.mem_filterMap]
  constructor
  · rintro ⟨a, ha, e⟩
    by_cases h1 : a = L
    · rw [if_pos h1] at e; cases e
    · rw [if_neg h1] at e
      cases h2 : h₀.get? a with
      | some o => rw [h2] at e; cases e
      | none =>
        rw [h2] at e
        cases h3 : h.get? a with
        | none => rw [h3] at e; cases e
        | some o =>
          rw [h3] at e
          cases e
          exact ⟨h1, h2, h3⟩
  · rintro ⟨h1, h2, h3⟩
    refine ⟨p.1, List.mem_range.mpr (Heap.lt_size h3), ?_⟩
    rw [if_neg h1, h2, h3]
    rfl
theorem allBut_news (h₀ h : Heap) (L : Addr) : News h₀ L h (allBut h₀ h L) := fun p hp => let ⟨a, b, c⟩ := allBut_iff.mp hp; ⟨c, a, b⟩
end
end Mine
end

section
open PySem PySem.W PySem.Calls PyProof.Rows PySem.SeqAt PySem.MeetsSeq
open PySem.Sem (wp)
set_option maxRecDepth 100000
namespace Mine
theorem Ns.ne_seq {h : Heap} {L a : Addr} {m : Str → Option Value} {o : Obj} {xs : Array Value} {n : Nat} (hn : h.Ns L m) (ha : h.get? a = some o) (hd : o.data = .seq xs n) : a ≠ L := by
  rintro rfl
  refine shut fun X0 hX0 => ?_
  obtain ⟨o', es, ep, h1, h2, _⟩ := hn
  refine hX0 ?_
  clear hX0
  rw [ha] at h1
  cases h1
  rw [hd] at h2
  cases h2
theorem IsKey.keepL {h h' : Heap} {L : Addr} {m : Str → Option Value} {v : Value} {p : Key} (x : IsKey h v p) (hn : h.Ns L m) (k : ∀ b o, b ≠ L → h.get? b = some o → h'.get? b = some o) : IsKey h' v p := by
  cases x with
  | mk a b t1 t2 us n e ha hb i => exact .mk a b t1 t2 us n e (k _ _ (Ns.ne_seq hn ha rfl) ha) (k _ _ (Ns.ne_seq hn hb rfl) hb) i
theorem All2.sub {α β : Type} {R : α → β → Prop} {as : List α} {bs : List β} {d : α} {e : β} (h : All2 R as bs) : ∀ (ps : List Nat), (∀ i, i ∈ ps → i < as.length) → All2 R (ps.map fun i => as.getD i d) (ps.map fun i => bs.getD i e)
  | [], _ => .nil
  | i :: ps, hi => by
    have h1 : i < as.length := hi i (List.mem_cons_self ..)
    have h2 : i < bs.length := by have := h.length; lia
    refine .cons ?_ (All2.sub h ps fun j hj => hi j (List.mem_cons_of_mem _ hj))
    have e1 : as.getD i d = as[i] := by simp [List.getD, h1]
    have e2 : bs.getD i e = bs[i] := by simp [List.getD, h2]
    show R (as.getD i d) (bs.getD i e)
    rw [e1, e2]
    exact h.nth i h1 h2
theorem range_getD {α : Type} (l : List α) (d : α) : (List.range l.length).map (fun i => l.getD i d) = l := by
  apply List.ext_getElem
  · simp
  · intro i h1 h2
    simp [List.getD, h2]
theorem katTups_of {h : Heap} {vs : List Value} {ks : List Key} (q : All2 (IsKey h) vs ks) : ∃ fs, KatTups h vs fs ∧ fs.length = vs.length ∧ ∀ v ∈ fs, ∃ i t, v = .int i t := by
  induction q with
  | nil => exact ⟨[], KatTups.nil, rfl, fun v hv => by cases hv⟩
  | cons a _ ih =>
    refine shut fun X0 hX0 => ?_
    obtain ⟨fs, f1, f2, f3⟩ := ih
    refine hX0 ?_
    clear hX0
    cases a with
    | mk a b t1 t2 us n e ha hb i =>
      subst e
      refine ⟨_ :: fs, KatTups.cons ha rfl rfl rfl f1, congrArg (· + 1) f2, fun v hv => ?_⟩
      cases hv with
      | head => exact ⟨_, _, rfl⟩
      | tail _ hv => exact f3 v hv
section
variable {prog : Program} {w : World} {A : Around} {E : Value → Shared → Prop} {r : Rest} {h h₀ : Heap} {L : Addr} {m : Str → Option Value} {tk : Nat}
theorem sorted_keys {l : Addr} {ks : List Key} {Q : Value → Shared → Prop} (F : Fr h₀ L h m) (hl : KeyList h l ks) (h2 : 2 ≤ ks.length) (h64 : ks.length < 64) (hg : KeysGrow ks) (hu : A.in1.in1.in1.units < cLine)
    (k : ∀ D ks' h' tk', (∀ b o, b ≠ L → h.get? b = some o → h'.get? b = some o) → Fr h₀ L h' m → h.get? D = none → D ≠ L → KeyList h' D ks' → ks'.Perm ks → ks'.Pairwise (fun a b => a.2.2 ≤ b.2.2) → Q (.ref D) (r.at h' tk')) :
    wpG (model prog w) A (call (.builtin "sorted") [.ref l]) Q E (r.at h tk) := by
  refine shut fun X0 hX0 => ?_
  obtain ⟨vs, n, hl0, hvs⟩ := hl
  refine hX0 ?_
  clear hX0
  have hlen := hvs.length
  refine lift (kat_sorted (s := r.at h tk) F (allBut_news h₀ h L) ⟨_, hl0, rfl, _, rfl⟩ (by lia) (by lia) fun D e1 h' F' N' hD => ?_)
  have kp : ∀ b o, b ≠ L → h.get? b = some o → h'.get? b = some o := fun b o hb e => by
    cases h1 : h₀.get? b with
    | some o' =>
      have := F.keep b o' h1
      rw [this] at e; cases e
      exact F'.keep b _ h1
    | none => exact (N' (b, o) (List.mem_cons_of_mem _ (allBut_iff.mpr ⟨hb, h1, e⟩))).1
  have hN := N' (D, seqObj "list" #[] e1) (.head _)
  have hvs' : All2 (IsKey h') vs ks := hvs.mono fun _ _ c => c.keepL F.ns kp
  refine shut fun X0 hX0 => ?_
  obtain ⟨fs, f1, f2, f3⟩ := katTups_of hvs'
  refine hX0 ?_
  clear hX0
  refine kat_kind (s := r.at h' tk) (T := .type "int") f1 (by lia) (fun v hv => ?_) rfl ?_
  · obtain ⟨i, t, rfl⟩ := f3 v hv
    exact .now
  have eT : (Value.type "int" != Value.type "tuple") = true := by decide
  rw [eT]
  have hDn : h.get? D = none := by
    cases h3 : h.get? D with
    | none => rfl
    | some o =>
      have := hD (D, o) (allBut_iff.mpr ⟨hN.2.1, hN.2.2, h3⟩)
      exact absurd this (Nat.lt_irrefl _)
  have hmem : ∀ i (hi : i < ks.length), ks[i] ∈ ks := fun i hi => List.getElem_mem hi
  refine kw_use (key := fun i => (ks.getD i (0, [], 0)).2.2) (n := vs.length) (I := fun s => s = r.at h' tk) ?_ _ _ rfl (kw_mono ?_ _ (kw_sort (by lia)))
  · rintro i j C _ hi hj rfl hC
    have hi' : i < ks.length := by lia
    have hj' : j < ks.length := by lia
    have e1 : vs.getD i Value.none = vs[i] := by simp [List.getD, hi]
    have e2 : vs.getD j Value.none = vs[j] := by simp [List.getD, hj]
    have e3 : ks.getD i (0, [], 0) = ks[i] := by simp [List.getD, hi']
    have e4 : ks.getD j (0, [], 0) = ks[j] := by simp [List.getD, hj']
    have := hC _ rfl
    rw [e3, e4] at this
    unfold kas_ask
    rw [e1, e2]
    exact key_lt hg (hmem i hi') (hmem j hj') (hvs'.nth i hi hi') (hvs'.nth j hj hj') hu this
  · rintro p ⟨hp, hs⟩ _ rfl
    have hps : p.size = vs.length := hp.size
    have hpm : ∀ i, i ∈ p.toList → i < vs.length := fun i hi => by simpa using hp.mem_iff.mp hi
    refine KasFin.intro (s := r.at h' tk) F' N' (.head fun q hq => Nat.ne_of_lt (hD q hq)) fun h'' c F'' N'' => ?_
    have kp2 : ∀ b o, b ≠ L → h.get? b = some o → h''.get? b = some o := fun b o hb e => by
      cases h1 : h₀.get? b with
      | some o' =>
        have := F.keep b o' h1
        rw [this] at e; cases e
        exact F''.keep b _ h1
      | none => exact (N'' (b, o) (List.mem_cons_of_mem _ (allBut_iff.mpr ⟨hb, h1, e⟩))).1
    refine k D (p.toList.map fun i => ks.getD i (0, [], 0)) h'' tk kp2 F'' hDn hN.2.1 ⟨_, c, (N'' _ (.head _)).1, ?_⟩ ?_ ?_
    · exact All2.sub (hvs.mono fun _ _ c => c.keepL F.ns kp2) _ hpm
    · have := hp.map (fun i => ks.getD i (0, [], 0))
      rw [hlen, range_getD] at this
      exact this
    · rw [List.pairwise_iff_getElem]
      intro i j hi hj hij
      have hi' : i < p.size := by simpa using hi
      have hj' : j < p.size := by simpa using hj
      have := hs i j (Nat.le_of_lt hij) (by lia)
      unfold kv at this
      simpa [Array.getD, hi', hj'] using this
end
end Mine
end

section
open PySem PySem.W PySem.Calls PyProof.Rows PySem.SeqAt PySem.MeetsSeq
open PySem.Sem (wp)
set_option maxRecDepth 100000
namespace Mine
theorem All2.join {α β γ : Type} {R : α → γ → Prop} {R' : β → γ → Prop} {T : α → β → Prop} (f : ∀ a b c, R a c → R' b c → T a b) {as : List α} {cs : List γ} (x : All2 R as cs) : ∀ {bs : List β}, All2 R' bs cs → All2 T as bs := by
  induction x with
  | nil => intro bs y; cases y; exact .nil
  | cons a _ ih =>
    intro bs y
    cases y with
    | cons c d => exact .cons (f _ _ _ a c) (ih d)
/-- a tuple of two numbers -/
inductive IsDuo (h : Heap) (v : Value) (p : Nat × Nat) : Prop
  | mk (a t1 t2) : v = .ref a → h.get? a = some (tobj [.int (p.1 : Nat) t1, .int (p.2 : Nat) t2]) → IsDuo h v p
theorem IsDuo.keep {h h' : Heap} {v : Value} {p : Nat × Nat} (x : IsDuo h v p) (k : ∀ a l, h.get? a = some (tobj l) → h'.get? a = some (tobj l)) : IsDuo h' v p := by
  cases x with
  | mk a t1 t2 e ha => exact .mk a t1 t2 e (k _ _ ha)
section
variable {prog : Program} {w : World} {A : Around} {E : Value → Shared → Prop} {env : Env} {r : Rest} {h h₀ : Heap} {L : Addr} {m : Str → Option Value} {tk : Nat}
theorem bytes_same (b : Array UInt8) (t u : Tok) : EqAt A (r.at h tk) (.bytes b t) (.bytes b u) true := fun prog w E Q hq =>
  eqBool_bytes (by rw [decide_eq_true rfl]; exact hq)
theorem rows_same {vs us : List Value} {bs : List (List UInt8)} (x : All2 (fun v b => IsBy b.toArray v) vs bs) (y : All2 (fun v b => IsBy b.toArray v) us bs) : All2 (fun v u => ∀ tk, EqAt A (r.at h tk) v u true) vs us :=
  x.join (fun v u b hv hu tk => by obtain ⟨t, rfl⟩ := hv; obtain ⟨t', rfl⟩ := hu; exact bytes_same _ _ _) y
theorem nums_same {vs us : List Value} {ns : List Nat} (x : All2 (fun v k => IsI ((k : Nat) : Int) v) vs ns) (y : All2 (fun v k => IsI ((k : Nat) : Int) v) us ns) : All2 (fun v u => ∀ tk, EqAt A (r.at h tk) v u true) vs us :=
  x.join (fun v u b hv hu tk => by
    obtain ⟨t, rfl⟩ := hv; obtain ⟨t', rfl⟩ := hu
    have := EqAt.int_int (A := A) (s := r.at h tk) (b : Nat) t (b : Nat) t'
    rwa [beq_self_eq_true] at this) y
theorem duos_same {vs us : List Value} {ps : List (Nat × Nat)} (hu : A.units < cLine) (x : All2 (IsDuo h) vs ps) (y : All2 (IsDuo h) us ps) : All2 (fun v u => ∀ tk, EqAt A (r.at h tk) v u true) vs us :=
  x.join (fun v u p hv hw tk => by
    obtain ⟨a, t1, t2, rfl, ha⟩ := hv
    obtain ⟨b, u1, u2, rfl, hb⟩ := hw
    by_cases hab : a = b
    · subst hab; exact EqAt.same _
    · have := RcAt.tuples (A := A) (s := r.at h tk) (l := a) (b := b) (e := fun _ => true) ⟨_, ha, rfl, _, rfl⟩ ⟨_, hb, rfl, _, rfl⟩ hu (fun j h1 h2 => by
        have hj : j = 0 ∨ j = 1 := by simp at h1; lia
        rcases hj with rfl | rfl
        · have := EqAt.int_int (A := A.in1) (s := r.at h tk) (p.1 : Nat) t1 (p.1 : Nat) u1
          rwa [beq_self_eq_true] at this
        · have := EqAt.int_int (A := A.in1) (s := r.at h tk) (p.2 : Nat) t2 (p.2 : Nat) u2
          rwa [beq_self_eq_true] at this)
      exact EqAt.of_refs hab this) y

/-- sequences stay, but for those of a list -/
noncomputable def Ks (X : List Addr) (h h' : Heap) : Prop := ∀ b o, b ∉ X → (∃ xs n, o.data = .seq xs n) → h.get? b = some o → h'.get? b = some o
theorem Ks.trans {X : List Addr} {a b c : Heap} (x : Ks X a b) (y : Ks X b c) : Ks X a c := fun i l n q e => y i l n q (x i l n q e)
theorem Kp.ks {X : List Addr} {h h' : Heap} (x : Kp h h') : Ks X h h' := fun _ _ _ _ e => x _ _ e
theorem ns_not_seq {h : Heap} {L b : Addr} {m : Str → Option Value} {o : Obj} (hn : h.Ns L m) (e : h.get? b = some o) (q : ∃ xs n, o.data = .seq xs n) : b ≠ L := by
  obtain ⟨xs, n, q⟩ := q
  exact Ns.ne_seq hn e q

theorem codeG_compT {elt iter : Expr} {elts : List Expr} {tk0 : Nat} {tpos : Pos} {scope : Scope} {pos : Pos} {I : Addr} {acc : Value} {fp wr : List Addr} {n : Nat} {Pt : Nat → Array Value → Prop} {St : Nat → Heap → Prop} {Mid : Nat → Addr → Heap → Prop} {cenv : Env} {R : Result → Shared → Prop}
    (W : WalksT prog w A I fp wr n Pt St Mid) (Inv : Nat → Heap → Prop) (hst : ∀ i h, Inv i h → St i h)
    (turn : ∀ i h T vals h' tk', i < n → Inv i h → Pt i vals → h.objs.size ≤ T → h'.IsTuple T vals → St (i + 1) h' → KpB wr h h' →
      wpG (model prog w) A (assign (.Tuple elts tk0 tpos) cenv (.ref T)) (fun _ s₂ => wpG (model prog w) A (eval elt cenv) (fun y s₃ => wpG (model prog w) A (call (.builtin "list.append") [acc, y]) (fun _ s₄ => ∃ h₄ tk₄, s₄ = r.at h₄ tk₄ ∧ Inv (i + 1) h₄) (fun _ _ => False) s₃) (fun _ _ => False) s₂) (fun _ _ => False) (r.at h' tk'))
    (done : ∀ h h' tk', Inv n h → KpB wr h h' → R (.ok .next) (r.at h' tk')) :
    ∀ {h : Heap} {tk : Nat}, Inv 0 h → codeG (model prog w) A (.compLoop (.ListComp elt [⟨.Tuple elts tk0 tpos, iter, [], 0⟩] scope pos) 0 (.ref I) acc cenv) R (r.at h tk) := by
  have all : ∀ k i h tk, n - i = k → i ≤ n → Inv i h → codeG (model prog w) A (.compLoop (.ListComp elt [⟨.Tuple elts tk0 tpos, iter, [], 0⟩] scope pos) 0 (.ref I) acc cenv) R (r.at h tk) := by
    intro k
    induction k with
    | zero =>
      intro i h tk hk hi hI
      obtain rfl : i = n := by lia
      refine codeG_of_tree ?_
      show wpG _ A ((compTurn (.ListComp elt [⟨.Tuple elts tk0 tpos, iter, [], 0⟩] scope pos) 0 (.ref I) acc cenv).onRaise (fun x => do noteFrame x cenv; theTreesLotGoes x)) _ _ _
      refine g_onRaise ?_
      rw [compTurn_list1]
      refine g_bind (g_standAt (g_bind (lift (W.done (r.at h tk) _ _ (hst _ _ hI) fun h' tk' k' => ?_))))
      exact g_pure (done h h' tk' hI k')
    | succ k ih =>
      intro i h tk hk hi hI
      refine codeG_of_tree ?_
      show wpG _ A ((compTurn (.ListComp elt [⟨.Tuple elts tk0 tpos, iter, [], 0⟩] scope pos) 0 (.ref I) acc cenv).onRaise (fun x => do noteFrame x cenv; theTreesLotGoes x)) _ _ _
      refine g_onRaise ?_
      rw [compTurn_list1]
      refine g_bind (g_standAt (g_bind (lift (W.item i (r.at h tk) _ _ (by lia) (hst _ _ hI) fun T vals h' tk' hP hT hTt hM k' => ?_))))
      refine g_bind (lift (W.go elts tk0 tpos i T (r.at h' tk') _ _ hM fun h'' hS k'' => ?_))
      have hTn := W.apart i T h' hM
      have hTt' : h''.IsTuple T vals := by
        obtain ⟨o, e, q⟩ := hTt
        exact ⟨o, k'' _ _ hTn e, q⟩
      refine (g_bind (g_mono (turn i h T vals h'' tk' (by lia) hI hP hT hTt' hS fun b o hb e => k'' b o hb (k' b o hb e)) (fun _ s₂ h₂ => ?_) fun _ _ z => z.elim) : wpG _ _ _ _ _ _)
      refine g_bind (g_bind (g_mono h₂ (fun y s₃ h₃ => g_bind (g_mono h₃ (fun _ s₄ h₄ => g_pure ?_) fun _ _ z => z.elim)) fun _ _ z => z.elim))
      obtain ⟨h₄, tk₄, rfl, hI'⟩ := h₄
      exact g_pure ⟨rfl, rfl, ih (i + 1) h₄ tk₄ (by lia) (by lia) hI'⟩
  intro h tk h0
  exact all _ 0 h tk rfl (Nat.zero_le _) h0

/-- the list of a comprehension over tuples handed out, collected -/
theorem g_collectT {elt iter : Expr} {elts : List Expr} {tk0 : Nat} {tpos : Pos} {scope : Scope} {pos : Pos} {cl : List (Str × Addr)} {I : Addr} {fp wr : List Addr} {n : Nat} {Pt : Nat → Array Value → Prop} {St : Nat → Heap → Prop} {Mid : Nat → Addr → Heap → Prop} {h₂ : Heap} {RR : Value → Addr → Result → Shared → Prop}
    (W : WalksT prog w A I fp wr n Pt St Mid) (hn : n ≤ 10000) (Y : Nat → Value → Heap → Prop) {X : List Addr} (hX : h₂.objs.size ∈ X) (hw : ∀ i h b o, St i h → b ∉ X → (∃ xs n, o.data = .seq xs n) → h.get? b = some o → b ∉ wr) (hXS : ∀ i h b, St i h → b ∈ X → b ≠ h₂.objs.size → h.get? b ≠ none)
    (hY : ∀ i y h h', Ks X h h' → Y i y h → Y i y h')
    (hcell : ∀ y ∈ scope.names, y.2 ≠ .cell) (hkind : scope.kind = .function) (hst : St 0 h₂) (hfp : ∀ b ∈ fp, h₂.get? b ≠ none)
    (turn : ∀ C i T vals h' tk' m, i < n → Pt i vals → h'.IsTuple T vals → h'.Ns C m → h₂.get? C = none → h₂.objs.size ≤ C → KpB wr h₂ h' → St (i + 1) h' → (∀ b ∈ X, h'.get? b ≠ none) →
      wpG (model prog w) A (assign (.Tuple elts tk0 tpos) (compEnvC scope cl C env) (.ref T)) (fun _ s => ∃ h'' tk'' m'', s = r.at h'' tk'' ∧ KpB [C] h' h'' ∧ h''.Ns C m'' ∧ Ek (model prog w) A (compEnvC scope cl C env) r h'' elt (fun y h3 => Y i y h3)) (fun _ _ => False) (r.at h' tk'))
    (hRR : ∀ C h' tk' m' ys nn, h₂.get? C = none → h₂.objs.size ≠ C → h'.Ns C m' → h'.get? h₂.objs.size = some (lobj ys nn) → ys.length = n → (∀ i y, ys[i]? = some y → Y i y h') → KpB wr h₂ h' → RR (.ref h₂.objs.size) C (.ok .next) (r.at h' tk')) :
    wpG (model prog w) A (newList []) (fun acc s₃ => wpG (model prog w) A (newFunctionEnv scope env.globals cl [] env.qual none .none (some env)) (fun cenv s₄ =>
      codeG (model prog w) A (.compStart (.ListComp elt [⟨.Tuple elts tk0 tpos, iter, [], 0⟩] scope pos) 0 (.ref I) acc { cenv with scope := relabel scope env }) (RR acc cenv.locals) s₄) E s₃) E (r.at h₂ tk) := by
  refine lift (wpAny_newObj_type (s := r.at h₂ tk) (lift (wpAny_newFunctionEnv (s := r.at (h₂.push (lobj [] 0)) tk) hcell (by intro y hy; simp at hy) (fun h₃ hns hsb => ?_) hkind) : wpG _ _ _ _ _ _) (by rw [show sizeOk _ = (0 ≤ sizeLine) from rfl]; exact Nat.zero_le _))
  have hsz : (h₂.push (lobj [] 0)).objs.size = h₂.objs.size + 1 := Heap.size_push _ _
  have hns' : h₃.Ns (h₂.objs.size + 1) _ := hsz ▸ hns
  have hDn : h₂.get? h₂.objs.size = none := Heap.get?_none_of_le (Nat.le_refl _)
  have hCn : h₂.get? (h₂.objs.size + 1) = none := Heap.get?_none_of_le (Nat.le_succ _)
  have hDC : h₂.objs.size ≠ h₂.objs.size + 1 := Nat.ne_of_lt (Nat.lt_succ_self _)
  have k3 : Kp h₂ h₃ := fun b o e => hsb.extBut b o (by rw [show (r.at (h₂.push (lobj [] 0)) tk).heap.objs.size = h₂.objs.size + 1 from hsz]; exact Nat.ne_of_lt (Nat.lt_succ_of_lt (Heap.lt_size e))) (Heap.get?_push_of_some _ (Heap.get?_push_of_some _ e))
  have hD3 : h₃.get? h₂.objs.size = some (lobj [] 0) := hsb.extBut _ _ (by rw [show (r.at (h₂.push (lobj [] 0)) tk).heap.objs.size = h₂.objs.size + 1 from hsz]; exact hDC) (Heap.get?_push_of_some _ (Heap.get?_push_size _ rfl))
  have hDf : h₂.objs.size ∉ fp := fun q => hfp _ q hDn
  have hCf : h₂.objs.size + 1 ∉ fp := fun q => hfp _ q hCn
  have hDw : h₂.objs.size ∉ wr := fun q => hDf (W.sub _ q)
  have hCw : h₂.objs.size + 1 ∉ wr := fun q => hCf (W.sub _ q)
  have loop : ∀ tk, codeG (model prog w) A (.compLoop (.ListComp elt [⟨.Tuple elts tk0 tpos, iter, [], 0⟩] scope pos) 0 (.ref I) (.ref h₂.objs.size) (compEnvC scope cl (h₂.objs.size + 1) env)) (RR (.ref h₂.objs.size) (h₂.objs.size + 1)) (r.at h₃ tk) := by
    intro tk
    refine codeG_compT W (fun i h' => ∃ m' ys nn, St i h' ∧ h'.Ns (h₂.objs.size + 1) m' ∧ h'.get? h₂.objs.size = some (lobj ys nn) ∧ ys.length = i ∧ (∀ j y, ys[j]? = some y → Y j y h') ∧ KpB wr h₂ h') ?_ ?_ ?_ ?_
    · rintro i h' ⟨_, _, _, a, _⟩; exact a
    · rintro i h' T vals h4 tk4 hi ⟨m', ys, nn, hSt, hns4, hD, hlen, hys, kb0⟩ hP hT0 hT hS kb
      have hns5 : h4.Ns (h₂.objs.size + 1) m' := by
        refine shut fun X0 hX0 => ?_
        obtain ⟨o, es, ep, e1, r⟩ := hns4
        refine hX0 ?_
        clear hX0
        exact ⟨o, es, ep, kb _ _ hCw e1, r⟩
      have hD4 := kb _ _ hDw hD
      refine g_mono (turn (h₂.objs.size + 1) i T vals h4 tk4 m' hi hP hT hns5 hCn (Nat.le_succ _) (kb0.trans kb) hS fun b hb => ?_) (fun _ s hs => ?_) fun _ _ z => z
      · by_cases hbD : b = h₂.objs.size
        · subst hbD; rw [hD4]; exact Option.some_ne_none _
        · exact hXS _ _ _ hS hb hbD
      obtain ⟨h5, tk5, m5, rfl, kb5, ns5, ek⟩ := hs
      refine ek.run fun y h6 tk6 kp6 hy => ?_
      have hD6 : h6.get? h₂.objs.size = some (lobj ys nn) := kp6 _ _ (kb5 _ _ (nm (hDC)) hD4)
      refine append_g hD6 (by lia) fun h7 n7 hD7 sb7 => ⟨h7, tk6, rfl, m5, ys ++ [y], n7, ?_, ?_, hD7, by simp [hlen], ?_, ?_⟩
      · refine W.frame _ _ _ hS fun b hb o e => (sb7.2 b (fun q => hDf (q ▸ hb))).trans (kp6 _ _ (kb5 _ _ (by simp only [List.mem_singleton]; exact fun q => hCf (q ▸ hb)) e))
      · obtain ⟨o, es, ep, e1, r⟩ := ns5
        exact ⟨o, es, ep, (sb7.2 _ (Ne.symm hDC)).trans (kp6 _ _ e1), r⟩
      · have q67 : Ks X h6 h7 := fun b l hb _ e => (sb7.2 b (by rintro rfl; exact hb hX)).trans e
        have q46 : Ks X h4 h6 := fun b l _ hq e => kp6 _ _ (kb5 _ _ (by simpa using ns_not_seq hns5 e hq) e)
        have q04 : Ks X h' h4 := fun b l hn hq e => kb _ _ (hw _ _ b l hSt hn hq e) e
        intro j z hz
        rcases Nat.lt_or_ge j ys.length with hj | hj
        · rw [List.getElem?_append_left hj] at hz
          exact hY _ _ _ _ ((q04.trans q46).trans q67) (hys j z hz)
        · rw [List.getElem?_append_right hj] at hz
          have hj0 : j = ys.length := by
            rcases Nat.eq_zero_or_pos (j - ys.length) with q | q
            · lia
            · rw [List.getElem?_eq_none (by show 1 ≤ _; exact q)] at hz; cases hz
          subst hj0
          simp at hz
          subst hz
          rw [hlen]
          exact hY _ _ _ _ q67 hy
      · intro b o hb e
        have hb1 : b ≠ h₂.objs.size := by rintro rfl; rw [hDn] at e; cases e
        have hb2 : b ≠ h₂.objs.size + 1 := by rintro rfl; rw [hCn] at e; cases e
        exact (sb7.2 b hb1).trans (kp6 _ _ (kb5 _ _ (nm (hb2)) (kb _ _ hb (kb0 _ _ hb e))))
    · rintro h' h4 tk4 ⟨m', ys, nn, hSt, hns4, hD, hlen, hys, kb0⟩ kb
      refine hRR _ h4 tk4 m' ys nn hCn hDC ?_ (kb _ _ hDw hD) hlen (fun j y hy => hY _ _ _ _ (fun b l hn hq e => kb _ _ (hw _ _ b l hSt hn hq e) e) (hys j y hy)) (kb0.trans kb)
      refine shut fun X0 hX0 => ?_
      obtain ⟨o, es, ep, e1, r⟩ := hns4
      refine hX0 ?_
      clear hX0
      exact ⟨o, es, ep, kb _ _ hCw e1, r⟩
    · refine ⟨_, [], 0, W.frame _ _ _ hst fun b _ o e => k3 _ _ e, hns', hD3, rfl, fun j y hy => by simp at hy, k3.but⟩
  show codeG (model prog w) A (.compStart _ 0 (.ref I) (.ref h₂.objs.size) (compEnvC scope cl (h₂.push (lobj [] 0)).objs.size env)) (RR (.ref h₂.objs.size) (h₂.push (lobj [] 0)).objs.size) (r.at h₃ _)
  rw [hsz]
  exact codeG_compStart (loop _) (lift (W.self 0 _ _ _ (W.frame _ _ _ hst fun b _ o e => k3 _ _ e) (loop _)))
end
end Mine
end

section
open PySem PySem.W PySem.Calls PyProof.Rows PySem.SeqAt PySem.MeetsSeq
open PySem.Sem (wp)
set_option maxRecDepth 100000
namespace Mine
section
variable {prog : Program} {w : World} {A : Around} {E : Value → Shared → Prop} {env : Env} {r : Rest} {h h₀ : Heap} {L : Addr} {m : Str → Option Value} {news : List (Addr × Obj)} {tk : Nat}
theorem istup {a : Addr} {vs : Array Value} (x : h.IsTuple a vs) : IsTup h a vs := x
theorem assign_pair {x y : Str} {px py p : Pos} {k : Nat} {a : Addr} {v1 v2 : Value} {Q : Unit → Shared → Prop} (hh : A.handled = none) (ha : h.IsTuple a #[v1, v2]) (S : Fm h₀ L m news h)
    (kk : ∀ h' tk', KpB [L] h h' → Fm h₀ L (upd (upd m x v1) y v2) news h' → Q () (r.at h' tk')) (hL : env.locals = L := by rfl)
    (hk : env.scope.kind = .function := by rfl) (hl : env.kindOf x = some .local := by rfl) (hl2 : env.kindOf y = some .local := by rfl) :
    wpG (model prog w) A (assign (.Tuple [.Name x px, .Name y py] k p) env (.ref a)) Q E (r.at h tk) := by
  show wpG _ A (do standAt p; unpack (.ref a) [(false, assign (.Name x px) env), (false, assign (.Name y py) env)]) _ E _
  refine g_bind (g_standAt ?_)
  unfold unpack
  refine g_bind (g_holding (lift (unpackItems_tuple (s := r.at h tk) (items := #[v1, v2]) hh ha fun h2 he2 => ?_)))
  have kp2 : Kp h h2 := fun b o e => he2 b o (Nat.ne_of_lt (Heap.lt_size e)) e
  have S2 := S.kept kp2
  show wpG _ A (assignInOrder [assign (.Name x px) env, assign (.Name y py) env] [v1, v2]) _ E (r.at h2 tk)
  unfold assignInOrder assignInOrder assignInOrder
  refine g_bind (g_holding (g_assignName (g_store S2 (fun h3 tk3 kb3 S3 => ?_) hL hk hl)))
  refine g_bind (g_holding (g_assignName (g_store S3 (fun h4 tk4 kb4 S4 => ?_) hL hk hl2)))
  refine g_pure ?_
  exact kk h4 tk4 (fun b o hb e => kb4 b o hb (kb3 b o hb (kp2 b o e))) S4
theorem assign_three {x y z : Str} {px py pz p : Pos} {k : Nat} {a : Addr} {v1 v2 v3 : Value} {Q : Unit → Shared → Prop} (hh : A.handled = none) (ha : h.IsTuple a #[v1, v2, v3]) (S : Fm h₀ L m news h)
    (kk : ∀ h' tk', KpB [L] h h' → Fm h₀ L (upd (upd (upd m x v1) y v2) z v3) news h' → Q () (r.at h' tk')) (hL : env.locals = L := by rfl)
    (hk : env.scope.kind = .function := by rfl) (hl : env.kindOf x = some .local := by rfl) (hl2 : env.kindOf y = some .local := by rfl) (hl3 : env.kindOf z = some .local := by rfl) :
    wpG (model prog w) A (assign (.Tuple [.Name x px, .Name y py, .Name z pz] k p) env (.ref a)) Q E (r.at h tk) := by
  show wpG _ A (do standAt p; unpack (.ref a) [(false, assign (.Name x px) env), (false, assign (.Name y py) env), (false, assign (.Name z pz) env)]) _ E _
  refine g_bind (g_standAt ?_)
  unfold unpack
  refine g_bind (g_holding (lift (unpackItems_tuple (s := r.at h tk) (items := #[v1, v2, v3]) hh ha fun h2 he2 => ?_)))
  have kp2 : Kp h h2 := fun b o e => he2 b o (Nat.ne_of_lt (Heap.lt_size e)) e
  have S2 := S.kept kp2
  show wpG _ A (assignInOrder [assign (.Name x px) env, assign (.Name y py) env, assign (.Name z pz) env] [v1, v2, v3]) _ E (r.at h2 tk)
  unfold assignInOrder assignInOrder assignInOrder assignInOrder
  refine g_bind (g_holding (g_assignName (g_store S2 (fun h3 tk3 kb3 S3 => ?_) hL hk hl)))
  refine g_bind (g_holding (g_assignName (g_store S3 (fun h4 tk4 kb4 S4 => ?_) hL hk hl2)))
  refine g_bind (g_holding (g_assignName (g_store S4 (fun h5 tk5 kb5 S5 => ?_) hL hk hl3)))
  refine g_pure ?_
  exact kk h5 tk5 (fun b o hb e => kb5 b o hb (kb4 b o hb (kb3 b o hb (kp2 b o e)))) S5

/-- a comprehension over a list that an expression lays -/
theorem g_listComp {elt target iter : Expr} {scope : Scope} {pos : Pos} {cl : List (Str × Addr)} {Q : Value → Shared → Prop} (hh : A.handled = none)
    (ei : wpG (model prog w) A (eval iter env) (fun v s => ∃ l items Y h' tk', v = .ref l ∧ s = r.at h' tk' ∧ h'.IsList l (List.toArray items) ∧ items.length ≤ 10000 ∧ CompOk prog w A env r h' scope cl target elt items Y ∧
      ∀ D ys nn h'' tk'', Kp h' h'' → h'.get? D = none → h''.get? D = some (lobj ys nn) → ys.length = items.length → (∀ i y, ys[i]? = some y → Y i y h'') → Q (.ref D) (r.at h'' tk'')) E (r.at h tk))
    (hkind : scope.kind = .function := by rfl) (names : ∀ x ∈ scope.names, x.2 = .local → scope.names.lookup x.1 = some .local := by decide)
    (hclos : closureFor scope env = pure cl := by rfl) (hs : ∀ x, foldedSetIterable iter env x = pure x := by intro _; rfl) :
    wpG (model prog w) A (eval (.ListComp elt [⟨target, iter, [], 0⟩] scope pos) env) Q E (r.at h tk) := by
  rw [eval_ListComp]
  refine g_comprehension rfl hs hclos hkind names (g_mono ei (fun v s hv => ?_) fun _ _ z => z)
  obtain ⟨l, items, Y, h', tk', rfl, rfl, hl, hn, ok, k⟩ := hv
  refine comp_block hh hl hn ok fun D C h2 tk2 m' ys nn hCn hDC hns hDn hD hlen hys kp => ⟨m', hns, fun h'' sb => ?_⟩
  have kp2 : Kp h' h'' := fun b o e => (sb.2 b (by rintro rfl; rw [hCn] at e; cases e)).trans (kp _ _ e)
  exact k D ys nn h'' tk2 kp2 hDn ((sb.2 _ hDC).trans hD) hlen fun i y hy => ok.stay i y _ _ (fun b l _ e => (sb.2 b (ns_not_list hns e)).trans e) (hys i y hy)

/-- a comprehension over zip of two lists -/
theorem Ek.zipComp {x y za zb zc : Str} {px py pt pz pa pb pc : Pos} {k0 : Nat} {elt : Expr} {scope : Scope} {pos : Pos} {cl : List (Str × Addr)} {l1 l2 : Addr} {xs ys : List Value} {Y : List Addr → Nat → Value → Heap → Prop}
    (hh : A.handled = Option.none) (ez : Ev (model prog w) A env r h (.Name zc pz) (· = .type "zip")) (ea : Ev (model prog w) A env r h (.Name za pa) (· = .ref l1)) (eb : Ev (model prog w) A env r h (.Name zb pb) (· = .ref l2))
    (hl1 : h.IsList l1 xs.toArray) (hl2 : h.IsList l2 ys.toArray) (hn : xs.length ≤ 10000)
    (hY : ∀ X i y h h', Ks X h h' → Y X i y h → Y X i y h')
    (turn : ∀ C i v u h' m X, xs[i]? = some v → ys[i]? = some u → Fm h C m [] h' → m x = some v → m y = some u → (∀ b ∈ X, h'.get? b ≠ Option.none) → Ek (model prog w) A (compEnvC scope cl C env) r h' elt (fun y h3 => Y X i y h3))
    (hxy : x ≠ y := by decide) (hx : scope.names.lookup x = some .local := by rfl) (hy : scope.names.lookup y = some .local := by rfl)
    (hcell : ∀ y ∈ scope.names, y.2 ≠ .cell := by decide) (hkind : scope.kind = .function := by rfl) (names : ∀ x ∈ scope.names, x.2 = .local → scope.names.lookup x.1 = some .local := by decide)
    (hclos : closureFor scope env = pure cl := by rfl) (hs : ∀ x, foldedSetIterable (.Call (.Name zc pz) [.Name za pa, .Name zb pb] [] pc) env x = pure x := by intro _; rfl) :
    Ek (model prog w) A env r h (.ListComp elt [⟨.Tuple [.Name x px, .Name y py] k0 pt, .Call (.Name zc pz) [.Name za pa, .Name zb pb] [] pc, [], 0⟩] scope pos)
      (fun v h' => ∃ D rs nn, v = .ref D ∧ h.get? D = Option.none ∧ h'.get? D = some (lobj rs nn) ∧ rs.length = min xs.length ys.length ∧ ∀ i y, rs[i]? = some y → ∃ X, Y X i y h') := fun E Q tk hq => by
  rw [eval_ListComp]
  refine g_comprehension rfl hs hclos hkind names ?_
  refine g_Call2 (k := .machine) ez .now ea eb (fun v v2 tk1 hv hv2 => ?_)
  subst hv
  subst hv2
  have lt1 : l1 < h.objs.size := by obtain ⟨o, e, _⟩ := hl1; exact Heap.lt_size e
  have lt2 : l2 < h.objs.size := by obtain ⟨o, e, _⟩ := hl2; exact Heap.lt_size e
  refine lift (call_zip_2 (s := r.at h tk1) hl1 hl2 fun h2 hz hTI hTO hi1 hi2 hsz hk => ?_)
  refine lift (wpAny_pyIter_zip (s := r.at h2 tk1) hz ?_)
  have D0 := ktu_apart h.objs.size l1 l2 lt1 lt2
  have hl1' : h2.IsList l1 xs.toArray := islist_keep hl1 fun o e => hk _ _ e
  have hl2' : h2.IsList l2 ys.toArray := islist_keep hl2 fun o e => hk _ _ e
  have e2 : h2.objs.size = h.objs.size + 5 := hsz
  have ne5 : ∀ j : Nat, j < 5 → h.objs.size + j ≠ h2.objs.size := fun j hj q => by
    have : (h.objs.size : Nat) + j = h2.objs.size := q
    lia
  have fresh : ∀ j : Nat, h.get? (h.objs.size + j) = Option.none := fun j => Heap.get?_none_of_le (Nat.le_add_right _ _)
  have memw : ∀ {b : Addr}, b ∈ [h.objs.size + 4, h.objs.size + 3, h.objs.size, h.objs.size + 1] → h.get? b = Option.none := fun {b} hb => by
    simp only [List.mem_cons, List.not_mem_nil, or_false] at hb
    rcases hb with rfl | rfl | rfl | rfl
    · exact fresh 4
    · exact fresh 3
    · exact fresh 0
    · exact fresh 1
  refine g_collectT (h₂ := h2) (WalksT.zip2 hh (h.objs.size + 4) (h.objs.size + 2) (h.objs.size + 3) h.objs.size (h.objs.size + 1) l1 l2 D0 xs.toArray ys.toArray) (by simp; lia) (Y [h2.objs.size, h.objs.size + 3]) (X := [h2.objs.size, h.objs.size + 3]) (by simp) ?_ ?_ (hY _) hcell hkind ?_ ?_ ?_ ?_
  · rintro i h1 b o ⟨cz, cTI, ⟨a', b', cTO⟩, ⟨o1, ho1, hc1, hd1⟩, ⟨o2, ho2, hc2, hd2⟩, _⟩ hbX ⟨zs, n, hd⟩ e hb
    simp only [List.mem_cons, List.not_mem_nil, or_false] at hb
    rcases hb with rfl | rfl | rfl | rfl
    · rw [cz] at e; cases e; cases hd
    · exact hbX (by simp)
    · rw [ho1] at e; cases e; rw [hd1] at hd; cases hd
    · rw [ho2] at e; cases e; rw [hd2] at hd; cases hd
  · rintro i h1 b ⟨cz, cTI, ⟨a', b', cTO⟩, _⟩ hbX hbD
    simp only [List.mem_cons, List.not_mem_nil, or_false] at hbX
    rcases hbX with rfl | rfl
    · exact absurd rfl hbD
    · rw [cTO]; exact Option.some_ne_none _
  · exact ⟨hz, hTI, ⟨_, _, hTO⟩, hi1, hi2, hl1', hl2'⟩
  · intro b hb
    simp only [List.mem_cons, List.not_mem_nil, or_false] at hb
    rcases hb with rfl | rfl | rfl | rfl | rfl | rfl | rfl
    · rw [hz]; exact Option.some_ne_none _
    · rw [hTI]; exact Option.some_ne_none _
    · rw [hTO]; exact Option.some_ne_none _
    · obtain ⟨o, e, _⟩ := hi1; rw [e]; exact Option.some_ne_none _
    · obtain ⟨o, e, _⟩ := hi2; rw [e]; exact Option.some_ne_none _
    · obtain ⟨o, e, _⟩ := hl1'; rw [e]; exact Option.some_ne_none _
    · obtain ⟨o, e, _⟩ := hl2'; rw [e]; exact Option.some_ne_none _
  · rintro C i T vals h' tk' m' hi ⟨v, u, hv, hu, rfl⟩ hT hns hCn hC kb hSt hX
    have F' : Fm h C m' [] h' := ⟨⟨hns, fun b o e => kb b o (fun q => by rw [memw q] at e; cases e) (hk _ _ e), Nat.le_trans (by lia) hC⟩, News.nil⟩
    refine assign_pair hh hT F' (fun h'' tk'' kb'' F'' => ⟨h'', tk'', _, rfl, kb'', F''.F.ns, ?_⟩) rfl hkind (lookup_relabel_local hx) (lookup_relabel_local hy)
    refine turn C i v u h'' _ _ (by simpa using hv) (by simpa using hu) F'' ((upd_ne hxy).trans upd_same) upd_same fun b hb => ?_
    cases q : h'.get? b with
    | none => exact absurd q (hX b hb)
    | some o =>
      by_cases hbC : b = C
      · subst hbC
        refine shut fun X0 hX0 => ?_
        obtain ⟨o', es, ep, e1, _⟩ := F''.F.ns
        refine hX0 ?_
        clear hX0
        rw [e1]; exact Option.some_ne_none _
      · rw [kb'' b o (by simpa using hbC) q]; exact Option.some_ne_none _
  · intro C h' tk' m' rs nn hCn hDC hns hD hlen hrs kb
    refine ⟨m', hns, fun h'' sb => ?_⟩
    have kp2 : Kp h h'' := fun b o e => (sb.2 b (by rintro rfl; have := hk _ _ e; rw [hCn] at this; cases this)).trans (kb b o (fun q => by rw [memw q] at e; cases e) (hk _ _ e))
    refine hq (.ref h2.objs.size) h'' tk' kp2 ⟨_, rs, nn, rfl, Heap.get?_none_of_le (by lia), (sb.2 _ hDC).trans hD, by simpa using hlen, fun i y hy => ⟨_, hY _ i y _ _ (fun b o hb hq e => (sb.2 b (ns_not_seq hns e hq)).trans e) (hrs i y hy)⟩⟩
end
end Mine
end

section
open PySem PySem.W PySem.Calls PyProof.Rows PySem.SeqAt PySem.MeetsSeq
open PySem.Sem (wp)
set_option maxRecDepth 100000
namespace Mine
theorem bytes_len' : typeLookup (.type "bytes") "__len__" = pure (some (.builtin "bytes.__len__")) := by rw [typeLookup_type, builtinLookup_eq_fast]; kernel_rfl
section
variable {prog : Program} {w : World} {A : Around} {E : Value → Shared → Prop} {s : Shared}
noncomputable def OctAt (b : Array UInt8) (i : Nat) (v : Value) : Prop := ∃ c u, b[i]? = some c ∧ v = .int (c.toNat : Int) u
theorem extend_bytes {R : Result → Shared → Prop} (hh : A.handled = none) (b : Array UInt8) (t : Tok) (S : Addr) (res : Value) (c₀ : Nat) (hS : s.heap.get? S = some { cls := .type "list", data := .seq #[] c₀ })
    (hR : ∀ h' tk acc' c', (∀ b o, b ≠ S → s.heap.get? b = some o → h'.get? b = some o) → h'.get? S = some { cls := .type "list", dict := none, data := .seq acc' c', slots := #[] } →
      ItemsOf (OctAt b) acc' b.size → R (.ok (.ret res)) { s with heap := h', toks := tk }) (hn : b.size ≤ sizeLine) :
    wpAny (model prog w) A.in1 (Builtin.List.listExtendWith (.ref S) (.bytes b t) res)
      (fun fin s' => match fin with | .done f => R (.ok f) s' | .again c' => c'.quiet = true ∧ codeAny (model prog w) A c' R s') (fun e s' => R (.error e) s') s := by
  have hSI : S ≠ s.heap.objs.size := Nat.ne_of_lt (Heap.lt_size hS)
  have hSf : S ∉ [s.heap.objs.size] := fun hm => hSI (List.mem_singleton.mp hm)
  unfold Builtin.List.listExtendWith
  refine wpAny_bind (wpAny_typeOf (T := "bytes") (v := .bytes b t) rfl ?_)
  have h1 : Builtin.List.listSameRef (.ref S) (.bytes b t) = false := rfl
  have h2 : (Value.type "bytes" == Value.type "list") = false := by decide
  have h3 : (Value.type "bytes" == Value.type "tuple") = false := by decide
  simp only [h1, h2, h3, Bool.or_false, Bool.false_eq_true, if_false]
  refine wpAny_bind (KBw.pyIter_bytes ?_)
  refine wpAny_bind (wpAny_holding ?_)
  unfold Builtin.List.listLengthHint
  refine wpAny_bind (wpAny_specialOf (T := "bytes") (v := .bytes b t) rfl bytes_len' ?_)
  wp_delta
  refine wpAny_bind (wpAny_isInstance (T := "bytes") (v := .bytes b t) (b := true) rfl (by rw [isSubtype_type]; kernel_rfl) ?_)
  show wpAny _ _ (typeOf (Value.bytes b t) >>= _) _ _ _
  refine wpAny_bind (wpAny_typeOf (T := "bytes") (v := .bytes b t) rfl ?_)
  refine wpAny_pure ?_
  rw [if_neg (by decide)]
  refine wpAny_pure ⟨plainId_quiet PySem.F.plain_extend_loop _, codeAny_extend_loopS (KBw.walks (prog := prog) (w := w) (A := A.in1) hh s.heap.objs.size b t).toS hn _ hSf _ b.size 0 _ _ _ rfl (Nat.zero_le _) ⟨_, Heap.get?_push_size _ rfl, rfl, rfl⟩ (Heap.get?_push_of_some _ hS) (ItemsOf.nil _) fun s' acc' c' hm hS' hacc => ?_⟩
  rw [Moved.eq_with hm]
  refine hR s'.heap s'.toks acc' c' (fun b ob hb e => hm.heap b ob (fun hmem => ?_) (Heap.get?_push_of_some _ e)) hS' hacc
  rcases List.mem_cons.mp hmem with e' | hmem
  · exact hb e'
  · exact absurd (Heap.lt_size e) (by rw [List.mem_singleton.mp hmem]; exact Nat.lt_irrefl _)
theorem list_of_bytes {Q : Value → Shared → Prop} (hh : A.handled = none) (b : Array UInt8) (t : Tok)
    (hQ : ∀ h' tk acc' c', (∀ b o, s.heap.get? b = some o → h'.get? b = some o) →
      h'.get? s.heap.objs.size = some { cls := .type "list", dict := none, data := .seq acc' c', slots := #[] } → ItemsOf (OctAt b) acc' b.size → Q (.ref s.heap.objs.size) { s with heap := h', toks := tk }) (hn : b.size ≤ sizeLine) :
    wpAny (model prog w) A (call (.type "list") [.bytes b t]) Q E s := by
  refine callType_codes (Q₁ := fun obj s₁ => obj = .ref s.heap.objs.size ∧ s₁ = { s with heap := s.heap.push { cls := .type "list", data := .seq #[] } }) PySem.F.called_list (PySem.F.typeCall_list_1 _) PySem.F.entry_list_init
    (code_list_new _ ⟨rfl, rfl⟩) fun obj s₁ h₁ => ?_
  obtain ⟨rfl, rfl⟩ := h₁
  have hS : (s.heap.push { cls := .type "list", data := .seq #[] }).get? s.heap.objs.size = some { cls := .type "list", data := .seq #[] } := Heap.get?_push_size _ rfl
  refine ⟨⟨_, hS, rfl⟩, PySem.F.args_list_init_2 _ _, ?_⟩
  show wpAny _ _ (do let old ← Builtin.List.listItems (.ref s.heap.objs.size); Builtin.List.listUpdate (.ref s.heap.objs.size) (fun _ => #[]); letGo old.toList.reverse; Builtin.List.listExtendWith (.ref s.heap.objs.size) (.bytes b t) .none) _ _ _
  refine wpAny_bind ?_
  unfold Builtin.List.listItems
  refine wpAny_bind (wpAny_seqItems hS rfl (wpAny_pure ?_))
  show wpAny _ _ (updateSeq s.heap.objs.size (fun _ => #[]) >>= fun _ => letGo (#[] : Array Value).toList.reverse >>= fun _ => Builtin.List.listExtendWith (.ref s.heap.objs.size) (.bytes b t) .none) _ _ _
  refine wpAny_bind (wpAny_updateSeq hS rfl ?_)
  have hS₂ := Heap.get?_update_self (Obj.mapSeq (fun _ => (#[] : Array Value))) hS rfl
  refine wpAny_bind (wpAny_letGo ?_)
  refine extend_bytes (A := A.in1) (hn := hn) hh b t _ .none _ hS₂ fun h' tk acc' c' hk hS' hacc => ?_
  exact ⟨rfl, hQ h' tk acc' c' (fun b o e => hk b o (Nat.ne_of_lt (Heap.lt_size e)) ((Heap.get?_update_other _ _ (Nat.ne_of_gt (Heap.lt_size e))).trans (Heap.get?_push_of_some _ e))) hS' hacc⟩
theorem octs_ints {b : Array UInt8} {acc : Array Value} (h : ItemsOf (OctAt b) acc b.size) : IntsAre acc.toList ((b.toList.map (·.toNat)).map fun x : Nat => (x : Int)) := by
  obtain ⟨hz, hv⟩ := h
  have : ∀ (l : List Value) (c : List UInt8), l.length = c.length → (∀ (j : Nat) (v : Value), l[j]? = some v → ∃ x u, c[j]? = some x ∧ v = .int (x.toNat : Int) u) → IntsAre l ((c.map (·.toNat)).map fun x : Nat => (x : Int)) := by
    intro l
    induction l with
    | nil => intro c hl _; cases c with
      | nil => exact .nil
      | cons _ _ => simp at hl
    | cons v l ih =>
      intro c hl hh
      cases c with
      | nil => simp at hl
      | cons x c =>
        refine shut fun X0 hX0 => ?_
        obtain ⟨y, u, e1, e2⟩ := hh 0 v rfl
        refine hX0 ?_
        clear hX0
        cases e1
        subst e2
        exact .cons _ u (ih c (by simpa using hl) fun j v hj => hh (j + 1) v (by simpa using hj))
  exact this acc.toList b.toList (by simpa using hz) fun j v hj => by
    refine shut fun X0 hX0 => ?_
    obtain ⟨x, u, e1, e2⟩ := hv j v (by simpa using hj)
    refine hX0 ?_
    clear hX0
    exact ⟨x, u, by simpa using e1, e2⟩
end
end Mine
end

section
open PySem PySem.W PySem.Calls PyProof.Rows PySem.SeqAt PySem.MeetsSeq
open PySem.Sem (wp)
set_option maxRecDepth 100000
namespace Mine
theorem sliceRange_rev (n : Nat) : sliceRange ((n : Int) - 1) (-1) (-1) = (List.range n).map fun k => n - 1 - k := by
  unfold sliceRange
  have h1 : ¬ ((-1 : Int) > 0) := by decide
  simp only [if_neg h1]
  have hc : (if ((n : Int) - 1) > -1 then (((n : Int) - 1) - -1 - -1 - 1) / (- -1) else 0).toNat = n := by
    split
    · rw [show (- -1 : Int) = 1 by decide, Int.ediv_one]; lia
    · rw [Int.toNat_zero]; lia
  rw [hc]
  exact List.map_congr_left fun k _ => by lia
theorem sliced_rev (b : Array UInt8) : Builtin.Bytes.sliced b ((b.size : Int) - 1) (-1) (-1) = b.toList.reverse.toArray := by
  unfold Builtin.Bytes.sliced
  rw [sliceRange_rev]
  congr 1
  rw [List.filterMap_map]
  apply List.ext_getElem?
  intro i
  have key : ∀ (k n : Nat), n ≤ k → k ≤ b.size → ((List.range n).filterMap ((fun x => b[x]?) ∘ fun j => k - 1 - j)) = (List.range n).map fun j => b.toList.getD (k - 1 - j) 0 := by
    intro k n hn hk
    induction n with
    | zero => rfl
    | succ n ih =>
      rw [List.range_succ, List.filterMap_append, List.map_append, ih (by lia)]
      have hlt : k - 1 - n < b.size := by lia
      simp [hlt, List.getD]
  rw [key b.size b.size (Nat.le_refl _) (Nat.le_refl _)]
  rcases Nat.lt_or_ge i b.size with hi | hi
  · rw [List.getElem?_reverse (by simpa using hi)]
    have hlt : b.size - 1 - i < b.size := by lia
    simp [hi, List.getD, hlt]
  · rw [List.getElem?_eq_none (by simpa using hi), List.getElem?_eq_none (by simpa using hi)]
theorem meets_rev (b : Array UInt8) (t : Tok) (a : Addr) (u : Tok) (hz : b.size < 1000000) :
    Meets (Builtin.«bytes.__getitem__» ⟨[.bytes b t, .ref a], []⟩) (fun _ R s => s.heap.IsSliceOf a .none .none (.int (-1) u) ∧ ∀ t' k, R (.ok (.ret (.bytes b.toList.reverse.toArray t'))) { s with toks := k }) := by
  refine .of_wp fun prog w A R s hS => ?_
  refine shut fun X0 hX0 => ?_
  obtain ⟨⟨o, ho, hc, hd⟩, h⟩ := hS
  refine hX0 ?_
  clear hX0
  have hT : s.TypeIs (.ref a) "slice" := ⟨o, ho, hc⟩
  show wpAny _ _ (Builtin.Bytes.payload (.bytes b t) >>= fun r => _) _ _ s
  refine wpAny_bind (wpAny_of_eq (a := b) rfl ?_)
  show wpAny _ _ (Builtin.Bytes.subscript? (.ref a) >>= fun r => _) _ _ s
  refine wpAny_bind ?_
  unfold Builtin.Bytes.subscript?
  refine wpAny_bind (wpAny_specialOf hT slice_no_index (wpAny_pure ?_))
  refine wpAny_bind (wpAny_typeOf hT ?_)
  show wpAny _ _ (Builtin.Bytes.sliceParts (.ref a) >>= fun r => _) _ _ s
  refine wpAny_bind ?_
  unfold Builtin.Bytes.sliceParts
  refine wpAny_bind (wpAny_field (x := .int _ _) ho hd rfl ?_)
  kby_int
  refine wpAny_ite (KBy.ite_no (show ¬ ((rawInt (-1) == rawInt 0) = true) by decide) ?_)
  refine wpAny_bind (wpAny_field (x := .none) ho hd rfl ?_)
  kby_none
  refine wpAny_bind (wpAny_field (x := .none) ho hd rfl ?_)
  kby_none
  refine wpAny_pure ?_
  have go : wpAny (model prog w) A.in1 (sliceIndices (rawPart none) (rawPart none) (rawPart (some (-1))) b.size) (fun r s' => r = ((b.size : Int) - 1, -1, -1) ∧ s' = s) (fun _ _ => False) s :=
    wpAny_of_eq (sliceIndices_raw none none (some (-1)) b.size (by decide)) ⟨by simp [sliceBounds], rfl⟩
  refine wpAny_bind (wpAny_mono go (fun r s' hr => ?_) fun _ _ e => e.elim)
  obtain ⟨hr1, hr2⟩ := hr
  subst hr1 hr2
  refine wpAny_ite (KBy.ite_no (by simp) ?_)
  show wpAny _ _ (mkBytes (Builtin.Bytes.sliced b ((b.size : Int) - 1) (-1) (-1)) >>= fun r => _) _ _ _
  rw [sliced_rev]
  exact wpAny_bind (wpAny_mkBytes (wpAny_pure ⟨_, rfl, h _ _⟩) (by rw [sizeLine_eq]; simp; lia))
section
variable {prog : Program} {w : World} {A : Around} {E : Value → Shared → Prop} {env : Env} {r : Rest} {h h₀ : Heap} {L : Addr} {m : Str → Option Value} {news : List (Addr × Obj)} {tk : Nat}
theorem Ek.reversed {value : Expr} {p p1 p2 pos : Pos} {kk : Nat} {b : List UInt8} {t : Tok} (ev : Ev (model prog w) A env r h value (· = .bytes b.toArray t))
    (hz : b.length < 1000000) (hs : ∀ i, subscripted (.Slice Option.none Option.none (some (.UnaryOp .USub (.Constant (.int 1) kk p1) p2)) p) false (.bytes b.toArray t) i = operate [i, .bytes b.toArray t] (getItem (.bytes b.toArray t) i) := by intro _; with_unfolding_all rfl) :
    Ek (model prog w) A env r h (.Subscript value (.Slice Option.none Option.none (some (.UnaryOp .USub (.Constant (.int 1) kk p1) p2)) p) pos) (fun v _ => IsBy b.reverse.toArray v) := fun E Q tk hq => by
  refine g_Subscript (ev _ _ _ fun v tk1 hv => g_Slice (g_pure (g_pure (show wpG _ _ (eval (.UnaryOp .USub (.Constant (.int 1) kk p1) p2) env) _ _ _ from Ev.neg Ev.int _ _ _ fun v3 tk3 ⟨t3, hv3⟩ => ?_))))
  subst hv hv3
  refine g_item (s := r.at (h.push { cls := .type "slice", data := .fields #[.none, .none, .int (-1) t3] }) tk3) (typeIs_bytes _ _ _) FB.slot_bytes_getitem.lookup ?_ (hs _)
  refine getItem_meets (typeIs_bytes _ _ _) (by decide) FB.slot_bytes_getitem FB.entry_bytes_getitem (FB.args_bytes_getitem_2 _ _) (meets_rev b.toArray t _ t3 (by simpa using hz))
    ⟨Heap.IsSliceOf.new _ _ _ _, fun t' k => ?_⟩
  exact hq _ _ _ (Kp.push _ _) ⟨t', by simp⟩
/-- list(..) of a row from behind -/
theorem Ek.listRev {x : Str} {value : Expr} {px pc p p1 p2 pos : Pos} {kk : Nat} {b : List UInt8} {t : Tok} (hh : A.handled = Option.none) (ef : Ev (model prog w) A env r h (.Name x px) (· = .type "list")) (ev : Ev (model prog w) A env r h value (· = .bytes b.toArray t)) (hz : b.length < 1000000)
    (hs : ∀ i, subscripted (.Slice Option.none Option.none (some (.UnaryOp .USub (.Constant (.int 1) kk p1) p2)) p) false (.bytes b.toArray t) i = operate [i, .bytes b.toArray t] (getItem (.bytes b.toArray t) i) := by intro _; with_unfolding_all rfl) :
    Ek (model prog w) A env r h (.Call (.Name x px) [.Subscript value (.Slice Option.none Option.none (some (.UnaryOp .USub (.Constant (.int 1) kk p1) p2)) p) pos] [] pc)
      (fun v h' => ∃ D us n, v = .ref D ∧ h.get? D = Option.none ∧ h'.get? D = some (lobj us n) ∧ IntsAre us ((b.reverse.map (·.toNat)).map fun x : Nat => (x : Int))) := fun E Q tk hq => by
  refine g_Call1K (k := .machine) ef (fun _ _ => .now) (Ek.reversed ev hz hs) fun v h' tk' kp hv => ?_
  obtain ⟨t', rfl⟩ := hv
  refine lift (list_of_bytes (s := r.at h' tk') hh _ _ (fun h2 tk2 acc c2 hk hD hi => ?_) (by rw [sizeLine_eq]; simp; lia))
  have hi' := octs_ints hi
  refine hq _ h2 tk2 (kp.trans hk) ⟨_, acc.toList, c2, rfl, ?_, hD, by simpa using hi'⟩
  cases q : h.get? h'.objs.size with
  | none => rfl
  | some o => exact absurd (Heap.lt_size (kp _ _ q)) (Nat.lt_irrefl _)
end
end Mine
end

section
open PySem PySem.W PySem.Calls PyProof.Rows PySem.SeqAt PySem.MeetsSeq
open PySem.Sem (wp)
set_option maxRecDepth 100000
namespace Mine
theorem Kp.none {h h' : Heap} {b : Addr} (k : Kp h h') (e : h'.get? b = Option.none) : h.get? b = Option.none := by
  cases q : h.get? b with
  | none => rfl
  | some o => rw [k _ _ q] at e; cases e
theorem fresh_push {h h' : Heap} (k : Kp h h') : h.get? h'.objs.size = Option.none := k.none (Heap.get?_none_of_le (Nat.le_refl _))
section
variable {prog : Program} {w : World} {A : Around} {E : Value → Shared → Prop} {env : Env} {r : Rest} {h h₀ : Heap} {L : Addr} {m : Str → Option Value} {news : List (Addr × Obj)} {tk : Nat}
/-- plain ints in a row -/
noncomputable def IsE (M : Model) (A : Around) (env : Env) (r : Rest) (h : Heap) (e : Expr) (n : Int) : Prop := Ev M A env r h e (IsI n) ∧ ∀ es, starEach (e :: es) env = (false, eval e env) :: starEach es env
theorem Evs.ofInts {M : Model} : ∀ {es : List Expr} {ns : List Int}, All2 (IsE M A env r h) es ns → Evs M A env r h es (fun vs => IntsAre vs ns)
  | _, _, .nil => fun E Q pos tk hq => g_spliced_none (hq [] tk .nil)
  | _, _, .cons (x := e) a b => fun E Q pos tk hq => Evs.cons a.1 (Evs.ofInts b) (a.2 _) E Q pos tk fun vs tk' ⟨v, vs', e1, ⟨t, e2⟩, hv⟩ => by subst e1; subst e2; exact hq _ _ (.cons _ t hv)
theorem Ek.tupleInts {M : Model} {es : List Expr} {ns : List Int} {k : Nat} {pos : Pos} (x : All2 (IsE M A env r h) es ns) (hz : es.length ≤ 100000) :
    Ek M A env r h (.Tuple es k pos) (fun v h' => ∃ a vs, v = .ref a ∧ h.get? a = Option.none ∧ h'.get? a = some (tobj vs) ∧ IntsAre vs ns) := fun E Q tk hq =>
  g_Tuple (Evs.ofInts x _ _ _ _ fun vs tk' hv => ⟨by have := hv.length; have := x.length; rw [sizeLine_eq]; lia, hq _ _ _ (Kp.push _ _) ⟨_, vs, rfl, Heap.get?_none_of_le (Nat.le_refl _), Heap.get?_push_size _ rfl, hv⟩⟩)
theorem Ek.listInts {M : Model} {es : List Expr} {ns : List Int} {pos : Pos} (x : All2 (IsE M A env r h) es ns) (hz : es.length ≤ 100000) :
    Ek M A env r h (.List es pos) (fun v h' => ∃ a vs n, v = .ref a ∧ h.get? a = Option.none ∧ h'.get? a = some (lobj vs n) ∧ IntsAre vs ns) := fun E Q tk hq =>
  g_List (Evs.ofInts x _ _ _ _ fun vs tk' hv => ⟨by have := hv.length; have := x.length; rw [sizeLine_eq]; lia, hq _ _ _ (Kp.push _ _) ⟨_, vs, 0, rfl, Heap.get?_none_of_le (Nat.le_refl _), Heap.get?_push_size _ rfl, hv⟩⟩)
/-- the head of a list -/
theorem Ek.listTo {value hi : Expr} {p pos : Pos} {l : Addr} {vs : List Value} {u : Nat} (ev : Ev (model prog w) A env r h value (· = .ref l)) (eu : Ev (model prog w) A env r h hi (IsI u)) (hl : h.IsList l vs.toArray)
    (hz : vs.length < 1000000) (hs : ∀ i, subscripted (.Slice Option.none (some hi) Option.none p) false (.ref l) i = operate [i, .ref l] (getItem (.ref l) i) := by intro _; with_unfolding_all rfl) :
    Ek (model prog w) A env r h (.Subscript value (.Slice Option.none (some hi) Option.none p) pos) (fun v h' => ∃ D, v = .ref D ∧ h.get? D = Option.none ∧ h'.get? D = some (lobj (vs.take u) 0)) := fun E Q tk hq => by
  refine g_Subscript (ev _ _ _ fun v tk1 hv => g_Slice (g_pure (show wpG _ _ (eval hi env) _ _ _ from eu _ _ _ fun v3 tk3 ⟨t3, hv3⟩ => g_pure ?_)))
  subst hv hv3
  have kp : Kp h (h.push { cls := .type "slice", data := .fields #[.none, .int u t3, .none] }) := Kp.push _ _
  have hl' := islist_keep hl fun o e => kp _ _ e
  refine g_item (s := r.at (h.push { cls := .type "slice", data := .fields #[.none, .int u t3, .none] }) tk3) hl'.typeIs list_getitem_lookup ?_ (hs _)
  refine wpAny_getItem_list_slice (s := r.at (h.push { cls := .type "slice", data := .fields #[.none, .int u t3, .none] }) tk3) hl' (Heap.IsSliceOf.new ..) .none (.int _ _) .none (by simp) ?_ (by rw [sizeLine_eq]; simp; lia)
  rw [slicePick_upto']
  exact hq _ _ _ (kp.trans (Kp.push _ _)) ⟨_, rfl, fresh_push kp, Heap.get?_push_size _ rfl⟩
/-- two lists in one -/
theorem Ek.plusLists {e1 e2 : Expr} {pos : Pos} {P P2 : List Value → Prop} (x : Ek (model prog w) A env r h e1 (fun v h' => ∃ a vs n, v = .ref a ∧ h'.get? a = some (lobj vs n) ∧ P vs))
    (y : ∀ h', Kp h h' → Ek (model prog w) A env r h' e2 (fun v h'' => ∃ a vs n, v = .ref a ∧ h''.get? a = some (lobj vs n) ∧ P2 vs)) (hz : ∀ vs ws, P vs → P2 ws → vs.length + ws.length ≤ 100000) :
    Ek (model prog w) A env r h (.BinOp e1 .Add e2 pos) (fun v h' => ∃ D vs ws, v = .ref D ∧ h.get? D = Option.none ∧ h'.get? D = some (lobj (vs ++ ws) 0) ∧ P vs ∧ P2 ws) := fun E Q tk hq => by
  refine g_BinOp (x _ _ _ fun v h1 tk1 kp1 hv => y h1 kp1 _ _ _ fun v2 h2 tk2 kp2 hv2 => ?_)
  obtain ⟨a, vs, n, rfl, ha, hp⟩ := hv
  obtain ⟨b, ws, n2, rfl, hb, hp2⟩ := hv2
  have := hz vs ws hp hp2
  refine lift (PySem.P.add_list (s := r.at h2 tk2) (items := vs.toArray) (items2 := ws.toArray) (kp2 _ _ ha) hb ?_ (by rw [sizeLine_eq]; simp; lia))
  refine hq _ _ _ ((kp1.trans kp2).trans (Kp.push _ _)) ⟨_, vs, ws, rfl, fresh_push (kp1.trans kp2), ?_, hp, hp2⟩
  rw [show vs.toArray ++ ws.toArray = (vs ++ ws).toArray by simp]
  exact Heap.get?_push_size _ rfl
theorem times_list {s : Shared} {l : Addr} {items : Array Value} {n : Nat} {x : Int} {u : Tok} {Q : Value → Shared → Prop} (hl : s.heap.get? l = some { cls := .type "list", dict := Option.none, data := .seq items n, slots := #[] })
    (hx : 0 ≤ x ∧ x < 1000) (hz : items.size ≤ 100)
    (q : Q (.ref s.heap.objs.size) { s with heap := s.heap.push { cls := .type "list", data := .seq (List.foldl (fun x1 x2 => x1 ++ x2) #[] (List.replicate (if items.isEmpty = true then 0 else x.toNat) items)) } }) :
    wpAny (model prog w) A (binaryOp .Mult (.ref l) (.int x u)) Q E s := by
  have hle : items.size * x.toNat ≤ 100 * 1000 := Nat.mul_le_mul hz (by lia)
  refine wpAny_binaryOp_repeat_ref (T := "list") (U := "int") (by decide) ⟨_, hl, rfl⟩ (fun s' => typeIs_int s' x u) noFill_list_mul PySem.F.fills_int_mul PySem.F.slot_int_rmul repeat_list PySem.F.slot_int_index.lookup
    (call_meets PySem.F.slot_int_rmul (typeIs_int s x u) PySem.F.entry_int_rmul (PySem.F.args_int_rmul_2 _ _) (int___rmul___int_list x u l items n)
      ⟨hl, rfl, ⟨_, hl, rfl⟩, call_meets PySem.F.slot_list_mul ⟨_, hl, rfl⟩ PySem.F.entry_list_mul (PySem.F.args_list_mul_2 _ _)
        (AutoListH.list___mul___list_int_3 l items n x u ?_ (by lia) ?_) ⟨hl, q⟩⟩)
  · simp [Builtin.List.listFitsIndex]; lia
  · simp [Builtin.List.listTooLong, sizeLine]; lia
/-- a list, so many times -/
theorem Ek.timesList {e1 e2 : Expr} {pos : Pos} {P : List Value → Prop} {x : Nat} (hx : Ek (model prog w) A env r h e1 (fun v h' => ∃ a vs n, v = .ref a ∧ h'.get? a = some (lobj vs n) ∧ P vs))
    (y : ∀ h', Kp h h' → Ev (model prog w) A env r h' e2 (IsI x)) (hx2 : x < 1000) (hz : ∀ vs, P vs → vs.length ≤ 100) :
    Ek (model prog w) A env r h (.BinOp e1 .Mult e2 pos) (fun v h' => ∃ D vs, v = .ref D ∧ h.get? D = Option.none ∧ h'.get? D = some (lobj ((List.replicate (if vs.isEmpty then 0 else x) vs).flatten) 0) ∧ P vs) := fun E Q tk hq => by
  refine g_BinOp (hx _ _ _ fun v h1 tk1 kp1 hv => y h1 kp1 _ _ _ fun v2 tk2 hv2 => ?_)
  obtain ⟨a, vs, n, rfl, ha, hp⟩ := hv
  obtain ⟨u, rfl⟩ := hv2
  have hz' := hz vs hp
  have hle : vs.length * x ≤ 100 * 1000 := Nat.mul_le_mul hz' (by lia)
  refine lift (times_list (s := r.at h1 tk2) ha (by lia) (by simp; lia) ?_)
  have e : ∀ (k : Nat) (acc : Array Value), List.foldl (fun x1 x2 => x1 ++ x2) acc (List.replicate k vs.toArray) = (acc.toList ++ (List.replicate k vs).flatten).toArray := by
    intro k
    induction k with
    | zero => intro acc; simp
    | succ k ih =>
      intro acc
      rw [List.replicate_succ, List.foldl_cons, ih, List.replicate_succ, List.flatten_cons]
      simp
  refine hq _ _ _ (kp1.trans (Kp.push _ _)) ⟨_, vs, rfl, fresh_push kp1, ?_, hp⟩
  rw [e]
  simp
  exact Heap.get?_push_size _ rfl
end
end Mine
end

section
open PySem PySem.W PySem.Calls PyProof.Rows PySem.SeqAt PySem.MeetsSeq
open PySem.Sem (wp)
set_option maxRecDepth 100000
namespace Mine
section
variable {prog : Program} {w : World} {A : Around} {E : Value → Shared → Prop} {env : Env} {r : Rest} {h h₀ : Heap} {L : Addr} {m mg mb : Str → Option Value} {news : List (Addr × Obj)} {tk : Nat} {P : Params}
theorem n_int (P : Params) : nsIn (KF P) mainGlobals (Str.ofString "int") = some Option.none := by kernel_rfl
theorem n_list (P : Params) : nsIn (KF P) mainGlobals (Str.ofString "list") = some Option.none := by kernel_rfl
theorem n_zip (P : Params) : nsIn (KF P) mainGlobals (Str.ofString "zip") = some Option.none := by kernel_rfl
theorem n_sorted (P : Params) : nsIn (KF P) mainGlobals (Str.ofString "sorted") = some Option.none := by kernel_rfl
theorem n_putv (P : Params) : nsIn (KF P) mainGlobals (Str.ofString "put_varint") = some (some (.ref 103)) := by kernel_rfl
theorem n_getv (P : Params) : nsIn (KF P) mainGlobals (Str.ofString "get_varint") = some (some (.ref 110)) := by kernel_rfl
theorem n_putp (P : Params) : nsIn (KF P) mainGlobals (Str.ofString "put_prefix") = some (some (.ref 117)) := by kernel_rfl
theorem n_getp (P : Params) : nsIn (KF P) mainGlobals (Str.ofString "get_prefix") = some (some (.ref 124)) := by kernel_rfl
theorem n_numbers (P : Params) : nsIn (KF P) mainGlobals (Str.ofString "_law_numbers") = some (some (.ref 138)) := by kernel_rfl
theorem n_lread (P : Params) : nsIn (KF P) mainGlobals (Str.ofString "_law_read") = some (some (.ref 145)) := by kernel_rfl
theorem n_begins (P : Params) : nsIn (KF P) mainGlobals (Str.ofString "_law_begins") = some (some (.ref 150)) := by kernel_rfl
theorem boot_int : bootBuiltins "int" = some (.type "int") := by decide +kernel
theorem boot_list : bootBuiltins "list" = some (.type "list") := by decide +kernel
theorem boot_zip : bootBuiltins "zip" = some (.type "zip") := by decide +kernel
theorem boot_sorted : bootBuiltins "sorted" = some (.builtin "sorted") := by decide +kernel

/-- int(..) of an int -/
theorem Ev.intOf {x : Str} {p pos : Pos} {e : Expr} {i : Int} (ef : Ev (model prog w) A env r h (.Name x p) (· = .type "int")) (ee : Ev (model prog w) A env r h e (IsI i)) (he : starEach [e] env = (false, eval e env) :: starEach [] env := by rfl) :
    Ev (model prog w) A env r h (.Call (.Name x p) [e] [] pos) (IsI i) := fun E Q tk hq =>
  g_Call1 (k := .machine) ef .now ee (fun v tk' ⟨t, hv⟩ => by subst hv; exact lift (call_int_int (s := r.at h tk') (hq _ _ ⟨t, rfl⟩))) (.inr rfl) he
/-- bytes(..) of a list of ints -/
theorem Ek.bytesOf {x : Str} {p pos : Pos} {e : Expr} {PL : List Value → Prop} (hh : A.handled = Option.none) (ef : Ev (model prog w) A env r h (.Name x p) (· = .type "bytes")) (ee : Ek (model prog w) A env r h e (fun v h' => ∃ a vs n, v = .ref a ∧ h'.get? a = some (lobj vs n) ∧ PL vs))
    (hp : ∀ vs, PL vs → vs.length < 1000 ∧ ∃ ns : List Int, IntsAre vs ns ∧ ∀ n ∈ ns, 0 ≤ n ∧ n < 256) (he : starEach [e] env = (false, eval e env) :: starEach [] env := by rfl) :
    Ek (model prog w) A env r h (.Call (.Name x p) [e] [] pos) (fun v h' => ∃ vs ns t, PL vs ∧ IntsAre vs ns ∧ v = .bytes (byteArr ns) t) := fun E Q tk hq => by
  refine g_Call1K (k := .machine) ef (fun _ _ => .now) ee (fun v h' tk' kp ⟨a, vs, n, hv, ha, hpl⟩ => ?_) (.inr rfl) he
  subst hv
  refine shut fun X0 hX0 => ?_
  obtain ⟨hz, ns, hi, hr⟩ := hp vs hpl
  refine hX0 ?_
  clear hX0
  exact lift (call_bytes_ints (s := r.at h' tk') ⟨_, ha, rfl, _, rfl⟩ hi hr (by rw [sizeLine_eq]; lia) hh fun h2 t k hk => hq _ h2 k (kp.trans hk) ⟨vs, ns, t, hpl, hi, rfl⟩)
/-- a method of one plain argument on something just laid -/
theorem Ek.meth1 {o e : Expr} {name : Str} {apos pos : Pos} {T id : String} {Po : Value → Heap → Prop} {Pe P : Value → Prop}
    (pa : PlainAttrs T) (slot : Slot T name id) (hty : typeOf (.builtin id) = pure (.type "method_descriptor"))
    (eo : Ek (model prog w) A env r h o Po) (hT : ∀ v h', Po v h' → ∃ a ob, v = .ref a ∧ h'.get? a = some ob ∧ ob.cls = .type T ∧ ob.dict = Option.none)
    (ee : ∀ h', Kp h h' → Ev (model prog w) A env r h' e Pe) (k : ∀ ov v h' (E Q : Value → Shared → Prop) tk, Po ov h' → Pe v → (∀ v' tk', P v' → Q v' (r.at h' tk')) → wpG (model prog w) A (call (.builtin id) [ov, v]) Q E (r.at h' tk))
    (hbase : attributeBase o name env (eval o env) = eval o env := by rfl)
    (hfew : ((backTo pos (starEach [e] env)).all (fun x => !x.1) && (backToKw pos (keywordEach [] env)).all (fun x => x.1.isSome)
      && decide ([e].length + ([] : List Keyword).length + (if ([] : List Keyword).isEmpty then 0 else 1) < 30)) = true := by rfl)
    (hline : (apos.endLine == pos.line) = true := by rfl) (he : starEach [e] env = (false, eval e env) :: starEach [] env := by rfl) :
    Ek (model prog w) A env r h (.Call (.Attribute o name apos) [e] [] pos) (fun v _ => P v) := fun E Q tk hq => by
  refine g_Method pa slot hty (eo _ _ _ fun v h1 tk1 kp hv => ?_) hbase hfew hline
  obtain ⟨a, ob, rfl, ha, hc, hd⟩ := hT v h1 hv
  refine ⟨⟨ob, ha, hc⟩, fun b e => by cases e; exact ⟨ob, ha, hd⟩, g_callWith (.inr rfl) (Evs.cons (ee h1 kp) Evs.nil he _ _ _ _ fun vs tk2 ⟨v, vs', e1, hv2, e2⟩ => ⟨looks_blt, ?_⟩) he⟩
  subst e2
  subst e1
  exact k _ v h1 _ _ tk2 hv hv2 fun v' tk' hv' => hq v' h1 tk' kp hv'
theorem ne_bools {a b : Bool} {s : Shared} {Q : Value → Shared → Prop} (k : Q (.bool (a != b)) s) : wpG (model prog w) A (compareOp .NotEq (.bool a) (.bool b)) Q E s :=
  lift (RcNeAt.bool_bool a b prog w E Q k)

/-! tests of two parts, in Shared -/
theorem g_or2 {M : Model} {x y : Expr} {pos : Pos} {s : Shared} {Q : Bool → Shared → Prop} (k : wpG M A (isTrue x env (eval x env)) (fun b s' => b = false ∧ wpG M A (isTrue y env (eval y env)) Q E s') E s) :
    wpG M A (isTrue (.BoolOp .Or [x, y] pos) env (eval (.BoolOp .Or [x, y] pos) env)) Q E s := by
  show wpG M A (allTrue .Or [x, y] env) Q E s
  refine g_allTrue_cons (g_mono k (fun b s' ⟨hb, h2⟩ => ?_) fun _ _ z => z)
  subst hb
  refine (g_allTrue_cons (g_mono h2 (fun b s'' hq => ?_) fun _ _ z => z) : wpG M A (allTrue .Or [y] env) Q E s')
  cases b with
  | true => exact hq
  | false => exact g_pure hq
theorem g_and2 {M : Model} {x y : Expr} {pos : Pos} {s : Shared} {Q : Bool → Shared → Prop} (k : wpG M A (isTrue x env (eval x env)) (fun b s' => (b = false → Q false s') ∧ (b = true → wpG M A (isTrue y env (eval y env)) Q E s')) E s) :
    wpG M A (isTrue (.BoolOp .And [x, y] pos) env (eval (.BoolOp .And [x, y] pos) env)) Q E s := by
  show wpG M A (allTrue .And [x, y] env) Q E s
  refine g_allTrue_cons (g_mono k (fun b s' ⟨h1, h2⟩ => ?_) fun _ _ z => z)
  cases b with
  | false => exact h1 rfl
  | true =>
    refine (g_allTrue_cons (g_mono (h2 rfl) (fun b s'' hq => ?_) fun _ _ z => z) : wpG M A (allTrue .And [y] env) Q E s')
    cases b with
    | false => exact hq
    | true => exact g_pure hq
end
end Mine
end

section
open PySem PySem.W PySem.Calls PyProof.Rows PySem.SeqAt PySem.MeetsSeq
open PySem.Sem (wp)
set_option maxRecDepth 100000
namespace Mine
structure FnSig (K : Frag) (f : Addr) where
  fd : FuncData
  body : List Stmt
  ok : FnAt K f fd body
noncomputable def lawSig (P : Params) : FnSig (KF P) 155 := ⟨_, _, ⟨⟨_, _, _, rfl⟩, by kernel_rfl, rfl, rfl, rfl, rfl⟩⟩
noncomputable def lawEnv (P : Params) (L : Addr) : Env := callEnvC (lawSig P).fd L 155
/-- the law's text from its statement n on -/
noncomputable def lawFrom (P : Params) (n : Nat) : List Stmt := (lawSig P).body.drop n
section
variable {prog : Program} {w : World} {A : Around} {E : Value → Shared → Prop} {env : Env} {r : Rest} {h h₀ : Heap} {L : Addr} {m mg mb : Str → Option Value} {news : List (Addr × Obj)} {tk : Nat} {P : Params}
theorem law_enter {v : Value} {Q : Value → Shared → Prop} (hroom : A.depth < recursionLimit) (S : SB (KF P) mg mb h)
    (k : ∀ h₁ tk₁ m, Fm h h.objs.size m [] h₁ → m (Str.ofString "script") = some v → h₁.IsCell (h.objs.size + 1) none →
      wpG (model prog w) (A.deeper (lawEnv P h.objs.size)) (execs (lawFrom P 0) (lawEnv P h.objs.size)) (fun fl s' => Q (match fl with | .ret v => v | _ => .none) s') (fun _ _ => False) (r.at h₁ tk₁)) :
    wpG (model prog w) A (call (.ref 155) [v]) Q E (r.at h tk) := by
  refine call_gC (binds := [(Str.ofString "script", v)]) S (lawSig P).ok hroom (fun s => BindsTo.of_eq rfl) rfl (by intro x hx; simp only [List.mem_singleton] at hx; subst hx; exact .inl rfl) fun h₁ tk₁ hns hk hcell => ?_
  have hc1 : h₁.IsCell (h.objs.size + 1) none := hcell (Str.ofString "bits") _ rfl
  exact k h₁ tk₁ _ ⟨⟨hns, hk, Nat.le_refl _⟩, News.nil⟩ rfl hc1
end
end Mine
end

section
open PySem PySem.W PySem.Calls PyProof.Rows PySem.SeqAt PySem.MeetsSeq
open PySem.Sem (wp)
set_option maxRecDepth 100000
namespace Mine
theorem all2_of {α β : Type} {R : α → β → Prop} : ∀ {as : List α} {bs : List β}, as.length = bs.length → (∀ (i : Nat) (a : α), as[i]? = some a → ∃ b, bs[i]? = some b ∧ R a b) → All2 R as bs
  | [], [], _, _ => .nil
  | [], _ :: _, h, _ => by simp at h
  | _ :: _, [], h, _ => by simp at h
  | a :: as, b :: bs, h, k => by
    obtain ⟨b', e, hr⟩ := k 0 a rfl
    cases e
    exact .cons hr (all2_of (by simpa using h) fun i x hx => k (i + 1) x (by simpa using hx))
section
variable {prog : Program} {w : World} {A : Around} {E : Value → Shared → Prop} {env : Env} {r : Rest} {h h₀ : Heap} {L : Addr} {m mg mb : Str → Option Value} {news : List (Addr × Obj)} {tk : Nat} {P : Params}
theorem kp_numbers {M : Model} (S : SB (KF P) mg mb h) : Looks M h (keeperOf (.ref 138)) .frame := (Looks.ld (part := Option.none) (S.X 138 _ rfl)).andThen .now
theorem kp_putv {M : Model} (S : SB (KF P) mg mb h) : Looks M h (keeperOf (.ref 103)) .frame := (Looks.ld (part := Option.none) (S.X 103 _ rfl)).andThen .now
theorem kp_putp {M : Model} (S : SB (KF P) mg mb h) : Looks M h (keeperOf (.ref 117)) .frame := (Looks.ld (part := Option.none) (S.X 117 _ rfl)).andThen .now
theorem kp_getp {M : Model} (S : SB (KF P) mg mb h) : Looks M h (keeperOf (.ref 124)) .frame := (Looks.ld (part := Option.none) (S.X 124 _ rfl)).andThen .now
theorem kp_lread {M : Model} (S : SB (KF P) mg mb h) : Looks M h (keeperOf (.ref 145)) .frame := (Looks.ld (part := Option.none) (S.X 145 _ rfl)).andThen .now
theorem kp_begins {M : Model} (S : SB (KF P) mg mb h) : Looks M h (keeperOf (.ref 150)) .frame := (Looks.ld (part := Option.none) (S.X 150 _ rfl)).andThen .now
theorem Ek.list2 {M : Model} {e e2 : Expr} {pos : Pos} {P P2 : Value → Heap → Prop} (x : Ek M A env r h e P) (y : ∀ h', Kp h h' → Ek M A env r h' e2 P2)
    (he : starEach [e, e2] env = (false, eval e env) :: starEach [e2] env := by rfl) (he2 : starEach [e2] env = (false, eval e2 env) :: starEach [] env := by rfl) :
    Ek M A env r h (.List [e, e2] pos) (fun v h' => ∃ a v1 v2, v = .ref a ∧ h.get? a = Option.none ∧ h'.get? a = some (lobj [v1, v2] 0) ∧ ∃ h1 h2, P v1 h1 ∧ P2 v2 h2 ∧ Kp h h1 ∧ Kp h1 h2 ∧ Kp h2 h' ∧ h2.get? a = Option.none) := fun E Q tk hq =>
  g_List (g_spliced (x _ _ _ fun v h1 tk₁ kp hv => g_spliced (y h1 kp _ _ _ fun v2 h2 tk2 kp2 hv2 => g_spliced_none ⟨by rw [sizeLine_eq]; show 2 ≤ _; lia, hq _ _ _ ((kp.trans kp2).trans (Kp.push _ _))
    ⟨_, v, v2, rfl, fresh_push (kp.trans kp2), Heap.get?_push_size _ rfl, h1, h2, hv, hv2, kp, kp2, Kp.push _ _, Heap.get?_none_of_le (Nat.le_refl _)⟩⟩) he2) he)
/-- a comprehension over what an expression lays -/
theorem Ek.listCompK {elt target iter : Expr} {scope : Scope} {pos : Pos} {cl : List (Str × Addr)} {PI : List Value → Prop} {Y : List Value → Nat → Value → Heap → Prop} (hh : A.handled = Option.none)
    (ei : Ek (model prog w) A env r h iter (fun v h' => ∃ l items, v = .ref l ∧ h'.IsList l (List.toArray items) ∧ items.length ≤ 10000 ∧ PI items ∧ CompOk prog w A env r h' scope cl target elt items (Y items)))
    (hkind : scope.kind = .function := by rfl) (names : ∀ x ∈ scope.names, x.2 = .local → scope.names.lookup x.1 = some .local := by decide)
    (hclos : closureFor scope env = pure cl := by rfl) (hs : ∀ x, foldedSetIterable iter env x = pure x := by intro _; rfl) :
    Ek (model prog w) A env r h (.ListComp elt [⟨target, iter, [], 0⟩] scope pos) (fun v h' => ∃ D ys nn items, v = .ref D ∧ h.get? D = Option.none ∧ h'.get? D = some (lobj ys nn) ∧ PI items ∧ ys.length = items.length ∧ ∀ i y, ys[i]? = some y → Y items i y h') := fun E Q tk hq =>
  g_listComp hh (ei.run fun v h' tk' kp ⟨l, items, hv, hl, hn, hp, ok⟩ => ⟨l, items, Y items, h', tk', hv, rfl, hl, hn, ok, fun D ys nn h'' tk'' kp2 hD hD2 hlen hY => hq _ _ _ (kp.trans kp2) ⟨D, ys, nn, items, rfl, kp.none hD, hD2, hp, hlen, hY⟩⟩) hkind names hclos hs

/-- pool, numbers, words -/
theorem law_A {l0 : Addr} {vals : List Value} {Q : Flow → Shared → Prop} (R : Room A 8) (S₀ : SB (KF P) mg mb h₀) (F : Fm h₀ L m [] h) (hs : m (Str.ofString "script") = some (.ref l0)) (hl0 : h.IsList l0 vals.toArray) (hv0 : ∀ v ∈ vals, ∃ i t, v = .int i t) (hz : vals.length ≤ 1000)
    (k : ∀ p c N W s ks ns h' tk' m', KpB [L] h h' → Fm h₀ L m' [] h' → m' (Str.ofString "pool") = some (.ref p) → m' (Str.ofString "numbers") = some (.ref N) → m' (Str.ofString "words") = some (.ref W) →
      h.get? p = none → N ≠ p → W ≠ p → Pool h' p c s ks → s ≤ 100 → NumList h' N ns → RowList h' W (ns.map fun n => pv (vix n) n) → 4 ≤ ns.length → ns.length ≤ 6 → (∀ n ∈ ns, n < 2 ^ 62) → wpG (model prog w) A (execs (lawFrom P 3) (lawEnv P L)) Q E (r.at h' tk')) :
    wpG (model prog w) A (execs (lawFrom P 0) (lawEnv P L)) Q E (r.at h tk) := by
  have S : SB (KF P) mg mb h := S₀.keeps F.kp
  show wpG _ _ (execs (_ :: _ :: _ :: lawFrom P 3) _) _ _ _
  refine x_LetK F (Ek.list2 (P2 := fun v _ => IsI 0 v) (Ek.listCompK (PI := fun items => items.length ≤ 32) (Y := fun _ _ y _ => ∃ i t, y = .int i t) R.hand ((Ek.listTo (u := 32) (Ev.loc F hs (rfl : _ = Value.ref l0)) Ev.int hl0 (by lia)).mono ?_)) fun h' kp => Ev.ek (Ev.int (i := 0))) ?_
  · rintro v h' kp ⟨D, rfl, hDn, hD⟩
    refine ⟨D, vals.take 32, rfl, ⟨_, hD, rfl, _, rfl⟩, by simp; lia, by simp; lia, ?_⟩
    refine CompOk.name (fun i y h1 h2 _ hy => hy) fun C i v h2 m2 hv F2 hm => ?_
    obtain ⟨i', t, rfl⟩ := hv0 v (List.mem_of_mem_take (List.mem_of_getElem? hv))
    exact (Ek.mono (Ev.ek (Ev.intOf (Ev.blt ((S.keeps kp).keeps F2.kp) (n_int P) boot_int rfl) (Ev.loc F2 hm (⟨t, rfl⟩ : IsI i' _)))) fun v h3 _ ⟨t', hv⟩ => ⟨_, t', hv⟩)
  rintro v h1 h2 tk2 ⟨p, v1, v2, rfl, hpn, hp, ha, hb, ⟨c, ys, nn, items, rfl, hcn, hc, hit, hlen, hys⟩, ⟨t0, rfl⟩, kpa, kpb, kpc, hpb⟩ kp1 kb2 F2
  have hpL : p ≠ L := by rintro rfl; obtain ⟨o, es, ep, e1, _⟩ := F.F.ns; rw [hpn] at e1; cases e1
  have hcL : c ≠ L := by rintro rfl; obtain ⟨o, es, ep, e1, _⟩ := F.F.ns; rw [hcn] at e1; cases e1
  have hp0 : h₀.get? p = none := F.kp.none hpn
  have hcb := kpb _ _ hc
  have hP2 : Pool h2 p c 0 ys.toArray := by
    refine ⟨⟨t0, _, kb2 _ _ (nm (hpL)) hp, rfl, _, rfl⟩, ⟨_, kb2 _ _ (nm (hcL)) (kpc _ _ hcb), rfl, _, rfl⟩, ?_, ?_, by simp; lia⟩
    · rintro rfl; rw [hpb] at hcb; cases hcb
    · intro v hv
      obtain ⟨i, hi, e⟩ := List.getElem_of_mem (by simpa using hv : v ∈ ys)
      exact hys i v (by rw [← e]; exact List.getElem?_eq_getElem hi)
  have S2 : SB (KF P) mg mb h2 := S₀.keeps F2.kp
  refine x_Assign (g_Call1 (k := .frame) (Ev.glob S2 (n_numbers P) rfl) (kp_numbers S2) (Ev.loc F2 upd_same (rfl : _ = Value.ref p)) fun v tk3 hv => ?_)
  subst hv
  refine law_numbers_g (R.le (by decide)) (S₀.keeps (keeps_hide F2.kp hp0)) hP2 (by decide) fun N ns s' h3 tk4 hs' h4 h6 hn62 kp3 hP3 hN hNn hNp => ?_
  have kb3 : KpB [p] h2 h3 := hide_kpb kp3
  have F3 : Fm h₀ L _ [] h3 := F2.but1 kb3 (Ne.symm hpL) (hp0)
  refine g_store F3 fun h4' tk5 kb4 F4 => ?_
  have S4 : SB (KF P) mg mb h4' := S₀.keeps F4.kp
  have hNL : N ≠ L := by
    refine shut fun X0 hX0 => ?_
    obtain ⟨vs, n, e, _⟩ := hN
    refine hX0 ?_
    clear hX0
    exact Ns.ne_seq F3.F.ns e rfl
  have hN4 : NumList h4' N ns := hN.keep fun o e => kb4 _ _ (nm (hNL)) e
  have hP4 := hP3.keepB F3.F.ns kb4
  refine shut fun X0 hX0 => ?_
  obtain ⟨vs, nN, hN4', hvs⟩ := id hN4
  refine hX0 ?_
  clear hX0
  have hvl := hvs.length
  refine x_AssignComp (l := N) (items := vs) (Y := fun i y _ => ∃ n, ns[i]? = some n ∧ IsBy (pv (vix n) n).toArray y) R.hand F4 (Ev.loc F4 upd_same rfl) ⟨_, hN4', rfl, _, rfl⟩ (by lia) ?_ ?_
  · refine CompOk.name (fun i y h1 h2 _ hy => hy) fun C i v h5 m5 hv F5 hm => ?_
    obtain ⟨n, hn, t, rfl⟩ := hvs.get' i hv
    have hn62' := hn62 n (List.mem_of_getElem? hn)
    intro E Q tk hq
    refine g_Call2 (k := .frame) (Ev.glob (S4.keeps F5.kp) (n_putv P) rfl) (kp_putv (S4.keeps F5.kp)) (Ev.loc F5 hm (rfl : _ = Value.int (n : Nat) t)) Ev.none fun v v2 tk' hv hv2 => ?_
    subst hv
    subst hv2
    exact put_varint_g (R.le (by decide)) (S4.keeps F5.kp) (vix_lt n) (Nat.le_refl _) hn62' (.inl ⟨rfl, rfl⟩) fun t' h6 tk6 kp6 => hq _ _ _ kp6 ⟨n, hn, t', rfl⟩
  · intro W ys2 nn2 h7 tk7 kb7 F7 hWn hW hlen2 hys2
    have kb : KpB [L] h h7 := fun b o hb e => kb7 b o hb (kb4 b o hb (kb3 b o (by simp only [List.mem_singleton]; rintro rfl; rw [hpn] at e; cases e) (kb2 b o hb (kp1 b o e))))
    refine k p c N W s' ys.toArray ns h7 tk7 _ kb F7 rfl rfl upd_same hpn hNp ?_ (hP4.keepB F4.F.ns kb7) (by lia) (hN4.keep fun o e => kb7 _ _ (nm (hNL)) e) ⟨ys2, nn2, hW, ?_⟩ h4 h6 hn62
    · rintro rfl
      refine shut fun X0 hX0 => ?_
      obtain ⟨t, o, e, _⟩ := hP4.list
      refine hX0 ?_
      clear hX0
      rw [e] at hWn; cases hWn
    · refine all2_of (by simp; lia) fun i y hy => ?_
      obtain ⟨n, hn, hy2⟩ := hys2 i y hy
      exact ⟨_, by simp [hn], hy2⟩
end
end Mine
end

section
open PySem PySem.W PySem.Calls PyProof.Rows PySem.SeqAt PySem.MeetsSeq
open PySem.Sem (wp)
set_option maxRecDepth 100000
namespace Mine
theorem perm_sorted_eq {α : Type} {R : α → α → Prop} (anti : ∀ a b, R a b → R b a → a = b) : ∀ {l₁ l₂ : List α}, l₁.Perm l₂ → l₁.Pairwise R → l₂.Pairwise R → l₁ = l₂
  | [], l₂, hp, _, _ => hp.nil_eq
  | a :: l₁, [], hp, _, _ => absurd hp.length_eq (by simp)
  | a :: l₁, b :: l₂, hp, h1, h2 => by
    have hab : a = b := by
      rcases List.mem_cons.mp (hp.mem_iff.mp (List.mem_cons_self ..)) with e | ha
      · exact e
      rcases List.mem_cons.mp (hp.mem_iff.mpr (List.mem_cons_self ..)) with e | hb
      · exact e.symm
      exact anti a b ((List.pairwise_cons.mp h1).1 b hb) ((List.pairwise_cons.mp h2).1 a ha)
    subst hab
    rw [perm_sorted_eq anti (List.perm_cons a |>.mp hp) (List.pairwise_cons.mp h1).2 (List.pairwise_cons.mp h2).2]
noncomputable abbrev Row := List UInt8
noncomputable def rowLe (a b : Row) : Prop := ¬ b.map (·.toNat) < a.map (·.toNat)
theorem toNats_inj {a b : Row} (h : a.map (·.toNat) = b.map (·.toNat)) : a = b := by
  apply List.ext_getElem
  · simpa using congrArg List.length h
  · intro i h1 h2
    have := congrArg (fun l => l[i]?) h
    simp [h1, h2] at this
    exact UInt8.toNat_inj.mp this
theorem lt_tri : ∀ a b : List Nat, ¬ a < b → ¬ b < a → a = b
  | [], [], _, _ => rfl
  | [], b :: bs, h, _ => absurd (List.nil_lt_cons b bs) h
  | a :: as, [], _, h => absurd (List.nil_lt_cons a as) h
  | a :: as, b :: bs, h1, h2 => by
    rw [List.cons_lt_cons_iff] at h1 h2
    have hab : a = b := by lia
    subst hab
    rw [lt_tri as bs (fun q => h1 (.inr ⟨rfl, q⟩)) (fun q => h2 (.inr ⟨rfl, q⟩))]
theorem rowLe_anti (a b : Row) (h1 : rowLe a b) (h2 : rowLe b a) : a = b := toNats_inj (lt_tri _ _ h2 h1)
theorem rowLe_of_ord {a b : Row} (h : ord a b = .lt) : rowLe a b := by
  have e := ord_lt_iff a b
  rw [h] at e
  have hlt : a.map (·.toNat) < b.map (·.toNat) := of_decide_eq_true e.symm
  intro q
  exact List.lt_irrefl _ (List.lt_trans hlt q)
theorem rowLe_rfl (a : Row) : rowLe a a := List.lt_irrefl _
theorem pairwise_words {ns : List Nat} (hs : ns.Pairwise (· ≤ ·)) (hb : ∀ n ∈ ns, n < 2 ^ 62) : (ns.map fun n => pv (vix n) n).Pairwise rowLe := by
  rw [List.pairwise_map]
  refine hs.imp_of_mem fun {a b} ha hb' hab => ?_
  rcases Nat.lt_or_ge a b with q | q
  · exact rowLe_of_ord (pv_ord q (hb b hb'))
  · have : a = b := Nat.le_antisymm hab q
    subst this; exact rowLe_rfl _
section
variable {prog : Program} {w : World} {A : Around} {E : Value → Shared → Prop} {env : Env} {r : Rest} {h h₀ : Heap} {L : Addr} {m mg mb : Str → Option Value} {news : List (Addr × Obj)} {tk : Nat} {P : Params}
theorem g_isTrue_Call {M : Model} {f : Expr} {args : List Expr} {kws : List Keyword} {pos : Pos} {s : Shared} {Q : Bool → Shared → Prop} (k : wpG M A (eval (.Call f args kws pos) env) (fun v s' => wpG M A (truthy v) Q E s') E s) :
    wpG M A (isTrue (.Call f args kws pos) env (eval (.Call f args kws pos) env)) Q E s := by
  show wpG M A (do let v ← eval (.Call f args kws pos) env; standAt (Expr.Call f args kws pos).pos; holding [v] (truthy v)) Q E s
  exact g_bind (g_mono k (fun v s' hv => g_bind (g_standAt (g_holding hv))) fun _ _ z => z)
/-- the words sorted are the words of the numbers sorted, and none begins another -/
theorem law_B {N W : Addr} {ns : List Nat} {Q : Flow → Shared → Prop} (R : Room A 8) (S₀ : SB (KF P) mg mb h₀) (F : Fm h₀ L m [] h) (hmN : m (Str.ofString "numbers") = some (.ref N)) (hmW : m (Str.ofString "words") = some (.ref W))
    (hN : NumList h N ns) (hW : RowList h W (ns.map fun n => pv (vix n) n)) (h4 : 4 ≤ ns.length) (h6 : ns.length ≤ 6) (hns : ∀ n ∈ ns, n < 2 ^ 62)
    (k : ∀ h' tk', Kp h h' → wpG (model prog w) A (execs (lawFrom P 4) (lawEnv P L)) Q E (r.at h' tk')) :
    wpG (model prog w) A (execs (lawFrom P 3) (lawEnv P L)) Q E (r.at h tk) := by
  have S : SB (KF P) mg mb h := S₀.keeps F.kp
  show wpG _ _ (execs (_ :: lawFrom P 4) _) _ _ _
  refine x_IfNot (g_or2 (g_isTrue_Compare1 ?_))
  refine g_Call1 (k := .machine) (Ev.blt S (n_sorted P) boot_sorted rfl) looks_blt (Ev.loc F hmW (rfl : _ = Value.ref W)) fun v tk1 hv => ?_
  subst hv
  refine sorted_rows hW (by simp; lia) fun D1 bs1 h1 tk2 kp1 _ hD1 hperm1 hsort1 => ?_
  refine Ek.run (Ek.listCompK (PI := fun items => ∃ ns', All2 (fun v k => IsI ((k : Nat) : Int) v) items ns' ∧ ns'.Perm ns ∧ ns'.Pairwise (· ≤ ·)) (Y := fun items i y _ => ∀ v n, items[i]? = some v → IsI ((n : Nat) : Int) v → IsBy (pv (vix n) n).toArray y) R.hand (?_ : Ek _ _ _ r h1 _ _)) ?_
  · intro E Q tk hq
    refine g_Call1 (k := .machine) (Ev.blt (S.keeps kp1) (n_sorted P) boot_sorted rfl) looks_blt (Ev.loc (F.kept kp1) hmN (rfl : _ = Value.ref N)) fun v tk1 hv => ?_
    subst hv
    refine sorted_num (hN.keep fun o e => kp1 _ _ e) (by lia) fun D2 ns' h2 tk3 kp2 _ hD2 hperm2 hsort2 => ?_
    refine shut fun X0 hX0 => ?_
    obtain ⟨vs, nn, hl, hvs⟩ := hD2
    refine hX0 ?_
    clear hX0
    have hvl := hvs.length
    have hpl := hperm2.length_eq
    refine hq _ _ _ kp2 ⟨D2, vs, rfl, ⟨_, hl, rfl, _, rfl⟩, by lia, ⟨ns', hvs, hperm2, hsort2⟩, ?_⟩
    refine CompOk.name (fun i y h1 h2 _ hy => hy) fun C i v h5 m5 hv F5 hm => ?_
    obtain ⟨n, hn, t, rfl⟩ := hvs.get' i hv
    have hn62' := hns n (hperm2.mem_iff.mp (List.mem_of_getElem? hn))
    intro E Q tk hq
    have S5 := ((S.keeps kp1).keeps kp2).keeps F5.kp
    refine g_Call2 (k := .frame) (Ev.glob S5 (n_putv P) rfl) (kp_putv S5) (Ev.loc F5 hm (rfl : _ = Value.int (n : Nat) t)) Ev.none fun v v2 tk' hv' hv2 => ?_
    subst hv'
    subst hv2
    refine put_varint_g (R.le (by decide)) S5 (vix_lt n) (Nat.le_refl _) hn62' (.inl ⟨rfl, rfl⟩) fun t' h6 tk6 kp6 => hq _ _ _ kp6 fun v' n' hv' hi => ?_
    rw [hv] at hv'
    cases hv'
    obtain ⟨u, e⟩ := hi
    have e1 : (n : Int) = (n' : Int) := by injection e
    have e2 : n = n' := by lia
    subst e2
    exact ⟨t', rfl⟩
  · rintro v h3 tk3 kp3 ⟨D3, ys, nn, items, rfl, hDn, hD3, ⟨ns', hit, hperm2, hsort2⟩, hlen, hys⟩
    have hrows : All2 (fun v b => IsBy b.toArray v) ys (ns'.map fun n => pv (vix n) n) := by
      have hil := hit.length
      refine all2_of (by simp; lia) fun i y hy => ?_
      have hi : i < items.length := by rw [← hlen]; exact (List.getElem?_eq_some_iff.mp hy).1
      obtain ⟨n, hn, hv⟩ := hit.get' i (List.getElem?_eq_getElem hi)
      exact ⟨_, by simp [hn], hys i y hy _ n (List.getElem?_eq_getElem hi) hv⟩
    have hns' : ∀ n ∈ ns', n < 2 ^ 62 := fun n hn => hns n (hperm2.mem_iff.mp hn)
    have eqb : bs1 = ns'.map fun n => pv (vix n) n :=
      perm_sorted_eq rowLe_anti (hperm1.trans (hperm2.symm.map _)) hsort1 (pairwise_words hsort2 hns')
    subst eqb
    refine shut fun X0 hX0 => ?_
    obtain ⟨vs1, n1, hl1, hv1⟩ := hD1
    refine hX0 ?_
    clear hX0
    refine ne_same (kp3 _ _ hl1) hD3 R.un (rows_same hv1 hrows) (g_truthy_bool ⟨rfl, ?_⟩)
    have kp := kp1.trans kp3
    have S3 := S.keeps kp
    refine g_isTrue_Call ?_
    refine g_Call1 (k := .frame) (Ev.glob S3 (n_begins P) rfl) (kp_begins S3) (Ev.loc (F.kept kp) hmW (rfl : _ = Value.ref W)) fun v tk4 hv => ?_
    subst hv
    refine law_begins_g (R.le (by decide)) S3 (hW.keep fun o e => kp _ _ e) (by simp; lia) (fun b hb => ?_) (fun a ha b hb hab => ?_) fun h5 tk5 kp5 => g_truthy_bool ⟨rfl, k h5 _ (kp.trans kp5)⟩
    · obtain ⟨n, _, rfl⟩ := List.mem_map.mp hb
      have e := pv_length (vix n) n
      have hx := vix_lt n
      have : 2 ^ vix n ≤ 2 ^ 3 := Nat.pow_le_pow_right (by decide) (by lia)
      rw [e]; lia
    · obtain ⟨n, hn, rfl⟩ := List.mem_map.mp ha
      obtain ⟨n2, hn2, rfl⟩ := List.mem_map.mp hb
      exact pv_begins (vix_lt _) (vix_lt _) (lt_of_vix (vix_lt _) (Nat.le_refl _) (hns n hn)) (lt_of_vix (vix_lt _) (Nat.le_refl _) (hns n2 hn2)) hab
end
end Mine
end

section
open PySem PySem.W PySem.Calls PyProof.Rows PySem.SeqAt PySem.MeetsSeq
open PySem.Sem (wp)
set_option maxRecDepth 100000
namespace Mine
section
variable {prog : Program} {w : World} {A : Around} {E : Value → Shared → Prop} {env : Env} {r : Rest} {h h₀ : Heap} {L : Addr} {m mg mb : Str → Option Value} {news : List (Addr × Obj)} {tk : Nat} {P : Params}
/-- a tuple of two numbers that a comprehension lays beside its own -/
inductive DuoX (X : List Addr) (h : Heap) (v : Value) (p : Nat × Nat) : Prop
  | mk (a t1 t2) : v = .ref a → a ∉ X → h.get? a = some (tobj [.int (p.1 : Nat) t1, .int (p.2 : Nat) t2]) → DuoX X h v p
theorem DuoX.keep {X : List Addr} {h h' : Heap} {v : Value} {p : Nat × Nat} (x : DuoX X h v p) (k : Ks X h h') : DuoX X h' v p := by
  cases x with
  | mk a t1 t2 e hn ha => exact .mk a t1 t2 e hn (k _ _ hn ⟨_, _, rfl⟩ ha)
theorem DuoX.duo {X : List Addr} {h : Heap} {v : Value} {p : Nat × Nat} (x : DuoX X h v p) : IsDuo h v p := by
  cases x with
  | mk a t1 t2 e hn ha => exact .mk a t1 t2 e ha

/-- (number, len(row)) over zip of numbers and rows -/
theorem Ek.numLens {x y za zb zc : Str} {px py px2 py2 pt pt2 pz pa pb pc pl pl2 : Pos} {k0 k1 : Nat} {scope : Scope} {pos : Pos} {cl : List (Str × Addr)} {l1 l2 : Addr} {ns : List Nat} {bs : List Row}
    (hh : A.handled = Option.none) (S : SB (KF P) mg mb h) (ez : Ev (model prog w) A env r h (.Name zc pz) (· = .type "zip")) (ea : Ev (model prog w) A env r h (.Name za pa) (· = .ref l1)) (eb : Ev (model prog w) A env r h (.Name zb pb) (· = .ref l2))
    (hl1 : NumList h l1 ns) (hl2 : RowList h l2 bs) (hlen : ns.length = bs.length) (hn : ns.length ≤ 1000) (hb : ∀ b ∈ bs, b.length < 1000)
    (el : ∀ C h', SB (KF P) mg mb h' → Ev (model prog w) A (compEnvC scope cl C env) r h' (.Name (Str.ofString "len") pl) (· = .builtin "len"))
    (hxy : x ≠ y := by decide) (hx : scope.names.lookup x = some .local := by rfl) (hy : scope.names.lookup y = some .local := by rfl)
    (hcell : ∀ y ∈ scope.names, y.2 ≠ .cell := by decide) (hkind : scope.kind = .function := by rfl) (names : ∀ x ∈ scope.names, x.2 = .local → scope.names.lookup x.1 = some .local := by decide)
    (hdx : (x == ("__debug__" : Str)) = false := by decide) (hdy : (y == ("__debug__" : Str)) = false := by decide)
    (hclos : closureFor scope env = pure cl := by rfl) (hs : ∀ x, foldedSetIterable (.Call (.Name zc pz) [.Name za pa, .Name zb pb] [] pc) env x = pure x := by intro _; rfl) :
    Ek (model prog w) A env r h (.ListComp (.Tuple [.Name x px2, .Call (.Name (Str.ofString "len") pl) [.Name y py2] [] pl2] k1 pt2) [⟨.Tuple [.Name x px, .Name y py] k0 pt, .Call (.Name zc pz) [.Name za pa, .Name zb pb] [] pc, [], 0⟩] scope pos)
      (fun v h' => ∃ D rs nn, v = .ref D ∧ h.get? D = Option.none ∧ h'.get? D = some (lobj rs nn) ∧ All2 (IsDuo h') rs ((ns.zip bs).map fun p => (p.1, p.2.length))) := by
  refine shut fun X0 hX0 => ?_
  obtain ⟨vs, n1, e1, hvs⟩ := hl1
  refine hX0 ?_
  clear hX0
  refine shut fun X0 hX0 => ?_
  obtain ⟨us, n2, e2, hus⟩ := hl2
  refine hX0 ?_
  clear hX0
  have hvl := hvs.length
  have hul := hus.length
  refine (Ek.zipComp (Y := fun X i v h' => ∃ n b, ns[i]? = some n ∧ bs[i]? = some b ∧ DuoX X h' v (n, b.length)) hh ez ea eb ⟨_, e1, rfl, _, rfl⟩ ⟨_, e2, rfl, _, rfl⟩ (by lia) ?_ ?_ hxy hx hy hcell hkind names hclos hs).mono ?_
  · rintro X i y h1 h2 q ⟨n, b, hn', hb', hd⟩
    exact ⟨n, b, hn', hb', hd.keep q⟩
  · intro C i v u h' m' X hv hu F' hmx hmy hX
    obtain ⟨n, hn', t, rfl⟩ := hvs.get' i hv
    obtain ⟨b, hb', t2, rfl⟩ := hus.get' i hu
    have hbz := hb b (List.mem_of_getElem? hb')
    have S' := S.keeps F'.kp
    refine (Ek.pair (P := fun v => v = Value.int (n : Nat) t) (P2 := IsI ((b.length : Nat) : Int)) (Ev.ek (Ev.loc (env := compEnvC scope cl C env) F' hmx rfl rfl hkind (lookup_relabel_local hx) hdx)) fun h2 kp2 => Ev.ek ?_).mono ?_
    · have := Ev.lenB (env := compEnvC scope cl C env) (A := A) (prog := prog) (w := w) (r := r) (h := h2) (e := .Name y py2) (pos := pl2) (el C h2 (S'.keeps kp2)) (Ev.loc (env := compEnvC scope cl C env) (F'.kept kp2) hmy (rfl : _ = Value.bytes b.toArray t2) rfl hkind (lookup_relabel_local hy) hdy) (by simp; lia)
      simpa using this
    · rintro v h3 kp3 ⟨a, v1, v2, rfl, han, ha, rfl, t3, rfl⟩
      refine ⟨n, b, hn', hb', a, t, t3, rfl, fun q => hX a q han, ha⟩
  · rintro v h' kp ⟨D, rs, nn, rfl, hDn, hD, hl, hrs⟩
    refine ⟨D, rs, nn, rfl, hDn, hD, all2_of (by simp [hl]; lia) fun i y hy => ?_⟩
    refine shut fun X0 hX0 => ?_
    obtain ⟨X, n, b, hn', hb', hd⟩ := hrs i y hy
    refine hX0 ?_
    clear hX0
    refine ⟨(n, b.length), ?_, hd.duo⟩
    have e : (ns.zip bs)[i]? = some (n, b) := by rw [List.getElem?_zip_eq_some]; exact ⟨hn', hb'⟩
    rw [List.getElem?_map, e]; rfl
/-- the words are read back as the numbers -/
theorem law_C {N W : Addr} {ns : List Nat} {Q : Flow → Shared → Prop} (R : Room A 8) (S₀ : SB (KF P) mg mb h₀) (F : Fm h₀ L m [] h) (hmN : m (Str.ofString "numbers") = some (.ref N)) (hmW : m (Str.ofString "words") = some (.ref W))
    (hN : NumList h N ns) (hW : RowList h W (ns.map fun n => pv (vix n) n)) (h6 : ns.length ≤ 6) (hns : ∀ n ∈ ns, n < 2 ^ 62)
    (k : ∀ h' tk', Kp h h' → wpG (model prog w) A (execs (lawFrom P 5) (lawEnv P L)) Q E (r.at h' tk')) :
    wpG (model prog w) A (execs (lawFrom P 4) (lawEnv P L)) Q E (r.at h tk) := by
  have S : SB (KF P) mg mb h := S₀.keeps F.kp
  have hlen : ∀ n, (pv (vix n) n).length ≤ 8 := fun n => by
    have hx := vix_lt n
    have : 2 ^ vix n ≤ 2 ^ 3 := Nat.pow_le_pow_right (by decide) (by lia)
    rw [pv_length]; lia
  show wpG _ _ (execs (_ :: lawFrom P 5) _) _ _ _
  refine x_IfNot (g_isTrue_Compare1 ?_)
  refine shut fun X0 hX0 => ?_
  obtain ⟨us, nu, hW', hus⟩ := id hW
  refine hX0 ?_
  clear hX0
  have hul := hus.length
  refine Ek.run (Ek.listCompK (PI := fun items => items = us) (Y := fun _ i y h' => ∃ n, ns[i]? = some n ∧ IsDuo h' y (n, 2 ^ vix n)) R.hand (Ek.mono (Ev.ek (Ev.loc F hmW (rfl : _ = Value.ref W))) ?_)) ?_
  · rintro v h1 kp rfl
    refine ⟨W, us, rfl, ⟨_, kp _ _ hW', rfl, _, rfl⟩, by simp at hul; lia, rfl, ?_⟩
    refine CompOk.name ?_ fun C i v h5 m5 hv F5 hm => ?_
    · rintro i y h1 h2 q ⟨n, hn, hd⟩
      exact ⟨n, hn, hd.keep fun a l e => q a l (by simp) e⟩
    · obtain ⟨b, hb, t, rfl⟩ := hus.get' i hv
      rw [List.getElem?_map] at hb
      obtain ⟨n, hn, rfl⟩ := Option.map_eq_some_iff.mp hb
      have hn62 := hns n (List.mem_of_getElem? hn)
      intro E Q tk hq
      have S5 := (S.keeps kp).keeps F5.kp
      have hlt := lt_of_vix (vix_lt n) (Nat.le_refl _) hn62
      refine shut fun X0 hX0 => ?_
      obtain ⟨c, rr, hpv, hc1, hc2⟩ := pv_head (vix_lt n) hlt
      refine hX0 ?_
      clear hX0
      refine g_Call2 (k := .frame) (Ev.glob S5 (n_getv P) rfl) (kp_gvar S5) (Ev.loc F5 hm (rfl : _ = Value.bytes (pv (vix n) n).toArray t)) (Ev.int (i := 0)) fun v v2 tk' hv' hv2 => ?_
      subst hv'
      obtain ⟨t2, rfl⟩ := hv2
      have hl8 := hlen n
      refine get_varint_g (at_ := 0) (i := vix n) (c := c) (R.le (by decide)) S5 (by simp; lia) (by rw [hpv]; rfl) hc1.symm (by rw [List.size_toArray, pv_length]; lia) fun a u1 u2 h6 tk6 kp6 han ha => ?_
      refine hq _ _ _ kp6 ⟨n, hn, a, u1, u2, rfl, ?_⟩
      rw [ha]
      have e1 : (List.drop 0 (pv (vix n) n).toArray.toList).take (2 ^ vix n) = pv (vix n) n := by
        rw [List.drop_zero]
        exact List.take_of_length_le (by rw [pv_length]; exact Nat.le_refl _)
      rw [e1, pv_val (vix_lt n) hlt]
      simp [tobj]
  · rintro v h3 tk3 kp3 ⟨D, ys, nn, items, rfl, hDn, hD, rfl, hyl, hys⟩
    have F3 := F.kept kp3
    refine Ek.run (Ek.numLens (bs := ns.map fun n => pv (vix n) n) R.hand (S.keeps kp3) (Ev.blt (S.keeps kp3) (n_zip P) boot_zip rfl) (Ev.loc F3 hmN (rfl : _ = Value.ref N)) (Ev.loc F3 hmW (rfl : _ = Value.ref W)) (hN.keep fun o e => kp3 _ _ e) (hW.keep fun o e => kp3 _ _ e) (by simp) (by lia) ?_ ?_) ?_
    · intro b hb
      obtain ⟨n, _, rfl⟩ := List.mem_map.mp hb
      have := hlen n
      lia
    · intro C h' S'
      exact Ev.blt S' (n_len P) boot_len rfl
    · rintro v h5 tk5 kp5 ⟨D2, rs, n2, rfl, hD2n, hD2, hrs⟩
      have e0 : ∀ l : List Nat, (l.zip (l.map fun n => pv (vix n) n)).map (fun p => (p.1, p.2.length)) = l.map fun n => (n, 2 ^ vix n) := fun l => by
        induction l with
        | nil => rfl
        | cons a l ih => rw [List.map_cons, List.zip_cons_cons, List.map_cons, ih, List.map_cons, pv_length]
      rw [e0] at hrs
      have hys2 : All2 (IsDuo h5) ys (ns.map fun n => (n, 2 ^ vix n)) := by
        refine all2_of (by simp at hul; simp; lia) fun i y hy => ?_
        obtain ⟨n, hn, hd⟩ := hys i y hy
        exact ⟨_, by simp [hn], hd.keep fun a l e => kp5 _ _ e⟩
      refine ne_same (kp5 _ _ hD) hD2 R.un (duos_same (show A.in1.units < cLine by have := R.units; have : A.in1.units = A.units + 1 := rfl; lia) hys2 hrs) (g_truthy_bool ⟨rfl, k h5 _ (kp3.trans kp5)⟩)
end
end Mine
end

section
open PySem PySem.W PySem.Calls PyProof.Rows PySem.SeqAt PySem.MeetsSeq
open PySem.Sem (wp)
set_option maxRecDepth 100000
namespace Mine
theorem sizes_at {q : Nat} (hq : q < 4) : ([1, 2, 4, 8] : List Int)[q]? = some ((2 ^ q : Nat) : Int) := by
  have : q = 0 ∨ q = 1 ∨ q = 2 ∨ q = 3 := by lia
  obtain rfl | rfl | rfl | rfl := this <;> rfl
theorem sizes_before {q j : Nat} (hq : q < 4) (hj : j < q) : ([1, 2, 4, 8] : List Int)[j]? ≠ some ((2 ^ q : Nat) : Int) := by
  have h1 : q = 1 ∨ q = 2 ∨ q = 3 := by lia
  obtain rfl | rfl | rfl := h1
  · obtain rfl : j = 0 := by lia
    decide
  · have : j = 0 ∨ j = 1 := by lia
    obtain rfl | rfl := this <;> decide
  · have : j = 0 ∨ j = 1 ∨ j = 2 := by lia
    obtain rfl | rfl | rfl := this <;> decide
theorem ints_zeros {vs : List Value} (h : IntsAre vs [0]) : IntsAre ((List.replicate (if vs.isEmpty then 0 else 7) vs).flatten) [0, 0, 0, 0, 0, 0, 0] := by
  cases h with
  | cons _ t r => cases r; exact .cons _ t (.cons _ t (.cons _ t (.cons _ t (.cons _ t (.cons _ t (.cons _ t .nil))))))
section
variable {prog : Program} {w : World} {A : Around} {E : Value → Shared → Prop} {env : Env} {r : Rest} {h h₀ : Heap} {L : Addr} {m mg mb : Str → Option Value} {news : List (Addr × Obj)} {tk : Nat} {P : Params}
theorem g_Call2K {M : Model} {x : Str} {p pos : Pos} {e e2 : Expr} {f : Value} {k : Keeper} {P : Value → Heap → Prop} {P2 : Value → Prop} {Q : Value → Shared → Prop} (ef : Ev M A env r h (.Name x p) (· = f)) (hl : ∀ h', Kp h h' → Looks M h' (keeperOf f) k)
    (a : Ek M A env r h e P) (b : ∀ h', Kp h h' → Ev M A env r h' e2 P2) (c : ∀ v v2 h' tk', Kp h h' → P v h' → P2 v2 → wpG M A (call f [v, v2]) Q E (r.at h' tk')) (hk : k = .frame ∨ k = .machine := by first | exact .inl rfl | exact .inr rfl)
    (he : starEach [e, e2] env = (false, eval e env) :: starEach [e2] env := by rfl) (he2 : starEach [e2] env = (false, eval e2 env) :: starEach [] env := by rfl) :
    wpG M A (eval (.Call (.Name x p) [e, e2] [] pos) env) Q E (r.at h tk) := by
  refine g_Call (ef _ _ _ fun v tk₁ hv => ?_)
  subst hv
  refine g_callWith hk (g_spliced (a _ _ _ fun v h1 tk1 kp hv => g_spliced (b h1 kp _ _ _ fun v2 tk2 hv2 => g_spliced_none ⟨hl h1 kp, ?_⟩) he2) he) he (by rw [he2]; rfl)
  exact c v v2 h1 tk2 kp hv hv2
theorem IsE.int {M : Model} {i : Int} {k : Nat} {pos : Pos} : IsE M A env r h (.Constant (.int i) k pos) i := ⟨Ev.int, fun _ => rfl⟩
theorem sizesE {M : Model} {k1 k2 k3 k4 : Nat} {p1 p2 p3 p4 : Pos} : All2 (IsE M A env r h) [.Constant (.int 1) k1 p1, .Constant (.int 2) k2 p2, .Constant (.int 4) k3 p3, .Constant (.int 8) k4 p4] [1, 2, 4, 8] := .cons IsE.int (.cons IsE.int (.cons IsE.int (.cons IsE.int .nil)))

/-- a size and a first octet are drawn -/
theorem law_D {p c : Addr} {s : Nat} {ks : Array Value} {Q : Flow → Shared → Prop} (R : Room A 8) (S₀ : SB (KF P) mg mb h₀) (F : Fm h₀ L m [] h) (hmp : m (Str.ofString "pool") = some (.ref p)) (hp0 : h₀.get? p = none) (hP : Pool h p c s ks) (hs : s < 1000)
    (k : ∀ q f t1 t2 h' tk', q < 4 → f < 256 → KpB [L, p] h h' → Fm h₀ L (upd (upd m (Str.ofString "first") (.int (f : Nat) t2)) (Str.ofString "size") (.int (2 ^ q : Nat) t1)) [] h' → Pool h' p c (s + 2) ks → wpG (model prog w) A (execs (lawFrom P 6) (lawEnv P L)) Q E (r.at h' tk')) :
    wpG (model prog w) A (execs (lawFrom P 5) (lawEnv P L)) Q E (r.at h tk) := by
  have S : SB (KF P) mg mb h := S₀.keeps F.kp
  have hpL : p ≠ L := by obtain ⟨t, y⟩ := hP.list; exact list_not_ns F.F.ns y
  show wpG _ _ (execs (_ :: lawFrom P 6) _) _ _ _
  refine x_Swap2X (h₀ := h₀) (L := L) (m := m) (news := []) R.hand ?_
  refine g_Tuple (g_spliced ?_)
  refine g_Subscript (Ek.run (Ek.tupleInts sizesE (by decide)) fun v h1 tk1 kp1 ⟨a, vs, hv, han, ha, hvs⟩ => ?_)
  subst hv
  have hap : a ≠ p := by rintro rfl; obtain ⟨t, o, e, _⟩ := hP.list; rw [han] at e; cases e
  refine g_draw (many := 4) (R.le (by decide)) S₀ (F.kept kp1) hp0 (hP.keep fun b o _ e => kp1 _ _ e) (by lia) (by decide) (by decide) (Ev.glob (S.keeps kp1) (n_draw P) rfl) (Ev.loc (F.kept kp1) hmp rfl) fun q tq h2 tk2 hq kb2 F2 P2 => ?_
  obtain ⟨t1, hx⟩ := ints_at hvs q (sizes_at hq)
  have ha2 : h2.get? a = some (tobj vs) := kb2 _ _ (nm (hap)) ha
  have ht2 : IsTup h2 a vs.toArray := ⟨_, ha2, rfl, _, rfl⟩
  have hvl : vs.length = 4 := hvs.length
  refine g_item (s := r.at h2 tk2) ht2.typeIs slot_tuple_getitem.lookup (getItem_tuple (j := q) ht2 (by lia) (by lia) (seqIxN (by simp; lia)) (by simpa using hx) ?_) (by with_unfolding_all rfl)
  refine g_spliced ?_
  refine g_draw (many := 256) (R.le (by decide)) S₀ F2 hp0 P2 (by lia) (by decide) (by decide) (Ev.glob (S₀.keeps F2.kp) (n_draw P) rfl) (Ev.loc F2 hmp rfl) fun f tf h3 tk3 hf kb3 F3 P3 => ?_
  refine g_spliced_none ⟨by rw [sizeLine_eq]; show 2 ≤ 16777216; lia, _, _, _, _, tk3, rfl, rfl, Heap.get?_push_size _ rfl, F3.kept (Kp.push _ _), fun h4 tk4 kb4 F4 => ?_⟩
  refine k q f t1 tf h4 tk4 hq hf (fun b o hb e => ?_) F4 ((P3.keep fun b o _ e => Heap.get?_push_of_some _ e).keepB (F3.kept (Kp.push _ _)).F.ns kb4)
  simp only [List.mem_cons, List.not_mem_nil, or_false, not_or] at hb
  exact kb4 _ _ (nm (hb.1)) (Heap.get?_push_of_some _ (kb3 _ _ (nm (hb.2)) (kb2 _ _ (nm (hb.2)) (kp1 _ _ e))))
end
end Mine
end

section
open PySem PySem.W PySem.Calls PyProof.Rows PySem.SeqAt PySem.MeetsSeq
open PySem.Sem (wp)
set_option maxRecDepth 100000
namespace Mine
theorem pow_beq {i q : Nat} (hi : i < 4) (hq : q < 4) : (((2 ^ i : Nat) : Int) == ((2 ^ q : Nat) : Int)) = (((i : Nat) : Int) == ((q : Nat) : Int)) := by
  have h1 : i = 0 ∨ i = 1 ∨ i = 2 ∨ i = 3 := by lia
  have h2 : q = 0 ∨ q = 1 ∨ q = 2 ∨ q = 3 := by lia
  obtain rfl | rfl | rfl | rfl := h1 <;> obtain rfl | rfl | rfl | rfl := h2 <;> decide
section
variable {prog : Program} {w : World} {A : Around} {E : Value → Shared → Prop} {env : Env} {r : Rest} {h h₀ : Heap} {L : Addr} {m mg mb : Str → Option Value} {news : List (Addr × Obj)} {tk : Nat} {P : Params}
/-- the first octet tells the size -/
theorem law_E {q f : Nat} {t1 t2 : Tok} {Q : Flow → Shared → Prop} (R : Room A 8) (S₀ : SB (KF P) mg mb h₀) (F : Fm h₀ L m [] h) (hmf : m (Str.ofString "first") = some (.int (f : Nat) t2)) (hms : m (Str.ofString "size") = some (.int (2 ^ q : Nat) t1)) (hq : q < 4) (hf : f < 256)
    (k : ∀ h' tk', Kp h h' → wpG (model prog w) A (execs (lawFrom P 7) (lawEnv P L)) Q E (r.at h' tk')) :
    wpG (model prog w) A (execs (lawFrom P 6) (lawEnv P L)) Q E (r.at h tk) := by
  have S : SB (KF P) mg mb h := S₀.keeps F.kp
  show wpG _ _ (execs (_ :: lawFrom P 7) _) _ _ _
  refine x_IfNot (g_isTrue_Compare1 (g_Compare1 (g_Subscript ?_)))
  refine g_Call2K (k := .frame) (P := fun v _ => ∃ ns t, ns = [((f : Nat) : Int), 0, 0, 0, 0, 0, 0, 0] ∧ v = .bytes (byteArr ns) t) (P2 := IsI 0) (Ev.glob S (n_getv P) rfl) (fun h' kp => kp_gvar (S.keeps kp)) ?_ (fun h' kp => Ev.int (i := 0)) fun v v2 h1 tk1 kp1 hv hv2 => ?_
  · refine (Ek.bytesOf (PL := fun vs => IntsAre vs [((f : Nat) : Int), 0, 0, 0, 0, 0, 0, 0]) R.hand (Ev.blt S (n_bytes P) boot_bytes rfl) ((Ek.plusLists (P := fun vs => IntsAre vs [((f : Nat) : Int)]) (P2 := fun vs => IntsAre vs [0, 0, 0, 0, 0, 0, 0]) ?_ (fun h' kp => ?_) ?_).mono ?_) ?_).mono ?_
    · refine (Ek.listInts (.cons ⟨Ev.loc F hmf ⟨t2, rfl⟩, fun _ => rfl⟩ .nil) (by decide)).mono ?_
      rintro v h' kp ⟨a, vs, n, rfl, _, ha, hi⟩
      exact ⟨a, vs, n, rfl, ha, hi⟩
    · refine (Ek.timesList (P := fun vs => IntsAre vs [0]) (x := 7) ((Ek.listInts (.cons IsE.int .nil) (by decide)).mono ?_) (fun h2 kp2 => Ev.int (i := 7)) (by decide) ?_).mono ?_
      · rintro v h' kp ⟨a, vs, n, rfl, _, ha, hi⟩
        exact ⟨a, vs, n, rfl, ha, hi⟩
      · intro vs hi; have := hi.length; simp at this; lia
      · rintro v h' kp ⟨D, vs, rfl, _, hD, hi⟩
        exact ⟨D, _, 0, rfl, hD, ints_zeros hi⟩
    · intro vs ws hi hj
      have := hi.length
      have := hj.length
      simp at *; lia
    · rintro v h' kp ⟨D, vs, ws, rfl, _, hD, hi, hj⟩
      exact ⟨D, _, 0, rfl, hD, hi.append hj⟩
    · intro vs hi
      have := hi.length
      refine ⟨by simp at this; lia, _, hi, fun n hn => ?_⟩
      simp only [List.mem_cons, List.not_mem_nil, or_false] at hn
      rcases hn with rfl | rfl | rfl | rfl | rfl | rfl | rfl | rfl <;> lia
    · rintro v h' kp ⟨vs, ns, t, hi, hj, rfl⟩
      have e1 := hi.nums
      have e2 := hj.nums
      rw [e1] at e2
      exact ⟨ns, t, e2.symm, rfl⟩
  obtain ⟨ns, t, rfl, rfl⟩ := hv
  obtain ⟨t0, rfl⟩ := hv2
  have hcn : (f.toUInt8).toNat = f := by simp; lia
  have hb : (byteArr [((f : Nat) : Int), 0, 0, 0, 0, 0, 0, 0])[0]? = some f.toUInt8 := by simp [byteArr]
  have hsz : (byteArr [((f : Nat) : Int), 0, 0, 0, 0, 0, 0, 0]).size = 8 := by rw [byteArr_size]; rfl
  have hi4 : f / 64 < 4 := by lia
  have h2i : 2 ^ (f / 64) ≤ 2 ^ 3 := Nat.pow_le_pow_right (by decide) (by lia)
  refine get_varint_g (at_ := 0) (i := f / 64) (c := f.toUInt8) (R.le (by decide)) (S.keeps kp1) (by lia) hb (by rw [hcn]) (by lia) fun a u1 u2 h2 tk2 kp2 han ha => ?_
  refine Ev.run (Ev.int (i := 1)) fun v tk3 ⟨t3, hv⟩ => ?_
  subst hv
  have ht2 : IsTup h2 a _ := ⟨_, ha, rfl, _, rfl⟩
  refine g_item (s := r.at h2 tk3) ht2.typeIs slot_tuple_getitem.lookup (getItem_tuple (j := 1) ht2 (by decide) (by decide) (by rfl) rfl ?_) (by with_unfolding_all rfl)
  have kp := kp1.trans kp2
  refine Ev.run (Ev.loc (F.kept kp) hms (rfl : _ = Value.int (2 ^ q : Nat) t1)) fun v tk4 hv => ?_
  subst hv
  refine CmpI.eq _ _ _ _ _ ?_
  refine g_Compare1 (Ev.run (Ev.bin (Ev.loc (F.kept kp) hmf ⟨t2, rfl⟩) Ev.int (OpI.eq (OpI.fdiv (by decide) (PyProof.noPylong_small (by decide))) (show _ = ((f / 64 : Nat) : Int) from nat_fdiv f 64))) fun v tk5 ⟨t5, hv⟩ => ?_)
  subst hv
  refine Ek.run (Ek.meth1 (P := IsI q) PySem.F.plainAttrs_tuple PySem.F.slot_tuple_index PySem.F.type_tuple_index (Ek.tupleInts sizesE (by decide)) ?_ (fun h' kp' => Ev.loc ((F.kept kp).kept kp') hms (rfl : _ = Value.int (2 ^ q : Nat) t1)) ?_) fun v h3 tk6 kp3 ⟨t6, hv⟩ => ?_
  · rintro v h' ⟨a, vs, rfl, _, ha, _⟩
    exact ⟨a, _, rfl, ha, rfl, rfl⟩
  · rintro ov v h' E Q tk ⟨a, vs, rfl, _, ha, hi⟩ rfl hq'
    exact lift (tuple_index (s := r.at h' tk) (i := q) (items := vs.toArray) ⟨_, ha, rfl, _, rfl⟩ hi (sizes_at hq) (fun j hj => sizes_before hq hj) (hq' _ _ ⟨_, rfl⟩))
  subst hv
  refine CmpI.eq _ _ _ _ _ (ne_bools (g_truthy_bool ⟨?_, k h3 _ (kp.trans kp3)⟩))
  rw [Nat.zero_add, pow_beq hi4 hq]
  simp
end
end Mine
end

section
open PySem PySem.W PySem.Calls PyProof.Rows PySem.SeqAt PySem.MeetsSeq
open PySem.Sem (wp)
set_option maxRecDepth 100000
namespace Mine
theorem KpB.step {wr wr' : List Addr} {a b c : Heap} (x : KpB wr a b) (y : KpB wr' b c) (hw : ∀ i ∈ wr', i ∈ wr ∨ a.get? i = none) : KpB wr a c := fun i o hi e => y i o (fun q => by
  rcases hw i q with h | h
  · exact hi h
  · rw [h] at e; cases e) (x i o hi e)
/-- what the loop keeps -/
structure FInv (h₀ h : Heap) (L p c B I : Addr) (m : Str → Option Value) (ks : Array Value) (s n : Nat) (i : Nat) (h' : Heap) (m' : Str → Option Value) (l : List UInt8) (s' : Nat) : Prop where
  F : Fm h₀ L m' [] h'
  hm : ∀ x, x ≠ Str.ofString "data" → x ≠ Str.ofString "turn" → m' x = m x
  hd : m' (Str.ofString "data") = some (.ref B)
  it : IsRangeIter h' I (0 + (i : Nat) * 1) ((n : Int) - (i : Nat)) 1
  P : Pool h' p c s' ks
  hs : s' ≤ s + 1 + i
  hB : h'.get? B = some (BA.obj (List.toArray l))
  hl : l.length = i
  kb : KpB [L, p] h h'
theorem stL {wr : List Addr} {x : Addr} {h : Heap} (hx : x ∈ wr) : ∀ i ∈ [x], i ∈ wr ∨ h.get? i = none := fun i hi => by
  cases hi with
  | head => exact .inl hx
  | tail _ q => cases q
theorem stR {wr : List Addr} {x : Addr} {h : Heap} (hx : h.get? x = none) : ∀ i ∈ [x], i ∈ wr ∨ h.get? i = none := fun i hi => by
  cases hi with
  | head => exact .inr hx
  | tail _ q => cases q
section
variable {prog : Program} {w : World} {A : Around} {E : Value → Shared → Prop} {env : Env} {r : Rest} {h h₀ : Heap} {L : Addr} {m mg mb : Str → Option Value} {news : List (Addr × Obj)} {tk : Nat} {P : Params}
/-- a row of octets is drawn -/
theorem law_F {p c : Addr} {s : Nat} {ks : Array Value} {Q : Flow → Shared → Prop} (R : Room A 8) (S₀ : SB (KF P) mg mb h₀) (F : Fm h₀ L m [] h) (hmp : m (Str.ofString "pool") = some (.ref p)) (hp0 : h₀.get? p = none) (hP : Pool h p c s ks) (hs : s < 1000)
    (k : ∀ B (l : List UInt8) s' h' tk' m', l.length ≤ 12 → s' ≤ s + 13 → KpB [L, p] h h' → Fm h₀ L m' [] h' → (∀ x, x ≠ Str.ofString "data" → x ≠ Str.ofString "turn" → m' x = m x) → m' (Str.ofString "data") = some (.ref B) →
      h.get? B = none → h'.get? B = some (BA.obj l.toArray) → Pool h' p c s' ks → wpG (model prog w) A (execs (lawFrom P 9) (lawEnv P L)) Q E (r.at h' tk')) :
    wpG (model prog w) A (execs (lawFrom P 7) (lawEnv P L)) Q E (r.at h tk) := by
  have S : SB (KF P) mg mb h := S₀.keeps F.kp
  have hpL : p ≠ L := by obtain ⟨t, y⟩ := hP.list; exact list_not_ns F.F.ns y
  have hcL : c ≠ L := list_not_ns F.F.ns hP.cells
  show wpG _ _ (execs (_ :: _ :: lawFrom P 9) _) _ _ _
  refine x_Assign (g_CallE0 (k := .machine) (Ev.blt S (n_bytearray P) boot_bytearray rfl) looks_type (fun tk1 => BA.make_none R.guards fun h1 kp1 hB1 => ?_))
  refine g_store (F.kept kp1) fun h2 tk2 kb2 F2 => ?_
  generalize hB : h.objs.size = B at hB1 F2
  have hBn : h.get? B = none := by rw [← hB]; exact Heap.get?_none_of_le (Nat.le_refl _)
  have hBL : B ≠ L := by rintro rfl; obtain ⟨o, es, ep, e1, _⟩ := F.F.ns; rw [hBn] at e1; cases e1
  have hBp : B ≠ p := by rintro rfl; obtain ⟨t, o, e, _⟩ := hP.list; rw [hBn] at e; cases e
  have hBc : c ≠ B := by rintro rfl; obtain ⟨o, e, _⟩ := hP.cells; rw [hBn] at e; cases e
  have hB0 : h₀.get? B = none := F.kp.none hBn
  have hB2 : h2.get? B = some (BA.obj #[]) := kb2 _ _ (nm (hBL)) hB1
  have P2 : Pool h2 p c s ks := (hP.keep fun b o _ e => kp1 _ _ e).keepB (F.kept kp1).F.ns kb2
  have kbh2 : KpB [L, p] h h2 := (kp1.but (wr := [L, p])).step kb2 (stL (.head _))
  have S2 : SB (KF P) mg mb h2 := S₀.keeps F2.kp
  refine x_For (fun _ => rfl) ?_
  refine g_Call1X (k := .machine) (Ev.blt S2 (n_range P) boot_range rfl) fun tk4 => ?_
  refine g_BinOp (Ev.run (Ev.int (i := 5)) fun v tk5 ⟨t5, hv⟩ => ?_)
  subst hv
  refine g_draw (many := 8) (R.le (by decide)) S₀ F2 hp0 P2 (by lia) (by decide) (by decide) (Ev.glob S2 (n_draw P) rfl) (Ev.loc F2 ((upd_ne (by decide)).trans hmp) rfl) fun q tq h4 tk6 hq kb4 F4 P4 => ?_
  refine OpI.add _ _ _ _ _ _ _ fun t6 tk7 => ⟨looks_type, ?_⟩
  rw [show (5 : Int) + (q : Nat) = ((5 + q : Nat) : Int) by lia]
  refine lift (PySem.call_range_1 (s := r.at h4 tk7) ?_)
  refine lift (wpAny_pyIter_range (IsRange.new ..) (small_up _ (by lia)) ?_)
  rw [rangeSize_up]
  have hB4 : h4.get? B = some (BA.obj #[]) := kb4 _ _ (nm (hBp)) hB2
  show codeG (model prog w) _ (.forLoop _ (.ref (h4.push _).objs.size) _ _ _) _ _
  rw [Heap.size_push]
  have kp5 : Kp h4 ((h4.push { cls := .type "range", data := .fields #[.int 0 tk7, .int (5 + q : Nat) t6, .int 1 (tk7 + 1)] }).push { cls := .type "range_iterator", data := .fields #[rawInt 0, rawInt (5 + q : Nat), rawInt 1] }) := (Kp.push _ _).trans (Kp.push _ _)
  have hIt := Heap.get?_push_size (h4.push { cls := .type "range", data := .fields #[.int 0 tk7, .int (5 + q : Nat) t6, .int 1 (tk7 + 1)] }) (o := { cls := .type "range_iterator", data := .fields #[rawInt 0, rawInt (5 + q : Nat), rawInt 1] }) rfl
  rw [Heap.size_push] at hIt
  have hI4 : h4.get? (h4.objs.size + 1) = none := Heap.get?_none_of_le (Nat.le_succ _)
  show codeG (model prog w) _ (.forLoop _ (.ref (h4.objs.size + 1)) _ _ _) _ (r.at ((h4.push { cls := .type "range", data := .fields #[.int 0 tk7, .int (5 + q : Nat) t6, .int 1 (tk7 + 1)] }).push { cls := .type "range_iterator", data := .fields #[rawInt 0, rawInt (5 + q : Nat), rawInt 1] }) _)
  generalize (h4.push { cls := .type "range", data := .fields #[.int 0 tk7, .int (5 + q : Nat) t6, .int 1 (tk7 + 1)] }).push { cls := .type "range_iterator", data := .fields #[rawInt 0, rawInt (5 + q : Nat), rawInt 1] } = h5 at kp5 hIt
  generalize h4.objs.size + 1 = I at hIt hI4
  have hIL : L ≠ I := by rintro rfl; obtain ⟨o, es, ep, e1, _⟩ := F4.F.ns; rw [hI4] at e1; cases e1
  have hIB : B ≠ I := by rintro rfl; rw [hI4] at hB4; cases hB4
  have hIp : p ≠ I := by rintro rfl; obtain ⟨t, o, e, _⟩ := P4.list; rw [hI4] at e; cases e
  have hIc : c ≠ I := by rintro rfl; obtain ⟨o, e, _⟩ := P4.cells; rw [hI4] at e; cases e
  have hIn : h₀.get? I = none := F4.kp.none hI4
  have kbh4 : KpB [L, p] h h4 := kbh2.step kb4 (stL (.tail _ (.head _)))
  have hIh : h.get? I = none := by
    cases e : h.get? I with
    | none => rfl
    | some o => have := kbh4 _ _ (nm2 (Ne.symm hIL) (Ne.symm hIp)) e; rw [hI4] at this; cases this
  refine codeG_forP (Walks.range R.hand I 0 1 (5 + q)) (fun i h' => ∃ m' l s', FInv h₀ h L p c B I m ks s (5 + q) i h' m' l s') ?_ ?_ ?_ ?_ (Nat.zero_le _) ?_
  · rintro i h' ⟨m', l, s', _, _, _, a, _⟩; exact a
  · intro i h' tk v Q _ hq; exact own_name hq
  · rintro i h' v h5 tk5 Post hnx hrt hi ⟨m', l, s', F', hm, hd, _, P', hs', hB', hlen, kbh⟩ ⟨tv, rfl⟩ st kb
    have F5 : Fm h₀ L m' [] h5 := F'.but1 kb (hIL) hIn
    have P5 : Pool h5 p c s' ks := P'.keep fun b o hb e => kb b o (by rcases hb with rfl | rfl <;> simpa) e
    have hB5 := kb _ _ (nm (hIB)) hB'
    have kbh5 : KpB [L, p] h h5 := kbh.step kb (stR hIh)
    refine g_assignName (g_store F5 fun h6 tk6 kb6 F6 => ?_)
    have P6 := P5.keepB F5.F.ns kb6
    have hB6 := kb6 _ _ (nm (hBL)) hB5
    have I6 : IsRangeIter h6 I (0 + ((i + 1 : Nat) : Int) * 1) (((5 + q : Nat) : Int) - ((i + 1 : Nat) : Int)) 1 := kb6 _ _ (nm (Ne.symm hIL)) st
    have S6 : SB (KF P) mg mb h6 := S₀.keeps F6.kp
    have kbh6 : KpB [L, p] h h6 := kbh5.step kb6 (stL (.head _))
    refine x_Expr (g_Method BA.plainAttrs BA.slot_append BA.type_append (Ev.run (Ev.loc F6 ((upd_ne (by decide)).trans hd) (rfl : _ = Value.ref B)) fun v tk7 hv => ?_))
    subst hv
    refine ⟨BA.typeIs hB6, fun a e => by cases e; exact ⟨_, hB6, rfl⟩, g_callWith (.inr rfl) (g_spliced ?_)⟩
    refine g_draw (many := 256) (R.le (by decide)) S₀ F6 hp0 P6 (by lia) (by decide) (by decide) (Ev.glob S6 (n_draw P) rfl) (Ev.loc F6 ((upd_ne (by decide)).trans ((hm _ (by decide) (by decide)).trans hmp)) rfl) fun o to h7 tk8 ho kb7 F7 P7 => ?_
    refine g_spliced_none ⟨looks_blt, ?_⟩
    have hB7 := kb7 _ _ (nm (hBp)) hB6
    refine BA.append R.guards hB7 (by lia) (by lia) (by simp; lia) fun h8 hB8 sb8 => ⟨rfl, ?_⟩
    have kb8 : KpB [B] h7 h8 := fun x o hx e => (sb8.2 x (by simpa using hx)).trans e
    have F8 := F7.but1 kb8 (Ne.symm hBL) hB0
    refine x_nil (hnx h8 _ ⟨_, l ++ [o.toUInt8], s' + 1, F8, fun x h1 h2 => (upd_ne h2).trans (hm x h1 h2), (upd_ne (by decide)).trans hd, kb8 _ _ (nm (Ne.symm hIB)) (kb7 _ _ (nm (Ne.symm hIp)) I6),
      P7.keep fun b o hb e => kb8 b o (by rcases hb with rfl | rfl <;> simp <;> first | exact Ne.symm hBp | exact hBc) e, by lia, ?_, by simp [hlen], ?_⟩)
    · rw [hB8]; simp
    · exact (kbh6.step kb7 (stL (.tail _ (.head _)))).step kb8 (stR hBn)
  · rintro h' h5 tk5 ⟨m', l, s', F', hm, hd, _, P', hs', hB', hlen, kbh⟩ kb
    have F5 : Fm h₀ L m' [] h5 := F'.but1 kb (hIL) hIn
    have P5 : Pool h5 p c s' ks := P'.keep fun b o hb e => kb b o (by rcases hb with rfl | rfl <;> simpa) e
    have hB5 := kb _ _ (nm (hIB)) hB'
    have kbh5 : KpB [L, p] h h5 := kbh.step kb (stR hIh)
    exact k B l s' h5 tk5 m' (by lia) (by lia) kbh5 F5 hm hd hBn hB5 P5
  · exact ⟨_, [], s + 1, F4.kept kp5, fun x h1 h2 => upd_ne h1, upd_same, hIt, P4.keep fun b o _ e => kp5 _ _ e, by lia, kp5 _ _ hB4, rfl, kbh4.step kp5.but (wr' := []) (by intro i hi; cases hi)⟩
end
end Mine
end

section
open PySem PySem.W PySem.Calls PyProof.Rows PySem.SeqAt PySem.MeetsSeq
open PySem.Sem (wp)
set_option maxRecDepth 100000
namespace Mine
/-- what the loop that puts back keeps -/
structure LGInv (h₀ h2 : Heap) (L K T I : Addr) (m : Str → Option Value) (rd : List (Nat × Nat) × Nat) (ta : Tok) (vs : List Value) (i : Nat) (h' : Heap) (m' : Str → Option Value) : Prop where
  F : Fm h₀ L m' [] h'
  hm : ∀ x, x ≠ Str.ofString "told" → x ≠ Str.ofString "at" → x ≠ Str.ofString "back" → x ≠ Str.ofString "number" → x ≠ Str.ofString "long" → m' x = m x
  hbk : m' (Str.ofString "back") = some (.ref K)
  hat : m' (Str.ofString "at") = some (.int (rd.2 : Nat) ta)
  it : h'.IsListIter I T i
  tl : h'.IsList T vs.toArray
  kb : KpB [L] h2 h'
  hK : h'.get? K = some (BA.obj (List.toArray ((rd.1.take i).map fun p => pv p.2 p.1).flatten))
section
variable {prog : Program} {w : World} {A : Around} {E : Value → Shared → Prop} {env : Env} {r : Rest} {h h₀ : Heap} {L : Addr} {m mg mb : Str → Option Value} {news : List (Addr × Obj)} {tk : Nat} {P : Params}
theorem Fm.not_old (F : Fm h₀ L m news h) {b : Addr} {o : Obj} (e : h₀.get? b = some o) : b ≠ L := Nat.ne_of_lt (Nat.lt_of_lt_of_le (Heap.lt_size e) F.F.above)
theorem Fm.slots {h' : Heap} (F : Fm h₀ L m [] h) (kb : KpB [L] h h') (u : h.UpToSlots h') : Fm h₀ L m [] h' :=
  ⟨⟨u.ns F.F.ns, fun b o e => kb b o (by simpa using F.not_old e) (F.kp b o e), F.F.above⟩, News.nil⟩
/-- the octets read as numbers, and put back -/
theorem law_G {B : Addr} {l : List UInt8} {Q : Flow → Shared → Prop} (R : Room A 8) (hst : A.frames = some [lawEnv P L]) (S₀ : SB (KF P) mg mb h₀) (F : Fm h₀ L m [] h) (hmd : m (Str.ofString "data") = some (.ref B)) (hB : h.get? B = some (BA.obj l.toArray)) (hl : l.length ≤ 12)
    (k : ∀ K ta h' tk' m', KpB [L] h h' → Fm h₀ L m' [] h' → (∀ x, x ≠ Str.ofString "told" → x ≠ Str.ofString "at" → x ≠ Str.ofString "back" → x ≠ Str.ofString "number" → x ≠ Str.ofString "long" → m' x = m x) →
      m' (Str.ofString "back") = some (.ref K) → m' (Str.ofString "at") = some (.int ((readL l l.length 0).2 : Nat) ta) → h'.get? K = some (BA.obj (l.take (readL l l.length 0).2).toArray) → wpG (model prog w) A (execs (lawFrom P 12) (lawEnv P L)) Q E (r.at h' tk')) :
    wpG (model prog w) A (execs (lawFrom P 9) (lawEnv P L)) Q E (r.at h tk) := by
  have S : SB (KF P) mg mb h := S₀.keeps F.kp
  have hLn : h₀.get? L = none := Heap.get?_none_of_le F.F.above
  refine shut fun X0 hX0 => ?_
  obtain ⟨rb1, rb2, rb3, rb4, rb5⟩ := readL_back l l.length 0 (Nat.zero_le _)
  refine hX0 ?_
  clear hX0
  clear rb1 rb5
  generalize hrd : readL l l.length 0 = rd at k rb2 rb3 rb4
  show wpG _ _ (execs (_ :: _ :: _ :: lawFrom P 12) _) _ _ _
  refine x_Unpack2 (h₀ := h₀) (L := L) (m := m) (news := []) R.hand ?_
  refine g_Call1X (k := .frame) (Ev.glob S (n_lread P) rfl) fun tk1 => ?_
  refine g_Call1 (k := .machine) (Ev.blt S (n_bytes P) boot_bytes rfl) looks_type (Ev.loc F hmd (rfl : _ = Value.ref B)) fun v tk2 hv => ?_
  subst hv
  refine BA.to_bytes hB (by simp; lia) fun tb tk3 => ⟨kp_lread S, ?_⟩
  refine law_read_g (R.le (by decide)) S₀ F.kp hLn hst rfl (show ScopeKind.function ≠ ScopeKind.module by decide) F.F.ns (by simp; lia) fun a T ta vs n h1 tk4 kb1 ut ha hT hTn hvs => ?_
  have kb1' : KpB [L] h h1 := fun b o hb e => kb1 b o (fun q => hb (q ▸ List.Mem.head _)) e
  have F1 : Fm h₀ L m [] h1 := F.slots kb1' ut
  refine ⟨a, _, _, h1, tk4, rfl, rfl, ha, F1, fun h2 tk5 kb2 F2 => ?_⟩
  have hTL : T ≠ L := Ns.ne_seq F1.F.ns hT rfl
  have hT2 := kb2 _ _ (nm (hTL)) hT
  have S2 : SB (KF P) mg mb h2 := S₀.keeps F2.kp
  have el : l.toArray.toList = l := by simp
  have es : l.toArray.size = l.length := by simp
  rw [el, es, hrd] at hvs ha
  rw [el, es, hrd] at F2
  have hvl := hvs.length
  have hvs2 : All2 (IsPair h2) vs rd.1 := hvs.mono fun v p hp => hp.keep fun b x e => kb2 b _ (nm (Ns.ne_seq F1.F.ns e rfl)) e
  have hfew : rd.1.length ≤ l.length := by
    have : ∀ (ps : List (Nat × Nat)), ps.length ≤ (ps.map fun p => pv p.2 p.1).flatten.length := fun ps => by
      induction ps with
      | nil => simp
      | cons p ps ih =>
        rw [List.map_cons, List.flatten_cons, List.length_append, pv_length, List.length_cons]
        have := Nat.one_le_two_pow (n := p.2)
        lia
    have h1 := this rd.1
    have h2 := congrArg List.length rb3
    simp only [List.take_zero, List.nil_append] at h2
    rw [← h2, List.length_take] at h1
    lia
  refine x_Assign (g_CallE0 (k := .machine) (Ev.blt S2 (n_bytearray P) boot_bytearray rfl) looks_type (fun tk6 => BA.make_none R.guards fun h3 kp3 hK3 => ?_))
  refine g_store (F2.kept kp3) fun h4 tk7 kb4 F4 => ?_
  generalize hKK : h2.objs.size = K at hK3 F4
  have hKn : h2.get? K = none := by rw [← hKK]; exact Heap.get?_none_of_le (Nat.le_refl _)
  have hKL : K ≠ L := by rintro rfl; obtain ⟨o, es, ep, e1, _⟩ := F2.F.ns; rw [hKn] at e1; cases e1
  have hKT : T ≠ K := by rintro rfl; rw [hKn] at hT2; cases hT2
  have hK0 : h₀.get? K = none := F2.kp.none hKn
  have hK4 : h4.get? K = some (BA.obj #[]) := kb4 _ _ (nm (hKL)) hK3
  have kb24 : KpB [L] h2 h4 := kp3.but.step kb4 (fun i hi => .inl hi)
  have S4 : SB (KF P) mg mb h4 := S₀.keeps F4.kp
  have hT4 : h4.get? T = some (lobj vs n) := kb24 _ _ (nm (hTL)) hT2
  refine x_For (fun _ => rfl) ?_
  refine Ev.run (Ev.loc F4 ((upd_ne (by decide)).trans ((upd_ne (by decide)).trans upd_same)) (rfl : _ = Value.ref T)) fun v tk8 hv => ?_
  subst hv
  refine lift (wpAny_pyIter_list (s := r.at h4 tk8) (l := T) (items := vs.toArray) ⟨_, hT4, rfl, _, rfl⟩ ?_)
  have kp5 : Kp h4 (h4.push { cls := .type "list_iterator", data := .fields #[.ref T, .int 0 0] }) := Kp.push _ _
  have hI5 := Heap.get?_push_size h4 (o := { cls := .type "list_iterator", data := .fields #[.ref T, .int 0 0] }) rfl
  show codeG (model prog w) _ (.forLoop _ (.ref h4.objs.size) _ _ _) _ (r.at (h4.push { cls := .type "list_iterator", data := .fields #[.ref T, .int 0 0] }) tk8)
  generalize h4.push { cls := .type "list_iterator", data := .fields #[.ref T, .int 0 0] } = h5 at kp5 hI5
  have hI4 : h4.get? h4.objs.size = none := Heap.get?_none_of_le (Nat.le_refl _)
  generalize h4.objs.size = I at hI5 hI4
  have hIL : I ≠ L := by rintro rfl; obtain ⟨o, es, ep, e1, _⟩ := F4.F.ns; rw [hI4] at e1; cases e1
  have hIT : T ≠ I := by rintro rfl; rw [hI4] at hT4; cases hT4
  have hIK : K ≠ I := by rintro rfl; rw [hI4] at hK4; cases hK4
  have hI0 : h₀.get? I = none := F4.kp.none hI4
  have hI2 : h2.get? I = none := by
    cases e : h2.get? I with
    | none => rfl
    | some o => have := kb24 _ _ (nm (hIL)) e; rw [hI4] at this; cases this
  have kb25 : KpB [L] h2 h5 := fun b o hb e => kp5 _ _ (kb24 b o hb e)
  refine codeG_forP (Walks.list R.hand I T hIT vs.toArray) (fun i h' => ∃ m', LGInv h₀ h2 L K T I m rd ta vs i h' m') ?_ ?_ ?_ ?_ (Nat.zero_le _) ?_
  · rintro i h' ⟨m', _, _, _, _, a, b, _⟩; exact ⟨a, b⟩
  · rintro i h' tk v Q ⟨a, _⟩ hq; exact own_list a hq
  · rintro i h' v h6 tk6 Post hnx hrt hi ⟨m', F', hm, hbk, hat, _, _, kb', hK'⟩ hv ⟨st1, st2⟩ kb
    have F6 : Fm h₀ L m' [] h6 := F'.but1 kb (Ne.symm hIL) (hI0)
    have hK6 := kb _ _ (nm (hIK)) hK'
    have kb6 : KpB [L] h2 h6 := kb'.step kb (stR hI2)
    obtain ⟨p, hp, a', t1, t2, rfl, ha'⟩ := hvs2.get' i (by simpa using hv)
    have ha6 : h6.get? a' = some (tobj [.int p.1 t1, .int (2 ^ p.2 : Nat) t2]) := kb6 _ _ (nm (Ns.ne_seq F2.F.ns ha' rfl)) ha'
    obtain ⟨hp4, hpn⟩ := rb4 p (List.mem_of_getElem? hp)
    refine assign_pair R.hand (⟨_, ha6, rfl, _, rfl⟩ : h6.IsTuple a' _) F6 fun h7 tk7 kb7 F7 => ?_
    have S7 : SB (KF P) mg mb h7 := S₀.keeps F7.kp
    have hK7 := kb7 _ _ (nm (hKL)) hK6
    have hp62 : p.1 < 2 ^ 62 := by
      refine Nat.lt_of_lt_of_le hpn (Nat.pow_le_pow_right (by decide) ?_)
      have : 2 ^ p.2 ≤ 2 ^ 3 := Nat.pow_le_pow_right (by decide) (by lia)
      lia
    refine x_Expr (g_Method BA.plainAttrs BA.slot_extend BA.type_extend (Ev.run (Ev.loc F7 ((upd_ne (by decide)).trans ((upd_ne (by decide)).trans hbk)) (rfl : _ = Value.ref K)) fun v tk8 hv => ?_))
    subst hv
    refine ⟨BA.typeIs hK7, fun a e => by cases e; exact ⟨_, hK7, rfl⟩, g_callWith (.inr rfl) (g_spliced ?_)⟩
    refine g_Call2 (k := .frame) (Ev.glob S7 (n_putv P) rfl) (kp_putv S7) (Ev.loc F7 ((upd_ne (by decide)).trans upd_same) (rfl : _ = Value.int (p.1 : Nat) t1)) (Ev.loc F7 upd_same (rfl : _ = Value.int (2 ^ p.2 : Nat) t2)) fun v v2 tk9 hv hv2 => ?_
    subst hv
    subst hv2
    refine put_varint_g (R.le (by decide)) S7 hp4 (vix_le hp4 hpn) hp62 (.inr ⟨t2, rfl⟩) fun t' h8 tk10 kp8 => ?_
    refine g_spliced_none ⟨looks_blt, ?_⟩
    have hflat : ((rd.1.take i).map fun p => pv p.2 p.1).flatten.length + (pv p.2 p.1).length ≤ l.length := by
      have e1 := congrArg List.length rb3
      simp only [List.take_zero, List.nil_append] at e1
      have e2 : (rd.1.map fun p => pv p.2 p.1).flatten = ((rd.1.take i).map fun p => pv p.2 p.1).flatten ++ (pv p.2 p.1 ++ ((rd.1.drop (i + 1)).map fun p => pv p.2 p.1).flatten) := by
        conv => lhs; rw [← List.take_append_drop i rd.1]
        rw [List.map_append, List.flatten_append]
        congr 1
        rw [List.drop_eq_getElem_cons (by exact (List.getElem?_eq_some_iff.mp hp).1), List.map_cons, List.flatten_cons]
        rw [(List.getElem?_eq_some_iff.mp hp).2]
      rw [e2, List.length_append, List.length_append, List.length_take] at e1
      lia
    refine BA.extend R.guards (kp8 _ _ hK7) (by simp only [List.size_toArray]; lia) fun h9 hK9 sb9 => ⟨rfl, ?_⟩
    have kb9 : KpB [K] h8 h9 := sbKpb sb9
    have F9 := (F7.kept kp8).but1 kb9 (Ne.symm hKL) (hK0)
    have kb29 : KpB [L] h2 h9 := KpB.step (b := h8) (fun b o hb e => kp8 _ _ (kb6.step kb7 (fun i hi => .inl hi) b o hb e)) kb9 (stR hKn)
    refine x_nil (hnx h9 _ ⟨_, F9, fun x h1 h2 h3 h4 h5 => (upd_ne h5).trans ((upd_ne h4).trans (hm x h1 h2 h3 h4 h5)), (upd_ne (by decide)).trans ((upd_ne (by decide)).trans hbk), (upd_ne (by decide)).trans ((upd_ne (by decide)).trans hat), ?_, ?_, kb29, ?_⟩)
    · obtain ⟨o, e, q⟩ := st1
      exact ⟨o, kb9 _ _ (nm (Ne.symm hIK)) (kp8 _ _ (kb7 _ _ (nm (hIL)) e)), q⟩
    · exact islist_keep (⟨_, hT2, rfl, _, rfl⟩ : h2.IsList T vs.toArray) fun o e => kb29 _ _ (nm (hTL)) e
    · rw [hK9, List.take_succ, hp]
      simp
  · rintro h' h6 tk6 ⟨m', F', hm, hbk, hat, _, _, kb', hK'⟩ kb
    have F6 : Fm h₀ L m' [] h6 := F'.but1 kb (Ne.symm hIL) (hI0)
    have hK6 := kb _ _ (nm (hIK)) hK'
    have kb6 : KpB [L] h2 h6 := kb'.step kb (stR hI2)
    refine k K ta h6 tk6 m' ((kb1'.step kb2 (fun i hi => .inl hi)).step kb6 (fun i hi => .inl hi)) F6 hm hbk hat ?_
    rw [hK6, rb3]
    simp only [List.take_zero, List.nil_append]
    rw [List.take_of_length_le (by simp; lia)]
  · refine ⟨_, F4.kept kp5, fun x h1 h2 h3 h4 h5 => (upd_ne h3).trans ((upd_ne h2).trans (upd_ne h1)), upd_same, (upd_ne (by decide)).trans upd_same, ⟨_, hI5, rfl, rfl⟩, ⟨_, kp5 _ _ hT4, rfl, _, rfl⟩, kb25, ?_⟩
    rw [kp5 _ _ hK4]
    simp
end
end Mine
end

section
open PySem PySem.W PySem.Calls PyProof.Rows PySem.SeqAt PySem.MeetsSeq
open PySem.Sem (wp)
set_option maxRecDepth 100000
namespace Mine
section
variable {prog : Program} {w : World} {A : Around} {E : Value → Shared → Prop} {env : Env} {r : Rest} {h h₀ : Heap} {L : Addr} {m mg mb : Str → Option Value} {news : List (Addr × Obj)} {tk : Nat} {P : Params}
theorem Ek.cutBA {value hi : Expr} {p pos : Pos} {a : Addr} {b : Array UInt8} {n : Nat} (ev : Ev (model prog w) A env r h value (· = .ref a)) (eu : Ev (model prog w) A env r h hi (IsI n)) (hb : h.get? a = some (BA.obj b)) (hn : n ≤ b.size)
    (hz : b.size < 1000000) (hs : ∀ i, subscripted (.Slice Option.none (some hi) Option.none p) false (.ref a) i = operate [i, .ref a] (getItem (.ref a) i) := by intro _; with_unfolding_all rfl) :
    Ek (model prog w) A env r h (.Subscript value (.Slice Option.none (some hi) Option.none p) pos) (fun v h' => ∃ D, v = .ref D ∧ h'.get? D = some (BA.obj (b.toList.take n).toArray)) := fun E Q tk hq => by
  refine g_Subscript (ev _ _ _ fun v tk1 hv => g_Slice (g_pure (show wpG _ _ (eval hi env) _ _ _ from eu _ _ _ fun v3 tk3 ⟨t3, hv3⟩ => g_pure ?_)))
  subst hv hv3
  have kp : Kp h (h.push { cls := .type "slice", data := .fields #[.none, .int n t3, .none] }) := Kp.push _ _
  refine g_item (s := r.at (h.push { cls := .type "slice", data := .fields #[.none, .int n t3, .none] }) tk3) (BA.typeIs (kp _ _ hb)) BA.slot_getitem.lookup ?_ (hs _)
  refine getItem_meets (BA.typeIs (kp _ _ hb)) (by decide) BA.slot_getitem BA.entry_getitem (BA.args_getitem _ _) (BA.meets_cut a _ b n t3 hn hz) ⟨kp _ _ hb, Heap.IsSliceOf.new _ _ _ _, ?_⟩
  exact hq _ _ _ (kp.trans (Kp.push _ _)) ⟨_, rfl, Heap.get?_push_size _ rfl⟩
theorem Ev.lenBA {p pos : Pos} {e : Expr} {a : Addr} {b : Array UInt8} (ef : Ev (model prog w) A env r h (.Name (Str.ofString "len") p) (· = .builtin "len")) (ee : Ev (model prog w) A env r h e (· = .ref a)) (hb : h.get? a = some (BA.obj b)) (hz : b.size < 1000000)
    (he : starEach [e] env = (false, eval e env) :: starEach [] env := by rfl) : Ev (model prog w) A env r h (.Call (.Name (Str.ofString "len") p) [e] [] pos) (IsI b.size) := fun E Q tk hq =>
  g_Call1 (k := .machine) ef looks_blt ee (fun v tk' hv => by subst hv; exact lift (BA.len (s := r.at h tk') hb hz fun t tk'' => hq _ _ ⟨t, rfl⟩)) (.inr rfl) he
theorem Ev.itemBA {value slice : Expr} {pos : Pos} {a : Addr} {b : Array UInt8} {i : Nat} {c : UInt8} (ev : Ev (model prog w) A env r h value (· = .ref a)) (ei : Ev (model prog w) A env r h slice (IsI i)) (hb : h.get? a = some (BA.obj b)) (hz : b.size < 1000000) (hc : b[i]? = some c)
    (hs : ∀ u, subscripted slice false (.ref a) (.int i u) = operate [.ref a, .int i u] (getItem (.ref a) (.int i u)) := by intro _; with_unfolding_all rfl) :
    Ev (model prog w) A env r h (.Subscript value slice pos) (IsI c.toNat) := fun E Q tk hq => by
  refine g_Subscript (ev _ _ _ fun v tk1 hv => ei _ _ _ fun v2 tk2 ⟨u, hv2⟩ => ?_)
  subst hv hv2
  exact g_item (s := r.at h tk2) (BA.typeIs hb) BA.slot_getitem.lookup (BA.item (s := r.at h tk2) (by lia) hz (by simpa using hc) hb fun t tk' => hq _ _ ⟨t, rfl⟩) (hs u)
/-- put back they are the row, up to where it ends too early -/
theorem law_H {B K : Addr} {ta : Tok} {l : List UInt8} {Q : Flow → Shared → Prop} (R : Room A 8) (S₀ : SB (KF P) mg mb h₀) (F : Fm h₀ L m [] h) (hmd : m (Str.ofString "data") = some (.ref B)) (hmb : m (Str.ofString "back") = some (.ref K)) (hma : m (Str.ofString "at") = some (.int ((readL l l.length 0).2 : Nat) ta))
    (hB : h.get? B = some (BA.obj l.toArray)) (hK : h.get? K = some (BA.obj (l.take (readL l l.length 0).2).toArray)) (hl : l.length ≤ 12)
    (k : ∀ h' tk', Kp h h' → wpG (model prog w) A (execs (lawFrom P 13) (lawEnv P L)) Q E (r.at h' tk')) :
    wpG (model prog w) A (execs (lawFrom P 12) (lawEnv P L)) Q E (r.at h tk) := by
  have S : SB (KF P) mg mb h := S₀.keeps F.kp
  refine shut fun X0 hX0 => ?_
  obtain ⟨rb1, rb2, rb3, rb4, rb5⟩ := readL_back l l.length 0 (Nat.zero_le _)
  refine hX0 ?_
  clear hX0
  generalize hat : (readL l l.length 0).2 = at_ at hma hK rb2 rb5
  show wpG _ _ (execs (_ :: lawFrom P 13) _) _ _ _
  refine x_IfNot (g_or2 (g_isTrue_Compare1 ?_))
  refine g_Call1 (k := .machine) (Ev.blt S (n_bytes P) boot_bytes rfl) looks_type (Ev.loc F hmb (rfl : _ = Value.ref K)) fun v tk1 hv => ?_
  subst hv
  refine BA.to_bytes hK (by simp; lia) fun tb tk2 => ?_
  refine g_Call1K (k := .machine) (Ev.blt S (n_bytes P) boot_bytes rfl) (fun _ _ => looks_type) (Ek.cutBA (n := at_) (Ev.loc F hmd (rfl : _ = Value.ref B)) (Ev.loc F hma ⟨ta, rfl⟩) hB (by simpa using rb2) (by simp; lia)) fun v h1 tk3 kp1 ⟨D, hv, hD⟩ => ?_
  subst hv
  refine BA.to_bytes hD (by simp; lia) fun tb2 tk4 => ?_
  refine lift (ne_bytes (s := r.at h1 tk4) (g_truthy_bool ⟨by simp, ?_⟩))
  have F1 := F.kept kp1
  have S1 := S.keeps kp1
  have hB1 := kp1 _ _ hB
  refine g_and2 (Et.run (Et.cmp (Ev.loc F1 hma ⟨ta, rfl⟩) (Ev.lenBA (Ev.blt S1 (n_len P) boot_len rfl) (Ev.loc F1 hmd (rfl : _ = Value.ref B)) hB1 (by simp; lia)) CmpI.lt) fun tk5 => ⟨fun _ => ⟨rfl, k h1 tk5 kp1⟩, fun hlt => ?_⟩)
  have hlt : at_ < l.length := by simpa using hlt
  obtain ⟨c, hc⟩ : ∃ c, l[at_]? = some c := ⟨_, List.getElem?_eq_getElem hlt⟩
  have hend := rb5 (by lia) c hc
  have hcn := c.toNat_lt
  have epow : (2 : Int) ^ ((c.toNat / 64 : Nat) : Int).toNat = ((2 ^ (c.toNat / 64) : Nat) : Int) := by rw [Int.toNat_natCast]; simp
  have h2i : 2 ^ (c.toNat / 64) ≤ 2 ^ 3 := Nat.pow_le_pow_right (by decide) (by lia)
  refine Et.run (Et.cmp (a := ((at_ + 2 ^ (c.toNat / 64) : Nat) : Int)) (b := ((l.length : Nat) : Int)) (Ev.bin (Ev.loc F1 hma ⟨ta, rfl⟩) (Ev.bin Ev.int (Ev.bin (Ev.itemBA (c := c) (Ev.loc F1 hmd (rfl : _ = Value.ref B)) (Ev.loc F1 hma ⟨ta, rfl⟩) hB1 (by simp; lia) (by simpa using hc)) Ev.int (OpI.eq (OpI.fdiv (by decide) (PyProof.noPylong_small (by decide))) (show _ = ((c.toNat / 64 : Nat) : Int) from nat_fdiv c.toNat 64)))
    (OpI.eq (OpI.pow (by lia) (by lia) (by decide)) epow)) (OpI.eq OpI.add (by push_cast; rfl))) ((Ev.lenBA (Ev.blt S1 (n_len P) boot_len rfl) (Ev.loc F1 hmd (rfl : _ = Value.ref B)) hB1 (by simp; lia)).mono (fun v hv => by simpa using hv)) CmpI.le) fun tk6 => ⟨?_, k h1 tk6 kp1⟩
  rw [decide_eq_false_iff_not]
  lia
end
end Mine
end

section
open PySem PySem.W PySem.Calls PyProof.Rows PySem.SeqAt PySem.MeetsSeq
open PySem.Sem (wp)
set_option maxRecDepth 100000
namespace Mine
/-- the numbers about the edges of what so many bits hold -/
noncomputable def edges (bits : Nat) : List Nat := [0, 2 ^ bits - 1 - 1, 2 ^ bits - 1, 2 ^ bits - 1 + 127, 2 ^ bits - 1 + 128, 2 ^ bits - 1 + 16383, 2 ^ bits - 1 + 16384]
section
variable {prog : Program} {w : World} {A : Around} {E : Value → Shared → Prop} {env : Env} {r : Rest} {h h₀ : Heap} {L : Addr} {m mg mb : Str → Option Value} {news : List (Addr × Obj)} {tk : Nat} {P : Params}
theorem g_storeCell {x : Str} {v : Value} {c : Addr} {v₀ : Option Value} {Q : Unit → Shared → Prop} (hc : env.cells.lookup x = some c) (hv : h.IsCell c v₀) (k : ∀ h', h'.IsCell c (some v) → Heap.SameBut c h h' → Q () (r.at h' tk))
    (hk : env.scope.kind = .function := by rfl) (hl : env.kindOf x = some .cell := by rfl) : wpG (model prog w) A (storeName env x v) Q E (r.at h tk) :=
  lift (wpAny_storeName_cell (s := r.at h tk) hk hl hc hv fun h' a b => k h' a b)
set_option maxHeartbeats 2000000 in
/-- bits, most, some -/
theorem law_I {p c N : Addr} {s : Nat} {ks : Array Value} {ns : List Nat} {Q : Flow → Shared → Prop} (R : Room A 8) (S₀ : SB (KF P) mg mb h₀) (F : Fm h₀ L m [] h) (hmp : m (Str.ofString "pool") = some (.ref p)) (hmN : m (Str.ofString "numbers") = some (.ref N)) (hp0 : h₀.get? p = none) (hP : Pool h p c s ks) (hs : s < 1000)
    (hc : h.IsCell (L + 1) none) (hN : NumList h N ns) (hNp : N ≠ p) (h6 : ns.length ≤ 6)
    (k : ∀ bits tb M h' tk' m', 3 ≤ bits → bits ≤ 8 → Fm h₀ L m' [] h' → h'.IsCell (L + 1) (some (.int ((bits : Nat) : Int) tb)) → m' (Str.ofString "some") = some (.ref M) → NumList h' M (edges bits ++ ns) → wpG (model prog w) A (execs (lawFrom P 16) (lawEnv P L)) Q E (r.at h' tk')) :
    wpG (model prog w) A (execs (lawFrom P 13) (lawEnv P L)) Q E (r.at h tk) := by
  have S : SB (KF P) mg mb h := S₀.keeps F.kp
  have hpL : p ≠ L := by obtain ⟨t, y⟩ := hP.list; exact list_not_ns F.F.ns y
  have hcp : L + 1 ≠ p := by
    rintro rfl
    refine shut fun X0 hX0 => ?_
    obtain ⟨t, o, e, _, n, hd⟩ := hP.list
    refine hX0 ?_
    clear hX0
    obtain ⟨o', e', hd'⟩ := hc
    rw [e] at e'; cases e'
    rw [hd] at hd'; cases hd'
  have hcL : L + 1 ≠ L := Nat.succ_ne_self _
  have hc0 : h₀.get? (L + 1) = none := Heap.get?_none_of_le (Nat.le_succ_of_le F.F.above)
  refine shut fun X0 hX0 => ?_
  obtain ⟨vs, nn, hNo, hvs⟩ := hN
  refine hX0 ?_
  clear hX0
  have hNL : N ≠ L := Ns.ne_seq F.F.ns hNo rfl
  have hNc : N ≠ L + 1 := by
    rintro rfl
    obtain ⟨o', e', hd'⟩ := hc
    rw [hNo] at e'; cases e'; cases hd'
  show wpG _ _ (execs (_ :: _ :: _ :: lawFrom P 16) _) _ _ _
  refine x_Assign ?_
  refine g_BinOp (Ev.run (Ev.int (i := 3)) fun v tk1 ⟨t1, hv⟩ => ?_)
  subst hv
  refine g_draw (many := 6) (R.le (by decide)) S₀ F hp0 hP (by lia) (by decide) (by decide) (Ev.glob S (n_draw P) rfl) (Ev.loc F hmp rfl) fun q tq h1 tk2 hq kb1 F1 P1 => ?_
  refine OpI.add _ _ _ _ _ _ _ fun t2 tk3 => ?_
  rw [show (3 : Int) + (q : Nat) = ((3 + q : Nat) : Int) by lia]
  have hc1 : h1.IsCell (L + 1) none := by
    obtain ⟨o, e, hd⟩ := hc
    exact ⟨o, kb1 _ _ (nm (hcp)) e, hd⟩
  have hN1 := kb1 _ _ (nm (hNp)) hNo
  refine g_storeCell (x := Str.ofString "bits") (c := L + 1) rfl hc1 fun h2 hc2 sb2 => ?_
  have kb2 : KpB [L + 1] h1 h2 := fun b o hb e => (sb2.2 b (by simpa using hb)).trans e
  have F2 := F1.but1 kb2 (Ne.symm hcL) (hc0)
  have hN2 := kb2 _ _ (nm (hNc)) hN1
  generalize hbits : 3 + q = bits at hc2
  have hb3 : 3 ≤ bits := by lia
  have hb8 : bits ≤ 8 := by lia
  have h2b : 2 ^ 3 ≤ 2 ^ bits := Nat.pow_le_pow_right (by decide) hb3
  refine x_Let (P := IsI ((2 ^ bits - 1 : Nat) : Int)) F2 (Ev.bin (Ev.bin (Ev.int (i := 2)) (Ev.cell (c := L + 1) rfl hc2 (⟨t2, rfl⟩ : IsI ((bits : Nat) : Int) _)) (OpI.eq (OpI.pow (by lia) (by lia) (by decide)) (show _ = ((2 ^ bits : Nat) : Int) by rw [Int.toNat_natCast]; simp))) (Ev.int (i := 1)) (OpI.eq OpI.sub (by lia))) fun v h3 tk4 ⟨t4, hv⟩ kb3 F3 => ?_
  subst hv
  have hc3 : h3.IsCell (L + 1) (some (.int ((bits : Nat) : Int) t2)) := by
    obtain ⟨o, e, hd⟩ := hc2
    exact ⟨o, kb3 _ _ (nm (hcL)) e, hd⟩
  have hN3 := kb3 _ _ (nm (hNL)) hN2
  generalize hmo : 2 ^ bits - 1 = mo at F3
  have em : ∀ {h' : Heap} {pos : Pos}, Kp h3 h' → Ev (model prog w) A (lawEnv P L) r h' (.Name (Str.ofString "most") pos) (IsI ((mo : Nat) : Int)) := fun {h' pos} kp => Ev.loc (F3.kept kp) upd_same ⟨t4, rfl⟩
  refine x_LetK F3 (Ek.plusLists (P := fun vs => IntsAre vs ((edges bits).map fun k : Nat => (k : Int))) (P2 := fun ws => IntsAre ws (ns.map fun k : Nat => (k : Int))) ((Ek.listInts (ns := (edges bits).map fun k : Nat => (k : Int)) ?_ (by decide)).mono ?_) (fun h' kp => (Ev.ek (Ev.loc (F3.kept kp) ((upd_ne (by decide)).trans hmN) (rfl : _ = Value.ref N))).mono ?_) ?_) ?_
  · simp only [edges, List.map_cons, List.map_nil]
    rw [hmo]
    refine .cons ?_ (.cons ?_ (.cons ?_ (.cons ?_ (.cons ?_ (.cons ?_ (.cons ?_ .nil))))))
    · exact IsE.int
    · exact ⟨Ev.bin (em (Kp.refl _)) (Ev.int (i := 1)) (OpI.eq OpI.sub (by lia)), fun _ => rfl⟩
    · exact ⟨em (Kp.refl _), fun _ => rfl⟩
    · exact ⟨Ev.bin (em (Kp.refl _)) (Ev.int (i := 127)) (OpI.eq OpI.add (by lia)), fun _ => rfl⟩
    · exact ⟨Ev.bin (em (Kp.refl _)) (Ev.int (i := 128)) (OpI.eq OpI.add (by lia)), fun _ => rfl⟩
    · exact ⟨Ev.bin (em (Kp.refl _)) (Ev.int (i := 16383)) (OpI.eq OpI.add (by lia)), fun _ => rfl⟩
    · exact ⟨Ev.bin (em (Kp.refl _)) (Ev.int (i := 16384)) (OpI.eq OpI.add (by lia)), fun _ => rfl⟩
  · rintro v h' kp ⟨a, ws, n, rfl, _, ha, hi⟩
    exact ⟨a, ws, n, rfl, ha, hi⟩
  · rintro v h' kp' rfl
    exact ⟨N, vs, nn, rfl, kp' _ _ (kp _ _ hN3), ints_of_num hvs⟩
  · intro vs ws hi hj
    have e1 := hi.length
    have e2 := hj.length
    simp [edges] at e1 e2
    lia
  · rintro v h4 h5 tk5 ⟨M, us, ws, rfl, hMn, hM, hi, hj⟩ kp4 kb5 F5
    have hML : M ≠ L := by rintro rfl; obtain ⟨o, es, ep, e1, _⟩ := F3.F.ns; rw [hMn] at e1; cases e1
    refine k bits t2 M h5 tk5 _ hb3 hb8 F5 ?_ upd_same ⟨_, 0, kb5 _ _ (nm (hML)) hM, num_of_ints ?_⟩
    · obtain ⟨o, e, hd⟩ := hc3
      exact ⟨o, kb5 _ _ (nm (hcL)) (kp4 _ _ e), hd⟩
    · rw [List.map_append]; exact hi.append hj
end
end Mine
end

section
open PySem PySem.W PySem.Calls PyProof.Rows PySem.SeqAt PySem.MeetsSeq
open PySem.Sem (wp)
set_option maxRecDepth 100000
namespace Mine
/-- the key of a number -/
noncomputable def keyOf (bits n : Nat) : Key := ((pp bits n).length, (pp bits n).reverse.map (·.toNat), n)
theorem keys_grow {bits : Nat} (hb : bits ≤ 8) (ns : List Nat) : KeysGrow (ns.map (keyOf bits)) := by
  intro p q hp hq
  obtain ⟨n, _, rfl⟩ := List.mem_map.mp hp
  obtain ⟨m, _, rfl⟩ := List.mem_map.mp hq
  refine ⟨by simp [keyOf], fun e => ?_, fun e => ?_⟩
  · have e : n = m := e
    subst e; exact ⟨rfl, rfl⟩
  · have e : n < m := e
    have h1 := pp_mono (bits := bits) (Nat.le_of_lt e)
    rcases Nat.lt_or_ge (pp bits n).length (pp bits m).length with c | c
    · exact .inl c
    · have hl : (pp bits n).length = (pp bits m).length := Nat.le_antisymm h1 c
      refine .inr ⟨hl, ?_⟩
      have ho := pp_ord hb e hl
      have := ord_lt_iff (pp bits n).reverse (pp bits m).reverse
      rw [ho] at this
      exact of_decide_eq_true this.symm
/-- a key that a comprehension lays beside its own -/
inductive KeyX (X : List Addr) (h : Heap) (v : Value) (k : Key) : Prop
  | mk (a b t1 t2 us n) : v = .ref a → a ∉ X → b ∉ X → h.get? a = some (tobj [.int (k.1 : Nat) t1, .ref b, .int (k.2.2 : Nat) t2]) → h.get? b = some (lobj us n) → IntsAre us (k.2.1.map fun x : Nat => (x : Int)) → KeyX X h v k
theorem KeyX.keep {X : List Addr} {h h' : Heap} {v : Value} {p : Key} (x : KeyX X h v p) (k : Ks X h h') : KeyX X h' v p := by
  cases x with
  | mk a b t1 t2 us n e na nb ha hb i => exact .mk a b t1 t2 us n e na nb (k _ _ na ⟨_, _, rfl⟩ ha) (k _ _ nb ⟨_, _, rfl⟩ hb) i
theorem KeyX.key {X : List Addr} {h : Heap} {v : Value} {p : Key} (x : KeyX X h v p) : IsKey h v p := by
  cases x with
  | mk a b t1 t2 us n e na nb ha hb i => exact .mk a b t1 t2 us n e ha hb i
section
variable {prog : Program} {w : World} {A : Around} {E : Value → Shared → Prop} {env : Env} {r : Rest} {h h₀ : Heap} {L : Addr} {m mg mb : Str → Option Value} {news : List (Addr × Obj)} {tk : Nat} {P : Params}
theorem Ek.three {M : Model} {e e2 e3 : Expr} {k : Nat} {pos : Pos} {P1 : Value → Prop} {P2 : Value → Heap → Prop} {P3 : Value → Prop} (x : Ev M A env r h e P1) (y : Ek M A env r h e2 P2) (z : ∀ h', Kp h h' → Ev M A env r h' e3 P3)
    (he : starEach [e, e2, e3] env = (false, eval e env) :: starEach [e2, e3] env := by rfl) (he2 : starEach [e2, e3] env = (false, eval e2 env) :: starEach [e3] env := by rfl) (he3 : starEach [e3] env = (false, eval e3 env) :: starEach [] env := by rfl) :
    Ek M A env r h (.Tuple [e, e2, e3] k pos) (fun v h' => ∃ a v1 v2 v3 h1, v = .ref a ∧ h.get? a = Option.none ∧ h'.get? a = some (tobj [v1, v2, v3]) ∧ P1 v1 ∧ P2 v2 h1 ∧ P3 v3 ∧ Kp h1 h') := fun E Q tk hq =>
  g_Tuple (g_spliced (x _ _ _ fun v1 tk1 hv1 => g_spliced (y _ _ _ fun v2 h1 tk2 kp hv2 => g_spliced (z h1 kp _ _ _ fun v3 tk3 hv3 => g_spliced_none ⟨by rw [sizeLine_eq]; show 3 ≤ _; lia,
    hq _ _ _ (kp.trans (Kp.push _ _)) ⟨_, v1, v2, v3, h1, rfl, fresh_push kp, Heap.get?_push_size _ rfl, hv1, hv2, hv3, Kp.push _ _⟩⟩) he3) he2) he)
/-- rows and keys -/
theorem law_J {M : Addr} {bits : Nat} {tb : Tok} {ns : List Nat} {Q : Flow → Shared → Prop} (R : Room A 8) (S₀ : SB (KF P) mg mb h₀) (F : Fm h₀ L m [] h) (hmM : m (Str.ofString "some") = some (.ref M)) (hb3 : 3 ≤ bits) (hb8 : bits ≤ 8)
    (hc : h.IsCell (L + 1) (some (.int ((bits : Nat) : Int) tb))) (hM : NumList h M ns) (h2 : 2 ≤ ns.length) (hfew : ns.length < 64) (hns : ∀ n ∈ ns, n < 2 ^ 62)
    (k : ∀ RW D (ns' : List Nat) h' tk' m', Fm h₀ L m' [] h' → m' (Str.ofString "some") = some (.ref M) → m' (Str.ofString "rows") = some (.ref RW) → m' (Str.ofString "keyed") = some (.ref D) → h'.IsCell (L + 1) (some (.int ((bits : Nat) : Int) tb)) → NumList h' M ns → RowList h' RW (ns.map (pp bits)) →
      KeyList h' D (ns'.map (keyOf bits)) → ns'.Perm ns → ns'.Pairwise (· ≤ ·) → wpG (model prog w) A (execs (lawFrom P 18) (lawEnv P L)) Q E (r.at h' tk')) :
    wpG (model prog w) A (execs (lawFrom P 16) (lawEnv P L)) Q E (r.at h tk) := by
  have S : SB (KF P) mg mb h := S₀.keeps F.kp
  have hcL : L + 1 ≠ L := Nat.succ_ne_self _
  refine shut fun X0 hX0 => ?_
  obtain ⟨vs, nn, hMo, hvs⟩ := id hM
  refine hX0 ?_
  clear hX0
  have hvl := hvs.length
  have hML : M ≠ L := Ns.ne_seq F.F.ns hMo rfl
  show wpG _ _ (execs (_ :: _ :: lawFrom P 18) _) _ _ _
  refine x_AssignComp (cl := [(Str.ofString "bits", L + 1)]) (l := M) (items := vs) (Y := fun i y _ => ∃ n, ns[i]? = some n ∧ IsBy (pp bits n).toArray y) R.hand F (Ev.loc F hmM rfl) ⟨_, hMo, rfl, _, rfl⟩ (by lia) ?_ ?_
  · refine CompOk.name (fun i y h1 h2 _ hy => hy) fun C i v h5 m5 hv F5 hm => ?_
    obtain ⟨n, hn, t, rfl⟩ := hvs.get' i hv
    have hn62 := hns n (List.mem_of_getElem? hn)
    intro E Q tk hq
    have S5 := S.keeps F5.kp
    refine g_Call3 (k := .frame) (Ev.glob S5 (n_putp P) rfl) (kp_putp S5) (Ev.loc F5 hm (rfl : _ = Value.int (n : Nat) t)) (Ev.cell rfl (hc.keeps F5.kp) (rfl : _ = Value.int ((bits : Nat) : Int) tb)) (Ev.int (i := 0)) fun v v2 v3 tk' hv hv2 hv3 => ?_
    subst hv
    subst hv2
    obtain ⟨t3, rfl⟩ := hv3
    exact put_prefix_g (R.le (by decide)) S5 (by lia) hb8 (by lia) fun t' h6 tk6 kp6 => hq _ _ _ kp6 ⟨n, hn, t', rfl⟩
  intro RW ys n1 h1 tk1 kb1 F1 hRn hRW hlen hys
  have hRL : RW ≠ L := by rintro rfl; obtain ⟨o, es, ep, e1, _⟩ := F.F.ns; rw [hRn] at e1; cases e1
  have hrows : RowList h1 RW (ns.map (pp bits)) := by
    refine ⟨ys, n1, hRW, all2_of (by simp; lia) fun i y hy => ?_⟩
    obtain ⟨n, hn, hy2⟩ := hys i y hy
    exact ⟨_, by simp [hn], hy2⟩
  have hM1 : NumList h1 M ns := hM.keep fun o e => kb1 _ _ (nm (hML)) e
  have hc1 : h1.IsCell (L + 1) (some (.int ((bits : Nat) : Int) tb)) := by
    obtain ⟨o, e, hd⟩ := hc
    exact ⟨o, kb1 _ _ (nm (hcL)) e, hd⟩
  have S1 : SB (KF P) mg mb h1 := S₀.keeps F1.kp
  have hM1' := hM1
  refine shut fun X0 hX0 => ?_
  obtain ⟨vs1, nn1, hMo1, hvs1⟩ := hM1'
  refine hX0 ?_
  clear hX0
  have hvl1 := hvs1.length
  have hrl := hrows
  refine shut fun X0 hX0 => ?_
  obtain ⟨us, nu, hRo, hus⟩ := hrl
  refine hX0 ?_
  clear hX0
  have hul := hus.length
  refine x_Assign ?_
  refine g_Call1K (k := .machine) (Ev.blt S1 (n_sorted P) boot_sorted rfl) (fun _ _ => looks_blt) (Ek.zipComp (xs := vs1) (ys := us) (l1 := M) (l2 := RW) (cl := []) (Y := fun X i v h' => ∃ n, ns[i]? = some n ∧ KeyX X h' v (keyOf bits n)) R.hand (Ev.blt S1 (n_zip P) boot_zip rfl) (Ev.loc F1 ((upd_ne (by decide)).trans hmM) (rfl : _ = Value.ref M)) (Ev.loc F1 upd_same (rfl : _ = Value.ref RW)) ⟨_, hMo1, rfl, _, rfl⟩ ⟨_, hRo, rfl, _, rfl⟩ (by lia) ?_ ?_) fun v h2' tk2 kp2 ⟨D0, rs, n2, hv, hD0n, hD0, hrl, hrs⟩ => ?_
  · rintro X i y h3 h4 q ⟨n, hn, hd⟩
    exact ⟨n, hn, hd.keep q⟩
  · intro C i v u h' m' X hv hu F' hmx hmy hX
    obtain ⟨n, hn, t, rfl⟩ := hvs1.get' i hv
    obtain ⟨b, hb, t2, rfl⟩ := hus.get' i hu
    rw [List.getElem?_map, hn] at hb
    cases hb
    have hbz := pp_len (bits := bits) (Nat.lt_trans (hns n (List.mem_of_getElem? hn)) (by decide))
    have S' := S1.keeps F'.kp
    refine (Ek.three (P1 := IsI (((pp bits n).length : Nat) : Int)) (P3 := fun v => v = Value.int (n : Nat) t) ?_ (Ek.listRev (b := pp bits n) (t := t2) R.hand (Ev.blt S' (n_list P) boot_list rfl) (Ev.loc F' hmy (rfl : _ = Value.bytes (pp bits n).toArray t2)) (by lia)) fun h2 kp2 => Ev.loc (F'.kept kp2) hmx rfl).mono ?_
    · refine (Ev.lenB (Ev.blt S' (n_len P) boot_len rfl) (Ev.loc F' hmy (rfl : _ = Value.bytes (pp bits n).toArray t2)) (by simp; lia)).mono fun v hv => by simpa using hv
    · rintro v h3 kp3 ⟨a, v1, v2, v3, h4, rfl, han, ha, ⟨t3, rfl⟩, ⟨D, us', n', rfl, hDn, hD, hi⟩, rfl, kp4⟩
      exact ⟨n, hn, a, D, t3, t, us', n', rfl, fun q => hX a q han, fun q => hX D q hDn, ha, kp4 _ _ hD, hi⟩
  · subst hv
    have hkl : KeyList h2' D0 (ns.map (keyOf bits)) := ⟨rs, n2, hD0, all2_of (by simp [hrl]; simp at hul; lia) fun i y hy => by
      refine shut fun X0 hX0 => ?_
      obtain ⟨X, n, hn, hd⟩ := hrs i y hy
      refine hX0 ?_
      clear hX0
      exact ⟨_, by simp [hn], hd.key⟩⟩
    refine sorted_keys (F1.kept kp2).F hkl (by simpa using h2) (by simpa using hfew) (keys_grow hb8 ns) (by have := R.units; have : A.in1.in1.in1.units = A.units + 1 + 1 + 1 := rfl; lia) fun D ks' h3 tk3 kb3 F3 hDn hDL hks hperm hsort => ?_
    have F3' : Fm h₀ L _ [] h3 := ⟨F3, News.nil⟩
    refine g_store F3' fun h4 tk4 kb4 F4 => ?_
    obtain ⟨ns', hns', rfl⟩ : ∃ ns' : List Nat, ns'.Perm ns ∧ ks' = ns'.map (keyOf bits) := by
      refine ⟨ks'.map (·.2.2), ?_, ?_⟩
      · have := hperm.map (fun k : Key => k.2.2)
        rw [List.map_map] at this
        have e : ((fun k : Key => k.2.2) ∘ keyOf bits) = id := rfl
        rwa [e, List.map_id] at this
      · rw [List.map_map]
        conv => lhs; rw [← List.map_id ks']
        refine List.map_congr_left fun k hk => ?_
        obtain ⟨n, _, rfl⟩ := List.mem_map.mp (hperm.mem_iff.mp hk)
        rfl
    have kbh : ∀ b o, b ≠ L → h1.get? b = some o → h4.get? b = some o := fun b o hb e => kb4 _ _ (nm (hb)) (kb3 b o hb (kp2 _ _ e))
    refine k RW D ns' h4 tk4 _ F4 ((upd_ne (by decide)).trans ((upd_ne (by decide)).trans hmM)) ((upd_ne (by decide)).trans upd_same) upd_same ?_ (hM1.keep fun o e => kbh _ _ hML e) (hrows.keep fun o e => kbh _ _ hRL e) ?_ hns' ?_
    · obtain ⟨o, e, hd⟩ := hc1
      exact ⟨o, kbh _ _ hcL e, hd⟩
    · obtain ⟨vs, n, a, b⟩ := hks
      exact ⟨vs, n, kb4 _ _ (nm (hDL)) a, b.mono fun _ _ c => c.keepL F3.ns fun b o hb e => kb4 b o (nm (hb)) e⟩
    · have := List.pairwise_map.mp hsort
      exact this
end
end Mine
end

section
open PySem PySem.W PySem.Calls PyProof.Rows PySem.SeqAt PySem.MeetsSeq
open PySem.Sem (wp)
set_option maxRecDepth 100000
namespace Mine
section
variable {prog : Program} {w : World} {A : Around} {E : Value → Shared → Prop} {env : Env} {r : Rest} {h h₀ : Heap} {L : Addr} {m mg mb : Str → Option Value} {news : List (Addr × Obj)} {tk : Nat} {P : Params}
/-- the keys sort the numbers, and no row begins another -/
theorem law_K {M RW D : Addr} {bits : Nat} {ns ns' : List Nat} {Q : Flow → Shared → Prop} (R : Room A 8) (S₀ : SB (KF P) mg mb h₀) (F : Fm h₀ L m [] h) (hmM : m (Str.ofString "some") = some (.ref M)) (hmR : m (Str.ofString "rows") = some (.ref RW)) (hmD : m (Str.ofString "keyed") = some (.ref D)) (hb3 : 3 ≤ bits) (hb8 : bits ≤ 8)
    (hM : NumList h M ns) (hR : RowList h RW (ns.map (pp bits))) (hD : KeyList h D (ns'.map (keyOf bits))) (hperm : ns'.Perm ns) (hsort : ns'.Pairwise (· ≤ ·)) (hfew : ns.length < 64) (hns : ∀ n ∈ ns, n < 2 ^ 62)
    (k : ∀ h' tk', Kp h h' → wpG (model prog w) A (execs (lawFrom P 19) (lawEnv P L)) Q E (r.at h' tk')) :
    wpG (model prog w) A (execs (lawFrom P 18) (lawEnv P L)) Q E (r.at h tk) := by
  have S : SB (KF P) mg mb h := S₀.keeps F.kp
  refine shut fun X0 hX0 => ?_
  obtain ⟨vs, nn, hDo, hvs⟩ := hD
  refine hX0 ?_
  clear hX0
  have hvl := hvs.length
  have hpl := hperm.length_eq
  show wpG _ _ (execs (_ :: lawFrom P 19) _) _ _ _
  refine x_IfNot (g_or2 (g_isTrue_Compare1 ?_))
  refine Ek.run (Ek.listCompK (PI := fun items => items = vs) (Y := fun _ i y _ => ∃ n, ns'[i]? = some n ∧ IsI ((n : Nat) : Int) y) R.hand ((Ev.ek (Ev.loc F hmD (rfl : _ = Value.ref D))).mono ?_)) ?_
  · rintro v h1 kp rfl
    refine ⟨D, vs, rfl, ⟨_, kp _ _ hDo, rfl, _, rfl⟩, by simp at hvl; lia, rfl, ⟨by decide, rfl, by decide, fun i y h1 h2 _ hy => hy, fun I l i v h tk Q a hq => own_list a hq, fun C i v h2 tk2 m2 hv F2 => ?_⟩⟩
    obtain ⟨kk, hkk, a, b, t1, t2, us, n, rfl, ha, hb, hi⟩ := hvs.get' i hv
    rw [List.getElem?_map] at hkk
    obtain ⟨x, hx, rfl⟩ := Option.map_eq_some_iff.mp hkk
    have ha2 := F2.kp _ _ (kp _ _ ha)
    refine assign_three R.hand (⟨_, ha2, rfl, _, rfl⟩ : h2.IsTuple a _) F2 (fun h3 tk3 kb3 F3 => ⟨h3, tk3, _, rfl, kb3, F3.F.ns, ?_⟩) rfl rfl rfl rfl rfl
    exact (Ev.ek (Ev.loc F3 upd_same (⟨t2, rfl⟩ : IsI ((x : Nat) : Int) _))).mono fun v h4 _ hv => ⟨x, hx, hv⟩
  · rintro v h1 tk1 kp1 ⟨D1, ys, n1, items, rfl, hD1n, hD1, rfl, hyl, hys⟩
    have hrow : All2 (fun v k => IsI ((k : Nat) : Int) v) ys ns' := all2_of (by simp at hvl; lia) fun i y hy => hys i y hy
    refine g_Call1 (k := .machine) (Ev.blt (S.keeps kp1) (n_sorted P) boot_sorted rfl) looks_blt (Ev.loc (F.kept kp1) hmM (rfl : _ = Value.ref M)) fun v tk2 hv => ?_
    subst hv
    refine sorted_num (hM.keep fun o e => kp1 _ _ e) hfew fun D2 ns2 h2 tk3 kp2 _ hD2 hperm2 hsort2 => ?_
    have e : ns' = ns2 := perm_sorted_eq (R := (· ≤ ·)) (fun a b h1 h2 => Nat.le_antisymm h1 h2) (hperm.trans hperm2.symm) hsort hsort2
    subst e
    refine shut fun X0 hX0 => ?_
    obtain ⟨us, n2, hD2o, hus⟩ := hD2
    refine hX0 ?_
    clear hX0
    refine ne_same (kp2 _ _ hD1) hD2o R.un (nums_same hrow hus) (g_truthy_bool ⟨rfl, ?_⟩)
    have kp := kp1.trans kp2
    have S2 := S.keeps kp
    refine g_isTrue_Call ?_
    refine g_Call1 (k := .frame) (Ev.glob S2 (n_begins P) rfl) (kp_begins S2) (Ev.loc (F.kept kp) hmR (rfl : _ = Value.ref RW)) fun v tk4 hv => ?_
    subst hv
    refine law_begins_g (R.le (by decide)) S2 (hR.keep fun o e => kp _ _ e) (by simp; lia) (fun b hb => ?_) (fun a ha b hb hab => ?_) fun h5 tk5 kp5 => g_truthy_bool ⟨rfl, k h5 _ (kp.trans kp5)⟩
    · obtain ⟨n, hn, rfl⟩ := List.mem_map.mp hb
      have := pp_len (bits := bits) (Nat.lt_trans (hns n hn) (by decide : (2 : Nat) ^ 62 < 2 ^ 63))
      lia
    · obtain ⟨n, hn, rfl⟩ := List.mem_map.mp ha
      obtain ⟨n2, hn2, rfl⟩ := List.mem_map.mp hb
      exact pp_begins hb8 (by lia) hab
theorem IsE.num {M : Model} {i : Nat} {k : Nat} {pos : Pos} : IsE M A env r h (.Constant (.int ((i : Nat) : Int)) k pos) ((i : Nat) : Int) := ⟨Ev.int, fun _ => rfl⟩
/-- the lengths about the edges -/
theorem law_L {RW : Addr} {bits : Nat} {ns : List Nat} {Q : Flow → Shared → Prop} (R : Room A 8) (S₀ : SB (KF P) mg mb h₀) (F : Fm h₀ L m [] h) (hmR : m (Str.ofString "rows") = some (.ref RW)) (hb3 : 3 ≤ bits) (hb8 : bits ≤ 8)
    (hR : RowList h RW ((edges bits ++ ns).map (pp bits))) (hfew : (edges bits ++ ns).length < 64) (hns : ∀ n ∈ edges bits ++ ns, n < 2 ^ 62)
    (k : ∀ h' tk', Kp h h' → wpG (model prog w) A (execs (lawFrom P 20) (lawEnv P L)) Q E (r.at h' tk')) :
    wpG (model prog w) A (execs (lawFrom P 19) (lawEnv P L)) Q E (r.at h tk) := by
  have S : SB (KF P) mg mb h := S₀.keeps F.kp
  refine shut fun X0 hX0 => ?_
  obtain ⟨us, nu, hRo, hus⟩ := hR
  refine hX0 ?_
  clear hX0
  have hul := hus.length
  show wpG _ _ (execs (_ :: lawFrom P 20) _) _ _ _
  refine x_IfNot (g_isTrue_Compare1 ?_)
  refine Ek.run (Ek.listCompK (PI := fun items => items = us.take 7) (Y := fun _ i y _ => ∃ n, (edges bits)[i]? = some n ∧ IsI (((pp bits n).length : Nat) : Int) y) R.hand ((Ek.listTo (u := 7) (Ev.loc F hmR (rfl : _ = Value.ref RW)) Ev.int ⟨_, hRo, rfl, _, rfl⟩ (by simp only [List.length_map] at hul; lia)).mono ?_)) ?_
  · rintro v h1 kp ⟨D, rfl, hDn, hD⟩
    refine ⟨D, us.take 7, rfl, ⟨_, hD, rfl, _, rfl⟩, by simp; lia, rfl, ?_⟩
    refine CompOk.name (fun i y h1 h2 _ hy => hy) fun C i v h2 m2 hv F2 hm => ?_
    have hi : i < 7 := by
      have := (List.getElem?_eq_some_iff.mp hv).1
      rw [List.length_take] at this
      lia
    rw [List.getElem?_take, if_pos hi] at hv
    obtain ⟨b, hb, t, rfl⟩ := hus.get' i hv
    have he7 : (edges bits).length = 7 := rfl
    rw [List.getElem?_map, List.getElem?_append_left (by lia)] at hb
    obtain ⟨n, hn, rfl⟩ := Option.map_eq_some_iff.mp hb
    have hl := pp_len (bits := bits) (Nat.lt_trans (hns n (List.mem_append_left _ (List.mem_of_getElem? hn))) (by decide : (2 : Nat) ^ 62 < 2 ^ 63))
    have S2 := (S.keeps kp).keeps F2.kp
    refine ((Ev.ek (Ev.lenB (Ev.blt S2 (n_len P) boot_len rfl) (Ev.loc F2 hm (rfl : _ = Value.bytes (pp bits n).toArray t)) (by simp; lia))).mono fun v h3 _ hv => ⟨n, hn, ?_⟩)
    simpa using hv
  · rintro v h1 tk1 kp1 ⟨D1, ys, n1, items, rfl, hD1n, hD1, rfl, hyl, hys⟩
    have hrow : All2 (fun v k => IsI ((k : Nat) : Int) v) ys ((edges bits).map fun n => (pp bits n).length) := all2_of (by rw [hyl, List.length_take, hul]; simp [edges]) fun i y hy => by
      obtain ⟨n, hn, hv⟩ := hys i y hy
      exact ⟨_, by simp [hn], hv⟩
    have hcounts : ((edges bits).map fun n => (pp bits n).length) = [1, 1, 2, 2, 3, 3, 4] := pp_counts hb8 (by lia)
    rw [hcounts] at hrow
    refine Ek.run (Ek.listInts (ns := ([1, 1, 2, 2, 3, 3, 4] : List Nat).map fun k : Nat => (k : Int)) (.cons IsE.int (.cons IsE.int (.cons IsE.int (.cons IsE.int (.cons IsE.int (.cons IsE.int (.cons IsE.int .nil))))))) (by decide)) fun v h2 tk2 kp2 ⟨D2, ws, n2, hv, _, hD2, hi⟩ => ?_
    subst hv
    exact ne_same (kp2 _ _ hD1) hD2 R.un (nums_same hrow (num_of_ints hi)) (g_truthy_bool ⟨rfl, k h2 _ (kp1.trans kp2)⟩)
/-- the prefix numbers are read back -/
theorem law_M {M RW : Addr} {bits : Nat} {tb tg : Tok} {ns : List Nat} {Q : Flow → Shared → Prop} (R : Room A 8) (S₀ : SB (KF P) mg mb h₀) (hG : mg (Str.ofString "GREATEST") = some (.int (2 ^ 62 - 1) tg)) (F : Fm h₀ L m [] h) (hmM : m (Str.ofString "some") = some (.ref M)) (hmR : m (Str.ofString "rows") = some (.ref RW)) (hb3 : 3 ≤ bits) (hb8 : bits ≤ 8)
    (hc : h.IsCell (L + 1) (some (.int ((bits : Nat) : Int) tb))) (hM : NumList h M ns) (hR : RowList h RW (ns.map (pp bits))) (hfew : ns.length < 64) (hns : ∀ n ∈ ns, n < 2 ^ 62)
    (k : ∀ h' tk', Kp h h' → Q (.ret (.bool true)) (r.at h' tk')) :
    wpG (model prog w) A (execs (lawFrom P 20) (lawEnv P L)) Q E (r.at h tk) := by
  have S : SB (KF P) mg mb h := S₀.keeps F.kp
  have hR' := hR
  refine shut fun X0 hX0 => ?_
  obtain ⟨us, nu, hRo, hus⟩ := hR'
  refine hX0 ?_
  clear hX0
  have hul := hus.length
  show wpG _ _ (execs (_ :: lawFrom P 21) _) _ _ _
  refine x_Return (g_Compare1 ?_)
  refine Ek.run (Ek.listCompK (cl := [(Str.ofString "bits", L + 1)]) (PI := fun items => items = us) (Y := fun _ i y h' => ∃ n, ns[i]? = some n ∧ IsDuo h' y (n, (pp bits n).length)) R.hand ((Ev.ek (Ev.loc F hmR (rfl : _ = Value.ref RW))).mono ?_)) ?_
  · rintro v h1 kp rfl
    refine ⟨RW, us, rfl, ⟨_, kp _ _ hRo, rfl, _, rfl⟩, by simp only [List.length_map] at hul; lia, rfl, ?_⟩
    refine CompOk.name ?_ fun C i v h2 m2 hv F2 hm => ?_
    · rintro i y h1 h2 q ⟨n, hn, hd⟩
      exact ⟨n, hn, hd.keep fun a l e => q a l (by simp) e⟩
    · obtain ⟨b, hb, t, rfl⟩ := hus.get' i hv
      rw [List.getElem?_map] at hb
      obtain ⟨n, hn, rfl⟩ := Option.map_eq_some_iff.mp hb
      have hn62 := hns n (List.mem_of_getElem? hn)
      intro E Q tk hq
      have S2 := (S.keeps kp).keeps F2.kp
      refine g_Call3 (k := .frame) (Ev.glob S2 (n_getp P) rfl) (kp_getp S2) (Ev.loc F2 hm (rfl : _ = Value.bytes (pp bits n).toArray t)) (Ev.int (i := 0)) (Ev.cell rfl ((hc.keeps kp).keeps F2.kp) (rfl : _ = Value.int ((bits : Nat) : Int) tb)) fun v v2 v3 tk' hv' hv2 hv3 => ?_
      subst hv'
      subst hv3
      obtain ⟨t3, rfl⟩ := hv2
      exact get_prefix_g (R.le (by decide)) S2 hG (by lia) hb8 hn62 fun a t1 t2 h6 tk6 kp6 han ha => hq _ _ _ kp6 ⟨n, hn, a, t1, t2, rfl, ha⟩
  · rintro v h1 tk1 kp1 ⟨D1, ys, n1, items, rfl, hD1n, hD1, rfl, hyl, hys⟩
    have F1 := F.kept kp1
    refine Ek.run (Ek.numLens (bs := ns.map (pp bits)) R.hand (S.keeps kp1) (Ev.blt (S.keeps kp1) (n_zip P) boot_zip rfl) (Ev.loc F1 hmM (rfl : _ = Value.ref M)) (Ev.loc F1 hmR (rfl : _ = Value.ref RW)) (hM.keep fun o e => kp1 _ _ e) (hR.keep fun o e => kp1 _ _ e) (by simp) (by lia) ?_ ?_) ?_
    · intro b hb
      obtain ⟨n, hn, rfl⟩ := List.mem_map.mp hb
      have := pp_len (bits := bits) (Nat.lt_trans (hns n hn) (by decide : (2 : Nat) ^ 62 < 2 ^ 63))
      lia
    · intro C h' S'
      exact Ev.blt S' (n_len P) boot_len rfl
    · rintro v h5 tk5 kp5 ⟨D2, rs, n2, rfl, hD2n, hD2, hrs⟩
      have e0 : ∀ l : List Nat, (l.zip (l.map (pp bits))).map (fun p => (p.1, p.2.length)) = l.map fun n => (n, (pp bits n).length) := fun l => by
        induction l with
        | nil => rfl
        | cons a l ih => rw [List.map_cons, List.zip_cons_cons, List.map_cons, ih, List.map_cons]
      rw [e0] at hrs
      have hys2 : All2 (IsDuo h5) ys (ns.map fun n => (n, (pp bits n).length)) := by
        refine all2_of (by simp only [List.length_map] at hul ⊢; lia) fun i y hy => ?_
        obtain ⟨n, hn, hd⟩ := hys i y hy
        exact ⟨_, by simp [hn], hd.keep fun a l e => kp5 _ _ e⟩
      exact eq_same (kp5 _ _ hD1) hD2 R.un (duos_same (show A.in1.units < cLine by have := R.units; have : A.in1.units = A.units + 1 := rfl; lia) hys2 hrs) (k h5 _ (kp1.trans kp5))
end
end Mine
end

section
open PySem PySem.W PySem.Calls PyProof.Rows PySem.SeqAt PySem.MeetsSeq
open PySem.Sem (wp)
set_option maxRecDepth 100000
namespace Mine
theorem edges_lt {bits : Nat} (hb8 : bits ≤ 8) : ∀ n ∈ edges bits, n < 2 ^ 62 := by
  have h : 2 ^ bits ≤ 2 ^ 8 := Nat.pow_le_pow_right (by decide) hb8
  intro n hn
  simp only [edges, List.mem_cons, List.not_mem_nil, or_false] at hn
  rcases hn with rfl | rfl | rfl | rfl | rfl | rfl | rfl <;> lia
theorem cell_keep {h h' : Heap} {c : Addr} {v : Option Value} (x : h.IsCell c v) (k : ∀ o, h.get? c = some o → h'.get? c = some o) : h'.IsCell c v := let ⟨o, e, d⟩ := x; ⟨o, k o e, d⟩
section
variable {prog : Program} {w : World} {A : Around} {E : Value → Shared → Prop} {env : Env} {r : Rest} {h h₀ : Heap} {L : Addr} {m mg mb : Str → Option Value} {news : List (Addr × Obj)} {tk : Nat} {P : Params}
set_option maxHeartbeats 4000000 in
/-- the law answers True -/
theorem law_g {l0 : Addr} {vals : List Value} {tg : Tok} {Q : Value → Shared → Prop} (R : Room A 9) (hst : ∀ L, (A.deeper (lawEnv P L)).frames = some [lawEnv P L]) (S : SB (KF P) mg mb h) (hG : mg (Str.ofString "GREATEST") = some (.int (2 ^ 62 - 1) tg))
    (hl0 : h.IsList l0 vals.toArray) (hv0 : ∀ v ∈ vals, ∃ i t, v = .int i t) (hz : vals.length ≤ 1000) (k : ∀ h' tk', Kp h h' → Q (.bool true) (r.at h' tk')) :
    wpG (model prog w) A (call (.ref 155) [.ref l0]) Q E (r.at h tk) := by
  refine law_enter R.dep S fun h0 tk0 m0 F0 hs0 hc0 => ?_
  have R1 := R.deeper (lawEnv P h.objs.size)
  have hs1 := hst h.objs.size
  generalize A.deeper (lawEnv P h.objs.size) = A1 at R1 hs1
  generalize h.objs.size = L at F0 hc0 hs1
  have hcL : L + 1 ≠ L := Nat.succ_ne_self _
  -- the first three
  refine law_A R1 S F0 hs0 (islist_keep hl0 fun o e => F0.kp _ _ e) hv0 hz fun p c N W s ks ns h1 tk1 m1 kb1 F1 hmp1 hmN1 hmW1 hpn hNp hWp hP1 hs hN1 hW1 h4 h6 hns => ?_
  have hp0 : h.get? p = none := F0.kp.none hpn
  have hc1 : h1.IsCell (L + 1) none := cell_keep hc0 fun o e => kb1 _ _ (nm (hcL)) e
  refine law_B R1 S F1 hmN1 hmW1 hN1 hW1 h4 h6 hns fun h2 tk2 kp2 => ?_
  have F2 := F1.kept kp2
  have hP2 := hP1.keep fun b o _ e => kp2 _ _ e
  have hN2 := hN1.keep fun o e => kp2 _ _ e
  have hW2 := hW1.keep fun o e => kp2 _ _ e
  have hc2 := hc1.keeps kp2
  refine law_C R1 S F2 hmN1 hmW1 hN2 hW2 h6 hns fun h3 tk3 kp3 => ?_
  have F3 := F2.kept kp3
  have hP3 := hP2.keep fun b o _ e => kp3 _ _ e
  have hN3 := hN2.keep fun o e => kp3 _ _ e
  have hc3 := hc2.keeps kp3
  have hcp : L + 1 ≠ p := by
    rintro rfl
    refine shut fun X0 hX0 => ?_
    obtain ⟨t, o, e, _, n, hd⟩ := hP3.list
    refine hX0 ?_
    clear hX0
    obtain ⟨o', e', hd'⟩ := hc3
    rw [e] at e'; cases e'
    rw [hd] at hd'; cases hd'
  have hNL : N ≠ L := by obtain ⟨vs, n, e, _⟩ := hN3; exact Ns.ne_seq F3.F.ns e rfl
  have hNn : N ∉ [L, p] := by simp [hNL, hNp]
  have hcn : L + 1 ∉ [L, p] := by simp [hcp]
  -- the size
  refine law_D R1 S F3 hmp1 hp0 hP3 (by lia) fun q f t1 t2 h4' tk4 hq hf kb4 F4 hP4 => ?_
  have hN4 := hN3.keep fun o e => kb4 _ _ hNn e
  have hc4 := cell_keep hc3 fun o e => kb4 _ _ hcn e
  refine law_E R1 S F4 ((upd_ne (by decide)).trans upd_same) upd_same hq hf fun h5 tk5 kp5 => ?_
  have F5 := F4.kept kp5
  have hP5 := hP4.keep fun b o _ e => kp5 _ _ e
  have hN5 := hN4.keep fun o e => kp5 _ _ e
  have hc5 := hc4.keeps kp5
  have hmp5 : (upd (upd m1 (Str.ofString "first") (.int (f : Nat) t2)) (Str.ofString "size") (.int (2 ^ q : Nat) t1)) (Str.ofString "pool") = some (.ref p) := (upd_ne (by decide)).trans ((upd_ne (by decide)).trans hmp1)
  have hmN5 : (upd (upd m1 (Str.ofString "first") (.int (f : Nat) t2)) (Str.ofString "size") (.int (2 ^ q : Nat) t1)) (Str.ofString "numbers") = some (.ref N) := (upd_ne (by decide)).trans ((upd_ne (by decide)).trans hmN1)
  generalize (upd (upd m1 (Str.ofString "first") (.int (f : Nat) t2)) (Str.ofString "size") (.int (2 ^ q : Nat) t1)) = m5 at F5 hmp5 hmN5
  -- the octets
  refine law_F R1 S F5 hmp5 hp0 hP5 (by lia) fun B l s' h7 tk7 m7 hl hs' kb7 F7 hm7 hd7 hBn hB7 hP7 => ?_
  have hN7 := hN5.keep fun o e => kb7 _ _ hNn e
  have hc7 := cell_keep hc5 fun o e => kb7 _ _ hcn e
  have hmp7 := (hm7 (Str.ofString "pool") (by decide) (by decide)).trans hmp5
  have hmN7 := (hm7 (Str.ofString "numbers") (by decide) (by decide)).trans hmN5
  have hBL : B ≠ L := by rintro rfl; obtain ⟨o, es, ep, e1, _⟩ := F5.F.ns; rw [hBn] at e1; cases e1
  refine law_G R1 hs1 S F7 hd7 hB7 hl fun K ta h8 tk8 m8 kb8 F8 hm8 hbk hat hK8 => ?_
  have hN8 := hN7.keep fun o e => kb8 _ _ (nm (hNL)) e
  have hc8 := cell_keep hc7 fun o e => kb8 _ _ (nm (hcL)) e
  have hP8 := hP7.keepB F7.F.ns kb8
  have hB8 := kb8 _ _ (nm (hBL)) hB7
  have hmp8 := (hm8 (Str.ofString "pool") (by decide) (by decide) (by decide) (by decide) (by decide)).trans hmp7
  have hmN8 := (hm8 (Str.ofString "numbers") (by decide) (by decide) (by decide) (by decide) (by decide)).trans hmN7
  have hmd8 := (hm8 (Str.ofString "data") (by decide) (by decide) (by decide) (by decide) (by decide)).trans hd7
  refine law_H R1 S F8 hmd8 hbk hat hB8 hK8 hl fun h9 tk9 kp9 => ?_
  have F9 := F8.kept kp9
  have hP9 := hP8.keep fun b o _ e => kp9 _ _ e
  have hN9 := hN8.keep fun o e => kp9 _ _ e
  have hc9 := hc8.keeps kp9
  -- the prefix numbers
  refine law_I R1 S F9 hmp8 hmN8 hp0 hP9 (by lia) hc9 hN9 hNp h6 fun bits tb M h10 tk10 m10 hb3 hb8 F10 hc10 hmM10 hM10 => ?_
  have hall : ∀ n ∈ edges bits ++ ns, n < 2 ^ 62 := fun n hn => by
    rcases List.mem_append.mp hn with hn | hn
    · exact edges_lt hb8 n hn
    · exact hns n hn
  have hfew : (edges bits ++ ns).length < 64 := by
    rw [List.length_append]
    have : (edges bits).length = 7 := rfl
    lia
  have h2 : 2 ≤ (edges bits ++ ns).length := by
    rw [List.length_append]
    have : (edges bits).length = 7 := rfl
    lia
  refine law_J R1 S F10 hmM10 hb3 hb8 hc10 hM10 h2 hfew hall fun RW D ns' h11 tk11 m11 F11 hmM hmR hmD hc11 hM11 hR11 hD11 hperm hsort => ?_
  refine law_K R1 S F11 hmM hmR hmD hb3 hb8 hM11 hR11 hD11 hperm hsort hfew hall fun h12 tk12 kp12 => ?_
  have F12 := F11.kept kp12
  have hR12 := hR11.keep fun o e => kp12 _ _ e
  refine law_L R1 S F12 hmR hb3 hb8 hR12 hfew hall fun h13 tk13 kp13 => ?_
  have F13 := F12.kept kp13
  have kp := kp12.trans kp13
  refine law_M R1 S hG F13 hmM hmR hb3 hb8 (hc11.keeps kp) (hM11.keep fun o e => kp _ _ e) (hR11.keep fun o e => kp _ _ e) hfew hall fun h14 tk14 kp14 => ?_
  exact k h14 tk14 (F13.kp.trans kp14)
end
end Mine
end

section
open PySem PySem.W PySem.Calls PyProof.Rows
open PySem.Sem (wp)
set_option maxRecDepth 100000
namespace Mine
theorem n_law (P : Params) : nsIn (KF P) mainGlobals (Str.ofString "law") = some (some (.ref 155)) := by kernel_rfl
theorem all_ints {vs : List Value} {ns : List Int} (q : IntsAre vs ns) : ∀ v ∈ vs, ∃ i t, v = .int i t := by
  induction q with
  | nil => intro v hv; cases hv
  | cons n t _ ih =>
    intro v hv
    cases hv with
    | head => exact ⟨n, t, rfl⟩
    | tail _ hv => exact ih v hv
set_option maxHeartbeats 2000000 in
theorem final : PySem.Challenge.rw_tk0089_01.Holds := by
  apply hd
  intro w s₀ s₁ mg mb G Y fa o pm cd doc dV kV ho hdt hcd hD hmg hg args vals as hpre hlay hrd hwl hlo
  have KX := kIn_of Y
  have V := (Ground.X G).2
  refine Ground.open G ?_
  intro T B D TE TW
  clear hdt hcd hD ho B D TE TW
  have S : SB (KF w.params) mg mb s₁.heap := ⟨KX, T.g, T.b, T.builtins, T.nolimit⟩
  have hfa : mg (Str.ofString "law") = some (.ref fa) := hmg
  have hfa2 := mg_of KX T.g (n_law w.params)
  rw [hfa] at hfa2
  have efa : fa = 155 := by injection hfa2 with e; injection e
  subst efa
  obtain ⟨vG, hG, rG⟩ := V.val _ (List.mem_singleton.mpr rfl)
  obtain ⟨tg, rfl⟩ : ∃ t, vG = .int 4611686018427387903 t := by cases rG; exact ⟨_, rfl⟩
  clear hmg hfa hfa2 T V KX Y G
  wrow_args hpre hlay hrd hwl hlo
  rename_i ns _ _ _ _ _ _ _ l0 vs _ hL _ _ _ hI _ hc _
  have hlen := hI.length
  refine shut fun X0 hX0 => ?_
  obtain ⟨hp1, g1, d1, tk1, o1⟩ := s₁
  refine hX0 ?_
  clear hX0
  refine law_g (r := ⟨g1, d1, o1⟩) (h := hp1) (tk := tk1) (P := w.params) (tg := tg) ⟨by decide, by decide, rfl, rfl⟩ (fun _ => rfl) S hG hL (all_ints hI) (by lia) fun h' tk' kp => GoodW.toG ⟨.inl ⟨_, .bool true, [], rfl, raisesW_false ?_, .bool _, ?_, unshared_nil⟩, kp, rfl, hg⟩
  · wrow_none_raised
  · wrow_post
end Mine
end

theorem PySem.Challenge.cw_tk0089_01_holds : PySem.Challenge.rw_tk0089_01.Holds := by
  exact Mine.final
