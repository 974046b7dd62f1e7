import PyProof.Rows.All
import Wide.All
import OpenK.AllK
import Wide.FinOn
import HandS.Base
import HandS.Call
import HandS.Conv
import HandS.Deep
import HandS.Defaults
import HandS.Dict
import HandS.DictComp
import HandS.Ends
import HandS.Evl
import HandS.Exc
import HandS.ForDict
import HandS.ForMost
import HandS.Head0
import HandS.Head1
import HandS.Head2
import HandS.HeadEnd
import HandS.HeadHook1
import HandS.HeadHook2
import HandS.IsInst
import HandS.Star
import HandS.Style
import HandS.TupAny
import HandS.TupLe
import HandS.TupMul
import HandS.Walk
import HandS.Words
import HandS.Zip
import KE.DataMinMax
import KE.GoesEnum
import KE.KDictDisplayH
import KE.KStateDown
import KE.SortData
import PySem.Challenge.RW_mexrooms_k21_whole_shortest_rows
set_option Elab.async false
set_option linter.all false
section
set_option linter.all false
/-! Mexrooms, plain law, part A: mex, keys, the greedy row. -/
namespace Mx

theorem nodup_len {α : Type} [DecidableEq α] : ∀ {l m : List α}, l.Nodup → (∀ x ∈ l, x ∈ m) → l.length ≤ m.length
  | [], m, _, _ => Nat.zero_le _
  | x :: t, m, hn, hs => by
    have hx : x ∈ m := hs x List.mem_cons_self
    obtain ⟨hxt, hn'⟩ := List.nodup_cons.mp hn
    have h := nodup_len (l := t) (m := m.erase x) hn' (fun y hy => by
      have hne : y ≠ x := fun e => hxt (e ▸ hy)
      exact (List.mem_erase_of_ne hne).mpr (hs y (List.mem_cons_of_mem _ hy)))
    rw [List.length_erase_of_mem hx] at h
    have : 0 < m.length := List.length_pos_of_mem hx
    simp only [List.length_cons]
    omega

/-! ### the least number that is not shown -/
def IsMex (l : List Nat) (n : Nat) : Prop := n ∉ l ∧ ∀ j, j < n → j ∈ l
theorem IsMex.uniq {l : List Nat} {a b : Nat} (ha : IsMex l a) (hb : IsMex l b) : a = b := by
  rcases Nat.lt_trichotomy a b with h | h | h
  · exact absurd (hb.2 a h) ha.1
  · exact h
  · exact absurd (ha.2 b h) hb.1
theorem IsMex.congr {l m : List Nat} {n : Nat} (h : ∀ x, x ∈ l ↔ x ∈ m) (a : IsMex l n) : IsMex m n :=
  ⟨fun q => a.1 ((h n).mpr q), fun j hj => (h j).mp (a.2 j hj)⟩
theorem IsMex.le {l : List Nat} {n : Nat} (h : IsMex l n) : n ≤ l.length := by
  have := nodup_len (l := List.range n) (m := l) List.nodup_range (fun x hx => h.2 x (List.mem_range.mp hx))
  rw [List.length_range] at this
  exact this
def mexFrom (l : List Nat) : Nat → Nat → Nat
  | 0, n => n
  | k + 1, n => if n ∈ l then mexFrom l k (n + 1) else n
def mex (l : List Nat) : Nat := mexFrom l l.length 0
theorem mexFrom_is (l : List Nat) : ∀ (k n : Nat), (∀ j, j < n → j ∈ l) → n + k = l.length → IsMex l (mexFrom l k n)
  | 0, n, h, e => by
    refine ⟨fun hm => ?_, h⟩
    have := nodup_len (l := List.range (n + 1)) (m := l) List.nodup_range (fun x hx => by
      rcases Nat.lt_succ_iff_lt_or_eq.mp (List.mem_range.mp hx) with q | q
      · exact h x q
      · rw [q]; exact hm)
    rw [List.length_range] at this
    omega
  | k + 1, n, h, e => by
    unfold mexFrom
    split
    · rename_i hm
      exact mexFrom_is l k (n + 1) (fun j hj => by
        rcases Nat.lt_succ_iff_lt_or_eq.mp hj with q | q
        · exact h j q
        · rw [q]; exact hm) (by omega)
    · rename_i hm
      exact ⟨hm, h⟩
theorem mex_is (l : List Nat) : IsMex l (mex l) := mexFrom_is l l.length 0 (fun j hj => absurd hj (Nat.not_lt_zero _)) (Nat.zero_add _)
theorem mex_eq {l : List Nat} {n : Nat} (h : IsMex l n) : mex l = n := (mex_is l).uniq h
theorem mex_congr {l m : List Nat} (h : ∀ x, x ∈ l ↔ x ∈ m) : mex l = mex m := mex_eq ((mex_is m).congr fun x => (h x).symm)

/-! ### rows of neighbors, states, keys -/
abbrev Rows := List (List Nat)
abbrev St := List Nat
def at_ (s : St) (x : Nat) : Nat := s.getD x 0
def nb (rows : Rows) (x : Nat) : List Nat := rows.getD x []
def free (rows : Rows) (s : St) (x : Nat) : Nat := mex ((nb rows x).map (at_ s))
def key (rows : Rows) (s : St) (x : Nat) : St := s.set x (free rows s x)
def done (rows : Rows) (s : St) (ks : List Nat) : St := ks.foldl (key rows) s
theorem at_set (s : St) (x v y : Nat) : at_ (s.set x v) y = if x = y ∧ y < s.length then v else at_ s y := by
  unfold at_
  rw [List.getD_eq_getElem?_getD, List.getD_eq_getElem?_getD, List.getElem?_set]
  by_cases h : x = y
  · subst h
    by_cases h2 : x < s.length
    · simp [h2]
    · simp [h2]
  · simp [h]
theorem at_lt {s : St} {x : Nat} (h : x < s.length) : s[x]? = some (at_ s x) := by
  unfold at_
  rw [List.getD_eq_getElem?_getD, List.getElem?_eq_getElem h]
  rfl
theorem at_ge {s : St} {x : Nat} (h : s.length ≤ x) : at_ s x = 0 := by
  unfold at_
  rw [List.getD_eq_getElem?_getD, List.getElem?_eq_none h]
  rfl
theorem at_ext {s t : St} (hl : s.length = t.length) (h : ∀ x, x < s.length → at_ s x = at_ t x) : s = t := by
  apply List.ext_getElem? 
  intro i
  by_cases hi : i < s.length
  · rw [at_lt hi, at_lt (hl ▸ hi), h i hi]
  · rw [List.getElem?_eq_none (by omega), List.getElem?_eq_none (by omega)]
theorem key_len (rows : Rows) (s : St) (x : Nat) : (key rows s x).length = s.length := by unfold key; rw [List.length_set]
theorem done_len (rows : Rows) : ∀ (ks : List Nat) (s : St), (done rows s ks).length = s.length
  | [], s => rfl
  | k :: ks, s => by
    show (done rows (key rows s k) ks).length = _
    rw [done_len rows ks, key_len]
theorem done_cons (rows : Rows) (s : St) (k : Nat) (ks : List Nat) : done rows s (k :: ks) = done rows (key rows s k) ks := rfl
theorem done_append (rows : Rows) (s : St) (a b : List Nat) : done rows s (a ++ b) = done rows (done rows s a) b := by
  unfold done; rw [List.foldl_append]
theorem key_at (rows : Rows) (s : St) (x y : Nat) : at_ (key rows s x) y = if x = y ∧ y < s.length then free rows s x else at_ s y := at_set _ _ _ _
theorem key_other {rows : Rows} {s : St} {x y : Nat} (h : x ≠ y) : at_ (key rows s x) y = at_ s y := by
  rw [key_at, if_neg (fun q => h q.1)]
theorem done_other {rows : Rows} {y : Nat} : ∀ {ks : List Nat} {s : St}, y ∉ ks → at_ (done rows s ks) y = at_ s y
  | [], s, _ => rfl
  | k :: ks, s, h => by
    have h1 : k ≠ y := fun e => h (e ▸ List.mem_cons_self)
    have h2 : y ∉ ks := fun q => h (List.mem_cons_of_mem _ q)
    rw [done_cons, done_other h2, key_other h1]
theorem free_congr {rows rows' : Rows} {s : St} {x : Nat} (h : ∀ y, y ∈ nb rows x ↔ y ∈ nb rows' x) : free rows s x = free rows' s x := by
  unfold free
  apply mex_congr
  intro v
  simp only [List.mem_map]
  constructor
  · rintro ⟨y, hy, e⟩; exact ⟨y, (h y).mp hy, e⟩
  · rintro ⟨y, hy, e⟩; exact ⟨y, (h y).mpr hy, e⟩

/-- n rooms; neighbors are rooms, both ways, other ones -/
structure Gr (n : Nat) (rows : Rows) : Prop where
  len : rows.length = n
  lt : ∀ x y, y ∈ nb rows x → y < n ∧ x < n
  ne : ∀ x y, y ∈ nb rows x → y ≠ x
  sym : ∀ x y, y ∈ nb rows x → x ∈ nb rows y
def Same2 (rows rows' : Rows) : Prop := ∀ x y, y ∈ nb rows x ↔ y ∈ nb rows' x
theorem key_congr {rows rows' : Rows} (h : Same2 rows rows') (s : St) (x : Nat) : key rows s x = key rows' s x := by
  unfold key; rw [free_congr (h x)]
theorem done_congr {rows rows' : Rows} (h : Same2 rows rows') : ∀ (ks : List Nat) (s : St), done rows s ks = done rows' s ks
  | [], s => rfl
  | k :: ks, s => by rw [done_cons, done_cons, key_congr h, done_congr h ks]
def Parted (rows : Rows) (s : St) : Prop := ∀ x y, y ∈ nb rows x → at_ s x ≠ at_ s y
def Rest (rows : Rows) (r : St) : Prop := ∀ x, x < r.length → free rows r x = at_ r x
def Le (r s : St) : Prop := ∀ x, at_ r x ≤ at_ s x
theorem Rest.congr {rows rows' : Rows} (h : Same2 rows rows') {r : St} (a : Rest rows r) : Rest rows' r := fun x hx => by
  rw [← free_congr (h x)]; exact a x hx
theorem Rest.isMex {rows : Rows} {r : St} (a : Rest rows r) {x : Nat} (hx : x < r.length) : IsMex ((nb rows x).map (at_ r)) (at_ r x) := by
  have := mex_is ((nb rows x).map (at_ r))
  have e : mex ((nb rows x).map (at_ r)) = at_ r x := a x hx
  rw [e] at this; exact this
/-- a rest has no like neighbors -/
theorem Rest.parted {n : Nat} {rows : Rows} {r : St} (g : Gr n rows) (hl : r.length = n) (a : Rest rows r) : Parted rows r := fun x y hy e => by
  have hx := (g.lt x y hy).2
  exact (a.isMex (by omega)).1 (List.mem_map.mpr ⟨y, hy, e.symm⟩)

/-! ### the rooms that change, and those that can be pressed now -/
def changed (r s : St) : List Nat := (List.range s.length).filter fun x => decide (at_ r x < at_ s x)
def fit (rows : Rows) (r s : St) : List Nat := (List.range s.length).filter fun x => decide (at_ r x < at_ s x) && decide (free rows s x = at_ r x)
theorem mem_changed {r s : St} {x : Nat} : x ∈ changed r s ↔ x < s.length ∧ at_ r x < at_ s x := by
  unfold changed; simp
theorem mem_fit {rows : Rows} {r s : St} {x : Nat} : x ∈ fit rows r s ↔ x < s.length ∧ at_ r x < at_ s x ∧ free rows s x = at_ r x := by
  unfold fit; simp
theorem changed_nodup (r s : St) : (changed r s).Nodup := List.Nodup.sublist List.filter_sublist List.nodup_range
theorem changed_sorted (r s : St) : (changed r s).Pairwise (· < ·) := List.Pairwise.filter _ List.pairwise_lt_range
theorem fit_sorted (rows : Rows) (r s : St) : (fit rows r s).Pairwise (· < ·) := List.Pairwise.filter _ List.pairwise_lt_range

theorem exists_min {p : Nat → Prop} (f : Nat → Nat) : ∀ (k : Nat), (∃ x, p x ∧ f x ≤ k) → ∃ x, p x ∧ ∀ y, p y → f x ≤ f y
  | 0, ⟨x, hp, hk⟩ => ⟨x, hp, fun y _ => by omega⟩
  | k + 1, ⟨x, hp, hk⟩ => by
    by_cases h : ∃ y, p y ∧ f y ≤ k
    · exact exists_min f k h
    · refine ⟨x, hp, fun y hy => ?_⟩
      have : ¬ f y ≤ k := fun q => h ⟨y, hy, q⟩
      omega
theorem fit_exists {n : Nat} {rows : Rows} {r s : St} (g : Gr n rows) (hr : r.length = n) (hs : s.length = n) (a : Rest rows r) (le : Le r s) (hc : changed r s ≠ []) : fit rows r s ≠ [] := by
  obtain ⟨x0, hx0⟩ : ∃ x, x ∈ changed r s := List.exists_mem_of_ne_nil _ hc
  obtain ⟨x, hx, hmin⟩ := exists_min (p := fun x => x ∈ changed r s) (at_ r) (at_ r x0) ⟨x0, hx0, Nat.le_refl _⟩
  obtain ⟨hxl, hxc⟩ := mem_changed.mp hx
  have hm := a.isMex (x := x) (by omega)
  have hfree : free rows s x = at_ r x := by
    unfold free
    refine mex_eq ⟨fun hin => ?_, fun j hj => ?_⟩
    · obtain ⟨y, hy, e⟩ := List.mem_map.mp hin
      have hyn := (g.lt x y hy).1
      have h1 := le y
      have h2 : at_ r y ≠ at_ r x := fun q => (Rest.parted g hr a) x y hy q.symm
      have h3 : y ∈ changed r s := mem_changed.mpr ⟨by omega, by omega⟩
      have := hmin y h3
      omega
    · obtain ⟨y, hy, e⟩ := List.mem_map.mp (hm.2 j hj)
      have hyn := (g.lt x y hy).1
      refine List.mem_map.mpr ⟨y, hy, ?_⟩
      have h1 := le y
      rcases Nat.lt_or_ge (at_ r y) (at_ s y) with q | q
      · have := hmin y (mem_changed.mpr ⟨by omega, q⟩)
        omega
      · omega
  intro e
  have : x ∈ fit rows r s := mem_fit.mpr ⟨hxl, hxc, hfree⟩
  rw [e] at this
  cases this
theorem same_of_none {r s : St} (hl : r.length = s.length) (le : Le r s) (h : changed r s = []) : s = r := by
  refine at_ext hl.symm fun x hx => ?_
  have h1 := le x
  rcases Nat.lt_or_ge (at_ r x) (at_ s x) with q | q
  · have : x ∈ changed r s := mem_changed.mpr ⟨hx, q⟩
    rw [h] at this; cases this
  · omega
theorem changed_self (r : St) : changed r r = [] := by
  unfold changed
  rw [List.filter_eq_nil_iff]
  intro x _ h
  have := of_decide_eq_true h
  omega
section
variable {rows : Rows} {r s : St} {x : Nat}
/-- the key of a room that fits -/
theorem fit_le (hx : x ∈ fit rows r s) (le : Le r s) : Le r (key rows s x) := fun y => by
  obtain ⟨h1, h2, h3⟩ := mem_fit.mp hx
  rw [key_at]
  split
  · rename_i q; rw [h3, q.1]; exact Nat.le_refl _
  · exact le y
theorem fit_changed (hx : x ∈ fit rows r s) : changed r (key rows s x) = (changed r s).filter fun y => decide (y ≠ x) := by
  obtain ⟨h1, h2, h3⟩ := mem_fit.mp hx
  unfold changed
  rw [key_len, List.filter_filter]
  apply List.filter_congr
  intro y hy
  rw [List.mem_range] at hy
  rw [key_at]
  by_cases e : x = y
  · subst e
    rw [if_pos ⟨rfl, h1⟩, h3]
    simp
  · rw [if_neg (fun q => e q.1)]
    have e' : y ≠ x := fun q => e q.symm
    simp [e']
theorem filter_ne_len : ∀ {l : List Nat} {x : Nat}, l.Nodup → x ∈ l → (l.filter fun y => decide (y ≠ x)).length + 1 = l.length
  | [], _, _, h => by cases h
  | y :: l, x, hn, h => by
    obtain ⟨hy, hn'⟩ := List.nodup_cons.mp hn
    by_cases e : y = x
    · subst e
      have : (l.filter fun z => decide (z ≠ y)) = l := by
        rw [List.filter_eq_self]
        intro z hz
        exact decide_eq_true (fun q => hy (q ▸ hz))
      rw [List.filter_cons, if_neg (by simp), this]
      rfl
    · have hx : x ∈ l := by
        rcases List.mem_cons.mp h with q | q
        · exact absurd q.symm e
        · exact q
      rw [List.filter_cons, if_pos (by simpa using e)]
      simp only [List.length_cons]
      have := filter_ne_len hn' hx
      omega
theorem fit_changed_len (hx : x ∈ fit rows r s) : (changed r (key rows s x)).length + 1 = (changed r s).length := by
  obtain ⟨h1, h2, h3⟩ := mem_fit.mp hx
  rw [fit_changed hx]
  exact filter_ne_len (changed_nodup r s) (mem_changed.mpr ⟨h1, h2⟩)
theorem fit_mem_changed (hx : x ∈ fit rows r s) : x ∈ changed r s := let ⟨h1, h2, _⟩ := mem_fit.mp hx; mem_changed.mpr ⟨h1, h2⟩
end

/-! ### the greedy row -/
def greedy (rows : Rows) (r : St) : Nat → St → List Nat
  | 0, _ => []
  | k + 1, s => match fit rows r s with
    | [] => []
    | x :: _ => x :: greedy rows r k (key rows s x)
/-- an order of just the rooms that change, leading to r -/
def Right (rows : Rows) (r s : St) (ks : List Nat) : Prop := ks.Nodup ∧ (∀ x, x ∈ ks ↔ x ∈ changed r s) ∧ done rows s ks = r
theorem Right.len {rows : Rows} {r s : St} {ks : List Nat} (h : Right rows r s ks) : ks.length = (changed r s).length :=
  Nat.le_antisymm (nodup_len h.1 fun x hx => (h.2.1 x).mp hx) (nodup_len (changed_nodup r s) fun x hx => (h.2.1 x).mpr hx)
theorem Right.head {rows : Rows} {r s : St} {x : Nat} {ks : List Nat} (h : Right rows r s (x :: ks)) : x ∈ fit rows r s ∧ Right rows r (key rows s x) ks := by
  obtain ⟨hn, hm, hd⟩ := h
  obtain ⟨hx, hn'⟩ := List.nodup_cons.mp hn
  obtain ⟨h1, h2⟩ := mem_changed.mp ((hm x).mp List.mem_cons_self)
  have e : at_ (done rows s (x :: ks)) x = free rows s x := by
    rw [done_cons, done_other hx, key_at, if_pos ⟨rfl, h1⟩]
  rw [hd] at e
  have hf : x ∈ fit rows r s := mem_fit.mpr ⟨h1, h2, e.symm⟩
  refine ⟨hf, hn', fun y => ?_, hd⟩
  rw [fit_changed hf, List.mem_filter, ← hm y, List.mem_cons]
  constructor
  · intro q
    exact ⟨.inr q, decide_eq_true (fun e => hx (e ▸ q))⟩
  · rintro ⟨q | q, ne⟩
    · exact absurd q (of_decide_eq_true ne)
    · exact q
theorem Right.cons {rows : Rows} {r s : St} {x : Nat} {ks : List Nat} (hf : x ∈ fit rows r s) (h : Right rows r (key rows s x) ks) : Right rows r s (x :: ks) := by
  obtain ⟨hn, hm, hd⟩ := h
  have hx : x ∉ ks := fun q => by
    have := (hm x).mp q
    rw [fit_changed hf, List.mem_filter] at this
    exact of_decide_eq_true this.2 rfl
  refine ⟨List.nodup_cons.mpr ⟨hx, hn⟩, fun y => ?_, hd⟩
  rw [List.mem_cons, hm y, fit_changed hf, List.mem_filter]
  constructor
  · rintro (q | q)
    · rw [q]; exact fit_mem_changed hf
    · exact q.1
  · intro q
    by_cases e : y = x
    · exact .inl e
    · exact .inr ⟨q, decide_eq_true e⟩
theorem greedy_right {n : Nat} {rows : Rows} {r : St} (g : Gr n rows) (hr : r.length = n) (a : Rest rows r) : ∀ (k : Nat) (s : St), s.length = n → Le r s → (changed r s).length = k → Right rows r s (greedy rows r k s)
  | 0, s, hs, le, hk => by
    have e : changed r s = [] := List.length_eq_zero_iff.mp hk
    refine ⟨List.nodup_nil, fun x => ?_, same_of_none (r := r) (s := s) (by omega) le e⟩
    rw [e]; exact Iff.rfl
  | k + 1, s, hs, le, hk => by
    have hc : changed r s ≠ [] := fun e => by rw [e] at hk; cases hk
    have hf := fit_exists g hr hs a le hc
    unfold greedy
    split
    · rename_i e; exact absurd e hf
    · rename_i x t e
      have hx : x ∈ fit rows r s := by rw [e]; exact List.mem_cons_self
      exact Right.cons hx (greedy_right g hr a k (key rows s x) (by rw [key_len]; exact hs) (fit_le hx le) (by have := fit_changed_len hx; omega))
/-- no right order stands ahead of the greedy one -/
theorem greedy_least {n : Nat} {rows : Rows} {r : St} : ∀ (k : Nat) (s : St), (changed r s).length = k → ∀ ks, Right rows r s ks → ¬ ks < greedy rows r k s
  | 0, s, hk, ks, h => by
    show ¬ ks < []
    exact List.not_lt_nil ks
  | k + 1, s, hk, ks, h => by
    cases ks with
    | nil => exact absurd h.len (by rw [hk]; simp)
    | cons y ks =>
      obtain ⟨hy, h'⟩ := h.head
      unfold greedy
      split
      · rename_i e; rw [e] at hy; cases hy
      · rename_i x t e
        have hxy : x ≤ y := by
          rw [e] at hy
          rcases List.mem_cons.mp hy with q | q
          · omega
          · have := fit_sorted rows r s
            rw [e, List.pairwise_cons] at this
            exact Nat.le_of_lt (this.1 y q)
        rw [List.cons_lt_cons_iff]
        rintro (q | ⟨q, q'⟩)
        · omega
        · subst q
          have hx : y ∈ fit rows r s := hy
          exact greedy_least (n := n) k (key rows s y) (by have := fit_changed_len hx; omega) ks h' q'
end Mx
end
section
set_option Elab.async false
set_option linter.all false
set_option maxRecDepth 100000
set_option maxHeartbeats 4000000
/-! the text by places -/
namespace MxT
open PySem PySem.Spec PyProof.Rows L2
def top (i : Nat) : Stmt := PySem.Challenge.pw_mexrooms_k21_whole_shortest_rows.main.body.getD i (.Pass ⟨0, 0, 0, 0⟩)
abbrev sIsInteger : Stmt := top 9
abbrev sIsIn : Stmt := top 10
abbrev sIsList : Stmt := top 11
abbrev sNeedDoors : Stmt := top 14
abbrev sNeedHouse : Stmt := top 15
abbrev sNear : Stmt := top 16
abbrev sNeedNumbers : Stmt := top 20
abbrev sNeedState : Stmt := top 21
abbrev sNeedRow : Stmt := top 22
abbrev sFreeNumber : Stmt := top 23
abbrev sKeyIn : Stmt := top 24
abbrev sStoryIn : Stmt := top 25
abbrev sAfter : Stmt := top 26
abbrev sLikeIn : Stmt := top 27
abbrev sNeedParted : Stmt := top 28
abbrev sRestsIn : Stmt := top 29
abbrev sLargestIn : Stmt := top 31
abbrev sIsLargest : Stmt := top 32
abbrev sNeedRest : Stmt := top 33
abbrev sIsBelow : Stmt := top 35
abbrev sBelowIn : Stmt := top 36
abbrev sRestsUnder : Stmt := top 37
abbrev sRestsBelow : Stmt := top 38
abbrev sNeedBoth : Stmt := top 39
abbrev sFewestKeys : Stmt := top 40
abbrev sShortestRow : Stmt := top 41
abbrev sShowsRow : Stmt := top 42
abbrev sLawTaken : Stmt := top 44
abbrev sLawPick : Stmt := top 45
abbrev sLawAlike : Stmt := top 46
abbrev sLawHouse : Stmt := top 47
abbrev sLawNear : Stmt := top 48
abbrev sLawFree : Stmt := top 49
abbrev sLawKey : Stmt := top 50
abbrev sLawDone : Stmt := top 51
abbrev sLawParted : Stmt := top 52
abbrev sLawSearch : Stmt := top 53
abbrev sLaw : Stmt := top 54
abbrev dd (x : Str) (st : Stmt) : He.DefD := ⟨(x, none), x, x, defArgs st, defBody st, defScope st, [], []⟩
def fnA : List He.DefD := [dd "is_integer" sIsInteger, dd "is_in" sIsIn, dd "is_list" sIsList, dd "need_doors" sNeedDoors, dd "need_house" sNeedHouse, dd "near" sNear, dd "need_numbers" sNeedNumbers, dd "need_state" sNeedState, dd "need_row" sNeedRow, dd "free_number" sFreeNumber, dd "key_in" sKeyIn, dd "story_in" sStoryIn, dd "after" sAfter, dd "like_in" sLikeIn, dd "need_parted" sNeedParted, dd "rests_in" sRestsIn, dd "largest_in" sLargestIn, dd "is_largest" sIsLargest, dd "need_rest" sNeedRest]
def fnB : List He.DefD := [dd "is_below" sIsBelow, dd "below_in" sBelowIn, dd "rests_under" sRestsUnder, dd "rests_below" sRestsBelow, dd "need_both" sNeedBoth, dd "fewest_keys" sFewestKeys, dd "shortest_row" sShortestRow, dd "shows_row" sShowsRow, dd "_law_taken" sLawTaken, dd "_law_pick" sLawPick, dd "_law_alike" sLawAlike, dd "_law_house" sLawHouse, dd "_law_near" sLawNear, dd "_law_free" sLawFree, dd "_law_key" sLawKey, dd "_law_done" sLawDone, dd "_law_parted" sLawParted, dd "_law_search" sLawSearch, dd "law" sLaw]
def fn : List He.DefD := fnA ++ fnB
def faA : List He.Fa := [.glo "is_integer", .glo "is_in", .glo "is_list", .glo "need_doors", .glo "need_house", .glo "near", .glo "need_numbers", .glo "need_state", .glo "need_row", .glo "free_number", .glo "key_in", .glo "story_in", .glo "after", .glo "like_in", .glo "need_parted", .glo "rests_in", .glo "largest_in", .glo "is_largest", .glo "need_rest"]
def faB : List He.Fa := [.glo "is_below", .glo "below_in", .glo "rests_under", .glo "rests_below", .glo "need_both", .glo "fewest_keys", .glo "shortest_row", .glo "shows_row", .glo "_law_taken", .glo "_law_pick", .glo "_law_alike", .glo "_law_house", .glo "_law_near", .glo "_law_free", .glo "_law_key", .glo "_law_done", .glo "_law_parted", .glo "_law_search", .glo "law"]
def faC : List He.Fa := [.free "all", .free "any", .free "bool", .free "enumerate", .free "int", .free "isinstance", .free "len", .free "list", .free "min", .free "range", .free "sorted", .free "str", .free "tuple", .free "zip", .int "MOST_ROOMS" 8, .int "MOST_NUMBER" 60, .int "MOST_KEYS" 60]
def fa : List He.Fa := faA ++ faB ++ faC
end MxT
end
section
set_option Elab.async false
set_option linter.all false
set_option maxRecDepth 100000
set_option maxHeartbeats 0
namespace MxH
open PySem PySem.Spec PyProof.Rows L2 MxT
def looseA : List Str := ["RoomsError", "BadHouse", "BadState", "BadKeys", "BadRest", "NotParted", "NotBelow", "MOST_ROOMS", "MOST_NUMBER", "MOST_KEYS", "is_integer", "is_in", "is_list", "need_doors", "need_house", "near", "need_numbers", "need_state", "need_row", "free_number", "key_in", "story_in", "after", "like_in"]
def looseB : List Str := ["need_parted", "rests_in", "largest_in", "is_largest", "need_rest", "is_below", "below_in", "rests_under", "rests_below", "need_both", "fewest_keys", "shortest_row", "shows_row", "_law_taken", "_law_pick", "_law_alike", "_law_house", "_law_near", "_law_free", "_law_key", "_law_done", "_law_parted", "_law_search"]
def loose : List Str := looseA ++ looseB
abbrev R : PySem.W.OpenRow := PySem.W.OpenLaw.row PySem.Challenge.rw_mexrooms_k21_whole_shortest_rows
abbrev hk : PySem.W.Hook := He.hookD 4 fa fn
def ob (s : PySem.W.SharedT) : He.AlD := He.obsDG 4 fa fn (HandSHeadRun.getT s)
theorem ob_eq (s : PySem.W.SharedT) : ob s = hk.obs s.abs := He.obsDG_eq (HandSHeadRun.getT_eq s)
theorem run (w : World) : HandSHeadRun.RunEq R (PySem.W.view R.prog [54]) hk ob 3000 loose w := by
  intro os
  kernel_rfl
end MxH
end
section
set_option Elab.async false
set_option linter.all false
set_option maxRecDepth 100000
set_option maxHeartbeats 4000000
/-! The data layer over HandS: what a value stands for in the part of the heap that never changes (G), and readings that make data. -/
namespace MxL
open PySem PySem.Spec PyProof.Rows L2
open Evl (Ex)

/-! ### G: what is known for ever; H: the heap -/
structure Go (G H G' H' : Hp) : Prop where
  hh : Ex H H'
  gg : Ex G G'
  gh : Ex G' H'
  sep : ∀ b o, G' b = some o → G b = some o ∨ H b = none
theorem nb_back {H H' : Hp} {p : Addr} (e : Ex H H') (h : H' p = none) : H p = none := Evl.fresh_back e h
theorem nb_none {H H' : Hp} {p : Addr} (e : Ex H H') (h : H' p = none) : H p = none := Evl.fresh_back e h
section
variable {G H G1 H1 G2 H2 : Hp} {p : Addr} {o : HO}
theorem Go.refl (e : Ex G H) : Go G H G H := ⟨Ex.refl H, Ex.refl G, e, fun _ _ h => .inl h⟩
theorem Go.trans (a : Go G H G1 H1) (b : Go G1 H1 G2 H2) : Go G H G2 H2 :=
  ⟨a.hh.trans b.hh, a.gg.trans b.gg, b.gh, fun c u h => by
    rcases b.sep c u h with q | q
    · exact a.sep c u q
    · exact .inr (nb_back a.hh q)⟩
theorem Go.ext (a : Go G H G1 H1) (e : Ex H1 H2) : Go G H G1 H2 := ⟨a.hh.trans e, a.gg, a.gh.trans e, a.sep⟩
theorem upd_ex (h : G p = none) : Ex G (upd G p o) := Ex.new h
theorem Go.new (e : Ex G H) (h : H p = none) : Go G H (upd G p o) (upd H p o) := by
  refine ⟨Ex.new h, Ex.new (nb_back e h), fun b u q => ?_, fun b u q => ?_⟩
  · by_cases hb : b = p
    · subst hb; rw [upd_same] at q ⊢; exact q
    · rw [upd_ne hb] at q ⊢; exact e b u q
  · by_cases hb : b = p
    · subst hb; exact .inr h
    · rw [upd_ne hb] at q; exact .inl q
theorem Go.priv (e : Ex G H) (h : H p = none) : Go G H G (upd H p o) :=
  ⟨Ex.new h, Ex.refl G, e.trans (Ex.new h), fun _ _ q => .inl q⟩
theorem Go.mut (a : Go G H G1 H1) (h : H p = none) (h1 : G1 p = none) : Go G H G1 (upd H1 p o) :=
  ⟨Ex.mut a.hh h, a.gg, Ex.mut a.gh h1, a.sep⟩
theorem Go.pub (a : Go G H G1 H1) (h : H p = none) (h1 : G1 p = none) (e : H1 p = some o) : Go G H (upd G1 p o) H1 := by
  refine ⟨a.hh, a.gg.trans (Ex.new h1), fun b u q => ?_, fun b u q => ?_⟩
  · by_cases hb : b = p
    · subst hb; rw [upd_same] at q; rw [e]; exact q
    · rw [upd_ne hb] at q; exact a.gh b u q
  · by_cases hb : b = p
    · subst hb; exact .inr h
    · rw [upd_ne hb] at q; exact a.sep b u q
/-- what is kept apart stays apart -/
theorem Go.keepN (a : Go G H G1 H1) (h : G p = none) (h1 : H p = some o) : G1 p = none := by
  cases q : G1 p with
  | none => rfl
  | some u =>
    rcases a.sep p u q with z | z
    · rw [h] at z; cases z
    · rw [h1] at z; cases z
theorem Go.none_of (a : Go G H G1 H1) (h : G p = none) (h1 : H1 p = none) : G1 p = none := nb_back a.gh h1
end

/-! ### data -/
mutual
inductive Da (G : Hp) : V → PyData → Prop
  | non : Da G .non .none
  | bl (b : Bool) : Da G (.bl b) (.bool b)
  | int (i : Int) : Da G (.int i) (.int i)
  | str (x : Str) : Da G (.str x) (.str x)
  | lst {a : Addr} {xs : List V} {ds : List PyData} : G a = some (.lst xs) → DaAll G xs ds → Da G (.ref a) (.list ds)
  | tup {a : Addr} {xs : List V} {ds : List PyData} : G a = some (.tup xs) → DaAll G xs ds → Da G (.ref a) (.tuple ds)
  | dct {a : Addr} {kvs : List (Int × Int)} : G a = some (.dK (kvs.map fun p => (Sum.inl p.1, V.int p.2))) → Da G (.ref a) (.dict (kvs.map fun p => (.int p.1, .int p.2)))
inductive DaAll (G : Hp) : List V → List PyData → Prop
  | nil : DaAll G [] []
  | cons {v : V} {vs : List V} {d : PyData} {ds : List PyData} : Da G v d → DaAll G vs ds → DaAll G (v :: vs) (d :: ds)
end
section
variable {G G' H : Hp} {K : PySem.W.Frag}
mutual
theorem Da.mono (e : Ex G G') : ∀ {v : V} {d : PyData}, Da G v d → Da G' v d
  | _, _, .non => .non
  | _, _, .bl b => .bl b
  | _, _, .int i => .int i
  | _, _, .str x => .str x
  | _, _, .lst h r => .lst (e _ _ h) (DaAll.mono e r)
  | _, _, .tup h r => .tup (e _ _ h) (DaAll.mono e r)
  | _, _, .dct h => .dct (e _ _ h)
theorem DaAll.mono (e : Ex G G') : ∀ {vs : List V} {ds : List PyData}, DaAll G vs ds → DaAll G' vs ds
  | _, _, .nil => .nil
  | _, _, .cons h r => .cons (Da.mono e h) (DaAll.mono e r)
end
theorem Da.list_inv {v : V} {ds : List PyData} (h : Da G v (.list ds)) : ∃ a xs, v = .ref a ∧ G a = some (.lst xs) ∧ DaAll G xs ds := by
  cases h with
  | lst h r => exact ⟨_, _, rfl, h, r⟩
theorem Da.tuple_inv {v : V} {ds : List PyData} (h : Da G v (.tuple ds)) : ∃ a xs, v = .ref a ∧ G a = some (.tup xs) ∧ DaAll G xs ds := by
  cases h with
  | tup h r => exact ⟨_, _, rfl, h, r⟩
theorem dct_inv {v : V} {d : PyData} (h : Da G v d) : ∀ (kvs : List (Int × Int)), d = .dict (kvs.map fun p => (.int p.1, .int p.2)) → ∃ a, v = .ref a ∧ G a = some (.dK (kvs.map fun p => (Sum.inl p.1, V.int p.2))) := by
  intro kvs e
  cases h with
  | dct h =>
    rename_i a kvs'
    have e' := PyData.dict.inj e
    have : kvs' = kvs := by
      clear h e
      induction kvs' generalizing kvs with
      | nil => cases kvs with
        | nil => rfl
        | cons q r => cases e'
      | cons p r ih => cases kvs with
        | nil => cases e'
        | cons q t =>
          rw [List.map_cons, List.map_cons] at e'
          have h1 := List.cons.inj e'
          have h2 := Prod.mk.inj h1.1
          have h3 := PyData.int.inj h2.1
          have h4 := PyData.int.inj h2.2
          rw [ih t h1.2, show p = q from Prod.ext h3 h4]
    subst this
    exact ⟨a, rfl, h⟩
  | _ => cases e
theorem Da.int_inv {v : V} {i : Int} (h : Da G v (.int i)) : v = .int i := by cases h; rfl
theorem Da.bool_inv {v : V} {b : Bool} (h : Da G v (.bool b)) : v = .bl b := by cases h; rfl
theorem Da.none_inv {v : V} (h : Da G v .none) : v = .non := by cases h; rfl
theorem DaAll.length : ∀ {vs : List V} {ds : List PyData}, DaAll G vs ds → vs.length = ds.length
  | _, _, .nil => rfl
  | _, _, .cons _ r => by rw [List.length_cons, List.length_cons, DaAll.length r]
theorem DaAll.get : ∀ {vs : List V} {ds : List PyData} {i : Nat} {d : PyData}, DaAll G vs ds → ds[i]? = some d → ∃ v, vs[i]? = some v ∧ Da G v d
  | _, _, _, _, .nil, h => by simp at h
  | _, _, 0, _, .cons h _, e => by
    have : _ = _ := Option.some.inj e
    subst this
    exact ⟨_, rfl, h⟩
  | _, _, i + 1, d, .cons _ r, e => by
    obtain ⟨v, h1, h2⟩ := DaAll.get (i := i) (d := d) r (by simpa using e)
    exact ⟨v, by simpa using h1, h2⟩
theorem DaAll.get' : ∀ {vs : List V} {ds : List PyData} {i : Nat} {v : V}, DaAll G vs ds → vs[i]? = some v → ∃ d, ds[i]? = some d ∧ Da G v d
  | _, _, _, _, .nil, h => by simp at h
  | _, _, 0, _, .cons h _, e => by
    have : _ = _ := Option.some.inj e
    subst this
    exact ⟨_, rfl, h⟩
  | _, _, i + 1, v, .cons _ r, e => by
    obtain ⟨d, h1, h2⟩ := DaAll.get' (i := i) (v := v) r (by simpa using e)
    exact ⟨d, by simpa using h1, h2⟩
theorem DaAll.append : ∀ {xs ys : List V} {ds es : List PyData}, DaAll G xs ds → DaAll G ys es → DaAll G (xs ++ ys) (ds ++ es)
  | _, _, _, _, .nil, s => s
  | _, _, _, _, .cons r t, s => .cons r (DaAll.append t s)
theorem DaAll.snoc {xs : List V} {ds : List PyData} {v : V} {d : PyData} (h : DaAll G xs ds) (hv : Da G v d) : DaAll G (xs ++ [v]) (ds ++ [d]) := h.append (.cons hv .nil)
theorem DaAll.take : ∀ {xs : List V} {ds : List PyData} (n : Nat), DaAll G xs ds → DaAll G (xs.take n) (ds.take n)
  | _, _, 0, _ => .nil
  | _, _, _ + 1, .nil => .nil
  | _, _, n + 1, .cons r t => .cons r (DaAll.take n t)
theorem DaAll.drop : ∀ {xs : List V} {ds : List PyData} (n : Nat), DaAll G xs ds → DaAll G (xs.drop n) (ds.drop n)
  | _, _, 0, r => r
  | _, _, _ + 1, .nil => .nil
  | _, _, n + 1, .cons _ t => DaAll.drop n t
theorem DaAll.set {v : V} {d : PyData} (h : Da G v d) : ∀ {xs : List V} {ds : List PyData} (i : Nat), DaAll G xs ds → DaAll G (xs.set i v) (ds.set i d)
  | _, _, _, .nil => .nil
  | _, _, 0, .cons _ t => .cons h t
  | _, _, i + 1, .cons r t => .cons r (DaAll.set h i t)
theorem DaAll.ints : ∀ {xs : List V} {ns : List Int}, DaAll G xs (ns.map .int) → xs = ns.map V.int
  | _, [], h => by cases h; rfl
  | _, n :: ns, h => by
    rw [List.map_cons] at h
    cases h with
    | cons h r => rw [h.int_inv, DaAll.ints r]; rfl
theorem DaAll.bools : ∀ {xs : List V} {ns : List Bool}, DaAll G xs (ns.map .bool) → xs = ns.map V.bl
  | _, [], h => by cases h; rfl
  | _, n :: ns, h => by
    rw [List.map_cons] at h
    cases h with
    | cons h r => rw [h.bool_inv, DaAll.bools r]; rfl
theorem DaAll.ofInts (G : Hp) : ∀ (ns : List Int), DaAll G (ns.map V.int) (ns.map .int)
  | [] => .nil
  | n :: ns => .cons (.int n) (DaAll.ofInts G ns)
mutual
def noDict : PyData → Bool
  | .dict _ => false
  | .list xs => noDicts xs
  | .tuple xs => noDicts xs
  | _ => true
def noDicts : List PyData → Bool
  | [] => true
  | x :: xs => noDict x && noDicts xs
end
mutual
theorem Da.dp (e : Ex G H) : ∀ {v : V} {d : PyData}, Da G v d → noDict d = true → Dp K H v d
  | _, _, .non, _ => .non
  | _, _, .bl b, _ => .bl b
  | _, _, .int i, _ => .int i
  | _, _, .str x, _ => .str x
  | _, _, .lst h r, n => .lst (Or.inl (Or.inl (e _ _ h))) (DaAll.dp e r (by simpa [noDict] using n))
  | _, _, .tup h r, n => .tup (Or.inl (Or.inl (e _ _ h))) (DaAll.dp e r (by simpa [noDict] using n))
  | _, _, .dct h, n => by simp [noDict] at n
theorem DaAll.dp (e : Ex G H) : ∀ {vs : List V} {ds : List PyData}, DaAll G vs ds → noDicts ds = true → DpAll K H vs ds
  | _, _, .nil, _ => .nil
  | _, _, .cons h r, n => by
    rw [noDicts, Bool.and_eq_true] at n
    exact .cons (Da.dp e h n.1) (DaAll.dp e r n.2)
end
end

/-! ### readings that make data -/
def EvR (te : TE) (σ : L2.St) (G : Hp) (Φ : PyData → Prop) : Prop := ∀ H, Ex G H → ∀ Q : VK, (∀ v G' H' d, Go G H G' H' → Da G' v d → Φ d → Q v H') → te σ H Q
abbrev EvD (te : TE) (σ : L2.St) (G : Hp) (d : PyData) : Prop := EvR te σ G (fun e => e = d)
def EvRs (ta : TA) (σ : L2.St) (G : Hp) (Φ : List PyData → Prop) : Prop := ∀ H, Ex G H → ∀ Q : List V → Hp → Prop, (∀ vs G' H' ds, Go G H G' H' → DaAll G' vs ds → Φ ds → Q vs H') → ta σ H Q
abbrev EvDs (ta : TA) (σ : L2.St) (G : Hp) (ds : List PyData) : Prop := EvRs ta σ G (fun es => es = ds)
abbrev EvT (tt : TT) (σ : L2.St) (G : Hp) (b : Bool) : Prop := Evl.EvT tt σ G b

/-- both -/
def un (G G' : Hp) : Hp := fun b => match G b with
  | some o => some o
  | none => G' b
theorem un_l {G G' : Hp} : Ex G (un G G') := fun b o h => by unfold un; rw [h]
theorem un_r {G G' H : Hp} (e : Ex G H) (e' : Ex G' H) : Ex G' (un G G') := fun b o h => by
  unfold un
  cases q : G b with
  | none => exact h
  | some u =>
    have h1 := e b u q
    have h2 := e' b o h
    rw [h1] at h2
    exact h2
theorem Go.lift {G G1 G' H H' : Hp} (eg : Ex G G1) (e : Ex G1 H) (g : Go G H G' H') : Go G1 H (un G1 G') H' := by
  refine ⟨g.hh, un_l, fun b o h => ?_, fun b o h => ?_⟩
  · unfold un at h
    cases q : G1 b with
    | none => rw [q] at h; exact g.gh b o h
    | some u => rw [q] at h; rw [← h]; exact g.hh b u (e b u q)
  · unfold un at h
    cases q : G1 b with
    | none =>
      rw [q] at h
      rcases g.sep b o h with z | z
      · rw [eg b o z] at q; cases q
      · exact .inr z
    | some u => rw [q] at h; exact .inl h
theorem EvR.mono {te : TE} {σ : L2.St} {G G1 : Hp} {Φ : PyData → Prop} (h : EvR te σ G Φ) (eg : Ex G G1) : EvR te σ G1 Φ := fun H e Q k =>
  h H (eg.trans e) Q fun v G' H' d g hd hp => k v (un G1 G') H' d (g.lift eg e) (hd.mono (un_r (e.trans g.hh) g.gh)) hp
theorem EvRs.mono {ta : TA} {σ : L2.St} {G G1 : Hp} {Φ : List PyData → Prop} (h : EvRs ta σ G Φ) (eg : Ex G G1) : EvRs ta σ G1 Φ := fun H e Q k =>
  h H (eg.trans e) Q fun v G' H' d g hd hp => k v (un G1 G') H' d (g.lift eg e) (hd.mono (un_r (e.trans g.hh) g.gh)) hp
theorem EvT.mono {tt : TT} {σ : L2.St} {G G1 : Hp} {b : Bool} (h : EvT tt σ G b) (eg : Ex G G1) : EvT tt σ G1 b := Evl.EvT.mono eg h
theorem EvR.imp {te : TE} {σ : L2.St} {G : Hp} {Φ Ψ : PyData → Prop} (h : EvR te σ G Φ) (k : ∀ d, Φ d → Ψ d) : EvR te σ G Ψ := fun H e Q q =>
  h H e Q fun v G' H' d g hd hp => q v G' H' d g hd (k d hp)
theorem EvD.of {te : TE} {σ : L2.St} {G : Hp} {d e : PyData} (h : EvD te σ G d) (k : d = e) : EvD te σ G e := k ▸ h

section
variable {K : PySem.W.Frag} {σ : L2.St} {G : Hp} {ta tb tc te : TE} {t u : TT} {r r' : R2} {d e : PyData} {ds es : List PyData}
/-- a value that never changes -/
theorem ed_ev {v : V} (h : Evl.Ev te σ G v) (hd : Da G v d) : EvD te σ G d := fun H eg Q k => h H eg Q fun H2 e2 => k v G H2 d ⟨e2, Ex.refl G, eg.trans e2, fun _ _ q => .inl q⟩ hd rfl
theorem ed_var {i : Nat} {v : V} (h : σ[i]? = some (some v)) (hd : Da G v d) : EvD (tVar i) σ G d := ed_ev (Evl.ev_var h) hd
theorem ed_i {i : Int} : EvD (tC (.int i)) σ G (.int i) := ed_ev Evl.ev_c (.int i)
theorem ed_b {b : Bool} : EvD (tC (.bl b)) σ G (.bool b) := ed_ev Evl.ev_c (.bl b)
theorem ed_n : EvD (tC .non) σ G .none := ed_ev Evl.ev_c .non
/-- back to a value -/
theorem ev_int {i : Int} (h : EvD te σ G (.int i)) : Evl.Ev te σ G (.int i) := fun H e Q k => h H e Q fun v G' H' d g hd hp => by
  subst hp; rw [hd.int_inv]; exact k H' g.hh
theorem ev_bool {b : Bool} (h : EvD te σ G (.bool b)) : Evl.Ev te σ G (.bl b) := fun H e Q k => h H e Q fun v G' H' d g hd hp => by
  subst hp; rw [hd.bool_inv]; exact k H' g.hh
/-- two operands -/
theorem er_op {Φ : PyData → Prop} (ha : EvD ta σ G d) (hb : EvD tb σ G e) (hr : ∀ x y G1 H, Ex G G1 → Ex G1 H → Da G1 x d → Da G1 y e → ∀ Q : VK, (∀ v G' H' z, Go G1 H G' H' → Da G' v z → Φ z → Q v H') → r x y H Q) : EvR (tOp r ta tb) σ G Φ := fun H eg Q k =>
  ha H eg _ fun x G1 H1 d1 g1 hx e1 => (hb.mono g1.gg) H1 g1.gh _ fun y G2 H2 d2 g2 hy e2 => by
    subst e1; subst e2
    exact hr x y G2 H2 (g1.gg.trans g2.gg) g2.gh (hx.mono g2.gg) hy Q fun v G3 H3 z g3 hz hp => k v G3 H3 z ((g1.trans g2).trans g3) hz hp
/-- an operation that makes nothing -/
theorem ed_op {z : V} {dz : PyData} (hz : ∀ G, Da G z dz) (ha : EvD ta σ G d) (hb : EvD tb σ G e) (hr : ∀ x y G1 H, Ex G1 H → Da G1 x d → Da G1 y e → ∀ Q : VK, Q z H → r x y H Q) : EvD (tOp r ta tb) σ G dz :=
  er_op ha hb fun x y G1 H _ eg hx hy Q k => hr x y G1 H eg hx hy Q (k z G1 H dz (Go.refl eg) (hz G1) rfl)
theorem da_b (b : Bool) (G : Hp) : Da G (.bl b) (.bool b) := .bl b
theorem da_i (i : Int) (G : Hp) : Da G (.int i) (.int i) := .int i
theorem ed_II {g : Int → Int → Int} {i j : Int} (ha : EvD ta σ G (.int i)) (hb : EvD tb σ G (.int j)) : EvD (tOp (rI0 fun i j => .int (g i j)) ta tb) σ G (.int (g i j)) :=
  ed_op (da_i _) ha hb fun x y _ H _ hx hy Q q => ⟨i, j, hx.int_inv, hy.int_inv, q⟩
theorem ed_IIc {C : Int → Int → Prop} {g : Int → Int → Int} {i j : Int} (hc : C i j) (ha : EvD ta σ G (.int i)) (hb : EvD tb σ G (.int j)) : EvD (tOp (rI C fun i j => .int (g i j)) ta tb) σ G (.int (g i j)) :=
  ed_op (da_i _) ha hb fun x y _ H _ hx hy Q q => ⟨i, j, hx.int_inv, hy.int_inv, hc, q⟩
theorem ed_IB {g : Int → Int → Bool} {i j : Int} (ha : EvD ta σ G (.int i)) (hb : EvD tb σ G (.int j)) : EvD (tOp (rI0 fun i j => .bl (g i j)) ta tb) σ G (.bool (g i j)) :=
  ed_op (da_b _) ha hb fun x y _ H _ hx hy Q q => ⟨i, j, hx.int_inv, hy.int_inv, q⟩
theorem ed_eqI {i j : Int} (ha : EvD ta σ G (.int i)) (hb : EvD tb σ G (.int j)) : EvD (tOp rEq ta tb) σ G (.bool (decide (i = j))) :=
  ed_op (da_b _) ha hb fun x y _ H _ hx hy Q q => by
    rw [hx.int_inv, hy.int_inv]
    refine ⟨rfl, ?_⟩
    have e : decide (V.int i = V.int j) = decide (i = j) := by simp
    rw [e]; exact q
theorem ed_eqB {i j : Bool} (ha : EvD ta σ G (.bool i)) (hb : EvD tb σ G (.bool j)) : EvD (tOp rEq ta tb) σ G (.bool (i == j)) :=
  ed_op (da_b _) ha hb fun x y _ H _ hx hy Q q => by
    rw [hx.bool_inv, hy.bool_inv]
    refine ⟨rfl, ?_⟩
    have e : decide (V.bl i = V.bl j) = (i == j) := by cases i <;> cases j <;> rfl
    rw [e]; exact q
theorem ed_neI {i j : Int} (ha : EvD ta σ G (.int i)) (hb : EvD tb σ G (.int j)) : EvD (tOp rNe ta tb) σ G (.bool (!decide (i = j))) :=
  ed_op (da_b _) ha hb fun x y _ H _ hx hy Q q => by
    rw [hx.int_inv, hy.int_inv]
    refine ⟨rfl, ?_⟩
    have e : decide (V.int i = V.int j) = decide (i = j) := by simp
    rw [e]; exact q
theorem ed_neB {i j : Bool} (ha : EvD ta σ G (.bool i)) (hb : EvD tb σ G (.bool j)) : EvD (tOp rNe ta tb) σ G (.bool (i != j)) :=
  ed_op (da_b _) ha hb fun x y _ H _ hx hy Q q => by
    rw [hx.bool_inv, hy.bool_inv]
    refine ⟨rfl, ?_⟩
    have e : (!decide (V.bl i = V.bl j)) = (i != j) := by cases i <;> cases j <;> rfl
    rw [e]; exact q
def isNoneD : PyData → Bool
  | .none => true
  | _ => false
theorem isNone_v {G1 : Hp} {x : V} (hx : Da G1 x d) : decide (x = V.non) = isNoneD d := by
  cases hx <;> rfl
theorem ed_isN (ha : EvD ta σ G d) : EvD (tOp (fun x y H Q => y = V.non ∧ Q (.bl (decide (x = .non))) H) ta (tC .non)) σ G (.bool (isNoneD d)) :=
  ed_op (da_b _) ha ed_n fun x y _ H _ hx hy Q q => ⟨hy.none_inv, by
    rw [isNone_v hx]; exact q⟩
/-- == and != of data -/
theorem ed_eqD (nd : noDict d = true) (ne : noDict e = true) (sd : SeqAt.shaped d = true) (se : SeqAt.shaped e = true) (ha : EvD ta σ G d) (hb : EvD tb σ G e) : EvD (tOp (rEqD K) ta tb) σ G (.bool (PyData.eqv d e)) :=
  ed_op (da_b _) ha hb fun x y _ H eg hx hy Q q => ⟨d, e, hx.dp eg nd, hy.dp eg ne, sd, se, q⟩
theorem ed_neD (nd : noDict d = true) (ne : noDict e = true) (sd : SeqAt.shaped d = true) (se : SeqAt.shaped e = true) (ha : EvD ta σ G d) (hb : EvD tb σ G e) : EvD (tOp (rNeD K) ta tb) σ G (.bool (!PyData.eqv d e)) :=
  ed_op (da_b _) ha hb fun x y _ H eg hx hy Q q => ⟨d, e, hx.dp eg nd, hy.dp eg ne, sd, se, q⟩
/-- an item -/
theorem ed_ixL {i : Int} (hi : atI ds i = some e) (ha : EvD ta σ G (.list ds)) (hb : EvD tb σ G (.int i)) : EvD (tOp (rIxL K) ta tb) σ G e :=
  er_op ha hb fun x y G1 H _ eg hx hy Q k => by
    obtain ⟨a, xs, rfl, h1, h2⟩ := hx.list_inv
    obtain ⟨j, hj, hd, _⟩ := atI_get hi
    have hx : ixN ds.length i = ixN xs.length i := by rw [h2.length]
    unfold atI at hi
    obtain ⟨j, hj, hd⟩ := Option.bind_eq_some_iff.mp hi
    obtain ⟨v, hv, dv⟩ := h2.get hd
    refine ⟨a, xs, i, v, rfl, hy.int_inv, .inl (.inl (eg _ _ h1)), ?_, k v G1 H e (Go.refl eg) dv rfl⟩
    unfold atI
    rw [← hx, hj]
    exact hv
theorem ed_ixT {i : Int} (hi : atI ds i = some e) (ha : EvD ta σ G (.tuple ds)) (hb : EvD tb σ G (.int i)) : EvD (tOp (rIxT K) ta tb) σ G e :=
  er_op ha hb fun x y G1 H _ eg hx hy Q k => by
    obtain ⟨a, xs, rfl, h1, h2⟩ := hx.tuple_inv
    have hx : ixN ds.length i = ixN xs.length i := by rw [h2.length]
    unfold atI at hi
    obtain ⟨j, hj, hd⟩ := Option.bind_eq_some_iff.mp hi
    obtain ⟨v, hv, dv⟩ := h2.get hd
    refine ⟨a, xs, i, v, rfl, hy.int_inv, .inl (.inl (eg _ _ h1)), ?_, k v G1 H e (Go.refl eg) dv rfl⟩
    unfold atI
    rw [← hx, hj]
    exact hv
theorem atN {ds : List PyData} {j : Nat} {e : PyData} (h : ds[j]? = some e) : atI ds (j : Int) = some e := atI_nat h
/-- truth values -/
theorem ed_andV {a b : Bool} (h1 : EvD ta σ G (.bool a)) (h2 : a = true → EvD tb σ G (.bool b)) : EvD (tAndV ta tb) σ G (.bool (a && b)) := ed_ev (Evl.ev_andV (ev_bool h1) fun h => ev_bool (h2 h)) (.bl _)
theorem ed_orV {a b : Bool} (h1 : EvD ta σ G (.bool a)) (h2 : a = false → EvD tb σ G (.bool b)) : EvD (tOrV ta tb) σ G (.bool (a || b)) := ed_ev (Evl.ev_orV (ev_bool h1) fun h => ev_bool (h2 h)) (.bl _)
theorem ed_notV {a : Bool} (h1 : EvD ta σ G (.bool a)) : EvD (tNotV ta) σ G (.bool (!a)) := ed_ev (Evl.ev_notV (ev_bool h1)) (.bl _)
theorem et_test {b : Bool} (h : EvD te σ G (.bool b)) : EvT (tTest te) σ G b := Evl.et_test (ev_bool h)
theorem et_B {b : Bool} (h : EvD te σ G (.bool b)) : EvT (tB te) σ G b := Evl.et_B (ev_bool h)
theorem et_and {a b : Bool} (h1 : EvT t σ G a) (h2 : a = true → EvT u σ G b) : EvT (tAnd t u) σ G (a && b) := Evl.et_and h1 h2
theorem et_or {a b : Bool} (h1 : EvT t σ G a) (h2 : a = false → EvT u σ G b) : EvT (tOr t u) σ G (a || b) := Evl.et_or h1 h2
theorem et_not {a : Bool} (h1 : EvT t σ G a) : EvT (tNot t) σ G (!a) := Evl.et_not h1
theorem et_of {a b : Bool} (h1 : EvT t σ G a) (e : a = b) : EvT t σ G b := Evl.et_is h1 e
/-- a <= b <= c -/
theorem ed_chain {g g' : Int → Int → Bool} {i j l : Int} (ha : EvD ta σ G (.int i)) (hb : EvD tb σ G (.int j)) (hc : EvD tc σ G (.int l)) :
    EvD (tChain (rI0 fun i j => .bl (g i j)) (rI0 fun i j => .bl (g' i j)) ta tb tc) σ G (.bool (g i j && g' j l)) := by
  refine ed_ev (v := .bl (g i j && g' j l)) (fun H eg Q k => ?_) (.bl _)
  refine ev_int ha H eg _ fun H1 e1 => ev_int hb H1 (eg.trans e1) _ fun H2 e2 => ⟨i, j, rfl, rfl, g i j, rfl, ?_⟩
  cases hq : g i j with
  | true =>
    rw [if_pos rfl]
    refine ev_int hc H2 ((eg.trans e1).trans e2) _ fun H3 e3 => ⟨j, l, rfl, rfl, ?_⟩
    have := k H3 ((e1.trans e2).trans e3)
    rw [hq] at this; exact this
  | false =>
    rw [if_neg (by decide)]
    have := k H2 (e1.trans e2)
    rw [hq] at this; exact this
/-- argument lists -/
theorem es_nil : EvDs tNil σ G [] := fun H eg Q k => k [] G H [] (Go.refl eg) .nil rfl
theorem es_cons {tr : TA} (h : EvD te σ G d) (hr : EvDs tr σ G ds) : EvDs (tCons te tr) σ G (d :: ds) := fun H eg Q k =>
  h H eg _ fun v G1 H1 d1 g1 hv e1 => (hr.mono g1.gg) H1 g1.gh _ fun vs G2 H2 d2 g2 hvs e2 => by
    subst e1; subst e2
    exact k _ G2 H2 _ (g1.trans g2) (.cons (hv.mono g2.gg) hvs) rfl
/-- the first argument told by what is true of it -/
theorem er_cons {tr : TA} {Φ : PyData → Prop} {Ψ : List PyData → Prop} (h : EvR te σ G Φ) (hr : EvDs tr σ G ds) (k : ∀ d, Φ d → Ψ (d :: ds)) : EvRs (tCons te tr) σ G Ψ := fun H eg Q q =>
  h H eg _ fun v G1 H1 d1 g1 hv e1 => (hr.mono g1.gg) H1 g1.gh _ fun vs G2 H2 d2 g2 hvs e2 => by
    subst e2
    exact q _ G2 H2 _ (g1.trans g2) (.cons (hv.mono g2.gg) hvs) (k d1 e1)
/-- a tuple, a list of written items -/
theorem ed_tup {ta : TA} (h : EvDs ta σ G ds) (hl : ds.length ≤ sizeLine) : EvD (tTup ta) σ G (.tuple ds) := fun H eg Q k =>
  h H eg _ fun vs G1 H1 d1 g1 hvs e1 => by
    subst e1
    refine ⟨by rw [hvs.length]; exact hl, fun p hp => k _ (upd G1 p (.tup vs)) _ _ (g1.trans (Go.new g1.gh hp)) (.tup upd_same (hvs.mono (Ex.new (nb_back g1.gh hp)))) rfl⟩
theorem ed_lst {ta : TA} (h : EvDs ta σ G ds) (hl : ds.length ≤ sizeLine) : EvD (tLst ta) σ G (.list ds) := fun H eg Q k =>
  h H eg _ fun vs G1 H1 d1 g1 hvs e1 => by
    subst e1
    refine ⟨by rw [hvs.length]; exact hl, fun p hp => k _ (upd G1 p (.lst vs)) _ _ (g1.trans (Go.new g1.gh hp)) (.lst upd_same (hvs.mono (Ex.new (nb_back g1.gh hp)))) rfl⟩
/-- calls of a built-in by values -/
theorem er_cb {rc : List V → Hp → VK → Prop} {ta : TA} {Φ : PyData → Prop} (h : EvDs ta σ G ds) (hr : ∀ vs G1 H, Ex G G1 → Ex G1 H → DaAll G1 vs ds → ∀ Q : VK, (∀ v G' H' z, Go G1 H G' H' → Da G' v z → Φ z → Q v H') → rc vs H Q) : EvR (tCB rc ta) σ G Φ := fun H eg Q k =>
  h H eg _ fun vs G1 H1 d1 g1 hvs e1 => by
    subst e1
    exact hr vs G1 H1 g1.gg g1.gh hvs Q fun v G' H' z g hz hp => k v G' H' z (g1.trans g) hz hp
theorem args1 {vs : List V} {G1 : Hp} (h : DaAll G1 vs [d]) : ∃ v, vs = [v] ∧ Da G1 v d := by
  cases h with
  | cons h r => cases r; exact ⟨_, rfl, h⟩
theorem args2 {vs : List V} {G1 : Hp} (h : DaAll G1 vs [d, e]) : ∃ v w, vs = [v, w] ∧ Da G1 v d ∧ Da G1 w e := by
  cases h with
  | cons h r => cases r with
    | cons h' r => cases r; exact ⟨_, _, rfl, h, h'⟩
theorem ed_lenL (h : EvD te σ G (.list ds)) : EvD (tCB (fun xs H Q => ∃ p ys, xs = [V.ref p] ∧ (SqL K H p ys ∨ SqT K H p ys) ∧ Q (.int ys.length) H) (tCons te tNil)) σ G (.int (ds.length : Nat)) :=
  er_cb (es_cons h es_nil) fun vs G1 H _ eg hvs Q k => by
    obtain ⟨v, rfl, hv⟩ := args1 hvs
    obtain ⟨a, xs, rfl, h1, h2⟩ := hv.list_inv
    refine ⟨a, xs, rfl, .inl (.inl (.inl (eg _ _ h1))), ?_⟩
    have := k (.int (ds.length : Nat)) G1 H _ (Go.refl eg) (.int _) rfl
    rw [h2.length]; exact this
theorem ed_lenT (h : EvD te σ G (.tuple ds)) : EvD (tCB (fun xs H Q => ∃ p ys, xs = [V.ref p] ∧ (SqL K H p ys ∨ SqT K H p ys) ∧ Q (.int ys.length) H) (tCons te tNil)) σ G (.int (ds.length : Nat)) :=
  er_cb (es_cons h es_nil) fun vs G1 H _ eg hvs Q k => by
    obtain ⟨v, rfl, hv⟩ := args1 hvs
    obtain ⟨a, xs, rfl, h1, h2⟩ := hv.tuple_inv
    refine ⟨a, xs, rfl, .inr (.inl (.inl (eg _ _ h1))), ?_⟩
    have := k (.int (ds.length : Nat)) G1 H _ (Go.refl eg) (.int _) rfl
    rw [h2.length]; exact this
theorem ed_tupleOf (h : EvD te σ G (.list ds)) : EvD (tCB (fun xs H Q => ∃ p ys, xs = [V.ref p] ∧ ((SqL K H p ys ∧ ∀ l, H l = none → Q (.ref l) (upd H l (.tup ys))) ∨ (SqT K H p ys ∧ Q (.ref p) H))) (tCons te tNil)) σ G (.tuple ds) :=
  er_cb (es_cons h es_nil) fun vs G1 H _ eg hvs Q k => by
    obtain ⟨v, rfl, hv⟩ := args1 hvs
    obtain ⟨a, xs, rfl, h1, h2⟩ := hv.list_inv
    exact ⟨a, xs, rfl, .inl ⟨.inl (.inl (eg _ _ h1)), fun l hl => k _ (upd G1 l (.tup xs)) _ _ (Go.new eg hl) (.tup upd_same (h2.mono (Ex.new (nb_back eg hl)))) rfl⟩⟩
theorem ed_listOfT (h : EvD te σ G (.tuple ds)) : EvD (tCB (fun xs H Q => ∃ p ys, xs = [V.ref p] ∧ (SqL K H p ys ∨ SqT K H p ys) ∧ ∀ l, H l = none → Q (.ref l) (upd H l (.lst ys))) (tCons te tNil)) σ G (.list ds) :=
  er_cb (es_cons h es_nil) fun vs G1 H _ eg hvs Q k => by
    obtain ⟨v, rfl, hv⟩ := args1 hvs
    obtain ⟨a, xs, rfl, h1, h2⟩ := hv.tuple_inv
    exact ⟨a, xs, rfl, .inr (.inl (.inl (eg _ _ h1))), fun l hl => k _ (upd G1 l (.lst xs)) _ _ (Go.new eg hl) (.lst upd_same (h2.mono (Ex.new (nb_back eg hl)))) rfl⟩
theorem ed_all {bs : List Bool} (h : EvD te σ G (.list (bs.map .bool))) : EvD (tCB (rAll K) (tCons te tNil)) σ G (.bool (bs.all id)) :=
  er_cb (es_cons h es_nil) fun vs G1 H _ eg hvs Q k => by
    obtain ⟨v, rfl, hv⟩ := args1 hvs
    obtain ⟨a, xs, rfl, h1, h2⟩ := hv.list_inv
    have e := h2.bools
    subst e
    exact ⟨a, bs, rfl, .inl (.inl (eg _ _ h1)), k _ G1 H _ (Go.refl eg) (.bl _) rfl⟩
theorem ed_any {bs : List Bool} (h : EvD te σ G (.list (bs.map .bool))) : EvD (tCB (rAny K) (tCons te tNil)) σ G (.bool (bs.any id)) :=
  er_cb (es_cons h es_nil) fun vs G1 H _ eg hvs Q k => by
    obtain ⟨v, rfl, hv⟩ := args1 hvs
    obtain ⟨a, xs, rfl, h1, h2⟩ := hv.list_inv
    have e := h2.bools
    subst e
    exact ⟨a, bs, rfl, .inl (.inl (eg _ _ h1)), k _ G1 H _ (Go.refl eg) (.bl _) rfl⟩
/-- x in xs, x not in xs, ints in a list or a tuple -/
theorem inV_ints (i : Int) : ∀ ns : List Int, inV (.int i) (ns.map V.int) = decide (i ∈ ns)
  | [] => by simp [inV]
  | n :: ns => by
    have ih := inV_ints i ns
    unfold inV at ih ⊢
    rw [List.map_cons, List.any_cons, ih]
    have : eqV (V.int n) (V.int i) = (n == i) := rfl
    rw [this]
    by_cases h : n = i
    · subst h; simp
    · have h' : i ≠ n := fun q => h q.symm
      simp [h, h']
theorem flat_ints : ∀ ns : List Int, (ns.map V.int).all flatV = true
  | [] => rfl
  | n :: ns => by rw [List.map_cons, List.all_cons, flat_ints ns]; rfl
theorem ed_inT {i : Int} {ns : List Int} (ha : EvD ta σ G (.int i)) (hb : EvD tb σ G (.tuple (ns.map .int))) : EvD (tOp (rIn K false) ta tb) σ G (.bool (decide (i ∈ ns))) :=
  ed_op (da_b _) ha hb fun x y _ H eg hx hy Q q => by
    obtain ⟨a, xs, rfl, h1, h2⟩ := hy.tuple_inv
    have e := h2.ints
    subst e
    rw [hx.int_inv]
    refine ⟨a, _, rfl, .inr (.inl (.inl (eg _ _ h1))), rfl, flat_ints ns, ?_⟩
    rw [if_neg (by decide), inV_ints]; exact q
theorem ed_inL {i : Int} {ns : List Int} (ha : EvD ta σ G (.int i)) (hb : EvD tb σ G (.list (ns.map .int))) : EvD (tOp (rIn K false) ta tb) σ G (.bool (decide (i ∈ ns))) :=
  ed_op (da_b _) ha hb fun x y _ H eg hx hy Q q => by
    obtain ⟨a, xs, rfl, h1, h2⟩ := hy.list_inv
    have e := h2.ints
    subst e
    rw [hx.int_inv]
    refine ⟨a, _, rfl, .inl (.inl (.inl (eg _ _ h1))), rfl, flat_ints ns, ?_⟩
    rw [if_neg (by decide), inV_ints]; exact q
theorem ed_ninT {i : Int} {ns : List Int} (ha : EvD ta σ G (.int i)) (hb : EvD tb σ G (.tuple (ns.map .int))) : EvD (tOp (rIn K true) ta tb) σ G (.bool (!decide (i ∈ ns))) :=
  ed_op (da_b _) ha hb fun x y _ H eg hx hy Q q => by
    obtain ⟨a, xs, rfl, h1, h2⟩ := hy.tuple_inv
    have e := h2.ints
    subst e
    rw [hx.int_inv]
    refine ⟨a, _, rfl, .inr (.inl (.inl (eg _ _ h1))), rfl, flat_ints ns, ?_⟩
    rw [if_pos rfl, inV_ints]; exact q
theorem ed_ninL {i : Int} {ns : List Int} (ha : EvD ta σ G (.int i)) (hb : EvD tb σ G (.list (ns.map .int))) : EvD (tOp (rIn K true) ta tb) σ G (.bool (!decide (i ∈ ns))) :=
  ed_op (da_b _) ha hb fun x y _ H eg hx hy Q q => by
    obtain ⟨a, xs, rfl, h1, h2⟩ := hy.list_inv
    have e := h2.ints
    subst e
    rw [hx.int_inv]
    refine ⟨a, _, rfl, .inl (.inl (.inl (eg _ _ h1))), rfl, flat_ints ns, ?_⟩
    rw [if_pos rfl, inV_ints]; exact q
/-- list + list, list * n -/
theorem ed_cat (hl : ds.length + es.length ≤ sizeLine) (ha : EvD ta σ G (.list ds)) (hb : EvD tb σ G (.list es)) : EvD (tOp rCat ta tb) σ G (.list (ds ++ es)) :=
  er_op ha hb fun x y G1 H _ eg hx hy Q k => by
    obtain ⟨a, xs, rfl, h1, h2⟩ := hx.list_inv
    obtain ⟨b, ys, rfl, h3, h4⟩ := hy.list_inv
    exact ⟨a, b, xs, ys, rfl, rfl, eg _ _ h1, eg _ _ h3, by rw [h2.length, h4.length]; exact hl, fun p hp =>
      k _ (upd G1 p (.lst (xs ++ ys))) _ _ (Go.new eg hp) (.lst upd_same ((h2.append h4).mono (Ex.new (nb_back eg hp)))) rfl⟩
end

/-! ### promises -/
/-- a def from data to data: what is asked of the arguments, what is true of the answer -/
def spD (Pre : List PyData → Prop) (Post : List PyData → PyData → Prop) : Sp := fun vs H Q _ => ∃ G ds, Ex G H ∧ DaAll G vs ds ∧ Pre ds ∧ ∀ v G' H' d, Go G H G' H' → Da G' v d → Post ds d → Q v H'
theorem er_call {Pre : List PyData → Prop} {Post : List PyData → PyData → Prop} {σ : L2.St} {G : Hp} {ta : TA} {ds : List PyData} {E : XK} (h : EvDs ta σ G ds) (hp : Pre ds) : EvR (tCall (spD Pre Post) [] E ta) σ G (Post ds) := fun H eg Q k =>
  h H eg _ fun vs G1 H1 d1 g1 hvs e1 => by
    subst e1
    rw [List.append_nil]
    exact ⟨G1, _, g1.gh, hvs, hp, fun v G' H' d g hd hq => k v G' H' d (g1.trans g) hd hq⟩
/-- the answer is a function of the arguments -/
theorem ed_call {Pre : List PyData → Prop} {Post : List PyData → PyData → Prop} {σ : L2.St} {G : Hp} {ta : TA} {ds : List PyData} {E : XK} {r : PyData} (h : EvDs ta σ G ds) (hp : Pre ds) (hr : ∀ d, Post ds d → d = r) : EvD (tCall (spD Pre Post) [] E ta) σ G r := (er_call h hp).imp hr

/-! ### statements -/
section
variable {σ : L2.St} {G H : Hp} {te : TE} {D : Ends} {tz tu tw : TS} {t : TT}
theorem r_asg {i : Nat} {Φ : PyData → Prop} (h : EvR te σ G Φ) (eg : Ex G H) (k : ∀ v G' H' d, Go G H G' H' → Da G' v d → Φ d → D.nx (σ.set i (some v)) H') : tAsg te (gName i) D σ H := h H eg _ k
theorem rq_asg {i : Nat} {Φ : PyData → Prop} (h : EvR te σ G Φ) (eg : Ex G H) (k : ∀ v G' H' d, Go G H G' H' → Da G' v d → Φ d → tz D (σ.set i (some v)) H') : tSeq (tAsg te (gName i)) tz D σ H := h H eg _ k
theorem r_ret {Φ : PyData → Prop} (h : EvR te σ G Φ) (eg : Ex G H) (k : ∀ v G' H' d, Go G H G' H' → Da G' v d → Φ d → D.rt v H') : tRet te D σ H := h H eg _ k
theorem r_drop {Φ : PyData → Prop} (h : EvR te σ G Φ) (eg : Ex G H) (k : ∀ G' H', Go G H G' H' → D.nx σ H') : tDrop te D σ H := h H eg _ fun v G' H' d g _ _ => k G' H' g
theorem rq_drop {Φ : PyData → Prop} (h : EvR te σ G Φ) (eg : Ex G H) (k : ∀ G' H', Go G H G' H' → tz D σ H') : tSeq (tDrop te) tz D σ H := h H eg _ fun v G' H' d g _ _ => k G' H' g
theorem r_if {b : Bool} (h : EvT t σ G b) (eg : Ex G H) (h1 : b = true → ∀ H1, Ex H H1 → tu D σ H1) (h2 : b = false → ∀ H1, Ex H H1 → tw D σ H1) : tIfS t tu tw D σ H := Evl.s_if (h.mono eg) h1 h2
theorem rq_if {b : Bool} (h : EvT t σ G b) (eg : Ex G H) (h1 : b = true → ∀ H1, Ex H H1 → tu { D with nx := tz D } σ H1) (h2 : b = false → ∀ H1, Ex H H1 → tw { D with nx := tz D } σ H1) : tSeq (tIfS t tu tw) tz D σ H := Evl.s_if (D := { D with nx := tz D }) (h.mono eg) h1 h2
/-- an if whose test fails -/
theorem rq_skip (h : EvT t σ G false) (eg : Ex G H) (k : ∀ H1, Ex H H1 → tz D σ H1) : tSeq (tIfS t tu tNext) tz D σ H := rq_if h eg (fun q => Bool.noConfusion q) (fun _ H1 e => k H1 e)
theorem r_skip (h : EvT t σ G false) (eg : Ex G H) (k : ∀ H1, Ex H H1 → D.nx σ H1) : tIfS t tu tNext D σ H := r_if h eg (fun q => Bool.noConfusion q) (fun _ H1 e => k H1 e)
end
end MxL
end
section
set_option Elab.async false
set_option linter.all false
set_option maxRecDepth 100000
set_option maxHeartbeats 4000000
namespace MxL
open PySem PySem.Spec PyProof.Rows L2
open Evl (Ex)

/-! ### list comprehensions -/
section
variable {K : PySem.W.Frag} {σ : L2.St} {G : Hp} {tl te : TE} {tt : TT} {vs : List Nat}
/-- behind i turns the new list at D holds what the kept ones among the first i give -/
def Cd {α : Type} (G0 H0 : Hp) (Dl : Addr) (L : List α) (p : α → Bool) (e : α → PyData) (i : Nat) (H' : Hp) : Prop :=
  ∃ G' acc, Go G0 H0 G' H' ∧ G' Dl = none ∧ H' Dl = some (.lst acc) ∧ DaAll G' acc (((L.take i).filter p).map e)
theorem cd_start {α : Type} {G0 H0 : Hp} {Dl : Addr} {L : List α} {p : α → Bool} {e : α → PyData} (eg : Ex G0 H0) (h : H0 Dl = none) : Cd G0 H0 Dl L p e 0 (upd H0 Dl (.lst [])) :=
  ⟨G0, [], Go.priv eg h, nb_back eg h, upd_same, .nil⟩
theorem take_more {α : Type} : ∀ {l : List α} {i : Nat} {x : α}, l[i]? = some x → l.take (i + 1) = l.take i ++ [x]
  | [], i, x, h => by simp at h
  | a :: l, 0, x, h => by
    have e : a = x := Option.some.inj h
    subst e
    rfl
  | a :: l, i + 1, x, h => by
    have ih := take_more (l := l) (i := i) (x := x) h
    show a :: l.take (i + 1) = a :: l.take i ++ [x]
    rw [ih]
    rfl
/-- one turn -/
theorem cd_turn {α : Type} {G0 H0 : Hp} {Dl : Addr} {L : List α} {p : α → Bool} {e : α → PyData} {i : Nat} {H' H1 : Hp} {a : α} {σ2 : L2.St} (h0 : H0 Dl = none) (hL : L.length ≤ sizeLine) (ha : L[i]? = some a)
    (c : Cd G0 H0 Dl L p e i H') (k : ∀ G', Go G0 H0 G' H' → Ex G' H' → ∃ G1, Ex G' G1 ∧ Go G' H' G1 H1 ∧ EvT tt σ2 G1 (p a) ∧ (p a = true → EvD te σ2 G1 (e a))) :
    tt σ2 H1 fun b H3 => if b = true then te σ2 H3 fun y H4 => ∃ acc, H4 Dl = some (.lst acc) ∧ acc.length < sizeLine ∧ Cd G0 H0 Dl L p e (i + 1) (upd H4 Dl (.lst (acc ++ [y]))) else Cd G0 H0 Dl L p e (i + 1) H3 := by
  obtain ⟨G', acc, g, hn, hD, hda⟩ := c
  obtain ⟨G1, e1, g1, ht, he⟩ := k G' g g.gh
  have hn1 : G1 Dl = none := g1.keepN hn hD
  have hD1 : H1 Dl = some (.lst acc) := g1.hh _ _ hD
  have gg1 := g.trans g1
  refine ht H1 g1.gh _ fun H3 e3 => ?_
  have hl : acc.length < sizeLine := by
    rw [hda.length, List.length_map]
    have h1 := List.length_filter_le p (L.take i)
    have h2 : i < L.length := (List.getElem?_eq_some_iff.mp ha).1
    rw [List.length_take] at h1
    omega
  cases hp : p a with
  | false =>
    show Cd G0 H0 Dl L p e (i + 1) H3
    refine ⟨G1, acc, gg1.ext e3, hn1, e3 _ _ hD1, ?_⟩
    rw [take_more ha, List.filter_append, List.filter_cons, if_neg (by rw [hp]; decide), List.filter_nil, List.append_nil]
    exact hda.mono e1
  | true =>
    show te σ2 H3 fun y H4 => ∃ acc, H4 Dl = some (.lst acc) ∧ acc.length < sizeLine ∧ Cd G0 H0 Dl L p e (i + 1) (upd H4 Dl (.lst (acc ++ [y])))
    refine he hp H3 (g1.gh.trans e3) _ fun y G4 H4 d g4 hy hd => ?_
    subst hd
    have hn4 : G4 Dl = none := g4.keepN hn1 (e3 _ _ hD1)
    refine ⟨acc, g4.hh _ _ (e3 _ _ hD1), hl, G4, acc ++ [y], ((gg1.ext e3).trans g4).mut h0 hn4, hn4, upd_same, ?_⟩
    rw [take_more ha, List.filter_append, List.filter_cons, if_pos hp, List.filter_nil, List.map_append]
    exact ((hda.mono e1).mono g4.gg).snoc hy
theorem cd_end {α : Type} {G0 H0 : Hp} {Dl : Addr} {L : List α} {p : α → Bool} {e : α → PyData} {H' : Hp} {Q : VK} (h0 : H0 Dl = none) (c : Cd G0 H0 Dl L p e L.length H')
    (k : ∀ v G' H' d, Go G0 H0 G' H' → Da G' v d → d = .list ((L.filter p).map e) → Q v H') : Q (.ref Dl) H' := by
  obtain ⟨G', acc, g, hn, hD, hda⟩ := c
  rw [List.take_length] at hda
  exact k _ _ _ _ (g.pub h0 hn hD) (.lst upd_same (hda.mono (Ex.new hn))) rfl
theorem map_at {α : Type} {L : List α} {enc : α → PyData} {i : Nat} {d : PyData} (h : (L.map enc)[i]? = some d) : ∃ a, L[i]? = some a ∧ d = enc a := by
  rw [List.getElem?_map] at h
  cases q : L[i]? with
  | none => rw [q] at h; cases h
  | some a => rw [q] at h; exact ⟨a, rfl, (Option.some.inj h).symm⟩
/-- over a list -/
theorem ed_lcL {α : Type} {j : Nat} (L : List α) (enc : α → PyData) (p : α → Bool) (e : α → PyData) (hL : L.length ≤ sizeLine) (hsrc : EvD tl σ G (.list (L.map enc))) (hw : ∀ x, wipe ((wipe σ vs).set j (some x)) vs = wipe σ vs)
    (ht : ∀ a v G', a ∈ L → Ex G G' → Da G' v (enc a) → EvT tt ((wipe σ vs).set j (some v)) G' (p a))
    (he : ∀ a v G', a ∈ L → p a = true → Ex G G' → Da G' v (enc a) → EvD te ((wipe σ vs).set j (some v)) G' (e a)) :
    EvD (tLc (iList K tl) (gName j) tt te vs) σ G (.list ((L.filter p).map e)) := fun H eg Q k =>
  hsrc H eg _ fun v G1 H1 d g1 hv hd => by
    subst hd
    obtain ⟨a, xs, rfl, h1, h2⟩ := hv.list_inv
    refine ⟨a, rfl, ⟨xs, .inl (.inl (g1.gh _ _ h1))⟩, fun Dl hD => ?_⟩
    have hlen : xs.length = L.length := by rw [h2.length, List.length_map]
    refine lc_list (xs := xs) (Cd G1 H1 Dl L p e) (cd_start g1.gh hD) (fun i H' _ c => ?_) (fun i x H' hi c => ⟨hw x, ?_⟩) fun H' c => ?_
    · obtain ⟨G', _, g, _⟩ := c
      exact .inl (.inl (g.gh _ _ (g.gg _ _ h1)))
    · obtain ⟨d', hd', hx⟩ := h2.get' hi
      obtain ⟨al, hal, rfl⟩ := map_at hd'
      have hm := List.mem_of_getElem? hal
      exact cd_turn hD hL hal c fun G' g eg' => ⟨G', Ex.refl G', Go.refl eg', ht al x G' hm (g1.gg.trans g.gg) (hx.mono g.gg), fun hp => he al x G' hm hp (g1.gg.trans g.gg) (hx.mono g.gg)⟩
    · rw [hlen] at c
      exact cd_end hD c fun v G' H' d g hd hq => k v G' H' d (g1.trans g) hd hq
/-- over a tuple -/
theorem ed_lcT {α : Type} {j : Nat} (L : List α) (enc : α → PyData) (p : α → Bool) (e : α → PyData) (hL : L.length ≤ sizeLine) (hsrc : EvD tl σ G (.tuple (L.map enc))) (hw : ∀ x, wipe ((wipe σ vs).set j (some x)) vs = wipe σ vs)
    (ht : ∀ a v G', a ∈ L → Ex G G' → Da G' v (enc a) → EvT tt ((wipe σ vs).set j (some v)) G' (p a))
    (he : ∀ a v G', a ∈ L → p a = true → Ex G G' → Da G' v (enc a) → EvD te ((wipe σ vs).set j (some v)) G' (e a)) :
    EvD (tLc (iTup K tl) (gName j) tt te vs) σ G (.list ((L.filter p).map e)) := fun H eg Q k =>
  hsrc H eg _ fun v G1 H1 d g1 hv hd => by
    subst hd
    obtain ⟨a, xs, rfl, h1, h2⟩ := hv.tuple_inv
    refine ⟨a, rfl, ⟨xs, .inl (.inl (g1.gh _ _ h1))⟩, fun Dl hD => ?_⟩
    have hlen : xs.length = L.length := by rw [h2.length, List.length_map]
    refine lc_tup (xs := xs) (Cd G1 H1 Dl L p e) (cd_start g1.gh hD) (fun i H' _ c => ?_) (fun i x H' hi c => ⟨hw x, ?_⟩) fun H' c => ?_
    · obtain ⟨G', _, g, _⟩ := c
      exact .inl (.inl (g.gh _ _ (g.gg _ _ h1)))
    · obtain ⟨d', hd', hx⟩ := h2.get' hi
      obtain ⟨al, hal, rfl⟩ := map_at hd'
      have hm := List.mem_of_getElem? hal
      exact cd_turn hD hL hal c fun G' g eg' => ⟨G', Ex.refl G', Go.refl eg', ht al x G' hm (g1.gg.trans g.gg) (hx.mono g.gg), fun hp => he al x G' hm hp (g1.gg.trans g.gg) (hx.mono g.gg)⟩
    · rw [hlen] at c
      exact cd_end hD c fun v G' H' d g hd hq => k v G' H' d (g1.trans g) hd hq
/-- over range(n) -/
theorem ed_lcR {j : Nat} {ta : TA} (n : Nat) (p : Nat → Bool) (e : Nat → PyData) (hL : n ≤ sizeLine) (hsrc : EvDs ta σ G [.int (n : Nat)]) (hw : ∀ x, wipe ((wipe σ vs).set j (some x)) vs = wipe σ vs)
    (ht : ∀ a G', a < n → Ex G G' → EvT tt ((wipe σ vs).set j (some (.int (a : Nat)))) G' (p a))
    (he : ∀ a G', a < n → p a = true → Ex G G' → EvD te ((wipe σ vs).set j (some (.int (a : Nat)))) G' (e a)) :
    EvD (tLc (iRng1 ta) (gName j) tt te vs) σ G (.list (((List.range n).filter p).map e)) := fun H eg Q k =>
  hsrc H eg _ fun ws G1 H1 d g1 hvs hd => by
    subst hd
    obtain ⟨v, rfl, hv⟩ := args1 hvs
    have hs : sizeLine = 16777216 := sizeLine_eq
    refine ⟨(n : Nat), by rw [hv.int_inv], by omega, by omega, fun Dl hD => ?_⟩
    refine lc_range (lo := 0) (n := ((n : Nat) : Int).toNat) (Cd G1 H1 Dl (List.range n) p e) (cd_start g1.gh hD) (fun i H' hi c => ⟨hw _, ?_⟩) fun H' c => ?_
    · have hi' : i < n := by omega
      have e0 : (0 : Int) + (i : Int) = (i : Int) := Int.zero_add _
      rw [e0]
      have hal : (List.range n)[i]? = some i := by rw [List.getElem?_range hi']
      exact cd_turn hD (by rw [List.length_range]; exact hL) hal c fun G' g eg' => ⟨G', Ex.refl G', Go.refl eg', ht i G' hi' (g1.gg.trans g.gg), fun hp => he i G' hi' hp (g1.gg.trans g.gg)⟩
    · have hn : ((n : Nat) : Int).toNat = (List.range n).length := by rw [List.length_range]; omega
      rw [hn] at c
      exact cd_end hD c fun v G' H' d g hd hq => k v G' H' d (g1.trans g) hd hq
/-- over zip of two tuples, both names -/
theorem ed_lcZ {α : Type} {j1 j2 : Nat} {ta : TA} (L : List α) (enc1 enc2 : α → PyData) (p : α → Bool) (e : α → PyData) (hL : L.length ≤ sizeLine) (hsrc : EvDs ta σ G [.tuple (L.map enc1), .tuple (L.map enc2)])
    (hw : ∀ x y, wipe (((wipe σ vs).set j1 (some x)).set j2 (some y)) vs = wipe σ vs)
    (ht : ∀ a v w G', a ∈ L → Ex G G' → Da G' v (enc1 a) → Da G' w (enc2 a) → EvT tt (((wipe σ vs).set j1 (some v)).set j2 (some w)) G' (p a))
    (he : ∀ a v w G', a ∈ L → p a = true → Ex G G' → Da G' v (enc1 a) → Da G' w (enc2 a) → EvD te (((wipe σ vs).set j1 (some v)).set j2 (some w)) G' (e a)) :
    EvD (tLc (RZ.iZipA K ta) (gTup K 2 (gCons (gName j1) (gCons (gName j2) gNil))) tt te vs) σ G (.list ((L.filter p).map e)) := fun H eg Q k =>
  hsrc H eg _ fun ws G1 H1 d g1 hvs hd => by
    subst hd
    obtain ⟨v, w, rfl, hv, hw'⟩ := args2 hvs
    obtain ⟨a, xs, rfl, h1, h2⟩ := hv.tuple_inv
    obtain ⟨b, ys, rfl, h3, h4⟩ := hw'.tuple_inv
    have hlx : xs.length = L.length := by rw [h2.length, List.length_map]
    have hly : ys.length = L.length := by rw [h4.length, List.length_map]
    refine ⟨a, b, xs, ys, rfl, .inr ⟨.inl (.inl (g1.gh _ _ h1)), .inl (.inl (g1.gh _ _ h3)), fun Dl hD => ?_⟩⟩
    have Wk : Walk (RZ.ItzT K a b) L.length (fun H => SqT K H a xs ∧ SqT K H b ys) (YPair (fun i => xs[i]?) (fun i => ys[i]?)) := by
      refine ⟨fun i H' hi q => ?_, fun H' q => ⟨xs, ys, q.1, q.2, .inl (by omega)⟩, fun i H' v H2 _ q y => ?_⟩
      · exact ⟨xs, ys, xs[i]'(by omega), ys[i]'(by omega), q.1, q.2, List.getElem?_eq_getElem (by omega), List.getElem?_eq_getElem (by omega)⟩
      · obtain ⟨T, x, z, y1, y2, y3, y4, y5⟩ := y
        exact ⟨T, x, z, y1, y2, y3, y4 xs q.1, y5 ys q.2⟩
    refine lc_it Wk (Cd G1 H1 Dl L p e) (cd_start g1.gh hD) (fun i H' _ c => ?_) (fun i x H' H2 hi c y => ?_) fun H' c => ?_
    · obtain ⟨G', _, g, _⟩ := c
      exact ⟨.inl (.inl (g.gh _ _ (g.gg _ _ h1))), .inl (.inl (g.gh _ _ (g.gg _ _ h3)))⟩
    · obtain ⟨T, x1, x2, rfl, hT, rfl, f1, f2⟩ := y
      obtain ⟨d1, hd1, hx1⟩ := h2.get' f1
      obtain ⟨d2, hd2, hx2⟩ := h4.get' f2
      obtain ⟨al, hal, rfl⟩ := map_at hd1
      obtain ⟨al', hal', rfl⟩ := map_at hd2
      have eal : al' = al := by rw [hal] at hal'; exact (Option.some.inj hal').symm
      subst eal
      have hm := List.mem_of_getElem? hal
      refine ⟨T, [x1, x2], rfl, .inl (.inl upd_same), rfl, x1, [x2], rfl, x2, [], rfl, rfl, hw x1 x2, ?_⟩
      exact cd_turn hD hL hal c fun G' g eg' => ⟨G', Ex.refl G', Go.priv eg' hT, ht _ _ _ G' hm (g1.gg.trans g.gg) (hx1.mono g.gg) (hx2.mono g.gg), fun hp => he _ _ _ G' hm hp (g1.gg.trans g.gg) (hx1.mono g.gg) (hx2.mono g.gg)⟩
    · exact cd_end hD c fun v G' H' d g hd hq => k v G' H' d (g1.trans g) hd hq
end

/-! ### for loops -/
section
variable {K : PySem.W.Frag} {σ : L2.St} {G H : Hp} {tl te : TE} {g : TG} {tu : TS} {D : Ends}
theorem r_forL {α : Type} (L : List α) (enc : α → PyData) (hsrc : EvD tl σ G (.list (L.map enc))) (eg : Ex G H)
    (k : ∀ G1 H1, Go G H G1 H1 → ∃ Pv : Nat → L2.St → Hp → Prop, Pv 0 σ H1 ∧ (∀ i σ' H', Pv i σ' H' → Ex G1 H') ∧
      (∀ i a v σ' H', L[i]? = some a → Da G1 v (enc a) → Pv i σ' H' → g v σ' H' fun σ2 H2 => tu { D with nx := Pv (i + 1), ct := Pv (i + 1), bk := D.nx } σ2 H2) ∧ ∀ σ' H', Pv L.length σ' H' → D.nx σ' H') : tFor (iList K tl) g tu D σ H :=
  hsrc H eg _ fun v G1 H1 d g1 hv hd => by
    subst hd
    obtain ⟨a, xs, rfl, h1, h2⟩ := hv.list_inv
    have hlen : xs.length = L.length := by rw [h2.length, List.length_map]
    obtain ⟨Pv, p0, pe, ps, pd⟩ := k G1 H1 g1
    refine ⟨a, rfl, ⟨xs, .inl (.inl (g1.gh _ _ h1))⟩, for_list (xs := xs) Pv p0 (fun i σ' H' _ p => .inl (.inl (pe i σ' H' p _ _ h1))) (fun i x σ' H' hi p => ?_) fun σ' H' p => pd σ' H' (hlen ▸ p)⟩
    obtain ⟨d', hd', hx⟩ := h2.get' hi
    obtain ⟨al, hal, rfl⟩ := map_at hd'
    exact ps i al x σ' H' hal hx p
theorem r_forT {α : Type} (L : List α) (enc : α → PyData) (hsrc : EvD tl σ G (.tuple (L.map enc))) (eg : Ex G H)
    (k : ∀ G1 H1, Go G H G1 H1 → ∃ Pv : Nat → L2.St → Hp → Prop, Pv 0 σ H1 ∧ (∀ i σ' H', Pv i σ' H' → Ex G1 H') ∧
      (∀ i a v σ' H', L[i]? = some a → Da G1 v (enc a) → Pv i σ' H' → g v σ' H' fun σ2 H2 => tu { D with nx := Pv (i + 1), ct := Pv (i + 1), bk := D.nx } σ2 H2) ∧ ∀ σ' H', Pv L.length σ' H' → D.nx σ' H') : tFor (iTup K tl) g tu D σ H :=
  hsrc H eg _ fun v G1 H1 d g1 hv hd => by
    subst hd
    obtain ⟨a, xs, rfl, h1, h2⟩ := hv.tuple_inv
    have hlen : xs.length = L.length := by rw [h2.length, List.length_map]
    obtain ⟨Pv, p0, pe, ps, pd⟩ := k G1 H1 g1
    refine ⟨a, rfl, ⟨xs, .inl (.inl (g1.gh _ _ h1))⟩, for_tup (xs := xs) Pv p0 (fun i σ' H' _ p => .inl (.inl (pe i σ' H' p _ _ h1))) (fun i x σ' H' hi p => ?_) fun σ' H' p => pd σ' H' (hlen ▸ p)⟩
    obtain ⟨d', hd', hx⟩ := h2.get' hi
    obtain ⟨al, hal, rfl⟩ := map_at hd'
    exact ps i al x σ' H' hal hx p
theorem r_forR {ta : TA} (n : Nat) (hn : n ≤ sizeLine) (hsrc : EvDs ta σ G [.int (n : Nat)]) (eg : Ex G H)
    (k : ∀ G1 H1, Go G H G1 H1 → ∃ Pv : Nat → L2.St → Hp → Prop, Pv 0 σ H1 ∧
      (∀ i σ' H', i < n → Pv i σ' H' → g (.int (i : Nat)) σ' H' fun σ2 H2 => tu { D with nx := Pv (i + 1), ct := Pv (i + 1), bk := D.nx } σ2 H2) ∧ ∀ σ' H', Pv n σ' H' → D.nx σ' H') : tFor (iRng1 ta) g tu D σ H :=
  hsrc H eg _ fun ws G1 H1 d g1 hvs hd => by
    subst hd
    obtain ⟨v, rfl, hv⟩ := args1 hvs
    have hs : sizeLine = 16777216 := sizeLine_eq
    obtain ⟨Pv, p0, ps, pd⟩ := k G1 H1 g1
    refine ⟨(n : Nat), by rw [hv.int_inv], by omega, by omega, for_range (lo := 0) (n := ((n : Nat) : Int).toNat) Pv p0 (fun i σ' H' hi p => ?_) fun σ' H' p => pd σ' H' (by
      have e : ((n : Nat) : Int).toNat = n := by omega
      exact e ▸ p)⟩
    have e0 : (0 : Int) + (i : Int) = (i : Int) := Int.zero_add _
    rw [e0]
    exact ps i σ' H' (by omega) p
theorem r_forR2 {ta : TA} (lo n : Nat) (hn : n ≤ sizeLine) (hlo : lo ≤ sizeLine) (hsrc : EvDs ta σ G [.int (lo : Nat), .int (n : Nat)]) (eg : Ex G H)
    (k : ∀ G1 H1, Go G H G1 H1 → ∃ Pv : Nat → L2.St → Hp → Prop, Pv 0 σ H1 ∧
      (∀ i σ' H', lo + i < n → Pv i σ' H' → g (.int ((lo + i : Nat) : Int)) σ' H' fun σ2 H2 => tu { D with nx := Pv (i + 1), ct := Pv (i + 1), bk := D.nx } σ2 H2) ∧ ∀ σ' H', Pv (n - lo) σ' H' → D.nx σ' H') : tFor (iRng2 ta) g tu D σ H :=
  hsrc H eg _ fun ws G1 H1 d g1 hvs hd => by
    subst hd
    obtain ⟨v, w, rfl, hv, hw⟩ := args2 hvs
    have hs : sizeLine = 16777216 := sizeLine_eq
    obtain ⟨Pv, p0, ps, pd⟩ := k G1 H1 g1
    have e : ((n : Nat) : Int).toNat = n := by omega
    refine ⟨(lo : Nat), (n : Nat), by rw [hv.int_inv, hw.int_inv], ⟨by omega, by omega, by omega, by omega⟩, for_range (lo := (lo : Nat)) (n := (((n : Nat) : Int) - (lo : Nat)).toNat) Pv p0 (fun i σ' H' hi p => ?_) fun σ' H' p => pd σ' H' (by
      have e : (((n : Nat) : Int) - (lo : Nat)).toNat = n - lo := by omega
      exact e ▸ p)⟩
    have e0 : ((lo : Nat) : Int) + (i : Int) = ((lo + i : Nat) : Int) := by omega
    rw [e0]
    exact ps i σ' H' (by omega) p
end
/-- a while, by a number that falls -/
theorem r_while {σ : L2.St} {H : Hp} {t : TT} {tu : TS} {D : Ends} (W : Nat → L2.St → Hp → Prop) (m0 : Nat) (h0 : W m0 σ H)
    (hs : ∀ m σ' H', W m σ' H' → ∃ b G', Ex G' H' ∧ EvT t σ' G' b ∧ (b = true → ∀ H1, Ex H' H1 → ∃ N : L2.St → Hp → Prop, (∀ σ2 H2, N σ2 H2 → ∃ m', m' < m ∧ W m' σ2 H2) ∧ tu { D with nx := N, ct := N, bk := D.nx } σ' H1) ∧ (b = false → ∀ H1, Ex H' H1 → D.nx σ' H1)) : tWhile t tu D σ H :=
  Evl.s_while W m0 h0 fun m σ' H' w => by
    obtain ⟨b, G', eg, ht, h1, h2⟩ := hs m σ' H' w
    exact ⟨b, ht.mono eg, h1, h2⟩
end MxL
end
section
set_option Elab.async false
set_option linter.all false
set_option maxRecDepth 100000
set_option maxHeartbeats 4000000
/-! What the top has written, by names; defs that keep a promise from data to data. -/
namespace MxL
open PySem PySem.Spec PyProof.Rows L2 MxT
open Evl (Ex)
structure Tx (K : PySem.W.Frag) (mg : Str → Option Value) : Prop where
  ex : ∃ h : Heap, K.In h ∧ h.Ns mainGlobals mg
  c : He.SaysD fa fn K
section
variable {K : PySem.W.Frag} {mg : Str → Option Value}
theorem Tx.isfree (T : Tx K mg) (i : Nat) {x : Str} (h : fa[i]? = some (.free x) := by rfl) : mg x = none := let ⟨_, X, G⟩ := T.ex; He.free_ok X G (T.c.fact i h)
theorem Tx.isglo (T : Tx K mg) (i : Nat) {x : Str} (h : fa[i]? = some (.glo x) := by rfl) : mg x = some (.ref (He.ga K x)) := let ⟨_, X, G⟩ := T.ex; He.glo_ok X G (T.c.fact i h)
theorem Tx.isint (T : Tx K mg) (i : Nat) {x : Str} {n : Int} (h : fa[i]? = some (.int x n) := by rfl) : ∃ t, mg x = some (.int n t) := let ⟨_, X, G⟩ := T.ex; He.int_ok X G (T.c.fact i h)
theorem Tx.all (T : Tx K mg) : mg "all" = none := T.isfree 38
theorem Tx.any (T : Tx K mg) : mg "any" = none := T.isfree 39
theorem Tx.bool (T : Tx K mg) : mg "bool" = none := T.isfree 40
theorem Tx.enumerate (T : Tx K mg) : mg "enumerate" = none := T.isfree 41
theorem Tx.int (T : Tx K mg) : mg "int" = none := T.isfree 42
theorem Tx.isinstance (T : Tx K mg) : mg "isinstance" = none := T.isfree 43
theorem Tx.len (T : Tx K mg) : mg "len" = none := T.isfree 44
theorem Tx.list (T : Tx K mg) : mg "list" = none := T.isfree 45
theorem Tx.min (T : Tx K mg) : mg "min" = none := T.isfree 46
theorem Tx.range (T : Tx K mg) : mg "range" = none := T.isfree 47
theorem Tx.sorted (T : Tx K mg) : mg "sorted" = none := T.isfree 48
theorem Tx.str (T : Tx K mg) : mg "str" = none := T.isfree 49
theorem Tx.tuple (T : Tx K mg) : mg "tuple" = none := T.isfree 50
theorem Tx.zip (T : Tx K mg) : mg "zip" = none := T.isfree 51
theorem Tx.MOST_ROOMS (T : Tx K mg) : ∃ t, mg "MOST_ROOMS" = some (.int 8 t) := T.isint 52
theorem Tx.MOST_NUMBER (T : Tx K mg) : ∃ t, mg "MOST_NUMBER" = some (.int 60 t) := T.isint 53
theorem Tx.MOST_KEYS (T : Tx K mg) : ∃ t, mg "MOST_KEYS" = some (.int 60 t) := T.isint 54
/-- the def x stands in the text as st, in its place -/
def FnAt (K : PySem.W.Frag) (mg : Str → Option Value) (x : Str) (st : Stmt) : Prop := ∃ fd, FunD K x x (defArgs st) (defBody st) (defScope st) [] [] (He.fAd K (x, none)) fd ∧ mg x = some (.ref (He.fAd K (x, none)))
theorem Tx.fIsInteger (T : Tx K mg) : FnAt K mg "is_integer" sIsInteger := let ⟨fd, F⟩ := T.c.def_ 0 (d := dd "is_integer" sIsInteger) rfl; ⟨fd, F, T.isglo 0⟩
theorem Tx.fIsIn (T : Tx K mg) : FnAt K mg "is_in" sIsIn := let ⟨fd, F⟩ := T.c.def_ 1 (d := dd "is_in" sIsIn) rfl; ⟨fd, F, T.isglo 1⟩
theorem Tx.fIsList (T : Tx K mg) : FnAt K mg "is_list" sIsList := let ⟨fd, F⟩ := T.c.def_ 2 (d := dd "is_list" sIsList) rfl; ⟨fd, F, T.isglo 2⟩
theorem Tx.fNeedDoors (T : Tx K mg) : FnAt K mg "need_doors" sNeedDoors := let ⟨fd, F⟩ := T.c.def_ 3 (d := dd "need_doors" sNeedDoors) rfl; ⟨fd, F, T.isglo 3⟩
theorem Tx.fNeedHouse (T : Tx K mg) : FnAt K mg "need_house" sNeedHouse := let ⟨fd, F⟩ := T.c.def_ 4 (d := dd "need_house" sNeedHouse) rfl; ⟨fd, F, T.isglo 4⟩
theorem Tx.fNear (T : Tx K mg) : FnAt K mg "near" sNear := let ⟨fd, F⟩ := T.c.def_ 5 (d := dd "near" sNear) rfl; ⟨fd, F, T.isglo 5⟩
theorem Tx.fNeedNumbers (T : Tx K mg) : FnAt K mg "need_numbers" sNeedNumbers := let ⟨fd, F⟩ := T.c.def_ 6 (d := dd "need_numbers" sNeedNumbers) rfl; ⟨fd, F, T.isglo 6⟩
theorem Tx.fNeedState (T : Tx K mg) : FnAt K mg "need_state" sNeedState := let ⟨fd, F⟩ := T.c.def_ 7 (d := dd "need_state" sNeedState) rfl; ⟨fd, F, T.isglo 7⟩
theorem Tx.fNeedRow (T : Tx K mg) : FnAt K mg "need_row" sNeedRow := let ⟨fd, F⟩ := T.c.def_ 8 (d := dd "need_row" sNeedRow) rfl; ⟨fd, F, T.isglo 8⟩
theorem Tx.fFreeNumber (T : Tx K mg) : FnAt K mg "free_number" sFreeNumber := let ⟨fd, F⟩ := T.c.def_ 9 (d := dd "free_number" sFreeNumber) rfl; ⟨fd, F, T.isglo 9⟩
theorem Tx.fKeyIn (T : Tx K mg) : FnAt K mg "key_in" sKeyIn := let ⟨fd, F⟩ := T.c.def_ 10 (d := dd "key_in" sKeyIn) rfl; ⟨fd, F, T.isglo 10⟩
theorem Tx.fStoryIn (T : Tx K mg) : FnAt K mg "story_in" sStoryIn := let ⟨fd, F⟩ := T.c.def_ 11 (d := dd "story_in" sStoryIn) rfl; ⟨fd, F, T.isglo 11⟩
theorem Tx.fAfter (T : Tx K mg) : FnAt K mg "after" sAfter := let ⟨fd, F⟩ := T.c.def_ 12 (d := dd "after" sAfter) rfl; ⟨fd, F, T.isglo 12⟩
theorem Tx.fLikeIn (T : Tx K mg) : FnAt K mg "like_in" sLikeIn := let ⟨fd, F⟩ := T.c.def_ 13 (d := dd "like_in" sLikeIn) rfl; ⟨fd, F, T.isglo 13⟩
theorem Tx.fNeedParted (T : Tx K mg) : FnAt K mg "need_parted" sNeedParted := let ⟨fd, F⟩ := T.c.def_ 14 (d := dd "need_parted" sNeedParted) rfl; ⟨fd, F, T.isglo 14⟩
theorem Tx.fRestsIn (T : Tx K mg) : FnAt K mg "rests_in" sRestsIn := let ⟨fd, F⟩ := T.c.def_ 15 (d := dd "rests_in" sRestsIn) rfl; ⟨fd, F, T.isglo 15⟩
theorem Tx.fLargestIn (T : Tx K mg) : FnAt K mg "largest_in" sLargestIn := let ⟨fd, F⟩ := T.c.def_ 16 (d := dd "largest_in" sLargestIn) rfl; ⟨fd, F, T.isglo 16⟩
theorem Tx.fIsLargest (T : Tx K mg) : FnAt K mg "is_largest" sIsLargest := let ⟨fd, F⟩ := T.c.def_ 17 (d := dd "is_largest" sIsLargest) rfl; ⟨fd, F, T.isglo 17⟩
theorem Tx.fNeedRest (T : Tx K mg) : FnAt K mg "need_rest" sNeedRest := let ⟨fd, F⟩ := T.c.def_ 18 (d := dd "need_rest" sNeedRest) rfl; ⟨fd, F, T.isglo 18⟩
theorem Tx.fIsBelow (T : Tx K mg) : FnAt K mg "is_below" sIsBelow := let ⟨fd, F⟩ := T.c.def_ 19 (d := dd "is_below" sIsBelow) rfl; ⟨fd, F, T.isglo 19⟩
theorem Tx.fBelowIn (T : Tx K mg) : FnAt K mg "below_in" sBelowIn := let ⟨fd, F⟩ := T.c.def_ 20 (d := dd "below_in" sBelowIn) rfl; ⟨fd, F, T.isglo 20⟩
theorem Tx.fRestsUnder (T : Tx K mg) : FnAt K mg "rests_under" sRestsUnder := let ⟨fd, F⟩ := T.c.def_ 21 (d := dd "rests_under" sRestsUnder) rfl; ⟨fd, F, T.isglo 21⟩
theorem Tx.fRestsBelow (T : Tx K mg) : FnAt K mg "rests_below" sRestsBelow := let ⟨fd, F⟩ := T.c.def_ 22 (d := dd "rests_below" sRestsBelow) rfl; ⟨fd, F, T.isglo 22⟩
theorem Tx.fNeedBoth (T : Tx K mg) : FnAt K mg "need_both" sNeedBoth := let ⟨fd, F⟩ := T.c.def_ 23 (d := dd "need_both" sNeedBoth) rfl; ⟨fd, F, T.isglo 23⟩
theorem Tx.fFewestKeys (T : Tx K mg) : FnAt K mg "fewest_keys" sFewestKeys := let ⟨fd, F⟩ := T.c.def_ 24 (d := dd "fewest_keys" sFewestKeys) rfl; ⟨fd, F, T.isglo 24⟩
theorem Tx.fShortestRow (T : Tx K mg) : FnAt K mg "shortest_row" sShortestRow := let ⟨fd, F⟩ := T.c.def_ 25 (d := dd "shortest_row" sShortestRow) rfl; ⟨fd, F, T.isglo 25⟩
theorem Tx.fShowsRow (T : Tx K mg) : FnAt K mg "shows_row" sShowsRow := let ⟨fd, F⟩ := T.c.def_ 26 (d := dd "shows_row" sShowsRow) rfl; ⟨fd, F, T.isglo 26⟩
theorem Tx.fLawTaken (T : Tx K mg) : FnAt K mg "_law_taken" sLawTaken := let ⟨fd, F⟩ := T.c.def_ 27 (d := dd "_law_taken" sLawTaken) rfl; ⟨fd, F, T.isglo 27⟩
theorem Tx.fLawPick (T : Tx K mg) : FnAt K mg "_law_pick" sLawPick := let ⟨fd, F⟩ := T.c.def_ 28 (d := dd "_law_pick" sLawPick) rfl; ⟨fd, F, T.isglo 28⟩
theorem Tx.fLawAlike (T : Tx K mg) : FnAt K mg "_law_alike" sLawAlike := let ⟨fd, F⟩ := T.c.def_ 29 (d := dd "_law_alike" sLawAlike) rfl; ⟨fd, F, T.isglo 29⟩
theorem Tx.fLawHouse (T : Tx K mg) : FnAt K mg "_law_house" sLawHouse := let ⟨fd, F⟩ := T.c.def_ 30 (d := dd "_law_house" sLawHouse) rfl; ⟨fd, F, T.isglo 30⟩
theorem Tx.fLawNear (T : Tx K mg) : FnAt K mg "_law_near" sLawNear := let ⟨fd, F⟩ := T.c.def_ 31 (d := dd "_law_near" sLawNear) rfl; ⟨fd, F, T.isglo 31⟩
theorem Tx.fLawFree (T : Tx K mg) : FnAt K mg "_law_free" sLawFree := let ⟨fd, F⟩ := T.c.def_ 32 (d := dd "_law_free" sLawFree) rfl; ⟨fd, F, T.isglo 32⟩
theorem Tx.fLawKey (T : Tx K mg) : FnAt K mg "_law_key" sLawKey := let ⟨fd, F⟩ := T.c.def_ 33 (d := dd "_law_key" sLawKey) rfl; ⟨fd, F, T.isglo 33⟩
theorem Tx.fLawDone (T : Tx K mg) : FnAt K mg "_law_done" sLawDone := let ⟨fd, F⟩ := T.c.def_ 34 (d := dd "_law_done" sLawDone) rfl; ⟨fd, F, T.isglo 34⟩
theorem Tx.fLawParted (T : Tx K mg) : FnAt K mg "_law_parted" sLawParted := let ⟨fd, F⟩ := T.c.def_ 35 (d := dd "_law_parted" sLawParted) rfl; ⟨fd, F, T.isglo 35⟩
theorem Tx.fLawSearch (T : Tx K mg) : FnAt K mg "_law_search" sLawSearch := let ⟨fd, F⟩ := T.c.def_ 36 (d := dd "_law_search" sLawSearch) rfl; ⟨fd, F, T.isglo 36⟩
theorem Tx.fLaw (T : Tx K mg) : FnAt K mg "law" sLaw := let ⟨fd, F⟩ := T.c.def_ 37 (d := dd "law" sLaw) rfl; ⟨fd, F, T.isglo 37⟩
end
/-- x keeps the promise sp -/
structure Has (P : Program) (w : World) (K : PySem.W.Frag) (mg : Str → Option Value) (base : Heap) (k : Nat) (x : Str) (ps : List Str) (sp : Sp) : Prop where
  ex : ∃ f fd, FnOk P w K mg base CX0 k f fd ps sp ∧ Binds K fd ps [] ∧ mg x = some (.ref f) ∧ PySem.W.keepIn K (.ref f) = true
section
variable {P : Program} {w : World} {K : PySem.W.Frag} {mg : Str → Option Value} {base : Heap}
theorem Has.mono {j k : Nat} {x : Str} {ps : List Str} {sp : Sp} (h : Has P w K mg base j x ps sp) (l : j ≤ k) : Has P w K mg base k x ps sp := let ⟨f, fd, a, b⟩ := h.ex; ⟨f, fd, a.mono l, b⟩
/-- a def with any promise -/
theorem has_sp {x : Str} {st : Stmt} {N ps : List Str} {k : Nat} {sp : Sp} (F : FnAt K mg x st) (S : FnScope N ps (defScope st)) (hlen : ∀ vs H Q E, sp vs H Q E → vs.length = ps.length)
    (bd : ∀ (kV doc pm : Value) (an : Option Addr) (cdv ct : Value) (us : List Value), us.length = ps.length → bindArgs (PySem.W.fnOf x x (defArgs st) (defBody st) (defScope st) .none kV doc pm an cdv ct) ⟨us, []⟩ = pure (ps.zip us))
    (hb : ∀ (f : Addr) (cdv : Value) (A : Around) (outer : List Env) (s : Shared) (H : Hp) (vs : List V) (Q : VK) (E : XK), Room k (A.deeper (envOfC x (defScope st) s.heap.objs.size f cdv)) → sp vs H Q E →
      ∃ t, PSs (cxOf CX0 P w K mg base N x (defScope st) f cdv A outer s H E).nox (defBody st) t ∧ t { nx := fun _ H' => Q .non H', rt := Q } (start N vs) H) : Has P w K mg base (k + 1) x ps sp := by
  obtain ⟨fd, F, g⟩ := F
  refine ⟨_, fd, F.ok (CX := CX0) S hlen fun cdv A outer s H vs Q E hr h => ?_, F.bindsN bd, g, F.kp⟩
  obtain ⟨t, h1, h2⟩ := hb _ cdv A outer s H vs Q E hr h
  exact ⟨t, h1.nox, h2⟩
/-- a def from data to data -/
theorem has_ok {x : Str} {st : Stmt} {N ps : List Str} {k : Nat} {Pre : List PyData → Prop} {Post : List PyData → PyData → Prop} (F : FnAt K mg x st) (S : FnScope N ps (defScope st)) (hlen : ∀ ds, Pre ds → ds.length = ps.length)
    (bd : ∀ (kV doc pm : Value) (an : Option Addr) (cdv ct : Value) (us : List Value), us.length = ps.length → bindArgs (PySem.W.fnOf x x (defArgs st) (defBody st) (defScope st) .none kV doc pm an cdv ct) ⟨us, []⟩ = pure (ps.zip us))
    (hb : ∀ (f : Addr) (cdv : Value) (A : Around) (outer : List Env) (s : Shared) (G H : Hp) (vs : List V) (ds : List PyData) (Q : VK) (E : XK), Room k (A.deeper (envOfC x (defScope st) s.heap.objs.size f cdv)) → Ex G H → DaAll G vs ds → Pre ds →
      (∀ v G' H' d, Go G H G' H' → Da G' v d → Post ds d → Q v H') →
      ∃ t, PSs (cxOf CX0 P w K mg base N x (defScope st) f cdv A outer s H E).nox (defBody st) t ∧ t { nx := fun _ H' => Q .non H', rt := Q } (start N vs) H) : Has P w K mg base (k + 1) x ps (spD Pre Post) :=
  has_sp F S (fun vs H Q E ⟨G, ds, _, h, p, _⟩ => h.length.trans (hlen ds p)) bd fun f cdv A outer s H vs Q E hr ⟨G, ds, eg, h, p, q⟩ => hb f cdv A outer s G H vs ds Q E hr eg h p q
end
section
variable {X : Cx} {k : Nat} {x : Str} {ps : List Str} {sp : Sp} {p pos : Pos} {e : Expr} {es : List Expr} {t : TA}
theorem pe_callH (F : Has X.prog X.w X.K X.mg X.base k x ps sp) (hr : Room k X.A) (ha : PA X (e :: es) t) (hg : Gl X x := by rfl) (hdb : (x == ("__debug__" : Str)) = false := by decide)
    (he : starEach (e :: es) X.env = (false, eval e X.env) :: starEach es X.env := by rfl) (hpl : (backTo pos (starEach es X.env)).any (·.1) = false := by rfl) : PE X (.Call (.Name x p) (e :: es) [] pos) (tCall sp [] E0 t) := by
  obtain ⟨f, fd, F, b, g, kp⟩ := F.ex
  exact pe_call F hr hg g kp b .nil pass0 ha hdb he hpl
theorem pe_const {n : Int} (hg : Gl X x) (h : ∃ t, X.mg x = some (.int n t)) (hdb : (x == ("__debug__" : Str)) = false := by decide) : PE X (.Name x pos) (tC (.int n)) := by
  obtain ⟨t, h⟩ := h
  exact pe_glob hg h ⟨t, rfl⟩ hdb
end
theorem _root_.L2.Room.unitsD {k : Nat} {A : Around} (r : Room k A) : A.units + 65 < cLine := by have := r.un; omega
end MxL
end
section
set_option Elab.async false
set_option linter.all false
set_option maxRecDepth 100000
set_option maxHeartbeats 4000000
namespace MxL
open PySem PySem.Spec PyProof.Rows L2
open Evl (Ex)

/-! ### built-ins by name -/
theorem bb_all : bootBuiltins "all" = some (.builtin "all") := by decide +kernel
theorem bb_any : bootBuiltins "any" = some (.builtin "any") := by decide +kernel
theorem bb_bool : bootBuiltins "bool" = some (.type "bool") := by decide +kernel
theorem bb_int : bootBuiltins "int" = some (.type "int") := by decide +kernel
theorem bb_isinstance : bootBuiltins "isinstance" = some (.builtin "isinstance") := by decide +kernel
theorem bb_len : bootBuiltins "len" = some (.builtin "len") := by decide +kernel
theorem bb_list : bootBuiltins "list" = some (.type "list") := by decide +kernel
theorem bb_min : bootBuiltins "min" = some (.builtin "min") := by decide +kernel
theorem bb_sorted : bootBuiltins "sorted" = some (.builtin "sorted") := by decide +kernel
theorem bb_str : bootBuiltins "str" = some (.type "str") := by decide +kernel
theorem bb_tuple : bootBuiltins "tuple" = some (.type "tuple") := by decide +kernel
section
variable {K : PySem.W.Frag} {σ : L2.St} {G H : Hp} {ta tb tc te : TE} {d e : PyData} {ds es : List PyData} {D : Ends}
/-! ### isinstance -/
def tyName : PyData → String
  | .none => "NoneType"
  | .bool _ => "bool"
  | .int _ => "int"
  | .str _ => "str"
  | .list _ => "list"
  | .tuple _ => "tuple"
  | .dict _ => "dict"
theorem Da.tyX {v : V} (h : Da G v d) (eg : Ex G H) : TyX K H v (.type (tyName d)) := by
  cases h with
  | non => exact .base .non
  | bl b => exact .base (.bl b)
  | int i => exact .base (.int i)
  | str x => exact .base (.str x)
  | lst h r => exact .base (.lst (eg _ _ h))
  | tup h r => exact .base (.tup (eg _ _ h))
  | dct h => exact .base (.dK (eg _ _ h))
theorem ed_isi {n : String} {b : Bool} (hk : kitB (tyName d) n = some b) (h : EvD te σ G d) : EvD (tCB (rIsi K) (tCons te (tCons (tC (.ty n)) tNil))) σ G (.bool b) := fun H eg Q k =>
  h H eg _ fun v G1 H1 d1 g1 hv hd => by
    subst hd
    exact ⟨v, .ty n, .type (tyName d1), .type n, b, rfl, .ty n, hv.tyX g1.gh, kit_ty hk, k _ G1 H1 _ g1 (.bl b) rfl⟩
theorem ed_isi2 {n m : String} {a b : Bool} (hk : kitB (tyName d) n = some a) (hk2 : kitB (tyName d) m = some b) (h : EvD te σ G d) :
    EvD (tCB (rIsiT K) (tCons te (tCons (tTup (tCons (tC (.ty n)) (tCons (tC (.ty m)) tNil))) tNil))) σ G (.bool (a || b)) := fun H eg Q k =>
  h H eg _ fun v G1 H1 d1 g1 hv hd => by
    subst hd
    refine ⟨by show 2 ≤ sizeLine; rw [sizeLine_eq]; decide, fun p hp => ?_⟩
    refine ⟨v, p, [.ty n, .ty m], .type (tyName d1), [.type n, .type m], a || b, rfl, upd_same, .cons (.ty n) (.cons (.ty m) .nil), hv.tyX (g1.gh.trans (Ex.new hp)), ?_, k _ G1 _ _ (g1.ext (Ex.new hp)) (.bl _) rfl⟩
    refine kitAny_cons (kit_ty hk) (fun ha => ?_) (fun ha => by rw [ha]; rfl)
    subst ha
    exact kitAny_cons (kit_ty hk2) (fun hb => by subst hb; rfl) (fun hb => by rw [hb]; rfl)
/-! ### tuples -/
theorem ed_catT (hl : ds.length + es.length ≤ sizeLine) (ha : EvD ta σ G (.tuple ds)) (hb : EvD tb σ G (.tuple es)) : EvD (tOp (rCatA K) ta tb) σ G (.tuple (ds ++ es)) :=
  er_op ha hb fun x y G1 H _ eg hx hy Q k => by
    obtain ⟨a, xs, rfl, h1, h2⟩ := hx.tuple_inv
    obtain ⟨b, ys, rfl, h3, h4⟩ := hy.tuple_inv
    refine ⟨a, b, xs, ys, rfl, rfl, .inl (.inl (eg _ _ h1)), .inl (.inl (eg _ _ h3)), by rw [h2.length, h4.length]; exact hl, fun hx => ?_, fun _ hy => ?_, fun _ _ p hp => ?_⟩
    · subst hx
      cases h2
      exact k _ G1 H _ (Go.refl eg) (.tup h3 h4) rfl
    · subst hy
      cases h4
      exact k _ G1 H _ (Go.refl eg) (.tup h1 h2) (by rw [List.append_nil])
    · exact k _ (upd G1 p (.tup (xs ++ ys))) _ _ (Go.new eg hp) (.tup upd_same ((h2.append h4).mono (Ex.new (nb_back eg hp)))) rfl
theorem cut_to (xs : List V) (k : Nat) : cutV xs none (some (k : Int)) = xs.take k := by
  unfold cutV
  rw [HT.sIx_nat, HT.sIx_none, List.drop_zero, Nat.sub_zero]
  rw [Nat.min_comm]
  exact (List.take_eq_take_iff.mpr (by omega))
theorem cut_from (xs : List V) (k : Nat) : cutV xs (some (k : Int)) none = xs.drop k := by
  unfold cutV
  rw [HT.sIx_nat, HT.sIx_none]
  by_cases h : k ≤ xs.length
  · rw [Nat.min_eq_left h, List.take_of_length_le]
    rw [List.length_drop]; exact Nat.le_refl _
  · rw [List.drop_eq_nil_of_le (as := xs) (i := k) (by omega), Nat.min_eq_right (by omega), List.drop_eq_nil_of_le (Nat.le_refl _), List.take_nil]
theorem ed_slTo {k : Nat} (ha : EvD ta σ G (.tuple ds)) (hk : EvD tb σ G (.int (k : Nat))) : EvD (L2.tSl (rSlA K) ta tNoPart (tPart tb)) σ G (.tuple (ds.take k)) := fun H eg Q q =>
  ha H eg _ fun v G1 H1 d1 g1 hv hd => by
    subst hd
    refine (ev_int (hk.mono g1.gg)) H1 g1.gh _ fun H2 e2 => ⟨_, rfl, ?_⟩
    obtain ⟨a, xs, rfl, h1, h2⟩ := hv.tuple_inv
    have eg2 := g1.gh.trans e2
    refine ⟨a, xs, rfl, .inl (.inl (eg2 _ _ h1)), fun hw => ?_, fun _ p hp => ?_⟩
    · refine q _ G1 H2 _ (g1.ext e2) (.tup h1 h2) ?_
      obtain ⟨_, hw⟩ := hw
      rw [HT.sIx_nat] at hw
      rw [List.take_of_length_le (by have := h2.length; omega)]
    · rw [cut_to]
      exact q _ (upd G1 p (.tup (xs.take k))) _ _ ((g1.ext e2).trans (Go.new eg2 hp)) (.tup upd_same ((h2.take k).mono (Ex.new (nb_back eg2 hp)))) rfl
theorem ed_slFrom {k : Nat} (ha : EvD ta σ G (.tuple ds)) (hk : EvD tb σ G (.int (k : Nat))) : EvD (L2.tSl (rSlA K) ta (tPart tb) tNoPart) σ G (.tuple (ds.drop k)) := fun H eg Q q =>
  ha H eg _ fun v G1 H1 d1 g1 hv hd => by
    subst hd
    refine (ev_int (hk.mono g1.gg)) H1 g1.gh _ fun H2 e2 => ⟨_, rfl, ?_⟩
    obtain ⟨a, xs, rfl, h1, h2⟩ := hv.tuple_inv
    have eg2 := g1.gh.trans e2
    refine ⟨a, xs, rfl, .inl (.inl (eg2 _ _ h1)), fun hw => ?_, fun _ p hp => ?_⟩
    · refine q _ G1 H2 _ (g1.ext e2) (.tup h1 h2) ?_
      obtain ⟨hw, _⟩ := hw
      rw [HT.sIx_nat] at hw
      by_cases hk0 : k = 0
      · subst hk0; rfl
      · have : xs.length = 0 := by omega
        have e0 : ds = [] := List.length_eq_zero_iff.mp (by rw [← h2.length]; exact this)
        rw [e0]; simp
    · rw [cut_from]
      exact q _ (upd G1 p (.tup (xs.drop k))) _ _ ((g1.ext e2).trans (Go.new eg2 hp)) (.tup upd_same ((h2.drop k).mono (Ex.new (nb_back eg2 hp)))) rfl
theorem es_star {tr : TA} (h : EvD te σ G (.tuple es)) (hr : EvDs tr σ G ds) : EvDs (StX.tStar K te tr) σ G (es ++ ds) := fun H eg Q k =>
  h H eg _ fun v G1 H1 d1 g1 hv e1 => by
    subst e1
    obtain ⟨a, xs, rfl, h1, h2⟩ := hv.tuple_inv
    refine ⟨a, xs, rfl, .inl (.inl (.inl (g1.gh _ _ h1))), (hr.mono g1.gg) H1 g1.gh _ fun vs G2 H2 d2 g2 hvs e2 => ?_⟩
    subst e2
    exact k _ G2 H2 _ (g1.trans g2) ((h2.mono g2.gg).append hvs) rfl
theorem rgV_nat (n : Nat) : rgV 0 (n : Nat) = ((List.range n).map fun i => V.int (i : Nat)) := by
  unfold rgV
  simp
theorem DaAll.range (G : Hp) : ∀ (l : List Nat), DaAll G (l.map fun i => V.int (i : Nat)) (l.map fun i => .int (i : Nat))
  | [] => .nil
  | n :: ns => .cons (.int _) (DaAll.range G ns)
theorem ed_tupRg {n : Nat} (hn : n ≤ sizeLine) (h : EvD te σ G (.int (n : Nat))) : EvD (tTupRg (tRg1 te)) σ G (.tuple ((List.range n).map fun i => .int (i : Nat))) := fun H eg Q k =>
  ev_int h H eg _ fun H1 e1 => by
    have hs : sizeLine = 16777216 := sizeLine_eq
    refine ⟨_, rfl, ⟨by omega, by omega, by omega, by omega, by omega⟩, fun p hp => ?_⟩
    rw [rgV_nat]
    have eg1 := eg.trans e1
    exact k _ (upd G p _) _ _ ((Go.refl eg).ext e1 |>.trans (Go.new eg1 hp)) (.tup upd_same (DaAll.range _ _)) rfl
/-! ### numbers -/
theorem ed_int1 {i : Int} (h : EvD te σ G (.int i)) : EvD (tCB (fun xs H Q => (∃ i, xs = [V.int i] ∧ Q (.int i) H) ∨ ∃ k, xs = [V.bl k] ∧ Q (.int (if k then 1 else 0)) H) (tCons te tNil)) σ G (.int i) :=
  er_cb (es_cons h es_nil) fun vs G1 H _ eg hvs Q k => by
    obtain ⟨v, rfl, hv⟩ := args1 hvs
    exact .inl ⟨i, by rw [hv.int_inv], k _ G1 H _ (Go.refl eg) (.int i) rfl⟩
theorem ed_str {i : Int} (hi : i.natAbs.log2 < 1920) (h : EvD te σ G (.int i)) : EvD (tCB (fun xs H Q => ∃ i, xs = [V.int i] ∧ i.natAbs.log2 < 1920 ∧ Q (.str (toString i)) H) (tCons te tNil)) σ G (.str (toString i)) :=
  er_cb (es_cons h es_nil) fun vs G1 H _ eg hvs Q k => by
    obtain ⟨v, rfl, hv⟩ := args1 hvs
    exact ⟨i, by rw [hv.int_inv], hi, k _ G1 H _ (Go.refl eg) (.str _) rfl⟩
/-! ### lists that grow -/
theorem r_app {i : Nat} {p : Addr} {acc : List V} {Φ : PyData → Prop} (hs : σ[i]? = some (some (.ref p))) (hp : H p = some (.lst acc)) (hn : G p = none) (hz : acc.length < sizeLine) (h : EvR te σ G Φ) (eg : Ex G H)
    (k : ∀ v G' H' d, Go G H G' H' → G' p = none → H' p = some (.lst acc) → Da G' v d → Φ d → D.nx σ (upd H' p (.lst (acc ++ [v])))) : tDrop (tBM K "list" rAppend (tVar i) (tCons te tNil)) D σ H :=
  ⟨.ref p, hs, .inl ⟨rfl, acc, .inl (.inl hp)⟩, h H eg _ fun v G' H' d g hv hd =>
    ⟨p, acc, v, rfl, rfl, g.hh _ _ hp, hz, k v G' H' d g (g.keepN hn hp) (g.hh _ _ hp) hv hd⟩⟩
theorem r_ext {i : Nat} {p : Addr} {acc : List V} (hs : σ[i]? = some (some (.ref p))) (hp : H p = some (.lst acc)) (hn : G p = none) (hz : acc.length + ds.length ≤ sizeLine) (h : EvD te σ G (.list ds)) (eg : Ex G H)
    (k : ∀ zs G' H', Go G H G' H' → G' p = none → H' p = some (.lst acc) → DaAll G' zs ds → D.nx σ (upd H' p (.lst (acc ++ zs)))) : tDrop (tBM K "list" rExtend (tVar i) (tCons te tNil)) D σ H :=
  ⟨.ref p, hs, .inl ⟨rfl, acc, .inl (.inl hp)⟩, h H eg _ fun v G' H' d g hv hd => by
    subst hd
    obtain ⟨a, zs, rfl, h1, h2⟩ := hv.list_inv
    exact ⟨p, a, acc, zs, rfl, rfl, g.hh _ _ hp, g.gh _ _ h1, by rw [h2.length]; exact hz, k zs G' H' g (g.keepN hn hp) (g.hh _ _ hp) h2⟩⟩
/-- xs[j] = e, both by slots -/
theorem r_setL {i : Nat} {j : Nat} {p : Addr} {acc : List V} {Φ : PyData → Prop} (hs : σ[i]? = some (some (.ref p))) (hp : H p = some (.lst acc)) (hn : G p = none) (hj : j < acc.length) (h : EvR te σ G Φ) (hi : EvD tb σ G (.int (j : Nat))) (eg : Ex G H)
    (k : ∀ v G' H' d, Go G H G' H' → G' p = none → H' p = some (.lst acc) → Da G' v d → Φ d → D.nx σ (upd H' p (.lst (acc.set j v)))) : tAsg te (gSub (tVar i) tb rSetL) D σ H :=
  h H eg _ fun v G' H' d g hv hd => ⟨.ref p, hs, (ev_int (hi.mono g.gg)) H' g.gh _ fun H2 e2 => by
    have g2 := g.ext e2
    exact ⟨p, acc, _, j, rfl, rfl, g2.hh _ _ hp, Evl.ixN_nat hj, k v G' H2 d g2 (g.keepN hn hp) (g2.hh _ _ hp) hv hd⟩⟩
/-- an item of a list of one's own -/
theorem ed_ixO {i : Nat} {j : Int} {p : Addr} {acc : List V} {v : V} (hs : σ[i]? = some (some (.ref p))) (hp : G p = some (.lst acc)) (hj : atI acc j = some v) (hv : Da G v d) (hi : EvD tb σ G (.int j)) : EvD (tOp (rIxL K) (tVar i) tb) σ G d := fun H eg Q k =>
  ⟨.ref p, hs, ev_int hi H eg _ fun H1 e1 => ⟨p, acc, j, v, rfl, rfl, .inl (.inl ((eg.trans e1) _ _ hp)), hj, k v G H1 d ((Go.refl eg).ext e1) hv rfl⟩⟩
theorem r_par {i j : Nat} {ta : TA} (h : EvDs ta σ G [d, e]) (eg : Ex G H) (k : ∀ v w G' H', Go G H G' H' → Da G' v d → Da G' w e → D.nx ((σ.set i (some v)).set j (some w)) H') : tPar i j ta D σ H := h H eg _ fun vs G' H' es g hv hd => by
  subst hd
  obtain ⟨v, w, rfl, h1, h2⟩ := args2 hv
  exact ⟨v, w, rfl, k v w G' H' g h1 h2⟩
end
end MxL
end
section
set_option Elab.async false
set_option linter.all false
set_option maxRecDepth 100000
set_option maxHeartbeats 4000000
/-! enumerate over a tuple: in a for, in a comprehension. -/
namespace PySem
open Sem (wp)
open AutoSeq1 (wpAny_loadPart')
theorem meets_enumerate_newT (l : Addr) (items : Array Value) (n : Nat) (dct : Option Addr) (sl : Array (Option Value)) :
    Meets (Builtin.«enumerate.__new__» ⟨[.type "enumerate", .ref l], []⟩) (fun _ R s => s.heap.get? l = some { cls := .type "tuple", dict := dct, data := .seq items n, slots := sl } ∧
      R (.ok (.ret (.ref (s.heap.push { cls := .type "tuple_iterator", data := .fields #[.ref l, .int 0 0] }).objs.size)))
        { s with heap := (s.heap.push { cls := .type "tuple_iterator", data := .fields #[.ref l, .int 0 0] }).push { cls := .type "enumerate", data := .fields #[.none, .bool false, .ref s.heap.objs.size, rawInt 0, .none, .none] } }) :=
  .of_wp fun prog w A R s h => by
    obtain ⟨hp, g, d, tk, os⟩ := s; obtain ⟨hl, h⟩ := h
    have hsub := sub_enumerate
    have hL : Heap.IsTuple (Shared.heap ⟨hp, g, d, tk, os⟩) l items := ⟨_, hl, rfl, n, rfl⟩
    wp_walk using wpAny_loadPart' hl
    refine wpAny_stack_any fun st => wpAny_pure ?_
    split
    · rename_i c _ _ _ _ _
      cases (c == Value.type "enumerate")
      · wp_walk using wpAny_loadPart' hl, wpAny_pyIter_tuple hL
        exact ⟨_, rfl, h⟩
      · wp_walk using wpAny_loadPart' hl, wpAny_pyIter_tuple hL
        exact ⟨_, rfl, h⟩
    · wp_walk using wpAny_loadPart' hl, wpAny_pyIter_tuple hL
      exact ⟨_, rfl, h⟩
section
variable {prog : Program} {w : World} {A : Around} {E : Value → Shared → Prop} {s : Shared}
theorem call_enumerate_tuple {l : Addr} {items : Array Value} {Q : Value → Shared → Prop} (hL : s.heap.IsTuple l items)
    (h : ∀ h', IsEnum h' (s.heap.objs.size + 1) s.heap.objs.size 0 .none → h'.IsTupleIter s.heap.objs.size l 0 → h'.objs.size = s.heap.objs.size + 2 →
      (∀ b o, s.heap.get? b = some o → h'.get? b = some o) → Q (.ref (s.heap.objs.size + 1)) { s with heap := h' }) :
    wpAny (model prog w) A (call (.type "enumerate") [.ref l]) Q E s := by
  obtain ⟨⟨c, dct, dt, sl⟩, hl, hc, n, hd⟩ := hL
  replace hc : c = .type "tuple" := hc
  replace hd : dt = .seq items n := hd
  subst hc hd
  refine callType_new F.called_enumerate (by decide) (F.typeCall_enumerate_1 _) (F.newCall_enumerate_1 _) (fun obj => F.args_object_init_2 obj _) F.entry_enumerate_new
    (meets_enumerate_newT l items n dct sl) ⟨hl, ?_⟩
  have hz : (s.heap.push { cls := .type "tuple_iterator", data := .fields #[.ref l, .int 0 0] }).objs.size = s.heap.objs.size + 1 := Heap.size_push ..
  show _ ∧ _
  rw [hz]
  have he : IsEnum ((s.heap.push { cls := .type "tuple_iterator", data := .fields #[.ref l, .int 0 0] }).push { cls := .type "enumerate", data := .fields #[.none, .bool false, .ref s.heap.objs.size, rawInt 0, .none, .none] }) (s.heap.objs.size + 1) s.heap.objs.size 0 .none := by
    have := Heap.get?_push_size (s.heap.push { cls := .type "tuple_iterator", data := .fields #[.ref l, .int 0 0] }) (o := { cls := .type "enumerate", data := .fields #[.none, .bool false, .ref s.heap.objs.size, rawInt 0, .none, .none] }) rfl
    rw [hz] at this; exact this
  refine ⟨⟨_, he, rfl⟩, h _ he ⟨_, Heap.get?_push_of_some _ (Heap.get?_push_size _ rfl), rfl, rfl⟩ (by rw [Heap.size_push, hz]) fun b o x => Heap.get?_push_of_some _ (Heap.get?_push_of_some _ x)⟩
end
end PySem
namespace MxL
open PySem PySem.Spec PyProof.Rows L2
open Evl (Ex)
/-- the tuple at a as it stands at each turn, each item in a new pair -/
def IteT (K : PySem.W.Frag) (a : Addr) : It :=
  ⟨fun i H => ∃ (xs : List V) (x : V), SqT K H a xs ∧ xs[i]? = some x, fun i H v H' => ∃ T x, v = .ref T ∧ H T = none ∧ H' = upd H T (.tup [.int (i : Nat), x]) ∧ ∀ xs, SqT K H a xs → xs[i]? = some x, fun i H => ∃ xs : List V, SqT K H a xs ∧ xs.length = i⟩
theorem turn_enumT {P : Program} {w : World} {K : PySem.W.Frag} {elts : List Expr} {kk : Nat} {tpos : Pos} (a e it : Addr) (hai : a ≠ it) (hae : a ≠ e) :
    Turn P w K (.Tuple elts kk tpos) (IteT K a) [e, it] e (fun i h => (∃ old, IsEnum h e it ((i : Nat) : Int) old) ∧ h.IsTupleIter it a i ∧ e ≠ it) where
  mem := by simp
  obj := fun i h st b hb => by
    obtain ⟨⟨old, he⟩, ⟨o, ho, hc, hd⟩, _⟩ := st
    have e' : b = e ∨ b = it := by simpa using hb
    rcases e' with z | z
    · rw [z]; exact ⟨_, he, fun v q => nomatch q⟩
    · rw [z]; exact ⟨o, ho, fun v q => by rw [hd] at q; cases q⟩
  keep := fun i h h' st k => let ⟨⟨old, he⟩, hi, hne⟩ := st; ⟨⟨old, k e (by simp) _ he⟩, hi.at fun o q => k it (by simp) o q, hne⟩
  item := by
    intro X hP hw hK hc i pins s σ H E I hf st hg
    subst hP hw hK
    obtain ⟨⟨old, he⟩, hit, hne⟩ := st
    obtain ⟨xs, x, hq, hx⟩ := hg
    obtain ⟨its, rv, p, hz⟩ := I.tuple hq
    obtain ⟨u, hu, ru⟩ := rv.get hx
    have hel : e < s.heap.objs.size := Heap.lt_size he
    have hil : it < s.heap.objs.size := by obtain ⟨_, q, _⟩ := hit; exact Heap.lt_size q
    have hlt : i < its.toArray.size := by
      have := (List.getElem?_eq_some_iff.mp hu).1
      simpa using this
    have D := Draws.tuple (prog := X.prog) (w := X.w) (A := X.A.in1) (I.ok.hd hc) it a hai its.toArray
    refine wpAny_pyNext_enum_itemC D he ⟨hit, show s.heap.IsTuple a its.toArray from p⟩ hlt hne (by simp [hne, hae.symm]) fun x' h' tk hP ho hit' hT hsz hk => ?_
    have ex : x' = u := by
      have : its.toArray[i]? = some u := by simpa using hu
      rw [this] at hP
      exact (Option.some.inj hP).symm
    subst ex
    refine ⟨_, rfl, wpAny_letOwnedTupleGo_enum (s := { s with heap := h', toks := tk + 1 }) ho fun h'' he' sb => ?_⟩
    have hT2 : h''.get? s.heap.objs.size = some { cls := .type "tuple", data := .seq #[.int i tk, x'] } := (sb.2 _ (Nat.ne_of_gt hel)).trans hT
    have new : ObjOk X.prog X.w (upd H s.heap.objs.size (.tup [.int (i : Nat), x])) h'' s.heap.objs.size (.tup [.int (i : Nat), x]) :=
      ⟨by show 2 ≤ sizeLine; decide, [.int i tk, x'], .cons ⟨_, rfl⟩ (.cons ru .nil), ⟨_, hT2, rfl, _, rfl⟩⟩
    have I1 : Inv X pins σ (upd H s.heap.objs.size (.tup [.int (i : Nat), x])) { s with heap := h'', toks := tk + 1 } :=
      I.turnedNew (ch := [e, it]) (fun b ob hb q => (sb.2 b (fun z => hb (by simp [z]))).trans (hk b ob (fun z => hb (by simp [z])) (fun z => hb (by simp [z])) q)) hf (Nat.le_refl _) new
    refine ⟨.ref s.heap.objs.size, _, I1, rfl, ⟨_, x, rfl, I.hok.fresh (Nat.le_refl _), rfl, fun ys hy => by rw [I.tuple_inj hy hq]; exact hx⟩, ⟨⟨x', ?_⟩, hit'.1.at fun o q => (sb.2 it (Ne.symm hne)).trans q, hne⟩, fun b hb => ?_⟩
    · have e1 : ((i + 1 : Nat) : Int) = (i : Int) + 1 := by omega
      rw [e1]; exact he'
    · have hb' : b < s.heap.objs.size := by
        have e' : b = e ∨ b = it := by simpa using hb
        rcases e' with z | z
        · rw [z]; exact hel
        · rw [z]; exact hil
      rw [upd_ne (Nat.ne_of_lt hb')]
      exact (hf b hb).1
  done := by
    intro X hP hw hK hc i pins s σ H E I hf st hg
    subst hP hw hK
    obtain ⟨⟨old, he⟩, hit, hne⟩ := st
    obtain ⟨xs, hq, hx⟩ := hg
    obtain ⟨its, rv, p, hz⟩ := I.tuple hq
    obtain ⟨f0, f1, f2, f3, f4, f5⟩ := hf it (by simp)
    have hl := rv.length
    have hi : i = its.toArray.size := by rw [List.size_toArray, ← hl]; exact hx.symm
    have D := Draws.tuple (prog := X.prog) (w := X.w) (A := X.A.in1) (I.ok.hd hc) it a hai its.toArray
    refine wpAny_pyNext_enum_endD D he ⟨hi ▸ hit, show s.heap.IsTuple a its.toArray from p⟩ fun h' eb => ⟨rfl, I.turned (t' := s.toks) (fun b o hb q => eb b o hb q) f0 f1 f3 f4 f5⟩
  self := fun A i s Q E st h => let ⟨⟨_, he⟩, _⟩ := st; wpAny_pyIter_enum he h
end MxL
end
section
set_option Elab.async false
set_option linter.all false
set_option maxRecDepth 100000
set_option maxHeartbeats 4000000
namespace MxL
open PySem PySem.Spec PyProof.Rows L2
open Evl (Ex)
def iEnumT (K : PySem.W.Frag) (ta : TA) : TI := fun σ H R => ta σ H fun vs H1 => ∃ a xs, vs = [.ref a] ∧ SqT K H1 a xs ∧ R (IteT K a) H1
theorem pi_enumT {X : Cx} {e : Expr} {ta : TA} {p pos tpos : Pos} {elts : List Expr} {kk : Nat} (hg : Gl X "enumerate") (hm : X.mg "enumerate" = none) (ha : PA X [e] ta) (hs : starEach [e] X.env = [(false, eval e X.env)] := by rfl) :
    PI X (.Tuple elts kk tpos) (.Call (.Name "enumerate" p) [e] [] pos) (iEnumT X.K ta) := by
  refine ⟨fun pins s σ H R I h => ?_⟩
  refine Call_ (ld_blt I hg hm boot_enumerate (PyProof.Rows.callWith_type1 (thn (ha.run pos pins s σ H _ I h) fun us s1 ⟨vs, H1, I1, r1, q1⟩ => ?_) hs rfl))
  obtain ⟨a, xs, ex, hq, q⟩ := q1
  subst ex
  cases r1 with
  | cons r rr =>
    cases rr
    cases r
    obtain ⟨its, rv, p', hz⟩ := I1.tuple hq
    have hal : a < s1.heap.objs.size := p'.lt
    refine call_enumerate_tuple (show s1.heap.IsTuple a its.toArray from p') fun h' he hit hsz hk => wpAny_pyIter_enum he ?_
    have I2 : Inv X pins σ H1 { s1 with heap := h' } := I1.kept (t' := s1.toks) hk
    refine ⟨s1.heap.objs.size + 1, [s1.heap.objs.size + 1, s1.heap.objs.size], _, _, H1, rfl, I2, turn_enumT a (s1.heap.objs.size + 1) s1.heap.objs.size (Nat.ne_of_lt hal) (Nat.ne_of_lt (Nat.lt_succ_of_lt hal)), ⟨⟨.none, he⟩, hit, Nat.succ_ne_self _⟩, fun b hb => ?_, q⟩
    have e' : b = s1.heap.objs.size + 1 ∨ b = s1.heap.objs.size := by simpa using hb
    have hle : s1.heap.objs.size ≤ b := by
      rcases e' with z | z
      · rw [z]; exact Nat.le_add_right _ _
      · rw [z]; exact Nat.le_refl _
    exact I1.fpOk hle (I1.hok.fresh hle)
theorem walk_enumT {K : PySem.W.Frag} {a : Addr} {xs : List V} : Walk (IteT K a) xs.length (fun H => SqT K H a xs) (YPair (fun i => some (.int (i : Nat))) (fun i => xs[i]?)) := by
  refine ⟨fun i _ hi q => ⟨xs, xs[i], q, by simp [hi]⟩, fun _ q => ⟨xs, q, rfl⟩, fun i H v H' _ q y => ?_⟩
  obtain ⟨T, x, h1, h2, h3, h4⟩ := y
  exact ⟨T, .int (i : Nat), x, h1, h2, h3, rfl, h4 xs q⟩
section
variable {K : PySem.W.Frag} {σ : L2.St} {G H : Hp} {te : TE} {tt : TT} {vs : List Nat} {ta : TA} {tu : TS} {D : Ends}
/-- [e for i, x in enumerate(t)] -/
theorem ed_lcE {α : Type} {j1 j2 : Nat} (L : List α) (enc : α → PyData) (p : Nat × α → Bool) (e : Nat × α → PyData) (hL : L.length ≤ sizeLine) (hsrc : EvDs ta σ G [.tuple (L.map enc)])
    (hw : ∀ x y, wipe (((wipe σ vs).set j1 (some x)).set j2 (some y)) vs = wipe σ vs)
    (ht : ∀ i a w G', L[i]? = some a → Ex G G' → Da G' w (enc a) → EvT tt (((wipe σ vs).set j1 (some (.int (i : Nat)))).set j2 (some w)) G' (p (i, a)))
    (he : ∀ i a w G', L[i]? = some a → p (i, a) = true → Ex G G' → Da G' w (enc a) → EvD te (((wipe σ vs).set j1 (some (.int (i : Nat)))).set j2 (some w)) G' (e (i, a))) :
    EvD (tLc (iEnumT K ta) (gTup K 2 (gCons (gName j1) (gCons (gName j2) gNil))) tt te vs) σ G (.list ((((List.range L.length).zip L).filter p).map e)) := fun H eg Q k =>
  hsrc H eg _ fun ws G1 H1 d g1 hvs hd => by
    subst hd
    obtain ⟨v, rfl, hv⟩ := args1 hvs
    obtain ⟨a, xs, rfl, h1, h2⟩ := hv.tuple_inv
    have hlx : xs.length = L.length := by rw [h2.length, List.length_map]
    refine ⟨a, xs, rfl, .inl (.inl (g1.gh _ _ h1)), fun Dl hD => ?_⟩
    have hzl : ((List.range L.length).zip L).length = L.length := by simp
    have hxr : (List.range L.length).zip L = (List.range L.length).zip L := rfl
    refine lc_it (walk_enumT (K := K) (a := a) (xs := xs)) (Cd G1 H1 Dl ((List.range L.length).zip L) p e) (cd_start g1.gh hD) (fun i H' _ c => ?_) (fun i x H' H2 hi c y => ?_) fun H' c => ?_
    · obtain ⟨G', _, g, _⟩ := c
      exact .inl (.inl (g.gh _ _ (g.gg _ _ h1)))
    · obtain ⟨T, x1, x2, rfl, hT, rfl, f1, f2⟩ := y
      have ex1 : x1 = .int (i : Nat) := (Option.some.inj f1).symm
      subst ex1
      obtain ⟨d2, hd2, hx2⟩ := h2.get' f2
      obtain ⟨al, hal, rfl⟩ := map_at hd2
      have hz : ((List.range L.length).zip L)[i]? = some (i, al) := by
        rw [List.getElem?_zip_eq_some]
        exact ⟨List.getElem?_range (by omega), hal⟩
      refine ⟨T, [.int (i : Nat), x2], rfl, .inl (.inl upd_same), rfl, .int (i : Nat), [x2], rfl, x2, [], rfl, rfl, hw _ x2, ?_⟩
      exact cd_turn hD (by rw [hzl]; exact hL) hz c fun G' g eg' => ⟨G', Ex.refl G', Go.priv eg' hT, ht i al _ G' hal (g1.gg.trans g.gg) (hx2.mono g.gg), fun hp => he i al _ G' hal hp (g1.gg.trans g.gg) (hx2.mono g.gg)⟩
    · have c' : Cd G1 H1 Dl ((List.range L.length).zip L) p e ((List.range L.length).zip L).length H' := hzl.symm ▸ hlx ▸ c
      exact cd_end hD c' fun v G' H' d g hd hq => k v G' H' d (g1.trans g) hd hq
/-- for i, x in enumerate(t) -/
theorem r_forE {α : Type} {j1 j2 : Nat} (L : List α) (enc : α → PyData) (hsrc : EvDs ta σ G [.tuple (L.map enc)]) (eg : Ex G H)
    (k : ∀ G1 H1, Go G H G1 H1 → ∃ Pv : Nat → L2.St → Hp → Prop, Pv 0 σ H1 ∧ (∀ i σ' H', Pv i σ' H' → Ex G1 H') ∧
      (∀ i a w T σ' H', L[i]? = some a → Da G1 w (enc a) → H' T = none → Pv i σ' H' → tu { D with nx := Pv (i + 1), ct := Pv (i + 1), bk := D.nx } ((σ'.set j1 (some (.int (i : Nat)))).set j2 (some w)) (upd H' T (.tup [.int (i : Nat), w]))) ∧ ∀ σ' H', Pv L.length σ' H' → D.nx σ' H') :
    tFor (iEnumT K ta) (gTup K 2 (gCons (gName j1) (gCons (gName j2) gNil))) tu D σ H :=
  hsrc H eg _ fun ws G1 H1 d g1 hvs hd => by
    subst hd
    obtain ⟨v, rfl, hv⟩ := args1 hvs
    obtain ⟨a, xs, rfl, h1, h2⟩ := hv.tuple_inv
    have hlx : xs.length = L.length := by rw [h2.length, List.length_map]
    obtain ⟨Pv, p0, pe, ps, pd⟩ := k G1 H1 g1
    refine ⟨a, xs, rfl, .inl (.inl (g1.gh _ _ h1)), for_it (walk_enumT (K := K) (a := a) (xs := xs)) Pv p0 (fun i σ' H' _ p => .inl (.inl (pe i σ' H' p _ _ h1))) (fun i x σ' H' H2 hi p y => ?_) fun σ' H' p => pd σ' H' (hlx ▸ p)⟩
    obtain ⟨T, x1, x2, rfl, hT, rfl, f1, f2⟩ := y
    have ex1 : x1 = .int (i : Nat) := (Option.some.inj f1).symm
    subst ex1
    obtain ⟨d2, hd2, hx2⟩ := h2.get' f2
    obtain ⟨al, hal, rfl⟩ := map_at hd2
    exact ⟨T, [.int (i : Nat), x2], rfl, .inl (.inl upd_same), rfl, .int (i : Nat), [x2], rfl, x2, [], rfl, rfl, ps i al x2 T σ' H' hal hx2 hT p⟩
end
end MxL
end
section
set_option Elab.async false
set_option linter.all false
set_option maxRecDepth 100000
set_option maxHeartbeats 4000000
/-! sorted of data, of a tuple; min of data. -/
namespace PySem.W
open PySem PySem.Calls PyProof.Rows
section
variable {prog : Program} {w : World} {A : Around} {E : Value → Shared → Prop} {s : Shared} {β : Type} {vs : List Value} {bs : List β} {enc : β → PyData} {R : Value → β → Prop}
theorem collect_tuple {l : Addr} {vs : List Value} {Q : List Value → Shared → Prop} (hl : s.heap.IsTuple l vs.toArray)
    (h : Q vs { s with heap := (s.heap.push (seqObj "list" #[] 0)).update s.heap.objs.size (Obj.mapSeq (· ++ vs.toArray)) }) (hsz : vs.length ≤ sizeLine := by size_fits) :
    wpAny (model prog w) A (collect (.ref l)) Q E s := by
  obtain ⟨o, ho, hc, n, hd⟩ := id hl
  unfold collect
  refine wpAny_bind (wpAny_runValue (codeAny_builtin entry_proto_collect' ?_))
  show wpAny _ _ (do again (.builtin "list.__iadd__" ⟨[← newList [], .ref l], []⟩)) _ _ s
  refine wpAny_bind (wpAny_newList (wpAny_pure ⟨Code.quiet_builtin _ (by decide +kernel), codeAny_builtin entry_list_iadd' ?_⟩))
  show wpAny _ _ (Builtin.List.listExtendWith (.ref s.heap.objs.size) (.ref l) (.ref s.heap.objs.size)) _ _ { s with heap := s.heap.push (seqObj "list" #[] 0) }
  unfold Builtin.List.listExtendWith
  have ho' : (s.heap.push (seqObj "list" #[] 0)).get? l = some o := Heap.get?_push_of_some _ ho
  refine wpAny_bind (wpAny_typeOf (T := "tuple") ⟨o, ho', hc⟩ ?_)
  have ht : (Value.type "tuple" == Value.type "tuple") = true := by rfl
  rw [if_pos (by rw [ht]; simp)]
  refine wpAny_bind (listItems_at ho' hd ?_)
  refine wpAny_bind (listItems_at (xs := #[]) (n := 0) (Heap.get?_push_size _ rfl) rfl ?_)
  rw [if_neg (by simp)]
  refine wpAny_bind (listUpdate_at (xs := #[]) (n := 0) (Heap.get?_push_size _ rfl) rfl ?_ (Nat.zero_le _) (by show (#[] ++ vs.toArray).size ≤ sizeLine + 1; simp only [Array.size_append, List.size_toArray, List.length_nil]; omega))
  refine wpAny_pure ?_
  show wpAny (model prog w) A (do
      let o ← load s.heap.objs.size
      match o.data with
      | .seq xs _ => pure xs.toList
      | _ => unsupported "internal:collect") Q E { s with heap := (s.heap.push (seqObj "list" #[] 0)).update s.heap.objs.size (Obj.mapSeq (· ++ vs.toArray)) }
  refine wpAny_bind (wpAny_load (get?_update_seq (Heap.get?_push_size _ rfl) _) ?_)
  show wpAny _ _ (pure ((#[] : Array Value) ++ vs.toArray).toList) Q E _
  rw [show ((#[] : Array Value) ++ vs.toArray).toList = vs by simp]
  exact wpAny_pure h
theorem sorted_of_sortT {l : Addr} {vs : List Value} {kw : List (Str × Value)} {Q : Value → Shared → Prop} (hl : s.heap.IsTuple l vs.toArray) (hL : vs.length ≤ sizeLine) (ha1 : argsOk "sorted" ⟨[.ref l], kw⟩) (ha2 : ∀ x, argsOk "list.sort" ⟨[.ref x], kw⟩)
    (body : ∀ E' : Value → Shared → Prop, wpAny (model prog w) A.in1.in1 (Builtin.«list.sort» ⟨[.ref (s.heap.objs.size + 1)], kw⟩) (fun f s' => f = .done (.ret .none) ∧ Q (.ref (s.heap.objs.size + 1)) s') E' { s with heap := copyHeap s.heap vs }) :
    wpAny (model prog w) A (call (.builtin "sorted") [.ref l] kw) Q E s := by
  refine call_function_entry_kw kind_sorted plain_sorted entry_sorted ha1 ?_
  unfold Builtin.«sorted»
  refine wpAny_bind (m := checkCount "sorted" 1 1 _) (wpAny_pure ?_)
  refine wpAny_bind (collect_tuple hl ?_ hL)
  refine wpAny_bind (wpAny_newList ?_ hL)
  have hsz : ((s.heap.push (seqObj "list" #[] 0)).update s.heap.objs.size (Obj.mapSeq (· ++ vs.toArray))).objs.size = s.heap.objs.size + 1 := by
    rw [Heap.size_update, size_push']
  show wpAny _ _ _ _ _ { s with heap := copyHeap s.heap vs }
  rw [hsz]
  refine wpAny_bind (wpAny_holding (wpAny_call_entry_kw slot_list_sort ⟨_, copyHeap_at s.heap vs, rfl⟩ entry_list_sort ?body (ha2 _)))
  case body =>
    show wpAny (model prog w) A.in1.in1 (Builtin.«list.sort» ⟨[.ref (s.heap.objs.size + 1)], kw⟩) _ _ _
    refine wpAny_mono (body _) (fun f s' hf => ?_) fun _ _ e => e
    obtain ⟨rfl, hq⟩ := hf
    exact ⟨_, rfl, wpAny_pure ⟨_, rfl, hq⟩⟩
theorem sorted_dataT {l : Addr} {Q : Value → Shared → Prop} (hl : s.heap.IsTuple l vs.toArray) (e : EachIs R vs bs) (er : EachIs (fun v b => ∃ as, Reads s.heap v (enc b) as) vs bs) (hal : AllAlike (bs.map enc)) (hk : Sortable (bs.map enc)) (hL : bs.length ≤ sizeLine)
    (hu : ∀ b, b ∈ bs → A.units + 2 + (enc b).depth < cLine) (h : ∀ out, out.length = bs.length → EachIs R out (bs.mergeSort (dataLe false enc)) → Q (.ref (s.heap.objs.size + 1)) { s with heap := sortedAll s.heap vs (List.toArray out) }) :
    wpAny (model prog w) A (call (.builtin "sorted") [.ref l]) Q E s := by
  have er' : EachIs (fun v b => ∃ as, Reads (sortingHeap (copyHeap s.heap vs) (s.heap.objs.size + 1) vs) v (enc b) as) vs bs := er.mono fun _ _ ⟨as, r⟩ => ⟨as, PyProof.Rows.Reads.keeps (fun _ _ => sorting_copy_old) r⟩
  have S := SortsAt.data (prog := prog) (w := w) (A := A.in1.in1) (s := { s with heap := sortingHeap (copyHeap s.heap vs) (s.heap.objs.size + 1) vs }) (each_map (R := fun v d => ∃ as, Reads (sortingHeap (copyHeap s.heap vs) (s.heap.objs.size + 1) vs) v d as) enc er') hal hk (bound_map hu)
  have hL' : vs.length ≤ sizeLine := by rw [e.length]; exact hL
  refine sorted_of_sortT hl hL' (args_sorted1 _) (fun _ => args_list_sort _) fun _ => list_sort_vals (s := { s with heap := copyHeap s.heap vs }) (copyHeap_at s.heap vs) S hL' ⟨rfl, ?_⟩
  exact h _ (by rw [sortVals_length false rfl]; exact e.length) (sortVals_data false e er' hal)
end
end PySem.W

namespace MxL
open PySem PySem.Spec PyProof.Rows L2
open Evl (Ex)
open PySem.W (EachIs AllAlike Sortable dataLe)
theorem each_vals {its : List Value} : ∀ {xs : List V} {ds : List PyData}, Vals xs its → xs.length = ds.length → EachIs (fun v (b : V × PyData) => RelV b.1 v) its (xs.zip ds) := by
  intro xs ds r hl
  induction r generalizing ds with
  | nil => exact .nil
  | @cons x u xs us rx rr ih =>
    cases ds with
    | nil => cases hl
    | cons d ds => exact .cons rx (ih (by simpa using hl))
theorem each_reads {h : Heap} : ∀ {xs : List V} {ds : List PyData} {its : List Value} {as : List Addr}, ReadsAll h its ds as → xs.length = ds.length → EachIs (fun v (b : V × PyData) => ∃ as, Reads h v b.2 as) its (xs.zip ds)
  | [], [], _, _, r, _ => by cases r; exact .nil
  | x :: xs, d :: ds, _, _, r, hl => by
    cases r with
    | cons h1 h2 => exact .cons ⟨_, h1⟩ (each_reads h2 (by simpa using hl))
  | [], _ :: _, _, _, _, hl => by cases hl
  | _ :: _, [], _, _, _, hl => by cases hl
theorem vals_each : ∀ {out : List Value} {bs : List (V × PyData)}, EachIs (fun v (b : V × PyData) => RelV b.1 v) out bs → Vals (bs.map Prod.fst) out
  | _, _, .nil => .nil
  | _, _, .cons r t => .cons r (vals_each t)
theorem da_pairs {G : Hp} : ∀ {bs : List (V × PyData)}, (∀ b ∈ bs, Da G b.1 b.2) → DaAll G (bs.map Prod.fst) (bs.map Prod.snd)
  | [], _ => .nil
  | b :: bs, h => .cons (h b List.mem_cons_self) (da_pairs fun c hc => h c (List.mem_cons_of_mem _ hc))
theorem zip_da {G : Hp} : ∀ {xs : List V} {ds : List PyData}, DaAll G xs ds → ∀ b ∈ xs.zip ds, Da G b.1 b.2
  | _, _, .nil, b, h => by cases h
  | _, _, .cons r t, b, h => by
    rw [List.zip_cons_cons] at h
    rcases List.mem_cons.mp h with e | h
    · rw [e]; exact r
    · exact zip_da t b h
theorem zip_snd : ∀ {xs : List V} {ds : List PyData}, xs.length = ds.length → (xs.zip ds).map Prod.snd = ds
  | [], [], _ => rfl
  | x :: xs, d :: ds, h => by rw [List.zip_cons_cons, List.map_cons, zip_snd (by simpa using h)]
  | [], _ :: _, h => by cases h
  | _ :: _, [], h => by cases h
/-- the items in their order -/
noncomputable def sortD (ds : List PyData) : List PyData := ds.mergeSort (dataLe false id)
theorem sortD_zip {xs : List V} {ds : List PyData} (h : xs.length = ds.length) : ((xs.zip ds).mergeSort (dataLe false Prod.snd)).map Prod.snd = sortD ds := by
  have e := List.map_mergeSort (r := dataLe false (Prod.snd : V × PyData → PyData)) (s := dataLe false id) (f := Prod.snd) (l := xs.zip ds) (fun a _ b _ => rfl)
  unfold sortD
  rw [e, zip_snd h]
theorem sortD_perm (ds : List PyData) : (sortD ds).Perm ds := List.mergeSort_perm _ _
/-- sorted(xs): a list (s = false) or a tuple -/
def rSortL (K : PySem.W.Frag) : List V → Hp → VK → Prop := fun vs H Q => ∃ (a : Addr) (xs : List V) (ds : List PyData), vs = [V.ref a] ∧ SqL K H a xs ∧ DpAll K H xs ds ∧ AllAlike ds ∧ Sortable ds ∧ (∀ d ∈ ds, d.depth ≤ 60) ∧
  ∀ p, H p = none → Q (.ref p) (upd H p (.lst (((xs.zip ds).mergeSort (dataLe false Prod.snd)).map Prod.fst)))
def rSortTup (K : PySem.W.Frag) : List V → Hp → VK → Prop := fun vs H Q => ∃ (a : Addr) (xs : List V) (ds : List PyData), vs = [V.ref a] ∧ SqT K H a xs ∧ DpAll K H xs ds ∧ AllAlike ds ∧ Sortable ds ∧ (∀ d ∈ ds, d.depth ≤ 60) ∧
  ∀ p, H p = none → Q (.ref p) (upd H p (.lst (((xs.zip ds).mergeSort (dataLe false Prod.snd)).map Prod.fst)))
theorem dpAll_length {K : PySem.W.Frag} {H : Hp} : ∀ {vs : List V} {ds : List PyData}, DpAll K H vs ds → vs.length = ds.length
  | _, _, .nil => rfl
  | _, _, .cons _ r => by rw [List.length_cons, List.length_cons, dpAll_length r]
section
variable {X : Cx}
theorem cr_sortD (hu : X.A.units + 64 < cLine) : CallR X (.builtin "sorted") (rSortL X.K) := by
  intro pins s σ H vs us Q I r h
  obtain ⟨a, xs, ds, rfl, hs, hd, hal, hk, hdep, q⟩ := h
  obtain ⟨its, rv, hl, hz⟩ := I.list hs
  rw [Vals.ref1 r]
  have hlen := dpAll_length hd
  obtain ⟨as, hr⟩ := Dp.readsAll I ds xs its hd rv
  have hzl : (xs.zip ds).length = xs.length := by rw [List.length_zip, ← hlen]; exact Nat.min_self _
  refine PySem.W.sorted_data (enc := Prod.snd) (bs := xs.zip ds) (hl.isList) (each_vals rv hlen) (each_reads hr hlen) (by rw [zip_snd hlen]; exact hal) (by rw [zip_snd hlen]; exact hk) (by rw [hzl]; exact hz) (fun b hb => ?_) fun out h1 h2 => ?_
  · have : b.2 ∈ ds := by rw [← zip_snd hlen]; exact List.mem_map.mpr ⟨b, hb, rfl⟩
    have := hdep _ this
    omega
  · obtain ⟨ep, he'⟩ := PyProof.Rows.sortedAll_at s.heap its out.toArray
    have hlen2 : (((xs.zip ds).mergeSort (dataLe false Prod.snd)).map Prod.fst).length ≤ sizeLine := by
      rw [List.length_map, List.length_mergeSort, hzl]; exact hz
    exact ⟨.ref _, upd H (s.heap.objs.size + 1) (.lst (((xs.zip ds).mergeSort (dataLe false Prod.snd)).map Prod.fst)), I.laid (t' := s.toks) (fun _ _ => PyProof.Rows.sortedAll_old) (Nat.le_succ _) ⟨hlen2, out, ep, vals_each h2, he'⟩, rfl, q _ (I.hok.fresh (Nat.le_succ _))⟩
theorem cr_sortTup (hu : X.A.units + 64 < cLine) : CallR X (.builtin "sorted") (rSortTup X.K) := by
  intro pins s σ H vs us Q I r h
  obtain ⟨a, xs, ds, rfl, hs, hd, hal, hk, hdep, q⟩ := h
  obtain ⟨its, rv, hl, hz⟩ := I.tuple hs
  rw [Vals.ref1 r]
  have hlen := dpAll_length hd
  obtain ⟨as, hr⟩ := Dp.readsAll I ds xs its hd rv
  have hzl : (xs.zip ds).length = xs.length := by rw [List.length_zip, ← hlen]; exact Nat.min_self _
  refine PySem.W.sorted_dataT (enc := Prod.snd) (bs := xs.zip ds) (show s.heap.IsTuple a its.toArray from hl) (each_vals rv hlen) (each_reads hr hlen) (by rw [zip_snd hlen]; exact hal) (by rw [zip_snd hlen]; exact hk) (by rw [hzl]; exact hz) (fun b hb => ?_) fun out h1 h2 => ?_
  · have : b.2 ∈ ds := by rw [← zip_snd hlen]; exact List.mem_map.mpr ⟨b, hb, rfl⟩
    have := hdep _ this
    omega
  · obtain ⟨ep, he'⟩ := PyProof.Rows.sortedAll_at s.heap its out.toArray
    have hlen2 : (((xs.zip ds).mergeSort (dataLe false Prod.snd)).map Prod.fst).length ≤ sizeLine := by
      rw [List.length_map, List.length_mergeSort, hzl]; exact hz
    exact ⟨.ref _, upd H (s.heap.objs.size + 1) (.lst (((xs.zip ds).mergeSort (dataLe false Prod.snd)).map Prod.fst)), I.laid (t' := s.toks) (fun _ _ => PyProof.Rows.sortedAll_old) (Nat.le_succ _) ⟨hlen2, out, ep, vals_each h2, he'⟩, rfl, q _ (I.hok.fresh (Nat.le_succ _))⟩
end
section
variable {K : PySem.W.Frag} {σ : L2.St} {G : Hp} {te : TE} {ds : List PyData}
theorem ed_sortL (nd : noDicts ds = true) (hal : AllAlike ds) (hk : Sortable ds) (hdep : ∀ d ∈ ds, d.depth ≤ 60) (h : EvD te σ G (.list ds)) : EvD (tCB (rSortL K) (tCons te tNil)) σ G (.list (sortD ds)) :=
  er_cb (es_cons h es_nil) fun vs G1 H _ eg hvs Q k => by
    obtain ⟨v, rfl, hv⟩ := args1 hvs
    obtain ⟨a, xs, rfl, h1, h2⟩ := hv.list_inv
    refine ⟨a, xs, ds, rfl, .inl (.inl (eg _ _ h1)), h2.dp eg nd, hal, hk, hdep, fun p hp => ?_⟩
    have hb := da_pairs (G := G1) (bs := (xs.zip ds).mergeSort (dataLe false Prod.snd)) fun b hb => zip_da h2 b ((List.mergeSort_perm _ _).mem_iff.mp hb)
    rw [sortD_zip h2.length] at hb
    exact k _ (upd G1 p _) _ _ (Go.new eg hp) (.lst upd_same (hb.mono (Ex.new (nb_back eg hp)))) rfl
theorem ed_sortT (nd : noDicts ds = true) (hal : AllAlike ds) (hk : Sortable ds) (hdep : ∀ d ∈ ds, d.depth ≤ 60) (h : EvD te σ G (.tuple ds)) : EvD (tCB (rSortTup K) (tCons te tNil)) σ G (.list (sortD ds)) :=
  er_cb (es_cons h es_nil) fun vs G1 H _ eg hvs Q k => by
    obtain ⟨v, rfl, hv⟩ := args1 hvs
    obtain ⟨a, xs, rfl, h1, h2⟩ := hv.tuple_inv
    refine ⟨a, xs, ds, rfl, .inl (.inl (eg _ _ h1)), h2.dp eg nd, hal, hk, hdep, fun p hp => ?_⟩
    have hb := da_pairs (G := G1) (bs := (xs.zip ds).mergeSort (dataLe false Prod.snd)) fun b hb => zip_da h2 b ((List.mergeSort_perm _ _).mem_iff.mp hb)
    rw [sortD_zip h2.length] at hb
    exact k _ (upd G1 p _) _ _ (Go.new eg hp) (.lst upd_same (hb.mono (Ex.new (nb_back eg hp)))) rfl
end
end MxL
end
section
set_option Elab.async false
set_option linter.all false
set_option maxRecDepth 100000
set_option maxHeartbeats 4000000
/-! min of data; >= of pairs; a tuple times 0 or 1. -/
namespace MxL
open PySem PySem.Spec PyProof.Rows L2
open PySem.W (AllAlike minD AlikeAll dataLt rowLt)
/-! ### min -/
def rMinL (K : PySem.W.Frag) : List V → Hp → VK → Prop := fun vs H Q => ∃ (a : Addr) (xs : List V) (d0 : PyData) (ds : List PyData), vs = [V.ref a] ∧ SqL K H a xs ∧ DpAll K H xs (d0 :: ds) ∧ AlikeAll (d0 :: ds) ∧ PyData.depthAll (d0 :: ds) ≤ 60 ∧
  ∀ (i : Nat) (v : V), xs[i]? = some v → (d0 :: ds)[i]? = some (minD d0 ds) → Q v H
theorem minD_mem : ∀ (xs : List PyData) (x : PyData), minD x xs ∈ x :: xs
  | [], x => List.mem_cons_self
  | y :: ys, x => by
    show minD (if dataLt y x then y else x) ys ∈ _
    have h := minD_mem ys (if dataLt y x then y else x)
    rcases List.mem_cons.mp h with q | q
    · rw [q]
      split
      · exact List.mem_cons_of_mem _ List.mem_cons_self
      · exact List.mem_cons_self
    · exact List.mem_cons_of_mem _ (List.mem_cons_of_mem _ q)
theorem readsAll_get {h : Heap} : ∀ {vs : List Value} {ds : List PyData} {as : List Addr} {i : Nat} {v : Value} {d : PyData}, ReadsAll h vs ds as → vs[i]? = some v → ds[i]? = some d → ∃ bs, Reads h v d bs
  | _, _, _, _, _, _, .nil, hv, _ => by simp at hv
  | _, _, _, 0, v, d, .cons r _, hv, hd => by
    have e1 := Option.some.inj hv
    have e2 := Option.some.inj hd
    subst e1; subst e2
    exact ⟨_, r⟩
  | _, _, _, i + 1, v, d, .cons _ rs, hv, hd => readsAll_get (i := i) rs (by simpa using hv) (by simpa using hd)
section
variable {X : Cx}
theorem cr_minD (hc : X.calm = true) (hu : X.A.units + 64 < cLine) : CallR X (.builtin "min") (rMinL X.K) := by
  intro pins s σ H vs us Q I r h
  obtain ⟨a, xs, d0, ds, rfl, hs, hd, hal, hdep, q⟩ := h
  obtain ⟨its, rv, hl, hz⟩ := I.list hs
  rw [Vals.ref1 r]
  have hlen := dpAll_length hd
  obtain ⟨as, hr⟩ := Dp.readsAll I (d0 :: ds) xs its hd rv
  refine PySem.W.min_list_data (I.ok.hd hc) hl.isList (show ReadsAll s.heap its.toArray.toList (d0 :: ds) as from hr) hal (by omega) fun i v h' tk bs hv hrd hk => ?_
  have hv' : its[i]? = some v := by simpa using hv
  have hx : ∃ x, xs[i]? = some x := by
    have h1 := (List.getElem?_eq_some_iff.mp hv').1
    have h2 := rv.length
    exact ⟨_, List.getElem?_eq_getElem (by omega)⟩
  obtain ⟨x, hx⟩ := hx
  obtain ⟨u, hu', ru⟩ := rv.get hx
  have eu : u = v := by rw [hu'] at hv'; exact Option.some.inj hv'
  subst eu
  have hdi : ∃ d, (d0 :: ds)[i]? = some d := ⟨_, List.getElem?_eq_getElem (by rw [← hlen]; exact (List.getElem?_eq_some_iff.mp hx).1)⟩
  obtain ⟨d, hdi⟩ := hdi
  obtain ⟨cs, hrd2⟩ := readsAll_get hr hv' hdi
  have hrd3 := PyProof.Rows.Reads.keeps (h := s.heap) (h' := h') hk hrd2
  have hmem : d ∈ d0 :: ds := List.mem_of_getElem? hdi
  have e : d = minD d0 ds := PySem.W.alike_unique _ _ _ _ _ (hal.1 _ hmem _ (minD_mem ds d0)) hrd3 hrd
  subst e
  exact ⟨x, H, I.kept (t' := tk) hk, ru, q i x hx hdi⟩
end
section
variable {K : PySem.W.Frag} {σ : L2.St} {G : Hp} {te ta tb : TE} {d0 : PyData} {ds : List PyData}
theorem ed_min (nd : noDicts (d0 :: ds) = true) (hal : AlikeAll (d0 :: ds)) (hdep : PyData.depthAll (d0 :: ds) ≤ 60) (h : EvD te σ G (.list (d0 :: ds))) : EvD (tCB (rMinL K) (tCons te tNil)) σ G (minD d0 ds) :=
  er_cb (es_cons h es_nil) fun vs G1 H _ eg hvs Q k => by
    obtain ⟨v, rfl, hv⟩ := args1 hvs
    obtain ⟨a, xs, rfl, h1, h2⟩ := hv.list_inv
    refine ⟨a, xs, d0, ds, rfl, .inl (.inl (eg _ _ h1)), h2.dp eg nd, hal, hdep, fun i x hx hd => ?_⟩
    obtain ⟨d, hd', hx'⟩ := h2.get' hx
    have e : d = minD d0 ds := by rw [hd'] at hd; exact Option.some.inj hd
    subst e
    exact k x G1 H _ (Go.refl eg) hx' rfl
/-- tuples of whole numbers are compared as lists -/
theorem dataLt_ints (xs ys : List Int) : dataLt (.tuple (xs.map .int)) (.tuple (ys.map .int)) = decide (xs < ys) := by
  rw [← PySem.W.dataLt_ints xs ys]
  unfold PySem.W.rowLt PySem.W.dataLt
  simp only [PySem.W.keyToks]
end
/-! ### >= of pairs -/
def rGe2 (K : PySem.W.Frag) : R2 := fun x y H Q => ∃ (a b : Addr) (i j k l : Int), x = .ref a ∧ y = .ref b ∧ SqT K H a [.int i, .int j] ∧ SqT K H b [.int k, .int l] ∧
  Q (.bl (if i = k then (if j = l then true else decide (l ≤ j)) else decide (k ≤ i))) H
theorem op_geT {X : Cx} (hu : X.A.units < cLine) : OpR X (compareOp .GtE) (rGe2 X.K) := by
  intro pins s σ H x y v u Q I rx ry h
  obtain ⟨a, b, i, j, k, l, rfl, rfl, ha, hb, q⟩ := h
  cases rx
  cases ry
  obtain ⟨its, r1, p1, _⟩ := I.tuple ha
  obtain ⟨its2, r2, p2, _⟩ := I.tuple hb
  have i1 : IntsAre its [i, j] := Vals.ints (ns := [i, j]) r1
  have i2 : IntsAre its2 [k, l] := Vals.ints (ns := [k, l]) r2
  have e1 : its.toArray.size = 2 := by rw [List.size_toArray]; exact i1.length
  have e2 : its2.toArray.size = 2 := by rw [List.size_toArray]; exact i2.length
  have at1 : ∀ m (h1 : m < its.toArray.size), ∃ t, its.toArray[m] = .int ([i, j].getD m 0) t := fun m h1 => PyProof.Rows.IntsAre.int_at i1 _ _ (by simp at h1; simp [h1])
  have at2 : ∀ m (h1 : m < its2.toArray.size), ∃ t, its2.toArray[m] = .int ([k, l].getD m 0) t := fun m h1 => PyProof.Rows.IntsAre.int_at i2 _ _ (by simp at h1; simp [h1])
  have R := Ob.RcOp.tuples_ge (A := X.A) (s := s) (e := fun m => decide ([i, j].getD m 0 = [k, l].getD m 0)) (r := fun m => decide ([k, l].getD m 0 ≤ [i, j].getD m 0)) p1 p2 hu (fun m h1 h2 => by
    obtain ⟨t, et⟩ := at1 m h1
    obtain ⟨t', et'⟩ := at2 m h2
    rw [et, et']
    have z : ([i, j].getD m 0 == [k, l].getD m 0) = decide ([i, j].getD m 0 = [k, l].getD m 0) := by
      by_cases q : [i, j].getD m 0 = [k, l].getD m 0
      · rw [decide_eq_true q]; exact beq_iff_eq.mpr q
      · rw [decide_eq_false q]; exact beq_eq_false_iff_ne.mpr q
    rw [← z]
    exact SeqAt.EqAt.int_int _ _ _ _) (fun m h1 h2 _ => by
    obtain ⟨t, et⟩ := at1 m h1
    obtain ⟨t', et'⟩ := at2 m h2
    rw [et, et']
    exact Ob.RcOp.ge_int _ _ _ _)
  rw [e1, e2] at R
  have z : wpAny (model X.prog X.w) X.A (compareOp .GtE (.ref a) (.ref b)) (EP X pins σ Q) X.xe s := R X.prog X.w X.xe (EP X pins σ Q) ⟨.bl _, H, I, rfl, by
    have e : Ob.lexAt (fun m => decide ([i, j].getD m 0 = [k, l].getD m 0)) (fun m => decide ([k, l].getD m 0 ≤ [i, j].getD m 0)) (decide (2 ≥ 2)) 0 (min 2 2) = (if i = k then (if j = l then true else decide (l ≤ j)) else decide (k ≤ i)) := by
      show (if decide (i = k) = true then (if decide (j = l) = true then true else decide (l ≤ j)) else decide (k ≤ i)) = _
      by_cases h1 : i = k <;> by_cases h2 : j = l <;> simp [h1, h2]
    rw [e]; exact q⟩
  exact z
theorem ed_ge2 {K : PySem.W.Frag} {σ : L2.St} {G : Hp} {ta tb : TE} {i j k l : Int} (ha : EvD ta σ G (.tuple [.int i, .int j])) (hb : EvD tb σ G (.tuple [.int k, .int l])) :
    EvD (tOp (rGe2 K) ta tb) σ G (.bool (if i = k then (if j = l then true else decide (l ≤ j)) else decide (k ≤ i))) :=
  ed_op (da_b _) ha hb fun x y _ H eg hx hy Q q => by
    obtain ⟨a, xs, rfl, h1, h2⟩ := hx.tuple_inv
    obtain ⟨b, ys, rfl, h3, h4⟩ := hy.tuple_inv
    have e1 := DaAll.ints (ns := [i, j]) h2
    have e2 := DaAll.ints (ns := [k, l]) h4
    subst e1; subst e2
    exact ⟨a, b, i, j, k, l, rfl, rfl, .inl (.inl (eg _ _ h1)), .inl (.inl (eg _ _ h3)), q⟩
/-! ### a tuple times n -/
open AutoSeq1 (wpAny_loadPart')
theorem tuple_mul1 (l : Addr) (items : Array Value) (n : Nat) (dd : Option Addr) (sl : Array (Option Value)) (u : Tok) :
    Meets (Builtin.«tuple.__mul__» ⟨[.ref l, .int 1 u], []⟩) (fun _ R s => s.heap.get? l = some { cls := .type "tuple", dict := dd, data := .seq items n, slots := sl } ∧
      R (.ok (.ret (Value.ref l))) s) :=
  .of_wp fun prog w A R s h => by
    obtain ⟨hp, g, d, tk, os⟩ := s
    obtain ⟨hl, h⟩ := h
    have f1 := AutoSeq1.idx_int
    have c1 : (items.isEmpty || (1 : Int) == 1) = true := by rw [Bool.or_eq_true]; exact .inr rfl
    wp_walk using wpAny_loadPart' hl
    repeat (first
      | (refine wpAny_ite_true (decide_eq_true c1) ?_; wp_walk using wpAny_loadPart' hl)
      | (refine wpAny_ite_false (decide_eq_false (by decide)) ?_; wp_walk using wpAny_loadPart' hl))
    exact ⟨_, rfl, h⟩
theorem tuple_mul0 (l : Addr) (items : Array Value) (n : Nat) (dd : Option Addr) (sl : Array (Option Value)) (u : Tok) (hi : items.isEmpty = false) :
    Meets (Builtin.«tuple.__mul__» ⟨[.ref l, .int 0 u], []⟩) (fun _ R s => s.heap.get? l = some { cls := .type "tuple", dict := dd, data := .seq items n, slots := sl } ∧
      R (.ok (.ret (Value.ref s.heap.objs.size))) { s with heap := s.heap.push { cls := Value.type "tuple", data := Data.seq #[] }, toks := s.toks }) :=
  .of_wp fun prog w A R s h => by
    obtain ⟨hp, g, d, tk, os⟩ := s
    obtain ⟨hl, h⟩ := h
    have f1 := AutoSeq1.idx_int
    have c1 : (items.isEmpty || (0 : Int) == 1) = false := by rw [hi]; rfl
    wp_walk using wpAny_loadPart' hl
    repeat (first
      | (refine wpAny_ite_false (decide_eq_false (by rw [c1]; exact Bool.false_ne_true)) ?_; wp_walk using wpAny_loadPart' hl)
      | (refine wpAny_ite_true (decide_eq_true (by rfl)) ?_; wp_walk using wpAny_loadPart' hl)
      | (refine wpAny_ite_false (decide_eq_false (by decide)) ?_; wp_walk using wpAny_loadPart' hl))
    exact ⟨_, rfl, h⟩
end MxL
end
section
set_option Elab.async false
set_option linter.all false
set_option maxRecDepth 100000
set_option maxHeartbeats 4000000
namespace MxL
open PySem PySem.Spec PyProof.Rows L2
def rRepA (K : PySem.W.Frag) : R2 := fun x y H Q => ∃ l k xs, x = .ref l ∧ y = .int k ∧ SqT K H l xs ∧ xs ≠ [] ∧ 0 ≤ k ∧ k ≤ 1000 ∧ xs.length ≤ 1000 ∧ (k = 1 → Q (.ref l) H) ∧ (k ≠ 1 → ∀ p, H p = none → Q (.ref p) (upd H p (.tup (List.replicate k.toNat xs).flatten)))
theorem op_repA {X : Cx} : OpR X (binaryOp .Mult) (rRepA X.K) := by
  intro pins s σ H x y v u Q I rx ry h
  obtain ⟨l, k, xs, rfl, rfl, hT, hne, h0, h2, hz, q1, q2⟩ := h
  by_cases hk : 2 ≤ k
  · exact op_repT pins s σ H _ _ v u Q I rx ry ⟨l, k, xs, rfl, rfl, hT, hne, hk, h2, hz, q2 (by omega)⟩
  cases rx
  obtain ⟨t, rfl⟩ := ry
  obtain ⟨its, r, ⟨⟨cls, dd, data, sl⟩, ho, hc, n, hd⟩, hs⟩ := I.tuple hT
  simp only at hc hd
  subst hc hd
  have hn : its ≠ [] := fun e => hne (by
    have hle : its.length = xs.length := r.length.symm
    rw [e] at hle
    exact List.eq_nil_of_length_eq_zero hle.symm)
  have hi : its.toArray.isEmpty = false := by
    cases its with
    | nil => exact absurd rfl hn
    | cons a b => rfl
  by_cases hk1 : k = 1
  · subst hk1
    refine wpAny_binaryOp_repeat_ref (T := "tuple") (U := "int") (by decide) ⟨_, ho, rfl⟩ (fun s' => typeIs_int s' 1 t) noFill_tuple_mul F.fills_int_mul F.slot_int_rmul repeat_tuple F.slot_int_index.lookup
      (call_meets F.slot_int_rmul (typeIs_int s 1 t) F.entry_int_rmul (F.args_int_rmul_2 _ _) (int_rmul_tuple 1 t l its.toArray n dd sl)
        ⟨ho, rfl, ⟨_, ho, rfl⟩, call_meets F.slot_tuple_mul ⟨_, ho, rfl⟩ F.entry_tuple_mul (F.args_tuple_mul_2 _ _) (tuple_mul1 l its.toArray n dd sl t) ⟨ho, ?_⟩⟩)
    exact ⟨.ref l, H, I, rfl, q1 rfl⟩
  · have hk0 : k = 0 := by omega
    subst hk0
    refine wpAny_binaryOp_repeat_ref (T := "tuple") (U := "int") (by decide) ⟨_, ho, rfl⟩ (fun s' => typeIs_int s' 0 t) noFill_tuple_mul F.fills_int_mul F.slot_int_rmul repeat_tuple F.slot_int_index.lookup
      (call_meets F.slot_int_rmul (typeIs_int s 0 t) F.entry_int_rmul (F.args_int_rmul_2 _ _) (int_rmul_tuple 0 t l its.toArray n dd sl)
        ⟨ho, rfl, ⟨_, ho, rfl⟩, call_meets F.slot_tuple_mul ⟨_, ho, rfl⟩ F.entry_tuple_mul (F.args_tuple_mul_2 _ _) (tuple_mul0 l its.toArray n dd sl t hi) ⟨ho, ?_⟩⟩)
    refine ⟨.ref s.heap.objs.size, upd H s.heap.objs.size (.tup []), I.laid (t' := s.toks) (o := .tup []) (fun b ob q => Heap.get?_push_of_some _ q) (Nat.le_refl _) ?_, rfl, q2 (by decide) _ (I.hok.fresh (Nat.le_refl _))⟩
    exact ⟨Nat.zero_le _, [], .nil, IsTup.new _ _⟩
theorem ed_repT {K : PySem.W.Frag} {σ : L2.St} {G : Hp} {ta tb : TE} {d : PyData} {k : Nat} (hk : k ≤ 1000) (ha : EvD ta σ G (.tuple [d])) (hb : EvD tb σ G (.int (k : Nat))) : EvD (tOp (rRepA K) ta tb) σ G (.tuple (List.replicate k d)) :=
  er_op ha hb fun x y G1 H _ eg hx hy Q q => by
    obtain ⟨a, xs, rfl, h1, h2⟩ := hx.tuple_inv
    cases h2 with
    | cons hv r =>
      rename_i v vs
      cases r
      have hrep : ∀ (G' : Hp) (n : Nat), Da G' v d → DaAll G' (List.replicate n [v]).flatten (List.replicate n d) := fun G' n hv => by
        induction n with
        | zero => exact .nil
        | succ n ih => exact .cons hv ih
      refine ⟨a, (k : Nat), [v], rfl, hy.int_inv, .inl (.inl (eg _ _ h1)), by simp, by omega, by omega, by simp, fun e => ?_, fun _ p hp => ?_⟩
      · have : k = 1 := by omega
        subst this
        exact q _ G1 H _ (Go.refl eg) (.tup h1 (.cons hv .nil)) rfl
      · have e : ((k : Nat) : Int).toNat = k := by omega
        rw [e]
        exact q _ (upd G1 p _) _ _ (Go.new eg hp) (.tup upd_same (hrep _ k (hv.mono (Evl.Ex.new (nb_back eg hp))))) rfl
/-- [x] * n -/
theorem ed_repL {K : PySem.W.Frag} {σ : L2.St} {G : Hp} {ta tb : TE} {d : PyData} {k : Nat} (hk : k ≤ 1000) (ha : EvD ta σ G (.list [d])) (hb : EvD tb σ G (.int (k : Nat))) : EvD (tOp rRep ta tb) σ G (.list (List.replicate k d)) :=
  er_op ha hb fun x y G1 H _ eg hx hy Q q => by
    obtain ⟨a, xs, rfl, h1, h2⟩ := hx.list_inv
    cases h2 with
    | cons hv r =>
      rename_i v vs
      cases r
      have hrep : ∀ (G' : Hp) (n : Nat), Da G' v d → DaAll G' (List.replicate n [v]).flatten (List.replicate n d) := fun G' n hv => by
        induction n with
        | zero => exact .nil
        | succ n ih => exact .cons hv ih
      have e : ((k : Nat) : Int).toNat = k := by omega
      refine ⟨a, (k : Nat), [v], rfl, hy.int_inv, eg _ _ h1, by omega, by omega, by rw [e, sizeLine_eq]; simp; omega, fun p hp => ?_⟩
      rw [e]
      exact q _ (upd G1 p _) _ _ (Go.new eg hp) (.lst upd_same (hrep _ k (hv.mono (Evl.Ex.new (nb_back eg hp))))) rfl
end MxL
end
section
set_option Elab.async false
set_option linter.all false
set_option maxRecDepth 100000
set_option maxHeartbeats 4000000
/-! {**a, **b} of dicts with int and text keys; {t: v}, t a tuple. -/
namespace PySem
open Sem (wp)
section
variable {prog : Program} {w : World} {K : Type} [DecidableEq K] {knd : KeyKind prog w K} {A : Around} {E : Value → Shared → Prop} {s : Shared}
theorem wpAny_dictPut_pairs {d : Addr} {kvs : List (K × Value)} {k : K} {key v : Value} {Q : Unit → Shared → Prop} (hkey : knd.is k key = true) (hm : s.heap.DictOf knd d kvs)
    (hQ : ∀ h', h'.DictOf knd d (stored kvs k v) → Heap.SameBut d s.heap h' → Q () { s with heap := h' })
    (hsz : kvs.length ≤ sizeLine := by size_fits) :
    wpAny (model prog w) A (dictPut d (knd.hash k) key v) Q E s := by
  obtain ⟨o, es, ep, ho, hc, hd, hk, hp, hn⟩ := hm
  have hes : es.size ≤ sizeLine := by have e1 := hp.length; have e2 : es.toList.length = es.size := by simp
                                      omega
  unfold dictPut
  refine wpAny_bind (wpAny_dictFind_of hkey ho hd hk ?_)
  have hidx : (es.findIdx? fun e => knd.is k e.key) = kvs.findIdx? fun kv => decide (kv.1 = k) := by
    rw [← hp.findIdx k]; obtain ⟨l⟩ := es; simp
  cases hi : es.findIdx? fun e => knd.is k e.key with
  | some i =>
    refine (wpAny_updateDict ho hd ((hQ _ ⟨_, _, ep, Heap.get?_update_self _ ho (Obj.isFreed_of_dict (Obj.data_mapDict hd _)),
      hc.mapDict _, Obj.data_mapDict hd _, hk.modify _ _, ?_, ?_⟩ (Heap.SameBut.update ..))))
    · rw [stored, if_pos (any_of_findIdx_some (hidx ▸ hi))]
      have hl : (es.toList.findIdx? fun e => knd.is k e.key) = some i := by rw [← hi]; obtain ⟨l⟩ := es; simp
      have := hp.modify hn hl v
      obtain ⟨l⟩ := es
      simpa using this
    · rw [stored, if_pos (any_of_findIdx_some (hidx ▸ hi)), keys_map_store]; exact hn
  | none =>
    have hnot : k ∉ kvs.map (·.1) := not_mem_of_findIdx_none (hidx ▸ hi)
    have hany : ¬ (kvs.any fun kv => decide (kv.1 = k)) = true := by
      rw [List.any_eq_true]; rintro ⟨kv, hkv, he⟩
      exact hnot (List.mem_map.mpr ⟨kv, hkv, of_decide_eq_true he⟩)
    refine (wpAny_updateDictKeys (hz := hes) ho hd (hQ _ ⟨_, _, ep + 1, Heap.get?_update_self _ ho (Obj.isFreed_of_dict (Obj.data_mapDictKeys hd _)),
      hc.mapDictKeys _, Obj.data_mapDictKeys hd _, hk.push hkey _, ?_, ?_⟩ (Heap.SameBut.update ..)))
    · rw [stored, if_neg hany]
      have := hp.append hkey (knd.hash k) v
      obtain ⟨l⟩ := es
      simpa using this
    · rw [stored, if_neg hany, List.map_append, List.nodup_append]
      refine ⟨hn, by simp, ?_⟩
      intro a ha b hb
      simp only [List.map_cons, List.map_nil, List.mem_singleton] at hb
      subst hb
      exact fun e => hnot (e ▸ ha)
/-- the entries of o put into d, one after another -/
theorem wpAny_mergeMapping {d o : Addr} {kvs more : List (K × Value)} {Q : Unit → Shared → Prop} (hdo : d ≠ o) (hoS : (o == sysModules) = false) (hnr : ∀ k v a, knd.is k v = true → v ≠ .ref a)
    (hd : s.heap.DictOf knd d kvs) (ho : s.heap.DictOf knd o more)
    (hQ : ∀ h', h'.DictOf knd d (merged kvs more) → h'.DictOf knd o more → Heap.SameBut d s.heap h' → Q () { s with heap := h' })
    (hsz : kvs.length + more.length ≤ sizeLine) :
    wpAny (model prog w) A (mergeMapping d (.ref o) false) Q E s := by
  obtain ⟨od, esd, epd, hod, hcd, hdd, hkd, hpd, hnd⟩ := id hd
  obtain ⟨oo, eso, epo, hoo, hco, hdo', hko, hpo, hno⟩ := id ho
  have hlen : more.length = eso.size := by rw [← hpo.length]; simp
  unfold mergeMapping
  refine wpAny_bind (wpAny_isInstance ho.typeIs isSubtype_dict_dict ?_)
  rw [if_pos rfl]
  refine wpAny_bind (wpAny_specialOf ho.typeIs F.slot_dict_iter.lookup ?_)
  refine wpAny_bind (wpAny_pure ?_)
  have hbb : (some (Value.builtin "dict.__iter__") == some (Value.builtin "dict.__iter__")) = true := by rfl
  rw [hbb]
  dsimp only
  rw [if_neg (by rw [hoS]; exact Bool.false_ne_true)]
  refine wpAny_bind (wpAny_dictEntries hod hdd ?_)
  have rest : wpAny (model prog w) A (do
      let l ← dictEntries o
      let epoch ← dictEpoch o
      forIn (List.range l.size) PUnit.unit fun i (_ : PUnit) => (do
          let l' ← dictEntries o
          match l'[i]? with
            | some e => do
              holding [e.key, e.val] (dictPut d e.hash e.key e.val)
              let ep' ← dictEpoch o
              if (ep' != epoch) = true then do
                  (unsupported "dict.changed-during-merge" : Sem PUnit)
                  pure (ForInStep.yield PUnit.unit)
                else pure (ForInStep.yield PUnit.unit)
            | _ => do
              (unsupported "dict.changed-during-merge" : Sem PUnit)
              pure (ForInStep.yield PUnit.unit) : Sem (ForInStep PUnit))
      pure ()) Q E s := by
    refine wpAny_bind (wpAny_dictEntries hoo hdo' ?_)
    refine wpAny_bind (wpAny_dictEpoch hoo hdo' ?_)
    refine wpAny_bind ?_
    rw [List.range_eq_range']
    refine wpAny_forIn_list _
      (fun rest _ s' => ∃ h' i, s' = { s with heap := h' } ∧ rest = List.range' i (eso.size - i) ∧ i ≤ eso.size ∧ h'.DictOf knd d (merged kvs (more.take i)) ∧ h'.get? o = some oo ∧ Heap.SameBut d s.heap h')
      _ ?_ ?_ _ _ ⟨s.heap, 0, rfl, by simp, Nat.zero_le _, by simpa [merged] using hd, hoo, Heap.SameBut.refl _ _⟩
    · rintro x rest b s' ⟨h', i, rfl, hr, hi, hd', hoo', hs'⟩
      have hlt : i < eso.size := by
        rcases Nat.lt_or_ge i eso.size with h | h
        · exact h
        · rw [Nat.sub_eq_zero_of_le h] at hr; simp at hr
      obtain ⟨rfl, hrest⟩ : x = i ∧ rest = List.range' (i + 1) (eso.size - (i + 1)) := by
        have e : eso.size - i = (eso.size - (i + 1)) + 1 := by omega
        rw [e, List.range'_succ] at hr
        injection hr with h1 h2
        exact ⟨h1, h2⟩
      refine wpAny_bind (wpAny_dictEntries hoo' hdo' ?_)
      rw [Array.getElem?_eq_getElem hlt]
      obtain ⟨kv, hkv⟩ : ∃ kv, more[x]? = some kv := ⟨more[x]'(by rw [hlen]; exact hlt), List.getElem?_eq_getElem _⟩
      obtain ⟨k, v⟩ := kv
      obtain ⟨hkey, hval⟩ := hpo.get? (e := eso[x]) (by simp [hlt]) hkv
      obtain ⟨k', hkey', hhash⟩ := hko eso[x] (Array.getElem_mem hlt)
      obtain rfl : k' = k := knd.inj _ _ _ hkey' hkey
      show wpAny _ _ (holding [eso[x].key, eso[x].val] (dictPut d eso[x].hash eso[x].key eso[x].val) >>= _) _ _ _
      rw [hhash, hval]
      have hmx : (merged kvs (more.take x)).length ≤ sizeLine := by
        have e1 := merged_length_le kvs (more.take x)
        have e2 : (more.take x).length ≤ more.length := by rw [List.length_take]; omega
        omega
      refine wpAny_bind (wpAny_holding (wpAny_dictPut_pairs (hsz := hmx) hkey hd' fun h'' hd'' hs'' => ?_))
      have hoo'' : h''.get? o = some oo := (hs''.2 o (Ne.symm hdo)).trans hoo'
      refine wpAny_bind (wpAny_dictEpoch hoo'' hdo' ?_)
      rw [if_neg (by simp)]
      exact wpAny_pure ⟨h'', x + 1, rfl, hrest, hlt, by rw [merged_take_succ kvs more x (k', v) hkv]; exact hd'', hoo'', hs'.trans hs''⟩
    · rintro b s' ⟨h', i, rfl, hr, hi, hd', hoo', hs'⟩
      have hin : i = eso.size := by
        rcases Nat.lt_or_ge i eso.size with h | h
        · have e : eso.size - i = (eso.size - (i + 1)) + 1 := by omega
          rw [e, List.range'_succ] at hr; exact nomatch hr
        · exact Nat.le_antisymm hi h
      refine wpAny_pure (hQ h' ?_ ⟨oo, eso, epo, hoo', hco, hdo', hko, hpo, hno⟩ hs')
      rw [hin, ← hlen, List.take_length] at hd'; exact hd'
  split
  · refine wpAny_bind (wpAny_dictEntries hoo hdo' ?_)
    refine wpAny_bind ?_
    rw [← Array.forIn_toList]
    refine wpAny_forIn_list _ (fun rest _ s' => s' = s ∧ ∀ e ∈ rest, ∀ a, e.key ≠ .ref a) _ ?_ ?_ _ _ ⟨rfl, fun e he a => ?_⟩
    · rintro x rest b s' ⟨rfl, hr⟩
      have hx := hr x List.mem_cons_self
      cases hk : x.key with
      | ref a => exact absurd hk (hx a)
      | _ => exact wpAny_pure ⟨rfl, fun e he => hr e (List.mem_cons_of_mem _ he)⟩
    · rintro b s' ⟨rfl, _⟩
      exact rest
    · obtain ⟨k, hk, _⟩ := hko e (by simpa using he)
      exact hnr k _ a hk
  · exact rest
end
end PySem
end
section
set_option Elab.async false
set_option linter.all false
set_option maxRecDepth 100000
set_option maxHeartbeats 4000000
namespace MxL
open PySem PySem.Spec PyProof.Rows L2
/-- {**a, **b}: a new empty dict first, then a, then b -/
def tStar2 (ta tb : TE) : TE := fun σ H Q => ∀ p, H p = none → ta σ (upd H p (.dK [])) fun x H1 => ∃ a kvs, x = .ref a ∧ H1 p = some (.dK []) ∧ H1 a = some (.dK kvs) ∧ a ≠ p ∧ kvs.length ≤ 1000 ∧
  tb σ (upd H1 p (.dK (mergeK [] kvs))) fun y H2 => ∃ b ls ks, y = .ref b ∧ H2 p = some (.dK ks) ∧ H2 b = some (.dK ls) ∧ b ≠ p ∧ ks.length ≤ 1000 ∧ ls.length ≤ 1000 ∧ Q (.ref p) (upd H2 p (.dK (mergeK ks ls)))
theorem pe_star2 {X : Cx} {e1 e2 : Expr} {ta tb : TE} {pos : Pos} (ha : PE X e1 ta) (hb : PE X e2 tb) : PE X (.Dict [none, none] [e1, e2] pos) (tStar2 ta tb) := by
  refine ⟨fun pins s σ H Q I h => ?_⟩
  rw [arm_eval_Dict]
  refine wpAny_bind (wpAny_standAt ?_)
  show wpAny _ _ (dictDisplay [(none, do let x ← eval e1 X.env; standAt pos; pure x), (none, do let x ← eval e2 X.env; standAt pos; pure x)]) _ _ _
  unfold dictDisplay
  dsimp only
  simp only [List.forIn_cons, List.forIn_nil, bind_assoc, pure_bind, List.isEmpty_nil, if_true]
  have hnr : ∀ (k : Key) (v : Value) (a : Addr), (mixKind X.prog X.w).is k v = true → v ≠ .ref a := fun k v a hk e => by
    subst e
    rcases keyIs_shape hk with ⟨i, t, _, e⟩ | ⟨x, t, _, e⟩ <;> cases e
  have step : ∀ {s1 : Shared} {H1 : Hp} {p a : Addr} {ks kvs : List (Key × V)} {Q2 : Unit → Shared → Prop}, Inv X pins σ H1 s1 → H1 p = some (.dK ks) → H1 a = some (.dK kvs) → a ≠ p → ks.length ≤ 1000 → kvs.length ≤ 1000 →
      (∀ s2, Inv X pins σ (upd H1 p (.dK (mergeK ks kvs))) s2 → Q2 () s2) → wpAny (model X.prog X.w) X.A (mergeMapping p (.ref a) false) Q2 (fun _ _ => False) s1 := by
    intro s1 H1 p a ks kvs Q2 I1 hp ha hne hl1 hl2 k
    obtain ⟨z, hd, vs0, r0, dd⟩ := dk_of I1.hok hp
    obtain ⟨z2, hd2, vs1, r1, dd2⟩ := dk_of I1.hok ha
    have l0 : vs0.length = ks.length := (Paired.length r0).symm
    have l1 : vs1.length = kvs.length := (Paired.length r1).symm
    refine wpAny_mergeMapping (knd := mixKind X.prog X.w) hne.symm hd2 hnr dd dd2 (fun h' dd' _ hs => k _ ?_) (by rw [l0, l1, sizeLine_eq]; omega)
    have hz : (mergeK ks kvs).length ≤ sizeLine := by
      have h1 := length_mergeK kvs ks
      rw [sizeLine_eq]; omega
    have he : ∃ q, h'.get? p = some q := let ⟨q, _, _, hq, _⟩ := dd'; ⟨q, hq⟩
    exact d_write I1 (by rw [hp]; exact True.intro) hs he (dk_new hz hd (r1.merge r0) dd')
  refine wpAny_bind (wpAny_alloc ?_)
  have hn := I.hok.fresh (Nat.le_refl s.heap.objs.size)
  have I1 := I.laid (a := s.heap.objs.size) (o := .dK []) (h' := s.heap.push { cls := .type "dict", data := .dict #[] }) (t' := s.toks) (fun _ _ q => Heap.get?_push_of_some _ q) (Nat.le_refl _) (dk_empty s.heap I.big)
  refine wpAny_bind (wpAny_holding (wpAny_bind (thn (ha.run pins _ σ _ _ I1 (h _ hn)) fun v s1 ⟨x, H1, I2, rx, a, kvs, ex, hp, ha1, hne, hl, q⟩ => wpAny_bind (wpAny_standAt (wpAny_pure ?_)))))
  subst ex
  obtain rfl : v = Value.ref a := rx
  refine wpAny_bind (wpAny_onRaise (wpAny_tryCatch (wpAny_onRaise (wpAny_holding (wpAny_mono (step (Q2 := fun _ s2 => Inv X pins σ (upd H1 s.heap.objs.size (.dK (mergeK [] kvs))) s2) I2 hp ha1 hne (by simp) hl fun s2 I3 => I3) (fun _ s2 I3 => ?_) fun _ _ z => z.elim)))))
  refine wpAny_bind (wpAny_holding (wpAny_bind (thn (hb.run pins _ σ _ _ I3 q) fun v s3 ⟨y, H2, I4, ry, b, ls, ks, ey, hp2, hb1, hne2, hl2, hl3, q2⟩ => wpAny_bind (wpAny_standAt (wpAny_pure ?_)))))
  subst ey
  obtain rfl : v = Value.ref b := ry
  refine wpAny_bind (wpAny_onRaise (wpAny_tryCatch (wpAny_onRaise (wpAny_holding (wpAny_mono (step (Q2 := fun _ s2 => Inv X pins σ (upd H2 s.heap.objs.size (.dK (mergeK ks ls))) s2) I4 hp2 hb1 hne2 hl2 hl3 fun s2 I5 => I5) (fun _ s2 I5 => ?_) fun _ _ z => z.elim)))))
  exact wpAny_pure ⟨.ref s.heap.objs.size, _, I5, rfl, q2⟩
end MxL
end
section
set_option Elab.async false
set_option linter.all false
set_option maxRecDepth 100000
set_option maxHeartbeats 4000000
namespace MxL
open PySem PySem.Spec PyProof.Rows L2
/-- {t: v}, t a tuple of ints and texts; the new dict stands empty while both are made -/
def tDispT1 (tk tv : TE) : TE := fun σ H Q => ∀ p, H p = none → tk σ (upd H p (.dT [])) fun x H1 => tv σ H1 fun y H2 => ∃ k b, x = .ref b ∧ H2 p = some (.dT []) ∧ H2 b = some (.tup (k.map kV)) ∧ Q (.ref p) (upd H2 p (.dT [(k, y)]))
theorem pe_dispT1 {X : Cx} {e1 e2 : Expr} {tk tv : TE} {pos : Pos} (hu : X.A.units + 64 < cLine) (hk : PE X e1 tk) (hv : PE X e2 tv) : PE X (.Dict [some e1] [e2] pos) (tDispT1 tk tv) := by
  refine ⟨fun pins s σ H Q I h => ?_⟩
  have hn := I.hok.fresh (Nat.le_refl s.heap.objs.size)
  have I1 := I.laid (a := s.heap.objs.size) (o := .dT []) (h' := s.heap.push { cls := .type "dict", data := .dict #[] }) (t' := s.toks) (fun _ _ q => Heap.get?_push_of_some _ q) (Nat.le_refl _) (dt_empty s.heap I.big)
  rw [arm_eval_Dict]
  refine wpAny_bind (wpAny_standAt ?_)
  show wpAny _ _ (dictDisplay [(some (eval e1 X.env), do let x ← eval e2 X.env; standAt pos; pure x)]) _ _ _
  have ep := dictDisplay_pairs [(eval e1 X.env, do let x ← eval e2 X.env; standAt pos; pure x)] (by simp) (by simp)
  rw [List.map_cons, List.map_nil] at ep
  rw [ep]
  have h0 : X.A.units < cLine := by omega
  have hroom : (tupleKind (mixKind X.prog X.w)).room X.A := h0
  refine wpAny_bind (wpAny_subDictH (knd := tupleKind (mixKind X.prog X.w)) hroom (by simp) ?_)
  refine evalPairs_cons (thn (hk.run pins _ σ _ _ I1 (h _ hn)) fun u s1 ⟨x, H1, I2, rx, q1⟩ => ?_)
  refine wpAny_bind (thn (hv.run pins s1 σ H1 _ I2 q1) fun w2 s2 ⟨y, H2, I3, ry, k, b, ex, e, eb, q2⟩ => wpAny_bind (wpAny_standAt (wpAny_pure ?_)))
  refine evalPairs_nil ?_
  subst ex
  obtain rfl : u = Value.ref b := rx
  obtain ⟨z, hd, xs, r, dd⟩ := dt_of I3.hok e
  cases r
  refine ⟨[(k, b, w2)], ⟨rfl, rfl, key_of I3.hok eb, trivial⟩, dd, fun h' tk dd' hs => wpAny_pure ⟨.ref s.heap.objs.size, _, ?_, rfl, q2⟩⟩
  have he : ∃ q, h'.get? s.heap.objs.size = some q := let ⟨q, _, _, hq, _⟩ := dd'; ⟨q, hq⟩
  refine d_write I3 (by rw [e]; exact True.intro) hs he ?_
  obtain ⟨o, es, ep, g1, g2, g3, g4, g5, g6⟩ := dd'
  refine ⟨by show 1 ≤ sizeLine; rw [sizeLine_eq]; decide, hd, [(k, b, w2)], .cons ⟨rfl, ?_, ry⟩ .nil, o, es, ep, g1, g2, g3, g4, g6⟩
  rw [upd_ne (ne_of eb e (by intro z; cases z))]
  exact eb
end MxL
end
section
set_option Elab.async false
set_option linter.all false
set_option maxRecDepth 100000
set_option maxHeartbeats 4000000
namespace MxP
open PySem PySem.Spec PyProof.Rows L2 MxT MxL
open Evl (Ex)

/-! ### what a value is -/
def isI : PyData → Bool
  | .int _ => true
  | .bool _ => true
  | _ => false
def isB : PyData → Bool
  | .bool _ => true
  | _ => false
def isT : PyData → Bool
  | .tuple _ => true
  | _ => false
def isL : PyData → Bool
  | .list _ => true
  | _ => false
def isS : PyData → Bool
  | .str _ => true
  | _ => false
theorem kI : ∀ d : PyData, kitB (tyName d) "int" = some (isI d)
  | .none => (by decide +kernel : kitB "NoneType" "int" = some false)
  | .bool _ => (by decide +kernel : kitB "bool" "int" = some true)
  | .int _ => (by decide +kernel : kitB "int" "int" = some true)
  | .str _ => (by decide +kernel : kitB "str" "int" = some false)
  | .list _ => (by decide +kernel : kitB "list" "int" = some false)
  | .tuple _ => (by decide +kernel : kitB "tuple" "int" = some false)
  | .dict _ => (by decide +kernel : kitB "dict" "int" = some false)
theorem kB : ∀ d : PyData, kitB (tyName d) "bool" = some (isB d)
  | .none => (by decide +kernel : kitB "NoneType" "bool" = some false)
  | .bool _ => (by decide +kernel : kitB "bool" "bool" = some true)
  | .int _ => (by decide +kernel : kitB "int" "bool" = some false)
  | .str _ => (by decide +kernel : kitB "str" "bool" = some false)
  | .list _ => (by decide +kernel : kitB "list" "bool" = some false)
  | .tuple _ => (by decide +kernel : kitB "tuple" "bool" = some false)
  | .dict _ => (by decide +kernel : kitB "dict" "bool" = some false)
theorem kT : ∀ d : PyData, kitB (tyName d) "tuple" = some (isT d)
  | .none => (by decide +kernel : kitB "NoneType" "tuple" = some false)
  | .bool _ => (by decide +kernel : kitB "bool" "tuple" = some false)
  | .int _ => (by decide +kernel : kitB "int" "tuple" = some false)
  | .str _ => (by decide +kernel : kitB "str" "tuple" = some false)
  | .list _ => (by decide +kernel : kitB "list" "tuple" = some false)
  | .tuple _ => (by decide +kernel : kitB "tuple" "tuple" = some true)
  | .dict _ => (by decide +kernel : kitB "dict" "tuple" = some false)
theorem kL : ∀ d : PyData, kitB (tyName d) "list" = some (isL d)
  | .none => (by decide +kernel : kitB "NoneType" "list" = some false)
  | .bool _ => (by decide +kernel : kitB "bool" "list" = some false)
  | .int _ => (by decide +kernel : kitB "int" "list" = some false)
  | .str _ => (by decide +kernel : kitB "str" "list" = some false)
  | .list _ => (by decide +kernel : kitB "list" "list" = some true)
  | .tuple _ => (by decide +kernel : kitB "tuple" "list" = some false)
  | .dict _ => (by decide +kernel : kitB "dict" "list" = some false)
theorem kS : ∀ d : PyData, kitB (tyName d) "str" = some (isS d)
  | .none => (by decide +kernel : kitB "NoneType" "str" = some false)
  | .bool _ => (by decide +kernel : kitB "bool" "str" = some false)
  | .int _ => (by decide +kernel : kitB "int" "str" = some false)
  | .str _ => (by decide +kernel : kitB "str" "str" = some true)
  | .list _ => (by decide +kernel : kitB "list" "str" = some false)
  | .tuple _ => (by decide +kernel : kitB "tuple" "str" = some false)
  | .dict _ => (by decide +kernel : kitB "dict" "str" = some false)
section
variable {P : Program} {w : World} {K : PySem.W.Frag} {mg : Str → Option Value} {base : Heap}

/-! ### is_integer, is_in, is_list -/
def spIsInteger : Sp := spD (fun ds => ∃ d, ds = [d]) (fun ds r => ∀ d, ds = [d] → r = .bool (isI d && !isB d))
theorem scIsInteger : FnScope ["value"] ["value"] (defScope sIsInteger) := ⟨rfl, rfl, rfl, by decide +kernel, rfl, by decide +kernel, by decide +kernel⟩
theorem bdIsInteger : ∀ (kV doc pm : Value) (an : Option Addr) (cdv ct : Value) (us : List Value), us.length = (["value"] : List Str).length → bindArgs (PySem.W.fnOf "is_integer" "is_integer" (defArgs sIsInteger) (defBody sIsInteger) (defScope sIsInteger) .none kV doc pm an cdv ct) ⟨us, []⟩ = pure ((["value"] : List Str).zip us) := fun _ _ _ _ _ _ us hl => match us, hl with | [_], _ => rfl
theorem ok_is_integer (T : Tx K mg) : Has P w K mg base 1 "is_integer" ["value"] spIsInteger := by
  refine has_ok T.fIsInteger scIsInteger (fun ds ⟨d, h⟩ => by rw [h]; rfl) bdIsInteger fun f cdv A outer s G H vs ds Q E hr eg hvs hp q => ⟨_, (pss_one (ps_ret (pe_and (pe_callB call_isi (by rfl) T.isinstance bb_isinstance (pa_cons (pv 0) (pa_cons (pe_bltn (v := .ty "int") (by rfl) T.int bb_int rfl) pa_nil))) (pe_one (pe_not (pe_callB call_isi (by rfl) T.isinstance bb_isinstance (pa_cons (pv 0) (pa_cons (pe_bltn (v := .ty "bool") (by rfl) T.bool bb_bool rfl) pa_nil)))))))), ?_⟩
  obtain ⟨d, rfl⟩ := hp
  obtain ⟨v, rfl, hv⟩ := args1 hvs
  refine r_ret (Φ := fun r => r = .bool (isI d && !isB d)) ?_ eg fun v G' H' r g hd hr => q v G' H' r g hd fun d' e => by cases e; exact hr
  exact ed_andV (ed_isi (kI d) (ed_var rfl hv)) fun _ => ed_notV (ed_isi (kB d) (ed_var rfl hv))
def inRange (d : PyData) (i j : Int) : Bool := match d with
  | .int n => decide (i ≤ n) && decide (n ≤ j)
  | _ => false
def spIsIn : Sp := spD (fun ds => ∃ d i j, ds = [d, .int i, .int j]) (fun ds r => ∀ d i j, ds = [d, .int i, .int j] → r = .bool (inRange d i j))
theorem args3 {d e c : PyData} {vs : List V} {G1 : Hp} (h : DaAll G1 vs [d, e, c]) : ∃ v w u, vs = [v, w, u] ∧ Da G1 v d ∧ Da G1 w e ∧ Da G1 u c := by
  cases h with
  | cons h r => cases r with
    | cons h' r => cases r with
      | cons h'' r => cases r; exact ⟨_, _, _, rfl, h, h', h''⟩
theorem args4 {d e c b : PyData} {vs : List V} {G1 : Hp} (h : DaAll G1 vs [d, e, c, b]) : ∃ v w u t, vs = [v, w, u, t] ∧ Da G1 v d ∧ Da G1 w e ∧ Da G1 u c ∧ Da G1 t b := by
  cases h with
  | cons h r => cases r with
    | cons h' r => cases r with
      | cons h'' r => cases r with
        | cons h3 r => cases r; exact ⟨_, _, _, _, rfl, h, h', h'', h3⟩
theorem scIsIn : FnScope ["value", "least", "most"] ["value", "least", "most"] (defScope sIsIn) := ⟨rfl, rfl, rfl, by decide +kernel, rfl, by decide +kernel, by decide +kernel⟩
theorem bdIsIn : ∀ (kV doc pm : Value) (an : Option Addr) (cdv ct : Value) (us : List Value), us.length = (["value", "least", "most"] : List Str).length → bindArgs (PySem.W.fnOf "is_in" "is_in" (defArgs sIsIn) (defBody sIsIn) (defScope sIsIn) .none kV doc pm an cdv ct) ⟨us, []⟩ = pure ((["value", "least", "most"] : List Str).zip us) := fun _ _ _ _ _ _ us hl => match us, hl with | [_, _, _], _ => rfl
theorem ok_is_in (T : Tx K mg) (FIsInteger : Has P w K mg base 1 "is_integer" ["value"] spIsInteger) : Has P w K mg base 2 "is_in" ["value", "least", "most"] spIsIn := by
  refine has_ok T.fIsIn scIsIn (fun ds ⟨d, i, j, h⟩ => by rw [h]; rfl) bdIsIn fun f cdv A outer s G H vs ds Q E hr eg hvs hp q => ⟨_, (pss_one (ps_ret (pe_and (pe_callH FIsInteger (hr.mono (by decide)) (pa_cons (pv 0) pa_nil)) (pe_one (pe_chain op_le op_le (pv 1) (pv 0) (pv 2)))))), ?_⟩
  obtain ⟨d, i, j, rfl⟩ := hp
  obtain ⟨v, v1, v2, rfl, hv, h1, h2⟩ := args3 hvs
  refine r_ret (Φ := fun r => r = .bool (inRange d i j)) ?_ eg fun v G' H' r g hd hr => q v G' H' r g hd fun d' i' j' e => by cases e; exact hr
  have c1 : EvD (tCall spIsInteger [] E0 (tCons (tVar 0) tNil)) (start ["value", "least", "most"] [v, v1, v2]) G (.bool (isI d && !isB d)) :=
    ed_call (es_cons (ed_var rfl hv) es_nil) ⟨d, rfl⟩ fun r h => h d rfl
  cases d with
  | int n => exact EvD.of (ed_andV c1 fun _ => ed_chain (ed_var rfl h1) (ed_var rfl hv) (ed_var rfl h2)) (by simp [inRange, isI, isB])
  | _ => exact EvD.of (ed_andV (b := true) c1 fun h => by simp [isI, isB] at h) (by simp [inRange, isI, isB])
def lenIn (d : PyData) (i j : Int) : Bool := match d with
  | .tuple xs => decide (i ≤ ((xs.length : Nat) : Int)) && decide (((xs.length : Nat) : Int) ≤ j)
  | _ => false
def spIsList : Sp := spD (fun ds => ∃ d i j, ds = [d, .int i, .int j]) (fun ds r => ∀ d i j, ds = [d, .int i, .int j] → r = .bool (lenIn d i j))
theorem scIsList : FnScope ["value", "least", "most"] ["value", "least", "most"] (defScope sIsList) := ⟨rfl, rfl, rfl, by decide +kernel, rfl, by decide +kernel, by decide +kernel⟩
theorem bdIsList : ∀ (kV doc pm : Value) (an : Option Addr) (cdv ct : Value) (us : List Value), us.length = (["value", "least", "most"] : List Str).length → bindArgs (PySem.W.fnOf "is_list" "is_list" (defArgs sIsList) (defBody sIsList) (defScope sIsList) .none kV doc pm an cdv ct) ⟨us, []⟩ = pure ((["value", "least", "most"] : List Str).zip us) := fun _ _ _ _ _ _ us hl => match us, hl with | [_, _, _], _ => rfl
theorem ok_is_list (T : Tx K mg) : Has P w K mg base 1 "is_list" ["value", "least", "most"] spIsList := by
  refine has_ok T.fIsList scIsList (fun ds ⟨d, i, j, h⟩ => by rw [h]; rfl) bdIsList fun f cdv A outer s G H vs ds Q E hr eg hvs hp q => ⟨_, (pss_one (ps_ret (pe_and (pe_callB call_isi (by rfl) T.isinstance bb_isinstance (pa_cons (pv 0) (pa_cons (pe_bltn (v := .ty "tuple") (by rfl) T.tuple bb_tuple rfl) pa_nil))) (pe_one (pe_chain op_le op_le (pv 1) (pe_callB call_len_seq (by rfl) T.len bb_len (pa_cons (pv 0) pa_nil)) (pv 2)))))), ?_⟩
  obtain ⟨d, i, j, rfl⟩ := hp
  obtain ⟨v, v1, v2, rfl, hv, h1, h2⟩ := args3 hvs
  refine r_ret (Φ := fun r => r = .bool (lenIn d i j)) ?_ eg fun v G' H' r g hd hr => q v G' H' r g hd fun d' i' j' e => by cases e; exact hr
  cases d with
  | tuple xs => exact EvD.of (ed_andV (ed_isi (kT _) (ed_var rfl hv)) fun _ => ed_chain (ed_var rfl h1) (ed_lenT (ed_var rfl hv)) (ed_var rfl h2)) (by simp [lenIn, isT])
  | _ => exact EvD.of (ed_andV (b := true) (ed_isi (kT _) (ed_var rfl hv)) fun h => by simp [isT] at h) (by simp [lenIn, isT])
end
end MxP
end
section
set_option Elab.async false
set_option linter.all false
set_option maxRecDepth 100000
set_option maxHeartbeats 4000000
/-! Houses, states, rows as data; readings over whole numbers from 0 on. -/
namespace MxP
open PySem PySem.Spec PyProof.Rows L2 MxT MxL
open Evl (Ex)
open Mx (at_ nb Rows)
abbrev NSt := List Nat

def dN (n : Nat) : PyData := .int (n : Nat)
def dT (l : List Nat) : PyData := .tuple (l.map dN)
def dL (l : List Nat) : PyData := .list (l.map dN)
def dRows (r : List (List Nat)) : PyData := .list (r.map dL)
def dDoor (p : Nat × Nat) : PyData := .tuple [dN p.1, dN p.2]
def dHouse (n : Nat) (ds : List (Nat × Nat)) : PyData := .tuple [dN n, .tuple (ds.map dDoor)]
theorem mapN (l : List Nat) : l.map dN = (l.map fun n => ((n : Nat) : Int)).map PyData.int := by rw [List.map_map]; rfl
theorem dN_inj {a b : Nat} (h : dN a = dN b) : a = b := by
  have := PyData.int.inj h
  omega
theorem mapN_inj : ∀ {a b : List Nat}, a.map dN = b.map dN → a = b
  | [], [], _ => rfl
  | [], _ :: _, h => by cases h
  | _ :: _, [], h => by cases h
  | x :: a, y :: b, h => by
    rw [List.map_cons, List.map_cons] at h
    have h1 := List.cons.inj h
    rw [dN_inj h1.1, mapN_inj h1.2]
theorem dT_inj {a b : List Nat} (h : dT a = dT b) : a = b := mapN_inj (PyData.tuple.inj h)
theorem dL_inj {a b : List Nat} (h : dL a = dL b) : a = b := mapN_inj (PyData.list.inj h)

/-! ### no dicts; shapes -/
theorem ndN (n : Nat) : noDict (dN n) = true := by simp [dN, noDict]
theorem ndsN : ∀ l : List Nat, noDicts (l.map dN) = true
  | [] => by simp [noDicts]
  | n :: l => by rw [List.map_cons, noDicts, ndN, ndsN l]; rfl
theorem ndT (l : List Nat) : noDict (dT l) = true := by unfold dT; rw [noDict]; exact ndsN l
theorem ndL (l : List Nat) : noDict (dL l) = true := by unfold dL; rw [noDict]; exact ndsN l
theorem ndsT : ∀ l : List (List Nat), noDicts (l.map dT) = true
  | [] => by simp [noDicts]
  | n :: l => by rw [List.map_cons, noDicts, ndT, ndsT l]; rfl
theorem ndsDoor : ∀ l : List (Nat × Nat), noDicts (l.map dDoor) = true
  | [] => by simp [noDicts]
  | n :: l => by rw [List.map_cons, noDicts, ndsDoor l]; simp [dDoor, noDict, noDicts, dN]
theorem layN : ∀ l : List Nat, PyData.canLayAll0 (l.map dN) = true
  | [] => by simp [PyData.canLayAll0]
  | n :: l => by simp [PyData.canLayAll0, layN l, dN, PyData.canLay0]
theorem layT (l : List Nat) : (dT l).canLay0 = true := by simp [dT, PyData.canLay0, layN l]
theorem layTs : ∀ l : List (List Nat), PyData.canLayAll0 (l.map dT) = true
  | [] => by simp [PyData.canLayAll0]
  | n :: l => by simp [PyData.canLayAll0, layTs l, layT n]
theorem layDs : ∀ l : List (Nat × Nat), PyData.canLayAll0 (l.map dDoor) = true
  | [] => by simp [PyData.canLayAll0]
  | n :: l => by simp [PyData.canLayAll0, layDs l, dDoor, PyData.canLay0, dN]
theorem depN : ∀ l : List Nat, PyData.depthAll (l.map dN) = 0
  | [] => by simp [PyData.depthAll]
  | n :: l => by simp [PyData.depthAll, depN l, dN, PyData.depth]
theorem depT (l : List Nat) : (dT l).depth = 1 := by simp [dT, PyData.depth, depN l]
theorem depTs : ∀ l : List (List Nat), PyData.depthAll (l.map dT) ≤ 1
  | [] => by simp [PyData.depthAll]
  | n :: l => by
    have := depTs l
    have := depT n
    simp only [List.map_cons, PyData.depthAll]
    omega
theorem depDs : ∀ l : List (Nat × Nat), PyData.depthAll (l.map dDoor) ≤ 1
  | [] => by simp [PyData.depthAll]
  | n :: l => by
    have := depDs l
    have : (dDoor n).depth = 1 := by simp [dDoor, PyData.depth, PyData.depthAll, dN]
    simp only [List.map_cons, PyData.depthAll]
    omega
theorem shaped_of {d : PyData} (h : d.canLay0 = true) (h2 : d.depth ≤ 64) : SeqAt.shaped d = true := by
  show (d.canLay0 && decide (d.depth ≤ 64)) = true
  rw [h, decide_eq_true h2]; rfl
theorem shT (l : List Nat) : SeqAt.shaped (dT l) = true := shaped_of (layT l) (by rw [depT]; decide)
theorem shL (l : List Nat) : SeqAt.shaped (dL l) = true := shaped_of (by simp [dL, PyData.canLay0, layN l]) (by simp [dL, PyData.depth, depN l])
theorem shLT (l : List (List Nat)) : SeqAt.shaped (.list (l.map dT)) = true := shaped_of (by simp [PyData.canLay0, layTs l]) (by have := depTs l; simp only [PyData.depth]; omega)
theorem shLD (l : List (Nat × Nat)) : SeqAt.shaped (.list (l.map dDoor)) = true := shaped_of (by simp [PyData.canLay0, layDs l]) (by have := depDs l; simp only [PyData.depth]; omega)
theorem eqvAllN : ∀ a b : List Nat, PyData.eqvAll (a.map dN) (b.map dN) = decide (a = b)
  | [], [] => by simp [PyData.eqvAll]
  | [], _ :: _ => by simp [PyData.eqvAll]
  | _ :: _, [] => by simp [PyData.eqvAll]
  | x :: a, y :: b => by
    rw [List.map_cons, List.map_cons, PyData.eqvAll, eqvAllN a b]
    have e : PyData.eqv (dN x) (dN y) = decide (x = y) := by
      show (((x : Nat) : Int) == ((y : Nat) : Int)) = _
      by_cases h : x = y
      · subst h; simp
      · rw [decide_eq_false h]; exact beq_eq_false_iff_ne.mpr (by omega)
    rw [e]
    by_cases h : x = y <;> by_cases h2 : a = b <;> simp [h, h2]
theorem eqvT (a b : List Nat) : PyData.eqv (dT a) (dT b) = decide (a = b) := by unfold dT; rw [PyData.eqv]; exact eqvAllN a b
theorem eqvL (a b : List Nat) : PyData.eqv (dL a) (dL b) = decide (a = b) := by unfold dL; rw [PyData.eqv]; exact eqvAllN a b

section
variable {K : PySem.W.Frag} {σ : L2.St} {G : Hp} {ta tb tc te : TE} {a b c : Nat} {l : List Nat}
theorem et_yes : EvT tYes σ G true := fun H _ Q k => k H (Ex.refl H)
/-! ### items -/
theorem ed_at {s : List Nat} {x : Nat} (hx : x < s.length) (ha : EvD ta σ G (dT s)) (hb : EvD tb σ G (dN x)) : EvD (tOp (rIxT K) ta tb) σ G (dN (at_ s x)) :=
  ed_ixT (ds := s.map dN) (atN (by rw [List.getElem?_map, Mx.at_lt hx]; rfl)) ha hb
theorem nb_lt {rows : Rows} {x : Nat} (hx : x < rows.length) : rows[x]? = some (nb rows x) := by
  unfold nb
  rw [List.getD_eq_getElem?_getD, List.getElem?_eq_getElem hx]
  rfl
theorem ed_row {rows : Rows} {x : Nat} (hx : x < rows.length) (ha : EvD ta σ G (dRows rows)) (hb : EvD tb σ G (dN x)) : EvD (tOp (rIxL K) ta tb) σ G (dL (nb rows x)) :=
  ed_ixL (ds := rows.map dL) (atN (by rw [List.getElem?_map, nb_lt hx]; rfl)) ha hb
theorem ed_h0 {n : Nat} {ds : List (Nat × Nat)} (ha : EvD ta σ G (dHouse n ds)) : EvD (tOp (rIxT K) ta (tC (.int 0))) σ G (dN n) :=
  ed_ixT (i := 0) (atI_nat (j := 0) rfl) ha ed_i
theorem ed_h1 {n : Nat} {ds : List (Nat × Nat)} (ha : EvD ta σ G (dHouse n ds)) : EvD (tOp (rIxT K) ta (tC (.int 1))) σ G (.tuple (ds.map dDoor)) :=
  ed_ixT (i := 1) (atI_nat (j := 1) rfl) ha ed_i
theorem ed_d0 {p : Nat × Nat} (ha : EvD ta σ G (dDoor p)) : EvD (tOp (rIxT K) ta (tC (.int 0))) σ G (dN p.1) :=
  ed_ixT (i := 0) (atI_nat (j := 0) rfl) ha ed_i
theorem ed_d1 {p : Nat × Nat} (ha : EvD ta σ G (dDoor p)) : EvD (tOp (rIxT K) ta (tC (.int 1))) σ G (dN p.2) :=
  ed_ixT (i := 1) (atI_nat (j := 1) rfl) ha ed_i
/-! ### numbers -/
theorem ed_n (n : Nat) : EvD (tC (.int (n : Nat))) σ G (dN n) := ed_i
theorem ed_add (ha : EvD ta σ G (dN a)) (hb : EvD tb σ G (dN b)) : EvD (tOp (rI0 fun i j => .int (i + j)) ta tb) σ G (dN (a + b)) :=
  EvD.of (ed_II (g := fun i j => i + j) ha hb) (by unfold dN; congr 1)
theorem ed_sub (h : b ≤ a) (ha : EvD ta σ G (dN a)) (hb : EvD tb σ G (dN b)) : EvD (tOp (rI0 fun i j => .int (i - j)) ta tb) σ G (dN (a - b)) :=
  EvD.of (ed_II (g := fun i j => i - j) ha hb) (by unfold dN; congr 1; omega)
theorem ed_lt (ha : EvD ta σ G (dN a)) (hb : EvD tb σ G (dN b)) : EvD (tOp (rI0 fun i j => .bl (decide (i < j))) ta tb) σ G (.bool (decide (a < b))) :=
  EvD.of (ed_IB (g := fun i j => decide (i < j)) ha hb) (by congr 1; exact decide_eq_decide.mpr (by omega))
theorem ed_le (ha : EvD ta σ G (dN a)) (hb : EvD tb σ G (dN b)) : EvD (tOp (rI0 fun i j => .bl (decide (i ≤ j))) ta tb) σ G (.bool (decide (a ≤ b))) :=
  EvD.of (ed_IB (g := fun i j => decide (i ≤ j)) ha hb) (by congr 1; exact decide_eq_decide.mpr (by omega))
theorem ed_gt (ha : EvD ta σ G (dN a)) (hb : EvD tb σ G (dN b)) : EvD (tOp (rI0 fun i j => .bl (decide (j < i))) ta tb) σ G (.bool (decide (b < a))) :=
  EvD.of (ed_IB (g := fun i j => decide (j < i)) ha hb) (by congr 1; exact decide_eq_decide.mpr (by omega))
theorem ed_ge (ha : EvD ta σ G (dN a)) (hb : EvD tb σ G (dN b)) : EvD (tOp (rI0 fun i j => .bl (decide (j ≤ i))) ta tb) σ G (.bool (decide (b ≤ a))) :=
  EvD.of (ed_IB (g := fun i j => decide (j ≤ i)) ha hb) (by congr 1; exact decide_eq_decide.mpr (by omega))
theorem ed_eqN (ha : EvD ta σ G (dN a)) (hb : EvD tb σ G (dN b)) : EvD (tOp rEq ta tb) σ G (.bool (decide (a = b))) :=
  EvD.of (ed_eqI ha hb) (by congr 1; exact decide_eq_decide.mpr (by omega))
theorem ed_neN (ha : EvD ta σ G (dN a)) (hb : EvD tb σ G (dN b)) : EvD (tOp rNe ta tb) σ G (.bool (!decide (a = b))) :=
  EvD.of (ed_neI ha hb) (by congr 2; exact decide_eq_decide.mpr (by omega))
/-! ### membership -/
theorem mem_cast (x : Nat) (l : List Nat) : ((x : Nat) : Int) ∈ (l.map fun n => ((n : Nat) : Int)) ↔ x ∈ l := by
  simp only [List.mem_map]
  constructor
  · rintro ⟨y, hy, e⟩
    have : y = x := by omega
    exact this ▸ hy
  · intro h; exact ⟨x, h, rfl⟩
theorem ed_inTN (ha : EvD ta σ G (dN a)) (hb : EvD tb σ G (dT l)) : EvD (tOp (rIn K false) ta tb) σ G (.bool (decide (a ∈ l))) := by
  unfold dT at hb; rw [mapN] at hb
  exact EvD.of (ed_inT ha hb) (by congr 1; exact decide_eq_decide.mpr (mem_cast a l))
theorem ed_ninTN (ha : EvD ta σ G (dN a)) (hb : EvD tb σ G (dT l)) : EvD (tOp (rIn K true) ta tb) σ G (.bool (!decide (a ∈ l))) := by
  unfold dT at hb; rw [mapN] at hb
  exact EvD.of (ed_ninT ha hb) (by congr 2; exact decide_eq_decide.mpr (mem_cast a l))
theorem ed_inLN (ha : EvD ta σ G (dN a)) (hb : EvD tb σ G (dL l)) : EvD (tOp (rIn K false) ta tb) σ G (.bool (decide (a ∈ l))) := by
  unfold dL at hb; rw [mapN] at hb
  exact EvD.of (ed_inL ha hb) (by congr 1; exact decide_eq_decide.mpr (mem_cast a l))
theorem ed_ninLN (ha : EvD ta σ G (dN a)) (hb : EvD tb σ G (dL l)) : EvD (tOp (rIn K true) ta tb) σ G (.bool (!decide (a ∈ l))) := by
  unfold dL at hb; rw [mapN] at hb
  exact EvD.of (ed_ninL ha hb) (by congr 2; exact decide_eq_decide.mpr (mem_cast a l))
theorem ed_eqT {a b : List Nat} (ha : EvD ta σ G (dT a)) (hb : EvD tb σ G (dT b)) : EvD (tOp (rEqD K) ta tb) σ G (.bool (decide (a = b))) :=
  EvD.of (ed_eqD (ndT a) (ndT b) (shT a) (shT b) ha hb) (by rw [eqvT])
theorem ed_neT {a b : List Nat} (ha : EvD ta σ G (dT a)) (hb : EvD tb σ G (dT b)) : EvD (tOp (rNeD K) ta tb) σ G (.bool (!decide (a = b))) :=
  EvD.of (ed_neD (ndT a) (ndT b) (shT a) (shT b) ha hb) (by rw [eqvT])
theorem ed_neL {a b : List Nat} (ha : EvD ta σ G (dL a)) (hb : EvD tb σ G (dL b)) : EvD (tOp (rNeD K) ta tb) σ G (.bool (!decide (a = b))) :=
  EvD.of (ed_neD (ndL a) (ndL b) (shL a) (shL b) ha hb) (by rw [eqvL])
/-! ### all and any of tests -/
theorem ed_allP {α : Type} (L : List α) (p : α → Bool) (h : EvD te σ G (.list (L.map fun x => .bool (p x)))) : EvD (tCB (rAll K) (tCons te tNil)) σ G (.bool (L.all p)) := by
  have e : (L.map fun x => PyData.bool (p x)) = (L.map p).map .bool := by rw [List.map_map]; rfl
  rw [e] at h
  exact EvD.of (ed_all h) (by rw [List.all_map]; rfl)
theorem ed_anyP {α : Type} (L : List α) (p : α → Bool) (h : EvD te σ G (.list (L.map fun x => .bool (p x)))) : EvD (tCB (rAny K) (tCons te tNil)) σ G (.bool (L.any p)) := by
  have e : (L.map fun x => PyData.bool (p x)) = (L.map p).map .bool := by rw [List.map_map]; rfl
  rw [e] at h
  exact EvD.of (ed_any h) (by rw [List.any_map]; rfl)
end
/-! ### houses -/
structure HouseOk (n : Nat) (ds : List (Nat × Nat)) : Prop where
  pos : 1 ≤ n
  most : n ≤ 6
  lt : ∀ p ∈ ds, p.1 < p.2 ∧ p.2 < n
  asc : ds.Pairwise fun p q => p.1 < q.1 ∨ (p.1 = q.1 ∧ p.2 < q.2)
  few : ds.length ≤ 28
structure StOk (n : Nat) (s : List Nat) : Prop where
  len : s.length = n
  le : ∀ x ∈ s, x ≤ 60
/-- rows that the defs here walk: of a graph, none long -/
structure GrB (n : Nat) (rows : Rows) : Prop where
  gr : Mx.Gr n rows
  few : ∀ x, (nb rows x).length ≤ 64
  most : n ≤ 6
theorem line : sizeLine = 16777216 := sizeLine_eq
theorem fill_true {α : Type} (L : List α) : L.filter (fun _ => true) = L := by
  rw [List.filter_eq_self]; intro _ _; rfl
end MxP
end
section
set_option Elab.async false
set_option linter.all false
set_option maxRecDepth 100000
set_option maxHeartbeats 4000000
/-! The checks run through. -/
namespace MxP
open PySem PySem.Spec PyProof.Rows L2 MxT MxL
open Evl (Ex)
open Mx (at_ nb Rows)
section
variable {K : PySem.W.Frag} {σ : L2.St} {G : Hp} {ta : TA} {te : TE}
theorem ed_isIn {a : Nat} {i j : Int} (h : EvDs ta σ G [dN a, .int i, .int j]) (h1 : i ≤ (a : Nat)) (h2 : ((a : Nat) : Int) ≤ j) : EvD (tCall spIsIn [] E0 ta) σ G (.bool true) :=
  ed_call h ⟨_, _, _, rfl⟩ fun r hr => (hr _ _ _ rfl).trans (by simp [inRange, dN, h1, h2])
theorem ed_isList {xs : List PyData} {i j : Int} (h : EvDs ta σ G [.tuple xs, .int i, .int j]) (h1 : i ≤ (xs.length : Nat)) (h2 : ((xs.length : Nat) : Int) ≤ j) : EvD (tCall spIsList [] E0 ta) σ G (.bool true) :=
  ed_call h ⟨_, _, _, rfl⟩ fun r hr => (hr _ _ _ rfl).trans (by simp [lenIn, h1, h2])
theorem few {n : Nat} (h : n ≤ 1000) : n ≤ sizeLine := by rw [line]; omega
theorem et_notT (h : EvD te σ G (.bool true)) : EvT (tNot (tB te)) σ G false := et_not (et_B h)
theorem ed_sub1 {n : Nat} (h : EvD te σ G (dN n)) : EvD (tOp (rI0 fun i j => .int (i - j)) te (tC (.int 1))) σ G (.int ((n : Nat) - 1)) := ed_II (g := fun i j => i - j) h ed_i
end
theorem hu_of {k : Nat} {A : Around} (r : Room k A) : A.units + 1 < cLine := by have := r.un; omega
section
variable {P : Program} {w : World} {K : PySem.W.Frag} {mg : Str → Option Value} {base : Heap}
abbrev HIsIn (P : Program) (w : World) (K : PySem.W.Frag) (mg : Str → Option Value) (base : Heap) := Has P w K mg base 2 "is_in" ["value", "least", "most"] spIsIn
abbrev HIsList (P : Program) (w : World) (K : PySem.W.Frag) (mg : Str → Option Value) (base : Heap) := Has P w K mg base 1 "is_list" ["value", "least", "most"] spIsList

def spNeedDoors : Sp := spD (fun ds => ∃ n dd, HouseOk n dd ∧ ds = [dN n, .tuple (dd.map dDoor)]) (fun _ _ => True)
theorem scNeedDoors : FnScope ["size", "doors", "index", "door", "room"] ["size", "doors"] (defScope sNeedDoors) := ⟨rfl, rfl, rfl, by decide +kernel, rfl, by decide +kernel, by decide +kernel⟩
theorem bdNeedDoors : ∀ (kV doc pm : Value) (an : Option Addr) (cdv ct : Value) (us : List Value), us.length = (["size", "doors"] : List Str).length → bindArgs (PySem.W.fnOf "need_doors" "need_doors" (defArgs sNeedDoors) (defBody sNeedDoors) (defScope sNeedDoors) .none kV doc pm an cdv ct) ⟨us, []⟩ = pure ((["size", "doors"] : List Str).zip us) := fun _ _ _ _ _ _ us hl => match us, hl with | [_, _], _ => rfl
theorem ok_need_doors (T : Tx K mg) (FIsList : HIsList P w K mg base) (FIsIn : HIsIn P w K mg base) : Has P w K mg base 3 "need_doors" ["size", "doors"] spNeedDoors := by
  refine has_ok T.fNeedDoors scNeedDoors (fun ds ⟨n, dd, _, h⟩ => by rw [h]; rfl) bdNeedDoors fun f cdv A outer s G H vs ds Q E hr eg hvs hp q => ⟨_, (pss_cons (ps_if (pt_not (pt_val (pe_callH FIsList (hr.mono (by decide)) (pa_cons (pv 1) (pa_cons pe_int (pa_cons (pe_op op_fdiv (pe_op op_mul (pe_const (by rfl) T.MOST_ROOMS) (pe_op op_sub (pe_const (by rfl) T.MOST_ROOMS) pe_int)) pe_int) pa_nil)))))) (pss_one ps_never) pss_nil)
      (pss_one (ps_for PassesOwn.never rfl (pi_enumT (by rfl) T.enumerate (pa_cons (pv 1) pa_nil)) (pg_tup rfl (pgs_cons (pg_name (i := 2) scNeedDoors.nd rfl (by first | exact Or.inl rfl | exact Or.inr rfl)) (pgs_cons (pg_name (i := 3) scNeedDoors.nd rfl (by first | exact Or.inl rfl | exact Or.inr rfl)) pgs_nil))) (pss_cons (ps_if (PW.pt (pw_or (pt_not (pt_val (pe_callH FIsList (hr.mono (by decide)) (pa_cons (pv 3) (pa_cons pe_int (pa_cons pe_int pa_nil)))))) (pw_or (pt_not (pt_val (pe_callB (cr_all rfl) (by rfl) T.all bb_all (pa_cons (pe_lc (own := [("room", 4)]) rfl scNeedDoors.nd (pi_tup (pv 3)) (blkOk_by (by kernel_rfl)) (fun _ _ _ _ _ => (pg_name (i := 4) scNeedDoors.nd rfl (by first | exact Or.inl rfl | exact Or.inr rfl))) (fun _ _ _ _ _ => pts_nil) (fun _ _ _ _ _ => (pe_callH FIsIn (hr.mono (by decide)) (pa_cons (pv 4) (pa_cons pe_int (pa_cons (pe_op op_sub (pv 0) pe_int) pa_nil)))))) pa_nil)))) (pw_or1 (pt_cmpR op_ge (pe_ix ix_tup (pv 3) pe_int (fun _ _ => rfl)) (pe_ix ix_tup (pv 3) pe_int (fun _ _ => rfl)) (nomark _)))))) (pss_one ps_never) pss_nil)
      (pss_one (ps_if (PW.pt (pw_and (pt_cmpR op_gt (pv 2) pe_int (nomark _)) (pw_and1 (pt_cmpR (op_geT hr.units0) (pe_ix ix_tup (pv 1) (pe_op op_sub (pv 2) pe_int) (fun _ _ => rfl)) (pv 3) (nomark _))))) (pss_one ps_never) pss_nil)))))), ?_⟩
  obtain ⟨n, dd, ho, rfl⟩ := hp
  obtain ⟨v, v1, rfl, hv, h1⟩ := args2 hvs
  have hlen : ((dd.map dDoor).length : Nat) ≤ 28 := by rw [List.length_map]; exact ho.few
  refine rq_skip (et_notT ((ed_isList (xs := dd.map dDoor) (i := 0) (j := 28) (es_cons (ed_var rfl h1) (es_cons ed_i (es_cons (EvD.of (ed_IIc (g := fun i j => i / j) (i := 56) (j := 2) ⟨by decide, by decide⟩ (EvD.of (ed_IIc (g := fun i j => i * j) (i := 8) (j := 7) (.inl ⟨by decide, by decide⟩) ed_i (EvD.of (ed_II (g := fun i j => i - j) (i := 8) (j := 1) ed_i ed_i) rfl)) rfl) ed_i) rfl) es_nil))) (by omega) (by omega)))) eg fun H1 e1 => ?_
  refine r_forE (L := dd) (enc := dDoor) (es_cons (ed_var rfl h1) es_nil) (eg.trans e1) fun G1 H1 g1 => ?_
  refine ⟨fun i σ' H' => (∃ G', Go G1 H1 G' H') ∧ ∃ a b c, σ' = [some v, some v1, a, b, c], ⟨⟨G1, Go.refl g1.gh⟩, _, _, _, rfl⟩, fun i σ' H' p => let ⟨⟨G', g⟩, _⟩ := p; g.gg.trans g.gh, ?_, ?_⟩
  · rintro i p x T σ' H' hi hx hT ⟨⟨G', g'⟩, a, b, c, rfl⟩
    have e' := g'.gg.trans g'.gh
    have hv' := hv.mono g1.gg
    have h1' := h1.mono g1.gg
    have hm := ho.lt p (List.mem_of_getElem? hi)
    have eu : Ex G1 (upd H' T (.tup [.int (i : Nat), x])) := e'.trans (Ex.new hT)
    refine rq_skip ?_ eu fun H2 e2 => ?_
    · refine et_or (a := false) (b := false) (et_notT (ed_isList (i := 2) (j := 2) (es_cons (ed_var rfl hx) (es_cons ed_i (es_cons ed_i es_nil))) (Int.le_refl _) (Int.le_refl _))) fun _ => ?_
      refine et_or (a := false) (b := false) (et_notT ?_) fun _ => ?_
      · refine EvD.of (ed_allP [p.1, p.2] (fun _ => true) (EvD.of (ed_lcT [p.1, p.2] dN (fun _ => true) (fun _ => .bool true) (few (by simp)) (ed_var rfl hx) (fun _ => rfl) (fun a v G' ha eG hd => et_yes) (fun a v G' ha _ eG hd => ?_)) (by rw [fill_true]))) rfl
        refine ed_isIn (es_cons (ed_var rfl hd) (es_cons ed_i (es_cons (ed_sub1 (ed_var rfl (hv'.mono eG))) es_nil))) (by omega) ?_
        have : a = p.1 ∨ a = p.2 := by simpa using ha
        omega
      · exact et_of (et_test (ed_ge (ed_d0 (ed_var rfl hx)) (ed_d1 (ed_var rfl hx)))) (decide_eq_false (by omega))
    · refine r_skip ?_ (eu.trans e2) fun H3 e3 => ⟨⟨G', g'.ext ((Ex.new hT).trans (e2.trans e3))⟩, _, _, _, rfl⟩
      cases i with
      | zero => exact et_of (et_and (a := false) (b := false) (et_of (et_test (ed_gt (b := 0) (ed_var (i := 2) rfl (.int _)) ed_i)) (by simp)) (fun h => Bool.noConfusion h)) rfl
      | succ j =>
        refine et_of (et_and (a := true) (b := false) (et_of (et_test (ed_gt (a := j + 1) (b := 0) (ed_var (i := 2) rfl (.int _)) ed_i)) (by simp)) (fun _ => ?_)) rfl
        have hj : j < dd.length := by have := (List.getElem?_eq_some_iff.mp hi).1; omega
        have hp0 : dd[j]? = some dd[j] := List.getElem?_eq_getElem hj
        have ha : EvD (tOp (rIxT K) (tVar 1) (tOp (rI0 fun i j => .int (i - j)) (tVar 2) (tC (.int 1)))) [some v, some v1, some (.int ((j + 1 : Nat) : Int)), some x, c] G1 (dDoor dd[j]) := by
          refine ed_ixT (i := (j : Nat)) (ds := dd.map dDoor) (atN (by rw [List.getElem?_map, hp0]; rfl)) (ed_var rfl h1') (EvD.of (ed_II (g := fun i j => i - j) (ed_var (i := 2) rfl (.int _)) ed_i) (by congr 1; omega))
        refine et_of (et_test (ed_ge2 ha (ed_var rfl hx))) ?_
        have hlt := List.pairwise_iff_getElem.mp ho.asc j (j + 1) hj (List.getElem?_eq_some_iff.mp hi).1 (by omega)
        rw [(List.getElem?_eq_some_iff.mp hi).2] at hlt
        by_cases e : ((dd[j].1 : Nat) : Int) = (p.1 : Nat)
        · rw [if_pos e, if_neg (by omega)]; exact decide_eq_false (by omega)
        · rw [if_neg e]; exact decide_eq_false (by omega)
  · rintro σ' H' ⟨⟨G', g'⟩, a, b, c, rfl⟩
    exact q .non G' H' .none (((Go.refl eg).ext e1).trans (g1.trans g')) .non trivial
def spNeedHouse : Sp := spD (fun ds => ∃ n dd, HouseOk n dd ∧ ds = [dHouse n dd]) (fun _ _ => True)
theorem scNeedHouse : FnScope ["house"] ["house"] (defScope sNeedHouse) := ⟨rfl, rfl, rfl, by decide +kernel, rfl, by decide +kernel, by decide +kernel⟩
theorem bdNeedHouse : ∀ (kV doc pm : Value) (an : Option Addr) (cdv ct : Value) (us : List Value), us.length = (["house"] : List Str).length → bindArgs (PySem.W.fnOf "need_house" "need_house" (defArgs sNeedHouse) (defBody sNeedHouse) (defScope sNeedHouse) .none kV doc pm an cdv ct) ⟨us, []⟩ = pure ((["house"] : List Str).zip us) := fun _ _ _ _ _ _ us hl => match us, hl with | [_], _ => rfl
theorem ok_need_house (T : Tx K mg) (FIsList : HIsList P w K mg base) (FIsIn : HIsIn P w K mg base) (FNeedDoors : Has P w K mg base 3 "need_doors" ["size", "doors"] spNeedDoors) : Has P w K mg base 4 "need_house" ["house"] spNeedHouse := by
  refine has_ok T.fNeedHouse scNeedHouse (fun ds ⟨n, dd, _, h⟩ => by rw [h]; rfl) bdNeedHouse fun f cdv A outer s G H vs ds Q E hr eg hvs hp q => ⟨_, (pss_cons (ps_if (pt_not (pt_val (pe_callH FIsList (hr.mono (by decide)) (pa_cons (pv 0) (pa_cons pe_int (pa_cons pe_int pa_nil)))))) (pss_one ps_never) pss_nil)
      (pss_cons (ps_if (pt_not (pt_val (pe_callH FIsIn (hr.mono (by decide)) (pa_cons (pe_ix ix_tup (pv 0) pe_int (fun _ _ => rfl)) (pa_cons pe_int (pa_cons (pe_const (by rfl) T.MOST_ROOMS) pa_nil)))))) (pss_one ps_never) pss_nil)
      (pss_one (ps_expr (pe_callH FNeedDoors (hr.mono (by decide)) (pa_cons (pe_ix ix_tup (pv 0) pe_int (fun _ _ => rfl)) (pa_cons (pe_ix ix_tup (pv 0) pe_int (fun _ _ => rfl)) pa_nil))))))), ?_⟩
  obtain ⟨n, dd, ho, rfl⟩ := hp
  obtain ⟨v, rfl, hv⟩ := args1 hvs
  have h1 := ho.pos
  have h2 := ho.most
  refine rq_skip (et_notT (ed_isList (xs := [dN n, .tuple (dd.map dDoor)]) (i := 2) (j := 2) (es_cons (ed_var rfl hv) (es_cons ed_i (es_cons ed_i es_nil))) (Int.le_refl _) (Int.le_refl _))) eg fun H1 e1 => ?_
  refine rq_skip (et_notT (ed_isIn (a := n) (i := 1) (j := 8) (es_cons (ed_h0 (ed_var rfl hv)) (es_cons ed_i (es_cons ed_i es_nil))) (by omega) (by omega))) (eg.trans e1) fun H2 e2 => ?_
  refine r_drop (er_call (es_cons (ed_h0 (ed_var rfl hv)) (es_cons (ed_h1 (ed_var rfl hv)) es_nil)) ⟨n, dd, ho, rfl⟩) ((eg.trans e1).trans e2) fun G' H' g => ?_
  exact q .non G' H' .none (((Go.refl eg).ext (e1.trans e2)).trans g) .non trivial
def spNeedNumbers : Sp := spD (fun ds => ∃ n dd s, StOk n s ∧ ds = [dHouse n dd, dT s]) (fun _ _ => True)
theorem scNeedNumbers : FnScope ["house", "state", "index", "number"] ["house", "state"] (defScope sNeedNumbers) := ⟨rfl, rfl, rfl, by decide +kernel, rfl, by decide +kernel, by decide +kernel⟩
theorem bdNeedNumbers : ∀ (kV doc pm : Value) (an : Option Addr) (cdv ct : Value) (us : List Value), us.length = (["house", "state"] : List Str).length → bindArgs (PySem.W.fnOf "need_numbers" "need_numbers" (defArgs sNeedNumbers) (defBody sNeedNumbers) (defScope sNeedNumbers) .none kV doc pm an cdv ct) ⟨us, []⟩ = pure ((["house", "state"] : List Str).zip us) := fun _ _ _ _ _ _ us hl => match us, hl with | [_, _], _ => rfl
theorem ok_need_numbers (T : Tx K mg) (FIsList : HIsList P w K mg base) (FIsIn : HIsIn P w K mg base) : Has P w K mg base 3 "need_numbers" ["house", "state"] spNeedNumbers := by
  refine has_ok T.fNeedNumbers scNeedNumbers (fun ds ⟨n, dd, _, _, h⟩ => by rw [h]; rfl) bdNeedNumbers fun f cdv A outer s G H vs ds Q E hr eg hvs hp q => ⟨_, (pss_cons (ps_if (pt_not (pt_val (pe_callH FIsList (hr.mono (by decide)) (pa_cons (pv 1) (pa_cons (pe_ix ix_tup (pv 0) pe_int (fun _ _ => rfl)) (pa_cons (pe_ix ix_tup (pv 0) pe_int (fun _ _ => rfl)) pa_nil)))))) (pss_one ps_never) pss_nil)
      (pss_one (ps_for PassesOwn.never rfl (pi_enumT (by rfl) T.enumerate (pa_cons (pv 1) pa_nil)) (pg_tup rfl (pgs_cons (pg_name (i := 2) scNeedNumbers.nd rfl (by first | exact Or.inl rfl | exact Or.inr rfl)) (pgs_cons (pg_name (i := 3) scNeedNumbers.nd rfl (by first | exact Or.inl rfl | exact Or.inr rfl)) pgs_nil))) (pss_one (ps_if (pt_not (pt_val (pe_callH FIsIn (hr.mono (by decide)) (pa_cons (pv 3) (pa_cons pe_int (pa_cons (pe_const (by rfl) T.MOST_NUMBER) pa_nil)))))) (pss_one ps_never) pss_nil))))), ?_⟩
  obtain ⟨n, dd, st, ho, rfl⟩ := hp
  obtain ⟨v, v1, rfl, hv, h1⟩ := args2 hvs
  have hl : ((st.map dN).length : Nat) = n := by rw [List.length_map, ho.len]
  refine rq_skip (et_notT (ed_isList (xs := st.map dN) (i := (n : Nat)) (j := (n : Nat)) (es_cons (ed_var rfl h1) (es_cons (ed_h0 (ed_var rfl hv)) (es_cons (ed_h0 (ed_var rfl hv)) es_nil))) (by omega) (by omega))) eg fun H1 e1 => ?_
  refine r_forE (L := st) (enc := dN) (es_cons (ed_var rfl h1) es_nil) (eg.trans e1) fun G1 H1 g1 => ?_
  refine ⟨fun i σ' H' => (∃ G', Go G1 H1 G' H') ∧ ∃ a b, σ' = [some v, some v1, a, b], ⟨⟨G1, Go.refl g1.gh⟩, _, _, rfl⟩, fun i σ' H' p => let ⟨⟨G', g⟩, _⟩ := p; g.gg.trans g.gh, ?_, ?_⟩
  · rintro i p x T σ' H' hi hx hT ⟨⟨G', g'⟩, a, b, rfl⟩
    have eu : Ex G1 (upd H' T (.tup [.int (i : Nat), x])) := (g'.gg.trans g'.gh).trans (Ex.new hT)
    have := ho.le p (List.mem_of_getElem? hi)
    refine r_skip (et_notT (ed_isIn (a := p) (i := 0) (j := 60) (es_cons (ed_var rfl hx) (es_cons ed_i (es_cons ed_i es_nil))) (by omega) (by omega))) eu fun H3 e3 => ⟨⟨G', g'.ext ((Ex.new hT).trans e3)⟩, _, _, rfl⟩
  · rintro σ' H' ⟨⟨G', g'⟩, a, b, rfl⟩
    exact q .non G' H' .none (((Go.refl eg).ext e1).trans (g1.trans g')) .non trivial
def spNeedState : Sp := spD (fun ds => ∃ n dd s, HouseOk n dd ∧ StOk n s ∧ ds = [dHouse n dd, dT s]) (fun _ _ => True)
theorem scNeedState : FnScope ["house", "state"] ["house", "state"] (defScope sNeedState) := ⟨rfl, rfl, rfl, by decide +kernel, rfl, by decide +kernel, by decide +kernel⟩
theorem bdNeedState : ∀ (kV doc pm : Value) (an : Option Addr) (cdv ct : Value) (us : List Value), us.length = (["house", "state"] : List Str).length → bindArgs (PySem.W.fnOf "need_state" "need_state" (defArgs sNeedState) (defBody sNeedState) (defScope sNeedState) .none kV doc pm an cdv ct) ⟨us, []⟩ = pure ((["house", "state"] : List Str).zip us) := fun _ _ _ _ _ _ us hl => match us, hl with | [_, _], _ => rfl
theorem ok_need_state (T : Tx K mg) (FNeedHouse : Has P w K mg base 4 "need_house" ["house"] spNeedHouse) (FNeedNumbers : Has P w K mg base 3 "need_numbers" ["house", "state"] spNeedNumbers) : Has P w K mg base 5 "need_state" ["house", "state"] spNeedState := by
  refine has_ok T.fNeedState scNeedState (fun ds ⟨n, dd, _, _, _, h⟩ => by rw [h]; rfl) bdNeedState fun f cdv A outer s G H vs ds Q E hr eg hvs hp q => ⟨_, (pss_cons (ps_expr (pe_callH FNeedHouse (hr.mono (by decide)) (pa_cons (pv 0) pa_nil)))
      (pss_one (ps_expr (pe_callH FNeedNumbers (hr.mono (by decide)) (pa_cons (pv 0) (pa_cons (pv 1) pa_nil)))))), ?_⟩
  obtain ⟨n, dd, st, ho, hs, rfl⟩ := hp
  obtain ⟨v, v1, rfl, hv, h1⟩ := args2 hvs
  refine rq_drop (er_call (es_cons (ed_var rfl hv) es_nil) ⟨n, dd, ho, rfl⟩) eg fun G1 H1 g1 => ?_
  refine r_drop (er_call (es_cons (ed_var rfl (hv.mono g1.gg)) (es_cons (ed_var rfl (h1.mono g1.gg)) es_nil)) ⟨n, dd, st, hs, rfl⟩) g1.gh fun G' H' g => ?_
  exact q .non G' H' .none (g1.trans g) .non trivial
def spNeedRow : Sp := spD (fun ds => ∃ n dd ks, ks.length ≤ 60 ∧ (∀ k ∈ ks, k < n) ∧ ds = [dHouse n dd, dT ks]) (fun _ _ => True)
theorem scNeedRow : FnScope ["house", "keys", "index", "room"] ["house", "keys"] (defScope sNeedRow) := ⟨rfl, rfl, rfl, by decide +kernel, rfl, by decide +kernel, by decide +kernel⟩
theorem bdNeedRow : ∀ (kV doc pm : Value) (an : Option Addr) (cdv ct : Value) (us : List Value), us.length = (["house", "keys"] : List Str).length → bindArgs (PySem.W.fnOf "need_row" "need_row" (defArgs sNeedRow) (defBody sNeedRow) (defScope sNeedRow) .none kV doc pm an cdv ct) ⟨us, []⟩ = pure ((["house", "keys"] : List Str).zip us) := fun _ _ _ _ _ _ us hl => match us, hl with | [_, _], _ => rfl
theorem ok_need_row (T : Tx K mg) (FIsList : HIsList P w K mg base) (FIsIn : HIsIn P w K mg base) : Has P w K mg base 3 "need_row" ["house", "keys"] spNeedRow := by
  refine has_ok T.fNeedRow scNeedRow (fun ds ⟨n, dd, _, _, _, h⟩ => by rw [h]; rfl) bdNeedRow fun f cdv A outer s G H vs ds Q E hr eg hvs hp q => ⟨_, (pss_cons (ps_if (pt_not (pt_val (pe_callH FIsList (hr.mono (by decide)) (pa_cons (pv 1) (pa_cons pe_int (pa_cons (pe_const (by rfl) T.MOST_KEYS) pa_nil)))))) (pss_one ps_never) pss_nil)
      (pss_one (ps_for PassesOwn.never rfl (pi_enumT (by rfl) T.enumerate (pa_cons (pv 1) pa_nil)) (pg_tup rfl (pgs_cons (pg_name (i := 2) scNeedRow.nd rfl (by first | exact Or.inl rfl | exact Or.inr rfl)) (pgs_cons (pg_name (i := 3) scNeedRow.nd rfl (by first | exact Or.inl rfl | exact Or.inr rfl)) pgs_nil))) (pss_one (ps_if (pt_not (pt_val (pe_callH FIsIn (hr.mono (by decide)) (pa_cons (pv 3) (pa_cons pe_int (pa_cons (pe_op op_sub (pe_ix ix_tup (pv 0) pe_int (fun _ _ => rfl)) pe_int) pa_nil)))))) (pss_one ps_never) pss_nil))))), ?_⟩
  obtain ⟨n, dd, ks, hk, hlt, rfl⟩ := hp
  obtain ⟨v, v1, rfl, hv, h1⟩ := args2 hvs
  have hl : ((ks.map dN).length : Nat) ≤ 60 := by rw [List.length_map]; exact hk
  refine rq_skip (et_notT (ed_isList (xs := ks.map dN) (i := 0) (j := 60) (es_cons (ed_var rfl h1) (es_cons ed_i (es_cons ed_i es_nil))) (by omega) (by omega))) eg fun H1 e1 => ?_
  refine r_forE (L := ks) (enc := dN) (es_cons (ed_var rfl h1) es_nil) (eg.trans e1) fun G1 H1 g1 => ?_
  refine ⟨fun i σ' H' => (∃ G', Go G1 H1 G' H') ∧ ∃ a b, σ' = [some v, some v1, a, b], ⟨⟨G1, Go.refl g1.gh⟩, _, _, rfl⟩, fun i σ' H' p => let ⟨⟨G', g⟩, _⟩ := p; g.gg.trans g.gh, ?_, ?_⟩
  · rintro i p x T σ' H' hi hx hT ⟨⟨G', g'⟩, a, b, rfl⟩
    have eu : Ex G1 (upd H' T (.tup [.int (i : Nat), x])) := (g'.gg.trans g'.gh).trans (Ex.new hT)
    have := hlt p (List.mem_of_getElem? hi)
    refine r_skip (et_notT (ed_isIn (a := p) (i := 0) (j := (n : Nat) - 1) (es_cons (ed_var rfl hx) (es_cons ed_i (es_cons (ed_sub1 (ed_h0 (ed_var rfl (hv.mono g1.gg)))) es_nil))) (by omega) (by omega))) eu fun H3 e3 => ⟨⟨G', g'.ext ((Ex.new hT).trans e3)⟩, _, _, rfl⟩
  · rintro σ' H' ⟨⟨G', g'⟩, a, b, rfl⟩
    exact q .non G' H' .none (((Go.refl eg).ext e1).trans (g1.trans g')) .non trivial
end
end MxP
end
section
set_option Elab.async false
set_option linter.all false
set_option maxRecDepth 100000
set_option maxHeartbeats 4000000
/-! Dict comprehensions over lists and tuples, as readings. -/
namespace MxL
open PySem PySem.Spec PyProof.Rows L2
open Evl (Ex)
theorem dc_list {K : PySem.W.Frag} {a : Addr} {xs : List V} {g : TG} {tt : TT} {tk tv : TE} {vs : List Nat} {σ : L2.St} {H1 : Hp} {D : Addr} {Qd : Hp → Prop} (Pv : Nat → Hp → Prop) (h0 : Pv 0 (upd H1 D (.dK []))) (hl : ∀ i H, i ≤ xs.length → Pv i H → SqL K H a xs)
    (hs : ∀ i x H, xs[i]? = some x → Pv i H → g x (wipe σ vs) H fun σ2 H2 => wipe σ2 vs = wipe σ vs ∧ tt σ2 H2 fun b H3 =>
      if b = true then tk σ2 H3 fun y H4 => tv σ2 H4 fun z H5 => ∃ kvs k, y = kV k ∧ H5 D = some (.dK kvs) ∧ kvs.length < sizeLine ∧ Pv (i + 1) (upd H5 D (.dK (putK kvs k z))) else Pv (i + 1) H3) (hd : ∀ H, Pv xs.length H → Qd H) :
    ∃ W : Nat → Nat → Hp → Prop, (∃ m, W 0 m (upd H1 D (.dK []))) ∧ ∀ i m H, W i m H →
      ((Itl K a).stop i H ∧ Qd H) ∨ ((Itl K a).go i H ∧ ∃ Nx : Hp → Prop, (∀ H', Nx H' → ∃ m', m' < m ∧ W (i + 1) m' H') ∧ ∀ x H', (Itl K a).yld i H x H' → g x (wipe σ vs) H' fun σ2 H2 => wipe σ2 vs = wipe σ vs ∧ tt σ2 H2 fun b H3 =>
        if b = true then tk σ2 H3 fun y H4 => tv σ2 H4 fun z H5 => ∃ kvs k, y = kV k ∧ H5 D = some (.dK kvs) ∧ kvs.length < sizeLine ∧ Nx (upd H5 D (.dK (putK kvs k z))) else Nx H3) := by
  refine ⟨fun i m H => m = xs.length - i ∧ i ≤ xs.length ∧ Pv i H, ⟨xs.length, by simp, Nat.zero_le _, h0⟩, ?_⟩
  rintro i m H ⟨rfl, hi, p⟩
  have q := hl i H hi p
  by_cases hlt : i < xs.length
  · refine .inr ⟨⟨xs, xs[i], q, by simp [hlt]⟩, Pv (i + 1), fun H' p' => ⟨xs.length - (i + 1), by omega, rfl, hlt, p'⟩, fun x H' y => ?_⟩
    obtain ⟨e, y⟩ := y
    subst e
    exact hs i x _ (y xs q) p
  · have e : i = xs.length := by omega
    subst e
    exact .inl ⟨⟨xs, q, Nat.le_refl _⟩, hd H p⟩
abbrev Kvs := List (Key × V)
def foldK {α : Type} (kf : α → Int) (z : α → V) (L : List α) : Kvs := L.foldl (fun kvs a => putK kvs (.inl (kf a)) (z a)) []
theorem foldK_snoc {α : Type} (kf : α → Int) (z : α → V) (L : List α) (a : α) : foldK kf z (L ++ [a]) = putK (foldK kf z L) (.inl (kf a)) (z a) := by unfold foldK; rw [List.foldl_append]; rfl
theorem foldK_has {α : Type} (kf : α → Int) (z : α → V) (i : Int) : ∀ (n : Nat) (L : List α), L.length = n → (valV (foldK kf z L) (.inl i)).isSome = decide (i ∈ L.map kf)
  | 0, L, h => by rw [List.length_eq_zero_iff.mp h]; rfl
  | n + 1, L, h => by
    obtain ⟨M, a, rfl⟩ : ∃ M a, L = M ++ [a] := ⟨L.dropLast, L.getLast (by intro e; rw [e] at h; cases h), (List.dropLast_concat_getLast _).symm⟩
    rw [foldK_snoc, valV_put]
    have hM : M.length = n := by simp at h; exact h
    have ih := foldK_has kf z i n M hM
    by_cases e : i = kf a
    · subst e; simp
    · rw [if_neg (fun q => e (Sum.inl.inj q)), ih]
      simp [e]
theorem foldK_map {α : Type} (kf : α → Int) (z : α → V) : ∀ (n : Nat) (L : List α), L.length = n → (L.map kf).Nodup → foldK kf z L = L.map fun a => (Sum.inl (kf a), z a)
  | 0, L, h, _ => by rw [List.length_eq_zero_iff.mp h]; rfl
  | n + 1, L, h, hn => by
    obtain ⟨M, a, rfl⟩ : ∃ M a, L = M ++ [a] := ⟨L.dropLast, L.getLast (by intro e; rw [e] at h; cases h), (List.dropLast_concat_getLast _).symm⟩
    have hM : M.length = n := by simp at h; exact h
    rw [List.map_append, List.nodup_append] at hn
    have hk : valV (foldK kf z M) (.inl (kf a)) = none := by
      have := foldK_has kf z (kf a) n M hM
      rw [decide_eq_false (fun q => hn.2.2 _ q _ (by simp) rfl)] at this
      exact Option.isSome_eq_false_iff.mp this |> Option.isNone_iff_eq_none.mp
    rw [foldK_snoc, putK_new _ hk, foldK_map kf z n M hM hn.1, List.map_append]
    rfl
theorem foldK_len {α : Type} (kf : α → Int) (z : α → V) : ∀ (n : Nat) (L : List α), L.length = n → (foldK kf z L).length ≤ n
  | 0, L, h => by rw [List.length_eq_zero_iff.mp h]; exact Nat.le_refl 0
  | n + 1, L, h => by
    obtain ⟨M, a, rfl⟩ : ∃ M a, L = M ++ [a] := ⟨L.dropLast, L.getLast (by intro e; rw [e] at h; cases h), (List.dropLast_concat_getLast _).symm⟩
    have hM : M.length = n := by simp at h; exact h
    have := foldK_len kf z n M hM
    have h2 := length_putK (foldK kf z M) (.inl (kf a)) (z a)
    rw [foldK_snoc]; omega
section
variable {K : PySem.W.Frag} {σ : L2.St} {G : Hp} {tl tk tv : TE} {vs : List Nat} {j : Nat}
def Cdk {α : Type} (G0 H0 : Hp) (Dl : Addr) (L : List α) (kf : α → Int) (z : α → V) (i : Nat) (H' : Hp) : Prop :=
  ∃ G', Go G0 H0 G' H' ∧ G' Dl = none ∧ H' Dl = some (.dK (foldK kf z (L.take i)))
theorem cdk_turn {α : Type} {G0 H0 : Hp} {Dl : Addr} {L : List α} {kf : α → Int} {z : α → V} {i : Nat} {H' : Hp} {a : α} {σ2 : L2.St} (h0 : H0 Dl = none) (hL : L.length ≤ sizeLine) (ha : L[i]? = some a)
    (c : Cdk G0 H0 Dl L kf z i H') (hk : ∀ G', Ex G0 G' → EvD tk σ2 G' (.int (kf a))) (hv : ∀ G', Ex G0 G' → Evl.Ev tv σ2 G' (z a)) :
    tYes σ2 H' fun b H3 => if b = true then tk σ2 H3 fun y H4 => tv σ2 H4 fun u H5 => ∃ kvs k, y = kV k ∧ H5 Dl = some (.dK kvs) ∧ kvs.length < sizeLine ∧ Cdk G0 H0 Dl L kf z (i + 1) (upd H5 Dl (.dK (putK kvs k u))) else Cdk G0 H0 Dl L kf z (i + 1) H3 := by
  obtain ⟨G', g, hn, hD⟩ := c
  show tk σ2 H' fun y H4 => tv σ2 H4 fun u H5 => ∃ kvs k, y = kV k ∧ H5 Dl = some (.dK kvs) ∧ kvs.length < sizeLine ∧ Cdk G0 H0 Dl L kf z (i + 1) (upd H5 Dl (.dK (putK kvs k u)))
  refine hk G' g.gg H' g.gh _ fun y G4 H4 d g4 hy hd => ?_
  subst hd
  rw [hy.int_inv]
  refine hv G4 (g.gg.trans g4.gg) H4 g4.gh _ fun H5 e5 => ?_
  have hD5 : H5 Dl = some (.dK (foldK kf z (L.take i))) := e5 _ _ (g4.hh _ _ hD)
  have hn4 : G4 Dl = none := g4.keepN hn hD
  have hi := (List.getElem?_eq_some_iff.mp ha).1
  refine ⟨_, .inl (kf a), rfl, hD5, ?_, G4, ((g.trans g4).ext e5).mut h0 hn4, hn4, ?_⟩
  · have := foldK_len kf z _ (L.take i) rfl
    rw [List.length_take] at this
    omega
  · rw [upd_same, take_more ha, foldK_snoc]
theorem rd_dcL {α : Type} {G : Hp} (L : List α) (enc : α → PyData) (kf : α → Int) (z : α → V) (hL : L.length ≤ sizeLine) (hsrc : EvD tl σ G (.list (L.map enc))) (hw : ∀ x, wipe ((wipe σ vs).set j (some x)) vs = wipe σ vs)
    (hk : ∀ a v G', a ∈ L → Ex G G' → Da G' v (enc a) → EvD tk ((wipe σ vs).set j (some v)) G' (.int (kf a)))
    (hv : ∀ a v G', a ∈ L → Ex G G' → Da G' v (enc a) → Evl.Ev tv ((wipe σ vs).set j (some v)) G' (z a)) {H : Hp} (eg : Ex G H) {Q : VK}
    (q : ∀ D G' H', Go G H G' H' → G' D = none → H' D = some (.dK (foldK kf z L)) → H D = none → Q (.ref D) H') : tDc (iList K tl) (gName j) tYes tk tv vs σ H Q :=
  hsrc H eg _ fun v G1 H1 d g1 hv' hd => by
    subst hd
    obtain ⟨a, xs, rfl, h1, h2⟩ := hv'.list_inv
    have hlen : xs.length = L.length := by rw [h2.length, List.length_map]
    refine ⟨a, rfl, ⟨xs, .inl (.inl (g1.gh _ _ h1))⟩, fun Dl hD => ?_⟩
    refine dc_list (xs := xs) (Cdk G1 H1 Dl L kf z) ⟨G1, Go.priv g1.gh hD, nb_back g1.gh hD, upd_same⟩ (fun i H' _ c => ?_) (fun i x H' hi c => ⟨hw x, ?_⟩) fun H' c => ?_
    · obtain ⟨G', g, _⟩ := c
      exact .inl (.inl (g.gh _ _ (g.gg _ _ h1)))
    · obtain ⟨d', hd', hx⟩ := h2.get' hi
      obtain ⟨al, hal, rfl⟩ := map_at hd'
      have hm := List.mem_of_getElem? hal
      exact cdk_turn hD hL hal c (fun G' e => hk al x G' hm (g1.gg.trans e) (hx.mono e)) (fun G' e => hv al x G' hm (g1.gg.trans e) (hx.mono e))
    · obtain ⟨G', g, hn, hk'⟩ := c
      rw [hlen, List.take_length] at hk'
      exact q Dl G' H' (g1.trans g) hn hk' (nb_back g1.hh hD)
theorem rd_dcT {α : Type} {G : Hp} (L : List α) (enc : α → PyData) (kf : α → Int) (z : α → V) (hL : L.length ≤ sizeLine) (hsrc : EvD tl σ G (.tuple (L.map enc))) (hw : ∀ x, wipe ((wipe σ vs).set j (some x)) vs = wipe σ vs)
    (hk : ∀ a v G', a ∈ L → Ex G G' → Da G' v (enc a) → EvD tk ((wipe σ vs).set j (some v)) G' (.int (kf a)))
    (hv : ∀ a v G', a ∈ L → Ex G G' → Da G' v (enc a) → Evl.Ev tv ((wipe σ vs).set j (some v)) G' (z a)) {H : Hp} (eg : Ex G H) {Q : VK}
    (q : ∀ D G' H', Go G H G' H' → G' D = none → H' D = some (.dK (foldK kf z L)) → H D = none → Q (.ref D) H') : tDc (iTup K tl) (gName j) tYes tk tv vs σ H Q :=
  hsrc H eg _ fun v G1 H1 d g1 hv' hd => by
    subst hd
    obtain ⟨a, xs, rfl, h1, h2⟩ := hv'.tuple_inv
    have hlen : xs.length = L.length := by rw [h2.length, List.length_map]
    refine ⟨a, rfl, ⟨xs, .inl (.inl (g1.gh _ _ h1))⟩, fun Dl hD => ?_⟩
    refine dc_tup (xs := xs) (Cdk G1 H1 Dl L kf z) ⟨G1, Go.priv g1.gh hD, nb_back g1.gh hD, upd_same⟩ (fun i H' _ c => ?_) (fun i x H' hi c => ⟨hw x, ?_⟩) fun H' c => ?_
    · obtain ⟨G', g, _⟩ := c
      exact .inl (.inl (g.gh _ _ (g.gg _ _ h1)))
    · obtain ⟨d', hd', hx⟩ := h2.get' hi
      obtain ⟨al, hal, rfl⟩ := map_at hd'
      have hm := List.mem_of_getElem? hal
      exact cdk_turn hD hL hal c (fun G' e => hk al x G' hm (g1.gg.trans e) (hx.mono e)) (fun G' e => hv al x G' hm (g1.gg.trans e) (hx.mono e))
    · obtain ⟨G', g, hn, hk'⟩ := c
      rw [hlen, List.take_length] at hk'
      exact q Dl G' H' (g1.trans g) hn hk' (nb_back g1.hh hD)
/-- {x: n for x in t}, keys all different -/
theorem ed_dcT {G : Hp} (L : List Int) (n : Int) (hn : L.Nodup) (hL : L.length ≤ sizeLine) (hsrc : EvD tl σ G (.tuple (L.map .int))) (hw : ∀ x, wipe ((wipe σ vs).set j (some x)) vs = wipe σ vs)
    (hk : ∀ a v G', a ∈ L → Ex G G' → Da G' v (.int a) → EvD tk ((wipe σ vs).set j (some v)) G' (.int a))
    (hv : ∀ a v G', a ∈ L → Ex G G' → Da G' v (.int a) → Evl.Ev tv ((wipe σ vs).set j (some v)) G' (.int n)) :
    EvD (tDc (iTup K tl) (gName j) tYes tk tv vs) σ G (.dict ((L.map fun a => (a, n)).map fun p => (.int p.1, .int p.2))) := fun H eg Q k =>
  rd_dcT L .int id (fun _ => .int n) hL hsrc hw hk hv eg fun D G' H' g hG hD h0 => by
    rw [foldK_map id _ _ L rfl (by rw [List.map_id]; exact hn)] at hD
    refine k (.ref D) (upd G' D _) H' _ (g.pub h0 hG hD) (.dct ?_) rfl
    rw [upd_same, List.map_map]
    rfl
end
end MxL
end
section
set_option Elab.async false
set_option linter.all false
set_option maxRecDepth 100000
set_option maxHeartbeats 4000000
/-! Readings at one heap: what is one's own may be read too. -/
namespace MxL
open PySem PySem.Spec PyProof.Rows L2
open Evl (Ex)
def AtR (te : TE) (σ : L2.St) (G H : Hp) (Φ : PyData → Prop) : Prop := ∀ Q : VK, (∀ v G' H' d, Go G H G' H' → Da G' v d → Φ d → Q v H') → te σ H Q
abbrev AtD (te : TE) (σ : L2.St) (G H : Hp) (d : PyData) : Prop := AtR te σ G H (fun e => e = d)
def AtDs (ta : TA) (σ : L2.St) (G H : Hp) (ds : List PyData) : Prop := ∀ Q : List V → Hp → Prop, (∀ vs G' H', Go G H G' H' → DaAll G' vs ds → Q vs H') → ta σ H Q
def AtT (tt : TT) (σ : L2.St) (G H : Hp) (b : Bool) : Prop := ∀ Q : Bool → Hp → Prop, (∀ G' H', Go G H G' H' → Q b H') → tt σ H Q
section
variable {K : PySem.W.Frag} {σ : L2.St} {G H : Hp} {ta tb te : TE} {tr : TA} {t : TT} {d e : PyData} {ds es : List PyData} {Φ : PyData → Prop} {D : Ends}
theorem EvR.at (h : EvR te σ G Φ) (eg : Ex G H) : AtR te σ G H Φ := h H eg
theorem at_d (h : EvD te σ G d) (eg : Ex G H) : AtD te σ G H d := h H eg
theorem at_t {b : Bool} (h : EvT t σ G b) (eg : Ex G H) : AtT t σ G H b := fun Q k => h H eg Q fun H2 e2 => k G H2 ((Go.refl eg).ext e2)
theorem AtD.of (h : AtD te σ G H d) (k : d = e) : AtD te σ G H e := k ▸ h
theorem at_of {a b : Bool} (h1 : AtT t σ G H a) (e : a = b) : AtT t σ G H b := e ▸ h1
theorem at_test {b : Bool} (h : AtD te σ G H (.bool b)) : AtT (tTest te) σ G H b := fun Q k => h _ fun v G' H' d g hd hp => by
  subst hp; exact ⟨b, hd.bool_inv, k G' H' g⟩
theorem at_B {b : Bool} (h : AtD te σ G H (.bool b)) : AtT (tB te) σ G H b := fun Q k => h _ fun v G' H' d g hd hp => by
  subst hp; exact ⟨b, hd.bool_inv, k G' H' g⟩
theorem at_nil (eg : Ex G H) : AtDs tNil σ G H [] := fun Q k => k [] G H (Go.refl eg) .nil
theorem at_cons (h : AtD te σ G H d) (hr : ∀ G1 H1, Go G H G1 H1 → AtDs tr σ G1 H1 ds) : AtDs (tCons te tr) σ G H (d :: ds) := fun Q k =>
  h _ fun v G1 H1 d1 g1 hv e1 => hr G1 H1 g1 _ fun vs G2 H2 g2 hvs => by
    subst e1
    exact k _ G2 H2 (g1.trans g2) (.cons (hv.mono g2.gg) hvs)
theorem at_op (ha : AtD ta σ G H d) (hb : ∀ G1 H1, Go G H G1 H1 → AtD tb σ G1 H1 e) {r : R2} (hr : ∀ x y G1 H1, Go G H G1 H1 → Da G1 x d → Da G1 y e → ∀ Q : VK, (∀ v G' H' z, Go G1 H1 G' H' → Da G' v z → Φ z → Q v H') → r x y H1 Q) : AtR (tOp r ta tb) σ G H Φ := fun Q k =>
  ha _ fun x G1 H1 d1 g1 hx e1 => hb G1 H1 g1 _ fun y G2 H2 d2 g2 hy e2 => by
    subst e1; subst e2
    exact hr x y G2 H2 (g1.trans g2) (hx.mono g2.gg) hy Q fun v G3 H3 z g3 hz hp => k v G3 H3 z ((g1.trans g2).trans g3) hz hp
theorem at_ixO {i : Nat} {j : Int} {p : Addr} {acc : List V} {v : V} (hs : σ[i]? = some (some (.ref p))) (hp : H p = some (.lst acc)) (hj : atI acc j = some v) (hv : Da G v d) (hi : EvD tb σ G (.int j)) (eg : Ex G H) : AtD (tOp (rIxL K) (tVar i) tb) σ G H d := fun Q k =>
  ⟨.ref p, hs, ev_int hi H eg _ fun H1 e1 => ⟨p, acc, j, v, rfl, rfl, .inl (.inl (e1 _ _ hp)), hj, k v G H1 d ((Go.refl eg).ext e1) hv rfl⟩⟩
theorem at_call {Pre : List PyData → Prop} {Post : List PyData → PyData → Prop} {E : XK} (h : AtDs tr σ G H ds) (hp : Pre ds) : AtR (tCall (spD Pre Post) [] E tr) σ G H (Post ds) := fun Q k =>
  h _ fun vs G1 H1 g1 hvs => by
    rw [List.append_nil]
    exact ⟨G1, _, g1.gh, hvs, hp, fun v G' H' d g hd hq => k v G' H' d (g1.trans g) hd hq⟩
theorem at_imp {Ψ : PyData → Prop} (h : AtR te σ G H Φ) (k : ∀ d, Φ d → Ψ d) : AtR te σ G H Ψ := fun Q q => h Q fun v G' H' d g hd hp => q v G' H' d g hd (k d hp)
/-! ### statements -/
theorem r_asgA {i : Nat} (h : AtR te σ G H Φ) (k : ∀ v G' H' d, Go G H G' H' → Da G' v d → Φ d → D.nx (σ.set i (some v)) H') : tAsg te (gName i) D σ H := h _ k
theorem rq_asgA {i : Nat} {tz : TS} (h : AtR te σ G H Φ) (k : ∀ v G' H' d, Go G H G' H' → Da G' v d → Φ d → tz D (σ.set i (some v)) H') : tSeq (tAsg te (gName i)) tz D σ H := h _ k
theorem r_appA {i : Nat} {p : Addr} {acc : List V} (hs : σ[i]? = some (some (.ref p))) (hp : H p = some (.lst acc)) (hn : G p = none) (hz : acc.length < sizeLine) (h : AtR te σ G H Φ)
    (k : ∀ v G' H' d, Go G H G' H' → G' p = none → H' p = some (.lst acc) → Da G' v d → Φ d → D.nx σ (upd H' p (.lst (acc ++ [v])))) : tDrop (tBM K "list" rAppend (tVar i) (tCons te tNil)) D σ H :=
  ⟨.ref p, hs, .inl ⟨rfl, acc, .inl (.inl hp)⟩, h _ fun v G' H' d g hv hd =>
    ⟨p, acc, v, rfl, rfl, g.hh _ _ hp, hz, k v G' H' d g (g.keepN hn hp) (g.hh _ _ hp) hv hd⟩⟩
theorem r_extA {i : Nat} {p : Addr} {acc : List V} (hs : σ[i]? = some (some (.ref p))) (hp : H p = some (.lst acc)) (hn : G p = none) (hz : acc.length + ds.length ≤ sizeLine) (h : AtD te σ G H (.list ds))
    (k : ∀ zs G' H', Go G H G' H' → G' p = none → H' p = some (.lst acc) → DaAll G' zs ds → D.nx σ (upd H' p (.lst (acc ++ zs)))) : tDrop (tBM K "list" rExtend (tVar i) (tCons te tNil)) D σ H :=
  ⟨.ref p, hs, .inl ⟨rfl, acc, .inl (.inl hp)⟩, h _ fun v G' H' d g hv hd => by
    subst hd
    obtain ⟨a, zs, rfl, h1, h2⟩ := hv.list_inv
    exact ⟨p, a, acc, zs, rfl, rfl, g.hh _ _ hp, g.gh _ _ h1, by rw [h2.length]; exact hz, k zs G' H' g (g.keepN hn hp) (g.hh _ _ hp) h2⟩⟩
/-- a new list of one's own -/
theorem rq_own {i : Nat} {tz : TS} (h : EvDs tr σ G ds) (hl : ds.length ≤ sizeLine) (eg : Ex G H) (k : ∀ p vs G' H', Go G H G' H' → H p = none → G' p = none → H' p = some (.lst vs) → DaAll G' vs ds → tz D (σ.set i (some (.ref p))) H') : tSeq (tAsg (tLst tr) (gName i)) tz D σ H :=
  h H eg _ fun vs G1 H1 d1 g1 hvs e1 => by
    subst e1
    exact ⟨by rw [hvs.length]; exact hl, fun p hp => k p vs G1 (upd H1 p (.lst vs)) (g1.trans (Go.priv g1.gh hp)) (nb_back g1.hh hp) (nb_back g1.gh hp) upd_same hvs⟩
end
section
variable {K : PySem.W.Frag} {σ : L2.St} {G : Hp} {tl te : TE} {tt : TT} {vs : List Nat}
theorem cd_turnA {α : Type} {G0 H0 : Hp} {Dl : Addr} {L : List α} {p : α → Bool} {e : α → PyData} {i : Nat} {H' : Hp} {a : α} {σ2 : L2.St} (h0 : H0 Dl = none) (hL : L.length ≤ sizeLine) (ha : L[i]? = some a)
    (c : Cd G0 H0 Dl L p e i H') (ht : ∀ G' H'', Go G0 H0 G' H'' → AtT tt σ2 G' H'' (p a)) (he : p a = true → ∀ G' H'', Go G0 H0 G' H'' → AtD te σ2 G' H'' (e a)) :
    tt σ2 H' fun b H3 => if b = true then te σ2 H3 fun y H4 => ∃ acc, H4 Dl = some (.lst acc) ∧ acc.length < sizeLine ∧ Cd G0 H0 Dl L p e (i + 1) (upd H4 Dl (.lst (acc ++ [y]))) else Cd G0 H0 Dl L p e (i + 1) H3 := by
  obtain ⟨G', acc, g, hn, hD, hda⟩ := c
  refine ht G' H' g _ fun G1 H3 g1 => ?_
  have hn1 : G1 Dl = none := g1.keepN hn hD
  have hD1 : H3 Dl = some (.lst acc) := g1.hh _ _ hD
  have gg1 := g.trans g1
  have hl : acc.length < sizeLine := by
    rw [hda.length, List.length_map]
    have h1 := List.length_filter_le p (L.take i)
    have h2 : i < L.length := (List.getElem?_eq_some_iff.mp ha).1
    rw [List.length_take] at h1
    omega
  cases hp : p a with
  | false =>
    show Cd G0 H0 Dl L p e (i + 1) H3
    refine ⟨G1, acc, gg1, hn1, hD1, ?_⟩
    rw [take_more ha, List.filter_append, List.filter_cons, if_neg (by rw [hp]; decide), List.filter_nil, List.append_nil]
    exact hda.mono g1.gg
  | true =>
    show te σ2 H3 fun y H4 => ∃ acc, H4 Dl = some (.lst acc) ∧ acc.length < sizeLine ∧ Cd G0 H0 Dl L p e (i + 1) (upd H4 Dl (.lst (acc ++ [y])))
    refine he hp G1 H3 gg1 _ fun y G4 H4 d g4 hy hd => ?_
    subst hd
    have hn4 : G4 Dl = none := g4.keepN hn1 hD1
    refine ⟨acc, g4.hh _ _ hD1, hl, G4, acc ++ [y], (gg1.trans g4).mut h0 hn4, hn4, upd_same, ?_⟩
    rw [take_more ha, List.filter_append, List.filter_cons, if_pos hp, List.filter_nil, List.map_append]
    exact ((hda.mono g1.gg).mono g4.gg).snoc hy
/-- over a list that never changes -/
theorem at_lcL {α : Type} {j : Nat} {H : Hp} (L : List α) (enc : α → PyData) (p : α → Bool) (e : α → PyData) (hL : L.length ≤ sizeLine) (hsrc : AtD tl σ G H (.list (L.map enc))) (hw : ∀ x, wipe ((wipe σ vs).set j (some x)) vs = wipe σ vs)
    (ht : ∀ a v G' H', a ∈ L → Go G H G' H' → Da G' v (enc a) → AtT tt ((wipe σ vs).set j (some v)) G' H' (p a))
    (he : ∀ a v G' H', a ∈ L → p a = true → Go G H G' H' → Da G' v (enc a) → AtD te ((wipe σ vs).set j (some v)) G' H' (e a)) :
    AtD (tLc (iList K tl) (gName j) tt te vs) σ G H (.list ((L.filter p).map e)) := fun Q k =>
  hsrc _ fun v G1 H1 d g1 hv hd => by
    subst hd
    obtain ⟨a, xs, rfl, h1, h2⟩ := hv.list_inv
    refine ⟨a, rfl, ⟨xs, .inl (.inl (g1.gh _ _ h1))⟩, fun Dl hD => ?_⟩
    have hlen : xs.length = L.length := by rw [h2.length, List.length_map]
    refine lc_list (xs := xs) (Cd G1 H1 Dl L p e) (cd_start g1.gh hD) (fun i H' _ c => ?_) (fun i x H' hi c => ⟨hw x, ?_⟩) fun H' c => ?_
    · obtain ⟨G', _, g, _⟩ := c
      exact .inl (.inl (g.gh _ _ (g.gg _ _ h1)))
    · obtain ⟨d', hd', hx⟩ := h2.get' hi
      obtain ⟨al, hal, rfl⟩ := map_at hd'
      have hm := List.mem_of_getElem? hal
      exact cd_turnA hD hL hal c (fun G' H'' g => ht al x G' H'' hm (g1.trans g) (hx.mono g.gg)) (fun hp G' H'' g => he al x G' H'' hm hp (g1.trans g) (hx.mono g.gg))
    · rw [hlen] at c
      exact cd_end hD c fun v G' H' d g hd hq => k v G' H' d (g1.trans g) hd hq
/-- over a list of one's own -/
theorem at_lcO {α : Type} {i j : Nat} {H : Hp} {q : Addr} {xs : List V} (L : List α) (enc : α → PyData) (p : α → Bool) (e : α → PyData) (hL : L.length ≤ sizeLine) (hs : σ[i]? = some (some (.ref q))) (hq : H q = some (.lst xs)) (h2 : DaAll G xs (L.map enc)) (eg : Ex G H)
    (hw : ∀ x, wipe ((wipe σ vs).set j (some x)) vs = wipe σ vs)
    (ht : ∀ a v G' H', a ∈ L → Go G H G' H' → Da G' v (enc a) → AtT tt ((wipe σ vs).set j (some v)) G' H' (p a))
    (he : ∀ a v G' H', a ∈ L → p a = true → Go G H G' H' → Da G' v (enc a) → AtD te ((wipe σ vs).set j (some v)) G' H' (e a)) :
    AtD (tLc (iList K (tVar i)) (gName j) tt te vs) σ G H (.list ((L.filter p).map e)) := fun Q k => by
  refine ⟨_, hs, q, rfl, ⟨xs, .inl (.inl hq)⟩, fun Dl hD => ?_⟩
  have hlen : xs.length = L.length := by rw [h2.length, List.length_map]
  refine lc_list (xs := xs) (Cd G H Dl L p e) (cd_start eg hD) (fun i H' _ c => ?_) (fun i x H' hi c => ⟨hw x, ?_⟩) fun H' c => ?_
  · obtain ⟨G', _, g, _⟩ := c
    exact .inl (.inl (g.hh _ _ hq))
  · obtain ⟨d', hd', hx⟩ := h2.get' hi
    obtain ⟨al, hal, rfl⟩ := map_at hd'
    have hm := List.mem_of_getElem? hal
    exact cd_turnA hD hL hal c (fun G' H'' g => ht al x G' H'' hm g (hx.mono g.gg)) (fun hp G' H'' g => he al x G' H'' hm hp g (hx.mono g.gg))
  · rw [hlen] at c
    exact cd_end hD c k
/-- a list of one's own is given up -/
theorem pub_own {G0 H0 G' H' : Hp} {q : Addr} {xs : List V} {ds : List PyData} (g : Go G0 H0 G' H') (h0 : H0 q = none) (hn : G' q = none) (hq : H' q = some (.lst xs)) (h : DaAll G' xs ds) : Go G0 H0 (upd G' q (.lst xs)) H' ∧ Da (upd G' q (.lst xs)) (.ref q) (.list ds) :=
  ⟨g.pub h0 hn hq, .lst upd_same (h.mono (Ex.new hn))⟩
end
end MxL
end
section
set_option Elab.async false
set_option linter.all false
set_option maxRecDepth 100000
set_option maxHeartbeats 4000000
/-! Rules within the block of a comprehension: the block's fragment is the def's. -/
namespace MxL
open PySem PySem.Spec PyProof.Rows L2
section
variable {X : Cx} {K : PySem.W.Frag}
theorem ix_tupK (h : X.K = K := by rfl) : IxR X (rIxT K) := by subst h; exact ix_tup
theorem ix_listK (h : X.K = K := by rfl) : IxR X (rIxL K) := by subst h; exact ix_list
theorem op_in_seqK (h : X.K = K := by rfl) : OpR X (compareOp .In) (rIn K false) := by subst h; exact op_in_seq
theorem op_notIn_seqK (h : X.K = K := by rfl) : OpR X (compareOp .NotIn) (rIn K true) := by subst h; exact op_notIn_seq
theorem cr_anyK (hc : X.calm = true) (h : X.K = K := by rfl) : CallR X (.builtin "any") (rAny K) := by subst h; exact cr_any hc
theorem cr_allK (hc : X.calm = true) (h : X.K = K := by rfl) : CallR X (.builtin "all") (rAll K) := by subst h; exact cr_all hc
theorem pi_listK {tg l : Expr} {tl : TE} (hl : PE X l tl) (h : X.K = K := by rfl) : PI X tg l (iList K tl) := by subst h; exact pi_list hl
theorem pi_tupK {tg l : Expr} {tl : TE} (hl : PE X l tl) (h : X.K = K := by rfl) : PI X tg l (iTup K tl) := by subst h; exact pi_tup hl
theorem pa_starK {e : Expr} {es : List Expr} {p : Pos} {te : TE} {t : TA} (he : PE X e te) (hr : PA X es t) (h : X.K = K := by rfl) (hs : starEach (.Starred e p :: es) X.env = (true, eval e X.env) :: starEach es X.env := by rfl) : PA X (.Starred e p :: es) (StX.tStar K te t) := by subst h; exact StX.pa_star he hr hs
theorem pg_tupK {es : List Expr} {k : Nat} {pos : Pos} {t : TGs} {n : Nat} (hc : X.calm = true) (h : PGs X es t) (e : X.K = K := by rfl)
    (hn : (assignEach es X.env).length = n := by rfl) (hst : (assignEach es X.env).findIdx? (·.1) = none := by rfl) : PG X (.Tuple es k pos) (gTup K n t) := by subst e; exact pg_tup hc h hn hst
theorem call_isiK' (h : X.K = K := by rfl) : CallR X (.builtin "isinstance") (rIsi K) := by subst h; exact call_isi
theorem call_isiTK (h : X.K = K := by rfl) : CallR X (.builtin "isinstance") (rIsiT K) := by subst h; exact call_isiT
theorem call_tuple_ofK (h : X.K = K := by rfl) : CallR X (.type "tuple") (fun xs H Q => ∃ p ys, xs = [.ref p] ∧ ((SqL K H p ys ∧ ∀ l, H l = none → Q (.ref l) (upd H l (.tup ys))) ∨ (SqT K H p ys ∧ Q (.ref p) H))) := by subst h; exact call_tuple_of
theorem call_len_seqK (h : X.K = K := by rfl) : CallR X (.builtin "len") (fun xs H Q => ∃ p ys, xs = [.ref p] ∧ (SqL K H p ys ∨ SqT K H p ys) ∧ Q (.int ys.length) H) := by subst h; exact call_len_seq
theorem op_catAK (h : X.K = K := by rfl) : OpR X (binaryOp .Add) (rCatA K) := by subst h; exact op_catA
theorem op_eqDK (hu : X.A.units + 64 < cLine) (h : X.K = K := by rfl) : OpR X (compareOp .Eq) (rEqD K) := by subst h; exact op_eqD hu
theorem op_neDK (hu : X.A.units + 64 < cLine) (h : X.K = K := by rfl) : OpR X (compareOp .NotEq) (rNeD K) := by subst h; exact op_neD hu
theorem cr_sortDK (hu : X.A.units + 64 < cLine) (h : X.K = K := by rfl) : CallR X (.builtin "sorted") (rSortL K) := by subst h; exact cr_sortD hu
end
section
variable {X : Cx}
/-- x = {k: v for ..}, where the block's end is the def's -/
theorem ps_setDc {i : Nat} {y : Str} {py : Pos} {kx vx tg iter : Expr} {ifs : List Expr} {scope : Scope} {own : List (Str × Nat)} {pos spos : Pos} {wi : TI} {g : TG} {tt : TT} {tk tv : TE} (hc : X.calm = true) (hN : X.N.Nodup) (hy : X.N[i]? = some y) (hyl : X.env.scope.names.lookup y = some .local)
    (hsw : swapsWith (.DictComp kx vx [⟨tg, iter, ifs, 0⟩] scope pos) (some (.Name y py)) spos.line X.env = pure true) (hi : PI X tg iter wi) (ok : BlkOk X.N X.env.scope scope own)
    (hg : ∀ (s : Shared) (H : Hp) (C : Addr) (cl : List (Str × Addr)) (fp : List Addr), PG (X.blk s H scope (compEnvC scope cl C X.env) fp) tg g) (ht : ∀ (s : Shared) (H : Hp) (C : Addr) (cl : List (Str × Addr)) (fp : List Addr), PTs (X.blk s H scope (compEnvC scope cl C X.env) fp) ifs tt)
    (hk : ∀ (s : Shared) (H : Hp) (C : Addr) (cl : List (Str × Addr)) (fp : List Addr), PE (X.blk s H scope (compEnvC scope cl C X.env) fp) kx tk)
    (he : ∀ (s : Shared) (H : Hp) (C : Addr) (cl : List (Str × Addr)) (fp : List Addr), PE (X.blk s H scope (compEnvC scope cl C X.env) fp) vx tv) (hs : ∀ x, foldedSetIterable iter X.env x = pure x := by intro _; rfl) :
    PS X (.Assign [.Name y py] (.DictComp kx vx [⟨tg, iter, ifs, 0⟩] scope pos) spos) (tAsg (tDc wi g tt tk tv (own.map (·.2))) (gName i)) := by
  refine ⟨fun pins s σ H D I h => ?_⟩
  rw [exec_Assign_Name_used _ _ _ _ hsw]
  refine wpAny_bind (wpAny_standAt (wpAny_bind ?_))
  show wpAny _ X.A (do let _ ← comprehension (.DictComp kx vx [⟨tg, iter, ifs, 0⟩] scope pos) scope X.env (firstIterPos [⟨tg, iter, ifs, 0⟩] pos) newDict false (eval iter X.env) (some (assign (.Name y py) X.env))) _ _ s
  have h : tDc wi g tt tk tv (own.map (·.2)) σ H (fun x H1 => gName i x σ H1 D.nx) := h
  refine wpAny_bind (thn (dc_core (Qf := fun _ s' => SP X pins D .next s') hc hN I hi ok hg ht hk he hs h fun L C s' m H' I' q hn f => ?_) fun _ s' hq => wpAny_pure (wpAny_pure hq))
  show wpAny _ _ (assign (.Name y py) X.env (.ref L)) _ _ _
  refine wpAny_assign_Name (store_ok2 (v := V.ref L) I' hN hy (.inl hyl) rfl (fun s2 I2 ⟨a, sb, ha⟩ => ?_) (.inr hyl))
  obtain ⟨f0, f1, f2, f3, f4, f5⟩ := f
  have haC : C ≠ a := by
    rcases ha with z | z
    · rw [z]; exact f1
    · exact fun e => f4 y a z e.symm
  refine ⟨m, hn.sameBut sb haC, fun h3 sb3 => ?_⟩
  exact ⟨_, H', I2.turned (t' := s2.toks) (fun b o hb e => (sb3.2 b hb).trans e) f0 f1 f3 f4 f5, q⟩
theorem sw_trueD {kx vx : Expr} {gs : List Comprehension} {scope : Scope} {pos py : Pos} {y : Str} {l : Nat} {env : Env} (hk : env.scope.kind = .function) (hy : env.scope.names.lookup y = some .local) (hl : (py.line == pos.line) = true)
    (ha : (scope.names.any fun (n, k) => n == y && (k == .local || k == .cell)) = false) : swapsWith (.DictComp kx vx gs scope pos) (some (.Name y py)) l env = pure true := by
  have ky : env.kindOf y = some .local := hy
  have hb : env.blockKind = .function := by unfold Env.blockKind; rw [hk]; rfl
  unfold swapsWith
  simp only [hb, ky, ha, Expr.pos, hl]
  rfl
end
end MxL
end
section
set_option Elab.async false
set_option linter.all false
set_option maxRecDepth 100000
set_option maxHeartbeats 4000000
/-! Free numbers, keys, stories; what is parted, what rests. -/
namespace MxL
open PySem PySem.Spec PyProof.Rows L2 MxT
open Evl (Ex)
/-- a def whose arguments stand for one thing -/
def spA {α : Type} (enc : α → List PyData) (Pre : α → Prop) (Post : α → PyData → Prop) : Sp := fun vs H Q _ => ∃ G a, Ex G H ∧ DaAll G vs (enc a) ∧ Pre a ∧ ∀ v G' H' d, Go G H G' H' → Da G' v d → Post a d → Q v H'
section
variable {α : Type} {enc : α → List PyData} {Pre : α → Prop} {Post : α → PyData → Prop} {σ : L2.St} {G H : Hp} {ta : TA} {E : XK}
theorem er_callA (a : α) (h : EvDs ta σ G (enc a)) (hp : Pre a) : EvR (tCall (spA enc Pre Post) [] E ta) σ G (Post a) := fun H eg Q k =>
  h H eg _ fun vs G1 H1 d1 g1 hvs e1 => by
    subst e1
    rw [List.append_nil]
    exact ⟨G1, a, g1.gh, hvs, hp, fun v G' H' d g hd hq => k v G' H' d (g1.trans g) hd hq⟩
theorem ed_callA {r : PyData} (a : α) (h : EvDs ta σ G (enc a)) (hp : Pre a) (hr : ∀ d, Post a d → d = r) : EvD (tCall (spA enc Pre Post) [] E ta) σ G r := (er_callA a h hp).imp hr
theorem at_callA (a : α) (h : AtDs ta σ G H (enc a)) (hp : Pre a) : AtR (tCall (spA enc Pre Post) [] E ta) σ G H (Post a) := fun Q k =>
  h _ fun vs G1 H1 g1 hvs => by
    rw [List.append_nil]
    exact ⟨G1, a, g1.gh, hvs, hp, fun v G' H' d g hd hq => k v G' H' d (g1.trans g) hd hq⟩
end
theorem r_name {i : Nat} {v : V} {σ : L2.St} {H : Hp} {F : L2.St → Hp → Prop} (h : F (σ.set i (some v)) H) : gName i v σ H F := h
theorem rq_raw {i : Nat} {te : TE} {tz : TS} {D : Ends} {σ : L2.St} {H : Hp} (h : te σ H fun v H' => tz D (σ.set i (some v)) H') : tSeq (tAsg te (gName i)) tz D σ H := h
section
variable {P : Program} {w : World} {K : PySem.W.Frag} {mg : Str → Option Value} {base : Heap}
theorem has_okA {α : Type} {enc : α → List PyData} {x : Str} {st : Stmt} {N ps : List Str} {k : Nat} {Pre : α → Prop} {Post : α → PyData → Prop} (F : FnAt K mg x st) (S : FnScope N ps (defScope st)) (hlen : ∀ a, (enc a).length = ps.length)
    (bd : ∀ (kV doc pm : Value) (an : Option Addr) (cdv ct : Value) (us : List Value), us.length = ps.length → bindArgs (PySem.W.fnOf x x (defArgs st) (defBody st) (defScope st) .none kV doc pm an cdv ct) ⟨us, []⟩ = pure (ps.zip us))
    (hb : ∀ (f : Addr) (cdv : Value) (A : Around) (outer : List Env) (s : Shared) (G H : Hp) (vs : List V) (a : α) (Q : VK) (E : XK), Room k (A.deeper (envOfC x (defScope st) s.heap.objs.size f cdv)) → Ex G H → DaAll G vs (enc a) → Pre a →
      (∀ v G' H' d, Go G H G' H' → Da G' v d → Post a d → Q v H') →
      ∃ t, PSs (cxOf CX0 P w K mg base N x (defScope st) f cdv A outer s H E).nox (defBody st) t ∧ t { nx := fun _ H' => Q .non H', rt := Q } (start N vs) H) : Has P w K mg base (k + 1) x ps (spA enc Pre Post) :=
  has_sp F S (fun vs H Q E ⟨G, a, _, h, p, _⟩ => h.length.trans (hlen a)) bd fun f cdv A outer s H vs Q E hr ⟨G, a, eg, h, p, q⟩ => hb f cdv A outer s G H vs a Q E hr eg h p q
end
end MxL
namespace MxP
open PySem PySem.Spec PyProof.Rows L2 MxT MxL
open Evl (Ex)
open Mx (at_ nb Rows free key done)
/-! ### plain -/
theorem key_take {rows : Rows} {s : NSt} {x : Nat} (hx : x < s.length) : key rows s x = s.take x ++ (free rows s x :: s.drop (x + 1)) := by
  unfold key
  rw [List.set_eq_take_append_cons_drop, if_pos hx]
theorem free_le {rows : Rows} {s : NSt} {x : Nat} : free rows s x ≤ (nb rows x).length := by
  have := (Mx.mex_is ((nb rows x).map (at_ s))).le
  rw [List.length_map] at this
  exact this
structure Adj (n : Nat) (dd : List (Nat × Nat)) (rows : Rows) : Prop where
  len : rows.length = n
  mem : ∀ x y, y ∈ nb rows x ↔ (x, y) ∈ dd ∨ (y, x) ∈ dd
  few : ∀ x, (nb rows x).length ≤ 64
theorem Adj.grb {n : Nat} {dd : List (Nat × Nat)} {rows : Rows} (a : Adj n dd rows) (h : HouseOk n dd) : GrB n rows := by
  refine ⟨⟨a.len, fun x y hy => ?_, fun x y hy => ?_, fun x y hy => ?_⟩, a.few, h.most⟩
  · rcases (a.mem x y).mp hy with q | q
    · have := h.lt _ q; simp only at this; omega
    · have := h.lt _ q; simp only at this; omega
  · rcases (a.mem x y).mp hy with q | q
    · have := h.lt _ q; simp only at this; omega
    · have := h.lt _ q; simp only at this; omega
  · exact (a.mem y x).mpr ((a.mem x y).mp hy).symm
theorem Adj.same {n : Nat} {dd : List (Nat × Nat)} {rows rows' : Rows} (a : Adj n dd rows) (b : Adj n dd rows') : Mx.Same2 rows rows' := fun x y => (a.mem x y).trans (b.mem x y).symm
section
variable {P : Program} {w : World} {K : PySem.W.Frag} {mg : Str → Option Value} {base : Heap}
/-- rows, a state, a room -/
structure RSX where
  rows : Rows
  s : NSt
  x : Nat
  n : Nat
def RSX.enc (a : RSX) : List PyData := [dRows a.rows, dT a.s, dN a.x]
structure RSX.Ok (a : RSX) : Prop where
  g : GrB a.n a.rows
  l : a.s.length = a.n
  x : a.x < a.n
def spFree : Sp := spA RSX.enc RSX.Ok fun a r => r = dN (free a.rows a.s a.x)
abbrev HFree (P : Program) (w : World) (K : PySem.W.Frag) (mg : Str → Option Value) (base : Heap) := Has P w K mg base 1 "free_number" ["rows", "state", "room"] spFree
theorem scFreeNumber : FnScope ["rows", "state", "room", "shown", "number", "other"] ["rows", "state", "room"] (defScope sFreeNumber) := ⟨rfl, rfl, rfl, by decide +kernel, rfl, by decide +kernel, by decide +kernel⟩
theorem bdFreeNumber : ∀ (kV doc pm : Value) (an : Option Addr) (cdv ct : Value) (us : List Value), us.length = (["rows", "state", "room"] : List Str).length → bindArgs (PySem.W.fnOf "free_number" "free_number" (defArgs sFreeNumber) (defBody sFreeNumber) (defScope sFreeNumber) .none kV doc pm an cdv ct) ⟨us, []⟩ = pure ((["rows", "state", "room"] : List Str).zip us) := fun _ _ _ _ _ _ us hl => match us, hl with | [_, _, _], _ => rfl
theorem ok_free_number (T : Tx K mg) : HFree P w K mg base := by
  refine has_okA T.fFreeNumber scFreeNumber (fun a => rfl) bdFreeNumber fun f cdv A outer s G H vs a Q E hr eg hvs hp q => ⟨_, (pss_cons (ps_setDc (i := 3) (own := [("other", 5)]) rfl scFreeNumber.nd rfl rfl (sw_trueD rfl rfl rfl (by decide +kernel)) (pi_list (pe_ix ix_list (pv 0) (pv 2) (fun _ _ => rfl))) (blkOk_by (by kernel_rfl)) (fun _ _ _ _ _ => (pg_name (i := 5) scFreeNumber.nd rfl (by first | exact Or.inl rfl | exact Or.inr rfl))) (fun _ _ _ _ _ => pts_nil) (fun _ _ _ _ _ => (pe_ix (ix_tupK (K := K)) (pv 1) (pv 5) (fun _ _ => rfl))) (fun _ _ _ _ _ => pe_bl))
      (pss_cons (ps_set (i := 4) scFreeNumber.nd rfl (by first | exact Or.inl rfl | exact Or.inr rfl) pe_int)
      (pss_cons (ps_while PassesOwn.never (pt_cmp (pc_din (hu_of hr) (pv 4) (pv 3))) (pss_one (ps_aug (i := 4) scFreeNumber.nd rfl (by first | exact Or.inl rfl | exact Or.inr rfl) pe_int ip_add)))
      (pss_one (ps_ret (pv 4)))))), ?_⟩
  obtain ⟨rows, st, x, n⟩ := a
  obtain ⟨hg, hl, hx⟩ := hp
  simp only at hg hl hx
  obtain ⟨v, v1, v2, rfl, hv, h1, h2⟩ := args3 hvs
  have hxr : x < rows.length := by rw [hg.gr.len]; exact hx
  refine rq_raw ?_
  refine rd_dcL (j := 5) (nb rows x) dN (fun o => ((at_ st o : Nat) : Int)) (fun _ => .bl true) (few (Nat.le_trans (hg.few x) (by decide))) (ed_row hxr (ed_var rfl hv) (ed_var rfl h2)) (fun _ => rfl) ?_ (fun o u G' ho eG hu => Evl.ev_c) eg ?_
  · exact fun o u G' ho eG hu => ed_at (by have := hg.gr.lt x o ho; omega) (ed_var rfl (h1.mono eG)) (ed_var rfl hu)
  intro D G1 H1 g1 hn hD h0
  have gp := g1.pub h0 hn hD
  have hc : ∀ k : Nat, EvD (tDIn (tVar 4) (tVar 3)) [some v, some v1, some v2, some (.ref D), some (.int (k : Nat)), none] (upd G1 D (.dK (foldK (fun o => ((at_ st o : Nat) : Int)) (fun _ => V.bl true) (nb rows x)))) (.bool (decide (k ∈ (nb rows x).map (at_ st)))) := fun k => by
    refine EvD.of (ed_ev (v := .bl (valV (foldK (fun o => ((at_ st o : Nat) : Int)) (fun _ => V.bl true) (nb rows x)) (.inl (k : Nat))).isSome) (fun H2 e2 Q2 q2 => ⟨.int (k : Nat), rfl, .ref D, rfl, D, _, rfl, DGet.k (k := .inl (k : Nat)) (e2 _ _ upd_same), q2 H2 (Ex.refl H2)⟩) (.bl _)) ?_
    congr 1
    rw [foldK_has _ _ _ _ _ rfl]
    refine decide_eq_decide.mpr ?_
    rw [show (nb rows x).map (fun o => ((at_ st o : Nat) : Int)) = ((nb rows x).map (at_ st)).map (fun n => ((n : Nat) : Int)) by rw [List.map_map]; rfl]
    exact mem_cast k _
  refine r_while (fun m σ' H' => ∃ k G', Go (upd G1 D (.dK (foldK (fun o => ((at_ st o : Nat) : Int)) (fun _ => V.bl true) (nb rows x)))) H1 G' H' ∧ σ' = [some v, some v1, some v2, some (.ref D), some (.int ((k : Nat) : Int)), none] ∧ (∀ j, j < k → j ∈ (nb rows x).map (at_ st)) ∧ m = (nb rows x).length - k) _ ⟨0, _, Go.refl gp.gh, rfl, fun j hj => absurd hj (Nat.not_lt_zero _), rfl⟩ ?_
  rintro m σ' H' ⟨k, G', g', rfl, hk, rfl⟩
  refine ⟨_, G', g'.gh, et_B ((hc k).mono g'.gg), fun hb H2 e2 => ?_, fun hb H2 e2 => ?_⟩
  · have hm : k ∈ (nb rows x).map (at_ st) := of_decide_eq_true hb
    have hk' : ∀ j, j < k + 1 → j ∈ (nb rows x).map (at_ st) := fun j hj => by
      rcases Nat.lt_succ_iff_lt_or_eq.mp hj with z | z
      · exact hk j z
      · rw [z]; exact hm
    have hlen := Mx.nodup_len (l := List.range (k + 1)) (m := (nb rows x).map (at_ st)) List.nodup_range (fun y hy => hk' y (List.mem_range.mp hy))
    rw [List.length_range, List.length_map] at hlen
    refine ⟨fun σ2 H3 => ∃ G', Go (upd G1 D (.dK (foldK (fun o => ((at_ st o : Nat) : Int)) (fun _ => V.bl true) (nb rows x)))) H1 G' H3 ∧ σ2 = [some v, some v1, some v2, some (.ref D), some (.int ((k + 1 : Nat) : Int)), none], fun σ2 H3 ⟨G3, g3, e3⟩ => ⟨_, ?_, k + 1, G3, g3, e3, hk', rfl⟩, ?_⟩
    · omega
    · exact ⟨.int (k : Nat), rfl, (k : Nat), 1, rfl, rfl, G', g'.ext e2, rfl⟩
  · have hm : k ∉ (nb rows x).map (at_ st) := of_decide_eq_false hb
    have hfree : free rows st x = k := Mx.mex_eq ⟨hm, hk⟩
    exact ⟨.int (k : Nat), rfl, q _ G' H2 _ (gp.trans (g'.ext e2)) (.int _) (by rw [hfree]; rfl)⟩
end
end MxP
end
section
set_option Elab.async false
set_option linter.all false
set_option maxRecDepth 100000
set_option maxHeartbeats 4000000
/-! Keys, stories, rests, what is below. -/
namespace MxP
open PySem PySem.Spec PyProof.Rows L2 MxT MxL
open Evl (Ex)
open Mx (at_ nb Rows free key done changed)
/-! ### plain -/
def unN : PyData → Nat
  | .int i => i.toNat
  | _ => 0
theorem unN_dN (n : Nat) : unN (dN n) = n := by unfold dN unN; simp
theorem un_map (l : List Nat) : (l.map dN).map unN = l := by
  rw [List.map_map]
  have : unN ∘ dN = id := funext unN_dN
  rw [this, List.map_id]
noncomputable def srt (l : List Nat) : List Nat := (sortD (l.map dN)).map unN
theorem srt_perm (l : List Nat) : (srt l).Perm l := by
  have h := (sortD_perm (l.map dN)).map unN
  rw [un_map] at h
  exact h
theorem srt_map (l : List Nat) : (srt l).map dN = sortD (l.map dN) := by
  unfold srt
  rw [List.map_map]
  refine (List.map_congr_left (g := id) ?_).trans (List.map_id _)
  intro d hd
  obtain ⟨n, _, rfl⟩ := List.mem_map.mp ((sortD_perm (l.map dN)).mem_iff.mp hd)
  show dN (unN (dN n)) = dN n
  rw [unN_dN]
def rowL (dd : List (Nat × Nat)) (x : Nat) : List Nat := dd.flatMap fun p => (if p.1 = x then [p.2] else []) ++ (if p.2 = x then [p.1] else [])
theorem mem_rowL {dd : List (Nat × Nat)} {x y : Nat} : y ∈ rowL dd x ↔ (x, y) ∈ dd ∨ (y, x) ∈ dd := by
  unfold rowL
  rw [List.mem_flatMap]
  constructor
  · rintro ⟨⟨a, b⟩, hm, h⟩
    rw [List.mem_append] at h
    rcases h with h | h
    · by_cases e : a = x
      · rw [if_pos e] at h
        have : y = b := by simpa using h
        subst e; subst this; exact .inl hm
      · rw [if_neg e] at h; cases h
    · by_cases e : b = x
      · rw [if_pos e] at h
        have : y = a := by simpa using h
        subst e; subst this; exact .inr hm
      · rw [if_neg e] at h; cases h
  · rintro (h | h)
    · exact ⟨_, h, by simp⟩
    · exact ⟨_, h, by simp⟩
theorem rowL_len (x : Nat) : ∀ dd : List (Nat × Nat), (rowL dd x).length ≤ 2 * dd.length
  | [] => Nat.le_refl 0
  | p :: dd => by
    have := rowL_len x dd
    unfold rowL at this ⊢
    rw [List.flatMap_cons, List.length_append, List.length_append, List.length_cons]
    have h1 : (if p.1 = x then [p.2] else []).length ≤ 1 := by split <;> simp
    have h2 : (if p.2 = x then [p.1] else []).length ≤ 1 := by split <;> simp
    omega
noncomputable def nearRows (n : Nat) (dd : List (Nat × Nat)) : Rows := (List.range n).map fun x => srt (rowL dd x)
def lawRows (n : Nat) (dd : List (Nat × Nat)) : Rows := (List.range n).map (rowL dd)
theorem nb_map {n x : Nat} {f : Nat → List Nat} (hx : x < n) : nb ((List.range n).map f) x = f x := by
  unfold nb
  rw [List.getD_eq_getElem?_getD, List.getElem?_map, List.getElem?_range hx]
  rfl
theorem nb_map' {n x : Nat} {f : Nat → List Nat} (hx : n ≤ x) : nb ((List.range n).map f) x = [] := by
  unfold nb
  rw [List.getD_eq_getElem?_getD, List.getElem?_eq_none (by simpa using hx)]
  rfl
theorem adj_of {n : Nat} {dd : List (Nat × Nat)} (ho : HouseOk n dd) {f : Nat → List Nat} (hf : ∀ x, (f x).Perm (rowL dd x)) : Adj n dd ((List.range n).map f) := by
  refine ⟨by simp, fun x y => ?_, fun x => ?_⟩
  · by_cases hx : x < n
    · rw [nb_map hx, (hf x).mem_iff, mem_rowL]
    · rw [nb_map' (by omega)]
      constructor
      · intro h; cases h
      · rintro (h | h)
        · have := ho.lt _ h; simp only at this; omega
        · have := ho.lt _ h; simp only at this; omega
  · by_cases hx : x < n
    · rw [nb_map hx, (hf x).length_eq]
      have := rowL_len x dd
      have := ho.few
      omega
    · rw [nb_map' (by omega)]; simp
theorem adj_near {n : Nat} {dd : List (Nat × Nat)} (ho : HouseOk n dd) : Adj n dd (nearRows n dd) := adj_of ho fun x => srt_perm _
theorem adj_law {n : Nat} {dd : List (Nat × Nat)} (ho : HouseOk n dd) : Adj n dd (lawRows n dd) := adj_of ho fun x => List.Perm.refl _
theorem done_lenN (rows : Rows) (s : NSt) (ks : List Nat) : (done rows s ks).length = s.length := Mx.done_len rows ks s
def restB (rows : Rows) (s : NSt) : Bool := ((List.range s.length).zip s).all fun p => decide (free rows s p.1 = p.2)
theorem restB_true {rows : Rows} {s : NSt} (h : Mx.Rest rows s) : restB rows s = true := by
  unfold restB
  rw [List.all_eq_true]
  rintro ⟨i, v⟩ hm
  obtain ⟨j, hj⟩ := List.mem_iff_getElem?.mp hm
  rw [List.getElem?_zip_eq_some] at hj
  obtain ⟨h1, h2⟩ := hj
  have hjl : j < s.length := (List.getElem?_eq_some_iff.mp h2).1
  rw [List.getElem?_range hjl] at h1
  have hi : i = j := (Option.some.inj h1).symm
  subst hi
  rw [Mx.at_lt hjl] at h2
  have hv : at_ s i = v := Option.some.inj h2
  show decide (free rows s i = v) = true
  rw [decide_eq_true_iff, ← hv]
  exact h i hjl
def belowB (r s : NSt) : Bool := (r.zip s).all fun p => decide (p.1 ≤ p.2)
theorem belowB_true {r s : NSt} (h : Mx.Le r s) : belowB r s = true := by
  unfold belowB
  rw [List.all_eq_true]
  rintro ⟨a, b⟩ hm
  obtain ⟨j, hj⟩ := List.mem_iff_getElem?.mp hm
  rw [List.getElem?_zip_eq_some] at hj
  obtain ⟨h1, h2⟩ := hj
  rw [Mx.at_lt (List.getElem?_eq_some_iff.mp h1).1] at h1
  rw [Mx.at_lt (List.getElem?_eq_some_iff.mp h2).1] at h2
  have e1 := Option.some.inj h1
  have e2 := Option.some.inj h2
  have := h j
  show decide (a ≤ b) = true
  rw [decide_eq_true_iff]; omega
theorem ed_neg1 {σ : L2.St} {G : Hp} : EvD (tUn (rU fun i => .int (-i)) (tC (.int 1))) σ G (.int (-1)) := ed_ev (v := .int (-1)) (fun H eg Q k => ⟨1, rfl, k H (Ex.refl H)⟩) (.int _)
section
variable {P : Program} {w : World} {K : PySem.W.Frag} {mg : Str → Option Value} {base : Heap}
def spKey : Sp := spA RSX.enc RSX.Ok fun a r => r = dT (key a.rows a.s a.x)
abbrev HKey (P : Program) (w : World) (K : PySem.W.Frag) (mg : Str → Option Value) (base : Heap) := Has P w K mg base 2 "key_in" ["rows", "state", "room"] spKey
theorem scKeyIn : FnScope ["rows", "state", "room"] ["rows", "state", "room"] (defScope sKeyIn) := ⟨rfl, rfl, rfl, by decide +kernel, rfl, by decide +kernel, by decide +kernel⟩
theorem bdKeyIn : ∀ (kV doc pm : Value) (an : Option Addr) (cdv ct : Value) (us : List Value), us.length = (["rows", "state", "room"] : List Str).length → bindArgs (PySem.W.fnOf "key_in" "key_in" (defArgs sKeyIn) (defBody sKeyIn) (defScope sKeyIn) .none kV doc pm an cdv ct) ⟨us, []⟩ = pure ((["rows", "state", "room"] : List Str).zip us) := fun _ _ _ _ _ _ us hl => match us, hl with | [_, _, _], _ => rfl
theorem ok_key_in (T : Tx K mg) (FFreeNumber : HFree P w K mg base) : HKey P w K mg base := by
  refine has_okA T.fKeyIn scKeyIn (fun a => rfl) bdKeyIn fun f cdv A outer s G H vs a Q E hr eg hvs hp q => ⟨_, (pss_one (ps_ret (pe_tup (StX.pa_star (pe_slice sl_tupA (pv 1) po_none (po_some (pv 2))) (pa_cons (pe_callH FFreeNumber (hr.mono (by decide)) (pa_cons (pv 0) (pa_cons (pv 1) (pa_cons (pv 2) pa_nil)))) (StX.pa_star (pe_slice sl_tupA (pv 1) (po_some (pe_op op_add (pv 2) pe_int)) po_none) pa_nil)))))), ?_⟩
  obtain ⟨rows, st, x, n⟩ := a
  have hp' := hp
  obtain ⟨hg, hl, hx⟩ := hp
  simp only at hg hl hx
  obtain ⟨v, v1, v2, rfl, hv, h1, h2⟩ := args3 hvs
  have hn := hg.most
  refine r_ret (ed_tup (es_star (ed_slTo (ed_var rfl h1) (ed_var rfl h2)) (es_cons (ed_callA (⟨rows, st, x, n⟩ : RSX) (es_cons (ed_var rfl hv) (es_cons (ed_var rfl h1) (es_cons (ed_var rfl h2) es_nil))) hp' fun d hd => hd) (es_star (ed_slFrom (ed_var rfl h1) (ed_add (b := 1) (ed_var rfl h2) ed_i)) es_nil))) (few (by simp; omega))) eg fun v G' H' d g hd hr => q v G' H' d g hd (hr.trans ?_)
  show PyData.tuple _ = dT (key rows st x)
  unfold dT
  rw [key_take (by omega), List.append_nil, List.map_append, List.map_cons, List.map_take, List.map_drop]
/-- a house, a state, keys -/
structure RSK where
  rows : Rows
  s : NSt
  ks : List Nat
  n : Nat
def RSK.enc (a : RSK) : List PyData := [dRows a.rows, dT a.s, dT a.ks]
structure RSK.Ok (a : RSK) : Prop where
  g : GrB a.n a.rows
  l : a.s.length = a.n
  k : ∀ x ∈ a.ks, x < a.n
  few : a.ks.length ≤ 60
def stories (rows : Rows) (s : NSt) (ks : List Nat) (i : Nat) : List PyData := (List.range (i + 1)).map fun j => dT (done rows s (ks.take j))
def spStory : Sp := spA RSK.enc RSK.Ok fun a r => r = .list (stories a.rows a.s a.ks a.ks.length)
abbrev HStory (P : Program) (w : World) (K : PySem.W.Frag) (mg : Str → Option Value) (base : Heap) := Has P w K mg base 3 "story_in" ["rows", "state", "keys"] spStory
theorem stories_more (rows : Rows) (s : NSt) (ks : List Nat) (i : Nat) : stories rows s ks (i + 1) = stories rows s ks i ++ [dT (done rows s (ks.take (i + 1)))] := by
  unfold stories; rw [List.range_succ, List.map_append]; rfl
theorem scStoryIn : FnScope ["rows", "state", "keys", "found", "room"] ["rows", "state", "keys"] (defScope sStoryIn) := ⟨rfl, rfl, rfl, by decide +kernel, rfl, by decide +kernel, by decide +kernel⟩
theorem bdStoryIn : ∀ (kV doc pm : Value) (an : Option Addr) (cdv ct : Value) (us : List Value), us.length = (["rows", "state", "keys"] : List Str).length → bindArgs (PySem.W.fnOf "story_in" "story_in" (defArgs sStoryIn) (defBody sStoryIn) (defScope sStoryIn) .none kV doc pm an cdv ct) ⟨us, []⟩ = pure ((["rows", "state", "keys"] : List Str).zip us) := fun _ _ _ _ _ _ us hl => match us, hl with | [_, _, _], _ => rfl
theorem ok_story_in (T : Tx K mg) (FKeyIn : HKey P w K mg base) : HStory P w K mg base := by
  refine has_okA T.fStoryIn scStoryIn (fun a => rfl) bdStoryIn fun f cdv A outer s G H vs a Q E hr eg hvs hp q => ⟨_, (pss_cons (ps_set (i := 3) scStoryIn.nd rfl (by first | exact Or.inl rfl | exact Or.inr rfl) (pe_lst (pa_cons (pv 1) pa_nil)))
      (pss_cons (ps_for PassesOwn.never rfl (pi_tup (pv 2)) (pg_name (i := 4) scStoryIn.nd rfl (by first | exact Or.inl rfl | exact Or.inr rfl)) (pss_one (ps_expr (pe_bm PySem.F.plainAttrs_list PySem.F.slot_list_append PySem.F.type_list_append mt_append (pv 3) (pa_cons (pe_callH FKeyIn (hr.mono (by decide)) (pa_cons (pv 0) (pa_cons (pe_ix ix_list (pv 3) (pe_un un_neg pe_int) (fun _ _ => rfl)) (pa_cons (pv 4) pa_nil)))) pa_nil)))))
      (pss_one (ps_ret (pv 3))))), ?_⟩
  obtain ⟨rows, st, ks, n⟩ := a
  obtain ⟨hg, hl, hk, hf⟩ := hp
  simp only at hg hl hk hf
  obtain ⟨v, v1, v2, rfl, hv, h1, h2⟩ := args3 hvs
  refine rq_own (es_cons (ed_var rfl h1) es_nil) (few (by simp)) eg fun p ws G1 H1 g1 h0 hn1 hp1 hws => ?_
  refine r_forT (L := ks) (enc := dN) (ed_var rfl (h2.mono g1.gg)) g1.gh fun G2 H2 g2 => ?_
  refine ⟨fun i σ' H' => ∃ G' acc b, Go G H G' H' ∧ Ex G2 G' ∧ σ' = [some v, some v1, some v2, some (.ref p), b] ∧ G' p = none ∧ H' p = some (.lst acc) ∧ DaAll G' acc (stories rows st ks i), ⟨G2, ws, none, g1.trans g2, Ex.refl G2, rfl, g2.keepN hn1 hp1, g2.hh _ _ hp1, hws.mono g2.gg⟩, fun i σ' H' ⟨G', acc, b, g, e, _⟩ => e.trans g.gh, ?_, ?_⟩
  · rintro i x u σ' H' hi hx ⟨G', acc, b, g, e, rfl, hn, hp, hda⟩
    have hxm := List.mem_of_getElem? hi
    have hil := (List.getElem?_eq_some_iff.mp hi).1
    have hlen : acc.length = i + 1 := by rw [hda.length]; simp [stories]
    have hlast : (stories rows st ks i)[i]? = some (dT (done rows st (ks.take i))) := by
      unfold stories
      rw [List.getElem?_map, List.getElem?_range (by omega)]
      rfl
    obtain ⟨y, hy, dy⟩ := hda.get hlast
    have hat : atI acc (-1) = some y := by
      have : ixN acc.length (-1) = some i := by rw [hlen]; unfold ixN; simp; omega
      unfold atI; rw [this]; exact hy
    have hstep : done rows st (ks.take (i + 1)) = key rows (done rows st (ks.take i)) x := by
      rw [take_more hi, Mx.done_append]; rfl
    refine r_name ?_
    refine r_appA rfl hp hn (by rw [hlen, line]; omega) (at_callA (enc := RSX.enc) (Pre := RSX.Ok) (Post := fun a r => r = dT (key a.rows a.s a.x)) (ta := tCons _ (tCons _ (tCons _ tNil))) (⟨rows, done rows st (ks.take i), x, n⟩ : RSX) ?_ ⟨hg, by rw [done_lenN]; exact hl, hk x hxm⟩) fun w' G3 H3 d3 g3 hn3 hp3 hd3 hr3 => ?_
    · exact at_cons (at_d (ed_var rfl ((hv.mono g.gg))) g.gh) fun G3 H3 g3 => at_cons (at_ixO (i := 3) rfl (g3.hh _ _ hp) hat (dy.mono g3.gg) ed_neg1 g3.gh) fun G4 H4 g4 => at_cons (at_d (ed_var rfl (((hx.mono e).mono g3.gg).mono g4.gg)) g4.gh) fun G5 H5 g5 => at_nil g5.gh
    refine ⟨G3, acc ++ [w'], some u, (g.trans g3).mut h0 hn3, e.trans g3.gg, rfl, hn3, upd_same, ?_⟩
    rw [stories_more, hstep]
    subst hr3
    exact (hda.mono g3.gg).snoc hd3
  · rintro σ' H' ⟨G', acc, b, g, e, rfl, hn, hp, hda⟩
    obtain ⟨g', hd'⟩ := pub_own g h0 hn hp hda
    exact ⟨.ref p, rfl, q _ _ _ _ g' hd' rfl⟩
end
end MxP
end
section
set_option Elab.async false
set_option linter.all false
set_option maxRecDepth 100000
set_option maxHeartbeats 4000000
/-! What is parted, what rests, the fewest keys. -/
namespace MxP
open PySem PySem.Spec PyProof.Rows L2 MxT MxL
open Evl (Ex)
open Mx (at_ nb Rows free key done changed)
section
variable {P : Program} {w : World} {K : PySem.W.Frag} {mg : Str → Option Value} {base : Heap}
abbrev HNeedState (P : Program) (w : World) (K : PySem.W.Frag) (mg : Str → Option Value) (base : Heap) := Has P w K mg base 5 "need_state" ["house", "state"] spNeedState
abbrev HNeedRow (P : Program) (w : World) (K : PySem.W.Frag) (mg : Str → Option Value) (base : Heap) := Has P w K mg base 3 "need_row" ["house", "keys"] spNeedRow
abbrev HNeedNumbers (P : Program) (w : World) (K : PySem.W.Frag) (mg : Str → Option Value) (base : Heap) := Has P w K mg base 3 "need_numbers" ["house", "state"] spNeedNumbers
structure Ho where
  n : Nat
  dd : List (Nat × Nat)
def spNear : Sp := spA (fun a : Ho => [dHouse a.n a.dd]) (fun a => HouseOk a.n a.dd) fun a r => r = dRows (nearRows a.n a.dd)
abbrev HNear (P : Program) (w : World) (K : PySem.W.Frag) (mg : Str → Option Value) (base : Heap) := Has P w K mg base 1 "near" ["house"] spNear
theorem ed_near {σ : L2.St} {G : Hp} {te : TE} {n : Nat} {dd : List (Nat × Nat)} (ho : HouseOk n dd) (h : EvD te σ G (dHouse n dd)) : EvD (tCall spNear [] E0 (tCons te tNil)) σ G (dRows (nearRows n dd)) :=
  ed_callA (⟨n, dd⟩ : Ho) (es_cons h es_nil) ho fun d hd => hd
/-- a house, a state, keys -/
structure HSK where
  n : Nat
  dd : List (Nat × Nat)
  s : NSt
  ks : List Nat
structure HSK.Ok (a : HSK) : Prop where
  h : HouseOk a.n a.dd
  s : StOk a.n a.s
  k : ∀ x ∈ a.ks, x < a.n
  few : a.ks.length ≤ 60
def spAfter : Sp := spA (fun a : HSK => [dHouse a.n a.dd, dT a.s, dT a.ks]) HSK.Ok fun a r => r = dT (done (nearRows a.n a.dd) a.s a.ks)
abbrev HAfter (P : Program) (w : World) (K : PySem.W.Frag) (mg : Str → Option Value) (base : Heap) := Has P w K mg base 6 "after" ["house", "state", "keys"] spAfter
theorem scAfter : FnScope ["house", "state", "keys"] ["house", "state", "keys"] (defScope sAfter) := ⟨rfl, rfl, rfl, by decide +kernel, rfl, by decide +kernel, by decide +kernel⟩
theorem bdAfter : ∀ (kV doc pm : Value) (an : Option Addr) (cdv ct : Value) (us : List Value), us.length = (["house", "state", "keys"] : List Str).length → bindArgs (PySem.W.fnOf "after" "after" (defArgs sAfter) (defBody sAfter) (defScope sAfter) .none kV doc pm an cdv ct) ⟨us, []⟩ = pure ((["house", "state", "keys"] : List Str).zip us) := fun _ _ _ _ _ _ us hl => match us, hl with | [_, _, _], _ => rfl
theorem ok_after (T : Tx K mg) (FNeedState : HNeedState P w K mg base) (FNeedRow : HNeedRow P w K mg base) (FStoryIn : HStory P w K mg base) (FNear : HNear P w K mg base) : HAfter P w K mg base := by
  refine has_okA T.fAfter scAfter (fun a => rfl) bdAfter fun f cdv A outer s G H vs a Q E hr eg hvs hp q => ⟨_, (pss_cons (ps_expr (pe_callH FNeedState (hr.mono (by decide)) (pa_cons (pv 0) (pa_cons (pv 1) pa_nil))))
      (pss_cons (ps_expr (pe_callH FNeedRow (hr.mono (by decide)) (pa_cons (pv 0) (pa_cons (pv 2) pa_nil))))
      (pss_one (ps_ret (pe_ix ix_list (pe_callH FStoryIn (hr.mono (by decide)) (pa_cons (pe_callH FNear (hr.mono (by decide)) (pa_cons (pv 0) pa_nil)) (pa_cons (pv 1) (pa_cons (pv 2) pa_nil)))) (pe_un un_neg pe_int) (fun _ _ => rfl)))))), ?_⟩
  obtain ⟨n, dd, st, ks⟩ := a
  obtain ⟨ho, hs, hk, hf⟩ := hp
  simp only at ho hs hk hf
  obtain ⟨v, v1, v2, rfl, hv, h1, h2⟩ := args3 hvs
  refine rq_drop (er_call (es_cons (ed_var rfl hv) (es_cons (ed_var rfl h1) es_nil)) ⟨n, dd, st, ho, hs, rfl⟩) eg fun G1 H1 g1 => ?_
  refine rq_drop (er_call (es_cons (ed_var rfl (hv.mono g1.gg)) (es_cons (ed_var rfl (h2.mono g1.gg)) es_nil)) ⟨n, dd, ks, hf, hk, rfl⟩) g1.gh fun G2 H2 g2 => ?_
  have g := g1.trans g2
  refine r_ret (ed_ixL (i := -1) (ds := stories (nearRows n dd) st ks ks.length) ?_ (ed_callA (⟨nearRows n dd, st, ks, n⟩ : RSK) (es_cons (ed_near ho (ed_var rfl (hv.mono g.gg))) (es_cons (ed_var rfl (h1.mono g.gg)) (es_cons (ed_var rfl (h2.mono g.gg)) es_nil))) ⟨(adj_near ho).grb ho, hs.len, hk, hf⟩ fun d hd => hd) ed_neg1) g.gh fun v' G' H' d g' hd hr => q v' G' H' d (g.trans g') hd hr
  have hlen : (stories (nearRows n dd) st ks ks.length).length = ks.length + 1 := by simp [stories]
  have : ixN (stories (nearRows n dd) st ks ks.length).length (-1) = some ks.length := by rw [hlen]; unfold ixN; simp; omega
  unfold atI; rw [this]
  show (stories (nearRows n dd) st ks ks.length)[ks.length]? = _
  unfold stories
  rw [List.getElem?_map, List.getElem?_range (by omega)]
  show some (dT (done (nearRows n dd) st (ks.take ks.length))) = _
  rw [List.take_length]
/-- a house, a state -/
structure HS where
  n : Nat
  dd : List (Nat × Nat)
  s : NSt
structure HS.Ok (a : HS) : Prop where
  h : HouseOk a.n a.dd
  s : StOk a.n a.s
def HS.enc (a : HS) : List PyData := [dHouse a.n a.dd, dT a.s]
def likes (dd : List (Nat × Nat)) (s : NSt) : List (Nat × Nat) := dd.filter fun p => decide (at_ s p.1 = at_ s p.2)
def spLike : Sp := spA HS.enc HS.Ok fun a r => r = .list ((likes a.dd a.s).map dDoor)
abbrev HLike (P : Program) (w : World) (K : PySem.W.Frag) (mg : Str → Option Value) (base : Heap) := Has P w K mg base 1 "like_in" ["house", "state"] spLike
theorem scLikeIn : FnScope ["house", "state", "door"] ["house", "state"] (defScope sLikeIn) := ⟨rfl, rfl, rfl, by decide +kernel, rfl, by decide +kernel, by decide +kernel⟩
theorem bdLikeIn : ∀ (kV doc pm : Value) (an : Option Addr) (cdv ct : Value) (us : List Value), us.length = (["house", "state"] : List Str).length → bindArgs (PySem.W.fnOf "like_in" "like_in" (defArgs sLikeIn) (defBody sLikeIn) (defScope sLikeIn) .none kV doc pm an cdv ct) ⟨us, []⟩ = pure ((["house", "state"] : List Str).zip us) := fun _ _ _ _ _ _ us hl => match us, hl with | [_, _], _ => rfl
theorem ok_like_in (T : Tx K mg) : HLike P w K mg base := by
  refine has_okA T.fLikeIn scLikeIn (fun a => rfl) bdLikeIn fun f cdv A outer s G H vs a Q E hr eg hvs hp q => ⟨_, (pss_one (ps_ret (pe_lc (own := [("door", 2)]) rfl scLikeIn.nd (pi_tup (pe_ix ix_tup (pv 0) pe_int (fun _ _ => rfl))) (blkOk_by (by kernel_rfl)) (fun _ _ _ _ _ => (pg_name (i := 2) scLikeIn.nd rfl (by first | exact Or.inl rfl | exact Or.inr rfl))) (fun _ _ _ _ _ => (pts_one (pt_cmpR op_eq (pe_ix (ix_tupK (K := K)) (pv 1) (pe_ix (ix_tupK (K := K)) (pv 2) pe_int (fun _ _ => rfl)) (fun _ _ => rfl)) (pe_ix (ix_tupK (K := K)) (pv 1) (pe_ix (ix_tupK (K := K)) (pv 2) pe_int (fun _ _ => rfl)) (fun _ _ => rfl)) (nomark _)))) (fun _ _ _ _ _ => (pv 2))))), ?_⟩
  obtain ⟨n, dd, st⟩ := a
  obtain ⟨ho, hs⟩ := hp
  simp only at ho hs
  obtain ⟨v, v1, rfl, hv, h1⟩ := args2 hvs
  have hl := hs.len
  have hf := ho.few
  refine r_ret (ed_lcT dd dDoor (fun p => decide (at_ st p.1 = at_ st p.2)) dDoor (few (by omega)) (ed_h1 (ed_var rfl hv)) (fun _ => rfl) (fun p u G' hm eG hu => ?_) fun p u G' hm _ eG hu => ed_var rfl hu) eg fun v' G' H' d g' hd hr => q v' G' H' d g' hd hr
  have := ho.lt p hm
  exact et_test (ed_eqN (ed_at (by omega) (ed_var rfl (h1.mono eG)) (ed_d0 (ed_var rfl hu))) (ed_at (by omega) (ed_var rfl (h1.mono eG)) (ed_d1 (ed_var rfl hu))))
structure HS.Pt (a : HS) : Prop where
  h : HouseOk a.n a.dd
  s : StOk a.n a.s
  p : likes a.dd a.s = []
def spNeedParted : Sp := spA HS.enc HS.Pt fun _ _ => True
abbrev HNeedParted (P : Program) (w : World) (K : PySem.W.Frag) (mg : Str → Option Value) (base : Heap) := Has P w K mg base 6 "need_parted" ["house", "state"] spNeedParted
theorem scNeedParted : FnScope ["house", "state"] ["house", "state"] (defScope sNeedParted) := ⟨rfl, rfl, rfl, by decide +kernel, rfl, by decide +kernel, by decide +kernel⟩
theorem bdNeedParted : ∀ (kV doc pm : Value) (an : Option Addr) (cdv ct : Value) (us : List Value), us.length = (["house", "state"] : List Str).length → bindArgs (PySem.W.fnOf "need_parted" "need_parted" (defArgs sNeedParted) (defBody sNeedParted) (defScope sNeedParted) .none kV doc pm an cdv ct) ⟨us, []⟩ = pure ((["house", "state"] : List Str).zip us) := fun _ _ _ _ _ _ us hl => match us, hl with | [_, _], _ => rfl
theorem ok_need_parted (T : Tx K mg) (FNeedState : HNeedState P w K mg base) (FLikeIn : HLike P w K mg base) : HNeedParted P w K mg base := by
  refine has_okA T.fNeedParted scNeedParted (fun a => rfl) bdNeedParted fun f cdv A outer s G H vs a Q E hr eg hvs hp q => ⟨_, (pss_cons (ps_expr (pe_callH FNeedState (hr.mono (by decide)) (pa_cons (pv 0) (pa_cons (pv 1) pa_nil))))
      (pss_one (ps_if (pt_cmpR (op_neD hr.units) (pe_callH FLikeIn (hr.mono (by decide)) (pa_cons (pv 0) (pa_cons (pv 1) pa_nil))) (pe_lst pa_nil) (nomark _)) (pss_one ps_never) pss_nil))), ?_⟩
  obtain ⟨n, dd, st⟩ := a
  obtain ⟨ho, hs, hl⟩ := hp
  simp only at ho hs hl
  obtain ⟨v, v1, rfl, hv, h1⟩ := args2 hvs
  refine rq_drop (er_call (es_cons (ed_var rfl hv) (es_cons (ed_var rfl h1) es_nil)) ⟨n, dd, st, ho, hs, rfl⟩) eg fun G1 H1 g => ?_
  refine r_skip (et_of (et_test (ed_neD (d := .list ((likes dd st).map dDoor)) (e := .list []) (by rw [hl]; rfl) rfl (by rw [hl]; rfl) rfl (ed_callA (⟨n, dd, st⟩ : HS) (es_cons (ed_var rfl (hv.mono g.gg)) (es_cons (ed_var rfl (h1.mono g.gg)) es_nil)) ⟨ho, hs⟩ fun d hd => hd) (ed_lst es_nil (few (by simp))))) (by rw [hl]; rfl)) g.gh fun H2 e2 => ?_
  exact q .non G1 H2 .none (g.ext e2) .non trivial
structure RS where
  rows : Rows
  s : NSt
  n : Nat
def RS.enc (a : RS) : List PyData := [dRows a.rows, dT a.s]
structure RS.Ok (a : RS) : Prop where
  g : GrB a.n a.rows
  l : a.s.length = a.n
def spRests : Sp := spA RS.enc RS.Ok fun a r => r = .bool (restB a.rows a.s)
abbrev HRests (P : Program) (w : World) (K : PySem.W.Frag) (mg : Str → Option Value) (base : Heap) := Has P w K mg base 2 "rests_in" ["rows", "state"] spRests
theorem scRestsIn : FnScope ["rows", "state", "room", "number"] ["rows", "state"] (defScope sRestsIn) := ⟨rfl, rfl, rfl, by decide +kernel, rfl, by decide +kernel, by decide +kernel⟩
theorem bdRestsIn : ∀ (kV doc pm : Value) (an : Option Addr) (cdv ct : Value) (us : List Value), us.length = (["rows", "state"] : List Str).length → bindArgs (PySem.W.fnOf "rests_in" "rests_in" (defArgs sRestsIn) (defBody sRestsIn) (defScope sRestsIn) .none kV doc pm an cdv ct) ⟨us, []⟩ = pure ((["rows", "state"] : List Str).zip us) := fun _ _ _ _ _ _ us hl => match us, hl with | [_, _], _ => rfl
theorem ok_rests_in (T : Tx K mg) (FFreeNumber : HFree P w K mg base) : HRests P w K mg base := by
  refine has_okA T.fRestsIn scRestsIn (fun a => rfl) bdRestsIn fun f cdv A outer s G H vs a Q E hr eg hvs hp q => ⟨_, (pss_one (ps_ret (pe_callB (cr_all rfl) (by rfl) T.all bb_all (pa_cons (pe_lc (own := [("room", 2), ("number", 3)]) rfl scRestsIn.nd (pi_enumT (by rfl) T.enumerate (pa_cons (pv 1) pa_nil)) (blkOk_by (by kernel_rfl)) (fun _ _ _ _ _ => (pg_tupK (K := K) (n := 2) rfl (pgs_cons (pg_name (i := 2) scRestsIn.nd rfl (by first | exact Or.inl rfl | exact Or.inr rfl)) (pgs_cons (pg_name (i := 3) scRestsIn.nd rfl (by first | exact Or.inl rfl | exact Or.inr rfl)) pgs_nil)))) (fun _ _ _ _ _ => pts_nil) (fun _ _ _ _ _ => (pe_cmpR op_eq (pe_callH FFreeNumber (hr.mono (by decide)) (pa_cons (pv 0) (pa_cons (pv 1) (pa_cons (pv 2) pa_nil)))) (pv 3) (nomark _)))) pa_nil)))), ?_⟩
  obtain ⟨rows, st, n⟩ := a
  obtain ⟨hg, hl⟩ := hp
  simp only at hg hl
  obtain ⟨v, v1, rfl, hv, h1⟩ := args2 hvs
  have hn := hg.most
  refine r_ret (ed_allP ((List.range st.length).zip st) (fun p => decide (free rows st p.1 = p.2)) (EvD.of (ed_lcE st dN (fun _ => true) (fun p => .bool (decide (free rows st p.1 = p.2))) (few (by omega)) (es_cons (ed_var rfl h1) es_nil) (fun _ _ => rfl) (fun i a u G' _ _ _ => et_yes) fun i a u G' hi _ eG hu => ?_) (by rw [fill_true]))) eg fun v' G' H' d g' hd hr => q v' G' H' d g' hd hr
  have hil := (List.getElem?_eq_some_iff.mp hi).1
  exact ed_eqN (ed_callA (⟨rows, st, i, n⟩ : RSX) (es_cons (ed_var rfl (hv.mono eG)) (es_cons (ed_var rfl (h1.mono eG)) (es_cons (ed_var (i := 2) rfl (.int _)) es_nil))) ⟨hg, hl, by show i < n; omega⟩ fun d hd => hd) (ed_var rfl hu)
structure HS.Rt (a : HS) : Prop where
  h : HouseOk a.n a.dd
  s : StOk a.n a.s
  r : Mx.Rest (nearRows a.n a.dd) a.s
def spNeedRest : Sp := spA HS.enc HS.Rt fun _ _ => True
abbrev HNeedRest (P : Program) (w : World) (K : PySem.W.Frag) (mg : Str → Option Value) (base : Heap) := Has P w K mg base 4 "need_rest" ["house", "rest"] spNeedRest
theorem scNeedRest : FnScope ["house", "rest"] ["house", "rest"] (defScope sNeedRest) := ⟨rfl, rfl, rfl, by decide +kernel, rfl, by decide +kernel, by decide +kernel⟩
theorem bdNeedRest : ∀ (kV doc pm : Value) (an : Option Addr) (cdv ct : Value) (us : List Value), us.length = (["house", "rest"] : List Str).length → bindArgs (PySem.W.fnOf "need_rest" "need_rest" (defArgs sNeedRest) (defBody sNeedRest) (defScope sNeedRest) .none kV doc pm an cdv ct) ⟨us, []⟩ = pure ((["house", "rest"] : List Str).zip us) := fun _ _ _ _ _ _ us hl => match us, hl with | [_, _], _ => rfl
theorem ok_need_rest (T : Tx K mg) (FNeedNumbers : HNeedNumbers P w K mg base) (FRestsIn : HRests P w K mg base) (FNear : HNear P w K mg base) : HNeedRest P w K mg base := by
  refine has_okA T.fNeedRest scNeedRest (fun a => rfl) bdNeedRest fun f cdv A outer s G H vs a Q E hr eg hvs hp q => ⟨_, (pss_cons (ps_try_thru0 (pss_one (ps_expr (pe_callH FNeedNumbers (hr.mono (by decide)) (pa_cons (pv 0) (pa_cons (pv 1) pa_nil))))))
      (pss_one (ps_if (pt_not (pt_val (pe_callH FRestsIn (hr.mono (by decide)) (pa_cons (pe_callH FNear (hr.mono (by decide)) (pa_cons (pv 0) pa_nil)) (pa_cons (pv 1) pa_nil))))) (pss_one ps_never) pss_nil))), ?_⟩
  obtain ⟨n, dd, st⟩ := a
  obtain ⟨ho, hs, hl⟩ := hp
  simp only at ho hs hl
  obtain ⟨v, v1, rfl, hv, h1⟩ := args2 hvs
  refine rq_drop (er_call (es_cons (ed_var rfl hv) (es_cons (ed_var rfl h1) es_nil)) ⟨n, dd, st, hs, rfl⟩) eg fun G1 H1 g => ?_
  refine r_skip (et_notT (EvD.of (ed_callA (⟨nearRows n dd, st, n⟩ : RS) (es_cons (ed_near ho (ed_var rfl (hv.mono g.gg))) (es_cons (ed_var rfl (h1.mono g.gg)) es_nil)) ⟨(adj_near ho).grb ho, hs.len⟩ fun d hd => hd) (congrArg PyData.bool (restB_true hl)))) g.gh fun H2 e2 => ?_
  exact q .non G1 H2 .none (g.ext e2) .non trivial
structure SS where
  r : NSt
  s : NSt
  n : Nat
structure SS.Ok (a : SS) : Prop where
  r : a.r.length = a.n
  s : a.s.length = a.n
  n : a.n ≤ 6
def spBelow : Sp := spA (fun a : SS => [dT a.r, dT a.s]) SS.Ok fun a r => r = .bool (belowB a.r a.s)
abbrev HBelow (P : Program) (w : World) (K : PySem.W.Frag) (mg : Str → Option Value) (base : Heap) := Has P w K mg base 1 "is_below" ["one", "other"] spBelow
theorem zip_fst {α β : Type} : ∀ (a : List α) (b : List β), a.length = b.length → (a.zip b).map Prod.fst = a
  | [], [], _ => rfl
  | x :: a, y :: b, h => by rw [List.zip_cons_cons, List.map_cons, zip_fst a b (by simpa using h)]
  | [], _ :: _, h => by cases h
  | _ :: _, [], h => by cases h
theorem zip_snd' {α β : Type} : ∀ (a : List α) (b : List β), a.length = b.length → (a.zip b).map Prod.snd = b
  | [], [], _ => rfl
  | x :: a, y :: b, h => by rw [List.zip_cons_cons, List.map_cons, zip_snd' a b (by simpa using h)]
  | [], _ :: _, h => by cases h
  | _ :: _, [], h => by cases h
theorem scIsBelow : FnScope ["one", "other", "a", "b"] ["one", "other"] (defScope sIsBelow) := ⟨rfl, rfl, rfl, by decide +kernel, rfl, by decide +kernel, by decide +kernel⟩
theorem bdIsBelow : ∀ (kV doc pm : Value) (an : Option Addr) (cdv ct : Value) (us : List Value), us.length = (["one", "other"] : List Str).length → bindArgs (PySem.W.fnOf "is_below" "is_below" (defArgs sIsBelow) (defBody sIsBelow) (defScope sIsBelow) .none kV doc pm an cdv ct) ⟨us, []⟩ = pure ((["one", "other"] : List Str).zip us) := fun _ _ _ _ _ _ us hl => match us, hl with | [_, _], _ => rfl
theorem ok_is_below (T : Tx K mg) : HBelow P w K mg base := by
  refine has_okA T.fIsBelow scIsBelow (fun a => rfl) bdIsBelow fun f cdv A outer s G H vs a Q E hr eg hvs hp q => ⟨_, (pss_one (ps_ret (pe_callB (cr_all rfl) (by rfl) T.all bb_all (pa_cons (pe_lc (own := [("a", 2), ("b", 3)]) rfl scIsBelow.nd (RZ.pi_zipA (by rfl) T.zip (pa_cons (pv 0) (pa_cons (pv 1) pa_nil))) (blkOk_by (by kernel_rfl)) (fun _ _ _ _ _ => (pg_tupK (K := K) (n := 2) rfl (pgs_cons (pg_name (i := 2) scIsBelow.nd rfl (by first | exact Or.inl rfl | exact Or.inr rfl)) (pgs_cons (pg_name (i := 3) scIsBelow.nd rfl (by first | exact Or.inl rfl | exact Or.inr rfl)) pgs_nil)))) (fun _ _ _ _ _ => pts_nil) (fun _ _ _ _ _ => (pe_cmpR op_le (pv 2) (pv 3) (nomark _)))) pa_nil)))), ?_⟩
  obtain ⟨r, st, n⟩ := a
  obtain ⟨h1, h2, h3⟩ := hp
  simp only at h1 h2 h3
  obtain ⟨v, v1, rfl, hv, hw⟩ := args2 hvs
  refine r_ret (ed_allP (r.zip st) (fun p => decide (p.1 ≤ p.2)) (EvD.of (ed_lcZ (r.zip st) (fun p => dN p.1) (fun p => dN p.2) (fun _ => true) (fun p => .bool (decide (p.1 ≤ p.2))) (few (by rw [List.length_zip]; omega)) (es_cons ?_ (es_cons ?_ es_nil)) (fun _ _ => rfl) (fun a u u' G' _ _ _ _ => et_yes) fun a u u' G' hi _ eG hu hu' => ?_) (by rw [fill_true]))) eg fun v' G' H' d g' hd hr => q v' G' H' d g' hd hr
  · refine EvD.of (ed_var rfl hv) ?_
    show dT r = _
    unfold dT
    congr 1
    conv => lhs; rw [← zip_fst r st (by omega), List.map_map]
    rfl
  · refine EvD.of (ed_var rfl hw) ?_
    show dT st = _
    unfold dT
    congr 1
    conv => lhs; rw [← zip_snd' r st (by omega), List.map_map]
    rfl
  · exact ed_le (ed_var rfl hu) (ed_var rfl hu')
/-- a house, a state, a rest below it -/
structure HSR where
  n : Nat
  dd : List (Nat × Nat)
  s : NSt
  r : NSt
structure HSR.Ok (a : HSR) : Prop where
  h : HouseOk a.n a.dd
  s : StOk a.n a.s
  p : likes a.dd a.s = []
  t : StOk a.n a.r
  r : Mx.Rest (nearRows a.n a.dd) a.r
  l : Mx.Le a.r a.s
def HSR.enc (a : HSR) : List PyData := [dHouse a.n a.dd, dT a.s, dT a.r]
def spNeedBoth : Sp := spA HSR.enc HSR.Ok fun _ _ => True
abbrev HNeedBoth (P : Program) (w : World) (K : PySem.W.Frag) (mg : Str → Option Value) (base : Heap) := Has P w K mg base 7 "need_both" ["house", "state", "rest"] spNeedBoth
theorem scNeedBoth : FnScope ["house", "state", "rest"] ["house", "state", "rest"] (defScope sNeedBoth) := ⟨rfl, rfl, rfl, by decide +kernel, rfl, by decide +kernel, by decide +kernel⟩
theorem bdNeedBoth : ∀ (kV doc pm : Value) (an : Option Addr) (cdv ct : Value) (us : List Value), us.length = (["house", "state", "rest"] : List Str).length → bindArgs (PySem.W.fnOf "need_both" "need_both" (defArgs sNeedBoth) (defBody sNeedBoth) (defScope sNeedBoth) .none kV doc pm an cdv ct) ⟨us, []⟩ = pure ((["house", "state", "rest"] : List Str).zip us) := fun _ _ _ _ _ _ us hl => match us, hl with | [_, _, _], _ => rfl
theorem ok_need_both (T : Tx K mg) (FNeedParted : HNeedParted P w K mg base) (FNeedRest : HNeedRest P w K mg base) (FIsBelow : HBelow P w K mg base) : HNeedBoth P w K mg base := by
  refine has_okA T.fNeedBoth scNeedBoth (fun a => rfl) bdNeedBoth fun f cdv A outer s G H vs a Q E hr eg hvs hp q => ⟨_, (pss_cons (ps_expr (pe_callH FNeedParted (hr.mono (by decide)) (pa_cons (pv 0) (pa_cons (pv 1) pa_nil))))
      (pss_cons (ps_expr (pe_callH FNeedRest (hr.mono (by decide)) (pa_cons (pv 0) (pa_cons (pv 2) pa_nil))))
      (pss_one (ps_if (pt_not (pt_val (pe_callH FIsBelow (hr.mono (by decide)) (pa_cons (pv 2) (pa_cons (pv 1) pa_nil))))) (pss_one ps_never) pss_nil)))), ?_⟩
  obtain ⟨n, dd, st, r⟩ := a
  obtain ⟨ho, hs, hl, ht, hrr, hle⟩ := hp
  simp only at ho hs hl ht hrr hle
  obtain ⟨v, v1, v2, rfl, hv, h1, h2⟩ := args3 hvs
  refine rq_drop (er_callA (⟨n, dd, st⟩ : HS) (es_cons (ed_var rfl hv) (es_cons (ed_var rfl h1) es_nil)) ⟨ho, hs, hl⟩) eg fun G1 H1 g1 => ?_
  refine rq_drop (er_callA (⟨n, dd, r⟩ : HS) (es_cons (ed_var rfl (hv.mono g1.gg)) (es_cons (ed_var rfl (h2.mono g1.gg)) es_nil)) ⟨ho, ht, hrr⟩) g1.gh fun G2 H2 g2 => ?_
  have g := g1.trans g2
  have hm := ho.most
  refine r_skip (et_notT (EvD.of (ed_callA (⟨r, st, n⟩ : SS) (es_cons (ed_var rfl (h2.mono g.gg)) (es_cons (ed_var rfl (h1.mono g.gg)) es_nil)) ⟨ht.len, hs.len, hm⟩ fun d hd => hd) (congrArg PyData.bool (belowB_true hle)))) g.gh fun H3 e3 => ?_
  exact q .non G2 H3 .none (g.ext e3) .non trivial
def spFewest : Sp := spA HSR.enc HSR.Ok fun a r => r = dN (changed a.r a.s).length
abbrev HFewest (P : Program) (w : World) (K : PySem.W.Frag) (mg : Str → Option Value) (base : Heap) := Has P w K mg base 8 "fewest_keys" ["house", "state", "rest"] spFewest
theorem scFewestKeys : FnScope ["house", "state", "rest", "room"] ["house", "state", "rest"] (defScope sFewestKeys) := ⟨rfl, rfl, rfl, by decide +kernel, rfl, by decide +kernel, by decide +kernel⟩
theorem bdFewestKeys : ∀ (kV doc pm : Value) (an : Option Addr) (cdv ct : Value) (us : List Value), us.length = (["house", "state", "rest"] : List Str).length → bindArgs (PySem.W.fnOf "fewest_keys" "fewest_keys" (defArgs sFewestKeys) (defBody sFewestKeys) (defScope sFewestKeys) .none kV doc pm an cdv ct) ⟨us, []⟩ = pure ((["house", "state", "rest"] : List Str).zip us) := fun _ _ _ _ _ _ us hl => match us, hl with | [_, _, _], _ => rfl
theorem ok_fewest_keys (T : Tx K mg) (FNeedBoth : HNeedBoth P w K mg base) : HFewest P w K mg base := by
  refine has_okA T.fFewestKeys scFewestKeys (fun a => rfl) bdFewestKeys fun f cdv A outer s G H vs a Q E hr eg hvs hp q => ⟨_, (pss_cons (ps_expr (pe_callH FNeedBoth (hr.mono (by decide)) (pa_cons (pv 0) (pa_cons (pv 1) (pa_cons (pv 2) pa_nil)))))
      (pss_one (ps_ret (pe_callB call_len_seq (by rfl) T.len bb_len (pa_cons (pe_lc (own := [("room", 3)]) rfl scFewestKeys.nd (pi_range1 (by rfl) T.range (pa_cons (pe_ix ix_tup (pv 0) pe_int (fun _ _ => rfl)) pa_nil)) (blkOk_by (by kernel_rfl)) (fun _ _ _ _ _ => (pg_name (i := 3) scFewestKeys.nd rfl (by first | exact Or.inl rfl | exact Or.inr rfl))) (fun _ _ _ _ _ => (pts_one (pt_cmpR op_lt (pe_ix (ix_tupK (K := K)) (pv 2) (pv 3) (fun _ _ => rfl)) (pe_ix (ix_tupK (K := K)) (pv 1) (pv 3) (fun _ _ => rfl)) (nomark _)))) (fun _ _ _ _ _ => (pv 3))) pa_nil))))), ?_⟩
  obtain ⟨n, dd, st, r⟩ := a
  have hp' := hp
  obtain ⟨ho, hs, hl, ht, hrr, hle⟩ := hp
  simp only at ho hs hl ht hrr hle
  obtain ⟨v, v1, v2, rfl, hv, h1, h2⟩ := args3 hvs
  refine rq_drop (er_callA (⟨n, dd, st, r⟩ : HSR) (es_cons (ed_var rfl hv) (es_cons (ed_var rfl h1) (es_cons (ed_var rfl h2) es_nil))) hp') eg fun G1 H1 g1 => ?_
  have hm := ho.most
  have hsl := hs.len
  have htl := ht.len
  refine r_ret (ed_lenL (ds := ((List.range n).filter fun x => decide (at_ r x < at_ st x)).map dN) (ed_lcR n (fun x => decide (at_ r x < at_ st x)) dN (few (by omega)) (es_cons (ed_h0 (ed_var rfl (hv.mono g1.gg))) es_nil) (fun _ => rfl) (fun x G' hx eG => ?_) fun x G' hx _ eG => ed_var rfl (.int _))) g1.gh fun v' G' H' d g' hd hr => q v' G' H' d (g1.trans g') hd (hr.trans ?_)
  · exact et_test (ed_lt (ed_at (by omega) (ed_var rfl ((h2.mono g1.gg).mono eG)) (ed_var (i := 3) rfl (.int _))) (ed_at (by omega) (ed_var rfl ((h1.mono g1.gg).mono eG)) (ed_var (i := 3) rfl (.int _))))
  · show _ = dN (changed r st).length
    rw [List.length_map]
    unfold changed
    rw [hsl]; rfl
end
end MxP
end
section
set_option Elab.async false
set_option linter.all false
set_option maxRecDepth 100000
set_option maxHeartbeats 4000000
/-! A list of lists of one's own. -/
namespace MxL
open PySem PySem.Spec PyProof.Rows L2
open Evl (Ex)
structure Lol (G0 H0 G1 : Hp) (D : Addr) (ps : List Addr) (f : Nat → List V) (H' : Hp) : Prop where
  go : Go G0 H0 G1 H'
  dn : H0 D = none
  dg : G1 D = none
  hd : H' D = some (.lst (ps.map V.ref))
  nd : ps.Nodup
  ne : D ∉ ps
  each : ∀ (x : Nat) q, ps[x]? = some q → H0 q = none ∧ G1 q = none ∧ H' q = some (.lst (f x))
theorem lol_make {G : Hp} {σ : L2.St} {ta : TA} {vs : List Nat} {j : Nat} {H : Hp} {Q : VK} (n : Nat) (hn : n ≤ 1000) (hsrc : EvDs ta σ G [.int (n : Nat)]) (hw : ∀ x, wipe ((wipe σ vs).set j (some x)) vs = wipe σ vs) (eg : Ex G H)
    (k : ∀ G0 H0 D ps H', Go G H G0 H0 → ps.length = n → Lol G0 H0 G0 D ps (fun _ => []) H' → Q (.ref D) H') : tLc (iRng1 ta) (gName j) tYes (tLst tNil) vs σ H Q :=
  hsrc H eg _ fun ws G1 H1 d g1 hvs hd => by
    subst hd
    obtain ⟨v, rfl, hv⟩ := args1 hvs
    have hs : sizeLine = 16777216 := sizeLine_eq
    refine ⟨(n : Nat), by rw [hv.int_inv], by omega, by omega, fun Dl hD => ?_⟩
    refine lc_range (lo := 0) (n := ((n : Nat) : Int).toNat) (fun i H' => ∃ ps, ps.length = i ∧ Lol G1 H1 G1 Dl ps (fun _ => []) H') ⟨[], rfl, Go.priv g1.gh hD, hD, nb_back g1.gh hD, upd_same, List.nodup_nil, by simp, by intro x q h; simp at h⟩ (fun i H' hi c => ⟨hw _, ?_⟩) fun H' c => ?_
    · obtain ⟨ps, hl, c⟩ := c
      show tLst tNil ((wipe σ vs).set j (some (.int (0 + (i : Int))))) H' fun y H4 => ∃ acc, H4 Dl = some (.lst acc) ∧ acc.length < sizeLine ∧ ∃ ps, ps.length = i + 1 ∧ Lol G1 H1 G1 Dl ps (fun _ => []) (upd H4 Dl (.lst (acc ++ [y])))
      refine ⟨Nat.zero_le _, fun p hp => ?_⟩
      have hpD : Dl ≠ p := fun e => by rw [← e, c.hd] at hp; cases hp
      have hnp : p ∉ ps := fun h => by
        obtain ⟨x, hx⟩ := List.mem_iff_getElem?.mp h
        rw [(c.each x p hx).2.2] at hp; cases hp
      have hG : G1 Dl = none := nb_back g1.gh hD
      refine ⟨ps.map V.ref, by rw [upd_ne hpD]; exact c.hd, by rw [List.length_map, hl]; omega, ps ++ [p], by rw [List.length_append, hl]; rfl, ((c.go.trans (Go.priv c.go.gh hp)).mut hD hG), hD, hG, by rw [upd_same, List.map_append]; rfl, ?_, ?_, ?_⟩
      · rw [List.nodup_append]
        refine ⟨c.nd, by simp, fun a ha b hb => ?_⟩
        have : b = p := by simpa using hb
        subst this
        exact fun e => hnp (e ▸ ha)
      · simp only [List.mem_append, List.mem_singleton]
        rintro (h | h)
        · exact c.ne h
        · exact hpD h
      · intro x q hx
        rw [List.getElem?_append] at hx
        split at hx
        · obtain ⟨e1, e0, e2⟩ := c.each x q hx
          have hq : q ∈ ps := List.mem_of_getElem? hx
          refine ⟨e1, e0, ?_⟩
          rw [upd_ne (fun e => c.ne (by rw [← e]; exact hq)), upd_ne (fun e => hnp (by rw [← e]; exact hq))]
          exact e2
        · have : q = p := by
            have := List.mem_of_getElem? hx
            simpa using this
          subst this
          refine ⟨nb_back c.go.hh hp, nb_back c.go.gh hp, ?_⟩
          rw [upd_ne (fun e => hpD e.symm), upd_same]
    · obtain ⟨ps, hl, c⟩ := c
      exact k G1 H1 Dl ps H' g1 (by rw [hl]; omega) c
section
variable {G0 H0 G1 H' : Hp} {D : Addr} {ps : List Addr} {f : Nat → List V}
theorem Lol.app {x : Nat} {q : Addr} {v : V} (c : Lol G0 H0 G1 D ps f H') (hx : ps[x]? = some q) : Lol G0 H0 G1 D ps (fun y => if y = x then f x ++ [v] else f y) (upd H' q (.lst (f x ++ [v]))) := by
  have hq := List.mem_of_getElem? hx
  obtain ⟨h1, h0, h2⟩ := c.each x q hx
  refine ⟨c.go.mut h1 h0, c.dn, c.dg, ?_, c.nd, c.ne, fun y r hy => ?_⟩
  · rw [upd_ne (fun e => c.ne (by rw [e]; exact hq))]; exact c.hd
  · obtain ⟨e1, e0, e2⟩ := c.each y r hy
    refine ⟨e1, e0, ?_⟩
    by_cases e : y = x
    · subst e
      rw [hx] at hy
      have := Option.some.inj hy
      subst this
      rw [upd_same, if_pos rfl]
    · rw [if_neg e, upd_ne ?_]
      · exact e2
      · intro er
        subst er
        have a1 := (List.getElem?_eq_some_iff.mp hx)
        have a2 := (List.getElem?_eq_some_iff.mp hy)
        obtain ⟨b1, c1⟩ := a1
        obtain ⟨b2, c2⟩ := a2
        exact e ((List.getElem_inj c.nd).mp (c2.trans c1.symm))
theorem Lol.go2 {G2 H2 : Hp} (c : Lol G0 H0 G1 D ps f H') (g : Go G1 H' G2 H2) : Lol G0 H0 G2 D ps f H2 :=
  ⟨c.go.trans g, c.dn, g.keepN c.dg c.hd, g.hh _ _ c.hd, c.nd, c.ne, fun x q hx => let ⟨a, b, d⟩ := c.each x q hx; ⟨a, g.keepN b d, g.hh _ _ d⟩⟩
theorem lol_appS {K : PySem.W.Frag} {σ : L2.St} {i j k x : Nat} {v : V} {Dn : Ends} (c : Lol G0 H0 G1 D ps f H') (hx : x < ps.length) (hf : (f x).length < 1000) (hi : σ[i]? = some (some (.ref D))) (hj : σ[j]? = some (some (.int (x : Nat)))) (hk : σ[k]? = some (some v))
    (h : ∀ H2, Lol G0 H0 G1 D ps (fun y => if y = x then f x ++ [v] else f y) H2 → Dn.nx σ H2) : tDrop (tBM K "list" rAppend (tOp (rIxL K) (tVar i) (tVar j)) (tCons (tVar k) tNil)) Dn σ H' := by
  have hq : ps[x]? = some ps[x] := List.getElem?_eq_getElem hx
  obtain ⟨h1, h0, h2⟩ := c.each x _ hq
  have hz : (f x).length < sizeLine := by rw [sizeLine_eq]; omega
  refine ⟨.ref D, hi, .int (x : Nat), hj, D, ps.map V.ref, (x : Nat), .ref ps[x], rfl, rfl, .inl (.inl c.hd), ?_, .inl ⟨rfl, f x, .inl (.inl h2)⟩, v, hk, ps[x], f x, v, rfl, rfl, h2, hz, h _ (c.app hq)⟩
  exact atI_nat (j := x) (by rw [List.getElem?_map, hq]; rfl)
/-- all of it given up -/
theorem Lol.pub (c : Lol G0 H0 G1 D ps f H') (r : Nat → List Nat) (hf : ∀ x, x < ps.length → f x = (r x).map fun n => V.int (n : Nat)) : ∃ G2, Go G0 H0 G2 H' ∧ Da G2 (.ref D) (.list ((List.range ps.length).map fun x => MxP.dL (r x))) := by
  refine ⟨fun b => if b = D ∨ b ∈ ps then H' b else G1 b, ⟨c.go.hh, fun b o h0 => ?_, fun b o h => ?_, fun b o h => ?_⟩, ?_⟩
  · have h := c.go.gg b o h0
    have : ¬(b = D ∨ b ∈ ps) := by
      rintro (e | e)
      · rw [e, c.dg] at h; cases h
      · obtain ⟨x, hx⟩ := List.mem_iff_getElem?.mp e
        rw [(c.each x b hx).2.1] at h; cases h
    show (if b = D ∨ b ∈ ps then H' b else G1 b) = _
    rw [if_neg this]; exact h
  · have h : (if b = D ∨ b ∈ ps then H' b else G1 b) = some o := h
    split at h
    · exact h
    · exact c.go.gh b o h
  · have h : (if b = D ∨ b ∈ ps then H' b else G1 b) = some o := h
    split at h
    · rename_i e
      refine .inr ?_
      rcases e with e | e
      · rw [e]; exact c.dn
      · obtain ⟨x, hx⟩ := List.mem_iff_getElem?.mp e
        exact (c.each x b hx).1
    · exact c.go.sep b o h
  · refine .lst (xs := ps.map V.ref) ?_ ?_
    · show (if D = D ∨ D ∈ ps then H' D else G1 D) = _
      rw [if_pos (.inl rfl)]; exact c.hd
    · have step : ∀ (qs : List Addr) (m : Nat), (∀ x q, qs[x]? = some q → ps[m + x]? = some q) → DaAll (fun b => if b = D ∨ b ∈ ps then H' b else G1 b) (qs.map V.ref) ((List.range qs.length).map fun x => MxP.dL (r (m + x))) := by
        intro qs
        induction qs with
        | nil => intro m _; exact .nil
        | cons q qs ih =>
          intro m h
          have h0 := h 0 q rfl
          have hm : m < ps.length := (List.getElem?_eq_some_iff.mp h0).1
          have := ih (m + 1) (fun x y hx => by
            have := h (x + 1) y (by simpa using hx)
            rw [show m + 1 + x = m + (x + 1) by omega]; exact this)
          rw [List.length_cons, List.range_succ_eq_map, List.map_cons, List.map_cons, List.map_map]
          refine .cons (.lst (xs := f m) ?_ ?_) ?_
          · show (if q = D ∨ q ∈ ps then H' q else G1 q) = _
            rw [if_pos (.inr (List.mem_of_getElem? h0))]
            exact (c.each m q h0).2.2
          · rw [hf m hm]
            have := DaAll.range (fun b => if b = D ∨ b ∈ ps then H' b else G1 b) (r m)
            show DaAll _ ((r m).map fun i => V.int (i : Nat)) ((r (m + 0)).map MxP.dN)
            exact this
          · have e : ((fun x => MxP.dL (r (m + x))) ∘ Nat.succ) = fun x => MxP.dL (r (m + 1 + x)) := by
              funext x
              show MxP.dL (r (m + (x + 1))) = _
              rw [show m + 1 + x = m + (x + 1) by omega]
            rw [e]
            exact this
      have := step ps 0 (fun x q h => by rw [Nat.zero_add]; exact h)
      simpa using this
end
end MxL
namespace MxL
open PySem PySem.Spec PyProof.Rows L2
theorem rq_lolS {G0 H0 G1 H' : Hp} {D : Addr} {ps : List Addr} {f : Nat → List V} {K : PySem.W.Frag} {σ : L2.St} {i j k x : Nat} {v : V} {Dn : Ends} {tz : TS} (c : Lol G0 H0 G1 D ps f H') (hx : x < ps.length) (hf : (f x).length < 1000) (hi : σ[i]? = some (some (.ref D))) (hj : σ[j]? = some (some (.int (x : Nat)))) (hk : σ[k]? = some (some v))
    (h : ∀ H2, Lol G0 H0 G1 D ps (fun y => if y = x then f x ++ [v] else f y) H2 → tz Dn σ H2) : tSeq (tDrop (tBM K "list" rAppend (tOp (rIxL K) (tVar i) (tVar j)) (tCons (tVar k) tNil))) tz Dn σ H' :=
  lol_appS (Dn := { Dn with nx := tz Dn }) c hx hf hi hj hk h
end MxL
end
section
set_option Elab.async false
set_option linter.all false
set_option maxRecDepth 100000
set_option maxHeartbeats 4000000
/-! The rows of a house. -/
namespace MxP
open PySem PySem.Spec PyProof.Rows L2 MxT MxL
open PySem.W (AllAlike alike alikeAll)
open Evl (Ex)
open Mx (at_ nb Rows free key done changed)
def rowV (dd : List (Nat × Nat)) (x : Nat) : List V := (rowL dd x).map fun n => .int (n : Nat)
theorem rowL_snoc (dd : List (Nat × Nat)) (p : Nat × Nat) (x : Nat) (h : p.1 ≠ p.2) : rowL (dd ++ [p]) x = if x = p.2 then rowL dd x ++ [p.1] else if x = p.1 then rowL dd x ++ [p.2] else rowL dd x := by
  unfold rowL
  rw [List.flatMap_append]
  simp only [List.flatMap_cons, List.flatMap_nil, List.append_nil]
  by_cases e2 : x = p.2
  · subst e2
    rw [if_neg h, if_pos rfl, if_pos rfl]; rfl
  · by_cases e1 : x = p.1
    · subst e1
      rw [if_pos rfl, if_neg (fun q => e2 q.symm), if_neg e2, if_pos rfl]; rfl
    · rw [if_neg (fun q => e1 q.symm), if_neg (fun q => e2 q.symm), if_neg e2, if_neg e1]; simp
theorem rowV_len {n : Nat} {dd : List (Nat × Nat)} (ho : HouseOk n dd) (i x : Nat) : (rowV (dd.take i) x).length ≤ 56 := by
  unfold rowV
  rw [List.length_map]
  have := rowL_len x (dd.take i)
  rw [List.length_take] at this
  have := ho.few
  omega
theorem alikeN (a b : Nat) : alike (dN a) (dN b) = true := by simp [dN, alike]
theorem alikeNs : ∀ a b : List Nat, alikeAll (a.map dN) (b.map dN) = true
  | [], [] => by simp [alikeAll]
  | [], _ :: _ => by simp [alikeAll]
  | _ :: _, [] => by simp [alikeAll]
  | x :: a, y :: b => by simp [alikeAll, alikeN, alikeNs a b]
theorem alikeT (a b : List Nat) : alike (dT a) (dT b) = true := by unfold dT; rw [alike]; exact alikeNs a b
theorem allAlikeN (l : List Nat) : AllAlike (l.map dN) := fun d hd d' hd' => by
  obtain ⟨a, _, rfl⟩ := List.mem_map.mp hd
  obtain ⟨b, _, rfl⟩ := List.mem_map.mp hd'
  exact alikeN a b
theorem allAlikeT (l : List (List Nat)) : AllAlike (l.map dT) := fun d hd d' hd' => by
  obtain ⟨a, _, rfl⟩ := List.mem_map.mp hd
  obtain ⟨b, _, rfl⟩ := List.mem_map.mp hd'
  exact alikeT a b
theorem sortN (l : List Nat) : PySem.W.Sortable (l.map dN) := .inr fun d hd => by
  obtain ⟨a, _, rfl⟩ := List.mem_map.mp hd
  exact ⟨by simp [dN], by simp [dN]⟩
theorem sortT {l : List (List Nat)} (h : ∀ x ∈ l, x ≠ []) : PySem.W.Sortable (l.map dT) := .inl fun d hd => by
  obtain ⟨a, ha, rfl⟩ := List.mem_map.mp hd
  cases a with
  | nil => exact absurd rfl (h _ ha)
  | cons x r => exact ⟨dN x, r.map dN, rfl⟩
section
variable {K : PySem.W.Frag} {σ : L2.St} {G : Hp} {te : TE}
theorem ed_sortN {l : List Nat} (h : EvD te σ G (dL l)) : EvD (tCB (rSortL K) (tCons te tNil)) σ G (dL (srt l)) :=
  EvD.of (ed_sortL (ds := l.map dN) (ndsN _) (allAlikeN l) (sortN l) (fun d hd => by
    obtain ⟨a, _, rfl⟩ := List.mem_map.mp hd
    simp [dN, PyData.depth]) h) (by unfold dL; rw [srt_map])
end
/-- two more -/
theorem rowV_step {n : Nat} {dd : List (Nat × Nat)} (ho : HouseOk n dd) {i : Nat} {p : Nat × Nat} (hi : dd[i]? = some p) :
    (fun y => if y = p.2 then (if p.2 = p.1 then rowV (dd.take i) p.1 ++ [V.int (p.2 : Nat)] else rowV (dd.take i) p.2) ++ [V.int (p.1 : Nat)] else (if y = p.1 then rowV (dd.take i) p.1 ++ [V.int (p.2 : Nat)] else rowV (dd.take i) y)) = rowV (dd.take (i + 1)) := by
  funext y
  have hp := ho.lt p (List.mem_of_getElem? hi)
  have hne : p.2 ≠ p.1 := by omega
  unfold rowV
  rw [take_more hi, rowL_snoc _ _ _ (fun e => hne e.symm)]
  by_cases e2 : y = p.2
  · simp [e2, hne]
  · by_cases e1 : y = p.1
    · have hne' : p.1 ≠ p.2 := fun q => hne q.symm
      simp [e1, hne']
    · simp [e1, e2]
section
variable {P : Program} {w : World} {K : PySem.W.Frag} {mg : Str → Option Value} {base : Heap}
/-- the two appends -/
theorem near_turn {n : Nat} {dd : List (Nat × Nat)} (ho : HouseOk n dd) {G0 H0 G1 H' : Hp} {D : Addr} {ps : List Addr} {i : Nat} {p : Nat × Nat} {u : V} {σ : L2.St} {Dn : Ends} (hlen : ps.length = n) (hi : dd[i]? = some p) (hu : Da G1 u (dDoor p)) (c : Lol G0 H0 G1 D ps (rowV (dd.take i)) H') (h1 : σ[1]? = some (some (.ref D))) (hs : 4 ≤ σ.length)
    (k : ∀ H2, Lol G0 H0 G1 D ps (rowV (dd.take (i + 1))) H2 → Dn.nx ((σ.set 2 (some (.int (p.1 : Nat)))).set 3 (some (.int (p.2 : Nat)))) H2) :
    gTup K 2 (gCons (gName 2) (gCons (gName 3) gNil)) u σ H' fun σ2 H2 => tSeq (tDrop (tBM K "list" rAppend (tOp (rIxL K) (tVar 1) (tVar 2)) (tCons (tVar 3) tNil))) (tDrop (tBM K "list" rAppend (tOp (rIxL K) (tVar 1) (tVar 3)) (tCons (tVar 2) tNil))) Dn σ2 H2 := by
  obtain ⟨a, xs, rfl, ha, hxs⟩ := hu.tuple_inv
  have exs : xs = [.int (p.1 : Nat), .int (p.2 : Nat)] := DaAll.ints (ns := [(p.1 : Nat), (p.2 : Nat)]) hxs
  subst exs
  have hp := ho.lt p (List.mem_of_getElem? hi)
  have s1 : ((σ.set 2 (some (V.int (p.1 : Nat)))).set 3 (some (.int (p.2 : Nat))))[1]? = some (some (.ref D)) := by rw [List.getElem?_set_ne (by decide), List.getElem?_set_ne (by decide)]; exact h1
  have s2 : ((σ.set 2 (some (V.int (p.1 : Nat)))).set 3 (some (.int (p.2 : Nat))))[2]? = some (some (.int (p.1 : Nat))) := by rw [List.getElem?_set_ne (by decide)]; exact List.getElem?_set_self (by omega)
  have s3 : ((σ.set 2 (some (V.int (p.1 : Nat)))).set 3 (some (.int (p.2 : Nat))))[3]? = some (some (.int (p.2 : Nat))) := List.getElem?_set_self (by rw [List.length_set]; omega)
  have hl1 := rowV_len ho i p.1
  have hl2 := rowV_len ho i p.2
  refine ⟨a, _, rfl, .inl (.inl (c.go.gh _ _ ha)), rfl, .int (p.1 : Nat), [.int (p.2 : Nat)], rfl, .int (p.2 : Nat), [], rfl, rfl, ?_⟩
  refine rq_lolS (x := p.1) c (by omega) (by omega) s1 s2 s3 fun H2 c2 => ?_
  refine lol_appS (x := p.2) c2 (by omega) (by rw [if_neg (by omega)]; omega) s1 s3 s2 fun H3 c3 => k H3 ?_
  have := rowV_step ho hi
  exact this ▸ c3
def spLawNear : Sp := spA (fun a : Ho => [dHouse a.n a.dd]) (fun a => HouseOk a.n a.dd) fun a r => r = dRows (lawRows a.n a.dd)
abbrev HLawNear (P : Program) (w : World) (K : PySem.W.Frag) (mg : Str → Option Value) (base : Heap) := Has P w K mg base 1 "_law_near" ["_law_house_here"] spLawNear
theorem scLawNear : FnScope ["_law_house_here", "_law_found", "_law_one", "_law_other", "_law_room"] ["_law_house_here"] (defScope sLawNear) := ⟨rfl, rfl, rfl, by decide +kernel, rfl, by decide +kernel, by decide +kernel⟩
theorem bdLawNear : ∀ (kV doc pm : Value) (an : Option Addr) (cdv ct : Value) (us : List Value), us.length = (["_law_house_here"] : List Str).length → bindArgs (PySem.W.fnOf "_law_near" "_law_near" (defArgs sLawNear) (defBody sLawNear) (defScope sLawNear) .none kV doc pm an cdv ct) ⟨us, []⟩ = pure ((["_law_house_here"] : List Str).zip us) := fun _ _ _ _ _ _ us hl => match us, hl with | [_], _ => rfl
theorem ok_law_near (T : Tx K mg) : HLawNear P w K mg base := by
  refine has_okA T.fLawNear scLawNear (fun a => rfl) bdLawNear fun f cdv A outer s G H vs a Q E hr eg hvs hp q => ⟨_, (pss_cons (ps_setLc (i := 1) (own := [("_law_room", 4)]) rfl scLawNear.nd rfl rfl (sw_true rfl rfl rfl (by decide +kernel)) (pi_range1 (by rfl) T.range (pa_cons (pe_ix ix_tup (pv 0) pe_int (fun _ _ => rfl)) pa_nil)) (blkOk_by (by kernel_rfl)) (fun _ _ _ _ _ => (pg_name (i := 4) scLawNear.nd rfl (by first | exact Or.inl rfl | exact Or.inr rfl))) (fun _ _ _ _ _ => pts_nil) (fun _ _ _ _ _ => (pe_lst pa_nil)))
      (pss_cons (ps_for PassesOwn.never rfl (pi_tup (pe_ix ix_tup (pv 0) pe_int (fun _ _ => rfl))) (pg_tup rfl (pgs_cons (pg_name (i := 2) scLawNear.nd rfl (by first | exact Or.inl rfl | exact Or.inr rfl)) (pgs_cons (pg_name (i := 3) scLawNear.nd rfl (by first | exact Or.inl rfl | exact Or.inr rfl)) pgs_nil))) (pss_cons (ps_expr (pe_bm PySem.F.plainAttrs_list PySem.F.slot_list_append PySem.F.type_list_append mt_append (pe_ix ix_list (pv 1) (pv 2) (fun _ _ => rfl)) (pa_cons (pv 3) pa_nil)))
      (pss_one (ps_expr (pe_bm PySem.F.plainAttrs_list PySem.F.slot_list_append PySem.F.type_list_append mt_append (pe_ix ix_list (pv 1) (pv 3) (fun _ _ => rfl)) (pa_cons (pv 2) pa_nil))))))
      (pss_one (ps_ret (pv 1))))), ?_⟩
  obtain ⟨n, dd⟩ := a
  have ho : HouseOk n dd := hp
  obtain ⟨v, rfl, hv⟩ := args1 hvs
  have hm := ho.most
  refine rq_raw ?_
  refine lol_make n (by omega) (es_cons (ed_h0 (ed_var rfl hv)) es_nil) (fun _ => rfl) eg fun G0 H0 D ps H' g hl c => ?_
  refine r_forT (L := dd) (enc := dDoor) (ed_h1 (ed_var rfl (hv.mono g.gg))) c.go.gh fun G1 H1 g1 => ?_
  refine ⟨fun i σ' H' => (∃ b b', σ' = [some v, some (.ref D), b, b', none]) ∧ Lol G0 H0 G1 D ps (rowV (dd.take i)) H', ⟨⟨none, none, rfl⟩, c.go2 g1⟩, fun i σ' H' ⟨_, c⟩ => c.go.gh, ?_, ?_⟩
  · rintro i p u σ' H' hi hu ⟨⟨b, b', rfl⟩, c⟩
    exact near_turn ho hl hi hu c rfl (by simp) fun H2 c2 => ⟨⟨_, _, rfl⟩, c2⟩
  · rintro σ' H' ⟨⟨b, b', rfl⟩, c⟩
    obtain ⟨G2, g2, hd⟩ := c.pub (rowL dd) (fun x hx => by rw [List.take_length]; rfl)
    rw [hl] at hd
    refine ⟨.ref D, rfl, q _ G2 H' _ (g.trans g2) hd ?_⟩
    show _ = dRows (lawRows n dd)
    unfold dRows lawRows
    rw [List.map_map]; rfl
theorem scNear : FnScope ["house", "found", "one", "other", "room", "row"] ["house"] (defScope sNear) := ⟨rfl, rfl, rfl, by decide +kernel, rfl, by decide +kernel, by decide +kernel⟩
theorem bdNear : ∀ (kV doc pm : Value) (an : Option Addr) (cdv ct : Value) (us : List Value), us.length = (["house"] : List Str).length → bindArgs (PySem.W.fnOf "near" "near" (defArgs sNear) (defBody sNear) (defScope sNear) .none kV doc pm an cdv ct) ⟨us, []⟩ = pure ((["house"] : List Str).zip us) := fun _ _ _ _ _ _ us hl => match us, hl with | [_], _ => rfl
theorem ok_near (T : Tx K mg) : HNear P w K mg base := by
  refine has_okA T.fNear scNear (fun a => rfl) bdNear fun f cdv A outer s G H vs a Q E hr eg hvs hp q => ⟨_, (pss_cons (ps_setLc (i := 1) (own := [("room", 4)]) rfl scNear.nd rfl rfl (sw_true rfl rfl rfl (by decide +kernel)) (pi_range1 (by rfl) T.range (pa_cons (pe_ix ix_tup (pv 0) pe_int (fun _ _ => rfl)) pa_nil)) (blkOk_by (by kernel_rfl)) (fun _ _ _ _ _ => (pg_name (i := 4) scNear.nd rfl (by first | exact Or.inl rfl | exact Or.inr rfl))) (fun _ _ _ _ _ => pts_nil) (fun _ _ _ _ _ => (pe_lst pa_nil)))
      (pss_cons (ps_for PassesOwn.never rfl (pi_tup (pe_ix ix_tup (pv 0) pe_int (fun _ _ => rfl))) (pg_tup rfl (pgs_cons (pg_name (i := 2) scNear.nd rfl (by first | exact Or.inl rfl | exact Or.inr rfl)) (pgs_cons (pg_name (i := 3) scNear.nd rfl (by first | exact Or.inl rfl | exact Or.inr rfl)) pgs_nil))) (pss_cons (ps_expr (pe_bm PySem.F.plainAttrs_list PySem.F.slot_list_append PySem.F.type_list_append mt_append (pe_ix ix_list (pv 1) (pv 2) (fun _ _ => rfl)) (pa_cons (pv 3) pa_nil)))
      (pss_one (ps_expr (pe_bm PySem.F.plainAttrs_list PySem.F.slot_list_append PySem.F.type_list_append mt_append (pe_ix ix_list (pv 1) (pv 3) (fun _ _ => rfl)) (pa_cons (pv 2) pa_nil))))))
      (pss_one (ps_ret (pe_lc (own := [("row", 5)]) rfl scNear.nd (pi_list (pv 1)) (blkOk_by (by kernel_rfl)) (fun _ _ _ _ _ => (pg_name (i := 5) scNear.nd rfl (by first | exact Or.inl rfl | exact Or.inr rfl))) (fun _ _ _ _ _ => pts_nil) (fun _ _ _ _ _ => (pe_callB (cr_sortDK (K := K) hr.units) (by rfl) T.sorted bb_sorted (pa_cons (pv 5) pa_nil)))))))), ?_⟩
  obtain ⟨n, dd⟩ := a
  have ho : HouseOk n dd := hp
  obtain ⟨v, rfl, hv⟩ := args1 hvs
  have hm := ho.most
  refine rq_raw ?_
  refine lol_make n (by omega) (es_cons (ed_h0 (ed_var rfl hv)) es_nil) (fun _ => rfl) eg fun G0 H0 D ps H' g hl c => ?_
  refine r_forT (L := dd) (enc := dDoor) (ed_h1 (ed_var rfl (hv.mono g.gg))) c.go.gh fun G1 H1 g1 => ?_
  refine ⟨fun i σ' H' => (∃ b b', σ' = [some v, some (.ref D), b, b', none, none]) ∧ Lol G0 H0 G1 D ps (rowV (dd.take i)) H', ⟨⟨none, none, rfl⟩, c.go2 g1⟩, fun i σ' H' ⟨_, c⟩ => c.go.gh, ?_, ?_⟩
  · rintro i p u σ' H' hi hu ⟨⟨b, b', rfl⟩, c⟩
    exact near_turn ho hl hi hu c rfl (by simp) fun H2 c2 => ⟨⟨_, _, rfl⟩, c2⟩
  · rintro σ' H' ⟨⟨b, b', rfl⟩, c⟩
    obtain ⟨G2, g2, hd⟩ := c.pub (rowL dd) (fun x hx => by rw [List.take_length]; rfl)
    rw [hl] at hd
    refine r_ret (Φ := fun r => r = dRows (nearRows n dd)) (EvD.of (ed_lcL (List.range n) (fun x => dL (rowL dd x)) (fun _ => true) (fun x => dL (srt (rowL dd x))) (few (by simp; omega)) (ed_var rfl hd) (fun _ => rfl) (fun a u G' _ _ _ => et_yes) fun x u G' hx _ eG hu => ?_) ?_) g2.gh fun v' G' H' d g' hd hr => q v' G' H' d (g.trans (g2.trans g')) hd hr
    · exact ed_sortN (ed_var rfl hu)
    · rw [fill_true]
      unfold dRows nearRows
      rw [List.map_map]; rfl
end
end MxP
end
section
set_option Elab.async false
set_option linter.all false
set_option maxRecDepth 100000
set_option maxHeartbeats 4000000
/-! The shortest row. -/
namespace MxP
open PySem PySem.Spec PyProof.Rows L2 MxT MxL
open Evl (Ex)
open Mx (at_ nb Rows free key done changed fit greedy)
section
variable {K : PySem.W.Frag} {σ : L2.St} {G H : Hp} {te : TE} {d : PyData} {D : Ends} {tz : TS}
theorem ed_key {ta tb tc : TE} {rows : Rows} {s : NSt} {x n : Nat} (hg : GrB n rows) (hl : s.length = n) (hx : x < n) (ha : EvD ta σ G (dRows rows)) (hb : EvD tb σ G (dT s)) (hc : EvD tc σ G (dN x)) : EvD (tCall spKey [] E0 (tCons ta (tCons tb (tCons tc tNil)))) σ G (dT (key rows s x)) :=
  ed_callA (⟨rows, s, x, n⟩ : RSX) (es_cons ha (es_cons hb (es_cons hc es_nil))) ⟨hg, hl, hx⟩ fun d hd => hd
theorem ed_free {ta tb tc : TE} {rows : Rows} {s : NSt} {x n : Nat} (hg : GrB n rows) (hl : s.length = n) (hx : x < n) (ha : EvD ta σ G (dRows rows)) (hb : EvD tb σ G (dT s)) (hc : EvD tc σ G (dN x)) : EvD (tCall spFree [] E0 (tCons ta (tCons tb (tCons tc tNil)))) σ G (dN (free rows s x)) :=
  ed_callA (⟨rows, s, x, n⟩ : RSX) (es_cons ha (es_cons hb (es_cons hc es_nil))) ⟨hg, hl, hx⟩ fun d hd => hd
/-- a, b = (e, []) by a tuple -/
theorem rq_two {i j : Nat} (h : EvD te σ G d) (eg : Ex G H) (k : ∀ v p G' H', Go G H G' H' → Da G' v d → H p = none → G' p = none → H' p = some (.lst []) → tz D ((σ.set i (some v)).set j (some (.ref p))) H') :
    tSeq (tAsg (tTup (tCons te (tCons (tLst tNil) tNil))) (gTup K 2 (gCons (gName i) (gCons (gName j) gNil)))) tz D σ H :=
  h H eg _ fun v G1 H1 d1 g1 hv e1 => by
    subst e1
    refine ⟨Nat.zero_le _, fun p hp => ?_⟩
    refine ⟨few (by simp), fun T hT => ⟨T, [v, .ref p], rfl, .inl (.inl upd_same), rfl, v, [.ref p], rfl, .ref p, [], rfl, rfl, ?_⟩⟩
    have hTp : p ≠ T := fun e => by rw [← e, upd_same] at hT; cases hT
    refine k v p G1 _ ((g1.trans (Go.priv g1.gh hp)).ext (Ex.new hT)) hv (nb_back g1.hh hp) (nb_back g1.gh hp) ?_
    rw [upd_ne hTp, upd_same]
end
section
variable {P : Program} {w : World} {K : PySem.W.Frag} {mg : Str → Option Value} {base : Heap}
def spShortest : Sp := spA HSR.enc HSR.Ok fun a r => r = dT (greedy (nearRows a.n a.dd) a.r (changed a.r a.s).length a.s)
abbrev HShortest (P : Program) (w : World) (K : PySem.W.Frag) (mg : Str → Option Value) (base : Heap) := Has P w K mg base 8 "shortest_row" ["house", "state", "rest"] spShortest
theorem scShortestRow : FnScope ["house", "state", "rest", "rows", "found", "fit", "x"] ["house", "state", "rest"] (defScope sShortestRow) := ⟨rfl, rfl, rfl, by decide +kernel, rfl, by decide +kernel, by decide +kernel⟩
theorem bdShortestRow : ∀ (kV doc pm : Value) (an : Option Addr) (cdv ct : Value) (us : List Value), us.length = (["house", "state", "rest"] : List Str).length → bindArgs (PySem.W.fnOf "shortest_row" "shortest_row" (defArgs sShortestRow) (defBody sShortestRow) (defScope sShortestRow) .none kV doc pm an cdv ct) ⟨us, []⟩ = pure ((["house", "state", "rest"] : List Str).zip us) := fun _ _ _ _ _ _ us hl => match us, hl with | [_, _, _], _ => rfl
theorem ok_shortest_row (T : Tx K mg) (FNeedBoth : HNeedBoth P w K mg base) (FNear : HNear P w K mg base) (FFreeNumber : HFree P w K mg base) (FKeyIn : HKey P w K mg base) : HShortest P w K mg base := by
  refine has_okA T.fShortestRow scShortestRow (fun a => rfl) bdShortestRow fun f cdv A outer s G H vs a Q E hr eg hvs hp q => ⟨_, (pss_cons (ps_expr (pe_callH FNeedBoth (hr.mono (by decide)) (pa_cons (pv 0) (pa_cons (pv 1) (pa_cons (pv 2) pa_nil)))))
      (pss_cons (ps_asg (pe_tup (pa_cons (pe_callH FNear (hr.mono (by decide)) (pa_cons (pv 0) pa_nil)) (pa_cons (pe_lst pa_nil) pa_nil))) (pg_tup rfl (pgs_cons (pg_name (i := 3) scShortestRow.nd rfl (by first | exact Or.inl rfl | exact Or.inr rfl)) (pgs_cons (pg_name (i := 4) scShortestRow.nd rfl (by first | exact Or.inl rfl | exact Or.inr rfl)) pgs_nil))))
      (pss_cons (ps_while PassesOwn.never (pt_cmpR (op_neD hr.units) (pv 1) (pv 2) (nomark _)) (pss_cons (ps_setLc (i := 5) (own := [("x", 6)]) rfl scShortestRow.nd rfl rfl (sw_true rfl rfl rfl (by decide +kernel)) (pi_range1 (by rfl) T.range (pa_cons (pe_ix ix_tup (pv 0) pe_int (fun _ _ => rfl)) pa_nil)) (blkOk_by (by kernel_rfl)) (fun _ _ _ _ _ => (pg_name (i := 6) scShortestRow.nd rfl (by first | exact Or.inl rfl | exact Or.inr rfl))) (fun _ _ _ _ _ => (pts_one (PW.pt (pw_and (pt_cmpR op_lt (pe_ix (ix_tupK (K := K)) (pv 2) (pv 6) (fun _ _ => rfl)) (pe_ix (ix_tupK (K := K)) (pv 1) (pv 6) (fun _ _ => rfl)) (nomark _)) (pw_and1 (pt_cmpR op_eq (pe_callH FFreeNumber (hr.mono (by decide)) (pa_cons (pv 3) (pa_cons (pv 1) (pa_cons (pv 6) pa_nil)))) (pe_ix (ix_tupK (K := K)) (pv 2) (pv 6) (fun _ _ => rfl)) (nomark _))))))) (fun _ _ _ _ _ => (pv 6)))
      (pss_cons (ps_expr (pe_bm PySem.F.plainAttrs_list PySem.F.slot_list_append PySem.F.type_list_append mt_append (pv 4) (pa_cons (pe_ix ix_list (pv 5) pe_int (fun _ _ => rfl)) pa_nil)))
      (pss_one (ps_set (i := 1) scShortestRow.nd rfl (by first | exact Or.inl rfl | exact Or.inr rfl) (pe_callH FKeyIn (hr.mono (by decide)) (pa_cons (pv 3) (pa_cons (pv 1) (pa_cons (pe_ix ix_list (pv 5) pe_int (fun _ _ => rfl)) pa_nil)))))))))
      (pss_one (ps_ret (pe_callTy call_tuple_of (by rfl) T.tuple bb_tuple (pa_cons (pv 4) pa_nil))))))), ?_⟩
  obtain ⟨n, dd, st, r⟩ := a
  have hp' := hp
  obtain ⟨ho, hs, hl, ht, hrr, hle⟩ := hp
  simp only at ho hs hl ht hrr hle
  obtain ⟨v, v1, v2, rfl, hv, h1, h2⟩ := args3 hvs
  have hm := ho.most
  have hsl := hs.len
  have htl := ht.len
  have hg := (adj_near ho).grb ho
  refine rq_drop (er_callA (⟨n, dd, st, r⟩ : HSR) (es_cons (ed_var rfl hv) (es_cons (ed_var rfl h1) (es_cons (ed_var rfl h2) es_nil))) hp') eg fun G1 H1 g1 => ?_
  refine rq_two (ed_near ho (ed_var rfl (hv.mono g1.gg))) g1.gh fun rw p G2 H2 g2 hrw h0 hn hp => ?_
  have gb := g1.trans g2
  have h0' : H p = none := nb_back g1.hh h0
  generalize hrows : nearRows n dd = rows at *
  have hM : (changed r st).length ≤ 6 := by
    have := Mx.nodup_len (l := changed r st) (m := List.range n) (Mx.changed_nodup r st) (fun x hx => List.mem_range.mpr (by have := (Mx.mem_changed.mp hx).1; omega))
    rw [List.length_range] at this
    omega
  generalize hMM : (changed r st).length = M at *
  refine Evl.s_while (D := { nx := _, rt := _ }) (fun m σ' H' => ∃ G' acc ks s' u b c, Go G H G' H' ∧ Ex G2 G' ∧ σ' = [some v, some u, some v2, some rw, some (.ref p), b, c] ∧ Da G' u (dT s') ∧ G' p = none ∧ H' p = some (.lst acc) ∧ DaAll G' acc (ks.map dN) ∧
    ks ++ greedy rows r m s' = greedy rows r M st ∧ (changed r s').length = m ∧ s'.length = n ∧ Mx.Le r s' ∧ ks.length + m = M) M ⟨G2, [], [], st, v1, none, none, gb, Ex.refl G2, rfl, h1.mono gb.gg, hn, hp, .nil, rfl, hMM, hsl, hle, Nat.zero_add _⟩ ?_
  rintro m σ' H' ⟨G', acc, ks, s', u, b, c, g, e, rfl, hu, hn, hp, hda, hgr, hch, hl', hle', hkm⟩
  have hv' := hv.mono g.gg
  have h2' := h2.mono g.gg
  have hrw' := hrw.mono e
  refine ⟨_, (et_test (ed_neT (ed_var (i := 1) rfl hu) (ed_var (i := 2) rfl h2'))).mono g.gh, fun hb H3 e3 => ?_, fun hb H3 e3 => ?_⟩
  · have hne : s' ≠ r := fun e => by rw [e] at hb; simp at hb
    have hc : changed r s' ≠ [] := fun e => hne (Mx.same_of_none (by omega) hle' e)
    have hfit := Mx.fit_exists hg.gr htl hl' hrr hle' hc
    obtain ⟨x, tl, hf⟩ : ∃ x tl, fit rows r s' = x :: tl := by
      cases hq : fit rows r s' with
      | nil => exact absurd hq hfit
      | cons x tl => exact ⟨x, tl, rfl⟩
    have hx : x ∈ fit rows r s' := by rw [hf]; exact List.mem_cons_self
    have hxl := (Mx.mem_fit.mp hx).1
    obtain ⟨k, rfl⟩ : ∃ k, m = k + 1 := by
      cases m with
      | zero => exact absurd (List.length_eq_zero_iff.mp hch) hc
      | succ k => exact ⟨k, rfl⟩
    have g3 := g.ext e3
    have hlen : acc.length ≤ 6 := by rw [hda.length, List.length_map]; omega
    refine ⟨fun σ2 H4 => ∃ G' acc ks s' u b c, Go G H G' H4 ∧ Ex G2 G' ∧ σ2 = [some v, some u, some v2, some rw, some (.ref p), b, c] ∧ Da G' u (dT s') ∧ G' p = none ∧ H4 p = some (.lst acc) ∧ DaAll G' acc (ks.map dN) ∧
      ks ++ greedy rows r k s' = greedy rows r M st ∧ (changed r s').length = k ∧ s'.length = n ∧ Mx.Le r s' ∧ ks.length + k = M, fun σ2 H4 w => ⟨k, Nat.lt_succ_self k, w⟩, ?_⟩
    refine rq_asg (EvD.of (e := .list ((fit rows r s').map dN)) (ed_lcR n (fun x => decide (at_ r x < at_ s' x) && decide (free rows s' x = at_ r x)) dN (few (by omega)) (es_cons (ed_h0 (ed_var rfl hv')) es_nil) (fun _ => rfl) (fun y G4 hy eG => ?_) fun y G4 hy _ eG => ed_var rfl (.int _)) (by unfold fit; rw [hl'])) g3.gh fun fv G4 H4 d4 g4 hfv hd4 => ?_
    · refine et_and (et_test (ed_lt (ed_at (by omega) (ed_var rfl (h2'.mono eG)) (ed_var (i := 6) rfl (.int _))) (ed_at (by omega) (ed_var rfl (hu.mono eG)) (ed_var (i := 6) rfl (.int _))))) fun _ => ?_
      exact et_test (ed_eqN (ed_callA (⟨rows, s', y, n⟩ : RSX) (es_cons (ed_var rfl (hrw'.mono eG)) (es_cons (ed_var rfl (hu.mono eG)) (es_cons (ed_var (i := 6) rfl (.int _)) es_nil))) ⟨hg, hl', hy⟩ fun d hd => hd) (ed_at (by omega) (ed_var rfl (h2'.mono eG)) (ed_var (i := 6) rfl (.int _))))
    · subst hd4
      have hit : ∀ {G5 σ5}, Ex G4 G5 → σ5[5]? = some (some fv) → EvD (tOp (rIxL K) (tVar 5) (tC (.int 0))) σ5 G5 (dN x) := fun e5 hσ => ed_ixL (i := 0) (ds := (fit rows r s').map dN) (atI_nat (j := 0) (by rw [hf]; rfl)) (ed_var hσ (hfv.mono e5)) ed_i
      have hn4 := g4.keepN hn (e3 _ _ hp)
      have hp4 := g4.hh _ _ (e3 _ _ hp)
      refine r_app (D := { nx := _, rt := _, ct := _, bk := _ }) (i := 4) rfl hp4 hn4 (by rw [line]; omega) (hit (Ex.refl _) rfl) g4.gh fun xv G5 H5 d5 g5 hn5 hp5 hxv hd5 => ?_
      subst hd5
      have gg := (g3.trans g4).trans g5
      have gm := gg.mut h0' hn5 (o := .lst (acc ++ [xv]))
      have e45 := g4.gg.trans g5.gg
      refine r_asg (ed_key hg hl' (show x < n by omega) (ed_var rfl (hrw'.mono e45)) (ed_var rfl (hu.mono e45)) (hit g5.gg rfl)) gm.gh fun nv G6 H6 d6 g6 hnv hd6 => ?_
      subst hd6
      refine ⟨G6, acc ++ [xv], ks ++ [x], key rows s' x, nv, _, _, gm.trans g6, (e.trans e45).trans g6.gg, rfl, hnv, g6.keepN hn5 upd_same, g6.hh _ _ upd_same, ?_, ?_, ?_, by rw [Mx.key_len]; exact hl', Mx.fit_le hx hle', ?_⟩
      · rw [List.map_append]
        exact ((hda.mono e45).snoc hxv).mono g6.gg
      · rw [← hgr, List.append_assoc]
        congr 1
        show x :: greedy rows r k (key rows s' x) = greedy rows r (k + 1) s'
        conv => rhs; unfold greedy; rw [hf]
      · have := Mx.fit_changed_len hx; omega
      · rw [List.length_append]; simp; omega
  · have heq : s' = r := by simpa using hb
    have hm0 : m = 0 := by rw [← hch, heq, Mx.changed_self]; rfl
    subst hm0
    obtain ⟨g', hd'⟩ := pub_own (g.ext e3) h0' hn (e3 _ _ hp) hda
    refine r_ret (ed_tupleOf (ds := ks.map dN) (ed_var rfl hd')) g'.gh fun v' G4 H4 d g4 hd hr => q v' G4 H4 d (g'.trans g4) hd (hr.trans ?_)
    show _ = dT (greedy rows r M st)
    rw [← hgr]
    show _ = dT (ks ++ [])
    rw [List.append_nil]; rfl
end
end MxP
end
section
set_option linter.all false
/-! Mexrooms, plain law, part B: largest sets, rests by levels. -/
namespace Mx
theorem snoc_ind {α : Type} {P : List α → Prop} (h0 : P []) (h1 : ∀ l a, P l → P (l ++ [a])) (l : List α) : P l := by
  have : ∀ m : List α, P m.reverse := fun m => by
    induction m with
    | nil => exact h0
    | cons a m ih => rw [List.reverse_cons]; exact h1 _ _ ih
  have := this l.reverse
  rwa [List.reverse_reverse] at this
def growStep (rows : Rows) (acc : List (List Nat)) (x : Nat) : List (List Nat) := acc ++ (acc.filter fun s => !((nb rows x).any fun y => decide (y ∈ s))).map (· ++ [x])
def grow (rows : Rows) (rooms : List Nat) : List (List Nat) := rooms.foldl (growStep rows) [[]]
def isLargest (rows : Rows) (rooms some : List Nat) : Bool := rooms.all fun x => decide (x ∈ some) || (nb rows x).any fun y => decide (y ∈ some)
def larges (rows : Rows) (rooms : List Nat) : List (List Nat) := (grow rows rooms).filter (isLargest rows rooms)
theorem grow_snoc (rows : Rows) (l : List Nat) (x : Nat) : grow rows (l ++ [x]) = growStep rows (grow rows l) x := by unfold grow; rw [List.foldl_append]; rfl
theorem grow_len (rows : Rows) (rooms : List Nat) : (grow rows rooms).length ≤ 2 ^ rooms.length := by
  induction rooms using snoc_ind with
  | h0 => exact Nat.le_refl 1
  | h1 l a ih =>
    rw [grow_snoc]
    unfold growStep
    rw [List.length_append, List.length_map, List.length_append]
    have := List.length_filter_le (fun s => !((nb rows a).any fun y => decide (y ∈ s))) (grow rows l)
    show _ ≤ 2 ^ (l.length + 1)
    rw [Nat.pow_succ]
    omega
def Ind (rows : Rows) (s : List Nat) : Prop := ∀ x ∈ s, ∀ y ∈ s, y ∉ nb rows x
theorem no_any {rows : Rows} {x : Nat} {s : List Nat} : (!((nb rows x).any fun y => decide (y ∈ s))) = true ↔ ∀ y ∈ nb rows x, y ∉ s := by
  rw [Bool.not_eq_true', List.any_eq_false]
  constructor
  · intro h y hy hs; exact h y hy (decide_eq_true hs)
  · intro h y hy hs; exact h y hy (of_decide_eq_true hs)
theorem Ind.snoc {n : Nat} {rows : Rows} (g : Gr n rows) {s : List Nat} {x : Nat} (hs : Ind rows s) (h : ∀ y ∈ nb rows x, y ∉ s) : Ind rows (s ++ [x]) := by
  intro a ha b hb hab
  rw [List.mem_append, List.mem_singleton] at ha hb
  rcases ha with ha | ha
  · rcases hb with hb | hb
    · exact hs a ha b hb hab
    · subst hb; exact h a (g.sym _ _ hab) ha
  · subst ha
    rcases hb with hb | hb
    · exact h b hab hb
    · subst hb; exact g.ne _ _ hab rfl
theorem grow_sub {n : Nat} {rows : Rows} (g : Gr n rows) (rooms : List Nat) : ∀ s ∈ grow rows rooms, s.Sublist rooms ∧ Ind rows s := by
  induction rooms using snoc_ind with
  | h0 =>
    intro s hs
    have : s = [] := by simpa [grow] using hs
    subst this
    exact ⟨List.Sublist.refl _, fun x hx => by cases hx⟩
  | h1 l a ih =>
    intro s hs
    rw [grow_snoc] at hs
    unfold growStep at hs
    rw [List.mem_append] at hs
    rcases hs with hs | hs
    · obtain ⟨h1, h2⟩ := ih s hs
      exact ⟨h1.trans (List.sublist_append_left _ _), h2⟩
    · obtain ⟨t, ht, rfl⟩ := List.mem_map.mp hs
      rw [List.mem_filter] at ht
      obtain ⟨h1, h2⟩ := ih t ht.1
      exact ⟨h1.append (List.Sublist.refl _), h2.snoc g (no_any.mp ht.2)⟩
theorem grow_all {rows : Rows} (p : Nat → Bool) (rooms : List Nat) : Ind rows (rooms.filter p) → rooms.filter p ∈ grow rows rooms := by
  induction rooms using snoc_ind with
  | h0 => intro _; simp [grow]
  | h1 l a ih =>
    intro h
    rw [grow_snoc]
    unfold growStep
    rw [List.mem_append]
    have h' : Ind rows (l.filter p) := fun x hx y hy => h x (by rw [List.filter_append]; exact List.mem_append_left _ hx) y (by rw [List.filter_append]; exact List.mem_append_left _ hy)
    have hm := ih h'
    rw [List.filter_append]
    by_cases hp : p a = true
    · right
      rw [List.filter_cons, if_pos hp, List.filter_nil]
      refine List.mem_map.mpr ⟨_, List.mem_filter.mpr ⟨hm, no_any.mpr fun y hy hs => ?_⟩, rfl⟩
      have ha : a ∈ (l ++ [a]).filter p := List.mem_filter.mpr ⟨by simp, hp⟩
      have hb : y ∈ (l ++ [a]).filter p := by rw [List.filter_append]; exact List.mem_append_left _ hs
      exact h a ha y hb hy
    · left
      rw [List.filter_cons, if_neg hp, List.filter_nil, List.append_nil]
      exact hm
/-- a set with no two neighbors grows to a largest one -/
def extend (rows : Rows) (rooms I : List Nat) : List Nat := rooms.foldl (fun J x => if x ∈ J ∨ ∃ y, y ∈ nb rows x ∧ y ∈ J then J else J ++ [x]) I
theorem extend_spec {n : Nat} {rows : Rows} (g : Gr n rows) : ∀ (rooms I : List Nat), Ind rows I → Ind rows (extend rows rooms I) ∧ (∀ x ∈ I, x ∈ extend rows rooms I) ∧ ∀ x ∈ rooms, x ∈ extend rows rooms I ∨ ∃ y, y ∈ nb rows x ∧ y ∈ extend rows rooms I
  | [], I, h => ⟨h, fun _ hx => hx, fun x hx => by cases hx⟩
  | a :: rooms, I, h => by
    unfold extend
    rw [List.foldl_cons]
    by_cases hc : a ∈ I ∨ ∃ y, y ∈ nb rows a ∧ y ∈ I
    · rw [if_pos hc]
      obtain ⟨h1, h2, h3⟩ := extend_spec g rooms I h
      refine ⟨h1, h2, fun x hx => ?_⟩
      rcases List.mem_cons.mp hx with e | e
      · subst e
        rcases hc with q | ⟨y, q, q'⟩
        · exact .inl (h2 _ q)
        · exact .inr ⟨y, q, h2 _ q'⟩
      · exact h3 x e
    · rw [if_neg hc]
      have hI : Ind rows (I ++ [a]) := h.snoc g fun y hy hs => hc (.inr ⟨y, hy, hs⟩)
      obtain ⟨h1, h2, h3⟩ := extend_spec g rooms (I ++ [a]) hI
      refine ⟨h1, fun x hx => h2 x (List.mem_append_left _ hx), fun x hx => ?_⟩
      rcases List.mem_cons.mp hx with e | e
      · subst e; exact .inl (h2 _ (by simp))
      · exact h3 x e
theorem larges_has {n : Nat} {rows : Rows} (g : Gr n rows) {rooms : List Nat} {I : List Nat} (hI : Ind rows I) (hs : ∀ x ∈ I, x ∈ rooms) : ∃ S ∈ larges rows rooms, ∀ x ∈ I, x ∈ S := by
  obtain ⟨h1, h2, h3⟩ := extend_spec g rooms I hI
  refine ⟨rooms.filter fun x => decide (x ∈ extend rows rooms I), List.mem_filter.mpr ⟨grow_all _ _ fun x hx y hy => ?_, ?_⟩, fun x hx => List.mem_filter.mpr ⟨hs x hx, decide_eq_true (h2 x hx)⟩⟩
  · exact h1 x (of_decide_eq_true (List.mem_filter.mp hx).2) y (of_decide_eq_true (List.mem_filter.mp hy).2)
  · unfold isLargest
    rw [List.all_eq_true]
    intro x hx
    rw [Bool.or_eq_true]
    rcases h3 x hx with q | ⟨y, q, q'⟩
    · exact .inl (decide_eq_true (List.mem_filter.mpr ⟨hx, decide_eq_true q⟩))
    · -- the neighbor stands in the set; it is a room of the set or one that was there
      by_cases hy : y ∈ rooms
      · exact .inr (List.any_eq_true.mpr ⟨y, q, decide_eq_true (List.mem_filter.mpr ⟨hy, decide_eq_true q'⟩)⟩)
      · exfalso
        have : ∀ (rms J : List Nat), y ∉ J → y ∉ rms → y ∉ extend rows rms J := by
          intro rms
          induction rms with
          | nil => intro J hJ _; exact hJ
          | cons a rms ih =>
            intro J hJ hr
            unfold extend
            rw [List.foldl_cons]
            have hya : y ≠ a := fun e => hr (e ▸ List.mem_cons_self)
            have hyr : y ∉ rms := fun q => hr (List.mem_cons_of_mem _ q)
            split
            · exact ih J hJ hyr
            · refine ih _ ?_ hyr
              rw [List.mem_append, List.mem_singleton]
              rintro (q | q)
              · exact hJ q
              · exact hya q
        exact this rooms I (fun q => hy (hs y q)) hy q'
theorem larges_ne {rows : Rows} {rooms : List Nat} (h : rooms ≠ []) : ∀ S ∈ larges rows rooms, S ≠ [] := by
  intro S hS e
  subst e
  have := (List.mem_filter.mp hS).2
  obtain ⟨x, hx⟩ := List.exists_mem_of_ne_nil _ h
  unfold isLargest at this
  rw [List.all_eq_true] at this
  have := this x hx
  simp at this
theorem larges_sub {n : Nat} {rows : Rows} (g : Gr n rows) {rooms S : List Nat} (h : S ∈ larges rows rooms) : S.Sublist rooms ∧ Ind rows S ∧ ∀ x ∈ rooms, x ∈ S ∨ ∃ y, y ∈ nb rows x ∧ y ∈ S := by
  obtain ⟨h1, h2⟩ := List.mem_filter.mp h
  obtain ⟨h3, h4⟩ := grow_sub g rooms S h1
  refine ⟨h3, h4, fun x hx => ?_⟩
  unfold isLargest at h2
  rw [List.all_eq_true] at h2
  have := h2 x hx
  rw [Bool.or_eq_true, List.any_eq_true] at this
  rcases this with q | ⟨y, q, q'⟩
  · exact .inl (of_decide_eq_true q)
  · exact .inr ⟨y, q, of_decide_eq_true q'⟩
theorem larges_len (rows : Rows) (rooms : List Nat) : (larges rows rooms).length ≤ 2 ^ rooms.length := Nat.le_trans (List.length_filter_le _ _) (grow_len rows rooms)

/-! ### numbers for some rooms, from a level on -/
structure RestOn (rows : Rows) (rooms : List Nat) (s : St) (level : Nat) (r : List (Nat × Nat)) : Prop where
  nd : (r.map Prod.fst).Nodup
  ks : ∀ x, x ∈ r.map Prod.fst ↔ x ∈ rooms
  ge : ∀ p ∈ r, level ≤ p.2
  le : ∀ p ∈ r, p.2 ≤ at_ s p.1
  no : ∀ p ∈ r, ∀ y ∈ nb rows p.1, (y, p.2) ∉ r
  all : ∀ p ∈ r, ∀ j, level ≤ j → j < p.2 → ∃ y ∈ nb rows p.1, (y, j) ∈ r
theorem restOn_nil (rows : Rows) (s : St) (level : Nat) : RestOn rows [] s level [] :=
  ⟨List.nodup_nil, fun x => Iff.rfl, fun p h => (by cases h), fun p h => (by cases h), fun p h => (by cases h), fun p h => (by cases h)⟩
/-- the rooms that are left -/
def left (rooms some : List Nat) : List Nat := rooms.filter fun x => !decide (x ∈ some)
theorem mem_left {rooms some : List Nat} {x : Nat} : x ∈ left rooms some ↔ x ∈ rooms ∧ x ∉ some := by
  unfold left
  rw [List.mem_filter]
  simp
theorem restOn_step {n : Nat} {rows : Rows} (g : Gr n rows) {rooms S : List Nat} {s : St} {level : Nat} {more : List (Nat × Nat)} (hS : S ∈ larges rows rooms) (hn : rooms.Nodup) (hge : ∀ x ∈ rooms, level ≤ at_ s x)
    (hr : RestOn rows (left rooms S) s (level + 1) more) : RestOn rows rooms s level (S.map (fun x => (x, level)) ++ more) := by
  obtain ⟨h1, h2, h3⟩ := larges_sub g hS
  have hS0 : ∀ x ∈ S, x ∈ rooms := fun x hx => h1.subset hx
  have hk : (S.map (fun x => (x, level))).map Prod.fst = S := by rw [List.map_map]; exact List.map_id _
  have hmS : ∀ {x v}, (x, v) ∈ S.map (fun x => (x, level)) ↔ x ∈ S ∧ v = level := fun {x v} => by
    rw [List.mem_map]
    constructor
    · rintro ⟨y, hy, e⟩
      have := Prod.mk.inj e
      exact ⟨this.1 ▸ hy, this.2.symm⟩
    · rintro ⟨hx, e⟩; exact ⟨x, hx, by rw [e]⟩
  refine ⟨?_, fun x => ?_, fun p hp => ?_, fun p hp => ?_, fun p hp y hy hin => ?_, fun p hp j hj1 hj2 => ?_⟩
  · rw [List.map_append, hk, List.nodup_append]
    refine ⟨h1.nodup hn, hr.nd, fun a ha b hb e => ?_⟩
    subst e
    exact (mem_left.mp ((hr.ks a).mp hb)).2 ha
  · rw [List.map_append, hk, List.mem_append, hr.ks x, mem_left]
    constructor
    · rintro (q | q)
      · exact hS0 x q
      · exact q.1
    · intro q
      by_cases h : x ∈ S
      · exact .inl h
      · exact .inr ⟨q, h⟩
  · rcases List.mem_append.mp hp with q | q
    · exact Nat.le_of_eq (hmS.mp q).2.symm
    · exact Nat.le_of_succ_le (hr.ge p q)
  · rcases List.mem_append.mp hp with q | q
    · rw [(hmS.mp q).2]; exact hge _ (hS0 _ (hmS.mp q).1)
    · exact hr.le p q
  · rcases List.mem_append.mp hp with q | q
    · obtain ⟨q1, q2⟩ := hmS.mp q
      rw [q2] at hin
      rcases List.mem_append.mp hin with z | z
      · exact h2 _ q1 y (hmS.mp z).1 hy
      · have := hr.ge _ z
        simp only at this
        omega
    · have hge' := hr.ge p q
      rcases List.mem_append.mp hin with z | z
      · have := (hmS.mp z).2
        omega
      · exact hr.no p q y hy z
  · rcases List.mem_append.mp hp with q | q
    · have := (hmS.mp q).2; omega
    · by_cases e : j = level
      · subst e
        have hx := mem_left.mp ((hr.ks p.1).mp (List.mem_map.mpr ⟨p, q, rfl⟩))
        rcases h3 p.1 hx.1 with z | ⟨y, z, z'⟩
        · exact absurd z hx.2
        · exact ⟨y, z, List.mem_append_left _ (hmS.mpr ⟨z', rfl⟩)⟩
      · obtain ⟨y, hy, hm⟩ := hr.all p q j (by omega) hj2
        exact ⟨y, hy, List.mem_append_right _ hm⟩
theorem must_has {n : Nat} {rows : Rows} (g : Gr n rows) {rooms : List Nat} {s : St} {level : Nat} (hp : Parted rows s) : ∃ S ∈ larges rows rooms, ∀ x ∈ rooms, at_ s x = level → x ∈ S := by
  have hI : Ind rows (rooms.filter fun x => decide (at_ s x = level)) := fun x hx y hy hxy => by
    have h1 := of_decide_eq_true (List.mem_filter.mp hx).2
    have h2 := of_decide_eq_true (List.mem_filter.mp hy).2
    exact hp x y hxy (h1.trans h2.symm)
  obtain ⟨S, hS, h⟩ := larges_has g hI fun x hx => (List.mem_filter.mp hx).1
  exact ⟨S, hS, fun x hx e => h x (List.mem_filter.mpr ⟨hx, decide_eq_true e⟩)⟩
theorem left_len {rooms S : List Nat} (h1 : S.Sublist rooms) (h : S ≠ []) : (left rooms S).length < rooms.length := by
  obtain ⟨x, hx⟩ := List.exists_mem_of_ne_nil _ h
  have hxr := h1.subset hx
  unfold left
  apply Nat.lt_of_le_of_ne (List.length_filter_le _ _)
  intro e
  have := List.length_filter_eq_length_iff.mp e x hxr
  simp [hx] at this
/-! ### to a state -/
def look (r : List (Nat × Nat)) (x : Nat) : Nat := ((r.find? fun p => decide (p.1 = x)).map Prod.snd).getD 0
theorem look_mem : ∀ {r : List (Nat × Nat)} {x : Nat}, x ∈ r.map Prod.fst → (x, look r x) ∈ r
  | [], x, h => by cases h
  | p :: r, x, h => by
    unfold look
    rw [List.find?_cons]
    by_cases e : p.1 = x
    · rw [decide_eq_true e]
      show (x, p.2) ∈ p :: r
      rw [← e]; exact List.mem_cons_self
    · rw [decide_eq_false e]
      rw [List.map_cons, List.mem_cons] at h
      exact List.mem_cons_of_mem _ (look_mem (h.resolve_left fun q => e q.symm))
theorem look_eq {r : List (Nat × Nat)} (hn : (r.map Prod.fst).Nodup) {x v : Nat} (h : (x, v) ∈ r) : look r x = v := by
  induction r with
  | nil => cases h
  | cons p r ih =>
    rw [List.map_cons, List.nodup_cons] at hn
    unfold look
    rw [List.find?_cons]
    rcases List.mem_cons.mp h with e | e
    · rw [← e]; simp
    · have : p.1 ≠ x := fun q => hn.1 (q ▸ List.mem_map.mpr ⟨_, e, rfl⟩)
      rw [decide_eq_false this]
      exact ih hn.2 e
def toSt (n : Nat) (r : List (Nat × Nat)) : St := (List.range n).map (look r)
theorem toSt_at {n x : Nat} {r : List (Nat × Nat)} (h : x < n) : at_ (toSt n r) x = look r x := by
  unfold at_ toSt
  rw [List.getD_eq_getElem?_getD, List.getElem?_map, List.getElem?_range h]; rfl
theorem restOn_rest {n : Nat} {rows : Rows} (g : Gr n rows) {s : St} {r : List (Nat × Nat)} (hr : RestOn rows (List.range n) s 0 r) : (toSt n r).length = n ∧ Rest rows (toSt n r) ∧ Le (toSt n r) s := by
  have hl : (toSt n r).length = n := by unfold toSt; simp
  have hk : ∀ x, x < n → (x, look r x) ∈ r := fun x hx => look_mem ((hr.ks x).mpr (List.mem_range.mpr hx))
  refine ⟨hl, fun x hx => ?_, fun x => ?_⟩
  · rw [hl] at hx
    rw [toSt_at hx]
    refine mex_eq ⟨fun hin => ?_, fun j hj => ?_⟩
    · obtain ⟨y, hy, e⟩ := List.mem_map.mp hin
      have hyn := (g.lt x y hy).1
      rw [toSt_at hyn] at e
      have := hk y hyn
      rw [e] at this
      exact hr.no _ (hk x hx) y hy this
    · obtain ⟨y, hy, hm⟩ := hr.all _ (hk x hx) j (Nat.zero_le _) hj
      have hyn := (g.lt x y hy).1
      exact List.mem_map.mpr ⟨y, hy, by rw [toSt_at hyn]; exact look_eq hr.nd hm⟩
  · by_cases hx : x < n
    · rw [toSt_at hx]
      exact hr.le _ (hk x hx)
    · rw [at_ge (by omega)]; exact Nat.zero_le _
def bnd : Nat → Nat
  | 0 => 1
  | k + 1 => 2 ^ (k + 1) * bnd k
theorem bnd_le : ∀ {j k : Nat}, j ≤ k → bnd j ≤ bnd k
  | j, 0, h => by rw [Nat.le_zero.mp h]; exact Nat.le_refl _
  | j, k + 1, h => by
    rcases Nat.lt_or_eq_of_le h with q | q
    · have := bnd_le (Nat.le_of_lt_succ q)
      show bnd j ≤ 2 ^ (k + 1) * bnd k
      have h2 : 1 * bnd k ≤ 2 ^ (k + 1) * bnd k := Nat.mul_le_mul_right _ (Nat.one_le_two_pow)
      omega
    · rw [q]; exact Nat.le_refl _
end Mx
end
section
set_option Elab.async false
set_option linter.all false
set_option maxRecDepth 100000
set_option maxHeartbeats 4000000
/-! Largest sets; the rests below a state. -/
namespace MxP
open PySem PySem.Spec PyProof.Rows L2 MxT MxL
open PySem.W (AllAlike alike alikeAll)
open Evl (Ex)
open Mx (at_ nb Rows free key done changed fit greedy larges isLargest grow growStep left RestOn bnd look toSt)
def unT : PyData → List Nat
  | .tuple ds => ds.map unN
  | _ => []
theorem unT_dT (l : List Nat) : unT (dT l) = l := un_map l
noncomputable def srtT (l : List (List Nat)) : List (List Nat) := (sortD (l.map dT)).map unT
theorem unT_map (l : List (List Nat)) : (l.map dT).map unT = l := by
  rw [List.map_map]
  have : unT ∘ dT = id := funext unT_dT
  rw [this, List.map_id]
theorem srtT_perm (l : List (List Nat)) : (srtT l).Perm l := by
  have h := (sortD_perm (l.map dT)).map unT
  rw [unT_map] at h
  exact h
theorem srtT_map (l : List (List Nat)) : (srtT l).map dT = sortD (l.map dT) := by
  unfold srtT
  rw [List.map_map]
  refine (List.map_congr_left (g := id) ?_).trans (List.map_id _)
  intro d hd
  obtain ⟨n, _, rfl⟩ := List.mem_map.mp ((sortD_perm (l.map dT)).mem_iff.mp hd)
  show dT (unT (dT n)) = dT n
  rw [unT_dT]
def dD (r : List (Nat × Nat)) : PyData := .dict (r.map fun p => (dN p.1, dN p.2))
def kvI (r : List (Nat × Nat)) : List (Int × Int) := r.map fun p => ((p.1 : Nat), (p.2 : Nat))
theorem dD_eq (r : List (Nat × Nat)) : dD r = .dict ((kvI r).map fun p => (.int p.1, .int p.2)) := by unfold dD kvI; rw [List.map_map]; rfl
def kvV (r : List (Nat × Nat)) : Kvs := r.map fun p => (Sum.inl ((p.1 : Nat) : Int), V.int (p.2 : Nat))
theorem dD_at {G : Hp} {v : V} {r : List (Nat × Nat)} (h : Da G v (dD r)) : ∃ a, v = .ref a ∧ G a = some (.dK (kvV r)) := by
  obtain ⟨a, e, h⟩ := dct_inv h (kvI r) (dD_eq r)
  refine ⟨a, e, ?_⟩
  rw [h]; unfold kvI kvV; rw [List.map_map]; rfl
theorem dD_of {G : Hp} {a : Addr} {r : List (Nat × Nat)} (h : G a = some (.dK (kvV r))) : Da G (.ref a) (dD r) := by
  rw [dD_eq]
  refine .dct ?_
  rw [h]; unfold kvI kvV; rw [List.map_map]; rfl
theorem valV_kvV (x : Nat) : ∀ r : List (Nat × Nat), valV (kvV r) (.inl (x : Nat)) = if x ∈ r.map Prod.fst then some (.int (look r x : Nat)) else none
  | [] => rfl
  | p :: r => by
    have ih := valV_kvV x r
    have e0 : kvV (p :: r) = (Sum.inl ((p.1 : Nat) : Int), V.int (p.2 : Nat)) :: kvV r := rfl
    rw [e0]
    by_cases e : p.1 = x
    · rw [valV_pos (by show (Sum.inl _ : Key) = Sum.inl _; rw [e])]
      simp [look, e]
    · rw [valV_neg (by show ¬ (Sum.inl _ : Key) = Sum.inl _; intro q; have := Sum.inl.inj q; omega), ih]
      have hl : look (p :: r) x = look r x := by unfold look; rw [List.find?_cons, decide_eq_false e]
      have hm : (x ∈ (p :: r).map Prod.fst) ↔ x ∈ r.map Prod.fst := by
        rw [List.map_cons, List.mem_cons]
        exact ⟨fun h => h.resolve_left fun q => e q.symm, .inr⟩
      rw [hl]
      by_cases hx : x ∈ r.map Prod.fst
      · rw [if_pos hx, if_pos (hm.mpr hx)]
      · rw [if_neg hx, if_neg (fun q => hx (hm.mp q))]
theorem mergeK_app : ∀ (ls ks : List (Nat × Nat)), ((ks ++ ls).map Prod.fst).Nodup → mergeK (kvV ks) (kvV ls) = kvV (ks ++ ls)
  | [], ks, _ => by rw [List.append_nil]; rfl
  | p :: ls, ks, h => by
    have hv : valV (kvV ks) (.inl (p.1 : Nat)) = none := by
      rw [valV_kvV, if_neg]
      intro hm
      rw [List.map_append, List.nodup_append] at h
      exact h.2.2 p.1 hm p.1 (by simp) rfl
    have e : mergeK (kvV ks) (kvV (p :: ls)) = mergeK (kvV (ks ++ [p])) (kvV ls) := by
      show mergeK (putK (kvV ks) (.inl (p.1 : Nat)) (.int (p.2 : Nat))) (kvV ls) = _
      rw [putK_new _ hv]
      unfold kvV
      rw [List.map_append]; rfl
    rw [e, mergeK_app ls (ks ++ [p]) (by rw [List.append_assoc]; exact h), List.append_assoc]
    rfl
section
variable {K : PySem.W.Frag} {σ : L2.St} {G : Hp} {te ta tb : TE}
theorem ed_sortTs {l : List (List Nat)} (hne : ∀ x ∈ l, x ≠ []) (h : EvD te σ G (.list (l.map dT))) : EvD (tCB (rSortL K) (tCons te tNil)) σ G (.list ((srtT l).map dT)) :=
  EvD.of (ed_sortL (ds := l.map dT) (ndsT _) (allAlikeT l) (sortT hne) (fun d hd => by
    obtain ⟨a, _, rfl⟩ := List.mem_map.mp hd
    rw [depT]; decide) h) (by rw [srtT_map])
theorem ed_star2 {r1 r2 : List (Nat × Nat)} (hn : ((r1 ++ r2).map Prod.fst).Nodup) (hl : r1.length + r2.length ≤ 1000) (ha : EvD ta σ G (dD r1)) (hb : EvD tb σ G (dD r2)) : EvD (tStar2 ta tb) σ G (dD (r1 ++ r2)) := fun H eg Q k => by
  intro p hp
  have gp : Go G H G (upd H p (.dK [])) := Go.priv eg hp
  have hGp : G p = none := nb_back eg hp
  refine ha _ gp.gh _ fun x G1 H1 d1 g1 hx e1 => ?_
  subst e1
  obtain ⟨a, rfl, ha1⟩ := dD_at hx
  have hn1 := g1.keepN hGp upd_same
  have hp1 : H1 p = some (.dK []) := g1.hh _ _ upd_same
  have hap : a ≠ p := fun e => by rw [e, hn1] at ha1; cases ha1
  have l1 : (kvV r1).length = r1.length := by unfold kvV; rw [List.length_map]
  have l2 : (kvV r2).length = r2.length := by unfold kvV; rw [List.length_map]
  have m1 : mergeK [] (kvV r1) = kvV r1 := mergeK_app r1 [] (by
    rw [List.map_append, List.nodup_append] at hn
    exact hn.1)
  refine ⟨a, kvV r1, rfl, hp1, g1.gh _ _ ha1, hap, by omega, ?_⟩
  rw [m1]
  have g2 := (gp.trans g1).mut hp hn1 (o := .dK (kvV r1))
  refine (hb.mono g2.gg) _ g2.gh _ fun y G3 H3 d3 g3 hy e3 => ?_
  subst e3
  obtain ⟨b, rfl, hb1⟩ := dD_at hy
  have hn3 := g3.keepN hn1 upd_same
  have hp3 : H3 p = some (.dK (kvV r1)) := g3.hh _ _ upd_same
  have hbp : b ≠ p := fun e => by rw [e, hn3] at hb1; cases hb1
  refine ⟨b, kvV r2, kvV r1, rfl, hp3, g3.gh _ _ hb1, hbp, by omega, by omega, ?_⟩
  rw [mergeK_app r2 r1 hn]
  have g4 := (g2.trans g3).mut hp hn3 (o := .dK (kvV (r1 ++ r2)))
  exact k (.ref p) (upd G3 p (.dK (kvV (r1 ++ r2)))) _ _ (g4.pub hp hn3 upd_same) (dD_of upd_same) rfl
end
section
variable {P : Program} {w : World} {K : PySem.W.Frag} {mg : Str → Option Value} {base : Heap}
structure RRS where
  rows : Rows
  rooms : List Nat
  some : List Nat
  n : Nat
structure RRS.Ok (a : RRS) : Prop where
  g : GrB a.n a.rows
  l : a.rooms.length ≤ 6
  x : ∀ x ∈ a.rooms, x < a.n
  s : a.some.length ≤ 6
def spIsLargest : Sp := spA (fun a : RRS => [dRows a.rows, dT a.rooms, dT a.some]) RRS.Ok fun a r => r = .bool (isLargest a.rows a.rooms a.some)
abbrev HIsLargest (P : Program) (w : World) (K : PySem.W.Frag) (mg : Str → Option Value) (base : Heap) := Has P w K mg base 1 "is_largest" ["rows", "rooms", "some"] spIsLargest
theorem scIsLargest : FnScope ["rows", "rooms", "some", "room", "other"] ["rows", "rooms", "some"] (defScope sIsLargest) := ⟨rfl, rfl, rfl, by decide +kernel, rfl, by decide +kernel, by decide +kernel⟩
theorem bdIsLargest : ∀ (kV doc pm : Value) (an : Option Addr) (cdv ct : Value) (us : List Value), us.length = (["rows", "rooms", "some"] : List Str).length → bindArgs (PySem.W.fnOf "is_largest" "is_largest" (defArgs sIsLargest) (defBody sIsLargest) (defScope sIsLargest) .none kV doc pm an cdv ct) ⟨us, []⟩ = pure ((["rows", "rooms", "some"] : List Str).zip us) := fun _ _ _ _ _ _ us hl => match us, hl with | [_, _, _], _ => rfl
theorem ok_is_largest (T : Tx K mg) : HIsLargest P w K mg base := by
  refine has_okA T.fIsLargest scIsLargest (fun a => rfl) bdIsLargest fun f cdv A outer s G H vs a Q E hr eg hvs hp q => ⟨_, (pss_one (ps_ret (pe_callB (cr_all rfl) (by rfl) T.all bb_all (pa_cons (pe_lc (own := [("room", 3)]) rfl scIsLargest.nd (pi_tup (pv 1)) (blkOk_by (by kernel_rfl)) (fun _ _ _ _ _ => (pg_name (i := 3) scIsLargest.nd rfl (by first | exact Or.inl rfl | exact Or.inr rfl))) (fun _ _ _ _ _ => pts_nil) (fun _ _ _ _ _ => (pe_or (pe_cmpR (op_in_seqK (K := K)) (pv 3) (pv 2) (by rfl)) (pe_one (pe_callB (cr_anyK (K := K) rfl) (by rfl) T.any bb_any (pa_cons (pe_lc (own := [("other", 4)]) rfl scIsLargest.nd (pi_listK (K := K) (pe_ix (ix_listK (K := K)) (pv 0) (pv 3) (fun _ _ => rfl))) (blkOk_by (by kernel_rfl)) (fun _ _ _ _ _ => (pg_name (i := 4) scIsLargest.nd rfl (by first | exact Or.inl rfl | exact Or.inr rfl))) (fun _ _ _ _ _ => pts_nil) (fun _ _ _ _ _ => (pe_cmpR (op_in_seqK (K := K)) (pv 4) (pv 2) (by rfl)))) pa_nil)))))) pa_nil)))), ?_⟩
  obtain ⟨rows, rooms, sm, n⟩ := a
  obtain ⟨hg, hl, hx, hs⟩ := hp
  simp only at hg hl hx hs
  obtain ⟨v, v1, v2, rfl, hv, h1, h2⟩ := args3 hvs
  refine r_ret (ed_allP rooms (fun x => decide (x ∈ sm) || (nb rows x).any fun y => decide (y ∈ sm)) (EvD.of (ed_lcT rooms dN (fun _ => true) (fun x => .bool (decide (x ∈ sm) || (nb rows x).any fun y => decide (y ∈ sm))) (few (by omega)) (ed_var rfl h1) (fun _ => rfl) (fun a u G' _ _ _ => et_yes) fun x u G' hm _ eG hu => ?_) (by rw [fill_true]))) eg fun v' G' H' d g' hd hr => q v' G' H' d g' hd hr
  refine ed_orV (ed_inTN (ed_var rfl hu) (ed_var rfl (h2.mono eG))) fun _ => ?_
  refine ed_anyP (nb rows x) (fun y => decide (y ∈ sm)) (EvD.of (ed_lcL (nb rows x) dN (fun _ => true) (fun y => .bool (decide (y ∈ sm))) (few (Nat.le_trans (hg.few x) (by decide))) (ed_row (by rw [hg.gr.len]; exact hx x hm) (ed_var rfl (hv.mono eG)) (ed_var rfl hu)) (fun _ => rfl) (fun a u G' _ _ _ => et_yes) fun y u' G2 hm2 _ eG2 hu' => ?_) (by rw [fill_true]))
  exact ed_inTN (ed_var rfl hu') (ed_var rfl ((h2.mono eG).mono eG2))
structure RR where
  rows : Rows
  rooms : List Nat
  n : Nat
structure RR.Ok (a : RR) : Prop where
  g : GrB a.n a.rows
  l : a.rooms.length ≤ 6
  x : ∀ x ∈ a.rooms, x < a.n
  ne : a.rooms ≠ []
def spLargest : Sp := spA (fun a : RR => [dRows a.rows, dT a.rooms]) RR.Ok fun a r => r = .list ((srtT (larges a.rows a.rooms)).map dT)
abbrev HLargest (P : Program) (w : World) (K : PySem.W.Frag) (mg : Str → Option Value) (base : Heap) := Has P w K mg base 2 "largest_in" ["rows", "rooms"] spLargest
theorem scLargestIn : FnScope ["rows", "rooms", "found", "room", "some", "other"] ["rows", "rooms"] (defScope sLargestIn) := ⟨rfl, rfl, rfl, by decide +kernel, rfl, by decide +kernel, by decide +kernel⟩
theorem bdLargestIn : ∀ (kV doc pm : Value) (an : Option Addr) (cdv ct : Value) (us : List Value), us.length = (["rows", "rooms"] : List Str).length → bindArgs (PySem.W.fnOf "largest_in" "largest_in" (defArgs sLargestIn) (defBody sLargestIn) (defScope sLargestIn) .none kV doc pm an cdv ct) ⟨us, []⟩ = pure ((["rows", "rooms"] : List Str).zip us) := fun _ _ _ _ _ _ us hl => match us, hl with | [_, _], _ => rfl
theorem ok_largest_in (T : Tx K mg) (FIsLargest : HIsLargest P w K mg base) : HLargest P w K mg base := by
  refine has_okA T.fLargestIn scLargestIn (fun a => rfl) bdLargestIn fun f cdv A outer s G H vs a Q E hr eg hvs hp q => ⟨_, (pss_cons (ps_set (i := 2) scLargestIn.nd rfl (by first | exact Or.inl rfl | exact Or.inr rfl) (pe_lst (pa_cons (pe_tup pa_nil) pa_nil)))
      (pss_cons (ps_for PassesOwn.never rfl (pi_tup (pv 1)) (pg_name (i := 3) scLargestIn.nd rfl (by first | exact Or.inl rfl | exact Or.inr rfl)) (pss_one (ps_expr (pe_bm PySem.F.plainAttrs_list PySem.F.slot_list_extend PySem.F.type_list_extend mt_extend (pv 2) (pa_cons (pe_lc (own := [("some", 4)]) rfl scLargestIn.nd (pi_list (pv 2)) (blkOk_by (by kernel_rfl)) (fun _ _ _ _ _ => (pg_name (i := 4) scLargestIn.nd rfl (by first | exact Or.inl rfl | exact Or.inr rfl))) (fun _ _ _ _ _ => (pts_one (pt_not (pt_val (pe_callB (cr_anyK (K := K) rfl) (by rfl) T.any bb_any (pa_cons (pe_lc (own := [("other", 5)]) rfl scLargestIn.nd (pi_listK (K := K) (pe_ix (ix_listK (K := K)) (pv 0) (pv 3) (fun _ _ => rfl))) (blkOk_by (by kernel_rfl)) (fun _ _ _ _ _ => (pg_name (i := 5) scLargestIn.nd rfl (by first | exact Or.inl rfl | exact Or.inr rfl))) (fun _ _ _ _ _ => pts_nil) (fun _ _ _ _ _ => (pe_cmpR (op_in_seqK (K := K)) (pv 5) (pv 4) (by rfl)))) pa_nil)))))) (fun _ _ _ _ _ => (pe_tup (pa_starK (K := K) (pv 4) (pa_cons (pv 3) pa_nil))))) pa_nil)))))
      (pss_one (ps_ret (pe_callB (cr_sortD hr.units) (by rfl) T.sorted bb_sorted (pa_cons (pe_lc (own := [("some", 4)]) rfl scLargestIn.nd (pi_list (pv 2)) (blkOk_by (by kernel_rfl)) (fun _ _ _ _ _ => (pg_name (i := 4) scLargestIn.nd rfl (by first | exact Or.inl rfl | exact Or.inr rfl))) (fun _ _ _ _ _ => (pts_one (pt_val (pe_callH FIsLargest (hr.mono (by decide)) (pa_cons (pv 0) (pa_cons (pv 1) (pa_cons (pv 4) pa_nil))))))) (fun _ _ _ _ _ => (pv 4))) pa_nil)))))), ?_⟩
  obtain ⟨rows, rooms, n⟩ := a
  obtain ⟨hg, hl, hx, hne⟩ := hp
  simp only at hg hl hx hne
  obtain ⟨v, v1, rfl, hv, h1⟩ := args2 hvs
  have gb : ∀ i, (grow rows (rooms.take i)).length ≤ 64 := fun i => by
    have a1 := Mx.grow_len rows (rooms.take i)
    have a2 : 2 ^ (rooms.take i).length ≤ 2 ^ 6 := Nat.pow_le_pow_right (by decide) (by rw [List.length_take]; omega)
    omega
  refine rq_own (es_cons (ed_tup es_nil (few (by simp))) es_nil) (few (by simp)) eg fun p ws G1 H1 g1 h0 hn1 hp1 hws => ?_
  refine r_forT (L := rooms) (enc := dN) (ed_var rfl (h1.mono g1.gg)) g1.gh fun G2 H2 g2 => ?_
  refine ⟨fun i σ' H' => ∃ G' acc b, Go G H G' H' ∧ Ex G2 G' ∧ σ' = [some v, some v1, some (.ref p), b, none, none] ∧ G' p = none ∧ H' p = some (.lst acc) ∧ DaAll G' acc ((grow rows (rooms.take i)).map dT), ⟨G2, ws, none, g1.trans g2, Ex.refl G2, rfl, g2.keepN hn1 hp1, g2.hh _ _ hp1, hws.mono g2.gg⟩, fun i σ' H' ⟨G', acc, b, g, e, _⟩ => e.trans g.gh, ?_, ?_⟩
  · rintro i x u σ' H' hi hxu ⟨G', acc, b, g, e, rfl, hn, hp, hda⟩
    have hxm := List.mem_of_getElem? hi
    have hil := (List.getElem?_eq_some_iff.mp hi).1
    have hgi := gb i
    refine r_name ?_
    refine r_extA (ds := ((grow rows (rooms.take i)).filter fun s => !((nb rows x).any fun y => decide (y ∈ s))).map fun s => dT (s ++ [x])) rfl hp hn ?_ (at_lcO (grow rows (rooms.take i)) dT (fun s => !((nb rows x).any fun y => decide (y ∈ s))) (fun s => dT (s ++ [x])) (few (by omega)) rfl hp hda g.gh (fun _ => rfl) (fun sm u' G3 H3 hm g3 hu' => ?_) fun sm u' G3 H3 hm _ g3 hu' => ?_) fun zs G3 H3 g3 hn3 hp3 hzs => ?_
    · rw [line, hda.length, List.length_map, List.length_map]
      have := List.length_filter_le (fun s => !((nb rows x).any fun y => decide (y ∈ s))) (grow rows (rooms.take i))
      omega
    · refine at_t (et_not (et_B (ed_anyP (nb rows x) (fun y => decide (y ∈ sm)) (EvD.of (ed_lcL (nb rows x) dN (fun _ => true) (fun y => .bool (decide (y ∈ sm))) (few (Nat.le_trans (hg.few x) (by decide))) (ed_row (by rw [hg.gr.len]; exact hx x hxm) (ed_var rfl ((hv.mono g.gg).mono g3.gg)) (ed_var rfl ((hxu.mono e).mono g3.gg))) (fun _ => rfl) (fun a u G' _ _ _ => et_yes) fun y u2 G4 hm2 _ eG2 hu2 => ?_) (by rw [fill_true]))))) g3.gh
      exact ed_inTN (ed_var rfl hu2) (ed_var rfl (hu'.mono eG2))
    · refine at_d (EvD.of (ed_tup (es_star (es := sm.map dN) (ed_var rfl hu') (es_cons (ed_var rfl ((hxu.mono e).mono g3.gg)) es_nil)) (few ?_)) (by unfold dT; rw [List.map_append]; rfl)) g3.gh
      have := (Mx.grow_sub hg.gr _ sm hm).1.length_le
      rw [List.length_take] at this
      simp; omega
    · refine ⟨G3, acc ++ zs, some u, (g.trans g3).mut h0 hn3, e.trans g3.gg, rfl, hn3, upd_same, ?_⟩
      rw [take_more hi, Mx.grow_snoc]
      unfold growStep
      rw [List.map_append, List.map_map]
      exact (hda.mono g3.gg).append hzs
  · rintro σ' H' ⟨G', acc, b, g, e, rfl, hn, hp, hda⟩
    obtain ⟨g', hd'⟩ := pub_own g h0 hn hp hda
    rw [List.take_length] at hd'
    have hgi := gb rooms.length
    rw [List.take_length] at hgi
    refine r_ret (ed_sortTs (l := larges rows rooms) (Mx.larges_ne hne) (EvD.of (ed_lcL (grow rows rooms) dT (isLargest rows rooms) dT (few (by omega)) (ed_var rfl hd') (fun _ => rfl) (fun sm u G3 hm eG hu => ?_) fun sm u G3 hm _ eG hu => ed_var rfl hu) rfl)) g'.gh fun v' G4 H4 d g4 hd hr => q v' G4 H4 d (g'.trans g4) hd hr
    have hsl := (Mx.grow_sub hg.gr _ sm hm).1.length_le
    exact et_B (ed_callA (⟨rows, rooms, sm, n⟩ : RRS) (es_cons (ed_var rfl ((hv.mono g'.gg).mono eG)) (es_cons (ed_var rfl ((h1.mono g'.gg).mono eG)) (es_cons (ed_var rfl hu) es_nil))) ⟨hg, hl, hx, by show sm.length ≤ 6; omega⟩ fun d hd => hd)
end
end MxP
end
section
set_option Elab.async false
set_option linter.all false
set_option maxRecDepth 100000
set_option maxHeartbeats 4000000
/-! The rests below a state. -/
namespace MxP
open PySem PySem.Spec PyProof.Rows L2 MxT MxL
open PySem.W (AllAlike alike alikeAll)
open Evl (Ex)
open Mx (at_ nb Rows free key done changed fit greedy larges isLargest grow growStep left RestOn bnd look toSt)
section
variable {K : PySem.W.Frag} {σ : L2.St} {G H : Hp} {tl te ta tb tk tv : TE} {g : TG} {tu : TS} {D : Ends}
theorem r_forLX {α : Type} {Φ : PyData → Prop} {Ψ : List α → Prop} (enc : α → PyData) (hsrc : EvR tl σ G Φ) (hΦ : ∀ d, Φ d → ∃ L, d = .list (L.map enc) ∧ Ψ L) (eg : Ex G H)
    (k : ∀ L, Ψ L → ∀ G1 H1, Go G H G1 H1 → ∃ Pv : Nat → L2.St → Hp → Prop, Pv 0 σ H1 ∧ (∀ i σ' H', Pv i σ' H' → Ex G1 H') ∧
      (∀ i a v σ' H', L[i]? = some a → Da G1 v (enc a) → Pv i σ' H' → g v σ' H' fun σ2 H2 => tu { D with nx := Pv (i + 1), ct := Pv (i + 1), bk := D.nx } σ2 H2) ∧ ∀ σ' H', Pv L.length σ' H' → D.nx σ' H') : tFor (iList K tl) g tu D σ H :=
  hsrc H eg _ fun v G1 H1 d g1 hv hd => by
    obtain ⟨L, rfl, hL⟩ := hΦ d hd
    obtain ⟨a, xs, rfl, h1, h2⟩ := hv.list_inv
    have hlen : xs.length = L.length := by rw [h2.length, List.length_map]
    obtain ⟨Pv, p0, pe, ps, pd⟩ := k L hL G1 H1 g1
    refine ⟨a, rfl, ⟨xs, .inl (.inl (g1.gh _ _ h1))⟩, for_list (xs := xs) Pv p0 (fun i σ' H' _ p => .inl (.inl (pe i σ' H' p _ _ h1))) (fun i x σ' H' hi p => ?_) fun σ' H' p => pd σ' H' (hlen ▸ p)⟩
    obtain ⟨d', hd', hx⟩ := h2.get' hi
    obtain ⟨al, hal, rfl⟩ := map_at hd'
    exact ps i al x σ' H' hal hx p
theorem ed_nilT : EvD (tTup tNil) σ G (dT []) := ed_tup es_nil (few (by simp))
theorem ed_dnew : EvD tDNewK σ G (dD []) := fun H eg Q k => fun p hp => k (.ref p) (upd G p (.dK [])) _ _ (Go.new eg hp) (dD_of (r := []) upd_same) rfl
theorem ed_dcN {j lv : Nat} {vs : List Nat} (S : List Nat) (hn : S.Nodup) (hL : S.length ≤ 1000) (hsrc : EvD tl σ G (dT S)) (hw : ∀ x, wipe ((wipe σ vs).set j (some x)) vs = wipe σ vs)
    (hk : ∀ (a : Nat) v G', a ∈ S → Ex G G' → Da G' v (dN a) → EvD tk ((wipe σ vs).set j (some v)) G' (dN a))
    (hv : ∀ (a : Nat) v G', a ∈ S → Ex G G' → Da G' v (dN a) → Evl.Ev tv ((wipe σ vs).set j (some v)) G' (.int (lv : Nat))) :
    EvD (tDc (iTup K tl) (gName j) tYes tk tv vs) σ G (dD (S.map fun x => (x, lv))) := by
  unfold dT at hsrc; rw [mapN] at hsrc
  have hm : ∀ a ∈ S.map (fun n => ((n : Nat) : Int)), ∃ b ∈ S, a = (b : Nat) := fun a ha => by
    obtain ⟨b, hb, e⟩ := List.mem_map.mp ha
    exact ⟨b, hb, e.symm⟩
  refine EvD.of (ed_dcT (S.map fun n => ((n : Nat) : Int)) (lv : Nat) ?_ (few (by rw [List.length_map]; exact hL)) hsrc hw (fun a v G' ha eG hd => ?_) fun a v G' ha eG hd => ?_) ?_
  · rw [List.nodup_iff_pairwise_ne, List.pairwise_map]
    exact List.Pairwise.imp (fun h e => h (by omega)) hn
  · obtain ⟨b, hb, rfl⟩ := hm a ha
    exact hk b v G' hb eG hd
  · obtain ⟨b, hb, rfl⟩ := hm a ha
    exact hv b v G' hb eG hd
  · unfold dD
    rw [List.map_map, List.map_map, List.map_map]; rfl
end
section
variable {P : Program} {w : World} {K : PySem.W.Frag} {mg : Str → Option Value} {base : Heap}
structure BIn where
  rows : Rows
  rooms : List Nat
  s : NSt
  lv : Nat
  n : Nat
def BIn.enc (a : BIn) : List PyData := [dRows a.rows, dT a.rooms, dT a.s, dN a.lv]
structure BIn.Ok (k : Nat) (a : BIn) : Prop where
  g : GrB a.n a.rows
  lt : a.rooms.length < k
  l : a.rooms.length ≤ 6
  nd : a.rooms.Nodup
  x : ∀ x ∈ a.rooms, x < a.n
  ge : ∀ x ∈ a.rooms, a.lv ≤ at_ a.s x
  sl : a.s.length = a.n
  p : Mx.Parted a.rows a.s
def BIn.Out (a : BIn) (r : PyData) : Prop := ∃ rs, r = .list (rs.map dD) ∧ rs ≠ [] ∧ rs.length ≤ bnd a.rooms.length ∧ ∀ q ∈ rs, RestOn a.rows a.rooms a.s a.lv q
def spBelowIn (k : Nat) : Sp := spA BIn.enc (BIn.Ok k) BIn.Out
abbrev HBelowIn (P : Program) (w : World) (K : PySem.W.Frag) (mg : Str → Option Value) (base : Heap) (k : Nat) := Has P w K mg base (3 + k) "below_in" ["rows", "rooms", "state", "level"] (spBelowIn k)
theorem restOn_len {rows : Rows} {rooms : List Nat} {s : NSt} {lv : Nat} {r : List (Nat × Nat)} (h : RestOn rows rooms s lv r) : r.length ≤ rooms.length := by
  have := Mx.nodup_len h.nd (fun x hx => (h.ks x).mp hx)
  rwa [List.length_map] at this
theorem scBelowIn : FnScope ["rows", "rooms", "state", "level", "must", "found", "some", "room", "left", "more"] ["rows", "rooms", "state", "level"] (defScope sBelowIn) := ⟨rfl, rfl, rfl, by decide +kernel, rfl, by decide +kernel, by decide +kernel⟩
theorem bdBelowIn : ∀ (kV doc pm : Value) (an : Option Addr) (cdv ct : Value) (us : List Value), us.length = (["rows", "rooms", "state", "level"] : List Str).length → bindArgs (PySem.W.fnOf "below_in" "below_in" (defArgs sBelowIn) (defBody sBelowIn) (defScope sBelowIn) .none kV doc pm an cdv ct) ⟨us, []⟩ = pure ((["rows", "rooms", "state", "level"] : List Str).zip us) := fun _ _ _ _ _ _ us hl => match us, hl with | [_, _, _, _], _ => rfl
theorem ok_below_in (T : Tx K mg) (FLargestIn : HLargest P w K mg base) : ∀ k, HBelowIn P w K mg base k
  | 0 => (has_sp (k := 0) (sp := spBelowIn 0) T.fBelowIn scBelowIn (fun vs H Q E ⟨G, a, _, h, p, _⟩ => h.length) bdBelowIn fun f cdv A outer s H vs Q E hr ⟨G, a, eg, h, p, q⟩ => absurd p.lt (Nat.not_lt_zero _)).mono (by omega)
  | kk + 1 => by
    have FBelowIn := ok_below_in T FLargestIn kk
    refine (has_okA (k := 3 + kk) T.fBelowIn scBelowIn (fun a => rfl) bdBelowIn fun f cdv A outer s G H vs a Q E hr eg hvs hp q => ⟨_, (pss_cons (ps_if (pt_cmpR (op_eqD hr.units) (pv 1) (pe_tup pa_nil) (nomark _)) (pss_one (ps_ret (pe_lst (pa_cons pe_dnewK pa_nil)))) pss_nil)
      (pss_cons (ps_setLc (i := 4) (own := [("room", 7)]) rfl scBelowIn.nd rfl rfl (sw_true rfl rfl rfl (by decide +kernel)) (pi_tup (pv 1)) (blkOk_by (by kernel_rfl)) (fun _ _ _ _ _ => (pg_name (i := 7) scBelowIn.nd rfl (by first | exact Or.inl rfl | exact Or.inr rfl))) (fun _ _ _ _ _ => (pts_one (pt_cmpR op_eq (pe_ix (ix_tupK (K := K)) (pv 2) (pv 7) (fun _ _ => rfl)) (pv 3) (nomark _)))) (fun _ _ _ _ _ => (pv 7)))
      (pss_cons (ps_set (i := 5) scBelowIn.nd rfl (by first | exact Or.inl rfl | exact Or.inr rfl) (pe_lst pa_nil))
      (pss_cons (ps_for PassesOwn.never rfl (pi_list (pe_callH FLargestIn (hr.mono (by omega)) (pa_cons (pv 0) (pa_cons (pv 1) pa_nil)))) (pg_name (i := 6) scBelowIn.nd rfl (by first | exact Or.inl rfl | exact Or.inr rfl)) (pss_one (ps_if (PW.pt (pw_and (pt_val (pe_callB (cr_all rfl) (by rfl) T.all bb_all (pa_cons (pe_lc (own := [("room", 7)]) rfl scBelowIn.nd (pi_list (pv 4)) (blkOk_by (by kernel_rfl)) (fun _ _ _ _ _ => (pg_name (i := 7) scBelowIn.nd rfl (by first | exact Or.inl rfl | exact Or.inr rfl))) (fun _ _ _ _ _ => pts_nil) (fun _ _ _ _ _ => (pe_cmpR (op_in_seqK (K := K)) (pv 7) (pv 6) (by rfl)))) pa_nil))) (pw_and1 (pt_val (pe_callB (cr_all rfl) (by rfl) T.all bb_all (pa_cons (pe_lc (own := [("room", 7)]) rfl scBelowIn.nd (pi_tup (pv 6)) (blkOk_by (by kernel_rfl)) (fun _ _ _ _ _ => (pg_name (i := 7) scBelowIn.nd rfl (by first | exact Or.inl rfl | exact Or.inr rfl))) (fun _ _ _ _ _ => pts_nil) (fun _ _ _ _ _ => (pe_cmpR op_ge (pe_ix (ix_tupK (K := K)) (pv 2) (pv 7) (fun _ _ => rfl)) (pv 3) (nomark _)))) pa_nil)))))) (pss_cons (ps_set (i := 8) scBelowIn.nd rfl (by first | exact Or.inl rfl | exact Or.inr rfl) (pe_callTy call_tuple_of (by rfl) T.tuple bb_tuple (pa_cons (pe_lc (own := [("room", 7)]) rfl scBelowIn.nd (pi_tup (pv 1)) (blkOk_by (by kernel_rfl)) (fun _ _ _ _ _ => (pg_name (i := 7) scBelowIn.nd rfl (by first | exact Or.inl rfl | exact Or.inr rfl))) (fun _ _ _ _ _ => (pts_one (pt_cmpR (op_notIn_seqK (K := K)) (pv 7) (pv 6) (by rfl)))) (fun _ _ _ _ _ => (pv 7))) pa_nil)))
      (pss_one (ps_for PassesOwn.never rfl (pi_list (pe_callH FBelowIn (hr.mono (by omega)) (pa_cons (pv 0) (pa_cons (pv 8) (pa_cons (pv 2) (pa_cons (pe_op op_add (pv 3) pe_int) pa_nil)))))) (pg_name (i := 9) scBelowIn.nd rfl (by first | exact Or.inl rfl | exact Or.inr rfl)) (pss_one (ps_expr (pe_bm PySem.F.plainAttrs_list PySem.F.slot_list_append PySem.F.type_list_append mt_append (pv 5) (pa_cons (pe_star2 (pe_dc (own := [("room", 7)]) rfl scBelowIn.nd (pi_tup (pv 6)) (blkOk_by (by kernel_rfl)) (fun _ _ _ _ _ => (pg_name (i := 7) scBelowIn.nd rfl (by first | exact Or.inl rfl | exact Or.inr rfl))) (fun _ _ _ _ _ => pts_nil) (fun _ _ _ _ _ => (pv 7)) (fun _ _ _ _ _ => (pv 3))) (pv 9)) pa_nil))))))) pss_nil)))
      (pss_one (ps_ret (pv 5))))))), ?_⟩).mono (by omega)
    obtain ⟨rows, rooms, st, lv, n⟩ := a
    obtain ⟨hg, hlt, hl, hnd, hx, hge, hsl, hpar⟩ := hp
    simp only at hg hlt hl hnd hx hge hsl hpar
    obtain ⟨v, v1, v2, v3, rfl, hv, h1, h2, h3⟩ := args4 hvs
    refine rq_if (et_test (ed_eqT (ed_var rfl h1) ed_nilT)) eg (fun hb H1 e1 => ?_) fun hb H1 e1 => ?_
    · have h0 : rooms = [] := of_decide_eq_true hb
      subst h0
      refine r_ret (ed_lst (es_cons ed_dnew es_nil) (few (by simp))) (eg.trans e1) fun v' G' H' d g' hd hr => q v' G' H' d (((Go.refl eg).ext e1).trans g') hd ⟨[[]], hr, by simp, by simp [bnd], fun r hr => ?_⟩
      have : r = [] := by simpa using hr
      subst this
      exact Mx.restOn_nil _ _ _
    · have h0 : rooms ≠ [] := of_decide_eq_false hb
      have eg1 := eg.trans e1
      obtain ⟨m, hm⟩ : ∃ m, rooms.length = m + 1 := ⟨rooms.length - 1, by have := List.length_pos_iff.mpr h0; omega⟩
      refine rq_asg (ed_lcT rooms dN (fun x => decide (at_ st x = lv)) dN (few (by omega)) (ed_var rfl h1) (fun _ => rfl) (fun x u G' hxm eG hu => et_test (ed_eqN (ed_at (by have := hx x hxm; omega) (ed_var rfl (h2.mono eG)) (ed_var rfl hu)) (ed_var rfl (h3.mono eG)))) fun x u G' hxm _ eG hu => ed_var rfl hu) eg1 fun mu G1 H2 d1 g1 hmu hd1 => ?_
      subst hd1
      refine rq_own es_nil (few (by simp)) g1.gh fun p ws G2 H3 g2 hp0 hn2 hp2 hws => ?_
      have gb := (((Go.refl eg).ext e1).trans g1).trans g2
      have hpH : H p = none := nb_back (e1.trans g1.hh) hp0
      have hLs : (srtT (larges rows rooms)).length ≤ 2 ^ (m + 1) := by
        rw [(srtT_perm _).length_eq, ← hm]; exact Mx.larges_len rows rooms
      have hbm : bnd (m + 1) ≤ bnd 6 := Mx.bnd_le (by omega)
      have hb6 : bnd 6 = 2097152 := by decide
      refine r_forL (L := srtT (larges rows rooms)) (enc := dT) (D := { nx := _, rt := _ }) (ed_callA (⟨rows, rooms, n⟩ : RR) (es_cons (ed_var rfl (hv.mono gb.gg)) (es_cons (ed_var rfl (h1.mono gb.gg)) es_nil)) ⟨hg, hl, hx, h0⟩ fun d hd => hd) g2.gh fun G3 H4 g3 => ?_
      have gb3 := gb.trans g3
      have hmu3 := hmu.mono (g2.gg.trans g3.gg)
      refine ⟨fun i σ' H' => ∃ G' acc rs b6 b7 b8 b9, Go G H G' H' ∧ Ex G3 G' ∧ σ' = [some v, some v1, some v2, some v3, some mu, some (.ref p), b6, b7, b8, b9] ∧ G' p = none ∧ H' p = some (.lst acc) ∧ DaAll G' acc (rs.map dD) ∧ rs.length ≤ i * bnd m ∧ (∀ r ∈ rs, RestOn rows rooms st lv r) ∧ ∀ j S, j < i → (srtT (larges rows rooms))[j]? = some S → (∀ x ∈ rooms, at_ st x = lv → x ∈ S) → rs ≠ [],
        ⟨G3, [], [], none, none, none, none, gb3, Ex.refl G3, ?_, g3.keepN hn2 hp2, ?_, .nil, by simp, fun r hr => (by cases hr), fun j S hj => absurd hj (Nat.not_lt_zero _)⟩, fun i σ' H' ⟨G', acc, rs, b6, b7, b8, b9, g, e, _⟩ => e.trans g.gh, ?_, ?_⟩
      · rfl
      · cases hws; exact g3.hh _ _ hp2
      · rintro i S u σ' H' hi hu ⟨G', acc, rs, b6, b7, b8, b9, g, e, rfl, hn, hp, hda, hlen, hall, hex⟩
        have hil := (List.getElem?_eq_some_iff.mp hi).1
        have hSm : S ∈ larges rows rooms := (srtT_perm _).mem_iff.mp (List.mem_of_getElem? hi)
        obtain ⟨hS1, hS2, hS3⟩ := Mx.larges_sub hg.gr hSm
        have hSne := Mx.larges_ne h0 S hSm
        have hSl := hS1.length_le
        have e3 := gb3.gg
        refine r_name ?_
        refine r_if (b := decide (∀ x ∈ rooms, at_ st x = lv → x ∈ S)) (et_of (et_and (et_B (ed_allP (rooms.filter fun x => decide (at_ st x = lv)) (fun x => decide (x ∈ S)) (EvD.of (ed_lcL (rooms.filter fun x => decide (at_ st x = lv)) dN (fun _ => true) (fun x => .bool (decide (x ∈ S))) (few (by have := List.length_filter_le (fun x => decide (at_ st x = lv)) rooms; omega)) (ed_var rfl (hmu3.mono e)) (fun _ => rfl) (fun a u G' _ _ _ => et_yes) fun x u' G4 hm4 _ eG hu' => ed_inTN (ed_var rfl hu') (ed_var rfl ((hu.mono e).mono eG))) (by rw [fill_true])))) fun _ => et_B (ed_allP S (fun x => decide (lv ≤ at_ st x)) (EvD.of (ed_lcT S dN (fun _ => true) (fun x => .bool (decide (lv ≤ at_ st x))) (few (by omega)) (ed_var rfl (hu.mono e)) (fun _ => rfl) (fun a u G' _ _ _ => et_yes) fun x u' G4 hm4 _ eG hu' => ed_ge (ed_at (by have := hx x (hS1.subset hm4); omega) (ed_var rfl ((h2.mono g.gg).mono eG)) (ed_var rfl hu')) (ed_var rfl ((h3.mono g.gg).mono eG))) (by rw [fill_true])))) ?_) g.gh (fun hb5 H5 e5 => ?_) fun hb5 H5 e5 => ?_
        · have a2 : (S.all fun x => decide (lv ≤ at_ st x)) = true := List.all_eq_true.mpr fun x hxS => decide_eq_true (hge x (hS1.subset hxS))
          rw [a2, Bool.and_true, Bool.eq_iff_iff, List.all_eq_true, decide_eq_true_iff]
          constructor
          · intro h x hx1 hx2
            exact of_decide_eq_true (h x (List.mem_filter.mpr ⟨hx1, decide_eq_true hx2⟩))
          · intro h x hx1
            obtain ⟨a, b⟩ := List.mem_filter.mp hx1
            exact decide_eq_true (h x a (of_decide_eq_true b))
        · have hgood : ∀ x ∈ rooms, at_ st x = lv → x ∈ S := of_decide_eq_true hb5
          have g5 := g.ext e5
          refine rq_asg (ed_tupleOf (ds := (left rooms S).map dN) (EvD.of (ed_lcT rooms dN (fun x => !decide (x ∈ S)) dN (few (by omega)) (ed_var rfl (h1.mono g.gg)) (fun _ => rfl) (fun x u' G4 hxm eG hu' => et_test (ed_ninTN (ed_var rfl hu') (ed_var rfl ((hu.mono e).mono eG)))) fun x u' G4 hxm _ eG hu' => ed_var rfl hu') rfl)) g5.gh fun lf G6 H6 d6 g6 hlf hd6 => ?_
          subst hd6
          have g56 := g5.trans g6
          have hn6 := g6.keepN hn (e5 _ _ hp)
          have hp6 := g6.hh _ _ (e5 _ _ hp)
          have hlo := Mx.left_len hS1 hSne
          have hrest : BIn.Ok kk ⟨rows, left rooms S, st, lv + 1, n⟩ := by
            refine ⟨hg, by show (left rooms S).length < kk; omega, by show (left rooms S).length ≤ 6; omega, List.Nodup.sublist List.filter_sublist hnd, fun x hxl => hx x (Mx.mem_left.mp hxl).1, fun x hxl => ?_, hsl, hpar⟩
            obtain ⟨c1, c2⟩ := Mx.mem_left.mp hxl
            have c3 := hge x c1
            have c4 : at_ st x ≠ lv := fun e => c2 (hgood x c1 e)
            show lv + 1 ≤ at_ st x
            omega
          refine r_forLX (D := { nx := _, rt := _, ct := _, bk := _ }) dD (er_callA (⟨rows, left rooms S, st, lv + 1, n⟩ : BIn) (es_cons (ed_var rfl (hv.mono g56.gg)) (es_cons (ed_var rfl hlf) (es_cons (ed_var rfl (h2.mono g56.gg)) (es_cons (ed_add (b := 1) (ed_var rfl (h3.mono g56.gg)) ed_i) es_nil)))) hrest) (fun d h => h) g6.gh fun rs2 ⟨hne2, hlen2, hall2⟩ G7 H7 g7 => ?_
          have hle2 : rs2.length ≤ bnd m := Nat.le_trans hlen2 (Mx.bnd_le (by show (left rooms S).length ≤ m; omega))
          have g57 := g56.trans g7
          have hmul : (i + 1) * bnd m ≤ 2 ^ (m + 1) * bnd m := Nat.mul_le_mul_right _ (by omega)
          have hbe : bnd (m + 1) = 2 ^ (m + 1) * bnd m := rfl
          have hsm : (i + 1) * bnd m = i * bnd m + bnd m := Nat.succ_mul _ _
          refine ⟨fun j σ' H' => ∃ G' acc rs' b9, Go G H G' H' ∧ Ex G7 G' ∧ σ' = [some v, some v1, some v2, some v3, some mu, some (.ref p), some u, b7, some lf, b9] ∧ G' p = none ∧ H' p = some (.lst acc) ∧ DaAll G' acc (rs'.map dD) ∧ rs'.length = rs.length + j ∧ (∀ r ∈ rs', RestOn rows rooms st lv r),
            ⟨G7, acc, rs, b9, g57, Ex.refl G7, rfl, g7.keepN hn6 hp6, g7.hh _ _ hp6, hda.mono (g6.gg.trans g7.gg), by simp, hall⟩, fun j σ' H' ⟨G', acc, rs', b9, g, e, _⟩ => e.trans g.gh, ?_, ?_⟩
          · rintro j mr w' σ' H' hj hw' ⟨G8, acc', rs', b9', g8, e8, rfl, hn8, hp8, hda8, hlen8, hall8⟩
            have hjl := (List.getElem?_eq_some_iff.mp hj).1
            have hmr := hall2 mr (List.mem_of_getElem? hj)
            have hro := Mx.restOn_step hg.gr hSm hnd hge hmr
            have hmrl := restOn_len hmr
            have hSu := (hu.mono e).mono ((g6.gg.trans g7.gg).trans e8)
            refine r_name ?_
            refine r_app (i := 5) rfl hp8 hn8 (by rw [line, hda8.length, List.length_map]; omega) (ed_star2 (r1 := S.map fun x => (x, lv)) (r2 := mr) hro.nd (by rw [List.length_map]; show S.length + mr.length ≤ 1000; have : mr.length ≤ (left rooms S).length := hmrl; omega) (ed_dcN S (hS1.nodup hnd) (by omega) (ed_var rfl hSu) (fun _ => rfl) (fun a u' G' _ eG hd => ed_var rfl hd) fun a u' G' _ eG hd => ?_) (ed_var rfl (hw'.mono e8))) g8.gh fun nv G9 H9 d9 g9 hn9 hp9 hnv hd9 => ?_
            · have := (h3.mono (g8.gg.trans eG)).int_inv
              subst this
              exact Evl.ev_var rfl
            · subst hd9
              refine ⟨G9, acc' ++ [nv], rs' ++ [(S.map fun x => (x, lv)) ++ mr], some w', (g8.trans g9).mut hpH hn9, e8.trans g9.gg, rfl, hn9, upd_same, ?_, ?_, ?_⟩
              · rw [List.map_append]
                exact (hda8.mono g9.gg).snoc hnv
              · rw [List.length_append, hlen8]; simp; omega
              · intro r hr
                rcases List.mem_append.mp hr with z | z
                · exact hall8 r z
                · have : r = (S.map fun x => (x, lv)) ++ mr := by simpa using z
                  rw [this]; exact hro
          · rintro σ' H' ⟨G8, acc', rs', b9', g8, e8, rfl, hn8, hp8, hda8, hlen8, hall8⟩
            refine ⟨G8, acc', rs', some u, b7, some lf, b9', g8, ((e.trans g6.gg).trans g7.gg).trans e8, rfl, hn8, hp8, hda8, by omega, hall8, fun j S' hj hS' hg' e0 => ?_⟩
            have : 0 < rs2.length := List.length_pos_iff.mpr hne2
            rw [e0] at hlen8
            simp at hlen8
            omega
        · refine ⟨G', acc, rs, some u, b7, b8, b9, g.ext e5, e, rfl, hn, e5 _ _ hp, hda, ?_, hall, fun j S' hj hS' hg' => ?_⟩
          · have : (i + 1) * bnd m = i * bnd m + bnd m := Nat.succ_mul _ _
            omega
          · rcases Nat.lt_succ_iff_lt_or_eq.mp hj with z | z
            · exact hex j S' z hS' hg'
            · subst z
              rw [hi] at hS'
              have := Option.some.inj hS'
              subst this
              exact absurd hg' (of_decide_eq_false hb5)
      · rintro σ' H' ⟨G', acc, rs, b6, b7, b8, b9, g, e, rfl, hn, hp, hda, hlen, hall, hex⟩
        obtain ⟨g', hd'⟩ := pub_own g hpH hn hp hda
        refine ⟨.ref p, rfl, q _ _ _ _ g' hd' ⟨rs, rfl, ?_, ?_, hall⟩⟩
        · obtain ⟨S, hS, hgood⟩ := Mx.must_has (rooms := rooms) (level := lv) hg.gr hpar
          obtain ⟨j, hj⟩ := List.mem_iff_getElem?.mp ((srtT_perm _).mem_iff.mpr hS)
          exact hex j S (List.getElem?_eq_some_iff.mp hj).1 hj hgood
        · show rs.length ≤ bnd rooms.length
          rw [hm]
          exact Nat.le_trans hlen (Nat.mul_le_mul_right _ hLs)
end
end MxP
end
section
set_option Elab.async false
set_option linter.all false
set_option maxRecDepth 100000
set_option maxHeartbeats 4000000
/-! Rests of a house; what shows a row. -/
namespace MxP
open PySem PySem.Spec PyProof.Rows L2 MxT MxL
open PySem.W (AllAlike alike alikeAll)
open Evl (Ex)
open Mx (at_ nb Rows free key done changed fit greedy larges isLargest grow growStep left RestOn bnd look toSt)
/-! ### plain -/
theorem srt_sorted (l : List Nat) : (srt l).Pairwise (· ≤ ·) := by
  have e : sortD (l.map dN) = (l.mergeSort fun a b => decide (((a : Nat) : Int) ≤ (b : Nat))).map dN := by
    unfold sortD
    refine (List.map_mergeSort (r := fun a b => decide (((a : Nat) : Int) ≤ (b : Nat))) (s := PySem.W.dataLe false id) (f := dN) (l := l) fun a _ b _ => ?_).symm
    exact (congrFun (congrFun (PySem.W.dataLe_int fun n : Nat => ((n : Nat) : Int)) a) b).symm
  unfold srt
  rw [e, un_map]
  refine List.Pairwise.imp (R := fun a b => decide (((a : Nat) : Int) ≤ (b : Nat)) = true) (fun h => ?_) (List.pairwise_mergeSort (fun a b c h1 h2 => ?_) (fun a b => ?_) l)
  · have := of_decide_eq_true h; omega
  · have := of_decide_eq_true h1
    have := of_decide_eq_true h2
    exact decide_eq_true (by omega)
  · rw [Bool.or_eq_true, decide_eq_true_iff, decide_eq_true_iff]; omega
theorem srt_eq {l c : List Nat} (hc : c.Pairwise (· < ·)) : srt l = c ↔ l.Perm c := by
  constructor
  · intro e; rw [← e]; exact (srt_perm l).symm
  · intro h
    exact ((srt_perm l).trans h).eq_of_pairwise (fun a b _ _ h1 h2 => Nat.le_antisymm h1 h2) (srt_sorted l) (hc.imp Nat.le_of_lt)
theorem parted_of {n : Nat} {dd : List (Nat × Nat)} {s : NSt} {rows : Rows} (ha : Adj n dd rows) : likes dd s = [] ↔ Mx.Parted rows s := by
  unfold likes
  rw [List.filter_eq_nil_iff]
  constructor
  · intro h x y hy e
    rcases (ha.mem x y).mp hy with q | q
    · exact h _ q (decide_eq_true e)
    · exact h _ q (decide_eq_true e.symm)
  · intro h p hp e
    exact h p.1 p.2 ((ha.mem _ _).mpr (.inl hp)) (of_decide_eq_true e)
section
variable {K : PySem.W.Frag} {σ : L2.St} {G H : Hp} {td ty te : TE}
theorem ed_dgetD {r : List (Nat × Nat)} {x : Nat} (hx : x ∈ r.map Prod.fst) (hd : EvD td σ G (dD r)) (hy : EvD ty σ G (dN x)) : EvD (tDGet td ty) σ G (dN (look r x)) := fun H eg Q k =>
  hd H eg _ fun v G1 H1 d1 g1 hv e1 => (ev_int (hy.mono g1.gg)) H1 g1.gh _ fun H2 e2 => by
    subst e1
    obtain ⟨a, rfl, ha⟩ := dD_at hv
    have hq := DGet.k (k := .inl ((x : Nat) : Int)) (e2 _ _ (g1.gh _ _ ha))
    rw [valV_kvV, if_pos hx] at hq
    exact ⟨a, .int (look r x : Nat), rfl, hq, k _ G1 H2 _ (g1.ext e2) (.int _) rfl⟩
theorem ed_sortNT {l : List Nat} (h : EvD te σ G (dT l)) : EvD (tCB (rSortTup K) (tCons te tNil)) σ G (dL (srt l)) :=
  EvD.of (ed_sortT (ds := l.map dN) (ndsN _) (allAlikeN l) (sortN l) (fun d hd => by
    obtain ⟨a, _, rfl⟩ := List.mem_map.mp hd
    simp [dN, PyData.depth]) h) (by unfold dL; rw [srt_map])
end
section
variable {P : Program} {w : World} {K : PySem.W.Frag} {mg : Str → Option Value} {base : Heap}
def HS.Out (a : HS) (r : PyData) : Prop := ∃ L : List NSt, r = .list (L.map dT) ∧ L ≠ [] ∧ L.length ≤ 2097152 ∧ ∀ R ∈ L, R.length = a.n ∧ Mx.Rest (nearRows a.n a.dd) R ∧ Mx.Le R a.s
def spUnder : Sp := spA HS.enc HS.Pt HS.Out
abbrev HUnder (P : Program) (w : World) (K : PySem.W.Frag) (mg : Str → Option Value) (base : Heap) := Has P w K mg base 11 "rests_under" ["house", "state"] spUnder
theorem scRestsUnder : FnScope ["house", "state", "found", "one", "room"] ["house", "state"] (defScope sRestsUnder) := ⟨rfl, rfl, rfl, by decide +kernel, rfl, by decide +kernel, by decide +kernel⟩
theorem bdRestsUnder : ∀ (kV doc pm : Value) (an : Option Addr) (cdv ct : Value) (us : List Value), us.length = (["house", "state"] : List Str).length → bindArgs (PySem.W.fnOf "rests_under" "rests_under" (defArgs sRestsUnder) (defBody sRestsUnder) (defScope sRestsUnder) .none kV doc pm an cdv ct) ⟨us, []⟩ = pure ((["house", "state"] : List Str).zip us) := fun _ _ _ _ _ _ us hl => match us, hl with | [_, _], _ => rfl
theorem ok_rests_under (T : Tx K mg) (FNear : HNear P w K mg base) (FBelowIn : HBelowIn P w K mg base 7) : HUnder P w K mg base := by
  refine has_okA T.fRestsUnder scRestsUnder (fun a => rfl) bdRestsUnder fun f cdv A outer s G H vs a Q E hr eg hvs hp q => ⟨_, (pss_cons (ps_set (i := 2) scRestsUnder.nd rfl (by first | exact Or.inl rfl | exact Or.inr rfl) (pe_callH FBelowIn (hr.mono (by decide)) (pa_cons (pe_callH FNear (hr.mono (by decide)) (pa_cons (pv 0) pa_nil)) (pa_cons (pe_tupRg rfl (by rfl) T.tuple (prg_1 (by rfl) T.range (pe_ix ix_tup (pv 0) pe_int (fun _ _ => rfl)))) (pa_cons (pv 1) (pa_cons pe_int pa_nil))))))
      (pss_one (ps_ret (pe_callB (cr_sortD hr.units) (by rfl) T.sorted bb_sorted (pa_cons (pe_lc (own := [("one", 3)]) rfl scRestsUnder.nd (pi_list (pv 2)) (blkOk_by (by kernel_rfl)) (fun _ _ _ _ _ => (pg_name (i := 3) scRestsUnder.nd rfl (by first | exact Or.inl rfl | exact Or.inr rfl))) (fun _ _ _ _ _ => pts_nil) (fun _ _ _ _ _ => (pe_callTy (call_tuple_ofK (K := K)) (by rfl) T.tuple bb_tuple (pa_cons (pe_lc (own := [("room", 4)]) rfl scRestsUnder.nd (pi_range1 (by rfl) T.range (pa_cons (pe_ix (ix_tupK (K := K)) (pv 0) pe_int (fun _ _ => rfl)) pa_nil)) (blkOk_by (by kernel_rfl)) (fun _ _ _ _ _ => (pg_name (i := 4) scRestsUnder.nd rfl (by first | exact Or.inl rfl | exact Or.inr rfl))) (fun _ _ _ _ _ => pts_nil) (fun _ _ _ _ _ => (pe_dget (hu_of hr) (pv 3) (pv 4) (fun _ _ => rfl)))) pa_nil)))) pa_nil))))), ?_⟩
  obtain ⟨n, dd, st⟩ := a
  obtain ⟨ho, hs, hpt⟩ := hp
  simp only at ho hs hpt
  obtain ⟨v, v1, rfl, hv, h1⟩ := args2 hvs
  have hm := ho.most
  have hn1 := ho.pos
  have hadj := adj_near ho
  have hg := hadj.grb ho
  refine rq_asg (er_callA (⟨nearRows n dd, List.range n, st, 0, n⟩ : BIn) (es_cons (ed_near ho (ed_var rfl hv)) (es_cons (EvD.of (ed_tupRg (n := n) (few (by omega)) (ed_h0 (ed_var rfl hv))) rfl) (es_cons (ed_var rfl h1) (es_cons (ed_n 0) es_nil)))) ⟨hg, by show (List.range n).length < 7; rw [List.length_range]; omega, by show (List.range n).length ≤ 6; rw [List.length_range]; omega, List.nodup_range, fun x hx => List.mem_range.mp hx, fun x _ => Nat.zero_le _, hs.len, (parted_of hadj).mp hpt⟩) eg fun fv G1 H1 d1 g1 hfv hd1 => ?_
  obtain ⟨rs, rfl, hne, hlen, hall⟩ := hd1
  have hlen : rs.length ≤ 2097152 := by
    refine Nat.le_trans hlen ?_
    show bnd (List.range n).length ≤ 2097152
    rw [List.length_range]
    have := Mx.bnd_le hm
    have hb6 : bnd 6 = 2097152 := by decide
    omega
  have hall' : ∀ q ∈ rs, RestOn (nearRows n dd) (List.range n) st 0 q := hall
  refine r_ret (ed_sortTs (l := rs.map (toSt n)) ?_ (EvD.of (ed_lcL rs dD (fun _ => true) (fun r => dT (toSt n r)) (by rw [line]; omega) (ed_var rfl hfv) (fun _ => rfl) (fun a u G' _ _ _ => et_yes) fun r u G2 hr2 _ eG hu => ?_) (by rw [fill_true, List.map_map]; rfl))) g1.gh fun v' G' H' d g' hd hr' => q v' G' H' d (g1.trans g') hd ⟨srtT (rs.map (toSt n)), hr', ?_, ?_, ?_⟩
  · intro x hx e
    obtain ⟨r, _, rfl⟩ := List.mem_map.mp hx
    have : (toSt n r).length = n := by unfold toSt; simp
    rw [e] at this
    simp at this; omega
  · refine ed_tupleOf (ds := (toSt n r).map dN) (EvD.of (ed_lcR n (fun _ => true) (fun x => dN (look r x)) (few (by omega)) (es_cons (ed_h0 (ed_var rfl ((hv.mono g1.gg).mono eG))) es_nil) (fun _ => rfl) (fun a G' _ _ => et_yes) fun x G3 hx _ eG3 => ?_) ?_)
    · exact ed_dgetD (((hall' r hr2).ks x).mpr (List.mem_range.mpr hx)) (ed_var rfl (hu.mono eG3)) (ed_var (i := 4) rfl (.int _))
    · rw [fill_true]; unfold toSt; rw [List.map_map]; rfl
  · intro e
    have := (srtT_perm (rs.map (toSt n))).length_eq
    rw [e] at this
    rw [List.length_map] at this
    exact hne (List.length_eq_zero_iff.mp this.symm)
  · rw [(srtT_perm _).length_eq, List.length_map]; exact hlen
  · intro R hR
    obtain ⟨r, hr2, rfl⟩ := List.mem_map.mp ((srtT_perm _).mem_iff.mp hR)
    exact Mx.restOn_rest hg.gr (hall' r hr2)
abbrev HRestsBelow (P : Program) (w : World) (K : PySem.W.Frag) (mg : Str → Option Value) (base : Heap) := Has P w K mg base 12 "rests_below" ["house", "state"] spUnder
theorem scRestsBelow : FnScope ["house", "state"] ["house", "state"] (defScope sRestsBelow) := ⟨rfl, rfl, rfl, by decide +kernel, rfl, by decide +kernel, by decide +kernel⟩
theorem bdRestsBelow : ∀ (kV doc pm : Value) (an : Option Addr) (cdv ct : Value) (us : List Value), us.length = (["house", "state"] : List Str).length → bindArgs (PySem.W.fnOf "rests_below" "rests_below" (defArgs sRestsBelow) (defBody sRestsBelow) (defScope sRestsBelow) .none kV doc pm an cdv ct) ⟨us, []⟩ = pure ((["house", "state"] : List Str).zip us) := fun _ _ _ _ _ _ us hl => match us, hl with | [_, _], _ => rfl
theorem ok_rests_below (T : Tx K mg) (FNeedParted : HNeedParted P w K mg base) (FRestsUnder : HUnder P w K mg base) : HRestsBelow P w K mg base := by
  refine has_okA T.fRestsBelow scRestsBelow (fun a => rfl) bdRestsBelow fun f cdv A outer s G H vs a Q E hr eg hvs hp q => ⟨_, (pss_cons (ps_expr (pe_callH FNeedParted (hr.mono (by decide)) (pa_cons (pv 0) (pa_cons (pv 1) pa_nil))))
      (pss_one (ps_ret (pe_callH FRestsUnder (hr.mono (by decide)) (pa_cons (pv 0) (pa_cons (pv 1) pa_nil)))))), ?_⟩
  obtain ⟨n, dd, st⟩ := a
  obtain ⟨v, v1, rfl, hv, h1⟩ := args2 hvs
  refine rq_drop (er_callA (⟨n, dd, st⟩ : HS) (es_cons (ed_var rfl hv) (es_cons (ed_var rfl h1) es_nil)) hp) eg fun G1 H1 g1 => ?_
  exact r_ret (er_callA (⟨n, dd, st⟩ : HS) (es_cons (ed_var rfl (hv.mono g1.gg)) (es_cons (ed_var rfl (h1.mono g1.gg)) es_nil)) hp) g1.gh fun v' G' H' d g' hd hr' => q v' G' H' d (g1.trans g') hd hr'
/-- a value that may show a row: a row of rooms, or no row -/
inductive Val (n : Nat) : PyData → Option (List Nat) → Prop
  | row (ks : List Nat) : (∀ x ∈ ks, x < n) → ks.length ≤ 8 → Val n (dT ks) (some ks)
  | non (d : PyData) : isT d = false → Val n d none
  | odd (ds : List PyData) : ds.length ≤ 8 → (ds.all fun d => isI d && !isB d) = false → Val n (.tuple ds) none
structure Sho where
  n : Nat
  dd : List (Nat × Nat)
  s : NSt
  r : NSt
  v : PyData
  o : Option (List Nat)
structure Sho.Ok (a : Sho) : Prop where
  h : HSR.Ok ⟨a.n, a.dd, a.s, a.r⟩
  v : Val a.n a.v a.o
def Sho.enc (a : Sho) : List PyData := [dHouse a.n a.dd, dT a.s, dT a.r, a.v]
noncomputable def Sho.ans (a : Sho) : Bool := match a.o with
  | none => false
  | some ks => decide (srt ks = changed a.r a.s) && decide (done (nearRows a.n a.dd) a.s ks = a.r)
def spShows : Sp := spA Sho.enc Sho.Ok fun a r => r = .bool a.ans
abbrev HShows (P : Program) (w : World) (K : PySem.W.Frag) (mg : Str → Option Value) (base : Heap) := Has P w K mg base 8 "shows_row" ["house", "state", "rest", "value"] spShows
theorem scShowsRow : FnScope ["house", "state", "rest", "value", "changed", "room", "x"] ["house", "state", "rest", "value"] (defScope sShowsRow) := ⟨rfl, rfl, rfl, by decide +kernel, rfl, by decide +kernel, by decide +kernel⟩
theorem bdShowsRow : ∀ (kV doc pm : Value) (an : Option Addr) (cdv ct : Value) (us : List Value), us.length = (["house", "state", "rest", "value"] : List Str).length → bindArgs (PySem.W.fnOf "shows_row" "shows_row" (defArgs sShowsRow) (defBody sShowsRow) (defScope sShowsRow) .none kV doc pm an cdv ct) ⟨us, []⟩ = pure ((["house", "state", "rest", "value"] : List Str).zip us) := fun _ _ _ _ _ _ us hl => match us, hl with | [_, _, _, _], _ => rfl
theorem ok_shows_row (T : Tx K mg) (FNeedBoth : HNeedBoth P w K mg base) (FKeyIn : HKey P w K mg base) (FNear : HNear P w K mg base) : HShows P w K mg base := by
  refine has_okA T.fShowsRow scShowsRow (fun a => rfl) bdShowsRow fun f cdv A outer s G H vs a Q E hr eg hvs hp q => ⟨_, (pss_cons (ps_expr (pe_callH FNeedBoth (hr.mono (by decide)) (pa_cons (pv 0) (pa_cons (pv 1) (pa_cons (pv 2) pa_nil)))))
      (pss_cons (ps_setLc (i := 4) (own := [("room", 5)]) rfl scShowsRow.nd rfl rfl (sw_true rfl rfl rfl (by decide +kernel)) (pi_range1 (by rfl) T.range (pa_cons (pe_ix ix_tup (pv 0) pe_int (fun _ _ => rfl)) pa_nil)) (blkOk_by (by kernel_rfl)) (fun _ _ _ _ _ => (pg_name (i := 5) scShowsRow.nd rfl (by first | exact Or.inl rfl | exact Or.inr rfl))) (fun _ _ _ _ _ => (pts_one (pt_cmpR op_lt (pe_ix (ix_tupK (K := K)) (pv 2) (pv 5) (fun _ _ => rfl)) (pe_ix (ix_tupK (K := K)) (pv 1) (pv 5) (fun _ _ => rfl)) (nomark _)))) (fun _ _ _ _ _ => (pv 5)))
      (pss_cons (ps_if (PW.pt (pw_or (pt_not (pt_val (pe_callB call_isi (by rfl) T.isinstance bb_isinstance (pa_cons (pv 3) (pa_cons (pe_bltn (v := .ty "tuple") (by rfl) T.tuple bb_tuple rfl) pa_nil))))) (pw_or1 (pt_not (pt_val (pe_callB (cr_all rfl) (by rfl) T.all bb_all (pa_cons (pe_lc (own := [("x", 6)]) rfl scShowsRow.nd (pi_tup (pv 3)) (blkOk_by (by kernel_rfl)) (fun _ _ _ _ _ => (pg_name (i := 6) scShowsRow.nd rfl (by first | exact Or.inl rfl | exact Or.inr rfl))) (fun _ _ _ _ _ => pts_nil) (fun _ _ _ _ _ => (pe_and (pe_callB (call_isiK' (K := K)) (by rfl) T.isinstance bb_isinstance (pa_cons (pv 6) (pa_cons (pe_bltn (v := .ty "int") (by rfl) T.int bb_int rfl) pa_nil))) (pe_one (pe_not (pe_callB (call_isiK' (K := K)) (by rfl) T.isinstance bb_isinstance (pa_cons (pv 6) (pa_cons (pe_bltn (v := .ty "bool") (by rfl) T.bool bb_bool rfl) pa_nil)))))))) pa_nil))))))) (pss_one (ps_ret pe_bl)) pss_nil)
      (pss_cons (ps_if (pt_cmpR (op_neD hr.units) (pe_callB (cr_sortTup hr.units) (by rfl) T.sorted bb_sorted (pa_cons (pv 3) pa_nil)) (pv 4) (nomark _)) (pss_one (ps_ret pe_bl)) pss_nil)
      (pss_cons (ps_for PassesOwn.never rfl (pi_tup (pv 3)) (pg_name (i := 5) scShowsRow.nd rfl (by first | exact Or.inl rfl | exact Or.inr rfl)) (pss_one (ps_set (i := 1) scShowsRow.nd rfl (by first | exact Or.inl rfl | exact Or.inr rfl) (pe_callH FKeyIn (hr.mono (by decide)) (pa_cons (pe_callH FNear (hr.mono (by decide)) (pa_cons (pv 0) pa_nil)) (pa_cons (pv 1) (pa_cons (pv 5) pa_nil)))))))
      (pss_one (ps_ret (pe_cmpR (op_eqD hr.units) (pv 1) (pv 2) (nomark _))))))))), ?_⟩
  obtain ⟨n, dd, st, r, val, o⟩ := a
  obtain ⟨hh, hval⟩ := hp
  simp only at hh hval
  have hh' := hh
  obtain ⟨ho, hs, hl, ht, hrr, hle⟩ := hh
  simp only at ho hs hl ht hrr hle
  obtain ⟨v, v1, v2, v3, rfl, hv, h1, h2, h3⟩ := args4 hvs
  have hm := ho.most
  have hsl := hs.len
  have htl := ht.len
  have hg := (adj_near ho).grb ho
  refine rq_drop (er_callA (⟨n, dd, st, r⟩ : HSR) (es_cons (ed_var rfl hv) (es_cons (ed_var rfl h1) (es_cons (ed_var rfl h2) es_nil))) hh') eg fun G1 H1 g1 => ?_
  refine rq_asg (EvD.of (e := dL (changed r st)) (ed_lcR n (fun x => decide (at_ r x < at_ st x)) dN (few (by omega)) (es_cons (ed_h0 (ed_var rfl (hv.mono g1.gg))) es_nil) (fun _ => rfl) (fun x G' hx eG => et_test (ed_lt (ed_at (by omega) (ed_var rfl ((h2.mono g1.gg).mono eG)) (ed_var (i := 5) rfl (.int _))) (ed_at (by omega) (ed_var rfl ((h1.mono g1.gg).mono eG)) (ed_var (i := 5) rfl (.int _))))) fun x G' hx _ eG => ed_var rfl (.int _)) (by unfold changed; rw [hsl]; rfl)) g1.gh fun ch G2 H2 d2 g2 hch hd2 => ?_
  subst hd2
  have g := g1.trans g2
  have h3' := h3.mono g.gg
  have no : ∀ {G4 H4}, Go G H G4 H4 → o = none → Q (.bl false) H4 := fun g4 ho => q _ _ _ _ g4 (.bl false) (by subst ho; rfl)
  have isT_all : ∀ ds, val = .tuple ds → ds.length ≤ 8 → EvD (tCB (rAll K) (tCons (tLc (iTup K (tVar 3)) (gName 6) tYes (tAndV (tCB (rIsi K) (tCons (tVar 6) (tCons (tC (.ty "int")) tNil))) (tNotV (tCB (rIsi K) (tCons (tVar 6) (tCons (tC (.ty "bool")) tNil))))) [6]) tNil)) [some v, some v1, some v2, some v3, some ch, none, none] G2 (.bool (ds.all fun d => isI d && !isB d)) := fun ds e hl8 => by
    subst e
    refine ed_allP ds _ (EvD.of (ed_lcT ds id (fun _ => true) (fun d => .bool (isI d && !isB d)) (few (by omega)) (EvD.of (ed_var rfl h3') (by rw [List.map_id])) (fun _ => rfl) (fun a u G' _ _ _ => et_yes) fun d u G' hd _ eG hu => ?_) (by rw [fill_true]))
    exact ed_andV (ed_isi (kI d) (ed_var rfl hu)) fun _ => ed_notV (ed_isi (kB d) (ed_var rfl hu))
  cases hval with
  | non _ hT =>
    refine rq_if (b := true) (et_or (a := true) (b := true) (et_of (et_not (et_B (ed_isi (kT _) (ed_var rfl h3')))) (by rw [hT]; rfl)) (fun h => by cases h)) g.gh (fun _ H3 e3 => ?_) fun h => by cases h
    exact no (g.ext e3) rfl
  | odd ds hl8 hodd =>
    refine rq_if (b := true) (et_of (et_or (a := false) (b := true) (et_of (et_not (et_B (ed_isi (kT _) (ed_var rfl h3')))) rfl) (fun _ => et_of (et_not (et_B (isT_all ds rfl hl8))) (by rw [hodd]; rfl))) rfl) g.gh (fun _ H3 e3 => ?_) fun h => by cases h
    exact no (g.ext e3) rfl
  | row ks hks hl8 =>
    refine rq_skip (et_of (et_or (a := false) (b := false) (et_of (et_not (et_B (ed_isi (kT _) (ed_var rfl h3')))) rfl) (fun _ => et_of (et_not (et_B (isT_all (ks.map dN) rfl (by rw [List.length_map]; exact hl8)))) ?_)) rfl) g.gh fun H3 e3 => ?_
    · rw [List.all_map]
      have : (ks.all ((fun d => isI d && !isB d) ∘ dN)) = true := List.all_eq_true.mpr fun x _ => rfl
      rw [this]; rfl
    have g3 := g.ext e3
    refine rq_if (et_test (ed_neL (ed_sortNT (ed_var rfl h3')) (ed_var rfl hch))) g3.gh (fun hb H4 e4 => ?_) fun hb H4 e4 => ?_
    · have hne : srt ks ≠ changed r st := by simpa using hb
      refine q _ _ _ _ (g3.ext e4) (.bl false) ?_
      show PyData.bool false = .bool (decide (srt ks = changed r st) && _)
      rw [decide_eq_false hne]; rfl
    · have heq : srt ks = changed r st := by simpa using hb
      have g4 := g3.ext e4
      refine r_forT (L := ks) (enc := dN) (ed_var rfl (h3'.mono (Ex.refl _))) g4.gh fun G5 H5 g5 => ?_
      refine ⟨fun i σ' H' => ∃ G' u b, Go G H G' H' ∧ Ex G5 G' ∧ σ' = [some v, some u, some v2, some v3, some ch, b, none] ∧ Da G' u (dT (done (nearRows n dd) st (ks.take i))), ⟨G5, v1, none, g4.trans g5, Ex.refl G5, rfl, (h1.mono g.gg).mono g5.gg⟩, fun i σ' H' ⟨G', u, b, g, e, _⟩ => e.trans g.gh, ?_, ?_⟩
      · rintro i x u' σ' H' hi hx ⟨G', u, b, g', e, rfl, hu⟩
        refine r_name ?_
        refine r_asg (ed_key hg (by rw [done_lenN]; exact hsl) (hks x (List.mem_of_getElem? hi)) (ed_near ho (ed_var rfl (hv.mono g'.gg))) (ed_var rfl hu) (ed_var rfl (hx.mono e))) g'.gh fun w' G6 H6 d6 g6 hw hd6 => ?_
        subst hd6
        refine ⟨G6, w', some u', g'.trans g6, e.trans g6.gg, rfl, ?_⟩
        rw [take_more hi, Mx.done_append]; exact hw
      · rintro σ' H' ⟨G', u, b, g', e, rfl, hu⟩
        rw [List.take_length] at hu
        refine r_ret (ed_eqT (ed_var rfl hu) (ed_var rfl (h2.mono g'.gg))) g'.gh fun v' G6 H6 d6 g6 hd hr' => q v' G6 H6 d6 (g'.trans g6) hd (hr'.trans ?_)
        show _ = PyData.bool (decide (srt ks = changed r st) && decide (done (nearRows n dd) st ks = r))
        rw [decide_eq_true heq, Bool.true_and]
end
end MxP
end
section
set_option Elab.async false
set_option linter.all false
set_option maxRecDepth 100000
set_option maxHeartbeats 4000000
/-! The law's own keys; what is alike. -/
namespace MxP
open PySem PySem.Spec PyProof.Rows L2 MxT MxL
open Evl (Ex)
open Mx (at_ nb Rows free key done changed)
section
variable {P : Program} {w : World} {K : PySem.W.Frag} {mg : Str → Option Value} {base : Heap}
abbrev HLawFree (P : Program) (w : World) (K : PySem.W.Frag) (mg : Str → Option Value) (base : Heap) := Has P w K mg base 1 "_law_free" ["_law_rows", "_law_state", "_law_room"] spFree
theorem scLawFree : FnScope ["_law_rows", "_law_state", "_law_room", "_law_shown", "_law_number", "_law_other"] ["_law_rows", "_law_state", "_law_room"] (defScope sLawFree) := ⟨rfl, rfl, rfl, by decide +kernel, rfl, by decide +kernel, by decide +kernel⟩
theorem bdLawFree : ∀ (kV doc pm : Value) (an : Option Addr) (cdv ct : Value) (us : List Value), us.length = (["_law_rows", "_law_state", "_law_room"] : List Str).length → bindArgs (PySem.W.fnOf "_law_free" "_law_free" (defArgs sLawFree) (defBody sLawFree) (defScope sLawFree) .none kV doc pm an cdv ct) ⟨us, []⟩ = pure ((["_law_rows", "_law_state", "_law_room"] : List Str).zip us) := fun _ _ _ _ _ _ us hl => match us, hl with | [_, _, _], _ => rfl
theorem ok_law_free (T : Tx K mg) : HLawFree P w K mg base := by
  refine has_okA T.fLawFree scLawFree (fun a => rfl) bdLawFree fun f cdv A outer s G H vs a Q E hr eg hvs hp q => ⟨_, (pss_cons (ps_setLc (i := 3) (own := [("_law_other", 5)]) rfl scLawFree.nd rfl rfl (sw_true rfl rfl rfl (by decide +kernel)) (pi_list (pe_ix ix_list (pv 0) (pv 2) (fun _ _ => rfl))) (blkOk_by (by kernel_rfl)) (fun _ _ _ _ _ => (pg_name (i := 5) scLawFree.nd rfl (by first | exact Or.inl rfl | exact Or.inr rfl))) (fun _ _ _ _ _ => pts_nil) (fun _ _ _ _ _ => (pe_ix (ix_tupK (K := K)) (pv 1) (pv 5) (fun _ _ => rfl))))
      (pss_cons (ps_for PassesOwn.never rfl (pi_range1 (by rfl) T.range (pa_cons (pe_op op_add (pe_callB call_len_seq (by rfl) T.len bb_len (pa_cons (pv 3) pa_nil)) pe_int) pa_nil)) (pg_name (i := 4) scLawFree.nd rfl (by first | exact Or.inl rfl | exact Or.inr rfl)) (pss_one (ps_if (pt_cmpR op_notIn_seq (pv 4) (pv 3) (by rfl)) (pss_one (ps_ret (pv 4))) pss_nil)))
      (pss_one (ps_ret (pe_callB call_len_seq (by rfl) T.len bb_len (pa_cons (pv 3) pa_nil)))))), ?_⟩
  obtain ⟨rows, st, x, n⟩ := a
  obtain ⟨hg, hl, hx⟩ := hp
  simp only at hg hl hx
  obtain ⟨v, v1, v2, rfl, hv, h1, h2⟩ := args3 hvs
  have hxr : x < rows.length := by rw [hg.gr.len]; exact hx
  have hfew := hg.few x
  refine rq_asg (EvD.of (e := dL ((nb rows x).map (at_ st))) (ed_lcL (nb rows x) dN (fun _ => true) (fun o => dN (at_ st o)) (few (by omega)) (ed_row hxr (ed_var rfl hv) (ed_var rfl h2)) (fun _ => rfl) (fun a u G' _ _ _ => et_yes) fun o u G' ho _ eG hu => ed_at (by have := hg.gr.lt x o ho; omega) (ed_var rfl (h1.mono eG)) (ed_var rfl hu)) (by rw [fill_true]; unfold dL; rw [List.map_map]; rfl)) eg fun sh G1 H1 d1 g1 hsh hd1 => ?_
  subst hd1
  have hL : (((nb rows x).map (at_ st)).map dN).length = (nb rows x).length := by rw [List.length_map, List.length_map]
  refine r_forR ((((nb rows x).map (at_ st)).map dN).length + 1) (by rw [line]; omega) (es_cons (EvD.of (ed_II (g := fun i j => i + j) (ed_lenL (ds := ((nb rows x).map (at_ st)).map dN) (ed_var rfl hsh)) ed_i) rfl) es_nil) g1.gh fun G2 H2 g2 => ?_
  refine ⟨fun i σ' H' => ∃ G' b, Go G H G' H' ∧ Ex G2 G' ∧ σ' = [some v, some v1, some v2, some sh, b, none] ∧ ∀ j, j < i → j ∈ (nb rows x).map (at_ st), ⟨G2, none, g1.trans g2, Ex.refl G2, rfl, fun j hj => absurd hj (Nat.not_lt_zero _)⟩, ?_, ?_⟩
  · rintro i σ' H' hi ⟨G', b, g, e, rfl, hall⟩
    refine r_name ?_
    refine r_if (et_test (ed_ninLN (ed_var (i := 4) rfl (.int (i : Nat))) (ed_var rfl ((hsh.mono g2.gg).mono e)))) g.gh (fun hb H3 e3 => ?_) fun hb H3 e3 => ?_
    · have hm : i ∉ (nb rows x).map (at_ st) := by simpa using hb
      have hfree : free rows st x = i := Mx.mex_eq ⟨hm, hall⟩
      exact ⟨.int (i : Nat), rfl, q _ G' H3 _ (g.ext e3) (.int _) (by rw [hfree]; rfl)⟩
    · have hm : i ∈ (nb rows x).map (at_ st) := by simpa using hb
      refine ⟨G', some (.int (i : Nat)), g.ext e3, e, rfl, fun j hj => ?_⟩
      rcases Nat.lt_succ_iff_lt_or_eq.mp hj with z | z
      · exact hall j z
      · rw [z]; exact hm
  · rintro σ' H' ⟨G', b, g, e, rfl, hall⟩
    exfalso
    have hlen := Mx.nodup_len (l := List.range ((nb rows x).length + 1)) (m := (nb rows x).map (at_ st)) List.nodup_range (fun y hy => hall y (by have := List.mem_range.mp hy; omega))
    rw [List.length_range, List.length_map] at hlen
    omega
abbrev HLawKey (P : Program) (w : World) (K : PySem.W.Frag) (mg : Str → Option Value) (base : Heap) := Has P w K mg base 2 "_law_key" ["_law_rows", "_law_state", "_law_room"] spKey
theorem scLawKey : FnScope ["_law_rows", "_law_state", "_law_room"] ["_law_rows", "_law_state", "_law_room"] (defScope sLawKey) := ⟨rfl, rfl, rfl, by decide +kernel, rfl, by decide +kernel, by decide +kernel⟩
theorem bdLawKey : ∀ (kV doc pm : Value) (an : Option Addr) (cdv ct : Value) (us : List Value), us.length = (["_law_rows", "_law_state", "_law_room"] : List Str).length → bindArgs (PySem.W.fnOf "_law_key" "_law_key" (defArgs sLawKey) (defBody sLawKey) (defScope sLawKey) .none kV doc pm an cdv ct) ⟨us, []⟩ = pure ((["_law_rows", "_law_state", "_law_room"] : List Str).zip us) := fun _ _ _ _ _ _ us hl => match us, hl with | [_, _, _], _ => rfl
theorem ok_law_key (T : Tx K mg) (FLawFree : HLawFree P w K mg base) : HLawKey P w K mg base := by
  refine has_okA T.fLawKey scLawKey (fun a => rfl) bdLawKey fun f cdv A outer s G H vs a Q E hr eg hvs hp q => ⟨_, (pss_one (ps_ret (pe_op op_catA (pe_op op_catA (pe_slice sl_tupA (pv 1) po_none (po_some (pv 2))) (pe_tup (pa_cons (pe_callH FLawFree (hr.mono (by decide)) (pa_cons (pv 0) (pa_cons (pv 1) (pa_cons (pv 2) pa_nil)))) pa_nil))) (pe_slice sl_tupA (pv 1) (po_some (pe_op op_add (pv 2) pe_int)) po_none)))), ?_⟩
  obtain ⟨rows, st, x, n⟩ := a
  obtain ⟨hg, hl, hx⟩ := hp
  simp only at hg hl hx
  obtain ⟨v, v1, v2, rfl, hv, h1, h2⟩ := args3 hvs
  have hm := hg.most
  refine r_ret (ed_catT (ds := (st.map dN).take x ++ [dN (free rows st x)]) (es := (st.map dN).drop (x + 1)) (by rw [line]; simp; omega) (ed_catT (ds := (st.map dN).take x) (es := [dN (free rows st x)]) (by rw [line]; simp; omega) (ed_slTo (ed_var rfl h1) (ed_var rfl h2)) (ed_tup (es_cons (ed_free hg hl hx (ed_var rfl hv) (ed_var rfl h1) (ed_var rfl h2)) es_nil) (few (by simp)))) (ed_slFrom (ed_var rfl h1) (ed_add (b := 1) (ed_var rfl h2) ed_i))) eg fun v' G' H' d g hd hr' => q v' G' H' d g hd (hr'.trans ?_)
  show PyData.tuple _ = dT (key rows st x)
  unfold dT
  rw [key_take (by omega), List.append_assoc, List.map_append, List.map_cons, List.map_take, List.map_drop]
  rfl
def spLawDone : Sp := spA RSK.enc RSK.Ok fun a r => r = dT (done a.rows a.s a.ks)
abbrev HLawDone (P : Program) (w : World) (K : PySem.W.Frag) (mg : Str → Option Value) (base : Heap) := Has P w K mg base 3 "_law_done" ["_law_rows", "_law_state", "_law_keys"] spLawDone
theorem scLawDone : FnScope ["_law_rows", "_law_state", "_law_keys", "_law_room"] ["_law_rows", "_law_state", "_law_keys"] (defScope sLawDone) := ⟨rfl, rfl, rfl, by decide +kernel, rfl, by decide +kernel, by decide +kernel⟩
theorem bdLawDone : ∀ (kV doc pm : Value) (an : Option Addr) (cdv ct : Value) (us : List Value), us.length = (["_law_rows", "_law_state", "_law_keys"] : List Str).length → bindArgs (PySem.W.fnOf "_law_done" "_law_done" (defArgs sLawDone) (defBody sLawDone) (defScope sLawDone) .none kV doc pm an cdv ct) ⟨us, []⟩ = pure ((["_law_rows", "_law_state", "_law_keys"] : List Str).zip us) := fun _ _ _ _ _ _ us hl => match us, hl with | [_, _, _], _ => rfl
theorem ok_law_done (T : Tx K mg) (FLawKey : HLawKey P w K mg base) : HLawDone P w K mg base := by
  refine has_okA T.fLawDone scLawDone (fun a => rfl) bdLawDone fun f cdv A outer s G H vs a Q E hr eg hvs hp q => ⟨_, (pss_cons (ps_for PassesOwn.never rfl (pi_tup (pv 2)) (pg_name (i := 3) scLawDone.nd rfl (by first | exact Or.inl rfl | exact Or.inr rfl)) (pss_one (ps_set (i := 1) scLawDone.nd rfl (by first | exact Or.inl rfl | exact Or.inr rfl) (pe_callH FLawKey (hr.mono (by decide)) (pa_cons (pv 0) (pa_cons (pv 1) (pa_cons (pv 3) pa_nil)))))))
      (pss_one (ps_ret (pv 1)))), ?_⟩
  obtain ⟨rows, st, ks, n⟩ := a
  obtain ⟨hg, hl, hk, hf⟩ := hp
  simp only at hg hl hk hf
  obtain ⟨v, v1, v2, rfl, hv, h1, h2⟩ := args3 hvs
  refine r_forT (L := ks) (enc := dN) (ed_var rfl h2) eg fun G2 H2 g2 => ?_
  refine ⟨fun i σ' H' => ∃ G' u b, Go G H G' H' ∧ Ex G2 G' ∧ σ' = [some v, some u, some v2, b] ∧ Da G' u (dT (done rows st (ks.take i))), ⟨G2, v1, none, g2, Ex.refl G2, rfl, h1.mono g2.gg⟩, fun i σ' H' ⟨G', u, b, g, e, _⟩ => e.trans g.gh, ?_, ?_⟩
  · rintro i x u' σ' H' hi hx ⟨G', u, b, g', e, rfl, hu⟩
    refine r_name ?_
    refine r_asg (ed_key hg (by rw [done_lenN]; exact hl) (hk x (List.mem_of_getElem? hi)) (ed_var rfl (hv.mono g'.gg)) (ed_var rfl hu) (ed_var rfl (hx.mono e))) g'.gh fun w' G6 H6 d6 g6 hw hd6 => ?_
    subst hd6
    refine ⟨G6, w', some u', g'.trans g6, e.trans g6.gg, rfl, ?_⟩
    rw [take_more hi, Mx.done_append]; exact hw
  · rintro σ' H' ⟨G', u, b, g', e, rfl, hu⟩
    rw [List.take_length] at hu
    exact r_ret (ed_var rfl hu) g'.gh fun v' G6 H6 d6 g6 hd hr' => q v' G6 H6 d6 (g'.trans g6) hd hr'
/-! ### alike -/
inductive AlOk : Nat → PyData → PyData → Bool → Prop
  | int (k : Nat) (i j : Int) : AlOk (k + 1) (.int i) (.int j) (decide (i = j))
  | bool (k : Nat) (a b : Bool) : AlOk (k + 1) (.bool a) (.bool b) (a == b)
  | tup (k : Nat) (a b : List Nat) : a.length ≤ 1000 → b.length ≤ 1000 → AlOk (k + 2) (dT a) (dT b) (decide (a = b))
structure Alk where
  f : PyData
  d : PyData
  o : Bool
def spAlike (k : Nat) : Sp := spA (fun a : Alk => [a.f, a.d]) (fun a => AlOk k a.f a.d a.o) fun a r => r = .bool a.o
abbrev HAlike (P : Program) (w : World) (K : PySem.W.Frag) (mg : Str → Option Value) (base : Heap) (k : Nat) := Has P w K mg base (1 + k) "_law_alike" ["_law_found", "_law_due"] (spAlike k)
theorem ed_alike {k : Nat} {σ : L2.St} {G : Hp} {ta tb : TE} {f d : PyData} {o : Bool} (ho : AlOk k f d o) (ha : EvD ta σ G f) (hb : EvD tb σ G d) : EvD (tCall (spAlike k) [] E0 (tCons ta (tCons tb tNil))) σ G (.bool o) :=
  ed_callA (⟨f, d, o⟩ : Alk) (es_cons ha (es_cons hb es_nil)) ho fun d hd => hd
theorem scLawAlike : FnScope ["_law_found", "_law_due", "_law_k"] ["_law_found", "_law_due"] (defScope sLawAlike) := ⟨rfl, rfl, rfl, by decide +kernel, rfl, by decide +kernel, by decide +kernel⟩
theorem bdLawAlike : ∀ (kV doc pm : Value) (an : Option Addr) (cdv ct : Value) (us : List Value), us.length = (["_law_found", "_law_due"] : List Str).length → bindArgs (PySem.W.fnOf "_law_alike" "_law_alike" (defArgs sLawAlike) (defBody sLawAlike) (defScope sLawAlike) .none kV doc pm an cdv ct) ⟨us, []⟩ = pure ((["_law_found", "_law_due"] : List Str).zip us) := fun _ _ _ _ _ _ us hl => match us, hl with | [_, _], _ => rfl
theorem ok_law_alike (T : Tx K mg) : ∀ k, HAlike P w K mg base k
  | 0 => (has_sp (k := 0) (sp := spAlike 0) T.fLawAlike scLawAlike (fun vs H Q E ⟨G, a, _, h, p, _⟩ => h.length) bdLawAlike fun f cdv A outer s H vs Q E hr ⟨G, a, eg, h, p, q⟩ => by cases p).mono (by omega)
  | kk + 1 => by
    have FLawAlike := ok_law_alike T kk
    refine (has_okA (k := 1 + kk) T.fLawAlike scLawAlike (fun a => rfl) bdLawAlike fun f cdv A outer s G H vs a Q E hr eg hvs hp q => ⟨_, (pss_cons (ps_if (pt_val (pe_callB call_isiT (by rfl) T.isinstance bb_isinstance (pa_cons (pv 1) (pa_cons (pe_tup (pa_cons (pe_bltn (v := .ty "tuple") (by rfl) T.tuple bb_tuple rfl) (pa_cons (pe_bltn (v := .ty "list") (by rfl) T.list bb_list rfl) pa_nil))) pa_nil)))) (pss_cons (ps_if (PW.pt (pw_or (pt_not (pt_val (pe_callB call_isiT (by rfl) T.isinstance bb_isinstance (pa_cons (pv 0) (pa_cons (pe_tup (pa_cons (pe_bltn (v := .ty "tuple") (by rfl) T.tuple bb_tuple rfl) (pa_cons (pe_bltn (v := .ty "list") (by rfl) T.list bb_list rfl) pa_nil))) pa_nil))))) (pw_or1 (pt_cmpR op_ne (pe_callB call_isi (by rfl) T.isinstance bb_isinstance (pa_cons (pv 0) (pa_cons (pe_bltn (v := .ty "list") (by rfl) T.list bb_list rfl) pa_nil))) (pe_callB call_isi (by rfl) T.isinstance bb_isinstance (pa_cons (pv 1) (pa_cons (pe_bltn (v := .ty "list") (by rfl) T.list bb_list rfl) pa_nil))) (nomark _))))) (pss_one (ps_ret pe_bl)) pss_nil)
      (pss_cons (ps_if (pt_cmpR op_ne (pe_callB call_len_seq (by rfl) T.len bb_len (pa_cons (pv 0) pa_nil)) (pe_callB call_len_seq (by rfl) T.len bb_len (pa_cons (pv 1) pa_nil)) (nomark _)) (pss_one (ps_ret pe_bl)) pss_nil)
      (pss_one (ps_ret (pe_cmpR (op_eqD hr.units) (pe_lc (own := [("_law_k", 2)]) rfl scLawAlike.nd (pi_range1 (by rfl) T.range (pa_cons (pe_callB call_len_seq (by rfl) T.len bb_len (pa_cons (pv 1) pa_nil)) pa_nil)) (blkOk_by (by kernel_rfl)) (fun _ _ _ _ _ => (pg_name (i := 2) scLawAlike.nd rfl (by first | exact Or.inl rfl | exact Or.inr rfl))) (fun _ _ _ _ _ => (pts_one (pt_not (pt_val (pe_callH FLawAlike (hr.mono (by omega)) (pa_cons (pe_ix (ix_tupK (K := K)) (pv 0) (pv 2) (fun _ _ => rfl)) (pa_cons (pe_ix (ix_tupK (K := K)) (pv 1) (pv 2) (fun _ _ => rfl)) pa_nil))))))) (fun _ _ _ _ _ => (pv 2))) (pe_lst pa_nil) (nomark _)))))) pss_nil)
      (pss_cons (ps_if (PW.pt (pw_or (pt_cmpR op_isN (pv 1) pe_non (nomark _)) (pw_or1 (pt_val (pe_callB call_isi (by rfl) T.isinstance bb_isinstance (pa_cons (pv 1) (pa_cons (pe_bltn (v := .ty "str") (by rfl) T.str bb_str rfl) pa_nil))))))) (pss_one (ps_ret (pe_and (pe_cmpR op_eq (pv 0) (pv 1) (nomark _)) (pe_one (pe_cmpR op_eq (pe_callB call_isi (by rfl) T.isinstance bb_isinstance (pa_cons (pv 0) (pa_cons (pe_bltn (v := .ty "str") (by rfl) T.str bb_str rfl) pa_nil))) (pe_callB call_isi (by rfl) T.isinstance bb_isinstance (pa_cons (pv 1) (pa_cons (pe_bltn (v := .ty "str") (by rfl) T.str bb_str rfl) pa_nil))) (nomark _)))))) pss_nil)
      (pss_one (ps_ret (pe_and (pe_callB call_isi (by rfl) T.isinstance bb_isinstance (pa_cons (pv 0) (pa_cons (pe_bltn (v := .ty "int") (by rfl) T.int bb_int rfl) pa_nil))) (pe_and (pe_cmpR op_eq (pe_callB call_isi (by rfl) T.isinstance bb_isinstance (pa_cons (pv 0) (pa_cons (pe_bltn (v := .ty "bool") (by rfl) T.bool bb_bool rfl) pa_nil))) (pe_callB call_isi (by rfl) T.isinstance bb_isinstance (pa_cons (pv 1) (pa_cons (pe_bltn (v := .ty "bool") (by rfl) T.bool bb_bool rfl) pa_nil))) (nomark _)) (pe_one (pe_cmpR op_eq (pv 0) (pv 1) (nomark _))))))))), ?_⟩).mono (by omega)
    obtain ⟨fd, du, o⟩ := a
    obtain ⟨v, v1, rfl, hv, h1⟩ := args2 hvs
    have hp : AlOk (kk + 1) fd du o := hp
    have q : ∀ (v : V) (G' H' : Hp) (d : PyData), Go G H G' H' → Da G' v d → d = .bool o → Q v H' := q
    have hv : Da G v fd := hv
    have h1 : Da G v1 du := h1
    cases hp with
    | int k i j =>
      refine rq_skip (et_of (et_B (ed_isi2 (kT _) (kL _) (ed_var rfl h1))) rfl) eg fun H1 e1 => ?_
      refine rq_skip (et_of (et_or (a := false) (b := false) (et_of (et_test (ed_isN (ed_var rfl h1))) rfl) (fun _ => et_of (et_B (ed_isi (kS _) (ed_var rfl h1))) rfl)) rfl) (eg.trans e1) fun H2 e2 => ?_
      refine r_ret (ed_andV (a := true) (ed_isi (kI _) (ed_var rfl hv)) fun _ => ed_andV (a := true) (EvD.of (ed_eqB (ed_isi (kB _) (ed_var rfl hv)) (ed_isi (kB _) (ed_var rfl h1))) rfl) fun _ => ed_eqI (ed_var rfl hv) (ed_var rfl h1)) ((eg.trans e1).trans e2) fun v' G' H' d g hd hr' => q v' G' H' d (((Go.refl eg).ext (e1.trans e2)).trans g) hd (hr'.trans (by simp))
    | bool k a b =>
      refine rq_skip (et_of (et_B (ed_isi2 (kT _) (kL _) (ed_var rfl h1))) rfl) eg fun H1 e1 => ?_
      refine rq_skip (et_of (et_or (a := false) (b := false) (et_of (et_test (ed_isN (ed_var rfl h1))) rfl) (fun _ => et_of (et_B (ed_isi (kS _) (ed_var rfl h1))) rfl)) rfl) (eg.trans e1) fun H2 e2 => ?_
      refine r_ret (ed_andV (a := true) (ed_isi (kI _) (ed_var rfl hv)) fun _ => ed_andV (a := true) (EvD.of (ed_eqB (ed_isi (kB _) (ed_var rfl hv)) (ed_isi (kB _) (ed_var rfl h1))) rfl) fun _ => ed_eqB (ed_var rfl hv) (ed_var rfl h1)) ((eg.trans e1).trans e2) fun v' G' H' d g hd hr' => q v' G' H' d (((Go.refl eg).ext (e1.trans e2)).trans g) hd (hr'.trans (by simp))
    | tup k a b ha hb =>
      refine rq_if (b := true) (et_of (et_B (ed_isi2 (kT _) (kL _) (ed_var rfl h1))) rfl) eg (fun _ H1 e1 => ?_) fun h => by cases h
      refine rq_skip (et_of (et_or (a := false) (b := false) (et_of (et_not (et_B (ed_isi2 (kT _) (kL _) (ed_var rfl hv)))) rfl) (fun _ => et_of (et_test (ed_neB (ed_isi (kL _) (ed_var rfl hv)) (ed_isi (kL _) (ed_var rfl h1)))) rfl)) rfl) (eg.trans e1) fun H2 e2 => ?_
      have eg2 := (eg.trans e1).trans e2
      refine rq_if (et_test (ed_neN (a := a.length) (b := b.length) (EvD.of (ed_lenT (ds := a.map dN) (ed_var rfl hv)) (by rw [List.length_map]; rfl)) (EvD.of (ed_lenT (ds := b.map dN) (ed_var rfl h1)) (by rw [List.length_map]; rfl)))) eg2 (fun hb3 H3 e3 => ?_) fun hb3 H3 e3 => ?_
      · have hne : a.length ≠ b.length := by simpa using hb3
        refine q (.bl false) G H3 _ ((Go.refl eg).ext ((e1.trans e2).trans e3)) (.bl false) ?_
        rw [decide_eq_false (fun e => hne (congrArg List.length e))]
      · have heq : a.length = b.length := by simpa using hb3
        have g3 := (Go.refl eg).ext ((e1.trans e2).trans e3)
        have hlc : EvD (tLc (iRng1 (tCons (tCB (fun xs H Q => ∃ p ys, xs = [V.ref p] ∧ (SqL K H p ys ∨ SqT K H p ys) ∧ Q (.int ys.length) H) (tCons (tVar 1) tNil)) tNil)) (gName 2) (tNot (tB (tCall (spAlike (k + 1)) [] E0 (tCons (tOp (rIxT K) (tVar 0) (tVar 2)) (tCons (tOp (rIxT K) (tVar 1) (tVar 2)) tNil))))) (tVar 2) [2]) [some v, some v1, none] G (dL ((List.range b.length).filter fun x => !decide ((((at_ a x : Nat) : Int)) = (at_ b x : Nat)))) := by
          refine ed_lcR b.length (fun x => !decide ((((at_ a x : Nat) : Int)) = (at_ b x : Nat))) dN (few hb) (es_cons (EvD.of (ed_lenT (ds := b.map dN) (ed_var rfl h1)) (by rw [List.length_map])) es_nil) (fun _ => rfl) (fun x G' hx eG => ?_) fun x G' hx _ eG => ed_var (i := 2) rfl (.int _)
          exact et_not (et_B (ed_alike (AlOk.int k _ _) (ed_at (by omega) (ed_var rfl (hv.mono eG)) (ed_var (i := 2) rfl (.int _))) (ed_at (by omega) (ed_var rfl (h1.mono eG)) (ed_var (i := 2) rfl (.int _)))))
        refine r_ret (ed_eqD (ndL _) (ndL []) (shL _) (shL []) hlc (ed_lst es_nil (few (by simp)))) g3.gh fun v' G' H' d g hd hr' => q v' G' H' d (g3.trans g) hd (hr'.trans ?_)
        rw [eqvL]
        congr 1
        rw [decide_eq_decide, List.filter_eq_nil_iff]
        constructor
        · intro h
          refine Mx.at_ext heq fun x hx => ?_
          have := h x (List.mem_range.mpr (by omega))
          simp at this
          omega
        · intro h x _
          subst h; simp
end
end MxP
end
section
set_option Elab.async false
set_option linter.all false
set_option maxRecDepth 100000
set_option maxHeartbeats 4000000
/-! The law's row of numbers: a list of its own that changes. -/
namespace MxL
open PySem PySem.Spec PyProof.Rows L2 MxT
open Evl (Ex)
def rem (p : Addr) (H : Hp) : Hp := fun b => if b = p then none else H b
theorem rem_self {p : Addr} {H : Hp} : rem p H p = none := if_pos rfl
theorem rem_ne {p b : Addr} {H : Hp} (h : b ≠ p) : rem p H b = H b := if_neg h
theorem rem_ex {p : Addr} {H : Hp} : Ex (rem p H) H := fun b o h => by
  by_cases e : b = p
  · rw [e, rem_self] at h; cases h
  · rw [rem_ne e] at h; exact h
section
variable {G0 H0 G H G' H' : Hp} {p : Addr}
theorem Go.base (e : Ex G H) : Go G (rem p H) G H := ⟨rem_ex, Ex.refl G, e, fun _ _ h => .inl h⟩
theorem Go.trP (g : Go G0 H0 G H) (h0 : H0 p = none) (g2 : Go G (rem p H) G' H') : Go G0 H0 G' H' := by
  refine ⟨fun b o h => ?_, g.gg.trans g2.gg, g2.gh, fun b o h => ?_⟩
  · have e : b ≠ p := fun e => by rw [e, h0] at h; cases h
    exact g2.hh b o (by rw [rem_ne e]; exact g.hh b o h)
  · rcases g2.sep b o h with q | q
    · exact g.sep b o q
    · by_cases e : b = p
      · rw [e]; exact .inr h0
      · rw [rem_ne e] at q; exact .inr (nb_back g.hh q)
def ExP (p : Addr) (H H' : Hp) : Prop := ∀ b o, b ≠ p → H b = some o → H' b = some o
theorem ExP.refl (p : Addr) (H : Hp) : ExP p H H := fun _ _ _ h => h
theorem ExP.trans {H1 : Hp} (a : ExP p H H1) (b : ExP p H1 H') : ExP p H H' := fun x o hx h => b x o hx (a x o hx h)
theorem ExP.upd {o : HO} : ExP p H (L2.upd H p o) := fun b u hb h => by rw [upd_ne hb]; exact h
theorem Go.mutP (g : Go G0 H0 G H) (h0 : H0 p = none) (hn : G p = none) (e : ExP p H H') : Go G0 H0 G H' :=
  ⟨fun b o h => e b o (fun q => by rw [q, h0] at h; cases h) (g.hh b o h), g.gg, fun b o h => e b o (fun q => by rw [q, hn] at h; cases h) (g.gh b o h), g.sep⟩
end
/-- a row: the script, how far one is, two more numbers -/
def RowOk (K : PySem.W.Frag) (G : Hp) (row : List V) : Prop := ∃ (A : Addr) (ns : List Int) (i sd c : Int), row = [.ref A, .int i, .int sd, .int c] ∧ SqL K G A (ns.map V.int) ∧ 0 ≤ i
theorem sql_mono {K : PySem.W.Frag} {G G' : Hp} {A : Addr} {xs : List V} (e : Ex G G') (h : SqL K G A xs) : SqL K G' A xs := by
  rcases h with (h | ⟨o, h⟩) | h
  · exact .inl (.inl (e _ _ h))
  · exact .inl (.inr ⟨o, e _ _ h⟩)
  · exact .inr h
theorem sql_exp {K : PySem.W.Frag} {G H H' : Hp} {A p : Addr} {xs : List V} (h : SqL K G A xs) (eg : Ex G H) (hn : G p = none) (e : ExP p H H') : SqL K H' A xs := by
  rcases h with (h | ⟨o, h⟩) | h
  · exact .inl (.inl (e _ _ (fun q => by rw [q, hn] at h; cases h) (eg _ _ h)))
  · exact .inl (.inr ⟨o, e _ _ (fun q => by rw [q, hn] at h; cases h) (eg _ _ h)⟩)
  · exact .inr h
theorem RowOk.mono {K : PySem.W.Frag} {G G' : Hp} {row : List V} (e : Ex G G') (h : RowOk K G row) : RowOk K G' row := let ⟨A, ns, i, sd, c, a, b, d⟩ := h; ⟨A, ns, i, sd, c, a, sql_mono e b, d⟩
def Rd (te : TE) (σ : L2.St) (H : Hp) (v : V) : Prop := ∀ Q : VK, Q v H → te σ H Q
section
variable {K : PySem.W.Frag} {σ : L2.St} {H : Hp} {ta tb te : TE} {v w : V} {D : Ends} {tz : TS}
theorem rd_var {i : Nat} (h : σ[i]? = some (some v)) : Rd (tVar i) σ H v := fun Q q => ⟨v, h, q⟩
theorem rd_c : Rd (tC v) σ H v := fun Q q => q
theorem rd_I {C : Int → Int → Prop} {g : Int → Int → V} {i j : Int} (hc : C i j) (ha : Rd ta σ H (.int i)) (hb : Rd tb σ H (.int j)) : Rd (tOp (rI C g) ta tb) σ H (g i j) := fun Q q =>
  ha _ (hb _ ⟨i, j, rfl, rfl, hc, q⟩)
theorem rd_I0 {g : Int → Int → V} {i j : Int} (ha : Rd ta σ H (.int i)) (hb : Rd tb σ H (.int j)) : Rd (tOp (rI0 g) ta tb) σ H (g i j) := fun Q q =>
  ha _ (hb _ ⟨i, j, rfl, rfl, q⟩)
theorem rd_ix {p : Addr} {xs : List V} {j : Int} (hp : SqL K H p xs) (hj : atI xs j = some v) (ha : Rd ta σ H (.ref p)) (hb : Rd tb σ H (.int j)) : Rd (tOp (rIxL K) ta tb) σ H v := fun Q q =>
  ha _ (hb _ ⟨p, xs, j, v, rfl, rfl, hp, hj, q⟩)
theorem rd_int1 {i : Int} (h : Rd te σ H (.int i)) : Rd (tCB (fun xs H Q => (∃ i, xs = [V.int i] ∧ Q (.int i) H) ∨ ∃ k, xs = [V.bl k] ∧ Q (.int (if k then 1 else 0)) H) (tCons te tNil)) σ H (.int i) := fun Q q => h _ (.inl ⟨i, rfl, q⟩)
theorem rd_len {p : Addr} {xs : List V} (hp : SqL K H p xs) (h : Rd te σ H (.ref p)) : Rd (tCB (fun xs H Q => ∃ p ys, xs = [V.ref p] ∧ (SqL K H p ys ∨ SqT K H p ys) ∧ Q (.int ys.length) H) (tCons te tNil)) σ H (.int xs.length) := fun Q q => h _ ⟨p, xs, rfl, .inl hp, q⟩
theorem rdq_if {b : Bool} {tu tw : TS} (h : Rd te σ H (.bl b)) (h1 : b = true → tu { D with nx := tz D } σ H) (h2 : b = false → tw { D with nx := tz D } σ H) : tSeq (tIfS (tTest te) tu tw) tz D σ H :=
  h _ ⟨b, rfl, by cases b with
    | true => exact h1 rfl
    | false => exact h2 rfl⟩
theorem rdq_ifN {b : Bool} {tu : TS} (h : Rd te σ H (.bl b)) (h1 : b = true → tu { D with nx := tz D } σ H) (h2 : b = false → tz D σ H) : tSeq (tIfS (tTest te) tu tNext) tz D σ H := rdq_if h h1 h2
theorem rdq_set {i : Nat} {p : Addr} {xs : List V} {k : Nat} (hs : σ[i]? = some (some (.ref p))) (hp : H p = some (.lst xs)) (hk : k < xs.length) (h : Rd te σ H v) (q : tz D σ (upd H p (.lst (xs.set k v)))) : tSeq (tAsg te (gSub (tVar i) (tC (.int (k : Nat))) rSetL)) tz D σ H :=
  h _ ⟨.ref p, hs, p, xs, (k : Nat), k, rfl, rfl, hp, Evl.ixN_nat hk, q⟩
theorem rd_set {i : Nat} {p : Addr} {xs : List V} {k : Nat} (hs : σ[i]? = some (some (.ref p))) (hp : H p = some (.lst xs)) (hk : k < xs.length) (h : Rd te σ H v) (q : D.nx σ (upd H p (.lst (xs.set k v)))) : tAsg te (gSub (tVar i) (tC (.int (k : Nat))) rSetL) D σ H :=
  h _ ⟨.ref p, hs, p, xs, (k : Nat), k, rfl, rfl, hp, Evl.ixN_nat hk, q⟩
end
end MxL
namespace MxP
open PySem PySem.Spec PyProof.Rows L2 MxT MxL
open Evl (Ex)
section
variable {P : Program} {w : World} {K : PySem.W.Frag} {mg : Str → Option Value} {base : Heap}
def spTaken (K : PySem.W.Frag) : Sp := fun vs H Q _ => ∃ G p row m, vs = [.ref p, .int m] ∧ Ex G H ∧ G p = none ∧ 1 ≤ m ∧ m < 1073741824 ∧ H p = some (.lst row) ∧ RowOk K G row ∧
  ∀ (n : Nat) row' H', ((n : Nat) : Int) < m → ExP p H H' → H' p = some (.lst row') → RowOk K G row' → Q (.int (n : Nat)) H'
abbrev HTaken (P : Program) (w : World) (K : PySem.W.Frag) (mg : Str → Option Value) (base : Heap) := Has P w K mg base 1 "_law_taken" ["_law_row", "_law_many"] (spTaken K)
theorem scLawTaken : FnScope ["_law_row", "_law_many", "_law_cell", "_law_found"] ["_law_row", "_law_many"] (defScope sLawTaken) := ⟨rfl, rfl, rfl, by decide +kernel, rfl, by decide +kernel, by decide +kernel⟩
theorem bdLawTaken : ∀ (kV doc pm : Value) (an : Option Addr) (cdv ct : Value) (us : List Value), us.length = (["_law_row", "_law_many"] : List Str).length → bindArgs (PySem.W.fnOf "_law_taken" "_law_taken" (defArgs sLawTaken) (defBody sLawTaken) (defScope sLawTaken) .none kV doc pm an cdv ct) ⟨us, []⟩ = pure ((["_law_row", "_law_many"] : List Str).zip us) := fun _ _ _ _ _ _ us hl => match us, hl with | [_, _], _ => rfl
theorem ok_law_taken (T : Tx K mg) : HTaken P w K mg base := by
  refine has_sp T.fLawTaken scLawTaken (fun vs H Q E ⟨G, p, row, m, h, _⟩ => by rw [h]; rfl) bdLawTaken fun f cdv A outer s H vs Q E hr ⟨G, p, row, m, hvs, eg, hn, hm1, hm2, hp, hrow, q⟩ => ⟨_, (pss_cons (ps_if (pt_cmpR op_gt (pe_ix ix_list (pv 0) pe_int (fun _ _ => rfl)) pe_int (nomark _)) (pss_cons (ps_set (i := 3) scLawTaken.nd rfl (by first | exact Or.inl rfl | exact Or.inr rfl) (pe_op op_mod (pe_callTy call_int1 (by rfl) T.int bb_int (pa_cons (pe_ix ix_list (pv 0) pe_int (fun _ _ => rfl)) pa_nil)) (pv 1)))
      (pss_cons (ps_asg (pe_op op_fdiv (pe_ix ix_list (pv 0) pe_int (fun _ _ => rfl)) (pv 1)) (pg_sub (pv 0) pe_int set_list))
      (pss_one (ps_ret (pv 3))))) pss_nil)
      (pss_cons (ps_asg (pe_op op_add (pe_ix ix_list (pv 0) pe_int (fun _ _ => rfl)) pe_int) (pg_sub (pv 0) pe_int set_list))
      (pss_cons (ps_if (pt_cmpR op_gt (pe_ix ix_list (pv 0) pe_int (fun _ _ => rfl)) (pe_callB call_len_seq (by rfl) T.len bb_len (pa_cons (pe_ix ix_list (pv 0) pe_int (fun _ _ => rfl)) pa_nil)) (nomark _)) (pss_cons (ps_asg (pe_op op_mod (pe_callTy call_int1 (by rfl) T.int bb_int (pa_cons (pe_op op_add (pe_op op_mul (pe_ix ix_list (pv 0) pe_int (fun _ _ => rfl)) pe_int) pe_int) pa_nil)) pe_int) (pg_sub (pv 0) pe_int set_list))
      (pss_one (ps_ret (pe_op op_mod (pe_callTy call_int1 (by rfl) T.int bb_int (pa_cons (pe_op op_fdiv (pe_ix ix_list (pv 0) pe_int (fun _ _ => rfl)) pe_int) pa_nil)) (pv 1))))) pss_nil)
      (pss_cons (ps_set (i := 2) scLawTaken.nd rfl (by first | exact Or.inl rfl | exact Or.inr rfl) (pe_ix ix_list (pe_ix ix_list (pv 0) pe_int (fun _ _ => rfl)) (pe_op op_sub (pe_ix ix_list (pv 0) pe_int (fun _ _ => rfl)) pe_int) (fun _ _ => rfl)))
      (pss_cons (ps_asg (pe_op op_mod (pe_callTy call_int1 (by rfl) T.int bb_int (pa_cons (pe_op op_add (pe_op op_add (pe_op op_mul (pe_ix ix_list (pv 0) pe_int (fun _ _ => rfl)) pe_int) (pv 2)) pe_int) pa_nil)) pe_int) (pg_sub (pv 0) pe_int set_list))
      (pss_cons (ps_if (pt_cmpR op_ge (pv 2) (pe_op op_pow pe_int pe_int) (nomark _)) (pss_one (ps_asg (pe_op op_fdiv (pv 2) (pv 1)) (pg_sub (pv 0) pe_int set_list))) pss_nil)
      (pss_one (ps_ret (pe_op op_mod (pe_callTy call_int1 (by rfl) T.int bb_int (pa_cons (pv 2) pa_nil)) (pv 1)))))))))), ?_⟩
  subst hvs
  obtain ⟨A', ns, i, sd, c, rfl, hA, hi⟩ := hrow
  have fin : ∀ (x i' sd' c' : Int) (H' : Hp), ExP p H H' → H' p = some (.lst [.ref A', .int i', .int sd', .int c']) → 0 ≤ i' → Q (.int (x % m)) H' := fun x i' sd' c' H' e hp' hi' => by
    have h1 := Int.emod_nonneg x (show m ≠ 0 by omega)
    have h2 := Int.emod_lt_of_pos x (show 0 < m by omega)
    have := q (x % m).toNat _ H' (by omega) e hp' ⟨A', ns, i', sd', c', rfl, hA, hi'⟩
    rwa [Int.toNat_of_nonneg h1] at this
  refine rdq_ifN (rd_I0 (g := fun i j => .bl (decide (j < i))) (i := c) (j := 0) (rd_ix (j := 3) (.inl (.inl hp)) (atI_nat (j := 3) rfl) (rd_var rfl) rd_c) rd_c) (fun hb => ?_) fun hb => ?_
  · refine rd_I (C := fun _ j => 0 < j) (g := fun i j => .int (i % j)) (i := c) (j := m) (by omega) (rd_int1 (rd_ix (j := 3) (.inl (.inl hp)) (atI_nat (j := 3) rfl) (rd_var rfl) rd_c)) (rd_var rfl) _ ?_
    refine rdq_set (k := 3) (v := .int (c / m)) rfl hp (by simp) (rd_I (C := CDiv) (g := fun i j => .int (i / j)) ⟨by omega, hm2⟩ (rd_ix (j := 3) (.inl (.inl hp)) (atI_nat (j := 3) rfl) (rd_var rfl) rd_c) (rd_var rfl)) ?_
    exact ⟨_, rfl, fin c i sd (c / m) _ ExP.upd upd_same hi⟩
  · refine rdq_set (k := 1) (v := .int (i + 1)) rfl hp (by simp) (rd_I0 (g := fun i j => .int (i + j)) (rd_ix (j := 1) (.inl (.inl hp)) (atI_nat (j := 1) rfl) (rd_var rfl) rd_c) rd_c) ?_
    have e1 : ExP p H (upd H p (.lst [.ref A', .int (i + 1), .int sd, .int c])) := ExP.upd
    have hp1 : (upd H p (.lst [.ref A', .int (i + 1), .int sd, .int c])) p = some (.lst [.ref A', .int (i + 1), .int sd, .int c]) := upd_same
    show tSeq _ _ _ _ (upd H p (.lst [.ref A', .int (i + 1), .int sd, .int c]))
    generalize upd H p (.lst [.ref A', .int (i + 1), .int sd, .int c]) = H1 at e1 hp1
    have hA1 : SqL K H1 A' (ns.map V.int) := sql_exp hA eg hn e1
    refine rdq_ifN (rd_I0 (g := fun i j => .bl (decide (j < i))) (i := i + 1) (j := ((ns.map V.int).length : Nat)) (rd_ix (j := 1) (.inl (.inl hp1)) (atI_nat (j := 1) rfl) (rd_var rfl) rd_c) (rd_len hA1 (rd_ix (j := 0) (.inl (.inl hp1)) (atI_nat (j := 0) rfl) (rd_var rfl) rd_c))) (fun hb1 => ?_) fun hb1 => ?_
    · refine rdq_set (k := 2) (v := .int ((sd * 48271 + 11) % 2147483647)) rfl hp1 (by simp) (rd_I (C := fun _ j => 0 < j) (g := fun i j => .int (i % j)) (by decide) (rd_int1 (rd_I0 (g := fun i j => .int (i + j)) (rd_I (C := CMul) (g := fun i j => .int (i * j)) (.inr ⟨by decide, by decide⟩) (rd_ix (j := 2) (.inl (.inl hp1)) (atI_nat (j := 2) rfl) (rd_var rfl) rd_c) rd_c) rd_c)) rd_c) ?_
      have hp2 : (upd H1 p (.lst ([V.ref A', .int (i + 1), .int sd, .int c].set 2 (.int ((sd * 48271 + 11) % 2147483647))))) p = some (.lst [.ref A', .int (i + 1), .int ((sd * 48271 + 11) % 2147483647), .int c]) := upd_same
      refine rd_I (C := fun _ j => 0 < j) (g := fun i j => .int (i % j)) (i := (sd * 48271 + 11) % 2147483647 / 7) (j := m) (by omega) (rd_int1 (rd_I (C := CDiv) (g := fun i j => .int (i / j)) ⟨by decide, by decide⟩ (rd_ix (j := 2) (.inl (.inl hp2)) (atI_nat (j := 2) rfl) (rd_var rfl) rd_c) rd_c)) (rd_var rfl) _ ?_
      exact fin _ _ _ _ _ (e1.trans ExP.upd) hp2 (by omega)
    · have hlt : i + 1 ≤ ((ns.map V.int).length : Nat) := by
        have := of_decide_eq_false hb1
        omega
      rw [List.length_map] at hlt
      have hin : ns[i.toNat]? = some ns[i.toNat] := List.getElem?_eq_getElem (by omega)
      generalize hcell : ns[i.toNat] = cell at hin
      have hat : atI (ns.map V.int) i = some (.int cell) := by
        have := atI_nat (xs := ns.map V.int) (j := i.toNat) (v := .int cell) (by rw [List.getElem?_map, hin]; rfl)
        rwa [Int.toNat_of_nonneg hi] at this
      refine rq_raw ?_
      refine rd_ix (v := .int cell) (j := i) hA1 hat (rd_ix (j := 0) (.inl (.inl hp1)) (atI_nat (j := 0) rfl) (rd_var rfl) rd_c) ?_ _ ?_
      · have := rd_I0 (σ := L2.start ["_law_row", "_law_many", "_law_cell", "_law_found"] [.ref p, .int m]) (H := H1) (g := fun i j => .int (i - j)) (i := i + 1) (j := 1) (rd_ix (K := K) (j := 1) (.inl (.inl hp1)) (atI_nat (j := 1) rfl) (rd_var (i := 0) rfl) rd_c) rd_c
        rwa [show i + 1 - 1 = i by omega] at this
      · refine rdq_set (k := 2) (v := .int ((sd * 48271 + cell + 11) % 2147483647)) rfl hp1 (by simp) (rd_I (C := fun _ j => 0 < j) (g := fun i j => .int (i % j)) (by decide) (rd_int1 (rd_I0 (g := fun i j => .int (i + j)) (rd_I0 (g := fun i j => .int (i + j)) (rd_I (C := CMul) (g := fun i j => .int (i * j)) (.inr ⟨by decide, by decide⟩) (rd_ix (j := 2) (.inl (.inl hp1)) (atI_nat (j := 2) rfl) (rd_var rfl) rd_c) rd_c) (rd_var rfl)) rd_c)) rd_c) ?_
        have hp2 : (upd H1 p (.lst ([V.ref A', .int (i + 1), .int sd, .int c].set 2 (.int ((sd * 48271 + cell + 11) % 2147483647))))) p = some (.lst [.ref A', .int (i + 1), .int ((sd * 48271 + cell + 11) % 2147483647), .int c]) := upd_same
        have e2 := e1.trans (ExP.upd (o := .lst ([V.ref A', .int (i + 1), .int sd, .int c].set 2 (.int ((sd * 48271 + cell + 11) % 2147483647)))))
        refine rdq_ifN (rd_I0 (g := fun i j => .bl (decide (j ≤ i))) (i := cell) (j := 10 ^ (18 : Int).toNat) (rd_var rfl) (rd_I (C := CPow) (g := fun i j => .int (i ^ j.toNat)) ⟨by decide, by decide, by decide⟩ rd_c rd_c)) (fun hb3 => ?_) fun hb3 => ?_
        · refine rd_set (k := 3) (v := .int (cell / m)) rfl hp2 (by simp) (rd_I (C := CDiv) (g := fun i j => .int (i / j)) ⟨by omega, hm2⟩ (rd_var rfl) (rd_var rfl)) ?_
          refine rd_I (C := fun _ j => 0 < j) (g := fun i j => .int (i % j)) (i := cell) (j := m) (by omega) (rd_int1 (rd_var rfl)) (rd_var rfl) _ ?_
          exact fin _ _ _ _ _ (e2.trans ExP.upd) upd_same (by omega)
        · refine rd_I (C := fun _ j => 0 < j) (g := fun i j => .int (i % j)) (i := cell) (j := m) (by omega) (rd_int1 (rd_var rfl)) (rd_var rfl) _ ?_
          exact fin _ _ _ _ _ e2 hp2 (by omega)
end
end MxP
end
section
set_option Elab.async false
set_option linter.all false
set_option maxRecDepth 100000
set_option maxHeartbeats 4000000
/-! What the law draws from its row: houses, states. -/
namespace MxL
open PySem PySem.Spec PyProof.Rows L2 MxT
open Evl (Ex)
/-- the row at p stands apart -/
structure RSt (K : PySem.W.Frag) (G0 H0 : Hp) (p : Addr) (G H : Hp) : Prop where
  go : Go G0 H0 G H
  hn : G p = none
  row : ∃ row, H p = some (.lst row) ∧ RowOk K G row
section
variable {K : PySem.W.Frag} {G0 H0 G H G' H' : Hp} {p q : Addr} {o : HO}
theorem Go.remP (g : Go G H G' H') : Go G (rem p H) G' H' := ⟨rem_ex.trans g.hh, g.gg, g.gh, fun b u h => by
  rcases g.sep b u h with z | z
  · exact .inl z
  · refine .inr ?_
    by_cases e : b = p
    · rw [e]; exact rem_self
    · rw [rem_ne e]; exact z⟩
theorem RSt.step (s : RSt K G0 H0 p G H) (g : Go G H G' H') : RSt K G0 H0 p G' H' := by
  obtain ⟨row, h1, h2⟩ := s.row
  exact ⟨s.go.trans g, g.keepN s.hn h1, row, g.hh _ _ h1, h2.mono g.gg⟩
theorem RSt.tr (s : RSt K G0 H0 p G H) (h0 : H0 p = none) (g : RSt K G (rem p H) p G' H') : RSt K G0 H0 p G' H' := ⟨s.go.trP h0 g.go, g.hn, g.row⟩
theorem RSt.ext (s : RSt K G0 H0 p G H) (e : Ex H H') : RSt K G0 H0 p G H' := s.step ((Go.refl s.go.gh).ext e)
theorem RSt.mut (s : RSt K G0 H0 p G H) (h0 : H0 q = none) (hn : G q = none) (hqp : q ≠ p) : RSt K G0 H0 p G (upd H q o) := by
  obtain ⟨row, h1, h2⟩ := s.row
  exact ⟨s.go.mut h0 hn, s.hn, row, by rw [upd_ne (fun e => hqp e.symm)]; exact h1, h2⟩
theorem RSt.pub (s : RSt K G0 H0 p G H) (h0 : H0 q = none) (hn : G q = none) (hqp : q ≠ p) (e : H q = some o) : RSt K G0 H0 p (upd G q o) H := by
  obtain ⟨row, h1, h2⟩ := s.row
  exact ⟨s.go.pub h0 hn e, by rw [upd_ne (fun e => hqp e.symm)]; exact s.hn, row, h1, h2.mono (Ex.new hn)⟩
theorem RSt.start {row : List V} (e : Ex G H) (hn : G p = none) (h1 : H p = some (.lst row)) (h2 : RowOk K G row) : RSt K G (rem p H) p G H := ⟨Go.base e, hn, row, h1, h2⟩
/-- what stood at the start and is not the row still stands -/
theorem RSt.keep {b : Addr} {u : HO} (s : RSt K G (rem p H) p G' H') (hb : b ≠ p) (h : H b = some u) : H' b = some u := s.go.hh _ _ (by rw [rem_ne hb]; exact h)
theorem RSt.keepN {b : Addr} {u : HO} (s : RSt K G (rem p H) p G' H') (hb : b ≠ p) (h : H b = some u) (hn : G b = none) : G' b = none := s.go.keepN hn (show rem p H b = some u by rw [rem_ne hb]; exact h)
end
/-- a def that draws from the row -/
def spRow (K : PySem.W.Frag) {α : Type} (enc : α → List PyData) (Pre : α → Prop) (Post : α → PyData → Prop) : Sp := fun vs H Q _ => ∃ (G : Hp) (p : Addr) (a : α) (row : List V) (ws : List V), vs = .ref p :: ws ∧ Ex G H ∧ G p = none ∧ H p = some (.lst row) ∧ RowOk K G row ∧ DaAll G ws (enc a) ∧ Pre a ∧
  ∀ v G' H' d, RSt K G (rem p H) p G' H' → Da G' v d → Post a d → Q v H'
def RwR (K : PySem.W.Frag) (te : TE) (σ : L2.St) (G H : Hp) (p : Addr) (Φ : PyData → Prop) : Prop := ∀ Q : VK, (∀ v G' H' d, RSt K G (rem p H) p G' H' → Da G' v d → Φ d → Q v H') → te σ H Q
section
variable {K : PySem.W.Frag} {α : Type} {enc : α → List PyData} {Pre : α → Prop} {Post : α → PyData → Prop} {σ : L2.St} {G H : Hp} {tr : TA} {te ta tb : TE} {E : XK} {p : Addr} {row : List V} {i : Nat} {Φ : PyData → Prop}
theorem rw_call (a : α) (s : RSt K G (rem p H) p G H) (hs : σ[i]? = some (some (.ref p))) (h : EvDs tr σ G (enc a)) (hp : Pre a) : RwR K (tCall (spRow K enc Pre Post) [] E (tCons (tVar i) tr)) σ G H p (Post a) := fun Q k =>
  ⟨.ref p, hs, h H s.go.gh _ fun vs G1 H1 d1 g1 hvs e1 => by
    subst e1
    have s1 := s.step g1
    obtain ⟨row, h1, h2⟩ := s1.row
    rw [List.append_nil]
    exact ⟨G1, p, a, row, vs, rfl, g1.gh, s1.hn, h1, h2, hvs, hp, fun v G' H' d s2 hd hq => k v G' H' d (s1.tr rem_self s2) hd hq⟩⟩
theorem rw_taken {m : Int} (s : RSt K G (rem p H) p G H) (hs : σ[i]? = some (some (.ref p))) (h : EvD te σ G (.int m)) (h1 : 1 ≤ m) (h2 : m < 1073741824) : RwR K (tCall (MxP.spTaken K) [] E (tCons (tVar i) (tCons te tNil))) σ G H p (fun d => ∃ n : Nat, ((n : Nat) : Int) < m ∧ d = MxP.dN n) := fun Q k =>
  ⟨.ref p, hs, h H s.go.gh _ fun v G1 H1 d1 g1 hv e1 => by
    subst e1
    have s1 := s.step g1
    obtain ⟨row, a1, a2⟩ := s1.row
    refine ⟨G1, p, row, m, by rw [hv.int_inv]; rfl, g1.gh, s1.hn, h1, h2, a1, a2, fun n row' H' hlt e hp' hr => ?_⟩
    refine k _ G1 H' _ (s1.tr rem_self ⟨(Go.base g1.gh).mutP rem_self s1.hn e, s1.hn, row', hp', hr⟩) (.int _) ⟨n, hlt, rfl⟩⟩
theorem rw_add1 {m : Int} (h : RwR K tb σ G H p (fun d => ∃ n : Nat, ((n : Nat) : Int) < m ∧ d = MxP.dN n)) : RwR K (tOp (rI0 fun i j => .int (i + j)) (tC (.int 1)) tb) σ G H p (fun d => ∃ n : Nat, ((n : Nat) : Int) < m ∧ d = MxP.dN (n + 1)) := fun Q k =>
  h _ fun v G' H' d s hd ⟨n, hlt, e⟩ => by
    subst e
    refine ⟨1, (n : Nat), rfl, hd.int_inv, ?_⟩
    have := k (.int ((n + 1 : Nat) : Int)) G' H' _ s (.int _) ⟨n, hlt, rfl⟩
    rwa [show ((n + 1 : Nat) : Int) = 1 + (n : Nat) by omega] at this
theorem rw_ltv {m j : Int} {k : Nat} (h : RwR K ta σ G H p (fun d => ∃ n : Nat, ((n : Nat) : Int) < m ∧ d = MxP.dN n)) (hk : σ[k]? = some (some (.int j))) : RwR K (tOp (rI0 fun i j => .bl (decide (i < j))) ta (tVar k)) σ G H p (fun d => ∃ b, d = .bool b) := fun Q q =>
  h _ fun v G' H' d s hd ⟨n, hlt, e⟩ => by
    subst e
    exact ⟨.int j, hk, (n : Nat), j, hd.int_inv, rfl, q _ G' H' _ s (.bl _) ⟨_, rfl⟩⟩
theorem rw_if {D : Ends} {tu tw : TS} (h : RwR K te σ G H p (fun d => ∃ b, d = .bool b)) (k : ∀ G' H', RSt K G (rem p H) p G' H' → tu D σ H' ∧ tw D σ H') : tIfS (tTest te) tu tw D σ H :=
  h _ fun v G' H' d s hd ⟨b, e⟩ => by
    subst e
    refine ⟨b, hd.bool_inv, ?_⟩
    cases b with
    | true => exact (k G' H' s).1
    | false => exact (k G' H' s).2
end
end MxL
namespace MxP
open PySem PySem.Spec PyProof.Rows L2 MxT MxL
open Evl (Ex)
open Mx (at_ nb Rows free key done changed)
/-! ### plain: all the pairs -/
def prs (n a : Nat) : List (Nat × Nat) := (List.range (n - (a + 1))).map fun k => (a, a + 1 + k)
def prsTo (n i : Nat) : List (Nat × Nat) := (List.range i).flatMap (prs n)
theorem prsTo_more (n i : Nat) : prsTo n (i + 1) = prsTo n i ++ prs n i := by unfold prsTo; rw [List.range_succ, List.flatMap_append]; simp
def prFit (n : Nat) : Bool := decide ((prsTo n n).Pairwise fun p q => p.1 < q.1 ∨ (p.1 = q.1 ∧ p.2 < q.2)) && (prsTo n n).all (fun p => decide (p.1 < p.2) && decide (p.2 < n)) && decide ((prsTo n n).length ≤ 28) && (List.range n).all fun x => decide ((rowL (prsTo n n) x).length ≤ 5)
theorem prFit_ok {n : Nat} (h1 : 1 ≤ n) (h2 : n ≤ 6) : prFit n = true := by
  have : n = 1 ∨ n = 2 ∨ n = 3 ∨ n = 4 ∨ n = 5 ∨ n = 6 := by omega
  rcases this with e | e | e | e | e | e <;> subst e <;> decide +kernel
theorem rowL_cons (q : Nat × Nat) (dd : List (Nat × Nat)) (x : Nat) : rowL (q :: dd) x = ((if q.1 = x then [q.2] else []) ++ (if q.2 = x then [q.1] else [])) ++ rowL dd x := by unfold rowL; rw [List.flatMap_cons]
theorem house_of {n : Nat} {dd : List (Nat × Nat)} (h1 : 1 ≤ n) (h2 : n ≤ 6) (h : dd.Sublist (prsTo n n)) : HouseOk n dd ∧ ∀ x, x < n → (rowL dd x).length ≤ 5 := by
  have hf := prFit_ok h1 h2
  unfold prFit at hf
  rw [Bool.and_eq_true, Bool.and_eq_true, Bool.and_eq_true] at hf
  obtain ⟨⟨⟨a, b⟩, c⟩, d⟩ := hf
  have a := of_decide_eq_true a
  have c := of_decide_eq_true c
  refine ⟨⟨h1, h2, fun p hp => ?_, a.sublist h, Nat.le_trans h.length_le c⟩, fun x hx => ?_⟩
  · have := List.all_eq_true.mp b p (h.subset hp)
    rw [Bool.and_eq_true] at this
    exact ⟨of_decide_eq_true this.1, of_decide_eq_true this.2⟩
  · have := of_decide_eq_true (List.all_eq_true.mp d x (List.mem_range.mpr hx))
    have hs : ∀ {a b : List (Nat × Nat)}, a.Sublist b → (rowL a x).length ≤ (rowL b x).length := fun {a b} hab => by
      induction hab with
      | slnil => exact Nat.le_refl _
      | cons q _ ih => rw [rowL_cons, List.length_append]; omega
      | cons_cons q _ ih => rw [rowL_cons, rowL_cons]; simp only [List.length_append]; omega
    exact Nat.le_trans (hs h) this
section
variable {P : Program} {w : World} {K : PySem.W.Frag} {mg : Str → Option Value} {base : Heap}
def spPick (K : PySem.W.Frag) : Sp := spRow K (fun ds : List PyData => [.list ds]) (fun ds => ds ≠ [] ∧ ds.length < 1073741824) fun ds d => d ∈ ds
abbrev HPick (P : Program) (w : World) (K : PySem.W.Frag) (mg : Str → Option Value) (base : Heap) := Has P w K mg base 2 "_law_pick" ["_law_row", "_law_things"] (spPick K)
theorem scLawPick : FnScope ["_law_row", "_law_things"] ["_law_row", "_law_things"] (defScope sLawPick) := ⟨rfl, rfl, rfl, by decide +kernel, rfl, by decide +kernel, by decide +kernel⟩
theorem bdLawPick : ∀ (kV doc pm : Value) (an : Option Addr) (cdv ct : Value) (us : List Value), us.length = (["_law_row", "_law_things"] : List Str).length → bindArgs (PySem.W.fnOf "_law_pick" "_law_pick" (defArgs sLawPick) (defBody sLawPick) (defScope sLawPick) .none kV doc pm an cdv ct) ⟨us, []⟩ = pure ((["_law_row", "_law_things"] : List Str).zip us) := fun _ _ _ _ _ _ us hl => match us, hl with | [_, _], _ => rfl
theorem ok_law_pick (T : Tx K mg) (FLawTaken : HTaken P w K mg base) : HPick P w K mg base := by
  refine has_sp T.fLawPick scLawPick (fun vs H Q E ⟨G, p, a, row, ws, h, _, _, _, _, hd, _⟩ => by rw [h, List.length_cons, hd.length]; rfl) bdLawPick fun f cdv A outer s H vs Q E hr ⟨G, p, ds, row, ws, hvs, eg, hn, hp, hrow, hda, hpre, q⟩ => ⟨_, (pss_one (ps_ret (pe_ix ix_list (pv 1) (pe_callH FLawTaken (hr.mono (by decide)) (pa_cons (pv 0) (pa_cons (pe_callB call_len_seq (by rfl) T.len bb_len (pa_cons (pv 1) pa_nil)) pa_nil))) (fun _ _ => rfl)))), ?_⟩
  subst hvs
  obtain ⟨v, rfl, hv⟩ := args1 hda
  obtain ⟨hne, hlen⟩ := hpre
  have hpos := List.length_pos_iff.mpr hne
  refine ⟨v, rfl, rw_taken (RSt.start eg hn hp hrow) rfl (ed_lenL (ds := ds) (ed_var rfl hv)) (by omega) (by omega) _ fun u G' H' d s hd ⟨n, hlt, e⟩ => ?_⟩
  subst e
  obtain ⟨a, xs, rfl, h1, h2⟩ := hv.list_inv
  have hin : ds[n]? = some ds[n] := List.getElem?_eq_getElem (by omega)
  obtain ⟨x, hx, dx⟩ := h2.get hin
  exact ⟨a, xs, (n : Nat), x, rfl, hd.int_inv, .inl (.inl (s.go.gh _ _ (s.go.gg _ _ h1))), atI_nat hx, q x G' H' _ s (dx.mono s.go.gg) (List.mem_of_getElem? hin)⟩
def spLawHouse (K : PySem.W.Frag) : Sp := spRow K (fun _ : Unit => [dN 6]) (fun _ => True) fun _ d => ∃ n dd, d = dHouse n dd ∧ 1 ≤ n ∧ n ≤ 6 ∧ dd.Sublist (prsTo n n)
abbrev HLawHouse (P : Program) (w : World) (K : PySem.W.Frag) (mg : Str → Option Value) (base : Heap) := Has P w K mg base 2 "_law_house" ["_law_row", "_law_most"] (spLawHouse K)
theorem scLawHouse : FnScope ["_law_row", "_law_most", "_law_size", "_law_one", "_law_part", "_law_doors", "_law_other"] ["_law_row", "_law_most"] (defScope sLawHouse) := ⟨rfl, rfl, rfl, by decide +kernel, rfl, by decide +kernel, by decide +kernel⟩
theorem bdLawHouse : ∀ (kV doc pm : Value) (an : Option Addr) (cdv ct : Value) (us : List Value), us.length = (["_law_row", "_law_most"] : List Str).length → bindArgs (PySem.W.fnOf "_law_house" "_law_house" (defArgs sLawHouse) (defBody sLawHouse) (defScope sLawHouse) .none kV doc pm an cdv ct) ⟨us, []⟩ = pure ((["_law_row", "_law_most"] : List Str).zip us) := fun _ _ _ _ _ _ us hl => match us, hl with | [_, _], _ => rfl
theorem ok_law_house (T : Tx K mg) (FLawTaken : HTaken P w K mg base) : HLawHouse P w K mg base := by
  refine has_sp T.fLawHouse scLawHouse (fun vs H Q E ⟨G, p, a, row, ws, h, _, _, _, _, hd, _⟩ => by rw [h, List.length_cons, hd.length]; rfl) bdLawHouse fun f cdv A outer s H vs Q E hr ⟨G, p, _, row, ws, hvs, eg, hn, hp, hrow, hda, _, q⟩ => ⟨_, (pss_cons (ps_set (i := 2) scLawHouse.nd rfl (by first | exact Or.inl rfl | exact Or.inr rfl) (pe_op op_add pe_int (pe_callH FLawTaken (hr.mono (by decide)) (pa_cons (pv 0) (pa_cons (pv 1) pa_nil)))))
      (pss_cons (ps_par (i := 4) (j := 5) (by rfl) scLawHouse.nd rfl rfl (by decide) rfl rfl (pa_cons (pe_op op_add pe_int (pe_callH FLawTaken (hr.mono (by decide)) (pa_cons (pv 0) (pa_cons pe_int pa_nil)))) (pa_cons (pe_lst pa_nil) pa_nil)) (by rfl))
      (pss_cons (ps_for PassesOwn.never rfl (pi_range1 (by rfl) T.range (pa_cons (pv 2) pa_nil)) (pg_name (i := 3) scLawHouse.nd rfl (by first | exact Or.inl rfl | exact Or.inr rfl)) (pss_one (ps_for PassesOwn.never rfl (pi_range2 (by rfl) T.range (pa_cons (pe_op op_add (pv 3) pe_int) (pa_cons (pv 2) pa_nil))) (pg_name (i := 6) scLawHouse.nd rfl (by first | exact Or.inl rfl | exact Or.inr rfl)) (pss_one (ps_if (pt_cmpR op_lt (pe_callH FLawTaken (hr.mono (by decide)) (pa_cons (pv 0) (pa_cons pe_int pa_nil))) (pv 4) (nomark _)) (pss_one (ps_expr (pe_bm PySem.F.plainAttrs_list PySem.F.slot_list_append PySem.F.type_list_append mt_append (pv 5) (pa_cons (pe_tup (pa_cons (pv 3) (pa_cons (pv 6) pa_nil))) pa_nil)))) pss_nil)))))
      (pss_one (ps_ret (pe_tup (pa_cons (pv 2) (pa_cons (pe_callTy call_tuple_of (by rfl) T.tuple bb_tuple (pa_cons (pv 5) pa_nil)) pa_nil)))))))), ?_⟩
  subst hvs
  obtain ⟨v, rfl, hv⟩ := args1 hda
  have s0 := RSt.start eg hn hp hrow
  refine rq_raw ?_
  refine rw_add1 (rw_taken s0 rfl (ed_var (i := 1) rfl hv) (m := 6) (by decide) (by decide)) _ fun v2 G1 H1 d1 s1 hv2 ⟨n', hn', e⟩ => ?_
  subst e
  have hsz : n' + 1 ≤ 6 := by omega
  refine rw_add1 (rw_taken (RSt.start s1.go.gh s1.hn s1.row.choose_spec.1 s1.row.choose_spec.2) (i := 0) rfl (m := 4) ed_i (by decide) (by decide)) _ fun v4 G2 H2 d2 s2' hv4 ⟨n4, _, e4⟩ => ?_
  subst e4
  have s2 := s1.tr rem_self s2'
  refine ⟨Nat.zero_le _, fun qa hqa => ⟨_, _, rfl, ?_⟩⟩
  have hqp : qa ≠ p := fun e => by
    obtain ⟨row, h1, _⟩ := s2.row
    rw [e, h1] at hqa; cases hqa
  have hq0 : rem p H qa = none := nb_back s2.go.hh hqa
  have hq2 : G2 qa = none := nb_back s2.go.gh hqa
  have s3 : RSt K G (rem p H) p G2 (upd H2 qa (.lst [])) := s2.mut hq0 hq2 hqp
  have hv2' := hv2.mono s2'.go.gg
  have hi2 := hv2.int_inv
  have hi4 := hv4.int_inv
  subst hi2; subst hi4
  refine r_forR (n' + 1) (by rw [line]; omega) (es_cons (ed_var (i := 2) rfl hv2') es_nil) s3.go.gh fun G3 H3 g3 => ?_
  refine ⟨fun i σ' H' => ∃ G' dd acc b3 b6, RSt K G (rem p H) p G' H' ∧ G' qa = none ∧ H' qa = some (.lst acc) ∧ DaAll G' acc (dd.map dDoor) ∧ dd.Sublist (prsTo (n' + 1) i) ∧ σ' = [some (.ref p), some v, some (.int ((n' + 1 : Nat) : Int)), b3, some (.int ((n4 + 1 : Nat) : Int)), some (.ref qa), b6],
    ⟨G3, [], [], none, none, s3.step g3, g3.keepN hq2 upd_same, g3.hh _ _ upd_same, .nil, List.nil_sublist _, rfl⟩, ?_, ?_⟩
  · rintro i σ' H' hi ⟨G', dd, acc, b3, b6, s, hqn, hqh, hda, hsub, rfl⟩
    refine r_name ?_
    refine r_forR2 (i + 1) (n' + 1) (by rw [line]; omega) (by rw [line]; omega) (es_cons (ed_add (a := i) (b := 1) (ed_var (i := 3) rfl (.int _)) ed_i) (es_cons (ed_var (i := 2) rfl (.int _)) es_nil)) s.go.gh fun G4 H4 g4 => ?_
    refine ⟨fun j σ' H' => ∃ G' dd acc b6, RSt K G (rem p H) p G' H' ∧ G' qa = none ∧ H' qa = some (.lst acc) ∧ DaAll G' acc (dd.map dDoor) ∧ dd.Sublist (prsTo (n' + 1) i ++ (List.range j).map fun k => (i, i + 1 + k)) ∧ σ' = [some (.ref p), some v, some (.int ((n' + 1 : Nat) : Int)), some (.int (i : Nat)), some (.int ((n4 + 1 : Nat) : Int)), some (.ref qa), b6],
      ⟨G4, dd, acc, b6, s.step g4, g4.keepN hqn hqh, g4.hh _ _ hqh, hda.mono g4.gg, by simpa using hsub, rfl⟩, ?_, ?_⟩
    · rintro j σ' H' hj ⟨G', dd, acc, b6, s, hqn, hqh, hda, hsub, rfl⟩
      refine r_name ?_
      have hlen : acc.length ≤ 100 := by
        rw [hda.length, List.length_map]
        have h1 := hsub.length_le
        have h2 : (prsTo (n' + 1) i).Sublist (prsTo (n' + 1) (n' + 1)) := by
          have : ∀ k, (prsTo (n' + 1) i).Sublist (prsTo (n' + 1) (i + k)) := fun k => by
            induction k with
            | zero => exact List.Sublist.refl _
            | succ k ih => rw [← Nat.add_assoc, prsTo_more]; exact ih.trans (List.sublist_append_left _ _)
          have := this (n' + 1 - i)
          rwa [show i + (n' + 1 - i) = n' + 1 by omega] at this
        have h3 := (house_of (by omega) hsz h2).1.few
        rw [List.length_append, List.length_map, List.length_range] at h1
        omega
      obtain ⟨row', hr1, hr2⟩ := s.row
      refine rw_if (rw_ltv (rw_taken (RSt.start s.go.gh s.hn hr1 hr2) (i := 0) rfl (m := 5) ed_i (by decide) (by decide)) (k := 4) rfl) fun G5 H5 s5' => ⟨?_, ?_⟩
      · have s5 := s.tr rem_self s5'
        have hq5 := s5'.keep hqp hqh
        have hn5 := s5'.keepN hqp hqh hqn
        refine r_app (i := 5) rfl hq5 hn5 (by rw [line]; omega) (EvD.of (e := dDoor (i, i + 1 + j)) (ed_tup (es_cons (ed_var (i := 3) rfl (.int (i : Nat))) (es_cons (ed_var (i := 6) rfl (.int ((i + 1 + j : Nat) : Int))) es_nil)) (few (by simp))) rfl) s5.go.gh fun nv G6 H6 d6 g6 hn6 hq6 hnv hd6 => ?_
        subst hd6
        refine ⟨G6, dd ++ [(i, i + 1 + j)], acc ++ [nv], _, (s5.step g6).mut hq0 hn6 hqp, hn6, upd_same, ?_, ?_, rfl⟩
        · rw [List.map_append]
          exact (hda.mono (s5'.go.gg.trans g6.gg)).snoc hnv
        · rw [List.range_succ, List.map_append, ← List.append_assoc]
          exact hsub.append (List.Sublist.refl _)
      · have s5 := s.tr rem_self s5'
        refine ⟨G5, dd, acc, _, s5, s5'.keepN hqp hqh hqn, s5'.keep hqp hqh, hda.mono s5'.go.gg, ?_, rfl⟩
        rw [List.range_succ, List.map_append, ← List.append_assoc]
        exact hsub.trans (List.sublist_append_left _ _)
    · rintro σ' H' ⟨G', dd, acc, b6, s, hqn, hqh, hda, hsub, rfl⟩
      exact ⟨G', dd, acc, _, b6, s, hqn, hqh, hda, by rw [prsTo_more]; exact hsub, rfl⟩
  · rintro σ' H' ⟨G', dd, acc, b3, b6, s, hqn, hqh, hda, hsub, rfl⟩
    have s4 := s.pub hq0 hqn hqp hqh
    refine r_ret (ed_tup (es_cons (ed_var (i := 2) (d := dN (n' + 1)) rfl (.int _)) (es_cons (ed_tupleOf (ds := dd.map dDoor) (ed_var (i := 5) rfl (.lst upd_same (hda.mono (Ex.new hqn))))) es_nil)) (few (by simp))) s4.go.gh fun v' G5 H5 d5 g5 hd hd5 => q v' G5 H5 d5 (s4.step g5) hd ⟨n' + 1, dd, hd5, by omega, hsz, hsub⟩
end
end MxP
end
section
set_option Elab.async false
set_option linter.all false
set_option maxRecDepth 100000
set_option maxHeartbeats 4000000
/-! States that the law draws. -/
namespace MxP
open PySem PySem.Spec PyProof.Rows L2 MxT MxL
open Evl (Ex)
open Mx (at_ nb Rows free key done changed)
theorem at_take {s : NSt} {x v i : Nat} (h : i < s.length) : at_ (s.set i v) x = if i = x then v else at_ s x := by
  rw [Mx.at_set]
  by_cases e : i = x
  · subst e; rw [if_pos ⟨rfl, h⟩, if_pos rfl]
  · rw [if_neg (fun q => e q.1), if_neg e]
theorem repFlat : ∀ n : Nat, (List.replicate n [V.int 0]).flatten = (List.replicate n 0).map fun k : Nat => V.int (k : Nat)
  | 0 => rfl
  | n + 1 => by rw [List.replicate_succ, List.flatten_cons, repFlat n]; rfl
theorem rw_pick {K : PySem.W.Frag} {σ : L2.St} {G H : Hp} {te : TE} {p : Addr} {i : Nat} {ds : List PyData} (s : RSt K G (rem p H) p G H) (hs : σ[i]? = some (some (.ref p))) (h : EvD te σ G (.list ds)) (hne : ds ≠ []) (hl : ds.length < 1073741824) : RwR K (tCall (spPick K) [] E0 (tCons (tVar i) (tCons te tNil))) σ G H p (fun d => d ∈ ds) :=
  rw_call (enc := fun ds : List PyData => [.list ds]) (Pre := fun ds => ds ≠ [] ∧ ds.length < 1073741824) (Post := fun ds d => d ∈ ds) ds s hs (es_cons h es_nil) ⟨hne, hl⟩
section
variable {P : Program} {w : World} {K : PySem.W.Frag} {mg : Str → Option Value} {base : Heap}
def spLawParted (K : PySem.W.Frag) : Sp := spRow K (fun a : Ho => [dHouse a.n a.dd, dN 2]) (fun a => 1 ≤ a.n ∧ a.n ≤ 6 ∧ a.dd.Sublist (prsTo a.n a.n)) fun a d => ∃ s, d = dT s ∧ s.length = a.n ∧ (∀ x ∈ s, x ≤ 7) ∧ likes a.dd s = []
abbrev HLawParted (P : Program) (w : World) (K : PySem.W.Frag) (mg : Str → Option Value) (base : Heap) := Has P w K mg base 3 "_law_parted" ["_law_row", "_law_house_here", "_law_top"] (spLawParted K)
theorem scLawParted : FnScope ["_law_row", "_law_house_here", "_law_top", "_law_room", "_law_rows", "_law_state", "_law_taken_here", "_law_fit", "_law_other", "_law_number"] ["_law_row", "_law_house_here", "_law_top"] (defScope sLawParted) := ⟨rfl, rfl, rfl, by decide +kernel, rfl, by decide +kernel, by decide +kernel⟩
theorem bdLawParted : ∀ (kV doc pm : Value) (an : Option Addr) (cdv ct : Value) (us : List Value), us.length = (["_law_row", "_law_house_here", "_law_top"] : List Str).length → bindArgs (PySem.W.fnOf "_law_parted" "_law_parted" (defArgs sLawParted) (defBody sLawParted) (defScope sLawParted) .none kV doc pm an cdv ct) ⟨us, []⟩ = pure ((["_law_row", "_law_house_here", "_law_top"] : List Str).zip us) := fun _ _ _ _ _ _ us hl => match us, hl with | [_, _, _], _ => rfl
theorem ok_law_parted (T : Tx K mg) (FLawNear : HLawNear P w K mg base) (FLawPick : HPick P w K mg base) : HLawParted P w K mg base := by
  refine has_sp T.fLawParted scLawParted (fun vs H Q E ⟨G, p, a, row, ws, h, _, _, _, _, hd, _⟩ => by rw [h, List.length_cons, hd.length]; rfl) bdLawParted fun f cdv A outer s H vs Q E hr ⟨G, p, ⟨n, dd⟩, row, ws, hvs, eg, hn, hp, hrow, hda, hpre, q⟩ => ⟨_, (pss_cons (ps_asg (pe_tup (pa_cons (pe_callH FLawNear (hr.mono (by decide)) (pa_cons (pv 1) pa_nil)) (pa_cons (pe_op op_rep (pe_lst (pa_cons pe_int pa_nil)) (pe_ix ix_tup (pv 1) pe_int (fun _ _ => rfl))) pa_nil))) (pg_tup rfl (pgs_cons (pg_name (i := 4) scLawParted.nd rfl (by first | exact Or.inl rfl | exact Or.inr rfl)) (pgs_cons (pg_name (i := 5) scLawParted.nd rfl (by first | exact Or.inl rfl | exact Or.inr rfl)) pgs_nil))))
      (pss_cons (ps_for PassesOwn.never rfl (pi_range1 (by rfl) T.range (pa_cons (pe_ix ix_tup (pv 1) pe_int (fun _ _ => rfl)) pa_nil)) (pg_name (i := 3) scLawParted.nd rfl (by first | exact Or.inl rfl | exact Or.inr rfl)) (pss_cons (ps_set (i := 6) scLawParted.nd rfl (by first | exact Or.inl rfl | exact Or.inr rfl) (pe_lc (own := [("_law_other", 8)]) rfl scLawParted.nd (pi_list (pe_ix ix_list (pv 4) (pv 3) (fun _ _ => rfl))) (blkOk_by (by kernel_rfl)) (fun _ _ _ _ _ => (pg_name (i := 8) scLawParted.nd rfl (by first | exact Or.inl rfl | exact Or.inr rfl))) (fun _ _ _ _ _ => (pts_one (pt_cmpR op_lt (pv 8) (pv 3) (nomark _)))) (fun _ _ _ _ _ => (pe_ix (ix_listK (K := K)) (pv 5) (pv 8) (fun _ _ => rfl)))))
      (pss_cons (ps_setLc (i := 7) (own := [("_law_number", 9)]) rfl scLawParted.nd rfl rfl (sw_true rfl rfl rfl (by decide +kernel)) (pi_range1 (by rfl) T.range (pa_cons (pe_op op_add (pe_op op_add (pv 2) pe_int) (pe_callB call_len_seq (by rfl) T.len bb_len (pa_cons (pv 6) pa_nil))) pa_nil)) (blkOk_by (by kernel_rfl)) (fun _ _ _ _ _ => (pg_name (i := 9) scLawParted.nd rfl (by first | exact Or.inl rfl | exact Or.inr rfl))) (fun _ _ _ _ _ => (pts_one (pt_cmpR (op_notIn_seqK (K := K)) (pv 9) (pv 6) (by rfl)))) (fun _ _ _ _ _ => (pv 9)))
      (pss_one (ps_asg (pe_callH FLawPick (hr.mono (by decide)) (pa_cons (pv 0) (pa_cons (pv 7) pa_nil))) (pg_sub (pv 5) (pv 3) set_list))))))
      (pss_one (ps_ret (pe_callTy call_tuple_of (by rfl) T.tuple bb_tuple (pa_cons (pv 5) pa_nil)))))), ?_⟩
  subst hvs
  obtain ⟨v, v2, rfl, hv, h2⟩ := args2 hda
  obtain ⟨hn1, hn6, hsub⟩ := hpre
  simp only at hn1 hn6 hsub
  obtain ⟨ho, hdeg⟩ := house_of hn1 hn6 hsub
  have hadj := adj_law ho
  have hg := hadj.grb ho
  have hnb : ∀ x, x < n → (nb (lawRows n dd) x).length ≤ 5 := fun x hx => by
    show (nb ((List.range n).map (rowL dd)) x).length ≤ 5
    rw [nb_map hx]; exact hdeg x hx
  have s0 := RSt.start eg hn hp hrow
  have hv : Da G v (dHouse n dd) := hv
  have h2 : Da G v2 (dN 2) := h2
  refine ed_callA (⟨n, dd⟩ : Ho) (es_cons (ed_var (i := 1) rfl hv) es_nil) ho (fun d hd => hd) H eg _ fun rw G1 H1 d1 g1 hrw e1 => ?_
  subst e1
  have s1 := s0.step g1
  refine ⟨few (by simp), fun lz hlz => ?_⟩
  have s2 := s1.step (Go.priv (o := .lst [.int 0]) s1.go.gh hlz)
  refine (ev_int (ed_h0 (n := n) (ds := dd) (ed_var (i := 1) rfl (hv.mono g1.gg)))) _ s2.go.gh _ fun H2 e2 => ?_
  have s3 := s2.ext e2
  have hlz2 : H2 lz = some (.lst [.int 0]) := e2 _ _ upd_same
  refine ⟨lz, (n : Nat), [.int 0], rfl, rfl, hlz2, by omega, by omega, by rw [line]; simp; omega, fun qa hqa => ?_⟩
  have hrep : (List.replicate ((n : Nat) : Int).toNat [V.int 0]).flatten = (List.replicate n 0).map fun k : Nat => V.int (k : Nat) := by
    have : ((n : Nat) : Int).toNat = n := by omega
    rw [this]
    exact repFlat n
  rw [hrep]
  have hqp : qa ≠ p := fun e => by
    obtain ⟨row, h1, _⟩ := s3.row
    rw [e, h1] at hqa; cases hqa
  have hq0 : rem p H qa = none := nb_back s3.go.hh hqa
  have hq1 : G1 qa = none := nb_back s3.go.gh hqa
  refine ⟨few (by simp), fun Tt hTt => ?_⟩
  have hTq : qa ≠ Tt := fun e => by rw [← e, upd_same] at hTt; cases hTt
  refine ⟨Tt, _, rfl, .inl (.inl upd_same), rfl, rw, _, rfl, .ref qa, [], rfl, rfl, ?_⟩
  have s4 : RSt K G (rem p H) p G1 _ := (s3.mut (o := .lst ((List.replicate n 0).map fun k : Nat => V.int (k : Nat))) hq0 hq1 hqp).ext (Ex.new (o := .tup [rw, .ref qa]) hTt)
  have hq4 : (upd (upd H2 qa (.lst ((List.replicate n 0).map fun k : Nat => V.int (k : Nat)))) Tt (.tup [rw, .ref qa])) qa = some (.lst ((List.replicate n 0).map fun k : Nat => V.int (k : Nat))) := by rw [upd_ne hTq, upd_same]
  generalize upd (upd H2 qa (.lst ((List.replicate n 0).map fun k : Nat => V.int (k : Nat)))) Tt (.tup [rw, .ref qa]) = H4 at s4 hq4
  refine r_forR n (by rw [line]; omega) (es_cons (ed_h0 (n := n) (ds := dd) (ed_var (i := 1) rfl (hv.mono g1.gg))) es_nil) s4.go.gh fun G5 H5 g5 => ?_
  refine ⟨fun i σ' H' => ∃ G' st acc b3 b6 b7, RSt K G (rem p H) p G' H' ∧ Ex G1 G' ∧ G' qa = none ∧ H' qa = some (.lst acc) ∧ DaAll G' acc (st.map dN) ∧ st.length = n ∧ (∀ x ∈ st, x ≤ 7) ∧ (∀ x y, x < i → y < i → y ∈ nb (lawRows n dd) x → at_ st x ≠ at_ st y) ∧ σ' = [some (.ref p), some v, some v2, b3, some rw, some (.ref qa), b6, b7, none, none],
    ⟨G5, List.replicate n 0, _, none, none, none, s4.step g5, g5.gg, g5.keepN hq1 hq4, g5.hh _ _ hq4, ?_, by simp, fun x hx => ?_, fun x y hx => absurd hx (Nat.not_lt_zero _), rfl⟩, ?_, ?_⟩
  · have := DaAll.range G5 (List.replicate n 0)
    exact this
  · have := List.eq_of_mem_replicate hx
    omega
  · rintro i σ' H' hi ⟨G', st, acc, b3, b6, b7, s, e, hqn, hqh, hda, hlen, hle, hpt, rfl⟩
    have hrw' := hrw.mono e
    have hv' := hv.mono (g1.gg.trans e)
    have h2' := h2.mono (g1.gg.trans e)
    refine r_name ?_
    have hacc : acc.length = n := by rw [hda.length, List.length_map, hlen]
    have hnbi := hnb i hi
    generalize hTT : ((nb (lawRows n dd) i).filter fun o => decide (o < i)).map (at_ st) = TT
    have hTl : TT.length ≤ 5 := by
      rw [← hTT, List.length_map]
      exact Nat.le_trans (List.length_filter_le _ _) hnbi
    refine rq_asgA (G := G') (Φ := fun d => d = dL TT) ?_ fun tv G6 H6 d6 g6 htv hd6 => ?_
    · refine AtD.of (at_lcL (nb (lawRows n dd) i) dN (fun o => decide (o < i)) (fun o => dN (at_ st o)) (few (by omega)) (at_d (ed_row (by rw [hg.gr.len]; exact hi) (ed_var (i := 4) rfl hrw') (ed_var (i := 3) rfl (.int _))) s.go.gh) (fun _ => rfl) (fun o u G7 H7 hm g7 hu => ?_) fun o u G7 H7 hm _ g7 hu => ?_) (by rw [← hTT]; unfold dL; rw [List.map_map]; rfl)
      · exact at_t (et_test (ed_lt (ed_var (i := 8) rfl hu) (ed_var (i := 3) rfl (.int _)))) g7.gh
      · have hon := (hg.gr.lt i o hm).1
        have hin : (st.map dN)[o]? = some (dN (at_ st o)) := by rw [List.getElem?_map, Mx.at_lt (by omega)]; rfl
        obtain ⟨x, hx, dx⟩ := hda.get hin
        exact at_ixO (j := ((o : Nat) : Int)) (i := 5) rfl (g7.hh _ _ hqh) (atI_nat hx) (dx.mono g7.gg) (ed_var (i := 8) rfl hu) g7.gh
    · subst hd6
      have s6 := s.step g6
      have hlenT : (TT.map dN).length = TT.length := List.length_map ..
      refine rq_asg (Φ := fun d => d = dL ((List.range (3 + TT.length)).filter fun x => !decide (x ∈ TT))) (EvD.of (ed_lcR (3 + TT.length) (fun x => !decide (x ∈ TT)) dN (few (by omega)) (es_cons (ed_add (a := 3) (b := TT.length) (ed_add (a := 2) (b := 1) (ed_var (i := 2) rfl (h2'.mono g6.gg)) ed_i) (EvD.of (ed_lenL (ds := TT.map dN) (ed_var (i := 6) rfl htv)) (by rw [hlenT]; rfl))) es_nil) (fun _ => rfl) (fun x G7 hx eG => et_test (ed_ninLN (ed_var (i := 9) rfl (.int _)) (ed_var (i := 6) rfl (htv.mono eG)))) fun x G7 hx _ eG => ed_var (i := 9) rfl (.int _)) rfl) s6.go.gh fun fv G7 H7 d7 g7 hfv hd7 => ?_
      subst hd7
      have s7 := s6.step g7
      generalize hFF : ((List.range (3 + TT.length)).filter fun x => !decide (x ∈ TT)) = FF at hfv
      have hFm : ∀ x ∈ FF, x ≤ 7 ∧ x ∉ TT := fun x hx => by
        rw [← hFF] at hx
        obtain ⟨a, b⟩ := List.mem_filter.mp hx
        have := List.mem_range.mp a
        exact ⟨by omega, by simpa using b⟩
      have hFne : FF ≠ [] := fun e0 => by
        rw [← hFF, List.filter_eq_nil_iff] at e0
        have := Mx.nodup_len (l := List.range (3 + TT.length)) (m := TT) List.nodup_range (fun x hx => by have := e0 x hx; simpa using this)
        rw [List.length_range] at this
        omega
      have hFl : FF.length ≤ 8 := by
        rw [← hFF]
        have := List.length_filter_le (fun x => !decide (x ∈ TT)) (List.range (3 + TT.length))
        rw [List.length_range] at this
        omega
      obtain ⟨row', hr1, hr2⟩ := s7.row
      refine rw_pick (ds := FF.map dN) (RSt.start s7.go.gh s7.hn hr1 hr2) (i := 0) rfl (ed_var (i := 7) rfl hfv) (by simpa using hFne) (by rw [List.length_map]; omega) _ fun nv G8 H8 d8 s8' hnv hd8 => ?_
      obtain ⟨x, hxF, rfl⟩ := List.mem_map.mp hd8
      obtain ⟨hx7, hxT⟩ := hFm x hxF
      have s8 := s7.tr rem_self s8'
      have hq6 := g6.hh _ _ hqh
      have hn6' := g6.keepN hqn hqh
      have hq7 := g7.hh _ _ hq6
      have hn7 := g7.keepN hn6' hq6
      have hq8 := s8'.keep hqp hq7
      have hn8 := s8'.keepN hqp hq7 hn7
      refine ⟨.ref qa, rfl, .int (i : Nat), rfl, qa, acc, (i : Nat), i, rfl, rfl, hq8, Evl.ixN_nat (by omega), ?_⟩
      refine ⟨G8, st.set i x, acc.set i nv, _, _, _, s8.mut hq0 hn8 hqp, e.trans ((g6.gg.trans g7.gg).trans s8'.go.gg), hn8, upd_same, ?_, by rw [List.length_set]; exact hlen, fun y hy => ?_, fun a b ha hb hab => ?_, rfl⟩
      · rw [List.map_set]
        exact DaAll.set hnv i (hda.mono ((g6.gg.trans g7.gg).trans s8'.go.gg))
      · rcases List.mem_or_eq_of_mem_set hy with z | z
        · exact hle y z
        · omega
      · rw [at_take (by omega), at_take (by omega)]
        have hne := hg.gr.ne _ _ hab
        by_cases ea : i = a
        · subst ea
          rw [if_pos rfl, if_neg (fun q => hne q.symm)]
          intro ex
          refine hxT ?_
          rw [ex, ← hTT]
          exact List.mem_map.mpr ⟨b, List.mem_filter.mpr ⟨hab, decide_eq_true (by omega)⟩, rfl⟩
        · by_cases eb : i = b
          · subst eb
            rw [if_neg ea, if_pos rfl]
            intro ex
            refine hxT ?_
            rw [← ex, ← hTT]
            exact List.mem_map.mpr ⟨a, List.mem_filter.mpr ⟨hg.gr.sym _ _ hab, decide_eq_true (by omega)⟩, rfl⟩
          · rw [if_neg ea, if_neg eb]
            exact hpt a b (by omega) (by omega) hab
  · rintro σ' H' ⟨G', st, acc, b3, b6, b7, s, e, hqn, hqh, hda, hlen, hle, hpt, rfl⟩
    have s9 := s.pub hq0 hqn hqp hqh
    refine r_ret (ed_tupleOf (ds := st.map dN) (ed_var (i := 5) rfl (.lst upd_same (hda.mono (Ex.new hqn))))) s9.go.gh fun v' G6 H6 d6 g6 hd hd6 => q v' G6 H6 d6 (s9.step g6) hd ⟨st, hd6, hlen, hle, (parted_of hadj).mpr fun x y hxy => ?_⟩
    obtain ⟨ha, hb⟩ := hg.gr.lt x y hxy
    exact hpt x y hb ha hxy
end
end MxP
end
section
set_option linter.all false
/-! Mexrooms, plain law, part C: the search by layers. -/
namespace Mx
section
variable {n : Nat} {rows : Rows}
theorem done_snoc (s : St) (ks : List Nat) (x : Nat) : done rows s (ks ++ [x]) = key rows (done rows s ks) x := by rw [done_append]; rfl
theorem free_le_at {s : St} {x : Nat} (hp : Parted rows s) : free rows s x ≤ at_ s x := by
  apply Nat.le_of_not_lt
  intro h
  obtain ⟨y, hy, e⟩ := List.mem_map.mp ((mex_is ((nb rows x).map (at_ s))).2 _ h)
  exact hp x y hy e.symm
theorem key_parted (g : Gr n rows) {s : St} (hl : s.length = n) {x : Nat} (hp : Parted rows s) : Parted rows (key rows s x) := by
  intro a b hb
  have hx := (mex_is ((nb rows x).map (at_ s))).1
  have hne := g.ne a b hb
  obtain ⟨hbn, han⟩ := g.lt a b hb
  rw [key_at, key_at]
  by_cases ea : x = a
  · subst ea
    rw [if_pos ⟨rfl, by omega⟩, if_neg (fun q => hne q.1.symm)]
    intro e
    exact hx (List.mem_map.mpr ⟨b, hb, e.symm⟩)
  · rw [if_neg (fun q => ea q.1)]
    by_cases eb : x = b
    · subst eb
      rw [if_pos ⟨rfl, by omega⟩]
      intro e
      exact hx (List.mem_map.mpr ⟨a, g.sym _ _ hb, e⟩)
    · rw [if_neg (fun q => eb q.1)]
      exact hp a b hb
theorem key_le {s : St} {x : Nat} (hp : Parted rows s) : Le (key rows s x) s := fun y => by
  rw [key_at]
  split
  · rename_i h; rw [← h.1]; exact free_le_at hp
  · exact Nat.le_refl _
def Reach (n : Nat) (rows : Rows) (S : St) (k : Nat) (s : St) : Prop := ∃ ks : List Nat, ks.length = k ∧ (∀ x ∈ ks, x < n) ∧ done rows S ks = s
def IsDist (n : Nat) (rows : Rows) (S : St) (s : St) (k : Nat) : Prop := Reach n rows S k s ∧ ∀ j, j < k → ¬ Reach n rows S j s
variable {S : St}
theorem IsDist.uniq {s : St} {j k : Nat} (a : IsDist n rows S s j) (b : IsDist n rows S s k) : j = k := by
  rcases Nat.lt_trichotomy j k with h | h | h
  · exact absurd a.1 (b.2 j h)
  · exact h
  · exact absurd b.1 (a.2 k h)
theorem Reach.least {s : St} : ∀ {k : Nat}, Reach n rows S k s → ∃ j, j ≤ k ∧ IsDist n rows S s j := by
  intro k
  induction k using Nat.strongRecOn with
  | ind k ih =>
    intro h
    by_cases q : ∃ j, j < k ∧ Reach n rows S j s
    · obtain ⟨j, hj, hr⟩ := q
      obtain ⟨i, hi, hd⟩ := ih j hj hr
      exact ⟨i, by omega, hd⟩
    · exact ⟨k, Nat.le_refl _, h, fun j hj hr => q ⟨j, hj, hr⟩⟩
theorem Reach.snoc {s : St} {k x : Nat} (h : Reach n rows S k s) (hx : x < n) : Reach n rows S (k + 1) (key rows s x) := by
  obtain ⟨ks, h1, h2, h3⟩ := h
  refine ⟨ks ++ [x], by rw [List.length_append, h1]; rfl, fun y hy => ?_, by rw [done_snoc, h3]⟩
  rcases List.mem_append.mp hy with q | q
  · exact h2 y q
  · have : y = x := by simpa using q
    omega
theorem Reach.append {s : St} {k : Nat} (h : Reach n rows S k s) (ls : List Nat) (hl : ∀ x ∈ ls, x < n) : Reach n rows S (k + ls.length) (done rows s ls) := by
  obtain ⟨ks, h1, h2, h3⟩ := h
  refine ⟨ks ++ ls, by rw [List.length_append, h1], fun y hy => ?_, by rw [done_append, h3]⟩
  rcases List.mem_append.mp hy with q | q
  · exact h2 y q
  · exact hl y q
theorem Reach.last {s : St} {k : Nat} (h : Reach n rows S (k + 1) s) : ∃ t x, x < n ∧ Reach n rows S k t ∧ s = key rows t x := by
  obtain ⟨ks, h1, h2, h3⟩ := h
  have hne : ks ≠ [] := fun e => by rw [e] at h1; cases h1
  have e := List.dropLast_concat_getLast hne
  refine ⟨done rows S ks.dropLast, ks.getLast hne, h2 _ (List.getLast_mem hne), ⟨ks.dropLast, by rw [List.length_dropLast]; omega, fun x hx => h2 x (List.dropLast_subset _ hx), rfl⟩, ?_⟩
  rw [← h3]
  conv => lhs; rw [← e]
  rw [done_snoc]
theorem IsDist.prefix {s : St} {k m : Nat} (h : IsDist n rows S s k) (hm : m ≤ k) : ∃ t, IsDist n rows S t m := by
  obtain ⟨ks, h1, h2, h3⟩ := h.1
  have hd : ∀ x ∈ ks.drop m, x < n := fun x hx => h2 x (List.mem_of_mem_drop hx)
  have hs : done rows (done rows S (ks.take m)) (ks.drop m) = s := by rw [← done_append, List.take_append_drop]; exact h3
  refine ⟨done rows S (ks.take m), ⟨ks.take m, by rw [List.length_take]; omega, fun x hx => h2 x (List.mem_of_mem_take hx), rfl⟩, fun j hj hr => ?_⟩
  have := hr.append (ks.drop m) hd
  rw [hs, List.length_drop] at this
  exact h.2 _ (by omega) this
theorem reach_ok (g : Gr n rows) (hS : S.length = n) (hp : Parted rows S) : ∀ {k : Nat} {s : St}, Reach n rows S k s → s.length = n ∧ Parted rows s ∧ Le s S
  | 0, s, ⟨ks, h1, h2, h3⟩ => by
    have : ks = [] := List.length_eq_zero_iff.mp h1
    subst this
    have : S = s := h3
    subst this
    exact ⟨hS, hp, fun x => Nat.le_refl _⟩
  | k + 1, s, h => by
    obtain ⟨t, x, hx, hr, rfl⟩ := h.last
    obtain ⟨a, b, c⟩ := reach_ok g hS hp hr
    exact ⟨by rw [key_len]; exact a, key_parted g a b, fun y => Nat.le_trans (key_le b y) (c y)⟩
/-- how far a rest below is -/
theorem rest_dist {R : St} {ks : List Nat} (hS : S.length = n) (h : Right rows R S ks) : IsDist n rows S R (changed R S).length := by
  refine ⟨⟨ks, h.len, fun x hx => ?_, h.2.2⟩, fun j hj ⟨ls, h1, h2, h3⟩ => ?_⟩
  · have := (mem_changed.mp ((h.2.1 x).mp hx)).1; omega
  · have := nodup_len (l := changed R S) (m := ls) (changed_nodup R S) (fun x hx => by
      by_cases hm : x ∈ ls
      · exact hm
      · have e := done_other (rows := rows) (s := S) hm
        rw [h3] at e
        have := (mem_changed.mp hx).2
        omega)
    omega
end
/-! ### all the states below one -/
def below : St → List St
  | [] => [[]]
  | v :: s => (List.range (v + 1)).flatMap fun a => (below s).map (a :: ·)
theorem mem_below : ∀ {s t : St}, t.length = s.length → Le t s → t ∈ below s
  | [], [], _, _ => by simp [below]
  | v :: s, a :: t, hl, hle => by
    have h0 : a ≤ v := hle 0
    have hr : Le t s := fun x => hle (x + 1)
    unfold below
    exact List.mem_flatMap.mpr ⟨a, List.mem_range.mpr (by omega), List.mem_map.mpr ⟨t, mem_below (by simpa using hl) hr, rfl⟩⟩
  | [], _ :: _, h, _ => by cases h
  | _ :: _, [], h, _ => by cases h
theorem flatMap_len {α β : Type} (f : α → List β) (c : Nat) : ∀ l : List α, (∀ a ∈ l, (f a).length = c) → (l.flatMap f).length = l.length * c
  | [], _ => by simp
  | a :: l, h => by
    rw [List.flatMap_cons, List.length_append, h a List.mem_cons_self, flatMap_len f c l fun b hb => h b (List.mem_cons_of_mem _ hb), List.length_cons, Nat.succ_mul]
    omega
theorem below_len : ∀ {s : St}, (∀ x ∈ s, x ≤ 7) → (below s).length ≤ 8 ^ s.length
  | [], _ => Nat.le_refl 1
  | v :: s, h => by
    have hv := h v List.mem_cons_self
    have ih := below_len fun x hx => h x (List.mem_cons_of_mem _ hx)
    unfold below
    rw [flatMap_len (fun a => (below s).map (a :: ·)) (below s).length _ (fun a _ => List.length_map ..), List.length_range, List.length_cons, Nat.pow_succ, Nat.mul_comm]
    exact Nat.mul_le_mul ih (by omega)
/-! ### the layers -/
section
variable {n : Nat} {rows : Rows} {S : St}
structure Bf (n : Nat) (rows : Rows) (S : St) (m : Nat) (found : List (St × Nat)) (last : List St) : Prop where
  nd : (found.map Prod.fst).Nodup
  ok : ∀ s k, (s, k) ∈ found → IsDist n rows S s k ∧ k ≤ m
  all : ∀ s k, k ≤ m → IsDist n rows S s k → (s, k) ∈ found
  la : ∀ s, s ∈ last ↔ IsDist n rows S s m
structure Bm (n : Nat) (rows : Rows) (S : St) (m : Nat) (found : List (St × Nat)) (fresh : List St) : Prop where
  nd : (found.map Prod.fst).Nodup
  ok : ∀ s k, (s, k) ∈ found → IsDist n rows S s k ∧ k ≤ m + 1
  all : ∀ s k, k ≤ m → IsDist n rows S s k → (s, k) ∈ found
  fr : ∀ s, s ∈ fresh ↔ (s, m + 1) ∈ found
  le : fresh.length ≤ found.length
theorem Bf.start : Bf n rows S 0 [(S, 0)] [S] := by
  have h0 : IsDist n rows S S 0 := ⟨⟨[], rfl, fun x hx => (by cases hx), rfl⟩, fun j hj => absurd hj (Nat.not_lt_zero _)⟩
  have h1 : ∀ s, IsDist n rows S s 0 → s = S := fun s ⟨⟨ks, e, _, h⟩, _⟩ => by
    have : ks = [] := List.length_eq_zero_iff.mp e
    subst this; exact h.symm
  refine ⟨by simp, fun s k h => ?_, fun s k hk h => ?_, fun s => ?_⟩
  · have : (s, k) = (S, 0) := by simpa using h
    cases this
    exact ⟨h0, Nat.le_refl _⟩
  · have : k = 0 := by omega
    subst this
    rw [h1 s h]; simp
  · constructor
    · intro h
      have : s = S := by simpa using h
      subst this; exact h0
    · intro h; rw [h1 s h]; simp
theorem Bf.to {m : Nat} {found : List (St × Nat)} {last : List St} (b : Bf n rows S m found last) : Bm n rows S m found [] :=
  ⟨b.nd, fun s k h => ⟨(b.ok s k h).1, by have := (b.ok s k h).2; omega⟩, b.all, fun s => ⟨fun h => (by cases h), fun h => (by have := (b.ok _ _ h).2; omega)⟩, Nat.zero_le _⟩
theorem Bm.add {m : Nat} {found : List (St × Nat)} {fresh : List St} {h : St} {x : Nat} (b : Bm n rows S m found fresh) (hh : IsDist n rows S h m) (hx : x < n) (hn : key rows h x ∉ found.map Prod.fst) :
    Bm n rows S m (found ++ [(key rows h x, m + 1)]) (fresh ++ [key rows h x]) := by
  have hd : IsDist n rows S (key rows h x) (m + 1) := ⟨hh.1.snoc hx, fun j hj hr => by
    obtain ⟨i, hi, hd⟩ := hr.least
    exact hn (List.mem_map.mpr ⟨_, b.all _ i (by omega) hd, rfl⟩)⟩
  refine ⟨?_, fun s k hk => ?_, fun s k hk hd' => List.mem_append_left _ (b.all s k hk hd'), fun s => ?_, by have := b.le; simp; omega⟩
  · rw [List.map_append, List.nodup_append]
    refine ⟨b.nd, by simp, fun a ha c hc e => ?_⟩
    have : c = key rows h x := by simpa using hc
    subst this; subst e; exact hn ha
  · rcases List.mem_append.mp hk with q | q
    · exact b.ok s k q
    · have : (s, k) = (key rows h x, m + 1) := by simpa using q
      cases this
      exact ⟨hd, Nat.le_refl _⟩
  · rw [List.mem_append, List.mem_append, b.fr s]
    constructor
    · rintro (q | q)
      · exact .inl q
      · have : s = key rows h x := by simpa using q
        subst this; exact .inr (by simp)
    · rintro (q | q)
      · exact .inl q
      · have : (s, m + 1) = (key rows h x, m + 1) := by simpa using q
        have e := (Prod.mk.inj this).1
        rw [e]; exact .inr (by simp)
theorem Bm.done {m : Nat} {found : List (St × Nat)} {fresh : List St} (b : Bm n rows S m found fresh) (hall : ∀ h, IsDist n rows S h m → ∀ x, x < n → key rows h x ∈ found.map Prod.fst) : Bf n rows S (m + 1) found fresh := by
  have h1 : ∀ s, IsDist n rows S s (m + 1) → (s, m + 1) ∈ found := fun s hd => by
    obtain ⟨t, x, hx, hr, rfl⟩ := hd.1.last
    have ht : IsDist n rows S t m := ⟨hr, fun j hj hrj => hd.2 (j + 1) (by omega) (hrj.snoc hx)⟩
    obtain ⟨⟨s', k⟩, hm, e⟩ := List.mem_map.mp (hall t ht x hx)
    have e : s' = key rows t x := e
    subst e
    have := (b.ok _ _ hm).1.uniq hd
    rw [← this]; exact hm
  refine ⟨b.nd, b.ok, fun s k hk hd => ?_, fun s => ?_⟩
  · rcases Nat.lt_or_eq_of_le hk with q | q
    · exact b.all s k (by omega) hd
    · subst q; exact h1 s hd
  · rw [b.fr s]
    exact ⟨fun h => (b.ok _ _ h).1, h1 s⟩
theorem found_len (g : Gr n rows) (hS : S.length = n) (h6 : n ≤ 6) (h7 : ∀ x ∈ S, x ≤ 7) (hp : Parted rows S) {found : List (St × Nat)} (hn : (found.map Prod.fst).Nodup) (h : ∀ s k, (s, k) ∈ found → IsDist n rows S s k) : found.length ≤ 262144 := by
  have h1 := nodup_len (l := found.map Prod.fst) (m := below S) hn (fun s hs => by
    obtain ⟨⟨s', k⟩, hm, e⟩ := List.mem_map.mp hs
    have e : s' = s := e
    subst e
    obtain ⟨a, _, c⟩ := reach_ok g hS hp (h _ _ hm).1
    exact mem_below (by omega) c)
  have h2 := below_len h7
  have h3 : 8 ^ S.length ≤ 8 ^ 6 := Nat.pow_le_pow_right (by decide) (by omega)
  rw [List.length_map] at h1
  have : (8 : Nat) ^ 6 = 262144 := by decide
  omega
theorem Bf.has {m t : Nat} {found : List (St × Nat)} {last : List St} {R : St} (b : Bf n rows S m found last) (hd : IsDist n rows S R t) (ht : t ≤ 90) (he : last = [] ∨ 90 ≤ m) : (R, t) ∈ found := by
  by_cases h : t ≤ m
  · exact b.all R t h hd
  · rcases he with e | e
    · obtain ⟨s, hs⟩ := hd.prefix (m := m) (by omega)
      have := (b.la s).mpr hs
      rw [e] at this; cases this
    · omega
end
end Mx
end
section
set_option Elab.async false
set_option linter.all false
set_option maxRecDepth 100000
set_option maxHeartbeats 4000000
/-! The law's search. -/
namespace MxP
open PySem PySem.Spec PyProof.Rows L2 MxT MxL
open Evl (Ex)
open Mx (at_ nb Rows free key done changed Bf Bm IsDist)
abbrev KT := List (List Key × V)
def keyT (s : NSt) : List Key := s.map fun n => Sum.inl ((n : Nat) : Int)
def encT (found : List (NSt × Nat)) : KT := found.map fun p => (keyT p.1, .int (p.2 : Nat))
theorem keyT_inj : ∀ {a b : NSt}, keyT a = keyT b → a = b
  | [], [], _ => rfl
  | [], _ :: _, h => by cases h
  | _ :: _, [], h => by cases h
  | x :: a, y :: b, h => by
    have h1 := List.cons.inj h
    have h2 := Sum.inl.inj h1.1
    rw [keyT_inj h1.2, show x = y by omega]
theorem keyT_vals (s : NSt) : (keyT s).map kV = s.map fun n => V.int (n : Nat) := by unfold keyT; rw [List.map_map]; rfl
theorem valT_none {s : NSt} : ∀ {found : List (NSt × Nat)}, s ∉ found.map Prod.fst → valV (encT found) (keyT s) = none
  | [], _ => rfl
  | p :: found, h => by
    rw [List.map_cons, List.mem_cons] at h
    show valV ((keyT p.1, V.int (p.2 : Nat)) :: encT found) (keyT s) = none
    rw [valV_neg (fun e => h (.inl (keyT_inj e).symm)), valT_none fun q => h (.inr q)]
theorem valT_some {s : NSt} {k : Nat} : ∀ {found : List (NSt × Nat)}, (found.map Prod.fst).Nodup → (s, k) ∈ found → valV (encT found) (keyT s) = some (.int (k : Nat))
  | p :: found, hn, h => by
    rw [List.map_cons, List.nodup_cons] at hn
    show valV ((keyT p.1, V.int (p.2 : Nat)) :: encT found) (keyT s) = _
    rcases List.mem_cons.mp h with e | e
    · rw [← e, valV_pos rfl]
    · rw [valV_neg (fun q => hn.1 (List.mem_map.mpr ⟨_, e, (keyT_inj q).symm⟩)), valT_some hn.2 e]
theorem valT_in {s : NSt} {found : List (NSt × Nat)} (hn : (found.map Prod.fst).Nodup) : (valV (encT found) (keyT s)).isSome = decide (s ∈ found.map Prod.fst) := by
  by_cases h : s ∈ found.map Prod.fst
  · obtain ⟨⟨s', k⟩, hm, e⟩ := List.mem_map.mp h
    have e : s' = s := e
    subst e
    rw [valT_some hn hm, decide_eq_true h]; rfl
  · rw [valT_none h, decide_eq_false h]; rfl
theorem dT_tup {G : Hp} {v : V} {s : NSt} (h : Da G v (dT s)) : ∃ a, v = .ref a ∧ G a = some (.tup ((keyT s).map kV)) := by
  obtain ⟨a, xs, e, h1, h2⟩ := h.tuple_inv
  refine ⟨a, e, ?_⟩
  rw [mapN] at h2
  have e2 := h2.ints
  rw [h1, e2, keyT_vals, List.map_map]; rfl
theorem eqvLT (l : List NSt) : PyData.eqv (.list (l.map dT)) (.list []) = decide (l = []) := by
  cases l <;> simp [PyData.eqv, PyData.eqvAll]
section
variable {P : Program} {w : World} {K : PySem.W.Frag} {mg : Str → Option Value} {base : Heap}
structure RS.Se (a : RS) : Prop where
  g : GrB a.n a.rows
  l : a.s.length = a.n
  le : ∀ x ∈ a.s, x ≤ 7
  p : Mx.Parted a.rows a.s
def spSearch : Sp := fun vs H Q _ => ∃ (G : Hp) (a : RS), Ex G H ∧ DaAll G vs a.enc ∧ RS.Se a ∧ ∀ D G' H' found, Go G H G' H' → H' D = some (.dT (encT found)) → (found.map Prod.fst).Nodup → (∀ R t, IsDist a.n a.rows a.s R t → t ≤ 90 → (R, t) ∈ found) → Q (.ref D) H'
abbrev HSearch (P : Program) (w : World) (K : PySem.W.Frag) (mg : Str → Option Value) (base : Heap) := Has P w K mg base 3 "_law_search" ["_law_rows", "_law_state"] spSearch
theorem scLawSearch : FnScope ["_law_rows", "_law_state", "_law_found", "_law_last", "_law_many", "_law_here", "_law_fresh", "_law_room", "_law_there"] ["_law_rows", "_law_state"] (defScope sLawSearch) := ⟨rfl, rfl, rfl, by decide +kernel, rfl, by decide +kernel, by decide +kernel⟩
theorem bdLawSearch : ∀ (kV doc pm : Value) (an : Option Addr) (cdv ct : Value) (us : List Value), us.length = (["_law_rows", "_law_state"] : List Str).length → bindArgs (PySem.W.fnOf "_law_search" "_law_search" (defArgs sLawSearch) (defBody sLawSearch) (defScope sLawSearch) .none kV doc pm an cdv ct) ⟨us, []⟩ = pure ((["_law_rows", "_law_state"] : List Str).zip us) := fun _ _ _ _ _ _ us hl => match us, hl with | [_, _], _ => rfl
theorem ok_law_search (T : Tx K mg) (FLawKey : HLawKey P w K mg base) : HSearch P w K mg base := by
  refine has_sp T.fLawSearch scLawSearch (fun vs H Q E ⟨G, a, _, hd, _⟩ => by rw [hd.length]; rfl) bdLawSearch fun f cdv A outer s H vs Q E hr ⟨G, a, eg, hda, hpre, q⟩ => ⟨_, (pss_cons (ps_par3 (i := 2) (j := 3) (l := 4) (by rfl) scLawSearch.nd rfl rfl rfl (by decide) (by decide) (by decide) rfl rfl rfl (pa_cons (pe_dispT1 hr.units (pv 1) pe_int) (pa_cons (pe_lst (pa_cons (pv 1) pa_nil)) (pa_cons pe_int pa_nil))) (by rfl))
      (pss_cons (ps_while PassesOwn.never (PW.pt (pw_and (pt_cmpR (op_neD hr.units) (pv 3) (pe_lst pa_nil) (nomark _)) (pw_and1 (pt_cmpR op_lt (pv 4) pe_int (nomark _))))) (pss_cons (ps_par (i := 4) (j := 6) (by rfl) scLawSearch.nd rfl rfl (by decide) rfl rfl (pa_cons (pe_op op_add (pv 4) pe_int) (pa_cons (pe_lst pa_nil) pa_nil)) (by rfl))
      (pss_cons (ps_for PassesOwn.never rfl (pi_list (pv 3)) (pg_name (i := 5) scLawSearch.nd rfl (by first | exact Or.inl rfl | exact Or.inr rfl)) (pss_one (ps_for PassesOwn.never rfl (pi_range1 (by rfl) T.range (pa_cons (pe_callB call_len_seq (by rfl) T.len bb_len (pa_cons (pv 0) pa_nil)) pa_nil)) (pg_name (i := 7) scLawSearch.nd rfl (by first | exact Or.inl rfl | exact Or.inr rfl)) (pss_cons (ps_set (i := 8) scLawSearch.nd rfl (by first | exact Or.inl rfl | exact Or.inr rfl) (pe_callH FLawKey (hr.mono (by decide)) (pa_cons (pv 0) (pa_cons (pv 5) (pa_cons (pv 7) pa_nil)))))
      (pss_one (ps_if (pt_cmp (pc_dnotin (hu_of hr) (pv 8) (pv 2))) (pss_cons (ps_dput (hu_of hr) (pv 2) (pv 8) (pv 4) rfl)
      (pss_one (ps_expr (pe_bm PySem.F.plainAttrs_list PySem.F.slot_list_append PySem.F.type_list_append mt_append (pv 6) (pa_cons (pv 8) pa_nil))))) pss_nil))))))
      (pss_one (ps_set (i := 3) scLawSearch.nd rfl (by first | exact Or.inl rfl | exact Or.inr rfl) (pv 6))))))
      (pss_one (ps_ret (pv 2))))), ?_⟩
  obtain ⟨rows, S, n⟩ := a
  obtain ⟨hg, hl, hle, hpar⟩ := hpre
  simp only at hg hl hle hpar
  obtain ⟨v, v1, rfl, hv, h1⟩ := args2 hda
  have hv : Da G v (dRows rows) := hv
  have h1 : Da G v1 (dT S) := h1
  have h6 := hg.most
  obtain ⟨b, rfl, hb⟩ := dT_tup h1
  intro D hD
  have hbD : b ≠ D := fun e => by have := eg _ _ hb; rw [e, hD] at this; cases this
  refine ⟨.ref b, rfl, keyT S, b, rfl, upd_same, by rw [upd_ne hbD]; exact eg _ _ hb, ?_⟩
  have hGD : G D = none := nb_back eg hD
  have g1 : Go G H G (upd (upd H D (.dT [])) D (.dT [(keyT S, .int 0)])) := (Go.priv eg hD).mut hD hGD
  have hD1 : (upd (upd H D (.dT [])) D (.dT [(keyT S, .int 0)])) D = some (.dT (encT [(S, 0)])) := upd_same
  generalize upd (upd H D (.dT [])) D (.dT [(keyT S, .int 0)]) = H1 at g1 hD1
  refine ed_lst (ds := [S].map dT) (es_cons (ed_var (i := 1) rfl h1) es_nil) (few (by simp)) H1 g1.gh _ fun v3 G2 H2 d2 g2 hv3 e2 => ?_
  subst e2
  refine ⟨_, _, _, rfl, ?_⟩
  refine Evl.s_while (D := { nx := _, rt := _ }) (fun m σ' H' => ∃ G' many found last v3 b5 b6 b7 b8, Go G H G' H' ∧ σ' = [some v, some (.ref b), some (.ref D), some v3, some (.int ((many : Nat) : Int)), b5, b6, b7, b8] ∧ G' D = none ∧ H' D = some (.dT (encT found)) ∧ Da G' v3 (.list (last.map dT)) ∧ Bf n rows S many found last ∧ m = 90 - many) 90
    ⟨G2, 0, [(S, 0)], [S], v3, none, none, none, none, g1.trans g2, rfl, g2.keepN hGD hD1, g2.hh _ _ hD1, hv3, Bf.start, rfl⟩ ?_
  rintro m σ' H' ⟨G', many, found, last, v3, b5, b6, b7, b8, g, rfl, hDn, hDh, h3, hbf, rfl⟩
  refine ⟨_, (et_and (et_test (ed_neD (d := .list (last.map dT)) (e := .list []) (by simp [noDict, ndsT]) rfl (shLT last) rfl (ed_var (i := 3) rfl h3) (ed_lst es_nil (few (by simp))))) fun _ => et_test (ed_lt (a := many) (b := 90) (ed_var (i := 4) rfl (.int _)) ed_i)).mono g.gh, fun hb0 H3 e3 => ?_, fun hb0 H3 e3 => ?_⟩
  · rw [eqvLT, Bool.and_eq_true] at hb0
    have hlt : many < 90 := of_decide_eq_true hb0.2
    have g3 := g.ext e3
    refine ⟨fun σ2 H4 => ∃ G' found last v3 b5 b6 b7 b8, Go G H G' H4 ∧ σ2 = [some v, some (.ref b), some (.ref D), some v3, some (.int ((many + 1 : Nat) : Int)), b5, b6, b7, b8] ∧ G' D = none ∧ H4 D = some (.dT (encT found)) ∧ Da G' v3 (.list (last.map dT)) ∧ Bf n rows S (many + 1) found last,
      fun σ2 H4 ⟨G', found, last, v3, b5, b6, b7, b8, h⟩ => ⟨90 - (many + 1), by omega, G', many + 1, found, last, v3, b5, b6, b7, b8, h.1, h.2.1, h.2.2.1, h.2.2.2.1, h.2.2.2.2.1, h.2.2.2.2.2, rfl⟩, ?_⟩
    refine ed_add (a := many) (b := 1) (ed_var (i := 4) rfl (.int _)) ed_i H3 g3.gh _ fun v4 G4 H4 d4 g4 hv4 e4 => ?_
    subst e4
    have hi4 := hv4.int_inv
    subst hi4
    refine ⟨Nat.zero_le _, fun qa hqa => ⟨_, _, rfl, ?_⟩⟩
    have hD3 : H3 D = some (.dT (encT found)) := e3 _ _ hDh
    have hDn4 := g4.keepN hDn hD3
    have hD4 := g4.hh _ _ hD3
    have hqD : qa ≠ D := fun e => by rw [e, hD4] at hqa; cases hqa
    have g34 := g3.trans g4
    have hq0 : H qa = none := nb_back g34.hh hqa
    have hq4 : G4 qa = none := nb_back g4.gh hqa
    have g5 := g34.trans (Go.priv (o := .lst []) g4.gh hqa)
    have hD5 : (upd H4 qa (.lst [])) D = some (.dT (encT found)) := by rw [upd_ne (fun e => hqD e.symm)]; exact hD4
    have hq5 : (upd H4 qa (.lst [])) qa = some (.lst []) := upd_same
    generalize upd H4 qa (.lst []) = H5 at g5 hD5 hq5
    refine r_forL (L := last) (enc := dT) (ed_var (i := 3) rfl (h3.mono g4.gg)) g5.gh fun G6 H6 g6 => ?_
    refine ⟨fun i σ' H' => ∃ G' found fresh acc b5 b7 b8, Go G H G' H' ∧ Ex G6 G' ∧ σ' = [some v, some (.ref b), some (.ref D), some v3, some (.int ((many + 1 : Nat) : Int)), b5, some (.ref qa), b7, b8] ∧ G' D = none ∧ H' D = some (.dT (encT found)) ∧ G' qa = none ∧ H' qa = some (.lst acc) ∧ DaAll G' acc (fresh.map dT) ∧ Bm n rows S many found fresh ∧
      ∀ j h, j < i → last[j]? = some h → ∀ x, x < n → key rows h x ∈ found.map Prod.fst,
      ⟨G6, found, [], [], b5, b7, b8, g5.trans g6, Ex.refl G6, rfl, g6.keepN hDn4 hD5, g6.hh _ _ hD5, g6.keepN hq4 hq5, g6.hh _ _ hq5, .nil, hbf.to, fun j h hj => absurd hj (Nat.not_lt_zero _)⟩, fun i σ' H' ⟨G', found, fresh, acc, b5, b7, b8, g, e, _⟩ => e.trans g.gh, ?_, ?_⟩
    · rintro i here u σ' H' hi hu ⟨G', found, fresh, acc, b5, b7, b8, g, e, rfl, hDn, hDh, hqn, hqh, hda, hbm, hseen⟩
      have hih := List.mem_of_getElem? hi
      have hdist : IsDist n rows S here many := (hbf.la here).mp hih
      obtain ⟨hhl, hhp, hhle⟩ := Mx.reach_ok hg.gr hl hpar hdist.1
      refine r_name ?_
      refine r_forR n (by rw [line]; omega) (es_cons (EvD.of (ed_lenL (ds := rows.map dL) (ed_var (i := 0) rfl (hv.mono g.gg))) (by rw [List.length_map, hg.gr.len])) es_nil) g.gh fun G7 H7 g7 => ?_
      refine ⟨fun j σ' H' => ∃ G' found fresh acc b7 b8, Go G H G' H' ∧ Ex G7 G' ∧ σ' = [some v, some (.ref b), some (.ref D), some v3, some (.int ((many + 1 : Nat) : Int)), some u, some (.ref qa), b7, b8] ∧ G' D = none ∧ H' D = some (.dT (encT found)) ∧ G' qa = none ∧ H' qa = some (.lst acc) ∧ DaAll G' acc (fresh.map dT) ∧ Bm n rows S many found fresh ∧
        (∀ j h, j < i → last[j]? = some h → ∀ x, x < n → key rows h x ∈ found.map Prod.fst) ∧ ∀ x, x < j → key rows here x ∈ found.map Prod.fst,
        ⟨G7, found, fresh, acc, b7, b8, g.trans g7, Ex.refl G7, rfl, g7.keepN hDn hDh, g7.hh _ _ hDh, g7.keepN hqn hqh, g7.hh _ _ hqh, hda.mono g7.gg, hbm, hseen, fun x hx => absurd hx (Nat.not_lt_zero _)⟩, ?_, ?_⟩
      · rintro x σ' H' hx ⟨G', found, fresh, acc, b7, b8, g, e7, rfl, hDn, hDh, hqn, hqh, hda, hbm, hseen, hrow⟩
        have hu' := hu.mono (e.trans (g7.gg.trans e7))
        refine r_name ?_
        refine rq_asg (ed_key hg hhl hx (ed_var (i := 0) rfl (hv.mono g.gg)) (ed_var (i := 5) rfl hu') (ed_var (i := 7) rfl (.int _))) g.gh fun nv G8 H8 d8 g8 hnv hd8 => ?_
        subst hd8
        have gg8 := g.trans g8
        have hDn8 := g8.keepN hDn hDh
        have hDh8 := g8.hh _ _ hDh
        have hqn8 := g8.keepN hqn hqh
        have hqh8 := g8.hh _ _ hqh
        obtain ⟨bn, rfl, hbn⟩ := dT_tup hnv
        have hfl := Mx.found_len hg.gr hl h6 hle hpar hbm.nd fun s k h => (hbm.ok s k h).1
        refine ⟨.ref bn, rfl, .ref D, rfl, D, _, rfl, DGet.t hDh8 (g8.gh _ _ hbn), _, rfl, ?_⟩
        rw [valT_in hbm.nd]
        by_cases hin : key rows here x ∈ found.map Prod.fst
        · rw [decide_eq_true hin]
          show (if (!true) = true then _ else _)
          rw [if_neg (show ¬ ((!true) = true) by decide)]
          refine ⟨G8, found, fresh, acc, _, _, gg8, e7.trans g8.gg, rfl, hDn8, hDh8, hqn8, hqh8, hda.mono g8.gg, hbm, hseen, fun y hy => ?_⟩
          rcases Nat.lt_succ_iff_lt_or_eq.mp hy with z | z
          · exact hrow y z
          · rw [z]; exact hin
        · rw [decide_eq_false hin]
          show (if (!false) = true then _ else _)
          rw [if_pos (show (!false) = true by decide)]
          have hnone := valT_none hin
          refine ⟨.int ((many + 1 : Nat) : Int), rfl, .ref D, rfl, .ref bn, rfl, D, _, rfl, DPut.t (k := keyT (key rows here x)) hDh8 (g8.gh _ _ hbn) (by rw [line]; unfold encT; rw [List.length_map]; omega), ?_⟩
          rw [putK_new _ hnone]
          have he : encT found ++ [(keyT (key rows here x), V.int ((many + 1 : Nat) : Int))] = encT (found ++ [(key rows here x, many + 1)]) := by unfold encT; rw [List.map_append]; rfl
          rw [he]
          have hD0 : H D = none := hD
          have g9 := gg8.mut (o := .dT (encT (found ++ [(key rows here x, many + 1)]))) hD0 hDn8
          have hq9 : (upd H8 D (.dT (encT (found ++ [(key rows here x, many + 1)])))) qa = some (.lst acc) := by rw [upd_ne hqD]; exact hqh8
          have hD9 : (upd H8 D (.dT (encT (found ++ [(key rows here x, many + 1)])))) D = some (.dT (encT (found ++ [(key rows here x, many + 1)]))) := upd_same
          have hbm' := hbm.add hdist hx hin
          have hmono : ∀ {y}, y ∈ found.map Prod.fst → y ∈ (found ++ [(key rows here x, many + 1)]).map Prod.fst := fun h => by rw [List.map_append]; exact List.mem_append_left _ h
          have hfr := hbm.le
          refine r_app (i := 6) rfl hq9 hqn8 (by rw [line, hda.length, List.length_map]; omega) (ed_var (i := 8) rfl hnv) g9.gh fun av G10 H10 d10 g10 hqn10 hqh10 hav hd10 => ?_
          subst hd10
          refine ⟨G10, found ++ [(key rows here x, many + 1)], fresh ++ [key rows here x], acc ++ [av], _, _, (g9.trans g10).mut hq0 hqn10, (e7.trans g8.gg).trans g10.gg, rfl, g10.keepN hDn8 hD9, by rw [upd_ne (fun e => hqD e.symm)]; exact g10.hh _ _ hD9, hqn10, upd_same, ?_, hbm', fun j h hj hjl y hy => hmono (hseen j h hj hjl y hy), fun y hy => ?_⟩
          · rw [List.map_append]
            exact (hda.mono (g8.gg.trans g10.gg)).snoc hav
          · rcases Nat.lt_succ_iff_lt_or_eq.mp hy with z | z
            · exact hmono (hrow y z)
            · rw [z, List.map_append]; simp
      · rintro σ' H' ⟨G', found, fresh, acc, b7, b8, g, e7, rfl, hDn, hDh, hqn, hqh, hda, hbm, hseen, hrow⟩
        refine ⟨G', found, fresh, acc, some u, b7, b8, g, e.trans (g7.gg.trans e7), rfl, hDn, hDh, hqn, hqh, hda, hbm, fun j h hj hjl y hy => ?_⟩
        rcases Nat.lt_succ_iff_lt_or_eq.mp hj with z | z
        · exact hseen j h z hjl y hy
        · subst z
          rw [hi] at hjl
          have := Option.some.inj hjl
          subst this
          exact hrow y hy
    · rintro σ' H' ⟨G', found, fresh, acc, b5, b7, b8, g, e, rfl, hDn, hDh, hqn, hqh, hda, hbm, hseen⟩
      have hbf' := hbm.done fun h hd x hx => by
        obtain ⟨j, hj⟩ := List.mem_iff_getElem?.mp ((hbf.la h).mpr hd)
        exact hseen j h (List.getElem?_eq_some_iff.mp hj).1 hj x hx
      obtain ⟨g', hd'⟩ := pub_own g hq0 hqn hqh hda
      refine ⟨.ref qa, rfl, ?_⟩
      exact ⟨_, found, fresh, .ref qa, b5, _, b7, b8, g', rfl, by rw [upd_ne (fun e => hqD e.symm)]; exact hDn, hDh, hd', hbf'⟩
  · refine ⟨.ref D, rfl, q D G' H3 found (g.ext e3) (e3 _ _ hDh) hbf.nd fun R t hRt ht => hbf.has hRt ht ?_⟩
    rw [eqvLT, Bool.and_eq_false_iff] at hb0
    rcases hb0 with z | z
    · exact .inl (by simpa using z)
    · exact .inr (by have := of_decide_eq_false z; omega)
end
end MxP
end
section
set_option Elab.async false
set_option linter.all false
set_option maxRecDepth 100000
set_option maxHeartbeats 4000000
/-! All orders of the changed rooms, the least right one; plain. -/
namespace Mx
def ordRow (c p : List Nat) : List (List Nat) := (c.filter fun x => !decide (x ∈ p)).map fun x => p ++ [x]
def ords (c : List Nat) : Nat → List (List Nat)
  | 0 => [[]]
  | k + 1 => (ords c k).flatMap (ordRow c)
theorem ordRow_len (c p : List Nat) : (ordRow c p).length ≤ c.length := by unfold ordRow; rw [List.length_map]; exact List.length_filter_le _ _
theorem flat_len {α : Type} (c : List Nat) : ∀ os : List (List Nat), (os.flatMap (ordRow c)).length ≤ os.length * c.length
  | [] => by simp
  | o :: os => by
    have := flat_len (α := α) c os
    have := ordRow_len c o
    rw [List.flatMap_cons, List.length_append, List.length_cons, Nat.succ_mul]
    omega
theorem ords_len (c : List Nat) : ∀ k, (ords c k).length ≤ c.length ^ k
  | 0 => by simp [ords]
  | k + 1 => by
    have := flat_len (α := Nat) c (ords c k)
    have h := ords_len c k
    show ((ords c k).flatMap (ordRow c)).length ≤ _
    rw [Nat.pow_succ]
    exact Nat.le_trans this (Nat.mul_le_mul_right _ h)
theorem mem_ords (c : List Nat) : ∀ (k : Nat) (ks : List Nat), ks ∈ ords c k ↔ ks.Nodup ∧ (∀ x ∈ ks, x ∈ c) ∧ ks.length = k
  | 0, ks => by
    show ks ∈ [[]] ↔ _
    rw [List.mem_singleton]
    constructor
    · rintro rfl; exact ⟨List.nodup_nil, fun x hx => by (cases hx), rfl⟩
    · rintro ⟨_, _, h⟩; exact List.length_eq_zero_iff.mp h
  | k + 1, ks => by
    show ks ∈ (ords c k).flatMap (ordRow c) ↔ _
    rw [List.mem_flatMap]
    constructor
    · rintro ⟨p, hp, hk⟩
      obtain ⟨h1, h2, h3⟩ := (mem_ords c k p).mp hp
      obtain ⟨x, hx, rfl⟩ := List.mem_map.mp hk
      obtain ⟨hc, hn⟩ := List.mem_filter.mp hx
      have hn : x ∉ p := by simpa using hn
      refine ⟨List.nodup_append.mpr ⟨h1, List.nodup_cons.mpr ⟨fun h => by (cases h), List.nodup_nil⟩, fun a ha b hb => ?_⟩, fun y hy => ?_, by rw [List.length_append, h3]; rfl⟩
      · rw [List.mem_singleton] at hb
        rintro rfl
        exact hn (hb ▸ ha)
      · rcases List.mem_append.mp hy with z | z
        · exact h2 y z
        · rw [List.mem_singleton] at z; exact z ▸ hc
    · rintro ⟨h1, h2, h3⟩
      have hne : ks ≠ [] := fun e => by rw [e] at h3; cases h3
      have hs := List.dropLast_concat_getLast hne
      generalize hd : ks.dropLast = p at hs
      generalize hx : ks.getLast hne = x at hs
      subst hs
      obtain ⟨a, b, d⟩ := List.nodup_append.mp h1
      rw [List.length_append] at h3
      refine ⟨p, (mem_ords c k p).mpr ⟨a, fun y hy => h2 y (List.mem_append_left _ hy), by simpa using h3⟩, List.mem_map.mpr ⟨x, List.mem_filter.mpr ⟨h2 x (by simp), ?_⟩, rfl⟩⟩
      have : x ∉ p := fun h => d x h x (by simp) rfl
      simpa using this
theorem ords_full {c ks : List Nat} (hc : c.Nodup) : ks ∈ ords c c.length ↔ ks.Nodup ∧ ∀ x, x ∈ ks ↔ x ∈ c := by
  rw [mem_ords]
  constructor
  · rintro ⟨h1, h2, h3⟩
    refine ⟨h1, fun x => ⟨h2 x, fun hx => ?_⟩⟩
    by_cases h : x ∈ ks
    · exact h
    · have := nodup_len (l := x :: ks) (m := c) (List.nodup_cons.mpr ⟨h, h1⟩) fun y hy => by
        rcases List.mem_cons.mp hy with z | z
        · exact z ▸ hx
        · exact h2 y z
      rw [List.length_cons] at this
      omega
  · rintro ⟨h1, h2⟩
    refine ⟨h1, fun x hx => (h2 x).mp hx, Nat.le_antisymm (nodup_len h1 fun x hx => (h2 x).mp hx) (nodup_len hc fun x hx => (h2 x).mpr hx)⟩
theorem changed_len (r s : St) : (changed r s).length ≤ s.length := by
  unfold changed
  have := List.length_filter_le (fun x => decide (at_ r x < at_ s x)) (List.range s.length)
  rwa [List.length_range] at this
def rights (rows : Rows) (r s : St) : List (List Nat) := (ords (changed r s) (changed r s).length).filter fun ks => decide (done rows s ks = r)
theorem mem_rights {rows : Rows} {r s : St} {ks : List Nat} : ks ∈ rights rows r s ↔ Right rows r s ks := by
  unfold rights
  rw [List.mem_filter, ords_full (changed_nodup r s), decide_eq_true_iff, Right, and_assoc]
theorem ords_some {rows : Rows} {r s : St} (h : rights rows r s ≠ []) : ords (changed r s) (changed r s).length ≠ [] := fun e => h (by unfold rights; rw [e]; rfl)
end Mx
namespace MxP
open PySem PySem.Spec PyProof.Rows L2 MxT MxL
open PySem.W (AlikeAll dataLt minD alike)
open Mx (at_ nb Rows free key done changed greedy Right rights)
theorem cast_lt : ∀ a b : List Nat, ((a.map fun n => ((n : Nat) : Int)) < b.map fun n => ((n : Nat) : Int)) ↔ a < b
  | [], [] => by simp
  | [], b :: bs => by simp
  | a :: as, [] => by simp
  | a :: as, b :: bs => by
    rw [List.map_cons, List.map_cons, List.cons_lt_cons_iff, List.cons_lt_cons_iff, cast_lt as bs]
    constructor
    · rintro (h | ⟨h, h'⟩)
      · exact .inl (by omega)
      · exact .inr ⟨by omega, h'⟩
    · rintro (h | ⟨h, h'⟩)
      · exact .inl (by omega)
      · exact .inr ⟨by omega, h'⟩
theorem dT_lt (a b : List Nat) : dataLt (dT a) (dT b) = decide (a < b) := by
  unfold dT
  rw [mapN, mapN, MxL.dataLt_ints]
  exact decide_eq_decide.mpr (cast_lt a b)
theorem tri {a b : List Nat} (h : ¬ b < a) : a = b ∨ a < b := by
  by_cases e : a < b
  · exact .inr e
  · exact .inl (List.le_antisymm h e)
theorem minT (g : List Nat) : ∀ (l : List (List Nat)) (x : List Nat), (∀ y ∈ l, ¬ y < g) → ¬ x < g → (x = g ∨ g ∈ l) → minD (dT x) (l.map dT) = dT g
  | [], x, h, hx, hg => by
    rcases hg with rfl | hg
    · rfl
    · cases hg
  | y :: l, x, h, hx, hg => by
    have hy := h y List.mem_cons_self
    have hl : ∀ z ∈ l, ¬ z < g := fun z hz => h z (List.mem_cons_of_mem _ hz)
    have e : minD (dT x) ((y :: l).map dT) = minD (if dataLt (dT y) (dT x) then dT y else dT x) (l.map dT) := rfl
    rw [e, dT_lt]
    by_cases hyx : y < x
    · rw [decide_eq_true hyx, if_pos rfl]
      refine minT g l y hl hy ?_
      rcases hg with rfl | hg
      · exact absurd hyx hy
      · rcases List.mem_cons.mp hg with z | z
        · exact .inl z.symm
        · exact .inr z
    · rw [decide_eq_false hyx, if_neg (by decide)]
      refine minT g l x hl hx ?_
      rcases hg with rfl | hg
      · exact .inl rfl
      · rcases List.mem_cons.mp hg with z | z
        · subst z
          rcases tri hx with e | e
          · exact .inl e.symm
          · exact absurd e hyx
        · exact .inr z
theorem alikeTs (l : List (List Nat)) : AlikeAll (l.map dT) :=
  ⟨fun x hx y hy => by
    obtain ⟨a, _, rfl⟩ := List.mem_map.mp hx
    obtain ⟨b, _, rfl⟩ := List.mem_map.mp hy
    exact alikeT a b, fun x hx e => by
    obtain ⟨a, _, rfl⟩ := List.mem_map.mp hx
    cases e⟩
section
variable {K : PySem.W.Frag} {σ : L2.St} {G : Hp} {te : TE}
theorem ed_minT {l : List (List Nat)} {g : List Nat} (hg : g ∈ l) (hm : ∀ y ∈ l, ¬ y < g) (h : EvD te σ G (.list (l.map dT))) : EvD (tCB (rMinL K) (tCons te tNil)) σ G (dT g) := by
  cases l with
  | nil => cases hg
  | cons x l =>
    have hd := depTs (x :: l)
    refine EvD.of (ed_min (d0 := dT x) (ds := l.map dT) (ndsT (x :: l)) (alikeTs (x :: l)) (by rw [List.map_cons] at hd; omega) h) ?_
    exact minT g l x (fun y hy => hm y (List.mem_cons_of_mem _ hy)) (hm x List.mem_cons_self) (by
      rcases List.mem_cons.mp hg with z | z
      · exact .inl z.symm
      · exact .inr z)
end
/-! ### the values and what is due -/
def isBs (ds : List PyData) : List PyData := ds.filter isB
def dueT (R : List (List Nat)) (ds : List PyData) : Bool := ((R.map dT).any fun z => PyData.eqv z (.tuple ds)) && (isBs ds).isEmpty
theorem any_row (R : List (List Nat)) (ks : List Nat) : ((R.map dT).any fun z => PyData.eqv z (.tuple (ks.map dN))) = decide (ks ∈ R) := by
  induction R with
  | nil => simp
  | cons a R ih =>
    rw [List.map_cons, List.any_cons, ih]
    have : PyData.eqv (dT a) (.tuple (ks.map dN)) = decide (a = ks) := eqvT a ks
    rw [this]
    by_cases e : a = ks
    · subst e; simp
    · rw [decide_eq_false e, Bool.false_or]
      refine decide_eq_decide.mpr ⟨fun h => List.mem_cons_of_mem _ h, fun h => ?_⟩
      rcases List.mem_cons.mp h with z | z
      · exact absurd z.symm e
      · exact z
theorem isBs_row (ks : List Nat) : isBs (ks.map dN) = [] := by
  unfold isBs
  rw [List.filter_eq_nil_iff]
  intro d hd
  obtain ⟨n, _, rfl⟩ := List.mem_map.mp hd
  simp [dN, isB]
theorem due_row (R : List (List Nat)) (ks : List Nat) : dueT R (ks.map dN) = decide (ks ∈ R) := by
  unfold dueT
  rw [any_row, isBs_row]; simp
def dStr (n : Nat) : PyData := .str (toString ((n : Nat) : Int))
theorem due_strs (R : List (List Nat)) {ks : List Nat} (h : ks ≠ []) : dueT R (ks.map dStr) = false := by
  unfold dueT
  have : ((R.map dT).any fun z => PyData.eqv z (.tuple (ks.map dStr))) = false := by
    rw [List.any_eq_false]
    intro z hz
    obtain ⟨a, _, rfl⟩ := List.mem_map.mp hz
    cases ks with
    | nil => exact absurd rfl h
    | cons k ks =>
      cases a with
      | nil => simp [dT, PyData.eqv, PyData.eqvAll]
      | cons b a => simp [dT, dN, dStr, PyData.eqv, PyData.eqvAll]
  rw [this]; rfl
theorem due_trues (R : List (List Nat)) {k : Nat} (h : k ≠ 0) : dueT R (List.replicate k (.bool true)) = false := by
  unfold dueT
  cases k with
  | zero => exact absurd rfl h
  | succ k =>
    have : (isBs (List.replicate (k + 1) (.bool true))).isEmpty = false := rfl
    rw [this, Bool.and_false]
/-- one value: how shows_row sees it, what is due -/
def dueO (R : List (List Nat)) : Option (List Nat) → Bool
  | none => false
  | some ks => decide (ks ∈ R)
structure Vl (n : Nat) (R : List (List Nat)) (d : PyData) (o : Option (List Nat)) : Prop where
  v : Val n d o
  nd : noDict d = true
  sh : SeqAt.shaped d = true
  due : isT d = false ∧ o = none ∨ ∃ ds, d = .tuple ds ∧ ds.length ≤ 8 ∧ dueT R ds = dueO R o ∧ noDicts (isBs ds) = true ∧ SeqAt.shaped (.list (isBs ds)) = true
theorem Vl.row {n : Nat} (R : List (List Nat)) {ks : List Nat} (h : ∀ x ∈ ks, x < n) (h8 : ks.length ≤ 8) : Vl n R (dT ks) (some ks) :=
  ⟨.row ks h h8, ndT ks, shT ks, .inr ⟨ks.map dN, rfl, by rw [List.length_map]; exact h8, due_row R ks, by rw [isBs_row]; rfl, by rw [isBs_row]; rfl⟩⟩
theorem str_ok (s : String) : PyData.strOk (Str.ofString s) = true := by
  unfold PyData.strOk
  rw [Str.ofString_eq_toList, List.all_toArray, List.all_eq_true]
  intro n hn
  obtain ⟨c, _, rfl⟩ := List.mem_map.mp hn
  refine decide_eq_true ?_
  have h : c.toNat < 0xd800 ∨ (0xdfff < c.toNat ∧ c.toNat < 0x110000) := c.valid
  omega
theorem layStr : ∀ l : List Nat, PyData.canLayAll0 (l.map dStr) = true
  | [] => rfl
  | x :: l => by simp only [List.map_cons, dStr, PyData.canLayAll0, PyData.canLay0, str_ok, Bool.true_and]; exact layStr l
theorem depStr : ∀ l : List Nat, PyData.depthAll (l.map dStr) = 0
  | [] => rfl
  | x :: l => by simp [dStr, PyData.depthAll, PyData.depth, depStr l]
theorem ndsStr : ∀ l : List Nat, noDicts (l.map dStr) = true
  | [] => rfl
  | x :: l => by simp [dStr, noDicts, noDict, ndsStr l]
theorem layB : ∀ k : Nat, PyData.canLayAll0 (List.replicate k (.bool true)) = true
  | 0 => rfl
  | k + 1 => by simp [List.replicate_succ, PyData.canLayAll0, PyData.canLay0, layB k]
theorem depB : ∀ k : Nat, PyData.depthAll (List.replicate k (.bool true)) = 0
  | 0 => rfl
  | k + 1 => by simp [List.replicate_succ, PyData.depthAll, PyData.depth, depB k]
theorem ndsB : ∀ k : Nat, noDicts (List.replicate k (.bool true)) = true
  | 0 => rfl
  | k + 1 => by simp [List.replicate_succ, noDicts, noDict, ndsB k]
theorem isBs_str : ∀ ks : List Nat, isBs (ks.map dStr) = [] := fun ks => by
  unfold isBs
  rw [List.filter_eq_nil_iff]
  intro d hd
  obtain ⟨n, _, rfl⟩ := List.mem_map.mp hd
  simp [dStr, isB]
theorem isBs_rep : ∀ k : Nat, isBs (List.replicate k (.bool true)) = List.replicate k (.bool true) := fun k => by
  unfold isBs
  rw [List.filter_eq_self]
  intro d hd
  rw [List.eq_of_mem_replicate hd]; rfl
theorem Vl.strs {n : Nat} (R : List (List Nat)) {ks : List Nat} (h8 : ks.length ≤ 8) : ∃ o, Vl n R (.tuple (ks.map dStr)) o := by
  cases hk : ks with
  | nil => exact ⟨some [], Vl.row (ks := []) R (fun x hx => by cases hx) (by simp)⟩
  | cons k l =>
    rw [← hk]
    have hne : ks ≠ [] := by rw [hk]; exact List.cons_ne_nil _ _
    refine ⟨none, .odd _ (by rw [List.length_map]; exact h8) ?_, ?_, ?_, .inr ⟨ks.map dStr, rfl, by rw [List.length_map]; exact h8, due_strs R hne, by rw [isBs_str]; rfl, by rw [isBs_str]; rfl⟩⟩
    · rw [hk]; rfl
    · rw [noDict]; exact ndsStr ks
    · exact shaped_of (by simp [PyData.canLay0, layStr ks]) (by simp [PyData.depth, depStr ks])
theorem Vl.trues {n : Nat} (R : List (List Nat)) {k : Nat} (h8 : k ≤ 8) : ∃ o, Vl n R (.tuple (List.replicate k (.bool true))) o := by
  cases hk : k with
  | zero => exact ⟨some [], Vl.row (ks := []) R (fun x hx => by cases hx) (by simp)⟩
  | succ j =>
    rw [← hk]
    have hne : k ≠ 0 := by omega
    refine ⟨none, .odd _ (by rw [List.length_replicate]; exact h8) ?_, ?_, ?_, .inr ⟨_, rfl, by rw [List.length_replicate]; exact h8, due_trues R hne, by rw [isBs_rep]; exact ndsB k, ?_⟩⟩
    · rw [hk]; rfl
    · rw [noDict]; exact ndsB k
    · exact shaped_of (by simp [PyData.canLay0, layB k]) (by simp [PyData.depth, depB k])
    · rw [isBs_rep]; exact shaped_of (by simp [PyData.canLay0, layB k]) (by simp [PyData.depth, depB k])
theorem Vl.lst {n : Nat} (R : List (List Nat)) (ks : List Nat) : Vl n R (dL ks) none := ⟨.non _ rfl, ndL ks, shL ks, .inl ⟨rfl, rfl⟩⟩
theorem Vl.none {n : Nat} (R : List (List Nat)) : Vl n R .none none := ⟨.non _ rfl, rfl, rfl, .inl ⟨rfl, rfl⟩⟩
/-- what shows_row answers is what is due -/
theorem shown_due {n : Nat} {dd : List (Nat × Nat)} {s r : NSt} {v : PyData} {o : Option (List Nat)} (ho : HouseOk n dd) : (Sho.ans ⟨n, dd, s, r, v, o⟩) = dueO (rights (lawRows n dd) r s) o := by
  cases o with
  | none => rfl
  | some ks =>
    show (decide (srt ks = changed r s) && decide (done (nearRows n dd) s ks = r)) = decide (ks ∈ rights (lawRows n dd) r s)
    rw [← Bool.decide_and]
    refine decide_eq_decide.mpr ?_
    rw [Mx.mem_rights, srt_eq (Mx.changed_sorted r s), Mx.done_congr ((adj_near ho).same (adj_law ho)), Right, ← and_assoc]
    refine and_congr_left fun _ => ⟨fun h => ⟨h.nodup_iff.mpr (Mx.changed_nodup r s), fun x => h.mem_iff⟩, fun ⟨h1, h2⟩ => (List.perm_ext_iff_of_nodup h1 (Mx.changed_nodup r s)).mpr h2⟩
end MxP
end
section
set_option Elab.async false
set_option linter.all false
set_option maxRecDepth 100000
set_option maxHeartbeats 4000000
/-! Readings that the law alone wants. -/
namespace MxP
open PySem PySem.Spec PyProof.Rows L2 MxT MxL
open Evl (Ex)
open Mx (at_ nb Rows free key done changed greedy Right rights ords ordRow)
section
variable {K : PySem.W.Frag} {G0 H0 G H : Hp} {p : Addr} {σ : L2.St} {i : Nat} {ta tb tc te : TE} {d : PyData} {ds : List PyData}
theorem _root_.MxL.RSt.again (s : RSt K G0 H0 p G H) : RSt K G (rem p H) p G H := let ⟨_, a, b⟩ := s.row; RSt.start s.go.gh s.hn a b
theorem rw_house (s : RSt K G (rem p H) p G H) (hs : σ[i]? = some (some (.ref p))) (h : EvD te σ G (dN 6)) : RwR K (tCall (spLawHouse K) [] E0 (tCons (tVar i) (tCons te tNil))) σ G H p (fun d => ∃ n dd, d = dHouse n dd ∧ 1 ≤ n ∧ n ≤ 6 ∧ dd.Sublist (prsTo n n)) :=
  rw_call (enc := fun _ : Unit => [dN 6]) (Pre := fun _ => True) (Post := fun _ d => ∃ n dd, d = dHouse n dd ∧ 1 ≤ n ∧ n ≤ 6 ∧ dd.Sublist (prsTo n n)) () s hs (es_cons h es_nil) trivial
theorem rw_parted (a : Ho) (s : RSt K G (rem p H) p G H) (hs : σ[i]? = some (some (.ref p))) (h : EvD ta σ G (dHouse a.n a.dd)) (h2 : EvD tb σ G (dN 2)) (ha : 1 ≤ a.n ∧ a.n ≤ 6 ∧ a.dd.Sublist (prsTo a.n a.n)) :
    RwR K (tCall (spLawParted K) [] E0 (tCons (tVar i) (tCons ta (tCons tb tNil)))) σ G H p (fun d => ∃ s, d = dT s ∧ s.length = a.n ∧ (∀ x ∈ s, x ≤ 7) ∧ likes a.dd s = []) :=
  rw_call (enc := fun a : Ho => [dHouse a.n a.dd, dN 2]) (Pre := fun a => 1 ≤ a.n ∧ a.n ≤ 6 ∧ a.dd.Sublist (prsTo a.n a.n)) (Post := fun a d => ∃ s, d = dT s ∧ s.length = a.n ∧ (∀ x ∈ s, x ≤ 7) ∧ likes a.dd s = []) a s hs (es_cons h (es_cons h2 es_nil)) ha
theorem rw_pickR {Φ Ψ : PyData → Prop} (s : RSt K G (rem p H) p G H) (hs : σ[i]? = some (some (.ref p))) (h : EvR te σ G Φ) (hΦ : ∀ d, Φ d → ∃ ds, d = .list ds ∧ ds ≠ [] ∧ ds.length < 1073741824 ∧ ∀ x ∈ ds, Ψ x) :
    RwR K (tCall (spPick K) [] E0 (tCons (tVar i) (tCons te tNil))) σ G H p Ψ := fun Q k =>
  ⟨.ref p, hs, h H s.go.gh _ fun v G1 H1 d1 g1 hv hd => by
    obtain ⟨ds, rfl, a, b, c⟩ := hΦ d1 hd
    have s1 := s.step g1
    obtain ⟨row, h1, h2⟩ := s1.row
    show spPick K [.ref p, v] H1 Q E0
    exact ⟨G1, p, ds, row, [v], rfl, g1.gh, s1.hn, h1, h2, .cons hv .nil, ⟨a, b⟩, fun v G' H' d s2 hd hq => k v G' H' d (s1.tr rem_self s2) hd (c d hq)⟩⟩
theorem ed_inD (nd : noDict d = true) (nds : noDicts ds = true) (sh : SeqAt.shaped d = true) (shs : SeqAt.shaped (.list ds) = true) (ha : EvD ta σ G d) (hb : EvD tb σ G (.list ds)) : EvD (tOp (rInD K) ta tb) σ G (.bool (ds.any fun z => PyData.eqv z d)) :=
  ed_op (da_b _) ha hb fun x y G1 H eg hx hy Q k => ⟨d, ds, hx.dp eg nd, hy.dp eg (by rw [noDict]; exact nds), sh, shs, k⟩
/-- the search's answer at the rest -/
theorem ed_found {rows : Rows} {s R : NSt} {n k : Nat} (hp : RS.Se ⟨rows, s, n⟩) (hd : Mx.IsDist n rows s R k) (hk : k ≤ 90) (ha : EvD ta σ G (dRows rows)) (hb : EvD tb σ G (dT s)) (hc : EvD tc σ G (dT R)) :
    EvD (tDGet (tCall spSearch [] E0 (tCons ta (tCons tb tNil))) tc) σ G (dN k) := fun H eg Q q => by
    have h : EvDs (tCons ta (tCons tb tNil)) σ G [dRows rows, dT s] := es_cons ha (es_cons hb es_nil)
    unfold tDGet tCall
    refine h H eg _ fun vs G1 H1 ds1 g1 hvs e1 => ?_
    subst e1
    rw [List.append_nil]
    refine ⟨G1, ⟨rows, s, n⟩, g1.gh, hvs, hp, fun D G2 H2 found g2 hD hnd hall => ?_⟩
    have g12 := g1.trans g2
    refine (hc.mono g12.gg) H2 g12.gh _ fun u G3 H3 d3 g3 hu e3 => ?_
    subst e3
    obtain ⟨b, rfl, hb'⟩ := dT_tup hu
    refine ⟨D, .int ((k : Nat) : Int), rfl, ?_, q _ G3 H3 _ (g12.trans g3) (.int _) rfl⟩
    have := DGet.t (k := keyT R) (g3.hh _ _ hD) (g3.gh _ _ hb')
    rwa [valT_some hnd (hall R k hd hk)] at this
theorem eqv_nil (ds : List PyData) : PyData.eqv (.list ds) (.list []) = ds.isEmpty := by
  cases ds <;> simp [PyData.eqv, PyData.eqvAll]
/-- a value is due -/
theorem ed_due {v : V} {R : List (List Nat)} {n : Nat} {o : Option (List Nat)} {rr : V} (hl : Vl n R d o) (h9 : σ[9]? = some (some v)) (hv : Da G v d) (h7 : σ[7]? = some (some rr)) (hr : Da G rr (.list (R.map dT))) (h15 : 15 < σ.length)
    (hw : ∀ x, wipe ((wipe σ [15]).set 15 (some x)) [15] = wipe σ [15]) :
    EvD (tAndV (tCB (rIsi K) (tCons (tVar 9) (tCons (tC (.ty "tuple")) tNil))) (tAndV (tOp (rInD K) (tVar 9) (tVar 7)) (tOp (rEqD K) (tLc (iTup K (tVar 9)) (gName 15) (tB (tCB (rIsi K) (tCons (tVar 15) (tCons (tC (.ty "bool")) tNil)))) (tVar 15) [15]) (tLst tNil)))) σ G (.bool (dueO R o)) := by
  have hwl : 15 < (wipe σ [15]).length := by simpa [wipe] using h15
  rcases hl.due with ⟨hT, rfl⟩ | ⟨ds, rfl, h8, hdue, hnb, hsb⟩
  · refine EvD.of (ed_andV (b := false) (ed_isi (kT d) (ed_var h9 hv)) fun h => by rw [hT] at h; cases h) ?_
    rw [hT]; rfl
  · refine EvD.of (ed_andV (ed_isi (kT (.tuple ds)) (ed_var h9 hv)) fun _ => ed_andV (ed_inD hl.nd (ndsT R) hl.sh (shLT R) (ed_var h9 hv) (ed_var h7 hr)) fun _ => ed_eqD (d := .list (isBs ds)) (e := .list []) (by rw [noDict]; exact hnb) rfl hsb rfl (EvD.of (ed_lcT ds id isB id (few (by omega)) (EvD.of (ed_var h9 hv) (by rw [List.map_id])) hw (fun a u G' _ _ hu => et_B (ed_isi (kB a) (ed_var (by rw [List.getElem?_set_self hwl]) hu))) fun a u G' _ _ _ hu => ed_var (by rw [List.getElem?_set_self hwl]) hu) (by rw [List.map_id]; rfl)) (ed_lst es_nil (few (by simp)))) ?_
    rw [← hdue, eqv_nil]
    show PyData.bool (isT (.tuple ds) && (((R.map dT).any fun z => PyData.eqv z (.tuple ds)) && (isBs ds).isEmpty)) = .bool (dueT R ds)
    rfl
end
end MxP
end
section
set_option Elab.async false
set_option linter.all false
set_option maxRecDepth 100000
set_option maxHeartbeats 4000000
/-! The law. -/
namespace MxP
open PySem PySem.Spec PyProof.Rows L2 MxT MxL
open Evl (Ex)
open Mx (at_ nb Rows free key done changed greedy Right rights ords ordRow)
theorem right_congr {rows rows' : Rows} {r s : NSt} {ks : List Nat} (h : Mx.Same2 rows rows') (a : Right rows r s ks) : Right rows' r s ks := ⟨a.1, a.2.1, by rw [← Mx.done_congr h]; exact a.2.2⟩
theorem ords_small {c : List Nat} (h : c.length ≤ 6) {k : Nat} (hk : k ≤ 6) : (ords c k).length ≤ 46656 :=
  Nat.le_trans (Mx.ords_len c k) (Nat.le_trans (Nat.pow_le_pow_left h k) (Nat.pow_le_pow_right (by decide) hk : 6 ^ k ≤ 6 ^ 6))
section
variable {P : Program} {w : World} {K : PySem.W.Frag} {mg : Str → Option Value} {base : Heap}
theorem rq_twoR {G0 H0 G H : Hp} {p : Addr} {σ : L2.St} {D : Ends} {tz : TS} {te tf : TE} {d : PyData} {Φ : PyData → Prop} {i j : Nat} (s : RSt K G0 H0 p G H) (h0 : H0 p = none) (h1 : EvD te σ G d) (h2 : ∀ G1 H1, Go G H G1 H1 → RSt K G1 (rem p H1) p G1 H1 → RwR K tf σ G1 H1 p Φ)
    (k : ∀ v u G' H' e, RSt K G0 H0 p G' H' → Ex G G' → Da G' v d → Da G' u e → Φ e → tz D ((σ.set i (some v)).set j (some u)) H') :
    tSeq (tAsg (tTup (tCons te (tCons tf tNil))) (gTup K 2 (gCons (gName i) (gCons (gName j) gNil)))) tz D σ H :=
  h1 H s.go.gh _ fun v G1 H1 d1 g1 hv e1 => by
    subst e1
    have s1 := s.step g1
    refine h2 G1 H1 g1 s1.again _ fun u G2 H2 d2 s2 hu hΦ => ?_
    exact ⟨few (by simp), fun T hT => ⟨T, [v, u], rfl, .inl (.inl upd_same), rfl, v, [u], rfl, u, [], rfl, rfl, k v u G2 _ d2 ((s1.tr h0 s2).ext (Ex.new hT)) (g1.gg.trans s2.go.gg) (hv.mono s2.go.gg) hu hΦ⟩⟩
def spLaw (K : PySem.W.Frag) : Sp := fun vs H Q _ => ∃ (a : Addr) (ns : List Int), vs = [.ref a] ∧ SqL K H a (ns.map V.int) ∧ ∀ H', Q (.bl true) H'
theorem scLaw : FnScope ["_law_script", "_law_row", "_law_house_here", "_law_rest", "_law_changed", "_law_orders", "_law_turn", "_law_right", "_law_keys", "_law_value", "_law_rows", "_law_state", "_law_longer", "_law_part", "_law_due", "_law_room"] ["_law_script"] (defScope sLaw) := ⟨rfl, rfl, rfl, by decide +kernel, rfl, by decide +kernel, by decide +kernel⟩
theorem bdLaw : ∀ (kV doc pm : Value) (an : Option Addr) (cdv ct : Value) (us : List Value), us.length = (["_law_script"] : List Str).length → bindArgs (PySem.W.fnOf "law" "law" (defArgs sLaw) (defBody sLaw) (defScope sLaw) .none kV doc pm an cdv ct) ⟨us, []⟩ = pure ((["_law_script"] : List Str).zip us) := fun _ _ _ _ _ _ us hl => match us, hl with | [_], _ => rfl
theorem law_body (T : Tx K mg) (FLawHouse : HLawHouse P w K mg base) (FLawNear : HLawNear P w K mg base) (FLawParted : HLawParted P w K mg base) (FLawPick : HPick P w K mg base) (FRestsBelow : HRestsBelow P w K mg base) (FLawAlike : HAlike P w K mg base 3)
    (FFewestKeys : HFewest P w K mg base) (FLawSearch : HSearch P w K mg base) (FLawDone : HLawDone P w K mg base) (FShortestRow : HShortest P w K mg base) (FAfter : HAfter P w K mg base) (FShowsRow : HShows P w K mg base)
    (f : Addr) (cdv : Value) (A : Around) (outer : List Env) (s : Shared) (H : Hp) (vs : List V) (Q : VK) (E : XK) (hr : Room 12 (A.deeper (envOfC "law" (defScope sLaw) s.heap.objs.size f cdv))) (h : spLaw K vs H Q E) :
    ∃ t, PSs (cxOf CX0 P w K mg base ["_law_script", "_law_row", "_law_house_here", "_law_rest", "_law_changed", "_law_orders", "_law_turn", "_law_right", "_law_keys", "_law_value", "_law_rows", "_law_state", "_law_longer", "_law_part", "_law_due", "_law_room"] "law" (defScope sLaw) f cdv A outer s H E).nox (defBody sLaw) t ∧ t { nx := fun _ H' => Q .non H', rt := Q } (start ["_law_script", "_law_row", "_law_house_here", "_law_rest", "_law_changed", "_law_orders", "_law_turn", "_law_right", "_law_keys", "_law_value", "_law_rows", "_law_state", "_law_longer", "_law_part", "_law_due", "_law_room"] vs) H := by
  obtain ⟨a, ns, hvs, hS, q⟩ := h
  refine ⟨_, (pss_cons (ps_set (i := 1) scLaw.nd rfl (by first | exact Or.inl rfl | exact Or.inr rfl) (pe_lst (pa_cons (pv 0) (pa_cons pe_int (pa_cons pe_int (pa_cons pe_int pa_nil))))))
      (pss_cons (ps_set (i := 2) scLaw.nd rfl (by first | exact Or.inl rfl | exact Or.inr rfl) (pe_callH FLawHouse (hr.mono (by decide)) (pa_cons (pv 1) (pa_cons pe_int pa_nil))))
      (pss_cons (ps_asg (pe_tup (pa_cons (pe_callH FLawNear (hr.mono (by decide)) (pa_cons (pv 2) pa_nil)) (pa_cons (pe_callH FLawParted (hr.mono (by decide)) (pa_cons (pv 1) (pa_cons (pv 2) (pa_cons pe_int pa_nil)))) pa_nil))) (pg_tup rfl (pgs_cons (pg_name (i := 10) scLaw.nd rfl (by first | exact Or.inl rfl | exact Or.inr rfl)) (pgs_cons (pg_name (i := 11) scLaw.nd rfl (by first | exact Or.inl rfl | exact Or.inr rfl)) pgs_nil))))
      (pss_cons (ps_set (i := 3) scLaw.nd rfl (by first | exact Or.inl rfl | exact Or.inr rfl) (pe_callH FLawPick (hr.mono (by decide)) (pa_cons (pv 1) (pa_cons (pe_callH FRestsBelow (hr.mono (by decide)) (pa_cons (pv 2) (pa_cons (pv 11) pa_nil))) pa_nil))))
      (pss_cons (ps_setLc (i := 4) (own := [("_law_room", 15)]) rfl scLaw.nd rfl rfl (sw_true rfl rfl rfl (by decide +kernel)) (pi_range1 (by rfl) T.range (pa_cons (pe_ix ix_tup (pv 2) pe_int (fun _ _ => rfl)) pa_nil)) (blkOk_by (by kernel_rfl)) (fun _ _ _ _ _ => (pg_name (i := 15) scLaw.nd rfl (by first | exact Or.inl rfl | exact Or.inr rfl))) (fun _ _ _ _ _ => (pts_one (pt_cmpR op_lt (pe_ix (ix_tupK (K := K)) (pv 3) (pv 15) (fun _ _ => rfl)) (pe_ix (ix_tupK (K := K)) (pv 11) (pv 15) (fun _ _ => rfl)) (nomark _)))) (fun _ _ _ _ _ => (pv 15)))
      (pss_cons (ps_if (PW.pt (pw_or (pt_not (pt_val (pe_callH FLawAlike (hr.mono (by decide)) (pa_cons (pe_callH FFewestKeys (hr.mono (by decide)) (pa_cons (pv 2) (pa_cons (pv 11) (pa_cons (pv 3) pa_nil)))) (pa_cons (pe_callB call_len_seq (by rfl) T.len bb_len (pa_cons (pv 4) pa_nil)) pa_nil))))) (pw_or1 (pt_cmpR op_ne (pe_dget (hu_of hr) (pe_callH FLawSearch (hr.mono (by decide)) (pa_cons (pv 10) (pa_cons (pv 11) pa_nil))) (pv 3) (fun _ _ => rfl)) (pe_callB call_len_seq (by rfl) T.len bb_len (pa_cons (pv 4) pa_nil)) (nomark _))))) (pss_one (ps_ret pe_bl)) pss_nil)
      (pss_cons (ps_set (i := 5) scLaw.nd rfl (by first | exact Or.inl rfl | exact Or.inr rfl) (pe_lst (pa_cons (pe_tup pa_nil) pa_nil)))
      (pss_cons (ps_for PassesOwn.never rfl (pi_list (pv 4)) (pg_name (i := 6) scLaw.nd rfl (by first | exact Or.inl rfl | exact Or.inr rfl)) (pss_cons (ps_set (i := 12) scLaw.nd rfl (by first | exact Or.inl rfl | exact Or.inr rfl) (pe_lst pa_nil))
      (pss_cons (ps_for PassesOwn.never rfl (pi_list (pv 5)) (pg_name (i := 13) scLaw.nd rfl (by first | exact Or.inl rfl | exact Or.inr rfl)) (pss_one (ps_set (i := 12) scLaw.nd rfl (by first | exact Or.inl rfl | exact Or.inr rfl) (pe_op op_cat (pv 12) (pe_lc (own := [("_law_room", 15)]) rfl scLaw.nd (pi_list (pv 4)) (blkOk_by (by kernel_rfl)) (fun _ _ _ _ _ => (pg_name (i := 15) scLaw.nd rfl (by first | exact Or.inl rfl | exact Or.inr rfl))) (fun _ _ _ _ _ => (pts_one (pt_cmpR (op_notIn_seqK (K := K)) (pv 15) (pv 13) (by rfl)))) (fun _ _ _ _ _ => (pe_op (op_catAK (K := K)) (pv 13) (pe_tup (pa_cons (pv 15) pa_nil)))))))))
      (pss_one (ps_set (i := 5) scLaw.nd rfl (by first | exact Or.inl rfl | exact Or.inr rfl) (pv 12))))))
      (pss_cons (ps_setLc (i := 7) (own := [("_law_keys", 8)]) rfl scLaw.nd rfl rfl (sw_true rfl rfl rfl (by decide +kernel)) (pi_list (pv 5)) (blkOk_by (by kernel_rfl)) (fun _ _ _ _ _ => (pg_name (i := 8) scLaw.nd rfl (by first | exact Or.inl rfl | exact Or.inr rfl))) (fun _ _ _ _ _ => (pts_one (pt_cmpR (op_eqDK (K := K) hr.units) (pe_callH FLawDone (hr.mono (by decide)) (pa_cons (pv 10) (pa_cons (pv 11) (pa_cons (pv 8) pa_nil)))) (pv 3) (nomark _)))) (fun _ _ _ _ _ => (pv 8)))
      (pss_cons (ps_set (i := 8) scLaw.nd rfl (by first | exact Or.inl rfl | exact Or.inr rfl) (pe_callH FShortestRow (hr.mono (by decide)) (pa_cons (pv 2) (pa_cons (pv 11) (pa_cons (pv 3) pa_nil)))))
      (pss_cons (ps_if (PW.pt (pw_or (pt_not (pt_val (pe_callH FLawAlike (hr.mono (by decide)) (pa_cons (pv 8) (pa_cons (pe_callB (cr_minD rfl hr.units) (by rfl) T.min bb_min (pa_cons (pv 7) pa_nil)) pa_nil))))) (pw_or1 (pt_cmpR (op_neD hr.units) (pe_callH FAfter (hr.mono (by decide)) (pa_cons (pv 2) (pa_cons (pv 11) (pa_cons (pv 8) pa_nil)))) (pv 3) (nomark _))))) (pss_one (ps_ret pe_bl)) pss_nil)
      (pss_cons (ps_for PassesOwn.never rfl (pi_list (pe_lst (pa_cons (pv 8) (pa_cons (pe_callH FLawPick (hr.mono (by decide)) (pa_cons (pv 1) (pa_cons (pv 5) pa_nil))) (pa_cons (pe_callTy call_list_of (by rfl) T.list bb_list (pa_cons (pv 8) pa_nil)) (pa_cons (pe_op op_catA (pv 8) (pe_tup (pa_cons pe_int pa_nil))) (pa_cons (pe_slice sl_tupA (pv 8) (po_some pe_int) po_none) (pa_cons pe_non (pa_cons (pe_callTy call_tuple_of (by rfl) T.tuple bb_tuple (pa_cons (pe_lc (own := [("_law_room", 15)]) rfl scLaw.nd (pi_tup (pv 8)) (blkOk_by (by kernel_rfl)) (fun _ _ _ _ _ => (pg_name (i := 15) scLaw.nd rfl (by first | exact Or.inl rfl | exact Or.inr rfl))) (fun _ _ _ _ _ => pts_nil) (fun _ _ _ _ _ => (pe_callTy call_str_int (by rfl) T.str bb_str (pa_cons (pv 15) pa_nil)))) pa_nil)) (pa_cons (pe_op op_repA (pe_tup (pa_cons pe_bl pa_nil)) (pe_callB call_len_seq (by rfl) T.len bb_len (pa_cons (pv 8) pa_nil))) pa_nil)))))))))) (pg_name (i := 9) scLaw.nd rfl (by first | exact Or.inl rfl | exact Or.inr rfl)) (pss_cons (ps_set (i := 14) scLaw.nd rfl (by first | exact Or.inl rfl | exact Or.inr rfl) (pe_and (pe_callB call_isi (by rfl) T.isinstance bb_isinstance (pa_cons (pv 9) (pa_cons (pe_bltn (v := .ty "tuple") (by rfl) T.tuple bb_tuple rfl) pa_nil))) (pe_and (pe_cmpR (op_inD hr.unitsD) (pv 9) (pv 7) (by rfl)) (pe_one (pe_cmpR (op_eqD hr.units) (pe_lc (own := [("_law_room", 15)]) rfl scLaw.nd (pi_tup (pv 9)) (blkOk_by (by kernel_rfl)) (fun _ _ _ _ _ => (pg_name (i := 15) scLaw.nd rfl (by first | exact Or.inl rfl | exact Or.inr rfl))) (fun _ _ _ _ _ => (pts_one (pt_val (pe_callB (call_isiK' (K := K)) (by rfl) T.isinstance bb_isinstance (pa_cons (pv 15) (pa_cons (pe_bltn (v := .ty "bool") (by rfl) T.bool bb_bool rfl) pa_nil)))))) (fun _ _ _ _ _ => (pv 15))) (pe_lst pa_nil) (nomark _))))))
      (pss_one (ps_if (pt_not (pt_val (pe_callH FLawAlike (hr.mono (by decide)) (pa_cons (pe_callH FShowsRow (hr.mono (by decide)) (pa_cons (pv 2) (pa_cons (pv 11) (pa_cons (pv 3) (pa_cons (pv 9) pa_nil))))) (pa_cons (pv 14) pa_nil))))) (pss_one (ps_ret pe_bl)) pss_nil))))
      (pss_one (ps_ret pe_bl)))))))))))))), ?_⟩
  subst hvs
  refine rq_raw ⟨.ref a, rfl, few (by simp), fun p hp => ?_⟩
  have s0 : RSt K H (rem p (upd H p (.lst [.ref a, .int 0, .int 6021, .int 0]))) p H (upd H p (.lst [.ref a, .int 0, .int 6021, .int 0])) := RSt.start (Ex.new hp) hp upd_same ⟨a, ns, 0, 6021, 0, rfl, hS, by decide⟩
  generalize hH0 : upd H p (.lst [.ref a, .int 0, .int 6021, .int 0]) = H0 at s0
  refine rq_raw ?_
  refine rw_house s0 (i := 1) rfl ed_i _ fun v2 G1 H1 d1 s1 hv2 ⟨n, dd, e1, hn1, hn6, hsub⟩ => ?_
  subst e1
  obtain ⟨ho, hdeg⟩ := house_of hn1 hn6 hsub
  refine rq_twoR s1 rem_self (ed_callA (⟨n, dd⟩ : Ho) (es_cons (ed_var (i := 2) rfl hv2) es_nil) ho fun d hd => hd) (fun G2 H2 g2 s2 => rw_parted (⟨n, dd⟩ : Ho) s2 (i := 1) rfl (ed_var (i := 2) rfl (hv2.mono g2.gg)) ed_i ⟨hn1, hn6, hsub⟩) fun rw v11 G4 H4 d4 s4 e4 hrw hv11 ⟨S, e3, hlS, hS7, hlk⟩ => ?_
  subst e3
  simp only at hlS hlk
  have hv2 := hv2.mono e4
  have hSt : StOk n S := ⟨hlS, fun x hx => by have := hS7 x hx; omega⟩
  have hadN := adj_near ho
  have hadL := adj_law ho
  have hgN := hadN.grb ho
  have hgL := hadL.grb ho
  have hsame := hadN.same hadL
  refine rq_raw ?_
  refine rw_pickR (Ψ := fun x => ∃ R : NSt, x = dT R ∧ R.length = n ∧ Mx.Rest (nearRows n dd) R ∧ Mx.Le R S) s4.again (i := 1) rfl (er_callA (⟨n, dd, S⟩ : HS) (es_cons (ed_var (i := 2) rfl hv2) (es_cons (ed_var (i := 11) rfl hv11) es_nil)) ⟨ho, hSt, hlk⟩) (fun d hd => ?_) _ fun v3 G5 H5 d5 s5' hv3 ⟨R, e5, hlR, hRR, hRS⟩ => ?_
  · obtain ⟨L, e, hne, hll, hall⟩ := hd
    refine ⟨L.map dT, e, by simpa using hne, by rw [List.length_map]; omega, fun x hx => ?_⟩
    obtain ⟨R, hR, rfl⟩ := List.mem_map.mp hx
    exact ⟨R, rfl, hall R hR⟩
  subst e5
  have s5 := s4.tr rem_self s5'
  have hv2 := hv2.mono s5'.go.gg
  have hrw := hrw.mono s5'.go.gg
  have hv11 := hv11.mono s5'.go.gg
  have hRt : StOk n R := ⟨hlR, fun x hx => by
    obtain ⟨i, hi⟩ := List.mem_iff_getElem?.mp hx
    have hin := (List.getElem?_eq_some_iff.mp hi).1
    have e1 : at_ R i = x := by
      have := Mx.at_lt hin
      rw [hi] at this; exact (Option.some.inj this).symm
    have e2 := hRS i
    have e3 : at_ S i ∈ S := List.mem_of_getElem? (Mx.at_lt (by omega))
    have := hS7 _ e3
    omega⟩
  have hHSR : HSR.Ok ⟨n, dd, S, R⟩ := ⟨ho, hSt, hlk, hRt, hRR, hRS⟩
  refine rq_asg (Φ := fun d => d = dL (changed R S)) (EvD.of (ed_lcR n (fun x => decide (at_ R x < at_ S x)) dN (few (by omega)) (es_cons (ed_h0 (ed_var (i := 2) rfl hv2)) es_nil) (fun _ => rfl) (fun x G' hx eG => et_test (ed_lt (ed_at (by omega) (ed_var (i := 3) rfl (hv3.mono eG)) (ed_var (i := 15) rfl (.int _))) (ed_at (by omega) (ed_var (i := 11) rfl (hv11.mono eG)) (ed_var (i := 15) rfl (.int _))))) fun x G' hx _ eG => ed_var (i := 15) rfl (.int _)) (by unfold changed; rw [hlS]; rfl)) s5.go.gh fun v4 G6 H6 d6 g6 hv4 hd6 => ?_
  subst hd6
  have s6 := s5.step g6
  have hv2 := hv2.mono g6.gg
  have hrw := hrw.mono g6.gg
  have hv11 := hv11.mono g6.gg
  have hv3 := hv3.mono g6.gg
  have hM6 : (changed R S).length ≤ 6 := by have := Mx.changed_len R S; omega
  have hright : Right (nearRows n dd) R S (greedy (nearRows n dd) R (changed R S).length S) := Mx.greedy_right hgN.gr hlR hRR _ S hlS hRS rfl
  have hleast : ∀ ks ∈ rights (lawRows n dd) R S, ¬ ks < greedy (nearRows n dd) R (changed R S).length S := fun ks hks => Mx.greedy_least (n := n) _ S rfl ks (right_congr (hadL.same hadN) (Mx.mem_rights.mp hks))
  generalize hg0 : greedy (nearRows n dd) R (changed R S).length S = g0 at *
  have hgR : g0 ∈ rights (lawRows n dd) R S := Mx.mem_rights.mpr (right_congr hsame hright)
  have hCn : ∀ x ∈ changed R S, x < n := fun x hx => by have := (Mx.mem_changed.mp hx).1; omega
  have hgl : g0.length = (changed R S).length := hright.len
  have hgn : ∀ x ∈ g0, x < n := fun x hx => hCn x ((hright.2.1 x).mp hx)
  have hse : RS.Se ⟨lawRows n dd, S, n⟩ := ⟨hgL, hlS, hS7, (parted_of hadL).mp hlk⟩
  refine rq_skip (et_of (et_or (a := false) (b := false) (et_of (et_not (et_B (ed_alike (AlOk.int 2 (((changed R S).length : Nat) : Int) (((changed R S).length : Nat) : Int)) (ed_callA (⟨n, dd, S, R⟩ : HSR) (es_cons (ed_var (i := 2) rfl hv2) (es_cons (ed_var (i := 11) rfl hv11) (es_cons (ed_var (i := 3) rfl hv3) es_nil))) hHSR fun d hd => hd) (EvD.of (ed_lenL (ds := (changed R S).map dN) (ed_var (i := 4) rfl hv4)) (by rw [List.length_map]))))) (by simp)) fun _ => et_of (et_test (ed_neN (ed_found hse (Mx.rest_dist hlS (right_congr hsame hright)) (by omega) (ed_var (i := 10) rfl hrw) (ed_var (i := 11) rfl hv11) (ed_var (i := 3) rfl hv3)) (EvD.of (ed_lenL (ds := (changed R S).map dN) (ed_var (i := 4) rfl hv4)) (by rw [List.length_map]; rfl)))) (by simp)) rfl) s6.go.gh fun H7 e7 => ?_
  have s7 := s6.ext e7
  refine rq_asg (Φ := fun d => d = .list ([[]].map dT)) (ed_lst (es_cons (d := dT []) ed_nilT es_nil) (few (by simp))) s7.go.gh fun v5 G8 H8 d8 g8 hv5 hd8 => ?_
  subst hd8
  have s8 := s7.step g8
  have hv2 := hv2.mono g8.gg
  have hrw := hrw.mono g8.gg
  have hv11 := hv11.mono g8.gg
  have hv3 := hv3.mono g8.gg
  have hv4 := hv4.mono g8.gg
  refine r_forL (L := changed R S) (enc := dN) (ed_var (i := 4) rfl hv4) s8.go.gh fun G9 H9 g9 => ?_
  have hv2 := hv2.mono g9.gg
  have hrw := hrw.mono g9.gg
  have hv11 := hv11.mono g9.gg
  have hv3 := hv3.mono g9.gg
  have hv4 := hv4.mono g9.gg
  refine ⟨fun i σ' H' => ∃ G' v5 b6 b12 b13, RSt K H (rem p H0) p G' H' ∧ Ex G9 G' ∧ σ' = [some (.ref a), some (.ref p), some v2, some v3, some v4, some v5, b6, none, none, none, some rw, some v11, b12, b13, none, none] ∧ Da G' v5 (.list ((ords (changed R S) i).map dT)),
    ⟨G9, v5, none, none, none, s8.step g9, Ex.refl G9, rfl, hv5.mono g9.gg⟩, fun i σ' H' ⟨G', _, _, _, _, s, e, _⟩ => e.trans s.go.gh, ?_, ?_⟩
  · rintro i x u σ' H' hi hu ⟨G', v5, b6, b12, b13, s, e, rfl, hv5⟩
    have hiM : i < (changed R S).length := (List.getElem?_eq_some_iff.mp hi).1
    have hsm := ords_small hM6 (k := i) (by omega)
    refine r_name ?_
    refine rq_asg (Φ := fun d => d = .list []) (ed_lst es_nil (few (by simp))) s.go.gh fun v12 G10 H10 d10 g10 hv12 hd10 => ?_
    subst hd10
    have s10 := s.step g10
    refine r_forL (L := ords (changed R S) i) (enc := dT) (ed_var (i := 5) rfl (hv5.mono g10.gg)) s10.go.gh fun G11 H11 g11 => ?_
    have e11 := e.trans (g10.gg.trans g11.gg)
    refine ⟨fun j σ' H' => ∃ G' v12 b13, RSt K H (rem p H0) p G' H' ∧ Ex G11 G' ∧ σ' = [some (.ref a), some (.ref p), some v2, some v3, some v4, some v5, some u, none, none, none, some rw, some v11, some v12, b13, none, none] ∧ Da G' v12 (.list ((((ords (changed R S) i).take j).flatMap (ordRow (changed R S))).map dT)),
      ⟨G11, v12, b13, s10.step g11, Ex.refl G11, rfl, hv12.mono g11.gg⟩, fun j σ' H' ⟨G', _, _, s, e, _⟩ => e.trans s.go.gh, ?_, ?_⟩
    · rintro j pt u13 σ' H' hj hu13 ⟨G', v12, b13, s, e', rfl, hv12⟩
      have hu13 := hu13.mono e'
      have hv4' := hv4.mono (e11.trans e')
      have hpl : pt.length ≤ 6 := by
        have := ((Mx.mem_ords _ _ _).mp (List.mem_of_getElem? hj)).2.2
        omega
      have hfl := Mx.flat_len (α := Nat) (changed R S) ((ords (changed R S) i).take j)
      have htk : ((ords (changed R S) i).take j).length ≤ 46656 := by rw [List.length_take]; omega
      have hmul := Nat.mul_le_mul htk hM6
      have hft := List.length_filter_le (fun x => !decide (x ∈ pt)) (changed R S)
      refine r_name ?_
      refine r_asg (ed_cat (by rw [line, List.length_map, List.length_map]; omega) (ed_var (i := 12) rfl hv12) (ed_lcL (changed R S) dN (fun x => !decide (x ∈ pt)) (fun x => dT (pt ++ [x])) (few (by omega)) (ed_var (i := 4) rfl hv4') (fun _ => rfl) (fun x u G' hx eG hu => et_test (ed_ninTN (ed_var (i := 15) rfl hu) (ed_var (i := 13) rfl (hu13.mono eG)))) fun x u G' hx _ eG hu => EvD.of (ed_catT (by rw [line, List.length_map, List.length_singleton]; omega) (ed_var (i := 13) rfl (hu13.mono eG)) (ed_tup (es_cons (ed_var (i := 15) rfl hu) es_nil) (few (by simp)))) (by unfold dT; rw [List.map_append]; rfl))) s.go.gh fun v12' G12 H12 d12 g12 hv12' hd12 => ?_
      subst hd12
      refine ⟨G12, v12', some u13, s.step g12, e'.trans g12.gg, rfl, ?_⟩
      rw [take_more hj, List.flatMap_append, List.map_append]
      have : ([pt].flatMap (ordRow (changed R S))).map dT = ((changed R S).filter fun x => !decide (x ∈ pt)).map fun x => dT (pt ++ [x]) := by
        rw [List.flatMap_singleton, ordRow, List.map_map]; rfl
      rw [this]
      exact hv12'
    · rintro σ' H' ⟨G', v12, b13, s, e', rfl, hv12⟩
      rw [List.take_length] at hv12
      refine ⟨v12, rfl, ?_⟩
      exact ⟨G', v12, some u, some v12, b13, s, e11.trans e', rfl, hv12⟩
  · rintro σ' H' ⟨G', v5, b6, b12, b13, s, e, rfl, hv5⟩
    have hv2 := hv2.mono e
    have hrw := hrw.mono e
    have hv11 := hv11.mono e
    have hv3 := hv3.mono e
    have hsm := ords_small hM6 hM6
    refine rq_asg (Φ := fun d => d = .list ((rights (lawRows n dd) R S).map dT)) (EvD.of (ed_lcL (ords (changed R S) (changed R S).length) dT (fun ks => decide (done (lawRows n dd) S ks = R)) dT (by rw [line]; omega) (ed_var (i := 5) rfl hv5) (fun _ => rfl) (fun ks u G' hm eG hu => et_test (ed_eqT (ed_callA (⟨lawRows n dd, S, ks, n⟩ : RSK) (es_cons (ed_var (i := 10) rfl (hrw.mono eG)) (es_cons (ed_var (i := 11) rfl (hv11.mono eG)) (es_cons (ed_var (i := 8) rfl hu) es_nil))) ⟨hgL, hlS, fun x hx => hCn x (((Mx.mem_ords _ _ _).mp hm).2.1 x hx), by have := ((Mx.mem_ords _ _ _).mp hm).2.2; show ks.length ≤ 60; omega⟩ fun d hd => hd) (ed_var (i := 3) rfl (hv3.mono eG)))) fun ks u G' hm _ eG hu => ed_var (i := 8) rfl hu) rfl) s.go.gh fun v7 G10 H10 d10 g10 hv7 hd10 => ?_
    subst hd10
    have s10 := s.step g10
    have hv2 := hv2.mono g10.gg
    have hrw := hrw.mono g10.gg
    have hv11 := hv11.mono g10.gg
    have hv3 := hv3.mono g10.gg
    have hv5 := hv5.mono g10.gg
    refine rq_asg (Φ := fun d => d = dT g0) (ed_callA (⟨n, dd, S, R⟩ : HSR) (es_cons (ed_var (i := 2) rfl hv2) (es_cons (ed_var (i := 11) rfl hv11) (es_cons (ed_var (i := 3) rfl hv3) es_nil))) hHSR fun d hd => by rw [← hg0]; exact hd) s10.go.gh fun v8 G11 H11 d11 g11 hv8 hd11 => ?_
    subst hd11
    have s11 := s10.step g11
    have hv2 := hv2.mono g11.gg
    have hrw := hrw.mono g11.gg
    have hv11 := hv11.mono g11.gg
    have hv3 := hv3.mono g11.gg
    have hv5 := hv5.mono g11.gg
    have hv7 := hv7.mono g11.gg
    refine rq_skip (et_of (et_or (a := false) (b := false) (et_of (et_not (et_B (ed_alike (AlOk.tup 1 g0 g0 (by omega) (by omega)) (ed_var (i := 8) rfl hv8) (ed_minT hgR hleast (ed_var (i := 7) rfl hv7))))) (by simp)) fun _ => et_of (et_test (ed_neT (ed_callA (⟨n, dd, S, g0⟩ : HSK) (es_cons (ed_var (i := 2) rfl hv2) (es_cons (ed_var (i := 11) rfl hv11) (es_cons (ed_var (i := 8) rfl hv8) es_nil))) ⟨ho, hSt, hgn, by show g0.length ≤ 60; omega⟩ fun d hd => hd) (ed_var (i := 3) rfl hv3))) (by show (!decide (done (nearRows n dd) S g0 = R)) = false; rw [decide_eq_true hright.2.2]; rfl)) rfl) s11.go.gh fun H12 e12 => ?_
    have s12 := s11.ext e12
    refine ⟨v8, rfl, ?_⟩
    refine rw_pick (ds := (ords (changed R S) (changed R S).length).map dT) s12.again (i := 1) rfl (ed_var (i := 5) rfl hv5) (by simpa using Mx.ords_some (List.ne_nil_of_mem hgR)) (by rw [List.length_map]; omega) _ fun nv G13 H13 d13 s13' hnv hd13 => ?_
    obtain ⟨pk, hpk, rfl⟩ := List.mem_map.mp hd13
    have s13 := s12.tr rem_self s13'
    have hv8 := hv8.mono s13'.go.gg
    have hvals : EvDs (tCons (tCB (fun xs H Q => ∃ p ys, xs = [V.ref p] ∧ (SqL K H p ys ∨ SqT K H p ys) ∧ ∀ l, H l = none → Q (.ref l) (upd H l (.lst ys))) (tCons (tVar 8) tNil)) (tCons (tOp (rCatA K) (tVar 8) (tTup (tCons (tC (.int 0)) tNil))) (tCons (L2.tSl (rSlA K) (tVar 8) (tPart (tC (.int 1))) tNoPart) (tCons (tC .non) (tCons (tCB (fun xs H Q => ∃ p ys, xs = [V.ref p] ∧ ((SqL K H p ys ∧ ∀ l, H l = none → Q (.ref l) (upd H l (.tup ys))) ∨ (SqT K H p ys ∧ Q (.ref p) H))) (tCons (tLc (iTup K (tVar 8)) (gName 15) tYes (tCB (fun xs H Q => ∃ i, xs = [V.int i] ∧ i.natAbs.log2 < 1920 ∧ Q (.str (toString i)) H) (tCons (tVar 15) tNil)) [15]) tNil)) (tCons (tOp (rRepA K) (tTup (tCons (tC (.bl true)) tNil)) (tCB (fun xs H Q => ∃ p ys, xs = [V.ref p] ∧ (SqL K H p ys ∨ SqT K H p ys) ∧ Q (.int ys.length) H) (tCons (tVar 8) tNil))) tNil)))))) [some (.ref a), some (.ref p), some v2, some v3, some v4, some v5, b6, some v7, some v8, none, some rw, some v11, b12, b13, none, none] G13
        [dL g0, dT (g0 ++ [0]), dT (g0.drop 1), .none, .tuple (g0.map dStr), .tuple (List.replicate g0.length (.bool true))] := by
      refine es_cons (ed_listOfT (ed_var (i := 8) rfl hv8)) (es_cons (EvD.of (ed_catT (ds := g0.map dN) (es := [dN 0]) (by rw [line, List.length_map, List.length_singleton]; omega) (ed_var (i := 8) rfl hv8) (ed_tup (es_cons ed_i es_nil) (few (by simp)))) (by unfold dT; rw [List.map_append]; rfl)) (es_cons (EvD.of (ed_slFrom (ds := g0.map dN) (k := 1) (ed_var (i := 8) rfl hv8) ed_i) (by unfold dT; rw [List.map_drop])) (es_cons MxL.ed_n (es_cons (ed_tupleOf (EvD.of (ed_lcT g0 dN (fun _ => true) dStr (few (by omega)) (ed_var (i := 8) rfl hv8) (fun _ => rfl) (fun x u G' _ _ _ => et_yes) fun x u G' hx _ eG hu => ed_str ?_ (ed_var (i := 15) rfl hu)) (by rw [fill_true]))) (es_cons (EvD.of (ed_repT (k := g0.length) (by omega) (ed_tup (es_cons ed_b es_nil) (few (by simp))) (EvD.of (ed_lenT (ds := g0.map dN) (ed_var (i := 8) rfl hv8)) (by rw [List.length_map]))) rfl) es_nil)))))
      have hxn := hgn x hx
      have : (((x : Nat) : Int)).natAbs = x := by omega
      rw [this]
      exact Nat.lt_of_le_of_lt (Nat.log2_le_self x) (by omega)
    refine hvals H13 s13.go.gh _ fun vs G14 H14 d14 g14 hvs e14 => ?_
    subst e14
    have hda : DaAll G14 (v8 :: nv :: vs) ([dT g0, dT pk, dL g0, dT (g0 ++ [0]), dT (g0.drop 1), .none, .tuple (g0.map dStr), .tuple (List.replicate g0.length (.bool true))] : List PyData) := .cons (hv8.mono g14.gg) (.cons (hnv.mono g14.gg) hvs)
    have hlen : (v8 :: nv :: vs).length = 8 := by rw [hda.length]; rfl
    have hVl : ∀ d ∈ ([dT g0, dT pk, dL g0, dT (g0 ++ [0]), dT (g0.drop 1), .none, .tuple (g0.map dStr), .tuple (List.replicate g0.length (.bool true))] : List PyData), ∃ o, Vl n (rights (lawRows n dd) R S) d o := by
      intro d hd
      simp only [List.mem_cons, List.not_mem_nil, or_false] at hd
      have hpm := (Mx.mem_ords _ _ _).mp hpk
      rcases hd with rfl | rfl | rfl | rfl | rfl | rfl | rfl | rfl
      · exact ⟨_, Vl.row _ hgn (by omega)⟩
      · exact ⟨_, Vl.row _ (fun x hx => hCn x (hpm.2.1 x hx)) (by have := hpm.2.2; omega)⟩
      · exact ⟨_, Vl.lst _ _⟩
      · refine ⟨_, Vl.row _ (fun x hx => ?_) (by rw [List.length_append, List.length_singleton]; omega)⟩
        rcases List.mem_append.mp hx with z | z
        · exact hgn x z
        · rw [List.mem_singleton] at z; omega
      · exact ⟨_, Vl.row _ (fun x hx => hgn x (List.mem_of_mem_drop hx)) (by rw [List.length_drop]; omega)⟩
      · exact ⟨_, Vl.none _⟩
      · exact Vl.strs _ (by omega)
      · exact Vl.trues _ (by omega)
    generalize ([dT g0, dT pk, dL g0, dT (g0 ++ [0]), dT (g0.drop 1), .none, .tuple (g0.map dStr), .tuple (List.replicate g0.length (.bool true))] : List PyData) = L at hda hVl
    show (v8 :: nv :: vs).length ≤ sizeLine ∧ _
    generalize v8 :: nv :: vs = xs at hda hlen
    refine ⟨by rw [hlen, line]; decide, fun qa hqa => ⟨qa, rfl, ⟨xs, .inl (.inl upd_same)⟩, ?_⟩⟩
    have g15 := Go.new (o := .lst xs) g14.gh hqa
    have hL15 : (upd G14 qa (.lst xs)) qa = some (.lst xs) := upd_same
    generalize upd G14 qa (.lst xs) = G15 at g15 hL15
    generalize upd H14 qa (.lst xs) = H15 at g15
    have e15 := (s13'.go.gg.trans g14.gg).trans g15.gg
    have hv2 := hv2.mono e15
    have hv11 := hv11.mono e15
    have hv3 := hv3.mono e15
    have hv7 := hv7.mono e15
    have hda := hda.mono g15.gg
    refine for_list (xs := xs) (fun i σ' H' => ∃ G' b9 b14, Ex G15 G' ∧ Ex G' H' ∧ σ' = [some (.ref a), some (.ref p), some v2, some v3, some v4, some v5, b6, some v7, some v8, b9, some rw, some v11, b12, b13, b14, none]) ⟨G15, none, none, Ex.refl G15, g15.gh, rfl⟩ ?_ ?_ ?_
    · rintro i σ' H' _ ⟨G', _, _, e, e', _⟩
      exact .inl (.inl (e' _ _ (e _ _ hL15)))
    · rintro i x σ' H' hi ⟨G', b9, b14, e, e', rfl⟩
      obtain ⟨d, hd, hx⟩ := hda.get' hi
      obtain ⟨o, hvl⟩ := hVl d (List.mem_of_getElem? hd)
      have hx := hx.mono e
      refine r_name ?_
      refine rq_asg (Φ := fun d => d = .bool (dueO (rights (lawRows n dd) R S) o)) (ed_due hvl rfl hx rfl (hv7.mono e) (by simp) fun _ => rfl) e' fun v14 G16 H16 d16 g16 hv14 hd16 => ?_
      subst hd16
      have e16 := e.trans g16.gg
      refine r_if (b := false) (et_of (et_not (et_B (ed_alike (AlOk.bool 2 (Sho.ans ⟨n, dd, S, R, d, o⟩) (dueO (rights (lawRows n dd) R S) o)) (ed_callA (⟨n, dd, S, R, d, o⟩ : Sho) (es_cons (ed_var (i := 2) rfl (hv2.mono e16)) (es_cons (ed_var (i := 11) rfl (hv11.mono e16)) (es_cons (ed_var (i := 3) rfl (hv3.mono e16)) (es_cons (ed_var (i := 9) rfl (hx.mono g16.gg)) es_nil)))) ⟨hHSR, hvl.v⟩ fun d hd => hd) (ed_var (i := 14) rfl hv14)))) (by rw [shown_due ho]; simp)) g16.gh (fun h => by cases h) fun _ H17 e17 => ?_
      exact ⟨G16, some x, some v14, e16, g16.gh.trans e17, rfl⟩
    · rintro σ' H' _
      exact q H'
end
end MxP
end
set_option Elab.async false
set_option linter.all false
set_option maxRecDepth 100000
set_option maxHeartbeats 0
/-! The join: all promises, the head. -/
namespace MxP
open PySem PySem.Spec PyProof.Rows L2 MxT MxL
section
variable {P : Program} {w : World} {K : PySem.W.Frag} {mg : Str → Option Value}
theorem law_ok (T : Tx K mg) {f : Addr} {fd : FuncData} (F : FunD K "law" "law" (defArgs sLaw) (defBody sLaw) (defScope sLaw) [] [] f fd) (base : Heap) : FnOk P w K mg base CX0 13 f fd ["_law_script"] (spLaw K) := by
  have isInteger := ok_is_integer (P := P) (w := w) (base := base) T
  have isIn := ok_is_in T isInteger
  have isList := ok_is_list (P := P) (w := w) (base := base) T
  have needDoors := ok_need_doors T isList isIn
  have needHouse := ok_need_house T isList isIn needDoors
  have needNumbers := ok_need_numbers T isList isIn
  have needState := ok_need_state T needHouse needNumbers
  have needRow := ok_need_row T isList isIn
  have free := ok_free_number (P := P) (w := w) (base := base) T
  have key := ok_key_in T free
  have story := ok_story_in T key
  have near := ok_near (P := P) (w := w) (base := base) T
  have after := ok_after T needState needRow story near
  have like := ok_like_in (P := P) (w := w) (base := base) T
  have needParted := ok_need_parted T needState like
  have rests := ok_rests_in T free
  have needRest := ok_need_rest T needNumbers rests near
  have below := ok_is_below (P := P) (w := w) (base := base) T
  have needBoth := ok_need_both T needParted needRest below
  have fewest := ok_fewest_keys T needBoth
  have shortest := ok_shortest_row T needBoth near free key
  have isLargest := ok_is_largest (P := P) (w := w) (base := base) T
  have largest := ok_largest_in T isLargest
  have under := ok_rests_under T near (ok_below_in T largest 7)
  have restsBelow := ok_rests_below T needParted under
  have shows := ok_shows_row T needBoth key near
  have lawFree := ok_law_free (P := P) (w := w) (base := base) T
  have lawKey := ok_law_key T lawFree
  have lawDone := ok_law_done T lawKey
  have taken := ok_law_taken (P := P) (w := w) (base := base) T
  have pick := ok_law_pick T taken
  have lawNear := ok_law_near (P := P) (w := w) (base := base) T
  exact F.ok (CX := CX0) scLaw (fun vs H Q E ⟨a, ns, h, _⟩ => by rw [h]; rfl) fun cdv A outer s H vs Q E hr h => by
    obtain ⟨t, h1, h2⟩ := law_body T (ok_law_house T taken) lawNear (ok_law_parted T lawNear pick) pick restsBelow (ok_law_alike T 3) fewest (ok_law_search T lawKey) lawDone shortest after shows _ cdv A outer s H vs Q E hr h
    exact ⟨t, h1.nox, h2⟩
end
theorem facts {P : Program} {w : World} {K : PySem.W.Frag} {h : Heap} {mg : Str → Option Value} {f : Addr} (X : K.In h) (G : h.Ns mainGlobals mg) (hfa : mg ("law" : Str) = some (.ref f)) (c : He.SaysD fa fn K) :
    ∃ fd : FuncData, (∀ (s : Shared) (v : Value), BindsTo s fd ⟨[v], []⟩ [("_law_script", v)]) ∧ ∀ base : Heap, K.In base → base.Ns mainGlobals mg → FnOk P w K mg base CX0 13 f fd ["_law_script"] (spLaw K) := by
  have T : Tx K mg := ⟨⟨h, X, G⟩, c⟩
  obtain ⟨fd, F, e⟩ := T.fLaw
  have e := hfa.symm.trans e
  cases e
  have b := FunD.bindsA (ps := ["_law_script"]) F bdLaw
  exact ⟨fd, fun s v => b s [v] rfl, fun base _ _ => law_ok T F base⟩
end MxP
open PySem PySem.W PySem.Calls PyProof.Rows
theorem PySem.Challenge.cw_mexrooms_k21_whole_shortest_rows_holds : PySem.Challenge.rw_mexrooms_k21_whole_shortest_rows.Holds := by
  w_on; o_law
  refine HandSHeadRun.head_any (r := MxH.R) (q := view MxH.R.prog [54]) (H := MxH.hk) (ob := MxH.ob) (M := 3000) (loose := MxH.loose) (d := HandSHeadRun.topDef MxH.R.prog 54) (kwd := []) MxH.ob_eq
    (by kernel_rfl) (fun s => by kernel_rfl) MxH.run (by kernel_rfl) (by kernel_rfl) (by kernel_rfl) (by rfl) (by first | assumption | decide +kernel) (by decide +kernel) ⟨rfl, rfl, rfl, rfl, rfl, by decide +kernel⟩ ?hw ?hc
  case hw => w_witness2
  case hc =>
    refine L2.walk_ofE (l := PySem.Challenge.rw_mexrooms_k21_whole_shortest_rows) (n := 63) (k := 13) (x := "_law_script") (CX := L2.CX0) rfl (by decide) (by kernel_rfl) ⟨rfl, by decide, by decide⟩ ?F (fun _ _ _ _ z => z)
    intro w mg fa h Y G hmg0
    obtain ⟨K, KX, c⟩ := Y
    have hmg : mg ("law" : PySem.Str) = some (.ref fa) := by
      have e : (HandSHeadRun.topDef MxH.R.prog 54).name = ("law" : PySem.Str) := by kernel_rfl
      rw [← e]
      exact hmg0
    obtain ⟨fd, hb, hF⟩ := MxP.facts (P := (PySem.Challenge.rw_mexrooms_k21_whole_shortest_rows).prog) (w := w) KX G hmg c
    exact ⟨K, fd, MxP.spLaw K, KX, hb, fun H a ns hl _ hS => ⟨a, ns, rfl, hS, fun _ => rfl⟩, hF⟩
