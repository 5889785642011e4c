import PyProof.Rows.All
import Wide.All
import OpenK.AllK
import Wide.FinOn
import HandS.ForMost
import HandS.TupAny
import HandS.TupLe
import HandS.Style
import KE.KDictKeyed
import HandS.Zip
import HandS.IsInst
import HandS.Flow
import KE.KLam
import KE.KSortKeySt
import HandS.Lambda
import HandS.Conv
import HandS.SortKw
import HandS.EndTab
import HandS.EndOwn
import PySem.Challenge.RW_bucketsums_k29_whole_grids_great
set_option Elab.async false
set_option maxHeartbeats 400000
set_option linter.all false
/-! Grids: rows that fit, all grids in order, their number. Plain mathematics. -/
namespace Gm
/-- all rows with total t that fit into the columns cs, ascending -/
def wr : Int → List Int → List (List Int)
  | t, [] => if t = 0 then [[]] else []
  | t, c :: cs => (List.range (min c t + 1).toNat).flatMap fun (x : Nat) => (wr (t - (x : Int)) cs).map fun r => (x : Int) :: r
def sub (a b : List Int) : List Int := List.zipWith (fun x y => x - y) a b
/-- all grids, ascending -/
def mats : List Int → List Int → List (List (List Int))
  | [], cs => if cs.sum = 0 then [[]] else []
  | r :: rs, cs => (wr r cs).flatMap fun row => (mats rs (sub cs row)).map fun g => row :: g
def ways (rows cols : List Int) : Int := ((mats rows cols).length : Int)
theorem ways_nil (cs : List Int) : ways [] cs = if cs.sum = 0 then 1 else 0 := by
  unfold ways mats; split <;> rfl
theorem ways_nn (rows cols : List Int) : 0 ≤ ways rows cols := Int.natCast_nonneg _
theorem length_flatMap_sum {α β : Type} (f : α → List β) : ∀ l : List α, ((l.flatMap f).length : Int) = (l.map fun a => ((f a).length : Int)).sum
  | [] => rfl
  | a :: l => by
    rw [List.flatMap_cons, List.length_append, List.map_cons, List.sum_cons, ← length_flatMap_sum f l]; omega
theorem ways_cons (r : Int) (rs cs : List Int) : ways (r :: rs) cs = ((wr r cs).map fun row => ways rs (sub cs row)).sum := by
  unfold ways
  show (((wr r cs).flatMap fun row => (mats rs (sub cs row)).map fun g => row :: g).length : Int) = _
  rw [length_flatMap_sum]
  congr 1
  apply List.map_congr_left
  intro row _
  rw [List.length_map]

/-! ### what fits -/
def Fit : List Int → List Int → Prop
  | [], [] => True
  | x :: r, c :: cs => 0 ≤ x ∧ x ≤ c ∧ Fit r cs
  | _, _ => False
def NN (l : List Int) : Prop := ∀ x ∈ l, 0 ≤ x
theorem NN.cons {x : Int} {l : List Int} : NN (x :: l) ↔ 0 ≤ x ∧ NN l := by
  unfold NN; simp
theorem NN.nil : NN [] := fun x h => by cases h
theorem NN.sum : ∀ {l : List Int}, NN l → 0 ≤ l.sum
  | [], _ => Int.le_refl 0
  | x :: l, h => by
    have := NN.sum (NN.cons.mp h).2
    have := (NN.cons.mp h).1
    rw [List.sum_cons]; omega
theorem NN.le_sum : ∀ {l : List Int} {x : Int}, NN l → x ∈ l → x ≤ l.sum
  | y :: l, x, h, hx => by
    have hy := (NN.cons.mp h).1
    have hl := (NN.cons.mp h).2
    have hs := NN.sum hl
    rw [List.sum_cons]
    rcases List.mem_cons.mp hx with rfl | hx
    · omega
    · have := NN.le_sum hl hx; omega
theorem Fit.len : ∀ {r cs : List Int}, Fit r cs → r.length = cs.length
  | [], [], _ => rfl
  | x :: r, c :: cs, h => by rw [List.length_cons, List.length_cons, Fit.len h.2.2]
  | [], _ :: _, h => h.elim
  | _ :: _, [], h => h.elim
theorem Fit.nn : ∀ {r cs : List Int}, Fit r cs → NN r
  | [], _, _ => NN.nil
  | x :: r, c :: cs, h => NN.cons.mpr ⟨h.1, Fit.nn h.2.2⟩
  | _ :: _, [], h => h.elim
theorem Fit.sub_nn : ∀ {r cs : List Int}, Fit r cs → NN (sub cs r)
  | [], [], _ => NN.nil
  | x :: r, c :: cs, h => by
    show NN ((c - x) :: sub cs r)
    exact NN.cons.mpr ⟨by have := h.2.1; omega, Fit.sub_nn h.2.2⟩
  | [], _ :: _, h => h.elim
  | _ :: _, [], h => h.elim
theorem Fit.sub_len {r cs : List Int} (h : Fit r cs) : (sub cs r).length = cs.length := by
  unfold sub; rw [List.length_zipWith, h.len]; omega
theorem Fit.sub_sum : ∀ {r cs : List Int}, Fit r cs → (sub cs r).sum = cs.sum - r.sum
  | [], [], _ => rfl
  | x :: r, c :: cs, h => by
    have := Fit.sub_sum h.2.2
    show ((c - x) :: sub cs r).sum = _
    rw [List.sum_cons, List.sum_cons, List.sum_cons, this]; omega
  | [], _ :: _, h => h.elim
  | _ :: _, [], h => h.elim
theorem Fit.sub_le : ∀ {r cs : List Int}, Fit r cs → ∀ {m : Int}, (∀ c ∈ cs, c ≤ m) → ∀ c ∈ sub cs r, c ≤ m
  | [], [], _, m, _ => fun c hc => by cases hc
  | x :: r, c :: cs, h, m, hm => fun d hd => by
    have hd : d ∈ (c - x) :: sub cs r := hd
    rcases List.mem_cons.mp hd with rfl | hd
    · have := hm c List.mem_cons_self; have := h.1; omega
    · exact Fit.sub_le h.2.2 (fun e he => hm e (List.mem_cons_of_mem _ he)) d hd
  | [], _ :: _, h, _, _ => h.elim
  | _ :: _, [], h, _, _ => h.elim
theorem mem_wr : ∀ {cs : List Int} {t : Int} {row : List Int}, row ∈ wr t cs ↔ Fit row cs ∧ row.sum = t
  | [], t, row => by
    unfold wr
    constructor
    · intro h
      split at h
      · rename_i ht
        rw [List.mem_singleton] at h
        subst h; exact ⟨trivial, ht.symm⟩
      · cases h
    · rintro ⟨h1, h2⟩
      cases row with
      | nil =>
        have : t = 0 := h2.symm
        rw [if_pos this]; exact List.mem_singleton.mpr rfl
      | cons => exact h1.elim
  | c :: cs, t, row => by
    unfold wr
    rw [List.mem_flatMap]
    constructor
    · rintro ⟨x, hx, hr⟩
      rw [List.mem_range] at hx
      obtain ⟨r, hr2, rfl⟩ := List.mem_map.mp hr
      obtain ⟨h1, h2⟩ := mem_wr.mp hr2
      refine ⟨⟨Int.natCast_nonneg _, by omega, h1⟩, ?_⟩
      rw [List.sum_cons, h2]; omega
    · rintro ⟨h1, h2⟩
      cases row with
      | nil => exact h1.elim
      | cons x r =>
        obtain ⟨a, b, f⟩ := h1
        rw [List.sum_cons] at h2
        have hs := NN.sum f.nn
        refine ⟨x.toNat, List.mem_range.mpr (by omega), List.mem_map.mpr ⟨r, mem_wr.mpr ⟨f, by omega⟩, ?_⟩⟩
        rw [Int.toNat_of_nonneg a]

/-! ### the order -/
def lx : List Int → List Int → Bool
  | [], [] => false
  | [], _ :: _ => true
  | _ :: _, [] => false
  | x :: xs, y :: ys => if x = y then lx xs ys else decide (x < y)
theorem lx_irr : ∀ l : List Int, lx l l = false
  | [] => rfl
  | x :: l => by unfold lx; rw [if_pos rfl]; exact lx_irr l
theorem lx_cons_same {x : Int} {a b : List Int} : lx (x :: a) (x :: b) = lx a b := by
  rw [lx, if_pos rfl]
theorem lx_cons_lt {x y : Int} {a b : List Int} (h : x < y) : lx (x :: a) (y :: b) = true := by
  rw [lx, if_neg (by omega)]; exact decide_eq_true h
def lxg : List (List Int) → List (List Int) → Bool
  | [], [] => false
  | [], _ :: _ => true
  | _ :: _, [] => false
  | x :: xs, y :: ys => if x = y then lxg xs ys else lx x y
theorem lxg_irr : ∀ l : List (List Int), lxg l l = false
  | [] => rfl
  | x :: l => by unfold lxg; rw [if_pos rfl]; exact lxg_irr l
theorem wr_sorted : ∀ (cs : List Int) (t : Int), (wr t cs).Pairwise fun a b => lx a b = true
  | [], t => by unfold wr; split <;> simp
  | c :: cs, t => by
    unfold wr
    rw [List.pairwise_flatMap]
    refine ⟨fun x _ => ?_, ?_⟩
    · rw [List.pairwise_map]
      exact (wr_sorted cs _).imp fun h => by rw [lx_cons_same]; exact h
    · refine List.pairwise_lt_range.imp fun {a b} hab r hr s hs => ?_
      obtain ⟨r', _, rfl⟩ := List.mem_map.mp hr
      obtain ⟨s', _, rfl⟩ := List.mem_map.mp hs
      exact lx_cons_lt (by omega)
theorem lx_ne {a b : List Int} (h : lx a b = true) : a ≠ b := fun e => by
  subst e; rw [lx_irr] at h; cases h
theorem mats_sorted : ∀ (rows cs : List Int), (mats rows cs).Pairwise fun a b => lxg a b = true
  | [], cs => by unfold mats; split <;> simp
  | r :: rows, cs => by
    unfold mats
    rw [List.pairwise_flatMap]
    refine ⟨fun x _ => ?_, ?_⟩
    · rw [List.pairwise_map]
      exact (mats_sorted rows _).imp fun h => by rw [lxg, if_pos rfl]; exact h
    · refine (wr_sorted cs r).imp fun {a b} hab g hg k hk => ?_
      obtain ⟨g', _, rfl⟩ := List.mem_map.mp hg
      obtain ⟨k', _, rfl⟩ := List.mem_map.mp hk
      rw [lxg, if_neg (lx_ne hab)]; exact hab
theorem mats_nodup (rows cs : List Int) : (mats rows cs).Nodup :=
  (mats_sorted rows cs).imp fun {a b} h e => by subst e; rw [lxg_irr] at h; cases h

/-! ### grids by their sums -/
def colsum (g : List (List Int)) (j : Nat) : Int := (g.map fun row => row.getD j 0).sum
def colsums (g : List (List Int)) (n : Nat) : List Int := (List.range n).map (colsum g)
structure IsG (rows cols : List Int) (g : List (List Int)) : Prop where
  len : g.length = rows.length
  row : ∀ r ∈ g, r.length = cols.length ∧ NN r
  rs : g.map List.sum = rows
  cs : colsums g cols.length = cols
theorem map_range_getD : ∀ (l : List Int), (List.range l.length).map (fun j => l.getD j 0) = l := fun l => by
  apply List.ext_getElem?
  intro i
  rw [List.getElem?_map]
  by_cases h : i < l.length
  · rw [List.getElem?_range h, List.getElem?_eq_getElem h]
    show some (l.getD i 0) = some l[i]
    rw [List.getD_eq_getElem?_getD, List.getElem?_eq_getElem h]; rfl
  · rw [List.getElem?_eq_none (by rw [List.length_range]; omega), List.getElem?_eq_none (by omega)]; rfl
theorem sub_getD : ∀ {r cs : List Int}, Fit r cs → ∀ j : Nat, (sub cs r).getD j 0 = cs.getD j 0 - r.getD j 0
  | [], [], _, j => by simp [sub]
  | x :: r, c :: cs, h, 0 => by show c - x = c - x; rfl
  | x :: r, c :: cs, h, j + 1 => by
    show ((c - x) :: sub cs r).getD (j + 1) 0 = (c :: cs).getD (j + 1) 0 - (x :: r).getD (j + 1) 0
    rw [List.getD_cons_succ, List.getD_cons_succ, List.getD_cons_succ]
    exact sub_getD h.2.2 j
  | [], _ :: _, h, _ => h.elim
  | _ :: _, [], h, _ => h.elim
theorem eq_of_getD {a b : List Int} (hl : a.length = b.length) (h : ∀ j : Nat, j < b.length → a.getD j 0 = b.getD j 0) : a = b := by
  rw [← map_range_getD a, ← map_range_getD b, hl]
  exact List.map_congr_left fun j hj => h j (List.mem_range.mp hj)
theorem fit_of_getD : ∀ {r cs : List Int}, r.length = cs.length → (∀ j : Nat, j < cs.length → 0 ≤ r.getD j 0 ∧ r.getD j 0 ≤ cs.getD j 0) → Fit r cs
  | [], [], _, _ => trivial
  | x :: r, c :: cs, hl, h => ⟨(h 0 (by simp)).1, (h 0 (by simp)).2, fit_of_getD (by simpa using hl) fun j hj => by
      have := h (j + 1) (by simpa using hj)
      rw [List.getD_cons_succ, List.getD_cons_succ] at this
      exact this⟩
  | [], _ :: _, h, _ => by simp at h
  | _ :: _, [], h, _ => by simp at h
theorem colsums_getD {g : List (List Int)} {n j : Nat} (h : j < n) : (colsums g n).getD j 0 = colsum g j := by
  unfold colsums
  rw [List.getD_eq_getElem?_getD, List.getElem?_map, List.getElem?_range h]; rfl
theorem colsums_len (g : List (List Int)) (n : Nat) : (colsums g n).length = n := by
  unfold colsums; rw [List.length_map, List.length_range]
theorem colsum_nn {g : List (List Int)} (h : ∀ r ∈ g, NN r) (j : Nat) : 0 ≤ colsum g j := by
  refine NN.sum fun x hx => ?_
  obtain ⟨r, hr, rfl⟩ := List.mem_map.mp hx
  rw [List.getD_eq_getElem?_getD]
  cases e : r[j]? with
  | none => exact Int.le_refl 0
  | some y => exact h r hr y (List.mem_of_getElem? e)
theorem colsum_cons (r : List Int) (g : List (List Int)) (j : Nat) : colsum (r :: g) j = r.getD j 0 + colsum g j := by
  unfold colsum; rw [List.map_cons, List.sum_cons]
theorem nn_getD {r : List Int} (h : NN r) (j : Nat) : 0 ≤ r.getD j 0 := by
  rw [List.getD_eq_getElem?_getD]
  cases e : r[j]? with
  | none => exact Int.le_refl 0
  | some y => exact h y (List.mem_of_getElem? e)
theorem all_zero : ∀ {l : List Int}, NN l → l.sum = 0 → l = List.replicate l.length 0
  | [], _, _ => rfl
  | x :: l, h, hs => by
    have h1 := (NN.cons.mp h).1
    have h2 := (NN.cons.mp h).2
    have h3 := NN.sum h2
    rw [List.sum_cons] at hs
    have e1 : x = 0 := by omega
    have e2 : l.sum = 0 := by omega
    rw [List.length_cons, List.replicate_succ, ← all_zero h2 e2, e1]
theorem sum_replicate0 : ∀ n : Nat, (List.replicate n (0 : Int)).sum = 0
  | 0 => rfl
  | n + 1 => by rw [List.replicate_succ, List.sum_cons, sum_replicate0 n]; rfl
theorem colsums_nil (n : Nat) : colsums [] n = List.replicate n 0 := by
  apply List.ext_getElem?
  intro i
  unfold colsums
  rw [List.getElem?_map, List.getElem?_replicate]
  by_cases h : i < n
  · rw [List.getElem?_range h, if_pos h]; rfl
  · rw [List.getElem?_eq_none (by simpa using h), if_neg h]; rfl
theorem mem_mats : ∀ {rows cols : List Int} {g : List (List Int)}, NN cols → (g ∈ mats rows cols ↔ IsG rows cols g)
  | [], cols, g, hn => by
    unfold mats
    constructor
    · intro h
      split at h
      · rename_i hs
        rw [List.mem_singleton] at h
        subst h
        exact ⟨rfl, fun r hr => (by cases hr), rfl, by rw [colsums_nil]; exact (all_zero hn hs).symm⟩
      · cases h
    · intro h
      have hl := h.len
      have e : g = [] := List.eq_nil_of_length_eq_zero hl
      subst e
      have hc := h.cs
      rw [colsums_nil] at hc
      rw [if_pos (by rw [← hc]; exact sum_replicate0 _)]
      exact List.mem_singleton.mpr rfl
  | r :: rows, cols, g, hn => by
    unfold mats
    rw [List.mem_flatMap]
    constructor
    · rintro ⟨row, hrow, hg⟩
      obtain ⟨g', hg', rfl⟩ := List.mem_map.mp hg
      obtain ⟨f, hs⟩ := mem_wr.mp hrow
      have q := (mem_mats f.sub_nn).mp hg'
      refine ⟨by rw [List.length_cons, List.length_cons, q.len], fun s hs' => ?_, ?_, ?_⟩
      · rcases List.mem_cons.mp hs' with rfl | hs'
        · exact ⟨f.len, f.nn⟩
        · have := q.row s hs'
          rw [f.sub_len] at this
          exact this
      · rw [List.map_cons, q.rs, hs]
      · refine eq_of_getD (colsums_len _ _) fun j hj => ?_
        have hc := congrArg (fun l => l.getD j 0) q.cs
        have hc : (colsums g' (sub cols row).length).getD j 0 = (sub cols row).getD j 0 := hc
        rw [f.sub_len, colsums_getD hj, sub_getD f] at hc
        rw [colsums_getD hj, colsum_cons, hc]; omega
    · intro q
      cases g with
      | nil => have := q.len; simp at this
      | cons row g' =>
        have hr := q.rs
        rw [List.map_cons] at hr
        injection hr with hr1 hr2
        have hrow := q.row row List.mem_cons_self
        have hg' : ∀ s ∈ g', NN s := fun s hs => (q.row s (List.mem_cons_of_mem _ hs)).2
        have col : ∀ j : Nat, j < cols.length → row.getD j 0 + colsum g' j = cols.getD j 0 := fun j hj => by
          have hc := congrArg (fun l => l.getD j 0) q.cs
          have hc : (colsums (row :: g') cols.length).getD j 0 = cols.getD j 0 := hc
          rw [colsums_getD hj, colsum_cons] at hc
          exact hc
        have f : Fit row cols := fit_of_getD hrow.1 fun j hj => by
          have := col j hj
          have := colsum_nn hg' j
          have := nn_getD hrow.2 j
          omega
        refine ⟨row, mem_wr.mpr ⟨f, hr1⟩, List.mem_map.mpr ⟨g', (mem_mats f.sub_nn).mpr ⟨?_, fun s hs => ?_, hr2, ?_⟩, rfl⟩⟩
        · have := q.len; simpa using this
        · rw [f.sub_len]
          exact q.row s (List.mem_cons_of_mem _ hs)
        · refine eq_of_getD (by rw [colsums_len]) fun j hj => ?_
          rw [f.sub_len] at hj ⊢
          rw [colsums_getD hj, sub_getD f]
          have := col j hj
          omega

/-! ### turned, and with the rows in another order -/
theorem nodup_le {α : Type} [DecidableEq α] : ∀ {a b : List α}, a.Nodup → (∀ x ∈ a, x ∈ b) → a.length ≤ b.length
  | [], _, _, _ => Nat.zero_le _
  | x :: a, b, hd, hs => by
    have h1 := List.nodup_cons.mp hd
    have hx := hs x List.mem_cons_self
    have := nodup_le (a := a) (b := b.erase x) h1.2 fun y hy => by
      refine (List.mem_erase_of_ne ?_).mpr (hs y (List.mem_cons_of_mem _ hy))
      rintro rfl
      exact h1.1 hy
    have hl := List.length_erase_of_mem hx
    have hp := List.length_pos_of_mem hx
    rw [List.length_cons]; omega
theorem nodup_map_of {α β : Type} {f : α → β} : ∀ {l : List α}, l.Nodup → (∀ x ∈ l, ∀ y ∈ l, f x = f y → x = y) → (l.map f).Nodup
  | [], _, _ => List.nodup_nil
  | a :: l, h, hi => by
    have h1 := List.nodup_cons.mp h
    rw [List.map_cons, List.nodup_cons]
    refine ⟨fun hm => ?_, nodup_map_of h1.2 fun x hx y hy => hi x (List.mem_cons_of_mem _ hx) y (List.mem_cons_of_mem _ hy)⟩
    obtain ⟨y, hy, e⟩ := List.mem_map.mp hm
    have := hi y (List.mem_cons_of_mem _ hy) a List.mem_cons_self e
    subst this
    exact h1.1 hy
def trans (g : List (List Int)) (n : Nat) : List (List Int) := (List.range n).map fun j => g.map fun row => row.getD j 0
theorem nn_of_map_sum {g : List (List Int)} (h : ∀ r ∈ g, NN r) : NN (g.map List.sum) := fun x hx => by
  obtain ⟨r, hr, rfl⟩ := List.mem_map.mp hx
  exact NN.sum (h r hr)
theorem map_getD {f : List Int → Int} {g : List (List Int)} {i : Nat} (h : i < g.length) : (g.map f).getD i 0 = f g[i] := by
  rw [List.getD_eq_getElem?_getD, List.getElem?_map, List.getElem?_eq_getElem h]; rfl
theorem IsG.trans {rows cols : List Int} {g : List (List Int)} (q : IsG rows cols g) : IsG cols rows (trans g cols.length) where
  len := by unfold Gm.trans; rw [List.length_map, List.length_range]
  row := fun r hr => by
    unfold Gm.trans at hr
    obtain ⟨j, _, rfl⟩ := List.mem_map.mp hr
    refine ⟨by rw [List.length_map, q.len], fun x hx => ?_⟩
    obtain ⟨row, hrow, rfl⟩ := List.mem_map.mp hx
    exact nn_getD (q.row row hrow).2 j
  rs := by
    unfold Gm.trans
    rw [List.map_map]
    exact q.cs
  cs := by
    refine eq_of_getD (by rw [colsums_len]) fun i hi => ?_
    rw [colsums_getD hi]
    have hg : i < g.length := by rw [q.len]; exact hi
    have hr := q.row g[i] (List.getElem_mem hg)
    have e : rows.getD i 0 = g[i].sum := by
      rw [← q.rs, map_getD hg]
    rw [e]
    unfold colsum Gm.trans
    rw [List.map_map]
    have : ((fun row : List Int => row.getD i 0) ∘ fun j => g.map fun row => row.getD j 0) = fun j => g[i].getD j 0 := by
      funext j
      show (g.map fun row => row.getD j 0).getD i 0 = _
      rw [map_getD hg]
    rw [this, ← hr.1, map_range_getD]
theorem trans_inj {rows cols : List Int} {g h : List (List Int)} (q : IsG rows cols g) (p : IsG rows cols h) (e : trans g cols.length = trans h cols.length) : g = h := by
  have hl : g.length = h.length := by rw [q.len, p.len]
  apply List.ext_getElem hl
  intro i h1 h2
  have r1 := (q.row g[i] (List.getElem_mem h1)).1
  have r2 := (p.row h[i] (List.getElem_mem h2)).1
  refine eq_of_getD (by rw [r1, r2]) fun j hj => ?_
  rw [r2] at hj
  have e1 := congrArg (fun t : List (List Int) => (t[j]?.getD []).getD i 0) e
  simp only [Gm.trans, List.getElem?_map, List.getElem?_range hj, Option.map_some, Option.getD_some] at e1
  rw [map_getD h1, map_getD h2] at e1
  exact e1
theorem ways_le_trans {rows cols : List Int} (hr : NN rows) (hc : NN cols) : (mats rows cols).length ≤ (mats cols rows).length := by
  have hd : ((mats rows cols).map fun g => trans g cols.length).Nodup := nodup_map_of (mats_nodup rows cols) fun x hx y hy e =>
    trans_inj ((mem_mats hc).mp hx) ((mem_mats hc).mp hy) e
  have := nodup_le hd (b := mats cols rows) fun t ht => by
    obtain ⟨g, hg, rfl⟩ := List.mem_map.mp ht
    exact (mem_mats hr).mpr ((mem_mats hc).mp hg).trans
  rwa [List.length_map] at this
theorem ways_trans {rows cols : List Int} (hr : NN rows) (hc : NN cols) : ways cols rows = ways rows cols := by
  have h1 := ways_le_trans hr hc
  have h2 := ways_le_trans hc hr
  unfold ways; omega
theorem colsum_reverse (g : List (List Int)) (j : Nat) : colsum g.reverse j = colsum g j := by
  unfold colsum
  rw [List.map_reverse, List.sum_reverse]
theorem IsG.rev {rows cols : List Int} {g : List (List Int)} (q : IsG rows cols g) : IsG rows.reverse cols g.reverse where
  len := by rw [List.length_reverse, List.length_reverse, q.len]
  row := fun r hr => q.row r (List.mem_reverse.mp hr)
  rs := by rw [List.map_reverse, q.rs]
  cs := by
    refine eq_of_getD (by rw [colsums_len]) fun j hj => ?_
    rw [colsums_getD hj, colsum_reverse, ← colsums_getD hj, q.cs]
theorem ways_le_rev {rows cols : List Int} (hc : NN cols) : (mats rows cols).length ≤ (mats rows.reverse cols).length := by
  have hd : ((mats rows cols).map List.reverse).Nodup := nodup_map_of (mats_nodup rows cols) fun x _ y _ e => List.reverse_inj.mp e
  have := nodup_le hd (b := mats rows.reverse cols) fun t ht => by
    obtain ⟨g, hg, rfl⟩ := List.mem_map.mp ht
    exact (mem_mats hc).mpr ((mem_mats hc).mp hg).rev
  rwa [List.length_map] at this
theorem ways_rev {rows cols : List Int} (hc : NN cols) : ways rows.reverse cols = ways rows cols := by
  have h1 := ways_le_rev (rows := rows) hc
  have h2 := ways_le_rev (rows := rows.reverse) hc
  rw [List.reverse_reverse] at h2
  unfold ways; omega
/-- one row alone -/
theorem wr_self : ∀ {cs : List Int}, NN cs → wr cs.sum cs = [cs]
  | [], _ => rfl
  | c :: cs, h => by
    have hs := wr_sorted (c :: cs) (c :: cs).sum
    have one : ∀ r ∈ wr (c :: cs).sum (c :: cs), r = c :: cs := fun r hr => by
      obtain ⟨f, e⟩ := mem_wr.mp hr
      have hz : NN (sub (c :: cs) r) := f.sub_nn
      have hq : (sub (c :: cs) r).sum = 0 := by rw [f.sub_sum]; omega
      have hall := all_zero hz hq
      refine eq_of_getD f.len fun j hj => ?_
      have e1 := sub_getD f j
      rw [hall, List.getD_eq_getElem?_getD (l := List.replicate _ _), List.getElem?_replicate] at e1
      split at e1
      · have e1 : (0 : Int) = _ := e1
        omega
      · have e1 : (0 : Int) = _ := e1
        omega
    have hm : (c :: cs) ∈ wr (c :: cs).sum (c :: cs) := mem_wr.mpr ⟨fit_of_getD rfl fun j _ => ⟨nn_getD h j, Int.le_refl _⟩, rfl⟩
    have hnd : (wr (c :: cs).sum (c :: cs)).Nodup := hs.imp fun {a b} h e => lx_ne h e
    have h1 := nodup_le hnd (b := [c :: cs]) fun x hx => List.mem_singleton.mpr (one x hx)
    cases e : wr (c :: cs).sum (c :: cs) with
    | nil => rw [e] at hm; cases hm
    | cons x l =>
      rw [e] at h1 one
      have : l = [] := List.eq_nil_of_length_eq_zero (by rw [List.length_cons, List.length_singleton] at h1; omega)
      subst this
      rw [one x List.mem_cons_self]
theorem sub_self_sum : ∀ cs : List Int, (sub cs cs).sum = 0
  | [] => rfl
  | c :: cs => by
    show ((c - c) :: sub cs cs).sum = 0
    rw [List.sum_cons, sub_self_sum cs]; omega
theorem ways_one {r : Int} {cs : List Int} (h : NN cs) (e : r = cs.sum) : ways [r] cs = 1 := by
  subst e
  rw [ways_cons, wr_self h]
  show ([ways [] (sub cs cs)] : List Int).sum = 1
  rw [ways_nil, if_pos (sub_self_sum cs)]; rfl
end Gm
set_option Elab.async false
set_option maxHeartbeats 400000
set_option linter.all false
/-! Grids: the program's ways to list the rows, the grid at an index. Plain mathematics. -/
namespace Gm
/-! ### rows_within -/
def wStep (room : Int) (found : List (List Int × Int)) : List (List Int × Int) :=
  found.flatMap fun p => (List.range (min room p.2 + 1).toNat).map fun (x : Nat) => (p.1 ++ [(x : Int)], p.2 - (x : Int))
def wFold (t : Int) (cs : List Int) : List (List Int × Int) := cs.foldl (fun f c => wStep c f) [([], t)]
def wEnd (found : List (List Int × Int)) : List (List Int) := (found.filter fun p => decide (p.2 = 0)).map (·.1)
theorem wEnd_nil_go : ∀ found : List (List Int × Int), wEnd found = found.flatMap fun p => (wr p.2 []).map fun r => p.1 ++ r
  | [] => rfl
  | p :: l => by
    have ih := wEnd_nil_go l
    rw [List.flatMap_cons, ← ih]
    unfold wEnd wr
    rw [List.filter_cons]
    by_cases h : p.2 = 0
    · rw [if_pos (decide_eq_true h), if_pos h]; simp
    · rw [if_neg (by simpa using h), if_neg h]; simp
theorem wFold_go : ∀ (cs : List Int) (found : List (List Int × Int)), wEnd (cs.foldl (fun f c => wStep c f) found) = found.flatMap fun p => (wr p.2 cs).map fun r => p.1 ++ r
  | [], found => wEnd_nil_go found
  | c :: cs, found => by
    rw [List.foldl_cons, wFold_go cs]
    unfold wStep
    rw [List.flatMap_assoc]
    congr 1
    funext p
    rw [List.flatMap_map, wr, List.map_flatMap]
    congr 1
    funext x
    rw [List.map_map]
    congr 1
    funext r
    show p.1 ++ [(x : Int)] ++ r = p.1 ++ ((x : Int) :: r)
    rw [List.append_assoc]; rfl
theorem wFold_eq (t : Int) (cs : List Int) : wEnd (wFold t cs) = wr t cs := by
  unfold wFold
  rw [wFold_go]; simp
/-! ### the law's own list of first rows -/
def fStep (t room : Int) (found : List (List Int)) : List (List Int) :=
  found.flatMap fun r => (List.range (min room (t - r.sum) + 1).toNat).map fun (x : Nat) => r ++ [(x : Int)]
def fFold (t : Int) (cs : List Int) : List (List Int) := cs.foldl (fun f c => fStep t c f) [[]]
theorem fEnd_nil (t : Int) : ∀ found : List (List Int), (found.filter fun r => decide (r.sum = t)) = found.flatMap fun p => (wr (t - p.sum) []).map fun r => p ++ r
  | [] => rfl
  | p :: l => by
    have ih := fEnd_nil t l
    rw [List.flatMap_cons, ← ih]
    unfold wr
    rw [List.filter_cons]
    by_cases h : p.sum = t
    · rw [if_pos (decide_eq_true h), if_pos (by omega)]; simp
    · rw [if_neg (by simpa using h), if_neg (by omega)]; simp
theorem sum_snoc (r : List Int) (x : Int) : (r ++ [x]).sum = r.sum + x := by
  rw [List.sum_append]
  show r.sum + (x + 0) = _
  omega
theorem fFold_go (t : Int) : ∀ (cs : List Int) (found : List (List Int)), ((cs.foldl (fun f c => fStep t c f) found).filter fun r => decide (r.sum = t)) = found.flatMap fun p => (wr (t - p.sum) cs).map fun r => p ++ r
  | [], found => fEnd_nil t found
  | c :: cs, found => by
    rw [List.foldl_cons, fFold_go t cs]
    unfold fStep
    rw [List.flatMap_assoc]
    congr 1
    funext p
    rw [List.flatMap_map, wr, List.map_flatMap]
    congr 1
    funext x
    rw [List.map_map, sum_snoc, show t - (p.sum + (x : Int)) = t - p.sum - (x : Int) by omega]
    congr 1
    funext r
    show p ++ [(x : Int)] ++ r = p ++ ((x : Int) :: r)
    rw [List.append_assoc]; rfl
theorem fFold_eq (t : Int) (cs : List Int) : ((fFold t cs).filter fun r => decide (r.sum = t)) = wr t cs := by
  unfold fFold
  rw [fFold_go]
  show (wr (t - 0) cs).map (fun r => [] ++ r) ++ [] = wr t cs
  simp
/-! ### how long these lists grow -/
theorem length_flatMap_le {α β : Type} {f : α → List β} {k : Nat} : ∀ {l : List α}, (∀ a ∈ l, (f a).length ≤ k) → (l.flatMap f).length ≤ k * l.length
  | [], _ => Nat.zero_le _
  | a :: l, h => by
    have h1 := h a List.mem_cons_self
    have h2 := length_flatMap_le (l := l) fun b hb => h b (List.mem_cons_of_mem _ hb)
    rw [List.flatMap_cons, List.length_append, List.length_cons, Nat.mul_add]; omega
theorem wStep_len {c : Int} (hc : c ≤ 9) (found : List (List Int × Int)) : (wStep c found).length ≤ 10 * found.length :=
  length_flatMap_le fun p _ => by rw [List.length_map, List.length_range]; omega
theorem fStep_len {t c : Int} (hc : c ≤ 9) (found : List (List Int)) : (fStep t c found).length ≤ 10 * found.length :=
  length_flatMap_le fun p _ => by rw [List.length_map, List.length_range]; omega
theorem wFold_len : ∀ (cs : List Int) (found : List (List Int × Int)), (∀ c ∈ cs, c ≤ 9) → (cs.foldl (fun f c => wStep c f) found).length ≤ 10 ^ cs.length * found.length
  | [], found, _ => by simp
  | c :: cs, found, h => by
    rw [List.foldl_cons]
    have h1 := wFold_len cs (wStep c found) fun d hd => h d (List.mem_cons_of_mem _ hd)
    have h2 := wStep_len (h c List.mem_cons_self) found
    have h3 : 10 ^ cs.length * (wStep c found).length ≤ 10 ^ cs.length * (10 * found.length) := Nat.mul_le_mul_left _ h2
    rw [List.length_cons, Nat.pow_succ]
    rw [Nat.mul_assoc]
    exact Nat.le_trans h1 h3
theorem fFold_len (t : Int) : ∀ (cs : List Int) (found : List (List Int)), (∀ c ∈ cs, c ≤ 9) → (cs.foldl (fun f c => fStep t c f) found).length ≤ 10 ^ cs.length * found.length
  | [], found, _ => by simp
  | c :: cs, found, h => by
    rw [List.foldl_cons]
    have h1 := fFold_len t cs (fStep t c found) fun d hd => h d (List.mem_cons_of_mem _ hd)
    have h2 := fStep_len (t := t) (h c List.mem_cons_self) found
    have h3 : 10 ^ cs.length * (fStep t c found).length ≤ 10 ^ cs.length * (10 * found.length) := Nat.mul_le_mul_left _ h2
    rw [List.length_cons, Nat.pow_succ]
    rw [Nat.mul_assoc]
    exact Nat.le_trans h1 h3
/-! ### the grid at an index -/
theorem flat_at {α β : Type} {L : List α} {f : α → List β} {p : Nat} {a : α} (hp : L[p]? = some a) : (L.drop p).flatMap f = f a ++ (L.drop (p + 1)).flatMap f := by
  obtain ⟨h, e⟩ := List.getElem?_eq_some_iff.mp hp
  rw [List.drop_eq_getElem_cons h, List.flatMap_cons, e]
/-- the place p is passed over -/
theorem flat_skip {α β : Type} {L : List α} {f : α → List β} {p n : Nat} {a : α} (hp : L[p]? = some a) (h : (f a).length ≤ n) : ((L.drop p).flatMap f)[n]? = ((L.drop (p + 1)).flatMap f)[n - (f a).length]? := by
  rw [flat_at hp, List.getElem?_append_right h]
theorem flat_take {α β : Type} {L : List α} {f : α → List β} {p n : Nat} {a : α} (hp : L[p]? = some a) (h : n < (f a).length) : ((L.drop p).flatMap f)[n]? = (f a)[n]? := by
  rw [flat_at hp, List.getElem?_append_left h]
theorem flat_in {α β : Type} {L : List α} {f : α → List β} {p n : Nat} {x : β} (h : ((L.drop p).flatMap f)[n]? = some x) : p < L.length := by
  rcases Nat.lt_or_ge p L.length with q | q
  · exact q
  · rw [List.drop_of_length_le q] at h; simp at h
/-- the greater index, the greater grid -/
theorem mats_lt {rows cols : List Int} {i j : Nat} {g h : List (List Int)} (hi : (mats rows cols)[i]? = some g) (hj : (mats rows cols)[j]? = some h) (q : i < j) : lxg g h = true := by
  obtain ⟨h1, e1⟩ := List.getElem?_eq_some_iff.mp hi
  obtain ⟨h2, e2⟩ := List.getElem?_eq_some_iff.mp hj
  subst e1 e2
  exact List.pairwise_iff_getElem.mp (mats_sorted rows cols) i j h1 h2 q
end Gm
set_option Elab.async false
set_option linter.all false
set_option maxRecDepth 100000
set_option maxHeartbeats 4000000
/-! Rules beside the layer's: sum, min, max of tuples. -/
namespace L2
namespace G29
open PySem PySem.Spec PyProof.Rows L2
section
variable {prog : Program} {w : World} {A : Around} {E : Value → Shared → Prop} {s : Shared} {l : Addr} {xs : Array (Int × Tok)}
theorem iter_intTuple {Q : Value → Shared → Prop} (hl : s.heap.IsTuple l (intItems xs))
    (h : ∀ s2 : Shared, s2 = { s with heap := s.heap.push { cls := .type "tuple_iterator", data := .fields #[.ref l, .int 0 0] } } →
      (s2.heap.IsTupleIter s.heap.objs.size l 0 ∧ s2.heap.IsTuple l (intItems xs)) → (∀ b ∈ [s.heap.objs.size, l], b < s2.heap.objs.size) → l ≠ s.heap.objs.size → Q (.ref s.heap.objs.size) s2) :
    wpAny (model prog w) A (pyIter (.ref l)) Q E s := by
  have hlt : l < s.heap.objs.size := by obtain ⟨_, e, _⟩ := hl; exact Heap.lt_size e
  have hl2 : ({ s with heap := s.heap.push { cls := .type "tuple_iterator", data := .fields #[.ref l, .int 0 0] } } : Shared).heap.IsTuple l (intItems xs) := by
    obtain ⟨o, e, c⟩ := hl; exact ⟨o, Heap.get?_push_of_some _ e, c⟩
  refine wpAny_pyIter_tuple hl (h _ rfl ⟨⟨_, Heap.get?_push_size _ rfl, rfl, rfl⟩, hl2⟩ (fun b hb => ?_) (Nat.ne_of_lt hlt))
  show b < (s.heap.push _).objs.size
  rw [Heap.size_push]
  rcases List.mem_cons.mp hb with rfl | hb
  · exact Nat.lt_succ_self _
  · rcases List.mem_cons.mp hb with rfl | hb
    · exact Nat.lt_succ_of_lt hlt
    · cases hb
theorem old_keptT {h' : Heap} (hk : ∀ b o, b ∉ [s.heap.objs.size] → (s.heap.push { cls := .type "tuple_iterator", data := .fields #[.ref l, .int 0 0] }).get? b = some o → h'.get? b = some o) :
    ∀ b o, s.heap.get? b = some o → h'.get? b = some o := fun b o e => by
  refine hk b o (fun hm => ?_) (Heap.get?_push_of_some _ e)
  rcases List.mem_cons.mp hm with e1 | hm
  · exact absurd (e1 ▸ Heap.lt_size e) (Nat.lt_irrefl _)
  · cases hm
theorem sum_intTuple {Q : Value → Shared → Prop} (hh : A.handled = none) (hl : s.heap.IsTuple l (intItems xs))
    (h : ∀ h' tk t', (∀ b o, s.heap.get? b = some o → h'.get? b = some o) → Q (.int (preSum (numAt xs) xs.size) t') { s with heap := h', toks := tk }) :
    wpAny (model prog w) A (call (.builtin "sum") [.ref l]) Q E s := by
  refine call_sum_walkG (iter_intTuple hl fun s2 e st hfp hlI => ?_)
  subst e
  refine ⟨_, _, _, _, _, _, numAt xs, rfl, Walks.tuple (A := A.in1) hh _ l hlI (intItems xs), st, hfp, (fun _ _ => intItems_at), fun h' tk t' hk => ?_⟩
  have := h h' tk t' (old_keptT hk)
  simpa [intItems] using this
theorem max_intTuple {Q : Value → Shared → Prop} (hh : A.handled = none) (hl : s.heap.IsTuple l (intItems xs)) (hne : 0 < xs.size)
    (h : ∀ v h' tk, (intItems xs)[argBest (fun i j => decide (numAt xs i > numAt xs j)) (xs.size - 1)]? = some v → (∀ b o, s.heap.get? b = some o → h'.get? b = some o) → Q v { s with heap := h', toks := tk }) :
    wpAny (model prog w) A (call (.builtin "max") [.ref l]) Q E s := by
  refine call_max_walk (iter_intTuple hl fun s2 e st hfp hlI => ?_)
  subst e
  refine ⟨_, _, _, _, _, _, _, rfl, Walks.tuple (A := A.in1) hh _ l hlI (intItems xs), st, hfp, by simpa [intItems] using hne, CmpOf.ints_gt (numAt xs) (fun _ _ => intItems_at), fun v h' tk hP hk => ?_⟩
  exact h v h' tk (by simpa [intItems] using hP) (old_keptT hk)
theorem min_intTuple {Q : Value → Shared → Prop} (hh : A.handled = none) (hl : s.heap.IsTuple l (intItems xs)) (hne : 0 < xs.size)
    (h : ∀ v h' tk, (intItems xs)[argBest (fun i j => decide (numAt xs i < numAt xs j)) (xs.size - 1)]? = some v → (∀ b o, s.heap.get? b = some o → h'.get? b = some o) → Q v { s with heap := h', toks := tk }) :
    wpAny (model prog w) A (call (.builtin "min") [.ref l]) Q E s := by
  refine call_min_walk (iter_intTuple hl fun s2 e st hfp hlI => ?_)
  subst e
  refine ⟨_, _, _, _, _, _, _, rfl, Walks.tuple (A := A.in1) hh _ l hlI (intItems xs), st, hfp, by simpa [intItems] using hne, CmpOf.ints_lt (numAt xs) (fun _ _ => intItems_at), fun v h' tk hP hk => ?_⟩
  exact h v h' tk (by simpa [intItems] using hP) (old_keptT hk)
end
section
variable {prog : Program} {w : World} {A : Around} {E : Value → Shared → Prop} {s : Shared} {l : Addr} {its : List Value} {ns : List Int} {Q : Value → Shared → Prop}
theorem sum_rawT (hh : A.handled = none) (hl : s.heap.IsTuple l its.toArray) (hi : IntsAre its ns)
    (h : ∀ h' tk t', (∀ b o, s.heap.get? b = some o → h'.get? b = some o) → Q (.int ns.sum t') { s with heap := h', toks := tk }) : wpAny (model prog w) A (call (.builtin "sum") [.ref l]) Q E s := by
  obtain ⟨xs, e⟩ := hi.allInts.items
  have hn : numsOf (intItems xs).toList = ns := by rw [← e]; exact hi.numsOf
  rw [nums_intItems] at hn
  rw [e] at hl
  refine sum_intTuple hh hl fun h' tk t' hk => ?_
  have := h h' tk t' hk
  rw [preSum_eq, List.take_of_length_le (by simp), hn]; exact this
theorem max_rawT (hh : A.handled = none) (hl : s.heap.IsTuple l its.toArray) (hi : IntsAre its ns) (hne : 0 < ns.length)
    (h : ∀ h' tk M t', (∀ b o, s.heap.get? b = some o → h'.get? b = some o) → M ∈ ns → (∀ a, a ∈ ns → a ≤ M) → Q (.int M t') { s with heap := h', toks := tk }) : wpAny (model prog w) A (call (.builtin "max") [.ref l]) Q E s := by
  obtain ⟨xs, e⟩ := hi.allInts.items
  have hn : numsOf (intItems xs).toList = ns := by rw [← e]; exact hi.numsOf
  rw [nums_intItems] at hn
  subst hn
  rw [e] at hl
  have hsz : 0 < xs.size := by simpa using hne
  refine max_intTuple hh hl hsz fun v h' tk hv hk => ?_
  obtain ⟨t, rfl⟩ := intItems_at hv
  obtain ⟨h1, h2⟩ := argBest_gt (numAt xs) (xs.size - 1)
  refine h h' tk _ t hk ?_ fun a ha => ?_
  · rw [numAt_eq]; exact PySem.getD_mem (by rw [List.length_map, Array.length_toList]; omega)
  · obtain ⟨j, hj, rfl⟩ := mem_getD ha
    rw [List.length_map, Array.length_toList] at hj
    rw [← numAt_eq]; exact h2 j (by omega)
theorem min_rawT (hh : A.handled = none) (hl : s.heap.IsTuple l its.toArray) (hi : IntsAre its ns) (hne : 0 < ns.length)
    (h : ∀ h' tk M t', (∀ b o, s.heap.get? b = some o → h'.get? b = some o) → M ∈ ns → (∀ a, a ∈ ns → M ≤ a) → Q (.int M t') { s with heap := h', toks := tk }) : wpAny (model prog w) A (call (.builtin "min") [.ref l]) Q E s := by
  obtain ⟨xs, e⟩ := hi.allInts.items
  have hn : numsOf (intItems xs).toList = ns := by rw [← e]; exact hi.numsOf
  rw [nums_intItems] at hn
  subst hn
  rw [e] at hl
  have hsz : 0 < xs.size := by simpa using hne
  refine min_intTuple hh hl hsz fun v h' tk hv hk => ?_
  obtain ⟨t, rfl⟩ := intItems_at hv
  obtain ⟨h1, h2⟩ := argBest_lt (numAt xs) (xs.size - 1)
  refine h h' tk _ t hk ?_ fun a ha => ?_
  · rw [numAt_eq]; exact PySem.getD_mem (by rw [List.length_map, Array.length_toList]; omega)
  · obtain ⟨j, hj, rfl⟩ := mem_getD ha
    rw [List.length_map, Array.length_toList] at hj
    rw [← numAt_eq]; exact h2 j (by omega)
end
/-- a list or a tuple of these -/
def Sq (K : PySem.W.Frag) (H : Hp) (a : Addr) (xs : List V) : Prop := SqL K H a xs ∨ SqT K H a xs
section
variable {X : Cx}
def rSumA (K : PySem.W.Frag) : List V → Hp → VK → Prop := fun vs H Q => ∃ (a : Addr) (ns : List Int), vs = [V.ref a] ∧ Sq K H a (ns.map V.int) ∧ Q (.int ns.sum) H
def rMaxA (K : PySem.W.Frag) : List V → Hp → VK → Prop := fun vs H Q => ∃ (a : Addr) (ns : List Int), vs = [V.ref a] ∧ Sq K H a (ns.map V.int) ∧ 0 < ns.length ∧ ∀ m, m ∈ ns → (∀ y, y ∈ ns → y ≤ m) → Q (.int m) H
def rMinA (K : PySem.W.Frag) : List V → Hp → VK → Prop := fun vs H Q => ∃ (a : Addr) (ns : List Int), vs = [V.ref a] ∧ Sq K H a (ns.map V.int) ∧ 0 < ns.length ∧ ∀ m, m ∈ ns → (∀ y, y ∈ ns → m ≤ y) → Q (.int m) H
theorem cr_sumA (hc : X.calm = true) : CallR X (.builtin "sum") (rSumA X.K) := by
  intro pins s σ H vs us Q I r h
  obtain ⟨a, ns, rfl, hs, q⟩ := h
  rw [Vals.ref1 r]
  rcases hs with hs | hs
  · obtain ⟨its, rv, hl, _⟩ := I.list hs
    exact sum_raw (I.ok.hd hc) hl.isList rv.ints fun h' tk t' hk => ⟨.int _, H, I.kept hk, ⟨_, rfl⟩, q⟩
  · obtain ⟨its, rv, hl, _⟩ := I.tuple hs
    exact sum_rawT (I.ok.hd hc) hl rv.ints fun h' tk t' hk => ⟨.int _, H, I.kept hk, ⟨_, rfl⟩, q⟩
theorem cr_maxA (hc : X.calm = true) : CallR X (.builtin "max") (rMaxA X.K) := by
  intro pins s σ H vs us Q I r h
  obtain ⟨a, ns, rfl, hs, hne, q⟩ := h
  rw [Vals.ref1 r]
  rcases hs with hs | hs
  · obtain ⟨its, rv, hl, _⟩ := I.list hs
    exact max_raw (I.ok.hd hc) hl.isList rv.ints hne fun h' tk m t' hk h1 h2 => ⟨.int _, H, I.kept hk, ⟨_, rfl⟩, q m h1 h2⟩
  · obtain ⟨its, rv, hl, _⟩ := I.tuple hs
    exact max_rawT (I.ok.hd hc) hl rv.ints hne fun h' tk m t' hk h1 h2 => ⟨.int _, H, I.kept hk, ⟨_, rfl⟩, q m h1 h2⟩
theorem cr_minA (hc : X.calm = true) : CallR X (.builtin "min") (rMinA X.K) := by
  intro pins s σ H vs us Q I r h
  obtain ⟨a, ns, rfl, hs, hne, q⟩ := h
  rw [Vals.ref1 r]
  rcases hs with hs | hs
  · obtain ⟨its, rv, hl, _⟩ := I.list hs
    exact min_raw (I.ok.hd hc) hl.isList rv.ints hne fun h' tk m t' hk h1 h2 => ⟨.int _, H, I.kept hk, ⟨_, rfl⟩, q m h1 h2⟩
  · obtain ⟨its, rv, hl, _⟩ := I.tuple hs
    exact min_rawT (I.ok.hd hc) hl rv.ints hne fun h' tk m t' hk h1 h2 => ⟨.int _, H, I.kept hk, ⟨_, rfl⟩, q m h1 h2⟩
end
end G29
end L2
set_option Elab.async false
set_option linter.all false
set_option maxRecDepth 100000
set_option maxHeartbeats 4000000
/-! Rules beside the layer's: stars in displays, t[::-1], tuples of tuples in order, an item's read for an augmented store. -/
namespace L2
namespace G29
open PySem PySem.Spec PyProof.Rows
section
variable {X : Cx}
/-! ### *e in a display -/
theorem star_ok {E : Value → Shared → Prop} {pins : List (Addr × Obj)} {σ : St} {H : Hp} {s : Shared} {a : Addr} {xs : List V} {Q : List Value → Shared → Prop} (I : Inv X pins σ H s) (h : Sq X.K H a xs)
    (hq : ∀ us s', Inv X pins σ H s' → Vals xs us → Q us s') : PySem.W.StarOf (model X.prog X.w) X.A E (.ref a) Q s := by
  have main : ∀ (T : String) (o : Obj) (its : List Value) (n : Nat), (T = "list" ∨ T = "tuple") → s.heap.get? a = some o → o.cls = .type T → o.data = .seq its.toArray n → Vals xs its → its.length ≤ sizeLine → PySem.W.StarOf (model X.prog X.w) X.A E (.ref a) Q s := by
    intro T o its n hT ho hc hd r hz
    have z : wpAny (model X.prog X.w) X.A (collect (.ref a)) Q E s := by
      refine wpAny_collect_seq a hT ho hc hd (fun h' hk => ?_) (by rw [List.size_toArray]; exact hz)
      exact hq _ _ (I.kept (t' := s.toks) hk) (by simpa using r)
    have hT' : s.TypeIs (.ref a) T := ⟨o, ho, hc⟩
    unfold PySem.W.StarOf notIterableAtAll
    rcases hT with rfl | rfl
    · exact wpAny_bind (wpAny_specialOf hT' PySem.F.slot_list_iter.lookup (wpAny_pure ⟨rfl, z⟩))
    · exact wpAny_bind (wpAny_specialOf hT' PySem.F.slot_tuple_iter.lookup (wpAny_pure ⟨rfl, z⟩))
  rcases h with h | h
  · obtain ⟨its, r, ⟨o, n, ho, hc, hd, e⟩, hz⟩ := I.list h
    exact main "list" o its n (.inl rfl) ho hc e r (by rw [← r.length]; exact hz)
  · obtain ⟨its, r, ⟨o, ho, hc, n, e⟩, hz⟩ := I.tuple h
    exact main "tuple" o its n (.inr rfl) ho hc e r (by rw [← r.length]; exact hz)
def tStar (K : PySem.W.Frag) (ta : TE) (tr : TA) : TA := fun σ H Q => ta σ H fun x H1 => ∃ a xs, x = .ref a ∧ Sq K H1 a xs ∧ tr σ H1 fun ys H2 => Q (xs ++ ys) H2
theorem pa_star {e : Expr} {es : List Expr} {te : TE} {t : TA} {sp : Pos} (ha : PE X e te) (hr : PA X es t) (hs : starEach (.Starred e sp :: es) X.env = (true, eval e X.env) :: starEach es X.env := by rfl) : PA X (.Starred e sp :: es) (tStar X.K te t) := by
  refine ⟨fun pos pins s σ H Q I h => ?_⟩
  refine PySem.W.items_star (thn (ha.run pins s σ H _ I h) fun u s1 ⟨x, H1, I1, r1, q1⟩ => ?_) hs
  obtain ⟨a, xs, rfl, hq, q⟩ := q1
  cases r1
  refine star_ok I1 hq fun us s2 I2 r2 => ?_
  exact thn (hr.run pos pins s2 σ H1 _ I2 q) fun ws s3 ⟨ys, H3, I3, r3, q3⟩ => ⟨xs ++ ys, H3, I3, r2.append r3, q3⟩
/-! ### t[::-1] of a tuple -/
theorem sliceApplied_rev {prog : Program} {w : World} {A : Around} {E : Value → Shared → Prop} {s : Shared} {sl : Addr} {vl vu vs : Value} {n : Nat} {Q : Int × Int × Nat → Shared → Prop} (hs : s.heap.IsSliceOf sl vl vu vs) (pl : IsPart vl none) (pu : IsPart vu none) (ps : IsPart vs (some (-1)))
    (h : Q ((n : Int) - 1, -1, n) s) : wpAny (model prog w) A (Builtin.Slice.sliceApplied (.ref sl) (pure (n : Int))) Q E s := by
  obtain ⟨os, hos, hcs, hds⟩ := id hs
  unfold Builtin.Slice.sliceApplied Builtin.Slice.sliceFields
  refine wpAny_bind (wpAny_bind (wpAny_field hos hds (x := vl) rfl (wpAny_bind (wpAny_field hos hds (x := vu) rfl (wpAny_bind (wpAny_field hos hds (x := vs) rfl (wpAny_pure ?_)))))))
  refine wpAny_bind (HT.slicePart_ ps ?_)
  show wpAny _ _ (if ((-1 : Int) == 0) = true then _ else _) _ _ s
  rw [if_neg (by decide)]
  refine wpAny_bind (HT.slicePart_ pl (wpAny_bind (HT.slicePart_ pu (wpAny_bind (wpAny_pure ?_)))))
  have e1 : Builtin.Slice.sliceAdjust none none (-1) (n : Int) = ((n : Int) - 1, -1) := by
    unfold Builtin.Slice.sliceAdjust
    simp
  have e2 : Builtin.Slice.slicePlaces ((n : Int) - 1) (-1) (-1) = n := by
    unfold Builtin.Slice.slicePlaces
    rw [if_neg (by decide)]
    by_cases hn : n = 0
    · subst hn; simp
    · rw [if_pos (by omega)]
      have : ((n : Int) - 1 - -1 - 1) / (- -1) = (n : Int) - 1 := by
        rw [show (- -1 : Int) = 1 by decide, Int.ediv_one]; omega
      rw [this]; omega
  show wpAny _ _ (match Builtin.Slice.sliceAdjust none none (-1) (n : Int) with | (lo, hi) => pure (lo, (-1 : Int), Builtin.Slice.slicePlaces lo hi (-1))) _ _ s
  rw [e1]
  show wpAny _ _ (pure ((n : Int) - 1, (-1 : Int), Builtin.Slice.slicePlaces ((n : Int) - 1) (-1) (-1))) _ _ s
  rw [e2]
  exact wpAny_pure h
theorem pick_rev (xs : Array Value) : ((List.range xs.size).filterMap fun (m : Nat) => xs[(((xs.size : Nat) : Int) - 1 + (m : Int) * -1).toNat]?).toArray = xs.toList.reverse.toArray := by
  congr 1
  have key : ∀ k : Nat, k ≤ xs.size → ((List.range k).filterMap fun (m : Nat) => xs[(((xs.size : Nat) : Int) - 1 + (m : Int) * -1).toNat]?) = xs.toList.reverse.take k := by
    intro k
    induction k with
    | zero => intro _; simp
    | succ k ih =>
      intro hk
      rw [List.range_succ, List.filterMap_append, ih (by omega), List.take_add_one]
      congr 1
      have e : (((xs.size : Nat) : Int) - 1 + (k : Int) * -1).toNat = xs.size - 1 - k := by omega
      simp only [List.filterMap_cons, List.filterMap_nil, e]
      rw [List.getElem?_reverse (by rw [Array.length_toList]; omega), Array.length_toList, Array.getElem?_toList]
      cases hx : xs[xs.size - 1 - k]? <;> rfl
  rw [key xs.size (Nat.le_refl _)]
  rw [List.take_of_length_le (by simp)]
theorem getItem_tuple_rev {prog : Program} {w : World} {A : Around} {E : Value → Shared → Prop} {s : Shared} {t sl : Addr} {items : Array Value} {vl vu vs : Value} {Q : Value → Shared → Prop} (ht : IsTup s.heap t items) (hs : s.heap.IsSliceOf sl vl vu vs) (pl : IsPart vl none) (pu : IsPart vu none) (ps : IsPart vs (some (-1)))
    (h : Q (.ref s.heap.objs.size) { s with heap := s.heap.push { cls := .type "tuple", data := .seq items.toList.reverse.toArray } })
    (hsz : items.size ≤ sizeLine) : wpAny (model prog w) A (getItem (.ref t) (.ref sl)) Q E s := by
  have htake : sizeOk (.seq items.toList.reverse.toArray) := by
    show items.toList.reverse.toArray.size ≤ sizeLine
    rw [List.size_toArray, List.length_reverse, Array.length_toList]
    exact hsz
  obtain ⟨os, hos, hcs, hds⟩ := id hs
  have hTs : s.TypeIs (.ref sl) "slice" := ⟨os, hos, hcs⟩
  unfold getItem
  try with_reducible refine wpAny_holding ?_
  first | refine wpAny_bind (wpAny_pure ?_) | skip
  refine wpAny_bind (wpAny_sequenceKey ht.typeIs (by decide) ?_)
  refine wpAny_bind (wpAny_callSpecial?_slot (name := Str.ofString "__getitem__") ht.typeIs PyProof.Rows.slot_tuple_getitem
    (wpAny_call_entry PyProof.Rows.slot_tuple_getitem ht.typeIs entry_tuple_getitem ?_ (args_tuple_getitem _ _)))
  show wpAny _ _ (Builtin.Tuple.tupleItemsOf (.ref t) >>= _) _ _ s
  refine wpAny_bind (tupleItemsOf_ ht ?_)
  refine wpAny_bind (wpAny_typeOf hTs ?_)
  rw [if_pos (by decide)]
  refine wpAny_bind (sliceApplied_rev hs pl pu ps ?_)
  have hno : ¬ (((((items.size : Nat) : Int) - 1) == 0 && (-1 : Int) == 1 && (items.size) == items.size) = true) := by
    intro q
    rw [Bool.and_eq_true, Bool.and_eq_true] at q
    exact absurd q.1.2 (by decide)
  show wpAny _ _ (if ((((items.size : Nat) : Int) - 1) == 0 && (-1 : Int) == 1 && (items.size) == items.size) = true then _ else _) _ _ s
  rw [if_neg hno, pick_rev]
  first
    | exact wpAny_bind (m := Builtin.Tuple.tupleExact _) (wpAny_newObj_type (wpAny_pure ⟨_, rfl, wpAny_pure h⟩) htake)
    | exact wpAny_bind (m := Builtin.Tuple.tupleExact _) (wpAny_newObj_type (wpAny_bind (wpAny_pure (wpAny_pure ⟨_, rfl, wpAny_pure h⟩))) htake)
    | exact wpAny_bind (wpAny_bind (m := Builtin.Tuple.tupleExact _) (wpAny_newObj_type (wpAny_pure (wpAny_pure ⟨_, rfl, wpAny_pure h⟩)) htake))
    | exact wpAny_bind (wpAny_bind (m := Builtin.Tuple.tupleExact _) (wpAny_newObj_type (wpAny_pure ⟨_, rfl, wpAny_pure h⟩) htake))
def tRevT (K : PySem.W.Frag) (te : TE) : TE := fun σ H Q => te σ H fun x H1 => ∃ a xs, x = .ref a ∧ SqT K H1 a xs ∧ ∀ p, H1 p = none → Q (.ref p) (upd H1 p (.tup xs.reverse))
theorem pe_revT {e : Expr} {te : TE} {k : Nat} {p1 p2 p3 pos : Pos} (he : PE X e te) : PE X (.Subscript e (.Slice none none (some (.UnaryOp .USub (.Constant (.int 1) k p1) p2)) p3) pos) (tRevT X.K te) := by
  refine ⟨fun pins s σ H Q I h => ?_⟩
  refine Subscript_ (thn (he.run pins s σ H _ I h) fun v s1 ⟨x, H1, I1, r1, q1⟩ => ?_)
  obtain ⟨a, xs, ex, hx, q⟩ := q1
  subst ex
  cases r1
  have hst : PO X (some (.UnaryOp .USub (.Constant (.int 1) k p1) p2)) (tPart (tUn (rU fun i => .int (-i)) (tC (.int 1)))) := po_some (pe_un un_neg pe_int)
  refine wpAny_Slice (thn (po_none.run pins s1 σ H1 (fun o H2 => o = none ∧ H2 = H1) I1 ⟨rfl, rfl⟩) fun vl s2 ⟨l, H2, I2, pl, el, e2⟩ => ?_)
  subst el e2
  refine thn (po_none.run pins s2 σ H2 (fun o H3 => o = none ∧ H3 = H2) I2 ⟨rfl, rfl⟩) fun vu s3 ⟨u, H3, I3, pu, eu, e3⟩ => ?_
  subst eu e3
  refine thn (hst.run pins s3 σ H3 (fun o H4 => o = some (-1) ∧ H4 = H3) I3 ⟨1, rfl, -1, rfl, rfl, rfl⟩) fun vs s4 ⟨o, H4, I4, ps, eo, e4⟩ => ?_
  subst eo e4
  have I5 : Inv X pins σ H4 { s4 with heap := s4.heap.push { cls := .type "slice", data := .fields #[vl, vu, vs] } } := I4.kept (t' := s4.toks) fun b ob q => Heap.get?_push_of_some _ q
  obtain ⟨its, r, ht, hz⟩ := I5.tuple hx
  have hlen := r.length
  show wpAny (model X.prog X.w) X.A (subscriptTail e (.Slice none none (some (.UnaryOp .USub (.Constant (.int 1) k p1) p2)) p3) (.ref a) (.ref s4.heap.objs.size)) (EP X pins σ Q) X.xe { s4 with heap := s4.heap.push { cls := .type "slice", data := .fields #[vl, vu, vs] } }
  refine tail_any (ops := [.ref a, .ref s4.heap.objs.size]) ht.typeIs (PyProof.Rows.slot_tuple_getitem.lookup) ?_ (by with_unfolding_all rfl)
  refine getItem_tuple_rev ht (Heap.IsSliceOf.new _ vl vu vs) pl pu ps ?_ (by rw [List.size_toArray]; omega)
  refine ⟨.ref _, _, I5.laid (t' := s4.toks) (o := .tup xs.reverse) (fun b ob q => Heap.get?_push_of_some _ q) (Nat.le_refl _) ?_, rfl, q _ (I5.hok.fresh (Nat.le_refl _))⟩
  exact ⟨by rw [List.length_reverse]; exact hz, _, r.reverse, ⟨_, Heap.get?_push_size _ rfl, rfl, _, rfl⟩⟩
/-! ### xs[i] of a list, for an augmented store -/
def rGetL (K : PySem.W.Frag) : V → V → Hp → VK → Prop := fun o i H Q => ∃ p xs j v, o = .ref p ∧ i = .int ((j : Nat) : Int) ∧ SqL K H p xs ∧ xs[j]? = some v ∧ Q v H
theorem get_list : PGet X (rGetL X.K) := by
  intro pins s σ H o i ov iv Q I ro ri h
  obtain ⟨p, xs, j, v, rfl, rfl, hq, hx, q⟩ := h
  cases ro
  obtain ⟨t, rfl⟩ := ri
  obtain ⟨its, r, pl, hz⟩ := I.list hq
  obtain ⟨u, hu, ru⟩ := r.get hx
  have hl := r.length
  have hj := (List.getElem?_eq_some_iff.mp hx).1
  have hn := line63
  exact wpAny_getItem_list pl.isList (by omega) (by omega) (x := u) (by simpa using hu) ⟨v, H, I, ru, q⟩
end
end G29
end L2
set_option Elab.async false
set_option linter.all false
set_option maxRecDepth 100000
set_option maxHeartbeats 4000000
/-! Data of ints: what == says of them, and the order of grids. -/
namespace L2
namespace G29
open PySem PySem.Spec PyProof.Rows
/-! ### data -/
abbrev dIs (xs : List Int) : List PyData := xs.map PyData.int
abbrev dT (xs : List Int) : PyData := .tuple (dIs xs)
abbrev dL (xs : List Int) : PyData := .list (dIs xs)
abbrev dTT (g : List (List Int)) : PyData := .tuple (g.map dT)
abbrev dLT (g : List (List Int)) : PyData := .list (g.map dT)
abbrev dLL (g : List (List Int)) : PyData := .list (g.map dL)
theorem eqv_ints : ∀ xs ys : List Int, PyData.eqvAll (dIs xs) (dIs ys) = decide (xs = ys)
  | [], [] => by simp [dIs, PyData.eqvAll]
  | [], y :: ys => by simp [dIs, PyData.eqvAll]
  | x :: xs, [] => by simp [dIs, PyData.eqvAll]
  | x :: xs, y :: ys => by
    have ih := eqv_ints xs ys
    show (PyData.eqv (.int x) (.int y) && PyData.eqvAll (dIs xs) (dIs ys)) = _
    rw [ih, PyData.eqv]
    by_cases h : x = y
    · by_cases h2 : xs = ys <;> simp [h, h2]
    · simp [h]
theorem eqv_rows {R : List Int → PyData} (hR : ∀ x y, PyData.eqv (R x) (R y) = decide (x = y)) : ∀ g h : List (List Int), PyData.eqvAll (g.map R) (h.map R) = decide (g = h)
  | [], [] => by simp [PyData.eqvAll]
  | [], y :: ys => by simp [PyData.eqvAll]
  | x :: xs, [] => by simp [PyData.eqvAll]
  | x :: xs, y :: ys => by
    have ih := eqv_rows hR xs ys
    show (PyData.eqv (R x) (R y) && PyData.eqvAll (xs.map R) (ys.map R)) = _
    rw [ih, hR]
    by_cases h : x = y
    · by_cases h2 : xs = ys <;> simp [h, h2]
    · simp [h]
theorem eqv_dT (x y : List Int) : PyData.eqv (dT x) (dT y) = decide (x = y) := by
  show PyData.eqvAll (dIs x) (dIs y) = _
  exact eqv_ints x y
theorem eqv_dL (x y : List Int) : PyData.eqv (dL x) (dL y) = decide (x = y) := by
  show PyData.eqvAll (dIs x) (dIs y) = _
  exact eqv_ints x y
theorem eqv_dTT (g h : List (List Int)) : PyData.eqv (dTT g) (dTT h) = decide (g = h) := eqv_rows eqv_dT g h
theorem lay_ints : ∀ xs : List Int, PyData.canLayAll0 (dIs xs) = true
  | [] => rfl
  | x :: xs => by
    show (PyData.canLay0 (.int x) && PyData.canLayAll0 (dIs xs)) = true
    rw [lay_ints xs]; rfl
theorem dep_ints : ∀ xs : List Int, PyData.depthAll (dIs xs) = 0
  | [] => rfl
  | x :: xs => by
    show max (PyData.depth (.int x)) (PyData.depthAll (dIs xs)) = 0
    rw [dep_ints xs]; rfl
theorem lay_rows {R : List Int → PyData} (hR : ∀ x, PyData.canLay0 (R x) = true) : ∀ g : List (List Int), PyData.canLayAll0 (g.map R) = true
  | [] => rfl
  | x :: xs => by
    show (PyData.canLay0 (R x) && PyData.canLayAll0 (xs.map R)) = true
    rw [lay_rows hR xs, hR]; rfl
theorem dep_rows {R : List Int → PyData} (hR : ∀ x, PyData.depth (R x) = 1) : ∀ g : List (List Int), PyData.depthAll (g.map R) ≤ 1
  | [] => Nat.zero_le _
  | x :: xs => by
    have := dep_rows hR xs
    show max (PyData.depth (R x)) (PyData.depthAll (xs.map R)) ≤ 1
    rw [hR]; omega
theorem lay_dT (x : List Int) : PyData.canLay0 (dT x) = true := lay_ints x
theorem lay_dL (x : List Int) : PyData.canLay0 (dL x) = true := lay_ints x
theorem dep_dT (x : List Int) : PyData.depth (dT x) = 1 := by
  show PyData.depthAll (dIs x) + 1 = 1
  rw [dep_ints]
theorem dep_dL (x : List Int) : PyData.depth (dL x) = 1 := by
  show PyData.depthAll (dIs x) + 1 = 1
  rw [dep_ints]
theorem shaped_of {d : PyData} (h1 : d.canLay0 = true) (h2 : d.depth ≤ 64) : SeqAt.shaped d = true := by
  unfold SeqAt.shaped
  rw [h1, decide_eq_true h2]; rfl
theorem shaped_dT (x : List Int) : SeqAt.shaped (dT x) = true := shaped_of (lay_dT x) (by rw [dep_dT]; omega)
theorem shaped_dL (x : List Int) : SeqAt.shaped (dL x) = true := shaped_of (lay_dL x) (by rw [dep_dL]; omega)
theorem shaped_dTT (g : List (List Int)) : SeqAt.shaped (dTT g) = true := shaped_of (lay_rows lay_dT g) (by
  have := dep_rows dep_dT g
  show PyData.depthAll (g.map dT) + 1 ≤ 64
  omega)
/-! ### what stands behind data -/
theorem dpAll_ints {K : PySem.W.Frag} {H : Hp} : ∀ {xs : List Int} {vs : List V}, DpAll K H vs (dIs xs) → vs = xs.map V.int
  | [], _, h => by cases h; rfl
  | x :: xs, _, h => by
    cases h with
    | cons h1 h2 =>
      cases h1
      rw [dpAll_ints h2]; rfl
theorem dpAll_ofInts {K : PySem.W.Frag} {H : Hp} : ∀ xs : List Int, DpAll K H (xs.map V.int) (dIs xs)
  | [] => .nil
  | x :: xs => .cons (.int x) (dpAll_ofInts xs)
theorem dp_T {K : PySem.W.Frag} {H : Hp} {v : V} {xs : List Int} (h : Dp K H v (dT xs)) : ∃ a, v = .ref a ∧ SqT K H a (xs.map V.int) := by
  cases h with
  | tup hs ha => exact ⟨_, rfl, by rw [dpAll_ints ha] at hs; exact hs⟩
theorem dpAll_get {K : PySem.W.Frag} {H : Hp} : ∀ {ds : List PyData} {vs : List V} {i : Nat} {d : PyData}, DpAll K H vs ds → ds[i]? = some d → ∃ v, vs[i]? = some v ∧ Dp K H v d
  | _, _, _, _, .nil, e => by simp at e
  | _, _, 0, _, .cons h _, e => by simp at e; subst e; exact ⟨_, rfl, h⟩
  | _, _, i + 1, d, .cons _ t, e => by
    obtain ⟨v, h1, h2⟩ := dpAll_get (i := i) (d := d) t (by simpa using e)
    exact ⟨v, by simpa using h1, h2⟩
theorem dpAll_len {K : PySem.W.Frag} {H : Hp} : ∀ {ds : List PyData} {vs : List V}, DpAll K H vs ds → vs.length = ds.length
  | _, _, .nil => rfl
  | _, _, .cons _ t => by rw [List.length_cons, List.length_cons, dpAll_len t]
/-! ### the order -/
theorem lexLt_lx : ∀ xs ys : List Int, HT.lexLt xs ys = Gm.lx xs ys
  | [], [] => rfl
  | [], _ :: _ => rfl
  | _ :: _, [] => rfl
  | x :: xs, y :: ys => by
    rw [HT.lexLt_cons, Gm.lx, lexLt_lx xs ys]
theorem lexAt_lxg : ∀ (xs ys px py : List (List Int)), xs.length = ys.length → px.length = py.length →
    Ob.lexAt (fun j => decide ((px ++ xs).getD j [] = (py ++ ys).getD j [])) (fun j => Gm.lx ((px ++ xs).getD j []) ((py ++ ys).getD j [])) false px.length xs.length = Gm.lxg xs ys
  | [], [], _, _, _, _ => rfl
  | [], _ :: _, _, _, h, _ => by simp at h
  | _ :: _, [], _, _, h, _ => by simp at h
  | x :: xs, y :: ys, px, py, h, hp => by
    have ih := lexAt_lxg xs ys (px ++ [x]) (py ++ [y]) (by simpa using h) (by simp [hp])
    have e1 : (px ++ x :: xs).getD px.length [] = x := by simp [List.getD_eq_getElem?_getD]
    have e2 : (py ++ y :: ys).getD px.length [] = y := by rw [hp]; simp [List.getD_eq_getElem?_getD]
    rw [List.append_assoc, List.append_assoc] at ih
    rw [List.length_append] at ih
    rw [List.length_cons, Ob.lexAt_succ]
    simp only [e1, e2]
    rw [Gm.lxg]
    by_cases hxy : x = y
    · rw [if_pos (decide_eq_true hxy), if_pos hxy]
      exact ih
    · rw [if_neg (by simpa using hxy), if_neg hxy]
def rLtG (K : PySem.W.Frag) : R2 := fun x y H Q => ∃ g h : List (List Int), Dp K H x (dTT g) ∧ Dp K H y (dTT h) ∧ g.length = h.length ∧ Q (.bl (Gm.lxg g h)) H
theorem getD_of {g : List (List Int)} {j : Nat} (h : j < g.length) : g[j]? = some (g.getD j []) := by
  rw [List.getD_eq_getElem?_getD, List.getElem?_eq_getElem h]; rfl
theorem op_ltG {X : Cx} (hu : X.A.units + 64 < cLine) : OpR X (compareOp .Lt) (rLtG X.K) := by
  intro pins s σ H x y v u Q I rx ry hh
  obtain ⟨g, h, hg, hh, hl, q⟩ := hh
  cases hg with
  | tup sa da =>
  cases hh with
  | tup sb db =>
  cases rx
  cases ry
  obtain ⟨its, r1, p1, _⟩ := I.tuple sa
  obtain ⟨its2, r2, p2, _⟩ := I.tuple sb
  have l1 := dpAll_len da
  have l2 := dpAll_len db
  rw [List.length_map] at l1 l2
  have e1 : its.toArray.size = g.length := by rw [List.size_toArray, ← r1.length, l1]
  have e2 : its2.toArray.size = h.length := by rw [List.size_toArray, ← r2.length, l2]
  have at1 : ∀ j (h1 : j < its.toArray.size), ∃ v u, Dp X.K H v (dT (g.getD j [])) ∧ RelV v u ∧ its.toArray[j] = u := fun j h1 => by
    have hj : j < g.length := by rw [← e1]; exact h1
    obtain ⟨v, hv, hd⟩ := dpAll_get (i := j) da (by rw [List.getElem?_map, getD_of hj]; rfl)
    obtain ⟨u, hu, ru⟩ := r1.get hv
    exact ⟨v, u, hd, ru, by simpa using (List.getElem?_eq_some_iff.mp hu).2⟩
  have at2 : ∀ j (h1 : j < its2.toArray.size), ∃ v u, Dp X.K H v (dT (h.getD j [])) ∧ RelV v u ∧ its2.toArray[j] = u := fun j h1 => by
    have hj : j < h.length := by rw [← e2]; exact h1
    obtain ⟨v, hv, hd⟩ := dpAll_get (i := j) db (by rw [List.getElem?_map, getD_of hj]; rfl)
    obtain ⟨u, hu, ru⟩ := r2.get hv
    exact ⟨v, u, hd, ru, by simpa using (List.getElem?_eq_some_iff.mp hu).2⟩
  have hu1 : X.A.in1.units + 8 < cLine := by show X.A.units + 1 + 8 < cLine; omega
  have R := Ob.RcOp.tuples_lt (A := X.A) (s := s) (e := fun j => decide (g.getD j [] = h.getD j [])) (r := fun j => Gm.lx (g.getD j []) (h.getD j [])) p1 p2 (by omega) (fun j h1 h2 => by
    obtain ⟨v, u, d1, ru, et⟩ := at1 j h1
    obtain ⟨v', u', d2, ru', et'⟩ := at2 j h2
    rw [et, et']
    obtain ⟨as, q1⟩ := Dp.reads I _ _ _ d1 ru
    obtain ⟨bs, q2⟩ := Dp.reads I _ _ _ d2 ru'
    have z := SeqAt.eqAt_reads _ _ X.A.in1 s _ _ _ _ q1 q2 (lay_dT _) (lay_dT _) (by rw [dep_dT, dep_dT]; omega)
    rw [eqv_dT] at z
    exact z) (fun j h1 h2 _ => by
    obtain ⟨v, u, d1, ru, et⟩ := at1 j h1
    obtain ⟨v', u', d2, ru', et'⟩ := at2 j h2
    rw [et, et']
    obtain ⟨a1, rfl, s1⟩ := dp_T d1
    obtain ⟨a2, rfl, s2⟩ := dp_T d2
    cases ru
    cases ru'
    obtain ⟨i1, t1, m1, _⟩ := I.tuple s1
    obtain ⟨i2, t2, m2, _⟩ := I.tuple s2
    intro prog w E Q' hq
    have z := HT.lt_tupInts (prog := prog) (w := w) (A := X.A.in1) (E := E) (Q := Q') m1 m2 (Vals.ints t1) (Vals.ints t2) (by omega) (by rw [lexLt_lx]; exact hq)
    exact z)
  rw [e1, e2] at R
  have ez : Ob.lexAt (fun j => decide (g.getD j [] = h.getD j [])) (fun j => Gm.lx (g.getD j []) (h.getD j [])) (decide (g.length < h.length)) 0 (min g.length h.length) = Gm.lxg g h := by
    rw [hl, Nat.min_self, decide_eq_false (Nat.lt_irrefl _), ← hl]
    exact lexAt_lxg g h [] [] hl rfl
  rw [ez] at R
  have z : wpAny (model X.prog X.w) X.A (compareOp .Lt (.ref _) (.ref _)) (EP X pins σ Q) X.xe s := R X.prog X.w X.xe (EP X pins σ Q) ⟨.bl _, H, I, rfl, q⟩
  exact z
end G29
end L2
set_option Elab.async false
set_option linter.all false
set_option maxRecDepth 100000
set_option maxHeartbeats 4000000
/-! Rules: a dict whose keys are pairs of tuples of ints, whose values are ints. -/
namespace L2
namespace G29
open PySem PySem.Spec PyProof.Rows
abbrev NK := List (NestedKey × Addr × Int)
abbrev NX := List (NestedKey × Addr × Value)
def RN (k : NestedKey × Addr × Int) (x : NestedKey × Addr × Value) : Prop := x.1 = k.1 ∧ x.2.1 = k.2.1 ∧ ∃ t, x.2.2 = .int k.2.2 t
def DicN (P : Program) (w : World) (d : Addr) (ks : NK) : HO := .ext fun h => ∃ o es ep xs, h.get? d = some o ∧ o.ExactDict ∧ o.data = .dict es ep ∧ es.toList = xs.map (entryOfKey (nestedKind P w)) ∧ Paired RN ks xs
def keyN (r l : List Int) : NestedKey := .tup [.tup (r.map .num), .tup (l.map .num)]
abbrev keyD (r l : List Int) : PyData := .tuple [dT r, dT l]
def KsOk (K : PySem.W.Frag) (H : Hp) (ks : NK) : Prop := (∀ k ∈ ks, ∃ r l, k.1 = keyN r l ∧ Dp K H (.ref k.2.1) (keyD r l)) ∧ (ks.map (·.1)).Nodup
def valN (ks : NK) (k : NestedKey) : Option Int := (ks.find? fun x => decide (x.1 = k)).map (·.2.2)
theorem rn_val {k : NestedKey} : ∀ {ks : NK} {xs : NX}, Paired RN ks xs → (∀ v, valN ks k = some v → ∃ a t, atKey xs k = some (a, .int v t)) ∧ (valN ks k = none → atKey xs k = none)
  | _, _, .nil => ⟨fun v e => (by cases e), fun _ => rfl⟩
  | _, _, .cons (l₁ := ks) (l₂ := xs) (a := p) (b := x) h t => by
    obtain ⟨h1, h2⟩ := rn_val (k := k) t
    obtain ⟨e1, e2, tk, e3⟩ := h
    unfold valN atKey at h1 h2 ⊢
    rw [List.find?_cons, List.find?_cons]
    by_cases hk : p.1 = k
    · rw [decide_eq_true hk, decide_eq_true (e1.trans hk)]
      refine ⟨fun v e => ?_, fun e => by cases e⟩
      cases e
      refine ⟨x.2.1, tk, ?_⟩
      show some x.2 = _
      rw [← e3]
    · rw [decide_eq_false hk, decide_eq_false (fun z => hk (e1.symm.trans z))]
      exact ⟨h1, h2⟩
theorem rn_keys : ∀ {ks : NK} {xs : NX}, Paired RN ks xs → xs.map (·.1) = ks.map (·.1)
  | _, _, .nil => rfl
  | _, _, .cons h t => by rw [List.map_cons, List.map_cons, rn_keys t, h.1]
section
variable {X : Cx} {pins : List (Addr × Obj)} {σ : St} {H : Hp} {s : Shared}
theorem nested_ints {h : Heap} : ∀ {ns : List Int} {us : List Value}, Vals (ns.map V.int) us → NestedAll h (ns.map .num) us
  | [], _, r => by cases r; exact .nil
  | n :: ns, _, r => by
    cases r with
    | cons a t => obtain ⟨k, rfl⟩ := a; exact .cons (.int _ _) (nested_ints t)
theorem nk_ints (I : Inv X pins σ H s) {v : V} {u : Value} {ns : List Int} (h : Dp X.K H v (dT ns)) (r : RelV v u) : NestedIs s.heap (.tup (ns.map .num)) u := by
  obtain ⟨a, rfl, hq⟩ := dp_T h
  cases (show u = Value.ref a from r)
  obtain ⟨its, rv, ⟨o, h1, h2, n, h3⟩, _⟩ := I.tuple hq
  exact .tup h1 h2 h3 (by simpa using nested_ints rv)
theorem nk_pair (I : Inv X pins σ H s) {v : V} {u : Value} {r l : List Int} (h : Dp X.K H v (keyD r l)) (rr : RelV v u) : ∃ a, u = .ref a ∧ v = .ref a ∧ (nestedKind X.prog X.w).is s.heap (keyN r l) a := by
  cases h with
  | tup hq ha =>
    rename_i a vs
    cases (show u = Value.ref a from rr)
    obtain ⟨its, rv, ⟨o, h1, h2, n, h3⟩, _⟩ := I.tuple hq
    refine ⟨a, rfl, rfl, .tup h1 h2 h3 ?_, ?_⟩
    · cases ha with
      | cons a1 ha =>
        cases ha with
        | cons a2 ha =>
          cases ha
          cases rv with
          | cons r1 rv =>
            cases rv with
            | cons r2 rv =>
              cases rv
              exact .cons (nk_ints I a1 r1) (.cons (nk_ints I a2 r2) .nil)
    · show max (NestedKey.depth (.tup _)) (max (NestedKey.depth (.tup _)) 0) + 1 ≤ 8
      have z : ∀ ns : List Int, NestedKey.depthAll (ns.map .num) = 0 := fun ns => by
        induction ns with
        | nil => rfl
        | cons n ns ih => rw [List.map_cons]; show max 0 _ = 0; rw [ih]; rfl
      unfold NestedKey.depth
      rw [z, z]; decide
theorem dicN_at (I : Inv X pins σ H s) {d : Addr} {ks : NK} (e : H d = some (DicN X.prog X.w d ks)) (k : KsOk X.K H ks) : ∃ xs, Paired RN ks xs ∧ s.heap.DictOfH (nestedKind X.prog X.w) d xs := by
  obtain ⟨⟨o, es, ep, xs, h1, h2, h3, h4, h5⟩, _, _⟩ := (show ObjOk X.prog X.w H s.heap d (DicN X.prog X.w d ks) from I.hok d _ e)
  refine ⟨xs, h5, o, es, ep, h1, h2, h3, h4, ?_, by rw [rn_keys h5]; exact k.2⟩
  have all : ∀ {l : NK} {m : NX}, Paired RN l m → (∀ q ∈ l, ∃ r l, q.1 = keyN r l ∧ Dp X.K H (.ref q.2.1) (keyD r l)) → ∀ x ∈ m, (nestedKind X.prog X.w).is s.heap x.1 x.2.1 := by
    intro l m q
    induction q with
    | nil => intro _ x hx; exact nomatch hx
    | @cons p q ps qs hq t ih =>
      intro hl x hx
      rcases List.mem_cons.mp hx with e | hx
      · subst e
        obtain ⟨r, l, e1, e2⟩ := hl p List.mem_cons_self
        obtain ⟨a, e3, e4, e5⟩ := nk_pair I e2 (show RelV (.ref p.2.1) (.ref p.2.1) from rfl)
        cases e3
        rw [hq.1, hq.2.1, e1]; exact e5
      · exact ih (fun q hq => hl q (List.mem_cons_of_mem _ hq)) x hx
  exact all h5 k.1
end
def putN (k : NestedKey) (z : Int) (x : NestedKey × Addr × Int) : NestedKey × Addr × Int := if x.1 = k then (x.1, x.2.1, z) else x
def storeN (ks : NK) (k : NestedKey) (b : Addr) (z : Int) : NK := if (valN ks k).isSome then ks.map (putN k z) else ks ++ [(k, b, z)]
def rNotInN (P : Program) (w : World) (K : PySem.W.Frag) : R2 := fun x y H Q => ∃ d ks r l, y = .ref d ∧ H d = some (DicN P w d ks) ∧ (d == sysModules) = false ∧ KsOk K H ks ∧ Dp K H x (keyD r l) ∧ Q (.bl (!(valN ks (keyN r l)).isSome)) H
def tIxN (P : Program) (w : World) (K : PySem.W.Frag) (td tk : TE) : TE := fun σ H Q => td σ H fun y H1 => tk σ H1 fun x H2 => ∃ d ks r l v, y = .ref d ∧ H2 d = some (DicN P w d ks) ∧ KsOk K H2 ks ∧ Dp K H2 x (keyD r l) ∧ valN ks (keyN r l) = some v ∧ Q (.int v) H2
def rSetN (P : Program) (w : World) (K : PySem.W.Frag) : TSet := fun o i v H Q => ∃ d b ks r l z, o = .ref d ∧ i = .ref b ∧ v = .int z ∧ H d = some (DicN P w d ks) ∧ KsOk K H ks ∧ Dp K H i (keyD r l) ∧ ks.length ≤ sizeLine ∧ Q (upd H d (DicN P w d (storeN ks (keyN r l) b z)))
def tDNewN (P : Program) (w : World) : TE := fun _ H Q => ∀ p, H p = none → (p == sysModules) = false → Q (.ref p) (upd H p (DicN P w p []))
theorem dicN_ok {P : Program} {w : World} {H : Hp} {h : Heap} {d : Addr} {ks : NK} {xs : NX} (p : Paired RN ks xs) (hd : h.DictOfH (nestedKind P w) d xs) : ObjOk P w H h d (DicN P w d ks) := by
  obtain ⟨o, es, ep, h1, h2, h3, h4, _, _⟩ := hd
  refine ⟨⟨o, es, ep, xs, h1, h2, h3, h4, p⟩, ⟨o, h1⟩, fun a b ⟨o', es', ep', xs', k1, k2, k3, k4, k5⟩ hk => ⟨o', es', ep', xs', hk _ k1, k2, k3, k4, k5⟩⟩
section
variable {X : Cx}
theorem op_notInN (hu : X.A.units + 64 < cLine) : OpR X (compareOp .NotIn) (rNotInN X.prog X.w X.K) := by
  intro pins s σ H x y v u Q I rx ry q
  obtain ⟨d, ks, r, l, rfl, e, hd, k, hx, q⟩ := q
  cases (show u = Value.ref d from ry)
  obtain ⟨a, rfl, rfl, ka⟩ := nk_pair I hx rx
  obtain ⟨xs, p, hm⟩ := dicN_at I e k
  refine wpAny_notIn_heap (show X.A.in1.units + 8 < cLine from by have : X.A.in1.units = X.A.units + 1 := rfl; omega) ka hd hm ?_
  have hv := rn_val (k := keyN r l) p
  refine ⟨.bl _, H, I.tok _, rfl, ?_⟩
  cases e2 : valN ks (keyN r l) with
  | none => rw [e2] at q; rw [hv.2 e2]; exact q
  | some z =>
    obtain ⟨a2, t2, e3⟩ := hv.1 z e2
    rw [e2] at q; rw [e3]; exact q
theorem pe_ixN {o i : Expr} {td tk : TE} {pos : Pos} (hu : X.A.units + 64 < cLine) (ho : PE X o td) (hi : PE X i tk) (hs : NoSl i) : PE X (.Subscript o i pos) (tIxN X.prog X.w X.K td tk) := by
  refine ⟨fun pins s σ H Q I h => ?_⟩
  refine subD_of PySem.F.slot_dict_getitem.lookup hs (thn (ho.run pins s σ H _ I h) fun u s1 ⟨y, H1, I1, ry, q1⟩ => thn (hi.run pins s1 σ H1 _ I1 q1) fun iv s2 ⟨x, H2, I2, rx, q2⟩ => ?_)
  obtain ⟨d, ks, r, l, v, rfl, e, k, hx, hv, q⟩ := q2
  cases (show u = Value.ref d from ry)
  obtain ⟨a, rfl, rfl, ka⟩ := nk_pair I2 hx rx
  obtain ⟨xs, p, hm⟩ := dicN_at I2 e k
  obtain ⟨a2, t2, e3⟩ := (rn_val (k := keyN r l) p).1 v hv
  refine ⟨hm.typeIs, wpAny_getItem_heap (show X.A.in1.units + 8 < cLine from by have : X.A.in1.units = X.A.units + 1 := rfl; omega) ka hm e3 ⟨.int v, H2, I2.tok _, ⟨t2, rfl⟩, q⟩⟩
theorem paired_snocN {k : NestedKey × Addr × Int} {x : NestedKey × Addr × Value} : ∀ {ks : NK} {xs : NX}, Paired RN ks xs → RN k x → Paired RN (ks ++ [k]) (xs ++ [x])
  | _, _, .nil, h => .cons h .nil
  | _, _, .cons a t, h => .cons a (paired_snocN t h)
theorem rn_store {k : NestedKey} {b : Addr} {z : Int} {t : Tok} {ks : NK} {xs : NX} (p : Paired RN ks xs) : Paired RN (storeN ks k b z) (storedH xs k b (.int z t)) := by
  have hv := rn_val (k := k) p
  unfold storeN
  cases e : valN ks k with
  | none =>
    rw [storedH_new (hv.2 e), if_neg (by decide)]
    exact paired_snocN p ⟨rfl, rfl, t, rfl⟩
  | some v =>
    obtain ⟨a, t2, e2⟩ := hv.1 v e
    rw [storedH_old e2, if_pos (show (some v).isSome = true from rfl)]
    clear hv e e2
    induction p with
    | nil => exact .nil
    | @cons q x ps qs h _ ih =>
      rw [List.map_cons, List.map_cons]
      refine .cons ?_ ih
      unfold putN putAt
      by_cases hk : q.1 = k
      · rw [if_pos hk, if_pos (h.1.trans hk)]; exact ⟨h.1, h.2.1, t, rfl⟩
      · rw [if_neg hk, if_neg (fun z => hk (h.1.symm.trans z))]; exact h
theorem set_N (hu : X.A.units + 64 < cLine) : PSet X (rSetN X.prog X.w X.K) := by
  intro pins s σ H o i v ov iv u Q I ro ri rv h
  obtain ⟨d, b, ks, r, l, z, rfl, rfl, rfl, e, k, hx, hz, q⟩ := h
  cases (show ov = Value.ref d from ro)
  obtain ⟨a, rfl, ea, ka⟩ := nk_pair I hx ri
  cases ea
  obtain ⟨t, rfl⟩ := rv
  obtain ⟨xs, p, hm⟩ := dicN_at I e k
  refine wpAny_setItem_heap (hsz := by rw [← Paired.length p]; exact hz) (show X.A.in1.units + 8 < cLine from by have : X.A.in1.units = X.A.units + 1 := rfl; omega) ka hm fun h' hm' hs => ⟨_, ?_, q⟩
  refine d_write I (by rw [e]; exact True.intro) hs (let ⟨o, _, _, ho, _⟩ := hm'; ⟨o, ho⟩) ?_
  exact dicN_ok (rn_store p) hm'
theorem pe_dnewN {pos : Pos} : PE X (.Dict [] [] pos) (tDNewN X.prog X.w) := ⟨fun pins s σ H Q I h =>
  wpAny_Dict_empty ⟨.ref s.heap.objs.size, _, I.laid (a := s.heap.objs.size) (o := DicN X.prog X.w s.heap.objs.size []) (t' := s.toks) (fun _ _ q => Heap.get?_push_of_some _ q) (Nat.le_refl _) (dicN_ok .nil (Heap.DictOfH.new s.heap)), rfl, h _ (I.hok.fresh (Nat.le_refl _)) (beq_eq_false_iff_ne.mpr (Ne.symm (Nat.ne_of_lt I.big)))⟩⟩
end
end G29
end L2
set_option Elab.async false
set_option linter.all false
set_option maxRecDepth 100000
set_option maxHeartbeats 4000000
/-! Readings told of data: what an expression evaluates to where the slots hold data; F is what may change meanwhile. -/
namespace L2
namespace G29
open PySem PySem.Spec PyProof.Rows
/-! ### heaps without what may change -/
abbrev FS := Addr → Prop
open Classical in
noncomputable def mk (F : FS) (H : Hp) : Hp := fun a => if F a then none else H a
section
variable {F : FS} {H H' : Hp} {a p : Addr} {K : PySem.W.Frag}
theorem mk_none (h : F a) : mk F H a = none := by unfold mk; rw [if_pos h]
theorem mk_at (h : ¬ F a) : mk F H a = H a := by unfold mk; rw [if_neg h]
theorem mk_le : Same (mk F H) H := fun b o e => by
  by_cases h : F b
  · rw [mk_none h] at e; cases e
  · rw [mk_at h] at e; exact e
theorem mk_same (e : Same H H') : Same (mk F H) (mk F H') := fun b o q => by
  by_cases h : F b
  · rw [mk_none h] at q; cases q
  · rw [mk_at h] at q ⊢; exact e b o q
theorem mk_nil : mk (fun _ => False) H = H := by funext a; exact mk_at (fun h => h)
def Dom (F : FS) (H : Hp) : Prop := ∀ a, F a → ∃ o, H a = some o
theorem Dom.nil : Dom (fun _ => False) H := fun _ h => h.elim
theorem Dom.same (d : Dom F H) (e : Same H H') : Dom F H' := fun a h => let ⟨o, q⟩ := d a h; ⟨o, e a o q⟩
theorem Dom.new (d : Dom F H) (h : H p = none) : ¬ F p := fun q => by
  obtain ⟨o, e⟩ := d p q
  rw [h] at e; cases e
theorem same_upd {o : HO} (h : H p = none) : Same H (upd H p o) := fun b x e => by
  rw [upd_ne (ne_of_none e h)]; exact e
theorem mk_new {o : HO} (h : ¬ F p) : mk F (upd H p o) p = some o := by rw [mk_at h, upd_same]
theorem same_t {xs : List V} (e : Same H H') (h : SqT K H a xs) : SqT K H' a xs := by
  rcases h with (h | ⟨o, h⟩) | h
  · exact .inl (.inl (e _ _ h))
  · exact .inl (.inr ⟨o, e _ _ h⟩)
  · exact .inr h
mutual
theorem dp_same (e : Same H H') : ∀ {v : V} {d : PyData}, Dp K H v d → Dp K H' v d
  | _, _, .non => .non
  | _, _, .bl b => .bl b
  | _, _, .int i => .int i
  | _, _, .str x => .str x
  | _, _, .lst hs ha => .lst (e.seq hs) (dpAll_same e ha)
  | _, _, .tup hs ha => .tup (same_t e hs) (dpAll_same e ha)
theorem dpAll_same (e : Same H H') : ∀ {vs : List V} {ds : List PyData}, DpAll K H vs ds → DpAll K H' vs ds
  | _, _, .nil => .nil
  | _, _, .cons h t => .cons (dp_same e h) (dpAll_same e t)
end
theorem dpAll_snoc : ∀ {vs : List V} {ds : List PyData} {v : V} {d : PyData}, DpAll K H vs ds → Dp K H v d → DpAll K H (vs ++ [v]) (ds ++ [d])
  | _, _, _, _, .nil, h => .cons h .nil
  | _, _, _, _, .cons a t, h => .cons a (dpAll_snoc t h)
theorem dpAll_app : ∀ {vs ws : List V} {ds es : List PyData}, DpAll K H vs ds → DpAll K H ws es → DpAll K H (vs ++ ws) (ds ++ es)
  | _, _, _, _, .nil, h => h
  | _, _, _, _, .cons a t, h => .cons a (dpAll_app t h)
theorem dpAll_at : ∀ {vs : List V} {ds : List PyData} {i : Nat} {v : V}, DpAll K H vs ds → vs[i]? = some v → ∃ d, ds[i]? = some d ∧ Dp K H v d
  | _, _, _, _, .nil, e => by simp at e
  | _, _, 0, _, .cons h _, e => by simp at e; subst e; exact ⟨_, rfl, h⟩
  | _, _, i + 1, v, .cons _ t, e => by
    obtain ⟨d, h1, h2⟩ := dpAll_at (i := i) (v := v) t (by simpa using e)
    exact ⟨d, by simpa using h1, h2⟩
theorem dpAll_take : ∀ {vs : List V} {ds : List PyData} (n : Nat), DpAll K H vs ds → DpAll K H (vs.take n) (ds.take n)
  | _, _, 0, _ => .nil
  | _, _, _ + 1, .nil => .nil
  | _, _, n + 1, .cons h t => .cons h (dpAll_take n t)
theorem dpAll_drop : ∀ {vs : List V} {ds : List PyData} (n : Nat), DpAll K H vs ds → DpAll K H (vs.drop n) (ds.drop n)
  | _, _, 0, h => h
  | _, _, _ + 1, .nil => .nil
  | _, _, n + 1, .cons h t => dpAll_drop n t
theorem dpAll_rev {vs : List V} {ds : List PyData} (h : DpAll K H vs ds) : DpAll K H vs.reverse ds.reverse := by
  induction vs generalizing ds with
  | nil => cases h; exact .nil
  | cons v vs ih =>
    cases h with
    | cons h t => rw [List.reverse_cons, List.reverse_cons]; exact dpAll_snoc (ih t) h
end
/-! ### what a slot may hold -/
inductive Sl where
  | d (x : PyData)
  | obj (C : Addr) (ns : List Str) (ds : List PyData)
abbrev sI (i : Int) : Sl := .d (.int i)
abbrev sB (b : Bool) : Sl := .d (.bool b)
abbrev sT (xs : List Int) : Sl := .d (dT xs)
abbrev sL (xs : List Int) : Sl := .d (dL xs)
def Sv (K : PySem.W.Frag) (H : Hp) (v : V) : Sl → Prop
  | .d x => Dp K H v x
  | .obj C ns ds => ∃ a dx vs, v = .ref a ∧ H a = some (.ins C dx (ns.zip vs)) ∧ DpAll K H vs ds ∧ ns.length = ds.length
abbrev SvAll (K : PySem.W.Frag) (H : Hp) : List V → List Sl → Prop := Paired (fun v x => Sv K H v x)
abbrev De := List (Option Sl)
def Sd (K : PySem.W.Frag) (H : Hp) (σ : St) (δ : De) : Prop := σ.length = δ.length ∧ ∀ (i : Nat) (x : Sl), δ[i]? = some (some x) → ∃ v, σ[i]? = some (some v) ∧ Sv K H v x
section
variable {F : FS} {K : PySem.W.Frag} {H H' : Hp} {v : V} {x : Sl} {σ : St} {δ : De}
theorem sv_same (e : Same H H') (h : Sv K H v x) : Sv K H' v x := by
  cases x with
  | d x => exact dp_same e h
  | obj C ns ds =>
    obtain ⟨a, dx, vs, rfl, h1, h2, h3⟩ := h
    exact ⟨a, dx, vs, rfl, e _ _ h1, dpAll_same e h2, h3⟩
theorem svAll_same (e : Same H H') : ∀ {vs : List V} {xs : List Sl}, SvAll K H vs xs → SvAll K H' vs xs
  | _, _, .nil => .nil
  | _, _, .cons h t => .cons (sv_same e h) (svAll_same e t)
theorem sd_same (e : Same H H') (h : Sd K H σ δ) : Sd K H' σ δ := ⟨h.1, fun i x hx => let ⟨v, a, b⟩ := h.2 i x hx; ⟨v, a, sv_same e b⟩⟩
theorem svAll_len {vs : List V} {xs : List Sl} (h : SvAll K H vs xs) : vs.length = xs.length := Paired.length h
theorem svAll_get : ∀ {vs : List V} {xs : List Sl} {i : Nat} {x : Sl}, SvAll K H vs xs → xs[i]? = some x → ∃ v, vs[i]? = some v ∧ Sv K H v x
  | _, _, _, _, .nil, e => by simp at e
  | _, _, 0, _, .cons h _, e => by simp at e; subst e; exact ⟨_, rfl, h⟩
  | _, _, i + 1, x, .cons _ t, e => by
    obtain ⟨v, h1, h2⟩ := svAll_get (i := i) (x := x) t (by simpa using e)
    exact ⟨v, by simpa using h1, h2⟩
theorem sd_set {i : Nat} (h : Sd K H σ δ) (hv : Sv K H v x) : Sd K H (σ.set i (some v)) (δ.set i (some x)) := by
  refine ⟨by rw [List.length_set, List.length_set]; exact h.1, fun j y hy => ?_⟩
  by_cases hj : i = j
  · subst hj
    have hi : i < δ.length := by
      have := (List.getElem?_eq_some_iff.mp hy).1
      rwa [List.length_set] at this
    rw [List.getElem?_set_self hi] at hy
    cases hy
    exact ⟨v, List.getElem?_set_self (by rw [h.1]; exact hi), hv⟩
  · rw [List.getElem?_set_ne hj] at hy ⊢
    exact h.2 j y hy
theorem sd_none {i : Nat} (h : Sd K H σ δ) : Sd K H σ (δ.set i none) := by
  refine ⟨by rw [List.length_set]; exact h.1, fun j y hy => ?_⟩
  by_cases hj : i = j
  · subst hj
    have hi : i < δ.length := by
      have := (List.getElem?_eq_some_iff.mp hy).1
      rwa [List.length_set] at this
    rw [List.getElem?_set_self hi] at hy
    cases hy
  · rw [List.getElem?_set_ne hj] at hy
    exact h.2 j y hy
/-- fewer slots known -/
def Le (δ' δ : De) : Prop := δ'.length = δ.length ∧ ∀ (i : Nat) (x : Sl), δ'[i]? = some (some x) → δ[i]? = some (some x)
theorem sd_le {δ' : De} (l : Le δ' δ) (h : Sd K H σ δ) : Sd K H σ δ' := ⟨h.1.trans l.1.symm, fun i x hx => h.2 i x (l.2 i x hx)⟩
theorem Le.refl (δ : De) : Le δ δ := ⟨rfl, fun _ _ h => h⟩
end
def wipeD (δ : De) : List Nat → De
  | [] => δ
  | v :: vs => (wipeD δ vs).set v none
theorem sd_wipe {K : PySem.W.Frag} {H : Hp} {σ : St} {δ : De} (h : Sd K H σ δ) : ∀ vs : List Nat, Sd K H (wipe σ vs) (wipeD δ vs)
  | [] => h
  | v :: vs => by
    have ih := sd_wipe h vs
    refine ⟨by unfold wipe wipeD; rw [List.length_set, List.length_set]; exact ih.1, fun j y hy => ?_⟩
    unfold wipeD at hy
    unfold wipe
    by_cases hj : v = j
    · subst hj
      have hi : v < (wipeD δ vs).length := by
        have := (List.getElem?_eq_some_iff.mp hy).1
        rwa [List.length_set] at this
      rw [List.getElem?_set_self hi] at hy
      cases hy
    · rw [List.getElem?_set_ne hj] at hy ⊢
      exact ih.2 j y hy
/-! ### what evaluates to what -/
section
variable (K : PySem.W.Frag)
def Ed (te : TE) (δ : De) (x : Sl) : Prop := ∀ (F : FS) (σ : St) (H : Hp), Dom F H → Sd K (mk F H) σ δ → ∀ Q : VK, (∀ v H', Same H H' → Sv K (mk F H') v x → Q v H') → te σ H Q
def Et (tt : TT) (δ : De) (b : Bool) : Prop := ∀ (F : FS) (σ : St) (H : Hp), Dom F H → Sd K (mk F H) σ δ → ∀ Q : Bool → Hp → Prop, (∀ H', Same H H' → Q b H') → tt σ H Q
def Ea (ta : TA) (δ : De) (xs : List Sl) : Prop := ∀ (F : FS) (σ : St) (H : Hp), Dom F H → Sd K (mk F H) σ δ → ∀ Q : List V → Hp → Prop, (∀ vs H', Same H H' → SvAll K (mk F H') vs xs → Q vs H') → ta σ H Q
def Eo (to : TO) (δ : De) (o : Option Int) : Prop := ∀ (F : FS) (σ : St) (H : Hp), Dom F H → Sd K (mk F H) σ δ → ∀ Q : Option Int → Hp → Prop, (∀ H', Same H H' → Q o H') → to σ H Q
def Od (r : R2) (x y z : Sl) : Prop := ∀ (F : FS) (v w : V) (H : Hp), Dom F H → Sv K (mk F H) v x → Sv K (mk F H) w y → ∀ Q : VK, (∀ u H', Same H H' → Sv K (mk F H') u z → Q u H') → r v w H Q
def Cd (r : List V → Hp → VK → Prop) (xs : List Sl) (z : Sl) : Prop := ∀ (F : FS) (vs : List V) (H : Hp), Dom F H → SvAll K (mk F H) vs xs → ∀ Q : VK, (∀ u H', Same H H' → Sv K (mk F H') u z → Q u H') → r vs H Q
def Pd (sp : Sp) (xs : List Sl) (z : Sl) : Prop := ∀ (F : FS) (vs : List V) (H : Hp), Dom F H → SvAll K (mk F H) vs xs → ∀ (Q : VK) (E : XK), (∀ u H', Same H H' → Sv K (mk F H') u z → Q u H') → sp vs H Q E
def Sn (t : TS) (δ δ' : De) : Prop := ∀ (F : FS) (D : Ends) (σ : St) (H : Hp), Dom F H → Sd K (mk F H) σ δ → (∀ σ' H', Same H H' → Sd K (mk F H') σ' δ' → D.nx σ' H') → t D σ H
def Sr (t : TS) (δ : De) (x : Sl) : Prop := ∀ (F : FS) (D : Ends) (σ : St) (H : Hp), Dom F H → Sd K (mk F H) σ δ → (∀ v H', Same H H' → Sv K (mk F H') v x → D.rt v H') → t D σ H
end
section
variable {K : PySem.W.Frag} {δ δ' δ1 : De} {x y z : Sl} {ta tb te tc : TE} {tt tu : TT} {r : R2} {b c : Bool}
theorem ed_le (l : Le δ' δ) (h : Ed K te δ' x) : Ed K te δ x := fun F σ H d s Q q => h F σ H d (sd_le l s) Q q
theorem ed_var {i : Nat} (h : δ[i]? = some (some x)) : Ed K (tVar i) δ x := fun F σ H _ s Q q => by
  obtain ⟨v, e, hv⟩ := s.2 i x h
  exact ⟨v, e, q v H (Same.refl H) hv⟩
theorem ed_int {i : Int} : Ed K (tC (.int i)) δ (sI i) := fun F σ H _ s Q q => q _ H (Same.refl H) (Dp.int i)
theorem ed_bl {i : Bool} : Ed K (tC (.bl i)) δ (sB i) := fun F σ H _ s Q q => q _ H (Same.refl H) (Dp.bl i)
theorem ed_op (ha : Ed K ta δ x) (hb : Ed K tb δ y) (hr : Od K r x y z) : Ed K (tOp r ta tb) δ z := fun F σ H d s Q q =>
  ha F σ H d s _ fun v H1 e1 h1 => hb F σ H1 (d.same e1) (sd_same (mk_same e1) s) _ fun w H2 e2 h2 =>
    hr F v w H2 (d.same (e1.trans e2)) (sv_same (mk_same e2) h1) h2 Q fun u H3 e3 h3 => q u H3 ((e1.trans e2).trans e3) h3
theorem ed_is (h : Ed K te δ x) (e : x = y) : Ed K te δ y := e ▸ h
theorem et_is (h : Et K tt δ b) (e : b = c) : Et K tt δ c := e ▸ h
theorem ed_un {i : Int} {g : Int → Int} (ha : Ed K ta δ (sI i)) : Ed K (tUn (rU fun i => .int (g i)) ta) δ (sI (g i)) := fun F σ H d s Q q =>
  ha F σ H d s _ fun v H1 e1 h1 => by cases h1; exact ⟨i, rfl, q _ H1 e1 (Dp.int _)⟩
theorem ea_nil : Ea K tNil δ [] := fun F σ H _ s Q q => q [] H (Same.refl H) .nil
theorem ea_cons {tr : TA} {xs : List Sl} (ha : Ed K ta δ x) (hr : Ea K tr δ xs) : Ea K (tCons ta tr) δ (x :: xs) := fun F σ H d s Q q =>
  ha F σ H d s _ fun v H1 e1 h1 => hr F σ H1 (d.same e1) (sd_same (mk_same e1) s) _ fun vs H2 e2 h2 => q (v :: vs) H2 (e1.trans e2) (.cons (sv_same (mk_same e2) h1) h2)
theorem ed_cb {rc : List V → Hp → VK → Prop} {t : TA} {xs : List Sl} (ha : Ea K t δ xs) (hr : Cd K rc xs z) : Ed K (tCB rc t) δ z := fun F σ H d s Q q =>
  ha F σ H d s _ fun vs H1 e1 h1 => hr F vs H1 (d.same e1) h1 Q fun u H2 e2 h2 => q u H2 (e1.trans e2) h2
theorem ed_call {sp : Sp} {E : XK} {t : TA} {xs : List Sl} (ha : Ea K t δ xs) (hr : Pd K sp xs z) : Ed K (tCall sp [] E t) δ z := fun F σ H d s Q q =>
  ha F σ H d s _ fun vs H1 e1 h1 => by
    rw [List.append_nil]
    exact hr F vs H1 (d.same e1) h1 Q E fun u H2 e2 h2 => q u H2 (e1.trans e2) h2
/-! tests -/
theorem et_test (h : Ed K te δ (sB b)) : Et K (tTest te) δ b := fun F σ H d s Q q => h F σ H d s _ fun v H1 e1 h1 => by cases h1; exact ⟨b, rfl, q H1 e1⟩
theorem et_B (h : Ed K te δ (sB b)) : Et K (tB te) δ b := fun F σ H d s Q q => h F σ H d s _ fun v H1 e1 h1 => by cases h1; exact ⟨b, rfl, q H1 e1⟩
theorem et_not (h : Et K tt δ b) : Et K (tNot tt) δ (!b) := fun F σ H d s Q q => h F σ H d s _ fun H1 e1 => q H1 e1
theorem et_and (h1 : Et K tt δ b) (h2 : b = true → Et K tu δ c) : Et K (tAnd tt tu) δ (b && c) := fun F σ H d s Q q => h1 F σ H d s _ fun H1 e1 => by
  cases b with
  | true => show tu σ H1 Q; exact h2 rfl F σ H1 (d.same e1) (sd_same (mk_same e1) s) Q fun H2 e2 => q H2 (e1.trans e2)
  | false => show Q false H1; exact q H1 e1
theorem et_or (h1 : Et K tt δ b) (h2 : b = false → Et K tu δ c) : Et K (tOr tt tu) δ (b || c) := fun F σ H d s Q q => h1 F σ H d s _ fun H1 e1 => by
  cases b with
  | false => show tu σ H1 Q; exact h2 rfl F σ H1 (d.same e1) (sd_same (mk_same e1) s) Q fun H2 e2 => q H2 (e1.trans e2)
  | true => show Q true H1; exact q H1 e1
theorem ed_andV (h1 : Ed K ta δ (sB b)) (h2 : b = true → Ed K tb δ (sB c)) : Ed K (tAndV ta tb) δ (sB (b && c)) := fun F σ H d s Q q => h1 F σ H d s _ fun v H1 e1 h => by
  cases h
  refine ⟨b, rfl, ?_⟩
  cases b with
  | true => show tb σ H1 Q; exact h2 rfl F σ H1 (d.same e1) (sd_same (mk_same e1) s) Q fun u H2 e2 hu => q u H2 (e1.trans e2) hu
  | false => show Q (.bl false) H1; exact q _ H1 e1 (Dp.bl false)
theorem ed_orV (h1 : Ed K ta δ (sB b)) (h2 : b = false → Ed K tb δ (sB c)) : Ed K (tOrV ta tb) δ (sB (b || c)) := fun F σ H d s Q q => h1 F σ H d s _ fun v H1 e1 h => by
  cases h
  refine ⟨b, rfl, ?_⟩
  cases b with
  | false => show tb σ H1 Q; exact h2 rfl F σ H1 (d.same e1) (sd_same (mk_same e1) s) Q fun u H2 e2 hu => q u H2 (e1.trans e2) hu
  | true => show Q (.bl true) H1; exact q _ H1 e1 (Dp.bl true)
theorem ed_notV (h1 : Ed K ta δ (sB b)) : Ed K (tNotV ta) δ (sB (!b)) := fun F σ H d s Q q => h1 F σ H d s _ fun v H1 e1 h => by
  cases h
  exact ⟨b, rfl, q _ H1 e1 (Dp.bl _)⟩
theorem ed_if (h : Et K tt δ b) (h1 : b = true → Ed K ta δ x) (h2 : b = false → Ed K tb δ x) : Ed K (tIf tt ta tb) δ x := fun F σ H d s Q q => h F σ H d s _ fun H1 e1 => by
  cases b with
  | true => show ta σ H1 Q; exact h1 rfl F σ H1 (d.same e1) (sd_same (mk_same e1) s) Q fun u H2 e2 hu => q u H2 (e1.trans e2) hu
  | false => show tb σ H1 Q; exact h2 rfl F σ H1 (d.same e1) (sd_same (mk_same e1) s) Q fun u H2 e2 hu => q u H2 (e1.trans e2) hu
theorem ed_chain {r' : R2} {w : Sl} {b2 : Bool} (ha : Ed K ta δ x) (hb : Ed K tb δ y) (hc : Ed K tc δ w) (h1 : Od K r x y (sB b)) (h2 : Od K r' y w (sB b2)) : Ed K (tChain r r' ta tb tc) δ (sB (b && b2)) := fun F σ H d s Q q =>
  ha F σ H d s _ fun v H1 e1 k1 => hb F σ H1 (d.same e1) (sd_same (mk_same e1) s) _ fun u H2 e2 k2 =>
    h1 F v u H2 (d.same (e1.trans e2)) (sv_same (mk_same e2) k1) k2 _ fun z H3 e3 k3 => by
      cases k3
      refine ⟨b, rfl, ?_⟩
      cases b with
      | true =>
        show tc σ H3 _
        exact hc F σ H3 (d.same ((e1.trans e2).trans e3)) (sd_same (mk_same ((e1.trans e2).trans e3)) s) _ fun t H4 e4 k4 =>
          h2 F u t H4 (d.same (((e1.trans e2).trans e3).trans e4)) (sv_same (mk_same (e3.trans e4)) k2) k4 Q fun t H5 e5 k5 => q t H5 ((((e1.trans e2).trans e3).trans e4).trans e5) k5
      | false =>
        show Q (.bl false) H3
        exact q _ H3 ((e1.trans e2).trans e3) (Dp.bl false)
/-! operators -/
theorem od_I {C : Int → Int → Prop} {f : Int → Int → Int} {i j : Int} (hc : C i j) : Od K (rI C fun i j => .int (f i j)) (sI i) (sI j) (sI (f i j)) := fun F v w H _ h1 h2 Q q => by
  cases h1; cases h2; exact ⟨i, j, rfl, rfl, hc, q _ H (Same.refl H) (Dp.int _)⟩
theorem od_I0 {f : Int → Int → Int} {i j : Int} : Od K (rI0 fun i j => .int (f i j)) (sI i) (sI j) (sI (f i j)) := fun F v w H _ h1 h2 Q q => by
  cases h1; cases h2; exact ⟨i, j, rfl, rfl, q _ H (Same.refl H) (Dp.int _)⟩
theorem od_B0 {f : Int → Int → Bool} {i j : Int} : Od K (rI0 fun i j => .bl (f i j)) (sI i) (sI j) (sB (f i j)) := fun F v w H _ h1 h2 Q q => by
  cases h1; cases h2; exact ⟨i, j, rfl, rfl, q _ H (Same.refl H) (Dp.bl _)⟩
theorem od_eqI {i j : Int} : Od K rEq (sI i) (sI j) (sB (decide (i = j))) := fun F v w H _ h1 h2 Q q => by
  cases h1; cases h2
  refine ⟨rfl, ?_⟩
  have e : decide (V.int i = V.int j) = decide (i = j) := by
    by_cases h : i = j
    · subst h; simp
    · rw [decide_eq_false h, decide_eq_false (fun z => h (V.int.inj z))]
  rw [e]; exact q _ H (Same.refl H) (Dp.bl _)
theorem od_neI {i j : Int} : Od K rNe (sI i) (sI j) (sB (!decide (i = j))) := fun F v w H _ h1 h2 Q q => by
  cases h1; cases h2
  refine ⟨rfl, ?_⟩
  have e : decide (V.int i = V.int j) = decide (i = j) := by
    by_cases h : i = j
    · subst h; simp
    · rw [decide_eq_false h, decide_eq_false (fun z => h (V.int.inj z))]
  rw [e]; exact q _ H (Same.refl H) (Dp.bl _)
theorem od_neB {i j : Bool} : Od K rNe (sB i) (sB j) (sB (!decide (i = j))) := fun F v w H _ h1 h2 Q q => by
  cases h1; cases h2
  refine ⟨rfl, ?_⟩
  have e : decide (V.bl i = V.bl j) = decide (i = j) := by
    by_cases h : i = j
    · subst h; simp
    · rw [decide_eq_false h, decide_eq_false (fun z => h (V.bl.inj z))]
  rw [e]; exact q _ H (Same.refl H) (Dp.bl _)
theorem od_eqD {a e : PyData} (sa : SeqAt.shaped a = true) (se : SeqAt.shaped e = true) : Od K (rEqD K) (.d a) (.d e) (sB (PyData.eqv a e)) := fun F v w H _ h1 h2 Q q =>
  ⟨a, e, dp_same mk_le h1, dp_same mk_le h2, sa, se, q _ H (Same.refl H) (Dp.bl _)⟩
theorem od_neD {a e : PyData} (sa : SeqAt.shaped a = true) (se : SeqAt.shaped e = true) : Od K (rNeD K) (.d a) (.d e) (sB (!PyData.eqv a e)) := fun F v w H _ h1 h2 Q q =>
  ⟨a, e, dp_same mk_le h1, dp_same mk_le h2, sa, se, q _ H (Same.refl H) (Dp.bl _)⟩
theorem od_ltG {g h : List (List Int)} (hl : g.length = h.length) : Od K (rLtG K) (.d (dTT g)) (.d (dTT h)) (sB (Gm.lxg g h)) := fun F v w H _ h1 h2 Q q =>
  ⟨g, h, dp_same mk_le h1, dp_same mk_le h2, hl, q _ H (Same.refl H) (Dp.bl _)⟩
/-- a list or a tuple of these -/
def IsSeq (x : PyData) (ds : List PyData) : Prop := x = .list ds ∨ x = .tuple ds
theorem dp_seq {H : Hp} {v : V} {x : PyData} {ds : List PyData} (h : Dp K H v x) (s : IsSeq x ds) : ∃ a vs, v = .ref a ∧ Sq K H a vs ∧ DpAll K H vs ds := by
  rcases s with rfl | rfl
  · cases h with | lst hs ha => exact ⟨_, _, rfl, .inl hs, ha⟩
  · cases h with | tup hs ha => exact ⟨_, _, rfl, .inr hs, ha⟩
theorem dp_lst {H : Hp} {v : V} {ds : List PyData} (h : Dp K H v (.list ds)) : ∃ a vs, v = .ref a ∧ SqL K H a vs ∧ DpAll K H vs ds := by
  cases h with | lst hs ha => exact ⟨_, _, rfl, hs, ha⟩
theorem dp_tup {H : Hp} {v : V} {ds : List PyData} (h : Dp K H v (.tuple ds)) : ∃ a vs, v = .ref a ∧ SqT K H a vs ∧ DpAll K H vs ds := by
  cases h with | tup hs ha => exact ⟨_, _, rfl, hs, ha⟩
theorem sq_same {H H' : Hp} {a : Addr} {vs : List V} (e : Same H H') (h : Sq K H a vs) : Sq K H' a vs := h.imp e.seq (same_t e)
theorem od_ix {s e : PyData} {ds : List PyData} {j : Nat} (hs : IsSeq s ds) (he : ds[j]? = some e) : Od K (rIx K) (.d s) (sI (j : Int)) (.d e) := fun F v w H _ h1 h2 Q q => by
  cases h2
  obtain ⟨a, vs, rfl, hq, ha⟩ := dp_seq h1 hs
  obtain ⟨u, hu, hd⟩ := dpAll_get ha he
  rcases hq with hq | hq
  · exact .inl ⟨a, vs, _, u, rfl, rfl, (mk_le).seq hq, atI_nat hu, q u H (Same.refl H) hd⟩
  · exact .inr (.inl ⟨a, vs, _, u, rfl, rfl, same_t mk_le hq, atI_nat hu, q u H (Same.refl H) hd⟩)
theorem in_ints {i : Int} : ∀ xs : List Int, inV (.int i) (xs.map V.int) = decide (i ∈ xs)
  | [] => rfl
  | x :: xs => by
    have ih := in_ints (i := i) xs
    show ((x == i) || inV (.int i) (xs.map V.int)) = _
    rw [ih]
    by_cases h : x = i
    · subst h; simp
    · have : ¬ i = x := fun e => h e.symm
      simp [h, this]
theorem flat_ints : ∀ xs : List Int, (xs.map V.int).all flatV = true
  | [] => rfl
  | x :: xs => by rw [List.map_cons, List.all_cons, flat_ints xs]; rfl
theorem od_notIn {s : PyData} {i : Int} {xs : List Int} (hs : IsSeq s (dIs xs)) : Od K (rIn K true) (sI i) (.d s) (sB (!decide (i ∈ xs))) := fun F v w H _ h1 h2 Q q => by
  cases h1
  obtain ⟨a, vs, rfl, hq, ha⟩ := dp_seq h2 hs
  obtain rfl := dpAll_ints ha
  refine ⟨a, xs.map V.int, rfl, sq_same mk_le hq, rfl, flat_ints xs, ?_⟩
  rw [if_pos rfl, in_ints]
  exact q _ H (Same.refl H) (Dp.bl _)
end
end G29
end L2
set_option Elab.async false
set_option linter.all false
set_option maxRecDepth 100000
set_option maxHeartbeats 4000000
/-! The data layer: calls of built-ins, displays, slices. -/
namespace L2
namespace G29
open PySem PySem.Spec PyProof.Rows
section
variable {K : PySem.W.Frag} {δ δ' δ1 : De} {x y z : Sl} {ta tb te tc : TE} {tt tu : TT} {r : R2} {b c : Bool} {s : PyData} {ds es : List PyData}
theorem sz (n : Nat) (h : n ≤ 1000000) : n ≤ sizeLine := by rw [sizeLine_eq]; omega
theorem szlt (n : Nat) (h : n ≤ 1000000) : n < sizeLine := by rw [sizeLine_eq]; omega
/-! ### built-ins -/
def rLen (K : PySem.W.Frag) : List V → Hp → VK → Prop := fun xs H Q => ∃ p ys, xs = [.ref p] ∧ (SqL K H p ys ∨ SqT K H p ys) ∧ Q (.int ys.length) H
theorem cd_len (h : IsSeq s ds) : Cd K (rLen K) [.d s] (sI (ds.length : Int)) := fun F vs H _ hv Q q => by
  cases hv with
  | cons h1 t =>
    cases t
    obtain ⟨a, ws, rfl, hq, ha⟩ := dp_seq h1 h
    refine ⟨a, ws, rfl, sq_same mk_le hq, ?_⟩
    rw [dpAll_len ha]
    exact q _ H (Same.refl H) (Dp.int _)
theorem cd_sum {ns : List Int} (h : IsSeq s (dIs ns)) : Cd K (rSumA K) [.d s] (sI ns.sum) := fun F vs H _ hv Q q => by
  cases hv with
  | cons h1 t =>
    cases t
    obtain ⟨a, ws, rfl, hq, ha⟩ := dp_seq h1 h
    obtain rfl := dpAll_ints ha
    exact ⟨a, ns, rfl, sq_same mk_le hq, q _ H (Same.refl H) (Dp.int _)⟩
/-- the greatest, the least -/
def IsMax (m : Int) (ns : List Int) : Prop := m ∈ ns ∧ ∀ y ∈ ns, y ≤ m
def IsMin (m : Int) (ns : List Int) : Prop := m ∈ ns ∧ ∀ y ∈ ns, m ≤ y
theorem IsMax.uniq {m k : Int} {ns : List Int} (h : IsMax m ns) (h' : IsMax k ns) : m = k := Int.le_antisymm (h'.2 _ h.1) (h.2 _ h'.1)
theorem IsMin.uniq {m k : Int} {ns : List Int} (h : IsMin m ns) (h' : IsMin k ns) : m = k := Int.le_antisymm (h.2 _ h'.1) (h'.2 _ h.1)
theorem cd_max {ns : List Int} {m : Int} (h : IsSeq s (dIs ns)) (hm : IsMax m ns) : Cd K (rMaxA K) [.d s] (sI m) := fun F vs H _ hv Q q => by
  cases hv with
  | cons h1 t =>
    cases t
    obtain ⟨a, ws, rfl, hq, ha⟩ := dp_seq h1 h
    obtain rfl := dpAll_ints ha
    refine ⟨a, ns, rfl, sq_same mk_le hq, List.length_pos_of_mem hm.1, fun k h1 h2 => ?_⟩
    rw [IsMax.uniq ⟨h1, h2⟩ hm]
    exact q _ H (Same.refl H) (Dp.int _)
theorem cd_min {ns : List Int} {m : Int} (h : IsSeq s (dIs ns)) (hm : IsMin m ns) : Cd K (rMinA K) [.d s] (sI m) := fun F vs H _ hv Q q => by
  cases hv with
  | cons h1 t =>
    cases t
    obtain ⟨a, ws, rfl, hq, ha⟩ := dp_seq h1 h
    obtain rfl := dpAll_ints ha
    refine ⟨a, ns, rfl, sq_same mk_le hq, List.length_pos_of_mem hm.1, fun k h1 h2 => ?_⟩
    rw [IsMin.uniq ⟨h1, h2⟩ hm]
    exact q _ H (Same.refl H) (Dp.int _)
def rMax2 : List V → Hp → VK → Prop := fun xs H Q => ∃ i j, xs = [.int i, .int j] ∧ Q (.int (if j > i then j else i)) H
def rMin2 : List V → Hp → VK → Prop := fun xs H Q => ∃ i j, xs = [.int i, .int j] ∧ Q (.int (if j < i then j else i)) H
theorem cd_max2 {i j : Int} : Cd K rMax2 [sI i, sI j] (sI (max i j)) := fun F vs H _ hv Q q => by
  cases hv with
  | cons h1 t =>
    cases t with
    | cons h2 t =>
      cases t; cases h1; cases h2
      refine ⟨i, j, rfl, ?_⟩
      have e : (if j > i then j else i) = max i j := by split <;> omega
      rw [e]; exact q _ H (Same.refl H) (Dp.int _)
theorem cd_min2 {i j : Int} : Cd K rMin2 [sI i, sI j] (sI (min i j)) := fun F vs H _ hv Q q => by
  cases hv with
  | cons h1 t =>
    cases t with
    | cons h2 t =>
      cases t; cases h1; cases h2
      refine ⟨i, j, rfl, ?_⟩
      have e : (if j < i then j else i) = min i j := by split <;> omega
      rw [e]; exact q _ H (Same.refl H) (Dp.int _)
abbrev dBs (bs : List Bool) : List PyData := bs.map PyData.bool
theorem dpAll_bools {H : Hp} : ∀ {bs : List Bool} {vs : List V}, DpAll K H vs (dBs bs) → vs = bs.map V.bl
  | [], _, h => by cases h; rfl
  | x :: xs, _, h => by
    cases h with
    | cons h1 h2 => cases h1; rw [dpAll_bools h2]; rfl
theorem cd_all {bs : List Bool} : Cd K (rAll K) [.d (.list (dBs bs))] (sB (bs.all id)) := fun F vs H _ hv Q q => by
  cases hv with
  | cons h1 t =>
    cases t
    obtain ⟨a, ws, rfl, hq, ha⟩ := dp_lst h1
    obtain rfl := dpAll_bools ha
    exact ⟨a, bs, rfl, (mk_le).seq hq, q _ H (Same.refl H) (Dp.bl _)⟩
theorem cd_any {bs : List Bool} : Cd K (rAny K) [.d (.list (dBs bs))] (sB (bs.any id)) := fun F vs H _ hv Q q => by
  cases hv with
  | cons h1 t =>
    cases t
    obtain ⟨a, ws, rfl, hq, ha⟩ := dp_lst h1
    obtain rfl := dpAll_bools ha
    exact ⟨a, bs, rfl, (mk_le).seq hq, q _ H (Same.refl H) (Dp.bl _)⟩
def rTupOf (K : PySem.W.Frag) : List V → Hp → VK → Prop := fun xs H Q => ∃ p ys, xs = [.ref p] ∧ ((SqL K H p ys ∧ ∀ l, H l = none → Q (.ref l) (upd H l (.tup ys))) ∨ (SqT K H p ys ∧ Q (.ref p) H))
theorem new_tup {F : FS} {H : Hp} {p : Addr} {vs : List V} (d : Dom F H) (hp : H p = none) (h : DpAll K (mk F H) vs ds) : Dp K (mk F (upd H p (.tup vs))) (.ref p) (.tuple ds) :=
  .tup (.inl (.inl (mk_new (d.new hp)))) (dpAll_same (mk_same (same_upd hp)) h)
theorem new_lst {F : FS} {H : Hp} {p : Addr} {vs : List V} (d : Dom F H) (hp : H p = none) (h : DpAll K (mk F H) vs ds) : Dp K (mk F (upd H p (.lst vs))) (.ref p) (.list ds) :=
  .lst (.inl (.inl (mk_new (d.new hp)))) (dpAll_same (mk_same (same_upd hp)) h)
theorem cd_tupOf (h : IsSeq s ds) : Cd K (rTupOf K) [.d s] (.d (.tuple ds)) := fun F vs H d hv Q q => by
  cases hv with
  | cons h1 t =>
    cases t
    rcases h with rfl | rfl
    · obtain ⟨a, ws, rfl, hq, ha⟩ := dp_lst h1
      exact ⟨a, ws, rfl, .inl ⟨(mk_le).seq hq, fun l hl => q _ _ (same_upd hl) (new_tup d hl ha)⟩⟩
    · obtain ⟨a, ws, rfl, hq, ha⟩ := dp_tup h1
      exact ⟨a, ws, rfl, .inr ⟨same_t mk_le hq, q _ H (Same.refl H) (.tup hq ha)⟩⟩
def rLstOf (K : PySem.W.Frag) : List V → Hp → VK → Prop := fun xs H Q => ∃ p ys, xs = [.ref p] ∧ (SqL K H p ys ∨ SqT K H p ys) ∧ ∀ l, H l = none → Q (.ref l) (upd H l (.lst ys))
theorem cd_lstOf (h : IsSeq s ds) : Cd K (rLstOf K) [.d s] (.d (.list ds)) := fun F vs H d hv Q q => by
  cases hv with
  | cons h1 t =>
    cases t
    obtain ⟨a, ws, rfl, hq, ha⟩ := dp_seq h1 h
    exact ⟨a, ws, rfl, sq_same mk_le hq, fun l hl => q _ _ (same_upd hl) (new_lst d hl ha)⟩
def rInt1 : List V → Hp → VK → Prop := fun xs H Q => (∃ i, xs = [.int i] ∧ Q (.int i) H) ∨ ∃ k, xs = [.bl k] ∧ Q (.int (if k then 1 else 0)) H
theorem cd_int {i : Int} : Cd K rInt1 [sI i] (sI i) := fun F vs H _ hv Q q => by
  cases hv with
  | cons h1 t => cases t; cases h1; exact .inl ⟨i, rfl, q _ H (Same.refl H) (Dp.int _)⟩
/-! ### displays -/
theorem ed_tup {t : TA} {xs : List PyData} (h : Ea K t δ (xs.map Sl.d)) (hl : xs.length ≤ 1000000) : Ed K (tTup t) δ (.d (.tuple xs)) := fun F σ H d s Q q => h F σ H d s _ fun vs H1 e1 h1 => by
  have hv : DpAll K (mk F H1) vs xs := by
    clear q e1 hl h
    induction xs generalizing vs with
    | nil => cases h1; exact .nil
    | cons x xs ih => cases h1 with | cons a t => exact .cons a (ih _ t)
  exact ⟨by rw [dpAll_len hv]; exact sz _ hl, fun p hp => q _ _ (e1.trans (same_upd hp)) (new_tup (d.same e1) hp hv)⟩
theorem ed_lst {t : TA} {xs : List PyData} (h : Ea K t δ (xs.map Sl.d)) (hl : xs.length ≤ 1000000) : Ed K (tLst t) δ (.d (.list xs)) := fun F σ H d s Q q => h F σ H d s _ fun vs H1 e1 h1 => by
  have hv : DpAll K (mk F H1) vs xs := by
    clear q e1 hl h
    induction xs generalizing vs with
    | nil => cases h1; exact .nil
    | cons x xs ih => cases h1 with | cons a t => exact .cons a (ih _ t)
  exact ⟨by rw [dpAll_len hv]; exact sz _ hl, fun p hp => q _ _ (e1.trans (same_upd hp)) (new_lst (d.same e1) hp hv)⟩
theorem dpAll_sv {H : Hp} : ∀ {vs : List V} {ds : List PyData}, DpAll K H vs ds → SvAll K H vs (ds.map Sl.d)
  | _, _, .nil => .nil
  | _, _, .cons a t => .cons a (dpAll_sv t)
theorem svAll_app {H : Hp} : ∀ {vs ws : List V} {xs ys : List Sl}, SvAll K H vs xs → SvAll K H ws ys → SvAll K H (vs ++ ws) (xs ++ ys)
  | _, _, _, _, .nil, h => h
  | _, _, _, _, .cons a t, h => .cons a (svAll_app t h)
theorem ea_star {tr : TA} {xs : List Sl} (ha : Ed K ta δ (.d s)) (h : IsSeq s ds) (hr : Ea K tr δ xs) : Ea K (tStar K ta tr) δ (ds.map Sl.d ++ xs) := fun F σ H d s Q q =>
  ha F σ H d s _ fun v H1 e1 h1 => by
    obtain ⟨a, vs, rfl, hq, hv⟩ := dp_seq h1 h
    exact ⟨a, vs, rfl, sq_same mk_le hq, hr F σ H1 (d.same e1) (sd_same (mk_same e1) s) _ fun ws H2 e2 h2 => q _ H2 (e1.trans e2) (svAll_app (dpAll_sv (dpAll_same (mk_same e2) hv)) h2)⟩
/-! ### slices -/
theorem eo_none : Eo K tNoPart δ none := fun F σ H _ s Q q => q H (Same.refl H)
theorem eo_some {i : Int} (h : Ed K te δ (sI i)) : Eo K (tPart te) δ (some i) := fun F σ H d s Q q => h F σ H d s _ fun v H1 e1 h1 => by cases h1; exact ⟨i, rfl, q H1 e1⟩
/-- xs[lo:hi] by its places -/
def cutD (ds : List PyData) (lo hi : Option Int) : List PyData := (ds.drop (HT.sIx ds.length 0 lo)).take (HT.sIx ds.length ds.length hi - HT.sIx ds.length 0 lo)
theorem dpAll_cut {H : Hp} {vs : List V} (h : DpAll K H vs ds) (lo hi : Option Int) : DpAll K H (cutV vs lo hi) (cutD ds lo hi) := by
  unfold cutV cutD
  rw [dpAll_len h]
  exact dpAll_take _ (dpAll_drop _ h)
theorem ed_slL {tl th : TO} {lo hi : Option Int} (h : Ed K te δ (.d (.list ds))) (h1 : Eo K tl δ lo) (h2 : Eo K th δ hi) : Ed K (tSl (rSlL K) te tl th) δ (.d (.list (cutD ds lo hi))) := fun F σ H d s Q q =>
  h F σ H d s _ fun v H1 e1 k1 => h1 F σ H1 (d.same e1) (sd_same (mk_same e1) s) _ fun H2 e2 => h2 F σ H2 (d.same (e1.trans e2)) (sd_same (mk_same (e1.trans e2)) s) _ fun H3 e3 => by
    obtain ⟨a, vs, rfl, hq, ha⟩ := dp_lst (sv_same (x := .d (.list ds)) (mk_same (e2.trans e3)) k1)
    exact ⟨a, vs, rfl, (mk_le).seq hq, fun p hp => q _ _ (((e1.trans e2).trans e3).trans (same_upd hp)) (new_lst (d.same ((e1.trans e2).trans e3)) hp (dpAll_cut ha lo hi))⟩
theorem cut_whole {lo hi : Option Int} (h : HT.sIx ds.length 0 lo = 0 ∧ HT.sIx ds.length ds.length hi = ds.length) : cutD ds lo hi = ds := by
  unfold cutD; rw [h.1, h.2, List.drop_zero, Nat.sub_zero, List.take_length]
theorem ed_slT {tl th : TO} {lo hi : Option Int} (h : Ed K te δ (.d (.tuple ds))) (h1 : Eo K tl δ lo) (h2 : Eo K th δ hi) : Ed K (tSl (rSlA K) te tl th) δ (.d (.tuple (cutD ds lo hi))) := fun F σ H d s Q q =>
  h F σ H d s _ fun v H1 e1 k1 => h1 F σ H1 (d.same e1) (sd_same (mk_same e1) s) _ fun H2 e2 => h2 F σ H2 (d.same (e1.trans e2)) (sd_same (mk_same (e1.trans e2)) s) _ fun H3 e3 => by
    have k3 := sv_same (x := .d (.tuple ds)) (mk_same (e2.trans e3)) k1
    obtain ⟨a, vs, rfl, hq, ha⟩ := dp_tup k3
    refine ⟨a, vs, rfl, same_t mk_le hq, fun hw => ?_, fun _ p hp => q _ _ (((e1.trans e2).trans e3).trans (same_upd hp)) (new_tup (d.same ((e1.trans e2).trans e3)) hp (dpAll_cut ha lo hi))⟩
    rw [dpAll_len ha] at hw
    rw [cut_whole hw] at q
    exact q _ H3 ((e1.trans e2).trans e3) k3
theorem ed_revT (h : Ed K te δ (.d (.tuple ds))) : Ed K (tRevT K te) δ (.d (.tuple ds.reverse)) := fun F σ H d s Q q =>
  h F σ H d s _ fun v H1 e1 k1 => by
    obtain ⟨a, vs, rfl, hq, ha⟩ := dp_tup k1
    exact ⟨a, vs, rfl, same_t mk_le hq, fun p hp => q _ _ (e1.trans (same_upd hp)) (new_tup (d.same e1) hp (dpAll_rev ha))⟩
theorem cutD_from {n : Nat} (h : n ≤ ds.length) : cutD ds (some (n : Int)) none = ds.drop n := by
  unfold cutD
  rw [HT.sIx_nat, HT.sIx_none, Nat.min_eq_left h]
  rw [List.take_of_length_le (by rw [List.length_drop]; omega)]
theorem cutD_to {n : Nat} : cutD ds none (some (n : Int)) = ds.take n := by
  unfold cutD
  rw [HT.sIx_nat, HT.sIx_none, List.drop_zero, Nat.sub_zero]
  by_cases h : n ≤ ds.length
  · rw [Nat.min_eq_left h]
  · rw [Nat.min_eq_right (by omega), List.take_length, List.take_of_length_le (by omega)]
/-! ### t + u, xs + ys, xs * n -/
theorem od_catT (hl : ds.length + es.length ≤ 1000000) : Od K (rCatA K) (.d (.tuple ds)) (.d (.tuple es)) (.d (.tuple (ds ++ es))) := fun F v w H d h1 h2 Q q => by
  obtain ⟨a, vs, rfl, hq, ha⟩ := dp_tup h1
  obtain ⟨b, ws, rfl, hq2, ha2⟩ := dp_tup h2
  refine ⟨a, b, vs, ws, rfl, rfl, same_t mk_le hq, same_t mk_le hq2, by rw [dpAll_len ha, dpAll_len ha2]; exact sz _ hl, fun e => ?_, fun _ e => ?_, fun _ _ p hp => q _ _ (same_upd hp) (new_tup d hp (dpAll_app ha ha2))⟩
  · subst e; cases ha; exact q _ H (Same.refl H) h2
  · subst e; cases ha2; rw [List.append_nil] at q; exact q _ H (Same.refl H) h1
def rCatS (K : PySem.W.Frag) : R2 := fun x y H Q => ∃ l b xs zs, x = .ref l ∧ y = .ref b ∧ SqL K H l xs ∧ SqL K H b zs ∧ xs.length + zs.length ≤ sizeLine ∧ ∀ p, H p = none → Q (.ref p) (upd H p (.lst (xs ++ zs)))
end
section
variable {X : Cx}
theorem op_catS : OpR X (binaryOp .Add) (rCatS X.K) := by
  intro pins s σ H x y v u Q I rx ry h
  obtain ⟨l, b, xs, zs, rfl, rfl, hH, hB, hz, q⟩ := h
  cases rx
  cases ry
  obtain ⟨its, r, ⟨⟨cls, dd, data, sl⟩, n, ho, hc, _, hd⟩, hl⟩ := I.list hH
  obtain ⟨its2, r2, ⟨⟨cls2, dd2, data2, sl2⟩, n2, ho2, hc2, _, hd2⟩, hl2⟩ := I.list hB
  simp only at hc hd hc2 hd2
  subst hc hd hc2 hd2
  have ea : its.toArray ++ its2.toArray = (its ++ its2).toArray := by simp
  have l1 := r.length
  have l2 := r2.length
  refine concat_meets ⟨_, ho, rfl⟩ ⟨_, ho2, rfl⟩ noFill_list_add seq_list_add PySem.F.slot_list_add PySem.F.entry_list_add (PySem.F.args_list_add_2 _ _) (list_addW l b its.toArray its2.toArray n n2 dd dd2 sl sl2 (by rw [List.size_toArray, List.size_toArray]; omega)) ⟨ho, ho2, ?_⟩
  rw [ea]
  exact ⟨.ref _, _, I.lnew (t' := s.toks) (r.append r2) (by rw [List.length_append]; omega), rfl, q _ I.fresh⟩
end
section
variable {K : PySem.W.Frag} {δ : De} {ds es : List PyData}
theorem od_catL (hl : ds.length + es.length ≤ 1000000) : Od K (rCatS K) (.d (.list ds)) (.d (.list es)) (.d (.list (ds ++ es))) := fun F v w H d h1 h2 Q q => by
  obtain ⟨a, vs, rfl, hq, ha⟩ := dp_lst h1
  obtain ⟨b, ws, rfl, hq2, ha2⟩ := dp_lst h2
  exact ⟨a, b, vs, ws, rfl, rfl, (mk_le).seq hq, (mk_le).seq hq2, by rw [dpAll_len ha, dpAll_len ha2]; exact sz _ hl, fun p hp => q _ _ (same_upd hp) (new_lst d hp (dpAll_app ha ha2))⟩
/-- [c] * n -/
theorem dpAll_rep {H : Hp} {c : Int} : ∀ n : Nat, DpAll K H (List.replicate n [V.int c]).flatten (List.replicate n (PyData.int c))
  | 0 => .nil
  | n + 1 => .cons (.int c) (dpAll_rep n)
theorem ed_rep {tb : TE} {c : Int} {n : Nat} (hb : Ed K tb δ (sI (n : Int))) (hn : n ≤ 100000) : Ed K (tOp rRep (tLst (tCons (tC (.int c)) tNil)) tb) δ (.d (.list (List.replicate n (.int c)))) := fun F σ H d s Q q =>
  ⟨sz 1 (by decide), fun p hp => hb F σ _ (d.same (same_upd hp)) (sd_same (mk_same (same_upd hp)) s) _ fun v H2 e2 h2 => by
    cases h2
    have hl : H2 p = some (.lst [.int c]) := e2 p _ upd_same
    refine ⟨p, (n : Int), [.int c], rfl, rfl, hl, by omega, by omega, by rw [List.length_singleton, Int.toNat_natCast]; exact sz _ (by omega), fun l hl' => q _ _ (((same_upd hp).trans e2).trans (same_upd hl')) (new_lst (d.same ((same_upd hp).trans e2)) hl' ?_)⟩
    rw [Int.toNat_natCast]
    exact dpAll_rep n⟩
end
end G29
end L2
set_option Elab.async false
set_option linter.all false
set_option maxRecDepth 100000
set_option maxHeartbeats 4000000
/-! The data layer: what is walked, targets, comprehensions, statements, promises. -/
namespace L2
namespace G29
open PySem PySem.Spec PyProof.Rows
section
variable {K : PySem.W.Frag} {δ δ' δ1 δ2 : De} {x y z : Sl} {ta tb te tc : TE} {tt tu : TT} {r : R2} {b c : Bool} {s : PyData} {ds es : List PyData}
/-! ### what is walked -/
def Id (K : PySem.W.Frag) (J : It) (B : Hp) (ds : List PyData) : Prop := ∀ (F : FS) (i : Nat) (H : Hp), Dom F H → Same B (mk F H) →
  (∀ d, ds[i]? = some d → J.go i H ∧ ∀ v H', J.yld i H v H' → Same H H' ∧ Dp K (mk F H') v d) ∧ (ds.length = i → J.stop i H)
def Wd (K : PySem.W.Frag) (wi : TI) (δ : De) (ds : List PyData) : Prop := ∀ (F : FS) (σ : St) (H : Hp), Dom F H → Sd K (mk F H) σ δ → ∀ R : It → Hp → Prop, (∀ J H1, Same H H1 → Id K J (mk F H1) ds → R J H1) → wi σ H R
theorem sqT_inj {H : Hp} {a : Addr} {xs ys : List V} (h : SqT K H a xs) (h' : xs = ys) : SqT K H a ys := h' ▸ h
theorem id_lst {B : Hp} {a : Addr} {vs : List V} (h : SqL K B a vs) (hd : DpAll K B vs ds) : Id K (Itl K a) B ds := fun F i H d e => by
  have hq : SqL K H a vs := (mk_le).seq (e.seq h)
  refine ⟨fun x hx => ?_, fun hi => ⟨vs, hq, by rw [dpAll_len hd]; omega⟩⟩
  obtain ⟨v, hv, hv2⟩ := dpAll_get hd hx
  refine ⟨⟨vs, v, hq, hv⟩, fun u H' y => ?_⟩
  obtain ⟨rfl, y⟩ := y
  have : u = v := Option.some.inj ((y vs hq).symm.trans hv)
  subst this
  exact ⟨Same.refl _, dp_same e hv2⟩
theorem id_tup {B : Hp} {a : Addr} {vs : List V} (h : SqT K B a vs) (hd : DpAll K B vs ds) : Id K (Itt K a) B ds := fun F i H d e => by
  have hq : SqT K H a vs := same_t mk_le (same_t e h)
  refine ⟨fun x hx => ?_, fun hi => ⟨vs, hq, by rw [dpAll_len hd]; omega⟩⟩
  obtain ⟨v, hv, hv2⟩ := dpAll_get hd hx
  refine ⟨⟨vs, v, hq, hv⟩, fun u H' y => ?_⟩
  obtain ⟨rfl, y⟩ := y
  have : u = v := Option.some.inj ((y vs hq).symm.trans hv)
  subst this
  exact ⟨Same.refl _, dp_same e hv2⟩
theorem wd_lst (h : Ed K te δ (.d (.list ds))) : Wd K (iList K te) δ ds := fun F σ H d s R q => h F σ H d s _ fun v H1 e1 h1 => by
  obtain ⟨a, vs, rfl, hq, ha⟩ := dp_lst h1
  exact ⟨a, rfl, ⟨vs, (mk_le).seq hq⟩, q _ H1 e1 (id_lst hq ha)⟩
theorem wd_tup (h : Ed K te δ (.d (.tuple ds))) : Wd K (iTup K te) δ ds := fun F σ H d s R q => h F σ H d s _ fun v H1 e1 h1 => by
  obtain ⟨a, vs, rfl, hq, ha⟩ := dp_tup h1
  exact ⟨a, rfl, ⟨vs, same_t mk_le hq⟩, q _ H1 e1 (id_tup hq ha)⟩
def iSeq (K : PySem.W.Frag) (tl : TE) : TI := fun σ H R => tl σ H fun x H1 => ∃ a, x = .ref a ∧ (((∃ xs, SqL K H1 a xs) ∧ R (Itl K a) H1) ∨ ((∃ xs, SqT K H1 a xs) ∧ R (Itt K a) H1))
theorem wd_seq (h : Ed K te δ (.d s)) (hs : IsSeq s ds) : Wd K (iSeq K te) δ ds := fun F σ H d sd R q => h F σ H d sd _ fun v H1 e1 h1 => by
  rcases hs with rfl | rfl
  · obtain ⟨a, vs, rfl, hq, ha⟩ := dp_lst h1
    exact ⟨a, rfl, .inl ⟨⟨vs, (mk_le).seq hq⟩, q _ H1 e1 (id_lst hq ha)⟩⟩
  · obtain ⟨a, vs, rfl, hq, ha⟩ := dp_tup h1
    exact ⟨a, rfl, .inr ⟨⟨vs, same_t mk_le hq⟩, q _ H1 e1 (id_tup hq ha)⟩⟩
/-- 0, 1, .. below n -/
def dR (n : Nat) : List PyData := (List.range n).map fun (i : Nat) => PyData.int (i : Int)
theorem dR_len (n : Nat) : (dR n).length = n := by unfold dR; rw [List.length_map, List.length_range]
def dRg (lo : Int) (n : Nat) : List PyData := (List.range n).map fun (i : Nat) => PyData.int (lo + (i : Int))
theorem dRg_len (lo : Int) (n : Nat) : (dRg lo n).length = n := by unfold dRg; rw [List.length_map, List.length_range]
theorem dRg_zero (n : Nat) : dRg 0 n = dR n := by unfold dRg dR; congr 1; funext i; rw [Int.zero_add]
theorem id_rng {B : Hp} {lo : Int} {n : Nat} : Id K (Itr lo n) B (dRg lo n) := fun F i H d e => by
  refine ⟨fun x hx => ?_, fun hi => by rw [dRg_len] at hi; exact Nat.le_of_eq hi⟩
  unfold dRg at hx
  rw [List.getElem?_map] at hx
  obtain ⟨j, hj, rfl⟩ := Option.map_eq_some_iff.mp hx
  obtain ⟨h1, h2⟩ := List.getElem?_eq_some_iff.mp hj
  rw [List.getElem_range] at h2
  subst h2
  rw [List.length_range] at h1
  refine ⟨h1, fun u H' y => ?_⟩
  obtain ⟨rfl, rfl⟩ := y
  exact ⟨Same.refl _, Dp.int _⟩
theorem wd_rng1 {t : TA} {n : Int} (h : Ea K t δ [sI n]) (hn : n ≤ 1000000) (h0 : -1000000 ≤ n) : Wd K (iRng1 t) δ (dR n.toNat) := fun F σ H d s R q => h F σ H d s _ fun vs H1 e1 h1 => by
  cases h1 with
  | cons a t =>
    cases t; cases a
    refine ⟨n, rfl, by omega, by omega, q _ H1 e1 ?_⟩
    rw [← dRg_zero]; exact id_rng
theorem wd_rng2 {t : TA} {m n : Int} (h : Ea K t δ [sI m, sI n]) (hm : m ≤ 1000000) (h00 : -1000000 ≤ m) (hn : n ≤ 1000000) (h0 : -1000000 ≤ n) : Wd K (iRng2 t) δ (dRg m (n - m).toNat) := fun F σ H d s R q => h F σ H d s _ fun vs H1 e1 h1 => by
  cases h1 with
  | cons a t =>
    cases t with
    | cons b t =>
      cases t; cases a; cases b
      exact ⟨m, n, rfl, ⟨by omega, by omega, by omega, by omega⟩, q _ H1 e1 id_rng⟩
/-- zip of two tuples -/
def dZ (ds es : List PyData) : List PyData := List.zipWith (fun a b => PyData.tuple [a, b]) ds es
theorem id_zipT {B : Hp} {a b : Addr} {vs ws : List V} (h : SqT K B a vs) (hd : DpAll K B vs ds) (h2 : SqT K B b ws) (hd2 : DpAll K B ws es) : Id K (RZ.ItzT K a b) B (dZ ds es) := fun F i H d e => by
  have hq : SqT K H a vs := same_t mk_le (same_t e h)
  have hq2 : SqT K H b ws := same_t mk_le (same_t e h2)
  refine ⟨fun x hx => ?_, fun hi => ⟨vs, ws, hq, hq2, ?_⟩⟩
  · unfold dZ at hx
    rw [List.getElem?_zipWith] at hx
    cases e1 : ds[i]? with
    | none => rw [e1] at hx; simp at hx
    | some p =>
      cases e2 : es[i]? with
      | none => rw [e1, e2] at hx; simp at hx
      | some q =>
        rw [e1, e2] at hx
        simp at hx
        subst hx
        obtain ⟨v, hv, hv2⟩ := dpAll_get hd e1
        obtain ⟨w, hw, hw2⟩ := dpAll_get hd2 e2
        refine ⟨⟨vs, ws, v, w, hq, hq2, hv, hw⟩, fun u H' yy => ?_⟩
        obtain ⟨T, x1, y1, rfl, hT, rfl, f1, f2⟩ := yy
        have : x1 = v := Option.some.inj ((f1 vs hq).symm.trans hv)
        subst this
        have : y1 = w := Option.some.inj ((f2 ws hq2).symm.trans hw)
        subst this
        exact ⟨same_upd hT, new_tup d hT (.cons (dp_same e hv2) (.cons (dp_same e hw2) .nil))⟩
  · unfold dZ at hi
    rw [List.length_zipWith] at hi
    rw [dpAll_len hd, dpAll_len hd2]
    omega
theorem wd_zipT {t : TA} (h : Ea K t δ [.d (.tuple ds), .d (.tuple es)]) : Wd K (RZ.iZipA K t) δ (dZ ds es) := fun F σ H d s R q => h F σ H d s _ fun vs H1 e1 h1 => by
  cases h1 with
  | cons a t =>
    cases t with
    | cons b t =>
      cases t
      obtain ⟨a1, v1, rfl, q1, k1⟩ := dp_tup a
      obtain ⟨a2, v2, rfl, q2, k2⟩ := dp_tup b
      exact ⟨a1, a2, v1, v2, rfl, .inr ⟨same_t mk_le q1, same_t mk_le q2, q _ H1 e1 (id_zipT q1 k1 q2 k2)⟩⟩
/-! ### targets -/
def Gd (K : PySem.W.Frag) (g : TG) (js : List Nat) (δ : De) (x : Sl) (δ' : De) : Prop := ∀ (F : FS) (σ : St) (H : Hp) (v : V) (Q : St → Hp → Prop), Dom F H → Sd K (mk F H) σ δ → Sv K (mk F H) v x →
  (∀ σ' H', Same H H' → Sd K (mk F H') σ' δ' → σ'.length = σ.length → (∀ i : Nat, i ∉ js → σ'[i]? = σ[i]?) → Q σ' H') → g v σ H Q
theorem gd_name {j : Nat} : Gd K (gName j) [j] δ x (δ.set j (some x)) := fun F σ H v Q d s h q =>
  q _ H (Same.refl H) (sd_set s h) (List.length_set ..) fun i hi => List.getElem?_set_ne (fun e => hi (by rw [e]; exact List.mem_singleton.mpr rfl))
theorem gd_tup2 {i j : Nat} {a b : PyData} : Gd K (gTup K 2 (gCons (gName i) (gCons (gName j) gNil))) [i, j] δ (.d (.tuple [a, b])) ((δ.set i (some (.d a))).set j (some (.d b))) := fun F σ H v Q d s h q => by
  obtain ⟨t, vs, rfl, hq, ha⟩ := dp_tup h
  cases ha with
  | cons h1 ha =>
    cases ha with
    | cons h2 ha =>
      cases ha
      refine ⟨t, _, rfl, same_t mk_le hq, rfl, _, _, rfl, _, _, rfl, rfl, q _ H (Same.refl H) (sd_set (sd_set s h1) h2) (by rw [List.length_set, List.length_set]) fun k hk => ?_⟩
      rw [List.getElem?_set_ne (fun e => hk (by rw [e]; exact List.mem_cons_of_mem _ List.mem_cons_self)), List.getElem?_set_ne (fun e => hk (by rw [e]; exact List.mem_cons_self))]
theorem wipe_same : ∀ {vs : List Nat} {σ σ' : St}, σ'.length = σ.length → (∀ i : Nat, i ∉ vs → σ'[i]? = σ[i]?) → wipe σ' vs = wipe σ vs := fun {vs σ σ'} hl h => by
  apply List.ext_getElem?
  intro i
  by_cases hi : i ∈ vs
  · have key : ∀ (τ : St) (us : List Nat), i ∈ us → (wipe τ us)[i]? = if i < τ.length then some none else none := by
      intro τ us
      induction us with
      | nil => intro h; cases h
      | cons v us ih =>
        intro hm
        unfold wipe
        by_cases hv : v = i
        · subst hv
          by_cases hlt : v < τ.length
          · rw [if_pos hlt, List.getElem?_set_self (by rw [wipe_length]; exact hlt)]
          · rw [if_neg hlt, List.getElem?_eq_none (by rw [List.length_set, wipe_length]; omega)]
        · rw [List.getElem?_set_ne hv]
          exact ih ((List.mem_cons.mp hm).resolve_left (fun e => hv e.symm))
    rw [key σ' vs hi, key σ vs hi, hl]
  · rw [wipe_out hi, wipe_out hi]
    exact h i hi
theorem wipe_wipe (σ : St) (vs : List Nat) : wipe (wipe σ vs) vs = wipe σ vs := wipe_same (wipe_length σ vs) fun i hi => wipe_out hi
/-! ### comprehensions -/
theorem dom_or {F : FS} {H H' : Hp} {D : Addr} {acc : List V} (d : Dom F H) (hD : H' D = some (.lst acc)) (k : ∀ b o, b ≠ D → H b = some o → H' b = some o) : Dom (fun a => F a ∨ a = D) H' := fun a h => by
  by_cases e : a = D
  · exact ⟨_, by rw [e]; exact hD⟩
  · obtain ⟨o, q⟩ := d a (h.resolve_right e)
    exact ⟨o, k a o e q⟩
theorem same_or {F : FS} {H H' : Hp} {D : Addr} (hn : H D = none) (k : ∀ b o, b ≠ D → H b = some o → H' b = some o) : Same (mk F H) (mk (fun a => F a ∨ a = D) H') := fun b o e => by
  have hb : b ≠ D := fun z => by rw [z] at e; have := mk_le _ _ e; rw [hn] at this; cases this
  by_cases hF : F b
  · rw [mk_none hF] at e; cases e
  · rw [mk_at hF] at e
    rw [mk_at (fun z => z.elim hF hb)]
    exact k b o hb e
theorem or_same {F : FS} {H : Hp} {D : Addr} : Same (mk (fun a => F a ∨ a = D) H) (mk F H) := fun b o e => by
  by_cases h : F b ∨ b = D
  · rw [mk_none h] at e; cases e
  · rw [mk_at h] at e
    rw [mk_at (fun z => h (.inl z))]; exact e
theorem mk_upd {F : FS} {H : Hp} {D : Addr} {o : HO} : mk (fun a => F a ∨ a = D) (upd H D o) = mk (fun a => F a ∨ a = D) H := by
  funext b
  by_cases h : F b ∨ b = D
  · rw [mk_none h, mk_none h]
  · rw [mk_at h, mk_at h, upd_ne (fun e => h (.inr e))]
theorem ed_lc {α : Type} {enc : α → PyData} {ds : List α} {wi : TI} {g : TG} {vs js : List Nat} (p : α → Bool) (v : α → PyData) (hw : Wd K wi δ (ds.map enc)) (hn : ds.length ≤ 1000000) (hj : ∀ i ∈ js, i ∈ vs)
    (h : ∀ x ∈ ds, ∃ δ', Gd K g js (wipeD δ vs) (.d (enc x)) δ' ∧ Et K tt δ' (p x) ∧ (p x = true → Ed K te δ' (.d (v x)))) : Ed K (tLc wi g tt te vs) δ (.d (.list ((ds.filter p).map v))) := fun F σ H d s Q q =>
  hw F σ H d s _ fun J H1 e1 hid D hD => by
    have d1 : Dom F H1 := d.same e1
    have s1 : Sd K (mk F H1) (wipe σ vs) (wipeD δ vs) := sd_wipe (sd_same (mk_same e1) s) vs
    refine ⟨fun i m H' => m = ds.length - i ∧ i ≤ ds.length ∧ ∃ acc, H' D = some (.lst acc) ∧ (∀ b o, b ≠ D → H1 b = some o → H' b = some o) ∧ DpAll K (mk (fun a => F a ∨ a = D) H') acc (((ds.take i).filter p).map v),
      ⟨ds.length, rfl, Nat.zero_le _, [], upd_same, fun b o hb e => by rw [upd_ne hb]; exact e, .nil⟩, ?_⟩
    rintro i m H' ⟨rfl, hi, acc, hA, hk, hacc⟩
    have dF := dom_or d1 hA hk
    have sB : Same (mk F H1) (mk (fun a => F a ∨ a = D) H') := same_or hD hk
    obtain ⟨hgo, hstop⟩ := hid _ i H' dF sB
    by_cases hlt : i < ds.length
    · refine .inr ⟨(hgo (enc ds[i]) (by rw [List.getElem?_map, List.getElem?_eq_getElem hlt]; rfl)).1, fun H2 => ∃ acc, H2 D = some (.lst acc) ∧ (∀ b o, b ≠ D → H1 b = some o → H2 b = some o) ∧ DpAll K (mk (fun a => F a ∨ a = D) H2) acc (((ds.take (i + 1)).filter p).map v),
        fun H2 h2 => ⟨ds.length - (i + 1), by omega, rfl, hlt, h2⟩, fun u H2 yy => ?_⟩
      obtain ⟨e2, hu⟩ := (hgo (enc ds[i]) (by rw [List.getElem?_map, List.getElem?_eq_getElem hlt]; rfl)).2 u H2 yy
      obtain ⟨δ', hg, ht, hv⟩ := h ds[i] (List.getElem_mem hlt)
      refine hg _ (wipe σ vs) H2 u _ (dF.same e2) (sd_same (sB.trans (mk_same e2)) s1) hu fun σ2 H3 e3 s3 hl3 ha3 => ⟨?_, ?_⟩
      · rw [wipe_same hl3 fun k hk => ha3 k fun z => hk (hj k z), wipe_wipe]
      · refine ht _ σ2 H3 (dF.same (e2.trans e3)) s3 _ fun H4 e4 => ?_
        have hlist : ds.take (i + 1) = ds.take i ++ [ds[i]] := by rw [List.take_add_one, List.getElem?_eq_getElem hlt]; rfl
        cases hp : p ds[i] with
        | false =>
          show ∃ acc, _
          refine ⟨acc, e4 _ _ (e3 _ _ (e2 _ _ hA)), fun b o hb e => e4 _ _ (e3 _ _ (e2 _ _ (hk b o hb e))), ?_⟩
          rw [hlist, List.filter_append, List.filter_cons, if_neg (by rw [hp]; decide), List.filter_nil, List.append_nil]
          exact dpAll_same (mk_same ((e2.trans e3).trans e4)) hacc
        | true =>
          show te σ2 H4 _
          refine hv hp _ σ2 H4 (dF.same ((e2.trans e3).trans e4)) (sd_same (mk_same e4) s3) _ fun w H5 e5 h5 => ?_
          have eA : Same H' H5 := ((e2.trans e3).trans e4).trans e5
          have hlen : acc.length ≤ ds.length := by
            rw [dpAll_len hacc, List.length_map]
            refine Nat.le_trans (List.length_filter_le ..) ?_
            rw [List.length_take]; omega
          refine ⟨acc, eA _ _ hA, szlt _ (by omega), acc ++ [w], upd_same, fun b o hb e => by rw [upd_ne hb]; exact eA _ _ (hk b o hb e), ?_⟩
          rw [mk_upd, hlist, List.filter_append, List.filter_cons, if_pos hp, List.filter_nil, List.map_append]
          exact dpAll_snoc (dpAll_same (mk_same eA) hacc) h5
    · have hi' : ds.length = i := by omega
      refine .inl ⟨hstop (by rw [List.length_map]; exact hi'), q _ H' (fun b o e => hk b o (fun z => ?_) (e1 _ _ e)) (.lst (xs := acc) (.inl (.inl ?_)) ?_)⟩
      · rw [z] at e; have := e1 _ _ e; rw [hD] at this; cases this
      · rw [mk_at (d1.new hD)]; exact hA
      · rw [← hi', List.take_length] at hacc
        exact dpAll_same or_same hacc
/-- no test -/
theorem et_yes : Et K tYes δ true := fun F σ H _ s Q q => q H (Same.refl H)
theorem ed_lcm {α : Type} {enc : α → PyData} {ds : List α} {wi : TI} {g : TG} {vs js : List Nat} (v : α → PyData) (hw : Wd K wi δ (ds.map enc)) (hn : ds.length ≤ 1000000) (hj : ∀ i ∈ js, i ∈ vs)
    (h : ∀ x ∈ ds, ∃ δ', Gd K g js (wipeD δ vs) (.d (enc x)) δ' ∧ Ed K te δ' (.d (v x))) : Ed K (tLc wi g tYes te vs) δ (.d (.list (ds.map v))) := by
  have z := ed_lc (te := te) (tt := tYes) (fun _ => true) v hw hn hj fun x hx => let ⟨δ', a, b⟩ := h x hx; ⟨δ', a, et_yes, fun _ => b⟩
  rwa [List.filter_eq_self.mpr (fun _ _ => rfl)] at z
/-- two clauses, no test -/
theorem ed_lc2 {α β : Type} {enc : α → PyData} {enc2 : β → PyData} {ds : List α} {wi wi1 : TI} {g g1 : TG} {vs vs1 js js1 : List Nat} (E : α → List β) (v : α → β → PyData) (hw : Wd K wi δ (ds.map enc)) (hn : (ds.flatMap fun x => (E x).map (v x)).length ≤ 1000000) (hj : ∀ i ∈ js, i ∈ vs) (hj1 : ∀ i ∈ js1, i ∈ vs1)
    (h : ∀ x ∈ ds, ∃ δ', Gd K g js (wipeD δ vs) (.d (enc x)) δ' ∧ Wd K wi1 δ' ((E x).map enc2) ∧ ∀ y ∈ E x, ∃ δ1, Gd K g1 js1 (wipeD δ' vs1) (.d (enc2 y)) δ1 ∧ Ed K te δ1 (.d (v x y))) :
    Ed K (tLc2 wi g tYes wi1 g1 tYes te vs vs1) δ (.d (.list (ds.flatMap fun x => (E x).map (v x)))) := fun F σ H d s Q q =>
  hw F σ H d s _ fun J H1 e1 hid D hD => by
    have d1 : Dom F H1 := d.same e1
    have s1 : Sd K (mk F H1) (wipe σ vs) (wipeD δ vs) := sd_wipe (sd_same (mk_same e1) s) vs
    have part : ∀ i : Nat, ((ds.take i).flatMap fun x => (E x).map (v x)).length ≤ (ds.flatMap fun x => (E x).map (v x)).length := fun i => by
      have e := List.take_append_drop i ds
      have : (ds.flatMap fun x => (E x).map (v x)) = ((ds.take i).flatMap fun x => (E x).map (v x)) ++ ((ds.drop i).flatMap fun x => (E x).map (v x)) := by rw [← List.flatMap_append, e]
      rw [this, List.length_append]; omega
    refine ⟨fun i m H' => m = ds.length - i ∧ i ≤ ds.length ∧ ∃ acc, H' D = some (.lst acc) ∧ (∀ b o, b ≠ D → H1 b = some o → H' b = some o) ∧ DpAll K (mk (fun a => F a ∨ a = D) H') acc ((ds.take i).flatMap fun x => (E x).map (v x)),
      ⟨ds.length, rfl, Nat.zero_le _, [], upd_same, fun b o hb e => by rw [upd_ne hb]; exact e, .nil⟩, ?_⟩
    rintro i m H' ⟨rfl, hi, acc, hA, hk, hacc⟩
    have dF := dom_or d1 hA hk
    have sB : Same (mk F H1) (mk (fun a => F a ∨ a = D) H') := same_or hD hk
    obtain ⟨hgo, hstop⟩ := hid _ i H' dF sB
    by_cases hlt : i < ds.length
    · refine .inr ⟨(hgo (enc ds[i]) (by rw [List.getElem?_map, List.getElem?_eq_getElem hlt]; rfl)).1, fun H2 => ∃ acc, H2 D = some (.lst acc) ∧ (∀ b o, b ≠ D → H1 b = some o → H2 b = some o) ∧ DpAll K (mk (fun a => F a ∨ a = D) H2) acc ((ds.take (i + 1)).flatMap fun x => (E x).map (v x)),
        fun H2 h2 => ⟨ds.length - (i + 1), by omega, rfl, hlt, h2⟩, fun u H2 yy => ?_⟩
      obtain ⟨e2, hu⟩ := (hgo (enc ds[i]) (by rw [List.getElem?_map, List.getElem?_eq_getElem hlt]; rfl)).2 u H2 yy
      obtain ⟨δ', hg, hw1, hv⟩ := h ds[i] (List.getElem_mem hlt)
      refine hg _ (wipe σ vs) H2 u _ (dF.same e2) (sd_same (sB.trans (mk_same e2)) s1) hu fun σ2 H3 e3 s3 hl3 ha3 => ⟨?_, ?_⟩
      · rw [wipe_same hl3 fun k hk => ha3 k fun z => hk (hj k z), wipe_wipe]
      · show wi1 σ2 H3 _
        have hlist : ds.take (i + 1) = ds.take i ++ [ds[i]] := by rw [List.take_add_one, List.getElem?_eq_getElem hlt]; rfl
        have hfl : (ds.take (i + 1)).flatMap (fun x => (E x).map (v x)) = ((ds.take i).flatMap fun x => (E x).map (v x)) ++ (E ds[i]).map (v ds[i]) := by
          rw [hlist, List.flatMap_append, List.flatMap_cons, List.flatMap_nil, List.append_nil]
        refine hw1 _ σ2 H3 (dF.same (e2.trans e3)) s3 _ fun J1 H4 e4 hid1 => ?_
        have e24 : Same H' H4 := (e2.trans e3).trans e4
        have s4 := sd_wipe (sd_same (mk_same e4) s3) vs1
        refine ⟨fun j m1 H5 => m1 = (E ds[i]).length - j ∧ j ≤ (E ds[i]).length ∧ ∃ acc, H5 D = some (.lst acc) ∧ (∀ b o, b ≠ D → H4 b = some o → H5 b = some o) ∧ DpAll K (mk (fun a => F a ∨ a = D) H5) acc (((ds.take i).flatMap fun x => (E x).map (v x)) ++ ((E ds[i]).take j).map (v ds[i])),
          ⟨(E ds[i]).length, rfl, Nat.zero_le _, acc, e24 _ _ hA, fun b o _ e => e, by rw [List.take_zero, List.map_nil, List.append_nil]; exact dpAll_same (mk_same e24) hacc⟩, ?_⟩
        rintro j m1 H5 ⟨rfl, hj5, acc5, hA5, hk5, hacc5⟩
        have dF5 : Dom (fun a => F a ∨ a = D) H5 := dom_or d1 hA5 fun b o hb e => hk5 b o hb (e24 _ _ (hk b o hb e))
        have sB5 : Same (mk (fun a => F a ∨ a = D) H4) (mk (fun a => F a ∨ a = D) H5) := fun b o e => by
          by_cases hF : F b ∨ b = D
          · rw [mk_none hF] at e; cases e
          · rw [mk_at hF] at e ⊢
            exact hk5 b o (fun z => hF (.inr z)) e
        obtain ⟨hgo1, hstop1⟩ := hid1 _ j H5 dF5 sB5
        by_cases hlt1 : j < (E ds[i]).length
        · refine .inr ⟨(hgo1 (enc2 (E ds[i])[j]) (by rw [List.getElem?_map, List.getElem?_eq_getElem hlt1]; rfl)).1, fun H6 => ∃ acc, H6 D = some (.lst acc) ∧ (∀ b o, b ≠ D → H4 b = some o → H6 b = some o) ∧ DpAll K (mk (fun a => F a ∨ a = D) H6) acc (((ds.take i).flatMap fun x => (E x).map (v x)) ++ ((E ds[i]).take (j + 1)).map (v ds[i])),
            fun H6 h6 => ⟨(E ds[i]).length - (j + 1), by omega, rfl, hlt1, h6⟩, fun u1 H6 yy1 => ?_⟩
          obtain ⟨e6, hu1⟩ := (hgo1 (enc2 (E ds[i])[j]) (by rw [List.getElem?_map, List.getElem?_eq_getElem hlt1]; rfl)).2 u1 H6 yy1
          obtain ⟨δ1, hg1, hv1⟩ := hv (E ds[i])[j] (List.getElem_mem hlt1)
          refine hg1 _ (wipe σ2 vs1) H6 u1 _ (dF5.same e6) (sd_same (sB5.trans (mk_same e6)) s4) hu1 fun σ7 H7 e7 s7 hl7 ha7 => ⟨?_, ?_⟩
          · rw [wipe_same hl7 fun k hk => ha7 k fun z => hk (hj1 k z), wipe_wipe]
          · show te σ7 H7 _
            refine hv1 _ σ7 H7 (dF5.same (e6.trans e7)) s7 _ fun w H8 e8 h8 => ?_
            have eA : Same H5 H8 := (e6.trans e7).trans e8
            have hlist1 : (E ds[i]).take (j + 1) = (E ds[i]).take j ++ [(E ds[i])[j]] := by rw [List.take_add_one, List.getElem?_eq_getElem hlt1]; rfl
            have hlen : acc5.length ≤ (ds.flatMap fun x => (E x).map (v x)).length := by
              have h1 := part (i + 1)
              rw [hfl, List.length_append, List.length_map] at h1
              rw [dpAll_len hacc5, List.length_append, List.length_map, List.length_take]; omega
            refine ⟨acc5, eA _ _ hA5, szlt _ (by omega), acc5 ++ [w], upd_same, fun b o hb e => by rw [upd_ne hb]; exact eA _ _ (hk5 b o hb e), ?_⟩
            rw [mk_upd, hlist1, List.map_append, ← List.append_assoc]
            exact dpAll_snoc (dpAll_same (mk_same eA) hacc5) h8
        · have hj' : (E ds[i]).length = j := by omega
          refine .inl ⟨hstop1 (by rw [List.length_map]; exact hj'), acc5, hA5, fun b o hb e => hk5 b o hb (e24 _ _ (hk b o hb e)), ?_⟩
          rw [← hj', List.take_length] at hacc5
          rw [hfl]; exact hacc5
    · have hi' : ds.length = i := by omega
      refine .inl ⟨hstop (by rw [List.length_map]; exact hi'), q _ H' (fun b o e => hk b o (fun z => ?_) (e1 _ _ e)) (.lst (xs := acc) (.inl (.inl ?_)) ?_)⟩
      · rw [z] at e; have := e1 _ _ e; rw [hD] at this; cases this
      · rw [mk_at (d1.new hD)]; exact hA
      · rw [← hi', List.take_length] at hacc
        exact dpAll_same or_same hacc
end
end G29
end L2
set_option Elab.async false
set_option linter.all false
set_option maxRecDepth 100000
set_option maxHeartbeats 4000000
/-! The data layer: statements, promises, instances. -/
namespace L2
namespace G29
open PySem PySem.Spec PyProof.Rows
section
variable {K : PySem.W.Frag} {δ δ' δ1 δ2 : De} {x y z : Sl} {ta tb te tc : TE} {tt tu' : TT} {r : R2} {b c : Bool} {s : PyData} {ds es : List PyData} {t u w : TS} {g : TG} {js : List Nat}
/-! ### statements -/
theorem sn_le (h : Sn K t δ δ1) (l : Le δ2 δ1) : Sn K t δ δ2 := fun F D σ H d s q => h F D σ H d s fun σ' H' e s' => q σ' H' e (sd_le l s')
theorem sn_pre (l : Le δ' δ) (h : Sn K t δ' δ1) : Sn K t δ δ1 := fun F D σ H d s q => h F D σ H d (sd_le l s) q
theorem sn_asg (h : Ed K te δ x) (hg : Gd K g js δ x δ') : Sn K (tAsg te g) δ δ' := fun F D σ H d s q => h F σ H d s _ fun v H1 e1 h1 =>
  hg F σ H1 v _ (d.same e1) (sd_same (mk_same e1) s) h1 fun σ' H' e2 s' _ _ => q σ' H' (e1.trans e2) s'
theorem sn_set {i : Nat} (h : Ed K te δ x) : Sn K (tAsg te (gName i)) δ (δ.set i (some x)) := sn_asg h gd_name
theorem sn_par {i j : Nat} {t : TA} (h : Ea K t δ [x, y]) : Sn K (tPar i j t) δ ((δ.set i (some x)).set j (some y)) := fun F D σ H d s q => h F σ H d s _ fun vs H1 e1 h1 => by
  cases h1 with
  | cons a t =>
    cases t with
    | cons b t =>
      cases t
      exact ⟨_, _, rfl, q _ H1 e1 (sd_set (sd_set (sd_same (mk_same e1) s) a) b)⟩
theorem sn_aug {i : Nat} {f : Int → Int → Int} {m n : Int} (hx : δ[i]? = some (some (sI m))) (h : Ed K te δ (sI n)) : Sn K (tAug i te (ipI f)) δ (δ.set i (some (sI (f m n)))) := fun F D σ H d s q => by
  obtain ⟨v, e, hv⟩ := s.2 i _ hx
  cases hv
  exact ⟨_, e, h F σ H d s _ fun u H1 e1 h1 => by cases h1; exact ⟨m, n, rfl, rfl, q _ H1 e1 (sd_set (sd_same (mk_same e1) s) (Dp.int _))⟩⟩
theorem sn_seq (h1 : Sn K t δ δ1) (h2 : Sn K u δ1 δ2) : Sn K (tSeq t u) δ δ2 := fun F D σ H d s q =>
  h1 F { D with nx := u D } σ H d s fun σ' H' e s' => h2 F D σ' H' (d.same e) s' fun σ2 H2 e2 s2 => q σ2 H2 (e.trans e2) s2
theorem sr_seq (h1 : Sn K t δ δ1) (h2 : Sr K u δ1 x) : Sr K (tSeq t u) δ x := fun F D σ H d s q =>
  h1 F { D with nx := u D } σ H d s fun σ' H' e s' => h2 F D σ' H' (d.same e) s' fun v H2 e2 s2 => q v H2 (e.trans e2) s2
theorem sr_early (h : Sr K t δ x) : Sr K (tSeq t u) δ x := fun F D σ H d s q => h F { D with nx := u D } σ H d s q
theorem sr_ret (h : Ed K te δ x) : Sr K (tRet te) δ x := fun F D σ H d s q => h F σ H d s _ q
theorem sn_next : Sn K tNext δ δ := fun F D σ H _ s q => q σ H (Same.refl H) s
theorem sr_if (h : Et K tt δ b) (h1 : b = true → Sr K t δ x) (h2 : b = false → Sr K u δ x) : Sr K (tIfS tt t u) δ x := fun F D σ H d s q => h F σ H d s _ fun H1 e1 => by
  cases b with
  | true => show t D σ H1; exact h1 rfl F D σ H1 (d.same e1) (sd_same (mk_same e1) s) fun v H2 e2 s2 => q v H2 (e1.trans e2) s2
  | false => show u D σ H1; exact h2 rfl F D σ H1 (d.same e1) (sd_same (mk_same e1) s) fun v H2 e2 s2 => q v H2 (e1.trans e2) s2
theorem sn_if (h : Et K tt δ b) (h1 : b = true → Sn K t δ δ') (h2 : b = false → Sn K u δ δ') : Sn K (tIfS tt t u) δ δ' := fun F D σ H d s q => h F σ H d s _ fun H1 e1 => by
  cases b with
  | true => show t D σ H1; exact h1 rfl F D σ H1 (d.same e1) (sd_same (mk_same e1) s) fun v H2 e2 s2 => q v H2 (e1.trans e2) s2
  | false => show u D σ H1; exact h2 rfl F D σ H1 (d.same e1) (sd_same (mk_same e1) s) fun v H2 e2 s2 => q v H2 (e1.trans e2) s2
/-- if c: return .. ; the rest -/
theorem sr_ifs (h : Et K tt δ b) (h1 : b = true → Sr K t δ x) (h2 : b = false → Sr K u δ x) : Sr K (tSeq (tIfS tt t tNext) u) δ x := fun F D σ H d s q => h F σ H d s _ fun H1 e1 => by
  cases b with
  | true => show t { D with nx := u D } σ H1; exact h1 rfl F _ σ H1 (d.same e1) (sd_same (mk_same e1) s) fun v H2 e2 s2 => q v H2 (e1.trans e2) s2
  | false => show u D σ H1; exact h2 rfl F D σ H1 (d.same e1) (sd_same (mk_same e1) s) fun v H2 e2 s2 => q v H2 (e1.trans e2) s2
/-- if c: what is not reached; the rest -/
theorem sn_pass (h : Et K tt δ false) : Sn K (tIfS tt t tNext) δ δ := sn_if h (fun e => by cases e) fun _ => sn_next
theorem sn_drop (h : Ed K te δ x) : Sn K (tDrop te) δ δ := fun F D σ H d s q => h F σ H d s _ fun v H1 e1 _ => q σ H1 e1 (sd_same (mk_same e1) s)
theorem sn_for {wi : TI} (Δ : Nat → De) (hw : Wd K wi (Δ 0) ds) (hs : ∀ (i : Nat) d, ds[i]? = some d → ∃ δ1, Gd K g js (Δ i) (.d d) δ1 ∧ Sn K t δ1 (Δ (i + 1))) : Sn K (tFor wi g t) (Δ 0) (Δ ds.length) := fun F D σ H d s q =>
  hw F σ H d s _ fun J H1 e1 hid => by
    refine ⟨fun i m σ' H' => m = ds.length - i ∧ i ≤ ds.length ∧ Same H1 H' ∧ Sd K (mk F H') σ' (Δ i), ⟨ds.length, rfl, Nat.zero_le _, Same.refl _, sd_same (mk_same e1) s⟩, ?_⟩
    rintro i m σ' H' ⟨rfl, hi, e2, s'⟩
    obtain ⟨hgo, hstop⟩ := hid F i H' (d.same (e1.trans e2)) (mk_same e2)
    by_cases hlt : i < ds.length
    · refine .inr ⟨(hgo ds[i] (List.getElem?_eq_getElem hlt)).1, fun σ3 H3 => Same H1 H3 ∧ Sd K (mk F H3) σ3 (Δ (i + 1)), fun σ3 H3 h3 => ⟨ds.length - (i + 1), by omega, rfl, hlt, h3⟩, fun v H3 yy => ?_⟩
      obtain ⟨e3, hv⟩ := (hgo ds[i] (List.getElem?_eq_getElem hlt)).2 v H3 yy
      obtain ⟨δ1, hg, hb⟩ := hs i ds[i] (List.getElem?_eq_getElem hlt)
      refine hg F σ' H3 v _ (d.same ((e1.trans e2).trans e3)) (sd_same (mk_same e3) s') hv fun σ4 H4 e4 s4 _ _ => ?_
      exact hb F _ σ4 H4 (d.same (((e1.trans e2).trans e3).trans e4)) s4 fun σ5 H5 e5 s5 => ⟨((e2.trans e3).trans e4).trans e5, s5⟩
    · have hi' : ds.length = i := by omega
      refine .inl ⟨hstop hi', q σ' H' (e1.trans e2) ?_⟩
      rw [hi']; exact s'
/-! ### a def's promise -/
def spD (K : PySem.W.Frag) (R : List Sl → Sl → Prop) : Sp := fun vs H Q _ => ∃ (F : FS) (ds : List Sl) (x : Sl), Dom F H ∧ SvAll K (mk F H) vs ds ∧ R ds x ∧ ∀ v H', Same H H' → Sv K (mk F H') v x → Q v H'
theorem pd_of {R : List Sl → Sl → Prop} {ds : List Sl} (h : R ds x) : Pd K (spD K R) ds x := fun F vs H d hv Q E q => ⟨F, ds, x, d, hv, h, q⟩
def startD (N : List Str) (ds : List Sl) : De := ds.map some ++ List.replicate (N.length - ds.length) none
theorem sd_start {H : Hp} {N : List Str} {vs : List V} {ds : List Sl} (h : SvAll K H vs ds) (hl : ds.length ≤ N.length) : Sd K H (start N vs) (startD N ds) := by
  have e := svAll_len h
  refine ⟨?_, fun i x hx => ?_⟩
  · unfold start startD
    rw [List.length_append, List.length_append, List.length_map, List.length_map, List.length_replicate, List.length_replicate, e]
  · unfold startD at hx
    unfold start
    by_cases hi : i < ds.length
    · rw [List.getElem?_append_left (by simpa using hi), List.getElem?_map] at hx
      cases e1 : ds[i]? with
      | none => rw [e1] at hx; cases hx
      | some d =>
        rw [e1] at hx
        cases hx
        obtain ⟨v, hv, hv2⟩ := svAll_get h e1
        refine ⟨v, ?_, hv2⟩
        rw [List.getElem?_append_left (by rw [List.length_map, e]; exact hi), List.getElem?_map, hv]; rfl
    · rw [List.getElem?_append_right (by simpa using hi), List.getElem?_replicate] at hx
      split at hx <;> cases hx
end
section
variable {P : Program} {w : World} {K : PySem.W.Frag} {mg : Str → Option Value} {base : Heap}
/-- a def of the text keeps a promise about data -/
theorem fnD {n qual : Str} {st : Stmt} {f : Addr} {fd : FuncData} {N ps : List Str} {k : Nat} {R : List Sl → Sl → Prop} (F : Fun K n qual st f fd) (S : FnScope N ps (defScope st)) (hl : ∀ ds x, R ds x → ds.length = ps.length)
    (body : ∀ (cdv : Value) (A : Around) (outer : List Env) (s : Shared) (H : Hp) (E : XK), Room k (A.deeper (envOfC qual (defScope st) s.heap.objs.size f cdv)) → ∀ ds x, R ds x →
      ∃ t, PSs (cxOf CX0 P w K mg base N qual (defScope st) f cdv A outer s H E).nox (defBody st) t ∧ Sr K t (startD N ds) x) : FnOk P w K mg base CX0 (k + 1) f fd ps (spD K R) := by
  refine F.ok S (fun vs H Q E h => ?_) (fun cdv A outer s H vs Q E hr h => ?_)
  · obtain ⟨F0, ds, x, _, hv, hR, _⟩ := h
    rw [svAll_len hv]; exact hl ds x hR
  · obtain ⟨F0, ds, x, d, hv, hR, q⟩ := h
    obtain ⟨t, ht, hr⟩ := body cdv A outer s H E hr ds x hR
    have hN : ds.length ≤ N.length := by
      rw [hl ds x hR]
      have := congrArg List.length S.pre
      rw [List.length_take] at this
      omega
    exact ⟨t, ht, hr F0 _ _ H d (sd_start hv hN) q⟩
/-- one that hands back None at its end -/
theorem fnDn {n qual : Str} {st : Stmt} {f : Addr} {fd : FuncData} {N ps : List Str} {k : Nat} {R : List Sl → Prop} (F : Fun K n qual st f fd) (S : FnScope N ps (defScope st)) (hl : ∀ ds, R ds → ds.length = ps.length)
    (body : ∀ (cdv : Value) (A : Around) (outer : List Env) (s : Shared) (H : Hp) (E : XK), Room k (A.deeper (envOfC qual (defScope st) s.heap.objs.size f cdv)) → ∀ ds, R ds →
      ∃ t, PSs (cxOf CX0 P w K mg base N qual (defScope st) f cdv A outer s H E).nox (defBody st) t ∧ ∃ δ', Sn K t (startD N ds) δ') : FnOk P w K mg base CX0 (k + 1) f fd ps (spD K fun ds x => R ds ∧ x = .d .none) := by
  refine F.ok S (fun vs H Q E h => ?_) (fun cdv A outer s H vs Q E hr h => ?_)
  · obtain ⟨F0, ds, x, _, hv, hR, _⟩ := h
    rw [svAll_len hv]; exact hl ds hR.1
  · obtain ⟨F0, ds, x, d, hv, hR, q⟩ := h
    obtain ⟨hR, rfl⟩ := hR
    obtain ⟨t, ht, δ', hr⟩ := body cdv A outer s H E hr ds hR
    have hN : ds.length ≤ N.length := by
      rw [hl ds hR]
      have := congrArg List.length S.pre
      rw [List.length_take] at this
      omega
    exact ⟨t, ht, hr F0 _ _ H d (sd_start hv hN) fun σ' H' e s' => q _ H' e Dp.non⟩
end
/-! ### instances -/
section
variable {K : PySem.W.Frag} {δ δ' : De} {x y z : Sl} {ta te : TE} {C : Addr} {ns : List Str} {ds : List PyData}
theorem ed_fld {f : Str} {i : Nat} {d : PyData} (h : Ed K ta δ (.obj C ns ds)) (c : Cls K C) (n : NoAttr K C f) (hd : ds[i]? = some d) (hlook : ∀ vs : List V, vs.length = ns.length → ∃ v, (ns.zip vs).lookup f = some v ∧ vs[i]? = some v) : Ed K (tFld K ta f) δ (.d d) := fun F σ H d s Q q =>
  h F σ H d s _ fun v H1 e1 h1 => by
    obtain ⟨a, dx, vs, rfl, ha, hv, hl⟩ := h1
    obtain ⟨u, hu, hi⟩ := hlook vs (by rw [dpAll_len hv, hl])
    obtain ⟨d', hd', hdp⟩ := dpAll_at hv hi
    rw [hd] at hd'
    cases hd'
    exact ⟨a, C, dx, _, u, rfl, mk_le _ _ ha, c, n, hu, q u H1 e1 hdp⟩
theorem ed_meth {m : Str} {sp : Sp} {E : XK} {t : TA} {xs : List Sl} (h : Ed K ta δ (.obj C ns ds)) (hm : ∀ vs : List V, (ns.zip vs).lookup m = none) (ht : Ea K t δ xs) (hs : Pd K sp (.obj C ns ds :: xs) z) : Ed K (tMeth C m sp [] E ta t) δ z := fun F σ H d s Q q =>
  h F σ H d s _ fun v H1 e1 h1 => by
    obtain ⟨a, dx, vs, rfl, ha, hv, hl⟩ := id h1
    refine ⟨a, dx, _, rfl, mk_le _ _ ha, hm vs, ht F σ H1 (d.same e1) (sd_same (mk_same e1) s) _ fun ws H2 e2 h2 => ?_⟩
    rw [List.append_nil]
    exact hs F _ H2 (d.same (e1.trans e2)) (.cons (sv_same (x := .obj C ns ds) (mk_same e2) h1) h2) Q E fun u H3 e3 h3 => q u H3 ((e1.trans e2).trans e3) h3
/-- __init__'s promise: from these arguments the attributes ns hold ds -/
def spInit (K : PySem.W.Frag) (C : Addr) (ns : List Str) (R : List Sl → List PyData → Prop) : Sp := fun vs H Q _ => ∃ (F : FS) (p dx : Addr) (ws : List V) (xs : List Sl) (ds : List PyData), vs = .ref p :: ws ∧ H p = some (.ins C dx []) ∧ Dom F H ∧ F p ∧ SvAll K (mk F H) ws xs ∧ R xs ds ∧
  ∀ (us : List V) (H' : Hp), (∀ b o, b ≠ p → H b = some o → H' b = some o) → H' p = some (.ins C dx (ns.zip us)) → DpAll K (mk F H') us ds → Q .non H'
theorem ed_make {R : List Sl → List PyData → Prop} {E : XK} {t : TA} {xs : List Sl} (ht : Ea K t δ xs) (hR : R xs ds) (hl : ns.length = ds.length) : Ed K (tMake C (spInit K C ns R) [] E t) δ (.obj C ns ds) := fun F σ H d s Q q =>
  ht F σ H d s _ fun vs H1 e1 h1 x dx hx hdx hne => by
    rw [List.append_nil]
    have e2 : Same H1 (upd (upd H1 dx (.own x)) x (.ins C dx [])) := fun b o e => by rw [upd_ne (ne_of_none e hx), upd_ne (ne_of_none e hdx)]; exact e
    have d1 := d.same e1
    have nF : ∀ b, F b → b ≠ x := fun b hb z => by rw [z] at hb; exact d1.new hx hb
    have sB : Same (mk F H1) (mk (fun a => F a ∨ a = x) (upd (upd H1 dx (.own x)) x (.ins C dx []))) := fun b o e => by
      by_cases hF : F b
      · rw [mk_none hF] at e; cases e
      · rw [mk_at hF] at e
        rw [mk_at (fun z => z.elim hF (ne_of_none e hx))]
        exact e2 b o e
    refine ⟨fun a => F a ∨ a = x, x, dx, vs, xs, ds, rfl, upd_same, fun a h => ?_, .inr rfl, svAll_same sB h1, hR, fun us H' hk hp hv => ⟨rfl, q _ H' (fun b o e => ?_) ⟨x, dx, us, rfl, ?_, dpAll_same or_same hv, hl⟩⟩⟩
    · rcases h with h | rfl
      · exact (d1.same e2) a h
      · exact ⟨_, upd_same⟩
    · have eb := e1 b o e
      exact hk b o (ne_of_none eb hx) (e2 b o eb)
    · rw [mk_at (d1.new hx)]; exact hp
end
end G29
end L2
set_option Elab.async false
set_option linter.all false
set_option maxRecDepth 100000
set_option maxHeartbeats 4000000
/-! The data layer: isinstance; what the top has written; walked things that are a list or a tuple. -/
namespace L2
namespace G29
open PySem PySem.Spec PyProof.Rows
def tyD : PyData → Option String
  | .none => some "NoneType"
  | .bool _ => some "bool"
  | .int _ => some "int"
  | .str _ => some "str"
  | .list _ => some "list"
  | .tuple _ => some "tuple"
  | .dict _ => none
section
variable {K : PySem.W.Frag} {δ : De} {ta : TE} {b : Bool} {x : PyData} {H : Hp} {v : V}
theorem tyX_of {T : String} (h : Dp K H v x) (t : tyD x = some T) : TyX K H v (.type T) := by
  cases h with
  | non => cases t; exact .base .non
  | bl b => cases t; exact .base (.bl b)
  | int i => cases t; exact .base (.int i)
  | str s => cases t; exact .base (.str s)
  | lst hs ha =>
    cases t
    rcases hs with (h | ⟨o, h⟩) | ⟨o, its, n, h, hc, _⟩
    · exact .base (.lst h)
    · exact .base (.frz h)
    · exact .kList h hc
  | tup hs ha =>
    cases t
    rcases hs with (h | ⟨o, h⟩) | ⟨o, its, n, h, hc, _⟩
    · exact .base (.tup h)
    · exact .fTuple h
    · exact .kTuple h hc
theorem ed_isi {T T' : String} (h : Ed K ta δ (.d x)) (ty : tyD x = some T') (hk : kitB T' T = some b) : Ed K (tCB (rIsi K) (tCons ta (tCons (tC (.ty T)) tNil))) δ (sB b) := fun F σ H d s Q q =>
  h F σ H d s _ fun v H1 e1 h1 => ⟨v, .ty T, .type T', .type T, b, rfl, .ty T, tyX_of (dp_same mk_le h1) ty, kit_ty hk, q _ H1 e1 (Dp.bl b)⟩
/-- what isinstance asks of a class -/
structure IsC (K : PySem.W.Frag) (C : Addr) : Prop where
  cl : Cls K C
  ha : PySem.W.findIn K (.ref C) "__class__" = some (some (.builtin "object.__class__"))
  hn : PySem.W.specialIn K (.builtin "object.__class__") "__get__" = some (some (.builtin "getset_descriptor.__get__"))
  htk : PySem.W.takesIn K (.builtin "object.__class__") = some true
  hm : PySem.W.mroIn K C (.type "object") = some true
theorem ed_isiO {C C' : Addr} {ns : List Str} {ds : List PyData} (h : Ed K ta δ (.obj C ns ds)) (c : IsC K C) (hk : PySem.W.kitOne K (.ref C) (.ref C') = some b) : Ed K (tCB (rIsi K) (tCons ta (tCons (tC (.ref C')) tNil))) δ (sB b) := fun F σ H d s Q q =>
  h F σ H d s _ fun v H1 e1 h1 => by
    obtain ⟨a, dx, vs, rfl, hh, _, _⟩ := h1
    exact ⟨.ref a, .ref C', .ref C, .ref C', b, rfl, .own C', .base (.ins (mk_le _ _ hh) c.cl c.ha c.hn c.htk c.hm), hk, q _ H1 e1 (Dp.bl b)⟩
end
section
variable {X : Cx} {tg l : Expr} {tl : TE}
theorem pi_seq (hl : PE X l tl) : PI X tg l (iSeq X.K tl) := by
  refine ⟨fun pins s σ H R I h => ?_⟩
  refine thn (hl.run pins s σ H _ I h) fun v s1 ⟨x, H1, I1, r1, q1⟩ => ?_
  obtain ⟨a, e, q⟩ := q1
  subst e
  cases r1
  rcases q with ⟨⟨xs, hq⟩, q⟩ | ⟨⟨xs, hq⟩, q⟩
  · obtain ⟨its, rv, p, hz⟩ := I1.list hq
    refine wpAny_pyIter_list p.isList ?_
    refine ⟨s1.heap.objs.size, [s1.heap.objs.size], _, _, H1, rfl, I1.kept (t' := s1.toks) fun b o e => Heap.get?_push_of_some _ e, turn_list a _, ⟨_, Heap.get?_push_size _ rfl, rfl, rfl⟩, fun b hb => ?_, q⟩
    have e : b = s1.heap.objs.size := by simpa using hb
    subst e
    exact I1.fpOk (Nat.le_refl _) (I1.hok.fresh (Nat.le_refl _))
  · obtain ⟨its, rv, p, hz⟩ := I1.tuple hq
    refine wpAny_pyIter_tuple (show s1.heap.IsTuple a its.toArray from p) ?_
    refine ⟨s1.heap.objs.size, [s1.heap.objs.size], _, _, H1, rfl, I1.kept (t' := s1.toks) fun b o e => Heap.get?_push_of_some _ e, turn_tuple a _, ⟨_, Heap.get?_push_size _ rfl, rfl, rfl⟩, fun b hb => ?_, q⟩
    have e : b = s1.heap.objs.size := by simpa using hb
    subst e
    exact I1.fpOk (Nat.le_refl _) (I1.hok.fresh (Nat.le_refl _))
end
/-! ### what the top has written -/
/-- no global of the module hides a built-in that the text calls -/
structure Bl (mg : Str → Option Value) : Prop where
  len : mg "len" = none
  tuple : mg "tuple" = none
  list : mg "list" = none
  sum : mg "sum" = none
  all : mg "all" = none
  any : mg "any" = none
  min : mg "min" = none
  max : mg "max" = none
  isi : mg "isinstance" = none
  int : mg "int" = none
  bool : mg "bool" = none
  range : mg "range" = none
  zip : mg "zip" = none
  sorted : mg "sorted" = none
  lines : ∃ t, mg "MOST_LINES" = some (.int 4 t)
  total : ∃ t, mg "MOST_TOTAL" = some (.int 9 t)
/-- the def x of the text keeps the promise sp, at most k calls deep -/
def Has (P : Program) (w : World) (K : PySem.W.Frag) (mg : Str → Option Value) (base : Heap) (k : Nat) (x : Str) (ps : List Str) (sp : Sp) : Prop :=
  ∃ (f : Addr) (fd : FuncData), FnOk P w K mg base CX0 k f fd ps sp ∧ mg x = some (.ref f) ∧ PySem.W.keepIn K (.ref f) = true ∧ Binds K fd ps []
end G29
end L2
set_option Elab.async false
set_option linter.all false
set_option maxRecDepth 100000
set_option maxHeartbeats 4000000
/-! The data layer: __init__; what the top holds of a class. -/
namespace L2
namespace G29
open PySem PySem.Spec PyProof.Rows
section
variable {K : PySem.W.Frag} {F : FS} {H : Hp}
theorem mk_in {p : Addr} {o : HO} (h : F p) : mk F (upd H p o) = mk F H := by
  funext b
  by_cases hb : F b
  · rw [mk_none hb, mk_none hb]
  · rw [mk_at hb, mk_at hb, upd_ne (fun e => hb (by rw [e]; exact h))]
theorem dom_in {p : Addr} {o : HO} (d : Dom F H) : Dom F (upd H p o) := fun a h => by
  by_cases e : a = p
  · exact ⟨o, by rw [e]; exact upd_same⟩
  · obtain ⟨u, q⟩ := d a h
    exact ⟨u, by rw [upd_ne e]; exact q⟩
/-- a statement of __init__: self's attributes are ns, ds, then ns', ds' -/
def Si (K : PySem.W.Frag) (C : Addr) (t : TS) (δ : De) (ns : List Str) (ds : List PyData) (ns' : List Str) (ds' : List PyData) : Prop :=
  ∀ (F : FS) (p dx : Addr) (us : List V) (D : Ends) (σ : St) (H : Hp), Dom F H → F p → σ[0]? = some (some (.ref p)) → H p = some (.ins C dx (ns.zip us)) → DpAll K (mk F H) us ds → us.length = ns.length → Sd K (mk F H) σ δ →
    (∀ us' H', (∀ b o, b ≠ p → H b = some o → H' b = some o) → H' p = some (.ins C dx (ns'.zip us')) → DpAll K (mk F H') us' ds' → us'.length = ns'.length → Sd K (mk F H') σ δ → D.nx σ H') → t D σ H
theorem putF_zip {f : Str} {y : V} : ∀ {ns : List Str} {us : List V}, us.length = ns.length → f ∉ ns → putF f y (ns.zip us) = (ns ++ [f]).zip (us ++ [y])
  | [], [], _, _ => rfl
  | n :: ns, u :: us, h, hf => by
    have ih := putF_zip (f := f) (y := y) (ns := ns) (us := us) (by simpa using h) fun z => hf (List.mem_cons_of_mem _ z)
    rw [List.zip_cons_cons, putF, if_neg (fun e => hf (by rw [e]; exact List.mem_cons_self)), ih]; rfl
theorem si_fld {C : Addr} {te : TE} {δ : De} {f : Str} {d : PyData} {ns : List Str} {ds : List PyData} (c : Cls K C) (n : NoAttr K C f) (h : Ed K te δ (.d d)) (hf : f ∉ ns) (hl : ns.length < 1000) : Si K C (sFld K (tVar 0) te f) δ ns ds (ns ++ [f]) (ds ++ [d]) :=
  fun F p dx us D σ H dm hp h0 hH hu hul s q => h F σ H dm s _ fun v H1 e1 h1 => by
    refine ⟨_, h0, p, C, dx, _, rfl, e1 _ _ hH, c, n, by rw [List.length_zip]; omega, ?_⟩
    have em : mk F (upd H1 p (.ins C dx (putF f v (ns.zip us)))) = mk F H1 := mk_in hp
    refine q (us ++ [v]) _ (fun b o hb e => by rw [upd_ne hb]; exact e1 _ _ e) ?_ ?_ (by rw [List.length_append, List.length_append, hul]; rfl) ?_
    · rw [upd_same, putF_zip hul hf]
    · rw [em]; exact dpAll_snoc (dpAll_same (mk_same e1) hu) h1
    · rw [em]; exact sd_same (mk_same e1) s
theorem si_seq {C : Addr} {t u : TS} {δ : De} {n1 n2 n3 : List Str} {d1 d2 d3 : List PyData} (h1 : Si K C t δ n1 d1 n2 d2) (h2 : Si K C u δ n2 d2 n3 d3) : Si K C (tSeq t u) δ n1 d1 n3 d3 :=
  fun F p dx us D σ H dm hp h0 hH hu hul s q => h1 F p dx us { D with nx := u D } σ H dm hp h0 hH hu hul s fun us' H' k1 hp' hu' hul' s' =>
    h2 F p dx us' D σ H' (fun a ha => by
      by_cases e : a = p
      · exact ⟨_, by rw [e]; exact hp'⟩
      · obtain ⟨o, q⟩ := dm a ha
        exact ⟨o, k1 a o e q⟩) hp h0 hp' hu' hul' s' fun us2 H2 k2 hp2 hu2 hul2 s2 => q us2 H2 (fun b o hb e => k2 b o hb (k1 b o hb e)) hp2 hu2 hul2 s2
def startI (N : List Str) (xs : List Sl) : De := none :: (xs.map some ++ List.replicate (N.length - xs.length - 1) none)
theorem sd_startI {N : List Str} {p : Addr} {ws : List V} {xs : List Sl} (h : SvAll K H ws xs) (hl : xs.length + 1 ≤ N.length) : Sd K H (start N (.ref p :: ws)) (startI N xs) := by
  have e := svAll_len h
  refine ⟨?_, fun i x hx => ?_⟩
  · unfold start startI
    rw [List.length_append, List.length_map, List.length_cons, List.length_cons, List.length_append, List.length_map, List.length_replicate, List.length_replicate, e]
    omega
  · unfold startI at hx
    unfold start
    cases i with
    | zero => cases hx
    | succ i =>
      rw [List.getElem?_cons_succ] at hx
      by_cases hi : i < xs.length
      · rw [List.getElem?_append_left (by simpa using hi), List.getElem?_map] at hx
        cases e1 : xs[i]? with
        | none => rw [e1] at hx; cases hx
        | some d =>
          rw [e1] at hx
          cases hx
          obtain ⟨v, hv, hv2⟩ := svAll_get h e1
          refine ⟨v, ?_, hv2⟩
          rw [List.map_cons, List.cons_append, List.getElem?_cons_succ, List.getElem?_append_left (by rw [List.length_map, e]; exact hi), List.getElem?_map, hv]; rfl
      · rw [List.getElem?_append_right (by simpa using hi), List.getElem?_replicate] at hx
        split at hx <;> cases hx
end
section
variable {P : Program} {w : World} {K : PySem.W.Frag} {mg : Str → Option Value} {base : Heap}
/-- an __init__ keeps its promise -/
theorem fnInit {n qual : Str} {st : Stmt} {f : Addr} {fd : FuncData} {N ps : List Str} {k : Nat} {C : Addr} {ns : List Str} {R : List Sl → List PyData → Prop} (F : Fun K n qual st f fd) (S : FnScope N ps (defScope st)) (hl : ∀ xs ds, R xs ds → xs.length + 1 = ps.length)
    (body : ∀ (cdv : Value) (A : Around) (outer : List Env) (s : Shared) (H : Hp) (E : XK), Room k (A.deeper (envOfC qual (defScope st) s.heap.objs.size f cdv)) → ∀ xs ds, R xs ds →
      ∃ t, PSs (cxOf CX0 P w K mg base N qual (defScope st) f cdv A outer s H E).nox (defBody st) t ∧ Si K C t (startI N xs) [] [] ns ds) : FnOk P w K mg base CX0 (k + 1) f fd ps (spInit K C ns R) := by
  refine F.ok S (fun vs H Q E h => ?_) (fun cdv A outer s H vs Q E hr h => ?_)
  · obtain ⟨F0, p, dx, ws, xs, ds, rfl, _, _, _, hv, hR, _⟩ := h
    rw [List.length_cons, svAll_len hv]; exact hl xs ds hR
  · obtain ⟨F0, p, dx, ws, xs, ds, rfl, hp, d, hF, hv, hR, q⟩ := h
    obtain ⟨t, ht, hr⟩ := body cdv A outer s H E hr xs ds hR
    have hN : xs.length + 1 ≤ N.length := by
      rw [hl xs ds hR]
      have := congrArg List.length S.pre
      rw [List.length_take] at this
      omega
    exact ⟨t, ht, hr F0 p dx [] _ _ H d hF rfl hp .nil rfl (sd_startI hv hN) fun us' H' k1 hp' hu' _ _ => q us' H' k1 hp' hu'⟩
/-- what the top holds of the class x -/
structure ClsF (K : PySem.W.Frag) (mg : Str → Option Value) (x : Str) (C : Addr) : Prop where
  g : mg x = some (.ref C)
  cl : Cls K C
  isc : IsC K C
/-- .. its __init__ -/
def HInit (P : Program) (w : World) (K : PySem.W.Frag) (mg : Str → Option Value) (base : Heap) (k : Nat) (C : Addr) (ps ns : List Str) (R : List Sl → List PyData → Prop) : Prop :=
  ∃ (f : Addr) (fd : FuncData), FnOk P w K mg base CX0 k f fd ps (spInit K C ns R) ∧ Mk K C f ∧ Binds K fd ps []
/-- .. a method -/
def HMeth (P : Program) (w : World) (K : PySem.W.Frag) (mg : Str → Option Value) (base : Heap) (k : Nat) (C : Addr) (m : Str) (ps : List Str) (sp : Sp) : Prop :=
  ∃ (f : Addr) (fd : FuncData), FnOk P w K mg base CX0 k f fd ps sp ∧ Meth K C m f ∧ Binds K fd ps []
end
end G29
end L2
set_option Elab.async false
set_option linter.all false
set_option maxRecDepth 100000
set_option maxHeartbeats 4000000
/-! Where something changes: the loop at the heap; the dict of known counts. -/
namespace L2
namespace G29
open PySem PySem.Spec PyProof.Rows
/-- all but M stays -/
def But (M : FS) (H H' : Hp) : Prop := ∀ b o, ¬ M b → H b = some o → H' b = some o
section
variable {M M' F : FS} {H H' H1 H2 : Hp} {K : PySem.W.Frag} {σ : St} {δ : De}
theorem But.of (e : Same H H') : But M H H' := fun b o _ h => e b o h
theorem But.trans (e : But M H H1) (e2 : But M H1 H2) : But M H H2 := fun b o n h => e2 b o n (e b o n h)
theorem But.mono (h : ∀ b, M b → M' b) (e : But M H H') : But M' H H' := fun b o n q => e b o (fun z => n (h b z)) q
theorem but_upd {a : Addr} {o : HO} (h : M a) : But M H (upd H a o) := fun b u n e => by rw [upd_ne (fun z => n (by rw [z]; exact h))]; exact e
theorem but_mk (hM : ∀ b, M b → F b) (e : But M H H') : Same (mk F H) (mk F H') := fun b o q => by
  by_cases h : F b
  · rw [mk_none h] at q; cases q
  · rw [mk_at h] at q ⊢
    exact e b o (fun z => h (hM b z)) q
theorem dom_but (d : Dom F H) (e : But M H H') (hM : ∀ b, M b → ∃ o, H' b = some o) : Dom F H' := fun a h => by
  by_cases z : M a
  · exact hM a z
  · obtain ⟨o, q⟩ := d a h
    exact ⟨o, e a o z q⟩
theorem same_of_but (e : But M H H') (h : ∀ b, M b → H b = none) : Same H H' := fun b o q => e b o (fun z => by have := h b z; rw [this] at q; cases q) q
theorem sd_any {i : Nat} {v : V} (h : Sd K H σ δ) : Sd K H (σ.set i (some v)) (δ.set i none) := by
  refine ⟨by rw [List.length_set, List.length_set]; exact h.1, fun j y hy => ?_⟩
  by_cases hj : i = j
  · subst hj
    have hi : i < δ.length := by
      have := (List.getElem?_eq_some_iff.mp hy).1
      rwa [List.length_set] at this
    rw [List.getElem?_set_self hi] at hy
    cases hy
  · rw [List.getElem?_set_ne hj] at hy ⊢
    exact h.2 j y hy
theorem for_at {α : Type} {enc : α → PyData} {ds : List α} {wi : TI} {g : TG} {tb : TS} {D : Ends} (hw : Wd K wi δ (ds.map enc)) (dm : Dom F H) (s : Sd K (mk F H) σ δ)
    (k : ∀ H1, Same H H1 → ∃ Pv : Nat → St → Hp → Prop, Pv 0 σ H1 ∧ (∀ i σ' H', Pv i σ' H' → Dom F H' ∧ Same (mk F H1) (mk F H')) ∧
      (∀ i a σ' H' v H2, ds[i]? = some a → Pv i σ' H' → Same H' H2 → Dp K (mk F H2) v (enc a) → g v σ' H2 fun σ2 H3 => tb { D with nx := Pv (i + 1), ct := Pv (i + 1), bk := D.nx } σ2 H3) ∧ (∀ σ' H', Pv ds.length σ' H' → D.nx σ' H')) : tFor wi g tb D σ H :=
  hw F σ H dm s _ fun J H1 e1 hid => by
    obtain ⟨Pv, h0, hi, hs, hd⟩ := k H1 e1
    refine ⟨fun i m σ' H' => m = ds.length - i ∧ i ≤ ds.length ∧ Pv i σ' H', ⟨ds.length, rfl, Nat.zero_le _, h0⟩, ?_⟩
    rintro i m σ' H' ⟨rfl, hil, p⟩
    obtain ⟨d1, e2⟩ := hi i σ' H' p
    obtain ⟨hgo, hstop⟩ := hid F i H' d1 e2
    by_cases hlt : i < ds.length
    · have hdi : (ds.map enc)[i]? = some (enc ds[i]) := by rw [List.getElem?_map, List.getElem?_eq_getElem hlt]; rfl
      refine .inr ⟨(hgo _ hdi).1, Pv (i + 1), fun σ3 H3 h3 => ⟨ds.length - (i + 1), by omega, rfl, hlt, h3⟩, fun v H3 yy => ?_⟩
      obtain ⟨e3, hv⟩ := (hgo _ hdi).2 v H3 yy
      exact hs i ds[i] σ' H' v H3 (List.getElem?_eq_getElem hlt) p e3 hv
    · have hi' : ds.length = i := by omega
      refine .inl ⟨hstop (by rw [List.length_map]; exact hi'), hd σ' H' ?_⟩
      rw [hi']; exact p
end
/-! ### peeling -/
section
variable {n c b : St → Hp → Prop} {rt : VK} {D : Ends} {σ : St} {H : Hp} {Q : VK} {tc : TT} {t u v : TS} {te ta tb to ti : TE} {tr : TA}
theorem tNext_of (h : n σ H) : tNext { nx := n, rt := rt, bk := b, ct := c } σ H := h
theorem nx_of (h : n σ H) : Ends.nx { nx := n, rt := rt, bk := b, ct := c } σ H := h
theorem tIf_at (h : tc σ H fun b H1 => if b = true then t { D with nx := v D } σ H1 else u { D with nx := v D } σ H1) : tSeq (tIfS tc t u) v D σ H := h
theorem tIf_at1 (h : tc σ H fun b H1 => if b = true then t D σ H1 else u D σ H1) : tIfS tc t u D σ H := h
theorem tSeq_at (h : t { D with nx := u D } σ H) : tSeq t u D σ H := h
theorem tTest_at {Q : Bool → Hp → Prop} (h : te σ H fun x H' => ∃ k, x = .bl k ∧ Q k H') : tTest te σ H Q := h
theorem tNot_at {Q : Bool → Hp → Prop} (h : tc σ H fun c H1 => Q (!c) H1) : tNot tc σ H Q := h
theorem tB_at {Q : Bool → Hp → Prop} (h : te σ H fun x H' => ∃ k, x = .bl k ∧ Q k H') : tB te σ H Q := h
theorem tOp_at {r : R2} (h : ta σ H fun x H1 => tb σ H1 fun y H2 => r x y H2 Q) : tOp r ta tb σ H Q := h
theorem tAsg_at {g : TG} (h : te σ H fun x H1 => g x σ H1 D.nx) : tAsg te g D σ H := h
theorem tRet_at (h : te σ H D.rt) : tRet te D σ H := h
theorem tDrop_at (h : te σ H fun _ H1 => D.nx σ H1) : tDrop te D σ H := h
theorem tCons_at {Q : List V → Hp → Prop} (h : ta σ H fun x H1 => tr σ H1 fun xs H2 => Q (x :: xs) H2) : tCons ta tr σ H Q := h
theorem tCall_at {sp : Sp} {dvs : List V} {E : XK} (h : tr σ H fun vs H1 => sp (vs ++ dvs) H1 Q E) : tCall sp dvs E tr σ H Q := h
theorem tCB_at {r : List V → Hp → VK → Prop} (h : tr σ H fun vs H1 => r vs H1 Q) : tCB r tr σ H Q := h
theorem gSub_at {ts : TSet} {x : V} {Q : St → Hp → Prop} (h : to σ H fun o H1 => ti σ H1 fun i H2 => ts o i x H2 fun H3 => Q σ H3) : gSub to ti ts x σ H Q := h
theorem tPar_at {i j : Nat} (h : tr σ H fun vs H1 => ∃ v w, vs = [v, w] ∧ D.nx ((σ.set i (some v)).set j (some w)) H1) : tPar i j tr D σ H := h
theorem tAug_at {i : Nat} {tip : TIp} {x : V} (hx : σ[i]? = some (some x)) (h : te σ H fun y H1 => tip x y H1 fun z H2 => D.nx (σ.set i (some z)) H2) : tAug i te tip D σ H := ⟨x, hx, h⟩
theorem tVar_at {i : Nat} {x : V} (hx : σ[i]? = some (some x)) (h : Q x H) : tVar i σ H Q := ⟨x, hx, h⟩
theorem tPar3_at {i j l : Nat} (h : tr σ H fun vs H1 => ∃ u v w, vs = [u, v, w] ∧ D.nx (((σ.set i (some u)).set j (some v)).set l (some w)) H1) : tPar3 i j l tr D σ H := h
theorem tBM_at {K : PySem.W.Frag} {T : String} {r : V → List V → Hp → VK → Prop} (h : to σ H fun x H1 => tyV K T x H1 ∧ tr σ H1 fun vs H2 => r x vs H2 Q) : tBM K T r to tr σ H Q := h
theorem tLst_at (h : tr σ H fun xs H1 => xs.length ≤ sizeLine ∧ ∀ p, H1 p = none → Q (.ref p) (upd H1 p (.lst xs))) : tLst tr σ H Q := h
theorem tWhile_at (h : ∃ W : Nat → St → Hp → Prop, (∃ m, W m σ H) ∧ ∀ m σ H, W m σ H → tc σ H fun b H1 => if b = true then ∃ N : St → Hp → Prop, (∀ σ' H', N σ' H' → ∃ m', m' < m ∧ W m' σ' H') ∧ t { D with nx := N, ct := N, bk := D.nx } σ H1 else D.nx σ H1) : tWhile tc t D σ H := h
theorem tC_at {x : V} (h : Q x H) : tC x σ H Q := h
theorem if_t {p q : Prop} (h : p) : if true = true then p else q := h
theorem if_f {p q : Prop} (h : q) : if false = true then p else q := h
end
/-! ### known counts -/
theorem num_inj : ∀ {a b : List Int}, a.map NestedKey.num = b.map NestedKey.num → a = b
  | [], [], _ => rfl
  | [], _ :: _, h => by cases h
  | _ :: _, [], h => by cases h
  | x :: a, y :: b, h => by
    rw [List.map_cons, List.map_cons] at h
    injection h with h1 h2
    injection h1 with h1
    rw [h1, num_inj h2]
theorem keyN_inj {r l r' l' : List Int} (h : keyN r l = keyN r' l') : r = r' ∧ l = l' := by
  unfold keyN at h
  injection h with h
  injection h with h1 h2
  injection h2 with h2 _
  injection h1 with h1
  injection h2 with h2
  exact ⟨num_inj h1, num_inj h2⟩
/-- the lists of n numbers from 0 to 9 -/
def vecs : Nat → List (List Int)
  | 0 => [[]]
  | n + 1 => (List.range 10).flatMap fun (x : Nat) => (vecs n).map fun l => (x : Int) :: l
theorem vecs_len : ∀ n, (vecs n).length = 10 ^ n
  | 0 => rfl
  | n + 1 => by
    unfold vecs
    have h : ∀ l : List Nat, (l.flatMap fun (x : Nat) => (vecs n).map fun l => (x : Int) :: l).length = l.length * 10 ^ n := fun l => by
      induction l with
      | nil => simp
      | cons x l ih => rw [List.flatMap_cons, List.length_append, ih, List.length_map, vecs_len n, List.length_cons, Nat.succ_mul, Nat.add_comm]
    rw [h, List.length_range, Nat.pow_succ, Nat.mul_comm]
theorem vecs_mem : ∀ {l : List Int}, (∀ x ∈ l, 0 ≤ x ∧ x ≤ 9) → l ∈ vecs l.length
  | [], _ => List.mem_singleton.mpr rfl
  | x :: l, h => by
    have hx := h x List.mem_cons_self
    refine List.mem_flatMap.mpr ⟨x.toNat, List.mem_range.mpr (by omega), List.mem_map.mpr ⟨l, vecs_mem fun y hy => h y (List.mem_cons_of_mem _ hy), ?_⟩⟩
    rw [Int.toNat_of_nonneg hx.1]
structure Alw (R0 : List Int) (n : Nat) (r l : List Int) : Prop where
  suf : ∃ i, i ≤ R0.length ∧ r = R0.drop i
  len : l.length = n
  rng : ∀ x ∈ l, 0 ≤ x ∧ x ≤ 9
def allKeys (R0 : List Int) (n : Nat) : List NestedKey := (List.range (R0.length + 1)).flatMap fun i => (vecs n).map fun l => keyN (R0.drop i) l
theorem allKeys_len {R0 : List Int} {n : Nat} (h : R0.length ≤ 4) (hn : n ≤ 4) : (allKeys R0 n).length ≤ 50000 := by
  unfold allKeys
  have h2 : ∀ l : List Nat, (l.flatMap fun i => (vecs n).map fun l => keyN (R0.drop i) l).length = l.length * 10 ^ n := fun l => by
    induction l with
    | nil => simp
    | cons x l ih => rw [List.flatMap_cons, List.length_append, ih, List.length_map, vecs_len n, List.length_cons, Nat.succ_mul, Nat.add_comm]
  rw [h2, List.length_range]
  have : 10 ^ n ≤ 10 ^ 4 := Nat.pow_le_pow_right (by decide) hn
  calc (R0.length + 1) * 10 ^ n ≤ 5 * 10 ^ 4 := Nat.mul_le_mul (by omega) this
    _ = 50000 := by decide
theorem allKeys_mem {R0 : List Int} {n : Nat} {r l : List Int} (h : Alw R0 n r l) : keyN r l ∈ allKeys R0 n := by
  obtain ⟨i, hi, rfl⟩ := h.suf
  refine List.mem_flatMap.mpr ⟨i, List.mem_range.mpr (by omega), List.mem_map.mpr ⟨l, ?_, rfl⟩⟩
  rw [← h.len]; exact vecs_mem h.rng
structure KnP (P : Program) (w : World) (K : PySem.W.Frag) (F : FS) (R0 : List Int) (n : Nat) (H : Hp) (d : Addr) (ks : NK) : Prop where
  at_ : H d = some (DicN P w d ks)
  sys : (d == sysModules) = false
  nd : (ks.map (·.1)).Nodup
  ok : ∀ k ∈ ks, ∃ r l, k.1 = keyN r l ∧ Dp K (mk F H) (.ref k.2.1) (keyD r l) ∧ k.2.2 = Gm.ways r l ∧ Alw R0 n r l
def Kn (P : Program) (w : World) (K : PySem.W.Frag) (F : FS) (R0 : List Int) (n : Nat) (H : Hp) (d : Addr) : Prop := ∃ ks, KnP P w K F R0 n H d ks
section
variable {P : Program} {w : World} {K : PySem.W.Frag} {F : FS} {R0 : List Int} {n : Nat} {H H' : Hp} {d : Addr} {ks : NK}
theorem KnP.ksOk (k : KnP P w K F R0 n H d ks) : KsOk K H ks := ⟨fun x hx => let ⟨r, l, h1, h2, _⟩ := k.ok x hx; ⟨r, l, h1, dp_same mk_le h2⟩, k.nd⟩
theorem KnP.same (k : KnP P w K F R0 n H d ks) (e : Same H H') : KnP P w K F R0 n H' d ks := ⟨e _ _ k.at_, k.sys, k.nd, fun x hx => let ⟨r, l, h1, h2, h3⟩ := k.ok x hx; ⟨r, l, h1, dp_same (mk_same e) h2, h3⟩⟩
theorem Kn.same (k : Kn P w K F R0 n H d) (e : Same H H') : Kn P w K F R0 n H' d := let ⟨ks, h⟩ := k; ⟨ks, h.same e⟩
theorem KnP.small (k : KnP P w K F R0 n H d ks) (h : R0.length ≤ 4) (hn : n ≤ 4) : ks.length ≤ 50000 := by
  have h1 := Gm.nodup_le (b := allKeys R0 n) k.nd fun x hx => by
    obtain ⟨q, hq, rfl⟩ := List.mem_map.mp hx
    obtain ⟨r, l, e, _, _, a⟩ := k.ok q hq
    rw [e]; exact allKeys_mem a
  rw [List.length_map] at h1
  exact Nat.le_trans h1 (allKeys_len h hn)
theorem KnP.val (k : KnP P w K F R0 n H d ks) {r l : List Int} {v : Int} (h : valN ks (keyN r l) = some v) : v = Gm.ways r l := by
  unfold valN at h
  obtain ⟨x, hx, rfl⟩ := Option.map_eq_some_iff.mp h
  have h1 := List.mem_of_find?_eq_some hx
  have h2 : x.1 = keyN r l := of_decide_eq_true (List.find?_some (p := fun x : NestedKey × Addr × Int => decide (x.1 = keyN r l)) hx)
  obtain ⟨r', l', e, _, e2, _⟩ := k.ok x h1
  obtain ⟨rfl, rfl⟩ := keyN_inj (h2.symm.trans e)
  exact e2
theorem valN_some {ks : NK} {k : NestedKey} : (valN ks k).isSome = true ↔ k ∈ ks.map (·.1) := by
  unfold valN
  rw [Option.isSome_map, List.find?_isSome]
  constructor
  · rintro ⟨x, hx, h⟩; exact List.mem_map.mpr ⟨x, hx, of_decide_eq_true h⟩
  · intro h
    obtain ⟨x, hx, rfl⟩ := List.mem_map.mp h
    exact ⟨x, hx, decide_eq_true rfl⟩
theorem storeN_keys {ks : NK} {k : NestedKey} {b : Addr} {z : Int} : (storeN ks k b z).map (·.1) = if (valN ks k).isSome then ks.map (·.1) else ks.map (·.1) ++ [k] := by
  unfold storeN
  split
  · rw [List.map_map]; congr 1; funext x
    show (putN k z x).1 = x.1
    unfold putN; split <;> rfl
  · rw [List.map_append]; rfl
/-- known[rows, left] = the count -/
theorem KnP.store (k : KnP P w K F R0 n H d ks) (hF : F d) {r l : List Int} {b : Addr} {z : Int} (hb : Dp K (L2.G29.mk F H) (.ref b) (keyD r l)) (hz : z = Gm.ways r l) (a : Alw R0 n r l) :
    KnP P w K F R0 n (upd H d (DicN P w d (storeN ks (keyN r l) b z))) d (storeN ks (keyN r l) b z) ∧ (valN (storeN ks (keyN r l) b z) (keyN r l)).isSome = true := by
  have hk := storeN_keys (ks := ks) (k := keyN r l) (b := b) (z := z)
  refine ⟨⟨upd_same, k.sys, ?_, fun x hx => ?_⟩, ?_⟩
  · rw [hk]
    split
    · exact k.nd
    · rename_i h
      refine List.nodup_append.mpr ⟨k.nd, by simp, fun x hx y hy e => ?_⟩
      have hy' := List.mem_singleton.mp hy
      subst hy'
      subst e
      exact h (valN_some.mpr hx)
  · rw [mk_in hF]
    unfold storeN at hx
    split at hx
    · obtain ⟨y, hy, rfl⟩ := List.mem_map.mp hx
      obtain ⟨r', l', h1, h2, h3, h4⟩ := k.ok y hy
      unfold putN
      split
      · rename_i e
        obtain ⟨rfl, rfl⟩ := keyN_inj (e.symm.trans h1)
        exact ⟨r, l, h1, h2, hz, h4⟩
      · exact ⟨r', l', h1, h2, h3, h4⟩
    · rcases List.mem_append.mp hx with hx | hx
      · exact k.ok x hx
      · have := List.mem_singleton.mp hx
        subst this
        exact ⟨r, l, rfl, hb, hz, a⟩
  · rw [valN_some, hk]
    split
    · rename_i h; exact valN_some.mp h
    · exact List.mem_append_right _ (List.mem_singleton.mpr rfl)
end
/-- the promise of the def that counts: at most m rows -/
def spW (P : Program) (w : World) (K : PySem.W.Frag) (m : Nat) : Sp := fun vs H Q _ => ∃ (F : FS) (d : Addr) (rows left R0 : List Int) (n : Nat) (v1 v2 : V), vs = [v1, v2, .ref d] ∧ Dom F H ∧ F d ∧ Kn P w K F R0 n H d ∧ SvAll K (mk F H) [v1, v2] [sT rows, sT left] ∧
  Alw R0 n rows left ∧ R0.length ≤ 4 ∧ n ≤ 4 ∧ Gm.NN R0 ∧ rows.length ≤ m ∧ ∀ H', But (fun a => a = d) H H' → Kn P w K F R0 n H' d → Q (.int (Gm.ways rows left)) H'
end G29
end L2
set_option Elab.async false
set_option linter.all false
set_option maxRecDepth 100000
set_option maxHeartbeats 4000000
/-! The defs, one by one: checks. -/
namespace L2
namespace G29
open PySem PySem.Spec PyProof.Rows
def topS (i : Nat) : Stmt := PySem.Challenge.pw_bucketsums_k29_whole_grids_great.main.body.getD i (.Pass ⟨0, 0, 0, 0⟩)
abbrev sIsNumber : Stmt := topS 6
abbrev sAreTotals : Stmt := topS 13
abbrev sCheckTotals : Stmt := topS 14
abbrev sIsLines : Stmt := topS 15
abbrev sCheckBox : Stmt := topS 16
theorem scIsNumber : FnScope ["thing", "least", "most"] ["thing", "least", "most"] (defScope sIsNumber) := ⟨rfl, rfl, rfl, by decide +kernel, rfl, by decide +kernel, by decide +kernel⟩
theorem scAreTotals : FnScope ["thing", "total"] ["thing"] (defScope sAreTotals) := ⟨rfl, rfl, rfl, by decide +kernel, rfl, by decide +kernel, by decide +kernel⟩
theorem scCheckTotals : FnScope ["rows", "columns"] ["rows", "columns"] (defScope sCheckTotals) := ⟨rfl, rfl, rfl, by decide +kernel, rfl, by decide +kernel, by decide +kernel⟩
theorem scIsLines : FnScope ["thing", "many", "at", "one", "other"] ["thing", "many"] (defScope sIsLines) := ⟨rfl, rfl, rfl, by decide +kernel, rfl, by decide +kernel, by decide +kernel⟩
theorem scCheckBox : FnScope ["rows", "columns", "some", "others"] ["rows", "columns", "some", "others"] (defScope sCheckBox) := ⟨rfl, rfl, rfl, by decide +kernel, rfl, by decide +kernel, by decide +kernel⟩
/-- totals; lines -/
def Tot (ns : List Int) : Prop := 1 ≤ ns.length ∧ ns.length ≤ 4 ∧ ∀ n ∈ ns, 0 ≤ n ∧ n ≤ 9
def Tots (rows cols : List Int) : Prop := Tot rows ∧ Tot cols ∧ rows.sum = cols.sum
def Lines (xs : List Int) (m : Nat) : Prop := (∀ x ∈ xs, 0 ≤ x ∧ x < (m : Int)) ∧ xs.Pairwise (· < ·) ∧ xs.length ≤ 1000
section
variable {P : Program} {w : World} {K : PySem.W.Frag} {mg : Str → Option Value} {base : Heap}
/-! ### is_number -/
def rIsNumber : List Sl → Sl → Prop := fun ds x => ∃ i a b : Int, ds = [sI i, sI a, sI b] ∧ x = sB (decide (a ≤ i) && decide (i ≤ b))
theorem ok_isNumber {f : Addr} {fd : FuncData} (F : Fun K "is_number" "is_number" sIsNumber f fd) (B : Bl mg) : FnOk P w K mg base CX0 1 f fd ["thing", "least", "most"] (spD K rIsNumber) := by
  refine fnD F scIsNumber (fun ds x h => ?_) fun cdv A outer s H E hr ds x h => ?_
  · obtain ⟨i, a, b, rfl, _⟩ := h; rfl
  obtain ⟨i, a, b, rfl, rfl⟩ := h
  refine ⟨_, pss_one (ps_ret (pe_and (pe_callB call_isi (by rfl) B.isi (by decide +kernel) (pa_cons (pv 0) (pa_cons (pe_bltn (v := .ty "int") (by rfl) B.int (by decide +kernel) rfl) pa_nil)))
    (pe_and (pe_not (pe_callB call_isi (by rfl) B.isi (by decide +kernel) (pa_cons (pv 0) (pa_cons (pe_bltn (v := .ty "bool") (by rfl) B.bool (by decide +kernel) rfl) pa_nil))))
    (pe_one (pe_chain op_le op_le (pv 1) (pv 0) (pv 2)))))), ?_⟩
  refine sr_ret (ed_is (ed_andV (b := true) (ed_isi (ed_var rfl) rfl (by decide +kernel)) fun _ => ed_andV (b := true) (ed_notV (b := false) (ed_isi (ed_var rfl) rfl (by decide +kernel))) fun _ => ed_chain (ed_var rfl) (ed_var rfl) (ed_var rfl) od_B0 od_B0) ?_)
  rfl
abbrev HIsNumber (P : Program) (w : World) (K : PySem.W.Frag) (mg : Str → Option Value) (base : Heap) : Prop := Has P w K mg base 1 "is_number" ["thing", "least", "most"] (spD K rIsNumber)
/-! ### are_totals -/
def rAreTotals : List Sl → Sl → Prop := fun ds x => ∃ ns : List Int, ds = [sT ns] ∧ Tot ns ∧ x = sB true
theorem all_true {α : Type} {f : α → Bool} {l : List α} (h : ∀ a ∈ l, f a = true) : (l.map f).all id = true := by
  rw [List.all_eq_true]
  intro b hb
  obtain ⟨a, ha, rfl⟩ := List.mem_map.mp hb
  exact h a ha
theorem ok_areTotals {f : Addr} {fd : FuncData} (F : Fun K "are_totals" "are_totals" sAreTotals f fd) (B : Bl mg) (HN : HIsNumber P w K mg base) : FnOk P w K mg base CX0 2 f fd ["thing"] (spD K rAreTotals) := by
  obtain ⟨f1, fd1, G1, m1, k1, b1⟩ := HN
  obtain ⟨tL, mL⟩ := B.lines
  obtain ⟨tT, mT⟩ := B.total
  refine fnD F scAreTotals (fun ds x h => ?_) fun cdv A outer s H E hr ds x h => ?_
  · obtain ⟨ns, rfl, _⟩ := h; rfl
  obtain ⟨ns, rfl, ⟨h1, h2, h3⟩, rfl⟩ := h
  refine ⟨_, pss_cons (ps_if (PW.pt (pw_or (pt_not (pt_val (pe_callB call_isi (by rfl) B.isi (by decide +kernel) (pa_cons (pv 0) (pa_cons (pe_bltn (v := .ty "tuple") (by rfl) B.tuple (by decide +kernel) rfl) pa_nil)))))
      (pw_or1 (pt_not (pt_chain op_le op_le pe_int (pe_callB call_len_seq (by rfl) B.len PySem.boot_len (pa_cons (pv 0) pa_nil)) (pe_glob (v := .int 4) (by rfl) mL ⟨_, rfl⟩)))))) (pss_one (ps_ret pe_bl)) pss_nil)
    (pss_one (ps_ret (pe_callB (cr_all rfl) (by rfl) B.all (by decide +kernel) (pa_cons (pe_lc (own := [("total", 1)]) (g := gName 1) (tt := tYes) rfl scAreTotals.nd (pi_tup (pv 0)) (blkOk_by (by kernel_rfl))
      (fun _ _ _ _ _ => pg_name (i := 1) scAreTotals.nd rfl (Or.inl rfl)) (fun _ _ _ _ _ => pts_nil)
      (fun _ _ _ _ _ => pe_call G1 hr (by rfl) m1 k1 b1 .nil pass0 (pa_cons (pv 1) (pa_cons pe_int (pa_cons (pe_glob (v := .int 9) (by rfl) mT ⟨_, rfl⟩) pa_nil))))) pa_nil)))), ?_⟩
  refine sr_ifs (b := false) (et_is (et_or (b := false) (c := false) (et_not (b := true) (et_B (ed_isi (ed_var rfl) rfl (by decide +kernel)))) fun _ => et_is (et_not (et_test (ed_chain ed_int (ed_cb (ea_cons (ed_var rfl) ea_nil) (cd_len (.inr rfl))) ed_int od_B0 od_B0))) ?_) rfl) (fun e => by cases e) fun _ => ?_
  · rw [List.length_map, decide_eq_true (by omega), decide_eq_true (by omega)]; rfl
  · refine sr_ret (ed_is (ed_cb (ea_cons (ed_is (ed_lcm (enc := PyData.int) (ds := ns) (fun n => PyData.bool (decide (0 ≤ n) && decide (n ≤ 9))) (wd_tup (ed_var rfl)) (by omega) (js := [1]) (by decide) fun n hn => ⟨_, gd_name, ?_⟩) ?_) ea_nil) (cd_all (bs := ns.map fun n => decide (0 ≤ n) && decide (n ≤ 9)))) ?_)
    · exact ed_call (ea_cons (ed_var rfl) (ea_cons ed_int (ea_cons ed_int ea_nil))) (pd_of ⟨_, _, _, rfl, rfl⟩)
    · rw [dBs, List.map_map]; rfl
    · rw [all_true fun n hn => by have := h3 n hn; rw [decide_eq_true this.1, decide_eq_true this.2]; rfl]
end
end G29
end L2
set_option Elab.async false
set_option linter.all false
set_option maxRecDepth 100000
set_option maxHeartbeats 4000000
namespace L2
namespace G29
open PySem PySem.Spec PyProof.Rows
abbrev sIsGrid : Stmt := topS 17
abbrev sInside : Stmt := topS 18
abbrev sBoxBy : Stmt := topS 19
abbrev sFirstOnes : Stmt := topS 21
abbrev sBoxEnds : Stmt := topS 22
abbrev sTaken : Stmt := topS 28

theorem cutD_from' {ds : List PyData} {n : Nat} : cutD ds (some (n : Int)) none = ds.drop n := by
  by_cases h : n ≤ ds.length
  · exact cutD_from h
  · unfold cutD
    rw [HT.sIx_nat, HT.sIx_none, Nat.min_eq_right (by omega), Nat.sub_self, List.take_zero, List.drop_of_length_le (by omega)]
section
variable {K : PySem.W.Frag}
theorem cd_allm {α : Type} {f : α → Bool} {l : List α} : Cd K (rAll K) [.d (.list (l.map fun a => .bool (f a)))] (sB (l.all f)) := by
  have h := cd_all (K := K) (bs := l.map f)
  have e : dBs (l.map f) = l.map fun a => PyData.bool (f a) := by rw [dBs, List.map_map]; rfl
  rw [e] at h
  have e2 : (l.map f).all id = l.all f := by rw [List.all_map]; rfl
  rw [e2] at h
  exact h
theorem cd_anym {α : Type} {f : α → Bool} {l : List α} : Cd K (rAny K) [.d (.list (l.map fun a => .bool (f a)))] (sB (l.any f)) := by
  have h := cd_any (K := K) (bs := l.map f)
  have e : dBs (l.map f) = l.map fun a => PyData.bool (f a) := by rw [dBs, List.map_map]; rfl
  rw [e] at h
  have e2 : (l.map f).any id = l.any f := by rw [List.any_map]; rfl
  rw [e2] at h
  exact h
theorem ints_map {α : Type} {f : α → Int} {l : List α} : (l.map fun a => PyData.int (f a)) = dIs (l.map f) := by rw [dIs, List.map_map]; rfl
theorem cd_summ {α : Type} {f : α → Int} {l : List α} : Cd K (rSumA K) [.d (.list (l.map fun a => .int (f a)))] (sI (l.map f).sum) := cd_sum (.inl (by rw [ints_map]))
theorem od_ixI {s e : PyData} {ds : List PyData} {i : Int} (hs : IsSeq s ds) (h0 : 0 ≤ i) (he : ds[i.toNat]? = some e) : Od K (rIx K) (.d s) (sI i) (.d e) := by
  have h := od_ix (K := K) hs he
  rw [Int.toNat_of_nonneg h0] at h
  exact h
end
/-! places of lists, grids as data -/
def la (l : List Int) (i : Int) : Int := l.getD i.toNat 0
def ga (g : List (List Int)) (i j : Int) : Int := la (g.getD i.toNat []) j
theorem la_at {l : List Int} {i : Int} (h0 : 0 ≤ i) (h : i < l.length) : (dIs l)[i.toNat]? = some (.int (la l i)) := by
  have hl : i.toNat < l.length := by omega
  rw [dIs, List.getElem?_map, List.getElem?_eq_getElem hl]
  unfold la
  rw [List.getD_eq_getElem?_getD, List.getElem?_eq_getElem hl]
  rfl
theorem ga_at {R : List Int → PyData} {g : List (List Int)} {i : Int} (h0 : 0 ≤ i) (h : i < g.length) : (g.map R)[i.toNat]? = some (R (g.getD i.toNat [])) := by
  have hl : i.toNat < g.length := by omega
  rw [List.getElem?_map, List.getD_eq_getElem?_getD, List.getElem?_eq_getElem hl]
  rfl
/-- a grid as data: a list or a tuple of lists or tuples -/
def GS (x : PyData) (g : List (List Int)) : Prop := ∃ R : List Int → PyData, (R = dT ∨ R = dL) ∧ IsSeq x (g.map R)
theorem rowS {R : List Int → PyData} (h : R = dT ∨ R = dL) (r : List Int) : IsSeq (R r) (dIs r) := by
  rcases h with rfl | rfl
  · exact .inr rfl
  · exact .inl rfl
theorem getD_mem {g : List (List Int)} {i : Nat} (h : i < g.length) : g.getD i [] ∈ g := by
  rw [List.getD_eq_getElem?_getD, List.getElem?_eq_getElem h]
  exact List.getElem_mem h
def insideI (g : List (List Int)) (some others : List Int) : Int := (some.flatMap fun i => others.map fun j => ga g i j).sum
def boxI (rows cols some others : List Int) : List Int := [max 0 ((some.map (la rows)).sum + (others.map (la cols)).sum - rows.sum), min (some.map (la rows)).sum (others.map (la cols)).sum]
def firstOnes (m : Nat) (s : List Int) : List Int := s ++ ((List.range m).filter fun (i : Nat) => !decide ((i : Int) ∈ s)).map fun (i : Nat) => (i : Int)
def gridB (rows cols : List Int) (g : List (List Int)) : Bool := decide (g.map List.sum = rows) && decide (Gm.colsums g cols.length = cols)
/-- a rectangle of cells 0..9 -/
def Rect (m n : Nat) (g : List (List Int)) : Prop := g.length = m ∧ ∀ r ∈ g, r.length = n ∧ ∀ x ∈ r, 0 ≤ x ∧ x ≤ 9
/-! the promises -/
def rCheckTotals : List Sl → Prop := fun ds => ∃ rows cols : List Int, ds = [sT rows, sT cols] ∧ Tots rows cols
def rIsLines : List Sl → Sl → Prop := fun ds x => ∃ (xs : List Int) (m : Nat), ds = [sT xs, sI (m : Int)] ∧ Lines xs m ∧ x = sB true
def rCheckBox : List Sl → Prop := fun ds => ∃ rows cols so ot : List Int, ds = [sT rows, sT cols, sT so, sT ot] ∧ Tots rows cols ∧ Lines so rows.length ∧ Lines ot cols.length
def rIsGrid : List Sl → Sl → Prop := fun ds x => ∃ (rows cols : List Int) (gx : PyData) (g : List (List Int)), ds = [sT rows, sT cols, .d gx] ∧ Tots rows cols ∧ GS gx g ∧ Rect rows.length cols.length g ∧ x = sB (gridB rows cols g)
def rInside : List Sl → Sl → Prop := fun ds x => ∃ (gx : PyData) (g : List (List Int)) (so ot : List Int) (m n : Nat), ds = [.d gx, sT so, sT ot] ∧ GS gx g ∧ Lines so m ∧ Lines ot n ∧ g.length = m ∧ (∀ r ∈ g, r.length = n) ∧ x = sI (insideI g so ot)
def rBoxBy : List Sl → Sl → Prop := fun ds x => ∃ rows cols so ot : List Int, ds = [sT rows, sT cols, sT so, sT ot] ∧ Lines so rows.length ∧ Lines ot cols.length ∧ x = sT (boxI rows cols so ot)
def rFirstOnes : List Sl → Sl → Prop := fun ds x => ∃ (m : Nat) (so : List Int), ds = [sI (m : Int), sT so] ∧ m ≤ 1000 ∧ so.length ≤ 1000 ∧ x = sL (firstOnes m so)
def rBoxEnds : List Sl → Sl → Prop := fun ds x => ∃ rows cols so ot : List Int, ds = [sT rows, sT cols, sT so, sT ot] ∧ Tots rows cols ∧ Lines so rows.length ∧ Lines ot cols.length ∧ x = sT (boxI rows cols so ot)
def rTaken : List Sl → Sl → Prop := fun ds x => ∃ l r : List Int, ds = [sT l, sT r] ∧ l.length ≤ 1000 ∧ x = sT (Gm.sub l r)
section
variable {P : Program} {w : World} {K : PySem.W.Frag} {mg : Str → Option Value} {base : Heap}
abbrev HAreTotals (P : Program) (w : World) (K : PySem.W.Frag) (mg : Str → Option Value) (base : Heap) : Prop := Has P w K mg base 2 "are_totals" ["thing"] (spD K rAreTotals)
abbrev HCheckTotals (P : Program) (w : World) (K : PySem.W.Frag) (mg : Str → Option Value) (base : Heap) : Prop := Has P w K mg base 3 "check_totals" ["rows", "columns"] (spD K fun ds x => rCheckTotals ds ∧ x = .d .none)
theorem ok_CheckTotals {f : Addr} {fd : FuncData} (F : Fun K "check_totals" "check_totals" sCheckTotals f fd) (B : Bl mg) (H_are_totals : HAreTotals P w K mg base) : FnOk P w K mg base CX0 3 f fd ["rows", "columns"] (spD K fun ds x => rCheckTotals ds ∧ x = .d .none) := by
  obtain ⟨f_are_totals, fd_are_totals, G_are_totals, m_are_totals, k_are_totals, b_are_totals⟩ := H_are_totals
  refine fnDn F scCheckTotals (fun ds h => ?_) fun cdv A outer s H E hr ds h => ?_
  · obtain ⟨rows, cols, rfl, h1, h2, h3⟩ := h; rfl
  obtain ⟨rows, cols, rfl, h1, h2, h3⟩ := h
  refine ⟨_, (pss_one (ps_if (PW.pt (pw_or (pt_not (pt_val (pe_call G_are_totals (hr.mono (by decide)) (by rfl) m_are_totals k_are_totals b_are_totals .nil pass0 (pa_cons (pv 0) pa_nil)))) (pw_or (pt_not (pt_val (pe_call G_are_totals (hr.mono (by decide)) (by rfl) m_are_totals k_are_totals b_are_totals .nil pass0 (pa_cons (pv 1) pa_nil)))) (pw_or1 (pt_cmpR op_ne (pe_callB (cr_sumA rfl) (by rfl) B.sum (by decide +kernel) (pa_cons (pv 0) pa_nil)) (pe_callB (cr_sumA rfl) (by rfl) B.sum (by decide +kernel) (pa_cons (pv 1) pa_nil)) (nomark _)))))) pss_never pss_nil)), ?_⟩
  exact ⟨_, sn_pass (et_is (et_or (b := false) (et_not (b := true) (et_B (ed_call (ea_cons (ed_var rfl) ea_nil) (pd_of ⟨rows, rfl, h1, rfl⟩)))) fun _ => et_or (b := false) (et_not (b := true) (et_B (ed_call (ea_cons (ed_var rfl) ea_nil) (pd_of ⟨cols, rfl, h2, rfl⟩)))) fun _ => et_test (ed_op (ed_cb (ea_cons (ed_var rfl) ea_nil) (cd_sum (.inr rfl))) (ed_cb (ea_cons (ed_var rfl) ea_nil) (cd_sum (.inr rfl))) od_neI)) (by rw [decide_eq_true h3]; rfl))⟩
theorem dZ_ints : ∀ xs ys : List Int, dZ (dIs xs) (dIs ys) = (xs.zip ys).map fun p : Int × Int => PyData.tuple [.int p.1, .int p.2]
  | [], _ => by simp [dZ, dIs]
  | _ :: _, [] => by simp [dZ, dIs]
  | x :: xs, y :: ys => by
    have ih := dZ_ints xs ys
    unfold dZ at ih ⊢
    rw [dIs, dIs, List.map_cons, List.map_cons, List.zipWith_cons_cons, List.zip_cons_cons, List.map_cons]
    rw [← ih]
theorem zip_all : ∀ {xs : List Int}, xs.Pairwise (· < ·) → (xs.zip (xs.drop 1)).all (fun p => decide (p.1 < p.2)) = true
  | [], _ => rfl
  | [_], _ => rfl
  | x :: y :: xs, h => by
    have ih := zip_all (xs := y :: xs) (List.Pairwise.tail h)
    rw [List.drop_succ_cons, List.drop_zero] at ih ⊢
    rw [List.zip_cons_cons, List.all_cons, decide_eq_true (List.rel_of_pairwise_cons h List.mem_cons_self)]
    exact ih
abbrev HIsLines (P : Program) (w : World) (K : PySem.W.Frag) (mg : Str → Option Value) (base : Heap) : Prop := Has P w K mg base 2 "is_lines" ["thing", "many"] (spD K rIsLines)
theorem ok_IsLines {f : Addr} {fd : FuncData} (F : Fun K "is_lines" "is_lines" sIsLines f fd) (B : Bl mg) (H_is_number : HIsNumber P w K mg base) : FnOk P w K mg base CX0 2 f fd ["thing", "many"] (spD K rIsLines) := by
  obtain ⟨f_is_number, fd_is_number, G_is_number, m_is_number, k_is_number, b_is_number⟩ := H_is_number
  refine fnD F scIsLines (fun ds x h => ?_) fun cdv A outer s H E hr ds x h => ?_
  · obtain ⟨xs, m, rfl, ⟨h1, h2, h3⟩, rfl⟩ := h; rfl
  obtain ⟨xs, m, rfl, ⟨h1, h2, h3⟩, rfl⟩ := h
  refine ⟨_, (pss_cons (ps_if (PW.pt (pw_or (pt_not (pt_val (pe_callB call_isi (by rfl) B.isi (by decide +kernel) (pa_cons (pv 0) (pa_cons (pe_bltn (v := .ty "tuple") (by rfl) B.tuple (by decide +kernel) rfl) pa_nil))))) (pw_or1 (pt_not (pt_val (pe_callB (cr_all rfl) (by rfl) B.all (by decide +kernel) (pa_cons (pe_lc (own := [("at", 2)]) (g := (gName 2)) (tt := tYes) rfl scIsLines.nd (pi_seq (pv 0)) (blkOk_by (by kernel_rfl)) (fun _ _ _ _ _ => (pg_name (i := 2) scIsLines.nd rfl (by first | exact Or.inl rfl | exact Or.inr rfl))) (fun _ _ _ _ _ => pts_nil) (fun _ _ _ _ _ => (pe_call G_is_number (hr.mono (by decide)) (by rfl) m_is_number k_is_number b_is_number .nil pass0 (pa_cons (pv 2) (pa_cons pe_int (pa_cons (pe_op op_sub (pv 1) pe_int) pa_nil)))))) pa_nil))))))) (pss_one (ps_ret pe_bl)) pss_nil)
      (pss_one (ps_ret (pe_callB (cr_all rfl) (by rfl) B.all (by decide +kernel) (pa_cons (pe_lc (own := [("one", 3), ("other", 4)]) (g := (gTup K 2 (gCons (gName 3) (gCons (gName 4) gNil)))) (tt := tYes) rfl scIsLines.nd (RZ.pi_zipA (by rfl) B.zip (pa_cons (pv 0) (pa_cons (pe_slice sl_tupA (pv 0) (po_some pe_int) po_none) pa_nil))) (blkOk_by (by kernel_rfl)) (fun _ _ _ _ _ => (pg_tup rfl (pgs_cons (pg_name (i := 3) scIsLines.nd rfl (by first | exact Or.inl rfl | exact Or.inr rfl)) (pgs_cons (pg_name (i := 4) scIsLines.nd rfl (by first | exact Or.inl rfl | exact Or.inr rfl)) pgs_nil)))) (fun _ _ _ _ _ => pts_nil) (fun _ _ _ _ _ => (pe_cmpR op_lt (pv 3) (pv 4) (nomark _)))) pa_nil))))), ?_⟩
  refine sr_ifs (b := false) (et_is (et_or (b := false) (et_not (b := true) (et_B (ed_isi (ed_var rfl) rfl (by decide +kernel)))) fun _ => et_not (et_B (ed_cb (ea_cons (ed_lcm (enc := PyData.int) (ds := xs) (fun n => .bool (decide (0 ≤ n) && decide (n ≤ (m : Int) - 1))) (wd_seq (ed_var rfl) (.inr rfl)) (by omega) (js := [2]) (by decide) fun n hn => ⟨_, gd_name, ed_call (ea_cons (ed_var rfl) (ea_cons ed_int (ea_cons (ed_op (ed_var rfl) ed_int od_I0) ea_nil))) (pd_of ⟨_, _, _, rfl, rfl⟩)⟩) ea_nil) cd_allm))) ?_) (fun e => by cases e) fun _ => ?_
  · rw [List.all_eq_true.mpr fun n hn => by have := h1 n hn; rw [decide_eq_true this.1, decide_eq_true (by omega)]; rfl]; rfl
  · refine sr_ret (ed_is (ed_cb (ea_cons (ed_lcm (enc := fun p : Int × Int => .tuple [.int p.1, .int p.2]) (ds := xs.zip (xs.drop 1)) (fun p => .bool (decide (p.1 < p.2))) ?_ ?_ (js := [3, 4]) (by decide) fun p hp => ⟨_, gd_tup2, ed_op (ed_var rfl) (ed_var rfl) od_B0⟩) ea_nil) cd_allm) ?_)
    · have e : dZ (dIs xs) (dIs (xs.drop 1)) = (xs.zip (xs.drop 1)).map fun p : Int × Int => PyData.tuple [.int p.1, .int p.2] := dZ_ints xs (xs.drop 1)
      rw [← e]
      have hc : cutD (dIs xs) (some ((1 : Nat) : Int)) none = dIs (xs.drop 1) := by rw [cutD_from', dIs, ← List.map_drop]
      rw [← hc]
      exact wd_zipT (ea_cons (ed_var rfl) (ea_cons (ed_slT (ed_var rfl) (eo_some ed_int) eo_none) ea_nil))
    · rw [List.length_zip, List.length_drop]; omega
    · rw [zip_all h2]
abbrev HCheckBox (P : Program) (w : World) (K : PySem.W.Frag) (mg : Str → Option Value) (base : Heap) : Prop := Has P w K mg base 4 "check_box" ["rows", "columns", "some", "others"] (spD K fun ds x => rCheckBox ds ∧ x = .d .none)
theorem ok_CheckBox {f : Addr} {fd : FuncData} (F : Fun K "check_box" "check_box" sCheckBox f fd) (B : Bl mg) (H_check_totals : HCheckTotals P w K mg base) (H_is_lines : HIsLines P w K mg base) : FnOk P w K mg base CX0 4 f fd ["rows", "columns", "some", "others"] (spD K fun ds x => rCheckBox ds ∧ x = .d .none) := by
  obtain ⟨f_check_totals, fd_check_totals, G_check_totals, m_check_totals, k_check_totals, b_check_totals⟩ := H_check_totals
  obtain ⟨f_is_lines, fd_is_lines, G_is_lines, m_is_lines, k_is_lines, b_is_lines⟩ := H_is_lines
  refine fnDn F scCheckBox (fun ds h => ?_) fun cdv A outer s H E hr ds h => ?_
  · obtain ⟨rows, cols, so, ot, rfl, h1, h2, h3⟩ := h; rfl
  obtain ⟨rows, cols, so, ot, rfl, h1, h2, h3⟩ := h
  refine ⟨_, (pss_cons (ps_expr (pe_call G_check_totals (hr.mono (by decide)) (by rfl) m_check_totals k_check_totals b_check_totals .nil pass0 (pa_cons (pv 0) (pa_cons (pv 1) pa_nil))))
      (pss_one (ps_if (PW.pt (pw_or (pt_not (pt_val (pe_call G_is_lines (hr.mono (by decide)) (by rfl) m_is_lines k_is_lines b_is_lines .nil pass0 (pa_cons (pv 2) (pa_cons (pe_callB call_len_seq (by rfl) B.len PySem.boot_len (pa_cons (pv 0) pa_nil)) pa_nil))))) (pw_or1 (pt_not (pt_val (pe_call G_is_lines (hr.mono (by decide)) (by rfl) m_is_lines k_is_lines b_is_lines .nil pass0 (pa_cons (pv 3) (pa_cons (pe_callB call_len_seq (by rfl) B.len PySem.boot_len (pa_cons (pv 1) pa_nil)) pa_nil)))))))) pss_never pss_nil))), ?_⟩
  exact ⟨_, sn_seq (sn_drop (ed_call (ea_cons (ed_var rfl) (ea_cons (ed_var rfl) ea_nil)) (pd_of ⟨⟨rows, cols, rfl, h1⟩, rfl⟩))) (sn_pass (et_is (et_or (b := false) (et_not (b := true) (et_B (ed_call (ea_cons (ed_var rfl) (ea_cons (ed_is (ed_cb (ea_cons (ed_var rfl) ea_nil) (cd_len (.inr rfl))) (by rw [List.length_map])) ea_nil)) (pd_of ⟨so, rows.length, rfl, h2, rfl⟩)))) fun _ => et_not (b := true) (et_B (ed_call (ea_cons (ed_var rfl) (ea_cons (ed_is (ed_cb (ea_cons (ed_var rfl) ea_nil) (cd_len (.inr rfl))) (by rw [List.length_map])) ea_nil)) (pd_of ⟨ot, cols.length, rfl, h3, rfl⟩)))) rfl))⟩
end
end G29
end L2
set_option Elab.async false
set_option linter.all false
set_option maxRecDepth 100000
set_option maxHeartbeats 4000000
namespace L2
namespace G29
open PySem PySem.Spec PyProof.Rows

section
variable {K : PySem.W.Frag} {δ : De}
theorem wd_rngN {t : TA} {n : Nat} (h : Ea K t δ [sI (n : Int)]) (hn : n ≤ 1000000) : Wd K (iRng1 t) δ ((List.range n).map fun (i : Nat) => PyData.int (i : Int)) := by
  have z := wd_rng1 h (by omega) (by omega)
  rw [Int.toNat_natCast] at z
  exact z
theorem flat_b {α β : Type} {f : α → β → Bool} {E : α → List β} {l : List α} : (l.flatMap fun x => (E x).map fun y => PyData.bool (f x y)) = dBs (l.flatMap fun x => (E x).map (f x)) := by
  rw [dBs, List.map_flatMap]
  congr 1
  funext x
  rw [List.map_map]; rfl
theorem flat_i {α β : Type} {f : α → β → Int} {E : α → List β} {l : List α} : (l.flatMap fun x => (E x).map fun y => PyData.int (f x y)) = dIs (l.flatMap fun x => (E x).map (f x)) := by
  rw [dIs, List.map_flatMap]
  congr 1
  funext x
  rw [List.map_map]; rfl
theorem flat_len {α β γ : Type} {f : α → β → γ} {E : α → List β} {n : Nat} : ∀ {l : List α}, (∀ x ∈ l, (E x).length ≤ n) → (l.flatMap fun x => (E x).map (f x)).length ≤ l.length * n
  | [], _ => Nat.zero_le _
  | x :: l, h => by
    have ih := flat_len (f := f) (E := E) (n := n) (l := l) fun y hy => h y (List.mem_cons_of_mem _ hy)
    have hx := h x List.mem_cons_self
    rw [List.flatMap_cons, List.length_append, List.length_map, List.length_cons, Nat.succ_mul]
    omega
theorem rw_at {r : List Int} {i : Nat} (h : i < r.length) : (dIs r)[i]? = some (.int (r.getD i 0)) := by
  rw [dIs, List.getElem?_map, List.getD_eq_getElem?_getD, List.getElem?_eq_getElem h]; rfl
theorem len_map {α β : Type} {f : α → β} {l : List α} {x : Sl} (h : x = sI ((l.map f).length : Int)) : x = sI (l.length : Int) := by rw [h, List.length_map]
theorem ed_len {ta : TE} {s : PyData} {α : Type} {f : α → PyData} {l : List α} (h : Ed K ta δ (.d s)) (hs : IsSeq s (l.map f)) : Ed K (tCB (rLen K) (tCons ta tNil)) δ (sI (l.length : Int)) := ed_is (ed_cb (ea_cons h ea_nil) (cd_len hs)) (by rw [List.length_map])
end
section
variable {P : Program} {w : World} {K : PySem.W.Frag} {mg : Str → Option Value} {base : Heap}
theorem scIsGrid : FnScope ["rows", "columns", "grid", "row", "cell", "at"] ["rows", "columns", "grid"] (defScope sIsGrid) := ⟨rfl, rfl, rfl, by decide +kernel, rfl, by decide +kernel, by decide +kernel⟩
abbrev HIsGrid (P : Program) (w : World) (K : PySem.W.Frag) (mg : Str → Option Value) (base : Heap) : Prop := Has P w K mg base 2 "is_grid" ["rows", "columns", "grid"] (spD K rIsGrid)
theorem ok_IsGrid {f : Addr} {fd : FuncData} (F : Fun K "is_grid" "is_grid" sIsGrid f fd) (B : Bl mg) (H_is_number : HIsNumber P w K mg base) : FnOk P w K mg base CX0 2 f fd ["rows", "columns", "grid"] (spD K rIsGrid) := by
  obtain ⟨f_is_number, fd_is_number, G_is_number, m_is_number, k_is_number, b_is_number⟩ := H_is_number
  refine fnD F scIsGrid (fun ds x h => ?_) fun cdv A outer s H E hr ds x h => ?_
  · obtain ⟨rows, cols, gx, g, rfl, ⟨⟨p1, p2, p3⟩, ⟨p4, p5, p6⟩, p7⟩, ⟨R, hR, hg⟩, ⟨hm, hr0⟩, rfl⟩ := h; rfl
  obtain ⟨rows, cols, gx, g, rfl, ⟨⟨p1, p2, p3⟩, ⟨p4, p5, p6⟩, p7⟩, ⟨R, hR, hg⟩, ⟨hm, hr0⟩, rfl⟩ := h
  obtain ⟨tL, mL⟩ := B.lines
  obtain ⟨tT, mT⟩ := B.total
  refine ⟨_, (pss_cons (ps_if (PW.pt (pw_or (pt_cmpR op_ne (pe_callB call_len_seq (by rfl) B.len PySem.boot_len (pa_cons (pv 2) pa_nil)) (pe_callB call_len_seq (by rfl) B.len PySem.boot_len (pa_cons (pv 0) pa_nil)) (nomark _)) (pw_or1 (pt_not (pt_val (pe_callB (cr_all rfl) (by rfl) B.all (by decide +kernel) (pa_cons (pe_lc (own := [("row", 3)]) (g := (gName 3)) (tt := tYes) (te := (tOp rEq (tCB (rLen K) (tCons (tVar 3) tNil)) (tCB (rLen K) (tCons (tVar 1) tNil)))) rfl scIsGrid.nd (pi_seq (pv 2)) (blkOk_by (by kernel_rfl)) (fun _ _ _ _ _ => (pg_name (i := 3) scIsGrid.nd rfl (by first | exact Or.inl rfl | exact Or.inr rfl))) (fun _ _ _ _ _ => pts_nil) (fun _ _ _ _ _ => (pe_cmpR op_eq (pe_callB call_len_seq (by rfl) B.len PySem.boot_len (pa_cons (pv 3) pa_nil)) (pe_callB call_len_seq (by rfl) B.len PySem.boot_len (pa_cons (pv 1) pa_nil)) (nomark _)))) pa_nil))))))) (pss_one (ps_ret pe_bl)) pss_nil)
      (pss_cons (ps_if (pt_not (pt_val (pe_callB (cr_all rfl) (by rfl) B.all (by decide +kernel) (pa_cons (pe_lc2 (own := [("row", 3), ("cell", 4)]) (vs1 := [4]) (g := (gName 3)) (g1 := (gName 4)) (tt := tYes) (tt1 := tYes) (wi1 := (iSeq K (tVar 3))) (te := (tCall _ [] E0 (tCons (tVar 4) (tCons (tC (V.int 0)) (tCons (tC (V.int 9)) tNil))))) rfl scIsGrid.nd (pi_seq (pv 2)) (blkOk_by (by kernel_rfl)) (by decide) (fun _ _ _ _ _ => (pg_name (i := 3) scIsGrid.nd rfl (by first | exact Or.inl rfl | exact Or.inr rfl))) (fun _ _ _ _ _ => pts_nil) (fun _ _ _ _ _ => (pi_seq (pv 3))) (fun _ _ _ _ _ => (pg_name (i := 4) scIsGrid.nd rfl (by first | exact Or.inl rfl | exact Or.inr rfl))) (fun _ _ _ _ _ => pts_nil) (fun _ _ _ _ _ => (pe_call G_is_number (hr.mono (by decide)) (by rfl) m_is_number k_is_number b_is_number .nil pass0 (pa_cons (pv 4) (pa_cons pe_int (pa_cons (pe_glob (v := .int 9) (by rfl) mT ⟨_, rfl⟩) pa_nil)))))) pa_nil)))) (pss_one (ps_ret pe_bl)) pss_nil)
      (pss_cons (ps_if (pt_cmpR (op_neD hr.units) (pe_lc (own := [("row", 3)]) (g := (gName 3)) (tt := tYes) (te := (tCB (rSumA K) (tCons (tVar 3) tNil))) rfl scIsGrid.nd (pi_seq (pv 2)) (blkOk_by (by kernel_rfl)) (fun _ _ _ _ _ => (pg_name (i := 3) scIsGrid.nd rfl (by first | exact Or.inl rfl | exact Or.inr rfl))) (fun _ _ _ _ _ => pts_nil) (fun _ _ _ _ _ => (pe_callB (cr_sumA rfl) (by rfl) B.sum (by decide +kernel) (pa_cons (pv 3) pa_nil)))) (pe_callTy call_list_of (by rfl) B.list (by decide +kernel) (pa_cons (pv 0) pa_nil)) (nomark _)) (pss_one (ps_ret pe_bl)) pss_nil)
      (pss_one (ps_ret (pe_cmpR (op_eqD hr.units) (pe_lc (own := [("at", 5)]) (g := (gName 5)) (tt := tYes) (te := (tCB (rSumA K) (tCons (tLc (iSeq K (tVar 2)) (gName 3) tYes (tOp (rIx K) (tVar 3) (tVar 5)) [3]) tNil))) rfl scIsGrid.nd (pi_range1 (by rfl) B.range (pa_cons (pe_callB call_len_seq (by rfl) B.len PySem.boot_len (pa_cons (pv 1) pa_nil)) pa_nil)) (blkOk_by (by kernel_rfl)) (fun _ _ _ _ _ => (pg_name (i := 5) scIsGrid.nd rfl (by first | exact Or.inl rfl | exact Or.inr rfl))) (fun _ _ _ _ _ => pts_nil) (fun _ _ _ _ _ => (pe_callB (cr_sumA rfl) (by rfl) B.sum (by decide +kernel) (pa_cons (pe_lc (own := [("row", 3)]) (g := (gName 3)) (tt := tYes) (te := (tOp (rIx K) (tVar 3) (tVar 5))) rfl scIsGrid.nd (pi_seq (pv 2)) (blkOk_by (by kernel_rfl)) (fun _ _ _ _ _ => (pg_name (i := 3) scIsGrid.nd rfl (by first | exact Or.inl rfl | exact Or.inr rfl))) (fun _ _ _ _ _ => pts_nil) (fun _ _ _ _ _ => (pe_ix ix_seq (pv 3) (pv 5) (fun _ _ => rfl)))) pa_nil)))) (pe_callTy call_list_of (by rfl) B.list (by decide +kernel) (pa_cons (pv 1) pa_nil)) (nomark _))))))), ?_⟩
  refine sr_ifs (b := false) (et_is (et_or (b := false) (et_is (et_test (ed_op (ed_len (ed_var rfl) hg) (ed_len (ed_var rfl) (.inr rfl)) od_neI)) (by rw [hm, decide_eq_true rfl]; rfl)) fun _ => et_not (b := true) (et_is (et_B (ed_cb (ea_cons (ed_lcm (enc := R) (ds := g) (fun r => .bool (decide ((r.length : Int) = (cols.length : Int)))) (wd_seq (ed_var rfl) hg) (by omega) (js := [3]) (by decide) fun r hr' => ⟨_, gd_name, ed_op (ed_len (ed_var rfl) (rowS hR r)) (ed_len (ed_var rfl) (.inr rfl)) od_eqI⟩) ea_nil) cd_allm)) (List.all_eq_true.mpr fun r hr' => decide_eq_true (by rw [(hr0 r hr').1])))) rfl) (fun e => by cases e) fun _ => ?_
  have hz : (g.flatMap fun r => r.map fun _ => ()).length ≤ g.length * 4 := flat_len (f := fun (r : List Int) (_ : Int) => ()) (E := fun r => r) fun r hr' => by rw [(hr0 r hr').1]; omega
  refine sr_ifs (b := false) (et_is (et_not (et_B (ed_cb (ea_cons (ed_is (ed_lc2 (enc := R) (enc2 := PyData.int) (ds := g) (fun r => r) (fun _ c => .bool (decide (0 ≤ c) && decide (c ≤ 9))) (wd_seq (ed_var rfl) hg) ?_ (js := [3]) (js1 := [4]) (by decide) (by decide) fun r hr' => ⟨_, gd_name, wd_seq (ed_var rfl) (rowS hR r), fun c hc => ⟨_, gd_name, ed_call (ea_cons (ed_var rfl) (ea_cons ed_int (ea_cons ed_int ea_nil))) (pd_of ⟨_, _, _, rfl, rfl⟩)⟩⟩) (congrArg (fun z => Sl.d (.list z)) (flat_b (f := fun (_ : List Int) (c : Int) => decide (0 ≤ c) && decide (c ≤ 9)) (E := fun r => r)))) ea_nil) cd_all))) ?_) (fun e => by cases e) fun _ => ?_
  · refine Nat.le_trans (flat_len (n := 4) fun r hr' => ?_) ?_
    · rw [(hr0 r hr').1]; omega
    · omega
  · rw [List.all_eq_true.mpr fun b hb => ?_]
    · rfl
    · obtain ⟨r, hr', hb⟩ := List.mem_flatMap.mp hb
      obtain ⟨c, hc, rfl⟩ := List.mem_map.mp hb
      have := (hr0 r hr').2 c hc
      show (decide (0 ≤ c) && decide (c ≤ 9)) = true
      rw [decide_eq_true this.1, decide_eq_true this.2]; rfl
  refine sr_ifs (b := !decide (g.map List.sum = rows)) (et_is (et_test (ed_op (ed_is (ed_lcm (enc := R) (ds := g) (fun r => .int r.sum) (wd_seq (ed_var rfl) hg) (by omega) (js := [3]) (by decide) fun r hr' => ⟨_, gd_name, ed_cb (ea_cons (ed_var rfl) ea_nil) (cd_sum (rowS hR r))⟩) (congrArg (fun z => Sl.d (.list z)) (ints_map (f := List.sum)))) (ed_cb (ea_cons (ed_var rfl) ea_nil) (cd_lstOf (.inr rfl))) (od_neD (shaped_dL _) (shaped_dL _)))) (by rw [eqv_dL])) (fun e => sr_ret (ed_is ed_bl ?_)) fun e => ?_
  · rw [gridB, decide_eq_false (of_decide_eq_false (by simpa using e))]; rfl
  have e' : g.map List.sum = rows := of_decide_eq_true (by simpa using e)
  refine sr_ret (ed_is (ed_op (ed_is (ed_lcm (enc := fun i : Nat => PyData.int (i : Int)) (ds := List.range cols.length) (fun i => .int (Gm.colsum g i)) (wd_rngN (ea_cons (ed_len (ed_var rfl) (.inr rfl)) ea_nil) (by omega)) (by rw [List.length_range]; omega) (js := [5]) (by decide) fun i hi => ⟨_, gd_name, ed_cb (ea_cons (ed_lcm (enc := R) (ds := g) (fun r => .int (r.getD i 0)) (wd_seq (ed_var rfl) hg) (by omega) (js := [3]) (by decide) fun r hr' => ⟨_, gd_name, ed_op (ed_var rfl) (ed_var rfl) (od_ix (rowS hR r) (rw_at (by rw [(hr0 r hr').1]; exact List.mem_range.mp hi)))⟩) ea_nil) cd_summ⟩) (congrArg (fun z => Sl.d (.list z)) (ints_map (f := Gm.colsum g)))) (ed_cb (ea_cons (ed_var rfl) ea_nil) (cd_lstOf (.inr rfl))) (od_eqD (shaped_dL _) (shaped_dL _))) ?_)
  rw [eqv_dL, gridB, decide_eq_true e']; rfl
theorem scInside : FnScope ["grid", "some", "others", "one", "other"] ["grid", "some", "others"] (defScope sInside) := ⟨rfl, rfl, rfl, by decide +kernel, rfl, by decide +kernel, by decide +kernel⟩
abbrev HInside (P : Program) (w : World) (K : PySem.W.Frag) (mg : Str → Option Value) (base : Heap) : Prop := Has P w K mg base 1 "inside" ["grid", "some", "others"] (spD K rInside)
theorem ok_Inside {f : Addr} {fd : FuncData} (F : Fun K "inside" "inside" sInside f fd) (B : Bl mg) : FnOk P w K mg base CX0 1 f fd ["grid", "some", "others"] (spD K rInside) := by
  refine fnD F scInside (fun ds x h => ?_) fun cdv A outer s H E hr ds x h => ?_
  · obtain ⟨gx, g, so, ot, m, n, rfl, ⟨R, hR, hg⟩, ⟨s1, _, s2⟩, ⟨o1, _, o2⟩, hm, hn, rfl⟩ := h; rfl
  obtain ⟨gx, g, so, ot, m, n, rfl, ⟨R, hR, hg⟩, ⟨s1, _, s2⟩, ⟨o1, _, o2⟩, hm, hn, rfl⟩ := h
  refine ⟨_, (pss_one (ps_ret (pe_callB (cr_sumA rfl) (by rfl) B.sum (by decide +kernel) (pa_cons (pe_lc2 (own := [("one", 3), ("other", 4)]) (vs1 := [4]) (g := (gName 3)) (g1 := (gName 4)) (tt := tYes) (tt1 := tYes) (wi1 := (iSeq K (tVar 2))) (te := (tOp (rIx K) (tOp (rIx K) (tVar 0) (tVar 3)) (tVar 4))) rfl scInside.nd (pi_seq (pv 1)) (blkOk_by (by kernel_rfl)) (by decide) (fun _ _ _ _ _ => (pg_name (i := 3) scInside.nd rfl (by first | exact Or.inl rfl | exact Or.inr rfl))) (fun _ _ _ _ _ => pts_nil) (fun _ _ _ _ _ => (pi_seq (pv 2))) (fun _ _ _ _ _ => (pg_name (i := 4) scInside.nd rfl (by first | exact Or.inl rfl | exact Or.inr rfl))) (fun _ _ _ _ _ => pts_nil) (fun _ _ _ _ _ => (pe_ix ix_seq (pe_ix ix_seq (pv 0) (pv 3) (fun _ _ => rfl)) (pv 4) (fun _ _ => rfl)))) pa_nil)))), ?_⟩
  refine sr_ret (ed_is (ed_cb (ea_cons (ed_is (ed_lc2 (enc := PyData.int) (enc2 := PyData.int) (ds := so) (fun _ => ot) (fun i j => .int (ga g i j)) (wd_seq (ed_var rfl) (.inr rfl)) ?_ (js := [3]) (js1 := [4]) (by decide) (by decide) fun i hi => ⟨_, gd_name, wd_seq (ed_var rfl) (.inr rfl), fun j hj => ⟨_, gd_name, ed_op (ed_op (ed_var rfl) (ed_var rfl) (od_ixI hg (s1 i hi).1 (ga_at (s1 i hi).1 (by rw [hm]; exact (s1 i hi).2)))) (ed_var rfl) (od_ixI (rowS hR _) (o1 j hj).1 (la_at (o1 j hj).1 ?_))⟩⟩) (congrArg (fun z => Sl.d (.list z)) (flat_i (f := fun i j => ga g i j) (E := fun _ => ot)))) ea_nil) (cd_sum (.inl rfl))) rfl)
  · exact Nat.le_trans (flat_len (n := 1000) fun r hr' => o2) (by omega)
  · rw [hn _ (getD_mem (by have := s1 i hi; omega))]; exact (o1 j hj).2
theorem scBoxBy : FnScope ["rows", "columns", "some", "others", "first", "last", "at"] ["rows", "columns", "some", "others"] (defScope sBoxBy) := ⟨rfl, rfl, rfl, by decide +kernel, rfl, by decide +kernel, by decide +kernel⟩
abbrev HBoxBy (P : Program) (w : World) (K : PySem.W.Frag) (mg : Str → Option Value) (base : Heap) : Prop := Has P w K mg base 1 "box_by" ["rows", "columns", "some", "others"] (spD K rBoxBy)
theorem ok_BoxBy {f : Addr} {fd : FuncData} (F : Fun K "box_by" "box_by" sBoxBy f fd) (B : Bl mg) : FnOk P w K mg base CX0 1 f fd ["rows", "columns", "some", "others"] (spD K rBoxBy) := by
  refine fnD F scBoxBy (fun ds x h => ?_) fun cdv A outer s H E hr ds x h => ?_
  · obtain ⟨rows, cols, so, ot, rfl, ⟨s1, _, s2⟩, ⟨o1, _, o2⟩, rfl⟩ := h; rfl
  obtain ⟨rows, cols, so, ot, rfl, ⟨s1, _, s2⟩, ⟨o1, _, o2⟩, rfl⟩ := h
  refine ⟨_, (pss_cons (ps_par (i := 4) (j := 5) rfl scBoxBy.nd rfl rfl (by decide) rfl rfl (pa_cons (pe_callB (cr_sumA rfl) (by rfl) B.sum (by decide +kernel) (pa_cons (pe_lc (own := [("at", 6)]) (g := (gName 6)) (tt := tYes) (te := (tOp (rIx K) (tVar 0) (tVar 6))) rfl scBoxBy.nd (pi_seq (pv 2)) (blkOk_by (by kernel_rfl)) (fun _ _ _ _ _ => (pg_name (i := 6) scBoxBy.nd rfl (by first | exact Or.inl rfl | exact Or.inr rfl))) (fun _ _ _ _ _ => pts_nil) (fun _ _ _ _ _ => (pe_ix ix_seq (pv 0) (pv 6) (fun _ _ => rfl)))) pa_nil)) (pa_cons (pe_callB (cr_sumA rfl) (by rfl) B.sum (by decide +kernel) (pa_cons (pe_lc (own := [("at", 6)]) (g := (gName 6)) (tt := tYes) (te := (tOp (rIx K) (tVar 1) (tVar 6))) rfl scBoxBy.nd (pi_seq (pv 3)) (blkOk_by (by kernel_rfl)) (fun _ _ _ _ _ => (pg_name (i := 6) scBoxBy.nd rfl (by first | exact Or.inl rfl | exact Or.inr rfl))) (fun _ _ _ _ _ => pts_nil) (fun _ _ _ _ _ => (pe_ix ix_seq (pv 1) (pv 6) (fun _ _ => rfl)))) pa_nil)) pa_nil)) rfl)
      (pss_one (ps_ret (pe_tup (pa_cons (pe_callB (call_max2 rfl) (by rfl) B.max (by decide +kernel) (pa_cons pe_int (pa_cons (pe_op op_sub (pe_op op_add (pv 4) (pv 5)) (pe_callB (cr_sumA rfl) (by rfl) B.sum (by decide +kernel) (pa_cons (pv 0) pa_nil))) pa_nil))) (pa_cons (pe_callB (call_min2 rfl) (by rfl) B.min (by decide +kernel) (pa_cons (pv 4) (pa_cons (pv 5) pa_nil))) pa_nil)))))), ?_⟩
  refine sr_seq (sn_par (ea_cons (ed_cb (ea_cons (ed_lcm (enc := PyData.int) (ds := so) (fun i => .int (la rows i)) (wd_seq (ed_var rfl) (.inr rfl)) (by omega) (js := [6]) (by decide) fun i hi => ⟨_, gd_name, ed_op (ed_var rfl) (ed_var rfl) (od_ixI (.inr rfl) (s1 i hi).1 (la_at (s1 i hi).1 (s1 i hi).2))⟩) ea_nil) cd_summ) (ea_cons (ed_cb (ea_cons (ed_lcm (enc := PyData.int) (ds := ot) (fun i => .int (la cols i)) (wd_seq (ed_var rfl) (.inr rfl)) (by omega) (js := [6]) (by decide) fun i hi => ⟨_, gd_name, ed_op (ed_var rfl) (ed_var rfl) (od_ixI (.inr rfl) (o1 i hi).1 (la_at (o1 i hi).1 (o1 i hi).2))⟩) ea_nil) cd_summ) ea_nil))) (sr_ret (ed_tup (xs := dIs (boxI rows cols so ot)) (ea_cons (ed_cb (ea_cons ed_int (ea_cons (ed_op (ed_op (ed_var rfl) (ed_var rfl) od_I0) (ed_cb (ea_cons (ed_var rfl) ea_nil) (cd_sum (.inr rfl))) od_I0) ea_nil)) cd_max2) (ea_cons (ed_cb (ea_cons (ed_var rfl) (ea_cons (ed_var rfl) ea_nil)) cd_min2) ea_nil)) (by show 2 ≤ 1000000; decide)))
theorem scFirstOnes : FnScope ["many", "some", "at"] ["many", "some"] (defScope sFirstOnes) := ⟨rfl, rfl, rfl, by decide +kernel, rfl, by decide +kernel, by decide +kernel⟩
theorem ea_is {δ : De} {t : TA} {xs ys : List Sl} (h : Ea K t δ xs) (e : xs = ys) : Ea K t δ ys := e ▸ h
abbrev HFirstOnes (P : Program) (w : World) (K : PySem.W.Frag) (mg : Str → Option Value) (base : Heap) : Prop := Has P w K mg base 1 "first_ones" ["many", "some"] (spD K rFirstOnes)
theorem ok_FirstOnes {f : Addr} {fd : FuncData} (F : Fun K "first_ones" "first_ones" sFirstOnes f fd) (B : Bl mg) : FnOk P w K mg base CX0 1 f fd ["many", "some"] (spD K rFirstOnes) := by
  refine fnD F scFirstOnes (fun ds x h => ?_) fun cdv A outer s H E hr ds x h => ?_
  · obtain ⟨m, so, rfl, hm, hs, rfl⟩ := h; rfl
  obtain ⟨m, so, rfl, hm, hs, rfl⟩ := h
  refine ⟨_, (pss_one (ps_ret (pe_lst (pa_star (pv 1) (pa_star (pe_lc (own := [("at", 2)]) (g := (gName 2)) (tt := (tTest (tOp (rIn K true) (tVar 2) (tVar 1)))) (te := (tVar 2)) rfl scFirstOnes.nd (pi_range1 (by rfl) B.range (pa_cons (pv 0) pa_nil)) (blkOk_by (by kernel_rfl)) (fun _ _ _ _ _ => (pg_name (i := 2) scFirstOnes.nd rfl (by first | exact Or.inl rfl | exact Or.inr rfl))) (fun _ _ _ _ _ => (pts_one (pt_cmpR op_notIn_seq (pv 2) (pv 1) (by rfl)))) (fun _ _ _ _ _ => (pv 2))) pa_nil))))), ?_⟩
  refine sr_ret (ed_is (ed_lst (xs := dIs (firstOnes m so)) (ea_is (ea_star (ed_var rfl) (.inr rfl) (ea_star (ed_lc (enc := fun i : Nat => PyData.int (i : Int)) (ds := List.range m) (fun i => !decide ((i : Int) ∈ so)) (fun i => .int (i : Int)) (wd_rngN (ea_cons (ed_var rfl) ea_nil) (by omega)) (by rw [List.length_range]; omega) (js := [2]) (by decide) fun i hi => ⟨_, gd_name, et_test (ed_op (ed_var rfl) (ed_var rfl) (od_notIn (.inr rfl))), fun _ => ed_var rfl⟩) (.inl rfl) ea_nil)) ?_) ?_) rfl)
  · unfold firstOnes
    simp [dIs, List.map_append, List.map_map, Function.comp_def]
  · rw [dIs, List.length_map]; unfold firstOnes
    rw [List.length_append, List.length_map]
    have := List.length_filter_le (fun (i : Nat) => !decide ((i : Int) ∈ so)) (List.range m)
    rw [List.length_range] at this
    omega
theorem scBoxEnds : FnScope ["rows", "columns", "some", "others"] ["rows", "columns", "some", "others"] (defScope sBoxEnds) := ⟨rfl, rfl, rfl, by decide +kernel, rfl, by decide +kernel, by decide +kernel⟩
abbrev HBoxEnds (P : Program) (w : World) (K : PySem.W.Frag) (mg : Str → Option Value) (base : Heap) : Prop := Has P w K mg base 5 "box_ends" ["rows", "columns", "some", "others"] (spD K rBoxEnds)
theorem ok_BoxEnds {f : Addr} {fd : FuncData} (F : Fun K "box_ends" "box_ends" sBoxEnds f fd) (B : Bl mg) (H_check_box : HCheckBox P w K mg base) (H_box_by : HBoxBy P w K mg base) : FnOk P w K mg base CX0 5 f fd ["rows", "columns", "some", "others"] (spD K rBoxEnds) := by
  obtain ⟨f_check_box, fd_check_box, G_check_box, m_check_box, k_check_box, b_check_box⟩ := H_check_box
  obtain ⟨f_box_by, fd_box_by, G_box_by, m_box_by, k_box_by, b_box_by⟩ := H_box_by
  refine fnD F scBoxEnds (fun ds x h => ?_) fun cdv A outer s H E hr ds x h => ?_
  · obtain ⟨rows, cols, so, ot, rfl, h1, h2, h3, rfl⟩ := h; rfl
  obtain ⟨rows, cols, so, ot, rfl, h1, h2, h3, rfl⟩ := h
  refine ⟨_, (pss_cons (ps_expr (pe_call G_check_box (hr.mono (by decide)) (by rfl) m_check_box k_check_box b_check_box .nil pass0 (pa_cons (pv 0) (pa_cons (pv 1) (pa_cons (pv 2) (pa_cons (pv 3) pa_nil))))))
      (pss_one (ps_ret (pe_call G_box_by (hr.mono (by decide)) (by rfl) m_box_by k_box_by b_box_by .nil pass0 (pa_cons (pv 0) (pa_cons (pv 1) (pa_cons (pv 2) (pa_cons (pv 3) pa_nil)))))))), ?_⟩
  exact sr_seq (sn_drop (ed_call (ea_cons (ed_var rfl) (ea_cons (ed_var rfl) (ea_cons (ed_var rfl) (ea_cons (ed_var rfl) ea_nil)))) (pd_of ⟨⟨rows, cols, so, ot, rfl, h1, h2, h3⟩, rfl⟩))) (sr_ret (ed_call (ea_cons (ed_var rfl) (ea_cons (ed_var rfl) (ea_cons (ed_var rfl) (ea_cons (ed_var rfl) ea_nil)))) (pd_of ⟨rows, cols, so, ot, rfl, h2, h3, rfl⟩)))
theorem scTaken : FnScope ["left", "row", "room", "cell"] ["left", "row"] (defScope sTaken) := ⟨rfl, rfl, rfl, by decide +kernel, rfl, by decide +kernel, by decide +kernel⟩
theorem zip_sub (l r : List Int) : (l.zip r).map (fun p => p.1 - p.2) = Gm.sub l r := by
  unfold Gm.sub
  rw [List.zip, List.map_zipWith]
abbrev HTaken (P : Program) (w : World) (K : PySem.W.Frag) (mg : Str → Option Value) (base : Heap) : Prop := Has P w K mg base 1 "taken" ["left", "row"] (spD K rTaken)
theorem ok_Taken {f : Addr} {fd : FuncData} (F : Fun K "taken" "taken" sTaken f fd) (B : Bl mg) : FnOk P w K mg base CX0 1 f fd ["left", "row"] (spD K rTaken) := by
  refine fnD F scTaken (fun ds x h => ?_) fun cdv A outer s H E hr ds x h => ?_
  · obtain ⟨l, r, rfl, hl, rfl⟩ := h; rfl
  obtain ⟨l, r, rfl, hl, rfl⟩ := h
  refine ⟨_, (pss_one (ps_ret (pe_callTy call_tuple_of (by rfl) B.tuple (by decide +kernel) (pa_cons (pe_lc (own := [("room", 2), ("cell", 3)]) (g := (gTup K 2 (gCons (gName 2) (gCons (gName 3) gNil)))) (tt := tYes) (te := (tOp (rI0 fun i j => V.int (i - j)) (tVar 2) (tVar 3))) rfl scTaken.nd (RZ.pi_zipA (by rfl) B.zip (pa_cons (pv 0) (pa_cons (pv 1) pa_nil))) (blkOk_by (by kernel_rfl)) (fun _ _ _ _ _ => (pg_tup rfl (pgs_cons (pg_name (i := 2) scTaken.nd rfl (by first | exact Or.inl rfl | exact Or.inr rfl)) (pgs_cons (pg_name (i := 3) scTaken.nd rfl (by first | exact Or.inl rfl | exact Or.inr rfl)) pgs_nil)))) (fun _ _ _ _ _ => pts_nil) (fun _ _ _ _ _ => (pe_op op_sub (pv 2) (pv 3)))) pa_nil)))), ?_⟩
  refine sr_ret (ed_is (ed_cb (ea_cons (ed_lcm (enc := fun p : Int × Int => .tuple [.int p.1, .int p.2]) (ds := l.zip r) (fun p => .int (p.1 - p.2)) ?_ ?_ (js := [2, 3]) (by decide) fun p hp => ⟨_, gd_tup2, ed_op (ed_var rfl) (ed_var rfl) od_I0⟩) ea_nil) (cd_tupOf (.inl rfl))) ?_)
  · rw [← dZ_ints]
    exact wd_zipT (ea_cons (ed_var rfl) (ea_cons (ed_var rfl) ea_nil))
  · rw [List.length_zip]; omega
  · rw [ints_map (f := fun p : Int × Int => p.1 - p.2), zip_sub]
end
end G29
end L2
set_option Elab.async false
set_option linter.all false
set_option maxRecDepth 100000
set_option maxHeartbeats 4000000
namespace L2
namespace G29
open PySem PySem.Spec PyProof.Rows
abbrev sRowsWithin : Stmt := topS 24

section
variable {K : PySem.W.Frag} {δ : De}
theorem le_nil : Le [] [] := ⟨rfl, fun _ _ h => h⟩
theorem le_some {x : Option Sl} {a b : De} (h : Le a b) : Le (x :: a) (x :: b) := ⟨by rw [List.length_cons, List.length_cons, h.1], fun i y hy => by
  cases i with
  | zero => exact hy
  | succ i => exact h.2 i y hy⟩
theorem le_none {x : Option Sl} {a b : De} (h : Le a b) : Le (none :: a) (x :: b) := ⟨by rw [List.length_cons, List.length_cons, h.1], fun i y hy => by
  cases i with
  | zero => cases hy
  | succ i => exact h.2 i y hy⟩
theorem sn_forM {α : Type} {enc : α → PyData} {ds : List α} {wi : TI} {g : TG} {t : TS} {js : List Nat} (Δ : Nat → De) (hw : Wd K wi (Δ 0) (ds.map enc)) (hs : ∀ (i : Nat) a, ds[i]? = some a → ∃ δ1, Gd K g js (Δ i) (.d (enc a)) δ1 ∧ Sn K t δ1 (Δ (i + 1))) : Sn K (tFor wi g t) (Δ 0) (Δ ds.length) := by
  have h := sn_for (t := t) (g := g) (js := js) Δ hw fun i d hd => by
    rw [List.getElem?_map] at hd
    obtain ⟨a, ha, rfl⟩ := Option.map_eq_some_iff.mp hd
    exact hs i a ha
  rw [List.length_map] at h
  exact h
theorem take_snoc {α : Type} {l : List α} {i : Nat} {a : α} (h : l[i]? = some a) : l.take (i + 1) = l.take i ++ [a] := by rw [List.take_add_one, h]; rfl
def encP (p : List Int × Int) : PyData := .tuple [dT p.1, .int p.2]
def wS (t : Int) (cs : List Int) (i : Nat) : List (List Int × Int) := (cs.take i).foldl (fun f c => Gm.wStep c f) [([], t)]
theorem wS_succ {t : Int} {cs : List Int} {i : Nat} {c : Int} (h : cs[i]? = some c) : wS t cs (i + 1) = Gm.wStep c (wS t cs i) := by
  unfold wS
  rw [take_snoc h, List.foldl_append]; rfl
theorem wS_inv {t : Int} (ht : 0 ≤ t) {cs : List Int} : ∀ i : Nat, i ≤ cs.length → ∀ p ∈ wS t cs i, p.1.length = i ∧ 0 ≤ p.2
  | 0, _, p, hp => by
    have : p = ([], t) := List.mem_singleton.mp hp
    subst this
    exact ⟨rfl, ht⟩
  | i + 1, hi, p, hp => by
    rw [wS_succ (List.getElem?_eq_getElem (by omega))] at hp
    obtain ⟨p0, h0, hp⟩ := List.mem_flatMap.mp hp
    obtain ⟨x, hx, rfl⟩ := List.mem_map.mp hp
    have := wS_inv ht i (by omega) p0 h0
    rw [List.mem_range] at hx
    refine ⟨by rw [List.length_append, this.1]; rfl, ?_⟩
    show 0 ≤ p0.2 - (x : Int)
    omega
theorem wS_len {t : Int} {cs : List Int} (hc : ∀ c ∈ cs, 0 ≤ c ∧ c ≤ 9) (h4 : cs.length ≤ 4) (i : Nat) : (wS t cs i).length ≤ 10000 := by
  have h := Gm.wFold_len (cs.take i) [([], t)] fun c hc' => (hc c (List.mem_of_mem_take hc')).2
  rw [List.length_singleton, Nat.mul_one] at h
  refine Nat.le_trans h ?_
  have : (cs.take i).length ≤ 4 := by rw [List.length_take]; omega
  exact Nat.le_trans (Nat.pow_le_pow_right (by decide) this) (by decide)
theorem wS_end (t : Int) (cs : List Int) : Gm.wEnd (wS t cs cs.length) = Gm.wr t cs := by
  unfold wS
  rw [List.take_length]; exact Gm.wFold_eq t cs
end
def rRowsWithin : List Sl → Sl → Prop := fun ds x => ∃ (t : Int) (cs : List Int), ds = [sI t, sT cs] ∧ 0 ≤ t ∧ cs.length ≤ 4 ∧ (∀ c ∈ cs, 0 ≤ c ∧ c ≤ 9) ∧ x = .d (dLT (Gm.wr t cs))
section
variable {P : Program} {w : World} {K : PySem.W.Frag} {mg : Str → Option Value} {base : Heap}
theorem scRowsWithin : FnScope ["total", "left", "found", "room", "row", "rest", "cell"] ["total", "left"] (defScope sRowsWithin) := ⟨rfl, rfl, rfl, by decide +kernel, rfl, by decide +kernel, by decide +kernel⟩
abbrev HRowsWithin (P : Program) (w : World) (K : PySem.W.Frag) (mg : Str → Option Value) (base : Heap) : Prop := Has P w K mg base 1 "rows_within" ["total", "left"] (spD K rRowsWithin)
theorem ok_RowsWithin {f : Addr} {fd : FuncData} (F : Fun K "rows_within" "rows_within" sRowsWithin f fd) (B : Bl mg) : FnOk P w K mg base CX0 1 f fd ["total", "left"] (spD K rRowsWithin) := by
  refine fnD F scRowsWithin (fun ds x h => ?_) fun cdv A outer s H E hr ds x h => ?_
  · obtain ⟨t, cs, rfl, ht, h4, hc, rfl⟩ := h; rfl
  obtain ⟨t, cs, rfl, ht, h4, hc, rfl⟩ := h
  refine ⟨_, (pss_cons (ps_set (i := 2) scRowsWithin.nd rfl (by first | exact Or.inl rfl | exact Or.inr rfl) (pe_lst (pa_cons (pe_tup (pa_cons (pe_tup pa_nil) (pa_cons (pv 0) pa_nil))) pa_nil)))
      (pss_cons (ps_for PassesOwn.never rfl (pi_seq (pv 1)) (pg_name (i := 3) scRowsWithin.nd rfl (by first | exact Or.inl rfl | exact Or.inr rfl)) (pss_one (ps_setLc2 (i := 2) (own := [("row", 4), ("rest", 5), ("cell", 6)]) (vs1 := [6]) (g := (gTup K 2 (gCons (gName 4) (gCons (gName 5) gNil)))) (g1 := (gName 6)) (tt := tYes) (tt1 := tYes) (wi1 := (iRng1 (tCons (tOp (rI0 fun i j => V.int (i + j)) (tCB rMin2 (tCons (tVar 3) (tCons (tVar 5) tNil))) (tC (V.int 1))) tNil))) (te := (tTup (tCons (tTup (tStar K (tVar 4) (tCons (tVar 6) tNil))) (tCons (tOp (rI0 fun i j => V.int (i - j)) (tVar 5) (tVar 6)) tNil)))) rfl scRowsWithin.nd rfl rfl (sw_true rfl rfl rfl (by decide +kernel)) (pi_seq (pv 2)) (blkOk_by (by kernel_rfl)) (by decide) (fun _ _ _ _ _ => (pg_tup rfl (pgs_cons (pg_name (i := 4) scRowsWithin.nd rfl (by first | exact Or.inl rfl | exact Or.inr rfl)) (pgs_cons (pg_name (i := 5) scRowsWithin.nd rfl (by first | exact Or.inl rfl | exact Or.inr rfl)) pgs_nil)))) (fun _ _ _ _ _ => pts_nil) (fun _ _ _ _ _ => (pi_range1 (by rfl) B.range (pa_cons (pe_op op_add (pe_callB (call_min2 rfl) (by rfl) B.min (by decide +kernel) (pa_cons (pv 3) (pa_cons (pv 5) pa_nil))) pe_int) pa_nil))) (fun _ _ _ _ _ => (pg_name (i := 6) scRowsWithin.nd rfl (by first | exact Or.inl rfl | exact Or.inr rfl))) (fun _ _ _ _ _ => pts_nil) (fun _ _ _ _ _ => (pe_tup (pa_cons (pe_tup (pa_star (pv 4) (pa_cons (pv 6) pa_nil))) (pa_cons (pe_op op_sub (pv 5) (pv 6)) pa_nil)))))))
      (pss_one (ps_ret (pe_lc (own := [("row", 4), ("rest", 5)]) (g := (gTup K 2 (gCons (gName 4) (gCons (gName 5) gNil)))) (tt := (tTest (tOp rEq (tVar 5) (tC (V.int 0))))) (te := (tVar 4)) rfl scRowsWithin.nd (pi_seq (pv 2)) (blkOk_by (by kernel_rfl)) (fun _ _ _ _ _ => (pg_tup rfl (pgs_cons (pg_name (i := 4) scRowsWithin.nd rfl (by first | exact Or.inl rfl | exact Or.inr rfl)) (pgs_cons (pg_name (i := 5) scRowsWithin.nd rfl (by first | exact Or.inl rfl | exact Or.inr rfl)) pgs_nil)))) (fun _ _ _ _ _ => (pts_one (pt_cmpR op_eq (pv 5) pe_int (nomark _)))) (fun _ _ _ _ _ => (pv 4))))))), ?_⟩
  refine sr_seq (sn_set (ed_lst (xs := [.tuple [.tuple [], .int t]]) (ea_cons (ed_tup (xs := [.tuple [], .int t]) (ea_cons (ed_tup (xs := []) ea_nil (by decide)) (ea_cons (ed_var rfl) ea_nil)) (by show 2 ≤ 1000000; decide)) ea_nil) (by show 1 ≤ 1000000; decide))) (sr_seq (sn_forM (α := Int) (enc := .int) (ds := cs) (js := [3]) (fun i => [some (sI t), some (sT cs), some (.d (.list ((wS t cs i).map encP))), none, none, none, none]) (wd_seq (ed_var rfl) (.inr rfl)) fun i c hi => ⟨_, gd_name, ?_⟩) (sr_ret (ed_is (ed_lc (enc := encP) (ds := wS t cs cs.length) (fun p => decide (p.2 = 0)) (fun p => dT p.1) (wd_seq (ed_var rfl) (.inl rfl)) (Nat.le_trans (wS_len hc h4 _) (by decide)) (js := [4, 5]) (by decide) fun p hp => ⟨_, gd_tup2, et_test (ed_op (ed_var rfl) ed_int od_eqI), fun _ => ed_var rfl⟩) ?_)))
  · have hci : c ∈ cs := List.mem_of_getElem? hi
    have hil : i < cs.length := (List.getElem?_eq_some_iff.mp hi).1
    have hl := wS_len (t := t) hc h4 (i + 1)
    rw [wS_succ hi] at hl
    refine sn_le (sn_set (x := .d (.list ((wS t cs (i + 1)).map encP))) (ed_is (ed_lc2 (enc := encP) (enc2 := fun k : Nat => PyData.int (k : Int)) (ds := wS t cs i) (fun p => List.range (min c p.2 + 1).toNat) (fun p k => encP (p.1 ++ [(k : Int)], p.2 - (k : Int))) (wd_seq (ed_var rfl) (.inl rfl)) ?_ (js := [4, 5]) (js1 := [6]) (by decide) (by decide) fun p hp => ⟨_, gd_tup2, ?_, fun k hk => ⟨_, gd_name, ?_⟩⟩) ?_)) (le_some (le_some (le_some (le_none (le_none (le_none (le_none le_nil)))))))
    rotate_right
    · exact congrArg (fun z => Sl.d (.list z)) (by
        show _ = (wS t cs (i + 1)).map encP
        rw [wS_succ hi]
        unfold Gm.wStep
        rw [List.map_flatMap]
        congr 1
        funext p
        rw [List.map_map]; rfl)
    · refine Nat.le_trans (Nat.le_of_eq ?_) (Nat.le_trans hl (by decide))
      unfold Gm.wStep
      rw [List.length_flatMap, List.length_flatMap]
      congr 2
      funext p
      rw [List.length_map, List.length_map]
    · have h2 := (wS_inv ht i (by omega) p hp).2
      have h3 := hc c hci
      exact wd_rng1 (ea_cons (ed_op (ed_cb (ea_cons (ed_var rfl) (ea_cons (ed_var rfl) ea_nil)) cd_min2) ed_int od_I0) ea_nil) (by omega) (by omega)
    · have h2 := (wS_inv ht i (by omega) p hp).1
      refine ed_tup (xs := [dT (p.1 ++ [(k : Int)]), .int (p.2 - (k : Int))]) (ea_cons (ed_tup (xs := dIs (p.1 ++ [(k : Int)])) (ea_is (ea_star (ed_var rfl) (.inr rfl) (ea_cons (ed_var rfl) ea_nil)) ?_) ?_) (ea_cons (ed_op (ed_var rfl) (ed_var rfl) od_I0) ea_nil)) (by show 2 ≤ 1000000; decide)
      · simp [dIs]
      · rw [dIs, List.length_map, List.length_append, h2, List.length_singleton]; omega
  · rw [← wS_end]
    unfold Gm.wEnd
    rw [dLT, List.map_map]; rfl
end
end G29
end L2
set_option Elab.async false
set_option linter.all false
set_option maxRecDepth 100000
set_option maxHeartbeats 4000000
namespace L2
namespace G29
open PySem PySem.Spec PyProof.Rows
abbrev sLawNumber : Stmt := topS 31
abbrev sLawIsGrid : Stmt := topS 32
abbrev sLawInside : Stmt := topS 33
abbrev sLawFirsts : Stmt := topS 34

/-! ### least and greatest of a list -/
def minL : List Int → Int
  | [] => 0
  | [x] => x
  | x :: y :: l => min x (minL (y :: l))
def maxL : List Int → Int
  | [] => 0
  | [x] => x
  | x :: y :: l => max x (maxL (y :: l))
theorem minL_is : ∀ {l : List Int}, l ≠ [] → IsMin (minL l) l
  | [], h => absurd rfl h
  | [x], _ => ⟨List.mem_singleton.mpr rfl, fun y hy => by rw [List.mem_singleton.mp hy]; exact Int.le_refl _⟩
  | x :: y :: l, _ => by
    obtain ⟨h1, h2⟩ := minL_is (l := y :: l) (by intro z; cases z)
    refine ⟨?_, fun z hz => ?_⟩
    · show min x (minL (y :: l)) ∈ _
      by_cases h : x ≤ minL (y :: l)
      · rw [Int.min_eq_left h]; exact List.mem_cons_self
      · rw [Int.min_eq_right (by omega)]; exact List.mem_cons_of_mem _ h1
    · show min x (minL (y :: l)) ≤ z
      rcases List.mem_cons.mp hz with e | e
      · subst e; omega
      · have := h2 z e; omega
theorem maxL_is : ∀ {l : List Int}, l ≠ [] → IsMax (maxL l) l
  | [], h => absurd rfl h
  | [x], _ => ⟨List.mem_singleton.mpr rfl, fun y hy => by rw [List.mem_singleton.mp hy]; exact Int.le_refl _⟩
  | x :: y :: l, _ => by
    obtain ⟨h1, h2⟩ := maxL_is (l := y :: l) (by intro z; cases z)
    refine ⟨?_, fun z hz => ?_⟩
    · show max x (maxL (y :: l)) ∈ _
      by_cases h : x ≤ maxL (y :: l)
      · rw [Int.max_eq_right h]; exact List.mem_cons_of_mem _ h1
      · rw [Int.max_eq_left (by omega)]; exact List.mem_cons_self
    · show z ≤ max x (maxL (y :: l))
      rcases List.mem_cons.mp hz with e | e
      · subst e; omega
      · have := h2 z e; omega
/-! ### _law_number -/
def cellsI (xs : List Int) : List Int := if xs = [] then [7] else xs.take 60
def cellI (xs : List Int) (a : Int) : Int := la (cellsI xs) (a % ((cellsI xs).length : Int)) + 31 * (a / ((cellsI xs).length : Int))
def mixedI (xs : List Int) (a : Int) : Int := (cellI xs a % 1000003 + 977 * a + 13) * 48271 + (cellI xs a / 1000003) % 999983
def numI (xs : List Int) (a : Int) : Int := mixedI xs a % 2147483647 * 65537 % 4294967291
def rLawNumber : List Sl → Sl → Prop := fun ds x => ∃ (xs : List Int) (a : Int), ds = [sL xs, sI a] ∧ 0 ≤ a ∧ a ≤ 1000 ∧ x = sI (numI xs a)
theorem cellsI_ne (xs : List Int) : cellsI xs ≠ [] := by
  unfold cellsI
  split
  · intro z; cases z
  · cases xs with
    | nil => contradiction
    | cons x xs => intro z; cases z
theorem cellsI_len (xs : List Int) : 1 ≤ (cellsI xs).length ∧ (cellsI xs).length ≤ 60 := by
  have h := List.length_pos_iff.mpr (cellsI_ne xs)
  refine ⟨h, ?_⟩
  unfold cellsI
  split
  · decide
  · rw [List.length_take]; omega
theorem insideI_sum (g : List (List Int)) (so ot : List Int) : (so.map fun i => (ot.map fun j => ga g i j).sum).sum = insideI g so ot := by
  unfold insideI
  induction so with
  | nil => rfl
  | cons x so ih => rw [List.map_cons, List.sum_cons, ih, List.flatMap_cons, List.sum_append]
def rLawIsGrid : List Sl → Sl → Prop := fun ds x => ∃ (rows cols : List Int) (gx : PyData) (g : List (List Int)), ds = [sT rows, sT cols, .d gx] ∧ Tots rows cols ∧ GS gx g ∧ Gm.IsG rows cols g ∧ x = sB true
def rLawInside : List Sl → Sl → Prop := rInside
/-! ### _law_firsts -/
def fS (t : Int) (cs : List Int) (i : Nat) : List (List Int) := (cs.take i).foldl (fun f c => Gm.fStep t c f) [[]]
theorem fS_succ {t : Int} {cs : List Int} {i : Nat} {c : Int} (h : cs[i]? = some c) : fS t cs (i + 1) = Gm.fStep t c (fS t cs i) := by
  unfold fS
  rw [take_snoc h, List.foldl_append]; rfl
theorem fS_inv {t : Int} {cs : List Int} (hc : ∀ c ∈ cs, 0 ≤ c ∧ c ≤ 9) : ∀ i : Nat, i ≤ cs.length → ∀ p ∈ fS t cs i, p.length = i ∧ 0 ≤ p.sum ∧ p.sum ≤ 9 * i
  | 0, _, p, hp => by
    have : p = [] := List.mem_singleton.mp hp
    subst this
    exact ⟨rfl, Int.le_refl _, Int.le_refl _⟩
  | i + 1, hi, p, hp => by
    rw [fS_succ (List.getElem?_eq_getElem (by omega))] at hp
    obtain ⟨p0, h0, hp⟩ := List.mem_flatMap.mp hp
    obtain ⟨x, hx, rfl⟩ := List.mem_map.mp hp
    have := fS_inv hc i (by omega) p0 h0
    have h9 := (hc _ (List.getElem_mem (show i < cs.length by omega))).2
    rw [List.mem_range] at hx
    refine ⟨by rw [List.length_append, this.1]; rfl, ?_, ?_⟩ <;> rw [Gm.sum_snoc] <;> omega
theorem fS_len {t : Int} {cs : List Int} (hc : ∀ c ∈ cs, 0 ≤ c ∧ c ≤ 9) (h4 : cs.length ≤ 4) (i : Nat) : (fS t cs i).length ≤ 10000 := by
  have h := Gm.fFold_len t (cs.take i) [[]] fun c hc' => (hc c (List.mem_of_mem_take hc')).2
  rw [List.length_singleton, Nat.mul_one] at h
  refine Nat.le_trans h ?_
  have : (cs.take i).length ≤ 4 := by rw [List.length_take]; omega
  exact Nat.le_trans (Nat.pow_le_pow_right (by decide) this) (by decide)
theorem fS_end (t : Int) (cs : List Int) : ((fS t cs cs.length).filter fun r => decide (r.sum = t)) = Gm.wr t cs := by
  unfold fS
  rw [List.take_length]; exact Gm.fFold_eq t cs
def fE (t c : Int) (r : List Int) : List (List Int) := (List.range (min c (t - r.sum) + 1).toNat).map fun (x : Nat) => r ++ [(x : Int)]
theorem flat_pre {α β : Type} {f : α → List β} {l : List α} {i : Nat} : ((l.take i).flatMap f).length ≤ (l.flatMap f).length := by
  have := congrArg List.length (congrArg (List.flatMap f) (List.take_append_drop i l))
  rw [List.flatMap_append, List.length_append] at this
  omega
def rLawFirsts : List Sl → Sl → Prop := fun ds x => ∃ (t : Int) (cs : List Int), ds = [sI t, sT cs] ∧ 0 ≤ t ∧ t ≤ 100 ∧ cs.length ≤ 4 ∧ (∀ c ∈ cs, 0 ≤ c ∧ c ≤ 9) ∧ x = .d (dLT (Gm.wr t cs))
section
variable {P : Program} {w : World} {K : PySem.W.Frag} {mg : Str → Option Value} {base : Heap}
theorem scLawNumber : FnScope ["_law_script", "_law_at", "_law_cells", "_law_cell", "_law_mixed"] ["_law_script", "_law_at"] (defScope sLawNumber) := ⟨rfl, rfl, rfl, by decide +kernel, rfl, by decide +kernel, by decide +kernel⟩
abbrev HLawNumber (P : Program) (w : World) (K : PySem.W.Frag) (mg : Str → Option Value) (base : Heap) : Prop := Has P w K mg base 1 "_law_number" ["_law_script", "_law_at"] (spD K rLawNumber)
theorem ok_LawNumber {f : Addr} {fd : FuncData} (F : Fun K "_law_number" "_law_number" sLawNumber f fd) (B : Bl mg) : FnOk P w K mg base CX0 1 f fd ["_law_script", "_law_at"] (spD K rLawNumber) := by
  refine fnD F scLawNumber (fun ds x h => ?_) fun cdv A outer s H E hr ds x h => ?_
  · obtain ⟨xs, a, rfl, h0, h1, rfl⟩ := h; rfl
  obtain ⟨xs, a, rfl, h0, h1, rfl⟩ := h
  refine ⟨_, (pss_cons (ps_set (i := 2) scLawNumber.nd rfl (by first | exact Or.inl rfl | exact Or.inr rfl) (pe_ifExp (pt_cmpR (op_neD hr.units) (pv 0) (pe_lst pa_nil) (nomark _)) (pe_slice sl_list (pv 0) po_none (po_some pe_int)) (pe_lst (pa_cons pe_int pa_nil))))
      (pss_cons (ps_set (i := 3) scLawNumber.nd rfl (by first | exact Or.inl rfl | exact Or.inr rfl) (pe_op op_add (pe_ix ix_seq (pv 2) (pe_op op_mod (pv 1) (pe_callB call_len_seq (by rfl) B.len PySem.boot_len (pa_cons (pv 2) pa_nil))) (fun _ _ => rfl)) (pe_op op_mul pe_int (pe_op op_fdiv (pv 1) (pe_callB call_len_seq (by rfl) B.len PySem.boot_len (pa_cons (pv 2) pa_nil))))))
      (pss_cons (ps_set (i := 4) scLawNumber.nd rfl (by first | exact Or.inl rfl | exact Or.inr rfl) (pe_op op_add (pe_op op_mul (pe_op op_add (pe_op op_add (pe_op op_mod (pe_callTy call_int1 (by rfl) B.int (by decide +kernel) (pa_cons (pv 3) pa_nil)) pe_int) (pe_op op_mul pe_int (pv 1))) pe_int) pe_int) (pe_op op_mod (pe_callTy call_int1 (by rfl) B.int (by decide +kernel) (pa_cons (pe_op op_fdiv (pv 3) pe_int) pa_nil)) pe_int)))
      (pss_one (ps_ret (pe_op op_mod (pe_op op_mul (pe_op op_mod (pv 4) pe_int) pe_int) pe_int)))))), ?_⟩
  have hl := cellsI_len xs
  have hm0 : 0 ≤ a % ((cellsI xs).length : Int) := Int.emod_nonneg _ (by omega)
  have hm1 : a % ((cellsI xs).length : Int) < ((cellsI xs).length : Int) := Int.emod_lt_of_pos _ (by omega)
  refine sr_seq (sn_set (x := sL (cellsI xs)) (ed_if (b := !decide (xs = [])) (et_is (et_test (ed_op (ed_var rfl) (ed_lst (xs := []) ea_nil (by decide)) (od_neD (shaped_dL _) (shaped_dL [])))) (by rw [show PyData.list [] = dL [] from rfl, eqv_dL])) (fun e => ed_is (ed_slL (ed_var rfl) eo_none (eo_some ed_int)) ?_) fun e => ed_is (ed_lst (xs := dIs [7]) (ea_cons ed_int ea_nil) (by decide)) ?_)) (sr_seq (sn_set (x := sI (cellI xs a)) (ed_op (ed_op (ed_var rfl) (ed_op (ed_var rfl) (ed_len (ed_var rfl) (.inl rfl)) (od_I (by omega))) (od_ixI (.inl rfl) hm0 (la_at hm0 hm1))) (ed_op ed_int (ed_op (ed_var rfl) (ed_len (ed_var rfl) (.inl rfl)) (od_I ⟨by omega, by omega⟩)) (od_I (.inl (by decide)))) od_I0)) (sr_seq (sn_set (x := sI (mixedI xs a)) (ed_op (ed_op (ed_op (ed_op (ed_op (ed_cb (ea_cons (ed_var rfl) ea_nil) cd_int) ed_int (od_I (by decide))) (ed_op ed_int (ed_var rfl) (od_I (.inl (by decide)))) od_I0) ed_int od_I0) ed_int (od_I (.inr (by decide)))) (ed_op (ed_cb (ea_cons (ed_op (ed_var rfl) ed_int (od_I ⟨by decide, by decide⟩)) ea_nil) cd_int) ed_int (od_I (by decide))) od_I0)) (sr_ret (ed_op (ed_op (ed_op (ed_var rfl) ed_int (od_I (by decide))) ed_int (od_I (.inr (by decide)))) ed_int (od_I (by decide))))))
  · have hx : xs ≠ [] := of_decide_eq_false (by simpa using e)
    rw [show (60 : Int) = ((60 : Nat) : Int) from rfl, cutD_to, cellsI, if_neg hx, dIs, ← List.map_take]
  · have hx : xs = [] := of_decide_eq_true (by simpa using e)
    rw [cellsI, if_pos hx]
theorem scLawIsGrid : FnScope ["_law_rows", "_law_columns", "_law_grid", "_law_row", "_law_at"] ["_law_rows", "_law_columns", "_law_grid"] (defScope sLawIsGrid) := ⟨rfl, rfl, rfl, by decide +kernel, rfl, by decide +kernel, by decide +kernel⟩
abbrev HLawIsGrid (P : Program) (w : World) (K : PySem.W.Frag) (mg : Str → Option Value) (base : Heap) : Prop := Has P w K mg base 1 "_law_is_grid" ["_law_rows", "_law_columns", "_law_grid"] (spD K rLawIsGrid)
theorem ok_LawIsGrid {f : Addr} {fd : FuncData} (F : Fun K "_law_is_grid" "_law_is_grid" sLawIsGrid f fd) (B : Bl mg) : FnOk P w K mg base CX0 1 f fd ["_law_rows", "_law_columns", "_law_grid"] (spD K rLawIsGrid) := by
  refine fnD F scLawIsGrid (fun ds x h => ?_) fun cdv A outer s H E hr ds x h => ?_
  · obtain ⟨rows, cols, gx, g, rfl, ⟨⟨p1, p2, p3⟩, ⟨p4, p5, p6⟩, p7⟩, ⟨R, hR, hg⟩, q, rfl⟩ := h; rfl
  obtain ⟨rows, cols, gx, g, rfl, ⟨⟨p1, p2, p3⟩, ⟨p4, p5, p6⟩, p7⟩, ⟨R, hR, hg⟩, q, rfl⟩ := h
  refine ⟨_, (pss_cons (ps_if (PW.pt (pw_or (pt_cmpR (op_neD hr.units) (pe_lc (own := [("_law_row", 3)]) (g := (gName 3)) (tt := tYes) (te := (tCB (rSumA K) (tCons (tVar 3) tNil))) rfl scLawIsGrid.nd (pi_seq (pv 2)) (blkOk_by (by kernel_rfl)) (fun _ _ _ _ _ => (pg_name (i := 3) scLawIsGrid.nd rfl (by first | exact Or.inl rfl | exact Or.inr rfl))) (fun _ _ _ _ _ => pts_nil) (fun _ _ _ _ _ => (pe_callB (cr_sumA rfl) (by rfl) B.sum (by decide +kernel) (pa_cons (pv 3) pa_nil)))) (pe_callTy call_list_of (by rfl) B.list (by decide +kernel) (pa_cons (pv 0) pa_nil)) (nomark _)) (pw_or1 (pt_val (pe_callB (cr_any rfl) (by rfl) B.any (by decide +kernel) (pa_cons (pe_lc (own := [("_law_row", 3)]) (g := (gName 3)) (tt := tYes) (te := (tOp (rI0 fun i j => V.bl (decide (i < j))) (tCB (rMinA K) (tCons (tVar 3) tNil)) (tC (V.int 0)))) rfl scLawIsGrid.nd (pi_seq (pv 2)) (blkOk_by (by kernel_rfl)) (fun _ _ _ _ _ => (pg_name (i := 3) scLawIsGrid.nd rfl (by first | exact Or.inl rfl | exact Or.inr rfl))) (fun _ _ _ _ _ => pts_nil) (fun _ _ _ _ _ => (pe_cmpR op_lt (pe_callB (cr_minA rfl) (by rfl) B.min (by decide +kernel) (pa_cons (pv 3) pa_nil)) pe_int (nomark _)))) pa_nil)))))) (pss_one (ps_ret pe_bl)) pss_nil)
      (pss_one (ps_ret (pe_cmpR (op_eqD hr.units) (pe_lc (own := [("_law_at", 4)]) (g := (gName 4)) (tt := tYes) (te := (tCB (rSumA K) (tCons (tLc (iSeq K (tVar 2)) (gName 3) tYes (tOp (rIx K) (tVar 3) (tVar 4)) [3]) tNil))) rfl scLawIsGrid.nd (pi_range1 (by rfl) B.range (pa_cons (pe_callB call_len_seq (by rfl) B.len PySem.boot_len (pa_cons (pv 1) pa_nil)) pa_nil)) (blkOk_by (by kernel_rfl)) (fun _ _ _ _ _ => (pg_name (i := 4) scLawIsGrid.nd rfl (by first | exact Or.inl rfl | exact Or.inr rfl))) (fun _ _ _ _ _ => pts_nil) (fun _ _ _ _ _ => (pe_callB (cr_sumA rfl) (by rfl) B.sum (by decide +kernel) (pa_cons (pe_lc (own := [("_law_row", 3)]) (g := (gName 3)) (tt := tYes) (te := (tOp (rIx K) (tVar 3) (tVar 4))) rfl scLawIsGrid.nd (pi_seq (pv 2)) (blkOk_by (by kernel_rfl)) (fun _ _ _ _ _ => (pg_name (i := 3) scLawIsGrid.nd rfl (by first | exact Or.inl rfl | exact Or.inr rfl))) (fun _ _ _ _ _ => pts_nil) (fun _ _ _ _ _ => (pe_ix ix_seq (pv 3) (pv 4) (fun _ _ => rfl)))) pa_nil)))) (pe_callTy call_list_of (by rfl) B.list (by decide +kernel) (pa_cons (pv 1) pa_nil)) (nomark _))))), ?_⟩
  have hm := q.len
  have hr0 := q.row
  refine sr_ifs (b := false) (et_is (et_or (b := false) (et_is (et_test (ed_op (ed_is (ed_lcm (enc := R) (ds := g) (fun r => .int r.sum) (wd_seq (ed_var rfl) hg) (by omega) (js := [3]) (by decide) fun r hr' => ⟨_, gd_name, ed_cb (ea_cons (ed_var rfl) ea_nil) (cd_sum (rowS hR r))⟩) (congrArg (fun z => Sl.d (.list z)) (ints_map (f := List.sum)))) (ed_cb (ea_cons (ed_var rfl) ea_nil) (cd_lstOf (.inr rfl))) (od_neD (shaped_dL _) (shaped_dL _)))) (by rw [eqv_dL, decide_eq_true q.rs]; rfl)) fun _ => et_is (et_B (ed_cb (ea_cons (ed_lcm (enc := R) (ds := g) (fun r => .bool (decide (minL r < 0))) (wd_seq (ed_var rfl) hg) (by omega) (js := [3]) (by decide) fun r hr' => ⟨_, gd_name, ed_op (ed_cb (ea_cons (ed_var rfl) ea_nil) (cd_min (rowS hR r) (minL_is ?_))) ed_int od_B0⟩) ea_nil) cd_anym)) ?_) rfl) (fun e => by cases e) fun _ => ?_
  · intro z
    have := (hr0 r hr').1
    rw [z] at this
    have : cols.length = 0 := this.symm
    omega
  · rw [Bool.eq_false_iff]
    intro z
    obtain ⟨r, hr', hb⟩ := List.any_eq_true.mp z
    have hne : r ≠ [] := by
      intro z
      have := (hr0 r hr').1
      rw [z] at this
      have : cols.length = 0 := this.symm
      omega
    have := (hr0 r hr').2 _ (minL_is hne).1
    have := of_decide_eq_true hb
    omega
  refine sr_ret (ed_is (ed_op (ed_is (ed_lcm (enc := fun i : Nat => PyData.int (i : Int)) (ds := List.range cols.length) (fun i => .int (Gm.colsum g i)) (wd_rngN (ea_cons (ed_len (ed_var rfl) (.inr rfl)) ea_nil) (by omega)) (by rw [List.length_range]; omega) (js := [4]) (by decide) fun i hi => ⟨_, gd_name, ed_cb (ea_cons (ed_lcm (enc := R) (ds := g) (fun r => .int (r.getD i 0)) (wd_seq (ed_var rfl) hg) (by omega) (js := [3]) (by decide) fun r hr' => ⟨_, gd_name, ed_op (ed_var rfl) (ed_var rfl) (od_ix (rowS hR r) (rw_at (by rw [(hr0 r hr').1]; exact List.mem_range.mp hi)))⟩) ea_nil) cd_summ⟩) (congrArg (fun z => Sl.d (.list z)) (ints_map (f := Gm.colsum g)))) (ed_cb (ea_cons (ed_var rfl) ea_nil) (cd_lstOf (.inr rfl))) (od_eqD (shaped_dL _) (shaped_dL _))) ?_)
  rw [eqv_dL]
  exact congrArg sB (decide_eq_true q.cs)
theorem scLawInside : FnScope ["_law_grid", "_law_some", "_law_others", "_law_other", "_law_one"] ["_law_grid", "_law_some", "_law_others"] (defScope sLawInside) := ⟨rfl, rfl, rfl, by decide +kernel, rfl, by decide +kernel, by decide +kernel⟩
abbrev HLawInside (P : Program) (w : World) (K : PySem.W.Frag) (mg : Str → Option Value) (base : Heap) : Prop := Has P w K mg base 1 "_law_inside" ["_law_grid", "_law_some", "_law_others"] (spD K rLawInside)
theorem ok_LawInside {f : Addr} {fd : FuncData} (F : Fun K "_law_inside" "_law_inside" sLawInside f fd) (B : Bl mg) : FnOk P w K mg base CX0 1 f fd ["_law_grid", "_law_some", "_law_others"] (spD K rLawInside) := by
  refine fnD F scLawInside (fun ds x h => ?_) fun cdv A outer s H E hr ds x h => ?_
  · obtain ⟨gx, g, so, ot, m, n, rfl, ⟨R, hR, hg⟩, ⟨s1, _, s2⟩, ⟨o1, _, o2⟩, hm, hn, rfl⟩ := h; rfl
  obtain ⟨gx, g, so, ot, m, n, rfl, ⟨R, hR, hg⟩, ⟨s1, _, s2⟩, ⟨o1, _, o2⟩, hm, hn, rfl⟩ := h
  refine ⟨_, (pss_one (ps_ret (pe_callB (cr_sumA rfl) (by rfl) B.sum (by decide +kernel) (pa_cons (pe_lc (own := [("_law_one", 4)]) (g := (gName 4)) (tt := tYes) (te := (tCB (rSumA K) (tCons (tLc (iSeq K (tVar 2)) (gName 3) tYes (tOp (rIx K) (tOp (rIx K) (tVar 0) (tVar 4)) (tVar 3)) [3]) tNil))) rfl scLawInside.nd (pi_seq (pv 1)) (blkOk_by (by kernel_rfl)) (fun _ _ _ _ _ => (pg_name (i := 4) scLawInside.nd rfl (by first | exact Or.inl rfl | exact Or.inr rfl))) (fun _ _ _ _ _ => pts_nil) (fun _ _ _ _ _ => (pe_callB (cr_sumA rfl) (by rfl) B.sum (by decide +kernel) (pa_cons (pe_lc (own := [("_law_other", 3)]) (g := (gName 3)) (tt := tYes) (te := (tOp (rIx K) (tOp (rIx K) (tVar 0) (tVar 4)) (tVar 3))) rfl scLawInside.nd (pi_seq (pv 2)) (blkOk_by (by kernel_rfl)) (fun _ _ _ _ _ => (pg_name (i := 3) scLawInside.nd rfl (by first | exact Or.inl rfl | exact Or.inr rfl))) (fun _ _ _ _ _ => pts_nil) (fun _ _ _ _ _ => (pe_ix ix_seq (pe_ix ix_seq (pv 0) (pv 4) (fun _ _ => rfl)) (pv 3) (fun _ _ => rfl)))) pa_nil)))) pa_nil)))), ?_⟩
  exact sr_ret (ed_is (ed_cb (ea_cons (ed_lcm (enc := PyData.int) (ds := so) (fun i => .int (ot.map fun j => ga g i j).sum) (wd_seq (ed_var rfl) (.inr rfl)) (by omega) (js := [4]) (by decide) fun i hi => ⟨_, gd_name, ed_cb (ea_cons (ed_lcm (enc := PyData.int) (ds := ot) (fun j => .int (ga g i j)) (wd_seq (ed_var rfl) (.inr rfl)) (by omega) (js := [3]) (by decide) fun j hj => ⟨_, gd_name, ed_op (ed_op (ed_var rfl) (ed_var rfl) (od_ixI hg (s1 i hi).1 (ga_at (s1 i hi).1 (by rw [hm]; exact (s1 i hi).2)))) (ed_var rfl) (od_ixI (rowS hR _) (o1 j hj).1 (la_at (o1 j hj).1 (by rw [hn _ (getD_mem (by have := s1 i hi; omega))]; exact (o1 j hj).2)))⟩) ea_nil) cd_summ⟩) ea_nil) cd_summ) (by rw [insideI_sum]))
theorem scLawFirsts : FnScope ["_law_total", "_law_columns", "_law_found", "_law_room", "_law_late", "_law_some", "_law_cell"] ["_law_total", "_law_columns"] (defScope sLawFirsts) := ⟨rfl, rfl, rfl, by decide +kernel, rfl, by decide +kernel, by decide +kernel⟩
abbrev HLawFirsts (P : Program) (w : World) (K : PySem.W.Frag) (mg : Str → Option Value) (base : Heap) : Prop := Has P w K mg base 1 "_law_firsts" ["_law_total", "_law_columns"] (spD K rLawFirsts)
theorem ok_LawFirsts {f : Addr} {fd : FuncData} (F : Fun K "_law_firsts" "_law_firsts" sLawFirsts f fd) (B : Bl mg) : FnOk P w K mg base CX0 1 f fd ["_law_total", "_law_columns"] (spD K rLawFirsts) := by
  refine fnD F scLawFirsts (fun ds x h => ?_) fun cdv A outer s H E hr ds x h => ?_
  · obtain ⟨t, cs, rfl, ht, ht2, h4, hc, rfl⟩ := h; rfl
  obtain ⟨t, cs, rfl, ht, ht2, h4, hc, rfl⟩ := h
  refine ⟨_, (pss_cons (ps_set (i := 2) scLawFirsts.nd rfl (by first | exact Or.inl rfl | exact Or.inr rfl) (pe_lst (pa_cons (pe_tup pa_nil) pa_nil)))
      (pss_cons (ps_for PassesOwn.never rfl (pi_seq (pv 1)) (pg_name (i := 3) scLawFirsts.nd rfl (by first | exact Or.inl rfl | exact Or.inr rfl)) (pss_cons (ps_set (i := 4) scLawFirsts.nd rfl (by first | exact Or.inl rfl | exact Or.inr rfl) (pe_lst pa_nil))
      (pss_cons (ps_for PassesOwn.never rfl (pi_seq (pv 2)) (pg_name (i := 5) scLawFirsts.nd rfl (by first | exact Or.inl rfl | exact Or.inr rfl)) (pss_one (ps_set (i := 4) scLawFirsts.nd rfl (by first | exact Or.inl rfl | exact Or.inr rfl) (pe_op op_catS (pv 4) (pe_lc (own := [("_law_cell", 6)]) (g := (gName 6)) (tt := tYes) (te := (tOp (rCatA K) (tVar 5) (tTup (tCons (tVar 6) tNil)))) rfl scLawFirsts.nd (pi_range1 (by rfl) B.range (pa_cons (pe_op op_add (pe_callB (call_min2 rfl) (by rfl) B.min (by decide +kernel) (pa_cons (pv 3) (pa_cons (pe_op op_sub (pv 0) (pe_callB (cr_sumA rfl) (by rfl) B.sum (by decide +kernel) (pa_cons (pv 5) pa_nil))) pa_nil))) pe_int) pa_nil)) (blkOk_by (by kernel_rfl)) (fun _ _ _ _ _ => (pg_name (i := 6) scLawFirsts.nd rfl (by first | exact Or.inl rfl | exact Or.inr rfl))) (fun _ _ _ _ _ => pts_nil) (fun _ _ _ _ _ => (pe_op op_catA (pv 5) (pe_tup (pa_cons (pv 6) pa_nil)))))))))
      (pss_one (ps_set (i := 2) scLawFirsts.nd rfl (by first | exact Or.inl rfl | exact Or.inr rfl) (pv 4))))))
      (pss_one (ps_ret (pe_lc (own := [("_law_some", 5)]) (g := (gName 5)) (tt := (tTest (tOp rEq (tCB (rSumA K) (tCons (tVar 5) tNil)) (tVar 0)))) (te := (tVar 5)) rfl scLawFirsts.nd (pi_seq (pv 2)) (blkOk_by (by kernel_rfl)) (fun _ _ _ _ _ => (pg_name (i := 5) scLawFirsts.nd rfl (by first | exact Or.inl rfl | exact Or.inr rfl))) (fun _ _ _ _ _ => (pts_one (pt_cmpR op_eq (pe_callB (cr_sumA rfl) (by rfl) B.sum (by decide +kernel) (pa_cons (pv 5) pa_nil)) (pv 0) (nomark _)))) (fun _ _ _ _ _ => (pv 5))))))), ?_⟩
  refine sr_seq (sn_set (ed_lst (xs := [.tuple []]) (ea_cons (ed_tup (xs := []) ea_nil (by decide)) ea_nil) (by show 1 ≤ 1000000; decide))) (sr_seq (sn_forM (α := Int) (enc := .int) (ds := cs) (js := [3]) (fun i => [some (sI t), some (sT cs), some (.d (dLT (fS t cs i))), none, none, none, none]) (wd_seq (ed_var rfl) (.inr rfl)) fun i c hi => ⟨_, gd_name, ?_⟩) (sr_ret (ed_is (ed_lc (enc := dT) (ds := fS t cs cs.length) (fun r => decide (r.sum = t)) (fun r => dT r) (wd_seq (ed_var rfl) (.inl rfl)) (Nat.le_trans (fS_len hc h4 _) (by decide)) (js := [5]) (by decide) fun p hp => ⟨_, gd_name, et_test (ed_op (ed_cb (ea_cons (ed_var rfl) ea_nil) (cd_sum (.inr rfl))) (ed_var rfl) od_eqI), fun _ => ed_var rfl⟩) ?_)))
  · have hci : c ∈ cs := List.mem_of_getElem? hi
    have hil : i < cs.length := (List.getElem?_eq_some_iff.mp hi).1
    have hl := fS_len (t := t) hc h4 (i + 1)
    rw [fS_succ hi] at hl
    refine sn_seq (sn_set (x := .d (.list [])) (ed_lst (xs := []) ea_nil (by decide))) (sn_seq (sn_forM (α := List Int) (enc := dT) (ds := fS t cs i) (js := [5]) (fun j => [some (sI t), some (sT cs), some (.d (dLT (fS t cs i))), some (sI c), some (.d (dLT (((fS t cs i).take j).flatMap (fE t c)))), none, none]) (wd_seq (ed_var rfl) (.inl rfl)) fun j r hj => ⟨_, gd_name, ?_⟩) (sn_le (sn_set (ed_var rfl)) ?_))
    · have hr' : r ∈ fS t cs i := List.mem_of_getElem? hj
      have hz := fS_inv hc i (by omega) r hr'
      have hp := flat_pre (f := fE t c) (l := fS t cs i) (i := j + 1)
      have hl' : ((fS t cs i).flatMap (fE t c)).length ≤ 10000 := hl
      have hc9 := hc c hci
      rw [take_snoc hj, List.flatMap_append, List.length_append] at hp
      refine sn_le (sn_set (x := .d (dLT (((fS t cs i).take (j + 1)).flatMap (fE t c)))) (ed_is (ed_op (ed_var rfl) (ed_lcm (enc := fun k : Nat => PyData.int (k : Int)) (ds := List.range (min c (t - r.sum) + 1).toNat) (fun k => dT (r ++ [(k : Int)])) (wd_rng1 (ea_cons (ed_op (ed_cb (ea_cons (ed_var rfl) (ea_cons (ed_op (ed_var rfl) (ed_cb (ea_cons (ed_var rfl) ea_nil) (cd_sum (.inr rfl))) od_I0) ea_nil)) cd_min2) ed_int od_I0) ea_nil) (by omega) (by omega)) (by rw [List.length_range]; omega) (js := [6]) (by decide) fun k hk => ⟨_, gd_name, ed_is (ed_op (ed_var rfl) (ed_tup (xs := dIs [(k : Int)]) (ea_cons (ed_var rfl) ea_nil) (by show 1 ≤ 1000000; decide)) (od_catT ?_)) (by rw [dT, dIs, dIs, dIs, List.map_append])⟩) (od_catL ?_)) ?_)) (le_some (le_some (le_some (le_some (le_some (le_none (le_none le_nil)))))))
      · rw [dIs, dIs, List.length_map, List.length_map, hz.1]; show i + 1 ≤ _; omega
      · rw [List.length_map, List.length_map, List.length_range]
        have e : (fE t c r).length = (min c (t - r.sum) + 1).toNat := by unfold fE; rw [List.length_map, List.length_range]
        rw [List.flatMap_cons, List.flatMap_nil, List.append_nil, e] at hp
        omega
      · rw [take_snoc hj, List.flatMap_append, List.flatMap_cons, List.flatMap_nil, List.append_nil]
        show Sl.d (.list (_ ++ _)) = Sl.d (.list (List.map dT _))
        rw [List.map_append]
        unfold fE
        rw [List.map_map]; rfl
    · rw [List.take_length]
      have e : fS t cs (i + 1) = (fS t cs i).flatMap (fE t c) := fS_succ hi
      rw [e]
      exact le_some (le_some (le_some (le_none (le_none (le_none (le_none le_nil))))))
  · rw [← fS_end]
end
end G29
end L2
set_option Elab.async false
set_option linter.all false
set_option maxRecDepth 100000
set_option maxHeartbeats 4000000
namespace L2
namespace G29
open PySem PySem.Spec PyProof.Rows
abbrev sBoxEndsInit : Stmt := inClass (topS 10) 0
abbrev sBoxEndsShows : Stmt := inClass (topS 10) 2
abbrev sBitsInit : Stmt := inClass (topS 11) 0
abbrev sBitsShows : Stmt := inClass (topS 11) 2
abbrev sBlockedInit : Stmt := inClass (topS 12) 0
abbrev sBlockedShows : Stmt := inClass (topS 12) 2

theorem look1 {a : Str} : ∀ vs : List V, vs.length = [a].length → ∃ v, ([a].zip vs).lookup a = some v ∧ vs[0]? = some v
  | [v], _ => ⟨v, by rw [List.zip_cons_cons, List.lookup_cons_self], rfl⟩
theorem look2a {a b : Str} : ∀ vs : List V, vs.length = [a, b].length → ∃ v, ([a, b].zip vs).lookup a = some v ∧ vs[0]? = some v
  | [v, _], _ => ⟨v, by rw [List.zip_cons_cons, List.lookup_cons_self], rfl⟩
theorem look2b {a b : Str} (h : (b == a) = false) : ∀ vs : List V, vs.length = [a, b].length → ∃ v, ([a, b].zip vs).lookup b = some v ∧ vs[1]? = some v
  | [_, v], _ => ⟨v, by rw [List.zip_cons_cons, List.zip_cons_cons, List.lookup_cons, h, List.lookup_cons_self], rfl⟩
theorem look1n {a m : Str} (h : (m == a) = false) : ∀ vs : List V, ([a].zip vs).lookup m = none
  | [] => rfl
  | v :: vs => by rw [List.zip_cons_cons, List.lookup_cons, h, List.zip_nil_left]; rfl
theorem look2n {a b m : Str} (h : (m == a) = false) (h2 : (m == b) = false) : ∀ vs : List V, ([a, b].zip vs).lookup m = none
  | [] => rfl
  | [v] => by rw [List.zip_cons_cons, List.lookup_cons, h, List.zip_nil_right]; rfl
  | v :: u :: vs => by rw [List.zip_cons_cons, List.zip_cons_cons, List.lookup_cons, h, List.lookup_cons, h2, List.zip_nil_left]; rfl
/-- a grid small enough -/
def Sm (g : List (List Int)) : Prop := g.length ≤ 1000
abbrev oE (CE : Addr) (g h : List (List Int)) : Sl := .obj CE ["least", "greatest"] [dTT g, dTT h]
abbrev oB (CB : Addr) (g : List (List Int)) : Sl := .obj CB ["grid"] [dTT g]
abbrev oK (CK : Addr) (so : List Int) : Sl := .obj CK ["some"] [dT so]
def rBoxInit : List Sl → List PyData → Prop := fun xs ds => ∃ (gx hx : PyData) (g h : List (List Int)), xs = [.d gx, .d hx] ∧ GS gx g ∧ GS hx h ∧ Sm g ∧ Sm h ∧ ds = [dTT g, dTT h]
def rBitsInit : List Sl → List PyData → Prop := fun xs ds => ∃ (gx : PyData) (g : List (List Int)), xs = [.d gx] ∧ GS gx g ∧ Sm g ∧ ds = [dTT g]
def rBlockedInit : List Sl → List PyData → Prop := fun xs ds => ∃ so : List Int, xs = [sT so] ∧ ds = [dT so]
def Grid (rows cols : List Int) (g : List (List Int)) : Prop := Rect rows.length cols.length g ∧ gridB rows cols g = true
def rBoxShows (CE : Addr) : List Sl → Sl → Prop := fun ds x => ∃ (g h : List (List Int)) (rows cols so ot : List Int), ds = [oE CE g h, sT rows, sT cols, sT so, sT ot] ∧ Tots rows cols ∧ Lines so rows.length ∧ Lines ot cols.length ∧ Grid rows cols g ∧ Grid rows cols h ∧ x = sB (decide ([insideI g so ot, insideI h so ot] = boxI rows cols so ot))
def rBitsShows (CB : Addr) : List Sl → Sl → Prop := fun ds x => ∃ (g : List (List Int)) (rows cols : List Int), ds = [oB CB g, sT rows, sT cols] ∧ Tots rows cols ∧ Grid rows cols g ∧ (∀ r ∈ g, ∀ c ∈ r, c < 2) ∧ x = sB true
def blockB (rows cols so : List Int) : Bool := decide ((cols.map fun c => min c (so.length : Int)).sum < (so.map (la rows)).sum)
def rBlockedShows (CK : Addr) : List Sl → Sl → Prop := fun ds x => ∃ (so rows cols : List Int), ds = [oK CK so, sT rows, sT cols] ∧ Tots rows cols ∧ Lines so rows.length ∧ x = sB (blockB rows cols so)
theorem gsT (g : List (List Int)) : GS (dTT g) g := ⟨dT, .inl rfl, .inr rfl⟩
theorem gsLL (g : List (List Int)) : GS (dLL g) g := ⟨dL, .inr rfl, .inl rfl⟩
section
variable {P : Program} {w : World} {K : PySem.W.Frag} {mg : Str → Option Value} {base : Heap}
theorem scBoxEndsInit : FnScope ["self", "least", "greatest", "row"] ["self", "least", "greatest"] (defScope sBoxEndsInit) := ⟨rfl, rfl, rfl, by decide +kernel, rfl, by decide +kernel, by decide +kernel⟩
abbrev HBoxEndsInit (P : Program) (w : World) (K : PySem.W.Frag) (mg : Str → Option Value) (base : Heap) (CE : Addr) : Prop := HInit P w K mg base 1 CE ["self", "least", "greatest"] ["least", "greatest"] rBoxInit
theorem ok_BoxEndsInit {f : Addr} {fd : FuncData} {CE : Addr} (F : Fun K "__init__" "BoxEnds.__init__" sBoxEndsInit f fd) (B : Bl mg) (c : Cls K CE) (n0 : NoAttr K CE "least") (n1 : NoAttr K CE "greatest") : FnOk P w K mg base CX0 1 f fd ["self", "least", "greatest"] (spInit K CE ["least", "greatest"] rBoxInit) := by
  refine fnInit F scBoxEndsInit (fun xs ds h => ?_) fun cdv A outer s H E hr xs ds h => ?_
  · obtain ⟨gx, hx, g, h', rfl, ⟨R, hR, hg⟩, ⟨S, hS, hh⟩, sg, sh, rfl⟩ := h; rfl
  obtain ⟨gx, hx, g, h', rfl, ⟨R, hR, hg⟩, ⟨S, hS, hh⟩, sg, sh, rfl⟩ := h
  refine ⟨_, (pss_cons (ps_fld (pv 0) (pe_callTy call_tuple_of (by rfl) B.tuple (by decide +kernel) (pa_cons (pe_lc (own := [("row", 3)]) (g := (gName 3)) (tt := tYes) (te := (tCB (rTupOf K) (tCons (tVar 3) tNil))) rfl scBoxEndsInit.nd (pi_seq (pv 1)) (blkOk_by (by kernel_rfl)) (fun _ _ _ _ _ => (pg_name (i := 3) scBoxEndsInit.nd rfl (by first | exact Or.inl rfl | exact Or.inr rfl))) (fun _ _ _ _ _ => pts_nil) (fun _ _ _ _ _ => (pe_callTy call_tuple_of (by rfl) B.tuple (by decide +kernel) (pa_cons (pv 3) pa_nil)))) pa_nil)) rfl)
      (pss_one (ps_fld (pv 0) (pe_callTy call_tuple_of (by rfl) B.tuple (by decide +kernel) (pa_cons (pe_lc (own := [("row", 3)]) (g := (gName 3)) (tt := tYes) (te := (tCB (rTupOf K) (tCons (tVar 3) tNil))) rfl scBoxEndsInit.nd (pi_seq (pv 2)) (blkOk_by (by kernel_rfl)) (fun _ _ _ _ _ => (pg_name (i := 3) scBoxEndsInit.nd rfl (by first | exact Or.inl rfl | exact Or.inr rfl))) (fun _ _ _ _ _ => pts_nil) (fun _ _ _ _ _ => (pe_callTy call_tuple_of (by rfl) B.tuple (by decide +kernel) (pa_cons (pv 3) pa_nil)))) pa_nil)) rfl))), ?_⟩
  exact si_seq (si_fld (d := dTT g) c n0 (ed_cb (ea_cons (ed_lcm (enc := R) (ds := g) (fun r => dT r) (wd_seq (ed_var rfl) hg) (Nat.le_trans sg (by decide)) (js := [3]) (by decide) fun r hr' => ⟨_, gd_name, ed_cb (ea_cons (ed_var rfl) ea_nil) (cd_tupOf (rowS hR r))⟩) ea_nil) (cd_tupOf (.inl rfl))) (by decide) (by decide)) (si_fld (d := dTT h') c n1 (ed_cb (ea_cons (ed_lcm (enc := S) (ds := h') (fun r => dT r) (wd_seq (ed_var rfl) hh) (Nat.le_trans sh (by decide)) (js := [3]) (by decide) fun r hr' => ⟨_, gd_name, ed_cb (ea_cons (ed_var rfl) ea_nil) (cd_tupOf (rowS hS r))⟩) ea_nil) (cd_tupOf (.inl rfl))) (by decide) (by decide))
theorem scBitsInit : FnScope ["self", "grid", "row"] ["self", "grid"] (defScope sBitsInit) := ⟨rfl, rfl, rfl, by decide +kernel, rfl, by decide +kernel, by decide +kernel⟩
abbrev HBitsInit (P : Program) (w : World) (K : PySem.W.Frag) (mg : Str → Option Value) (base : Heap) (CB : Addr) : Prop := HInit P w K mg base 1 CB ["self", "grid"] ["grid"] rBitsInit
theorem ok_BitsInit {f : Addr} {fd : FuncData} {CB : Addr} (F : Fun K "__init__" "Bits.__init__" sBitsInit f fd) (B : Bl mg) (c : Cls K CB) (n0 : NoAttr K CB "grid") : FnOk P w K mg base CX0 1 f fd ["self", "grid"] (spInit K CB ["grid"] rBitsInit) := by
  refine fnInit F scBitsInit (fun xs ds h => ?_) fun cdv A outer s H E hr xs ds h => ?_
  · obtain ⟨gx, g, rfl, ⟨R, hR, hg⟩, sg, rfl⟩ := h; rfl
  obtain ⟨gx, g, rfl, ⟨R, hR, hg⟩, sg, rfl⟩ := h
  refine ⟨_, (pss_one (ps_fld (pv 0) (pe_callTy call_tuple_of (by rfl) B.tuple (by decide +kernel) (pa_cons (pe_lc (own := [("row", 2)]) (g := (gName 2)) (tt := tYes) (te := (tCB (rTupOf K) (tCons (tVar 2) tNil))) rfl scBitsInit.nd (pi_seq (pv 1)) (blkOk_by (by kernel_rfl)) (fun _ _ _ _ _ => (pg_name (i := 2) scBitsInit.nd rfl (by first | exact Or.inl rfl | exact Or.inr rfl))) (fun _ _ _ _ _ => pts_nil) (fun _ _ _ _ _ => (pe_callTy call_tuple_of (by rfl) B.tuple (by decide +kernel) (pa_cons (pv 2) pa_nil)))) pa_nil)) rfl)), ?_⟩
  exact si_fld (d := dTT g) c n0 (ed_cb (ea_cons (ed_lcm (enc := R) (ds := g) (fun r => dT r) (wd_seq (ed_var rfl) hg) (Nat.le_trans sg (by decide)) (js := [2]) (by decide) fun r hr' => ⟨_, gd_name, ed_cb (ea_cons (ed_var rfl) ea_nil) (cd_tupOf (rowS hR r))⟩) ea_nil) (cd_tupOf (.inl rfl))) (by decide) (by decide)
theorem scBlockedInit : FnScope ["self", "some"] ["self", "some"] (defScope sBlockedInit) := ⟨rfl, rfl, rfl, by decide +kernel, rfl, by decide +kernel, by decide +kernel⟩
abbrev HBlockedInit (P : Program) (w : World) (K : PySem.W.Frag) (mg : Str → Option Value) (base : Heap) (CK : Addr) : Prop := HInit P w K mg base 1 CK ["self", "some"] ["some"] rBlockedInit
theorem ok_BlockedInit {f : Addr} {fd : FuncData} {CK : Addr} (F : Fun K "__init__" "Blocked.__init__" sBlockedInit f fd) (B : Bl mg) (c : Cls K CK) (n0 : NoAttr K CK "some") : FnOk P w K mg base CX0 1 f fd ["self", "some"] (spInit K CK ["some"] rBlockedInit) := by
  refine fnInit F scBlockedInit (fun xs ds h => ?_) fun cdv A outer s H E hr xs ds h => ?_
  · obtain ⟨so, rfl, rfl⟩ := h; rfl
  obtain ⟨so, rfl, rfl⟩ := h
  refine ⟨_, (pss_one (ps_fld (pv 0) (pe_callTy call_tuple_of (by rfl) B.tuple (by decide +kernel) (pa_cons (pv 1) pa_nil)) rfl)), ?_⟩
  exact si_fld (d := dT so) c n0 (ed_cb (ea_cons (ed_var rfl) ea_nil) (cd_tupOf (.inr rfl))) (by decide) (by decide)
theorem scBoxEndsShows : FnScope ["self", "rows", "columns", "some", "others", "ends"] ["self", "rows", "columns", "some", "others"] (defScope sBoxEndsShows) := ⟨rfl, rfl, rfl, by decide +kernel, rfl, by decide +kernel, by decide +kernel⟩
abbrev HBoxEndsShows (P : Program) (w : World) (K : PySem.W.Frag) (mg : Str → Option Value) (base : Heap) (CE : Addr) : Prop := HMeth P w K mg base 5 CE "shows" ["self", "rows", "columns", "some", "others"] (spD K (rBoxShows CE))
theorem ok_BoxEndsShows {f : Addr} {fd : FuncData} {CE : Addr} (F : Fun K "shows" "BoxEnds.shows" sBoxEndsShows f fd) (B : Bl mg) (c : Cls K CE) (n0 : NoAttr K CE "least") (n1 : NoAttr K CE "greatest") (H_check_box : HCheckBox P w K mg base) (H_is_grid : HIsGrid P w K mg base) (H_box_by : HBoxBy P w K mg base) (H_inside : HInside P w K mg base) : FnOk P w K mg base CX0 5 f fd ["self", "rows", "columns", "some", "others"] (spD K (rBoxShows CE)) := by
  obtain ⟨f_check_box, fd_check_box, G_check_box, m_check_box, k_check_box, b_check_box⟩ := H_check_box
  obtain ⟨f_is_grid, fd_is_grid, G_is_grid, m_is_grid, k_is_grid, b_is_grid⟩ := H_is_grid
  obtain ⟨f_box_by, fd_box_by, G_box_by, m_box_by, k_box_by, b_box_by⟩ := H_box_by
  obtain ⟨f_inside, fd_inside, G_inside, m_inside, k_inside, b_inside⟩ := H_inside
  refine fnD F scBoxEndsShows (fun ds x h => ?_) fun cdv A outer s H E hr ds x h => ?_
  · obtain ⟨g, h', rows, cols, so, ot, rfl, h1, h2, h3, ⟨g1, g2⟩, ⟨g3, g4⟩, rfl⟩ := h; rfl
  obtain ⟨g, h', rows, cols, so, ot, rfl, h1, h2, h3, ⟨g1, g2⟩, ⟨g3, g4⟩, rfl⟩ := h
  refine ⟨_, (pss_cons (ps_expr (pe_call G_check_box (hr.mono (by decide)) (by rfl) m_check_box k_check_box b_check_box .nil pass0 (pa_cons (pv 1) (pa_cons (pv 2) (pa_cons (pv 3) (pa_cons (pv 4) pa_nil))))))
      (pss_cons (ps_if (PW.pt (pw_or (pt_not (pt_val (pe_call G_is_grid (hr.mono (by decide)) (by rfl) m_is_grid k_is_grid b_is_grid .nil pass0 (pa_cons (pv 1) (pa_cons (pv 2) (pa_cons (pe_fld (pv 0) rfl) pa_nil)))))) (pw_or1 (pt_not (pt_val (pe_call G_is_grid (hr.mono (by decide)) (by rfl) m_is_grid k_is_grid b_is_grid .nil pass0 (pa_cons (pv 1) (pa_cons (pv 2) (pa_cons (pe_fld (pv 0) rfl) pa_nil))))))))) (pss_one (ps_ret pe_bl)) pss_nil)
      (pss_cons (ps_set (i := 5) scBoxEndsShows.nd rfl (by first | exact Or.inl rfl | exact Or.inr rfl) (pe_call G_box_by (hr.mono (by decide)) (by rfl) m_box_by k_box_by b_box_by .nil pass0 (pa_cons (pv 1) (pa_cons (pv 2) (pa_cons (pv 3) (pa_cons (pv 4) pa_nil))))))
      (pss_one (ps_ret (pe_cmpR (op_eqD hr.units) (pe_tup (pa_cons (pe_call G_inside (hr.mono (by decide)) (by rfl) m_inside k_inside b_inside .nil pass0 (pa_cons (pe_fld (pv 0) rfl) (pa_cons (pv 3) (pa_cons (pv 4) pa_nil)))) (pa_cons (pe_call G_inside (hr.mono (by decide)) (by rfl) m_inside k_inside b_inside .nil pass0 (pa_cons (pe_fld (pv 0) rfl) (pa_cons (pv 3) (pa_cons (pv 4) pa_nil)))) pa_nil))) (pv 5) (nomark _))))))), ?_⟩
  refine sr_seq (sn_drop (ed_call (ea_cons (ed_var rfl) (ea_cons (ed_var rfl) (ea_cons (ed_var rfl) (ea_cons (ed_var rfl) ea_nil)))) (pd_of ⟨⟨rows, cols, so, ot, rfl, h1, h2, h3⟩, rfl⟩))) (sr_ifs (b := false) (et_is (et_or (b := false) (et_not (b := true) (et_B (ed_call (ea_cons (ed_var rfl) (ea_cons (ed_var rfl) (ea_cons (ed_fld (i := 0) (d := dTT g) (ed_var rfl) c n0 rfl look2a) ea_nil))) (pd_of ⟨rows, cols, _, g, rfl, h1, gsT g, g1, by rw [g2]⟩)))) fun _ => et_not (b := true) (et_B (ed_call (ea_cons (ed_var rfl) (ea_cons (ed_var rfl) (ea_cons (ed_fld (i := 1) (d := dTT h') (ed_var rfl) c n1 rfl (look2b (by decide))) ea_nil))) (pd_of ⟨rows, cols, _, h', rfl, h1, gsT h', g3, by rw [g4]⟩)))) rfl) (fun e => by cases e) fun _ => sr_seq (sn_set (ed_call (ea_cons (ed_var rfl) (ea_cons (ed_var rfl) (ea_cons (ed_var rfl) (ea_cons (ed_var rfl) ea_nil)))) (pd_of ⟨rows, cols, so, ot, rfl, h2, h3, rfl⟩))) (sr_ret (ed_is (ed_op (ed_tup (xs := dIs [insideI g so ot, insideI h' so ot]) (ea_cons (ed_call (ea_cons (ed_fld (i := 0) (d := dTT g) (ed_var rfl) c n0 rfl look2a) (ea_cons (ed_var rfl) (ea_cons (ed_var rfl) ea_nil))) (pd_of ⟨_, g, so, ot, rows.length, cols.length, rfl, gsT g, h2, h3, g1.1, fun r hr' => (g1.2 r hr').1, rfl⟩)) (ea_cons (ed_call (ea_cons (ed_fld (i := 1) (d := dTT h') (ed_var rfl) c n1 rfl (look2b (by decide))) (ea_cons (ed_var rfl) (ea_cons (ed_var rfl) ea_nil))) (pd_of ⟨_, h', so, ot, rows.length, cols.length, rfl, gsT h', h2, h3, g3.1, fun r hr' => (g3.2 r hr').1, rfl⟩)) ea_nil)) (by show 2 ≤ 1000000; decide)) (ed_var rfl) (od_eqD (shaped_dT _) (shaped_dT _))) (by rw [eqv_dT]))))
theorem scBitsShows : FnScope ["self", "rows", "columns", "row", "cell"] ["self", "rows", "columns"] (defScope sBitsShows) := ⟨rfl, rfl, rfl, by decide +kernel, rfl, by decide +kernel, by decide +kernel⟩
abbrev HBitsShows (P : Program) (w : World) (K : PySem.W.Frag) (mg : Str → Option Value) (base : Heap) (CB : Addr) : Prop := HMeth P w K mg base 4 CB "shows" ["self", "rows", "columns"] (spD K (rBitsShows CB))
theorem ok_BitsShows {f : Addr} {fd : FuncData} {CB : Addr} (F : Fun K "shows" "Bits.shows" sBitsShows f fd) (B : Bl mg) (c : Cls K CB) (n0 : NoAttr K CB "grid") (H_check_totals : HCheckTotals P w K mg base) (H_is_grid : HIsGrid P w K mg base) : FnOk P w K mg base CX0 4 f fd ["self", "rows", "columns"] (spD K (rBitsShows CB)) := by
  obtain ⟨f_check_totals, fd_check_totals, G_check_totals, m_check_totals, k_check_totals, b_check_totals⟩ := H_check_totals
  obtain ⟨f_is_grid, fd_is_grid, G_is_grid, m_is_grid, k_is_grid, b_is_grid⟩ := H_is_grid
  refine fnD F scBitsShows (fun ds x h => ?_) fun cdv A outer s H E hr ds x h => ?_
  · obtain ⟨g, rows, cols, rfl, h1, ⟨g1, g2⟩, hb, rfl⟩ := h; rfl
  obtain ⟨g, rows, cols, rfl, h1, ⟨g1, g2⟩, hb, rfl⟩ := h
  refine ⟨_, (pss_cons (ps_expr (pe_call G_check_totals (hr.mono (by decide)) (by rfl) m_check_totals k_check_totals b_check_totals .nil pass0 (pa_cons (pv 1) (pa_cons (pv 2) pa_nil))))
      (pss_cons (ps_if (pt_not (pt_val (pe_call G_is_grid (hr.mono (by decide)) (by rfl) m_is_grid k_is_grid b_is_grid .nil pass0 (pa_cons (pv 1) (pa_cons (pv 2) (pa_cons (pe_fld (pv 0) rfl) pa_nil)))))) (pss_one (ps_ret pe_bl)) pss_nil)
      (pss_one (ps_ret (pe_callB (cr_all rfl) (by rfl) B.all (by decide +kernel) (pa_cons (pe_lc2 (own := [("row", 3), ("cell", 4)]) (vs1 := [4]) (g := (gName 3)) (g1 := (gName 4)) (tt := tYes) (tt1 := tYes) (wi1 := (iSeq K (tVar 3))) (te := (tOp (rI0 fun i j => V.bl (decide (i < j))) (tVar 4) (tC (V.int 2)))) rfl scBitsShows.nd (pi_seq (pe_fld (pv 0) rfl)) (blkOk_by (by kernel_rfl)) (by decide) (fun _ _ _ _ _ => (pg_name (i := 3) scBitsShows.nd rfl (by first | exact Or.inl rfl | exact Or.inr rfl))) (fun _ _ _ _ _ => pts_nil) (fun _ _ _ _ _ => (pi_seq (pv 3))) (fun _ _ _ _ _ => (pg_name (i := 4) scBitsShows.nd rfl (by first | exact Or.inl rfl | exact Or.inr rfl))) (fun _ _ _ _ _ => pts_nil) (fun _ _ _ _ _ => (pe_cmpR op_lt (pv 4) pe_int (nomark _)))) pa_nil)))))), ?_⟩
  refine sr_seq (sn_drop (ed_call (ea_cons (ed_var rfl) (ea_cons (ed_var rfl) ea_nil)) (pd_of ⟨⟨rows, cols, rfl, h1⟩, rfl⟩))) (sr_ifs (b := false) (et_not (b := true) (et_B (ed_call (ea_cons (ed_var rfl) (ea_cons (ed_var rfl) (ea_cons (ed_fld (i := 0) (d := dTT g) (ed_var rfl) c n0 rfl look1) ea_nil))) (pd_of ⟨rows, cols, _, g, rfl, h1, gsT g, g1, by rw [g2]⟩)))) (fun e => by cases e) fun _ => sr_ret (ed_is (ed_cb (ea_cons (ed_is (ed_lc2 (enc := dT) (enc2 := PyData.int) (ds := g) (fun r => r) (fun _ c => .bool (decide (c < 2))) (wd_seq (ed_fld (i := 0) (d := dTT g) (ed_var rfl) c n0 rfl look1) (.inr rfl)) ?_ (js := [3]) (js1 := [4]) (by decide) (by decide) fun r hr' => ⟨_, gd_name, wd_seq (ed_var rfl) (.inr rfl), fun c hc => ⟨_, gd_name, ed_op (ed_var rfl) ed_int od_B0⟩⟩) (congrArg (fun z => Sl.d (.list z)) (flat_b (f := fun (_ : List Int) (c : Int) => decide (c < 2)) (E := fun r => r)))) ea_nil) cd_all) ?_))
  · have h4 := h1.2.1.2.1
    have h5 := h1.1.2.1
    have h6 := g1.1
    refine Nat.le_trans (flat_len (n := 4) fun r hr' => ?_) ?_
    · rw [(g1.2 r hr').1]; exact h4
    · omega
  · rw [List.all_eq_true.mpr fun b hb' => ?_]
    obtain ⟨r, hr', hb'⟩ := List.mem_flatMap.mp hb'
    obtain ⟨c, hc, rfl⟩ := List.mem_map.mp hb'
    exact decide_eq_true (hb r hr' c hc)
theorem scBlockedShows : FnScope ["self", "rows", "columns", "at", "total"] ["self", "rows", "columns"] (defScope sBlockedShows) := ⟨rfl, rfl, rfl, by decide +kernel, rfl, by decide +kernel, by decide +kernel⟩
abbrev HBlockedShows (P : Program) (w : World) (K : PySem.W.Frag) (mg : Str → Option Value) (base : Heap) (CK : Addr) : Prop := HMeth P w K mg base 4 CK "shows" ["self", "rows", "columns"] (spD K (rBlockedShows CK))
theorem ok_BlockedShows {f : Addr} {fd : FuncData} {CK : Addr} (F : Fun K "shows" "Blocked.shows" sBlockedShows f fd) (B : Bl mg) (c : Cls K CK) (n0 : NoAttr K CK "some") (H_check_totals : HCheckTotals P w K mg base) (H_is_lines : HIsLines P w K mg base) : FnOk P w K mg base CX0 4 f fd ["self", "rows", "columns"] (spD K (rBlockedShows CK)) := by
  obtain ⟨f_check_totals, fd_check_totals, G_check_totals, m_check_totals, k_check_totals, b_check_totals⟩ := H_check_totals
  obtain ⟨f_is_lines, fd_is_lines, G_is_lines, m_is_lines, k_is_lines, b_is_lines⟩ := H_is_lines
  refine fnD F scBlockedShows (fun ds x h => ?_) fun cdv A outer s H E hr ds x h => ?_
  · obtain ⟨so, rows, cols, rfl, h1, h2, rfl⟩ := h; rfl
  obtain ⟨so, rows, cols, rfl, h1, h2, rfl⟩ := h
  refine ⟨_, (pss_cons (ps_expr (pe_call G_check_totals (hr.mono (by decide)) (by rfl) m_check_totals k_check_totals b_check_totals .nil pass0 (pa_cons (pv 1) (pa_cons (pv 2) pa_nil))))
      (pss_cons (ps_if (pt_not (pt_val (pe_call G_is_lines (hr.mono (by decide)) (by rfl) m_is_lines k_is_lines b_is_lines .nil pass0 (pa_cons (pe_fld (pv 0) rfl) (pa_cons (pe_callB call_len_seq (by rfl) B.len PySem.boot_len (pa_cons (pv 1) pa_nil)) pa_nil))))) (pss_one (ps_ret pe_bl)) pss_nil)
      (pss_one (ps_ret (pe_cmpR op_gt (pe_callB (cr_sumA rfl) (by rfl) B.sum (by decide +kernel) (pa_cons (pe_lc (own := [("at", 3)]) (g := (gName 3)) (tt := tYes) (te := (tOp (rIx K) (tVar 1) (tVar 3))) rfl scBlockedShows.nd (pi_seq (pe_fld (pv 0) rfl)) (blkOk_by (by kernel_rfl)) (fun _ _ _ _ _ => (pg_name (i := 3) scBlockedShows.nd rfl (by first | exact Or.inl rfl | exact Or.inr rfl))) (fun _ _ _ _ _ => pts_nil) (fun _ _ _ _ _ => (pe_ix ix_seq (pv 1) (pv 3) (fun _ _ => rfl)))) pa_nil)) (pe_callB (cr_sumA rfl) (by rfl) B.sum (by decide +kernel) (pa_cons (pe_lc (own := [("total", 4)]) (g := (gName 4)) (tt := tYes) (te := (tCB rMin2 (tCons (tVar 4) (tCons (tCB (rLen K) (tCons (tFld K (tVar 0) "some") tNil)) tNil)))) rfl scBlockedShows.nd (pi_seq (pv 2)) (blkOk_by (by kernel_rfl)) (fun _ _ _ _ _ => (pg_name (i := 4) scBlockedShows.nd rfl (by first | exact Or.inl rfl | exact Or.inr rfl))) (fun _ _ _ _ _ => pts_nil) (fun _ _ _ _ _ => (pe_callB (call_min2 rfl) (by rfl) B.min (by decide +kernel) (pa_cons (pv 4) (pa_cons (pe_callB call_len_seq (by rfl) B.len PySem.boot_len (pa_cons (pe_fld (pv 0) rfl) pa_nil)) pa_nil))))) pa_nil)) (nomark _)))))), ?_⟩
  have s1 := h2.1
  have s2 := h2.2.2
  have h4 := h1.2.1.2.1
  refine sr_seq (sn_drop (ed_call (ea_cons (ed_var rfl) (ea_cons (ed_var rfl) ea_nil)) (pd_of ⟨⟨rows, cols, rfl, h1⟩, rfl⟩))) (sr_ifs (b := false) (et_not (b := true) (et_B (ed_call (ea_cons (ed_fld (i := 0) (d := dT so) (ed_var rfl) c n0 rfl look1) (ea_cons (ed_len (ed_var rfl) (.inr rfl)) ea_nil)) (pd_of ⟨so, rows.length, rfl, h2, rfl⟩)))) (fun e => by cases e) fun _ => sr_ret (ed_is (ed_op (ed_cb (ea_cons (ed_lcm (enc := PyData.int) (ds := so) (fun i => .int (la rows i)) (wd_seq (ed_fld (i := 0) (d := dT so) (ed_var rfl) c n0 rfl look1) (.inr rfl)) (by omega) (js := [3]) (by decide) fun i hi => ⟨_, gd_name, ed_op (ed_var rfl) (ed_var rfl) (od_ixI (.inr rfl) (s1 i hi).1 (la_at (s1 i hi).1 (s1 i hi).2))⟩) ea_nil) cd_summ) (ed_cb (ea_cons (ed_lcm (enc := PyData.int) (ds := cols) (fun c => .int (min c (so.length : Int))) (wd_seq (ed_var rfl) (.inr rfl)) (by omega) (js := [4]) (by decide) fun i hi => ⟨_, gd_name, ed_cb (ea_cons (ed_var rfl) (ea_cons (ed_len (ed_fld (i := 0) (d := dT so) (ed_var rfl) c n0 rfl look1) (.inr rfl)) ea_nil)) cd_min2⟩) ea_nil) cd_summ) od_B0) rfl))
end
end G29
end L2
set_option Elab.async false
set_option linter.all false
set_option maxRecDepth 100000
set_option maxHeartbeats 4000000
namespace L2
namespace G29
open PySem PySem.Spec PyProof.Rows
abbrev sWaysFor : Stmt := topS 25
abbrev sCountGrids : Stmt := topS 26
theorem scWaysFor : FnScope ["rows", "left", "known", "found", "row", "room", "cell"] ["rows", "left", "known"] (defScope sWaysFor) := ⟨rfl, rfl, rfl, by decide +kernel, rfl, by decide +kernel, by decide +kernel⟩

section
variable {P : Program} {w : World} {K : PySem.W.Frag} {mg : Str → Option Value} {base : Heap}

theorem alw_tail {R0 : List Int} {n : Nat} {r : Int} {rs left row : List Int} (a : Alw R0 n (r :: rs) left) (h : row ∈ Gm.wr r left) : Alw R0 n rs (Gm.sub left row) := by
  obtain ⟨hf, _⟩ := Gm.mem_wr.mp h
  obtain ⟨i, hi, e⟩ := a.suf
  refine ⟨⟨i + 1, ?_, ?_⟩, by rw [hf.sub_len]; exact a.len, fun x hx => ⟨hf.sub_nn x hx, hf.sub_le (fun c hc => (a.rng c hc).2) x hx⟩⟩
  · by_cases z : i = R0.length
    · subst z; rw [List.drop_length] at e; cases e
    · omega
  · rw [← List.drop_drop, ← e]; rfl
theorem alw_len {R0 : List Int} {n : Nat} {r l : List Int} (a : Alw R0 n r l) : r.length ≤ R0.length := by
  obtain ⟨i, _, rfl⟩ := a.suf
  rw [List.length_drop]; omega
theorem alw_nn {R0 : List Int} {n : Nat} {r l : List Int} (a : Alw R0 n r l) (h : Gm.NN R0) : Gm.NN r := by
  obtain ⟨i, _, rfl⟩ := a.suf
  exact fun x hx => h x (List.mem_of_mem_drop hx)
/-- the sum over the first i rows -/
def wpart (r : Int) (rs left : List Int) (i : Nat) : Int := (((Gm.wr r left).take i).map fun row => Gm.ways rs (Gm.sub left row)).sum
theorem wpart_succ {r : Int} {rs left row : List Int} {i : Nat} (h : (Gm.wr r left)[i]? = some row) : wpart r rs left (i + 1) = wpart r rs left i + Gm.ways rs (Gm.sub left row) := by
  unfold wpart
  rw [take_snoc h, List.map_append, List.sum_append]
  show _ + (Gm.ways rs (Gm.sub left row) + 0) = _
  omega
theorem wpart_end {r : Int} {rs left : List Int} : wpart r rs left (Gm.wr r left).length = Gm.ways (r :: rs) left := by
  unfold wpart
  rw [List.take_length, Gm.ways_cons]
theorem ways_start {H : Hp} {F : FS} {v1 v2 : V} {d : Addr} {rows left : List Int} (hv : SvAll K (mk F H) [v1, v2] [sT rows, sT left]) :
    Sd K (mk F H) (start ["rows", "left", "known", "found", "row", "room", "cell"] [v1, v2, V.ref d]) [some (sT rows), some (sT left), none, none, none, none, none] :=
  sd_any (i := 2) (v := V.ref d) (sd_start (N := ["rows", "left", "known", "found", "row", "room", "cell"]) hv (by show 2 ≤ 7; decide))
theorem ways_ret {D : Ends} {σ : St} {H : Hp} {F : FS} {rows left R0 : List Int} {n : Nat} {d : Addr} {δ : De} {KK : PySem.W.Frag} (eK : KK = K) (dm : Dom F H) (s : Sd K (mk F H) σ δ) (h0 : δ[0]? = some (some (sT rows))) (h1 : δ[1]? = some (some (sT left))) (h2 : σ[2]? = some (some (V.ref d)))
    (k : KnP P w K F R0 n H d ks) (hs : (valN ks (keyN rows left)).isSome = true) (q : ∀ H', Same H H' → D.rt (.int (Gm.ways rows left)) H') : tRet (tIxN P w KK (tVar 2) (tTup (tCons (tVar 0) (tCons (tVar 1) tNil)))) D σ H := by
  subst eK
  refine ⟨_, h2, ?_⟩
  refine (ed_tup (xs := [dT rows, dT left]) (ea_cons (ed_var h0) (ea_cons (ed_var h1) ea_nil)) (by show 2 ≤ 1000000; decide)) F σ H dm s _ fun v H1 e1 hv => ?_
  obtain ⟨z, hz⟩ := Option.isSome_iff_exists.mp hs
  have k1 := k.same e1
  refine ⟨d, ks, rows, left, z, rfl, k1.at_, k1.ksOk, dp_same mk_le hv, hz, ?_⟩
  rw [k.val hz]
  exact q H1 e1
theorem ok_WaysFor {f : Addr} {fd : FuncData} (F : Fun K "ways_for" "ways_for" sWaysFor f fd) (B : Bl mg) (H_rows_within : HRowsWithin P w K mg base) (ms : mg "ways_for" = some (.ref f)) (ks : PySem.W.keepIn K (.ref f) = true) (bs : Binds K fd ["rows", "left", "known"] []) : ∀ m, FnOk P w K mg base CX0 (m + 2) f fd ["rows", "left", "known"] (spW P w K m) := by
  obtain ⟨f_rows_within, fd_rows_within, G_rows_within, m_rows_within, k_rows_within, b_rows_within⟩ := H_rows_within
  intro m
  induction m with
  | zero =>
    refine F.ok scWaysFor (fun vs H Q E h => ?_) (fun cdv A outer s H vs Q E hr h => ?_)
    · obtain ⟨F0, d, rows, left, R0, n, v1, v2, rfl, _⟩ := h; rfl
    · obtain ⟨F0, d, rows, left, R0, n, v1, v2, rfl, dm, hF, kn, hv, al, h4, hn, nn, hm, q⟩ := h
      have hr0 : rows = [] := List.length_eq_zero_iff.mp (by omega)
      subst hr0
      refine ⟨_, (pss_cons (ps_if (pt_cmpR (op_eqD hr.units) (pv 0) (pe_tup pa_nil) (nomark _)) (pss_one (ps_ret (pe_ifExp (pt_cmpR op_eq (pe_callB (cr_sumA rfl) (by rfl) B.sum (by decide +kernel) (pa_cons (pv 1) pa_nil)) pe_int (nomark _)) pe_int pe_int))) pss_nil) pss_never), ?_⟩
      refine (sr_ifs (K := K) (x := sI (Gm.ways [] left)) (b := true) (et_test (ed_op (ed_var rfl) (ed_tup (xs := dIs []) ea_nil (by decide)) (od_eqD (shaped_dT _) (shaped_dT _)))) (fun _ => sr_ret ?_) (fun e => by cases e)) F0 _ _ H dm (ways_start hv) fun v H' e hv' => ?_
      · rw [Gm.ways_nil]
        refine ed_if (b := decide (left.sum = 0)) (et_test (ed_op (ed_cb (ea_cons (ed_var rfl) ea_nil) (cd_sum (.inr rfl))) ed_int od_eqI)) (fun e => ?_) fun e => ?_
        · rw [if_pos (of_decide_eq_true e)]; exact ed_int
        · rw [if_neg (of_decide_eq_false e)]; exact ed_int
      · cases hv'
        exact q H' (.of e) (kn.same e)
  | succ m IH =>
    refine F.ok scWaysFor (fun vs H Q E h => ?_) (fun cdv A outer s H vs Q E hr h => ?_)
    · obtain ⟨F0, d, rows, left, R0, n, v1, v2, rfl, _⟩ := h; rfl
    · obtain ⟨F0, d, rows, left, R0, n, v1, v2, rfl, dm, hF, kn, hv, al, h4, hn, nn, hm, q⟩ := h
      refine ⟨_, (pss_cons (ps_if (pt_cmpR (op_eqD hr.units) (pv 0) (pe_tup pa_nil) (nomark _)) (pss_one (ps_ret (pe_ifExp (pt_cmpR op_eq (pe_callB (cr_sumA rfl) (by rfl) B.sum (by decide +kernel) (pa_cons (pv 1) pa_nil)) pe_int (nomark _)) pe_int pe_int))) pss_nil)
      (pss_cons (ps_if (pt_cmpR (op_notInN hr.units) (pe_tup (pa_cons (pv 0) (pa_cons (pv 1) pa_nil))) (pv 2) (by rfl)) (pss_cons (ps_set (i := 3) scWaysFor.nd rfl (by first | exact Or.inl rfl | exact Or.inr rfl) pe_int)
      (pss_cons (ps_for PassesOwn.never rfl (pi_seq (pe_call G_rows_within (hr.mono (by omega)) (by rfl) m_rows_within k_rows_within b_rows_within .nil pass0 (pa_cons (pe_ix ix_seq (pv 0) pe_int (fun _ _ => rfl)) (pa_cons (pv 1) pa_nil)))) (pg_name (i := 4) scWaysFor.nd rfl (by first | exact Or.inl rfl | exact Or.inr rfl)) (pss_one (ps_aug (i := 3) scWaysFor.nd rfl (by first | exact Or.inl rfl | exact Or.inr rfl) (pe_call IH hr (by rfl) ms ks bs .nil pass0 (pa_cons (pe_slice sl_tupA (pv 0) (po_some pe_int) po_none) (pa_cons (pe_callTy call_tuple_of (by rfl) B.tuple (by decide +kernel) (pa_cons (pe_lc (own := [("room", 5), ("cell", 6)]) (g := (gTup K 2 (gCons (gName 5) (gCons (gName 6) gNil)))) (tt := tYes) (te := (tOp (rI0 fun i j => V.int (i - j)) (tVar 5) (tVar 6))) rfl scWaysFor.nd (RZ.pi_zipA (by rfl) B.zip (pa_cons (pv 1) (pa_cons (pv 4) pa_nil))) (blkOk_by (by kernel_rfl)) (fun _ _ _ _ _ => (pg_tup rfl (pgs_cons (pg_name (i := 5) scWaysFor.nd rfl (by first | exact Or.inl rfl | exact Or.inr rfl)) (pgs_cons (pg_name (i := 6) scWaysFor.nd rfl (by first | exact Or.inl rfl | exact Or.inr rfl)) pgs_nil)))) (fun _ _ _ _ _ => pts_nil) (fun _ _ _ _ _ => (pe_op op_sub (pv 5) (pv 6)))) pa_nil)) (pa_cons (pv 2) pa_nil)))) ip_add)))
      (pss_one (ps_asg (pv 3) (pg_sub (pv 2) (pe_tup (pa_cons (pv 0) (pa_cons (pv 1) pa_nil))) (set_N hr.units)))))) pss_nil)
      (pss_one (ps_ret (pe_ixN hr.units (pv 2) (pe_tup (pa_cons (pv 0) (pa_cons (pv 1) pa_nil))) (fun _ _ => rfl)))))), ?_⟩
      have s0 := ways_start (d := d) hv
      refine (show Et K (tTest (tOp (rEqD K) (tVar 0) (tTup tNil))) _ (decide (rows = [])) from et_is (et_test (ed_op (ed_var (x := sT rows) rfl) (ed_tup (xs := dIs []) ea_nil (by decide)) (od_eqD (shaped_dT _) (shaped_dT _)))) (eqv_dT rows [])) F0 _ H dm s0 _ fun H1 e1 => ?_
      cases rows with
      | nil =>
        rw [if_pos (decide_eq_true rfl)]
        refine (show Ed K _ _ (sI (Gm.ways [] left)) from ?_) F0 _ H1 (dm.same e1) (sd_same (mk_same e1) s0) _ fun v H' e hv' => ?_
        · rw [Gm.ways_nil]
          refine ed_if (b := decide (left.sum = 0)) (et_test (ed_op (ed_cb (ea_cons (ed_var rfl) ea_nil) (cd_sum (.inr rfl))) ed_int od_eqI)) (fun e => ?_) fun e => ?_
          · rw [if_pos (of_decide_eq_true e)]; exact ed_int
          · rw [if_neg (of_decide_eq_false e)]; exact ed_int
        · cases hv'
          exact q H' (.of (e1.trans e)) (kn.same (e1.trans e))
      | cons r rs =>
        rw [if_neg (by simp)]
        refine tNext_of ?_
        refine tIf_at (tTest_at (tOp_at ?_))
        have dm1 := dm.same e1
        have s1 := sd_same (mk_same e1) s0
        have kn1 := kn.same e1
        refine (show Ed K (tTup (tCons (tVar 0) (tCons (tVar 1) tNil))) _ (.d (keyD (r :: rs) left)) from ed_tup (xs := [dT (r :: rs), dT left]) (ea_cons (ed_var rfl) (ea_cons (ed_var rfl) ea_nil)) (by show 2 ≤ 1000000; decide)) F0 _ H1 dm1 s1 _ fun kv H2 e2 hkv => ?_
        obtain ⟨ks2, k2⟩ := kn1.same e2
        refine tVar_at rfl ⟨d, ks2, r :: rs, left, rfl, k2.at_, k2.sys, k2.ksOk, dp_same mk_le hkv, _, rfl, ?_⟩
        have dm2 := dm1.same e2
        have s2 := sd_same (mk_same e2) s1
        cases hin : (valN ks2 (keyN (r :: rs) left)).isSome with
        | true =>
          exact ways_ret rfl dm2 s2 rfl rfl rfl k2 hin fun H' e => q H' (.of ((e1.trans e2).trans e)) ⟨ks2, k2.same e⟩
        | false =>
          refine tSeq_at (tAsg_at ?_)
          have ht : 0 ≤ r := alw_nn al nn r List.mem_cons_self
          have hll : left.length ≤ 4 := by rw [al.len]; exact hn
          refine for_at (F := F0) (δ := [some (sT (r :: rs)), some (sT left), none, some (sI 0), none, none, none]) (enc := dT) (ds := Gm.wr r left) (wd_seq (ed_call (ea_cons (ed_op (ed_var rfl) ed_int (od_ix (j := 0) (.inr rfl) rfl)) (ea_cons (ed_var rfl) ea_nil)) (pd_of ⟨r, left, rfl, ht, hll, al.rng, rfl⟩)) (.inl rfl)) dm2 (sd_set (i := 3) s2 (x := sI 0) (Dp.int 0)) fun H3 e3 => ?_
          refine ⟨fun i σ' H' => But (fun a => a = d) H3 H' ∧ Kn P w K F0 R0 n H' d ∧ σ'[2]? = some (some (V.ref d)) ∧ Sd K (mk F0 H') σ' [some (sT (r :: rs)), some (sT left), none, some (sI (wpart r rs left i)), none, none, none],
            ⟨.of (Same.refl _), ⟨ks2, k2.same e3⟩, rfl, sd_same (mk_same e3) (sd_set (i := 3) s2 (x := sI 0) (Dp.int 0))⟩, ?_, ?_, ?_⟩
          · rintro i σ' H' ⟨b1, k1, _, _⟩
            exact ⟨dom_but (dm2.same e3) b1 fun b hb => by obtain ⟨ks', k'⟩ := k1; exact hb ▸ ⟨_, k'.at_⟩, but_mk (fun b hb => by rw [hb]; exact hF) b1⟩
          · rintro i row σ' H' v H4 hi ⟨b1, k1, g2, s4⟩ e4 hv4
            have dm4 : Dom F0 H' := dom_but (dm2.same e3) b1 fun b hb => by obtain ⟨ks', k'⟩ := k1; exact hb ▸ ⟨_, k'.at_⟩
            have s5 := sd_set (i := 4) (x := .d (dT row)) (sd_same (mk_same e4) s4) hv4
            have g5 : (σ'.set 4 (some v))[2]? = some (some (V.ref d)) := by rw [List.getElem?_set_ne (by decide)]; exact g2
            obtain ⟨p, hp, hp2⟩ := s5.2 3 (sI (wpart r rs left i)) rfl
            cases hp2
            refine ⟨_, hp, ?_⟩
            refine (show Ed K _ _ (sT rs) from ed_is (ed_slT (ed_var rfl) (eo_some ed_int) eo_none) (congrArg (fun z => Sl.d (.tuple z)) (cutD_from' (ds := dIs (r :: rs)) (n := 1)))) F0 _ H4 (dm4.same e4) s5 _ fun a1 H5 e5 h5 => ?_
            refine (show Ed K _ _ (sT (Gm.sub left row)) from ?_) F0 _ H5 ((dm4.same e4).same e5) (sd_same (mk_same e5) s5) _ fun a2 H6 e6 h6 => ?_
            · refine ed_is (ed_cb (ea_cons (ed_lcm (enc := fun p : Int × Int => .tuple [.int p.1, .int p.2]) (ds := left.zip row) (fun p => .int (p.1 - p.2)) ?_ ?_ (js := [5, 6]) (by decide) fun p hp => ⟨_, gd_tup2, ed_op (ed_var rfl) (ed_var rfl) od_I0⟩) ea_nil) (cd_tupOf (.inl rfl))) ?_
              · rw [← dZ_ints]
                exact wd_zipT (ea_cons (ed_var rfl) (ea_cons (ed_var rfl) ea_nil))
              · rw [List.length_zip]; omega
              · rw [ints_map (f := fun p : Int × Int => p.1 - p.2), zip_sub]
            refine ⟨_, g5, ?_⟩
            have e46 := (e4.trans e5).trans e6
            refine ⟨F0, d, rs, Gm.sub left row, R0, n, a1, a2, rfl, dm4.same e46, hF, k1.same e46, .cons (sv_same (mk_same e6) h5) (.cons h6 .nil), alw_tail al (List.mem_of_getElem? hi), h4, hn, nn, by simpa using hm, fun H7 b7 k7 => ?_⟩
            refine ⟨_, _, rfl, rfl, (b1.trans (.of e46)).trans b7, k7, ?_, ?_⟩
            · rw [List.getElem?_set_ne (by decide)]; exact g5
            · have s7 := sd_set (i := 3) (x := sI (wpart r rs left i + Gm.ways rs (Gm.sub left row))) (sd_same ((mk_same (e5.trans e6)).trans (but_mk (fun b hb => by rw [hb]; exact hF) b7)) s5) (Dp.int _)
              rw [wpart_succ hi]
              exact sd_le (le_some (le_some (le_some (le_some (le_none (le_some (le_some le_nil))))))) s7
          · rintro σ' H' ⟨b1, ⟨ks5, k5⟩, g2, s5⟩
            refine nx_of (tAsg_at ?_)
            have dm5 : Dom F0 H' := dom_but (dm2.same e3) b1 fun b hb => hb ▸ ⟨_, k5.at_⟩
            obtain ⟨p, hp, hp2⟩ := s5.2 3 _ rfl
            cases hp2
            refine tVar_at hp (gSub_at (tVar_at g2 ?_))
            refine (show Ed K (tTup (tCons (tVar 0) (tCons (tVar 1) tNil))) _ (.d (keyD (r :: rs) left)) from ed_tup (xs := [dT (r :: rs), dT left]) (ea_cons (ed_var rfl) (ea_cons (ed_var rfl) ea_nil)) (by show 2 ≤ 1000000; decide)) F0 _ H' dm5 s5 _ fun kb H6 e6 hkb => ?_
            have k6 := k5.same e6
            cases id hkb with
            | tup hq hd =>
              rename_i b xs
              obtain ⟨k7, i7⟩ := k6.store hF hkb (wpart_end (r := r) (rs := rs) (left := left)) al
              refine ⟨d, _, ks5, r :: rs, left, _, rfl, rfl, rfl, k6.at_, k6.ksOk, dp_same mk_le hkb, Nat.le_trans (k6.small h4 hn) (by decide), ?_⟩
              have hu : ∀ o, Same (mk F0 H6) (mk F0 (upd H6 d o)) := fun o => by rw [mk_in hF]; exact Same.refl _
              refine ways_ret rfl (dom_in (dm5.same e6)) (sd_same ((mk_same e6).trans (hu _)) s5) rfl rfl g2 k7 i7 fun H' e => q H' ?_ ⟨_, k7.same e⟩
              exact (((But.of ((e1.trans e2).trans e3)).trans b1).trans (.of e6)).trans ((but_upd (M := fun a => a = d) rfl).trans (.of e))

abbrev HWaysFor (P : Program) (w : World) (K : PySem.W.Frag) (mg : Str → Option Value) (base : Heap) : Prop := Has P w K mg base 6 "ways_for" ["rows", "left", "known"] (spW P w K 4)
def rCountGrids : List Sl → Sl → Prop := fun ds x => ∃ rows cols : List Int, ds = [sT rows, sT cols] ∧ Tots rows cols ∧ x = sI (Gm.ways rows cols)
theorem alw_self {rows cols : List Int} (h : Tots rows cols) : Alw rows cols.length rows cols := ⟨⟨0, Nat.zero_le _, rfl⟩, rfl, h.2.1.2.2⟩
theorem kn_new {F : FS} {R0 : List Int} {n : Nat} {H : Hp} {p : Addr} (hs : (p == sysModules) = false) : Kn P w K F R0 n (upd H p (DicN P w p [])) p := ⟨[], upd_same, hs, List.nodup_nil, fun k hk => by cases hk⟩
theorem ed_ways {δ : De} {i j : Nat} {rows cols : List Int} {E : XK} (h0 : δ[i]? = some (some (sT rows))) (h1 : δ[j]? = some (some (sT cols))) (t : Tots rows cols) : Ed K (tCall (spW P w K 4) [] E (tCons (tVar i) (tCons (tVar j) (tCons (tDNewN P w) tNil)))) δ (sI (Gm.ways rows cols)) := fun F σ H dm s Q q => by
  obtain ⟨v1, g1, k1⟩ := s.2 i _ h0
  obtain ⟨v2, g2, k2⟩ := s.2 j _ h1
  refine tCall_at (tCons_at (tVar_at g1 (tCons_at (tVar_at g2 (tCons_at fun p hp hs => ?_)))))
  have e : Same H (upd H p (DicN P w p [])) := same_upd hp
  have sB : Same (mk F H) (mk (fun a => F a ∨ a = p) (upd H p (DicN P w p []))) := same_or hp fun b o hb e => by rw [upd_ne hb]; exact e
  refine ⟨fun a => F a ∨ a = p, p, rows, cols, rows, cols.length, v1, v2, rfl, fun a h => ?_, .inr rfl, kn_new hs, .cons (sv_same sB k1) (.cons (sv_same sB k2) .nil), alw_self t, t.1.2.1, t.2.1.2.1, fun x hx => (t.1.2.2 x hx).1, t.1.2.1, fun H' b _ => q _ H' (fun b' o e' => b b' o ?_ (e b' o e')) (Dp.int _)⟩
  · rcases h with h | rfl
    · exact (dm.same e) a h
    · exact ⟨_, upd_same⟩
  · intro z; rw [z, hp] at e'; cases e'
theorem scCountGrids : FnScope ["rows", "columns"] ["rows", "columns"] (defScope sCountGrids) := ⟨rfl, rfl, rfl, by decide +kernel, rfl, by decide +kernel, by decide +kernel⟩
abbrev HCountGrids (P : Program) (w : World) (K : PySem.W.Frag) (mg : Str → Option Value) (base : Heap) : Prop := Has P w K mg base 7 "count_grids" ["rows", "columns"] (spD K rCountGrids)
theorem ok_CountGrids {f : Addr} {fd : FuncData} (F : Fun K "count_grids" "count_grids" sCountGrids f fd) (B : Bl mg) (H_check_totals : HCheckTotals P w K mg base) (H_ways_for : HWaysFor P w K mg base) : FnOk P w K mg base CX0 7 f fd ["rows", "columns"] (spD K rCountGrids) := by
  obtain ⟨f_check_totals, fd_check_totals, G_check_totals, m_check_totals, k_check_totals, b_check_totals⟩ := H_check_totals
  obtain ⟨f_ways_for, fd_ways_for, G_ways_for, m_ways_for, k_ways_for, b_ways_for⟩ := H_ways_for
  refine fnD F scCountGrids (fun ds x h => ?_) fun cdv A outer s H E hr ds x h => ?_
  · obtain ⟨rows, cols, rfl, t, rfl⟩ := h; rfl
  obtain ⟨rows, cols, rfl, t, rfl⟩ := h
  refine ⟨_, (pss_cons (ps_expr (pe_call G_check_totals (hr.mono (by decide)) (by rfl) m_check_totals k_check_totals b_check_totals .nil pass0 (pa_cons (pv 0) (pa_cons (pv 1) pa_nil))))
      (pss_one (ps_ret (pe_call G_ways_for (hr.mono (by decide)) (by rfl) m_ways_for k_ways_for b_ways_for .nil pass0 (pa_cons (pv 0) (pa_cons (pv 1) (pa_cons (pe_dnewN) pa_nil))))))), ?_⟩
  exact sr_seq (sn_drop (ed_call (ea_cons (ed_var rfl) (ea_cons (ed_var rfl) ea_nil)) (pd_of ⟨⟨rows, cols, rfl, t⟩, rfl⟩))) (sr_ret (ed_ways rfl rfl t))
end
end G29
end L2
set_option Elab.async false
set_option linter.all false
set_option maxRecDepth 100000
set_option maxHeartbeats 4000000
namespace L2
namespace G29
open PySem PySem.Spec PyProof.Rows
abbrev sNthGrid : Stmt := topS 27

def rNthGrid : List Sl → Sl → Prop := fun ds x => ∃ (rows cols : List Int) (k : Nat) (g : List (List Int)), ds = [sT rows, sT cols, sI (k : Int)] ∧ Tots rows cols ∧ (Gm.mats rows cols)[k]? = some g ∧ x = .d (dTT g)
section
variable {P : Program} {w : World} {K : PySem.W.Frag} {mg : Str → Option Value} {base : Heap}

theorem ways_at {σ : St} {H : Hp} {Q : VK} {F : FS} {d : Addr} {rows left R0 : List Int} {n k : Nat} {δ : De} {t1 t2 : TE} {E : XK} (h1 : Ed K t1 δ (sT rows)) (h2 : Ed K t2 δ (sT left)) (g : σ[k]? = some (some (V.ref d))) (dm : Dom F H) (hF : F d) (s : Sd K (mk F H) σ δ) (kn : Kn P w K F R0 n H d)
    (al : Alw R0 n rows left) (h4 : R0.length ≤ 4) (hn : n ≤ 4) (nn : Gm.NN R0) (q : ∀ H', But (fun a => a = d) H H' → Kn P w K F R0 n H' d → Q (.int (Gm.ways rows left)) H') : tCall (spW P w K 4) [] E (tCons t1 (tCons t2 (tCons (tVar k) tNil))) σ H Q := by
  refine tCall_at (tCons_at (h1 F σ H dm s _ fun v1 H1 e1 k1 => tCons_at (h2 F σ H1 (dm.same e1) (sd_same (mk_same e1) s) _ fun v2 H2 e2 k2 => tCons_at (tVar_at g ?_))))
  exact ⟨F, d, rows, left, R0, n, v1, v2, rfl, dm.same (e1.trans e2), hF, kn.same (e1.trans e2), .cons (sv_same (mk_same e2) k1) (.cons k2 .nil), al, h4, hn, nn, Nat.le_trans (alw_len al) h4, fun H' b k' => q H' ((But.of (e1.trans e2)).trans b) k'⟩
theorem ed_tail {δ : De} {i j : Nat} {rows : List Int} {a : Nat} (h : δ[i]? = some (some (sT rows))) (ha : δ[j]? = some (some (sI (a : Int)))) : Ed K (tSl (rSlA K) (tVar i) (tPart (tOp (rI0 fun i j => V.int (i + j)) (tVar j) (tC (V.int 1)))) tNoPart) δ (sT (rows.drop (a + 1))) :=
  ed_is (ed_slT (ed_var h) (eo_some (ed_op (ed_var ha) ed_int od_I0)) eo_none) (by rw [show ((a : Int) + 1) = ((a + 1 : Nat) : Int) from rfl, cutD_from', dIs, ← List.map_drop])
theorem dom_two {F : FS} {H H' : Hp} {d a : Addr} {o : HO} {R0 : List Int} {n : Nat} (dm : Dom F H) (b : But (fun x => x = d ∨ x = a) H H') (k : Kn P w K F R0 n H' d) (h : H' a = some o) : Dom F H' := dom_but dm b fun x hx => by
  obtain ⟨ks', k'⟩ := k
  rcases hx with rfl | rfl
  · exact ⟨_, k'.at_⟩
  · exact ⟨_, h⟩
theorem drop_cons {α : Type} {l t : List α} {i : Nat} {x : α} (h : l.drop i = x :: t) : l[i]? = some x ∧ l.drop (i + 1) = t := by
  constructor
  · have := congrArg List.head? h
    rw [List.head?_drop] at this
    exact this
  · rw [← List.drop_drop, h]; rfl
theorem scNthGrid : FnScope ["rows", "columns", "number", "known", "grid", "left", "rest", "at", "every", "place", "late"] ["rows", "columns", "number"] (defScope sNthGrid) := ⟨rfl, rfl, rfl, by decide +kernel, rfl, by decide +kernel, by decide +kernel⟩
abbrev HNthGrid (P : Program) (w : World) (K : PySem.W.Frag) (mg : Str → Option Value) (base : Heap) : Prop := Has P w K mg base 7 "nth_grid" ["rows", "columns", "number"] (spD K rNthGrid)
theorem ok_NthGrid {f : Addr} {fd : FuncData} (F : Fun K "nth_grid" "nth_grid" sNthGrid f fd) (B : Bl mg) (H_check_totals : HCheckTotals P w K mg base) (H_is_number : HIsNumber P w K mg base) (H_rows_within : HRowsWithin P w K mg base) (H_taken : HTaken P w K mg base) (H_ways_for : HWaysFor P w K mg base) : FnOk P w K mg base CX0 7 f fd ["rows", "columns", "number"] (spD K rNthGrid) := by
  obtain ⟨f_check_totals, fd_check_totals, G_check_totals, m_check_totals, k_check_totals, b_check_totals⟩ := H_check_totals
  obtain ⟨f_is_number, fd_is_number, G_is_number, m_is_number, k_is_number, b_is_number⟩ := H_is_number
  obtain ⟨f_rows_within, fd_rows_within, G_rows_within, m_rows_within, k_rows_within, b_rows_within⟩ := H_rows_within
  obtain ⟨f_taken, fd_taken, G_taken, m_taken, k_taken, b_taken⟩ := H_taken
  obtain ⟨f_ways_for, fd_ways_for, G_ways_for, m_ways_for, k_ways_for, b_ways_for⟩ := H_ways_for
  refine fnD F scNthGrid (fun ds x h => ?_) fun cdv A outer s H E hr ds x h => ?_
  · obtain ⟨rows, cols, k, g, rfl, t, hk, rfl⟩ := h; rfl
  obtain ⟨rows, cols, k, g, rfl, t, hk, rfl⟩ := h
  refine ⟨_, (pss_cons (ps_expr (pe_call G_check_totals (hr.mono (by decide)) (by rfl) m_check_totals k_check_totals b_check_totals .nil pass0 (pa_cons (pv 0) (pa_cons (pv 1) pa_nil))))
      (pss_cons (ps_set (i := 3) scNthGrid.nd rfl (by first | exact Or.inl rfl | exact Or.inr rfl) (pe_dnewN))
      (pss_cons (ps_if (pt_not (pt_val (pe_call G_is_number (hr.mono (by decide)) (by rfl) m_is_number k_is_number b_is_number .nil pass0 (pa_cons (pv 2) (pa_cons pe_int (pa_cons (pe_op op_sub (pe_call G_ways_for hr (by rfl) m_ways_for k_ways_for b_ways_for .nil pass0 (pa_cons (pv 0) (pa_cons (pv 1) (pa_cons (pv 3) pa_nil)))) pe_int) pa_nil)))))) pss_never pss_nil)
      (pss_cons (ps_par3 (i := 4) (j := 5) (l := 6) rfl scNthGrid.nd rfl rfl rfl (by decide) (by decide) (by decide) rfl rfl rfl (pa_cons (pe_lst pa_nil) (pa_cons (pv 1) (pa_cons (pv 2) pa_nil))) rfl)
      (pss_cons (ps_for PassesOwn.never rfl (pi_range1 (by rfl) B.range (pa_cons (pe_callB call_len_seq (by rfl) B.len PySem.boot_len (pa_cons (pv 0) pa_nil)) pa_nil)) (pg_name (i := 7) scNthGrid.nd rfl (by first | exact Or.inl rfl | exact Or.inr rfl)) (pss_cons (ps_set (i := 8) scNthGrid.nd rfl (by first | exact Or.inl rfl | exact Or.inr rfl) (pe_call G_rows_within (hr.mono (by decide)) (by rfl) m_rows_within k_rows_within b_rows_within .nil pass0 (pa_cons (pe_ix ix_seq (pv 0) (pv 7) (fun _ _ => rfl)) (pa_cons (pv 5) pa_nil))))
      (pss_cons (ps_par (i := 9) (j := 10) rfl scNthGrid.nd rfl rfl (by decide) rfl rfl (pa_cons pe_int (pa_cons (pe_call G_taken (hr.mono (by decide)) (by rfl) m_taken k_taken b_taken .nil pass0 (pa_cons (pv 5) (pa_cons (pe_ix ix_seq (pv 8) pe_int (fun _ _ => rfl)) pa_nil))) pa_nil)) rfl)
      (pss_cons (ps_while PassesOwn.never (pt_cmpR op_ge (pv 6) (pe_call G_ways_for hr (by rfl) m_ways_for k_ways_for b_ways_for .nil pass0 (pa_cons (pe_slice sl_tupA (pv 0) (po_some (pe_op op_add (pv 7) pe_int)) po_none) (pa_cons (pv 10) (pa_cons (pv 3) pa_nil)))) (nomark _)) (pss_cons (ps_aug (i := 6) scNthGrid.nd rfl (by first | exact Or.inl rfl | exact Or.inr rfl) (pe_call G_ways_for hr (by rfl) m_ways_for k_ways_for b_ways_for .nil pass0 (pa_cons (pe_slice sl_tupA (pv 0) (po_some (pe_op op_add (pv 7) pe_int)) po_none) (pa_cons (pv 10) (pa_cons (pv 3) pa_nil)))) ip_sub)
      (pss_cons (ps_aug (i := 9) scNthGrid.nd rfl (by first | exact Or.inl rfl | exact Or.inr rfl) pe_int ip_add)
      (pss_one (ps_set (i := 10) scNthGrid.nd rfl (by first | exact Or.inl rfl | exact Or.inr rfl) (pe_call G_taken (hr.mono (by decide)) (by rfl) m_taken k_taken b_taken .nil pass0 (pa_cons (pv 5) (pa_cons (pe_ix ix_seq (pv 8) (pv 9) (fun _ _ => rfl)) pa_nil))))))))
      (pss_cons (ps_expr (pe_bm PySem.F.plainAttrs_list PySem.F.slot_list_append PySem.F.type_list_append mt_append (pv 4) (pa_cons (pe_ix ix_seq (pv 8) (pv 9) (fun _ _ => rfl)) pa_nil)))
      (pss_one (ps_set (i := 5) scNthGrid.nd rfl (by first | exact Or.inl rfl | exact Or.inr rfl) (pv 10))))))))
      (pss_one (ps_ret (pe_callTy call_tuple_of (by rfl) B.tuple (by decide +kernel) (pa_cons (pv 4) pa_nil))))))))), ?_⟩
  refine sr_seq (sn_drop (ed_call (ea_cons (ed_var rfl) (ea_cons (ed_var rfl) ea_nil)) (pd_of ⟨⟨rows, cols, rfl, t⟩, rfl⟩))) ?_
  intro F0 D σ H dm s q
  obtain ⟨kl, kg⟩ := List.getElem?_eq_some_iff.mp hk
  have al0 := alw_self t
  have h4 := t.1.2.1
  have hn := t.2.1.2.1
  have nn : Gm.NN rows := fun x hx => (t.1.2.2 x hx).1
  refine tSeq_at (tAsg_at fun d hd hds => ?_)
  have sF : Same (mk F0 H) (mk (fun a => F0 a ∨ a = d) (upd H d (DicN P w d []))) := same_or hd fun b o hb e => by rw [upd_ne hb]; exact e
  have dmF : Dom (fun a => F0 a ∨ a = d) (upd H d (DicN P w d [])) := fun a h => by
    rcases h with h | rfl
    · exact (dm.same (same_upd hd)) a h
    · exact ⟨_, upd_same⟩
  have s1 := sd_any (i := 3) (v := V.ref d) (sd_same sF s)
  have g3 : (σ.set 3 (some (V.ref d)))[3]? = some (some (V.ref d)) := List.getElem?_set_self (by rw [s.1]; show 3 < 11; decide)
  obtain ⟨kv, hkv, hkv2⟩ := s1.2 2 (sI (k : Int)) rfl
  cases hkv2
  refine nx_of (tIf_at (tNot_at (tB_at (tCall_at (tCons_at (tVar_at hkv (tCons_at (tC_at (tCons_at (tOp_at ?_))))))))))
  refine ways_at (δ := (List.set [some (sT rows), some (sT cols), some (sI (k : Int)), none, none, none, none, none, none, none, none] 3 none)) (R0 := rows) (n := cols.length) (F := fun a => F0 a ∨ a = d) (ed_var rfl) (ed_var rfl) g3 dmF (.inr rfl) s1 (kn_new hds) al0 h4 hn nn fun H1 b1 kn1 => ?_
  refine ⟨_, _, rfl, rfl, ?_⟩
  have dm1 : Dom (fun a => F0 a ∨ a = d) H1 := dom_but dmF b1 fun b hb => by obtain ⟨_, k'⟩ := kn1; exact hb ▸ ⟨_, k'.at_⟩
  have s2 := sd_same (but_mk (F := fun a => F0 a ∨ a = d) (fun b hb => .inr hb) b1) s1
  refine ⟨fun a => F0 a ∨ a = d, [sI (k : Int), sI 0, sI (Gm.ways rows cols - 1)], sB true, dm1, .cons (Dp.int _) (.cons (Dp.int _) (.cons (Dp.int _) .nil)), ⟨_, _, _, rfl, ?_⟩, fun v H2 e2 hv => ?_⟩
  · rw [decide_eq_true (by omega), decide_eq_true (by unfold Gm.ways; omega)]; rfl
  cases hv
  refine ⟨_, rfl, if_f (tNext_of (tSeq_at (tPar3_at (tCons_at (tLst_at ⟨by decide, fun a ha => ?_⟩)))))⟩
  obtain ⟨cv, hcv, hcv2⟩ := s2.2 1 (sT cols) rfl
  refine tCons_at (tVar_at hcv (tCons_at (tVar_at hkv ⟨_, _, _, rfl, ?_⟩)))
  have had : a ≠ d := fun z => by obtain ⟨_, k'⟩ := kn1; rw [z, e2 _ _ k'.at_] at ha; cases ha
  have haH : H a = none := by
    cases e : H a with
    | none => rfl
    | some o =>
      have := e2 _ _ (b1 _ _ (show ¬ a = d from had) (show upd H d (DicN P w d []) a = some o by rw [upd_ne had]; exact e))
      rw [ha] at this; cases this
  -- the two that change
  let F : FS := fun b => (F0 b ∨ b = d) ∨ b = a
  let M : FS := fun b => b = d ∨ b = a
  have hMF : ∀ b, M b → F b := fun b h => h.elim (fun z => .inl (.inr z)) .inr
  have sA : Same (mk (fun a => F0 a ∨ a = d) H2) (mk F (upd H2 a (.lst []))) := same_or ha fun b o hb e => by rw [upd_ne hb]; exact e
  have dm3 : Dom F (upd H2 a (.lst [])) := fun b h => by
    rcases h with h | rfl
    · exact (dm1.same (e2.trans (same_upd ha))) b h
    · exact ⟨_, upd_same⟩
  obtain ⟨ks2, kp2⟩ := kn1.same e2
  have kp3 : KnP P w K F rows cols.length (upd H2 a (.lst [])) d ks2 := ⟨by rw [upd_ne had.symm]; exact kp2.at_, kp2.sys, kp2.nd, fun x hx => let ⟨r, l, h1, h2, h3⟩ := kp2.ok x hx; ⟨r, l, h1, dp_same sA h2, h3⟩⟩
  have s3 := sd_same ((mk_same e2).trans sA) s2
  have s4 := sd_set (i := 6) (sd_set (i := 5) (sd_any (i := 4) (v := V.ref a) s3) (x := sT cols) (dp_same ((mk_same e2).trans sA) hcv2)) (x := sI (k : Int)) (Dp.int _)
  have g3' : ((((σ.set 3 (some (V.ref d))).set 4 (some (V.ref a))).set 5 (some cv)).set 6 (some (V.int (k : Int))))[3]? = some (some (V.ref d)) := by
    rw [List.getElem?_set_ne (by decide), List.getElem?_set_ne (by decide), List.getElem?_set_ne (by decide)]; exact g3
  have g4' : ((((σ.set 3 (some (V.ref d))).set 4 (some (V.ref a))).set 5 (some cv)).set 6 (some (V.int (k : Int))))[4]? = some (some (V.ref a)) := by
    rw [List.getElem?_set_ne (by decide), List.getElem?_set_ne (by decide)]
    exact List.getElem?_set_self (by rw [List.length_set, s.1]; show 4 < 11; decide)
  refine nx_of (tSeq_at ?_)
  have hgl : g.length = rows.length := ((Gm.mem_mats (fun x hx => (t.2.1.2.2 x hx).1)).mp (List.mem_of_getElem? hk)).len
  refine for_at (F := F) (δ := _) (enc := fun i : Nat => PyData.int (i : Int)) (ds := List.range rows.length) (wd_rngN (ea_cons (ed_len (ed_var rfl) (.inr rfl)) ea_nil) (by omega)) dm3 s4 fun H3 e3 => ?_
  refine ⟨fun i σ' H' => ∃ vs L, ∃ r : Nat, But M H3 H' ∧ Kn P w K F rows cols.length H' d ∧ H' a = some (.lst vs) ∧ DpAll K (mk F H') vs ((g.take i).map dT) ∧ σ'[3]? = some (some (V.ref d)) ∧ σ'[4]? = some (some (V.ref a)) ∧ Sd K (mk F H') σ' [some (sT rows), some (sT cols), some (sI (k : Int)), none, none, some (sT L), some (sI (r : Int)), none, none, none, none] ∧
      (Gm.mats (rows.drop i) L)[r]? = some (g.drop i) ∧ Alw rows cols.length (rows.drop i) L,
    ⟨[], cols, k, .of (Same.refl _), ⟨ks2, kp3.same e3⟩, e3 _ _ upd_same, .nil, g3', g4', sd_same (mk_same e3) s4, hk, al0⟩, ?_, ?_, ?_⟩
  · rintro i σ' H' ⟨vs, L, r, b, ⟨ks', k'⟩, ha', _⟩
    exact ⟨dom_two (dm3.same e3) b ⟨ks', k'⟩ ha', but_mk hMF b⟩
  · rintro i j σ' H' v H4 hij ⟨vs, L, r, b, kn4, ha4, hvs, g3, g4, s5, hr, al⟩ e4 hv4
    obtain ⟨hil, rfl⟩ := List.getElem?_eq_some_iff.mp hij
    rw [List.length_range] at hil
    rw [List.getElem_range] at hv4
    have dm5 : Dom F H' := dom_two (dm3.same e3) b kn4 ha4
    have s6 := sd_set (i := 7) (x := sI (i : Int)) (sd_same (mk_same e4) s5) hv4
    have hdr : rows.drop i = rows[i] :: rows.drop (i + 1) := List.drop_eq_getElem_cons hil
    have hLl : L.length ≤ 4 := by rw [al.len]; exact hn
    have h0i : 0 ≤ rows[i] := nn _ (List.getElem_mem hil)
    have hir : (dIs rows)[i]? = some (.int rows[i]) := by rw [dIs, List.getElem?_map, List.getElem?_eq_getElem hil]; rfl
    refine tSeq_at (tAsg_at ?_)
    refine (show Ed K _ _ (.d (dLT (Gm.wr rows[i] L))) from ed_call (ea_cons (ed_op (ed_var rfl) (ed_var rfl) (od_ix (.inr rfl) hir)) (ea_cons (ed_var rfl) ea_nil)) (pd_of ⟨rows[i], L, rfl, h0i, hLl, al.rng, rfl⟩)) F _ H4 (dm5.same e4) s6 _ fun ev H5 e5 h5 => ?_
    have s7 := sd_set (i := 8) (sd_same (mk_same e5) s6) h5
    have hev : ∀ p : Nat, ∀ row, (Gm.wr rows[i] L)[p]? = some row → ((Gm.wr rows[i] L).map dT)[p]? = some (dT row) := fun p row h => by rw [List.getElem?_map, h]; rfl
    rw [hdr] at hr
    have hr' : (((Gm.wr rows[i] L).drop 0).flatMap fun row => (Gm.mats (rows.drop (i + 1)) (Gm.sub L row)).map fun g => row :: g)[r]? = some (g.drop i) := hr
    have h0l := Gm.flat_in hr'
    obtain ⟨row0, hrow0⟩ : ∃ row, (Gm.wr rows[i] L)[0]? = some row := ⟨_, List.getElem?_eq_getElem h0l⟩
    refine nx_of (tSeq_at (tPar_at ?_))
    refine (show Ea K _ _ [sI 0, sT (Gm.sub L row0)] from ea_cons ed_int (ea_cons (ed_call (ea_cons (ed_var rfl) (ea_cons (ed_op (ed_var rfl) ed_int (od_ix (j := 0) (.inl rfl) (hev 0 row0 hrow0))) ea_nil)) (pd_of ⟨L, row0, rfl, by omega, rfl⟩)) ea_nil)) F _ H5 ((dm5.same e4).same e5) s7 _ fun ws H6 e6 h6 => ?_
    cases h6 with
    | cons p1 h6 =>
    cases h6 with
    | cons p2 h6 =>
    cases h6
    refine ⟨_, _, rfl, ?_⟩
    have e46 := (e4.trans e5).trans e6
    have s8 := sd_set (i := 10) (sd_set (i := 9) (sd_same (mk_same e6) s7) p1) p2
    have dm6 := dm5.same e46
    let W : Nat → St → Hp → Prop := fun m σ'' H'' => ∃ p r' : Nat, ∃ row, m = (Gm.wr rows[i] L).length - p ∧ But (fun b => b = d) H6 H'' ∧ Kn P w K F rows cols.length H'' d ∧ σ''[3]? = some (some (V.ref d)) ∧ σ''[4]? = some (some (V.ref a)) ∧
      Sd K (mk F H'') σ'' [some (sT rows), some (sT cols), some (sI (k : Int)), none, none, some (sT L), some (sI (r' : Int)), some (sI (i : Int)), some (.d (dLT (Gm.wr rows[i] L))), some (sI (p : Int)), some (sT (Gm.sub L row))] ∧
      (Gm.wr rows[i] L)[p]? = some row ∧ (((Gm.wr rows[i] L).drop p).flatMap fun row => (Gm.mats (rows.drop (i + 1)) (Gm.sub L row)).map fun g => row :: g)[r']? = some (g.drop i)
    have ug : ∀ (τ : St) (j : Nat) (x : V), τ[j]? = some (some x) → j = 3 ∨ j = 4 → ((((τ.set 7 (some v)).set 8 (some ev)).set 9 (some (V.int 0))))[j]? = some (some x) := fun τ j x h hj => by
      rw [List.getElem?_set_ne (by omega), List.getElem?_set_ne (by omega), List.getElem?_set_ne (by omega)]; exact h
    refine nx_of (tSeq_at (tWhile_at ⟨W, ⟨_, 0, r, row0, rfl, .of (Same.refl _), kn4.same e46, ?_, ?_, s8, hrow0, hr'⟩, ?_⟩))
    · cases p1
      rw [List.getElem?_set_ne (by decide)]
      exact ug σ' 3 _ g3 (.inl rfl)
    · cases p1
      rw [List.getElem?_set_ne (by decide)]
      exact ug σ' 4 _ g4 (.inr rfl)
    rintro m σ7 H7 ⟨p, r', row, rfl, b7, kn7, g37, g47, s9, hp, hf⟩
    have hFd : F d := .inl (.inr rfl)
    have dm7 : Dom F H7 := dom_but dm6 b7 fun x hx => by obtain ⟨_, k'⟩ := kn7; exact hx ▸ ⟨_, k'.at_⟩
    have al' : Alw rows cols.length (rows.drop (i + 1)) (Gm.sub L row) := alw_tail (hdr ▸ al) (List.mem_of_getElem? hp)
    obtain ⟨rv, hrv, hrv2⟩ := s9.2 6 (sI (r' : Int)) rfl
    cases hrv2
    obtain ⟨pv', hpv, hpv2⟩ := s9.2 9 (sI (p : Int)) rfl
    cases hpv2
    refine tTest_at (tOp_at (tVar_at hrv ?_))
    refine ways_at (ed_tail rfl rfl) (ed_var rfl) g37 dm7 hFd s9 kn7 al' h4 hn nn fun H8 b8 kn8 => ?_
    have dm8 : Dom F H8 := dom_but dm7 b8 fun x hx => by obtain ⟨_, k'⟩ := kn8; exact hx ▸ ⟨_, k'.at_⟩
    have s10 := sd_same (but_mk (M := fun x => x = d) (F := F) (fun b hb => hb ▸ hFd) b8) s9
    refine ⟨_, _, rfl, rfl, _, rfl, ?_⟩
    by_cases hle : Gm.ways (rows.drop (i + 1)) (Gm.sub L row) ≤ (r' : Int)
    · rw [decide_eq_true hle]
      refine if_t ?_
      have hlen : ((Gm.mats (rows.drop (i + 1)) (Gm.sub L row)).map fun g => row :: g).length ≤ r' := by rw [List.length_map]; unfold Gm.ways at hle; omega
      have hf2 := hf
      rw [Gm.flat_skip hp hlen] at hf2
      have hp1 := Gm.flat_in hf2
      obtain ⟨row', hrow'⟩ : ∃ row, (Gm.wr rows[i] L)[p + 1]? = some row := ⟨_, List.getElem?_eq_getElem hp1⟩
      refine ⟨W ((Gm.wr rows[i] L).length - (p + 1)), fun σ' H' h => ⟨_, by omega, h⟩, ?_⟩
      refine tSeq_at (tAug_at hrv ?_)
      refine ways_at (ed_tail rfl rfl) (ed_var rfl) g37 dm8 hFd s10 kn8 al' h4 hn nn fun H9 b9 kn9 => ?_
      have dm9 : Dom F H9 := dom_but dm8 b9 fun x hx => by obtain ⟨_, k'⟩ := kn9; exact hx ▸ ⟨_, k'.at_⟩
      have s11 := sd_set (i := 6) (sd_same (but_mk (M := fun x => x = d) (F := F) (fun b hb => hb ▸ hFd) b9) s10) (x := sI (((r' - ((Gm.mats (rows.drop (i + 1)) (Gm.sub L row)).map fun g => row :: g).length : Nat) : Int))) (Dp.int _)
      have er : (r' : Int) - Gm.ways (rows.drop (i + 1)) (Gm.sub L row) = (((r' - ((Gm.mats (rows.drop (i + 1)) (Gm.sub L row)).map fun g => row :: g).length : Nat) : Int)) := by
        rw [List.length_map] at hlen ⊢
        unfold Gm.ways
        omega
      refine ⟨_, _, rfl, rfl, ?_⟩
      show Ends.nx _ (σ7.set 6 (some (V.int ((r' : Int) - Gm.ways (rows.drop (i + 1)) (Gm.sub L row))))) H9
      rw [er]
      refine nx_of (tSeq_at (tAug_at (x := V.int (p : Int)) (by rw [List.getElem?_set_ne (by decide)]; exact hpv) ⟨_, _, rfl, rfl, nx_of (tAsg_at ?_)⟩))
      have s12 := sd_set (i := 9) s11 (x := sI ((p + 1 : Nat) : Int)) (Dp.int _)
      refine (show Ed K _ _ (sT (Gm.sub L row')) from ed_call (ea_cons (ed_var rfl) (ea_cons (ed_op (ed_var rfl) (ed_var rfl) (od_ix (.inl rfl) (hev (p + 1) row' hrow'))) ea_nil)) (pd_of ⟨L, row', rfl, by omega, rfl⟩)) F _ H9 dm9 s12 _ fun lv H10 e10 h10 => ?_
      refine ⟨p + 1, _, row', rfl, ((b7.trans b8).trans b9).trans (.of e10), kn9.same e10, ?_, ?_, sd_set (i := 10) (sd_same (mk_same e10) s12) h10, hrow', hf2⟩
      · rw [List.getElem?_set_ne (by decide), List.getElem?_set_ne (by decide), List.getElem?_set_ne (by decide)]; exact g37
      · rw [List.getElem?_set_ne (by decide), List.getElem?_set_ne (by decide), List.getElem?_set_ne (by decide)]; exact g47
    · rw [decide_eq_false hle]
      refine if_f (nx_of (tSeq_at (tDrop_at (tBM_at (tVar_at g47 ?_)))))
      have hlen : r' < ((Gm.mats (rows.drop (i + 1)) (Gm.sub L row)).map fun g => row :: g).length := by rw [List.length_map]; unfold Gm.ways at hle; omega
      rw [Gm.flat_take hp hlen, List.getElem?_map] at hf
      obtain ⟨g', hg', hgg⟩ := Option.map_eq_some_iff.mp hf
      obtain ⟨hgi, hgd⟩ := drop_cons hgg.symm
      have ha8 : H8 a = some (.lst vs) := b8 _ _ had (b7 _ _ had (e46 _ _ ha4))
      refine ⟨.inl ⟨rfl, _, Or.inl (Or.inl ha8)⟩, tCons_at ?_⟩
      refine (show Ed K _ _ (.d (dT row)) from ed_op (ed_var rfl) (ed_var rfl) (od_ix (.inl rfl) (hev p row hp))) F _ H8 dm8 s10 _ fun xv H9 e9 h9 => ?_
      have hvs8 : DpAll K (mk F H9) vs ((g.take i).map dT) := dpAll_same ((mk_same (F := F) e46).trans ((but_mk (M := fun x => x = d) (F := F) (fun b hb => hb ▸ hFd) (b7.trans b8)).trans (mk_same e9))) hvs
      have hvl : vs.length ≤ 4 := by
        rw [dpAll_len hvs8, List.length_map, List.length_take]; omega
      refine ⟨a, vs, xv, rfl, rfl, e9 _ _ ha8, by rw [sizeLine_eq]; omega, ?_⟩
      have hFa : F a := .inr rfl
      have hu : ∀ o, Same (mk F H9) (mk F (upd H9 a o)) := fun o => by rw [mk_in hFa]; exact Same.refl _
      have s11 := sd_same ((mk_same e9).trans (hu (.lst (vs ++ [xv])))) s10
      obtain ⟨lv, hlv, hlv2⟩ := s11.2 10 (sT (Gm.sub L row)) rfl
      refine nx_of (tAsg_at (tVar_at hlv ?_))
      have kn9 := kn8.same e9
      obtain ⟨ks9, kp9⟩ := kn9
      refine ⟨vs ++ [xv], Gm.sub L row, r', ?_, ⟨ks9, by rw [upd_ne had.symm]; exact kp9.at_, kp9.sys, kp9.nd, fun x hx => by rw [mk_in hFa]; exact kp9.ok x hx⟩, upd_same, ?_, ?_, ?_, ?_, ?_, ?_⟩
      · exact (((b.trans (.of e46)).trans ((b7.trans b8).mono fun x hx => .inl hx)).trans (.of e9)).trans (but_upd (M := fun x => x = d ∨ x = a) (.inr rfl))
      · rw [mk_in hFa, take_snoc hgi, List.map_append]
        exact dpAll_snoc hvs8 h9
      · rw [List.getElem?_set_ne (by decide)]; exact g37
      · rw [List.getElem?_set_ne (by decide)]; exact g47
      · exact sd_le (le_some (le_some (le_some (le_some (le_some (le_some (le_some (le_none (le_none (le_none (le_none le_nil))))))))))) (sd_set (i := 5) s11 hlv2)
      · rw [hgd]; exact hg'
      · exact al'
  · rintro σ' H' ⟨vs, L, r, b, kn4, ha4, hvs, g3, g4, s5, hr, al⟩
    refine nx_of (tRet_at (tCB_at (tCons_at (tVar_at g4 ⟨a, vs, rfl, .inl ⟨Or.inl (Or.inl ha4), fun l hl => ?_⟩⟩))))
    have hall : But M H H' := fun x o hn hx => by
      have hxd : ¬ x = d := fun z => hn (.inl z)
      have hxa : ¬ x = a := fun z => hn (.inr z)
      refine b x o hn (e3 _ _ ?_)
      rw [upd_ne hxa]
      exact e2 _ _ (b1 x o hxd (by rw [upd_ne hxd]; exact hx))
    have eS : Same H H' := same_of_but hall fun x hx => by rcases hx with rfl | rfl; exact hd; exact haH
    rw [List.length_range] at hvs
    rw [List.take_of_length_le (by omega)] at hvs
    have hsub : Same (mk F H') (mk F0 H') := fun x o hx => by
      by_cases h : F x
      · rw [mk_none h] at hx; cases hx
      · rw [mk_at h] at hx
        rw [mk_at (fun z => h (.inl (.inl z)))]; exact hx
    exact q _ _ (eS.trans (same_upd hl)) (new_tup (dm.same eS) hl (dpAll_same hsub hvs))
end
end G29
end L2
set_option Elab.async false
set_option linter.all false
set_option maxRecDepth 100000
set_option maxHeartbeats 4000000
/-! A grid of rows and a list that change. -/
namespace L2
namespace G29
open PySem PySem.Spec PyProof.Rows
def zeroV (n : Nat) : List V := (List.replicate n (0 : Int)).map V.int
theorem rep_zero (n : Nat) : (List.replicate n [V.int 0]).flatten = zeroV n := by
  unfold zeroV
  induction n with
  | zero => rfl
  | succ n ih => rw [List.replicate_succ, List.flatten_cons, ih, List.replicate_succ]; rfl
theorem tYes_at {σ : St} {H : Hp} {Q : Bool → Hp → Prop} (h : Q true H) : tYes σ H Q := h
section
variable {K : PySem.W.Frag} {δ : De}
/-- [[0] * len(columns) for row in rows]: rows of their own -/
theorem zeros_at {σ : St} {H : Hp} {Q : VK} {F : FS} {rows cols : List Int} {r : Nat} (dm : Dom F H) (s : Sd K (mk F H) σ δ) (h0 : δ[0]? = some (some (sT rows))) (h1 : δ[1]? = some (some (sT cols))) (hr : 2 ≤ r) (hl : rows.length ≤ 1000) (hc : cols.length ≤ 1000)
    (q : ∀ (a : Addr) (bs : List Addr) (H' : Hp), Same H H' → H' a = some (.lst (bs.map V.ref)) → bs.length = rows.length → bs.Nodup → a ∉ bs → (∀ b ∈ bs, H' b = some (.lst (zeroV cols.length))) → H a = none → (∀ b ∈ bs, H b = none) → Q (.ref a) H') :
    tLc (iSeq K (tVar 0)) (gName r) tYes (tOp rRep (tLst (tCons (tC (V.int 0)) tNil)) (tCB (rLen K) (tCons (tVar 1) tNil))) [r] σ H Q :=
  (wd_seq (ed_var h0) (.inr rfl) : Wd K (iSeq K (tVar 0)) δ (dIs rows)) F σ H dm s _ fun J H1 e1 hid D hD => by
    obtain ⟨cv, hcv, hcv2⟩ := s.2 1 _ h1
    refine ⟨fun i m H' => m = rows.length - i ∧ i ≤ rows.length ∧ ∃ bs : List Addr, H' D = some (.lst (bs.map V.ref)) ∧ (∀ b o, b ≠ D → H1 b = some o → H' b = some o) ∧ bs.length = i ∧ bs.Nodup ∧ D ∉ bs ∧ ∀ b ∈ bs, H' b = some (.lst (zeroV cols.length)) ∧ H1 b = none,
      ⟨rows.length, rfl, Nat.zero_le _, [], upd_same, fun b o hb e => by rw [upd_ne hb]; exact e, rfl, List.nodup_nil, by simp, fun b hb => by cases hb⟩, ?_⟩
    rintro i m H' ⟨rfl, hi, bs, hA, hk, hbl, hnd, hDb, hbs⟩
    have d1 := dm.same e1
    have dF := dom_or d1 hA hk
    have sB : Same (mk F H1) (mk (fun a => F a ∨ a = D) H') := same_or hD hk
    obtain ⟨hgo, hstop⟩ := hid _ i H' dF sB
    by_cases hlt : i < rows.length
    · have hdi : (dIs rows)[i]? = some (.int rows[i]) := by rw [dIs, List.getElem?_map, List.getElem?_eq_getElem hlt]; rfl
      refine .inr ⟨(hgo _ hdi).1, fun H2 => ∃ bs : List Addr, H2 D = some (.lst (bs.map V.ref)) ∧ (∀ b o, b ≠ D → H1 b = some o → H2 b = some o) ∧ bs.length = i + 1 ∧ bs.Nodup ∧ D ∉ bs ∧ ∀ b ∈ bs, H2 b = some (.lst (zeroV cols.length)) ∧ H1 b = none,
        fun H2 h2 => ⟨rows.length - (i + 1), by omega, rfl, hlt, h2⟩, fun u H2 yy => ?_⟩
      obtain ⟨e2, _⟩ := (hgo _ hdi).2 u H2 yy
      refine ⟨?_, ?_⟩
      · refine (wipe_same (vs := [r]) (List.length_set ..) fun k hk' => ?_).trans (wipe_wipe σ [r])
        rw [List.getElem?_set_ne (fun z => hk' (by rw [z]; exact List.mem_singleton.mpr rfl))]
      · refine tYes_at (if_t ?_)
        refine tOp_at (tLst_at ⟨by decide, fun p hp => tCB_at (tCons_at (tVar_at (x := cv) ?_ ?_))⟩)
        · rw [List.getElem?_set_ne (by omega)]
          show (σ.set r none)[1]? = _
          rw [List.getElem?_set_ne (by omega)]; exact hcv
        · obtain ⟨ac, rfl, hq⟩ := dp_T hcv2
          have eB : Same H H1 := e1
          have e3 : Same H2 (upd H2 p (.lst [V.int 0])) := same_upd hp
          have hq2 : SqT K (upd H2 p (.lst [V.int 0])) ac (cols.map V.int) := by
            have hq1 := same_t (e3) (same_t e2 (same_t (or_same.trans mk_le) (same_t sB (same_t (mk_same e1) hq))))
            exact hq1
          refine ⟨ac, _, rfl, .inr hq2, p, ((cols.map V.int).length : Int), [V.int 0], rfl, rfl, upd_same, by omega, by rw [List.length_map]; omega, by rw [List.length_singleton, Int.toNat_natCast, List.length_map]; exact sz _ (by omega), fun l hl' => ?_⟩
          have e4 : Same H2 (upd (upd H2 p (.lst [V.int 0])) l (.lst (List.replicate ((cols.map V.int).length : Int).toNat [V.int 0]).flatten)) := e3.trans (same_upd hl')
          have eA : Same H' (upd (upd H2 p (.lst [V.int 0])) l (.lst (List.replicate ((cols.map V.int).length : Int).toNat [V.int 0]).flatten)) := e2.trans e4
          have hlD : l ≠ D := fun z => by rw [z, e3 _ _ (e2 _ _ hA)] at hl'; cases hl'
          have hlb : l ∉ bs := fun z => by rw [e3 _ _ (e2 _ _ (hbs l z).1)] at hl'; cases hl'
          have hl1 : H1 l = none := by
            cases e : H1 l with
            | none => rfl
            | some o => rw [e3 _ _ (e2 _ _ (hk l o hlD e))] at hl'; cases hl'
          refine ⟨bs.map V.ref, eA _ _ hA, szlt _ (by rw [List.length_map]; omega), bs ++ [l], ?_, fun b o hb e => by rw [upd_ne hb]; exact eA _ _ (hk b o hb e), by rw [List.length_append, hbl]; rfl, ?_, ?_, fun b hb => ?_⟩
          · rw [upd_same, List.map_append]; rfl
          · exact List.nodup_append.mpr ⟨hnd, by simp, fun x hx y hy e => hlb (by have := List.mem_singleton.mp hy; rw [← this, ← e]; exact hx)⟩
          · intro z
            rcases List.mem_append.mp z with z | z
            · exact hDb z
            · exact hlD (List.mem_singleton.mp z).symm
          · have hbD : b ≠ D := fun z => by
              rw [z] at hb
              rcases List.mem_append.mp hb with hb | hb
              · exact hDb hb
              · exact hlD (List.mem_singleton.mp hb).symm
            rw [upd_ne hbD]
            rcases List.mem_append.mp hb with hb | hb
            · exact ⟨eA _ _ (hbs b hb).1, (hbs b hb).2⟩
            · have := List.mem_singleton.mp hb
              subst this
              refine ⟨?_, hl1⟩
              rw [upd_same, Int.toNat_natCast, List.length_map, rep_zero]
    · have hi' : rows.length = i := by omega
      have nH : ∀ b, H1 b = none → H b = none := fun b h => by
        cases e : H b with
        | none => rfl
        | some o => rw [e1 _ _ e] at h; cases h
      exact .inl ⟨hstop (by rw [dIs, List.length_map]; exact hi'), q D bs H' (fun b o e => hk b o (fun z => by rw [z] at e; have := e1 _ _ e; rw [hD] at this; cases this) (e1 _ _ e)) hA (by rw [hbl, hi']) hnd hDb (fun b hb => (hbs b hb).1) (nH _ hD) fun b hb => nH _ (hbs b hb).2⟩
end
/-! ### a grid and a list that change -/
structure GL (F : FS) (a c : Addr) (bs : List Addr) (g : List (List Int)) (l : List Int) (H : Hp) : Prop where
  ha : H a = some (.lst (bs.map V.ref))
  hb : ∀ (i : Nat) b, bs[i]? = some b → H b = some (.lst ((g.getD i []).map V.int))
  len : bs.length = g.length
  nd : bs.Nodup
  hc : H c = some (.lst (l.map V.int))
  cb : c ∉ bs
  ab : a ∉ bs
  ac : a ≠ c
  nF : ∀ x, (x = a ∨ x = c ∨ x ∈ bs) → ¬ F x
/-- what changes -/
def GM (a c : Addr) (bs : List Addr) : FS := fun x => x = a ∨ x = c ∨ x ∈ bs
def FM (F : FS) (a c : Addr) (bs : List Addr) : FS := fun x => F x ∨ GM a c bs x
def setG (g : List (List Int)) (i j : Nat) (v : Int) : List (List Int) := g.set i ((g.getD i []).set j v)
section
variable {K : PySem.W.Frag} {F : FS} {a c : Addr} {bs : List Addr} {g : List (List Int)} {l : List Int} {H H' : Hp}
theorem GL.same (h : GL F a c bs g l H) (e : Same H H') : GL F a c bs g l H' := ⟨e _ _ h.ha, fun i b hi => e _ _ (h.hb i b hi), h.len, h.nd, e _ _ h.hc, h.cb, h.ab, h.ac, h.nF⟩
theorem GL.dom (h : GL F a c bs g l H) (d : Dom F H) : Dom (FM F a c bs) H := fun x hx => by
  rcases hx with hx | rfl | rfl | hx
  · exact d x hx
  · exact ⟨_, h.ha⟩
  · exact ⟨_, h.hc⟩
  · obtain ⟨i, hi⟩ := List.mem_iff_getElem?.mp hx
    exact ⟨_, h.hb i x hi⟩
theorem fm_sub : Same (mk (FM F a c bs) H) (mk F H) := fun x o hx => by
  by_cases h : FM F a c bs x
  · rw [mk_none h] at hx; cases hx
  · rw [mk_at h] at hx
    rw [mk_at (fun z => h (.inl z))]; exact hx
theorem dpAll_rows {vs : List V} {g : List (List Int)} (hl : vs.length = g.length) (h : ∀ (i : Nat) v, vs[i]? = some v → Dp K H v (dL (g.getD i []))) : DpAll K H vs (g.map dL) := by
  induction vs generalizing g with
  | nil => cases g with | nil => exact .nil | cons x g => cases hl
  | cons v vs ih =>
    cases g with
    | nil => cases hl
    | cons x g =>
      refine .cons (h 0 v rfl) (ih (by simpa using hl) fun i u hu => ?_)
      have := h (i + 1) u (by simpa using hu)
      simpa using this
theorem GL.grid (h : GL F a c bs g l H) : Dp K (L2.G29.mk F H) (.ref a) (dLL g) := by
  refine .lst (xs := bs.map V.ref) (.inl (.inl ?_)) (dpAll_rows (by rw [List.length_map, h.len]) fun i v hv => ?_)
  · rw [mk_at (h.nF a (.inl rfl))]; exact h.ha
  · rw [List.getElem?_map] at hv
    obtain ⟨b, hb, rfl⟩ := Option.map_eq_some_iff.mp hv
    refine .lst (.inl (.inl ?_)) (dpAll_ofInts _)
    rw [mk_at (h.nF b (.inr (.inr (List.mem_of_getElem? hb))))]
    exact h.hb i b hb
theorem GL.left (h : GL F a c bs g l H) : Dp K (L2.G29.mk F H) (.ref c) (dL l) := by
  refine .lst (.inl (.inl ?_)) (dpAll_ofInts _)
  rw [mk_at (h.nF c (.inr (.inl rfl)))]; exact h.hc
theorem GL.setG (h : GL F a c bs g l H) {i j : Nat} {b : Addr} {v : Int} (hb : bs[i]? = some b) : GL F a c bs (L2.G29.setG g i j v) l (upd H b (.lst (((g.getD i []).set j v).map V.int))) := by
  have hbm : b ∈ bs := List.mem_of_getElem? hb
  have hba : a ≠ b := fun z => h.ab (z ▸ hbm)
  have hbc : c ≠ b := fun z => h.cb (z ▸ hbm)
  have hil : i < g.length := by rw [← h.len]; exact (List.getElem?_eq_some_iff.mp hb).1
  refine ⟨by rw [upd_ne hba]; exact h.ha, fun k b' hk => ?_, by unfold L2.G29.setG; rw [List.length_set]; exact h.len, h.nd, by rw [upd_ne hbc]; exact h.hc, h.cb, h.ab, h.ac, h.nF⟩
  unfold L2.G29.setG
  by_cases hki : i = k
  · subst hki
    rw [hb] at hk
    cases hk
    rw [upd_same]
    have e : (g.set i ((g.getD i []).set j v)).getD i [] = (g.getD i []).set j v := by
      rw [List.getD_eq_getElem?_getD (l := g.set i _), List.getElem?_set_self hil]; rfl
    rw [e]
  · have hne : b' ≠ b := fun z => by
      subst z
      have h1 := (List.getElem?_eq_some_iff.mp hk).1
      exact hki ((List.getElem?_inj (List.getElem?_eq_some_iff.mp hb).1 h.nd).mp (hb.trans hk.symm))
    rw [upd_ne hne, h.hb k b' hk, List.getD_eq_getElem?_getD, List.getD_eq_getElem?_getD, List.getElem?_set_ne hki]
theorem GL.setL (h : GL F a c bs g l H) {j : Nat} {v : Int} : GL F a c bs g (l.set j v) (upd H c (.lst ((l.set j v).map V.int))) := by
  refine ⟨by rw [upd_ne h.ac]; exact h.ha, fun k b' hk => ?_, h.len, h.nd, upd_same, h.cb, h.ab, h.ac, h.nF⟩
  rw [upd_ne (fun z => h.cb (by rw [← z]; exact List.mem_of_getElem? hk))]
  exact h.hb k b' hk
end
/-- the state: the grid at slot gi, the list at li, other data as δ -/
structure SG (K : PySem.W.Frag) (F : FS) (δ : De) (gi li : Nat) (a c : Addr) (bs : List Addr) (g : List (List Int)) (l : List Int) (σ : St) (H : Hp) : Prop where
  gl : GL F a c bs g l H
  dm : Dom F H
  sd : Sd K (mk (FM F a c bs) H) σ δ
  sg : σ[gi]? = some (some (V.ref a))
  sl : σ[li]? = some (some (V.ref c))
def viewG (δ : De) (gi li : Nat) (g : List (List Int)) (l : List Int) : De := (δ.set gi (some (.d (dLL g)))).set li (some (sL l))
section
variable {K : PySem.W.Frag} {F : FS} {δ : De} {gi li : Nat} {a c : Addr} {bs : List Addr} {g : List (List Int)} {l : List Int} {σ : St} {H H' : Hp} {D : Ends}
theorem sd_put {i : Nat} {v : V} {x : Sl} (h : Sd K H σ δ) (hi : σ[i]? = some (some v)) (hv : Sv K H v x) : Sd K H σ (δ.set i (some x)) := by
  refine ⟨by rw [List.length_set]; exact h.1, fun j y hy => ?_⟩
  by_cases hj : i = j
  · subst hj
    have hil : i < δ.length := by
      have := (List.getElem?_eq_some_iff.mp hy).1
      rwa [List.length_set] at this
    rw [List.getElem?_set_self hil] at hy
    cases hy
    exact ⟨v, hi, hv⟩
  · rw [List.getElem?_set_ne hj] at hy
    exact h.2 j y hy
theorem SG.view (h : SG K F δ gi li a c bs g l σ H) : Sd K (L2.G29.mk F H) σ (viewG δ gi li g l) := sd_put (sd_put (sd_same fm_sub h.sd) h.sg h.gl.grid) h.sl h.gl.left
theorem SG.same (h : SG K F δ gi li a c bs g l σ H) (e : Same H H') : SG K F δ gi li a c bs g l σ H' := ⟨h.gl.same e, h.dm.same e, sd_same (mk_same e) h.sd, h.sg, h.sl⟩
theorem SG.int (h : SG K F δ gi li a c bs g l σ H) {j : Nat} {i : Int} (h1 : j ≠ gi) (h2 : j ≠ li) : SG K F (δ.set j (some (sI i))) gi li a c bs g l (σ.set j (some (.int i))) H :=
  ⟨h.gl, h.dm, sd_set h.sd (Dp.int i), by rw [List.getElem?_set_ne h1]; exact h.sg, by rw [List.getElem?_set_ne h2]; exact h.sl⟩
theorem GM.dm (h : SG K F δ gi li a c bs g l σ H) {p : Addr} {o : HO} (hp : GM a c bs p) : Dom F (upd H p o) := fun x hx => by
  obtain ⟨u, hu⟩ := h.dm x hx
  have hxp : x ≠ p := fun z => h.gl.nF p hp (by rw [← z]; exact hx)
  exact ⟨u, by rw [upd_ne hxp]; exact hu⟩
theorem SG.write (h : SG K F δ gi li a c bs g l σ H) {p : Addr} {o : HO} (hp : GM a c bs p) {g' : List (List Int)} {l' : List Int} (gl : GL F a c bs g' l' (upd H p o)) : SG K F δ gi li a c bs g' l' σ (upd H p o) :=
  ⟨gl, GM.dm h hp, by rw [mk_in (show FM F a c bs p from .inr hp)]; exact h.sd, h.sg, h.sl⟩
theorem ixN_natI {n : Nat} {i : Int} (h0 : 0 ≤ i) (h : i < n) : ixN n i = some i.toNat := by
  have e : i = ((i.toNat : Nat) : Int) := (Int.toNat_of_nonneg h0).symm
  unfold ixN
  rw [if_pos h0, if_pos (by omega)]
/-- grid[one][other] = an int -/
theorem gset_at {te : TE} {oi ji : Nat} {one oth x : Int} (h : SG K F δ gi li a c bs g l σ H) (h1 : δ[oi]? = some (some (sI one))) (h2 : δ[ji]? = some (some (sI oth))) (o0 : 0 ≤ one) (o1 : one < g.length) (j0 : 0 ≤ oth) (j1 : oth < (g.getD one.toNat []).length)
    (he : Ed K te (viewG δ gi li g l) (sI x)) (q : ∀ H', SG K F δ gi li a c bs (setG g one.toNat oth.toNat x) l σ H' → But (GM a c bs) H H' → D.nx σ H') : tAsg te (gSub (tOp (rIx K) (tVar gi) (tVar oi)) (tVar ji) rSetL) D σ H := by
  refine tAsg_at (he F σ H h.dm h.view _ fun v H1 e1 hv => ?_)
  cases hv
  have s1 := h.same e1
  obtain ⟨v1, hv1, k1⟩ := s1.sd.2 oi _ h1
  cases k1
  obtain ⟨v2, hv2, k2⟩ := s1.sd.2 ji _ h2
  cases k2
  obtain ⟨b, hb⟩ : ∃ b, bs[one.toNat]? = some b := ⟨_, List.getElem?_eq_getElem (by rw [s1.gl.len]; omega)⟩
  have hba := s1.gl.hb _ _ hb
  have hat : atI (bs.map V.ref) one = some (V.ref b) := by
    have e : one = ((one.toNat : Nat) : Int) := (Int.toNat_of_nonneg o0).symm
    rw [e]
    exact atI_nat (by rw [List.getElem?_map, hb]; rfl)
  refine gSub_at (tOp_at (tVar_at s1.sg (tVar_at hv1 (.inl ⟨a, _, one, V.ref b, rfl, rfl, .inl (.inl s1.gl.ha), hat, tVar_at hv2 ⟨b, _, oth, oth.toNat, rfl, rfl, hba, ?_, ?_⟩⟩))))
  · exact ixN_natI j0 (by rw [List.length_map]; exact j1)
  · have hbm : GM a c bs b := .inr (.inr (List.mem_of_getElem? hb))
    have hm : ((g.getD one.toNat []).map V.int).set oth.toNat (V.int x) = ((g.getD one.toNat []).set oth.toNat x).map V.int := by rw [List.map_set]
    rw [hm]
    exact q _ (s1.write hbm (s1.gl.setG hb)) ((But.of e1).trans (but_upd hbm))
/-- left[other] -= an int -/
theorem laug_at {te : TE} {ji : Nat} {oth x : Int} (h : SG K F δ gi li a c bs g l σ H) (h2 : δ[ji]? = some (some (sI oth))) (j0 : 0 ≤ oth) (j1 : oth < l.length)
    (he : Ed K te (viewG δ gi li g l) (sI x)) (q : ∀ H', SG K F δ gi li a c bs g (l.set oth.toNat (la l oth - x)) σ H' → But (GM a c bs) H H' → D.nx σ H') : tAugS (tVar li) (tVar ji) te (rGetL K) (ipI fun i j => i - j) rSetL D σ H := by
  obtain ⟨v2, hv2, k2⟩ := h.sd.2 ji _ h2
  cases k2
  refine ⟨_, h.sl, _, hv2, c, l.map V.int, oth.toNat, V.int (la l oth), rfl, by rw [Int.toNat_of_nonneg j0], .inl (.inl h.gl.hc), ?_, ?_⟩
  · rw [List.getElem?_map, List.getElem?_eq_getElem (show oth.toNat < l.length by omega)]
    unfold la
    rw [List.getD_eq_getElem?_getD, List.getElem?_eq_getElem (show oth.toNat < l.length by omega)]; rfl
  · refine he F σ H h.dm h.view _ fun v H1 e1 hv => ?_
    cases hv
    have s1 := h.same e1
    have hcm : GM a c bs c := .inr (.inl rfl)
    refine ⟨_, _, rfl, rfl, c, _, oth, oth.toNat, rfl, rfl, s1.gl.hc, ixN_natI j0 (by rw [List.length_map]; exact j1), ?_⟩
    have hm : (l.map V.int).set oth.toNat (V.int (la l oth - x)) = (l.set oth.toNat (la l oth - x)).map V.int := by rw [List.map_set]
    show D.nx σ (upd H1 c (.lst ((l.map V.int).set oth.toNat (V.int (la l oth - x)))))
    rw [hm]
    exact q _ (s1.write hcm s1.gl.setL) ((But.of e1).trans (but_upd hcm))
end
end G29
end L2
set_option Elab.async false
set_option linter.all false
set_option maxRecDepth 100000
set_option maxHeartbeats 4000000
namespace L2
namespace G29
open PySem PySem.Spec PyProof.Rows
abbrev sCornerGrid : Stmt := topS 20
abbrev sReachBox : Stmt := topS 23

/-! ### what corner_grid computes -/
def cIn (one : Int) (s : List (List Int) × List Int × Int) (oth : Int) : List (List Int) × List Int × Int :=
  (setG s.1 one.toNat oth.toNat (min s.2.2 (la s.2.1 oth)), s.2.1.set oth.toNat (la s.2.1 oth - min s.2.2 (la s.2.1 oth)), s.2.2 - min s.2.2 (la s.2.1 oth))
def cRow (one : Int) (late : List Int) (s : List (List Int) × List Int × Int) : List (List Int) × List Int × Int := late.foldl (cIn one) s
def cOut (rows late : List Int) (s : List (List Int) × List Int) (one : Int) : List (List Int) × List Int := ((cRow one late (s.1, s.2, la rows one)).1, (cRow one late (s.1, s.2, la rows one)).2.1)
def cAll (rows late : List Int) (order : List Int) (s : List (List Int) × List Int) : List (List Int) × List Int := order.foldl (cOut rows late) s
def zeroG (m n : Nat) : List (List Int) := List.replicate m (List.replicate n 0)
def cornerG (rows cols order late : List Int) : List (List Int) := (cAll rows late order (zeroG rows.length cols.length, cols)).1
def Shp (m n : Nat) (g : List (List Int)) : Prop := g.length = m ∧ ∀ i, i < m → (g.getD i []).length = n
theorem shp_setG {m n : Nat} {g : List (List Int)} (h : Shp m n g) (i j : Nat) (v : Int) : Shp m n (setG g i j v) := by
  refine ⟨by unfold setG; rw [List.length_set]; exact h.1, fun k hk => ?_⟩
  unfold setG
  rw [List.getD_eq_getElem?_getD]
  by_cases hi : i = k
  · subst hi
    rw [List.getElem?_set_self (by rw [h.1]; exact hk)]
    show (List.set _ _ _).length = n
    rw [List.length_set]; exact h.2 i hk
  · rw [List.getElem?_set_ne hi, ← List.getD_eq_getElem?_getD]; exact h.2 k hk
theorem shp_zero (m n : Nat) : Shp m n (zeroG m n) := by
  refine ⟨by unfold zeroG; rw [List.length_replicate], fun i hi => ?_⟩
  unfold zeroG
  rw [List.getD_eq_getElem?_getD, List.getElem?_replicate, if_pos hi]
  show (List.replicate n (0 : Int)).length = n
  rw [List.length_replicate]
def Shp3 (m n : Nat) (s : List (List Int) × List Int × Int) : Prop := Shp m n s.1 ∧ s.2.1.length = n
theorem shp_cIn {m n : Nat} {one oth : Int} {s : List (List Int) × List Int × Int} (h : Shp3 m n s) : Shp3 m n (cIn one s oth) := ⟨shp_setG h.1 _ _ _, by unfold cIn; rw [List.length_set]; exact h.2⟩
theorem shp_cRow {m n : Nat} {one : Int} : ∀ (late : List Int) {s : List (List Int) × List Int × Int}, Shp3 m n s → Shp3 m n (cRow one late s)
  | [], _, h => h
  | x :: late, s, h => shp_cRow late (s := cIn one s x) (shp_cIn h)
theorem shp_cAll {m n : Nat} {rows late : List Int} : ∀ (order : List Int) {s : List (List Int) × List Int}, Shp m n s.1 → s.2.length = n → Shp m n (cAll rows late order s).1 ∧ (cAll rows late order s).2.length = n
  | [], _, h, h2 => ⟨h, h2⟩
  | x :: order, s, h, h2 => by
    have z := shp_cRow (one := x) late (s := (s.1, s.2, la rows x)) (m := m) (n := n) ⟨h, h2⟩
    exact shp_cAll order (s := cOut rows late s x) z.1 z.2
theorem ga_setG {m n : Nat} {g : List (List Int)} (h : Shp m n g) {i j v : Int} (i0 : 0 ≤ i) (i1 : i < m) (j0 : 0 ≤ j) (j1 : j < n) : ga (setG g i.toNat j.toNat v) i j = v := by
  unfold ga la setG
  rw [List.getD_eq_getElem?_getD (l := g.set _ _), List.getElem?_set_self (by rw [h.1]; omega)]
  show ((g.getD i.toNat []).set j.toNat v).getD j.toNat 0 = v
  rw [List.getD_eq_getElem?_getD, List.getElem?_set_self (by rw [h.2 _ (by omega)]; omega)]; rfl
def InR (xs : List Int) (m : Nat) : Prop := (∀ x ∈ xs, 0 ≤ x ∧ x < (m : Int)) ∧ xs.length ≤ 2000
def rCorner : List Sl → Sl → Prop := fun ds x => ∃ rows cols order late : List Int, ds = [sT rows, sT cols, sL order, sL late] ∧ rows.length ≤ 1000 ∧ cols.length ≤ 1000 ∧ InR order rows.length ∧ InR late cols.length ∧ x = .d (dLL (cornerG rows cols order late))
abbrev rCornerGrid := rCorner
section
variable {K : PySem.W.Frag} {F : FS} {H H' : Hp}
theorem same_fm {a c : Addr} {bs : List Addr} (h : ∀ x, GM a c bs x → H x = none) (e : Same H H') : Same (mk F H) (mk (FM F a c bs) H') := fun b o hb => by
  by_cases hF : F b
  · rw [mk_none hF] at hb; cases hb
  · rw [mk_at hF] at hb
    rw [mk_at (fun z => z.elim hF fun g => by rw [h b g] at hb; cases hb)]
    exact e b o hb
theorem gl_start {a c : Addr} {bs : List Addr} {m n : Nat} {l : List Int} (dm : Dom F H) (ha : H a = some (.lst (bs.map V.ref))) (hbl : bs.length = m) (hnd : bs.Nodup) (hab : a ∉ bs) (hbs : ∀ b ∈ bs, H b = some (.lst (zeroV n))) (haF : ¬ F a) (hbF : ∀ b ∈ bs, ¬ F b) (hc : H c = none) :
    GL F a c bs (zeroG m n) l (upd H c (.lst (l.map V.int))) := by
  have hca : a ≠ c := fun z => by rw [z, hc] at ha; cases ha
  have hcb : ∀ b ∈ bs, b ≠ c := fun b hb z => by have := hbs b hb; rw [z, hc] at this; cases this
  refine ⟨by rw [upd_ne hca]; exact ha, fun i b hi => ?_, by unfold zeroG; rw [hbl, List.length_replicate], hnd, upd_same, fun z => hcb c z rfl, hab, hca, fun x hx => ?_⟩
  · have hb := List.mem_of_getElem? hi
    rw [upd_ne (hcb b hb), hbs b hb]
    have hil := (List.getElem?_eq_some_iff.mp hi).1
    unfold zeroG
    rw [List.getD_eq_getElem?_getD, List.getElem?_replicate, if_pos (by omega)]; rfl
  · rcases hx with rfl | rfl | hx
    · exact haF
    · intro z; obtain ⟨o, q⟩ := dm _ z; rw [hc] at q; cases q
    · exact hbF x hx
end
section
variable {P : Program} {w : World} {K : PySem.W.Frag} {mg : Str → Option Value} {base : Heap}

theorem scCornerGrid : FnScope ["rows", "columns", "order", "late", "grid", "left", "row", "one", "rest", "other"] ["rows", "columns", "order", "late"] (defScope sCornerGrid) := ⟨rfl, rfl, rfl, by decide +kernel, rfl, by decide +kernel, by decide +kernel⟩
abbrev HCornerGrid (P : Program) (w : World) (K : PySem.W.Frag) (mg : Str → Option Value) (base : Heap) : Prop := Has P w K mg base 1 "corner_grid" ["rows", "columns", "order", "late"] (spD K rCornerGrid)
theorem ok_CornerGrid {f : Addr} {fd : FuncData} (F : Fun K "corner_grid" "corner_grid" sCornerGrid f fd) (B : Bl mg) : FnOk P w K mg base CX0 1 f fd ["rows", "columns", "order", "late"] (spD K rCornerGrid) := by
  refine fnD F scCornerGrid (fun ds x h => ?_) fun cdv A outer s H E hr ds x h => ?_
  · obtain ⟨rows, cols, order, late, rfl, hl, hc, ⟨ho, ho2⟩, ⟨hla, hla2⟩, rfl⟩ := h; rfl
  obtain ⟨rows, cols, order, late, rfl, hl, hc, ⟨ho, ho2⟩, ⟨hla, hla2⟩, rfl⟩ := h
  refine ⟨_, (pss_cons (ps_par (i := 4) (j := 5) rfl scCornerGrid.nd rfl rfl (by decide) rfl rfl (pa_cons (pe_lc (own := [("row", 6)]) (g := (gName 6)) (tt := tYes) (te := (tOp rRep (tLst (tCons (tC (V.int 0)) tNil)) (tCB (rLen K) (tCons (tVar 1) tNil)))) rfl scCornerGrid.nd (pi_seq (pv 0)) (blkOk_by (by kernel_rfl)) (fun _ _ _ _ _ => (pg_name (i := 6) scCornerGrid.nd rfl (by first | exact Or.inl rfl | exact Or.inr rfl))) (fun _ _ _ _ _ => pts_nil) (fun _ _ _ _ _ => (pe_op op_rep (pe_lst (pa_cons pe_int pa_nil)) (pe_callB call_len_seq (by rfl) B.len PySem.boot_len (pa_cons (pv 1) pa_nil))))) (pa_cons (pe_callTy call_list_of (by rfl) B.list (by decide +kernel) (pa_cons (pv 1) pa_nil)) pa_nil)) rfl)
      (pss_cons (ps_for PassesOwn.never rfl (pi_seq (pv 2)) (pg_name (i := 7) scCornerGrid.nd rfl (by first | exact Or.inl rfl | exact Or.inr rfl)) (pss_cons (ps_set (i := 8) scCornerGrid.nd rfl (by first | exact Or.inl rfl | exact Or.inr rfl) (pe_ix ix_seq (pv 0) (pv 7) (fun _ _ => rfl)))
      (pss_one (ps_for PassesOwn.never rfl (pi_seq (pv 3)) (pg_name (i := 9) scCornerGrid.nd rfl (by first | exact Or.inl rfl | exact Or.inr rfl)) (pss_cons (ps_asg (pe_callB (call_min2 rfl) (by rfl) B.min (by decide +kernel) (pa_cons (pv 8) (pa_cons (pe_ix ix_seq (pv 5) (pv 9) (fun _ _ => rfl)) pa_nil))) (pg_sub (pe_ix ix_seq (pv 4) (pv 7) (fun _ _ => rfl)) (pv 9) set_list))
      (pss_cons (ps_aug (i := 8) scCornerGrid.nd rfl (by first | exact Or.inl rfl | exact Or.inr rfl) (pe_ix ix_seq (pe_ix ix_seq (pv 4) (pv 7) (fun _ _ => rfl)) (pv 9) (fun _ _ => rfl)) ip_sub)
      (pss_one (ps_augS (pv 5) (pv 9) get_list (pe_ix ix_seq (pe_ix ix_seq (pv 4) (pv 7) (fun _ _ => rfl)) (pv 9) (fun _ _ => rfl)) ip_sub set_list))))))))
      (pss_one (ps_ret (pv 4))))), ?_⟩
  intro F D σ H dm s q
  obtain ⟨cv, hcv, hcv2⟩ := s.2 1 (sT cols) rfl
  obtain ⟨ac, rfl, hcq⟩ := dp_T hcv2
  refine tSeq_at (tPar_at (tCons_at ?_))
  refine zeros_at dm s rfl rfl (by decide) hl hc fun a bs H1 e1 ha hbl hnd hab hbs haN hbN => ?_
  refine tCons_at (tCB_at (tCons_at (tVar_at hcv ⟨ac, _, rfl, .inr (same_t e1 (same_t mk_le hcq)), fun c hcN => ?_⟩)))
  have dm1 := dm.same e1
  have cN : H c = none := by
    cases e : H c with
    | none => rfl
    | some o => rw [e1 _ _ e] at hcN; cases hcN
  have hGM : ∀ x, GM a c bs x → H x = none := fun x hx => by
    rcases hx with rfl | rfl | hx
    · exact haN
    · exact cN
    · exact hbN x hx
  have gl := gl_start (F := F) (n := cols.length) (l := cols) dm1 ha hbl hnd hab hbs (fun z => by obtain ⟨o, q⟩ := dm a z; rw [haN] at q; cases q) (fun b hb z => by obtain ⟨o, q⟩ := dm b z; rw [hbN b hb] at q; cases q) hcN
  have eS : Same H (upd H1 c (.lst (cols.map V.int))) := e1.trans (same_upd hcN)
  have sF := sd_same (same_fm (F := F) hGM eS) s
  have S0 : SG K F [some (sT rows), some (sT cols), some (sL order), some (sL late), none, none, none, none, none, none] 4 5 a c bs (zeroG rows.length cols.length) cols ((σ.set 4 (some (V.ref a))).set 5 (some (V.ref c))) (upd H1 c (.lst (cols.map V.int))) :=
    ⟨gl, dm.same eS, sd_any (i := 5) (sd_any (i := 4) sF), by rw [List.getElem?_set_ne (by decide)]; exact List.getElem?_set_self (by rw [s.1]; show 4 < 10; decide), List.getElem?_set_self (by rw [List.length_set, s.1]; show 5 < 10; decide)⟩
  refine ⟨_, _, rfl, nx_of (tSeq_at ?_)⟩
  let T : Nat → List (List Int) × List Int := fun i => cAll rows late (order.take i) (zeroG rows.length cols.length, cols)
  have hT : ∀ i, Shp rows.length cols.length (T i).1 ∧ (T i).2.length = cols.length := fun i => shp_cAll _ (shp_zero _ _) rfl
  refine for_at (F := FM F a c bs) (δ := [some (sT rows), some (sT cols), some (sL order), some (sL late), none, none, none, none, none, none]) (enc := PyData.int) (ds := order) (wd_seq (ed_var rfl) (.inl rfl)) (S0.gl.dom S0.dm) S0.sd fun H3 e3 => ?_
  refine ⟨fun i σ' H' => SG K F [some (sT rows), some (sT cols), some (sL order), some (sL late), none, none, none, none, none, none] 4 5 a c bs (T i).1 (T i).2 σ' H' ∧ But (GM a c bs) H3 H', ⟨S0.same e3, .of (Same.refl _)⟩, fun i σ' H' h => ⟨h.1.gl.dom h.1.dm, but_mk (fun b hb => .inr hb) h.2⟩, ?_, ?_⟩
  · rintro i one σ' H' v H4 hi ⟨S1, b1⟩ e4 hv
    cases hv
    obtain ⟨o0, o1⟩ := ho one (List.mem_of_getElem? hi)
    have S2 := (S1.same e4).int (j := 7) (i := one) (by decide) (by decide)
    refine tSeq_at (tAsg_at ?_)
    refine (show Ed K _ _ (sI (la rows one)) from ed_op (ed_var rfl) (ed_var rfl) (od_ixI (.inr rfl) o0 (la_at o0 o1))) (FM F a c bs) _ H4 (S2.gl.dom S2.dm) S2.sd _ fun rv H5 e5 hrv => ?_
    cases hrv
    have S3 := (S2.same e5).int (j := 8) (i := la rows one) (by decide) (by decide)
    let U : Nat → List (List Int) × List Int × Int := fun j => cRow one (late.take j) ((T i).1, (T i).2, la rows one)
    have hU : ∀ j, Shp3 rows.length cols.length (U j) := fun j => shp_cRow _ (hT i)
    refine nx_of (for_at (F := FM F a c bs) (δ := [some (sT rows), some (sT cols), some (sL order), some (sL late), none, none, none, some (sI one), some (sI (la rows one)), none]) (enc := PyData.int) (ds := late) (wd_seq (ed_var rfl) (.inl rfl)) (S3.gl.dom S3.dm) S3.sd fun H6 e6 => ?_)
    refine ⟨fun j σ'' H'' => SG K F [some (sT rows), some (sT cols), some (sL order), some (sL late), none, none, none, some (sI one), some (sI (U j).2.2), none] 4 5 a c bs (U j).1 (U j).2.1 σ'' H'' ∧ But (GM a c bs) H6 H'', ⟨S3.same e6, .of (Same.refl _)⟩, fun j σ'' H'' h => ⟨h.1.gl.dom h.1.dm, but_mk (fun b hb => .inr hb) h.2⟩, ?_, ?_⟩
    · rintro j oth σ'' H'' v2 H7 hj ⟨S4, b4⟩ e7 hv2
      cases hv2
      obtain ⟨j0, j1⟩ := hla oth (List.mem_of_getElem? hj)
      have S5 := (S4.same e7).int (j := 9) (i := oth) (by decide) (by decide)
      obtain ⟨⟨hU1, hU2⟩, hU3⟩ := hU j
      have eU : U (j + 1) = cIn one (U j) oth := by
        show cRow one (late.take (j + 1)) _ = _
        rw [take_snoc hj]
        unfold cRow
        rw [List.foldl_append]; rfl
      refine tSeq_at (gset_at S5 (oi := 7) (ji := 9) (x := min (U j).2.2 (la (U j).2.1 oth)) rfl rfl o0 (by rw [hU1]; exact o1) j0 (by rw [hU2 _ (by omega)]; exact j1) (ed_cb (ea_cons (ed_var rfl) (ea_cons (ed_op (ed_var rfl) (ed_var rfl) (od_ixI (.inl rfl) j0 (la_at j0 (by rw [hU3]; exact j1)))) ea_nil)) cd_min2) fun H8 S6 b8 => nx_of (tSeq_at ?_))
      have hg1 : ga (setG (U j).1 one.toNat oth.toNat (min (U j).2.2 (la (U j).2.1 oth))) one oth = min (U j).2.2 (la (U j).2.1 oth) := ga_setG ⟨hU1, hU2⟩ o0 o1 j0 j1
      have hsh := shp_setG ⟨hU1, hU2⟩ one.toNat oth.toNat (min (U j).2.2 (la (U j).2.1 oth))
      obtain ⟨v8, hv8, hv8'⟩ := S6.sd.2 8 _ rfl
      cases hv8'
      refine tAug_at hv8 ?_
      refine (show Ed K _ (viewG _ 4 5 _ _) (sI (min (U j).2.2 (la (U j).2.1 oth))) from ed_is (ed_op (ed_op (ed_var rfl) (ed_var rfl) (od_ixI (.inl rfl) o0 (ga_at (R := dL) o0 (by rw [hsh.1]; exact o1)))) (ed_var rfl) (od_ixI (.inl rfl) j0 (la_at j0 (by rw [hsh.2 _ (by omega)]; exact j1)))) (congrArg sI hg1)) F _ H8 S6.dm S6.view _ fun xv H9 e9 hxv => ?_
      cases hxv
      have S7 := (S6.same e9).int (j := 8) (i := (U j).2.2 - min (U j).2.2 (la (U j).2.1 oth)) (by decide) (by decide)
      refine ⟨_, _, rfl, rfl, nx_of ?_⟩
      refine laug_at S7 (ji := 9) rfl j0 (by rw [hU3]; exact j1) (show Ed K _ (viewG _ 4 5 _ _) (sI (min (U j).2.2 (la (U j).2.1 oth))) from ed_is (ed_op (ed_op (ed_var rfl) (ed_var rfl) (od_ixI (.inl rfl) o0 (ga_at (R := dL) o0 (by rw [hsh.1]; exact o1)))) (ed_var rfl) (od_ixI (.inl rfl) j0 (la_at j0 (by rw [hsh.2 _ (by omega)]; exact j1)))) (congrArg sI hg1)) fun H10 S8 b10 => ?_
      refine nx_of (show SG K F [some (sT rows), some (sT cols), some (sL order), some (sL late), none, none, none, some (sI one), some (sI (U (j + 1)).2.2), none] 4 5 a c bs (U (j + 1)).1 (U (j + 1)).2.1 _ H10 ∧ But (GM a c bs) H6 H10 from ?_)
      rw [eU]
      exact ⟨⟨S8.gl, S8.dm, sd_le (le_some (le_some (le_some (le_some (le_some (le_some (le_some (le_some (le_some (le_none le_nil)))))))))) S8.sd, S8.sg, S8.sl⟩, ((b4.trans (.of e7)).trans b8).trans ((But.of e9).trans b10)⟩
    · rintro σ'' H'' ⟨S4, b4⟩
      have eT : T (i + 1) = ((U late.length).1, (U late.length).2.1) := by
        show cAll rows late (order.take (i + 1)) _ = (((cRow one (late.take late.length) _).1), ((cRow one (late.take late.length) _).2.1))
        rw [take_snoc hi, List.take_length]
        unfold cAll
        rw [List.foldl_append]; rfl
      refine nx_of (show SG K F [some (sT rows), some (sT cols), some (sL order), some (sL late), none, none, none, none, none, none] 4 5 a c bs (T (i + 1)).1 (T (i + 1)).2 σ'' H'' ∧ But (GM a c bs) H3 H'' from ?_)
      rw [eT]
      exact ⟨⟨S4.gl, S4.dm, sd_le (le_some (le_some (le_some (le_some (le_some (le_some (le_some (le_none (le_none (le_some le_nil)))))))))) S4.sd, S4.sg, S4.sl⟩, ((b1.trans (.of e4)).trans ((But.of e5).trans (.of e6))).trans b4⟩
  · rintro σ' H' ⟨S1, b1⟩
    have eE : (T order.length).1 = cornerG rows cols order late := by
      show (cAll rows late (order.take order.length) _).1 = _
      rw [List.take_length]; rfl
    rw [eE] at S1
    exact nx_of (tRet_at (tVar_at S1.sg (q _ _ (same_of_but (((But.of eS).trans (.of e3)).trans b1) hGM) S1.gl.grid)))

theorem inR_first {m : Nat} {so : List Int} (h : Lines so m) (hm : m ≤ 1000) : InR (firstOnes m so) m := by
  refine ⟨fun x hx => ?_, ?_⟩
  · unfold firstOnes at hx
    rcases List.mem_append.mp hx with hx | hx
    · exact h.1 x hx
    · obtain ⟨i, hi, rfl⟩ := List.mem_map.mp hx
      have := List.mem_range.mp (List.mem_filter.mp hi).1
      omega
  · unfold firstOnes
    rw [List.length_append, List.length_map]
    have h1 := List.length_filter_le (fun (i : Nat) => !decide ((i : Int) ∈ so)) (List.range m)
    rw [List.length_range] at h1
    have := h.2.2
    omega
def earlyL (late : List Int) (n : Nat) : List Int := late.drop n ++ late.take n
theorem inR_early {xs : List Int} {m n : Nat} (h : InR xs m) : InR (earlyL xs n) m := by
  refine ⟨fun x hx => ?_, ?_⟩
  · unfold earlyL at hx
    rcases List.mem_append.mp hx with hx | hx
    · exact h.1 x (List.mem_of_mem_drop hx)
    · exact h.1 x (List.mem_of_mem_take hx)
  · unfold earlyL
    rw [List.length_append, List.length_drop, List.length_take]
    have := h.2
    omega
theorem shp_corner (rows cols order late : List Int) : Shp rows.length cols.length (cornerG rows cols order late) := (shp_cAll _ (shp_zero _ _) rfl).1
def leastG (rows cols so ot : List Int) : List (List Int) := cornerG rows cols (firstOnes rows.length so) (earlyL (firstOnes cols.length ot) ot.length)
def greatG (rows cols so ot : List Int) : List (List Int) := cornerG rows cols (firstOnes rows.length so) (firstOnes cols.length ot)
def rReachBox (CE : Addr) : List Sl → Sl → Prop := fun ds x => ∃ rows cols so ot : List Int, ds = [sT rows, sT cols, sT so, sT ot] ∧ Tots rows cols ∧ Lines so rows.length ∧ Lines ot cols.length ∧ x = oE CE (leastG rows cols so ot) (greatG rows cols so ot)
theorem scReachBox : FnScope ["rows", "columns", "some", "others", "order", "late", "early"] ["rows", "columns", "some", "others"] (defScope sReachBox) := ⟨rfl, rfl, rfl, by decide +kernel, rfl, by decide +kernel, by decide +kernel⟩
abbrev HReachBox (P : Program) (w : World) (K : PySem.W.Frag) (mg : Str → Option Value) (base : Heap) (CE : Addr) : Prop := Has P w K mg base 5 "reach_box" ["rows", "columns", "some", "others"] (spD K (rReachBox CE))
theorem ok_ReachBox {f : Addr} {fd : FuncData} {CE : Addr} (F : Fun K "reach_box" "reach_box" sReachBox f fd) (B : Bl mg) (c : ClsF K mg "BoxEnds" CE) (HI : HBoxEndsInit P w K mg base CE) (H_check_box : HCheckBox P w K mg base) (H_first_ones : HFirstOnes P w K mg base) (H_corner_grid : HCornerGrid P w K mg base) : FnOk P w K mg base CX0 5 f fd ["rows", "columns", "some", "others"] (spD K (rReachBox CE)) := by
  obtain ⟨f_check_box, fd_check_box, G_check_box, m_check_box, k_check_box, b_check_box⟩ := H_check_box
  obtain ⟨f_first_ones, fd_first_ones, G_first_ones, m_first_ones, k_first_ones, b_first_ones⟩ := H_first_ones
  obtain ⟨f_corner_grid, fd_corner_grid, G_corner_grid, m_corner_grid, k_corner_grid, b_corner_grid⟩ := H_corner_grid
  obtain ⟨fI, fdI, GI, MK, bI⟩ := HI
  refine fnD F scReachBox (fun ds x h => ?_) fun cdv A outer s H E hr ds x h => ?_
  · obtain ⟨rows, cols, so, ot, rfl, _⟩ := h; rfl
  obtain ⟨rows, cols, so, ot, rfl, t, l1, l2, rfl⟩ := h
  have h4 := t.1.2.1
  have hn := t.2.1.2.1
  have i1 := inR_first l1 (by omega)
  have i2 := inR_first l2 (by omega)
  refine ⟨_, (pss_cons (ps_expr (pe_call G_check_box (hr.mono (by decide)) (by rfl) m_check_box k_check_box b_check_box .nil pass0 (pa_cons (pv 0) (pa_cons (pv 1) (pa_cons (pv 2) (pa_cons (pv 3) pa_nil))))))
      (pss_cons (ps_set (i := 4) scReachBox.nd rfl (by first | exact Or.inl rfl | exact Or.inr rfl) (pe_call G_first_ones (hr.mono (by decide)) (by rfl) m_first_ones k_first_ones b_first_ones .nil pass0 (pa_cons (pe_callB call_len_seq (by rfl) B.len PySem.boot_len (pa_cons (pv 0) pa_nil)) (pa_cons (pv 2) pa_nil))))
      (pss_cons (ps_set (i := 5) scReachBox.nd rfl (by first | exact Or.inl rfl | exact Or.inr rfl) (pe_call G_first_ones (hr.mono (by decide)) (by rfl) m_first_ones k_first_ones b_first_ones .nil pass0 (pa_cons (pe_callB call_len_seq (by rfl) B.len PySem.boot_len (pa_cons (pv 1) pa_nil)) (pa_cons (pv 3) pa_nil))))
      (pss_cons (ps_set (i := 6) scReachBox.nd rfl (by first | exact Or.inl rfl | exact Or.inr rfl) (pe_op op_catS (pe_slice sl_list (pv 5) (po_some (pe_callB call_len_seq (by rfl) B.len PySem.boot_len (pa_cons (pv 3) pa_nil))) po_none) (pe_slice sl_list (pv 5) po_none (po_some (pe_callB call_len_seq (by rfl) B.len PySem.boot_len (pa_cons (pv 3) pa_nil))))))
      (pss_one (ps_ret (pe_make MK GI (hr.mono (by decide)) (by rfl) c.g bI .nil pass0 (pa_cons (pe_call G_corner_grid (hr.mono (by decide)) (by rfl) m_corner_grid k_corner_grid b_corner_grid .nil pass0 (pa_cons (pv 0) (pa_cons (pv 1) (pa_cons (pv 4) (pa_cons (pv 6) pa_nil))))) (pa_cons (pe_call G_corner_grid (hr.mono (by decide)) (by rfl) m_corner_grid k_corner_grid b_corner_grid .nil pass0 (pa_cons (pv 0) (pa_cons (pv 1) (pa_cons (pv 4) (pa_cons (pv 5) pa_nil))))) pa_nil))))))))), ?_⟩
  refine sr_seq (sn_drop (ed_call (ea_cons (ed_var rfl) (ea_cons (ed_var rfl) (ea_cons (ed_var rfl) (ea_cons (ed_var rfl) ea_nil)))) (pd_of ⟨⟨rows, cols, so, ot, rfl, t, l1, l2⟩, rfl⟩))) (sr_seq (sn_set (ed_call (ea_cons (ed_len (ed_var rfl) (.inr rfl)) (ea_cons (ed_var rfl) ea_nil)) (pd_of ⟨rows.length, so, rfl, by omega, l1.2.2, rfl⟩))) (sr_seq (sn_set (ed_call (ea_cons (ed_len (ed_var rfl) (.inr rfl)) (ea_cons (ed_var rfl) ea_nil)) (pd_of ⟨cols.length, ot, rfl, by omega, l2.2.2, rfl⟩))) (sr_seq (sn_set (x := sL (earlyL (firstOnes cols.length ot) ot.length)) (ed_is (ed_op (ed_slL (ed_var rfl) (eo_some (ed_len (ed_var rfl) (.inr rfl))) eo_none) (ed_slL (ed_var rfl) eo_none (eo_some (ed_len (ed_var rfl) (.inr rfl)))) (od_catL ?_)) ?_)) (sr_ret (ed_make (ea_cons (ed_call (ea_cons (ed_var rfl) (ea_cons (ed_var rfl) (ea_cons (ed_var rfl) (ea_cons (ed_var rfl) ea_nil)))) (pd_of ⟨rows, cols, _, _, rfl, by omega, by omega, i1, inR_early i2, rfl⟩)) (ea_cons (ed_call (ea_cons (ed_var rfl) (ea_cons (ed_var rfl) (ea_cons (ed_var rfl) (ea_cons (ed_var rfl) ea_nil)))) (pd_of ⟨rows, cols, _, _, rfl, by omega, by omega, i1, i2, rfl⟩)) ea_nil)) ⟨_, _, _, _, rfl, gsLL _, gsLL _, ?_, ?_, rfl⟩ rfl)))))
  · have h1 : (cutD (dIs (firstOnes cols.length ot)) (some (ot.length : Int)) none).length ≤ 2000 := by rw [cutD_from', List.length_drop, dIs, List.length_map]; have := i2.2; omega
    have h2 : (cutD (dIs (firstOnes cols.length ot)) none (some (ot.length : Int))).length ≤ 2000 := by rw [cutD_to, List.length_take, dIs, List.length_map]; have := i2.2; omega
    omega
  · rw [cutD_from', cutD_to]
    unfold earlyL
    rw [sL, dL, dIs, dIs, List.map_append, List.map_drop, List.map_take]
  · show (cornerG _ _ _ _).length ≤ 1000
    rw [(shp_corner _ _ _ _).1]; omega
  · show (cornerG _ _ _ _).length ≤ 1000
    rw [(shp_corner _ _ _ _).1]; omega
end
end G29
end L2
set_option Elab.async false
set_option linter.all false
set_option maxRecDepth 100000
set_option maxHeartbeats 4000000
/-! Rules: sorted(range(n), key=lambda at: -xs[at]). -/
namespace L2
namespace G29
open PySem PySem.Spec PyProof.Rows
/-- the items of a list or a tuple of the heap -/
def ItAt (h : Heap) (l : Addr) (its : Array Value) : Prop := h.IsList l its ∨ IsTup h l its
abbrev keyBody (x : Str) (p1 p2 p3 p4 : Pos) : Expr := .UnaryOp .USub (.Subscript (.Name x p1) (.Name "at" p2) p3) p4
structure LamK (scope : Scope) (x : Str) : Prop where
  kind : scope.kind = .function
  co : scope.isCoroutine = false
  gen : scope.isGenerator = false
  at_ : scope.names.lookup ("at" : Str) = some .local
  free : scope.names.lookup x = some .free
  cell : ∀ y ∈ scope.names, y.2 ≠ .cell
section
variable {prog : Program} {w : World} {A : Around} {E : Value → Shared → Prop} {s : Shared}
theorem item_at {value slice : Expr} {l : Addr} {its : Array Value} {k : Int} {u : Tok} {x : Value} {Q : Value → Shared → Prop} (hl : ItAt s.heap l its) (h0 : 0 ≤ k) (h1 : k < its.size) (hz : its.size ≤ sizeLine) (hx : its[k.toNat]? = some x) (h : Q x s)
    (hs : subscripted slice false (.ref l) (.int k u) = operate [.ref l, .int k u] (getItem (.ref l) (.int k u))) : wpAny (model prog w) A (subscriptTail value slice (.ref l) (.int k u)) Q E s := by
  have hn := line63
  rcases hl with hl | hl
  · exact item_listR hl h0 (by omega) hx h hs
  · exact subscriptTail_builtinR (x := x) hl.typeIs slot_tuple_getitem.lookup
      (getItem_tuple (j := k.toNat) (Q := fun r s' => r = x ∧ Q r s') hl (by omega) (by omega) (seqIndex_of h0 h1) hx ⟨rfl, h⟩) hs
/-- the lambda's call: what stands stays -/
theorem lam_call {f c' cc l : Addr} {x : Str} {qual : Str} {params : Arguments} {p1 p2 p3 p4 : Pos} {scope : Scope} {cl : List (Str × Addr)} {pm ctv : Value} {i v : Int} {t tv : Tok} {its : Array Value} {Q : Value → Shared → Prop} (S : LamK scope x) (hroom : A.depth < recursionLimit) (lim : s.heap.NoLimit)
    (hf : s.heap.get? f = some (PySem.W.kla_obj "<lambda>" qual params (keyBody x p1 p2 p3 p4) scope cl pm c' ctv)) (hc : ∃ (oc : Obj) (vs : Array Value) (t : Tok), s.heap.get? c' = some oc ∧ oc.data = .fields vs ∧ vs[1]? = some (.str qual t))
    (hcl : cl.lookup x = some cc) (hcell : s.heap.IsCell cc (some (.ref l))) (hbind : bindArgs (PySem.W.kla_fn "<lambda>" qual params (keyBody x p1 p2 p3 p4) scope cl pm (.ref c') ctv) ⟨[Value.int i t], []⟩ = pure [(("at" : Str), Value.int i t)])
    (hl : ItAt s.heap l its) (h0 : 0 ≤ i) (h1 : i < its.size) (hz : its.size ≤ sizeLine) (hx : its[i.toNat]? = some (.int v tv)) (hd1 : (x == ("__debug__" : Str)) = false) (hd2 : (x == ("__classdict__" : Str)) = false)
    (q : ∀ (h' : Heap) (tk : Nat) (t' : Tok), (∀ b o, s.heap.get? b = some o → h'.get? b = some o) → Q (.int (-v) t') { s with heap := h', toks := tk }) : wpAny (model prog w) A (call (.ref f) [.int i t]) Q E s := by
  obtain ⟨oc, vs, tq, hoc, hdc, hvc⟩ := hc
  refine wpAny_call (PySem.W.kla_callFunE hroom hf rfl S.co S.gen rfl ⟨c', oc, vs, tq, rfl, hoc, hdc, hvc⟩ ?_)
  rw [hbind]
  refine wpAny_pure (wpAny_newFunctionEnv (fun y hy => S.cell y hy) (fun y hy => by rw [List.mem_singleton.mp hy]; exact S.at_) (fun h₁ hns hsb => ⟨lim.fresh _ hsb, ?_⟩) S.kind)
  show codeAny _ _ (.expr (keyBody x p1 p2 p3 p4) (PySem.W.envX qual scope s.heap.objs.size f (.ref c') cl)) _ _
  have kp : ∀ b o, s.heap.get? b = some o → h₁.get? b = some o := fun b o e => hsb.extBut b o (Nat.ne_of_lt (Heap.lt_size e)) (Heap.get?_push_of_some _ e)
  refine PySem.W.kla_codeExpr (UnaryOp_ (Subscript_ ?_))
  refine wpAny_Name (wpAny_loadName_free S.kind S.free hcl (v := .ref l) (let ⟨o, ho, hd⟩ := hcell; ⟨o, kp _ _ ho, hd⟩) ?_ hd2) hd1
  refine wpAny_Name (wpAny_loadName_local S.kind S.at_ hns (v := .int i t) rfl ?_) (by decide)
  refine item_at (its := its) (k := i) (u := t) (x := .int v tv) (hl.imp (fun ⟨o, ho, r⟩ => ⟨o, kp _ _ ho, r⟩) (fun ⟨o, ho, r⟩ => ⟨o, kp _ _ ho, r⟩)) h0 h1 hz hx ?_ rfl
  exact neg_int (q h₁ _ _ kp)
end
/-! ### all that stands, as news over a base -/
def allNews (h base : Heap) (L : Addr) : List (Addr × Obj) := (List.range h.objs.size).filterMap fun b => if b = L ∨ (base.get? b).isSome = true then none else (h.get? b).map fun o => (b, o)
theorem allNews_mem {h base : Heap} {L b : Addr} {o : Obj} : (b, o) ∈ allNews h base L ↔ h.get? b = some o ∧ b ≠ L ∧ base.get? b = none := by
  unfold allNews
  rw [List.mem_filterMap]
  constructor
  · rintro ⟨c, hc, e⟩
    split at e
    · cases e
    · rename_i n
      obtain ⟨o', h1, h2⟩ := Option.map_eq_some_iff.mp e
      cases h2
      refine ⟨h1, fun z => n (.inl z), ?_⟩
      cases hb : base.get? b with
      | none => rfl
      | some u => exact absurd (.inr (by rw [hb]; rfl)) n
  · rintro ⟨h1, h2, h3⟩
    refine ⟨b, List.mem_range.mpr (Heap.lt_size h1), ?_⟩
    rw [if_neg (fun z => z.elim h2 fun z => by rw [h3] at z; cases z), h1]; rfl
theorem allNews_keep {h base g : Heap} {L : Addr} {m : Str → Option Value} {own : List (Addr × Obj)} (hb : ∀ b o, base.get? b = some o → h.get? b = some o) (F : Fr base L g m) (N : News base L g (allNews h base L ++ own)) : ∀ b o, b ≠ L → h.get? b = some o → g.get? b = some o := fun b o hn e => by
  cases z : base.get? b with
  | some u =>
    rw [hb b u z] at e
    cases e
    exact F.keep b _ z
  | none => exact (N (b, o) (List.mem_append_left _ (allNews_mem.mpr ⟨e, hn, z⟩))).1
section
variable {X : Cx} {pins : List (Addr × Obj)} {σ : St} {H : Hp} {s : Shared}
/-- a new list, all else as it was but the frame's own dict told by its names -/
theorem inv_sorted {h' : Heap} {t' : Nat} {a : Addr} {xs : List V} (I : Inv X pins σ H s) (k : ∀ b o, b ≠ X.env.locals → s.heap.get? b = some o → h'.get? b = some o) (hns : ∀ m, s.heap.Ns X.env.locals m → h'.Ns X.env.locals m) (ha : s.heap.objs.size ≤ a)
    (new : ObjOk X.prog X.w (upd H a (.lst xs)) h' a (.lst xs)) : Inv X pins σ (upd H a (.lst xs)) { s with heap := h', toks := t' } := by
  have nA : H a = none := I.hok.fresh ha
  have lt : ∀ b o, s.heap.get? b = some o → b ≠ a := fun b o e => Nat.ne_of_lt (Nat.lt_of_lt_of_le (Heap.lt_size e) ha)
  have lt' : ∀ b u, H b = some u → b ≠ a := fun b u e => ne_of_none e nA
  have nL : ∀ b u, H b = some u → b ≠ X.env.locals := fun b u e => ne_of_none e I.free
  refine I.step (g' := s.gens) (d' := s.drawn) (ch := []) (fun b hb => absurd hb (by simp)) (fun b o h1 _ _ e _ => k b o h1 e) (fun b o h1 _ _ e _ => ⟨o.slots, k b o h1 e⟩)
    (fun b o _ e n => by rw [upd_ne (lt b o e)]; exact n) (fun b o _ e => ?_) (fun b xs e => by rw [upd_ne (lt' b _ e)]; exact e) (fun b o u e => by rw [upd_ne (lt' b _ e)]; exact e) (fun b ps e => ⟨#[], by rw [upd_ne (lt' b _ e), e]; simp⟩) hns (fun b u e => ?_) I.bare
  · by_cases hb : b = X.env.locals
    · obtain ⟨m, hn, _⟩ := I.loc
      obtain ⟨ob, _, _, ho, _⟩ := hns m hn
      exact ⟨ob, by rw [hb]; exact ho⟩
    · exact ⟨o, k b o hb e⟩
  · by_cases hb : b = a
    · subst hb
      rw [upd_same] at e
      cases e
      exact new
    · rw [upd_ne hb] at e
      refine (I.hok b u e).stay (fun d v hd q => k d v ?_ q) (fun d q => by rw [upd_ne (lt' d _ q)]; exact q) fun d xs q => by rw [upd_ne (lt' d _ q)]; exact q
      rcases hd with z | z
      · rw [z]; exact nL b u e
      · exact nL d _ z
/-- ps: the numbers below n, by falling xs -/
def ByFall (xs ps : List Int) : Prop := ps.Perm ((List.range xs.length).map fun (i : Nat) => (i : Int)) ∧ ps.Pairwise fun i j => xs.getD j.toNat 0 ≤ xs.getD i.toNat 0
theorem range_ints {n : Nat} {acc : Array Value} (h : ItemsOf (fun i v => ∃ t, v = .int (0 + i * 1) t) acc n) : IntsAre acc.toList ((List.range n).map fun (i : Nat) => (i : Int)) := by
  have hr : Vals (rgV 0 n) acc.toList := vals_rg (a := 0) (b := n) (by rw [show ((n : Int) - 0).toNat = n by omega]; exact h)
  have e : rgV 0 n = ((List.range n).map fun (i : Nat) => (i : Int)).map V.int := by
    unfold rgV
    rw [List.map_map, show ((n : Int) - 0).toNat = n by omega]
    congr 1
    funext i
    show V.int (0 + (i : Int)) = V.int (i : Int)
    rw [Int.zero_add]
  rw [e] at hr
  exact hr.ints
def keyOf (xs : List Int) (i : Int) : Int := -(xs.getD i.toNat 0)
theorem falls {xs : List Int} {vs : List Value} {out : List Value} (hi : IntsAre vs ((List.range xs.length).map fun (i : Nat) => (i : Int)))
    (h : KskOutSt false (((List.range xs.length).map fun (i : Nat) => (i : Int)).map (keyOf xs)) vs out) : ∃ ps, IntsAre out ps ∧ ByFall xs ps := by
  obtain ⟨ps, hp, ho, hs, _⟩ := h
  have hl := hi.length
  have hrel : ∀ p, p ∈ (((List.range xs.length).map fun (i : Nat) => (i : Int)).map (keyOf xs)).zip vs → p.1 = keyOf xs (numOf p.2) ∧ p.2 ∈ vs := by
    rw [← hi.nums, List.map_map, List.zip_map_left]
    intro p hp
    obtain ⟨⟨u, v⟩, hq, rfl⟩ := List.mem_map.mp hp
    have h1 : u = v ∧ u ∈ vs := mem_zip_self hq
    refine ⟨?_, ?_⟩
    · show keyOf xs (numOf u) = keyOf xs (numOf v)
      rw [h1.1]
    · show v ∈ vs
      rw [← h1.1]; exact h1.2
  refine ⟨(ps.map Prod.snd).map numOf, ?_, ?_, ?_⟩
  · rw [ho]
    exact intsAre_map _ fun v hv => by
      obtain ⟨p, hp', rfl⟩ := List.mem_map.mp hv
      exact hi.all _ (hrel p (hp.mem_iff.mp hp')).2
  · have h1 := (hp.map Prod.snd).map numOf
    rw [List.map_snd_zip (by rw [List.length_map]; omega), hi.nums] at h1
    exact h1
  · rw [List.pairwise_map, List.pairwise_map]
    refine hs.imp_of_mem fun {p q} hp' hq' hr => ?_
    have hr' : p.1 ≤ q.1 := hr
    rw [(hrel p (hp.mem_iff.mp hp')).1, (hrel q (hp.mem_iff.mp hq')).1] at hr'
    unfold keyOf at hr'
    omega
theorem sort_lam {f c' cc l r : Addr} {x : Str} {qual : Str} {params : Arguments} {p1 p2 p3 p4 : Pos} {scope : Scope} {cl : List (Str × Addr)} {pm ctv : Value} {its : Array Value} {xs : List Int} {t u v : Tok} {Q : VK} (I : Inv X pins σ H s) (S : LamK scope x)
    (hr : IsRange s.heap r 0 (xs.length : Int) 1 t u v) (hf : s.heap.get? f = some (PySem.W.kla_obj "<lambda>" qual params (keyBody x p1 p2 p3 p4) scope cl pm c' ctv)) (hc : H c' = some (LamX.CodeO c' qual))
    (hcl : cl.lookup x = some cc) (hcell : s.heap.IsCell cc (some (.ref l))) (ccL : cc ≠ X.env.locals) (hl : ItAt s.heap l its) (hi : IntsAre its.toList xs) (hz : xs.length ≤ 1000)
    (hbind : ∀ (i : Int) (t : Tok), bindArgs (PySem.W.kla_fn "<lambda>" qual params (keyBody x p1 p2 p3 p4) scope cl pm (.ref c') ctv) ⟨[Value.int i t], []⟩ = pure [(("at" : Str), Value.int i t)])
    (hd1 : (x == ("__debug__" : Str)) = false) (hd2 : (x == ("__classdict__" : Str)) = false) (hh : X.A.handled = none) (room : X.A.depth < recursionLimit)
    (q : ∀ ps p, ByFall xs ps → H p = none → Q (.ref p) (upd H p (.lst (ps.map V.int)))) : wpAny (model X.prog X.w) X.A (call (.builtin "sorted") [.ref r] [(Str.ofString "key", .ref f)]) (EP X pins σ Q) X.xe s := by
  have hsl := sizeLine_eq
  have hil : its.size = xs.length := by rw [← Array.length_toList, hi.length]
  obtain ⟨m, hnL, _⟩ := id I.loc
  obtain ⟨oL, esL, epL, hoL, hdL, _⟩ := id hnL
  have nfL : f ≠ X.env.locals := fun z => by
    rw [z, hoL] at hf
    cases hf
    cases hdL
  have ncL : c' ≠ X.env.locals := ne_of_none hc I.free
  have nlL : l ≠ X.env.locals := fun z => by
    rcases hl with ⟨o, ho, _, n, hd⟩ | ⟨o, ho, _, n, hd⟩
    all_goals
      rw [z, hoL] at ho
      cases ho
      rw [hdL] at hd
      cases hd
  refine call_function_entry_kw kind_sorted plain_sorted entry_sorted (ksk_s1 _ _) ?_
  unfold Builtin.«sorted»
  refine wpAny_bind (m := checkCount "sorted" 1 1 _) (wpAny_pure ?_)
  refine wpAny_bind (collect_range (A := X.A.in1) (n := xs.length) hh hr (small_one (by decide) (by decide) (by omega) (by omega)) (by rw [rangeSize_one]; split <;> omega) (by omega) fun h1 tk1 acc hk1 hacc => ?_)
  have hri := range_ints hacc
  have hal : acc.toList.length = xs.length := by rw [hri.length, List.length_map, List.length_range]
  refine wpAny_bind (wpAny_newList ?_ (by rw [hal]; omega))
  have I1 : Inv X pins σ H { s with heap := h1, toks := tk1 } := I.kept (t' := tk1) hk1
  have hpush : ∀ b o, h1.get? b = some o → (h1.push { cls := .type "list", data := .seq acc.toList.toArray }).get? b = some o := fun b o e => Heap.get?_push_of_some _ e
  have hns1 : h1.Ns X.env.locals m := ⟨oL, esL, epL, hk1 _ _ hoL, hdL, (let ⟨o, es, ep, ho, hd, r⟩ := hnL; by
    rw [hoL] at ho
    cases ho
    rw [hdL] at hd
    cases hd
    exact r)⟩
  have F0 : Fr X.base X.env.locals (h1.push { cls := .type "list", data := .seq acc.toList.toArray }) m :=
    ⟨(let ⟨o, es, ep, ho, r⟩ := hns1; ⟨o, es, ep, hpush _ _ ho, r⟩), fun b o e => hpush b o (I1.bk b o e), Nat.le_trans I1.ok.bsz I1.ok.above⟩
  have N0 : News X.base X.env.locals (h1.push { cls := .type "list", data := .seq acc.toList.toArray }) (allNews h1 X.base X.env.locals) := fun p hp => by
    obtain ⟨e1, e2, e3⟩ := allNews_mem.mp hp
    exact ⟨hpush _ _ e1, e2, e3⟩
  refine wpAny_bind (wpAny_holding (wpAny_call_entry_kw slot_list_sort ⟨_, Heap.get?_push_size _ rfl, rfl⟩ entry_list_sort ?_ (ksk_l1 _ _)))
  rw [ksk_t1]
  refine ksk_sortSt (s := { s with heap := h1.push { cls := .type "list", data := .seq acc.toList.toArray }, toks := tk1 }) (n := 0) (kz := ((List.range xs.length).map fun (i : Nat) => (i : Int)).map (keyOf xs)) (vs := acc.toList) F0 N0 (Heap.get?_push_size _ rfl) (Nat.ne_of_gt I1.lt) (Heap.get?_none_of_le (Nat.le_trans F0.above (Nat.le_of_lt I1.lt)))
    (fun p hp => Nat.ne_of_lt (Heap.lt_size (allNews_mem.mp hp).1)) (by rw [List.length_map, List.length_map, List.length_range, hal]) (by rw [hal]; omega) (fun i v k hv hk h tk own F N => ?_) fun h2 tk2 out c F2 N2 ko => ?_
  · have keep := allNews_keep (fun b o e => I1.bk b o e) F N
    have hil' : i < xs.length := by rw [← hal]; exact (List.getElem?_eq_some_iff.mp hv).1
    have hri' : ((List.range xs.length).map fun (i : Nat) => (i : Int))[i]? = some (i : Int) := by rw [List.getElem?_map, List.getElem?_range hil']; rfl
    rw [List.getElem?_map, hri'] at hk
    cases hk
    obtain ⟨ti, hti⟩ := hri.get i _ hri'
    rw [hti] at hv
    cases hv
    have hxi : xs[i]? = some xs[i] := List.getElem?_eq_getElem hil'
    obtain ⟨tv, htv⟩ := hi.get i _ hxi
    have hcO : LamX.CodeO c' qual = LamX.CodeO c' qual := rfl
    obtain ⟨⟨oc, vs, tq, hoc, hdc, hvc⟩, _, _⟩ := I1.hok c' _ hc
    obtain ⟨ocl, hocl, hdcl⟩ := hcell
    have hgd : xs.getD i 0 = xs[i] := by rw [List.getD_eq_getElem?_getD, hxi]; rfl
    refine lam_call (s := { s with heap := h, toks := tk }) (v := xs[i]) (its := its) (tv := tv) S room (I.mod.nolimit.keeps F.keep) (keep _ _ nfL (hk1 _ _ hf)) ⟨oc, vs, tq, keep _ _ ncL hoc, hdc, hvc⟩ hcl ⟨ocl, keep _ _ ccL (hk1 _ _ hocl), hdcl⟩ (hbind _ _)
      (hl.imp (fun ⟨o, ho, r⟩ => ⟨o, keep _ _ nlL (hk1 _ _ ho), r⟩) (fun ⟨o, ho, r⟩ => ⟨o, keep _ _ nlL (hk1 _ _ ho), r⟩)) (by omega) (by rw [hil]; omega) (by rw [hil]; omega) (by rw [Int.toNat_natCast, ← Array.getElem?_toList]; exact htv) hd1 hd2 fun h' tk' t' hk' => ?_
    have hkey : keyOf xs ((i : Nat) : Int) = -(xs[i]) := by unfold keyOf; rw [Int.toNat_natCast, hgd]
    rw [hkey]
    exact KskEnd.intro (F.kept hk') (N.grown hk') fun p hp => hp
  · refine ⟨_, rfl, wpAny_pure ⟨_, rfl, ?_⟩⟩
    obtain ⟨ps, hps, hfall⟩ := falls hri ko
    have keep := allNews_keep (own := []) (fun b o e => I1.bk b o e) F2 (fun p hp => N2 p (List.mem_cons_of_mem _ (by rw [List.append_nil] at hp; exact hp)))
    have hpl : ps.length = xs.length := by rw [hfall.1.length_eq, List.length_map, List.length_range]
    refine ⟨.ref h1.objs.size, upd H h1.objs.size (.lst (ps.map V.int)), inv_sorted (s := { s with heap := h1, toks := tk1 }) (t' := tk2) (h' := h2) I1 keep (fun m' hm' => ?_) (Nat.le_refl _) ⟨by rw [List.length_map, hpl]; omega, out.toList, c, vals_of_ints hps, by rw [Array.toArray_toList]; exact (N2 _ List.mem_cons_self).1⟩, rfl, q ps _ hfall (I1.hok.fresh (Nat.le_refl _))⟩
    rw [show m' = m from hm'.eq_nsMap.trans hns1.eq_nsMap.symm]
    exact F2.ns
end
end G29
end L2
set_option Elab.async false
set_option linter.all false
set_option maxRecDepth 100000
set_option maxHeartbeats 4000000
/-! Rules: sorted(range(n), key=lambda at: -xs[at]) as an expression. -/
namespace L2
namespace G29
open PySem PySem.Spec PyProof.Rows
def rRng1 : List V → Hp → VK → Prop := fun vs H Q => ∃ i, vs = [V.int i] ∧ ∀ p, H p = none → Q (.ref p) (upd H p (.rng 0 i))
def tSortLam (K : PySem.W.Frag) (T : List (Addr × Str)) (xi : Nat) (ta : TA) : TE := fun σ H Q => ta σ H fun vs H1 => ∃ (r a : Addr) (xs : List Int), vs = [.ref r] ∧ H1 r = some (.rng 0 (xs.length : Int)) ∧ σ[xi]? = some (some (.ref a)) ∧ Sq K H1 a (xs.map V.int) ∧ xs.length ≤ 1000 ∧ LamX.Tabs T H1 ∧
  ∀ H2 ps p, LamX.ExtN H1 H2 → LamX.Tabs T H2 → ByFall xs ps → H2 p = none → Q (.ref p) (upd H2 p (.lst (ps.map V.int)))
section
variable {X : Cx}
theorem cr_range1 : CallR X (.type "range") rRng1 := by
  intro pins s σ H vs us Q I r h
  obtain ⟨i, rfl, q⟩ := h
  obtain ⟨u1, rfl, t, rfl⟩ := vals1 r
  refine call_range_1 ⟨.ref s.heap.objs.size, upd H s.heap.objs.size (.rng 0 i), I.laid (o := .rng 0 i) (fun b o e => Heap.get?_push_of_some _ e) (Nat.le_refl _) ?_, rfl, q _ (I.hok.fresh (Nat.le_refl _))⟩
  exact ⟨_, _, _, Heap.get?_push_size _ rfl⟩
theorem sq_ext {K : PySem.W.Frag} {H H' : Hp} {a : Addr} {xs : List V} (e : LamX.ExtN H H') (h : Sq K H a xs) : Sq K H' a xs := by
  rcases h with ((h | ⟨o, h⟩) | h) | ((h | ⟨o, h⟩) | h)
  · exact .inl (.inl (.inl (e _ _ h fun ps z => by cases z)))
  · exact .inl (.inl (.inr ⟨o, e _ _ h fun ps z => by cases z⟩))
  · exact .inl (.inr h)
  · exact .inr (.inl (.inl (e _ _ h fun ps z => by cases z)))
  · exact .inr (.inl (.inr ⟨o, e _ _ h fun ps z => by cases z⟩))
  · exact .inr (.inr h)
theorem pe_sortLam {T : List (Addr × Str)} {c P : Addr} {x : Str} {xi : Nat} {re : Expr} {ta : TA} {params : Arguments} {p1 p2 p3 p4 p cpos kpos lpos : Pos} {scope : Scope} (TB : LamX.TabB X.base X.mg c P) (hcode : X.env.code = .ref c) (hmT : (P, X.env.qual ++ "<lambda>") ∈ T) (hu : ∀ p ∈ T, p.1 = P → p.2 = X.env.qual ++ "<lambda>")
    (hg : Gl X "sorted") (hm : X.mg "sorted" = none) (ha : PA X [re] ta) (hN : X.N[xi]? = some x) (hv : X.env.scope.names.lookup x = some .cell) (S : LamK scope x) (hfr : ∀ y ∈ scope.names, y.2 = .free → y.1 = x) (hdef : defaultsOf params X.env = ([], []))
    (hbind : ∀ (qual : Str) (cl : List (Str × Addr)) (pm ctv : Value) (c' : Addr) (i : Int) (t : Tok), bindArgs (PySem.W.kla_fn "<lambda>" qual params (keyBody x p1 p2 p3 p4) scope cl pm (.ref c') ctv) ⟨[Value.int i t], []⟩ = pure [(("at" : Str), Value.int i t)])
    (hcm : X.calm = true) (room : X.A.depth < recursionLimit) (hd1 : (x == ("__debug__" : Str)) = false) (hd2 : (x == ("__classdict__" : Str)) = false)
    (he : backTo cpos (starEach [re] X.env) = (false, eval re X.env) :: backTo cpos (starEach [] X.env)) (hpl : (backTo cpos (starEach [re] X.env)).any (·.1) = false)
    (hall : (backToKw cpos (keywordEach [⟨some "key", .Lambda params (keyBody x p1 p2 p3 p4) scope lpos, kpos⟩] X.env)).all (·.1.isSome) = true) (hnone : (backToKw cpos (keywordEach [⟨some "key", .Lambda params (keyBody x p1 p2 p3 p4) scope lpos, kpos⟩] X.env)).any (·.1.isNone) = false)
    (hks : (backToKw cpos (keywordEach [⟨some "key", .Lambda params (keyBody x p1 p2 p3 p4) scope lpos, kpos⟩] X.env)).filterMap (·.1) = [("key" : Str)]) :
    PE X (.Call (.Name "sorted" p) [re] [⟨some "key", .Lambda params (keyBody x p1 p2 p3 p4) scope lpos, kpos⟩] cpos) (tSortLam X.K T xi ta) := by
  refine ⟨fun pins s σ H Q I h => ?_⟩
  refine wpAny_Call_Name_kw (ld_blt I hg hm (show bootBuiltins "sorted" = some (.builtin "sorted") by decide +kernel) ?_)
  refine PyProof.Rows.callWith_kw (thn (ha.run cpos pins s σ H _ I h) fun us s1 ⟨vs, H1, I1, r1, q1⟩ => ?_) he hpl hall hnone
  rw [hks]
  obtain ⟨r, a, xs, rfl, hr, hx, hsq, hz, hT, q⟩ := q1
  obtain rfl := Vals.ref1 r1
  obtain ⟨m1, hn1, hl1⟩ := I1.loc
  have hfree : ∀ y ∈ scope.names, y.2 = .free → ∃ c, X.env.cells.lookup y.1 = some c := fun y hy e => by
    obtain ⟨u, _, l⟩ := hl1 xi x _ hN hx (.inr (.inl hv))
    rcases l with ⟨hk, _⟩ | ⟨_, c, hc, _⟩
    · rw [show X.env.scope.names.lookup x = some .local from hk] at hv; cases hv
    · rw [hfr y hy e]; exact ⟨c, hc⟩
  show wpAny _ _ (evalAll ((do let v ← eval (.Lambda params (keyBody x p1 p2 p3 p4) scope lpos) X.env; standAt cpos; pure v) :: [])) _ _ s1
  refine wpAny_evalAll_cons (wpAny_bind (LamX.lam_make2 I1 TB hcode hmT hu hT hdef hfree fun f c' pm ctv H2 s2 I2 hE hT2 hf hfN hfs hc' => wpAny_bind (wpAny_standAt (wpAny_pure (wpAny_evalAll_nil ?_)))))
  obtain ⟨m2, hn2, hl2⟩ := I2.loc
  obtain ⟨u, ru, l⟩ := hl2 xi x _ hN hx (.inr (.inl hv))
  rcases l with ⟨hk, _⟩ | ⟨_, cc, hcc, hcell⟩
  · rw [show X.env.scope.names.lookup x = some .local from hk] at hv; cases hv
  cases (show u = Value.ref a from ru)
  have hy : (x, NameKind.free) ∈ scope.names := PySem.mem_of_lookup S.free
  obtain ⟨c2, h2⟩ := mem_lookup (cloFrom_has (cells := X.env.cells) (acc := []) hy)
  have e2 : c2 = cc := by
    rcases cloFrom_mem (PySem.mem_of_lookup h2) with hm | ⟨_, h3⟩
    · cases hm
    · rw [h3, hcc]; rfl
  subst e2
  obtain ⟨t, u', v', hrr⟩ := I2.hok r _ (hE _ _ hr fun ps z => by cases z)
  have hsq2 := sq_ext hE hsq
  have hI : ∃ its : Array Value, ItAt s2.heap a its ∧ IntsAre its.toList xs := by
    rcases hsq2 with h | h
    · obtain ⟨its, rv, p, _⟩ := I2.list h
      exact ⟨_, .inl p.isList, by simpa using rv.ints⟩
    · obtain ⟨its, rv, p, _⟩ := I2.tuple h
      exact ⟨_, .inr p, by simpa using rv.ints⟩
  obtain ⟨its, hit, hii⟩ := hI
  exact sort_lam I2 S hrr hf hc' h2 hcell (I2.cne x c2 hcc) hit hii hz (fun i t => hbind _ _ _ _ _ i t) hd1 hd2 (I2.ok.hd hcm) room fun ps p hps hp => q H2 ps p hE hT2 hps hp
end
end G29
end L2
set_option Elab.async false
set_option linter.all false
set_option maxHeartbeats 1000000
/-! Grids of zeros and ones: taking the fullest columns, the greatest row first. Plain mathematics. -/
namespace L2
namespace G29
/-! ### sums over the places -/
def S (n : Nat) (f : Nat → Int) : Int := ((List.range n).map f).sum
theorem S_succ (n : Nat) (f : Nat → Int) : S (n + 1) f = S n f + f n := by
  unfold S
  rw [List.range_succ, List.map_append, List.sum_append]
  show _ + (f n + 0) = _
  omega
theorem S_le {n : Nat} {f g : Nat → Int} (h : ∀ t, t < n → f t ≤ g t) : S n f ≤ S n g := by
  induction n with
  | zero => exact Int.le_refl _
  | succ n ih =>
    rw [S_succ, S_succ]
    have := ih fun t ht => h t (by omega)
    have := h n (by omega)
    omega
theorem S_eq {n : Nat} {f g : Nat → Int} (h : ∀ t, t < n → f t = g t) : S n f = S n g := Int.le_antisymm (S_le fun t ht => by rw [h t ht]; exact Int.le_refl _) (S_le fun t ht => by rw [h t ht]; exact Int.le_refl _)
theorem S_add {n : Nat} {f g : Nat → Int} : S n (fun t => f t + g t) = S n f + S n g := by
  induction n with
  | zero => rfl
  | succ n ih => rw [S_succ, S_succ, S_succ, ih]; omega
theorem S_sub {n : Nat} {f g : Nat → Int} : S n (fun t => f t - g t) = S n f - S n g := by
  induction n with
  | zero => rfl
  | succ n ih => rw [S_succ, S_succ, S_succ, ih]; omega
theorem S_mul {n : Nat} {k : Int} {g : Nat → Int} : S n (fun t => k * g t) = k * S n g := by
  induction n with
  | zero => unfold S; simp
  | succ n ih => rw [S_succ, S_succ, ih, Int.mul_add]
theorem S_zero {n : Nat} : S n (fun _ => 0) = 0 := by
  induction n with
  | zero => rfl
  | succ n ih => rw [S_succ, ih]; rfl
theorem S_list {f : Int → Int} (l : List Int) : (l.map f).sum = S l.length fun t => f (l.getD t 0) := by
  unfold S
  congr 1
  apply List.ext_getElem?
  intro i
  rw [List.getElem?_map, List.getElem?_map]
  by_cases h : i < l.length
  · rw [List.getElem?_range h, List.getElem?_eq_getElem h]
    show some (f l[i]) = some (f (l.getD i 0))
    rw [List.getD_eq_getElem?_getD, List.getElem?_eq_getElem h]; rfl
  · rw [List.getElem?_eq_none (by omega), List.getElem?_eq_none (by rw [List.length_range]; omega)]; rfl
theorem S_sum (l : List Int) : l.sum = S l.length fun t => l.getD t 0 := by
  have := S_list (f := fun x => x) l
  rwa [List.map_id'] at this
/-- 1 at the places of F -/
def chi (F : List Int) (t : Nat) : Int := if (t : Int) ∈ F then 1 else 0
theorem S_one {n a : Nat} (h : a < n) : S n (fun t => if t = a then 1 else 0) = 1 := by
  induction n with
  | zero => omega
  | succ n ih =>
    rw [S_succ]
    by_cases e : n = a
    · subst e
      rw [if_pos rfl, S_eq (g := fun _ => 0) (fun t ht => if_neg (by omega)), S_zero]; rfl
    · rw [if_neg e, ih (by omega)]; rfl
theorem S_chi {n : Nat} : ∀ {F : List Int}, F.Nodup → (∀ x ∈ F, 0 ≤ x ∧ x < (n : Int)) → S n (chi F) = (F.length : Int)
  | [], _, _ => (S_eq (f := chi []) (g := fun _ => 0) fun t _ => if_neg (by simp)).trans S_zero
  | a :: F, hd, hr => by
    have ha := hr a List.mem_cons_self
    have hn := List.nodup_cons.mp hd
    rw [S_eq (g := fun t => (if t = a.toNat then 1 else 0) + chi F t) fun t ht => ?_, S_add, S_one (by omega), S_chi hn.2 fun x hx => hr x (List.mem_cons_of_mem _ hx), List.length_cons]
    · push_cast; omega
    · unfold chi
      by_cases e : t = a.toNat
      · have e' : (t : Int) = a := by omega
        rw [if_pos (by rw [e']; exact List.mem_cons_self), if_pos e, if_neg (by rw [e']; exact hn.1)]; rfl
      · have e' : (t : Int) ≠ a := by omega
        rw [if_neg e]
        by_cases hm : (t : Int) ∈ F
        · rw [if_pos (List.mem_cons_of_mem _ hm), if_pos hm]; rfl
        · rw [if_neg (fun z => (List.mem_cons.mp z).elim e' hm), if_neg hm]; rfl
/-! ### the list made less -/
def dec (F l : List Int) : List Int := F.foldl (fun l j => l.set j.toNat (la l j - 1)) l
theorem dec_len : ∀ (F l : List Int), (dec F l).length = l.length
  | [], _ => rfl
  | a :: F, l => by
    show (dec F (l.set a.toNat _)).length = _
    rw [dec_len F, List.length_set]
theorem set_getD {l : List Int} {a t : Nat} {v : Int} (h : a < l.length) : (l.set a v).getD t 0 = if t = a then v else l.getD t 0 := by
  rw [List.getD_eq_getElem?_getD]
  by_cases e : t = a
  · subst e
    rw [List.getElem?_set_self h, if_pos rfl]; rfl
  · rw [List.getElem?_set_ne (Ne.symm e), if_neg e, List.getD_eq_getElem?_getD]
theorem dec_getD {n : Nat} : ∀ {F l : List Int}, l.length = n → F.Nodup → (∀ x ∈ F, 0 ≤ x ∧ x < (n : Int)) → ∀ t : Nat, (dec F l).getD t 0 = l.getD t 0 - chi F t
  | [], l, _, _, _, t => by
    show l.getD t 0 = _
    unfold chi
    rw [if_neg (by simp)]; omega
  | a :: F, l, hl, hd, hr, t => by
    have ha := hr a List.mem_cons_self
    have hn := List.nodup_cons.mp hd
    show (dec F (l.set a.toNat (la l a - 1))).getD t 0 = _
    rw [dec_getD (n := n) (by rw [List.length_set]; exact hl) hn.2 (fun x hx => hr x (List.mem_cons_of_mem _ hx)) t, set_getD (by omega)]
    unfold chi la
    by_cases e : t = a.toNat
    · have e' : (t : Int) = a := by omega
      rw [if_pos e, if_neg (by rw [e']; exact hn.1), if_pos (by rw [e']; exact List.mem_cons_self), e]; omega
    · have e' : (t : Int) ≠ a := by omega
      rw [if_neg e]
      by_cases hm : (t : Int) ∈ F
      · rw [if_pos hm, if_pos (List.mem_cons_of_mem _ hm)]
      · rw [if_neg hm, if_neg (fun z => (List.mem_cons.mp z).elim e' hm)]
/-! ### the condition, one row less -/
structure Pk (R l : List Int) : Prop where
  nnR : ∀ x ∈ R, 0 ≤ x
  nnl : ∀ x ∈ l, 0 ≤ x
  desc : R.Pairwise fun x y => y ≤ x
  sum : R.sum = l.sum
  cond : ∀ k : Nat, k ≤ R.length → (R.take k).sum ≤ (l.map fun c => min c (k : Int)).sum
theorem sum_le_mul {m : Int} (hm : 0 ≤ m) : ∀ {xs : List Int} {k : Nat}, (∀ x ∈ xs, x ≤ m) → xs.length ≤ k → xs.sum ≤ (k : Int) * m
  | [], k, _, _ => by
    show 0 ≤ _
    exact Int.mul_nonneg (Int.natCast_nonneg _) hm
  | x :: xs, 0, _, h => by simp at h
  | x :: xs, k + 1, hx, h => by
    have ih := sum_le_mul hm (xs := xs) (k := k) (fun y hy => hx y (List.mem_cons_of_mem _ hy)) (by simpa using h)
    have := hx x List.mem_cons_self
    rw [List.sum_cons]
    have e : ((k + 1 : Nat) : Int) * m = (k : Int) * m + m := by push_cast; rw [Int.add_mul, Int.one_mul]
    omega
theorem getD_mem0 {l : List Int} {t : Nat} (h : t < l.length) : l.getD t 0 ∈ l := by
  rw [List.getD_eq_getElem?_getD, List.getElem?_eq_getElem h]; exact List.getElem_mem h
theorem pk_step {r : Int} {R l ps : List Int} (p : Pk (r :: R) l) (hf : ByFall l ps) : Pk R (dec (ps.take r.toNat) l) ∧ ((ps.take r.toNat).length : Int) = r ∧ (ps.take r.toNat).Nodup ∧ ∀ x ∈ ps.take r.toNat, 0 ≤ x ∧ x < (l.length : Int) := by
  have hr0 := p.nnR r List.mem_cons_self
  have hpl : ps.length = l.length := by rw [hf.1.length_eq, List.length_map, List.length_range]
  have hps : ∀ x, x ∈ ps ↔ 0 ≤ x ∧ x < (l.length : Int) := fun x => by
    rw [hf.1.mem_iff, List.mem_map]
    constructor
    · rintro ⟨i, hi, rfl⟩
      have := List.mem_range.mp hi
      omega
    · intro h
      exact ⟨x.toNat, List.mem_range.mpr (by omega), by omega⟩
  have hnd : ps.Nodup := hf.1.nodup_iff.mpr (by
    rw [List.nodup_iff_pairwise_ne, List.pairwise_map]
    exact (List.nodup_range).imp fun h z => h (by omega))
  have hFn : (ps.take r.toNat).Nodup := (List.take_sublist _ _).nodup hnd
  have hFr : ∀ x ∈ ps.take r.toNat, 0 ≤ x ∧ x < (l.length : Int) := fun x hx => (hps x).mp (List.mem_of_mem_take hx)
  have hl0 : ∀ t, t < l.length → 0 ≤ l.getD t 0 := fun t ht => p.nnl _ (getD_mem0 ht)
  -- r ≤ how many columns are left
  have h1 : r ≤ S l.length fun t => min (l.getD t 0) 1 := by
    have := p.cond 1 (by rw [List.length_cons]; omega)
    rw [S_list (f := fun c => min c ((1 : Nat) : Int))] at this
    have e : ((r :: R).take 1).sum = r := by show r + 0 = r; omega
    rw [e] at this
    exact this
  have hrn : r ≤ (l.length : Int) := by
    have h2 : (S l.length fun t => min (l.getD t 0) 1) ≤ S l.length fun _ => 1 := S_le fun t _ => by omega
    have h3 : ∀ n, S n (fun _ => (1 : Int)) = (n : Int) := fun n => by
      induction n with
      | zero => rfl
      | succ n ih => rw [S_succ, ih]; push_cast; rfl
    rw [h3] at h2
    omega
  have hFl : ((ps.take r.toNat).length : Int) = r := by rw [List.length_take, hpl]; omega
  have hSF : S l.length (chi (ps.take r.toNat)) = r := by rw [S_chi hFn hFr, hFl]
  -- the fullest
  have htop : ∀ t t0 : Nat, t0 < l.length → (t : Int) ∈ ps.take r.toNat → (t0 : Int) ∉ ps.take r.toNat → l.getD t0 0 ≤ l.getD t 0 := fun t t0 h0 ht ht0 => by
    have hd := hf.2
    rw [← List.take_append_drop r.toNat ps] at hd
    have h := (List.pairwise_append.mp hd).2.2 _ ht (t0 : Int) (by
      have : (t0 : Int) ∈ ps := (hps _).mpr ⟨by omega, by omega⟩
      rw [← List.take_append_drop r.toNat ps] at this
      exact (List.mem_append.mp this).resolve_left ht0)
    rw [Int.toNat_natCast, Int.toNat_natCast] at h
    exact h
  have hpos : ∀ t : Nat, t < l.length → (t : Int) ∈ ps.take r.toNat → 1 ≤ l.getD t 0 := fun t ht hm => by
    rcases Int.lt_or_le (l.getD t 0) 1 with h | h
    · exfalso
      have h2 : (S l.length fun u => min (l.getD u 0) 1) ≤ S l.length fun u => chi (ps.take r.toNat) u - (if u = t then 1 else 0) := S_le fun u hu => by
        by_cases e : u = t
        · subst e
          rw [if_pos rfl]
          unfold chi
          rw [if_pos hm]; omega
        · rw [if_neg e]
          unfold chi
          by_cases hu' : (u : Int) ∈ ps.take r.toNat
          · rw [if_pos hu']; omega
          · rw [if_neg hu']
            have := htop t u hu hm hu'
            omega
      rw [S_sub, hSF, S_one ht] at h2
      omega
    · exact h
  have hdec := dec_getD (n := l.length) rfl hFn hFr
  have hdl := dec_len (ps.take r.toNat) l
  have hnn : ∀ t, t < l.length → 0 ≤ (dec (ps.take r.toNat) l).getD t 0 := fun t ht => by
    rw [hdec]
    unfold chi
    by_cases hm : (t : Int) ∈ ps.take r.toNat
    · rw [if_pos hm]; have := hpos t ht hm; omega
    · rw [if_neg hm]; have := hl0 t ht; omega
  refine ⟨⟨fun x hx => p.nnR x (List.mem_cons_of_mem _ hx), fun x hx => ?_, (List.pairwise_cons.mp p.desc).2, ?_, fun k hk => ?_⟩, hFl, hFn, hFr⟩
  · obtain ⟨i, hi, rfl⟩ := List.mem_iff_getElem.mp hx
    have := hnn i (by rw [← hdl]; exact hi)
    rwa [List.getD_eq_getElem?_getD, List.getElem?_eq_getElem hi] at this
  · have hs := p.sum
    rw [List.sum_cons, S_sum l] at hs
    rw [S_sum (dec (ps.take r.toNat) l), hdl, S_eq (g := fun t => l.getD t 0 - chi (ps.take r.toNat) t) fun t _ => hdec t, S_sub, hSF]
    omega
  · rw [S_list (f := fun c => min c (k : Int)), hdl]
    by_cases hA : ∀ t0 : Nat, t0 < l.length → (t0 : Int) ∉ ps.take r.toNat → l.getD t0 0 ≤ (k : Int)
    · have h2 := p.cond (k + 1) (by rw [List.length_cons]; omega)
      rw [List.take_succ_cons, List.sum_cons, S_list (f := fun c => min c ((k + 1 : Nat) : Int))] at h2
      have h3 : (S l.length fun t => min (l.getD t 0) ((k + 1 : Nat) : Int) - chi (ps.take r.toNat) t) ≤ S l.length fun t => min ((dec (ps.take r.toNat) l).getD t 0) (k : Int) := S_le fun t ht => by
        rw [hdec]
        by_cases hm : (t : Int) ∈ ps.take r.toNat
        · have : chi (ps.take r.toNat) t = 1 := if_pos hm
          rw [this]; push_cast; omega
        · have : chi (ps.take r.toNat) t = 0 := if_neg hm
          have := hA t ht hm
          rw [‹chi _ t = 0›]; push_cast; omega
      rw [S_sub, hSF] at h3
      omega
    · have hex : ∃ t0 : Nat, t0 < l.length ∧ (t0 : Int) ∉ ps.take r.toNat ∧ (k : Int) < l.getD t0 0 := Classical.byContradiction fun hno => hA fun t0 h1 h2 => by
        rcases Int.lt_or_le (k : Int) (l.getD t0 0) with h | h
        · exact absurd ⟨t0, h1, h2, h⟩ hno
        · exact h
      obtain ⟨t0, ht0, hn0, hk0⟩ := hex
      have h3 : (S l.length fun t => (k : Int) * chi (ps.take r.toNat) t) ≤ S l.length fun t => min ((dec (ps.take r.toNat) l).getD t 0) (k : Int) := S_le fun t ht => by
        have hz := hnn t ht
        by_cases hm : (t : Int) ∈ ps.take r.toNat
        · have e : chi (ps.take r.toNat) t = 1 := if_pos hm
          have h4 := htop t t0 ht0 hm hn0
          have h5 := hdec t
          rw [e] at h5 ⊢
          omega
        · have e : chi (ps.take r.toNat) t = 0 := if_neg hm
          rw [e]; omega
      rw [S_mul, hSF] at h3
      have h4 : (R.take k).sum ≤ (k : Int) * r := sum_le_mul hr0 (fun x hx => (List.pairwise_cons.mp p.desc).1 x (List.mem_of_mem_take hx)) (by rw [List.length_take]; omega)
      omega
end G29
end L2
set_option Elab.async false
set_option linter.all false
set_option maxHeartbeats 1000000
/-! Grids of zeros and ones: the grid while it is filled. Plain mathematics. -/
namespace L2
namespace G29
def zIn (one : Int) (s : List (List Int) × List Int) (oth : Int) : List (List Int) × List Int := (setG s.1 one.toNat oth.toNat 1, s.2.set oth.toNat (la s.2 oth - 1))
def zRow (one : Int) (F : List Int) (s : List (List Int) × List Int) : List (List Int) × List Int := F.foldl (zIn one) s
def ones (F r : List Int) : List Int := F.foldl (fun r j => r.set j.toNat 1) r
theorem zRow_snd (one : Int) : ∀ (F : List Int) (s : List (List Int) × List Int), (zRow one F s).2 = dec F s.2
  | [], _ => rfl
  | a :: F, s => zRow_snd one F (zIn one s a)
theorem zRow_fst (one : Int) : ∀ (F : List Int) (s : List (List Int) × List Int), one.toNat < s.1.length → (zRow one F s).1 = s.1.set one.toNat (ones F (s.1.getD one.toNat []))
  | [], s, h => by
    show s.1 = s.1.set one.toNat (s.1.getD one.toNat [])
    apply List.ext_getElem?
    intro i
    by_cases e : one.toNat = i
    · subst e
      rw [List.getElem?_set_self h, List.getD_eq_getElem?_getD, List.getElem?_eq_getElem h]; rfl
    · rw [List.getElem?_set_ne e]
  | a :: F, s, h => by
    show (zRow one F (zIn one s a)).1 = _
    have hl : one.toNat < (zIn one s a).1.length := by
      show one.toNat < (setG _ _ _ _).length
      unfold setG
      rw [List.length_set]; exact h
    rw [zRow_fst one F _ hl]
    show (setG s.1 one.toNat a.toNat 1).set one.toNat (ones F ((setG s.1 one.toNat a.toNat 1).getD one.toNat [])) = s.1.set one.toNat (ones F ((s.1.getD one.toNat []).set a.toNat 1))
    unfold setG
    rw [List.set_set]
    congr 2
    rw [List.getD_eq_getElem?_getD (l := s.1.set _ _), List.getElem?_set_self h]; rfl
theorem ones_len : ∀ (F r : List Int), (ones F r).length = r.length
  | [], _ => rfl
  | a :: F, r => by
    show (ones F (r.set a.toNat 1)).length = _
    rw [ones_len F, List.length_set]
theorem ones_getD {n : Nat} : ∀ {F r : List Int}, r.length = n → (∀ x ∈ F, 0 ≤ x ∧ x < (n : Int)) → ∀ t : Nat, (ones F r).getD t 0 = if (t : Int) ∈ F then 1 else r.getD t 0
  | [], r, _, _, t => by
    show r.getD t 0 = _
    rw [if_neg (by simp)]
  | a :: F, r, hl, hr, t => by
    have ha := hr a List.mem_cons_self
    show (ones F (r.set a.toNat 1)).getD t 0 = _
    rw [ones_getD (n := n) (by rw [List.length_set]; exact hl) (fun x hx => hr x (List.mem_cons_of_mem _ hx)) t, set_getD (by omega)]
    by_cases hm : (t : Int) ∈ F
    · rw [if_pos hm, if_pos (List.mem_cons_of_mem _ hm)]
    · rw [if_neg hm]
      by_cases e : t = a.toNat
      · have e' : (t : Int) = a := by omega
        rw [if_pos e, if_pos (by rw [e']; exact List.mem_cons_self)]
      · have e' : (t : Int) ≠ a := by omega
        rw [if_neg e, if_neg (fun z => (List.mem_cons.mp z).elim e' hm)]
theorem zero_getD (n t : Nat) : (List.replicate n (0 : Int)).getD t 0 = 0 := by
  rw [List.getD_eq_getElem?_getD, List.getElem?_replicate]
  split <;> rfl
theorem sum_set {f : List Int → Int} : ∀ {g : List (List Int)} {i : Nat} {v : List Int}, i < g.length → ((g.set i v).map f).sum = (g.map f).sum - f (g.getD i []) + f v
  | [], _, _, h => by simp at h
  | x :: g, 0, v, _ => by
    show f v + (g.map f).sum = f x + (g.map f).sum - f x + f v
    omega
  | x :: g, i + 1, v, h => by
    have ih := sum_set (f := f) (g := g) (i := i) (v := v) (by simpa using h)
    show f x + ((g.set i v).map f).sum = f x + (g.map f).sum - f (g.getD i []) + f v
    rw [ih]; omega
/-- the order: all rows, the greatest first -/
def IsOrd (rows order : List Int) : Prop := ByFall rows order
structure ZI (rows cols order : List Int) (i : Nat) (g : List (List Int)) (l : List Int) : Prop where
  shp : Shp rows.length cols.length g
  ll : l.length = cols.length
  cell : ∀ a, a < rows.length → ∀ b, (g.getD a []).getD b 0 = 0 ∨ (g.getD a []).getD b 0 = 1
  col : ∀ b, b < cols.length → Gm.colsum g b + l.getD b 0 = cols.getD b 0
  todo : ∀ t one, i ≤ t → order[t]? = some one → one.toNat < rows.length → g.getD one.toNat [] = List.replicate cols.length 0
  good : Pk (order.map (la rows)) cols → Pk ((order.drop i).map (la rows)) l ∧ ∀ t one, t < i → order[t]? = some one → (g.getD one.toNat []).sum = la rows one
theorem ord_mem {rows order : List Int} (h : ByFall rows order) (x : Int) : x ∈ order ↔ 0 ≤ x ∧ x < (rows.length : Int) := by
  rw [h.1.mem_iff, List.mem_map]
  constructor
  · rintro ⟨i, hi, rfl⟩
    have := List.mem_range.mp hi
    omega
  · intro h
    exact ⟨x.toNat, List.mem_range.mpr (by omega), by omega⟩
theorem ord_nodup {rows order : List Int} (h : ByFall rows order) : order.Nodup := h.1.nodup_iff.mpr (by
  rw [List.nodup_iff_pairwise_ne, List.pairwise_map]
  exact (List.nodup_range).imp fun h z => h (by omega))
theorem ord_len {rows order : List Int} (h : ByFall rows order) : order.length = rows.length := by rw [h.1.length_eq, List.length_map, List.length_range]
theorem zi_start {rows cols order : List Int} : ZI rows cols order 0 (zeroG rows.length cols.length) cols where
  shp := shp_zero _ _
  ll := rfl
  cell := fun a ha b => by
    unfold zeroG
    rw [List.getD_eq_getElem?_getD (l := List.replicate rows.length _), List.getElem?_replicate, if_pos ha]
    exact .inl (zero_getD _ _)
  col := fun b hb => by
    have : Gm.colsum (zeroG rows.length cols.length) b = 0 := by
      unfold Gm.colsum zeroG
      rw [List.map_replicate, zero_getD]
      exact Gm.sum_replicate0 _
    rw [this]; omega
  todo := fun t one _ h hh => by
    unfold zeroG
    rw [List.getD_eq_getElem?_getD (l := List.replicate rows.length _), List.getElem?_replicate, if_pos hh]; rfl
  good := fun p => ⟨p, fun t one h => by omega⟩
theorem S_replicate0 (n : Nat) : (List.replicate n (0 : Int)).length = n := List.length_replicate
theorem zi_step {rows cols order ps : List Int} {i : Nat} {one : Int} {g : List (List Int)} {l : List Int} (z : ZI rows cols order i g l) (ho : ByFall rows order) (hi : order[i]? = some one) (hf : ByFall l ps) :
    ZI rows cols order (i + 1) (zRow one (ps.take (la rows one).toNat) (g, l)).1 (zRow one (ps.take (la rows one).toNat) (g, l)).2 := by
  have h1 := (ord_mem ho one).mp (List.mem_of_getElem? hi)
  have hol : one.toNat < rows.length := by omega
  have hgl : one.toNat < g.length := by rw [z.shp.1]; exact hol
  have hFn : (ps.take (la rows one).toNat).Nodup := (List.take_sublist _ _).nodup (ord_nodup hf)
  have hFr : ∀ x ∈ ps.take (la rows one).toNat, 0 ≤ x ∧ x < (l.length : Int) := fun x hx => (ord_mem hf x).mp (List.mem_of_mem_take hx)
  have hz := z.todo i one (Nat.le_refl _) hi hol
  rw [zRow_snd, zRow_fst one _ (g, l) hgl]
  show ZI rows cols order (i + 1) (g.set one.toNat (ones _ (g.getD one.toNat []))) (dec _ l)
  rw [hz]
  have hd := dec_getD (n := l.length) rfl hFn hFr
  have hon : ∀ t : Nat, (ones (ps.take (la rows one).toNat) (List.replicate cols.length 0)).getD t 0 = chi (ps.take (la rows one).toNat) t := fun t => by
    rw [ones_getD (n := cols.length) List.length_replicate (fun x hx => by have := hFr x hx; rw [z.ll] at this; exact this) t, zero_getD]; rfl
  have hrow : ∀ k : Nat, (g.set one.toNat (ones (ps.take (la rows one).toNat) (List.replicate cols.length 0))).getD k [] = if k = one.toNat then ones (ps.take (la rows one).toNat) (List.replicate cols.length 0) else g.getD k [] := fun k => by
    rw [List.getD_eq_getElem?_getD]
    by_cases e : k = one.toNat
    · subst e
      rw [List.getElem?_set_self hgl, if_pos rfl]; rfl
    · rw [List.getElem?_set_ne (Ne.symm e), if_neg e, List.getD_eq_getElem?_getD]
  have hne : ∀ t one', order[t]? = some one' → t ≠ i → one'.toNat ≠ one.toNat := fun t one' ht hti e => by
    have h2 := (ord_mem ho one').mp (List.mem_of_getElem? ht)
    have e' : one' = one := by omega
    rw [e'] at ht
    exact hti ((List.getElem?_inj (List.getElem?_eq_some_iff.mp ht).1 (ord_nodup ho)).mp (ht.trans hi.symm))
  refine ⟨⟨by rw [List.length_set]; exact z.shp.1, fun k hk => ?_⟩, by rw [dec_len]; exact z.ll, fun a ha b => ?_, fun b hb => ?_, fun t one' ht h2 h3 => ?_, fun p => ?_⟩
  · rw [hrow]
    split
    · rw [ones_len, List.length_replicate]
    · exact z.shp.2 k hk
  · rw [hrow]
    split
    · rw [hon]
      unfold chi
      split
      · exact .inr rfl
      · exact .inl rfl
    · exact z.cell a ha b
  · have hc := z.col b hb
    unfold Gm.colsum at hc ⊢
    rw [sum_set hgl, hz, zero_getD, hon, hd b]
    omega
  · rw [hrow, if_neg (hne t one' h2 (by omega))]
    exact z.todo t one' (by omega) h2 h3
  · obtain ⟨pk, hs⟩ := z.good p
    have hdr : order.drop i = one :: order.drop (i + 1) := by
      obtain ⟨hl, e⟩ := List.getElem?_eq_some_iff.mp hi
      rw [List.drop_eq_getElem_cons hl, e]
    rw [hdr, List.map_cons] at pk
    obtain ⟨pk2, hlen, _, _⟩ := pk_step pk hf
    refine ⟨pk2, fun t one' ht h2 => ?_⟩
    rw [hrow]
    by_cases e : t = i
    · subst e
      rw [hi] at h2
      cases h2
      rw [if_pos rfl, S_sum, ones_len, List.length_replicate, S_eq (g := chi (ps.take (la rows one).toNat)) fun t _ => hon t, S_chi hFn fun x hx => by have := hFr x hx; rw [z.ll] at this; exact this]
      exact hlen
    · rw [if_neg (hne t one' h2 e)]
      exact hs t one' (by omega) h2
theorem zi_end {rows cols order : List Int} {g : List (List Int)} {l : List Int} (z : ZI rows cols order order.length g l) (ho : ByFall rows order) (p : Pk (order.map (la rows)) cols) : gridB rows cols g = true := by
  obtain ⟨pk, hs⟩ := z.good p
  rw [List.drop_length] at pk
  have hl0 : l = List.replicate l.length 0 := Gm.all_zero (fun x hx => pk.nnl x hx) pk.sum.symm
  have hl1 : ∀ b, l.getD b 0 = 0 := fun b => by rw [hl0]; exact zero_getD _ _
  unfold gridB
  rw [decide_eq_true ?_, decide_eq_true ?_]; rfl
  · refine Gm.eq_of_getD (by rw [Gm.colsums_len]) fun b hb => ?_
    rw [Gm.colsums_getD hb]
    have := z.col b hb
    rw [hl1] at this
    omega
  · refine Gm.eq_of_getD (by rw [List.length_map, z.shp.1]) fun a ha => ?_
    have hag : a < g.length := by rw [z.shp.1]; exact ha
    rw [Gm.map_getD hag]
    obtain ⟨t, ht, e⟩ := List.mem_iff_getElem.mp ((ord_mem ho (a : Int)).mpr ⟨by omega, by omega⟩)
    have h := hs t (a : Int) ht (by rw [List.getElem?_eq_getElem ht, e])
    rw [Int.toNat_natCast, List.getD_eq_getElem?_getD, List.getElem?_eq_getElem hag] at h
    show (g[a]).sum = _
    unfold la at h
    rw [Int.toNat_natCast] at h
    exact h
theorem zi_rect {rows cols order : List Int} {i : Nat} {g : List (List Int)} {l : List Int} (z : ZI rows cols order i g l) : Rect rows.length cols.length g ∧ ∀ r ∈ g, ∀ c ∈ r, c < 2 := by
  have key : ∀ r ∈ g, r.length = cols.length ∧ ∀ x ∈ r, x = 0 ∨ x = 1 := fun r hr => by
    obtain ⟨a, ha, rfl⟩ := List.mem_iff_getElem.mp hr
    have ha' : a < rows.length := by rw [← z.shp.1]; exact ha
    have e : g.getD a [] = g[a] := by rw [List.getD_eq_getElem?_getD, List.getElem?_eq_getElem ha]; rfl
    refine ⟨by rw [← e]; exact z.shp.2 a ha', fun x hx => ?_⟩
    obtain ⟨b, hb, rfl⟩ := List.mem_iff_getElem.mp hx
    have := z.cell a ha' b
    rw [e, List.getD_eq_getElem?_getD, List.getElem?_eq_getElem hb] at this
    exact this
  refine ⟨⟨z.shp.1, fun r hr => ⟨(key r hr).1, fun x hx => ?_⟩⟩, fun r hr c hc => ?_⟩
  · rcases (key r hr).2 x hx with h | h <;> omega
  · rcases (key r hr).2 c hc with h | h <;> omega
theorem map_fall {rows o1 o2 : List Int} (h1 : ByFall rows o1) (h2 : ByFall rows o2) : o1.map (la rows) = o2.map (la rows) := by
  refine List.Perm.eq_of_pairwise (le := fun x y : Int => y ≤ x) (fun a b _ _ h1 h2 => Int.le_antisymm h2 h1) ?_ ?_ ((h1.1.trans h2.1.symm).map _)
  · rw [List.pairwise_map]; exact h1.2
  · rw [List.pairwise_map]; exact h2.2
theorem sum_perm {a b : List Int} (h : a.Perm b) : a.sum = b.sum := by
  induction h with
  | nil => rfl
  | cons x _ ih => rw [List.sum_cons, List.sum_cons, ih]
  | swap x y l => rw [List.sum_cons, List.sum_cons, List.sum_cons, List.sum_cons]; omega
  | trans _ _ i1 i2 => exact i1.trans i2
theorem range_la (rows : List Int) : (((List.range rows.length).map fun (i : Nat) => (i : Int)).map (la rows)) = rows := by
  rw [List.map_map]
  have := Gm.map_range_getD rows
  refine Eq.trans ?_ this
  congr 1
/-- no grid of ones: some greatest rows are too great -/
theorem blocked {rows cols order o2 : List Int} {g : List (List Int)} {l : List Int} (t : Tots rows cols) (z : ZI rows cols order order.length g l) (ho : ByFall rows order) (h2 : ByFall rows o2) (hg : gridB rows cols g = false) :
    ∃ k : Nat, 1 ≤ k ∧ k ≤ rows.length ∧ (cols.map fun c => min c (k : Int)).sum < ((o2.take k).map (la rows)).sum := Classical.byContradiction fun hno => by
  have hall : ∀ k : Nat, 1 ≤ k → k ≤ rows.length → ((o2.take k).map (la rows)).sum ≤ (cols.map fun c => min c (k : Int)).sum := fun k h1 h2 => by
    rcases Int.lt_or_le ((cols.map fun c => min c (k : Int)).sum) (((o2.take k).map (la rows)).sum) with h | h
    · exact absurd ⟨k, h1, h2, h⟩ hno
    · exact h
  have hnn : ∀ x ∈ rows, 0 ≤ x := fun x hx => (t.1.2.2 x hx).1
  have hp : Pk (order.map (la rows)) cols := by
    rw [map_fall ho h2]
    have hperm : (o2.map (la rows)).Perm rows := by
      have := h2.1.map (la rows)
      rw [range_la] at this
      exact this
    refine ⟨fun x hx => hnn x (hperm.mem_iff.mp hx), fun x hx => (t.2.1.2.2 x hx).1, by rw [List.pairwise_map]; exact h2.2, (sum_perm hperm).trans t.2.2, fun k hk => ?_⟩
    rw [List.length_map, ord_len h2] at hk
    rw [← List.map_take]
    by_cases h0 : k = 0
    · subst h0
      show 0 ≤ _
      rw [S_list (f := fun c => min c ((0 : Nat) : Int))]
      rw [S_eq (g := fun _ => 0) fun t ht => ?_, S_zero]
      · exact Int.le_refl _
      · have := (‹Tots rows cols›).2.1.2.2 _ (getD_mem0 ht)
        show min _ ((0 : Nat) : Int) = 0
        omega
    · exact hall k (by omega) hk
  rw [zi_end z ho hp] at hg
  cases hg
theorem lines_of {o2 so : List Int} {rows : List Int} {k : Nat} (h2 : ByFall rows o2) (hm : rows.length ≤ 1000) (hp : so.Perm (o2.take k)) (hs : so.Pairwise (· ≤ ·)) : Lines so rows.length := by
  have hnd : so.Nodup := hp.nodup_iff.mpr ((List.take_sublist _ _).nodup (ord_nodup h2))
  refine ⟨fun x hx => (ord_mem h2 x).mp (List.mem_of_mem_take (hp.mem_iff.mp hx)), ?_, ?_⟩
  · rw [List.nodup_iff_pairwise_ne] at hnd
    exact (hs.and hnd).imp fun h => by obtain ⟨a, b⟩ := h; omega
  · rw [hp.length_eq, List.length_take, ord_len h2]; omega
theorem blockB_of {rows cols o2 so : List Int} {k : Nat} (h2 : ByFall rows o2) (hk : k ≤ rows.length) (hp : so.Perm (o2.take k)) : blockB rows cols so = decide ((cols.map fun c => min c (k : Int)).sum < ((o2.take k).map (la rows)).sum) := by
  unfold blockB
  have hl : so.length = k := by rw [hp.length_eq, List.length_take, ord_len h2]; omega
  rw [hl, sum_perm (hp.map (la rows))]
end G29
end L2
set_option Elab.async false
set_option linter.all false
set_option maxHeartbeats 1000000
/-! Corner grids, boxes. Plain mathematics. -/
namespace L2
namespace G29
theorem S_map {n : Nat} {f : Nat → Int} : ∀ {F : List Int}, F.Nodup → (∀ x ∈ F, 0 ≤ x ∧ x < (n : Int)) → S n (fun t => if (t : Int) ∈ F then f t else 0) = (F.map fun x => f x.toNat).sum
  | [], _, _ => (S_eq (g := fun _ => 0) fun t _ => if_neg (by simp)).trans S_zero
  | a :: F, hd, hr => by
    have ha := hr a List.mem_cons_self
    have hn := List.nodup_cons.mp hd
    have hone : S n (fun t => if t = a.toNat then f t else 0) = f a.toNat := by
      rw [S_eq (g := fun t => f a.toNat * (if t = a.toNat then 1 else 0)) fun t _ => ?_, S_mul, S_one (by omega), Int.mul_one]
      by_cases e : t = a.toNat
      · rw [if_pos e, if_pos e, e, Int.mul_one]
      · rw [if_neg e, if_neg e, Int.mul_zero]
    rw [List.map_cons, List.sum_cons, ← S_map hn.2 fun x hx => hr x (List.mem_cons_of_mem _ hx), ← hone, ← S_add]
    refine S_eq fun t ht => ?_
    by_cases e : t = a.toNat
    · have e' : (t : Int) = a := by omega
      rw [if_pos (by rw [e']; exact List.mem_cons_self), if_pos e, if_neg (by rw [e']; exact hn.1)]; omega
    · have e' : (t : Int) ≠ a := by omega
      rw [if_neg e]
      by_cases hm : (t : Int) ∈ F
      · rw [if_pos (List.mem_cons_of_mem _ hm), if_pos hm]; omega
      · rw [if_neg (fun z => (List.mem_cons.mp z).elim e' hm), if_neg hm]; omega
theorem swap_sum {f : Int → Int → Int} (ot : List Int) : ∀ so : List Int, (so.map fun i => (ot.map fun j => f i j).sum).sum = (ot.map fun j => (so.map fun i => f i j).sum).sum
  | [] => by
    induction ot with
    | nil => rfl
    | cons j ot ih =>
      rw [List.map_cons, List.sum_cons, ← ih]; rfl
  | i :: so => by
    rw [List.map_cons, List.sum_cons, swap_sum ot so]
    induction ot with
    | nil => rfl
    | cons j ot ih =>
      simp only [List.map_cons, List.sum_cons] at ih ⊢
      omega
theorem map_sum_eq {f g : Int → Int} : ∀ {l : List Int}, (∀ x ∈ l, f x = g x) → (l.map f).sum = (l.map g).sum
  | [], _ => rfl
  | x :: l, h => by rw [List.map_cons, List.map_cons, List.sum_cons, List.sum_cons, h x List.mem_cons_self, map_sum_eq fun y hy => h y (List.mem_cons_of_mem _ hy)]
theorem map_sum_le {f g : Int → Int} : ∀ {l : List Int}, (∀ x ∈ l, f x ≤ g x) → (l.map f).sum ≤ (l.map g).sum
  | [], _ => Int.le_refl _
  | x :: l, h => by
    rw [List.map_cons, List.map_cons, List.sum_cons, List.sum_cons]
    have := h x List.mem_cons_self
    have := map_sum_le fun y hy => h y (List.mem_cons_of_mem _ hy)
    omega
theorem map_sum_sub {f g : Int → Int} : ∀ {l : List Int}, (l.map fun x => f x - g x).sum = (l.map f).sum - (l.map g).sum
  | [] => rfl
  | x :: l => by rw [List.map_cons, List.map_cons, List.map_cons, List.sum_cons, List.sum_cons, List.sum_cons, map_sum_sub]; omega
theorem map_sum_nn {f : Int → Int} {l : List Int} (h : ∀ x ∈ l, 0 ≤ f x) : 0 ≤ (l.map f).sum := by
  induction l with
  | nil => exact Int.le_refl _
  | cons x l ih =>
    rw [List.map_cons, List.sum_cons]
    have := h x List.mem_cons_self
    have := ih fun y hy => h y (List.mem_cons_of_mem _ hy)
    omega
/-- all places below n, each once -/
def AllOf (n : Nat) (F : List Int) : Prop := F.Perm ((List.range n).map fun (i : Nat) => (i : Int))
theorem all_mem {n : Nat} {F : List Int} (h : AllOf n F) (x : Int) : x ∈ F ↔ 0 ≤ x ∧ x < (n : Int) := by
  rw [h.mem_iff, List.mem_map]
  constructor
  · rintro ⟨i, hi, rfl⟩
    have := List.mem_range.mp hi
    omega
  · intro h
    exact ⟨x.toNat, List.mem_range.mpr (by omega), by omega⟩
theorem all_nodup {n : Nat} {F : List Int} (h : AllOf n F) : F.Nodup := h.nodup_iff.mpr (by
  rw [List.nodup_iff_pairwise_ne, List.pairwise_map]
  exact (List.nodup_range).imp fun h z => h (by omega))
theorem all_sum {F l : List Int} (h : AllOf l.length F) : (F.map (la l)).sum = l.sum := by
  have := sum_perm (List.Perm.map (la l) h)
  rw [range_la] at this
  exact this
theorem all_first {m : Nat} {so : List Int} (h : Lines so m) : AllOf m (firstOnes m so) := by
  have hnd : so.Nodup := by
    rw [List.nodup_iff_pairwise_ne]
    exact h.2.1.imp fun h => by omega
  have hrn : ((List.range m).map fun (i : Nat) => (i : Int)).Nodup := by
    rw [List.nodup_iff_pairwise_ne, List.pairwise_map]
    exact (List.nodup_range).imp fun h z => h (by omega)
  unfold AllOf
  rw [List.perm_ext_iff_of_nodup _ hrn]
  · intro x
    unfold firstOnes
    rw [List.mem_append, List.mem_map, List.mem_map]
    constructor
    · rintro (hx | ⟨i, hi, rfl⟩)
      · have := h.1 x hx
        exact ⟨x.toNat, List.mem_range.mpr (by omega), by omega⟩
      · exact ⟨i, (List.mem_filter.mp hi).1, rfl⟩
    · rintro ⟨i, hi, rfl⟩
      by_cases hm : (i : Int) ∈ so
      · exact .inl hm
      · exact .inr ⟨i, List.mem_filter.mpr ⟨hi, by simpa using hm⟩, rfl⟩
  · unfold firstOnes
    refine List.nodup_append.mpr ⟨hnd, ?_, fun x hx y hy e => ?_⟩
    · rw [List.nodup_iff_pairwise_ne, List.pairwise_map]
      exact ((List.nodup_range).filter _).imp fun h z => h (by omega)
    · obtain ⟨i, hi, rfl⟩ := List.mem_map.mp hy
      have := (List.mem_filter.mp hi).2
      subst e
      simp [hx] at this
theorem all_early {n : Nat} {F : List Int} (h : AllOf n F) (k : Nat) : AllOf n (earlyL F k) := by
  unfold AllOf earlyL
  have : (F.drop k ++ F.take k).Perm (F.take k ++ F.drop k) := List.perm_append_comm
  rw [List.take_append_drop] at this
  exact this.trans h
/-! ### one row -/
structure RI (one : Int) (n : Nat) (late l l' : List Int) (rest rest' : Int) (g g' : List (List Int)) : Prop where
  len : l'.length = l.length
  pre : ∀ b, b ≤ late.length → ((late.take b).map (la l')).sum = max (((late.take b).map (la l)).sum - rest) 0
  out : ∀ t : Nat, (t : Int) ∉ late → l'.getD t 0 = l.getD t 0
  nn : ∀ t : Nat, (t : Int) ∈ late → 0 ≤ l'.getD t 0 ∧ l'.getD t 0 ≤ l.getD t 0
  row : ∀ t : Nat, (g'.getD one.toNat []).getD t 0 = if (t : Int) ∈ late then l.getD t 0 - l'.getD t 0 else (g.getD one.toNat []).getD t 0
  oth : ∀ k : Nat, k ≠ one.toNat → g'.getD k [] = g.getD k []
theorem ri_row {m n : Nat} {one : Int} : ∀ {late : List Int} {g : List (List Int)} {l : List Int} {rest : Int}, Shp m n g → l.length = n → 0 ≤ one → one < (m : Int) → late.Nodup → (∀ x ∈ late, 0 ≤ x ∧ x < (n : Int)) → 0 ≤ rest → (∀ t : Nat, (t : Int) ∈ late → 0 ≤ l.getD t 0) →
    RI one n late l (cRow one late (g, l, rest)).2.1 rest (cRow one late (g, l, rest)).2.2 g (cRow one late (g, l, rest)).1
  | [], g, l, rest, hs, hl, o0, o1, hd, hr, h0, hnn => ⟨rfl, fun b hb => by
      have : b = 0 := by simpa using hb
      subst this
      show (0 : Int) = max (0 - rest) 0
      omega, fun t _ => rfl, fun t h => by simp at h, fun t => by rw [if_neg (by simp)]; rfl, fun k _ => rfl⟩
  | j :: late, g, l, rest, hs, hl, o0, o1, hd, hr, h0, hnn => by
    have hj := hr j List.mem_cons_self
    have hn := List.nodup_cons.mp hd
    have hj2 : ((j.toNat : Nat) : Int) = j := by omega
    have hlj : 0 ≤ la l j := by
      have := hnn j.toNat (by rw [hj2]; exact List.mem_cons_self)
      exact this
    have hset : ∀ t : Nat, (l.set j.toNat (la l j - min rest (la l j))).getD t 0 = if t = j.toNat then la l j - min rest (la l j) else l.getD t 0 := fun t => set_getD (by omega)
    have hne : ∀ t : Nat, (t : Int) ∈ late → t ≠ j.toNat := fun t ht e => hn.1 (by rw [← hj2, ← e]; exact ht)
    have ih := ri_row (m := m) (n := n) (one := one) (late := late) (g := setG g one.toNat j.toNat (min rest (la l j))) (l := l.set j.toNat (la l j - min rest (la l j))) (rest := rest - min rest (la l j)) (shp_setG hs _ _ _) (by rw [List.length_set]; exact hl) o0 o1 hn.2 (fun x hx => hr x (List.mem_cons_of_mem _ hx)) (by omega)
      (fun t ht => by rw [hset, if_neg (hne t ht)]; exact hnn t (List.mem_cons_of_mem _ ht))
    show RI one n (j :: late) l (cRow one late (setG g one.toNat j.toNat (min rest (la l j)), l.set j.toNat (la l j - min rest (la l j)), rest - min rest (la l j))).2.1 rest (cRow one late (setG g one.toNat j.toNat (min rest (la l j)), l.set j.toNat (la l j - min rest (la l j)), rest - min rest (la l j))).2.2 g (cRow one late (setG g one.toNat j.toNat (min rest (la l j)), l.set j.toNat (la l j - min rest (la l j)), rest - min rest (la l j))).1
    generalize cRow one late (setG g one.toNat j.toNat (min rest (la l j)), l.set j.toNat (la l j - min rest (la l j)), rest - min rest (la l j)) = r at ih ⊢
    have hjl : r.2.1.getD j.toNat 0 = la l j - min rest (la l j) := by rw [ih.out j.toNat (by rw [hj2]; exact hn.1), hset, if_pos rfl]
    have hla : ∀ x ∈ late, la (l.set j.toNat (la l j - min rest (la l j))) x = la l x := fun x hx => by
      have hx2 := hr x (List.mem_cons_of_mem _ hx)
      have e : ((x.toNat : Nat) : Int) = x := by omega
      unfold la
      rw [show l.getD j.toNat 0 = la l j from rfl, hset, if_neg (hne x.toNat (by rw [e]; exact hx))]
    refine ⟨by rw [ih.len, List.length_set], fun b hb => ?_, fun t ht => ?_, fun t ht => ?_, fun t => ?_, fun k hk => ?_⟩
    · cases b with
      | zero =>
        show (0 : Int) = max (0 - rest) 0
        omega
      | succ b =>
        have h := ih.pre b (by simpa using hb)
        rw [map_sum_eq (l := late.take b) fun x hx => hla x (List.mem_of_mem_take hx)] at h
        rw [List.take_succ_cons, List.map_cons, List.map_cons, List.sum_cons, List.sum_cons, h]
        have h2 : 0 ≤ ((late.take b).map (la l)).sum := map_sum_nn fun x hx => by
          have hx' := List.mem_of_mem_take hx
          have hx2 := hr x (List.mem_cons_of_mem _ hx')
          exact hnn x.toNat (by rw [show ((x.toNat : Nat) : Int) = x by omega]; exact List.mem_cons_of_mem _ hx')
        have h3 : la r.2.1 j = la l j - min rest (la l j) := hjl
        rw [h3]
        omega
    · rw [ih.out t fun z => ht (List.mem_cons_of_mem _ z), hset, if_neg (fun e => ht (by rw [e, hj2]; exact List.mem_cons_self))]
    · rcases List.mem_cons.mp ht with e | e
      · have e' : t = j.toNat := by omega
        rw [e', hjl]
        have : l.getD j.toNat 0 = la l j := rfl
        omega
      · have := ih.nn t e
        rw [hset, if_neg (hne t e)] at this
        exact this
    · have hrow1 : ∀ t : Nat, ((setG g one.toNat j.toNat (min rest (la l j))).getD one.toNat []).getD t 0 = if t = j.toNat then min rest (la l j) else (g.getD one.toNat []).getD t 0 := fun t => by
        unfold setG
        rw [List.getD_eq_getElem?_getD (l := g.set _ _), List.getElem?_set_self (by rw [hs.1]; omega)]
        exact set_getD (by rw [hs.2 _ (by omega)]; omega)
      rw [ih.row t, hrow1]
      by_cases e : t = j.toNat
      · have e' : (t : Int) = j := by omega
        rw [if_neg (by rw [e']; exact hn.1), if_pos e, if_pos (by rw [e']; exact List.mem_cons_self), e, hjl]
        have : l.getD j.toNat 0 = la l j := rfl
        omega
      · have e' : (t : Int) ≠ j := by omega
        by_cases hm : (t : Int) ∈ late
        · rw [if_pos hm, if_pos (List.mem_cons_of_mem _ hm), hset, if_neg e]
        · rw [if_neg hm, if_neg e, if_neg (fun z => (List.mem_cons.mp z).elim e' hm)]
    · rw [ih.oth k hk]
      unfold setG
      rw [List.getD_eq_getElem?_getD, List.getElem?_set_ne (Ne.symm hk), ← List.getD_eq_getElem?_getD]
end G29
end L2
set_option Elab.async false
set_option linter.all false
set_option maxHeartbeats 1000000
/-! Corner grids: the invariant; boxes of any grid. Plain mathematics. -/
namespace L2
namespace G29
theorem colsum_S (g : List (List Int)) (b : Nat) : Gm.colsum g b = S g.length fun k => (g.getD k []).getD b 0 := by
  unfold Gm.colsum S
  congr 1
  apply List.ext_getElem?
  intro i
  rw [List.getElem?_map, List.getElem?_map]
  by_cases h : i < g.length
  · rw [List.getElem?_range h, List.getElem?_eq_getElem h]
    show some (g[i].getD b 0) = some ((g.getD i []).getD b 0)
    rw [List.getD_eq_getElem?_getD (l := g), List.getElem?_eq_getElem h]; rfl
  · rw [List.getElem?_eq_none (by omega), List.getElem?_eq_none (by rw [List.length_range]; omega)]; rfl
structure CI (rows cols late ord : List Int) (g : List (List Int)) (l : List Int) : Prop where
  shp : Shp rows.length cols.length g
  ll : l.length = cols.length
  nn : ∀ t, t < cols.length → 0 ≤ l.getD t 0
  col : ∀ b, b < cols.length → Gm.colsum g b + l.getD b 0 = cols.getD b 0
  zero : ∀ k : Nat, k < rows.length → (k : Int) ∉ ord → g.getD k [] = List.replicate cols.length 0
  cell : ∀ k t : Nat, 0 ≤ (g.getD k []).getD t 0
  pre : ∀ b, b ≤ late.length → ((late.take b).map (la l)).sum = max (((late.take b).map (la cols)).sum - (ord.map (la rows)).sum) 0
  rs : ∀ one ∈ ord, (g.getD one.toNat []).sum = la rows one
theorem ci_start {rows cols late : List Int} (hc : ∀ x ∈ cols, 0 ≤ x) (hl : AllOf cols.length late) : CI rows cols late [] (zeroG rows.length cols.length) cols where
  shp := shp_zero _ _
  ll := rfl
  nn := fun t ht => hc _ (getD_mem0 ht)
  col := fun b hb => by
    have : Gm.colsum (zeroG rows.length cols.length) b = 0 := by
      unfold Gm.colsum zeroG
      rw [List.map_replicate, zero_getD]
      exact Gm.sum_replicate0 _
    rw [this]; omega
  zero := fun k hk _ => by
    unfold zeroG
    rw [List.getD_eq_getElem?_getD, List.getElem?_replicate, if_pos hk]; rfl
  cell := fun k t => by
    unfold zeroG
    rw [List.getD_eq_getElem?_getD (l := List.replicate rows.length _), List.getElem?_replicate]
    split
    · show 0 ≤ (List.replicate cols.length (0 : Int)).getD t 0
      rw [zero_getD]; exact Int.le_refl _
    · exact Int.le_refl _
  pre := fun b _ => by
    have h : 0 ≤ ((late.take b).map (la cols)).sum := map_sum_nn fun x hx => by
      have := (all_mem hl x).mp (List.mem_of_mem_take hx)
      exact hc _ (getD_mem0 (show x.toNat < cols.length by omega))
    show _ = max (_ - 0) 0
    omega
  rs := fun one h => by simp at h
theorem ci_step {rows cols late ord : List Int} {g : List (List Int)} {l : List Int} {one : Int} (c : CI rows cols late ord g l) (hl : AllOf cols.length late) (ho : one ∉ ord) (o0 : 0 ≤ one) (o1 : one < (rows.length : Int)) (hord : ∀ x ∈ ord, 0 ≤ x) (hr : 0 ≤ la rows one) (hs : (ord.map (la rows)).sum + la rows one ≤ cols.sum) :
    CI rows cols late (ord ++ [one]) (cRow one late (g, l, la rows one)).1 (cRow one late (g, l, la rows one)).2.1 := by
  have hmem := all_mem hl
  have r := ri_row (m := rows.length) (n := cols.length) (one := one) (late := late) (g := g) (l := l) (rest := la rows one) c.shp c.ll o0 o1 (all_nodup hl) (fun x hx => (hmem x).mp hx) hr (fun t ht => c.nn t (by have := (hmem _).mp ht; omega))
  have hshp := shp_cRow (one := one) late (s := (g, l, la rows one)) (m := rows.length) (n := cols.length) ⟨c.shp, c.ll⟩
  generalize cRow one late (g, l, la rows one) = q at r hshp ⊢
  have hin : ∀ t : Nat, t < cols.length → (t : Int) ∈ late := fun t ht => (hmem _).mpr ⟨by omega, by omega⟩
  have hl' : q.2.1.length = cols.length := by rw [r.len, c.ll]
  have hon : one.toNat < rows.length := by omega
  have hz := c.zero one.toNat hon (by rw [Int.toNat_of_nonneg o0]; exact ho)
  have hlate : late.length = cols.length := by rw [hl.length_eq, List.length_map, List.length_range]
  have sum_of : ∀ xs : List Int, xs.length = cols.length → (late.map (la xs)).sum = xs.sum := fun xs h => all_sum (by rw [h]; exact hl)
  have pfull := c.pre late.length (Nat.le_refl _)
  have rfull := r.pre late.length (Nat.le_refl _)
  rw [List.take_length, sum_of l c.ll, sum_of cols rfl] at pfull
  rw [List.take_length, sum_of l c.ll, sum_of q.2.1 hl'] at rfull
  refine ⟨hshp.1, hl', fun t ht => (r.nn t (hin t ht)).1, fun b hb => ?_, fun k hk hko => ?_, fun k t => ?_, fun b hb => ?_, fun o hoo => ?_⟩
  · have hc := c.col b hb
    have e1 : q.1.length = rows.length := hshp.1.1
    rw [colsum_S, c.shp.1] at hc
    rw [colsum_S, e1, S_eq (g := fun k => (g.getD k []).getD b 0 + (l.getD b 0 - q.2.1.getD b 0) * (if k = one.toNat then 1 else 0)) fun k hk => ?_, S_add, S_mul, S_one hon]
    · omega
    · by_cases e : k = one.toNat
      · rw [if_pos e, e, r.row, if_pos (hin b hb), hz, zero_getD]; omega
      · rw [if_neg e, r.oth k e]; omega
  · have hne : k ≠ one.toNat := fun e => hko (List.mem_append_right _ (List.mem_singleton.mpr (by omega)))
    rw [r.oth k hne]
    exact c.zero k hk fun z => hko (List.mem_append_left _ z)
  · by_cases e : k = one.toNat
    · rw [e, r.row]
      by_cases hm : (t : Int) ∈ late
      · rw [if_pos hm]; have := r.nn t hm; omega
      · rw [if_neg hm]; exact c.cell _ _
    · rw [r.oth k e]; exact c.cell _ _
  · rw [r.pre b hb, c.pre b hb, List.map_append, List.sum_append]
    show max (max _ 0 - la rows one) 0 = max (_ - (_ + (la rows one + 0))) 0
    omega
  · rcases List.mem_append.mp hoo with h | h
    · have hne : o.toNat ≠ one.toNat := fun e => ho (by
        have := hord o h
        rw [show one = o by omega]; exact h)
      rw [r.oth _ hne]
      exact c.rs o h
    · have h' := List.mem_singleton.mp h
      subst h'
      rw [S_sum, hshp.1.2 _ hon, S_eq (g := fun t => l.getD t 0 - q.2.1.getD t 0) fun t ht => ?_, S_sub]
      · have e1 := S_sum l
        have e2 := S_sum q.2.1
        rw [c.ll] at e1
        rw [hl'] at e2
        omega
      · rw [r.row, if_pos (hin t ht)]
/-- the state behind the first i rows -/
def cT (rows cols order late : List Int) (i : Nat) : List (List Int) × List Int := cAll rows late (order.take i) (zeroG rows.length cols.length, cols)
theorem cT_succ {rows cols order late : List Int} {i : Nat} {one : Int} (h : order[i]? = some one) : cT rows cols order late (i + 1) = ((cRow one late ((cT rows cols order late i).1, (cT rows cols order late i).2, la rows one)).1, (cRow one late ((cT rows cols order late i).1, (cT rows cols order late i).2, la rows one)).2.1) := by
  unfold cT
  rw [take_snoc h]
  unfold cAll
  rw [List.foldl_append]; rfl
theorem part_le {rows order : List Int} (hr : ∀ x ∈ rows, 0 ≤ x) (ho : AllOf rows.length order) (i : Nat) : ((order.take i).map (la rows)).sum ≤ rows.sum := by
  have h := all_sum ho
  have h2 : 0 ≤ ((order.drop i).map (la rows)).sum := map_sum_nn fun x hx => by
    have := (all_mem ho x).mp (List.mem_of_mem_drop hx)
    exact hr _ (getD_mem0 (show x.toNat < rows.length by omega))
  rw [← List.take_append_drop i order, List.map_append, List.sum_append] at h
  omega
theorem ci_all {rows cols order late : List Int} (t : Tots rows cols) (ho : AllOf rows.length order) (hl : AllOf cols.length late) : ∀ i, i ≤ order.length → CI rows cols late (order.take i) (cT rows cols order late i).1 (cT rows cols order late i).2
  | 0, _ => ci_start (fun x hx => (t.2.1.2.2 x hx).1) hl
  | i + 1, h => by
    have hi : order[i]? = some order[i] := List.getElem?_eq_getElem (by omega)
    have hnn : ∀ x ∈ rows, 0 ≤ x := fun x hx => (t.1.2.2 x hx).1
    have h1 := (all_mem ho order[i]).mp (List.getElem_mem (show i < order.length by omega))
    have hn : order[i] ∉ order.take i := fun z => by
      obtain ⟨k, hk, e⟩ := List.mem_iff_getElem.mp z
      rw [List.length_take] at hk
      rw [List.getElem_take] at e
      have := (List.getElem_inj (all_nodup ho)).mp e
      omega
    rw [cT_succ hi, take_snoc hi]
    have hp := part_le hnn ho (i + 1)
    rw [take_snoc hi, List.map_append, List.sum_append] at hp
    exact ci_step (ci_all t ho hl i (by omega)) hl hn h1.1 h1.2 (fun x hx => ((all_mem ho x).mp (List.mem_of_mem_take hx)).1) (hnn _ (getD_mem0 (show (order[i]).toNat < rows.length by omega))) (by
      have e : ([order[i]].map (la rows)).sum = la rows order[i] := by show _ + 0 = _; omega
      rw [e] at hp
      have := t.2.2
      omega)
theorem isG_of {rows cols : List Int} {g : List (List Int)} (hs : Shp rows.length cols.length g) (hn : ∀ k t : Nat, 0 ≤ (g.getD k []).getD t 0) (hr : ∀ k, k < rows.length → (g.getD k []).sum = rows.getD k 0) (hc : ∀ b, b < cols.length → Gm.colsum g b = cols.getD b 0) : Gm.IsG rows cols g where
  len := hs.1
  row := fun r hr => by
    obtain ⟨a, ha, rfl⟩ := List.mem_iff_getElem.mp hr
    have e : g.getD a [] = g[a] := by rw [List.getD_eq_getElem?_getD, List.getElem?_eq_getElem ha]; rfl
    refine ⟨by rw [← e]; exact hs.2 a (by rw [← hs.1]; exact ha), fun x hx => ?_⟩
    obtain ⟨b, hb, rfl⟩ := List.mem_iff_getElem.mp hx
    have := hn a b
    rw [e, List.getD_eq_getElem?_getD, List.getElem?_eq_getElem hb] at this
    exact this
  rs := Gm.eq_of_getD (by rw [List.length_map, hs.1]) fun a ha => by
    have hag : a < g.length := by rw [hs.1]; exact ha
    rw [Gm.map_getD hag, ← hr a ha, List.getD_eq_getElem?_getD (l := g), List.getElem?_eq_getElem hag]; rfl
  cs := Gm.eq_of_getD (by rw [Gm.colsums_len]) fun b hb => by rw [Gm.colsums_getD hb, hc b hb]
theorem corner_isG {rows cols order late : List Int} (t : Tots rows cols) (ho : AllOf rows.length order) (hl : AllOf cols.length late) : Gm.IsG rows cols (cornerG rows cols order late) := by
  have c := ci_all t ho hl order.length (Nat.le_refl _)
  have e : (cT rows cols order late order.length).1 = cornerG rows cols order late := by
    unfold cT cornerG
    rw [List.take_length]
  rw [List.take_length] at c
  have hsum : (cT rows cols order late order.length).2.sum = 0 := by
    have h := c.pre late.length (Nat.le_refl _)
    rw [List.take_length, all_sum (l := cols) hl, all_sum (l := rows) ho, all_sum (l := (cT rows cols order late order.length).2) (by rw [c.ll]; exact hl)] at h
    have := t.2.2
    omega
  have hz : ∀ b, (cT rows cols order late order.length).2.getD b 0 = 0 := fun b => by
    have := Gm.all_zero (l := (cT rows cols order late order.length).2) (fun x hx => by
      obtain ⟨i, hi, rfl⟩ := List.mem_iff_getElem.mp hx
      have := c.nn i (by rw [← c.ll]; exact hi)
      rw [List.getD_eq_getElem?_getD, List.getElem?_eq_getElem hi] at this
      exact this) hsum
    rw [this]; exact zero_getD _ _
  rw [← e]
  refine isG_of c.shp c.cell (fun k hk => ?_) fun b hb => ?_
  · have := c.rs (k : Int) ((all_mem ho _).mpr ⟨by omega, by omega⟩)
    rw [Int.toNat_natCast] at this
    rw [this]
    unfold la
    rw [Int.toNat_natCast]
  · have := c.col b hb
    rw [hz] at this
    omega
theorem cT_keep {rows cols order late : List Int} (t : Tots rows cols) (ho : AllOf rows.length order) (hl : AllOf cols.length late) {i : Nat} {x : Int} (hx : x ∈ order.take i) : ∀ d : Nat, i + d ≤ order.length → (cT rows cols order late (i + d)).1.getD x.toNat [] = (cT rows cols order late i).1.getD x.toNat []
  | 0, _ => rfl
  | d + 1, h => by
    have hi : order[i + d]? = some order[i + d] := List.getElem?_eq_getElem (by omega)
    have h1 := (all_mem ho order[i + d]).mp (List.getElem_mem (show i + d < order.length by omega))
    have c := ci_all t ho hl (i + d) (by omega)
    have r := ri_row (m := rows.length) (n := cols.length) (one := order[i + d]) (late := late) (g := (cT rows cols order late (i + d)).1) (l := (cT rows cols order late (i + d)).2) (rest := la rows order[i + d]) c.shp c.ll h1.1 h1.2 (all_nodup hl) (fun x hx => (all_mem hl x).mp hx) (t.1.2.2 _ (getD_mem0 (show (order[i + d]).toNat < rows.length by omega))).1 (fun t ht => c.nn t (by have := (all_mem hl _).mp ht; omega))
    have h2 := (all_mem ho x).mp (List.mem_of_mem_take hx)
    have hne : x.toNat ≠ (order[i + d]).toNat := fun e => by
      have e' : x = order[i + d] := by omega
      obtain ⟨k, hk, e2⟩ := List.mem_iff_getElem.mp hx
      rw [List.length_take] at hk
      rw [List.getElem_take, e'] at e2
      have := (List.getElem_inj (all_nodup ho)).mp e2
      omega
    show (cT rows cols order late (i + d + 1)).1.getD x.toNat [] = _
    rw [cT_succ hi]
    show (cRow _ late _).1.getD x.toNat [] = _
    rw [r.oth _ hne]
    exact cT_keep t ho hl hx d (by omega)
theorem la_nat (l : List Int) (t : Nat) : la l (t : Int) = l.getD t 0 := by unfold la; rw [Int.toNat_natCast]
/-- what is inside of the box, by what is left -/
theorem corner_inside {rows cols late so ot : List Int} (t : Tots rows cols) (ls : Lines so rows.length) (lo : Lines ot cols.length) (hl : AllOf cols.length late) :
    ∃ l, (∀ b, b ≤ late.length → ((late.take b).map (la l)).sum = max (((late.take b).map (la cols)).sum - (so.map (la rows)).sum) 0) ∧ insideI (cornerG rows cols (firstOnes rows.length so) late) so ot = (ot.map (la cols)).sum - (ot.map (la l)).sum := by
  have ho := all_first ls
  have hln : so.length ≤ (firstOnes rows.length so).length := by unfold firstOnes; rw [List.length_append]; omega
  have htk : (firstOnes rows.length so).take so.length = so := by unfold firstOnes; rw [List.take_left]
  have c := ci_all t ho hl so.length hln
  rw [htk] at c
  refine ⟨_, c.pre, ?_⟩
  have hnd : so.Nodup := by
    rw [List.nodup_iff_pairwise_ne]
    exact ls.2.1.imp fun h => by omega
  rw [← insideI_sum, swap_sum, ← map_sum_sub]
  refine map_sum_eq fun j hj => ?_
  have hjr := lo.1 j hj
  have e1 : (so.map fun i => ga (cornerG rows cols (firstOnes rows.length so) late) i j).sum = (so.map fun i => ga (cT rows cols (firstOnes rows.length so) late so.length).1 i j).sum := map_sum_eq fun i hi => by
    have k := cT_keep t ho hl (i := so.length) (x := i) (by rw [htk]; exact hi) ((firstOnes rows.length so).length - so.length) (by omega)
    rw [show so.length + ((firstOnes rows.length so).length - so.length) = (firstOnes rows.length so).length by omega] at k
    have e : (cT rows cols (firstOnes rows.length so) late (firstOnes rows.length so).length).1 = cornerG rows cols (firstOnes rows.length so) late := by
      unfold cT cornerG
      rw [List.take_length]
    rw [e] at k
    unfold ga
    rw [k]
  have hj2 : j.toNat < cols.length := by omega
  have hcol := c.col j.toNat hj2
  rw [colsum_S, c.shp.1, S_eq (g := fun k => if (k : Int) ∈ so then ((cT rows cols (firstOnes rows.length so) late so.length).1.getD k []).getD j.toNat 0 else 0) fun k hk => ?_, S_map hnd ls.1] at hcol
  · rw [e1]
    have e2 : (so.map fun i => ga (cT rows cols (firstOnes rows.length so) late so.length).1 i j).sum = (so.map fun x => ((cT rows cols (firstOnes rows.length so) late so.length).1.getD x.toNat []).getD j.toNat 0).sum := rfl
    rw [e2]
    show _ = cols.getD j.toNat 0 - _
    have e3 : la (cT rows cols (firstOnes rows.length so) late so.length).2 j = (cT rows cols (firstOnes rows.length so) late so.length).2.getD j.toNat 0 := rfl
    rw [e3]
    omega
  · by_cases hm : (k : Int) ∈ so
    · rw [if_pos hm]
    · rw [if_neg hm, c.zero k hk hm, zero_getD]
theorem great_inside {rows cols so ot : List Int} (t : Tots rows cols) (ls : Lines so rows.length) (lo : Lines ot cols.length) : insideI (greatG rows cols so ot) so ot = min (so.map (la rows)).sum (ot.map (la cols)).sum := by
  obtain ⟨l, hp, hi⟩ := corner_inside t ls lo (all_first lo)
  unfold greatG
  rw [hi]
  have h := hp ot.length (by unfold firstOnes; rw [List.length_append]; omega)
  rw [show (firstOnes cols.length ot).take ot.length = ot by unfold firstOnes; rw [List.take_left]] at h
  rw [h]
  omega
theorem least_inside {rows cols so ot : List Int} (t : Tots rows cols) (ls : Lines so rows.length) (lo : Lines ot cols.length) : insideI (leastG rows cols so ot) so ot = max 0 ((so.map (la rows)).sum + (ot.map (la cols)).sum - rows.sum) := by
  have hF := all_first lo
  have hE := all_early hF ot.length
  obtain ⟨l, hp, hi⟩ := corner_inside t ls lo hE
  unfold leastG
  rw [hi]
  have htk : (firstOnes cols.length ot).take ot.length = ot := by unfold firstOnes; rw [List.take_left]
  have hEl : earlyL (firstOnes cols.length ot) ot.length = (firstOnes cols.length ot).drop ot.length ++ ot := by unfold earlyL; rw [htk]
  have h1 := hp ((firstOnes cols.length ot).drop ot.length).length (by rw [hEl, List.length_append]; omega)
  have h2 := hp (earlyL (firstOnes cols.length ot) ot.length).length (Nat.le_refl _)
  rw [hEl, List.take_left] at h1
  rw [List.take_length, hEl, List.map_append, List.sum_append, List.map_append, List.sum_append] at h2
  have h3 := all_sum (l := cols) hF
  rw [← List.take_append_drop ot.length (firstOnes cols.length ot), htk, List.map_append, List.sum_append] at h3
  have h4 := part_le (fun x hx => (t.1.2.2 x hx).1) (all_first ls) so.length
  rw [show (firstOnes rows.length so).take so.length = so by unfold firstOnes; rw [List.take_left]] at h4
  have h5 := t.2.2
  omega
/-- a box of any grid -/
theorem any_inside {rows cols so ot : List Int} {g : List (List Int)} (t : Tots rows cols) (ls : Lines so rows.length) (lo : Lines ot cols.length) (q : Gm.IsG rows cols g) :
    max 0 ((so.map (la rows)).sum + (ot.map (la cols)).sum - rows.sum) ≤ insideI g so ot ∧ insideI g so ot ≤ min (so.map (la rows)).sum (ot.map (la cols)).sum := by
  have hsn : so.Nodup := by
    rw [List.nodup_iff_pairwise_ne]
    exact ls.2.1.imp fun h => by omega
  have hon : ot.Nodup := by
    rw [List.nodup_iff_pairwise_ne]
    exact lo.2.1.imp fun h => by omega
  have hrow : ∀ k, k < rows.length → (g.getD k []).length = cols.length ∧ (∀ x ∈ g.getD k [], 0 ≤ x) ∧ (g.getD k []).sum = rows.getD k 0 := fun k hk => by
    have hkg : k < g.length := by rw [q.len]; exact hk
    have hm := getD_mem hkg
    refine ⟨(q.row _ hm).1, (q.row _ hm).2, ?_⟩
    have h := q.rs
    rw [← h, Gm.map_getD hkg, List.getD_eq_getElem?_getD, List.getElem?_eq_getElem hkg]; rfl
  have hcell : ∀ k b : Nat, 0 ≤ (g.getD k []).getD b 0 := fun k b => by
    by_cases hk : k < rows.length
    · by_cases hb : b < (g.getD k []).length
      · exact (hrow k hk).2.1 _ (getD_mem0 hb)
      · rw [List.getD_eq_getElem?_getD, List.getElem?_eq_none (by omega)]; exact Int.le_refl _
    · rw [List.getD_eq_getElem?_getD (l := g), List.getElem?_eq_none (by rw [q.len]; omega)]; exact Int.le_refl _
  -- a row's part
  have hpart : ∀ i : Int, 0 ≤ i → i < (rows.length : Int) → 0 ≤ (ot.map fun j => ga g i j).sum ∧ (ot.map fun j => ga g i j).sum ≤ la rows i := fun i i0 i1 => by
    refine ⟨map_sum_nn fun j _ => hcell _ _, ?_⟩
    have e : (ot.map fun j => ga g i j).sum = S cols.length fun b => if (b : Int) ∈ ot then (g.getD i.toNat []).getD b 0 else 0 := (S_map (f := fun b => (g.getD i.toNat []).getD b 0) hon lo.1).symm
    have h := hrow i.toNat (by omega)
    have e2 : la rows i = S cols.length fun b => (g.getD i.toNat []).getD b 0 := by
      rw [show la rows i = rows.getD i.toNat 0 from rfl, ← h.2.2, S_sum, h.1]
    rw [e, e2]
    refine S_le fun b hb => ?_
    split
    · exact Int.le_refl _
    · exact hcell _ _
  have hcolp : ∀ j ∈ ot, (so.map fun i => ga g i j).sum ≤ la cols j := fun j hj => by
    have hj' := lo.1 j hj
    have e : (so.map fun i => ga g i j).sum = S rows.length fun k => if (k : Int) ∈ so then (g.getD k []).getD j.toNat 0 else 0 := (S_map (f := fun k => (g.getD k []).getD j.toNat 0) hsn ls.1).symm
    have e2 : la cols j = S rows.length fun k => (g.getD k []).getD j.toNat 0 := by
      rw [← q.len, ← colsum_S]
      rw [show la cols j = cols.getD j.toNat 0 from rfl, ← Gm.colsums_getD (g := g) (n := cols.length) (by omega), q.cs]
    rw [e, e2]
    refine S_le fun k hk => ?_
    split
    · exact Int.le_refl _
    · exact hcell _ _
  have hle1 : insideI g so ot ≤ (so.map (la rows)).sum := by
    rw [← insideI_sum]
    exact map_sum_le fun i hi => (hpart i (ls.1 i hi).1 (ls.1 i hi).2).2
  have hle2 : insideI g so ot ≤ (ot.map (la cols)).sum := by
    rw [← insideI_sum, swap_sum]
    exact map_sum_le hcolp
  have hge0 : 0 ≤ insideI g so ot := by
    rw [← insideI_sum]
    exact map_sum_nn fun i hi => (hpart i (ls.1 i hi).1 (ls.1 i hi).2).1
  have hge : (so.map (la rows)).sum - insideI g so ot ≤ rows.sum - (ot.map (la cols)).sum := by
    have hall : AllOf rows.length ((List.range rows.length).map fun (i : Nat) => (i : Int)) := List.Perm.refl _
    have e1 : (so.map (la rows)).sum - insideI g so ot = (so.map fun i => la rows i - (ot.map fun j => ga g i j).sum).sum := by rw [map_sum_sub, insideI_sum]
    have e2 : rows.sum - (ot.map (la cols)).sum = (((List.range rows.length).map fun (i : Nat) => (i : Int)).map fun i => la rows i - (ot.map fun j => ga g i j).sum).sum := by
      rw [map_sum_sub, all_sum hall, swap_sum]
      congr 1
      refine map_sum_eq fun j hj => ?_
      have hj' := lo.1 j hj
      have e : (((List.range rows.length).map fun (i : Nat) => (i : Int)).map fun i => ga g i j).sum = S rows.length fun k => (g.getD k []).getD j.toNat 0 := by
        unfold S
        rw [List.map_map]
        congr 1
      rw [e, ← q.len, ← colsum_S, show la cols j = cols.getD j.toNat 0 from rfl, ← Gm.colsums_getD (g := g) (n := cols.length) (by omega), q.cs]
    rw [e1, e2]
    have e3 : (so.map fun i => la rows i - (ot.map fun j => ga g i j).sum).sum = S rows.length fun k => if (k : Int) ∈ so then la rows (k : Int) - (ot.map fun j => ga g (k : Int) j).sum else 0 := by
      rw [S_map (f := fun k => la rows (k : Int) - (ot.map fun j => ga g (k : Int) j).sum) hsn ls.1]
      refine map_sum_eq fun i hi => ?_
      have := (ls.1 i hi).1
      rw [Int.toNat_of_nonneg this]
    have e4 : (((List.range rows.length).map fun (i : Nat) => (i : Int)).map fun i => la rows i - (ot.map fun j => ga g i j).sum).sum = S rows.length fun k => la rows (k : Int) - (ot.map fun j => ga g (k : Int) j).sum := by
      unfold S
      rw [List.map_map]
      congr 1
    rw [e3, e4]
    refine S_le fun k hk => ?_
    have := hpart (k : Int) (by omega) (by omega)
    split
    · exact Int.le_refl _
    · omega
  omega
end G29
end L2
set_option Elab.async false
set_option linter.all false
set_option maxRecDepth 100000
set_option maxHeartbeats 4000000
namespace L2
namespace G29
open PySem PySem.Spec PyProof.Rows
abbrev sZeroOne : Stmt := topS 29
theorem scZeroOne : FnScope ["rows", "columns", "grid", "left", "row", "one", "fullest", "other", "order", "size", "some"] ["rows", "columns"] (defScope sZeroOne) := ⟨rfl, rfl, rfl, by decide +kernel, rfl, by decide +kernel, by decide +kernel⟩

/-- the name of the lambdas -/
abbrev qZ : Str := ("zero_one" : Str) ++ ".<locals>." ++ "<lambda>"
abbrev TZ (Pt : Addr) : List (Addr × Str) := [(Pt, qZ)]
abbrev NF : FS := fun _ => False
section
variable {K : PySem.W.Frag} {H H' : Hp} {σ : St} {δ : De}
theorem sqL_ext {a : Addr} {xs : List V} (e : LamX.ExtN H H') (h : SqL K H a xs) : SqL K H' a xs := by
  rcases h with (h | ⟨o, h⟩) | h
  · exact .inl (.inl (e _ _ h fun ps z => by cases z))
  · exact .inl (.inr ⟨o, e _ _ h fun ps z => by cases z⟩)
  · exact .inr h
theorem sqT_ext {a : Addr} {xs : List V} (e : LamX.ExtN H H') (h : SqT K H a xs) : SqT K H' a xs := by
  rcases h with (h | ⟨o, h⟩) | h
  · exact .inl (.inl (e _ _ h fun ps z => by cases z))
  · exact .inl (.inr ⟨o, e _ _ h fun ps z => by cases z⟩)
  · exact .inr h
mutual
theorem dp_ext (e : LamX.ExtN H H') : ∀ {v : V} {d : PyData}, Dp K H v d → Dp K H' v d
  | _, _, .non => .non
  | _, _, .bl b => .bl b
  | _, _, .int i => .int i
  | _, _, .str x => .str x
  | _, _, .lst hs ha => .lst (sqL_ext e hs) (dpAll_ext e ha)
  | _, _, .tup hs ha => .tup (sqT_ext e hs) (dpAll_ext e ha)
theorem dpAll_ext (e : LamX.ExtN H H') : ∀ {vs : List V} {ds : List PyData}, DpAll K H vs ds → DpAll K H' vs ds
  | _, _, .nil => .nil
  | _, _, .cons h t => .cons (dp_ext e h) (dpAll_ext e t)
end
theorem sv_ext {v : V} {x : Sl} (e : LamX.ExtN H H') (h : Sv K H v x) : Sv K H' v x := by
  cases x with
  | d x => exact dp_ext e h
  | obj C ns ds =>
    obtain ⟨a, dx, vs, rfl, h1, h2, h3⟩ := h
    exact ⟨a, dx, vs, rfl, e _ _ h1 (fun ps z => by cases z), dpAll_ext e h2, h3⟩
theorem sd_ext (e : LamX.ExtN H H') (h : Sd K H σ δ) : Sd K H' σ δ := ⟨h.1, fun i x hx => let ⟨v, a, b⟩ := h.2 i x hx; ⟨v, a, sv_ext e b⟩⟩
theorem mk_ext {F : FS} (e : LamX.ExtN H H') : LamX.ExtN (mk F H) (mk F H') := fun b o h n => by
  by_cases hF : F b
  · rw [mk_none hF] at h; cases h
  · rw [mk_at hF] at h ⊢
    exact e b o h n
theorem GL.ext {F : FS} {a c : Addr} {bs : List Addr} {g : List (List Int)} {l : List Int} (h : GL F a c bs g l H) (e : LamX.ExtN H H') : GL F a c bs g l H' :=
  ⟨e _ _ h.ha (fun ps z => by cases z), fun i b hi => e _ _ (h.hb i b hi) (fun ps z => by cases z), h.len, h.nd, e _ _ h.hc (fun ps z => by cases z), h.cb, h.ab, h.ac, h.nF⟩
theorem SG.ext {gi li : Nat} {a c : Addr} {bs : List Addr} {g : List (List Int)} {l : List Int} (h : SG K NF δ gi li a c bs g l σ H) (e : LamX.ExtN H H') : SG K NF δ gi li a c bs g l σ H' :=
  ⟨h.gl.ext e, Dom.nil, sd_ext (mk_ext e) h.sd, h.sg, h.sl⟩
theorem SG.put {gi li : Nat} {a c : Addr} {bs : List Addr} {g : List (List Int)} {l : List Int} {j : Nat} {v : V} {x : Sl} (h : SG K NF δ gi li a c bs g l σ H) (hv : Sv K (L2.G29.mk (FM NF a c bs) H) v x) (h1 : j ≠ gi) (h2 : j ≠ li) : SG K NF (δ.set j (some x)) gi li a c bs g l (σ.set j (some v)) H :=
  ⟨h.gl, h.dm, sd_set h.sd hv, by rw [List.getElem?_set_ne h1]; exact h.sg, by rw [List.getElem?_set_ne h2]; exact h.sl⟩
theorem tabs_same {T : List (Addr × Str)} (e : Same H H') (h : LamX.Tabs T H) : LamX.Tabs T H' := h.ext e
/-- a walk over a list that stands -/
theorem forL_at {p : Addr} {xs : List V} {g : TG} {tb : TS} {D : Ends} (Pv : Nat → St → Hp → Prop) (h0 : Pv 0 σ H) (hl : ∀ i σ' H', Pv i σ' H' → SqL K H' p xs)
    (hs : ∀ i v σ' H', xs[i]? = some v → Pv i σ' H' → g v σ' H' fun σ2 H2 => tb { D with nx := Pv (i + 1), ct := Pv (i + 1), bk := D.nx } σ2 H2) (hd : ∀ σ' H', Pv xs.length σ' H' → D.nx σ' H') :
    ∃ W : Nat → Nat → St → Hp → Prop, (∃ m, W 0 m σ H) ∧ ∀ i m σ H, W i m σ H → ((Itl K p).stop i H ∧ D.nx σ H) ∨ ((Itl K p).go i H ∧ ∃ N : St → Hp → Prop, (∀ σ' H', N σ' H' → ∃ m', m' < m ∧ W (i + 1) m' σ' H') ∧ ∀ x H', (Itl K p).yld i H x H' → g x σ H' fun σ2 H2 => tb { D with nx := N, ct := N, bk := D.nx } σ2 H2) := by
  refine ⟨fun i m σ' H' => m = xs.length - i ∧ i ≤ xs.length ∧ Pv i σ' H', ⟨xs.length, rfl, Nat.zero_le _, h0⟩, ?_⟩
  rintro i m σ' H' ⟨rfl, hi, p⟩
  have hq := hl i σ' H' p
  by_cases hlt : i < xs.length
  · refine .inr ⟨⟨xs, xs[i], hq, List.getElem?_eq_getElem hlt⟩, Pv (i + 1), fun σ3 H3 h3 => ⟨xs.length - (i + 1), by omega, rfl, hlt, h3⟩, fun v H3 yy => ?_⟩
    obtain ⟨e, yy⟩ := yy
    subst e
    exact hs i v _ _ (yy xs hq) p
  · have hi' : i = xs.length := by omega
    subst hi'
    exact .inl ⟨⟨xs, hq, Nat.le_refl _⟩, hd _ _ p⟩
end
section
variable {K : PySem.W.Frag} {H H' : Hp} {σ : St} {δ : De} {Q : VK}
def WFor (J : It) (g : TG) (tb : TS) (D : Ends) (σ : St) (H1 : Hp) : Prop := ∃ W : Nat → Nat → St → Hp → Prop, (∃ m, W 0 m σ H1) ∧ ∀ i m σ H, W i m σ H →
  (J.stop i H ∧ D.nx σ H) ∨ (J.go i H ∧ ∃ N : St → Hp → Prop, (∀ σ' H', N σ' H' → ∃ m', m' < m ∧ W (i + 1) m' σ' H') ∧ ∀ x H', J.yld i H x H' → g x σ H' fun σ2 H2 => tb { D with nx := N, ct := N, bk := D.nx } σ2 H2)
theorem tForS_at {tl : TE} {g : TG} {tb : TS} {D : Ends} (h : tl σ H fun x H1 => ∃ a, x = .ref a ∧ (((∃ xs, SqL K H1 a xs) ∧ WFor (Itl K a) g tb D σ H1) ∨ ((∃ xs, SqT K H1 a xs) ∧ WFor (Itt K a) g tb D σ H1))) : tFor (iSeq K tl) g tb D σ H := h
theorem tTup_at {tr : TA} (h : tr σ H fun xs H1 => xs.length ≤ sizeLine ∧ ∀ p, H1 p = none → Q (.ref p) (upd H1 p (.tup xs))) : tTup tr σ H Q := h
theorem tSl_at {r : V → Option Int → Option Int → Hp → VK → Prop} {te : TE} {tl th : TO} (h : te σ H fun x H1 => tl σ H1 fun l H2 => th σ H2 fun u H3 => r x l u H3 Q) : tSl r te tl th σ H Q := h
theorem tNoPart_at {Q : Option Int → Hp → Prop} (h : Q none H) : tNoPart σ H Q := h
theorem tPart_at {te : TE} {Q : Option Int → Hp → Prop} (h : te σ H fun x H1 => ∃ i, x = .int i ∧ Q (some i) H1) : tPart te σ H Q := h
theorem gName_at {i : Nat} {v : V} {Q : St → Hp → Prop} (h : Q (σ.set i (some v)) H) : gName i v σ H Q := h
theorem cutV_to {xs : List V} {r : Int} (h : 0 ≤ r) : cutV xs none (some r) = xs.take r.toNat := by
  have e : r = ((r.toNat : Nat) : Int) := (Int.toNat_of_nonneg h).symm
  unfold cutV
  rw [e, HT.sIx_nat, HT.sIx_none, List.drop_zero, Nat.sub_zero, Int.toNat_natCast]
  by_cases h : r.toNat ≤ xs.length
  · rw [Nat.min_eq_left h]
  · rw [Nat.min_eq_right (by omega), List.take_length, List.take_of_length_le (by omega)]
theorem sortLam_at {T : List (Addr × Str)} {xi li : Nat} {F0 : FS} {xs ys : List Int} {a : Addr} (dm : Dom F0 H) (s : Sd K (mk F0 H) σ δ) (h : δ[li]? = some (some (sT ys))) (hx : σ[xi]? = some (some (V.ref a))) (hsq : Sq K H a (xs.map V.int)) (hl : xs.length = ys.length) (hz : xs.length ≤ 1000) (hT : LamX.Tabs T H)
    (q : ∀ (H2 : Hp) (ps : List Int) (p : Addr), LamX.ExtN H H2 → LamX.Tabs T H2 → ByFall xs ps → H2 p = none → Q (.ref p) (upd H2 p (.lst (ps.map V.int)))) : tSortLam K T xi (tCons (tCB rRng1 (tCons (tCB (rLen K) (tCons (tVar li) tNil)) tNil)) tNil) σ H Q := by
  refine tCons_at (tCB_at (tCons_at ((ed_len (ed_var h) (.inr rfl)) F0 σ H dm s _ fun v H1 e1 hv => ?_)))
  cases hv
  refine ⟨_, rfl, fun r hr => ⟨r, a, xs, rfl, by rw [upd_same, hl], hx, sq_same (e1.trans (same_upd hr)) hsq, hz, (hT.ext e1).ext (same_upd hr), fun H2 ps p e t f n => q H2 ps p ((LamX.ExtN.of (e1.trans (same_upd hr))).trans e) t f n⟩⟩
theorem tabs_but {T : List (Addr × Str)} {M : FS} (hM : ∀ b, M b → ∃ xs, H b = some (.lst xs)) (e : But M H H') (h : LamX.Tabs T H) : LamX.Tabs T H' := fun p hp => by
  obtain ⟨ps, h1, h2, h3⟩ := h p hp
  have n : ∀ b o, H b = some o → (∀ xs, o ≠ .lst xs) → ¬ M b := fun b o hb hn z => by
    obtain ⟨xs, hx⟩ := hM b z
    rw [hb] at hx
    exact hn xs (Option.some.inj hx)
  refine ⟨ps, e _ _ (n _ _ h1 (by intro xs z; cases z)) h1, h2, fun pos cv hc => ?_⟩
  obtain ⟨c, e1, e2⟩ := h3 pos cv hc
  exact ⟨c, e1, e _ _ (n _ _ e2 (by intro xs z; unfold LamX.CodeO at z; cases z)) e2⟩
theorem SG.lsts {gi li : Nat} {a c : Addr} {bs : List Addr} {g : List (List Int)} {l : List Int} {F : FS} (h : SG K F δ gi li a c bs g l σ H) : ∀ b, GM a c bs b → ∃ xs, H b = some (.lst xs) := fun b hb => by
  rcases hb with rfl | rfl | hb
  · exact ⟨_, h.gl.ha⟩
  · exact ⟨_, h.gl.hc⟩
  · obtain ⟨i, hi⟩ := List.mem_iff_getElem?.mp hb
    exact ⟨_, h.gl.hb i b hi⟩
theorem SG.any {gi li : Nat} {a c : Addr} {bs : List Addr} {g : List (List Int)} {l : List Int} {F : FS} {j : Nat} {v : V} (h : SG K F δ gi li a c bs g l σ H) (h1 : j ≠ gi) (h2 : j ≠ li) : SG K F (δ.set j none) gi li a c bs g l (σ.set j (some v)) H :=
  ⟨h.gl, h.dm, sd_any h.sd, by rw [List.getElem?_set_ne h1]; exact h.sg, by rw [List.getElem?_set_ne h2]; exact h.sl⟩
theorem SG.le {gi li : Nat} {a c : Addr} {bs : List Addr} {g : List (List Int)} {l : List Int} {F : FS} {δ' : De} (h : SG K F δ gi li a c bs g l σ H) (e : Le δ' δ) : SG K F δ' gi li a c bs g l σ H := ⟨h.gl, h.dm, sd_le e h.sd, h.sg, h.sl⟩
theorem extN_but {M : FS} {H0 : Hp} (hM : ∀ b, M b → H0 b = none) (e : LamX.ExtN H0 H) (b : But M H H') : LamX.ExtN H0 H' := fun x o hx hn => b x o (fun z => by rw [hM x z] at hx; cases hx) (e x o hx hn)
end
/-- what zero_one hands back -/
def ZRes (CB CK : Addr) (rows cols : List Int) (x : Sl) : Prop := (∃ g, x = oB CB g ∧ Grid rows cols g ∧ ∀ r ∈ g, ∀ c ∈ r, c < 2) ∨ ∃ so, x = oK CK so ∧ Lines so rows.length ∧ blockB rows cols so = true
def spZ (K : PySem.W.Frag) (CB CK Pt : Addr) : Sp := fun vs H Q _ => ∃ rows cols : List Int, SvAll K (mk NF H) vs [sT rows, sT cols] ∧ Tots rows cols ∧ LamX.Tabs (TZ Pt) H ∧
  ∀ v H' x, ZRes CB CK rows cols x → LamX.ExtN H H' → LamX.Tabs (TZ Pt) H' → Sv K (mk NF H') v x → Q v H'
section
variable {P : Program} {w : World} {K : PySem.W.Frag} {mg : Str → Option Value} {base : Heap}
theorem ok_ZeroOne {f : Addr} {fd : FuncData} {CB CK c Pt : Addr} (F : Fun K "zero_one" "zero_one" sZeroOne f fd) (B : Bl mg) (hcode : fd.code = .ref c) (TB : LamX.TabB base mg c Pt) (cB : ClsF K mg "Bits" CB) (cK : ClsF K mg "Blocked" CK) (HB : HBitsInit P w K mg base CB) (HK : HBlockedInit P w K mg base CK) (HS : HBlockedShows P w K mg base CK) (H_check_totals : HCheckTotals P w K mg base) (H_is_grid : HIsGrid P w K mg base) : FnOk P w K mg base CX0 5 f fd ["rows", "columns"] (spZ K CB CK Pt) := by
  obtain ⟨f_check_totals, fd_check_totals, G_check_totals, m_check_totals, k_check_totals, b_check_totals⟩ := H_check_totals
  obtain ⟨f_is_grid, fd_is_grid, G_is_grid, m_is_grid, k_is_grid, b_is_grid⟩ := H_is_grid
  obtain ⟨fB, fdB, GB, MB, bB⟩ := HB
  obtain ⟨fK, fdK, GK, MK, bK⟩ := HK
  obtain ⟨fS, fdS, GS, HmK, bS⟩ := HS
  obtain ⟨oc, od, kV, doc, pm, an, cdv, ct, osl, rfl, lk, hcd⟩ := F.ex
  obtain rfl : cdv = .ref c := hcode
  refine fn_of lk hcd scZeroOne (fun vs H Q E h => ?_) fun A outer s H vs Q E hr h => ?_
  · obtain ⟨rows, cols, hv, _⟩ := h
    rw [svAll_len hv]; rfl
  obtain ⟨rows, cols, hv, t, hT, q⟩ := h
  refine ⟨_, (show PSs (cxOf CX0 P w K mg base ["rows", "columns", "grid", "left", "row", "one", "fullest", "other", "order", "size", "some"] "zero_one" (defScope sZeroOne) f (.ref c) A outer s H E).nox (defBody sZeroOne) _ from (pss_cons (ps_expr (pe_call G_check_totals (hr.mono (by decide)) (by rfl) m_check_totals k_check_totals b_check_totals .nil pass0 (pa_cons (pv 0) (pa_cons (pv 1) pa_nil))))
      (pss_cons (ps_asg (pe_tup (pa_cons (pe_lc (own := [("row", 4)]) (g := (gName 4)) (tt := tYes) (te := (tOp rRep (tLst (tCons (tC (V.int 0)) tNil)) (tCB (rLen K) (tCons (tVar 1) tNil)))) rfl scZeroOne.nd (pi_seq (pv 0)) (blkOk_by (by kernel_rfl)) (fun _ _ _ _ _ => (pg_name (i := 4) scZeroOne.nd rfl (by first | exact Or.inl rfl | exact Or.inr rfl))) (fun _ _ _ _ _ => pts_nil) (fun _ _ _ _ _ => (pe_op op_rep (pe_lst (pa_cons pe_int pa_nil)) (pe_callB call_len_seq (by rfl) B.len PySem.boot_len (pa_cons (pv 1) pa_nil))))) (pa_cons (pe_callTy call_list_of (by rfl) B.list (by decide +kernel) (pa_cons (pv 1) pa_nil)) pa_nil))) (pg_tup rfl (pgs_cons (pg_name (i := 2) scZeroOne.nd rfl (by first | exact Or.inl rfl | exact Or.inr rfl)) (pgs_cons (pg_name (i := 3) scZeroOne.nd rfl (by first | exact Or.inl rfl | exact Or.inr rfl)) pgs_nil))))
      (pss_cons (ps_for PassesOwn.never rfl (pi_seq (pe_sortLam (T := TZ Pt) (xi := 0) TB rfl (List.mem_singleton.mpr rfl) (fun p hp _ => by rw [List.mem_singleton.mp hp]; rfl) (by rfl) B.sorted (pa_cons (pe_callTy cr_range1 (by rfl) B.range (by decide +kernel) (pa_cons (pe_callB call_len_seq (by rfl) B.len PySem.boot_len (pa_cons (pv 0) pa_nil)) pa_nil)) pa_nil) rfl rfl ⟨rfl, rfl, rfl, rfl, rfl, by decide +kernel⟩ (by decide +kernel) rfl (fun _ _ _ _ _ _ _ => rfl) rfl hr.depth (by decide) (by decide) rfl rfl rfl rfl rfl)) (pg_name (i := 5) scZeroOne.nd rfl (by first | exact Or.inl rfl | exact Or.inr rfl)) (pss_cons (ps_set (i := 6) scZeroOne.nd rfl (by first | exact Or.inl rfl | exact Or.inr rfl) (pe_slice sl_list (pe_sortLam (T := TZ Pt) (xi := 3) TB rfl (List.mem_singleton.mpr rfl) (fun p hp _ => by rw [List.mem_singleton.mp hp]; rfl) (by rfl) B.sorted (pa_cons (pe_callTy cr_range1 (by rfl) B.range (by decide +kernel) (pa_cons (pe_callB call_len_seq (by rfl) B.len PySem.boot_len (pa_cons (pv 1) pa_nil)) pa_nil)) pa_nil) rfl rfl ⟨rfl, rfl, rfl, rfl, rfl, by decide +kernel⟩ (by decide +kernel) rfl (fun _ _ _ _ _ _ _ => rfl) rfl hr.depth (by decide) (by decide) rfl rfl rfl rfl rfl) po_none (po_some (pe_ix ix_seq (pv 0) (pv 5) (fun _ _ => rfl)))))
      (pss_one (ps_for PassesOwn.never rfl (pi_seq (pv 6)) (pg_name (i := 7) scZeroOne.nd rfl (by first | exact Or.inl rfl | exact Or.inr rfl)) (pss_cons (ps_asg pe_int (pg_sub (pe_ix ix_seq (pv 2) (pv 5) (fun _ _ => rfl)) (pv 7) set_list))
      (pss_one (ps_augS (pv 3) (pv 7) get_list pe_int ip_sub set_list)))))))
      (pss_cons (ps_if (pt_val (pe_call G_is_grid (hr.mono (by decide)) (by rfl) m_is_grid k_is_grid b_is_grid .nil pass0 (pa_cons (pv 0) (pa_cons (pv 1) (pa_cons (pv 2) pa_nil))))) (pss_one (ps_ret (pe_make MB GB (hr.mono (by decide)) (by rfl) cB.g bB .nil pass0 (pa_cons (pv 2) pa_nil)))) pss_nil)
      (pss_cons (ps_set (i := 8) scZeroOne.nd rfl (by first | exact Or.inl rfl | exact Or.inr rfl) (pe_sortLam (T := TZ Pt) (xi := 0) TB rfl (List.mem_singleton.mpr rfl) (fun p hp _ => by rw [List.mem_singleton.mp hp]; rfl) (by rfl) B.sorted (pa_cons (pe_callTy cr_range1 (by rfl) B.range (by decide +kernel) (pa_cons (pe_callB call_len_seq (by rfl) B.len PySem.boot_len (pa_cons (pv 0) pa_nil)) pa_nil)) pa_nil) rfl rfl ⟨rfl, rfl, rfl, rfl, rfl, by decide +kernel⟩ (by decide +kernel) rfl (fun _ _ _ _ _ _ _ => rfl) rfl hr.depth (by decide) (by decide) rfl rfl rfl rfl rfl))
      (pss_cons (ps_for PassesOwn.never rfl (pi_range2 (by rfl) B.range (pa_cons pe_int (pa_cons (pe_op op_add (pe_callB call_len_seq (by rfl) B.len PySem.boot_len (pa_cons (pv 0) pa_nil)) pe_int) pa_nil))) (pg_name (i := 9) scZeroOne.nd rfl (by first | exact Or.inl rfl | exact Or.inr rfl)) (pss_cons (ps_set (i := 10) scZeroOne.nd rfl (by first | exact Or.inl rfl | exact Or.inr rfl) (pe_callTy call_tuple_of (by rfl) B.tuple (by decide +kernel) (pa_cons (pe_callB cr_sorted (by rfl) B.sorted (by decide +kernel) (pa_cons (pe_slice sl_list (pv 8) po_none (po_some (pv 9))) pa_nil)) pa_nil)))
      (pss_one (ps_if (pt_val (pe_meth (pe_make MK GK (hr.mono (by decide)) (by rfl) cK.g bK .nil pass0 (pa_cons (pv 10) pa_nil)) cK.cl HmK GS (hr.mono (by decide)) bS .nil pass0 (pa_cons (pv 0) (pa_cons (pv 1) pa_nil)))) (pss_one (ps_ret (pe_make MK GK (hr.mono (by decide)) (by rfl) cK.g bK .nil pass0 (pa_cons (pv 10) pa_nil)))) pss_nil))))
      (pss_one (ps_ret (pe_make MK GK (hr.mono (by decide)) (by rfl) cK.g bK .nil pass0 (pa_cons (pe_tup pa_nil) pa_nil))))))))))).nox, ?_⟩
  have h4 := t.1.2.1
  have hn := t.2.1.2.1
  have s0 := sd_start (N := ["rows", "columns", "grid", "left", "row", "one", "fullest", "other", "order", "size", "some"]) hv (by show 2 ≤ 11; decide)
  generalize start ["rows", "columns", "grid", "left", "row", "one", "fullest", "other", "order", "size", "some"] vs = σ at s0 ⊢
  refine tSeq_at (tDrop_at ?_)
  refine (show Ed K _ _ (.d .none) from ed_call (ea_cons (ed_var rfl) (ea_cons (ed_var rfl) ea_nil)) (pd_of ⟨⟨rows, cols, rfl, t⟩, rfl⟩)) NF _ H Dom.nil s0 _ fun v0 H1 e1 _ => ?_
  have s1 := sd_same (mk_same e1) s0
  refine nx_of (tSeq_at (tAsg_at (tTup_at (tCons_at ?_))))
  refine zeros_at (F := NF) Dom.nil s1 rfl rfl (by decide) (by omega) (by omega) fun a bs H2 e2 ha hbl hnd hab hbs haN hbN => ?_
  obtain ⟨cv, hcv, hcv2⟩ := s1.2 1 (sT cols) rfl
  obtain ⟨ac, rfl, hcq⟩ := dp_T hcv2
  refine tCons_at (tCB_at (tCons_at (tVar_at hcv ⟨ac, _, rfl, .inr (same_t e2 (same_t mk_le hcq)), fun c0 hcN => ?_⟩)))
  refine ⟨sz 2 (by decide), fun p hp => ⟨p, _, rfl, .inl (.inl upd_same), rfl, _, _, rfl, _, _, rfl, rfl, nx_of (tSeq_at ?_)⟩⟩
  have back : ∀ x, H2 x = none → H1 x = none := fun x hx => by
    cases e : H1 x with
    | none => rfl
    | some o => rw [e2 _ _ e] at hx; cases hx
  have back1 : ∀ x, H1 x = none → H x = none := fun x hx => by
    cases e : H x with
    | none => rfl
    | some o => rw [e1 _ _ e] at hx; cases hx
  have hGM : ∀ x, GM a c0 bs x → H1 x = none := fun x hx => by
    rcases hx with rfl | rfl | hx
    · exact haN
    · exact back _ hcN
    · exact hbN x hx
  have hGM0 : ∀ x, GM a c0 bs x → H x = none := fun x hx => back1 x (hGM x hx)
  have gl := gl_start (F := NF) (n := cols.length) (l := cols) Dom.nil ha hbl hnd hab hbs (fun z => z) (fun b hb z => z) hcN
  have eS : Same H1 (upd (upd H2 c0 (.lst (cols.map V.int))) p (.tup [V.ref a, V.ref c0])) := (e2.trans (same_upd hcN)).trans (same_upd hp)
  have hT3 := (hT.ext e1).ext eS
  have S0 : SG K NF [some (sT rows), some (sT cols), none, none, none, none, none, none, none, none, none] 2 3 a c0 bs (zeroG rows.length cols.length) cols ((σ.set 2 (some (V.ref a))).set 3 (some (V.ref c0))) (upd (upd H2 c0 (.lst (cols.map V.int))) p (.tup [V.ref a, V.ref c0])) :=
    ⟨gl.same (same_upd hp), Dom.nil, sd_any (i := 3) (sd_any (i := 2) (sd_same (same_fm (F := NF) hGM eS) s1)), by rw [List.getElem?_set_ne (by decide)]; exact List.getElem?_set_self (by rw [s1.1]; show 2 < 11; decide), List.getElem?_set_self (by rw [List.length_set, s1.1]; show 3 < 11; decide)⟩
  have ext3 : LamX.ExtN H (upd (upd H2 c0 (.lst (cols.map V.int))) p (.tup [V.ref a, V.ref c0])) := LamX.ExtN.of (e1.trans eS)
  obtain ⟨rv, hrv, hrv2⟩ := S0.sd.2 0 (sT rows) rfl
  obtain ⟨ar, rfl, hrq⟩ := dp_T hrv2
  refine tForS_at ?_
  refine sortLam_at (F0 := NF) (xs := rows) Dom.nil S0.view rfl hrv (.inr (same_t mk_le hrq)) rfl (by omega) hT3 fun H4 order p0 e4 hT4 hord hp0 => ?_
  have S1 := (S0.ext e4).same (same_upd (o := .lst (order.map V.int)) hp0)
  have hp0G : ¬ GM a c0 bs p0 := fun z => by
    obtain ⟨xs, hx⟩ := (S0.ext e4).lsts p0 z
    rw [hp0] at hx; cases hx
  refine ⟨p0, rfl, .inl ⟨⟨_, .inl (.inl upd_same)⟩, ?_⟩⟩
  refine forL_at (K := K) (xs := order.map V.int) (fun i σ' H' => ∃ g l, ZI rows cols order i g l ∧ SG K NF [some (sT rows), some (sT cols), none, none, none, none, none, none, none, none, none] 2 3 a c0 bs g l σ' H' ∧ H' p0 = some (.lst (order.map V.int)) ∧ LamX.Tabs (TZ Pt) H' ∧ LamX.ExtN H H')
    ⟨_, _, zi_start, S1, upd_same, hT4.ext (same_upd hp0), (ext3.trans e4).trans (.of (same_upd hp0))⟩ (fun i σ' H' ⟨g, l, _, _, h, _⟩ => .inl (.inl h)) ?_ ?_
  · rintro i v σ1 H5 hi ⟨g, l, z, S2, hq0, hT5, ext5⟩
    rw [List.getElem?_map] at hi
    obtain ⟨one, hone, rfl⟩ := Option.map_eq_some_iff.mp hi
    have h1 := (ord_mem hord one).mp (List.mem_of_getElem? hone)
    have hr0 : 0 ≤ la rows one := (t.1.2.2 _ (getD_mem0 (show one.toNat < rows.length by omega))).1
    have S3 := S2.int (j := 5) (i := one) (by decide) (by decide)
    refine gName_at (tSeq_at (tAsg_at (tSl_at ?_)))
    refine sortLam_at (F0 := NF) (xs := l) (ys := cols) Dom.nil S3.view rfl S3.sl (.inl (.inl (.inl S3.gl.hc))) z.ll (by rw [z.ll]; omega) hT5 fun H6 ps p1 e6 hT6 hfall hp1 => ?_
    have S4 := (S3.ext e6).same (same_upd (o := .lst (ps.map V.int)) hp1)
    refine tNoPart_at (tPart_at ?_)
    refine (show Ed K _ _ (sI (la rows one)) from ed_op (ed_var rfl) (ed_var rfl) (od_ixI (.inr rfl) h1.1 (la_at h1.1 h1.2))) NF _ _ Dom.nil S4.view _ fun rv' H7 e7 hrv' => ?_
    cases hrv'
    refine ⟨_, rfl, p1, _, rfl, .inl (.inl (e7 _ _ upd_same)), fun p2 hp2 => ?_⟩
    rw [cutV_to hr0, ← List.map_take]
    refine gName_at (nx_of ?_)
    have S5 := ((S4.same e7).same (same_upd (o := .lst ((ps.take (la rows one).toNat).map V.int)) hp2)).any (j := 6) (v := V.ref p2) (by decide) (by decide)
    have hq67 : upd H6 p1 (.lst (ps.map V.int)) p0 = some (.lst (order.map V.int)) := same_upd hp1 _ _ (e6 _ _ hq0 (by intro ps z; cases z))
    have hq0' : upd H7 p2 (.lst ((ps.take (la rows one).toNat).map V.int)) p0 = some (.lst (order.map V.int)) := same_upd hp2 _ _ (e7 _ _ hq67)
    have hT7 := (((hT6.ext (same_upd (o := .lst (ps.map V.int)) hp1)).ext e7).ext (same_upd (o := .lst ((ps.take (la rows one).toNat).map V.int)) hp2))
    have ext7 : LamX.ExtN H (upd H7 p2 (.lst ((ps.take (la rows one).toNat).map V.int))) := (ext5.trans e6).trans (.of (((same_upd hp1).trans e7).trans (same_upd hp2)))
    have hp2G : ¬ GM a c0 bs p2 := fun zz => by
      obtain ⟨xs, hx⟩ := (S4.same e7).lsts p2 zz
      rw [hp2] at hx; cases hx
    have hFr : ∀ x ∈ ps.take (la rows one).toNat, 0 ≤ x ∧ x < (l.length : Int) := fun x hx => (ord_mem hfall x).mp (List.mem_of_mem_take hx)
    have g6 : (((σ1.set 5 (some (V.int one))).set 6 (some (V.ref p2))))[6]? = some (some (V.ref p2)) := List.getElem?_set_self (by
      have := S3.sd.1
      rw [this]; show 6 < 11; decide)
    refine tForS_at (tVar_at g6 ⟨p2, rfl, .inl ⟨⟨_, .inl (.inl upd_same)⟩, ?_⟩⟩)
    refine forL_at (K := K) (xs := (ps.take (la rows one).toNat).map V.int) (fun j σ' H' => SG K NF [some (sT rows), some (sT cols), none, none, none, some (sI one), none, none, none, none, none] 2 3 a c0 bs (zRow one ((ps.take (la rows one).toNat).take j) (g, l)).1 (zRow one ((ps.take (la rows one).toNat).take j) (g, l)).2 σ' H' ∧
        H' p2 = some (.lst ((ps.take (la rows one).toNat).map V.int)) ∧ H' p0 = some (.lst (order.map V.int)) ∧ LamX.Tabs (TZ Pt) H' ∧ LamX.ExtN H H')
      ⟨S5, upd_same, hq0', hT7, ext7⟩ (fun i σ' H' ⟨_, h, _⟩ => .inl (.inl h)) ?_ ?_
    · rintro j v' σ2 H8 hj ⟨S6, hq2, hq3, hT8, ext8⟩
      rw [List.getElem?_map] at hj
      obtain ⟨oth, hoth, rfl⟩ := Option.map_eq_some_iff.mp hj
      have h2 := hFr oth (List.mem_of_getElem? hoth)
      have S7 := S6.int (j := 7) (i := oth) (by decide) (by decide)
      have hlen : (zRow one ((ps.take (la rows one).toNat).take j) (g, l)).2.length = l.length := by rw [zRow_snd]; exact dec_len _ _
      have hgl : one.toNat < g.length := by rw [z.shp.1]; omega
      have hsh : Shp rows.length cols.length (zRow one ((ps.take (la rows one).toNat).take j) (g, l)).1 := by
        rw [zRow_fst one _ (g, l) hgl]
        refine ⟨by rw [List.length_set]; exact z.shp.1, fun k hk => ?_⟩
        show ((g.set one.toNat _).getD k []).length = _
        rw [List.getD_eq_getElem?_getD]
        by_cases e : one.toNat = k
        · subst e
          rw [List.getElem?_set_self hgl]
          show (ones _ _).length = _
          rw [ones_len]; exact z.shp.2 _ hk
        · rw [List.getElem?_set_ne e, ← List.getD_eq_getElem?_getD]; exact z.shp.2 k hk
      refine gName_at (tSeq_at (gset_at S7 (oi := 5) (ji := 7) (x := 1) rfl rfl h1.1 (by rw [hsh.1]; exact h1.2) h2.1 (by rw [hsh.2 _ (by omega), ← z.ll]; exact h2.2) ed_int fun H9 S8 b9 => nx_of ?_))
      refine laug_at S8 (ji := 7) (x := 1) rfl h2.1 (by rw [hlen]; exact h2.2) ed_int fun H10 S9 b10 => ?_
      have hb := b9.trans b10
      have hL := S7.lsts
      have ez : zRow one ((ps.take (la rows one).toNat).take (j + 1)) (g, l) = zIn one (zRow one ((ps.take (la rows one).toNat).take j) (g, l)) oth := by
        rw [take_snoc hoth]
        unfold zRow
        rw [List.foldl_append]; rfl
      refine nx_of (show SG K NF [some (sT rows), some (sT cols), none, none, none, some (sI one), none, none, none, none, none] 2 3 a c0 bs (zRow one ((ps.take (la rows one).toNat).take (j + 1)) (g, l)).1 (zRow one ((ps.take (la rows one).toNat).take (j + 1)) (g, l)).2 _ H10 ∧ _ from ?_)
      rw [ez]
      exact ⟨S9.le (le_some (le_some (le_some (le_some (le_some (le_some (le_some (le_none (le_some (le_some (le_some le_nil))))))))))), hb _ _ hp2G hq2, hb _ _ hp0G hq3, tabs_but hL hb hT8, extN_but hGM0 ext8 hb⟩
    · rintro σ2 H8 ⟨S6, hq2, hq3, hT8, ext8⟩
      rw [List.length_map, List.take_length] at S6
      exact nx_of ⟨_, _, zi_step z hord hone hfall, S6.le (le_some (le_some (le_some (le_some (le_some (le_none (le_some (le_some (le_some (le_some (le_some le_nil))))))))))), hq3, hT8, ext8⟩
  · rintro σ1 H5 ⟨g, l, z, S2, hq0, hT5, ext5⟩
    rw [List.length_map] at z
    obtain ⟨hrect, hlt2⟩ := zi_rect z
    refine nx_of (tIf_at (tB_at ?_))
    refine (show Ed K _ _ (sB (gridB rows cols g)) from ed_call (ea_cons (ed_var rfl) (ea_cons (ed_var rfl) (ea_cons (ed_var rfl) ea_nil))) (pd_of ⟨rows, cols, _, g, rfl, t, gsLL g, hrect, rfl⟩)) NF _ H5 Dom.nil S2.view _ fun bv H6 e6 hbv => ?_
    cases hbv
    have S3 := S2.same e6
    have hT6 := hT5.ext e6
    have ext6 := ext5.trans (.of e6)
    refine ⟨_, rfl, ?_⟩
    cases hgb : gridB rows cols g with
    | true =>
      refine if_t (tRet_at ?_)
      exact (show Ed K _ _ (oB CB g) from ed_make (ea_cons (ed_var rfl) ea_nil) ⟨_, g, rfl, gsLL g, by show g.length ≤ 1000; rw [hrect.1]; omega, rfl⟩ rfl) NF _ H6 Dom.nil S3.view _ fun v H7 e7 hv7 => q v H7 _ (.inl ⟨g, rfl, ⟨hrect, hgb⟩, hlt2⟩) (ext6.trans (.of e7)) (hT6.ext e7) hv7
    | false =>
      refine if_f (tNext_of (tSeq_at (tAsg_at ?_)))
      obtain ⟨rv, hrv, hrv2⟩ := S3.sd.2 0 (sT rows) rfl
      obtain ⟨ar, rfl, hrq⟩ := dp_T hrv2
      refine sortLam_at (F0 := NF) (xs := rows) Dom.nil S3.view rfl hrv (.inr (same_t mk_le hrq)) rfl (by omega) hT6 fun H7 o2 p8 e7 hT7 hord2 hp8 => ?_
      have u8 := same_upd (o := .lst (o2.map V.int)) hp8
      have s7 := sd_ext (mk_ext (F := NF) (e7.trans (.of u8))) (sd_same fm_sub S3.sd)
      have s8 := sd_set (i := 8) (v := V.ref p8) (x := sL o2) s7 (new_lst Dom.nil hp8 (dpAll_ofInts o2))
      have hT8 := hT7.ext u8
      have ext8 := (ext6.trans e7).trans (.of u8)
      refine gName_at (nx_of (tSeq_at ?_))
      have hwd : Wd K (iRng2 (tCons (tC (V.int 1)) (tCons (tOp (rI0 fun i j => V.int (i + j)) (tCB (rLen K) (tCons (tVar 0) tNil)) (tC (V.int 1))) tNil))) [some (sT rows), some (sT cols), none, none, none, none, none, none, some (sL o2), none, none] ((List.range rows.length).map fun (i : Nat) => PyData.int (1 + (i : Int))) := by
        have h := wd_rng2 (K := K) (δ := [some (sT rows), some (sT cols), none, none, none, none, none, none, some (sL o2), none, none]) (ea_cons ed_int (ea_cons (ed_op (ed_len (ed_var (i := 0) rfl) (.inr rfl)) ed_int od_I0) ea_nil) : Ea K (tCons (tC (V.int 1)) (tCons (tOp (rI0 fun i j => V.int (i + j)) (tCB (rLen K) (tCons (tVar 0) tNil)) (tC (V.int 1))) tNil)) _ [sI 1, sI ((rows.length : Int) + 1)]) (by omega) (by omega) (by omega) (by omega)
        rw [show ((rows.length : Int) + 1 - 1).toNat = rows.length by omega] at h
        exact h
      refine for_at (F := NF) (δ := [some (sT rows), some (sT cols), none, none, none, none, none, none, some (sL o2), none, none]) (enc := fun i : Nat => PyData.int (1 + (i : Int))) (ds := List.range rows.length) hwd Dom.nil s8 fun H8 e8 => ?_
      refine ⟨fun i σ' H' => Sd K (mk NF H') σ' [some (sT rows), some (sT cols), none, none, none, none, none, none, some (sL o2), none, none] ∧ LamX.Tabs (TZ Pt) H' ∧ LamX.ExtN H H' ∧ Same H8 H' ∧ ∀ k : Nat, 1 ≤ k → k ≤ i → ¬ (cols.map fun c => min c (k : Int)).sum < ((o2.take k).map (la rows)).sum,
        ⟨sd_same (mk_same e8) s8, hT8.ext e8, ext8.trans (.of e8), Same.refl _, fun k h1 h2 => by omega⟩, fun i σ' H' h => ⟨Dom.nil, mk_same h.2.2.2.1⟩, ?_, ?_⟩
      · rintro i k σ2 H9 v9 H10 hik ⟨s9, hT9, ext9, eq9, hno⟩ e10 hv9
        obtain ⟨hil, rfl⟩ := List.getElem?_eq_some_iff.mp hik
        rw [List.length_range] at hil
        rw [List.getElem_range] at hv9
        have s10 := sd_set (i := 9) (x := sI (1 + (i : Int))) (sd_same (mk_same e10) s9) hv9
        have ei : (1 : Int) + (i : Int) = ((i + 1 : Nat) : Int) := by omega
        refine gName_at (tSeq_at (tAsg_at (tCB_at (tCons_at (tCB_at (tCons_at ?_))))))
        refine (show Ed K _ _ (sL (o2.take (i + 1))) from ed_is (ed_slL (ed_var rfl) eo_none (eo_some (ed_var rfl))) (by rw [ei, cutD_to, dIs, ← List.map_take])) NF _ H10 Dom.nil s10 _ fun xv H11 e11 hxv => ?_
        obtain ⟨xa, xs', rfl, hxq, hxd⟩ := dp_lst hxv
        obtain rfl := dpAll_ints hxd
        have hl2 := ord_len hord2
        refine ⟨xa, o2.take (i + 1), rfl, (mk_le).seq hxq, by rw [List.length_take]; omega, fun so p11 hperm hpw hp11 => ?_⟩
        refine ⟨p11, _, rfl, .inl ⟨.inl (.inl upd_same), fun p12 hp12 => ?_⟩⟩
        have e12 : Same H10 (upd (upd H11 p11 (.lst (so.map V.int))) p12 (.tup (so.map V.int))) := (e11.trans (same_upd hp11)).trans (same_upd hp12)
        have s12 := sd_set (i := 10) (v := V.ref p12) (x := sT so) (sd_same (mk_same e12) s10) (new_tup Dom.nil hp12 (dpAll_ofInts so))
        have hlin := lines_of hord2 (by omega) hperm hpw
        have hbl := blockB_of (cols := cols) hord2 (show i + 1 ≤ rows.length by omega) hperm
        refine gName_at (nx_of (tIf_at1 (tB_at ?_)))
        refine (show Ed K _ _ (sB (blockB rows cols so)) from ed_meth (ed_make (ea_cons (ed_var rfl) ea_nil) ⟨so, rfl, rfl⟩ rfl) (look1n (by decide)) (ea_cons (ed_var rfl) (ea_cons (ed_var rfl) ea_nil)) (pd_of ⟨so, rows, cols, rfl, t, hlin, rfl⟩)) NF _ _ Dom.nil s12 _ fun bv H13 e13 hbv => ?_
        cases hbv
        have eA : Same H9 H13 := e10.trans (e12.trans e13)
        refine ⟨_, rfl, ?_⟩
        cases hb : blockB rows cols so with
        | true =>
          refine if_t (tRet_at ?_)
          exact (show Ed K _ _ (oK CK so) from ed_make (ea_cons (ed_var rfl) ea_nil) ⟨so, rfl, rfl⟩ rfl) NF _ H13 Dom.nil (sd_same (mk_same e13) s12) _ fun v H14 e14 hv14 => q v H14 _ (.inr ⟨so, rfl, hlin, hb⟩) (ext9.trans (.of (eA.trans e14))) (hT9.ext (eA.trans e14)) hv14
        | false =>
          rw [hb] at hbl
          refine if_f (tNext_of ⟨sd_le (le_some (le_some (le_some (le_some (le_some (le_some (le_some (le_some (le_some (le_none (le_none le_nil))))))))))) (sd_same (mk_same e13) s12), hT9.ext eA, ext9.trans (.of eA), eq9.trans eA, fun k h1 h2 => ?_⟩)
          by_cases hk : k = i + 1
          · subst hk
            exact of_decide_eq_false hbl.symm
          · exact hno k h1 (by omega)
      · rintro σ2 H9 ⟨s9, hT9, ext9, eq9, hno⟩
        exfalso
        obtain ⟨k, h1, h2, h3⟩ := blocked t z hord hord2 hgb
        exact hno k h1 (by rw [List.length_range]; exact h2) h3
end
end G29
end L2
set_option Elab.async false
set_option linter.all false
set_option maxRecDepth 100000
set_option maxHeartbeats 4000000
namespace L2
namespace G29
open PySem PySem.Spec PyProof.Rows
abbrev sLawCountRight : Stmt := topS 35
abbrev sLawIndexRight : Stmt := topS 36
abbrev sLawBitsRight : Stmt := topS 37

theorem isG_of_grid {rows cols : List Int} {g : List (List Int)} (h : Grid rows cols g) : Gm.IsG rows cols g := by
  obtain ⟨⟨h1, h2⟩, h3⟩ := h
  unfold gridB at h3
  rw [Bool.and_eq_true] at h3
  exact ⟨h1, fun r hr => ⟨(h2 r hr).1, fun x hx => ((h2 r hr).2 x hx).1⟩, of_decide_eq_true h3.1, of_decide_eq_true h3.2⟩
theorem grid_of_isG {rows cols : List Int} {g : List (List Int)} (t : Tots rows cols) (q : Gm.IsG rows cols g) : Grid rows cols g := by
  refine ⟨⟨q.len, fun r hr => ⟨(q.row r hr).1, fun x hx => ⟨(q.row r hr).2 x hx, ?_⟩⟩⟩, ?_⟩
  · have h1 := Gm.NN.le_sum (q.row r hr).2 hx
    have h2 : r.sum ∈ rows := by rw [← q.rs]; exact List.mem_map.mpr ⟨r, hr, rfl⟩
    have h3 := (t.1.2.2 _ h2).2
    exact Int.le_trans h1 h3
  · unfold gridB
    rw [decide_eq_true q.rs, decide_eq_true q.cs]; rfl
theorem tots_swap {rows cols : List Int} (t : Tots rows cols) : Tots cols rows := ⟨t.2.1, t.1, t.2.2.symm⟩
theorem tots_rev {rows cols : List Int} (t : Tots rows cols) : Tots rows.reverse cols := ⟨⟨by rw [List.length_reverse]; exact t.1.1, by rw [List.length_reverse]; exact t.1.2.1, fun n hn => t.1.2.2 n (List.mem_reverse.mp hn)⟩, t.2.1, (sum_perm (List.reverse_perm rows)).trans t.2.2⟩
theorem tots_tail {r : Int} {rs cols row : List Int} (t : Tots (r :: rs) cols) (h : 1 ≤ rs.length) (hr : row ∈ Gm.wr r cols) : Tots rs (Gm.sub cols row) := by
  obtain ⟨hf, hs⟩ := Gm.mem_wr.mp hr
  refine ⟨⟨h, by have := t.1.2.1; rw [List.length_cons] at this; omega, fun n hn => t.1.2.2 n (List.mem_cons_of_mem _ hn)⟩, ⟨by rw [hf.sub_len]; exact t.2.1.1, by rw [hf.sub_len]; exact t.2.1.2.1, fun n hn => ⟨hf.sub_nn n hn, hf.sub_le (fun c hc => (t.2.1.2.2 c hc).2) n hn⟩⟩, ?_⟩
  rw [hf.sub_sum, hs, ← t.2.2, List.sum_cons]; omega
theorem tots_nnr {rows cols : List Int} (t : Tots rows cols) : Gm.NN rows := fun x hx => (t.1.2.2 x hx).1
theorem tots_nnc {rows cols : List Int} (t : Tots rows cols) : Gm.NN cols := fun x hx => (t.2.1.2.2 x hx).1
/-- a block leaves no grid of ones -/
theorem no_ones {rows cols so : List Int} {g : List (List Int)} (t : Tots rows cols) (ls : Lines so rows.length) (hb : blockB rows cols so = true) (q : Gm.IsG rows cols g) (hg : ∀ r ∈ g, ∀ c ∈ r, c < 2) : False := by
  have hsn : so.Nodup := by
    rw [List.nodup_iff_pairwise_ne]
    exact ls.2.1.imp fun h => by omega
  have hlt := of_decide_eq_true hb
  have hrow : ∀ k, k < rows.length → (g.getD k []).length = cols.length ∧ (∀ x ∈ g.getD k [], 0 ≤ x ∧ x < 2) ∧ (g.getD k []).sum = rows.getD k 0 := fun k hk => by
    have hkg : k < g.length := by rw [q.len]; exact hk
    have hm := getD_mem hkg
    refine ⟨(q.row _ hm).1, fun x hx => ⟨(q.row _ hm).2 x hx, hg _ hm x hx⟩, ?_⟩
    have h := q.rs
    rw [← h, Gm.map_getD hkg, List.getD_eq_getElem?_getD, List.getElem?_eq_getElem hkg]; rfl
  have hcell : ∀ k b : Nat, 0 ≤ (g.getD k []).getD b 0 ∧ (g.getD k []).getD b 0 ≤ 1 := fun k b => by
    by_cases hk : k < rows.length
    · by_cases hbb : b < (g.getD k []).length
      · have := (hrow k hk).2.1 _ (getD_mem0 hbb); omega
      · rw [List.getD_eq_getElem?_getD, List.getElem?_eq_none (by omega)]; exact ⟨Int.le_refl _, by show (0 : Int) ≤ 1; decide⟩
    · rw [List.getD_eq_getElem?_getD (l := g), List.getElem?_eq_none (by rw [q.len]; omega)]; exact ⟨Int.le_refl _, by show (0 : Int) ≤ 1; decide⟩
  have hall : AllOf cols.length ((List.range cols.length).map fun (i : Nat) => (i : Int)) := List.Perm.refl _
  have e1 : (so.map (la rows)).sum = (so.map fun i => (((List.range cols.length).map fun (i : Nat) => (i : Int)).map fun j => ga g i j).sum).sum := map_sum_eq fun i hi => by
    have h := hrow i.toNat (by have := ls.1 i hi; omega)
    show rows.getD i.toNat 0 = _
    rw [← h.2.2, S_sum, h.1, List.map_map]
    unfold S
    congr 1
  have e2 : (cols.map fun c => min c (so.length : Int)).sum = (((List.range cols.length).map fun (i : Nat) => (i : Int)).map fun j => min (la cols j) (so.length : Int)).sum := by
    have h := range_la cols
    have : cols.map (fun c => min c (so.length : Int)) = (((List.range cols.length).map fun (i : Nat) => (i : Int)).map (la cols)).map fun c => min c (so.length : Int) := by rw [h]
    rw [this, List.map_map]; rfl
  rw [e1, e2, swap_sum] at hlt
  have hle : (((List.range cols.length).map fun (i : Nat) => (i : Int)).map fun j => (so.map fun i => ga g i j).sum).sum ≤ (((List.range cols.length).map fun (i : Nat) => (i : Int)).map fun j => min (la cols j) (so.length : Int)).sum := map_sum_le fun j hj => by
    have hj' := (all_mem hall j).mp hj
    have a1 : (so.map fun i => ga g i j).sum ≤ la cols j := by
      have e : (so.map fun i => ga g i j).sum = S rows.length fun k => if (k : Int) ∈ so then (g.getD k []).getD j.toNat 0 else 0 := (S_map (f := fun k => (g.getD k []).getD j.toNat 0) hsn ls.1).symm
      have e2 : la cols j = S rows.length fun k => (g.getD k []).getD j.toNat 0 := by
        rw [← q.len, ← colsum_S]
        rw [show la cols j = cols.getD j.toNat 0 from rfl, ← Gm.colsums_getD (g := g) (n := cols.length) (by omega), q.cs]
      rw [e, e2]
      refine S_le fun k hk => ?_
      split
      · exact Int.le_refl _
      · exact (hcell _ _).1
    have a2 : (so.map fun i => ga g i j).sum ≤ (so.length : Int) := by
      have h := sum_le_mul (m := 1) (by decide) (xs := so.map fun i => ga g i j) (k := so.length) (fun x hx => by
        obtain ⟨i, _, rfl⟩ := List.mem_map.mp hx
        exact (hcell _ _).2) (by rw [List.length_map]; exact Nat.le_refl _)
      omega
    omega
  omega
/-- the greatest cell -/
def maxG (g : List (List Int)) : Int := maxL (g.map maxL)
theorem maxG_lt {rows cols : List Int} {g : List (List Int)} (t : Tots rows cols) (q : Gm.IsG rows cols g) : decide (maxG g < 2) = true ↔ ∀ r ∈ g, ∀ c ∈ r, c < 2 := by
  have hg0 : g ≠ [] := fun z => by
    have := q.len
    rw [z] at this
    have h1 := t.1.1
    have : rows.length = 0 := this.symm
    omega
  have hm := maxL_is (l := g.map maxL) (fun z => hg0 (List.map_eq_nil_iff.mp z))
  have hr0 : ∀ r ∈ g, r ≠ [] := fun r hr z => by
    have := (q.row r hr).1
    rw [z] at this
    have h1 := t.2.1.1
    have : cols.length = 0 := this.symm
    omega
  constructor
  · intro h r hr c hc
    have h1 := of_decide_eq_true h
    have h2 := hm.2 _ (List.mem_map.mpr ⟨r, hr, rfl⟩)
    have h3 := (maxL_is (hr0 r hr)).2 c hc
    unfold maxG at h1
    omega
  · intro h
    refine decide_eq_true ?_
    obtain ⟨r, hr, e⟩ := List.mem_map.mp hm.1
    unfold maxG
    rw [← e]
    exact h r hr _ (maxL_is (hr0 r hr)).1
def rLawCountRight : List Sl → Sl → Prop := fun ds x => ∃ rows cols : List Int, ds = [sT rows, sT cols] ∧ Tots rows cols ∧ x = sB true
def rLawIndexRight : List Sl → Sl → Prop := fun ds x => ∃ (rows cols : List Int) (k : Nat), ds = [sT rows, sT cols, sI (k : Int)] ∧ Tots rows cols ∧ k < (Gm.mats rows cols).length ∧ x = sB true
def spBits (K : PySem.W.Frag) (Pt : Addr) : Sp := fun vs H Q _ => ∃ (rows cols : List Int) (gx : PyData) (g : List (List Int)), SvAll K (mk NF H) vs [sT rows, sT cols, .d gx] ∧ Tots rows cols ∧ GS gx g ∧ Gm.IsG rows cols g ∧ LamX.Tabs (TZ Pt) H ∧ ∀ H', LamX.ExtN H H' → LamX.Tabs (TZ Pt) H' → Q (.bl true) H'
/-- what isinstance tells of the two classes -/
structure Kit2 (K : PySem.W.Frag) (CB CK : Addr) : Prop where
  bk : PySem.W.kitOne K (.ref CB) (.ref CK) = some false
  kk : PySem.W.kitOne K (.ref CK) (.ref CK) = some true
  bb : PySem.W.kitOne K (.ref CB) (.ref CB) = some true
  kb : PySem.W.kitOne K (.ref CK) (.ref CB) = some false
theorem pe_or2 {X : Cx} {e : Expr} {ta tb : TE} (ha : PE X e ta) (hb : PE X e tb) : PE X e (fun σ H Q => ta σ H Q ∨ tb σ H Q) := ⟨fun pins s σ H Q I h => h.elim (ha.run pins s σ H Q I) (hb.run pins s σ H Q I)⟩
theorem ed_l {K : PySem.W.Frag} {δ : De} {x : Sl} {ta tb : TE} (h : Ed K ta δ x) : Ed K (fun σ H Q => ta σ H Q ∨ tb σ H Q) δ x := fun F σ H d s Q q => .inl (h F σ H d s Q q)
theorem ed_r {K : PySem.W.Frag} {δ : De} {x : Sl} {ta tb : TE} (h : Ed K tb δ x) : Ed K (fun σ H Q => ta σ H Q ∨ tb σ H Q) δ x := fun F σ H d s Q q => .inr (h F σ H d s Q q)
theorem ed_maxG {K : PySem.W.Frag} {δ : De} {gx : PyData} {g : List (List Int)} {ri : Nat} {vs : List Nat} {tl : TE} {rows cols : List Int} (t : Tots rows cols) (q : Gm.IsG rows cols g) (hg : GS gx g) (hl : Ed K tl δ (.d gx)) (hri : ri ∈ vs) (hd : ∀ x, ((wipeD δ vs).set ri (some x))[ri]? = some (some x)) :
    Ed K (tCB (rMaxA K) (tCons (tLc (iSeq K tl) (gName ri) tYes (tCB (rMaxA K) (tCons (tVar ri) tNil)) vs) tNil)) δ (sI (maxG g)) := by
  obtain ⟨R, hR, hs⟩ := hg
  have hr0 : ∀ r ∈ g, r ≠ [] := fun r hr z => by
    have := (q.row r hr).1
    rw [z] at this
    have h1 := t.2.1.1
    have : cols.length = 0 := this.symm
    omega
  have hg0 : g ≠ [] := fun z => by
    have := q.len
    rw [z] at this
    have h1 := t.1.1
    have : rows.length = 0 := this.symm
    omega
  have h4 := t.1.2.1
  have hl' := q.len
  exact ed_cb (ea_cons (ed_is (ed_lcm (enc := R) (ds := g) (fun r => .int (maxL r)) (wd_seq hl hs) (by omega) (js := [ri]) (fun i hi => by rw [List.mem_singleton.mp hi]; exact hri) fun r hr => ⟨_, gd_name, ed_cb (ea_cons (ed_var (hd _)) ea_nil) (cd_max (rowS hR r) (maxL_is (hr0 r hr)))⟩) (congrArg (fun z => Sl.d (.list z)) (ints_map (f := maxL)))) ea_nil) (cd_max (.inl rfl) (maxL_is fun z => hg0 (List.map_eq_nil_iff.mp z)))
section
variable {P : Program} {w : World} {K : PySem.W.Frag} {mg : Str → Option Value} {base : Heap}
theorem scLawCountRight : FnScope ["_law_rows", "_law_columns", "_law_whole", "_law_found", "_law_row", "_law_room", "_law_cell"] ["_law_rows", "_law_columns"] (defScope sLawCountRight) := ⟨rfl, rfl, rfl, by decide +kernel, rfl, by decide +kernel, by decide +kernel⟩
abbrev HLawCountRight (P : Program) (w : World) (K : PySem.W.Frag) (mg : Str → Option Value) (base : Heap) : Prop := Has P w K mg base 8 "_law_count_right" ["_law_rows", "_law_columns"] (spD K rLawCountRight)
theorem ok_LawCountRight {f : Addr} {fd : FuncData} (F : Fun K "_law_count_right" "_law_count_right" sLawCountRight f fd) (B : Bl mg) (H_count_grids : HCountGrids P w K mg base) (H__law_firsts : HLawFirsts P w K mg base) : FnOk P w K mg base CX0 8 f fd ["_law_rows", "_law_columns"] (spD K rLawCountRight) := by
  obtain ⟨f_count_grids, fd_count_grids, G_count_grids, m_count_grids, k_count_grids, b_count_grids⟩ := H_count_grids
  obtain ⟨f__law_firsts, fd__law_firsts, G__law_firsts, m__law_firsts, k__law_firsts, b__law_firsts⟩ := H__law_firsts
  refine fnD F scLawCountRight (fun ds x h => ?_) fun cdv A outer s H E hr ds x h => ?_
  · obtain ⟨rows, cols, rfl, t, rfl⟩ := h; rfl
  obtain ⟨rows, cols, rfl, t, rfl⟩ := h
  refine ⟨_, (pss_cons (ps_set (i := 2) scLawCountRight.nd rfl (by first | exact Or.inl rfl | exact Or.inr rfl) (pe_call G_count_grids (hr.mono (by decide)) (by rfl) m_count_grids k_count_grids b_count_grids .nil pass0 (pa_cons (pv 0) (pa_cons (pv 1) pa_nil))))
      (pss_cons (ps_if (PW.pt (pw_or (pt_cmpR op_ne (pe_call G_count_grids (hr.mono (by decide)) (by rfl) m_count_grids k_count_grids b_count_grids .nil pass0 (pa_cons (pv 1) (pa_cons (pv 0) pa_nil))) (pv 2) (nomark _)) (pw_or1 (pt_cmpR op_ne (pe_call G_count_grids (hr.mono (by decide)) (by rfl) m_count_grids k_count_grids b_count_grids .nil pass0 (pa_cons (pe_revT (pv 0)) (pa_cons (pv 1) pa_nil))) (pv 2) (nomark _))))) (pss_one (ps_ret pe_bl)) pss_nil)
      (pss_cons (ps_if (pt_cmpR op_eq (pe_callB call_len_seq (by rfl) B.len PySem.boot_len (pa_cons (pv 0) pa_nil)) pe_int (nomark _)) (pss_one (ps_ret (pe_cmpR op_eq (pv 2) pe_int (nomark _)))) pss_nil)
      (pss_cons (ps_set (i := 3) scLawCountRight.nd rfl (by first | exact Or.inl rfl | exact Or.inr rfl) pe_int)
      (pss_cons (ps_for PassesOwn.never rfl (pi_seq (pe_call G__law_firsts (hr.mono (by decide)) (by rfl) m__law_firsts k__law_firsts b__law_firsts .nil pass0 (pa_cons (pe_ix ix_seq (pv 0) pe_int (fun _ _ => rfl)) (pa_cons (pv 1) pa_nil)))) (pg_name (i := 4) scLawCountRight.nd rfl (by first | exact Or.inl rfl | exact Or.inr rfl)) (pss_one (ps_set (i := 3) scLawCountRight.nd rfl (by first | exact Or.inl rfl | exact Or.inr rfl) (pe_op op_add (pv 3) (pe_call G_count_grids (hr.mono (by decide)) (by rfl) m_count_grids k_count_grids b_count_grids .nil pass0 (pa_cons (pe_slice sl_tupA (pv 0) (po_some pe_int) po_none) (pa_cons (pe_callTy call_tuple_of (by rfl) B.tuple (by decide +kernel) (pa_cons (pe_lc (own := [("_law_room", 5), ("_law_cell", 6)]) (g := (gTup K 2 (gCons (gName 5) (gCons (gName 6) gNil)))) (tt := tYes) (te := (tOp (rI0 fun i j => V.int (i - j)) (tVar 5) (tVar 6))) rfl scLawCountRight.nd (RZ.pi_zipA (by rfl) B.zip (pa_cons (pv 1) (pa_cons (pv 4) pa_nil))) (blkOk_by (by kernel_rfl)) (fun _ _ _ _ _ => (pg_tup rfl (pgs_cons (pg_name (i := 5) scLawCountRight.nd rfl (by first | exact Or.inl rfl | exact Or.inr rfl)) (pgs_cons (pg_name (i := 6) scLawCountRight.nd rfl (by first | exact Or.inl rfl | exact Or.inr rfl)) pgs_nil)))) (fun _ _ _ _ _ => pts_nil) (fun _ _ _ _ _ => (pe_op op_sub (pv 5) (pv 6)))) pa_nil)) pa_nil)))))))
      (pss_one (ps_ret (pe_cmpR op_eq (pv 3) (pv 2) (nomark _))))))))), ?_⟩
  have hw : Ed K (tCall (spD K rCountGrids) [] E0 (tCons (tVar 0) (tCons (tVar 1) tNil))) (startD ["_law_rows", "_law_columns", "_law_whole", "_law_found", "_law_row", "_law_room", "_law_cell"] [sT rows, sT cols]) (sI (Gm.ways rows cols)) := ed_call (ea_cons (ed_var rfl) (ea_cons (ed_var rfl) ea_nil)) (pd_of ⟨rows, cols, rfl, t, rfl⟩)
  refine sr_seq (sn_set hw) (sr_ifs (b := false) (et_is (et_or (b := false) (et_is (et_test (ed_op (ed_call (ea_cons (ed_var rfl) (ea_cons (ed_var rfl) ea_nil)) (pd_of ⟨cols, rows, rfl, tots_swap t, rfl⟩)) (ed_var rfl) od_neI)) (by rw [Gm.ways_trans (tots_nnr t) (tots_nnc t), decide_eq_true rfl]; rfl)) fun _ => et_is (et_test (ed_op (ed_call (ea_cons (ed_is (ed_revT (ed_var rfl)) (congrArg (fun z => Sl.d (.tuple z)) (List.map_reverse.symm))) (ea_cons (ed_var rfl) ea_nil)) (pd_of ⟨rows.reverse, cols, rfl, tots_rev t, rfl⟩)) (ed_var rfl) od_neI)) (by rw [Gm.ways_rev (tots_nnc t), decide_eq_true rfl]; rfl)) rfl) (fun e => by cases e) fun _ => ?_)
  refine sr_ifs (b := decide ((rows.length : Int) = 1)) (et_test (ed_op (ed_len (ed_var rfl) (.inr rfl)) ed_int od_eqI)) (fun e => ?_) fun e => ?_
  · have hl : rows.length = 1 := by have := of_decide_eq_true e; omega
    obtain ⟨r, rfl⟩ := List.length_eq_one_iff.mp hl
    refine sr_ret (ed_is (ed_op (ed_var rfl) ed_int od_eqI) ?_)
    rw [Gm.ways_one (tots_nnc t) (by have := t.2.2; rw [List.sum_cons] at this; rw [← this]; show r = r + 0; omega)]; rfl
  · have hl : rows.length ≠ 1 := by have := of_decide_eq_false e; omega
    cases rows with
    | nil => exact absurd t.1.1 (by decide)
    | cons r rs =>
      have hl1 : 1 ≤ rs.length := by rw [List.length_cons] at hl; omega
      have hr9 := t.1.2.2 r List.mem_cons_self
      refine sr_seq (sn_set ed_int) (sr_seq (sn_forM (α := List Int) (enc := dT) (ds := Gm.wr r cols) (js := [4]) (fun i => [some (sT (r :: rs)), some (sT cols), some (sI (Gm.ways (r :: rs) cols)), some (sI (wpart r rs cols i)), none, none, none]) (wd_seq (ed_call (ea_cons (ed_op (ed_var rfl) ed_int (od_ix (j := 0) (.inr rfl) rfl)) (ea_cons (ed_var rfl) ea_nil)) (pd_of ⟨r, cols, rfl, hr9.1, by omega, t.2.1.2.1, t.2.1.2.2, rfl⟩)) (.inl rfl)) fun i row hi => ⟨_, gd_name, ?_⟩) (sr_ret (ed_is (ed_op (ed_var rfl) (ed_var rfl) od_eqI) ?_)))
      · have hm := List.mem_of_getElem? hi
        rw [show wpart r rs cols (i + 1) = wpart r rs cols i + Gm.ways rs (Gm.sub cols row) from wpart_succ hi]
        refine sn_le (sn_set (ed_op (ed_var rfl) (ed_call (ea_cons (show Ed K _ _ (sT rs) from ed_is (ed_slT (ed_var rfl) (eo_some ed_int) eo_none) (congrArg (fun z => Sl.d (.tuple z)) (cutD_from' (ds := dIs (r :: rs)) (n := 1)))) (ea_cons (show Ed K _ _ (sT (Gm.sub cols row)) from ?_) ea_nil)) (pd_of ⟨rs, Gm.sub cols row, rfl, tots_tail t hl1 hm, rfl⟩)) od_I0)) (le_some (le_some (le_some (le_some (le_none (le_some (le_some le_nil)))))))
        refine ed_is (ed_cb (ea_cons (ed_lcm (enc := fun p : Int × Int => .tuple [.int p.1, .int p.2]) (ds := cols.zip row) (fun p => .int (p.1 - p.2)) ?_ ?_ (js := [5, 6]) (by decide) fun p hp => ⟨_, gd_tup2, ed_op (ed_var rfl) (ed_var rfl) od_I0⟩) ea_nil) (cd_tupOf (.inl rfl))) ?_
        · rw [← dZ_ints]
          exact wd_zipT (ea_cons (ed_var rfl) (ea_cons (ed_var rfl) ea_nil))
        · rw [List.length_zip]; have := t.2.1.2.1; omega
        · rw [ints_map (f := fun p : Int × Int => p.1 - p.2), zip_sub]
      · rw [wpart_end, decide_eq_true rfl]
theorem scLawIndexRight : FnScope ["_law_rows", "_law_columns", "_law_number_here", "_law_grid"] ["_law_rows", "_law_columns", "_law_number_here"] (defScope sLawIndexRight) := ⟨rfl, rfl, rfl, by decide +kernel, rfl, by decide +kernel, by decide +kernel⟩
abbrev HLawIndexRight (P : Program) (w : World) (K : PySem.W.Frag) (mg : Str → Option Value) (base : Heap) : Prop := Has P w K mg base 8 "_law_index_right" ["_law_rows", "_law_columns", "_law_number_here"] (spD K rLawIndexRight)
theorem ok_LawIndexRight {f : Addr} {fd : FuncData} (F : Fun K "_law_index_right" "_law_index_right" sLawIndexRight f fd) (B : Bl mg) (H_nth_grid : HNthGrid P w K mg base) (H__law_is_grid : HLawIsGrid P w K mg base) : FnOk P w K mg base CX0 8 f fd ["_law_rows", "_law_columns", "_law_number_here"] (spD K rLawIndexRight) := by
  obtain ⟨f_nth_grid, fd_nth_grid, G_nth_grid, m_nth_grid, k_nth_grid, b_nth_grid⟩ := H_nth_grid
  obtain ⟨f__law_is_grid, fd__law_is_grid, G__law_is_grid, m__law_is_grid, k__law_is_grid, b__law_is_grid⟩ := H__law_is_grid
  refine fnD F scLawIndexRight (fun ds x h => ?_) fun cdv A outer s H E hr ds x h => ?_
  · obtain ⟨rows, cols, k, rfl, t, hk, rfl⟩ := h; rfl
  obtain ⟨rows, cols, k, rfl, t, hk, rfl⟩ := h
  refine ⟨_, (pss_cons (ps_set (i := 3) scLawIndexRight.nd rfl (by first | exact Or.inl rfl | exact Or.inr rfl) (pe_call G_nth_grid (hr.mono (by decide)) (by rfl) m_nth_grid k_nth_grid b_nth_grid .nil pass0 (pa_cons (pv 0) (pa_cons (pv 1) (pa_cons (pv 2) pa_nil)))))
      (pss_cons (ps_if (pt_not (pt_val (pe_call G__law_is_grid (hr.mono (by decide)) (by rfl) m__law_is_grid k__law_is_grid b__law_is_grid .nil pass0 (pa_cons (pv 0) (pa_cons (pv 1) (pa_cons (pv 3) pa_nil)))))) (pss_one (ps_ret pe_bl)) pss_nil)
      (pss_one (ps_ret (pe_or (pe_cmpR op_eq (pv 2) pe_int (nomark _)) (pe_one (pe_cmpR (op_ltG hr.units) (pe_call G_nth_grid (hr.mono (by decide)) (by rfl) m_nth_grid k_nth_grid b_nth_grid .nil pass0 (pa_cons (pv 0) (pa_cons (pv 1) (pa_cons (pe_op op_sub (pv 2) pe_int) pa_nil)))) (pv 3) (nomark _)))))))), ?_⟩
  obtain ⟨g, hg⟩ : ∃ g, (Gm.mats rows cols)[k]? = some g := ⟨_, List.getElem?_eq_getElem hk⟩
  have q := (Gm.mem_mats (tots_nnc t)).mp (List.mem_of_getElem? hg)
  refine sr_seq (sn_set (ed_call (ea_cons (ed_var rfl) (ea_cons (ed_var rfl) (ea_cons (ed_var rfl) ea_nil))) (pd_of ⟨rows, cols, k, g, rfl, t, hg, rfl⟩))) (sr_ifs (b := false) (et_not (b := true) (et_B (ed_call (ea_cons (ed_var rfl) (ea_cons (ed_var rfl) (ea_cons (ed_var rfl) ea_nil))) (pd_of ⟨rows, cols, _, g, rfl, t, gsT g, q, rfl⟩)))) (fun e => by cases e) fun _ => sr_ret ?_)
  by_cases h0 : k = 0
  · subst h0
    exact ed_is (ed_orV (b := true) (c := true) (ed_op (ed_var rfl) ed_int od_eqI) fun e => by cases e) rfl
  · obtain ⟨h, hh⟩ : ∃ h, (Gm.mats rows cols)[k - 1]? = some h := ⟨_, List.getElem?_eq_getElem (by omega)⟩
    have q2 := (Gm.mem_mats (tots_nnc t)).mp (List.mem_of_getElem? hh)
    refine ed_is (ed_orV (b := false) (c := true) (ed_is (ed_op (ed_var rfl) ed_int od_eqI) (by rw [decide_eq_false (by omega)])) fun _ => ed_is (ed_op (ed_call (ea_cons (ed_var rfl) (ea_cons (ed_var rfl) (ea_cons (show Ed K _ _ (sI ((k - 1 : Nat) : Int)) from ed_is (ed_op (ed_var rfl) ed_int od_I0) (by rw [show (k : Int) - 1 = ((k - 1 : Nat) : Int) by omega])) ea_nil))) (pd_of ⟨rows, cols, k - 1, h, rfl, t, hh, rfl⟩)) (ed_var rfl) (od_ltG (by rw [q.len, q2.len]))) ?_) rfl
    rw [Gm.mats_lt hh hg (by omega)]
theorem scLawBitsRight : FnScope ["_law_rows", "_law_columns", "_law_grid", "_law_bits", "_law_row"] ["_law_rows", "_law_columns", "_law_grid"] (defScope sLawBitsRight) := ⟨rfl, rfl, rfl, by decide +kernel, rfl, by decide +kernel, by decide +kernel⟩
abbrev HZeroOne (P : Program) (w : World) (K : PySem.W.Frag) (mg : Str → Option Value) (base : Heap) (CB CK Pt : Addr) : Prop := Has P w K mg base 5 "zero_one" ["rows", "columns"] (spZ K CB CK Pt)
theorem ok_LawBitsRight {f : Addr} {fd : FuncData} {CB CK Pt : Addr} (F : Fun K "_law_bits_right" "_law_bits_right" sLawBitsRight f fd) (B : Bl mg) (cB : ClsF K mg "Bits" CB) (cK : ClsF K mg "Blocked" CK) (nB : NoAttr K CB "grid") (kt : Kit2 K CB CK) (HB : HBitsShows P w K mg base CB) (HK : HBlockedShows P w K mg base CK) (H_zero_one : HZeroOne P w K mg base CB CK Pt) (H__law_is_grid : HLawIsGrid P w K mg base) : FnOk P w K mg base CX0 6 f fd ["_law_rows", "_law_columns", "_law_grid"] (spBits K Pt) := by
  obtain ⟨f_zero_one, fd_zero_one, G_zero_one, m_zero_one, k_zero_one, b_zero_one⟩ := H_zero_one
  obtain ⟨f__law_is_grid, fd__law_is_grid, G__law_is_grid, m__law_is_grid, k__law_is_grid, b__law_is_grid⟩ := H__law_is_grid
  obtain ⟨fB, fdB, GB, HmB, bB⟩ := HB
  obtain ⟨fK, fdK, GK, HmK, bK⟩ := HK
  refine F.ok scLawBitsRight (fun vs H Q E h => ?_) (fun cdv A outer s H vs Q E hr h => ?_)
  · obtain ⟨rows, cols, gx, g, hv, _⟩ := h
    rw [svAll_len hv]; rfl
  obtain ⟨rows, cols, gx, g, hv, t, hgs, qg, hT, q⟩ := h
  refine ⟨_, (pss_cons (ps_set (i := 3) scLawBitsRight.nd rfl (by first | exact Or.inl rfl | exact Or.inr rfl) (pe_call G_zero_one (hr.mono (by decide)) (by rfl) m_zero_one k_zero_one b_zero_one .nil pass0 (pa_cons (pv 0) (pa_cons (pv 1) pa_nil))))
      (pss_cons (ps_if (PW.pt (pw_or (pt_not (pt_val (pe_or2 (pe_meth (pv 3) cB.cl HmB GB (hr.mono (by decide)) bB .nil pass0 (pa_cons (pv 0) (pa_cons (pv 1) pa_nil))) (pe_meth (pv 3) cK.cl HmK GK (hr.mono (by decide)) bK .nil pass0 (pa_cons (pv 0) (pa_cons (pv 1) pa_nil)))))) (pw_or1 (PW.pt (pw_and (pt_val (pe_callB call_isi (by rfl) B.isi (by decide +kernel) (pa_cons (pv 3) (pa_cons (pe_glob (v := .ref CK) (by rfl) cK.g rfl) pa_nil)))) (pw_and1 (pt_cmpR op_lt (pe_callB (cr_maxA rfl) (by rfl) B.max (by decide +kernel) (pa_cons (pe_lc (own := [("_law_row", 4)]) (g := (gName 4)) (tt := tYes) (te := (tCB (rMaxA K) (tCons (tVar 4) tNil))) rfl scLawBitsRight.nd (pi_seq (pv 2)) (blkOk_by (by kernel_rfl)) (fun _ _ _ _ _ => (pg_name (i := 4) scLawBitsRight.nd rfl (by first | exact Or.inl rfl | exact Or.inr rfl))) (fun _ _ _ _ _ => pts_nil) (fun _ _ _ _ _ => (pe_callB (cr_maxA rfl) (by rfl) B.max (by decide +kernel) (pa_cons (pv 4) pa_nil)))) pa_nil)) pe_int (nomark _)))))))) (pss_one (ps_ret pe_bl)) pss_nil)
      (pss_cons (ps_if (pt_not (pt_val (pe_callB call_isi (by rfl) B.isi (by decide +kernel) (pa_cons (pv 3) (pa_cons (pe_glob (v := .ref CB) (by rfl) cB.g rfl) pa_nil))))) (pss_one (ps_ret pe_bl)) pss_nil)
      (pss_one (ps_ret (pe_and (pe_call G__law_is_grid (hr.mono (by decide)) (by rfl) m__law_is_grid k__law_is_grid b__law_is_grid .nil pass0 (pa_cons (pv 0) (pa_cons (pv 1) (pa_cons (pe_fld (pv 3) rfl) pa_nil)))) (pe_one (pe_cmpR op_lt (pe_callB (cr_maxA rfl) (by rfl) B.max (by decide +kernel) (pa_cons (pe_lc (own := [("_law_row", 4)]) (g := (gName 4)) (tt := tYes) (te := (tCB (rMaxA K) (tCons (tVar 4) tNil))) rfl scLawBitsRight.nd (pi_seq (pe_fld (pv 3) rfl)) (blkOk_by (by kernel_rfl)) (fun _ _ _ _ _ => (pg_name (i := 4) scLawBitsRight.nd rfl (by first | exact Or.inl rfl | exact Or.inr rfl))) (fun _ _ _ _ _ => pts_nil) (fun _ _ _ _ _ => (pe_callB (cr_maxA rfl) (by rfl) B.max (by decide +kernel) (pa_cons (pv 4) pa_nil)))) pa_nil)) pe_int (nomark _))))))))), ?_⟩
  have s0 := sd_start (N := ["_law_rows", "_law_columns", "_law_grid", "_law_bits", "_law_row"]) hv (by show 3 ≤ 5; decide)
  generalize start ["_law_rows", "_law_columns", "_law_grid", "_law_bits", "_law_row"] vs = σ at s0 ⊢
  refine tSeq_at (tAsg_at (tCall_at ?_))
  refine (show Ea K _ _ [sT rows, sT cols] from ea_cons (ed_var rfl) (ea_cons (ed_var rfl) ea_nil)) NF _ H Dom.nil s0 _ fun ws H1 e1 hws => ?_
  rw [List.append_nil]
  refine ⟨rows, cols, hws, t, hT.ext e1, fun v H2 x hx ext2 hT2 hvx => gName_at (nx_of ?_)⟩
  have s2 := sd_set (i := 3) (sd_ext (mk_ext (F := NF) ((LamX.ExtN.of e1).trans ext2)) s0) hvx
  have fin : ∀ {te : TS} {D : Ends}, Sr K te ((startD ["_law_rows", "_law_columns", "_law_grid", "_law_bits", "_law_row"] [sT rows, sT cols, .d gx]).set 3 (some x)) (sB true) → D.rt = Q → te D (σ.set 3 (some v)) H2 := fun {te D} h e => h NF D _ H2 Dom.nil s2 fun u H3 e3 hu => by
    cases hu
    rw [e]
    exact q H3 (((LamX.ExtN.of e1).trans ext2).trans (.of e3)) (hT2.ext e3)
  refine fin ?_ rfl
  rcases hx with ⟨gb, rfl, hgrid, hlt⟩ | ⟨so, rfl, hlin, hblk⟩
  · have qb := isG_of_grid hgrid
    refine sr_ifs (b := false) (et_is (et_or (b := false) (et_not (b := true) (et_B (ed_l (ed_meth (ed_var rfl) (look1n (by decide)) (ea_cons (ed_var rfl) (ea_cons (ed_var rfl) ea_nil)) (pd_of ⟨gb, rows, cols, rfl, t, hgrid, hlt, rfl⟩))))) fun _ => et_and (b := false) (c := true) (et_B (ed_isiO (ed_var rfl) cB.isc kt.bk)) fun e => by cases e) rfl) (fun e => by cases e) fun _ => ?_
    refine sr_ifs (b := false) (et_not (b := true) (et_B (ed_isiO (ed_var rfl) cB.isc kt.bb))) (fun e => by cases e) fun _ => sr_ret (ed_is (ed_andV (b := true) (c := true) (ed_call (ea_cons (ed_var rfl) (ea_cons (ed_var rfl) (ea_cons (ed_fld (i := 0) (d := dTT gb) (ed_var rfl) cB.cl nB rfl look1) ea_nil))) (pd_of ⟨rows, cols, _, gb, rfl, t, gsT gb, qb, rfl⟩)) fun _ => ed_is (ed_op (ed_maxG t qb (gsT gb) (ed_fld (i := 0) (d := dTT gb) (ed_var rfl) cB.cl nB rfl look1) (by decide) fun _ => rfl) ed_int od_B0) ?_) rfl)
    rw [show decide (maxG gb < 2) = true from (maxG_lt t qb).mpr hlt]
  · refine sr_ifs (b := false) (et_is (et_or (b := false) (et_not (b := true) (et_B (ed_r (ed_meth (ed_var rfl) (look1n (by decide)) (ea_cons (ed_var rfl) (ea_cons (ed_var rfl) ea_nil)) (pd_of ⟨so, rows, cols, rfl, t, hlin, by rw [hblk]⟩))))) fun _ => et_and (b := true) (c := false) (et_B (ed_isiO (ed_var rfl) cK.isc kt.kk)) fun _ => et_is (et_test (ed_op (ed_maxG t qg hgs (ed_var rfl) (by decide) fun _ => rfl) ed_int od_B0)) ?_) rfl) (fun e => by cases e) fun _ => ?_
    · rw [Bool.eq_false_iff]
      intro z
      exact no_ones t hlin hblk qg ((maxG_lt t qg).mp z)
    · exact sr_ifs (b := true) (et_not (b := false) (et_B (ed_isiO (ed_var rfl) cK.isc kt.kb))) (fun _ => sr_ret ed_bl) (fun e => by cases e)
end
end G29
end L2
set_option Elab.async false
set_option linter.all false
set_option maxRecDepth 100000
set_option maxHeartbeats 4000000
namespace L2
namespace G29
open PySem PySem.Spec PyProof.Rows
abbrev sLaw : Stmt := topS 38

def lawG (ns : List Int) (m n : Nat) (most : Int) : List (List Int) := (List.range m).map fun (i : Nat) => (List.range n).map fun (j : Nat) => numI ns (10 + 5 * (i : Int) + (j : Int)) % most
theorem sums_eq {n : Nat} : ∀ {g : List (List Int)}, (∀ r ∈ g, r.length = n) → (g.map List.sum).sum = (Gm.colsums g n).sum
  | [], _ => by
    show 0 = S n (Gm.colsum [])
    exact ((S_eq (f := Gm.colsum []) (g := fun _ => 0) fun t _ => rfl).trans S_zero).symm
  | r :: g, h => by
    have ih := sums_eq (g := g) fun x hx => h x (List.mem_cons_of_mem _ hx)
    have e : (Gm.colsums (r :: g) n).sum = S n (Gm.colsum (r :: g)) := rfl
    rw [e, S_eq (g := fun t => r.getD t 0 + Gm.colsum g t) fun t _ => Gm.colsum_cons r g t, S_add, List.map_cons, List.sum_cons, ih, S_sum r, h r List.mem_cons_self]; rfl
theorem most_le {m n : Nat} (hm : 1 ≤ m ∧ m ≤ 4) (hn : 1 ≤ n ∧ n ≤ 4) : 2 ≤ (10 : Int) / max (m : Int) (n : Int) ∧ (n : Int) * (10 / max (m : Int) (n : Int) - 1) ≤ 9 ∧ (m : Int) * (10 / max (m : Int) (n : Int) - 1) ≤ 9 := by
  have h1 : m = 1 ∨ m = 2 ∨ m = 3 ∨ m = 4 := by omega
  have h2 : n = 1 ∨ n = 2 ∨ n = 3 ∨ n = 4 := by omega
  rcases h1 with rfl | rfl | rfl | rfl <;> rcases h2 with rfl | rfl | rfl | rfl <;> decide
theorem lawG_len (ns : List Int) (m n : Nat) (most : Int) : (lawG ns m n most).length = m := by unfold lawG; rw [List.length_map, List.length_range]
theorem lawG_row {ns : List Int} {m n : Nat} {most : Int} (h : 0 < most) : ∀ r ∈ lawG ns m n most, r.length = n ∧ ∀ x ∈ r, 0 ≤ x ∧ x ≤ most - 1 := fun r hr => by
  obtain ⟨i, _, rfl⟩ := List.mem_map.mp hr
  refine ⟨by rw [List.length_map, List.length_range], fun x hx => ?_⟩
  obtain ⟨j, _, rfl⟩ := List.mem_map.mp hx
  have h1 := Int.emod_nonneg (numI ns (10 + 5 * (i : Int) + (j : Int))) (show most ≠ 0 by omega)
  have h2 := Int.emod_lt_of_pos (numI ns (10 + 5 * (i : Int) + (j : Int))) h
  omega
theorem lawG_tots {ns : List Int} {m n : Nat} (hm : 1 ≤ m ∧ m ≤ 4) (hn : 1 ≤ n ∧ n ≤ 4) : Tots ((lawG ns m n (10 / max (m : Int) (n : Int))).map List.sum) (Gm.colsums (lawG ns m n (10 / max (m : Int) (n : Int))) n) ∧
    Gm.IsG ((lawG ns m n (10 / max (m : Int) (n : Int))).map List.sum) (Gm.colsums (lawG ns m n (10 / max (m : Int) (n : Int))) n) (lawG ns m n (10 / max (m : Int) (n : Int))) := by
  obtain ⟨h1, h2, h3⟩ := most_le hm hn
  generalize (10 : Int) / max (m : Int) (n : Int) = most at h1 h2 h3 ⊢
  have hr := lawG_row (ns := ns) (m := m) (n := n) (most := most) (by omega)
  have hl := lawG_len ns m n most
  generalize lawG ns m n most = g at hr hl ⊢
  have hnn : ∀ r ∈ g, Gm.NN r := fun r hr' x hx => ((hr r hr').2 x hx).1
  refine ⟨⟨⟨by rw [List.length_map, hl]; exact hm.1, by rw [List.length_map, hl]; exact hm.2, fun x hx => ?_⟩, ⟨by rw [Gm.colsums_len]; exact hn.1, by rw [Gm.colsums_len]; exact hn.2, fun x hx => ?_⟩, sums_eq fun r hr' => (hr r hr').1⟩, ⟨by rw [List.length_map], fun r hr' => ⟨by rw [Gm.colsums_len]; exact (hr r hr').1, hnn r hr'⟩, rfl, by rw [Gm.colsums_len]⟩⟩
  · obtain ⟨r, hr', rfl⟩ := List.mem_map.mp hx
    refine ⟨Gm.NN.sum (hnn r hr'), ?_⟩
    have := sum_le_mul (m := most - 1) (by omega) (xs := r) (k := n) (fun y hy => ((hr r hr').2 y hy).2) (by rw [(hr r hr').1]; exact Nat.le_refl _)
    omega
  · obtain ⟨j, _, rfl⟩ := List.mem_map.mp hx
    refine ⟨Gm.colsum_nn hnn j, ?_⟩
    have := sum_le_mul (m := most - 1) (by omega) (xs := g.map fun row => row.getD j 0) (k := m) (fun y hy => by
      obtain ⟨r, hr', rfl⟩ := List.mem_map.mp hy
      by_cases hj : j < r.length
      · exact ((hr r hr').2 _ (getD_mem0 hj)).2
      · rw [List.getD_eq_getElem?_getD, List.getElem?_eq_none (by omega)]
        show (0 : Int) ≤ _
        omega) (by rw [List.length_map, hl]; exact Nat.le_refl _)
    show (g.map fun row => row.getD j 0).sum ≤ 9
    omega
/-- the places below m that p takes -/
def mkSo (m : Nat) (p : Nat → Bool) : List Int := ((List.range m).filter p).map fun (i : Nat) => (i : Int)
theorem mkSo_lines {m : Nat} (hm : m ≤ 1000) (p : Nat → Bool) : Lines (mkSo m p) m := by
  refine ⟨fun x hx => ?_, ?_, ?_⟩
  · obtain ⟨i, hi, rfl⟩ := List.mem_map.mp hx
    have := List.mem_range.mp (List.mem_filter.mp hi).1
    omega
  · unfold mkSo
    rw [List.pairwise_map]
    exact ((List.pairwise_lt_range).filter _).imp fun h => by omega
  · unfold mkSo
    rw [List.length_map]
    have := List.length_filter_le p (List.range m)
    rw [List.length_range] at this
    omega
theorem rest_sum {rows so : List Int} (h : Lines so rows.length) : ((mkSo rows.length fun i => !decide ((i : Int) ∈ so)).map (la rows)).sum = rows.sum - (so.map (la rows)).sum := by
  have := all_sum (all_first h)
  unfold firstOnes at this
  rw [List.map_append, List.sum_append] at this
  unfold mkSo
  omega
/-- what is handed back at the end of the law's own text -/
def Sz (K : PySem.W.Frag) (Pt : Addr) (t : TS) (δ : De) : Prop := ∀ (D : Ends) (σ : St) (H : Hp), Sd K (mk NF H) σ δ → LamX.Tabs (TZ Pt) H → (∀ H', D.rt (.bl true) H') → t D σ H
section
variable {K : PySem.W.Frag} {Pt : Addr} {t u : TS} {δ δ1 : De} {tt : TT}
theorem sz_seq (h1 : Sn K t δ δ1) (h2 : Sz K Pt u δ1) : Sz K Pt (tSeq t u) δ := fun D σ H s T q => h1 NF { D with nx := u D } σ H Dom.nil s fun σ' H' e s' => h2 D σ' H' s' (T.ext e) q
theorem sz_sr (h : Sr K t δ (sB true)) : Sz K Pt t δ := fun D σ H s T q => h NF D σ H Dom.nil s fun v H' e hv => by cases hv; exact q H'
theorem sz_bits {E : XK} {ta : TA} {rows cols : List Int} {gx : PyData} {g : List (List Int)} (h : Ea K ta δ [sT rows, sT cols, .d gx]) (tt' : Tots rows cols) (hg : GS gx g) (qg : Gm.IsG rows cols g) (h2 : Sz K Pt u δ) : Sz K Pt (tSeq (tIfS (tNot (tB (tCall (spBits K Pt) [] E ta))) t tNext) u) δ := fun D σ H s T q => by
  refine tIf_at (tNot_at (tB_at (tCall_at (h NF σ H Dom.nil s _ fun vs H1 e1 hvs => ?_))))
  rw [List.append_nil]
  exact ⟨rows, cols, gx, g, hvs, tt', hg, qg, T.ext e1, fun H2 ext2 T2 => ⟨_, rfl, h2 D σ H2 (sd_ext (mk_ext (F := NF) ((LamX.ExtN.of e1).trans ext2)) s) T2 q⟩⟩
end
def spLaw (K : PySem.W.Frag) (Pt : Addr) : Sp := fun vs H Q _ => ∃ ns : List Int, SvAll K (mk NF H) vs [sL ns] ∧ LamX.Tabs (TZ Pt) H ∧ ∀ H', Q (.bl true) H'
section
variable {P : Program} {w : World} {K : PySem.W.Frag} {mg : Str → Option Value} {base : Heap}
theorem scLaw : FnScope ["_law_script", "_law_many", "_law_cells", "_law_most", "_law_grid", "_law_at", "_law_row", "_law_rows", "_law_columns", "_law_some", "_law_others", "_law_found", "_law_ends", "_law_one", "_law_rest", "_law_late", "_law_whole"] ["_law_script"] (defScope sLaw) := ⟨rfl, rfl, rfl, by decide +kernel, rfl, by decide +kernel, by decide +kernel⟩
theorem ok_Law {f : Addr} {fd : FuncData} {CE Pt : Addr} (F : Fun K "law" "law" sLaw f fd) (B : Bl mg) (cE : ClsF K mg "BoxEnds" CE) (nE0 : NoAttr K CE "least") (nE1 : NoAttr K CE "greatest") (HI : HBoxEndsInit P w K mg base CE) (HE : HBoxEndsShows P w K mg base CE) (H__law_number : HLawNumber P w K mg base) (H_reach_box : HReachBox P w K mg base CE) (H_box_ends : HBoxEnds P w K mg base) (H__law_is_grid : HLawIsGrid P w K mg base) (H__law_inside : HLawInside P w K mg base) (H__law_bits_right : Has P w K mg base 6 "_law_bits_right" ["_law_rows", "_law_columns", "_law_grid"] (spBits K Pt)) (H__law_index_right : HLawIndexRight P w K mg base) (H_count_grids : HCountGrids P w K mg base) (H__law_count_right : HLawCountRight P w K mg base) : FnOk P w K mg base CX0 9 f fd ["_law_script"] (spLaw K Pt) := by
  obtain ⟨f__law_number, fd__law_number, G__law_number, m__law_number, k__law_number, b__law_number⟩ := H__law_number
  obtain ⟨f_reach_box, fd_reach_box, G_reach_box, m_reach_box, k_reach_box, b_reach_box⟩ := H_reach_box
  obtain ⟨f_box_ends, fd_box_ends, G_box_ends, m_box_ends, k_box_ends, b_box_ends⟩ := H_box_ends
  obtain ⟨f__law_is_grid, fd__law_is_grid, G__law_is_grid, m__law_is_grid, k__law_is_grid, b__law_is_grid⟩ := H__law_is_grid
  obtain ⟨f__law_inside, fd__law_inside, G__law_inside, m__law_inside, k__law_inside, b__law_inside⟩ := H__law_inside
  obtain ⟨f__law_bits_right, fd__law_bits_right, G__law_bits_right, m__law_bits_right, k__law_bits_right, b__law_bits_right⟩ := H__law_bits_right
  obtain ⟨f__law_index_right, fd__law_index_right, G__law_index_right, m__law_index_right, k__law_index_right, b__law_index_right⟩ := H__law_index_right
  obtain ⟨f_count_grids, fd_count_grids, G_count_grids, m_count_grids, k_count_grids, b_count_grids⟩ := H_count_grids
  obtain ⟨f__law_count_right, fd__law_count_right, G__law_count_right, m__law_count_right, k__law_count_right, b__law_count_right⟩ := H__law_count_right
  obtain ⟨fI, fdI, GI, ME, bI⟩ := HI
  obtain ⟨fE, fdE, GE, HmE, bE⟩ := HE
  refine F.ok scLaw (fun vs H Q E h => ?_) (fun cdv A outer s H vs Q E hr h => ?_)
  · obtain ⟨ns, hv, _⟩ := h
    rw [svAll_len hv]; rfl
  obtain ⟨ns, hv, hT, hq⟩ := h
  refine ⟨_, (pss_cons (ps_asg (pe_tup (pa_cons (pe_op op_add pe_int (pe_op op_mod (pe_callTy call_int1 (by rfl) B.int (by decide +kernel) (pa_cons (pe_call G__law_number (hr.mono (by decide)) (by rfl) m__law_number k__law_number b__law_number .nil pass0 (pa_cons (pv 0) (pa_cons pe_int pa_nil))) pa_nil)) pe_int)) (pa_cons (pe_op op_add pe_int (pe_op op_mod (pe_callTy call_int1 (by rfl) B.int (by decide +kernel) (pa_cons (pe_call G__law_number (hr.mono (by decide)) (by rfl) m__law_number k__law_number b__law_number .nil pass0 (pa_cons (pv 0) (pa_cons pe_int pa_nil))) pa_nil)) pe_int)) pa_nil))) (pg_tup rfl (pgs_cons (pg_name (i := 1) scLaw.nd rfl (by first | exact Or.inl rfl | exact Or.inr rfl)) (pgs_cons (pg_name (i := 2) scLaw.nd rfl (by first | exact Or.inl rfl | exact Or.inr rfl)) pgs_nil))))
      (pss_cons (ps_set (i := 3) scLaw.nd rfl (by first | exact Or.inl rfl | exact Or.inr rfl) (pe_op op_fdiv pe_int (pe_callB (call_max2 rfl) (by rfl) B.max (by decide +kernel) (pa_cons (pv 1) (pa_cons (pv 2) pa_nil)))))
      (pss_cons (ps_set (i := 4) scLaw.nd rfl (by first | exact Or.inl rfl | exact Or.inr rfl) (pe_lc (own := [("_law_row", 6)]) (g := (gName 6)) (tt := tYes) (te := (tLc (iRng1 (tCons (tVar 2) tNil)) (gName 5) tYes (tOp (rI (fun _ j => 0 < j) fun i j => V.int (i % j)) (tCB rInt1 (tCons (tCall _ [] E0 (tCons (tVar 0) (tCons (tOp (rI0 fun i j => V.int (i + j)) (tOp (rI0 fun i j => V.int (i + j)) (tC (V.int 10)) (tOp (rI CMul fun i j => V.int (i * j)) (tC (V.int 5)) (tVar 6))) (tVar 5)) tNil))) tNil)) (tVar 3)) [5])) rfl scLaw.nd (pi_range1 (by rfl) B.range (pa_cons (pv 1) pa_nil)) (blkOk_by (by kernel_rfl)) (fun _ _ _ _ _ => (pg_name (i := 6) scLaw.nd rfl (by first | exact Or.inl rfl | exact Or.inr rfl))) (fun _ _ _ _ _ => pts_nil) (fun _ _ _ _ _ => (pe_lc (own := [("_law_at", 5)]) (g := (gName 5)) (tt := tYes) (te := (tOp (rI (fun _ j => 0 < j) fun i j => V.int (i % j)) (tCB rInt1 (tCons (tCall _ [] E0 (tCons (tVar 0) (tCons (tOp (rI0 fun i j => V.int (i + j)) (tOp (rI0 fun i j => V.int (i + j)) (tC (V.int 10)) (tOp (rI CMul fun i j => V.int (i * j)) (tC (V.int 5)) (tVar 6))) (tVar 5)) tNil))) tNil)) (tVar 3))) rfl scLaw.nd (pi_range1 (by rfl) B.range (pa_cons (pv 2) pa_nil)) (blkOk_by (by kernel_rfl)) (fun _ _ _ _ _ => (pg_name (i := 5) scLaw.nd rfl (by first | exact Or.inl rfl | exact Or.inr rfl))) (fun _ _ _ _ _ => pts_nil) (fun _ _ _ _ _ => (pe_op op_mod (pe_callTy call_int1 (by rfl) B.int (by decide +kernel) (pa_cons (pe_call G__law_number (hr.mono (by decide)) (by rfl) m__law_number k__law_number b__law_number .nil pass0 (pa_cons (pv 0) (pa_cons (pe_op op_add (pe_op op_add pe_int (pe_op op_mul pe_int (pv 6))) (pv 5)) pa_nil))) pa_nil)) (pv 3)))))))
      (pss_cons (ps_asg (pe_tup (pa_cons (pe_callTy call_tuple_of (by rfl) B.tuple (by decide +kernel) (pa_cons (pe_lc (own := [("_law_row", 6)]) (g := (gName 6)) (tt := tYes) (te := (tCB (rSumA K) (tCons (tVar 6) tNil))) rfl scLaw.nd (pi_seq (pv 4)) (blkOk_by (by kernel_rfl)) (fun _ _ _ _ _ => (pg_name (i := 6) scLaw.nd rfl (by first | exact Or.inl rfl | exact Or.inr rfl))) (fun _ _ _ _ _ => pts_nil) (fun _ _ _ _ _ => (pe_callB (cr_sumA rfl) (by rfl) B.sum (by decide +kernel) (pa_cons (pv 6) pa_nil)))) pa_nil)) (pa_cons (pe_callTy call_tuple_of (by rfl) B.tuple (by decide +kernel) (pa_cons (pe_lc (own := [("_law_at", 5)]) (g := (gName 5)) (tt := tYes) (te := (tCB (rSumA K) (tCons (tLc (iSeq K (tVar 4)) (gName 6) tYes (tOp (rIx K) (tVar 6) (tVar 5)) [6]) tNil))) rfl scLaw.nd (pi_range1 (by rfl) B.range (pa_cons (pv 2) pa_nil)) (blkOk_by (by kernel_rfl)) (fun _ _ _ _ _ => (pg_name (i := 5) scLaw.nd rfl (by first | exact Or.inl rfl | exact Or.inr rfl))) (fun _ _ _ _ _ => pts_nil) (fun _ _ _ _ _ => (pe_callB (cr_sumA rfl) (by rfl) B.sum (by decide +kernel) (pa_cons (pe_lc (own := [("_law_row", 6)]) (g := (gName 6)) (tt := tYes) (te := (tOp (rIx K) (tVar 6) (tVar 5))) rfl scLaw.nd (pi_seq (pv 4)) (blkOk_by (by kernel_rfl)) (fun _ _ _ _ _ => (pg_name (i := 6) scLaw.nd rfl (by first | exact Or.inl rfl | exact Or.inr rfl))) (fun _ _ _ _ _ => pts_nil) (fun _ _ _ _ _ => (pe_ix ix_seq (pv 6) (pv 5) (fun _ _ => rfl)))) pa_nil)))) pa_nil)) pa_nil))) (pg_tup rfl (pgs_cons (pg_name (i := 7) scLaw.nd rfl (by first | exact Or.inl rfl | exact Or.inr rfl)) (pgs_cons (pg_name (i := 8) scLaw.nd rfl (by first | exact Or.inl rfl | exact Or.inr rfl)) pgs_nil))))
      (pss_cons (ps_set (i := 9) scLaw.nd rfl (by first | exact Or.inl rfl | exact Or.inr rfl) (pe_callTy call_tuple_of (by rfl) B.tuple (by decide +kernel) (pa_cons (pe_lc (own := [("_law_row", 6)]) (g := (gName 6)) (tt := (tTest (tOp rEq (tOp (rI (fun _ j => 0 < j) fun i j => V.int (i % j)) (tCB rInt1 (tCons (tCall _ [] E0 (tCons (tVar 0) (tCons (tOp (rI0 fun i j => V.int (i + j)) (tC (V.int 40)) (tVar 6)) tNil))) tNil)) (tC (V.int 2))) (tC (V.int 0))))) (te := (tVar 6)) rfl scLaw.nd (pi_range1 (by rfl) B.range (pa_cons (pv 1) pa_nil)) (blkOk_by (by kernel_rfl)) (fun _ _ _ _ _ => (pg_name (i := 6) scLaw.nd rfl (by first | exact Or.inl rfl | exact Or.inr rfl))) (fun _ _ _ _ _ => (pts_one (pt_cmpR op_eq (pe_op op_mod (pe_callTy call_int1 (by rfl) B.int (by decide +kernel) (pa_cons (pe_call G__law_number (hr.mono (by decide)) (by rfl) m__law_number k__law_number b__law_number .nil pass0 (pa_cons (pv 0) (pa_cons (pe_op op_add pe_int (pv 6)) pa_nil))) pa_nil)) pe_int) pe_int (nomark _)))) (fun _ _ _ _ _ => (pv 6))) pa_nil)))
      (pss_cons (ps_set (i := 10) scLaw.nd rfl (by first | exact Or.inl rfl | exact Or.inr rfl) (pe_callTy call_tuple_of (by rfl) B.tuple (by decide +kernel) (pa_cons (pe_lc (own := [("_law_at", 5)]) (g := (gName 5)) (tt := (tTest (tOp rEq (tOp (rI (fun _ j => 0 < j) fun i j => V.int (i % j)) (tCB rInt1 (tCons (tCall _ [] E0 (tCons (tVar 0) (tCons (tOp (rI0 fun i j => V.int (i + j)) (tC (V.int 50)) (tVar 5)) tNil))) tNil)) (tC (V.int 2))) (tC (V.int 0))))) (te := (tVar 5)) rfl scLaw.nd (pi_range1 (by rfl) B.range (pa_cons (pv 2) pa_nil)) (blkOk_by (by kernel_rfl)) (fun _ _ _ _ _ => (pg_name (i := 5) scLaw.nd rfl (by first | exact Or.inl rfl | exact Or.inr rfl))) (fun _ _ _ _ _ => (pts_one (pt_cmpR op_eq (pe_op op_mod (pe_callTy call_int1 (by rfl) B.int (by decide +kernel) (pa_cons (pe_call G__law_number (hr.mono (by decide)) (by rfl) m__law_number k__law_number b__law_number .nil pass0 (pa_cons (pv 0) (pa_cons (pe_op op_add pe_int (pv 5)) pa_nil))) pa_nil)) pe_int) pe_int (nomark _)))) (fun _ _ _ _ _ => (pv 5))) pa_nil)))
      (pss_cons (ps_par (i := 11) (j := 12) rfl scLaw.nd rfl rfl (by decide) rfl rfl (pa_cons (pe_call G_reach_box (hr.mono (by decide)) (by rfl) m_reach_box k_reach_box b_reach_box .nil pass0 (pa_cons (pv 7) (pa_cons (pv 8) (pa_cons (pv 9) (pa_cons (pv 10) pa_nil))))) (pa_cons (pe_call G_box_ends (hr.mono (by decide)) (by rfl) m_box_ends k_box_ends b_box_ends .nil pass0 (pa_cons (pv 7) (pa_cons (pv 8) (pa_cons (pv 9) (pa_cons (pv 10) pa_nil))))) pa_nil)) rfl)
      (pss_cons (ps_for PassesOwn.never rfl (pi_seq (pe_tup (pa_cons (pe_fld (pv 11) rfl) (pa_cons (pe_fld (pv 11) rfl) pa_nil)))) (pg_name (i := 13) scLaw.nd rfl (by first | exact Or.inl rfl | exact Or.inr rfl)) (pss_one (ps_if (pt_not (pt_val (pe_call G__law_is_grid (hr.mono (by decide)) (by rfl) m__law_is_grid k__law_is_grid b__law_is_grid .nil pass0 (pa_cons (pv 7) (pa_cons (pv 8) (pa_cons (pv 13) pa_nil)))))) (pss_one (ps_ret pe_bl)) pss_nil)))
      (pss_cons (ps_if (pt_cmpR (op_neD hr.units) (pe_tup (pa_cons (pe_call G__law_inside (hr.mono (by decide)) (by rfl) m__law_inside k__law_inside b__law_inside .nil pass0 (pa_cons (pe_fld (pv 11) rfl) (pa_cons (pv 9) (pa_cons (pv 10) pa_nil)))) (pa_cons (pe_call G__law_inside (hr.mono (by decide)) (by rfl) m__law_inside k__law_inside b__law_inside .nil pass0 (pa_cons (pe_fld (pv 11) rfl) (pa_cons (pv 9) (pa_cons (pv 10) pa_nil)))) pa_nil))) (pv 12) (nomark _)) (pss_one (ps_ret pe_bl)) pss_nil)
      (pss_cons (ps_if (PW.pt (pw_or (pt_not (pt_chain op_le op_le (pe_ix ix_seq (pv 12) pe_int (fun _ _ => rfl)) (pe_call G__law_inside (hr.mono (by decide)) (by rfl) m__law_inside k__law_inside b__law_inside .nil pass0 (pa_cons (pv 4) (pa_cons (pv 9) (pa_cons (pv 10) pa_nil)))) (pe_ix ix_seq (pv 12) pe_int (fun _ _ => rfl)))) (pw_or1 (pt_not (pt_val (pe_meth (pv 11) cE.cl HmE GE (hr.mono (by decide)) bE .nil pass0 (pa_cons (pv 7) (pa_cons (pv 8) (pa_cons (pv 9) (pa_cons (pv 10) pa_nil)))))))))) (pss_one (ps_ret pe_bl)) pss_nil)
      (pss_cons (ps_set (i := 14) scLaw.nd rfl (by first | exact Or.inl rfl | exact Or.inr rfl) (pe_callTy call_tuple_of (by rfl) B.tuple (by decide +kernel) (pa_cons (pe_lc (own := [("_law_row", 6)]) (g := (gName 6)) (tt := (tTest (tOp (rIn K true) (tVar 6) (tVar 9)))) (te := (tVar 6)) rfl scLaw.nd (pi_range1 (by rfl) B.range (pa_cons (pv 1) pa_nil)) (blkOk_by (by kernel_rfl)) (fun _ _ _ _ _ => (pg_name (i := 6) scLaw.nd rfl (by first | exact Or.inl rfl | exact Or.inr rfl))) (fun _ _ _ _ _ => (pts_one (pt_cmpR op_notIn_seq (pv 6) (pv 9) (by rfl)))) (fun _ _ _ _ _ => (pv 6))) pa_nil)))
      (pss_cons (ps_par (i := 15) (j := 16) rfl scLaw.nd rfl rfl (by decide) rfl rfl (pa_cons (pe_call G_box_ends (hr.mono (by decide)) (by rfl) m_box_ends k_box_ends b_box_ends .nil pass0 (pa_cons (pv 7) (pa_cons (pv 8) (pa_cons (pv 14) (pa_cons (pv 10) pa_nil))))) (pa_cons (pe_callB (cr_sumA rfl) (by rfl) B.sum (by decide +kernel) (pa_cons (pe_lc (own := [("_law_at", 5)]) (g := (gName 5)) (tt := tYes) (te := (tOp (rIx K) (tVar 8) (tVar 5))) rfl scLaw.nd (pi_seq (pv 10)) (blkOk_by (by kernel_rfl)) (fun _ _ _ _ _ => (pg_name (i := 5) scLaw.nd rfl (by first | exact Or.inl rfl | exact Or.inr rfl))) (fun _ _ _ _ _ => pts_nil) (fun _ _ _ _ _ => (pe_ix ix_seq (pv 8) (pv 5) (fun _ _ => rfl)))) pa_nil)) pa_nil)) rfl)
      (pss_cons (ps_if (pt_cmpR (op_neD hr.units) (pe_tup (pa_cons (pe_op op_sub (pv 16) (pe_ix ix_seq (pv 15) pe_int (fun _ _ => rfl))) (pa_cons (pe_op op_sub (pv 16) (pe_ix ix_seq (pv 15) pe_int (fun _ _ => rfl))) pa_nil))) (pv 12) (nomark _)) (pss_one (ps_ret pe_bl)) pss_nil)
      (pss_cons (ps_if (pt_cmpR op_ne (pe_meth (pe_make ME GI (hr.mono (by decide)) (by rfl) cE.g bI .nil pass0 (pa_cons (pv 4) (pa_cons (pv 4) pa_nil))) cE.cl HmE GE (hr.mono (by decide)) bE .nil pass0 (pa_cons (pv 7) (pa_cons (pv 8) (pa_cons (pv 9) (pa_cons (pv 10) pa_nil))))) (pe_cmpR op_eq (pe_ix ix_seq (pv 12) pe_int (fun _ _ => rfl)) (pe_ix ix_seq (pv 12) pe_int (fun _ _ => rfl)) (nomark _)) (nomark _)) (pss_one (ps_ret pe_bl)) pss_nil)
      (pss_cons (ps_if (pt_not (pt_val (pe_call G__law_bits_right (hr.mono (by decide)) (by rfl) m__law_bits_right k__law_bits_right b__law_bits_right .nil pass0 (pa_cons (pv 7) (pa_cons (pv 8) (pa_cons (pv 4) pa_nil)))))) (pss_one (ps_ret pe_bl)) pss_nil)
      (pss_cons (ps_if (pt_not (pt_val (pe_call G__law_index_right (hr.mono (by decide)) (by rfl) m__law_index_right k__law_index_right b__law_index_right .nil pass0 (pa_cons (pv 7) (pa_cons (pv 8) (pa_cons (pe_op op_mod (pe_callTy call_int1 (by rfl) B.int (by decide +kernel) (pa_cons (pe_call G__law_number (hr.mono (by decide)) (by rfl) m__law_number k__law_number b__law_number .nil pass0 (pa_cons (pv 0) (pa_cons pe_int pa_nil))) pa_nil)) (pe_call G_count_grids (hr.mono (by decide)) (by rfl) m_count_grids k_count_grids b_count_grids .nil pass0 (pa_cons (pv 7) (pa_cons (pv 8) pa_nil)))) pa_nil)))))) (pss_one (ps_ret pe_bl)) pss_nil)
      (pss_one (ps_ret (pe_call G__law_count_right (hr.mono (by decide)) (by rfl) m__law_count_right k__law_count_right b__law_count_right .nil pass0 (pa_cons (pv 7) (pa_cons (pv 8) pa_nil))))))))))))))))))))), ?_⟩
  have s0 := sd_start (N := ["_law_script", "_law_many", "_law_cells", "_law_most", "_law_grid", "_law_at", "_law_row", "_law_rows", "_law_columns", "_law_some", "_law_others", "_law_found", "_law_ends", "_law_one", "_law_rest", "_law_late", "_law_whole"]) hv (by show 1 ≤ 17; decide)
  refine (show Sz K Pt _ _ from ?_) _ _ H s0 hT hq
  obtain ⟨m, hm, hm1⟩ : ∃ m : Nat, 1 + numI ns 0 % 4 = (m : Int) ∧ (1 ≤ m ∧ m ≤ 4) := by
    have h1 := Int.emod_nonneg (numI ns 0) (show (4 : Int) ≠ 0 by decide)
    have h2 := Int.emod_lt_of_pos (numI ns 0) (show (0 : Int) < 4 by decide)
    exact ⟨(1 + numI ns 0 % 4).toNat, by omega, by omega⟩
  obtain ⟨n, hn, hn1⟩ : ∃ n : Nat, 1 + numI ns 1 % 4 = (n : Int) ∧ (1 ≤ n ∧ n ≤ 4) := by
    have h1 := Int.emod_nonneg (numI ns 1) (show (4 : Int) ≠ 0 by decide)
    have h2 := Int.emod_lt_of_pos (numI ns 1) (show (0 : Int) < 4 by decide)
    exact ⟨(1 + numI ns 1 % 4).toNat, by omega, by omega⟩
  obtain ⟨hmost, _, _⟩ := most_le hm1 hn1
  obtain ⟨t, qg⟩ := lawG_tots (ns := ns) hm1 hn1
  have hgl := lawG_len ns m n (10 / max (m : Int) (n : Int))
  have hgr := lawG_row (ns := ns) (m := m) (n := n) (most := 10 / max (m : Int) (n : Int)) (by omega)
  refine sz_seq (sn_asg (ed_tup (xs := [.int (m : Int), .int (n : Int)]) (ea_cons (ed_is (ed_op ed_int (ed_op (ed_cb (ea_cons (ed_call (ea_cons (ed_var rfl) (ea_cons ed_int ea_nil)) (pd_of ⟨ns, 0, rfl, by decide, by decide, rfl⟩)) ea_nil) cd_int) ed_int (od_I (by decide))) od_I0) (congrArg sI hm)) (ea_cons (ed_is (ed_op ed_int (ed_op (ed_cb (ea_cons (ed_call (ea_cons (ed_var rfl) (ea_cons ed_int ea_nil)) (pd_of ⟨ns, 1, rfl, by decide, by decide, rfl⟩)) ea_nil) cd_int) ed_int (od_I (by decide))) od_I0) (congrArg sI hn)) ea_nil)) (by show 2 ≤ 1000000; decide)) gd_tup2) ?_
  refine sz_seq (sn_set (x := sI (10 / max (m : Int) (n : Int))) (ed_op ed_int (ed_cb (ea_cons (ed_var rfl) (ea_cons (ed_var rfl) ea_nil)) cd_max2) (od_I ⟨by omega, by omega⟩))) ?_
  refine sz_seq (sn_set (x := .d (dLL (lawG ns m n (10 / max (m : Int) (n : Int))))) (ed_is (ed_lcm (enc := fun i : Nat => PyData.int (i : Int)) (ds := List.range m) (fun i => dL ((List.range n).map fun (j : Nat) => numI ns (10 + 5 * (i : Int) + (j : Int)) % (10 / max (m : Int) (n : Int)))) (wd_rngN (ea_cons (ed_var rfl) ea_nil) (by omega)) (by rw [List.length_range]; omega) (js := [6]) (by decide) fun i hi => ⟨_, gd_name, ed_is (ed_lcm (enc := fun j : Nat => PyData.int (j : Int)) (ds := List.range n) (fun j => .int (numI ns (10 + 5 * (i : Int) + (j : Int)) % (10 / max (m : Int) (n : Int)))) (wd_rngN (ea_cons (ed_var rfl) ea_nil) (by omega)) (by rw [List.length_range]; omega) (js := [5]) (by decide) fun j hj => ⟨_, gd_name, ed_op (ed_cb (ea_cons (ed_call (ea_cons (ed_var rfl) (ea_cons (ed_op (ed_op ed_int (ed_op ed_int (ed_var rfl) (od_I (.inl (by decide)))) od_I0) (ed_var rfl) od_I0) ea_nil)) (pd_of ⟨ns, 10 + 5 * (i : Int) + (j : Int), rfl, by have := List.mem_range.mp hi; have := List.mem_range.mp hj; omega, by have := List.mem_range.mp hi; have := List.mem_range.mp hj; omega, rfl⟩)) ea_nil) cd_int) (ed_var rfl) (od_I (by omega))⟩) (congrArg (fun z => Sl.d (.list z)) (ints_map (f := fun (j : Nat) => numI ns (10 + 5 * (i : Int) + (j : Int)) % (10 / max (m : Int) (n : Int)))))⟩) (by unfold lawG; rw [dLL, List.map_map]; rfl))) ?_
  generalize lawG ns m n (10 / max (m : Int) (n : Int)) = g at t qg hgl hgr ⊢
  have hrl : (g.map List.sum).length = m := by rw [List.length_map, hgl]
  have hcl : (Gm.colsums g n).length = n := Gm.colsums_len g n
  refine sz_seq (sn_asg (ed_tup (xs := [dT (g.map List.sum), dT (Gm.colsums g n)]) (ea_cons (ed_is (ed_cb (ea_cons (ed_lcm (enc := dL) (ds := g) (fun r => .int r.sum) (wd_seq (ed_var rfl) (.inl rfl)) (by omega) (js := [6]) (by decide) fun r hr' => ⟨_, gd_name, ed_cb (ea_cons (ed_var rfl) ea_nil) (cd_sum (.inl rfl))⟩) ea_nil) (cd_tupOf (.inl rfl))) (congrArg (fun z => Sl.d (.tuple z)) (ints_map (f := List.sum)))) (ea_cons (ed_is (ed_cb (ea_cons (ed_lcm (enc := fun i : Nat => PyData.int (i : Int)) (ds := List.range n) (fun i => .int (Gm.colsum g i)) (wd_rngN (ea_cons (ed_var rfl) ea_nil) (by omega)) (by rw [List.length_range]; omega) (js := [5]) (by decide) fun i hi => ⟨_, gd_name, ed_cb (ea_cons (ed_lcm (enc := dL) (ds := g) (fun r => .int (r.getD i 0)) (wd_seq (ed_var rfl) (.inl rfl)) (by omega) (js := [6]) (by decide) fun r hr' => ⟨_, gd_name, ed_op (ed_var rfl) (ed_var rfl) (od_ix (.inl rfl) (rw_at (by rw [(hgr r hr').1]; exact List.mem_range.mp hi)))⟩) ea_nil) cd_summ⟩) ea_nil) (cd_tupOf (.inl rfl))) (congrArg (fun z => Sl.d (.tuple z)) (ints_map (f := Gm.colsum g)))) ea_nil)) (by show 2 ≤ 1000000; decide)) gd_tup2) ?_
  generalize g.map List.sum = rows at t qg hrl ⊢
  generalize Gm.colsums g n = cols at t qg hcl ⊢
  refine sz_seq (sn_set (x := sT (mkSo m fun i => decide (numI ns (40 + (i : Int)) % 2 = 0))) (ed_is (ed_cb (ea_cons (ed_lc (enc := fun i : Nat => PyData.int (i : Int)) (ds := List.range m) (fun i => decide (numI ns (40 + (i : Int)) % 2 = 0)) (fun i => .int (i : Int)) (wd_rngN (ea_cons (ed_var rfl) ea_nil) (by omega)) (by rw [List.length_range]; omega) (js := [6]) (by decide) fun i hi => ⟨_, gd_name, et_test (ed_op (ed_op (ed_cb (ea_cons (ed_call (ea_cons (ed_var rfl) (ea_cons (ed_op ed_int (ed_var rfl) od_I0) ea_nil)) (pd_of ⟨ns, 40 + (i : Int), rfl, by have := List.mem_range.mp hi; omega, by have := List.mem_range.mp hi; omega, rfl⟩)) ea_nil) cd_int) ed_int (od_I (by decide))) ed_int od_eqI), fun _ => ed_var rfl⟩) ea_nil) (cd_tupOf (.inl rfl))) (by unfold mkSo; rw [sT, dT, dIs, List.map_map]; rfl))) ?_
  refine sz_seq (sn_set (x := sT (mkSo n fun i => decide (numI ns (50 + (i : Int)) % 2 = 0))) (ed_is (ed_cb (ea_cons (ed_lc (enc := fun i : Nat => PyData.int (i : Int)) (ds := List.range n) (fun i => decide (numI ns (50 + (i : Int)) % 2 = 0)) (fun i => .int (i : Int)) (wd_rngN (ea_cons (ed_var rfl) ea_nil) (by omega)) (by rw [List.length_range]; omega) (js := [5]) (by decide) fun i hi => ⟨_, gd_name, et_test (ed_op (ed_op (ed_cb (ea_cons (ed_call (ea_cons (ed_var rfl) (ea_cons (ed_op ed_int (ed_var rfl) od_I0) ea_nil)) (pd_of ⟨ns, 50 + (i : Int), rfl, by have := List.mem_range.mp hi; omega, by have := List.mem_range.mp hi; omega, rfl⟩)) ea_nil) cd_int) ed_int (od_I (by decide))) ed_int od_eqI), fun _ => ed_var rfl⟩) ea_nil) (cd_tupOf (.inl rfl))) (by unfold mkSo; rw [sT, dT, dIs, List.map_map]; rfl))) ?_
  have ls : Lines (mkSo m fun i => decide (numI ns (40 + (i : Int)) % 2 = 0)) rows.length := by rw [hrl]; exact mkSo_lines (by omega) _
  have lo : Lines (mkSo n fun i => decide (numI ns (50 + (i : Int)) % 2 = 0)) cols.length := by rw [hcl]; exact mkSo_lines (by omega) _
  generalize (mkSo m fun i => decide (numI ns (40 + (i : Int)) % 2 = 0)) = so at ls ⊢
  generalize (mkSo n fun i => decide (numI ns (50 + (i : Int)) % 2 = 0)) = ot at lo ⊢
  have bG := great_inside t ls lo
  have bL := least_inside t ls lo
  obtain ⟨bA1, bA2⟩ := any_inside t ls lo qg
  have qL : Gm.IsG rows cols (leastG rows cols so ot) := corner_isG t (all_first ls) (all_early (all_first lo) _)
  have qG : Gm.IsG rows cols (greatG rows cols so ot) := corner_isG t (all_first ls) (all_first lo)
  have hbox : [insideI (leastG rows cols so ot) so ot, insideI (greatG rows cols so ot) so ot] = boxI rows cols so ot := by rw [bL, bG]; rfl
  refine sz_seq (sn_par (ea_cons (ed_call (ea_cons (ed_var rfl) (ea_cons (ed_var rfl) (ea_cons (ed_var rfl) (ea_cons (ed_var rfl) ea_nil)))) (pd_of ⟨rows, cols, so, ot, rfl, t, ls, lo, rfl⟩)) (ea_cons (ed_call (ea_cons (ed_var rfl) (ea_cons (ed_var rfl) (ea_cons (ed_var rfl) (ea_cons (ed_var rfl) ea_nil)))) (pd_of ⟨rows, cols, so, ot, rfl, t, ls, lo, rfl⟩)) ea_nil))) ?_
  refine sz_seq (sn_le (sn_forM (α := List (List Int)) (enc := dTT) (ds := [leastG rows cols so ot, greatG rows cols so ot]) (js := [13]) (fun _ => [some (sL ns), some (sI (m : Int)), some (sI (n : Int)), some (sI (10 / max (m : Int) (n : Int))), some (.d (dLL g)), none, none, some (sT rows), some (sT cols), some (sT so), some (sT ot), some (oE CE (leastG rows cols so ot) (greatG rows cols so ot)), some (sT (boxI rows cols so ot)), none, none, none, none]) (wd_seq (ed_tup (xs := [dTT (leastG rows cols so ot), dTT (greatG rows cols so ot)]) (ea_cons (ed_fld (i := 0) (d := dTT (leastG rows cols so ot)) (ed_var rfl) cE.cl nE0 rfl look2a) (ea_cons (ed_fld (i := 1) (d := dTT (greatG rows cols so ot)) (ed_var rfl) cE.cl nE1 rfl (look2b (by decide))) ea_nil)) (by show 2 ≤ 1000000; decide)) (.inr rfl)) fun i one hi => ⟨_, gd_name, sn_le (sn_pass (et_not (b := true) (et_B (ed_call (ea_cons (ed_var rfl) (ea_cons (ed_var rfl) (ea_cons (ed_var rfl) ea_nil))) (pd_of ⟨rows, cols, _, one, rfl, t, gsT one, ?_, rfl⟩))))) (le_some (le_some (le_some (le_some (le_some (le_none (le_none (le_some (le_some (le_some (le_some (le_some (le_some (le_none (le_none (le_none (le_none le_nil)))))))))))))))))⟩) (Le.refl _)) ?_
  · rcases i with _ | _ | i
    · cases hi; exact qL
    · cases hi; exact qG
    · cases hi
  refine sz_seq (sn_pass (et_is (et_test (ed_op (ed_tup (xs := dIs [insideI (leastG rows cols so ot) so ot, insideI (greatG rows cols so ot) so ot]) (ea_cons (ed_call (ea_cons (ed_fld (i := 0) (d := dTT (leastG rows cols so ot)) (ed_var rfl) cE.cl nE0 rfl look2a) (ea_cons (ed_var rfl) (ea_cons (ed_var rfl) ea_nil))) (pd_of ⟨_, leastG rows cols so ot, so, ot, rows.length, cols.length, rfl, gsT _, ls, lo, qL.len, fun r hr' => (qL.row r hr').1, rfl⟩)) (ea_cons (ed_call (ea_cons (ed_fld (i := 1) (d := dTT (greatG rows cols so ot)) (ed_var rfl) cE.cl nE1 rfl (look2b (by decide))) (ea_cons (ed_var rfl) (ea_cons (ed_var rfl) ea_nil))) (pd_of ⟨_, greatG rows cols so ot, so, ot, rows.length, cols.length, rfl, gsT _, ls, lo, qG.len, fun r hr' => (qG.row r hr').1, rfl⟩)) ea_nil)) (by show 2 ≤ 1000000; decide)) (ed_var rfl) (od_neD (shaped_dT _) (shaped_dT _)))) (by rw [eqv_dT, decide_eq_true hbox]; rfl))) ?_
  refine sz_seq (sn_pass (et_is (et_or (b := false) (et_not (b := true) (et_is (et_test (ed_chain (ed_op (ed_var rfl) ed_int (od_ix (j := 0) (ds := dIs (boxI rows cols so ot)) (.inr rfl) rfl)) (ed_call (ea_cons (ed_var rfl) (ea_cons (ed_var rfl) (ea_cons (ed_var rfl) ea_nil))) (pd_of ⟨_, g, so, ot, rows.length, cols.length, rfl, gsLL _, ls, lo, qg.len, fun r hr' => (qg.row r hr').1, rfl⟩)) (ed_op (ed_var rfl) ed_int (od_ix (j := 1) (ds := dIs (boxI rows cols so ot)) (.inr rfl) rfl)) od_B0 od_B0)) (by rw [decide_eq_true bA1, decide_eq_true bA2]; rfl))) fun _ => et_not (b := true) (et_is (et_B (ed_meth (ed_var rfl) (look2n (by decide) (by decide)) (ea_cons (ed_var rfl) (ea_cons (ed_var rfl) (ea_cons (ed_var rfl) (ea_cons (ed_var rfl) ea_nil)))) (pd_of ⟨_, _, rows, cols, so, ot, rfl, t, ls, lo, grid_of_isG t qL, grid_of_isG t qG, rfl⟩))) (decide_eq_true hbox))) rfl)) ?_
  refine sz_seq (sn_set (x := sT (mkSo m fun i => !decide ((i : Int) ∈ so))) (ed_is (ed_cb (ea_cons (ed_lc (enc := fun i : Nat => PyData.int (i : Int)) (ds := List.range m) (fun i => !decide ((i : Int) ∈ so)) (fun i => .int (i : Int)) (wd_rngN (ea_cons (ed_var rfl) ea_nil) (by omega)) (by rw [List.length_range]; omega) (js := [6]) (by decide) fun i hi => ⟨_, gd_name, et_test (ed_op (ed_var rfl) (ed_var rfl) (od_notIn (.inr rfl))), fun _ => ed_var rfl⟩) ea_nil) (cd_tupOf (.inl rfl))) (by unfold mkSo; rw [sT, dT, dIs, List.map_map]; rfl))) ?_
  have lr : Lines (mkSo m fun i => !decide ((i : Int) ∈ so)) rows.length := by rw [hrl]; exact mkSo_lines (by omega) _
  have hrest : ((mkSo m fun i => !decide ((i : Int) ∈ so)).map (la rows)).sum = rows.sum - (so.map (la rows)).sum := by rw [← hrl]; exact rest_sum ls
  generalize (mkSo m fun i => !decide ((i : Int) ∈ so)) = re at lr hrest ⊢
  refine sz_seq (sn_par (ea_cons (ed_call (ea_cons (ed_var rfl) (ea_cons (ed_var rfl) (ea_cons (ed_var rfl) (ea_cons (ed_var rfl) ea_nil)))) (pd_of ⟨rows, cols, re, ot, rfl, t, lr, lo, rfl⟩)) (ea_cons (show Ed K _ _ (sI (ot.map (la cols)).sum) from ed_cb (ea_cons (ed_lcm (enc := PyData.int) (ds := ot) (fun i => .int (la cols i)) (wd_seq (ed_var rfl) (.inr rfl)) (by have := lo.2.2; omega) (js := [5]) (by decide) fun i hi => ⟨_, gd_name, ed_op (ed_var rfl) (ed_var rfl) (od_ixI (.inr rfl) (lo.1 i hi).1 (la_at (lo.1 i hi).1 (lo.1 i hi).2))⟩) ea_nil) cd_summ) ea_nil))) ?_
  have hlate : [(ot.map (la cols)).sum - min (re.map (la rows)).sum (ot.map (la cols)).sum, (ot.map (la cols)).sum - max 0 ((re.map (la rows)).sum + (ot.map (la cols)).sum - rows.sum)] = boxI rows cols so ot := by
    unfold boxI
    rw [hrest]
    have h1 : (ot.map (la cols)).sum - min (rows.sum - (so.map (la rows)).sum) (ot.map (la cols)).sum = max 0 ((so.map (la rows)).sum + (ot.map (la cols)).sum - rows.sum) := by omega
    have h2 : (ot.map (la cols)).sum - max 0 (rows.sum - (so.map (la rows)).sum + (ot.map (la cols)).sum - rows.sum) = min (so.map (la rows)).sum (ot.map (la cols)).sum := by omega
    rw [h1, h2]
  refine sz_seq (sn_pass (et_is (et_test (ed_op (ed_tup (xs := dIs [(ot.map (la cols)).sum - min (re.map (la rows)).sum (ot.map (la cols)).sum, (ot.map (la cols)).sum - max 0 ((re.map (la rows)).sum + (ot.map (la cols)).sum - rows.sum)]) (ea_cons (ed_op (ed_var rfl) (ed_op (ed_var rfl) ed_int (od_ix (j := 1) (ds := dIs (boxI rows cols re ot)) (.inr rfl) rfl)) od_I0) (ea_cons (ed_op (ed_var rfl) (ed_op (ed_var rfl) ed_int (od_ix (j := 0) (ds := dIs (boxI rows cols re ot)) (.inr rfl) rfl)) od_I0) ea_nil)) (by show 2 ≤ 1000000; decide)) (ed_var rfl) (od_neD (shaped_dT _) (shaped_dT _)))) (by rw [eqv_dT, decide_eq_true hlate]; rfl))) ?_
  have hsame : decide ([insideI g so ot, insideI g so ot] = boxI rows cols so ot) = decide (max 0 ((so.map (la rows)).sum + (ot.map (la cols)).sum - rows.sum) = min (so.map (la rows)).sum (ot.map (la cols)).sum) := by
    refine decide_eq_decide.mpr ⟨fun e => ?_, fun e => ?_⟩
    · unfold boxI at e
      injection e with e1 e2
      injection e2 with e2 _
      rw [← e1, ← e2]
    · unfold boxI
      rw [show insideI g so ot = max 0 ((so.map (la rows)).sum + (ot.map (la cols)).sum - rows.sum) by omega, ← e]
  refine sz_seq (sn_pass (et_is (et_test (ed_op (ed_meth (ed_make (ea_cons (ed_var rfl) (ea_cons (ed_var rfl) ea_nil)) ⟨_, _, g, g, rfl, gsLL g, gsLL g, by show g.length ≤ 1000; omega, by show g.length ≤ 1000; omega, rfl⟩ rfl) (look2n (by decide) (by decide)) (ea_cons (ed_var rfl) (ea_cons (ed_var rfl) (ea_cons (ed_var rfl) (ea_cons (ed_var rfl) ea_nil)))) (pd_of ⟨g, g, rows, cols, so, ot, rfl, t, ls, lo, grid_of_isG t qg, grid_of_isG t qg, rfl⟩)) (ed_op (ed_op (ed_var rfl) ed_int (od_ix (j := 0) (ds := dIs (boxI rows cols so ot)) (.inr rfl) rfl)) (ed_op (ed_var rfl) ed_int (od_ix (j := 1) (ds := dIs (boxI rows cols so ot)) (.inr rfl) rfl)) od_eqI) od_neB)) (by rw [hsame, decide_eq_true rfl]; rfl))) ?_
  refine sz_bits (ea_cons (ed_var rfl) (ea_cons (ed_var rfl) (ea_cons (ed_var rfl) ea_nil))) t (gsLL g) qg (sz_seq (sn_pass (et_not (b := true) (et_B (ed_call (ea_cons (ed_var rfl) (ea_cons (ed_var rfl) (ea_cons (show Ed K _ _ (sI ((numI ns 60 % Gm.ways rows cols).toNat : Int)) from ed_is (ed_op (ed_cb (ea_cons (ed_call (ea_cons (ed_var rfl) (ea_cons ed_int ea_nil)) (pd_of ⟨ns, 60, rfl, by decide, by decide, rfl⟩)) ea_nil) cd_int) (ed_call (ea_cons (ed_var rfl) (ea_cons (ed_var rfl) ea_nil)) (pd_of ⟨rows, cols, rfl, t, rfl⟩)) (od_I ?_)) ?_) ea_nil))) (pd_of ⟨rows, cols, _, rfl, t, ?_, rfl⟩))))) (sz_sr (sr_ret (ed_call (ea_cons (ed_var rfl) (ea_cons (ed_var rfl) ea_nil)) (pd_of ⟨rows, cols, rfl, t, rfl⟩)))))
  all_goals
    have hw : 0 < (Gm.mats rows cols).length := List.length_pos_of_mem ((Gm.mem_mats (tots_nnc t)).mpr qg)
    have hw2 : Gm.ways rows cols = ((Gm.mats rows cols).length : Int) := rfl
    have h1 := Int.emod_nonneg (numI ns 60) (show Gm.ways rows cols ≠ 0 by omega)
    have h2 := Int.emod_lt_of_pos (numI ns 60) (show 0 < Gm.ways rows cols by omega)
  · omega
  · rw [Int.toNat_of_nonneg h1]
  · omega
end
end G29
end L2
set_option Elab.async false
set_option linter.all false
set_option maxRecDepth 100000
set_option maxHeartbeats 4000000
namespace L2
namespace G29
open PySem PySem.Spec PyProof.Rows

theorem kit_ne {K : PySem.W.Frag} {t : Value} {C : Addr} {b : Bool} (h : (t == Value.ref C) = false) (i : PySem.W.isClsIn K C = true) (ty : PySem.W.typeIn K (.ref C) = some (.type "type")) (s : PySem.W.subIn K t (.ref C) = some b) : PySem.W.kitOne K t (.ref C) = some b := by
  unfold PySem.W.kitOne
  rw [h, if_neg (by decide)]
  have i' : (PySem.W.clsIn K C).isSome = true := i
  show (if ((PySem.W.clsIn K C).isSome && PySem.W.typeIn K (Value.ref C) == some (Value.type "type")) = true then PySem.W.subIn K t (Value.ref C) else none) = some b
  rw [i', ty]
  rw [if_pos (by decide)]
  exact s
theorem kit_eq {K : PySem.W.Frag} {C : Addr} : PySem.W.kitOne K (.ref C) (.ref C) = some true := by
  unfold PySem.W.kitOne
  rw [if_pos (by first | exact beq_self_eq_true _ | simp)]
theorem kn_none {K : Params → PySem.W.Frag} {as : List Addr} {e : ∀ P, as = (K P).map (·.1)} {ts : List Addr} {w : World} {h : Heap} (Y : (PySem.W.kmHook K as e ts).says w h) {P : Addr} (hP : P ∉ as) : (K w.params).lookup P = none := by
  rw [e w.params] at hP
  show List.lookup P (K w.params) = none
  generalize K w.params = l at hP
  induction l with
  | nil => rfl
  | cons x l ih =>
    rw [List.map_cons] at hP
    rw [List.lookup_cons, beq_eq_false_iff_ne.mpr (fun z => hP (by rw [z]; exact List.mem_cons_self))]
    exact ih fun z => hP (List.mem_cons_of_mem _ z)
/-- the code object of the def nm at h, its table empty -/
def TabOf (nm : Str) (mg : Str → Option Value) (h : Heap) : Prop := ∃ (a : Addr) (o : Obj) (fd : FuncData) (c P : Addr), mg nm = some (.ref a) ∧ h.get? a = some o ∧ o.data = .func fd ∧ fd.code = .ref c ∧ PySem.W.CodeHd h c P ∧ h.get? P = some { cls := .none, data := .fields #[] }
theorem walk_nm {l : PySem.W.OpenLaw} {n k : Nat} {q : Program} {loose : List Str} {XP : (Str → Option Value) → Heap → Prop} {YP : World → Heap → Prop} {d : DefRec} {K : Params → PySem.W.Frag} {x nm : Str}
    (hn : l.most = some n) (hn2 : n ≤ sizeLine) (hdf : d.params.defaults = []) (hr : Room k callerA) (hrec : ((recsOf q).any fun e => e.name == nm) = true) (hY : ∀ (w : World) (h : Heap), YP w h → (K w.params).In h)
    (F : ∀ (w : World) (mg : Str → Option Value) (fa : Addr) (h : Heap), YP w h → (K w.params).In h → h.Ns mainGlobals mg → mg d.name = some (.ref fa) → TabOf nm mg h → LamX.LawAtS l w (K w.params) CX0 k n x mg fa h) :
    PySem.W.WalkO q loose XP YP l.row.toRowW d [] (fun f vs => PySem.call f vs) := by
  refine Att.attach_callB hn hdf fun w s₀ s₁ mg mb fa o pm cd doc a vs ns G Y ho hd hcd hmg hobj hints hlen hbits hg => ?_
  have KX := hY w _ Y
  have tab : TabOf nm mg s₁.heap := by
    obtain ⟨dL, hm, hn1⟩ := List.any_eq_true.mp hrec
    have e : dL.name = nm := beq_iff_eq.mp hn1
    obtain ⟨a', o', fd', c', P', h1, h2, h3, h4, h5, h6⟩ := G.T.tab dL hm
    rw [e] at h1
    exact ⟨a', o', fd', c', P', h1, h2, h3, h4, PySem.W.CodeHd.of h5 h6, h6.2⟩
  obtain ⟨fd, cs, sp, hT, nT, C, hb, hsp, hF⟩ := F w mg fa _ Y KX G.T.g hmg tab
  exact LamX.law_callTs KX G.T.g G.T.b G.T.builtins G.T.nolimit hg hT nT C G.T.bmain hobj hints (Nat.le_trans hlen hn2) hr hF hb (fun H hH hS => hsp H a ns hlen hbits hH hS) fun H e s' z => z
theorem all_mk {l : PySem.W.OpenLaw} {w : World} {K : PySem.W.Frag} {h : Heap} {mg : Str → Option Value} {fa : Addr} (X : K.In h) (G : h.Ns mainGlobals mg) (hfa : mg "law" = some (.ref fa)) (tab : TabOf "zero_one" mg h)
    {f0 : Addr} {od0 an0 : Option Addr} {sl0 : Array (Option Value)} {oc0 kV0 dc0 pm0 cd0 ct0 : Value}
    {f1 : Addr} {od1 an1 : Option Addr} {sl1 : Array (Option Value)} {oc1 kV1 dc1 pm1 cd1 ct1 : Value}
    {f2 : Addr} {od2 an2 : Option Addr} {sl2 : Array (Option Value)} {oc2 kV2 dc2 pm2 cd2 ct2 : Value}
    {f3 : Addr} {od3 an3 : Option Addr} {sl3 : Array (Option Value)} {oc3 kV3 dc3 pm3 cd3 ct3 : Value}
    {f4 : Addr} {od4 an4 : Option Addr} {sl4 : Array (Option Value)} {oc4 kV4 dc4 pm4 cd4 ct4 : Value}
    {f5 : Addr} {od5 an5 : Option Addr} {sl5 : Array (Option Value)} {oc5 kV5 dc5 pm5 cd5 ct5 : Value}
    {f6 : Addr} {od6 an6 : Option Addr} {sl6 : Array (Option Value)} {oc6 kV6 dc6 pm6 cd6 ct6 : Value}
    {f7 : Addr} {od7 an7 : Option Addr} {sl7 : Array (Option Value)} {oc7 kV7 dc7 pm7 cd7 ct7 : Value}
    {f8 : Addr} {od8 an8 : Option Addr} {sl8 : Array (Option Value)} {oc8 kV8 dc8 pm8 cd8 ct8 : Value}
    {f9 : Addr} {od9 an9 : Option Addr} {sl9 : Array (Option Value)} {oc9 kV9 dc9 pm9 cd9 ct9 : Value}
    {f10 : Addr} {od10 an10 : Option Addr} {sl10 : Array (Option Value)} {oc10 kV10 dc10 pm10 cd10 ct10 : Value}
    {f11 : Addr} {od11 an11 : Option Addr} {sl11 : Array (Option Value)} {oc11 kV11 dc11 pm11 cd11 ct11 : Value}
    {f12 : Addr} {od12 an12 : Option Addr} {sl12 : Array (Option Value)} {oc12 kV12 dc12 pm12 cd12 ct12 : Value}
    {f13 : Addr} {od13 an13 : Option Addr} {sl13 : Array (Option Value)} {oc13 kV13 dc13 pm13 cd13 ct13 : Value}
    {f14 : Addr} {od14 an14 : Option Addr} {sl14 : Array (Option Value)} {oc14 kV14 dc14 pm14 cd14 ct14 : Value}
    {f15 : Addr} {od15 an15 : Option Addr} {sl15 : Array (Option Value)} {oc15 kV15 dc15 pm15 cd15 ct15 : Value}
    {f16 : Addr} {od16 an16 : Option Addr} {sl16 : Array (Option Value)} {oc16 kV16 dc16 pm16 cd16 ct16 : Value}
    {f17 : Addr} {od17 an17 : Option Addr} {sl17 : Array (Option Value)} {oc17 kV17 dc17 pm17 cd17 ct17 : Value}
    {f18 : Addr} {od18 an18 : Option Addr} {sl18 : Array (Option Value)} {oc18 kV18 dc18 pm18 cd18 ct18 : Value}
    {f19 : Addr} {od19 an19 : Option Addr} {sl19 : Array (Option Value)} {oc19 kV19 dc19 pm19 cd19 ct19 : Value}
    {f20 : Addr} {od20 an20 : Option Addr} {sl20 : Array (Option Value)} {oc20 kV20 dc20 pm20 cd20 ct20 : Value}
    {f21 : Addr} {od21 an21 : Option Addr} {sl21 : Array (Option Value)} {oc21 kV21 dc21 pm21 cd21 ct21 : Value}
    {f22 : Addr} {od22 an22 : Option Addr} {sl22 : Array (Option Value)} {oc22 kV22 dc22 pm22 cd22 ct22 : Value}
    {f23 : Addr} {od23 an23 : Option Addr} {sl23 : Array (Option Value)} {oc23 kV23 dc23 pm23 cd23 ct23 : Value}
    {f24 : Addr} {od24 an24 : Option Addr} {sl24 : Array (Option Value)} {oc24 kV24 dc24 pm24 cd24 ct24 : Value}
    {f25 : Addr} {od25 an25 : Option Addr} {sl25 : Array (Option Value)} {oc25 kV25 dc25 pm25 cd25 ct25 : Value}
    {CE : Addr}
    {CB : Addr}
    {CK : Addr}
    {fBoxEndsInit : Addr} {odBoxEndsInit anBoxEndsInit : Option Addr} {slBoxEndsInit : Array (Option Value)} {ocBoxEndsInit kVBoxEndsInit dcBoxEndsInit pmBoxEndsInit cdBoxEndsInit ctBoxEndsInit : Value}
    {fBoxEndsShows : Addr} {odBoxEndsShows anBoxEndsShows : Option Addr} {slBoxEndsShows : Array (Option Value)} {ocBoxEndsShows kVBoxEndsShows dcBoxEndsShows pmBoxEndsShows cdBoxEndsShows ctBoxEndsShows : Value}
    {fBitsInit : Addr} {odBitsInit anBitsInit : Option Addr} {slBitsInit : Array (Option Value)} {ocBitsInit kVBitsInit dcBitsInit pmBitsInit cdBitsInit ctBitsInit : Value}
    {fBitsShows : Addr} {odBitsShows anBitsShows : Option Addr} {slBitsShows : Array (Option Value)} {ocBitsShows kVBitsShows dcBitsShows pmBitsShows cdBitsShows ctBitsShows : Value}
    {fBlockedInit : Addr} {odBlockedInit anBlockedInit : Option Addr} {slBlockedInit : Array (Option Value)} {ocBlockedInit kVBlockedInit dcBlockedInit pmBlockedInit cdBlockedInit ctBlockedInit : Value}
    {fBlockedShows : Addr} {odBlockedShows anBlockedShows : Option Addr} {slBlockedShows : Array (Option Value)} {ocBlockedShows kVBlockedShows dcBlockedShows pmBlockedShows cdBlockedShows ctBlockedShows : Value}
    {tL tT : Tok}
    {cZ PZ : Addr} {eZ : Value} {ddZ : Option Addr} {vsZ : Array Value} {slZ : Array (Option Value)}
    (a0 : PySem.W.nsIn K mainGlobals "is_number" = some (some (.ref f0)))
    (l0 : K.lookup f0 = some ⟨oc0, od0, .func (PySem.W.fnOf "is_number" "is_number" (defArgs sIsNumber) (defBody sIsNumber) (defScope sIsNumber) .none kV0 dc0 pm0 an0 cd0 ct0), sl0⟩)
    (c0 : PySem.W.codeIn K cd0 "is_number" = true)
    (k0 : PySem.W.keepIn K (.ref f0) = true)
    (a1 : PySem.W.nsIn K mainGlobals "are_totals" = some (some (.ref f1)))
    (l1 : K.lookup f1 = some ⟨oc1, od1, .func (PySem.W.fnOf "are_totals" "are_totals" (defArgs sAreTotals) (defBody sAreTotals) (defScope sAreTotals) .none kV1 dc1 pm1 an1 cd1 ct1), sl1⟩)
    (c1 : PySem.W.codeIn K cd1 "are_totals" = true)
    (k1 : PySem.W.keepIn K (.ref f1) = true)
    (a2 : PySem.W.nsIn K mainGlobals "check_totals" = some (some (.ref f2)))
    (l2 : K.lookup f2 = some ⟨oc2, od2, .func (PySem.W.fnOf "check_totals" "check_totals" (defArgs sCheckTotals) (defBody sCheckTotals) (defScope sCheckTotals) .none kV2 dc2 pm2 an2 cd2 ct2), sl2⟩)
    (c2 : PySem.W.codeIn K cd2 "check_totals" = true)
    (k2 : PySem.W.keepIn K (.ref f2) = true)
    (a3 : PySem.W.nsIn K mainGlobals "is_lines" = some (some (.ref f3)))
    (l3 : K.lookup f3 = some ⟨oc3, od3, .func (PySem.W.fnOf "is_lines" "is_lines" (defArgs sIsLines) (defBody sIsLines) (defScope sIsLines) .none kV3 dc3 pm3 an3 cd3 ct3), sl3⟩)
    (c3 : PySem.W.codeIn K cd3 "is_lines" = true)
    (k3 : PySem.W.keepIn K (.ref f3) = true)
    (a4 : PySem.W.nsIn K mainGlobals "check_box" = some (some (.ref f4)))
    (l4 : K.lookup f4 = some ⟨oc4, od4, .func (PySem.W.fnOf "check_box" "check_box" (defArgs sCheckBox) (defBody sCheckBox) (defScope sCheckBox) .none kV4 dc4 pm4 an4 cd4 ct4), sl4⟩)
    (c4 : PySem.W.codeIn K cd4 "check_box" = true)
    (k4 : PySem.W.keepIn K (.ref f4) = true)
    (a5 : PySem.W.nsIn K mainGlobals "is_grid" = some (some (.ref f5)))
    (l5 : K.lookup f5 = some ⟨oc5, od5, .func (PySem.W.fnOf "is_grid" "is_grid" (defArgs sIsGrid) (defBody sIsGrid) (defScope sIsGrid) .none kV5 dc5 pm5 an5 cd5 ct5), sl5⟩)
    (c5 : PySem.W.codeIn K cd5 "is_grid" = true)
    (k5 : PySem.W.keepIn K (.ref f5) = true)
    (a6 : PySem.W.nsIn K mainGlobals "inside" = some (some (.ref f6)))
    (l6 : K.lookup f6 = some ⟨oc6, od6, .func (PySem.W.fnOf "inside" "inside" (defArgs sInside) (defBody sInside) (defScope sInside) .none kV6 dc6 pm6 an6 cd6 ct6), sl6⟩)
    (c6 : PySem.W.codeIn K cd6 "inside" = true)
    (k6 : PySem.W.keepIn K (.ref f6) = true)
    (a7 : PySem.W.nsIn K mainGlobals "box_by" = some (some (.ref f7)))
    (l7 : K.lookup f7 = some ⟨oc7, od7, .func (PySem.W.fnOf "box_by" "box_by" (defArgs sBoxBy) (defBody sBoxBy) (defScope sBoxBy) .none kV7 dc7 pm7 an7 cd7 ct7), sl7⟩)
    (c7 : PySem.W.codeIn K cd7 "box_by" = true)
    (k7 : PySem.W.keepIn K (.ref f7) = true)
    (a8 : PySem.W.nsIn K mainGlobals "corner_grid" = some (some (.ref f8)))
    (l8 : K.lookup f8 = some ⟨oc8, od8, .func (PySem.W.fnOf "corner_grid" "corner_grid" (defArgs sCornerGrid) (defBody sCornerGrid) (defScope sCornerGrid) .none kV8 dc8 pm8 an8 cd8 ct8), sl8⟩)
    (c8 : PySem.W.codeIn K cd8 "corner_grid" = true)
    (k8 : PySem.W.keepIn K (.ref f8) = true)
    (a9 : PySem.W.nsIn K mainGlobals "first_ones" = some (some (.ref f9)))
    (l9 : K.lookup f9 = some ⟨oc9, od9, .func (PySem.W.fnOf "first_ones" "first_ones" (defArgs sFirstOnes) (defBody sFirstOnes) (defScope sFirstOnes) .none kV9 dc9 pm9 an9 cd9 ct9), sl9⟩)
    (c9 : PySem.W.codeIn K cd9 "first_ones" = true)
    (k9 : PySem.W.keepIn K (.ref f9) = true)
    (a10 : PySem.W.nsIn K mainGlobals "box_ends" = some (some (.ref f10)))
    (l10 : K.lookup f10 = some ⟨oc10, od10, .func (PySem.W.fnOf "box_ends" "box_ends" (defArgs sBoxEnds) (defBody sBoxEnds) (defScope sBoxEnds) .none kV10 dc10 pm10 an10 cd10 ct10), sl10⟩)
    (c10 : PySem.W.codeIn K cd10 "box_ends" = true)
    (k10 : PySem.W.keepIn K (.ref f10) = true)
    (a11 : PySem.W.nsIn K mainGlobals "reach_box" = some (some (.ref f11)))
    (l11 : K.lookup f11 = some ⟨oc11, od11, .func (PySem.W.fnOf "reach_box" "reach_box" (defArgs sReachBox) (defBody sReachBox) (defScope sReachBox) .none kV11 dc11 pm11 an11 cd11 ct11), sl11⟩)
    (c11 : PySem.W.codeIn K cd11 "reach_box" = true)
    (k11 : PySem.W.keepIn K (.ref f11) = true)
    (a12 : PySem.W.nsIn K mainGlobals "rows_within" = some (some (.ref f12)))
    (l12 : K.lookup f12 = some ⟨oc12, od12, .func (PySem.W.fnOf "rows_within" "rows_within" (defArgs sRowsWithin) (defBody sRowsWithin) (defScope sRowsWithin) .none kV12 dc12 pm12 an12 cd12 ct12), sl12⟩)
    (c12 : PySem.W.codeIn K cd12 "rows_within" = true)
    (k12 : PySem.W.keepIn K (.ref f12) = true)
    (a13 : PySem.W.nsIn K mainGlobals "ways_for" = some (some (.ref f13)))
    (l13 : K.lookup f13 = some ⟨oc13, od13, .func (PySem.W.fnOf "ways_for" "ways_for" (defArgs sWaysFor) (defBody sWaysFor) (defScope sWaysFor) .none kV13 dc13 pm13 an13 cd13 ct13), sl13⟩)
    (c13 : PySem.W.codeIn K cd13 "ways_for" = true)
    (k13 : PySem.W.keepIn K (.ref f13) = true)
    (a14 : PySem.W.nsIn K mainGlobals "count_grids" = some (some (.ref f14)))
    (l14 : K.lookup f14 = some ⟨oc14, od14, .func (PySem.W.fnOf "count_grids" "count_grids" (defArgs sCountGrids) (defBody sCountGrids) (defScope sCountGrids) .none kV14 dc14 pm14 an14 cd14 ct14), sl14⟩)
    (c14 : PySem.W.codeIn K cd14 "count_grids" = true)
    (k14 : PySem.W.keepIn K (.ref f14) = true)
    (a15 : PySem.W.nsIn K mainGlobals "nth_grid" = some (some (.ref f15)))
    (l15 : K.lookup f15 = some ⟨oc15, od15, .func (PySem.W.fnOf "nth_grid" "nth_grid" (defArgs sNthGrid) (defBody sNthGrid) (defScope sNthGrid) .none kV15 dc15 pm15 an15 cd15 ct15), sl15⟩)
    (c15 : PySem.W.codeIn K cd15 "nth_grid" = true)
    (k15 : PySem.W.keepIn K (.ref f15) = true)
    (a16 : PySem.W.nsIn K mainGlobals "taken" = some (some (.ref f16)))
    (l16 : K.lookup f16 = some ⟨oc16, od16, .func (PySem.W.fnOf "taken" "taken" (defArgs sTaken) (defBody sTaken) (defScope sTaken) .none kV16 dc16 pm16 an16 cd16 ct16), sl16⟩)
    (c16 : PySem.W.codeIn K cd16 "taken" = true)
    (k16 : PySem.W.keepIn K (.ref f16) = true)
    (a17 : PySem.W.nsIn K mainGlobals "zero_one" = some (some (.ref f17)))
    (l17 : K.lookup f17 = some ⟨oc17, od17, .func (PySem.W.fnOf "zero_one" "zero_one" (defArgs sZeroOne) (defBody sZeroOne) (defScope sZeroOne) .none kV17 dc17 pm17 an17 cd17 ct17), sl17⟩)
    (c17 : PySem.W.codeIn K cd17 "zero_one" = true)
    (k17 : PySem.W.keepIn K (.ref f17) = true)
    (a18 : PySem.W.nsIn K mainGlobals "_law_number" = some (some (.ref f18)))
    (l18 : K.lookup f18 = some ⟨oc18, od18, .func (PySem.W.fnOf "_law_number" "_law_number" (defArgs sLawNumber) (defBody sLawNumber) (defScope sLawNumber) .none kV18 dc18 pm18 an18 cd18 ct18), sl18⟩)
    (c18 : PySem.W.codeIn K cd18 "_law_number" = true)
    (k18 : PySem.W.keepIn K (.ref f18) = true)
    (a19 : PySem.W.nsIn K mainGlobals "_law_is_grid" = some (some (.ref f19)))
    (l19 : K.lookup f19 = some ⟨oc19, od19, .func (PySem.W.fnOf "_law_is_grid" "_law_is_grid" (defArgs sLawIsGrid) (defBody sLawIsGrid) (defScope sLawIsGrid) .none kV19 dc19 pm19 an19 cd19 ct19), sl19⟩)
    (c19 : PySem.W.codeIn K cd19 "_law_is_grid" = true)
    (k19 : PySem.W.keepIn K (.ref f19) = true)
    (a20 : PySem.W.nsIn K mainGlobals "_law_inside" = some (some (.ref f20)))
    (l20 : K.lookup f20 = some ⟨oc20, od20, .func (PySem.W.fnOf "_law_inside" "_law_inside" (defArgs sLawInside) (defBody sLawInside) (defScope sLawInside) .none kV20 dc20 pm20 an20 cd20 ct20), sl20⟩)
    (c20 : PySem.W.codeIn K cd20 "_law_inside" = true)
    (k20 : PySem.W.keepIn K (.ref f20) = true)
    (a21 : PySem.W.nsIn K mainGlobals "_law_firsts" = some (some (.ref f21)))
    (l21 : K.lookup f21 = some ⟨oc21, od21, .func (PySem.W.fnOf "_law_firsts" "_law_firsts" (defArgs sLawFirsts) (defBody sLawFirsts) (defScope sLawFirsts) .none kV21 dc21 pm21 an21 cd21 ct21), sl21⟩)
    (c21 : PySem.W.codeIn K cd21 "_law_firsts" = true)
    (k21 : PySem.W.keepIn K (.ref f21) = true)
    (a22 : PySem.W.nsIn K mainGlobals "_law_count_right" = some (some (.ref f22)))
    (l22 : K.lookup f22 = some ⟨oc22, od22, .func (PySem.W.fnOf "_law_count_right" "_law_count_right" (defArgs sLawCountRight) (defBody sLawCountRight) (defScope sLawCountRight) .none kV22 dc22 pm22 an22 cd22 ct22), sl22⟩)
    (c22 : PySem.W.codeIn K cd22 "_law_count_right" = true)
    (k22 : PySem.W.keepIn K (.ref f22) = true)
    (a23 : PySem.W.nsIn K mainGlobals "_law_index_right" = some (some (.ref f23)))
    (l23 : K.lookup f23 = some ⟨oc23, od23, .func (PySem.W.fnOf "_law_index_right" "_law_index_right" (defArgs sLawIndexRight) (defBody sLawIndexRight) (defScope sLawIndexRight) .none kV23 dc23 pm23 an23 cd23 ct23), sl23⟩)
    (c23 : PySem.W.codeIn K cd23 "_law_index_right" = true)
    (k23 : PySem.W.keepIn K (.ref f23) = true)
    (a24 : PySem.W.nsIn K mainGlobals "_law_bits_right" = some (some (.ref f24)))
    (l24 : K.lookup f24 = some ⟨oc24, od24, .func (PySem.W.fnOf "_law_bits_right" "_law_bits_right" (defArgs sLawBitsRight) (defBody sLawBitsRight) (defScope sLawBitsRight) .none kV24 dc24 pm24 an24 cd24 ct24), sl24⟩)
    (c24 : PySem.W.codeIn K cd24 "_law_bits_right" = true)
    (k24 : PySem.W.keepIn K (.ref f24) = true)
    (a25 : PySem.W.nsIn K mainGlobals "law" = some (some (.ref f25)))
    (l25 : K.lookup f25 = some ⟨oc25, od25, .func (PySem.W.fnOf "law" "law" (defArgs sLaw) (defBody sLaw) (defScope sLaw) .none kV25 dc25 pm25 an25 cd25 ct25), sl25⟩)
    (c25 : PySem.W.codeIn K cd25 "law" = true)
    (k25 : PySem.W.keepIn K (.ref f25) = true)
    (gCE : PySem.W.nsIn K mainGlobals "BoxEnds" = some (some (.ref CE)))
    (pgCE : PySem.W.plainGet K CE Str.empty = true)
    (hdCE : PySem.W.hasDictIn K CE = true)
    (poCE : PySem.W.plainOver K CE = true)
    (saCE : PySem.W.findIn K (.ref CE) "__setattr__" = some (some (.builtin "object.__setattr__")))
    (mkCE : PySem.W.makesIn K CE = true)
    (kpCE : PySem.W.keepIn K (.ref CE) = true)
    (haCE : PySem.W.findIn K (.ref CE) "__class__" = some (some (.builtin "object.__class__")))
    (hmCE : PySem.W.mroIn K CE (.type "object") = some true)
    (n0CE : PySem.W.findIn K (.ref CE) "least" = some none)
    (n1CE : PySem.W.findIn K (.ref CE) "greatest" = some none)
    (gCB : PySem.W.nsIn K mainGlobals "Bits" = some (some (.ref CB)))
    (pgCB : PySem.W.plainGet K CB Str.empty = true)
    (hdCB : PySem.W.hasDictIn K CB = true)
    (poCB : PySem.W.plainOver K CB = true)
    (saCB : PySem.W.findIn K (.ref CB) "__setattr__" = some (some (.builtin "object.__setattr__")))
    (mkCB : PySem.W.makesIn K CB = true)
    (kpCB : PySem.W.keepIn K (.ref CB) = true)
    (haCB : PySem.W.findIn K (.ref CB) "__class__" = some (some (.builtin "object.__class__")))
    (hmCB : PySem.W.mroIn K CB (.type "object") = some true)
    (n0CB : PySem.W.findIn K (.ref CB) "grid" = some none)
    (gCK : PySem.W.nsIn K mainGlobals "Blocked" = some (some (.ref CK)))
    (pgCK : PySem.W.plainGet K CK Str.empty = true)
    (hdCK : PySem.W.hasDictIn K CK = true)
    (poCK : PySem.W.plainOver K CK = true)
    (saCK : PySem.W.findIn K (.ref CK) "__setattr__" = some (some (.builtin "object.__setattr__")))
    (mkCK : PySem.W.makesIn K CK = true)
    (kpCK : PySem.W.keepIn K (.ref CK) = true)
    (haCK : PySem.W.findIn K (.ref CK) "__class__" = some (some (.builtin "object.__class__")))
    (hmCK : PySem.W.mroIn K CK (.type "object") = some true)
    (n0CK : PySem.W.findIn K (.ref CK) "some" = some none)
    (hn : PySem.W.specialIn K (.builtin "object.__class__") "__get__" = some (some (.builtin "getset_descriptor.__get__")))
    (htk : PySem.W.takesIn K (.builtin "object.__class__") = some true)
    (tyCB : PySem.W.typeIn K (.ref CB) = some (.type "type"))
    (isCB : PySem.W.isClsIn K CB = true)
    (tyCK : PySem.W.typeIn K (.ref CK) = some (.type "type"))
    (isCK : PySem.W.isClsIn K CK = true)
    (qCBCK : PySem.W.subIn K (.ref CB) (.ref CK) = some false)
    (eCBCK : (Value.ref CB == Value.ref CK) = false)
    (qCKCB : PySem.W.subIn K (.ref CK) (.ref CB) = some false)
    (eCKCB : (Value.ref CK == Value.ref CB) = false)
    (aBoxEndsInit : PySem.W.findIn K (.ref CE) "__init__" = some (some (.ref fBoxEndsInit)))
    (iBoxEndsInit : PySem.W.isFn K (.ref fBoxEndsInit) = true)
    (lBoxEndsInit : K.lookup fBoxEndsInit = some ⟨ocBoxEndsInit, odBoxEndsInit, .func (PySem.W.fnOf "__init__" "BoxEnds.__init__" (defArgs sBoxEndsInit) (defBody sBoxEndsInit) (defScope sBoxEndsInit) .none kVBoxEndsInit dcBoxEndsInit pmBoxEndsInit anBoxEndsInit cdBoxEndsInit ctBoxEndsInit), slBoxEndsInit⟩)
    (cBoxEndsInit : PySem.W.codeIn K cdBoxEndsInit "BoxEnds.__init__" = true)
    (kBoxEndsInit : PySem.W.keepIn K (.ref fBoxEndsInit) = true)
    (aBoxEndsShows : PySem.W.findIn K (.ref CE) "shows" = some (some (.ref fBoxEndsShows)))
    (iBoxEndsShows : PySem.W.isFn K (.ref fBoxEndsShows) = true)
    (lBoxEndsShows : K.lookup fBoxEndsShows = some ⟨ocBoxEndsShows, odBoxEndsShows, .func (PySem.W.fnOf "shows" "BoxEnds.shows" (defArgs sBoxEndsShows) (defBody sBoxEndsShows) (defScope sBoxEndsShows) .none kVBoxEndsShows dcBoxEndsShows pmBoxEndsShows anBoxEndsShows cdBoxEndsShows ctBoxEndsShows), slBoxEndsShows⟩)
    (cBoxEndsShows : PySem.W.codeIn K cdBoxEndsShows "BoxEnds.shows" = true)
    (kBoxEndsShows : PySem.W.keepIn K (.ref fBoxEndsShows) = true)
    (aBitsInit : PySem.W.findIn K (.ref CB) "__init__" = some (some (.ref fBitsInit)))
    (iBitsInit : PySem.W.isFn K (.ref fBitsInit) = true)
    (lBitsInit : K.lookup fBitsInit = some ⟨ocBitsInit, odBitsInit, .func (PySem.W.fnOf "__init__" "Bits.__init__" (defArgs sBitsInit) (defBody sBitsInit) (defScope sBitsInit) .none kVBitsInit dcBitsInit pmBitsInit anBitsInit cdBitsInit ctBitsInit), slBitsInit⟩)
    (cBitsInit : PySem.W.codeIn K cdBitsInit "Bits.__init__" = true)
    (kBitsInit : PySem.W.keepIn K (.ref fBitsInit) = true)
    (aBitsShows : PySem.W.findIn K (.ref CB) "shows" = some (some (.ref fBitsShows)))
    (iBitsShows : PySem.W.isFn K (.ref fBitsShows) = true)
    (lBitsShows : K.lookup fBitsShows = some ⟨ocBitsShows, odBitsShows, .func (PySem.W.fnOf "shows" "Bits.shows" (defArgs sBitsShows) (defBody sBitsShows) (defScope sBitsShows) .none kVBitsShows dcBitsShows pmBitsShows anBitsShows cdBitsShows ctBitsShows), slBitsShows⟩)
    (cBitsShows : PySem.W.codeIn K cdBitsShows "Bits.shows" = true)
    (kBitsShows : PySem.W.keepIn K (.ref fBitsShows) = true)
    (aBlockedInit : PySem.W.findIn K (.ref CK) "__init__" = some (some (.ref fBlockedInit)))
    (iBlockedInit : PySem.W.isFn K (.ref fBlockedInit) = true)
    (lBlockedInit : K.lookup fBlockedInit = some ⟨ocBlockedInit, odBlockedInit, .func (PySem.W.fnOf "__init__" "Blocked.__init__" (defArgs sBlockedInit) (defBody sBlockedInit) (defScope sBlockedInit) .none kVBlockedInit dcBlockedInit pmBlockedInit anBlockedInit cdBlockedInit ctBlockedInit), slBlockedInit⟩)
    (cBlockedInit : PySem.W.codeIn K cdBlockedInit "Blocked.__init__" = true)
    (kBlockedInit : PySem.W.keepIn K (.ref fBlockedInit) = true)
    (aBlockedShows : PySem.W.findIn K (.ref CK) "shows" = some (some (.ref fBlockedShows)))
    (iBlockedShows : PySem.W.isFn K (.ref fBlockedShows) = true)
    (lBlockedShows : K.lookup fBlockedShows = some ⟨ocBlockedShows, odBlockedShows, .func (PySem.W.fnOf "shows" "Blocked.shows" (defArgs sBlockedShows) (defBody sBlockedShows) (defScope sBlockedShows) .none kVBlockedShows dcBlockedShows pmBlockedShows anBlockedShows cdBlockedShows ctBlockedShows), slBlockedShows⟩)
    (cBlockedShows : PySem.W.codeIn K cdBlockedShows "Blocked.shows" = true)
    (kBlockedShows : PySem.W.keepIn K (.ref fBlockedShows) = true)
    (z_len : PySem.W.nsIn K mainGlobals "len" = some none)
    (z_tuple : PySem.W.nsIn K mainGlobals "tuple" = some none)
    (z_list : PySem.W.nsIn K mainGlobals "list" = some none)
    (z_sum : PySem.W.nsIn K mainGlobals "sum" = some none)
    (z_all : PySem.W.nsIn K mainGlobals "all" = some none)
    (z_any : PySem.W.nsIn K mainGlobals "any" = some none)
    (z_min : PySem.W.nsIn K mainGlobals "min" = some none)
    (z_max : PySem.W.nsIn K mainGlobals "max" = some none)
    (z_isinstance : PySem.W.nsIn K mainGlobals "isinstance" = some none)
    (z_int : PySem.W.nsIn K mainGlobals "int" = some none)
    (z_bool : PySem.W.nsIn K mainGlobals "bool" = some none)
    (z_range : PySem.W.nsIn K mainGlobals "range" = some none)
    (z_zip : PySem.W.nsIn K mainGlobals "zip" = some none)
    (z_sorted : PySem.W.nsIn K mainGlobals "sorted" = some none)
    (y4 : PySem.W.nsIn K mainGlobals "MOST_LINES" = some (some (.int 4 tL)))
    (y9 : PySem.W.nsIn K mainGlobals "MOST_TOTAL" = some (some (.int 9 tT)))
    (zc : cd17 = .ref cZ)
    (zl : K.lookup cZ = some ⟨eZ, ddZ, .fields vsZ, slZ⟩)
    (zp : vsZ[11]? = some (.ref PZ))
    (zn : K.lookup PZ = none) :
    LamX.LawAtS l w K CX0 9 63 "_law_script" mg fa h := by
  have e := hfa.symm.trans (PySem.W.mg_of X G a25)
  cases e
  have F0 := fun_mk (st := sIsNumber) l0 c0 k0
  have b0 := F0.binds (ps := ["thing", "least", "most"]) fun _ _ _ _ _ _ us hl => match us, hl with | [_, _, _], _ => rfl
  have F1 := fun_mk (st := sAreTotals) l1 c1 k1
  have b1 := F1.binds (ps := ["thing"]) fun _ _ _ _ _ _ us hl => match us, hl with | [_], _ => rfl
  have F2 := fun_mk (st := sCheckTotals) l2 c2 k2
  have b2 := F2.binds (ps := ["rows", "columns"]) fun _ _ _ _ _ _ us hl => match us, hl with | [_, _], _ => rfl
  have F3 := fun_mk (st := sIsLines) l3 c3 k3
  have b3 := F3.binds (ps := ["thing", "many"]) fun _ _ _ _ _ _ us hl => match us, hl with | [_, _], _ => rfl
  have F4 := fun_mk (st := sCheckBox) l4 c4 k4
  have b4 := F4.binds (ps := ["rows", "columns", "some", "others"]) fun _ _ _ _ _ _ us hl => match us, hl with | [_, _, _, _], _ => rfl
  have F5 := fun_mk (st := sIsGrid) l5 c5 k5
  have b5 := F5.binds (ps := ["rows", "columns", "grid"]) fun _ _ _ _ _ _ us hl => match us, hl with | [_, _, _], _ => rfl
  have F6 := fun_mk (st := sInside) l6 c6 k6
  have b6 := F6.binds (ps := ["grid", "some", "others"]) fun _ _ _ _ _ _ us hl => match us, hl with | [_, _, _], _ => rfl
  have F7 := fun_mk (st := sBoxBy) l7 c7 k7
  have b7 := F7.binds (ps := ["rows", "columns", "some", "others"]) fun _ _ _ _ _ _ us hl => match us, hl with | [_, _, _, _], _ => rfl
  have F8 := fun_mk (st := sCornerGrid) l8 c8 k8
  have b8 := F8.binds (ps := ["rows", "columns", "order", "late"]) fun _ _ _ _ _ _ us hl => match us, hl with | [_, _, _, _], _ => rfl
  have F9 := fun_mk (st := sFirstOnes) l9 c9 k9
  have b9 := F9.binds (ps := ["many", "some"]) fun _ _ _ _ _ _ us hl => match us, hl with | [_, _], _ => rfl
  have F10 := fun_mk (st := sBoxEnds) l10 c10 k10
  have b10 := F10.binds (ps := ["rows", "columns", "some", "others"]) fun _ _ _ _ _ _ us hl => match us, hl with | [_, _, _, _], _ => rfl
  have F11 := fun_mk (st := sReachBox) l11 c11 k11
  have b11 := F11.binds (ps := ["rows", "columns", "some", "others"]) fun _ _ _ _ _ _ us hl => match us, hl with | [_, _, _, _], _ => rfl
  have F12 := fun_mk (st := sRowsWithin) l12 c12 k12
  have b12 := F12.binds (ps := ["total", "left"]) fun _ _ _ _ _ _ us hl => match us, hl with | [_, _], _ => rfl
  have F13 := fun_mk (st := sWaysFor) l13 c13 k13
  have b13 := F13.binds (ps := ["rows", "left", "known"]) fun _ _ _ _ _ _ us hl => match us, hl with | [_, _, _], _ => rfl
  have F14 := fun_mk (st := sCountGrids) l14 c14 k14
  have b14 := F14.binds (ps := ["rows", "columns"]) fun _ _ _ _ _ _ us hl => match us, hl with | [_, _], _ => rfl
  have F15 := fun_mk (st := sNthGrid) l15 c15 k15
  have b15 := F15.binds (ps := ["rows", "columns", "number"]) fun _ _ _ _ _ _ us hl => match us, hl with | [_, _, _], _ => rfl
  have F16 := fun_mk (st := sTaken) l16 c16 k16
  have b16 := F16.binds (ps := ["left", "row"]) fun _ _ _ _ _ _ us hl => match us, hl with | [_, _], _ => rfl
  have F17 := fun_mk (st := sZeroOne) l17 c17 k17
  have b17 := F17.binds (ps := ["rows", "columns"]) fun _ _ _ _ _ _ us hl => match us, hl with | [_, _], _ => rfl
  have F18 := fun_mk (st := sLawNumber) l18 c18 k18
  have b18 := F18.binds (ps := ["_law_script", "_law_at"]) fun _ _ _ _ _ _ us hl => match us, hl with | [_, _], _ => rfl
  have F19 := fun_mk (st := sLawIsGrid) l19 c19 k19
  have b19 := F19.binds (ps := ["_law_rows", "_law_columns", "_law_grid"]) fun _ _ _ _ _ _ us hl => match us, hl with | [_, _, _], _ => rfl
  have F20 := fun_mk (st := sLawInside) l20 c20 k20
  have b20 := F20.binds (ps := ["_law_grid", "_law_some", "_law_others"]) fun _ _ _ _ _ _ us hl => match us, hl with | [_, _, _], _ => rfl
  have F21 := fun_mk (st := sLawFirsts) l21 c21 k21
  have b21 := F21.binds (ps := ["_law_total", "_law_columns"]) fun _ _ _ _ _ _ us hl => match us, hl with | [_, _], _ => rfl
  have F22 := fun_mk (st := sLawCountRight) l22 c22 k22
  have b22 := F22.binds (ps := ["_law_rows", "_law_columns"]) fun _ _ _ _ _ _ us hl => match us, hl with | [_, _], _ => rfl
  have F23 := fun_mk (st := sLawIndexRight) l23 c23 k23
  have b23 := F23.binds (ps := ["_law_rows", "_law_columns", "_law_number_here"]) fun _ _ _ _ _ _ us hl => match us, hl with | [_, _, _], _ => rfl
  have F24 := fun_mk (st := sLawBitsRight) l24 c24 k24
  have b24 := F24.binds (ps := ["_law_rows", "_law_columns", "_law_grid"]) fun _ _ _ _ _ _ us hl => match us, hl with | [_, _, _], _ => rfl
  have F25 := fun_mk (st := sLaw) l25 c25 k25
  have b25 := F25.binds (ps := ["_law_script"]) fun _ _ _ _ _ _ us hl => match us, hl with | [_], _ => rfl
  have FBoxEndsInit := fun_mk (st := sBoxEndsInit) lBoxEndsInit cBoxEndsInit kBoxEndsInit
  have bBoxEndsInit := FBoxEndsInit.binds (ps := ["self", "least", "greatest"]) fun _ _ _ _ _ _ us hl => match us, hl with | [_, _, _], _ => rfl
  have FBoxEndsShows := fun_mk (st := sBoxEndsShows) lBoxEndsShows cBoxEndsShows kBoxEndsShows
  have bBoxEndsShows := FBoxEndsShows.binds (ps := ["self", "rows", "columns", "some", "others"]) fun _ _ _ _ _ _ us hl => match us, hl with | [_, _, _, _, _], _ => rfl
  have FBitsInit := fun_mk (st := sBitsInit) lBitsInit cBitsInit kBitsInit
  have bBitsInit := FBitsInit.binds (ps := ["self", "grid"]) fun _ _ _ _ _ _ us hl => match us, hl with | [_, _], _ => rfl
  have FBitsShows := fun_mk (st := sBitsShows) lBitsShows cBitsShows kBitsShows
  have bBitsShows := FBitsShows.binds (ps := ["self", "rows", "columns"]) fun _ _ _ _ _ _ us hl => match us, hl with | [_, _, _], _ => rfl
  have FBlockedInit := fun_mk (st := sBlockedInit) lBlockedInit cBlockedInit kBlockedInit
  have bBlockedInit := FBlockedInit.binds (ps := ["self", "some"]) fun _ _ _ _ _ _ us hl => match us, hl with | [_, _], _ => rfl
  have FBlockedShows := fun_mk (st := sBlockedShows) lBlockedShows cBlockedShows kBlockedShows
  have bBlockedShows := FBlockedShows.binds (ps := ["self", "rows", "columns"]) fun _ _ _ _ _ _ us hl => match us, hl with | [_, _, _], _ => rfl
  have B : Bl mg := { len := PySem.W.mg_none_of X G z_len, tuple := PySem.W.mg_none_of X G z_tuple, list := PySem.W.mg_none_of X G z_list, sum := PySem.W.mg_none_of X G z_sum, all := PySem.W.mg_none_of X G z_all, any := PySem.W.mg_none_of X G z_any, min := PySem.W.mg_none_of X G z_min, max := PySem.W.mg_none_of X G z_max, isi := PySem.W.mg_none_of X G z_isinstance, int := PySem.W.mg_none_of X G z_int, bool := PySem.W.mg_none_of X G z_bool, range := PySem.W.mg_none_of X G z_range, zip := PySem.W.mg_none_of X G z_zip, sorted := PySem.W.mg_none_of X G z_sorted, lines := ⟨_, PySem.W.mg_of X G y4⟩, total := ⟨_, PySem.W.mg_of X G y9⟩ }
  have clCE : Cls K CE := ⟨pgCE, hdCE, poCE, saCE⟩
  have xCE : ClsF K mg "BoxEnds" CE := ⟨PySem.W.mg_of X G gCE, clCE, ⟨clCE, haCE, hn, htk, hmCE⟩⟩
  have mCE : Mk K CE fBoxEndsInit := ⟨mkCE, aBoxEndsInit, iBoxEndsInit, kpCE⟩
  have mmCE : Meth K CE "shows" fBoxEndsShows := ⟨aBoxEndsShows, iBoxEndsShows, kBoxEndsShows⟩
  have clCB : Cls K CB := ⟨pgCB, hdCB, poCB, saCB⟩
  have xCB : ClsF K mg "Bits" CB := ⟨PySem.W.mg_of X G gCB, clCB, ⟨clCB, haCB, hn, htk, hmCB⟩⟩
  have mCB : Mk K CB fBitsInit := ⟨mkCB, aBitsInit, iBitsInit, kpCB⟩
  have mmCB : Meth K CB "shows" fBitsShows := ⟨aBitsShows, iBitsShows, kBitsShows⟩
  have clCK : Cls K CK := ⟨pgCK, hdCK, poCK, saCK⟩
  have xCK : ClsF K mg "Blocked" CK := ⟨PySem.W.mg_of X G gCK, clCK, ⟨clCK, haCK, hn, htk, hmCK⟩⟩
  have mCK : Mk K CK fBlockedInit := ⟨mkCK, aBlockedInit, iBlockedInit, kpCK⟩
  have mmCK : Meth K CK "shows" fBlockedShows := ⟨aBlockedShows, iBlockedShows, kBlockedShows⟩
  obtain ⟨a', o', fd', c', P', t1, t2, t3, t4, t5, t6⟩ := tab
  have t1' := t1.symm.trans (PySem.W.mg_of X G a17)
  cases t1'
  have t2' := t2.symm.trans (X _ _ l17)
  cases t2'
  cases t3
  subst zc
  cases t4
  have t5' := t5
  obtain ⟨oc', vs', _, _, _, _, _, _, _, u1, _, u2, u3, _⟩ := t5'
  have u1' := u1.symm.trans (X _ _ zl)
  cases u1'
  cases u2
  have u3' := u3.symm.trans zp
  cases u3'
  refine ⟨PySem.W.fnOf "law" "law" (defArgs sLaw) (defBody sLaw) (defScope sLaw) .none kV25 dc25 pm25 an25 cd25 ct25, [(cZ, PZ)], spLaw K PZ, fun p hp => ?_, fun p hp => ?_, fun p hp => ?_, fun s v => .of_eq rfl, fun H a ns hlen hbits hH hS => ?_, fun base KB GB hTB => ?_⟩
  · rw [List.mem_singleton.mp hp]; exact t6
  · rw [List.mem_singleton.mp hp]; exact zn
  · rw [List.mem_singleton.mp hp]; exact t5
  · refine ⟨ns, .cons ?_ .nil, fun p hp => ?_, fun H' => rfl⟩
    · rw [mk_nil]
      exact .lst hS (dpAll_ofInts ns)
    · rw [List.mem_singleton.mp hp]
      exact LamX.TabS.nil (hH _ (List.mem_singleton.mpr rfl))
  · have TB : LamX.TabB base mg cZ PZ := hTB _ (List.mem_singleton.mpr rfl)
    have H_is_number : HIsNumber l.prog w K mg base := ⟨_, _, ok_isNumber F0 B, PySem.W.mg_of X G a0, k0, b0⟩
    have H_are_totals : HAreTotals l.prog w K mg base := ⟨_, _, ok_areTotals F1 B H_is_number, PySem.W.mg_of X G a1, k1, b1⟩
    have H_check_totals : HCheckTotals l.prog w K mg base := ⟨_, _, ok_CheckTotals F2 B H_are_totals, PySem.W.mg_of X G a2, k2, b2⟩
    have H_is_lines : HIsLines l.prog w K mg base := ⟨_, _, ok_IsLines F3 B H_is_number, PySem.W.mg_of X G a3, k3, b3⟩
    have H_check_box : HCheckBox l.prog w K mg base := ⟨_, _, ok_CheckBox F4 B H_check_totals H_is_lines, PySem.W.mg_of X G a4, k4, b4⟩
    have H_is_grid : HIsGrid l.prog w K mg base := ⟨_, _, ok_IsGrid F5 B H_is_number, PySem.W.mg_of X G a5, k5, b5⟩
    have H_inside : HInside l.prog w K mg base := ⟨_, _, ok_Inside F6 B, PySem.W.mg_of X G a6, k6, b6⟩
    have H_box_by : HBoxBy l.prog w K mg base := ⟨_, _, ok_BoxBy F7 B, PySem.W.mg_of X G a7, k7, b7⟩
    have H_first_ones : HFirstOnes l.prog w K mg base := ⟨_, _, ok_FirstOnes F9 B, PySem.W.mg_of X G a9, k9, b9⟩
    have H_taken : HTaken l.prog w K mg base := ⟨_, _, ok_Taken F16 B, PySem.W.mg_of X G a16, k16, b16⟩
    have H_rows_within : HRowsWithin l.prog w K mg base := ⟨_, _, ok_RowsWithin F12 B, PySem.W.mg_of X G a12, k12, b12⟩
    have H_corner_grid : HCornerGrid l.prog w K mg base := ⟨_, _, ok_CornerGrid F8 B, PySem.W.mg_of X G a8, k8, b8⟩
    have H__law_number : HLawNumber l.prog w K mg base := ⟨_, _, ok_LawNumber F18 B, PySem.W.mg_of X G a18, k18, b18⟩
    have H__law_is_grid : HLawIsGrid l.prog w K mg base := ⟨_, _, ok_LawIsGrid F19 B, PySem.W.mg_of X G a19, k19, b19⟩
    have H__law_inside : HLawInside l.prog w K mg base := ⟨_, _, ok_LawInside F20 B, PySem.W.mg_of X G a20, k20, b20⟩
    have H__law_firsts : HLawFirsts l.prog w K mg base := ⟨_, _, ok_LawFirsts F21 B, PySem.W.mg_of X G a21, k21, b21⟩
    have H_box_ends : HBoxEnds l.prog w K mg base := ⟨_, _, ok_BoxEnds F10 B H_check_box H_box_by, PySem.W.mg_of X G a10, k10, b10⟩
    have I_BoxEnds : HBoxEndsInit l.prog w K mg base CE := ⟨_, _, ok_BoxEndsInit FBoxEndsInit B clCE n0CE n1CE, mCE, bBoxEndsInit⟩
    have I_Bits : HBitsInit l.prog w K mg base CB := ⟨_, _, ok_BitsInit FBitsInit B clCB n0CB, mCB, bBitsInit⟩
    have I_Blocked : HBlockedInit l.prog w K mg base CK := ⟨_, _, ok_BlockedInit FBlockedInit B clCK n0CK, mCK, bBlockedInit⟩
    have S_BoxEnds : HBoxEndsShows l.prog w K mg base CE := ⟨_, _, ok_BoxEndsShows FBoxEndsShows B clCE n0CE n1CE H_check_box H_is_grid H_box_by H_inside, mmCE, bBoxEndsShows⟩
    have S_Bits : HBitsShows l.prog w K mg base CB := ⟨_, _, ok_BitsShows FBitsShows B clCB n0CB H_check_totals H_is_grid, mmCB, bBitsShows⟩
    have S_Blocked : HBlockedShows l.prog w K mg base CK := ⟨_, _, ok_BlockedShows FBlockedShows B clCK n0CK H_check_totals H_is_lines, mmCK, bBlockedShows⟩
    have H_reach_box : HReachBox l.prog w K mg base CE := ⟨_, _, ok_ReachBox F11 B xCE I_BoxEnds H_check_box H_first_ones H_corner_grid, PySem.W.mg_of X G a11, k11, b11⟩
    have H_ways_for : HWaysFor l.prog w K mg base := ⟨_, _, ok_WaysFor F13 B H_rows_within (PySem.W.mg_of X G a13) k13 b13 4, PySem.W.mg_of X G a13, k13, b13⟩
    have H_count_grids : HCountGrids l.prog w K mg base := ⟨_, _, ok_CountGrids F14 B H_check_totals H_ways_for, PySem.W.mg_of X G a14, k14, b14⟩
    have H_nth_grid : HNthGrid l.prog w K mg base := ⟨_, _, ok_NthGrid F15 B H_check_totals H_is_number H_rows_within H_taken H_ways_for, PySem.W.mg_of X G a15, k15, b15⟩
    have H_zero_one : HZeroOne l.prog w K mg base CB CK PZ := ⟨_, _, ok_ZeroOne F17 B rfl TB xCB xCK I_Bits I_Blocked S_Blocked H_check_totals H_is_grid, PySem.W.mg_of X G a17, k17, b17⟩
    have H__law_count_right : HLawCountRight l.prog w K mg base := ⟨_, _, ok_LawCountRight F22 B H_count_grids H__law_firsts, PySem.W.mg_of X G a22, k22, b22⟩
    have H__law_index_right : HLawIndexRight l.prog w K mg base := ⟨_, _, ok_LawIndexRight F23 B H_nth_grid H__law_is_grid, PySem.W.mg_of X G a23, k23, b23⟩
    have H__law_bits_right : Has l.prog w K mg base 6 "_law_bits_right" ["_law_rows", "_law_columns", "_law_grid"] (spBits K PZ) := ⟨_, _, ok_LawBitsRight F24 B xCB xCK n0CB ⟨kit_ne eCBCK isCK tyCK qCBCK, kit_eq, kit_eq, kit_ne eCKCB isCB tyCB qCKCB⟩ S_Bits S_Blocked H_zero_one H__law_is_grid, PySem.W.mg_of X G a24, k24, b24⟩
    exact ok_Law F25 B xCE n0CE n1CE I_BoxEnds S_BoxEnds H__law_number H_reach_box H_box_ends H__law_is_grid H__law_inside H__law_bits_right H__law_index_right H_count_grids H__law_count_right
end G29
end L2
set_option Elab.async false
open PySem PySem.W PyProof.Rows
set_option maxRecDepth 100000 in
set_option maxHeartbeats 0 in
theorem PySem.Challenge.cw_bucketsums_k29_whole_grids_great_holds : PySem.Challenge.rw_bucketsums_k29_whole_grids_great.Holds := by
  w_on; o_law; k_head; (case hw => w_witness2)
  k_fill
  refine L2.G29.walk_nm (l := PySem.Challenge.rw_bucketsums_k29_whole_grids_great) (n := 63) (k := 9) (x := "_law_script") (nm := "zero_one") rfl (by decide) rfl ⟨rfl, by decide, by decide⟩ (by decide +kernel) (fun w h Y => PySem.W.km_in_of Y) ?F
  case F =>
    intro w mg fa h Y KX G hmg tab
    refine' L2.G29.all_mk KX G hmg tab ?a0 ?l0 ?c0 ?k0 ?a1 ?l1 ?c1 ?k1 ?a2 ?l2 ?c2 ?k2 ?a3 ?l3 ?c3 ?k3 ?a4 ?l4 ?c4 ?k4 ?a5 ?l5 ?c5 ?k5 ?a6 ?l6 ?c6 ?k6 ?a7 ?l7 ?c7 ?k7 ?a8 ?l8 ?c8 ?k8 ?a9 ?l9 ?c9 ?k9 ?a10 ?l10 ?c10 ?k10 ?a11 ?l11 ?c11 ?k11 ?a12 ?l12 ?c12 ?k12 ?a13 ?l13 ?c13 ?k13 ?a14 ?l14 ?c14 ?k14 ?a15 ?l15 ?c15 ?k15 ?a16 ?l16 ?c16 ?k16 ?a17 ?l17 ?c17 ?k17 ?a18 ?l18 ?c18 ?k18 ?a19 ?l19 ?c19 ?k19 ?a20 ?l20 ?c20 ?k20 ?a21 ?l21 ?c21 ?k21 ?a22 ?l22 ?c22 ?k22 ?a23 ?l23 ?c23 ?k23 ?a24 ?l24 ?c24 ?k24 ?a25 ?l25 ?c25 ?k25 ?gCE ?pgCE ?hdCE ?poCE ?saCE ?mkCE ?kpCE ?haCE ?hmCE ?n0CE ?n1CE ?gCB ?pgCB ?hdCB ?poCB ?saCB ?mkCB ?kpCB ?haCB ?hmCB ?n0CB ?gCK ?pgCK ?hdCK ?poCK ?saCK ?mkCK ?kpCK ?haCK ?hmCK ?n0CK ?hn ?htk ?tyCB ?isCB ?tyCK ?isCK ?qCBCK ?eCBCK ?qCKCB ?eCKCB ?aBoxEndsInit ?iBoxEndsInit ?lBoxEndsInit ?cBoxEndsInit ?kBoxEndsInit ?aBoxEndsShows ?iBoxEndsShows ?lBoxEndsShows ?cBoxEndsShows ?kBoxEndsShows ?aBitsInit ?iBitsInit ?lBitsInit ?cBitsInit ?kBitsInit ?aBitsShows ?iBitsShows ?lBitsShows ?cBitsShows ?kBitsShows ?aBlockedInit ?iBlockedInit ?lBlockedInit ?cBlockedInit ?kBlockedInit ?aBlockedShows ?iBlockedShows ?lBlockedShows ?cBlockedShows ?kBlockedShows ?z_len ?z_tuple ?z_list ?z_sum ?z_all ?z_any ?z_min ?z_max ?z_isinstance ?z_int ?z_bool ?z_range ?z_zip ?z_sorted ?y4 ?y9 ?zc ?zl ?zp ?zn
    (case a0 => k_is)
    (case l0 => k_is)
    (case c0 => k_is)
    (case k0 => k_is)
    (case a1 => k_is)
    (case l1 => k_is)
    (case c1 => k_is)
    (case k1 => k_is)
    (case a2 => k_is)
    (case l2 => k_is)
    (case c2 => k_is)
    (case k2 => k_is)
    (case a3 => k_is)
    (case l3 => k_is)
    (case c3 => k_is)
    (case k3 => k_is)
    (case a4 => k_is)
    (case l4 => k_is)
    (case c4 => k_is)
    (case k4 => k_is)
    (case a5 => k_is)
    (case l5 => k_is)
    (case c5 => k_is)
    (case k5 => k_is)
    (case a6 => k_is)
    (case l6 => k_is)
    (case c6 => k_is)
    (case k6 => k_is)
    (case a7 => k_is)
    (case l7 => k_is)
    (case c7 => k_is)
    (case k7 => k_is)
    (case a8 => k_is)
    (case l8 => k_is)
    (case c8 => k_is)
    (case k8 => k_is)
    (case a9 => k_is)
    (case l9 => k_is)
    (case c9 => k_is)
    (case k9 => k_is)
    (case a10 => k_is)
    (case l10 => k_is)
    (case c10 => k_is)
    (case k10 => k_is)
    (case a11 => k_is)
    (case l11 => k_is)
    (case c11 => k_is)
    (case k11 => k_is)
    (case a12 => k_is)
    (case l12 => k_is)
    (case c12 => k_is)
    (case k12 => k_is)
    (case a13 => k_is)
    (case l13 => k_is)
    (case c13 => k_is)
    (case k13 => k_is)
    (case a14 => k_is)
    (case l14 => k_is)
    (case c14 => k_is)
    (case k14 => k_is)
    (case a15 => k_is)
    (case l15 => k_is)
    (case c15 => k_is)
    (case k15 => k_is)
    (case a16 => k_is)
    (case l16 => k_is)
    (case c16 => k_is)
    (case k16 => k_is)
    (case a17 => k_is)
    (case l17 => k_is)
    (case c17 => k_is)
    (case k17 => k_is)
    (case a18 => k_is)
    (case l18 => k_is)
    (case c18 => k_is)
    (case k18 => k_is)
    (case a19 => k_is)
    (case l19 => k_is)
    (case c19 => k_is)
    (case k19 => k_is)
    (case a20 => k_is)
    (case l20 => k_is)
    (case c20 => k_is)
    (case k20 => k_is)
    (case a21 => k_is)
    (case l21 => k_is)
    (case c21 => k_is)
    (case k21 => k_is)
    (case a22 => k_is)
    (case l22 => k_is)
    (case c22 => k_is)
    (case k22 => k_is)
    (case a23 => k_is)
    (case l23 => k_is)
    (case c23 => k_is)
    (case k23 => k_is)
    (case a24 => k_is)
    (case l24 => k_is)
    (case c24 => k_is)
    (case k24 => k_is)
    (case a25 => k_is)
    (case l25 => k_is)
    (case c25 => k_is)
    (case k25 => k_is)
    (case gCE => k_is)
    (case pgCE => k_is)
    (case hdCE => k_is)
    (case poCE => k_is)
    (case saCE => k_is)
    (case mkCE => k_is)
    (case kpCE => k_is)
    (case haCE => k_is)
    (case hmCE => k_is)
    (case n0CE => k_is)
    (case n1CE => k_is)
    (case gCB => k_is)
    (case pgCB => k_is)
    (case hdCB => k_is)
    (case poCB => k_is)
    (case saCB => k_is)
    (case mkCB => k_is)
    (case kpCB => k_is)
    (case haCB => k_is)
    (case hmCB => k_is)
    (case n0CB => k_is)
    (case gCK => k_is)
    (case pgCK => k_is)
    (case hdCK => k_is)
    (case poCK => k_is)
    (case saCK => k_is)
    (case mkCK => k_is)
    (case kpCK => k_is)
    (case haCK => k_is)
    (case hmCK => k_is)
    (case n0CK => k_is)
    (case hn => k_is)
    (case htk => k_is)
    (case tyCB => k_is)
    (case isCB => k_is)
    (case tyCK => k_is)
    (case isCK => k_is)
    (case qCBCK => k_is)
    (case eCBCK => rfl)
    (case qCKCB => k_is)
    (case eCKCB => rfl)
    (case aBoxEndsInit => k_is)
    (case iBoxEndsInit => k_is)
    (case lBoxEndsInit => k_is)
    (case cBoxEndsInit => k_is)
    (case kBoxEndsInit => k_is)
    (case aBoxEndsShows => k_is)
    (case iBoxEndsShows => k_is)
    (case lBoxEndsShows => k_is)
    (case cBoxEndsShows => k_is)
    (case kBoxEndsShows => k_is)
    (case aBitsInit => k_is)
    (case iBitsInit => k_is)
    (case lBitsInit => k_is)
    (case cBitsInit => k_is)
    (case kBitsInit => k_is)
    (case aBitsShows => k_is)
    (case iBitsShows => k_is)
    (case lBitsShows => k_is)
    (case cBitsShows => k_is)
    (case kBitsShows => k_is)
    (case aBlockedInit => k_is)
    (case iBlockedInit => k_is)
    (case lBlockedInit => k_is)
    (case cBlockedInit => k_is)
    (case kBlockedInit => k_is)
    (case aBlockedShows => k_is)
    (case iBlockedShows => k_is)
    (case lBlockedShows => k_is)
    (case cBlockedShows => k_is)
    (case kBlockedShows => k_is)
    (case z_len => k_is)
    (case z_tuple => k_is)
    (case z_list => k_is)
    (case z_sum => k_is)
    (case z_all => k_is)
    (case z_any => k_is)
    (case z_min => k_is)
    (case z_max => k_is)
    (case z_isinstance => k_is)
    (case z_int => k_is)
    (case z_bool => k_is)
    (case z_range => k_is)
    (case z_zip => k_is)
    (case z_sorted => k_is)
    (case y4 => k_is)
    (case y9 => k_is)
    (case zc => rfl)
    (case zl => k_is)
    (case zp => rfl)
    (case zn => exact L2.G29.kn_none Y (by decide +kernel))
