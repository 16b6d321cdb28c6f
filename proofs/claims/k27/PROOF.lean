import PyProof.Rows.All
import Wide.All
import OpenK.AllK
import Wide.FinOn
import HandS.ForMost
import HandS.Wide
import HandS.IsInst
import HandS.Defaults
import HandS.Codes
import PyProof.InstNe
import HandS.Style
import PyProof.ReprRoads
import PyProof.ReprLen
import HandS.ForExc
import HandS.ExcInit
import HandS.ExcField
import HandS.ExcIs
import PyProof.NeKinds
import HandS.Text
import HandS.Codes
import HandS.Walk
import HandS.OwnEq
import HandS.Strs
import PyProof.StrLawsRepr
import HandS.Iter
import HandS.Conv
import HandS.MakeKw
import HandS.MakeKwOnly
import HandS.Star
import HandS.TryMany
import HandS.Deep
import HandS.DictTup
import HandS.TupAny
import HandS.Set
import HandS.SetFor
import HandS.SetBool
import HandS.TupSets
import PyProof.FactsAll.set_2
import KE.KDictDisplayH
import HandS.DictComp
import KE.KOpsOwn
import HandS.SortInts
import HandS.DeepEq
import KE.KEqDict
import KE.KDictKeyed
import KE.DataMinMax
import KE.KDictWalk
import HandS.SortKw
import HandS.TryOnly
import KE.KStateDown
import PySem.Challenge.RW_windowrows_k27_whole_region_laws
set_option Elab.async false
set_option linter.all false
set_option maxRecDepth 100000
set_option maxHeartbeats 2000000
/-! ### lines and grids of weights: plain law -/
namespace Gr
/-- starts of stretches: ascending, the first is 1 -/
structure AxOk (ax : List Int) : Prop where
  asc : ax.Pairwise (· < ·)
  one : ax.head? = some 1
/-- how many starts are not beyond x -/
def cnt (ax : List Int) (x : Int) : Nat := (ax.filter fun a => decide (a ≤ x)).length
def idx (ax : List Int) (x : Int) : Nat := cnt ax x - 1
/-- x lies in the stretch of the i-th start -/
def InIv (ax : List Int) (i : Nat) (x : Int) : Prop := ∃ a, ax[i]? = some a ∧ a ≤ x ∧ ∀ b, ax[i + 1]? = some b → x < b
theorem cnt_nil {x : Int} : cnt [] x = 0 := rfl
theorem cnt_cons {a x : Int} {r : List Int} : cnt (a :: r) x = (if a ≤ x then 1 else 0) + cnt r x := by
  unfold cnt
  rw [List.filter_cons]
  split
  · next h => rw [if_pos (of_decide_eq_true h), List.length_cons]; omega
  · next h => rw [if_neg fun z => h (decide_eq_true z)]; omega
theorem cnt_le {ax : List Int} {x : Int} : cnt ax x ≤ ax.length := List.length_filter_le _ _
theorem cnt_zero {ax : List Int} {x : Int} (h : ∀ a ∈ ax, x < a) : cnt ax x = 0 := by
  unfold cnt
  rw [List.filter_eq_nil_iff.mpr fun a ha => by have := h a ha; simp; omega]
  rfl
theorem iv_cnt : ∀ {ax : List Int} {i : Nat} {x : Int}, ax.Pairwise (· < ·) → InIv ax i x → cnt ax x = i + 1
  | [], i, x, _, ⟨a, h, _⟩ => by cases h
  | a :: r, 0, x, asc, ⟨b, h1, h2, h3⟩ => by
    cases h1
    rw [cnt_cons, if_pos h2]
    have asc := List.pairwise_cons.mp asc
    rw [cnt_zero fun y hy => ?_]
    cases r with
    | nil => cases hy
    | cons c r =>
      have := h3 c rfl
      rcases List.mem_cons.mp hy with rfl | hy
      · exact this
      · have := (List.pairwise_cons.mp asc.2).1 y hy
        omega
  | a :: r, i + 1, x, asc, ⟨b, h1, h2, h3⟩ => by
    have asc := List.pairwise_cons.mp asc
    have h1 : r[i]? = some b := h1
    have := asc.1 b (List.mem_of_getElem? h1)
    rw [cnt_cons, if_pos (by omega), iv_cnt asc.2 ⟨b, h1, h2, fun c hc => h3 c hc⟩]
    omega
theorem iv_idx {ax : List Int} {i : Nat} {x : Int} (asc : ax.Pairwise (· < ·)) (h : InIv ax i x) : idx ax x = i := by
  unfold idx
  rw [iv_cnt asc h]
  omega
theorem idx_iv : ∀ {ax : List Int} {x : Int}, ax.Pairwise (· < ·) → (∃ a, ax.head? = some a ∧ a ≤ x) → InIv ax (idx ax x) x
  | [], x, _, ⟨a, h, _⟩ => by cases h
  | a :: r, x, asc, ⟨b, h1, h2⟩ => by
    cases h1
    have asc' := List.pairwise_cons.mp asc
    cases r with
    | nil =>
      have e : idx [a] x = 0 := by unfold idx; rw [cnt_cons, if_pos h2, cnt_nil]
      rw [e]
      exact ⟨a, rfl, h2, fun b hb => by cases hb⟩
    | cons c r =>
      by_cases hc : c ≤ x
      · have ih := idx_iv asc'.2 ⟨c, rfl, hc⟩
        have e : idx (a :: c :: r) x = idx (c :: r) x + 1 := by
          unfold idx
          rw [cnt_cons, if_pos h2, cnt_cons, if_pos hc]
          omega
        rw [e]
        obtain ⟨y, y1, y2, y3⟩ := ih
        exact ⟨y, y1, y2, y3⟩
      · have e : idx (a :: c :: r) x = 0 := by
          unfold idx
          rw [cnt_cons, if_pos h2, cnt_zero fun y hy => ?_]
          rcases List.mem_cons.mp hy with rfl | hy
          · omega
          · have := (List.pairwise_cons.mp asc'.2).1 y hy
            omega
        rw [e]
        exact ⟨a, rfl, h2, fun b hb => by cases hb; omega⟩
theorem AxOk.iv {ax : List Int} {x : Int} (h : AxOk ax) (hx : 1 ≤ x) : InIv ax (idx ax x) x := idx_iv h.asc ⟨1, h.one, hx⟩
theorem InIv.lt {ax : List Int} {i : Nat} {x : Int} (h : InIv ax i x) : i < ax.length := by
  obtain ⟨a, e, _⟩ := h
  exact (List.getElem?_eq_some_iff.mp e).1
/-- an axis' elements and the stretch that x and y share -/
theorem iv_mem {ax : List Int} {i : Nat} {x a : Int} (asc : ax.Pairwise (· < ·)) (h : InIv ax i x) (ha : a ∈ ax) : a ≤ x ↔ a ≤ ax.getD i 0 := by
  obtain ⟨b, h1, h2, h3⟩ := h
  have hb : ax.getD i 0 = b := by rw [List.getD_eq_getElem?_getD, h1]; rfl
  rw [hb]
  constructor
  · intro hx
    obtain ⟨j, hj⟩ := List.getElem?_of_mem ha
    rcases Nat.lt_or_ge i j with c | c
    · -- behind the stretch
      have hj' := (List.getElem?_eq_some_iff.mp hj).1
      have hi1 : i + 1 < ax.length := by omega
      have := h3 ax[i + 1] (List.getElem?_eq_getElem hi1)
      rcases Nat.lt_or_ge (i + 1) j with c2 | c2
      · have p := List.pairwise_iff_getElem.mp asc (i + 1) j hi1 hj' c2
        rw [List.getElem?_eq_getElem hj'] at hj
        cases hj
        omega
      · have e : j = i + 1 := by omega
        subst e
        rw [List.getElem?_eq_getElem hi1] at hj
        cases hj
        omega
    · rcases Nat.lt_or_ge j i with c2 | c2
      · have hi' := (List.getElem?_eq_some_iff.mp h1).1
        have hj' := (List.getElem?_eq_some_iff.mp hj).1
        have p := List.pairwise_iff_getElem.mp asc j i hj' hi' c2
        rw [List.getElem?_eq_getElem hj'] at hj
        rw [List.getElem?_eq_getElem hi'] at h1
        cases hj
        cases h1
        omega
      · have e : j = i := by omega
        subst e
        rw [h1] at hj
        cases hj
        exact Int.le_refl _
  · intro hx
    omega
theorem idx_same {A U : List Int} {i : Nat} {x y : Int} (asc : U.Pairwise (· < ·)) (sub : ∀ a ∈ A, a ∈ U) (hx : InIv U i x) (hy : InIv U i y) : idx A x = idx A y := by
  unfold idx cnt
  congr 2
  refine List.filter_congr fun a ha => ?_
  rw [decide_eq_decide, iv_mem asc hx (sub a ha), iv_mem asc hy (sub a ha)]
/-! grids -/
structure Axes where
  r : List Int
  g : List Int
  d : List Int
structure Axes.Ok (A : Axes) : Prop where
  r : AxOk A.r
  g : AxOk A.g
  d : AxOk A.d
structure Num where
  r : Int
  g : Int
  d : Int
structure Num.Ok (n : Num) : Prop where
  g1 : 1 ≤ n.g
  gr : n.g ≤ n.r
  gd : n.g ≤ n.d
abbrev Pl := Nat × Nat × Nat
def place (A : Axes) (n : Num) : Pl := (idx A.r n.r, idx A.g n.g, idx A.d n.d)
abbrev Wt := Pl → Int
def gAt (A : Axes) (W : Wt) (n : Num) : Int := W (place A n)
/-- the stretch of the i-th start reaches spot -/
def reach (ax : List Int) (i : Nat) (spot : Int) : Bool := match ax[i + 1]? with
  | none => true
  | some b => decide (spot ≤ b - 1)
def inPl (A : Axes) (p : Pl) : Prop := p.1 < A.r.length ∧ p.2.1 < A.g.length ∧ p.2.2 < A.d.length ∧ reach A.r p.1 (A.g.getD p.2.1 0) = true ∧ reach A.d p.2.2 (A.g.getD p.2.1 0) = true
def near (A : Axes) (p : Pl) : Num := ⟨max (A.r.getD p.1 0) (A.g.getD p.2.1 0), A.g.getD p.2.1 0, max (A.d.getD p.2.2 0) (A.g.getD p.2.1 0)⟩
theorem getD_of {ax : List Int} {i : Nat} {a : Int} (h : ax[i]? = some a) : ax.getD i 0 = a := by rw [List.getD_eq_getElem?_getD, h]; rfl
theorem reach_iv {ax : List Int} {i : Nat} {x y : Int} (h : InIv ax i x) (hy : y ≤ x) : reach ax i y = true := by
  obtain ⟨a, h1, h2, h3⟩ := h
  unfold reach
  cases e : ax[i + 1]? with
  | none => rfl
  | some b =>
    have := h3 b e
    exact decide_eq_true (by omega)
theorem AxOk.ge {ax : List Int} (h : AxOk ax) {i : Nat} {a : Int} (e : ax[i]? = some a) : 1 ≤ a := by
  obtain ⟨asc, one⟩ := h
  cases ax with
  | nil => cases one
  | cons b r =>
    cases one
    cases i with
    | zero => cases e; exact Int.le_refl _
    | succ i =>
      have := (List.pairwise_cons.mp asc).1 a (List.mem_of_getElem? e)
      omega
theorem place_in {A : Axes} (hA : A.Ok) {n : Num} (hn : n.Ok) : inPl A (place A n) := by
  have g := hA.g.iv hn.g1
  have r := hA.r.iv (x := n.r) (by have := hn.g1; have := hn.gr; omega)
  have d := hA.d.iv (x := n.d) (by have := hn.g1; have := hn.gd; omega)
  obtain ⟨a, e, le, _⟩ := id g
  have ga : A.g.getD (idx A.g n.g) 0 = a := getD_of e
  refine ⟨r.lt, g.lt, d.lt, ?_, ?_⟩
  · show reach A.r (idx A.r n.r) (A.g.getD (idx A.g n.g) 0) = true
    rw [ga]
    exact reach_iv r (by have := hn.gr; omega)
  · show reach A.d (idx A.d n.d) (A.g.getD (idx A.g n.g) 0) = true
    rw [ga]
    exact reach_iv d (by have := hn.gd; omega)
theorem iv_max {ax : List Int} {i : Nat} {spot : Int} (asc : ax.Pairwise (· < ·)) (hi : i < ax.length) (hr : reach ax i spot = true) : InIv ax i (max (ax.getD i 0) spot) := by
  have e := List.getElem?_eq_getElem hi
  refine ⟨ax[i], e, ?_, fun b hb => ?_⟩
  · rw [getD_of e]
    omega
  · rw [getD_of e]
    have hj := (List.getElem?_eq_some_iff.mp hb).1
    have := List.pairwise_iff_getElem.mp asc i (i + 1) hi hj (by omega)
    rw [List.getElem?_eq_getElem hj] at hb
    cases hb
    unfold reach at hr
    rw [List.getElem?_eq_getElem hj] at hr
    have := of_decide_eq_true hr
    omega
theorem iv_self {ax : List Int} {i : Nat} (asc : ax.Pairwise (· < ·)) (hi : i < ax.length) : InIv ax i (ax.getD i 0) := by
  have e := List.getElem?_eq_getElem hi
  refine ⟨ax[i], e, by rw [getD_of e]; exact Int.le_refl _, fun b hb => ?_⟩
  have hj := (List.getElem?_eq_some_iff.mp hb).1
  have := List.pairwise_iff_getElem.mp asc i (i + 1) hi hj (by omega)
  rw [List.getElem?_eq_getElem hj] at hb
  cases hb
  rw [getD_of e]
  exact this
theorem near_iv {A : Axes} (hA : A.Ok) {p : Pl} (hp : inPl A p) : InIv A.r p.1 (near A p).r ∧ InIv A.g p.2.1 (near A p).g ∧ InIv A.d p.2.2 (near A p).d := ⟨iv_max hA.r.asc hp.1 hp.2.2.2.1, iv_self hA.g.asc hp.2.1, iv_max hA.d.asc hp.2.2.1 hp.2.2.2.2⟩
theorem near_ok {A : Axes} (hA : A.Ok) {p : Pl} (hp : inPl A p) : (near A p).Ok := by
  have e := List.getElem?_eq_getElem hp.2.1
  have := hA.g.ge e
  rw [← getD_of e] at this
  refine ⟨this, ?_, ?_⟩
  · show A.g.getD p.2.1 0 ≤ max _ _
    omega
  · show A.g.getD p.2.1 0 ≤ max _ _
    omega
theorem place_near {A : Axes} (hA : A.Ok) {p : Pl} (hp : inPl A p) : place A (near A p) = p := by
  obtain ⟨h1, h2, h3⟩ := near_iv hA hp
  unfold place
  rw [iv_idx hA.r.asc h1, iv_idx hA.g.asc h2, iv_idx hA.d.asc h3]
/-- the axes of a are among those of b -/
def Axes.Sub (A B : Axes) : Prop := (∀ a ∈ A.r, a ∈ B.r) ∧ (∀ a ∈ A.g, a ∈ B.g) ∧ ∀ a ∈ A.d, a ∈ B.d
theorem place_same {A B : Axes} (hB : B.Ok) (s : A.Sub B) {n : Num} (hn : n.Ok) : place A (near B (place B n)) = place A n := by
  have hp := place_in hB hn
  obtain ⟨h1, h2, h3⟩ := near_iv hB hp
  unfold place
  congr 1
  · exact idx_same hB.r.asc s.1 h1 (hB.r.iv (by have := hn.g1; have := hn.gr; omega))
  · congr 1
    · exact idx_same hB.g.asc s.2.1 h2 (hB.g.iv hn.g1)
    · exact idx_same hB.d.asc s.2.2 h3 (hB.d.iv (by have := hn.g1; have := hn.gd; omega))
/-- two grids on a common refinement -/
theorem mix_at {A B U : Axes} (hU : U.Ok) (sA : A.Sub U) (sB : B.Sub U) {V W : Wt} (f : Int → Int → Int) {n : Num} (hn : n.Ok) : gAt U (fun p => f (gAt A V (near U p)) (gAt B W (near U p))) n = f (gAt A V n) (gAt B W n) := by
  show f (V (place A (near U (place U n)))) (W (place B (near U (place U n)))) = _
  rw [place_same hU sA hn, place_same hU sB hn]
  rfl
/-! taking out the starts that are not needed -/
def keep (ax : List Int) (P : Nat → Bool) : Nat → List Int
  | 0 => [1]
  | n + 1 => if P (n + 1) = true then keep ax P n ++ [ax.getD (n + 1) 0] else keep ax P n
theorem mem_keep {ax : List Int} {P : Nat → Bool} {a : Int} : ∀ {n : Nat}, a ∈ keep ax P n ↔ a = 1 ∨ ∃ i, i < n ∧ P (i + 1) = true ∧ a = ax.getD (i + 1) 0
  | 0 => ⟨fun h => .inl (List.mem_singleton.mp h), fun h => h.elim (fun h => h ▸ List.mem_singleton.mpr rfl) fun ⟨i, h, _⟩ => absurd h (Nat.not_lt_zero _)⟩
  | n + 1 => by
    unfold keep
    split
    · next c =>
      rw [List.mem_append, mem_keep, List.mem_singleton]
      constructor
      · rintro ((h | ⟨i, h1, h2⟩) | h)
        · exact .inl h
        · exact .inr ⟨i, by omega, h2⟩
        · exact .inr ⟨n, by omega, c, h⟩
      · rintro (h | ⟨i, h1, h2, h3⟩)
        · exact .inl (.inl h)
        · by_cases e : i = n
          · subst e; exact .inr h3
          · exact .inl (.inr ⟨i, by omega, h2, h3⟩)
    · next c =>
      rw [mem_keep]
      constructor
      · rintro (h | ⟨i, h1, h2⟩)
        · exact .inl h
        · exact .inr ⟨i, by omega, h2⟩
      · rintro (h | ⟨i, h1, h2, h3⟩)
        · exact .inl h
        · by_cases e : i = n
          · subst e; exact absurd h2 c
          · exact .inr ⟨i, by omega, h2, h3⟩
theorem AxOk.at_lt {ax : List Int} (h : AxOk ax) {i j : Nat} (hij : i < j) (hj : j < ax.length) : ax.getD i 0 < ax.getD j 0 := by
  have hi : i < ax.length := by omega
  rw [getD_of (List.getElem?_eq_getElem hi), getD_of (List.getElem?_eq_getElem hj)]
  exact List.pairwise_iff_getElem.mp h.asc i j hi hj hij
theorem AxOk.at0 {ax : List Int} (h : AxOk ax) : ax.getD 0 0 = 1 ∧ 0 < ax.length := by
  obtain ⟨_, one⟩ := h
  cases ax with
  | nil => cases one
  | cons a r => cases one; exact ⟨rfl, by simp⟩
theorem keep_ok {ax : List Int} (h : AxOk ax) (P : Nat → Bool) : ∀ {n : Nat}, n < ax.length → AxOk (keep ax P n)
  | 0, _ => ⟨List.pairwise_singleton _ _, rfl⟩
  | n + 1, hn => by
    have ih := keep_ok h P (n := n) (by omega)
    unfold keep
    split
    · refine ⟨List.pairwise_append.mpr ⟨ih.asc, List.pairwise_singleton _ _, fun a ha b hb => ?_⟩, ?_⟩
      · rw [List.mem_singleton.mp hb]
        rcases mem_keep.mp ha with rfl | ⟨i, h1, _, rfl⟩
        · have := h.at_lt (i := 0) (j := n + 1) (by omega) hn
          rw [h.at0.1] at this
          exact this
        · exact h.at_lt (by omega) hn
      · rw [List.head?_append, ih.one]
        rfl
    · exact ih
theorem keep_sub {ax : List Int} (h : AxOk ax) {P : Nat → Bool} {n : Nat} (hn : n < ax.length) : ∀ a ∈ keep ax P n, a ∈ ax := fun a ha => by
  rcases mem_keep.mp ha with rfl | ⟨i, h1, _, rfl⟩
  · exact List.mem_of_getElem? (i := 0) (by have z := h.one; cases ax with | nil => cases z | cons b r => cases z; rfl)
  · have hi : i + 1 < ax.length := by omega
    rw [getD_of (List.getElem?_eq_getElem hi)]
    exact List.getElem_mem hi
theorem reach_spot {ax : List Int} {i : Nat} {y z : Int} (h : reach ax i y = true) (hz : z ≤ y) : reach ax i z = true := by
  unfold reach at h ⊢
  cases e : ax[i + 1]? with
  | none => rfl
  | some b =>
    rw [e] at h
    have := of_decide_eq_true h
    exact decide_eq_true (by omega)
theorem reach_up {ax : List Int} (ok : AxOk ax) {i t : Nat} {y : Int} (h : reach ax i y = true) (hit : i ≤ t) : reach ax t y = true := by
  unfold reach at h ⊢
  cases e : ax[t + 1]? with
  | none => rfl
  | some b =>
    have ht := (List.getElem?_eq_some_iff.mp e).1
    have hi : i + 1 < ax.length := by omega
    rw [List.getElem?_eq_getElem hi] at h
    have h := of_decide_eq_true h
    refine decide_eq_true ?_
    rcases Nat.lt_or_ge i t with c | c
    · have := ok.at_lt (i := i + 1) (j := t + 1) (by omega) ht
      rw [getD_of e, getD_of (List.getElem?_eq_getElem hi)] at this
      omega
    · have : i = t := by omega
      subst this
      rw [List.getElem?_eq_getElem hi] at e
      cases e
      exact h
theorem walk_down {W : Nat → Int} {a : Nat} : ∀ {b : Nat}, a ≤ b → (∀ t, a ≤ t → t < b → W t = W (t + 1)) → W a = W b
  | 0, h, _ => by rw [show a = 0 by omega]
  | b + 1, h, hs => by
    by_cases e : a = b + 1
    · rw [e]
    · rw [walk_down (b := b) (by omega) fun t h1 h2 => hs t h1 (by omega)]
      exact hs b (by omega) (by omega)
/-- between m and n, in one stretch of the kept starts, no start is needed -/
theorem not_kept {ax : List Int} (ok : AxOk ax) {P : Nat → Bool} {i : Nat} {x y : Int} (hx : InIv (keep ax P (ax.length - 1)) i x) (hy : InIv (keep ax P (ax.length - 1)) i y) (x1 : 1 ≤ x) (y1 : 1 ≤ y) {t : Nat} (h1 : idx ax x ≤ t) (h2 : t < idx ax y) : P (t + 1) = false := by
  have ivx := ok.iv x1
  have ivy := ok.iv y1
  have ht : t + 1 < ax.length := by have := ivy.lt; omega
  cases e : P (t + 1) with
  | false => rfl
  | true =>
    have kk := keep_ok ok P (n := ax.length - 1) (by omega)
    have mem : ax.getD (t + 1) 0 ∈ keep ax P (ax.length - 1) := mem_keep.mpr (.inr ⟨t, by omega, e, rfl⟩)
    have q := (iv_mem kk.asc hx mem).trans (iv_mem kk.asc hy mem).symm
    have in_ax : ax.getD (t + 1) 0 ∈ ax := by rw [getD_of (List.getElem?_eq_getElem ht)]; exact List.getElem_mem ht
    have qx := iv_mem ok.asc ivx in_ax
    have qy := iv_mem ok.asc ivy in_ax
    have ly : ax.getD (t + 1) 0 ≤ ax.getD (idx ax y) 0 := by
      rcases Nat.lt_or_ge (t + 1) (idx ax y) with c | c
      · have := ok.at_lt c ivy.lt
        omega
      · rw [show t + 1 = idx ax y by omega]
        exact Int.le_refl _
    have lx : ax.getD (idx ax x) 0 < ax.getD (t + 1) 0 := ok.at_lt (by omega) ht
    have := qx.mp (q.mpr (qy.mpr ly))
    omega
structure Clean (A : Axes) (W : Wt) (PR PG PD : Nat → Bool) : Prop where
  r : ∀ t j k, PR (t + 1) = false → inPl A (t + 1, j, k) → inPl A (t, j, k) → W (t, j, k) = W (t + 1, j, k)
  g : ∀ i t k, PG (t + 1) = false → inPl A (i, t + 1, k) → inPl A (i, t, k) → W (i, t, k) = W (i, t + 1, k)
  d : ∀ i j t, PD (t + 1) = false → inPl A (i, j, t + 1) → inPl A (i, j, t) → W (i, j, t) = W (i, j, t + 1)
def keptA (A : Axes) (PR PG PD : Nat → Bool) : Axes := ⟨keep A.r PR (A.r.length - 1), keep A.g PG (A.g.length - 1), keep A.d PD (A.d.length - 1)⟩
theorem kept_ok {A : Axes} (hA : A.Ok) (PR PG PD : Nat → Bool) : (keptA A PR PG PD).Ok := ⟨keep_ok hA.r _ (by have := hA.r.at0.2; omega), keep_ok hA.g _ (by have := hA.g.at0.2; omega), keep_ok hA.d _ (by have := hA.d.at0.2; omega)⟩
theorem idx_mono {ax : List Int} {x y : Int} (h : x ≤ y) : idx ax x ≤ idx ax y := by
  have : cnt ax x ≤ cnt ax y := by
    unfold cnt
    induction ax with
    | nil => exact Nat.le_refl _
    | cons a r ih =>
      rw [List.filter_cons, List.filter_cons]
      split
      · next c =>
        have c := of_decide_eq_true c
        rw [if_pos (decide_eq_true (by omega)), List.length_cons, List.length_cons]
        omega
      · split
        · rw [List.length_cons]; omega
        · exact ih
  unfold idx
  omega
theorem clean_at {A : Axes} (hA : A.Ok) {W : Wt} {PR PG PD : Nat → Bool} (c : Clean A W PR PG PD) {n : Num} (hn : n.Ok) : gAt (keptA A PR PG PD) (fun p => gAt A W (near (keptA A PR PG PD) p)) n = gAt A W n := by
  have hK := kept_ok hA PR PG PD
  have hp := place_in hK hn
  obtain ⟨n1, n2, n3⟩ := near_iv hK hp
  have mo := near_ok hK hp
  have r1 : 1 ≤ n.r := by have := hn.g1; have := hn.gr; omega
  have d1 : 1 ≤ n.d := by have := hn.g1; have := hn.gd; omega
  have k1 := hK.r.iv r1
  have k2 := hK.g.iv hn.g1
  have k3 := hK.d.iv d1
  show W (place A (near (keptA A PR PG PD) (place (keptA A PR PG PD) n))) = W (place A n)
  -- m is not beyond n
  have lr : ∀ {ax : List Int} {i : Nat} {x : Int}, InIv ax i x → ax.getD i 0 ≤ x := fun h => by
    obtain ⟨a, e, le, _⟩ := h
    rw [getD_of e]
    exact le
  have mg : (near (keptA A PR PG PD) (place (keptA A PR PG PD) n)).g ≤ n.g := lr k2
  have mr : (near (keptA A PR PG PD) (place (keptA A PR PG PD) n)).r ≤ n.r := by
    have := lr k1
    have := hn.gr
    show max _ _ ≤ _
    have h2 : (keptA A PR PG PD).g.getD (place (keptA A PR PG PD) n).2.1 0 ≤ n.g := mg
    have h1 : (keptA A PR PG PD).r.getD (place (keptA A PR PG PD) n).1 0 ≤ n.r := lr k1
    omega
  have md : (near (keptA A PR PG PD) (place (keptA A PR PG PD) n)).d ≤ n.d := by
    have := hn.gd
    show max _ _ ≤ _
    have h2 : (keptA A PR PG PD).g.getD (place (keptA A PR PG PD) n).2.1 0 ≤ n.g := mg
    have h1 : (keptA A PR PG PD).d.getD (place (keptA A PR PG PD) n).2.2 0 ≤ n.d := lr k3
    omega
  revert n1 n2 n3 mo mg mr md
  generalize near (keptA A PR PG PD) (place (keptA A PR PG PD) n) = m
  intro n1 n2 n3 mo mg mr md
  have m1r : 1 ≤ m.r := by have := mo.g1; have := mo.gr; omega
  have m1d : 1 ≤ m.d := by have := mo.g1; have := mo.gd; omega
  have pn := place_in hA hn
  have pm := place_in hA mo
  have ir := idx_mono (ax := A.r) mr
  have ig := idx_mono (ax := A.g) mg
  have id_ := idx_mono (ax := A.d) md
  have nr := fun t => not_kept hA.r n1 k1 m1r r1 (t := t)
  have ng := fun t => not_kept hA.g n2 k2 mo.g1 hn.g1 (t := t)
  have nd := fun t => not_kept hA.d n3 k3 m1d d1 (t := t)
  unfold place at pn pm ⊢
  obtain ⟨q1, q2, q3, q4, q5⟩ := pn
  obtain ⟨s1, s2, s3, s4, s5⟩ := pm
  have gle : ∀ t, t ≤ idx A.g n.g → A.g.getD t 0 ≤ A.g.getD (idx A.g n.g) 0 := fun t ht => by
    rcases Nat.lt_or_ge t (idx A.g n.g) with y | y
    · have := hA.g.at_lt y q2
      omega
    · rw [show t = idx A.g n.g by omega]
      exact Int.le_refl _
  have e1 : W (idx A.r n.r, idx A.g m.g, idx A.d n.d) = W (idx A.r n.r, idx A.g n.g, idx A.d n.d) := by
    refine walk_down (W := fun t => W (idx A.r n.r, t, idx A.d n.d)) ig fun t h1 h2 => ?_
    exact c.g _ t _ (ng t h1 h2) ⟨q1, by have : idx A.g n.g < A.g.length := q2; show t + 1 < _; omega, q3, reach_spot q4 (gle (t + 1) (by omega)), reach_spot q5 (gle (t + 1) (by omega))⟩ ⟨q1, by have : idx A.g n.g < A.g.length := q2; show t < _; omega, q3, reach_spot q4 (gle t (by omega)), reach_spot q5 (gle t (by omega))⟩
  have e2 : W (idx A.r m.r, idx A.g m.g, idx A.d n.d) = W (idx A.r n.r, idx A.g m.g, idx A.d n.d) := by
    refine walk_down (W := fun t => W (t, idx A.g m.g, idx A.d n.d)) ir fun t h1 h2 => ?_
    exact c.r t _ _ (nr t h1 h2) ⟨by have : idx A.r n.r < A.r.length := q1; show t + 1 < _; omega, s2, q3, reach_up hA.r s4 (by show idx A.r m.r ≤ t + 1; omega), reach_spot q5 (gle _ ig)⟩ ⟨by have : idx A.r n.r < A.r.length := q1; show t < _; omega, s2, q3, reach_up hA.r s4 h1, reach_spot q5 (gle _ ig)⟩
  have e3 : W (idx A.r m.r, idx A.g m.g, idx A.d m.d) = W (idx A.r m.r, idx A.g m.g, idx A.d n.d) := by
    refine walk_down (W := fun t => W (idx A.r m.r, idx A.g m.g, t)) id_ fun t h1 h2 => ?_
    exact c.d _ _ t (nd t h1 h2) ⟨s1, s2, by have : idx A.d n.d < A.d.length := q3; show t + 1 < _; omega, s4, reach_up hA.d s5 (by show idx A.d m.d ≤ t + 1; omega)⟩ ⟨s1, s2, by have : idx A.d n.d < A.d.length := q3; show t < _; omega, s4, reach_up hA.d s5 h1⟩
  rw [e3, e2, e1]
/-! lines -/
abbrev Ln := List (Int × Int)
def lnAt (l : Ln) (x : Int) : Int := l.foldl (fun acc p => if p.1 ≤ x then p.2 else acc) 0
def LnOk (l : Ln) : Prop := AxOk (l.map (·.1))
theorem lnAt_snoc {l : Ln} {p : Int × Int} {x : Int} : lnAt (l ++ [p]) x = if p.1 ≤ x then p.2 else lnAt l x := by
  unfold lnAt
  rw [List.foldl_append]
  rfl
theorem lnAt_congr {l : Ln} {x y : Int} (h : ∀ p ∈ l, (p.1 ≤ x ↔ p.1 ≤ y)) : lnAt l x = lnAt l y := by
  unfold lnAt
  have key : ∀ (l : Ln) (acc : Int), (∀ p ∈ l, (p.1 ≤ x ↔ p.1 ≤ y)) → l.foldl (fun acc p => if p.1 ≤ x then p.2 else acc) acc = l.foldl (fun acc p => if p.1 ≤ y then p.2 else acc) acc := by
    intro l
    induction l with
    | nil => intro acc _; rfl
    | cons p r ih =>
      intro acc h
      rw [List.foldl_cons, List.foldl_cons, ih _ fun q hq => h q (List.mem_cons_of_mem _ hq)]
      have := h p List.mem_cons_self
      by_cases c : p.1 ≤ x
      · rw [if_pos c, if_pos (this.mp c)]
      · rw [if_neg c, if_neg fun z => c (this.mpr z)]
  exact key l 0 h
theorem lnAt_same {l : Ln} {U : List Int} {i : Nat} {x y : Int} (asc : U.Pairwise (· < ·)) (sub : ∀ p ∈ l, p.1 ∈ U) (hx : InIv U i x) (hy : InIv U i y) : lnAt l x = lnAt l y :=
  lnAt_congr fun p hp => (iv_mem asc hx (sub p hp)).trans (iv_mem asc hy (sub p hp)).symm
/-- a line by its starts -/
theorem lnAt_map {U : List Int} {w : Int → Int} : ∀ {x : Int}, U.Pairwise (· < ·) → (∃ a, U.head? = some a ∧ a ≤ x) → lnAt (U.map fun u => (u, w u)) x = w (U.getD (idx U x) 0) := by
  intro x asc hh
  have iv := idx_iv asc hh
  obtain ⟨a, e, le, nx⟩ := id iv
  rw [getD_of e]
  -- the last start that is not beyond x is a
  have split : U = U.take (idx U x + 1) ++ U.drop (idx U x + 1) := (List.take_append_drop _ _).symm
  have tk : U.take (idx U x + 1) = U.take (idx U x) ++ [a] := by rw [List.take_add_one, e]; rfl
  have none_ : ∀ b ∈ U.drop (idx U x + 1), ¬ b ≤ x := fun b hb z => by
    obtain ⟨j, hj⟩ := List.getElem?_of_mem hb
    rw [List.getElem?_drop] at hj
    have hj' := (List.getElem?_eq_some_iff.mp hj).1
    have hi1 : idx U x + 1 < U.length := by omega
    have c := nx _ (List.getElem?_eq_getElem hi1)
    rcases Nat.eq_zero_or_pos j with j0 | j0
    · subst j0
      rw [Nat.add_zero, List.getElem?_eq_getElem hi1] at hj
      cases hj
      omega
    · have p := List.pairwise_iff_getElem.mp asc (idx U x + 1) (idx U x + 1 + j) hi1 hj' (by omega)
      rw [List.getElem?_eq_getElem hj'] at hj
      cases hj
      omega
  have tail : ∀ (r : List Int) (acc : Int), (∀ b ∈ r, ¬ b ≤ x) → (r.map fun u => (u, w u)).foldl (fun acc (p : Int × Int) => if p.1 ≤ x then p.2 else acc) acc = acc := by
    intro r
    induction r with
    | nil => intro acc _; rfl
    | cons b r ih =>
      intro acc h
      rw [List.map_cons, List.foldl_cons, if_neg (h b List.mem_cons_self)]
      exact ih acc fun c hc => h c (List.mem_cons_of_mem _ hc)
  unfold lnAt
  rw [split, tk, List.map_append, List.map_append, List.foldl_append, List.foldl_append, tail _ _ none_]
  show (if a ≤ x then w a else _) = w a
  rw [if_pos le]
/-! cleaning a line -/
def clStep (k : Ln) (p : Int × Int) : Ln := match k.getLast? with
  | none => k ++ [p]
  | some q => if q.2 = p.2 then k else k ++ [p]
def clean (l : Ln) : Ln := l.foldl clStep []
theorem clean_snoc {l : Ln} {p : Int × Int} : clean (l ++ [p]) = clStep (clean l) p := by
  unfold clean
  rw [List.foldl_append]
  rfl
structure ClOk (l k : Ln) : Prop where
  at_ : ∀ x, lnAt k x = lnAt l x
  sub : ∀ p ∈ k, p ∈ l
  ok : (k.map (·.1)).Pairwise (· < ·)
  head : (k.map (·.1)).head? = (l.map (·.1)).head?
  last : ∀ q, k.getLast? = some q → (∃ z ∈ l, True) → ∀ x, (∀ p ∈ l, p.1 ≤ x) → lnAt l x = q.2
  ne : l ≠ [] → k ≠ []
theorem snoc_cases {α : Type} (l : List α) : l = [] ∨ ∃ r x, l = r ++ [x] := by
  rcases List.eq_nil_or_concat l with h | ⟨r, x, h⟩
  · exact .inl h
  · exact .inr ⟨r, x, by simpa using h⟩
theorem clean_ok : ∀ (n : Nat) (l : Ln), l.length = n → (l.map (·.1)).Pairwise (· < ·) → ClOk l (clean l)
  | 0, l, hn, _ => by
    rw [List.length_eq_zero_iff.mp hn]
    exact ⟨fun _ => rfl, fun p h => (nomatch h), List.Pairwise.nil, rfl, fun q h => (nomatch h), fun h => absurd rfl h⟩
  | n + 1, l, hn, asc => by
    rcases snoc_cases l with h | ⟨r, p, rfl⟩
    · rw [h] at hn; cases hn
    rw [List.length_append] at hn
    rw [List.map_append] at asc
    obtain ⟨a1, _, a3⟩ := List.pairwise_append.mp asc
    have ih := clean_ok n r (by simpa using hn) a1
    have lt : ∀ q ∈ r, q.1 < p.1 := fun q hq => a3 q.1 (List.mem_map.mpr ⟨q, hq, rfl⟩) p.1 List.mem_cons_self
    rw [clean_snoc]
    unfold clStep
    -- the case that the sign is put
    have put : ClOk (r ++ [p]) (clean r ++ [p]) := by
      refine ⟨fun x => by rw [lnAt_snoc, lnAt_snoc, ih.at_], fun q hq => ?_, ?_, ?_, fun q hq _ x hx => ?_, fun _ => by simp⟩
      · rcases List.mem_append.mp hq with h | h
        · exact List.mem_append.mpr (.inl (ih.sub q h))
        · exact List.mem_append.mpr (.inr h)
      · rw [List.map_append]
        refine List.pairwise_append.mpr ⟨ih.ok, List.pairwise_singleton _ _, fun a ha b hb => ?_⟩
        obtain ⟨q, hq, rfl⟩ := List.mem_map.mp ha
        rw [show b = p.1 from List.mem_singleton.mp hb]
        exact lt q (ih.sub q hq)
      · rw [List.map_append, List.map_append, List.head?_append, List.head?_append, ih.head]
      · rw [List.getLast?_append] at hq
        cases hq
        rw [lnAt_snoc, if_pos (hx p (List.mem_append.mpr (.inr List.mem_cons_self)))]
        rfl
    cases e : (clean r).getLast? with
    | none => exact put
    | some q =>
      show ClOk _ (if q.2 = p.2 then clean r else clean r ++ [p])
      by_cases c : q.2 = p.2
      · rw [if_pos c]
        have rne : r ≠ [] := fun z => by rw [z] at e; cases e
        obtain ⟨z, hz⟩ : ∃ z, z ∈ r := List.exists_mem_of_ne_nil r rne
        refine ⟨fun x => ?_, fun q' hq => List.mem_append.mpr (.inl (ih.sub q' hq)), ih.ok, ?_, fun q' hq _ x hx => ?_, fun _ => ih.ne rne⟩
        · rw [lnAt_snoc]
          split
          · next c2 => rw [ih.at_, ih.last q e ⟨z, hz, trivial⟩ x fun y hy => by have := lt y hy; omega, c]
          · exact ih.at_ x
        · rw [ih.head, List.map_append, List.head?_append]
          cases r with
          | nil => exact absurd rfl rne
          | cons y r => rfl
        · rw [e] at hq
          cases hq
          rw [lnAt_snoc, if_pos (hx p (List.mem_append.mpr (.inr List.mem_cons_self))), c]
      · rw [if_neg c]
        exact put
theorem clean_at_ {l : Ln} (h : LnOk l) (x : Int) : lnAt (clean l) x = lnAt l x := (clean_ok _ l rfl h.asc).at_ x
theorem clean_lnok {l : Ln} (h : LnOk l) : LnOk (clean l) := by
  have c := clean_ok _ l rfl h.asc
  exact ⟨c.ok, c.head.trans h.one⟩
/-- two lines on a common refinement -/
theorem lnmix_at {l k : Ln} {U : List Int} (hU : AxOk U) (sl : ∀ p ∈ l, p.1 ∈ U) (sk : ∀ p ∈ k, p.1 ∈ U) (f : Int → Int → Int) {x : Int} (hx : 1 ≤ x) : lnAt (clean (U.map fun u => (u, f (lnAt l u) (lnAt k u)))) x = f (lnAt l x) (lnAt k x) := by
  have ok : LnOk (U.map fun u => (u, f (lnAt l u) (lnAt k u))) := by
    unfold LnOk
    rw [List.map_map, show ((fun p : Int × Int => p.1) ∘ fun u => (u, f (lnAt l u) (lnAt k u))) = id from rfl, List.map_id]
    exact hU
  have iv := hU.iv hx
  have iv' : InIv U (idx U x) (U.getD (idx U x) 0) := iv_self hU.asc iv.lt
  rw [clean_at_ ok, lnAt_map hU.asc ⟨1, hU.one, hx⟩, lnAt_same hU.asc sl iv' iv, lnAt_same hU.asc sk iv' iv]
/-! stretches between two ends -/
def ins (lo hi : Option Int) (x : Int) : Bool := (match lo with | none => true | some a => decide (a ≤ x)) && (match hi with | none => true | some b => decide (x ≤ b))
def startsOf (lo hi : Option Int) : List Int := [1] ++ (match lo with | some a => if 1 < a then [a] else [] | none => []) ++ (match hi with | some b => if 1 ≤ b then [b + 1] else [] | none => [])
def EndsOk (lo hi : Option Int) : Prop := ∀ a b, lo = some a → hi = some b → a ≤ b
theorem starts_ok {lo hi : Option Int} (h : EndsOk lo hi) : AxOk (startsOf lo hi) := by
  unfold startsOf
  cases lo with
  | none =>
    cases hi with
    | none => exact ⟨List.pairwise_singleton _ _, rfl⟩
    | some b =>
      show AxOk ([1] ++ [] ++ if 1 ≤ b then [b + 1] else [])
      by_cases c : 1 ≤ b
      · rw [if_pos c]
        refine ⟨List.pairwise_cons.mpr ⟨fun a ha => ?_, List.pairwise_singleton _ _⟩, rfl⟩
        rw [List.mem_singleton.mp ha]; omega
      · rw [if_neg c]
        exact ⟨List.pairwise_singleton _ _, rfl⟩
  | some a =>
    cases hi with
    | none =>
      show AxOk ([1] ++ (if 1 < a then [a] else []) ++ [])
      by_cases c : 1 < a
      · rw [if_pos c]
        refine ⟨List.pairwise_cons.mpr ⟨fun x hx => ?_, List.pairwise_singleton _ _⟩, rfl⟩
        rw [List.mem_singleton.mp hx]; exact c
      · rw [if_neg c]
        exact ⟨List.pairwise_singleton _ _, rfl⟩
    | some b =>
      have ab := h a b rfl rfl
      show AxOk ([1] ++ (if 1 < a then [a] else []) ++ if 1 ≤ b then [b + 1] else [])
      by_cases c : 1 < a
      · rw [if_pos c, if_pos (by omega)]
        refine ⟨List.pairwise_cons.mpr ⟨fun x hx => ?_, List.pairwise_cons.mpr ⟨fun x hx => ?_, List.pairwise_singleton _ _⟩⟩, rfl⟩
        · have hx : x = a ∨ x = b + 1 := by simpa using hx
          rcases hx with rfl | rfl <;> omega
        · rw [List.mem_singleton.mp hx]; omega
      · rw [if_neg c]
        by_cases c2 : 1 ≤ b
        · rw [if_pos c2]
          refine ⟨List.pairwise_cons.mpr ⟨fun x hx => ?_, List.pairwise_singleton _ _⟩, rfl⟩
          rw [List.mem_singleton.mp hx]; omega
        · rw [if_neg c2]
          exact ⟨List.pairwise_singleton _ _, rfl⟩
theorem mem_starts {lo hi : Option Int} : (∀ a, lo = some a → 1 < a → a ∈ startsOf lo hi) ∧ ∀ b, hi = some b → 1 ≤ b → b + 1 ∈ startsOf lo hi := by
  refine ⟨fun a e c => ?_, fun b e c => ?_⟩
  · subst e
    unfold startsOf
    rw [show (match some a with | some a => if 1 < a then [a] else [] | none => []) = [a] from if_pos c]
    exact List.mem_append.mpr (.inl (List.mem_append.mpr (.inr List.mem_cons_self)))
  · subst e
    unfold startsOf
    rw [show (match some b with | some b => if 1 ≤ b then [b + 1] else [] | none => []) = [b + 1] from if_pos c]
    exact List.mem_append.mpr (.inr List.mem_cons_self)
/-- within one stretch of the starts, all numbers are inside or none -/
theorem ins_same {lo hi : Option Int} (h : EndsOk lo hi) {i : Nat} {x y : Int} (hx : InIv (startsOf lo hi) i x) (hy : InIv (startsOf lo hi) i y) (x1 : 1 ≤ x) (y1 : 1 ≤ y) : ins lo hi x = ins lo hi y := by
  have ok := starts_ok h
  have key : ∀ a ∈ startsOf lo hi, (a ≤ x ↔ a ≤ y) := fun a ha => (iv_mem ok.asc hx ha).trans (iv_mem ok.asc hy ha).symm
  unfold ins
  congr 1
  · cases lo with
    | none => rfl
    | some a =>
      show decide (a ≤ x) = decide (a ≤ y)
      rw [decide_eq_decide]
      by_cases c : 1 < a
      · exact key a (mem_starts.1 a rfl c)
      · constructor <;> intro <;> omega
  · cases hi with
    | none => rfl
    | some b =>
      show decide (x ≤ b) = decide (y ≤ b)
      rw [decide_eq_decide]
      by_cases c : 1 ≤ b
      · have := key (b + 1) (mem_starts.2 b rfl c)
        constructor <;> intro z
        · rcases Int.lt_or_le b y with q | q
          · have := this.mpr (by omega); omega
          · exact q
        · rcases Int.lt_or_le b x with q | q
          · have := this.mp (by omega); omega
          · exact q
      · constructor <;> intro <;> omega
def b2i (b : Bool) : Int := if b = true then 1 else 0
def lnBetween (lo hi : Option Int) : Ln := clean ((startsOf lo hi).map fun u => (u, b2i (ins lo hi u)))
theorem between_ok {lo hi : Option Int} (h : EndsOk lo hi) : LnOk ((startsOf lo hi).map fun u => (u, b2i (ins lo hi u))) := by
  unfold LnOk
  rw [List.map_map, show ((fun p : Int × Int => p.1) ∘ fun u => (u, b2i (ins lo hi u))) = id from rfl, List.map_id]
  exact starts_ok h
theorem between_at {lo hi : Option Int} (h : EndsOk lo hi) {x : Int} (hx : 1 ≤ x) : lnAt (lnBetween lo hi) x = b2i (ins lo hi x) := by
  have ok := starts_ok h
  have iv := ok.iv hx
  have iv' : InIv (startsOf lo hi) (idx (startsOf lo hi) x) ((startsOf lo hi).getD (idx (startsOf lo hi) x) 0) := iv_self ok.asc iv.lt
  unfold lnBetween
  rw [clean_at_ (between_ok h), lnAt_map ok.asc ⟨1, ok.one, hx⟩, ins_same h iv' iv ?_ hx]
  exact ok.ge (List.getElem?_eq_getElem iv.lt) |> fun z => by rw [getD_of (List.getElem?_eq_getElem iv.lt)]; exact z
end Gr
/-! ### laying the table of a set: it always succeeds -/
namespace SOr
open PySem SetTable
def adv (m i : Nat) : Nat := (i * 5 + 1) % m
def iter (m : Nat) : Nat → Nat → Nat
  | 0, i => i
  | k + 1, i => iter m k (adv m i)
theorem iter_add (m : Nat) : ∀ (a b i : Nat), iter m (a + b) i = iter m b (iter m a i)
  | 0, b, i => by rw [Nat.zero_add]; rfl
  | a + 1, b, i => by rw [Nat.succ_add]; exact iter_add m a b (adv m i)
def orbit (m : Nat) : Nat → Nat → List Nat
  | 0, _ => []
  | k + 1, i => i :: orbit m k (adv m i)
theorem orbit_mem (m : Nat) : ∀ (n i t : Nat), t ∈ orbit m n i → ∃ k, k < n ∧ iter m k i = t
  | 0, _, _, h => by cases h
  | n + 1, i, t, h => by
    rcases List.mem_cons.mp h with z | z
    · exact ⟨0, Nat.succ_pos _, z.symm⟩
    · obtain ⟨k, hk, e⟩ := orbit_mem m n (adv m i) t z
      exact ⟨k + 1, Nat.succ_lt_succ hk, e⟩
def Ms : List Nat := [8, 16, 32, 64, 128, 256]
def okM (m : Nat) : Bool := ((List.range m).all fun t => (orbit m m 0).contains t) && (iter m m 0 == 0)
theorem ms_ok : Ms.all okM = true := by decide +kernel
theorem hits {m : Nat} (hm : m ∈ Ms) {i t : Nat} (hi : i < m) (ht : t < m) : ∃ k, k < m ∧ iter m k i = t := by
  obtain ⟨h1, h2⟩ := Bool.and_eq_true_iff.mp (List.all_eq_true.mp ms_ok m hm)
  have at_ : ∀ t, t < m → ∃ k, k < m ∧ iter m k 0 = t := fun t ht => orbit_mem m m 0 t (by
    have z := List.all_eq_true.mp h1 t (List.mem_range.mpr ht)
    exact List.contains_iff_mem.mp z)
  have h2 : iter m m 0 = 0 := eq_of_beq h2
  obtain ⟨a, ha, ea⟩ := at_ i hi
  obtain ⟨b, hb, eb⟩ := at_ t ht
  by_cases c : a ≤ b
  · refine ⟨b - a, by omega, ?_⟩
    have z := iter_add m a (b - a) 0
    rw [ea, show a + (b - a) = b by omega, eb] at z
    exact z.symm
  · refine ⟨m - a + b, by omega, ?_⟩
    have z := iter_add m a (m - a) 0
    rw [ea, show a + (m - a) = m by omega, h2] at z
    rw [iter_add, ← z, eb]
/-- the place after k leaps -/
def pos (mask : Nat) : Nat → Nat → Nat → Nat
  | 0, i, _ => i
  | k + 1, i, p => pos mask k (leap mask i p).1 (leap mask i p).2
theorem leap_lt (mask i p : Nat) : (leap mask i p).1 < mask + 1 := Nat.mod_lt _ (Nat.succ_pos _)
theorem pos_zero (mask : Nat) : ∀ (k i : Nat), pos mask k i 0 = iter (mask + 1) k i
  | 0, _ => rfl
  | k + 1, i => by
    show pos mask k ((i * 5 + 1 + 0 / 32) % (mask + 1)) (0 / 32) = iter (mask + 1) k (adv (mask + 1) i)
    rw [Nat.zero_div, Nat.add_zero, pos_zero mask k]
    rfl
/-- after n leaps the perturbation is divided n times -/
theorem pos_split (mask : Nat) : ∀ (n k i p : Nat), ∃ i', (0 < n → i' < mask + 1) ∧ (n = 0 → i' = i) ∧ pos mask (n + k) i p = pos mask k i' (p / 32 ^ n)
  | 0, k, i, p => ⟨i, fun h => absurd h (Nat.lt_irrefl _), fun _ => rfl, by rw [Nat.zero_add, Nat.pow_zero, Nat.div_one]⟩
  | n + 1, k, i, p => by
    obtain ⟨i', h1, h2, h3⟩ := pos_split mask n k (leap mask i p).1 (leap mask i p).2
    refine ⟨i', fun _ => ?_, fun z => absurd z (Nat.succ_ne_zero _), ?_⟩
    · by_cases c : 0 < n
      · exact h1 c
      · rw [h2 (by omega)]
        exact leap_lt mask i p
    · rw [Nat.succ_add]
      show pos mask (n + k) (leap mask i p).1 (leap mask i p).2 = _
      rw [h3]
      show pos mask k i' (p / 32 / 32 ^ n) = pos mask k i' (p / 32 ^ (n + 1))
      rw [Nat.div_div_eq_div_mul, Nat.pow_succ, Nat.mul_comm]
theorem free_some (mask : Nat) (owner : Array (Option Nat)) : ∀ (fuel i p : Nat), (∃ k, k < fuel ∧ (owner.getD (pos mask k i p) (some 0)).isNone = true) → ∃ j, layClean.free mask owner fuel i p = some j ∧ (owner.getD j (some 0)).isNone = true
  | 0, _, _, ⟨k, h, _⟩ => absurd h (Nat.not_lt_zero k)
  | fuel + 1, i, p, ⟨k, h1, h2⟩ => by
    unfold layClean.free
    cases hf : (List.range (runEnd mask i + 1 - i)).find? (fun k => (owner.getD (i + k) (some 0)).isNone) with
    | some n => exact ⟨i + n, rfl, List.find?_some (p := fun k => (owner.getD (i + k) (some 0)).isNone) hf⟩
    | none =>
      cases k with
      | zero =>
        have z := List.find?_eq_none.mp hf 0 (List.mem_range.mpr (by unfold runEnd; split <;> omega))
        exact absurd h2 z
      | succ k => exact free_some mask owner fuel (leap mask i p).1 (leap mask i p).2 ⟨k, by omega, h2⟩
theorem free_ok {mask : Nat} (hm : mask + 1 ∈ Ms) (owner : Array (Option Nat)) {t : Nat} (ht : t < mask + 1) (he : (owner.getD t (some 0)).isNone = true) (i p : Nat) (hp : p < 2 ^ 64) : ∃ j, layClean.free mask owner (turns mask) i p = some j ∧ (owner.getD j (some 0)).isNone = true := by
  obtain ⟨i', h1, _, h3⟩ := pos_split mask 13 0 i p
  obtain ⟨k, hk, e⟩ := hits hm (h1 (by decide)) ht
  obtain ⟨i2, _, _, h4⟩ := pos_split mask 13 k i p
  refine free_some mask owner _ i p ⟨13 + k, by unfold turns; omega, ?_⟩
  have pz : p / 32 ^ 13 = 0 := Nat.div_eq_of_lt (Nat.lt_of_lt_of_le hp (by decide))
  have same : ∀ (n : Nat) (k i p : Nat), pos mask (n + k) i p = pos mask k (pos mask n i p) (p / 32 ^ n) := by
    intro n
    induction n with
    | zero => intro k i p; rw [Nat.zero_add, Nat.pow_zero, Nat.div_one]; rfl
    | succ n ih =>
      intro k i p
      rw [Nat.succ_add]
      show pos mask (n + k) (leap mask i p).1 (leap mask i p).2 = _
      rw [ih]
      show pos mask k (pos mask n (leap mask i p).1 (leap mask i p).2) (p / 32 / 32 ^ n) = pos mask k (pos mask n (leap mask i p).1 (leap mask i p).2) (p / 32 ^ (n + 1))
      rw [Nat.div_div_eq_div_mul, Nat.pow_succ, Nat.mul_comm]
  have e13 : pos mask 13 i p = i' := by
    have z := h3
    rw [Nat.add_zero] at z
    rw [z]
    rfl
  rw [same 13 k i p, e13, pz, pos_zero, e]
  exact he
theorem fm_congr {α β : Type} {f g : α → Option β} : ∀ {l : List α}, (∀ x ∈ l, f x = g x) → l.filterMap f = l.filterMap g
  | [], _ => rfl
  | a :: l, h => by
    rw [List.filterMap_cons, List.filterMap_cons, h a List.mem_cons_self, fm_congr fun x hx => h x (List.mem_cons_of_mem _ hx)]
/-! the places that are taken -/
def live (m : Nat) (owner : Array (Option Nat)) : List (Nat × Nat) := (List.range m).filterMap fun j => (owner.getD j none).map (j, ·)
theorem bits_lt (h : Int) : bits h < 2 ^ 64 := by
  unfold bits
  have := Int.emod_lt_of_pos h (show (0 : Int) < 2 ^ 64 by decide)
  have := Int.emod_nonneg h (show (2 ^ 64 : Int) ≠ 0 by decide)
  omega
theorem live_len {m : Nat} {owner : Array (Option Nat)} (hs : owner.size = m) (h : ∀ t, t < m → (owner.getD t (some 0)).isNone = false) : (live m owner).length = m := by
  have e : live m owner = (List.range m).map fun j => (j, (owner.getD j none).getD 0) := by
    unfold live
    rw [← List.filterMap_eq_map]
    refine fm_congr fun j hj => ?_
    have hj := List.mem_range.mp hj
    have z := h j hj
    have e1 : owner.getD j (some 0) = owner[j]'(by omega) := by rw [Array.getD_eq_getD_getElem?, Array.getElem?_eq_getElem (by omega)]; rfl
    have e2 : owner.getD j none = owner[j]'(by omega) := by rw [Array.getD_eq_getD_getElem?, Array.getElem?_eq_getElem (by omega)]; rfl
    rw [e1] at z
    show Option.map (j, ·) (owner.getD j none) = some (j, (owner.getD j none).getD 0)
    rw [e2]
    cases hh : owner[j]'(by omega) with
    | none => rw [hh] at z; cases z
    | some x => rfl
  rw [e, List.length_map, List.length_range]
theorem live_set {m : Nat} {owner : Array (Option Nat)} (hs : owner.size = m) {j k : Nat} (hj : (owner.getD j (some 0)).isNone = true) : ((live m (owner.setIfInBounds j (some k))).map (·.2)).Perm (k :: (live m owner).map (·.2)) := by
  have hjm : j < m := by
    refine Decidable.byContradiction fun c => ?_
    rw [Array.getD_eq_getD_getElem?, Array.getElem?_eq_none (by omega)] at hj
    cases hj
  have ej : owner.getD j none = none := by
    have e1 : owner.getD j (some 0) = owner[j]'(by omega) := by rw [Array.getD_eq_getD_getElem?, Array.getElem?_eq_getElem (by omega)]; rfl
    have e2 : owner.getD j none = owner[j]'(by omega) := by rw [Array.getD_eq_getD_getElem?, Array.getElem?_eq_getElem (by omega)]; rfl
    rw [e1] at hj
    rw [e2]
    exact Option.isNone_iff_eq_none.mp hj
  have er : List.range m = List.range j ++ (j :: ((List.range m).drop (j + 1))) := by
    have z := List.take_append_drop j (List.range m)
    rw [List.take_range, Nat.min_eq_left (Nat.le_of_lt hjm), List.drop_eq_getElem_cons (by rw [List.length_range]; exact hjm), List.getElem_range] at z
    exact z.symm
  have out : ∀ i, i ≠ j → (owner.setIfInBounds j (some k)).getD i none = owner.getD i none := fun i hi => by
    rw [Array.getD_eq_getD_getElem?, Array.getElem?_setIfInBounds_ne (Ne.symm hi), ← Array.getD_eq_getD_getElem?]
  have inn : (owner.setIfInBounds j (some k)).getD j none = some k := by
    rw [Array.getD_eq_getD_getElem?, Array.getElem?_setIfInBounds_self, if_pos (by omega)]
    rfl
  have nd : (List.range m).Nodup := List.nodup_range
  rw [er] at nd
  have n1 : ∀ i ∈ List.range j, i ≠ j := fun i hi => by have := List.mem_range.mp hi; omega
  have n2 : ∀ i ∈ (List.range m).drop (j + 1), i ≠ j := fun i hi e => by
    have z := (List.nodup_append.mp nd).2.1
    rw [e] at hi
    exact (List.nodup_cons.mp z).1 hi
  have f1 : ∀ l : List Nat, (∀ i ∈ l, i ≠ j) → l.filterMap (fun i => ((owner.setIfInBounds j (some k)).getD i none).map (i, ·)) = l.filterMap fun i => (owner.getD i none).map (i, ·) := fun l hl => fm_congr fun i hi => by rw [out i (hl i hi)]
  unfold live
  rw [er, List.filterMap_append, List.filterMap_append, List.filterMap_cons, List.filterMap_cons, inn, ej, f1 _ n1, f1 _ n2]
  show List.Perm (List.map (·.2) (_ ++ ((j, k) :: _))) _
  rw [List.map_append, List.map_cons, List.map_append]
  exact List.perm_middle
/-- what stands behind the first n hashes -/
def Inv (mask n : Nat) (owner : Array (Option Nat)) : Prop := owner.size = mask + 1 ∧ ((live (mask + 1) owner).map (·.2)).Perm (List.range n)
theorem range_snoc (n : Nat) : (n :: List.range n).Perm (List.range (n + 1)) := by
  rw [List.range_succ]
  exact (List.perm_append_singleton n (List.range n)).symm
def stepC (mask : Nat) (acc : Option (Array (Option Nat) × Nat)) (h : Int) : Option (Array (Option Nat) × Nat) := do
  let (owner, k) ← acc
  let j ← layClean.free mask owner (turns mask) (bits h % (mask + 1)) (bits h)
  pure (owner.setIfInBounds j (some k), k + 1)
theorem step_ok {mask : Nat} (hm : mask + 1 ∈ Ms) {n : Nat} {owner : Array (Option Nat)} (I : Inv mask n owner) (hn : n < mask + 1) (h : Int) : ∃ o', stepC mask (some (owner, n)) h = some (o', n + 1) ∧ Inv mask (n + 1) o' := by
  obtain ⟨i1, i2⟩ := I
  have free : ∃ t, t < mask + 1 ∧ (owner.getD t (some 0)).isNone = true := by
    refine Decidable.byContradiction fun c => ?_
    have z := live_len i1 fun t ht => by
      cases e : (owner.getD t (some 0)).isNone with
      | false => rfl
      | true => exact absurd ⟨t, ht, e⟩ c
    have z2 := i2.length_eq
    rw [List.length_map, List.length_range] at z2
    omega
  obtain ⟨t, ht, he⟩ := free
  obtain ⟨j, h1, h2⟩ := free_ok hm owner ht he (bits h % (mask + 1)) (bits h) (bits_lt h)
  refine ⟨owner.setIfInBounds j (some n), ?_, by rw [Array.size_setIfInBounds]; exact i1, ((live_set i1 h2).trans (i2.cons n)).trans (range_snoc n)⟩
  show (layClean.free mask owner (turns mask) (bits h % (mask + 1)) (bits h)).bind _ = _
  rw [h1]
  rfl
theorem fold_ok {mask : Nat} (hm : mask + 1 ∈ Ms) : ∀ (hs : List Int) (n : Nat) (owner : Array (Option Nat)), Inv mask n owner → n + hs.length ≤ mask + 1 → ∃ o', hs.foldl (stepC mask) (some (owner, n)) = some (o', n + hs.length) ∧ Inv mask (n + hs.length) o'
  | [], n, owner, I, _ => ⟨owner, rfl, I⟩
  | h :: hs, n, owner, I, l => by
    rw [List.length_cons] at l
    obtain ⟨o1, e1, I1⟩ := step_ok hm I (by omega) h
    obtain ⟨o2, e2, I2⟩ := fold_ok hm hs (n + 1) o1 I1 (by omega)
    refine ⟨o2, ?_, ?_⟩
    · rw [List.foldl_cons, e1, e2, List.length_cons]
      congr 2
      omega
    · rw [List.length_cons, show n + (hs.length + 1) = n + 1 + hs.length by omega]
      exact I2
theorem inv0 (mask : Nat) : Inv mask 0 (Array.replicate (mask + 1) none) := by
  refine ⟨Array.size_replicate, ?_⟩
  have e : live (mask + 1) (Array.replicate (mask + 1) none) = [] := by
    unfold live
    refine List.filterMap_eq_nil_iff.mpr fun j hj => ?_
    have hj := List.mem_range.mp hj
    rw [Array.getD_eq_getD_getElem?, Array.getElem?_replicate, if_pos hj]
    rfl
  rw [e]
  exact List.Perm.refl _
theorem clean_ok {mask : Nat} (hm : mask + 1 ∈ Ms) (hashes : Array Int) (hl : hashes.size ≤ mask) : ∃ o', layClean mask hashes = some o' ∧ Inv mask hashes.size o' := by
  obtain ⟨o', e, I⟩ := fold_ok hm hashes.toList 0 _ (inv0 mask) (by rw [Array.length_toList]; omega)
  rw [Nat.zero_add, Array.length_toList] at e I
  refine ⟨o', ?_, I⟩
  unfold layClean
  rw [← Array.foldl_toList]
  show (hashes.toList.foldl (stepC mask) (some (Array.replicate (mask + 1) none, 0))).map (·.1) = some o'
  rw [e]
  rfl
theorem live_fst {m : Nat} {owner : Array (Option Nat)} : ((live m owner).map (·.1)).Sublist (List.range m) := by
  unfold live
  generalize List.range m = l
  induction l with
  | nil => exact List.Sublist.refl _
  | cons j l ih =>
    rw [List.filterMap_cons]
    cases h : owner.getD j none with
    | none => exact ih.cons j
    | some k => exact ih.cons₂ j
/-- a laying: the table fits, rises, and holds all -/
theorem laid_ok {mask : Nat} (hm : mask + 1 ∈ Ms) (finger moves : Nat) (led plain : Bool) (es : Array (Int × Value)) (hl : es.size ≤ mask) : ∃ t order, laid mask finger moves led plain (es.map (·.1)) = some (t, order) ∧ t.fits es.size = true ∧ L2.Ris t.place.toList ∧ t.led = led ∧ t.mask = mask ∧ t.dummies = #[] ∧ t.plain = plain ∧ (order.filterMap (es[·]?)).toList.Perm es.toList := by
  obtain ⟨o', e, i1, i2⟩ := clean_ok hm (es.map (·.1)) (by rw [Array.size_map]; exact hl)
  rw [Array.size_map] at i2
  have ll : (live (mask + 1) o').length = es.size := by
    have z := i2.length_eq
    rw [List.length_map, List.length_range] at z
    exact z
  refine ⟨{ mask, place := ((live (mask + 1) o').map (·.1)).toArray, dummies := #[], finger, led, moves, plain }, ((live (mask + 1) o').map (·.2)).toArray, ?_, ?_, ?_, rfl, rfl, rfl, rfl, ?_⟩
  · unfold laid
    show (layClean mask (es.map (·.1))).bind _ = _
    rw [e]
    rfl
  · show (((live (mask + 1) o').map (·.1)).toArray.size == es.size && decide (((live (mask + 1) o').map (·.1)).toArray.size + (#[] : Array Nat).size ≤ mask)) = true
    rw [List.size_toArray, List.length_map, ll, beq_self_eq_true, Bool.true_and]
    exact decide_eq_true (by show es.size + 0 ≤ mask; omega)
  · exact List.Pairwise.sublist live_fst (by rw [List.range_eq_range']; exact List.pairwise_lt_range')
  · rw [Array.toList_filterMap]
    exact ((show (((live (mask + 1) o').map (·.2)).toArray).toList.Perm (List.range es.size) from i2).filterMap _).trans (by rw [filterMap_getElem?_range])
theorem above_ok : ∀ w : Nat, w < 256 → sizeAbove w ∈ Ms ∧ w < sizeAbove w := by decide +kernel
end SOr
/-! ### set | set of ints -/
namespace SOr
open PySem PySem.Spec PyProof.Rows L2
/-- a set of ints at a, with its table -/
structure SetX (w : World) (h : Heap) (a : Addr) (es : Array (Int × Value)) (t : SetTable) : Prop where
  ex : ∃ o ep, h.get? a = some o ∧ o.ExactSet ∧ o.data = .set es ep t
  g : ∀ e ∈ es.toList, GoodE e
  nd : (es.toList.map keyOf).Nodup
  b : es.size < scanBound
  f : t.fits es.size = true
  r : Ris t.place.toList
  l : w.params.followText "set-order" = true ∨ t.led = true
section
variable {P : Program} {w : World} {A : Around} {E : Value → Shared → Prop} {s : Shared} {h h' : Heap} {a : Addr} {es : Array (Int × Value)} {t : SetTable} {S : Int → Bool} {n : Nat}
theorem SetX.toR (X : SetX w h a es t) (m : ∀ k, S k = true ↔ k ∈ es.toList.map keyOf) : SetR w h a S es.size := by
  obtain ⟨o, ep, h1, h2, h3⟩ := X.ex
  exact ⟨o, es, ep, t, h1, h2, h3, X.g, X.nd, m, X.b, X.f, rfl, X.r, X.l⟩
theorem SetX.of (R : SetR w h a S n) : ∃ es t, SetX w h a es t ∧ (∀ k, S k = true ↔ k ∈ es.toList.map keyOf) ∧ es.size = n := by
  obtain ⟨o, es, ep, t, h1, h2, h3, g, nd, m, b, f, e, r, l⟩ := R
  exact ⟨es, t, ⟨⟨o, ep, h1, h2, h3⟩, g, nd, b, f, r, l⟩, m, e⟩
theorem SetX.at_ (X : SetX w h a es t) (k : ∀ o, h.get? a = some o → h'.get? a = some o) : SetX w h' a es t := by
  obtain ⟨o, ep, h1, h2⟩ := X.ex
  exact ⟨⟨o, ep, k o h1, h2⟩, X.g, X.nd, X.b, X.f, X.r, X.l⟩
/-- stored anew -/
theorem SetX.put {es' : Array (Int × Value)} {t' : SetTable} (X : SetX w h a es t) (g : ∀ e ∈ es'.toList, GoodE e) (nd : (es'.toList.map keyOf).Nodup) (b : es'.size < scanBound) (f : t'.fits es'.size = true) (r : Ris t'.place.toList) (l : w.params.followText "set-order" = true ∨ t'.led = true) : SetX w (h.update a (Obj.putSet es' t')) a es' t' := by
  obtain ⟨o, ep, h1, h2, h3⟩ := X.ex
  exact ⟨⟨_, ep + 1, store_at h1 h3, h2, rfl⟩, g, nd, b, f, r, l⟩
theorem relay_ok {wanted : Nat} {Q : Unit → Shared → Prop} (X : SetX w s.heap a es t) (hw : wanted < 256) (hn : es.size < SetTable.sizeAbove wanted)
    (q : ∀ h' es' t', Heap.SameBut a s.heap h' → SetX w h' a es' t' → es'.toList.Perm es.toList → t'.mask + 1 = SetTable.sizeAbove wanted → t'.dummies = #[] → Q () { s with heap := h' }) : wpAny (model P w) A (setRelay a wanted) Q E s := by
  obtain ⟨hm, hm2⟩ := above_ok wanted hw
  obtain ⟨mask, em⟩ : ∃ mask, SetTable.sizeAbove wanted = mask + 1 := ⟨SetTable.sizeAbove wanted - 1, by omega⟩
  rw [em] at hm
  obtain ⟨t', order, e1, e2, e3, e4, e5, e6, e7, e8⟩ := laid_ok hm t.finger (t.movedTo mask) t.led t.plain es (by omega)
  obtain ⟨o, ep, h1, h2, h3⟩ := X.ex
  have er : t.relaid (es.map (·.1)) wanted = some (t', order) := by
    unfold SetTable.relaid
    rw [em, Nat.add_sub_cancel]
    exact e1
  have hz : (order.filterMap (es[·]?)).size = es.size := by rw [← Array.length_toList, e8.length_eq, Array.length_toList]
  have hs : ¬ SetTable.sizeAbove wanted > sizeLine := by
    have : SetTable.sizeAbove wanted ≤ 256 := by
      rw [em]
      have := hm
      simp only [Ms, List.mem_cons, List.not_mem_nil, or_false] at this
      omega
    rw [sizeLine_eq]
    omega
  unfold setRelay
  refine wpAny_bind (wpAny_setState_of h1 h3 X.f ?_)
  dsimp only
  rw [if_neg hs, er]
  refine wpAny_bind ?_
  show wpAny _ _ (if ((order.filterMap (es[·]?)).size != es.size) = true then unsupported _ else pure (order.filterMap (es[·]?), t')) _ _ _
  rw [hz, bne_self_eq_false, if_neg Bool.false_ne_true]
  refine wpAny_pure ?_
  have hb : (order.filterMap (es[·]?)).size < scanBound := by rw [hz]; exact X.b
  refine wpAny_storeSet_of h1 h3 ?_ (fits_of_scanBound hb)
  refine q _ _ t' (Heap.SameBut.update s.heap a _) (X.put (fun e he => X.g e (e8.mem_iff.mp he)) ((e8.map keyOf).nodup_iff.mpr X.nd) hb (by rw [hz]; exact e2) e3 (X.l.imp id fun z => by rw [e4]; exact z)) e8 (by rw [e5, em]) e6
theorem SetX.sz (X : SetX w h a es t) : t.place.size = es.size := by
  have f := X.f
  simp only [SetTable.fits, Bool.and_eq_true, beq_iff_eq] at f
  exact f.1
theorem room_ok {more : Nat} {Q : Unit → Shared → Prop} (X : SetX w s.heap a es t) (hw : (es.size + more) * 2 < 256)
    (q : ∀ h' es' t', Heap.SameBut a s.heap h' → SetX w h' a es' t' → es'.toList.Perm es.toList → ((t' = t ∧ t.roomFor more = none) ∨ (t'.mask + 1 = SetTable.sizeAbove ((es.size + more) * 2) ∧ t'.dummies = #[])) → Q () { s with heap := h' }) : wpAny (model P w) A (setRoomFor a more) Q E s := by
  obtain ⟨o, ep, h1, h2, h3⟩ := X.ex
  unfold setRoomFor
  refine wpAny_bind (wpAny_setState_of h1 h3 X.f ?_)
  dsimp only
  cases hr : t.roomFor more with
  | none =>
    refine wpAny_pure ?_
    have z := q s.heap es t (Heap.SameBut.refl a s.heap) X (List.Perm.refl _) (.inl ⟨rfl, hr⟩)
    exact z
  | some wanted =>
    have ew : wanted = (es.size + more) * 2 := by
      unfold SetTable.roomFor at hr
      split at hr
      · rw [← Option.some.inj hr, X.sz]
      · cases hr
    subst ew
    dsimp only
    have := (above_ok _ hw).2
    exact relay_ok X hw (by omega) fun h' es' t' sb X' pm e1 e2 => q h' es' t' sb X' pm (.inr ⟨e1, e2⟩)
theorem merge_new {r o : Addr} {eo : Array (Int × Value)} {to tr : SetTable} {Q : Unit → Shared → Prop} (hro : r ≠ o) (Xo : SetX w s.heap o eo to) (Xr : SetX w s.heap r #[] tr) (fr : tr.dummies = #[]) (mr : tr.mask = 7) (ho : eo.size < 100)
    (q : ∀ h' es' t', Heap.SameBut r s.heap h' → SetX w h' r es' t' → es'.toList.Perm eo.toList → Q () { s with heap := h' }) : wpAny (model P w) A (setMerge r o) Q E s := by
  obtain ⟨oo, epo, o1, o2, o3⟩ := Xo.ex
  unfold setMerge
  rw [if_neg (by simpa using hro)]
  refine wpAny_bind (wpAny_setState_of o1 o3 Xo.f ?_)
  dsimp only
  by_cases hE : eo.isEmpty = true
  · rw [if_pos hE]
    refine wpAny_pure ?_
    have e0 : eo = #[] := by simpa using hE
    exact q s.heap #[] tr (Heap.SameBut.refl r s.heap) Xr (by rw [e0])
  rw [if_neg hE]
  refine wpAny_bind (room_ok Xr (by simp only [List.size_toArray, List.length_nil]; omega) fun h' es' t' sb X' pm hc => ?_)
  have ees : es' = #[] := by
    have z := pm.length_eq
    simpa using z
  subst ees
  have Xo' := Xo.at_ fun u e => (sb.2 o (Ne.symm hro)).trans e
  obtain ⟨oo', epo', o1', o2', o3'⟩ := Xo'.ex
  obtain ⟨orr, epr, r1, r2, r3⟩ := X'.ex
  have ps : t'.place.size = 0 := X'.sz
  have hfill : t'.fill = 0 ∧ t'.mask + 1 ∈ Ms ∧ eo.size ≤ t'.mask := by
    rcases hc with ⟨rfl, z⟩ | ⟨z1, z2⟩
    · refine ⟨by unfold SetTable.fill; rw [ps, fr]; rfl, by rw [mr]; decide, ?_⟩
      unfold SetTable.roomFor SetTable.fill at z
      rw [ps, fr, mr] at z
      split at z
      · cases z
      · rename_i hh
        have hh : ¬ (0 + 0 + eo.size) * 5 ≥ 7 * 3 := hh
        omega
    · have za := above_ok ((0 + eo.size) * 2) (by omega)
      refine ⟨by unfold SetTable.fill; rw [ps, z2]; rfl, ?_, ?_⟩
      · rw [z1]; exact za.1
      · have z1 : t'.mask + 1 = SetTable.sizeAbove ((0 + eo.size) * 2) := z1
        omega
  obtain ⟨f0, fm, fs⟩ := hfill
  refine wpAny_bind (wpAny_setState_of r1 r3 X'.f ?_)
  dsimp only
  have hl : w.params.followText "set-order" = true ∨ (t'.led && to.led) = true := by
    rcases X'.l with z | z
    · exact .inl z
    · rcases Xo.l with z2 | z2
      · exact .inl z2
      · exact .inr (by rw [z, z2]; rfl)
  cases hrd : t'.road to with
  | slotForSlot =>
    dsimp only
    refine wpAny_storeSet_of r1 r3 ?_ (fits_of_scanBound Xo.b)
    exact q _ eo _ (sb.trans (Heap.SameBut.update _ r _)) (X'.put Xo.g Xo.nd Xo.b Xo.f Xo.r hl) (List.Perm.refl _)
  | clean =>
    dsimp only
    obtain ⟨t2, order, e1, e2, e3, e4, e5, e6, e7, e8⟩ := laid_ok fm t'.finger t'.moves (t'.led && to.led) (t'.plain && to.plain) eo fs
    have hz : (order.filterMap (eo[·]?)).size = eo.size := by rw [← Array.length_toList, e8.length_eq, Array.length_toList]
    rw [e1]
    refine wpAny_bind ?_
    show wpAny _ _ (if ((order.filterMap (eo[·]?)).size != eo.size) = true then unsupported _ else pure (order.filterMap (eo[·]?), t2)) _ _ _
    rw [hz, bne_self_eq_false, if_neg Bool.false_ne_true]
    refine wpAny_pure ?_
    have hb : (order.filterMap (eo[·]?)).size < scanBound := by rw [hz]; exact Xo.b
    refine wpAny_storeSet_of r1 r3 ?_ (fits_of_scanBound hb)
    exact q _ _ t2 (sb.trans (Heap.SameBut.update _ r _)) (X'.put (fun e he => Xo.g e (e8.mem_iff.mp he)) ((e8.map keyOf).nodup_iff.mpr Xo.nd) hb (by rw [hz]; exact e2) e3 (by rw [e4]; exact hl)) e8
  | oneByOne =>
    unfold SetTable.road at hrd
    rw [f0] at hrd
    split at hrd
    · rename_i hh; exact absurd hh (by decide)
    · split at hrd <;> cases hrd
theorem setWalk_ok {Q : Array (Int × Value) → Shared → Prop} (X : SetX w s.heap a es t) (q : ∀ es' d, es'.toList.Perm es.toList → Q es' { s with drawn := d }) : wpAny (model P w) A (setWalk a) Q E s := by
  obtain ⟨o, ep, h1, h2, h3⟩ := X.ex
  have q0 : ∀ es', es'.toList.Perm es.toList → Q es' s := fun es' pm => q es' s.drawn pm
  unfold setWalk
  refine wpAny_bind (wpAny_setState_of h1 h3 X.f ?_)
  dsimp only
  refine wpAny_bind (wpAny_byText ?_)
  by_cases hb : w.params.followText "set-order" = true
  · rw [if_pos hb]
    refine wpAny_bind (wpAny_askSetting ?_)
    exact wpAny_pure (q0 _ (pick_perm _ _))
  rw [if_neg hb]
  have hl : t.led = true := X.l.elim (fun z => absurd z hb) id
  show wpAny _ _ (if (!t.plain && decide (es.size > 1)) = true then _ else _) _ _ _
  split
  · refine wpAny_bind (drawOrder_at _ _ _ _ (by rw [Array.length_toList]; exact Nat.le_refl _) fun ys d pm => ?_)
    exact wpAny_pure (q _ d pm)
  · refine wpAny_bind ?_
    show wpAny _ _ (if (!t.led && decide (es.size > 1)) = true then unsupported _ else pure PUnit.unit) _ _ _
    rw [hl]
    exact wpAny_pure (wpAny_pure (q0 _ (List.Perm.refl _)))
theorem quiet_ok {o : Addr} {eo : Array (Int × Value)} {to : SetTable} {Q : Bool → Shared → Prop} (X : SetX w s.heap a es t) (Xo : SetX w s.heap o eo to) (q : Q true s) : wpAny (model P w) A (setsQuiet [o, a]) Q E s := by
  unfold setsQuiet
  refine wpAny_bind (wpAny_forIn_list _ (fun rest b s' => b = (none, ()) ∧ s' = s ∧ ∀ y ∈ rest, ∃ es t, SetX w s.heap y es t) _ ?_ ?_ _ _ ⟨rfl, rfl, fun y hy => ?_⟩)
  · rintro y rest b s' ⟨rfl, rfl, hy⟩
    obtain ⟨ey, ty, Xy⟩ := hy y List.mem_cons_self
    obtain ⟨u, ep, h1, h2, h3⟩ := Xy.ex
    refine wpAny_bind (wpAny_setEntries_of h1 h3 Xy.f ?_)
    refine wpAny_bind (wpAny_forIn_array' _ (fun rest b s2 => b = (none, ()) ∧ s2 = s' ∧ ∀ e ∈ rest, GoodE e) _ ?_ ?_ _ _ ⟨rfl, rfl, Xy.g⟩)
    · rintro ⟨hh, x⟩ rest2 b2 s2 ⟨rfl, rfl, hg⟩
      obtain ⟨k, tk, e1, _⟩ := hg _ List.mem_cons_self
      dsimp only at e1
      subst e1
      exact wpAny_pure ⟨rfl, rfl, fun e he => hg e (List.mem_cons_of_mem _ he)⟩
    · rintro b2 s2 ⟨rfl, rfl, _⟩
      exact wpAny_pure ⟨rfl, rfl, fun z hz => hy z (List.mem_cons_of_mem _ hz)⟩
  · rintro b s' ⟨rfl, rfl, _⟩
    exact wpAny_pure q
  · rcases List.mem_cons.mp hy with z | z
    · rw [z]; exact ⟨_, _, Xo⟩
    · rw [List.mem_singleton.mp z]; exact ⟨_, _, X⟩
/-- the members of o as they are handed to r -/
theorem unseen_ok {r o : Addr} {eo er : Array (Int × Value)} {to tr : SetTable} {Q : Array (Int × Value) → Shared → Prop} (hro : r ≠ o) (Xo : SetX w s.heap o eo to) (Xr : SetX w s.heap r er tr)
    (q : ∀ es' h' d tr', es'.toList.Perm eo.toList → Heap.SameBut r s.heap h' → SetX w h' r er tr' → Q es' { s with heap := h', drawn := d }) : wpAny (model P w) A (setWalkUnseen o [r] (some r)) Q E s := by
  obtain ⟨oo, epo, o1, o2, o3⟩ := Xo.ex
  obtain ⟨orr, epr, r1, r2, r3⟩ := Xr.ex
  unfold setWalkUnseen
  refine wpAny_bind (wpAny_setState_of o1 o3 Xo.f ?_)
  dsimp only
  refine wpAny_bind (wpAny_byText ?_)
  have plainW : wpAny (model P w) A (setWalk o) Q E s := setWalk_ok Xo fun es' d pm => q es' s.heap d tr pm (Heap.SameBut.refl r s.heap) Xr
  split
  · exact plainW
  · rename_i hc
    have hl : w.params.followText "set-order" = false := by
      cases z : w.params.followText "set-order" with
      | false => rfl
      | true => rw [z] at hc; exact absurd rfl hc
    have lo : to.led = true := Xo.l.elim (fun z => by rw [hl] at z; cases z) id
    have lr : tr.led = true := Xr.l.elim (fun z => by rw [hl] at z; cases z) id
    refine wpAny_bind (quiet_ok Xr Xo ?_)
    rw [if_neg (by decide)]
    refine wpAny_bind (wpAny_rule ?_)
    refine wpAny_bind (wpAny_setState_of r1 r3 Xr.f ?_)
    dsimp only
    split
    · refine wpAny_bind (wpAny_storeSet_of r1 r3 ?_ (fits_of_scanBound Xr.b))
      refine wpAny_pure ?_
      exact q eo _ s.drawn _ (List.Perm.refl _) (Heap.SameBut.update s.heap r _) (Xr.put Xr.g Xr.nd Xr.b Xr.f Xr.r (.inr (by show (tr.led && to.led) = true; rw [lr, lo]; rfl)))
    · exact wpAny_pure (q eo s.heap s.drawn tr (List.Perm.refl _) (Heap.SameBut.refl r s.heap) Xr)
theorem merge_add {r o : Addr} {T : Int → Bool} {m : Nat} {id : String} {Q : Unit → Shared → Prop} (hro : r ≠ o) (Ro : SetR w s.heap o T m) (Rr : SetR w s.heap r S n) (hn : 0 < n) (hs : n + m < 120)
    (q : ∀ h' d c, Heap.SameBut r s.heap h' → c ≤ n + m → SetR w h' r (fun j => S j || T j) c → Q () { s with heap := h', drawn := d }) : wpAny (model P w) A (Builtin.Frozenset.merge id r o) Q E s := by
  obtain ⟨eo, to, Xo, mo, so⟩ := SetX.of Ro
  obtain ⟨er, tr, Xr, mr, sr⟩ := SetX.of Rr
  obtain ⟨oo, epo, o1, o2, o3⟩ := Xo.ex
  unfold Builtin.Frozenset.merge
  refine wpAny_bind (wpAny_setEpoch_of o1 o3 Xo.f ?_)
  unfold setMerge
  rw [if_neg (by simpa using hro)]
  refine wpAny_bind (wpAny_setState_of o1 o3 Xo.f ?_)
  dsimp only
  by_cases hE : eo.isEmpty = true
  · rw [if_pos hE]
    refine wpAny_pure ?_
    have e0 : eo = #[] := by simpa using hE
    have z := q s.heap s.drawn n (Heap.SameBut.refl r s.heap) (Nat.le_add_right _ _) (Rr.congr fun k => by
      have : T k = false := by
        cases hk : T k with
        | false => rfl
        | true => have := (mo k).mp hk; rw [e0] at this; cases this
      rw [this, Bool.or_false])
    exact z
  rw [if_neg hE]
  refine wpAny_bind (room_ok Xr (by rw [sr, so]; omega) fun h1 er1 tr1 sb1 Xr1 pm1 _ => ?_)
  have Xo1 := Xo.at_ fun u e => (sb1.2 o (Ne.symm hro)).trans e
  have o1' : h1.get? o = some oo := (sb1.2 o (Ne.symm hro)).trans o1
  obtain ⟨orr, epr, r1, r2, r3⟩ := Xr1.ex
  refine wpAny_bind (wpAny_setState_of r1 r3 Xr1.f ?_)
  dsimp only
  have sz1 : er1.size = n := by rw [← sr, ← Array.length_toList, pm1.length_eq, Array.length_toList]
  have hfill : tr1.fill ≠ 0 := by
    have := Xr1.sz
    unfold SetTable.fill
    omega
  have hrd : tr1.road to = .oneByOne := by
    unfold SetTable.road
    rw [if_pos (by simpa using hfill)]
  rw [hrd]
  dsimp only
  refine wpAny_bind (unseen_ok (s := { s with heap := h1 }) hro Xo1 Xr1 fun es' h2 d tr2 pm2 sb2 Xr2 => ?_)
  have sb12 := sb1.trans sb2
  have o2' : h2.get? o = some oo := (sb2.2 o (Ne.symm hro)).trans o1'
  have m1 : ∀ k, S k = true ↔ k ∈ er1.toList.map keyOf := fun k => (mr k).trans (pm1.map keyOf).mem_iff.symm
  have R2 := Xr2.toR m1
  rw [sz1] at R2
  have g2 : ∀ e ∈ es'.toList, GoodE e := fun e he => Xo.g e (pm2.mem_iff.mp he)
  have lz : es'.toList.length = m := by rw [pm2.length_eq, Array.length_toList, so]
  have hsb : scanBound = 4096 := rfl
  refine wpAny_bind (wpAny_forIn_array' _ (fun rest _ s' => ∃ (done : List (Int × Value)) (h' : Heap) (c : Nat), es'.toList = done ++ rest ∧ s' = { s with heap := h', drawn := d } ∧ Heap.SameBut r s.heap h' ∧ h'.get? o = some oo ∧ SetR w h' r (fun j => S j || decide (j ∈ done.map keyOf)) c ∧ c ≤ n + done.length) _ ?_ ?_ _ _ ⟨[], h2, n, rfl, rfl, sb12, o2', R2.congr fun k => by simp, Nat.le_refl _⟩)
  · rintro ⟨hh, x⟩ rest _ s' ⟨done, h', c, e0, rfl, sb, oo', R', hc⟩
    have gx := g2 (hh, x) (by rw [e0]; exact List.mem_append.mpr (.inr List.mem_cons_self))
    obtain ⟨k, tk, e1, e2⟩ := gx
    dsimp only at e1 e2
    subst e1 e2
    have ld : done.length + (rest.length + 1) = m := by
      rw [← lz, e0, List.length_append, List.length_cons]
    refine wpAny_bind (wpAny_holding ?_)
    refine setR_add_hashed (s := { s with heap := h', drawn := d }) R' (by omega) fun h3 sb3 R3 => ?_
    have o3' : h3.get? o = some oo := (sb3.2 o (Ne.symm hro)).trans oo'
    refine wpAny_bind ?_
    unfold Builtin.Frozenset.unchanged
    refine wpAny_bind (wpAny_setEpoch_of o3' o3 Xo.f ?_)
    rw [bne_self_eq_false, if_neg Bool.false_ne_true]
    refine wpAny_pure ?_
    refine wpAny_bind (wpAny_setState_of o3' o3 Xo.f ?_)
    rw [bne_self_eq_false, if_neg Bool.false_ne_true]
    refine wpAny_pure ⟨done ++ [(hashInt k, .int k tk)], h3, _, by rw [e0, List.append_assoc]; rfl, rfl, sb.trans sb3, o3', R3.congr fun j => ?_, ?_⟩
    · rw [List.map_append, Bool.or_assoc]
      congr 1
      rw [Bool.eq_iff_iff, Bool.or_eq_true, decide_eq_true_eq, decide_eq_true_eq, decide_eq_true_eq, List.mem_append]
      constructor
      · rintro (z | z)
        · exact .inl z
        · exact .inr (List.mem_singleton.mp z)
      · rintro (z | z)
        · exact .inl z
        · exact .inr (List.mem_singleton.mpr z)
    · rw [List.length_append, List.length_singleton]
      split <;> omega
  · rintro _ s' ⟨done, h', c, e0, rfl, sb, oo', R', hc⟩
    rw [List.append_nil] at e0
    refine wpAny_pure (q h' d c sb (by rw [← lz, e0]; exact hc) (R'.congr fun k => ?_))
    congr 1
    rw [Bool.eq_iff_iff, decide_eq_true_eq, ← e0, (pm2.map keyOf).mem_iff]
    exact mo k
theorem sub_ss : isSubtype (.type "set") (.type "set") = pure true := by rw [isSubtype_type]; kernel_rfl
theorem fresh_x {h : Heap} (w : World) : SetX w (h.push { cls := .type "set", dict := none, data := .set #[] 0 (.fresh 0 0 (!w.params.followText "set-order")) }) h.objs.size #[] (.fresh 0 0 (!w.params.followText "set-order")) :=
  ⟨⟨_, 0, Heap.get?_push_size _ rfl, ⟨rfl, rfl, rfl⟩, rfl⟩, (fun e he => by simp at he), (by simp), (by decide), (by rfl), List.Pairwise.nil, by
    show _ ∨ (!w.params.followText "set-order") = true
    cases w.params.followText "set-order"
    · exact .inr rfl
    · exact .inl rfl⟩
theorem entry_set_or : entryFor table "set.__or__" = some Builtin.«frozenset.__or__» :=
  entryFor_alias (by kernel_rfl) (id' := "frozenset.__or__") rfl (by decide +kernel) (by kernel_rfl)
theorem copy_ok {l : Addr} {Q : Value → Shared → Prop} (R : SetR w s.heap l S n) (hn : n < 100)
    (q : ∀ h', (∀ b o, s.heap.get? b = some o → h'.get? b = some o) → SetR w h' s.heap.objs.size S n → Q (.ref s.heap.objs.size) { s with heap := h' }) : wpAny (model P w) A (Builtin.Frozenset.copyOf l) Q E s := by
  obtain ⟨el, tl, X, m, sz⟩ := SetX.of R
  obtain ⟨ol, epl, l1, l2, l3⟩ := X.ex
  have hT : s.TypeIs (.ref l) "set" := ⟨_, l1, l2.1⟩
  unfold Builtin.Frozenset.copyOf Builtin.Frozenset.baseOf
  refine wpAny_bind (wpAny_bind (wpAny_isInstance hT sub_ss ?_))
  rw [if_pos rfl]
  refine wpAny_pure ?_
  refine wpAny_bind (PpSet.newSet_ok ?_)
  refine wpAny_bind (wpAny_pure ?_)
  have kp : ∀ b o, s.heap.get? b = some o → (s.heap.push { cls := .type "set", dict := none, data := .set #[] 0 (.fresh 0 0 (!w.params.followText "set-order")) }).get? b = some o := fun b o e => Heap.get?_push_of_some _ e
  have hne : s.heap.objs.size ≠ l := Nat.ne_of_gt (Heap.lt_size l1)
  refine wpAny_bind (merge_new (s := { s with heap := s.heap.push { cls := .type "set", dict := none, data := .set #[] 0 (.fresh 0 0 (!w.params.followText "set-order")) } }) hne (X.at_ fun u e => kp l u e) (fresh_x w) rfl rfl (by omega) fun h' es' t' sb X' pm => ?_)
  refine wpAny_pure ?_
  have R' := X'.toR (S := S) fun k => (m k).trans (pm.map keyOf).mem_iff.symm
  have e : es'.size = n := by rw [← sz, ← Array.length_toList, pm.length_eq, Array.length_toList]
  rw [e] at R'
  exact q h' (fun b o hb => (sb.2 b (fun z => by rw [z] at hb; exact absurd (Heap.lt_size hb) (Nat.lt_irrefl _))).trans (kp b o hb)) R'
theorem or_ok {a b : Addr} {T : Int → Bool} {m : Nat} {Q : Value → Shared → Prop} (hab : a ≠ b) (Ra : SetR w s.heap a S n) (Rb : SetR w s.heap b T m) (hn : 0 < n) (hs : n + m < 100)
    (q : ∀ h' d c, (∀ x o, s.heap.get? x = some o → h'.get? x = some o) → c ≤ n + m → SetR w h' s.heap.objs.size (fun j => S j || T j) c → Q (.ref s.heap.objs.size) { s with heap := h', drawn := d }) : wpAny (model P w) A (binaryOp .BitOr (.ref a) (.ref b)) Q E s := by
  obtain ⟨ea, ta, Xa, _, _⟩ := SetX.of Ra
  obtain ⟨eb, tb, Xb, _, _⟩ := SetX.of Rb
  obtain ⟨oa, epa, a1, a2, a3⟩ := Xa.ex
  obtain ⟨ob, epb, b1, b2, b3⟩ := Xb.ex
  have hA : s.TypeIs (.ref a) "set" := ⟨_, a1, a2.1⟩
  have hB : s.TypeIs (.ref b) "set" := ⟨_, b1, b2.1⟩
  refine wpAny_binaryOp_same hA hB F.fills_set_or F.slot_set_or (wpAny_call_entry F.slot_set_or hA entry_set_or ?_ (F.args_set_or_2 _ _))
  unfold Builtin.«frozenset.__or__»
  refine wpAny_bind (m := Builtin.Frozenset.slot1 "__or__" ⟨[.ref a, .ref b], []⟩) ?_
  unfold Builtin.Frozenset.slot1 slotArgs
  have ca : oa.cls = .type "set" := a2.1
  have cb : ob.cls = .type "set" := b2.1
  have ne : (Value.ref b != Value.ref a) = true := by
    refine bne_iff_ne.mpr fun z => hab ?_
    injection z with z
    exact z.symm
  wp_walk
  rw [ca]
  refine wpAny_of_eq sub_ss ?_
  dsimp only [toBool]
  refine wpAny_pure ?_
  dsimp only [toBool]
  refine wpAny_bind ?_
  rw [if_neg Bool.false_ne_true]
  refine wpAny_isInstance hB sub_ss ?_
  dsimp only [toBool]
  refine wpAny_pure ?_
  rw [if_neg (by decide)]
  refine wpAny_bind (wpAny_pure ?_)
  refine wpAny_bind ?_
  refine wpAny_bind (m := Builtin.Frozenset.copyOf a) ?_
  refine copy_ok (s := s) Ra (by omega) fun h1 k1 R1 => ?_
  have hne : s.heap.objs.size ≠ b := Nat.ne_of_gt (Heap.lt_size b1)
  have hB1 : Shared.TypeIs { s with heap := h1 } (.ref b) "set" := ⟨_, k1 _ _ b1, b2.1⟩
  dsimp only
  rw [if_pos ne]
  refine wpAny_bind (wpAny_pure ?_)
  refine wpAny_bind (wpAny_holding ?_)
  unfold Builtin.Frozenset.updateFrom
  refine wpAny_bind (m := Builtin.Frozenset.isAnySet (.ref b)) ?_
  unfold Builtin.Frozenset.isAnySet
  refine wpAny_bind (wpAny_isInstance hB1 sub_ss ?_)
  dsimp only [toBool]
  refine wpAny_pure ?_
  rw [if_pos rfl]
  refine wpAny_bind (wpAny_pure ?_)
  refine merge_add (s := { s with heap := h1 }) hne (Rb.at fun o e => k1 _ _ e) R1 hn (by omega) fun h2 d c sb hc R2 => ?_
  refine wpAny_pure ?_
  show wpAny _ _ (ret (Value.ref s.heap.objs.size)) _ _ _
  refine wpAny_pure ⟨_, rfl, (fun z => nomatch z), ?_⟩
  exact q h2 d c (fun x o e => (sb.2 x (fun z => by rw [z] at e; exact absurd (Heap.lt_size e) (Nat.lt_irrefl _))).trans (k1 x o e)) hc R2
end
end SOr
/-! ### set(list of ints), set | set: rules -/
namespace SOr
open PySem PySem.Spec PyProof.Rows L2
/-- a new empty set -/
abbrev ns0 (w : World) : Obj := { cls := .type "set", dict := none, data := .set #[] 0 (.fresh 0 0 (!w.params.followText "set-order")) }
section
variable {P : Program} {w : World} {A : Around} {E : Value → Shared → Prop} {s : Shared}
set_option maxRecDepth 100000 in
set_option maxHeartbeats 3200000 in
theorem call_set_listI {l : Addr} {items : Array Value} (ns : List Int) {Q : Value → Shared → Prop} (hh : A.handled = none) (hl : s.heap.IsList l items) (hit : IntsAre items.toList ns) (hb : ns.length + 1 < scanBound)
    (q : ∀ (h' : Heap) (tk c : Nat), SetR w h' s.heap.objs.size (fun j => decide (j ∈ ns)) c → c ≤ ns.length → (∀ b o, s.heap.get? b = some o → h'.get? b = some o) → Q (.ref s.heap.objs.size) { s with heap := h', toks := tk }) :
    wpAny (model P w) A (call (.type "set") [.ref l]) Q E s := by
  have nI : items.size = ns.length := by rw [← Array.length_toList]; exact IntsAre.length hit
  obtain ⟨_, _, hmro⟩ := F.called_set.mro
  have f1 := F.called_set.made
  have f2 := F.called_set.sub
  refine wpAny_call (codeAny_of_tree ?_)
  show wpAny _ _ (callAny (.type "set") _) _ _ _
  refine wpAny_pure ⟨Code.quiet_builtin _ (by decide +kernel), codeAny_builtin F.entry_type_call ?_⟩
  rw [Around.under_plain (weight_type_call_type "set" [.ref l] []) rfl]
  have f3 := F.called_set.notType
  have f4 := F.called_set.canCreate
  have f5 := F.typeCall_set_1 (.ref l)
  repeat (any_goals (first | assumption | wp_step))
  refine codeAny_mono (code_set_led1 (.ref l) (E := E) (Q₁ := fun v t => v = .ref s.heap.objs.size ∧ t = { s with heap := s.heap.push (ns0 w) }) ⟨rfl, rfl⟩) fun res t1 hres => ?_
  cases res with
  | error e => exact hres
  | ok fl =>
    cases fl with
    | ret v =>
      obtain ⟨rfl, rfl⟩ := hres
      have gS : (s.heap.push (ns0 w)).get? s.heap.objs.size = some (ns0 w) := Heap.get?_push_size _ rfl
      have tS : Shared.TypeIs { s with heap := s.heap.push (ns0 w) } (.ref s.heap.objs.size) "set" := ⟨_, gS, rfl⟩
      have f6 := F.called_set.init.lookup
      have f7 := F.called_set.init.bind (.ref s.heap.objs.size)
      repeat (any_goals (first | assumption | wp_step))
      refine codeAny_mono (codeAny_call_builtin (R := wants (fun v t => v = .none ∧ ∃ h' tk c, t = { s with heap := h', toks := tk } ∧ SetR w h' s.heap.objs.size (fun j => decide (j ∈ ns)) c ∧ c ≤ ns.length ∧
          (∀ b o, s.heap.get? b = some o → h'.get? b = some o)) E) F.called_set.init.plain F.entry_set_init (check_set_init_1 tS ?_)) fun res2 t2 hres2 => ?_
      · obtain ⟨ol, hol, hcl, nl, hdl⟩ := hl
        obtain ⟨ocls, odict, odata, oslots⟩ := ol
        simp only at hcl hdl
        subst hcl; subst hdl
        have hol' : (s.heap.push (ns0 w)).get? l = some { cls := .type "list", dict := odict, data := .seq items nl, slots := oslots } := Heap.get?_push_of_some _ hol
        have g1 := F.sub_list_set
        have g2 := F.sub_list_frozenset
        have g3 : (Value.type "list" == Value.type "dict") = false := by decide
        have hl1 : (s.heap.push (ns0 w)).IsList l items := ⟨_, hol', rfl, nl, rfl⟩
        unfold Builtin.«set.__init__» noKeywords Builtin.Frozenset.updateFrom
        generalize hPI : pyIter = PI
        wp_walk
        subst hPI
        refine wpAny_pyIter_list hl1 ?_
        refine wpAny_bind (wpAny_runValue ?_)
        have lS : l < s.heap.objs.size := Heap.lt_size hol
        have h3 : A.in1.in1.in1.handled = none := by simp [hh]
        have nI2 : l ≠ (s.heap.push (ns0 w)).objs.size := by
          rw [Heap.size_push]
          exact Nat.ne_of_lt (Nat.lt_succ_of_lt lS)
        have nSf : s.heap.objs.size ∉ [(s.heap.push (ns0 w)).objs.size, l] := by
          rw [Heap.size_push]
          simp only [List.mem_cons, List.not_mem_nil, or_false, not_or]
          exact ⟨Nat.ne_of_lt (Nat.lt_succ_self _), Nat.ne_of_gt lS⟩
        have vals : ∀ (i : Nat) (v : Value), items[i]? = some v → ∃ k t, ns[i]? = some k ∧ v = .int k t := fun i v hv => by
          have hi : i < ns.length := by rw [← nI]; exact (Array.getElem?_eq_some_iff.mp hv).1
          obtain ⟨t, e⟩ := PyProof.Rows.IntsAre.int_at hit i v (by rw [Array.getElem?_toList]; exact hv)
          exact ⟨ns[i], t, List.getElem?_eq_getElem hi, by rw [e, List.getD_eq_getElem?_getD, List.getElem?_eq_getElem hi] <;> rfl⟩
        refine set_update_ints ((Walks.list h3 _ l nI2 items).toS) s.heap.objs.size nSf ns nI hb vals (items.size - 0) 0 _ (by omega) (Nat.zero_le _)
          ⟨⟨_, Heap.get?_push_size _ rfl, rfl, rfl⟩, (hl1.push _)⟩ ?hS0 ?hR
        case hS0 =>
          have gg : ((s.heap.push (ns0 w)).push { cls := .type "list_iterator", data := .fields #[.ref l, .int 0 0] }).get? s.heap.objs.size = some (ns0 w) := Heap.get?_push_of_some _ gS
          exact ⟨0, Nat.le_refl 0, setR_new_at gg⟩
        case hR =>
          intro t' c' hm hc' hS'
          obtain ⟨h', g', d', tk', os'⟩ := t'
          have eg : g' = s.gens := hm.gens
          have ed : d' = s.drawn := hm.drawn
          have eo : os' = s.os := hm.os
          subst eg ed eo
          show wpAny _ _ _ _ _ _
          refine wpAny_pure ?_
          show wpAny _ _ (ret Value.none) _ _ _
          rw [nI] at hc'
          refine wpAny_pure ⟨rfl, h', tk', c', rfl, hS', hc', fun b o e => ?_⟩
          have b0 : b < s.heap.objs.size := Heap.lt_size e
          have b1 : b ≠ s.heap.objs.size := Nat.ne_of_lt b0
          have b2 : b ≠ (s.heap.push (ns0 w)).objs.size := by
            rw [Heap.size_push]
            exact Nat.ne_of_lt (Nat.lt_succ_of_lt b0)
          exact hm.heap b o (by simp only [List.mem_cons, List.not_mem_nil, or_false, not_or]; exact ⟨b1, b2⟩) (Heap.get?_push_of_some _ (Heap.get?_push_of_some _ e))
      · cases res2 with
        | error e => exact hres2
        | ok fl2 =>
          cases fl2 with
          | ret v =>
            obtain ⟨rfl, h', tk, c', rfl, hS', hc', hk'⟩ := hres2
            repeat (any_goals (first | assumption | wp_step))
            exact q _ _ _ hS' hc' hk'
          | _ => exact hres2.elim
    | _ => exact hres.elim
end
section
variable {X : Cx}
theorem setR_pos {w : World} {h : Heap} {a : Addr} {S : Int → Bool} {n : Nat} (R : SetR w h a S n) {k : Int} (hk : S k = true) : 0 < n := by
  obtain ⟨es, t, _, m, e⟩ := SetX.of R
  have z := (m k).mp hk
  rw [← e, ← Array.length_toList]
  cases h : es.toList with
  | nil => rw [h] at z; cases z
  | cons x r => exact Nat.succ_pos _
/-- set(xs), xs a list of ints, one at least -/
def rSetI (K : PySem.W.Frag) (w : World) : List V → Hp → VK → Prop := fun xs H Q => ∃ (l : Addr) (ns : List Int), xs = [V.ref l] ∧ SqL K H l (ns.map V.int) ∧ 0 < ns.length ∧ ns.length ≤ 1000 ∧
  ∀ a c, H a = none → 0 < c → c ≤ ns.length → Q (.ref a) (upd H a (SetO w a (fun j => decide (j ∈ ns)) c))
theorem cr_setI (hc : X.calm = true) : CallR X (.type "set") (rSetI X.K X.w) := by
  intro pins s σ H xs us Q I r h
  obtain ⟨l, ns, rfl, hl, h0, h1, q⟩ := h
  rw [Vals.ref1 r]
  obtain ⟨its, rv, pl, hz⟩ := I.list hl
  have hn : H s.heap.objs.size = none := I.hok.fresh (Nat.le_refl _)
  refine call_set_listI (P := X.prog) (w := X.w) ns (I.ok.hd hc) pl.isList (ints_of_vals rv) (by unfold scanBound; omega) fun h' tk c R hcn k => ?_
  refine ⟨.ref s.heap.objs.size, upd H s.heap.objs.size (SetO X.w s.heap.objs.size (fun j => decide (j ∈ ns)) c), I.laid (t' := tk) k (Nat.le_refl _) (setO_new R), rfl, q _ c hn ?_ hcn⟩
  exact setR_pos R (k := ns[0]) (decide_eq_true (List.getElem_mem _))
def rOrSet (w : World) : R2 := fun x y H Q => ∃ (a b : Addr) (S T : Int → Bool) (n m : Nat), x = .ref a ∧ y = .ref b ∧ a ≠ b ∧ H a = some (SetO w a S n) ∧ H b = some (SetO w b T m) ∧ 0 < n ∧ n + m < 100 ∧
  ∀ p c, H p = none → c ≤ n + m → Q (.ref p) (upd H p (SetO w p (fun j => S j || T j) c))
theorem op_orSet : OpR X (binaryOp .BitOr) (rOrSet X.w) := by
  intro pins s σ H x y v u Q I rx ry h
  obtain ⟨a, b, S, T, n, m, rfl, rfl, hab, ha, hb, hn, hs, q⟩ := h
  cases rx
  cases ry
  refine or_ok hab (setO_get I ha) (setO_get I hb) hn hs fun h' d c k hc R => ?_
  have hp : s.heap.objs.size ≤ s.heap.objs.size := Nat.le_refl _
  have hn0 : H s.heap.objs.size = none := I.hok.fresh hp
  have J : L2.Inv X pins σ (upd H s.heap.objs.size (SetO X.w s.heap.objs.size (fun j => S j || T j) c)) { s with heap := h', drawn := d } :=
    I.call (ch := []) (Un.laid k hp hn0) (I.hok.laid k hp (setO_new R)) I.bare (fun _ z => nomatch z)
  exact ⟨.ref _, _, J, rfl, q _ c hn0 hc⟩
end
end SOr
namespace Wr
open PySem PySem.Spec PyProof.Rows L2
open Gr (AxOk idx InIv Axes Num Pl Wt Ln lnAt LnOk clean startsOf ins EndsOk gAt keptA keep reach inPl b2i lnBetween)
/-! ### readings, one lemma a construct: what is left to be shown behind it -/
section
variable {σ : L2.St} {H : Hp} {Q : VK} {QB : Bool → Hp → Prop} {QA : List V → Hp → Prop} {D : Ends} {t u : TS} {te ta tb : TE} {tt tu : TT} {i j : Int} {v : V} {K : PySem.W.Frag}
theorem r_seq (h : t { D with nx := u D } σ H) : tSeq t u D σ H := h
theorem r_next (h : D.nx σ H) : tNext D σ H := h
theorem r_asg {g : TG} (h : te σ H fun x H1 => g x σ H1 D.nx) : tAsg te g D σ H := h
theorem r_drop (h : te σ H fun _ H1 => D.nx σ H1) : tDrop te D σ H := h
theorem r_ret (h : te σ H D.rt) : tRet te D σ H := h
theorem r_ifs (h : tt σ H fun b H1 => if b = true then t D σ H1 else u D σ H1) : tIfS tt t u D σ H := h
theorem r_gname {n : Nat} {QS : L2.St → Hp → Prop} (h : QS (σ.set n (some v)) H) : gName n v σ H QS := h
theorem r_gsub {to ti : TE} {s : TSet} {QS : L2.St → Hp → Prop} (h : to σ H fun o H1 => ti σ H1 fun i H2 => s o i v H2 fun H3 => QS σ H3) : gSub to ti s v σ H QS := h
theorem r_gtup {n : Nat} {tg : TGs} {a : Addr} {xs : List V} {QS : L2.St → Hp → Prop} (h1 : SqT K H a xs) (h2 : xs.length = n) (h : tg xs σ H QS) : gTup K n tg (.ref a) σ H QS := ⟨a, xs, rfl, h1, h2, h⟩
theorem r_gcons {g : TG} {tg : TGs} {xs : List V} {QS : L2.St → Hp → Prop} (h : g v σ H fun s' H' => tg xs s' H' QS) : gCons g tg (v :: xs) σ H QS := ⟨v, xs, rfl, h⟩
theorem r_gnil {QS : L2.St → Hp → Prop} (h : QS σ H) : gNil [] σ H QS := ⟨rfl, h⟩
theorem r_var {n : Nat} (e : σ[n]? = some (some v)) (h : Q v H) : tVar n σ H Q := ⟨v, e, h⟩
theorem r_c (h : Q v H) : tC v σ H Q := h
theorem r_op {r : R2} (h : ta σ H fun x H1 => tb σ H1 fun y H2 => r x y H2 Q) : tOp r ta tb σ H Q := h
theorem r_un {r : V → Hp → VK → Prop} (h : ta σ H fun x H1 => r x H1 Q) : tUn r ta σ H Q := h
theorem r_I {C : Int → Int → Prop} {g : Int → Int → V} (c : C i j) (h : Q (g i j) H) : rI C g (.int i) (.int j) H Q := ⟨i, j, rfl, rfl, c, h⟩
theorem r_I0 {g : Int → Int → V} (h : Q (g i j) H) : rI0 g (.int i) (.int j) H Q := ⟨i, j, rfl, rfl, h⟩
theorem r_U {g : Int → V} (h : Q (g i) H) : rU g (.int i) H Q := ⟨i, rfl, h⟩
theorem r_test (h : te σ H fun x H1 => ∃ k, x = .bl k ∧ QB k H1) : tTest te σ H QB := h
theorem r_tB (h : te σ H fun x H1 => ∃ k, x = .bl k ∧ QB k H1) : tB te σ H QB := h
theorem r_bl {b : Bool} {F : Bool → Prop} (h : F b) : ∃ k, V.bl b = .bl k ∧ F k := ⟨b, rfl, h⟩
theorem r_and (h : tt σ H fun c H1 => if c = true then tu σ H1 QB else QB false H1) : tAnd tt tu σ H QB := h
theorem r_or (h : tt σ H fun c H1 => if c = true then QB true H1 else tu σ H1 QB) : tOr tt tu σ H QB := h
theorem r_not (h : tt σ H fun c H1 => QB (!c) H1) : tNot tt σ H QB := h
theorem r_andV (h : ta σ H fun x H1 => ∃ c, x = .bl c ∧ if c = true then tb σ H1 Q else Q (.bl false) H1) : tAndV ta tb σ H Q := h
theorem r_orV (h : ta σ H fun x H1 => ∃ c, x = .bl c ∧ if c = true then Q (.bl true) H1 else tb σ H1 Q) : tOrV ta tb σ H Q := h
theorem r_notV (h : ta σ H fun x H1 => ∃ c, x = .bl c ∧ Q (.bl (!c)) H1) : tNotV ta σ H Q := h
theorem r_ife (h : tt σ H fun c H1 => if c = true then ta σ H1 Q else tb σ H1 Q) : tIf tt ta tb σ H Q := h
theorem eq_dint : decide (V.int i = V.int j) = decide (i = j) := by
  by_cases e : i = j
  · rw [e, decide_eq_true rfl, decide_eq_true rfl]
  · rw [decide_eq_false e, decide_eq_false fun z => e (V.int.inj z)]
theorem eq_dbl {a b : Bool} : decide (V.bl a = V.bl b) = (a == b) := by cases a <;> cases b <;> rfl
theorem eq_dstr {a b : Str} : decide (V.str a = V.str b) = decide (a = b) := by
  by_cases e : a = b
  · rw [e, decide_eq_true rfl, decide_eq_true rfl]
  · rw [decide_eq_false e, decide_eq_false fun z => e (V.str.inj z)]
theorem r_eqI (h : Q (.bl (decide (i = j))) H) : rEq (.int i) (.int j) H Q := ⟨rfl, by rw [eq_dint]; exact h⟩
theorem r_neI (h : Q (.bl (!decide (i = j))) H) : rNe (.int i) (.int j) H Q := ⟨rfl, by rw [eq_dint]; exact h⟩
theorem r_eqB {a b : Bool} (h : Q (.bl (a == b)) H) : rEq (.bl a) (.bl b) H Q := ⟨rfl, by rw [eq_dbl]; exact h⟩
theorem r_neB {a b : Bool} (h : Q (.bl (!(a == b))) H) : rNe (.bl a) (.bl b) H Q := ⟨rfl, by rw [eq_dbl]; exact h⟩
theorem r_eqS {a b : Str} (h : Q (.bl (decide (a = b))) H) : rEq (.str a) (.str b) H Q := ⟨rfl, by rw [eq_dstr]; exact h⟩
theorem r_neS {a b : Str} (h : Q (.bl (!decide (a = b))) H) : rNe (.str a) (.str b) H Q := ⟨rfl, by rw [eq_dstr]; exact h⟩
theorem r_ixL {p : Addr} {xs : List V} (h1 : SqL K H p xs) (h2 : atI xs i = some v) (h : Q v H) : rIxL K (.ref p) (.int i) H Q := ⟨p, xs, i, v, rfl, rfl, h1, h2, h⟩
theorem r_ixT {p : Addr} {xs : List V} (h1 : SqT K H p xs) (h2 : atI xs i = some v) (h : Q v H) : rIxT K (.ref p) (.int i) H Q := ⟨p, xs, i, v, rfl, rfl, h1, h2, h⟩
theorem r_setL {p : Addr} {xs : List V} {n : Nat} {QH : Hp → Prop} (h1 : H p = some (.lst xs)) (h2 : ixN xs.length i = some n) (h : QH (upd H p (.lst (xs.set n v)))) : rSetL (.ref p) (.int i) v H QH := ⟨p, xs, i, n, rfl, rfl, h1, h2, h⟩
theorem r_nil (h : QA [] H) : tNil σ H QA := h
theorem r_cons {tr : TA} (h : te σ H fun x H1 => tr σ H1 fun xs H2 => QA (x :: xs) H2) : tCons te tr σ H QA := h
theorem r_cb {r : List V → Hp → VK → Prop} {ts : TA} (h : ts σ H fun vs H1 => r vs H1 Q) : tCB r ts σ H Q := h
theorem r_call {sp : Sp} {dvs : List V} {E : XK} {ts : TA} (h : ts σ H fun vs H1 => sp (vs ++ dvs) H1 Q E) : tCall sp dvs E ts σ H Q := h
theorem r_lst {ts : TA} (h : ts σ H fun xs H1 => xs.length ≤ sizeLine ∧ ∀ p, H1 p = none → Q (.ref p) (upd H1 p (.lst xs))) : tLst ts σ H Q := h
theorem r_tup {ts : TA} (h : ts σ H fun xs H1 => xs.length ≤ sizeLine ∧ ∀ p, H1 p = none → Q (.ref p) (upd H1 p (.tup xs))) : tTup ts σ H Q := h
theorem r_new {n : Nat} {F : Addr → Prop} (h1 : Nat.ble n 1000 = true) (h : ∀ p, H p = none → F p) : n ≤ sizeLine ∧ ∀ p, H p = none → F p := ⟨Nat.le_of_lt (small1000 (Nat.le_of_ble_eq_true h1)), h⟩
theorem r_ite {c : Prop} [Decidable c] {A B : Prop} (h1 : c → A) (h2 : ¬ c → B) : if decide c = true then A else B := by
  by_cases e : c
  · rw [decide_eq_true e]; exact iteT (h1 e)
  · rw [decide_eq_false e]; exact iteF (h2 e)
theorem r_iten {c : Prop} [Decidable c] {A B : Prop} (h1 : ¬ c → A) (h2 : c → B) : if (!decide c) = true then A else B := by
  by_cases e : c
  · rw [decide_eq_true e]; exact iteF (h2 e)
  · rw [decide_eq_false e]; exact iteT (h1 e)
theorem r_iteb {b : Bool} {A B : Prop} (h1 : b = true → A) (h2 : b = false → B) : if b = true then A else B := by
  cases b
  · exact iteF (h2 rfl)
  · exact iteT (h1 rfl)
theorem r_itebn {b : Bool} {A B : Prop} (h1 : b = false → A) (h2 : b = true → B) : if (!b) = true then A else B := by
  cases b
  · exact iteT (h1 rfl)
  · exact iteF (h2 rfl)
theorem iteNT {A B : Prop} (h : B) : if (!true) = true then A else B := iteF h
theorem iteNF {A B : Prop} (h : A) : if (!false) = true then A else B := iteT h
/-- int(n), abs(n), len(list) by words of their own -/
def rInt1 : List V → Hp → VK → Prop := fun xs H Q => ∃ i, xs = [.int i] ∧ Q (.int i) H
def rIntB : List V → Hp → VK → Prop := fun xs H Q => ∃ k, xs = [.bl k] ∧ Q (.int (if k then 1 else 0)) H
def rAbs1 : List V → Hp → VK → Prop := fun xs H Q => ∃ i, xs = [.int i] ∧ Q (.int (if i < 0 then -i else i)) H
def rLenL (K : PySem.W.Frag) : List V → Hp → VK → Prop := fun xs H Q => ∃ p ys, xs = [.ref p] ∧ (SqL K H p ys ∨ SqT K H p ys) ∧ Q (.int ys.length) H
theorem c_int1 {X : Cx} : CallR X (.type "int") rInt1 := fun pins s σ H xs us Q I r h => call_int1 pins s σ H xs us Q I r (Or.inl h)
theorem c_intB {X : Cx} : CallR X (.type "int") rIntB := fun pins s σ H xs us Q I r h => call_int1 pins s σ H xs us Q I r (Or.inr h)
theorem c_abs {X : Cx} : CallR X (.builtin "abs") rAbs1 := call_abs
theorem c_len {X : Cx} : CallR X (.builtin "len") (rLenL X.K) := call_len_seq
theorem r_int1 (h : Q (.int i) H) : rInt1 [.int i] H Q := ⟨i, rfl, h⟩
theorem r_intB {b : Bool} (h : Q (.int (if b then 1 else 0)) H) : rIntB [.bl b] H Q := ⟨b, rfl, h⟩
theorem r_abs1 (h : Q (.int (if i < 0 then -i else i)) H) : rAbs1 [.int i] H Q := ⟨i, rfl, h⟩
theorem r_lenL {p : Addr} {xs : List V} (h1 : SqL K H p xs) (h : Q (.int xs.length) H) : rLenL K [.ref p] H Q := ⟨p, xs, rfl, .inl h1, h⟩
theorem r_lenT {p : Addr} {xs : List V} (h1 : SqT K H p xs) (h : Q (.int xs.length) H) : rLenL K [.ref p] H Q := ⟨p, xs, rfl, .inr h1, h⟩
theorem r_bm {T : String} {r : V → List V → Hp → VK → Prop} {to : TE} {ts : TA} (h : to σ H fun x H1 => tyV K T x H1 ∧ ts σ H1 fun xs H2 => r x xs H2 Q) : tBM K T r to ts σ H Q := h
theorem r_tyL {p : Addr} {xs : List V} {A : Prop} (h1 : SqL K H p xs) (h : A) : tyV K "list" (.ref p) H ∧ A := ⟨Or.inl ⟨rfl, xs, h1⟩, h⟩
theorem r_app {p : Addr} {xs : List V} (h1 : H p = some (.lst xs)) (h2 : xs.length < sizeLine) (h : Q .non (upd H p (.lst (xs ++ [v])))) : rAppend (.ref p) [v] H Q := ⟨p, xs, v, rfl, rfl, h1, h2, h⟩
theorem r_isi {x c : V} {tv uv : Value} {b : Bool} (h1 : ClsV c uv) (h2 : TyX K H x tv) (h3 : PySem.W.kitOne K tv uv = some b) (h : Q (.bl b) H) : rIsi K [x, c] H Q := ⟨x, c, tv, uv, b, rfl, h1, h2, h3, h⟩
end
theorem bit_ok {b : Bool} : -(2 ^ 64) < (if b then (1 : Int) else 0) ∧ (if b then (1 : Int) else 0) < 2 ^ 64 := by cases b <;> decide
def kAt (ns : List Int) (i : Nat) : Int := ns.getD i 0
theorem ati_n {ns : List Int} {j : Nat} (h : j < ns.length) : atI (ns.map V.int) (j : Int) = some (.int (kAt ns j)) := atI_nat (by
  rw [List.getElem?_map, List.getElem?_eq_getElem h]
  show some (V.int ns[j]) = _
  rw [kAt, List.getD_eq_getElem?_getD, List.getElem?_eq_getElem h]
  rfl)
theorem ati_int {ns : List Int} {i : Int} (h0 : 0 ≤ i) (h1 : i < ns.length) : atI (ns.map V.int) i = some (.int (kAt ns i.toNat)) := by
  have e := ati_n (ns := ns) (j := i.toNat) (by omega)
  rw [Int.toNat_of_nonneg h0] at e
  exact e
theorem ati_last {ns : List Int} (h : 0 < ns.length) : atI (ns.map V.int) (-1) = some (.int (kAt ns (ns.length - 1))) := by
  unfold atI ixN
  rw [if_neg (by decide), if_pos (by rw [List.length_map]; omega), List.length_map]
  show (ns.map V.int)[((-1 : Int) + ns.length).toNat]? = _
  rw [show ((-1 : Int) + ns.length).toNat = ns.length - 1 by omega, List.getElem?_map, List.getElem?_eq_getElem (by omega)]
  rw [kAt, List.getD_eq_getElem?_getD, List.getElem?_eq_getElem (by omega)]
  rfl
theorem ixn_in {n : Nat} {i : Int} (h0 : 0 ≤ i) (h1 : i < n) : ixN n i = some i.toNat := by
  unfold ixN
  rw [if_pos h0, if_pos h1]
theorem same_new {H : Hp} {p : Addr} {o : HO} (h : H p = none) : Same H (upd H p o) := fun b x e => by
  rw [upd_ne (ne_of_none e h)]
  exact e
theorem nox_K {CX : CXT} {P : Program} {w : World} {K : PySem.W.Frag} {mg : Str → Option Value} {base : Heap} {N : List Str} {qual : Str} {sc : Scope} {f : Addr} {cd : Value} {A : Around} {outer : List Env} {s : Shared} {H : Hp} {E : XK} : (cxOf CX P w K mg base N qual sc f cd A outer s H E).nox.K = K := rfl
theorem cx_K {CX : CXT} {P : Program} {w : World} {K : PySem.W.Frag} {mg : Str → Option Value} {base : Heap} {N : List Str} {qual : Str} {sc : Scope} {f : Addr} {cd : Value} {A : Around} {outer : List Env} {s : Shared} {H : Hp} {E : XK} : (cxOf CX P w K mg base N qual sc f cd A outer s H E).K = K := rfl
section
variable {H : Hp} {Q : VK} {i j : Int} {K : PySem.W.Frag}
/-- % and // and * that hand on a letter -/
theorem r_mod (c : 0 < j) (h : ∀ k : Int, 0 ≤ k → k < j → k = i % j → Q (.int k) H) : rI (fun _ j => 0 < j) (fun i j => .int (i % j)) (.int i) (.int j) H Q :=
  ⟨i, j, rfl, rfl, c, h _ (Int.emod_nonneg _ (by omega)) (Int.emod_lt_of_pos _ c) rfl⟩
theorem r_fdiv (c : 0 < j) (c2 : j < 2 ^ 200) (h : ∀ k : Int, (0 ≤ i → 0 ≤ k) → k = i / j → Q (.int k) H) : rI CDivW (fun i j => .int (i / j)) (.int i) (.int j) H Q :=
  ⟨i, j, rfl, rfl, wide_div (b := 201) c (by omega) (by decide) (by decide), h _ (fun z => Int.ediv_nonneg z (by omega)) rfl⟩
theorem r_mul (c : CMul i j) (h : ∀ k : Int, k = i * j → Q (.int k) H) : rI CMul (fun i j => .int (i * j)) (.int i) (.int j) H Q := ⟨i, j, rfl, rfl, c, h _ rfl⟩
theorem r_lenI {p : Addr} {ns : List Int} (h1 : H p = some (.lst (ns.map V.int))) (h : Q (.int ns.length) H) : rLenL K [.ref p] H Q := ⟨p, _, rfl, .inl (.inl (.inl h1)), by rw [List.length_map]; exact h⟩
end
theorem bl_to {a b : Bool} {Q : VK} {H : Hp} (q : Q (.bl b) H) (e : a = b) : Q (.bl a) H := e ▸ q
/-! ### comprehensions by words of their own -/
def lcGo (J : It) (g : TG) (tt : TT) (te : TE) (vs : List Nat) (σ : L2.St) (Q : VK) (H1 : Hp) : Prop :=
  ∀ D, H1 D = none → ∃ W : Nat → Nat → Hp → Prop, (∃ m, W 0 m (upd H1 D (.lst []))) ∧
    ∀ i m H, W i m H → (J.stop i H ∧ Q (.ref D) H) ∨
      (J.go i H ∧ ∃ Nx : Hp → Prop, (∀ H', Nx H' → ∃ m', m' < m ∧ W (i + 1) m' H') ∧
        ∀ x H', J.yld i H x H' → g x (wipe σ vs) H' fun σ2 H2 => wipe σ2 vs = wipe σ vs ∧ tt σ2 H2 fun b H3 =>
          if b = true then te σ2 H3 fun y H4 => ∃ acc, H4 D = some (.lst acc) ∧ acc.length < sizeLine ∧ Nx (upd H4 D (.lst (acc ++ [y]))) else Nx H3)
section
variable {σ : L2.St} {H : Hp} {Q : VK} {te tl : TE} {K : PySem.W.Frag} {a : Addr} {xs : List V}
theorem r_lc {wi : TI} {g : TG} {tt : TT} {vs : List Nat} (h : wi σ H fun J H1 => lcGo J g tt te vs σ Q H1) : tLc wi g tt te vs σ H Q := h
theorem r_il {R : It → Hp → Prop} (h : tl σ H fun x H1 => ∃ a, x = .ref a ∧ (∃ xs, SqL K H1 a xs) ∧ R (Itl K a) H1) : iList K tl σ H R := h
theorem r_it {R : It → Hp → Prop} (h : tl σ H fun x H1 => ∃ a, x = .ref a ∧ (∃ xs, SqT K H1 a xs) ∧ R (Itt K a) H1) : iTup K tl σ H R := h
theorem r_itl {F : Addr → Prop} (hS : SqL K H a xs) (h : F a) : ∃ b, V.ref a = .ref b ∧ (∃ xs, SqL K H b xs) ∧ F b := ⟨a, rfl, ⟨xs, hS⟩, h⟩
theorem r_itt {F : Addr → Prop} (hS : SqT K H a xs) (h : F a) : ∃ b, V.ref a = .ref b ∧ (∃ xs, SqT K H b xs) ∧ F b := ⟨a, rfl, ⟨xs, hS⟩, h⟩
theorem r_rng1 {ta : TA} {R : It → Hp → Prop} (h : ta σ H fun vs H1 => ∃ j : Int, vs = [.int j] ∧ -(2 ^ 62) ≤ j ∧ j < 2 ^ 62 ∧ R (Itr 0 j.toNat) H1) : iRng1 ta σ H R := h
theorem r_rng2 {ta : TA} {R : It → Hp → Prop} (h : ta σ H fun vs H1 => ∃ i j : Int, vs = [.int i, .int j] ∧ (-(2 ^ 62) ≤ i ∧ i < 2 ^ 62 ∧ -(2 ^ 62) ≤ j ∧ j < 2 ^ 62) ∧ R (Itr i (j - i).toNat) H1) : iRng2 ta σ H R := h
theorem r_upto {j : Int} {F : Int → Prop} (h1 : -1000000 ≤ j) (h2 : j ≤ 1000000) (h : F j) : ∃ k : Int, [V.int j] = [.int k] ∧ -(2 ^ 62) ≤ k ∧ k < 2 ^ 62 ∧ F k := ⟨j, rfl, by omega, by omega, h⟩
theorem r_from {i j : Int} {F : Int → Int → Prop} (h0 : -1000000 ≤ i ∧ i ≤ 1000000) (h1 : -1000000 ≤ j ∧ j ≤ 1000000) (h : F i j) : ∃ i' j' : Int, [V.int i, V.int j] = [.int i', .int j'] ∧ (-(2 ^ 62) ≤ i' ∧ i' < 2 ^ 62 ∧ -(2 ^ 62) ≤ j' ∧ j' < 2 ^ 62) ∧ F i' j' := ⟨i, j, rfl, by omega, h⟩
theorem r_for {wi : TI} {g : TG} {tb : TS} {D : Ends} (h : wi σ H fun J H1 => ∃ W : Nat → Nat → L2.St → Hp → Prop, (∃ m, W 0 m σ H1) ∧ ∀ i m σ H, W i m σ H →
      (J.stop i H ∧ D.nx σ H) ∨ (J.go i H ∧ ∃ N : L2.St → Hp → Prop, (∀ σ' H', N σ' H' → ∃ m', m' < m ∧ W (i + 1) m' σ' H') ∧
        ∀ x H', J.yld i H x H' → g x σ H' fun σ2 H2 => tb { D with nx := N, ct := N, bk := D.nx } σ2 H2)) : tFor wi g tb D σ H := h
theorem wipe1 {n : Nat} {x : V} : wipe ((wipe σ [n]).set n (some x)) [n] = wipe σ [n] := by
  show ((σ.set n none).set n (some x)).set n none = σ.set n none
  rw [List.set_set, List.set_set]
/-- [e for x in xs], e a value by a function of x, the heap only grows aside -/
theorem lc_map {n : Nat} (f : V → V) (hS : SqL K H a xs) (hz : xs.length ≤ 1000) (he : ∀ (x : V) (H' : Hp) (QQ : VK), x ∈ xs → Same H H' → QQ (f x) H' → te ((wipe σ [n]).set n (some x)) H' QQ)
    (hq : ∀ D, H D = none → Q (.ref D) (upd H D (.lst (xs.map f)))) : lcGo (Itl K a) (gName n) tYes te [n] σ Q H := by
  intro D hD
  refine lc_list (K := K) (a := a) (xs := xs) (fun i H' => H' = upd H D (.lst ((xs.take i).map f))) rfl (fun i H' _ e => by subst e; exact (same_new hD).seq hS) ?_ ?_
  · rintro i x H' hx rfl
    refine ⟨wipe1, ?_⟩
    show te _ _ _
    refine he x _ _ (List.mem_of_getElem? hx) (same_new hD) ⟨(xs.take i).map f, upd_same, ?_, ?_⟩
    · rw [List.length_map, List.length_take]
      exact small1000 (by omega)
    · rw [upd_upd, List.take_add_one, hx, List.map_append]
      rfl
  · rintro H' rfl
    rw [List.take_length]
    exact hq D hD
end
section
variable {σ : L2.St} {H : Hp} {Q : VK} {te : TE} {K : PySem.W.Frag} {QO : Option Int → Hp → Prop}
theorem r_sl {r : V → Option Int → Option Int → Hp → VK → Prop} {tl th : TO} (h : te σ H fun x H1 => tl σ H1 fun l H2 => th σ H2 fun u H3 => r x l u H3 Q) : tSl r te tl th σ H Q := h
theorem r_np (h : QO none H) : tNoPart σ H QO := h
theorem r_pt (h : te σ H fun x H1 => ∃ i, x = .int i ∧ QO (some i) H1) : tPart te σ H QO := h
theorem r_pti {i : Int} {F : Int → Prop} (h : F i) : ∃ k, V.int i = .int k ∧ F k := ⟨i, rfl, h⟩
theorem r_slL {a : Addr} {xs : List V} {lo hi : Option Int} (hS : SqL K H a xs) (h : ∀ p, H p = none → Q (.ref p) (upd H p (.lst (cutV xs lo hi)))) : rSlL K (.ref a) lo hi H Q := ⟨a, xs, rfl, hS, h⟩
end
theorem cut_none {xs : List V} {n : Nat} (h : xs.length ≤ n) : cutV xs none (some (n : Int)) = xs := by
  unfold cutV
  rw [HT.sIx_none, show HT.sIx xs.length xs.length (some (n : Int)) = min n xs.length from HT.sIx_nat xs.length xs.length n]
  rw [List.drop_zero, Nat.sub_zero, Nat.min_eq_right h, List.take_length]
/-! ### the draws of a script -/
structure Drw (H : Hp) (d c r : Addr) : Prop where
  dc : d ≠ c
  dr : d ≠ r
  cr : c ≠ r
  ex : ∃ (ns rs : List Int) (t : Int), H d = some (.lst [.ref c, .ref r, .int t]) ∧ H c = some (.lst (ns.map V.int)) ∧ H r = some (.lst (rs.map V.int)) ∧ ns.length = rs.length ∧ 0 < ns.length ∧ 0 ≤ t ∧ ∀ x ∈ rs, 0 ≤ x
def Ext (d r : Addr) (H H' : Hp) : Prop := ∀ b o, H b = some o → b ≠ d → b ≠ r → H' b = some o
theorem Ext.refl {d r : Addr} {H : Hp} : Ext d r H H := fun _ _ e _ _ => e
theorem Ext.trans {d r : Addr} {H H1 H2 : Hp} (a : Ext d r H H1) (b : Ext d r H1 H2) : Ext d r H H2 := fun x o e n1 n2 => b x o (a x o e n1 n2) n1 n2
theorem Ext.of {d r : Addr} {H H' : Hp} (s : Same H H') : Ext d r H H' := fun b o e _ _ => s b o e
theorem Drw.same {H H' : Hp} {d c r : Addr} (D : Drw H d c r) (s : Same H H') : Drw H' d c r := by
  obtain ⟨dc, dr, cr, ns, rs, t, h1, h2, h3, h⟩ := D
  exact ⟨dc, dr, cr, ns, rs, t, s _ _ h1, s _ _ h2, s _ _ h3, h⟩
theorem Drw.new {H : Hp} {d c r p : Addr} {o : HO} (D : Drw H d c r) (h : H p = none) : Drw (upd H p o) d c r := D.same (same_new h)
theorem Drw.ned {H : Hp} {d c r p : Addr} (D : Drw H d c r) (h : H p = none) : p ≠ d := by
  obtain ⟨_, _, _, _, _, _, h1, _⟩ := D
  exact (ne_of_none h1 h).symm
theorem Drw.ner {H : Hp} {d c r p : Addr} (D : Drw H d c r) (h : H p = none) : p ≠ r := by
  obtain ⟨_, _, _, _, _, _, _, _, h1, _⟩ := D
  exact (ne_of_none h1 h).symm
theorem Drw.nec {H : Hp} {d c r p : Addr} (D : Drw H d c r) (h : H p = none) : p ≠ c := by
  obtain ⟨_, _, _, _, _, _, _, h1, _⟩ := D
  exact (ne_of_none h1 h).symm
theorem getD_left {xs : List Int} {y : Int} {i : Nat} (h : i < xs.length) : (xs ++ [y]).getD i 0 = xs.getD i 0 := by
  rw [List.getD_eq_getElem?_getD, List.getD_eq_getElem?_getD, List.getElem?_append_left h]
theorem getD_end {xs : List Int} {y : Int} : (xs ++ [y]).getD xs.length 0 = y := by
  rw [List.getD_eq_getElem?_getD, List.getElem?_append_right (Nat.le_refl _), Nat.sub_self]
  rfl
theorem Drw.back {H H' : Hp} {d c r p : Addr} (D : Drw H d c r) (e : Ext d r H H') (h : H' p = none) (D' : Drw H' d c r := by assumption) : H p = none := by
  cases q : H p with
  | none => rfl
  | some o =>
    have z := e p o q (D'.ned h) (D'.ner h)
    rw [h] at z
    cases z
theorem Drw.put {H : Hp} {d c r p : Addr} {o : HO} (D : Drw H d c r) (h1 : p ≠ d) (h2 : p ≠ r) (h3 : p ≠ c) : Drw (upd H p o) d c r := by
  obtain ⟨dc, dr, cr, ns, rs, t, g1, g2, g3, h⟩ := D
  exact ⟨dc, dr, cr, ns, rs, t, (upd_ne h1.symm).trans g1, (upd_ne h3.symm).trans g2, (upd_ne h2.symm).trans g3, h⟩
def spDraw : Sp := fun vs H Q _ => ∃ (d c r : Addr) (m : Int), vs = [.ref d, .int m] ∧ Drw H d c r ∧ 0 < m ∧ m < 2 ^ 200 ∧ ∀ (k : Int) (H' : Hp), 0 ≤ k → k < m → Drw H' d c r → Ext d r H H' → Q (.int k) H'
def spBegin (K : PySem.W.Frag) : Sp := fun vs H Q _ => ∃ (a : Addr) (ns : List Int), vs = [.ref a] ∧ SqL K H a (ns.map V.int) ∧ ns.length ≤ 63 ∧
  ∀ (d c r : Addr) (H' : Hp), Drw H' d c r → Same H H' → H d = none → H c = none → H r = none → Q (.ref d) H'
def restOf (v : V) : V := match v with
  | .int x => .int ((if x < 0 then -x else x) * (if decide ((10 : Int) ^ 18 ≤ (if x < 0 then -x else x)) then 1 else 0))
  | w => w
def restI (x : Int) : Int := (if x < 0 then -x else x) * (if decide ((10 : Int) ^ 18 ≤ (if x < 0 then -x else x)) then 1 else 0)
theorem rest_map (ns : List Int) : (ns.map V.int).map restOf = (ns.map restI).map V.int := by
  rw [List.map_map, List.map_map]
  rfl
theorem rest_nn (x : Int) : 0 ≤ restI x := by
  unfold restI
  refine Int.mul_nonneg ?_ ?_
  · split <;> omega
  · split <;> omega
/-! ### calls by keywords alone -/
section
variable {X : Cx} {CX : CXT} {k : Nat} {f : Addr} {fd : FuncData} {ps ks : List Str} {sp : Sp} {E : XK} {x : Str} {p pos : Pos} {kws : List Keyword} {tk : TA} {g : List Value → List Value → List Value} {gV : List V → List V → List V}
theorem pe_callN0 (F : FnOk X.prog X.w X.K X.mg X.base CX k f fd ps sp) (hr : Room k X.A) (hg : Gl X x) (hm : X.mg x = some (.ref f)) (hk : PySem.W.keepIn X.K (.ref f) = true) (hb : KBn X.K fd ps 0 ks g gV) (hx : Passes CX X E) (hkw : PK X kws tk)
    (hall : (backToKw pos (keywordEach kws X.env)).all (fun q => q.1.isSome) = true := by rfl) (hks : (backToKw pos (keywordEach kws X.env)).filterMap (fun q => q.1) = ks := by rfl) (hdb : (x == ("__debug__" : Str)) = false := by decide)
    (hpl : ((backTo pos (starEach [] X.env)).any (fun q => q.1) || (backToKw pos (keywordEach kws X.env)).any (fun q => q.1.isNone)) = false := by rfl) :
    PE X (.Call (.Name x p) [] kws pos) (tCallN 0 ks.length sp gV E tNil tk) := by
  refine ⟨fun pins s σ H Q I h => wpAny_Call_Name_kw (ld_glob I hg hm ?_ hdb)⟩
  refine PySem.W.callWith_KW0 (h₀ := X.base) I.ok.mod.kin hk hall (thn (hkw.run pos pins s σ H _ I h) fun ws s2 hh => ?_) hpl
  obtain ⟨zs, H2, I2, rz, l1, l2, q2⟩ := hh
  refine ⟨I2.kIn, ?_⟩
  rw [hks]
  exact run_fnN (us := []) (vs := []) F hr hb hx I2 .nil rz rfl l2 q2
theorem r_callN {n m : Nat} {ts : TA} {σ : L2.St} {H : Hp} {Q : VK} (h : ts σ H fun vs H1 => tk σ H1 fun zs H2 => vs.length = n ∧ zs.length = m ∧ sp (gV vs zs) H2 Q E) : tCallN n m sp gV E ts tk σ H Q := h
end
theorem kb_mk {K : PySem.W.Frag} {x qual : Str} {st : Stmt} {f : Addr} {fd : FuncData} {ps ks : List Str} {g : List Value → List Value → List Value} {gV : List V → List V → List V} (F : Fun K x qual st f fd)
    (h : ∀ (kV doc pm : Value) (an : Option Addr) (cdv ct : Value) (ws : List Value), ws.length = ks.length → bindArgs (PySem.W.fnOf x qual (defArgs st) (defBody st) (defScope st) .none kV doc pm an cdv ct) ⟨[], ks.zip ws⟩ = pure (ps.zip (g [] ws)))
    (hrel : ∀ {vs : List V} {us : List Value} {zs : List V} {ws : List Value}, Vals vs us → Vals zs ws → Vals (gV vs zs) (g us ws)) : KBn K fd ps 0 ks g gV := by
  obtain ⟨oc, od, kV, doc, pm, an, cdv, ct, osl, rfl, lk, hcd⟩ := F.ex
  refine ⟨fun s us ws _ l1 l2 => ?_, hrel⟩
  have e : us = [] := List.length_eq_zero_iff.mp l1
  subst e
  exact .of_eq (h kV doc pm an cdv ct ws l2)
section
variable {σ : L2.St} {H : Hp} {D : Ends} {ta : TA}
theorem r_par {i j : Nat} (h : ta σ H fun vs H1 => ∃ v w, vs = [v, w] ∧ D.nx ((σ.set i (some v)).set j (some w)) H1) : tPar i j ta D σ H := h
theorem r_par3 {i j l : Nat} (h : ta σ H fun vs H1 => ∃ u v w, vs = [u, v, w] ∧ D.nx (((σ.set i (some u)).set j (some v)).set l (some w)) H1) : tPar3 i j l ta D σ H := h
theorem r_two {a b : V} {F : V → V → Prop} (h : F a b) : ∃ v w, [a, b] = [v, w] ∧ F v w := ⟨a, b, rfl, h⟩
theorem r_three {a b c : V} {F : V → V → V → Prop} (h : F a b c) : ∃ u v w, [a, b, c] = [u, v, w] ∧ F u v w := ⟨a, b, c, rfl, h⟩
end
/-- [e for x in range(..)], e draws -/
theorem lc_draws {σ : L2.St} {H : Hp} {Q : VK} {te : TE} {n m : Nat} {lo : Int} {d c r : Addr} {P : Int → Prop} (hm : m ≤ 1000) (D0 : Drw H d c r)
    (he : ∀ (i : Nat) (H' : Hp) (QQ : VK), i < m → Drw H' d c r → Ext d r H H' → (∀ (k : Int) (H'' : Hp), P k → Drw H'' d c r → Ext d r H' H'' → QQ (.int k) H'') → te ((wipe σ [n]).set n (some (.int (lo + i)))) H' QQ)
    (hq : ∀ (l : Addr) (ss : List Int) (H' : Hp), ss.length = m → (∀ x ∈ ss, P x) → H l = none → H' l = some (.lst (ss.map V.int)) → Drw H' d c r → Ext d r H H' → Q (.ref l) H') : lcGo (Itr lo m) (gName n) tYes te [n] σ Q H := by
  intro l nl
  have ld := D0.ned nl
  have lr := D0.ner nl
  have lc := D0.nec nl
  refine lc_range (fun i H' => ∃ ss : List Int, ss.length = i ∧ (∀ x ∈ ss, P x) ∧ H' l = some (.lst (ss.map V.int)) ∧ Drw H' d c r ∧ Ext d r H H') ⟨[], rfl, fun x hx => (nomatch hx), upd_same, D0.new nl, Ext.of (same_new nl)⟩ ?_ ?_
  · rintro i H' hi ⟨ss, hl, hp, hs, D1, E1⟩
    refine ⟨wipe1, ?_⟩
    show te _ _ _
    refine he i H' _ hi D1 E1 fun k H'' hk D2 E2 => ⟨ss.map V.int, E2 _ _ hs ld lr, ?_, ?_⟩
    · rw [List.length_map]
      exact small1000 (by omega)
    · refine ⟨ss ++ [k], by rw [List.length_append, hl]; rfl, fun x hx => ?_, by rw [upd_same, List.map_append]; rfl, D2.put ld lr lc, fun b o e n1 n2 => ?_⟩
      · rcases List.mem_append.mp hx with z | z
        · exact hp x z
        · rw [List.mem_singleton.mp z]; exact hk
      · rw [upd_ne (ne_of_none e nl)]
        exact E2 b o (E1 b o e n1 n2) n1 n2
  · rintro H' ⟨ss, hl, hp, hs, D1, E1⟩
    exact hq l ss H' hl hp nl hs D1 E1
section
variable {σ : L2.St} {H : Hp} {D : Ends} {te : TE} {Q : VK}
theorem r_aug {i : Nat} {ti : TIp} {x : V} (e : σ[i]? = some (some x)) (h : te σ H fun y H1 => ti x y H1 fun z H2 => D.nx (σ.set i (some z)) H2) : tAug i te ti D σ H := ⟨x, e, h⟩
theorem r_ext2 {l b : Addr} {xs zs : List V} (h1 : H l = some (.lst xs)) (h2 : H b = some (.lst zs)) (hz : xs.length + zs.length ≤ 1000) (h : Q (.ref l) (upd H l (.lst (xs ++ zs)))) : rExt2 (.ref l) (.ref b) H Q := ⟨l, b, xs, zs, rfl, rfl, h1, h2, Nat.le_of_lt (small1000 hz), h⟩
theorem r_ipI {f : Int → Int → Int} {i j : Int} (h : Q (.int (f i j)) H) : ipI f (.int i) (.int j) H Q := ⟨i, j, rfl, rfl, h⟩
end
/-! ### operators of own classes: by the class's own def -/
section
open PySem.W
variable {prog : Program} {w : World} {A : Around} {E : Value → Shared → Prop} {s : Shared} {K : PySem.W.Frag} {x C f : Addr} {ox : Obj} {od : Option Obj} {b tb : Value}
theorem check_obj {M : Model} {rest : List Value} {Q : Unit → Shared → Prop} (X : K.In s.heap) (I : InstAt s.heap x ox C od) (hob : subIn K (.ref C) (.type "object") = some true) (ha : argsOk "object.__ne__" ⟨.ref x :: rest, []⟩) (hq : Q () s) :
    wpAny M A (checkBuiltinCall "object.__ne__" ⟨.ref x :: rest, []⟩) Q E s := by
  simp only [checkBuiltinCall, F.cmpKind_ne, F.cmpSplit_ne]
  refine wpAny_bind ?_
  unfold isInstance
  refine wpAny_bind (I.type.here ((looks_subIn X hob).here ?_))
  simp only [Bool.not_true, Bool.false_eq_true, if_false]
  cases hsig : Manifest.signature? "object.__ne__" with
  | none => exact wpAny_pure hq
  | some sig =>
    simp only [argsOk, hsig] at ha
    show wpAny M A (Bind.checkArgs "object.__ne__" sig ⟨.ref x :: rest, []⟩) Q E _
    rw [show Bind.checkArgs "object.__ne__" sig ⟨.ref x :: rest, []⟩ = pure () from ha]
    exact wpAny_pure hq
theorem bound_ne {M : Model} {args : List Value} {Q : Option Value → Shared → Prop} (X : K.In s.heap) (I : InstAt s.heap x ox C od) (hs : findIn K (.ref C) "__ne__" = some (some (.builtin "object.__ne__")))
    (h : wpAny M A (call (.builtin "object.__ne__") (.ref x :: args)) (fun v => Q (some v)) E s) : wpAny M A (callSpecialIfBound? (.ref x) "__ne__" args) Q E s := by
  simp only [callSpecialIfBound?, bindSpecialIfBound?]
  have hb : bindSpecial (.builtin "object.__ne__") (.ref x) = pure (.builtin "object.__ne__", [.ref x]) := F.cmp_object.ne.bind _
  have fin : wpAny M A (call (.builtin "object.__ne__") ([.ref x] ++ args) >>= fun v => pure (some v)) Q E s := wpAny_bind (wpAny_mono h (fun v s' h' => wpAny_pure h') fun _ _ h' => h')
  refine wpAny_holding (wpAny_bind (wpAny_bind (wpAny_bind (I.type.here ((looks_findIn X hs).here ?_)))))
  refine wpAny_bind (wpAny_askSetting (wpAny_ite ?_))
  rw [hb]
  split
  · exact wpAny_bind (wpAny_pure (wpAny_pure (by exact fin)))
  · exact wpAny_tryCatch (wpAny_bind (wpAny_pure (wpAny_pure (by exact fin))))
theorem ne_own {Q : Value → Shared → Prop} (hu : A.units + 1 < cLine) (X : K.In s.heap) (I : InstAt s.heap x ox C od) (hb : Looks (model prog w) s.heap (typeOf b) tb) (hn : notFirst K C tb = true)
    (hne : findIn K (.ref C) "__ne__" = some (some (.builtin "object.__ne__"))) (hob : subIn K (.ref C) (.type "object") = some true) (hs : findIn K (.ref C) "__eq__" = some (some (.ref f))) (hf : isFn K (.ref f) = true)
    (h : wpAny (model prog w) A.in1 (call (.ref f) [.ref x, b]) (fun v s' => ∃ k, v = .bool k ∧ Q (.bool (!k)) s') E s) : wpAny (model prog w) A (richCompare .NotEq (.ref x) b) Q E s := by
  have one : wpAny (model prog w) A (tryCompare (.ref x) (cmpInfo .NotEq).2.1 b) (fun r s' => ∃ v, r = some v ∧ Q v s') E s := by
    unfold tryCompare
    refine wpAny_bind (bound_ne X I hne (wpAny_call (codeAny_call_builtin F.cmp_object.ne.plain F.cmpEntry_ne (check_obj X I hob (F.cmpArgs_ne _ _) ?_))))
    unfold Builtin.«object.__ne__»
    repeat (first
      | with_reducible refine wpAny_cRoomFor hu ?_
      | (refine wpAny_bind (m := callSpecialIfBound? (.ref x) (Str.ofString "__eq__") [b])
          (ifBound_K X I hs hf (wpAny_mono h (fun r s' hr => by
            obtain ⟨k, rfl, hq⟩ := hr
            repeat (first | exact wpAny_pure ⟨_, rfl, hq⟩ | (refine wpAny_bind (m := truthy (.bool _)) (wpAny_truthy_bool ?_)) | wp_step)) fun _ _ e => e)))
      | wp_step)
  unfold richCompare
  simp only [oneThing_ref]
  refine wpAny_holding (wpAny_bind (wpAny_cRoomFor (Nat.lt_of_succ_lt hu) ?_))
  refine wpAny_bind (I.type.here (wpAny_bind (hb.here ?_)))
  split
  · rename_i q
    have e : subIn K tb (.ref C) = some false := by
      rcases Bool.or_eq_true_iff.mp hn with e | e
      · rw [beq_iff_eq.mp e] at q; simp at q
      · exact beq_iff_eq.mp e
    refine wpAny_bind ((looks_subIn X e).here ?_)
    simp only [Bool.false_eq_true, if_false]
    refine wpAny_bind (wpAny_mono one (fun r s' z => ?_) fun _ _ e => e)
    obtain ⟨v, rfl, hq⟩ := z
    exact wpAny_pure hq
  · refine wpAny_bind (wpAny_pure ?_)
    simp only [Bool.false_eq_true, if_false]
    refine wpAny_bind (wpAny_mono one (fun r s' z => ?_) fun _ _ e => e)
    obtain ⟨v, rfl, hq⟩ := z
    exact wpAny_pure hq
theorem neg_own {M : Model} {Q : Value → Shared → Prop} (X : K.In s.heap) (I : InstAt s.heap x ox C od) (hs : findIn K (.ref C) "__neg__" = some (some (.ref f))) (hf : isFn K (.ref f) = true)
    (h : wpAny M A (call (.ref f) [.ref x]) Q E s) : wpAny M A (unaryOp .USub (.ref x)) Q E s := by
  unfold unaryOp
  refine wpAny_holding ?_
  dsimp only
  rw [if_neg (by decide)]
  exact wpAny_bind (special_fn X I hs (beq_iff_eq.mp hf) (wpAny_mono h (fun _ _ z => wpAny_pure z) fun _ _ z => z))
end
section
variable {X : Cx} {CX : CXT} {k : Nat} {g C : Addr} {fd : FuncData} {ps : List Str} {sp : Sp} {E : XK}
theorem cmpb {P : Value → Shared → Prop} {z : V} {v : Value} {s' : Shared} (r : RelV z v) (h : P v s') : PySem.W.CmpBack P v s' := by
  cases z with
  | non => cases (show v = Value.none from r); exact h
  | bl b => cases (show v = Value.bool b from r); exact h
  | int i => obtain ⟨t, rfl⟩ := (show ∃ t, v = Value.int i t from r); exact h
  | str x => obtain ⟨t, rfl⟩ := (show ∃ t, v = Value.str x t from r); exact h
  | byt b => obtain ⟨t, rfl⟩ := (show ∃ t, v = Value.bytes b t from r); exact h
  | flt b => obtain ⟨t, rfl⟩ := (show ∃ t, v = Value.float b t from r); exact h
  | ref a => cases (show v = Value.ref a from r); exact h
  | ty n => cases (show v = Value.type n from r); exact h
/-- what an own operator of the class at C asks: the left one is an instance, the right one's type is known and not below C -/
def rCmpO (K : PySem.W.Frag) (C : Addr) (sp : Sp) (E : XK) : R2 := fun x y H Q => ∃ a dx fs t, x = .ref a ∧ H a = some (.ins C dx fs) ∧ TyX K H y t ∧ PySem.W.notFirst K C t = true ∧ sp [x, y] H Q E
def rNeO (K : PySem.W.Frag) (C : Addr) (sp : Sp) (E : XK) : R2 := fun x y H Q => ∃ a dx fs t, x = .ref a ∧ H a = some (.ins C dx fs) ∧ TyX K H y t ∧ PySem.W.notFirst K C t = true ∧ sp [x, y] H (fun v H' => ∃ b, v = .bl b ∧ Q (.bl (!b)) H') E
def rAddO (C : Addr) (sp : Sp) (E : XK) : R2 := fun x y H Q => ∃ a dx fs b dy gs, x = .ref a ∧ y = .ref b ∧ H a = some (.ins C dx fs) ∧ H b = some (.ins C dy gs) ∧ sp [x, y] H Q E
def rNegO (C : Addr) (sp : Sp) (E : XK) : V → Hp → VK → Prop := fun x H Q => ∃ a dx fs, x = .ref a ∧ H a = some (.ins C dx fs) ∧ sp [x] H Q E
theorem inst_at {pins : List (Addr × Obj)} {σ : L2.St} {H : Hp} {s : Shared} {a dx : Addr} {fs : List (Str × V)} (I : Inv X pins σ H s) (h : H a = some (.ins C dx fs)) : ∃ ox od, PySem.W.InstAt s.heap a ox C od := by
  obtain ⟨mA, O, _⟩ := ins_get I.hok h
  obtain ⟨od, J, _⟩ := O.look
  exact ⟨_, _, J⟩
theorem op_cmpO {op : CmpOp} (hop : ∀ a b, compareOp op a b = richCompare op a b) (hs : PySem.W.findIn X.K (.ref C) (cmpInfo op).2.1 = some (some (.ref g))) (hf : PySem.W.isFn X.K (.ref g) = true) (F : FnOk X.prog X.w X.K X.mg X.base CX k g fd ps sp) (hr : Room k X.A) (hb : Binds X.K fd ps []) (hx : Passes CX X E) :
    OpR X (compareOp op) (rCmpO X.K C sp E) := by
  intro pins s σ H x y v u Q I rx ry h
  obtain ⟨a, dx, fs, t, rfl, ha, ty, hn, q⟩ := h
  cases (show v = Value.ref a from rx)
  obtain ⟨ox, od, J⟩ := inst_at I ha
  obtain ⟨P, Z, p, _⟩ := kit_of I ry ty
  obtain ⟨m, hF⟩ := I.fr
  rw [hop]
  refine PySem.W.cmp_K (op := op) (tb := t) hr.units0 hF I.ok.mod.kin J (Z.ty _ _ I.kIn p) hn hs hf ?_
  refine wpAny_mono (run_fn (ds := []) (dvs := []) (vs := [.ref a, y]) F hr hb .nil hx I (.cons rfl (.cons ry .nil)) (by rw [List.append_nil]; exact q)) (fun w s' z => ?_) fun _ _ e => e
  obtain ⟨z', H', I', rz, qz⟩ := z
  exact cmpb rz ⟨z', H', I', rz, qz⟩
theorem op_eqO (hs : PySem.W.findIn X.K (.ref C) "__eq__" = some (some (.ref g))) (hf : PySem.W.isFn X.K (.ref g) = true) (F : FnOk X.prog X.w X.K X.mg X.base CX k g fd ps sp) (hr : Room k X.A) (hb : Binds X.K fd ps []) (hx : Passes CX X E) :
    OpR X (compareOp .Eq) (rCmpO X.K C sp E) := op_cmpO (fun _ _ => rfl) hs hf F hr hb hx
theorem op_neO (hs : PySem.W.findIn X.K (.ref C) "__eq__" = some (some (.ref g))) (hf : PySem.W.isFn X.K (.ref g) = true) (hne : PySem.W.findIn X.K (.ref C) "__ne__" = some (some (.builtin "object.__ne__"))) (hob : PySem.W.subIn X.K (.ref C) (.type "object") = some true)
    (F : FnOk X.prog X.w X.K X.mg X.base CX k g fd ps sp) (hr : Room (k + 1) X.A) (hb : Binds X.K fd ps []) (hx : Passes CX X E) : OpR X (compareOp .NotEq) (rNeO X.K C sp E) := by
  intro pins s σ H x y v u Q I rx ry h
  obtain ⟨a, dx, fs, t, rfl, ha, ty, hn, q⟩ := h
  cases (show v = Value.ref a from rx)
  obtain ⟨ox, od, J⟩ := inst_at I ha
  obtain ⟨P, Z, p, _⟩ := kit_of I ry ty
  have hu := hr.units
  show wpAny _ _ (richCompare .NotEq _ _) _ _ _
  refine ne_own (by omega) I.kIn J (Z.ty _ _ I.kIn p) hn hne hob hs hf ?_
  have r2 : Vals [V.ref a, y] [Value.ref a, u] := .cons rfl (.cons ry .nil)
  have hl : ([Value.ref a, u] ++ []).length = ps.length := by
    rw [List.append_nil, ← r2.length]
    exact F.len _ _ _ _ q
  refine wpAny_call (codeAny_mono (F.run X.A.in1 X.stack s H ⟨[.ref a, u], []⟩ [.ref a, u] _ _ E hr.in1 I.env0.in1 (by have z := hb s [.ref a, u] I.kIn hl; rw [List.append_nil] at z; exact z) r2 q) fun r s' hq => ?_)
  cases r with
  | error e => exact hx pins σ H s e s' I hq
  | ok fl =>
    cases fl with
    | ret z =>
      obtain ⟨v', H', I', rv, b, rfl, qz⟩ := I.after hq
      cases rv
      exact ⟨b, rfl, .bl (!b), H', I', rfl, qz⟩
    | next => exact False.elim hq
    | brk => exact False.elim hq
    | cont => exact False.elim hq
theorem op_binO {op : Operator} (hc : PySem.W.selfFirst X.K C = true) (hs : PySem.W.findIn X.K (.ref C) (PySem.dunder op.info.2) = some (some (.ref g))) (hf : PySem.W.isFn X.K (.ref g) = true) (F : FnOk X.prog X.w X.K X.mg X.base CX k g fd ps sp) (hr : Room k X.A) (hb : Binds X.K fd ps []) (hx : Passes CX X E) :
    OpR X (binaryOp op) (rAddO C sp E) := by
  intro pins s σ H x y v u Q I rx ry h
  obtain ⟨a, dx, fs, b, dy, gs, rfl, rfl, ha, hb', q⟩ := h
  cases (show v = Value.ref a from rx)
  cases (show u = Value.ref b from ry)
  obtain ⟨ox, od, J⟩ := inst_at I ha
  obtain ⟨oy, oe, J'⟩ := inst_at I hb'
  obtain ⟨m, hF⟩ := I.fr
  refine PySem.W.binop_K (op := op) hF I.ok.mod.kin J J'.type hc hs hf ?_
  refine wpAny_mono (run_fn (ds := []) (dvs := []) (vs := [.ref a, .ref b]) F hr hb .nil hx I (.cons rfl (.cons rfl .nil)) (by rw [List.append_nil]; exact q)) (fun w s' z => ?_) fun _ _ e => e
  obtain ⟨z', H', I', rz, qz⟩ := z
  exact cmpb rz ⟨z', H', I', rz, qz⟩
theorem un_negO (hs : PySem.W.findIn X.K (.ref C) "__neg__" = some (some (.ref g))) (hf : PySem.W.isFn X.K (.ref g) = true) (F : FnOk X.prog X.w X.K X.mg X.base CX k g fd ps sp) (hr : Room k X.A) (hb : Binds X.K fd ps []) (hx : Passes CX X E) :
    UnR X (unaryOp .USub) (rNegO C sp E) := by
  intro pins s σ H x v Q I rx h
  obtain ⟨a, dx, fs, rfl, ha, q⟩ := h
  cases (show v = Value.ref a from rx)
  obtain ⟨ox, od, J⟩ := inst_at I ha
  exact neg_own I.kIn J hs hf (run_fn (ds := []) (dvs := []) (vs := [.ref a]) F hr hb .nil hx I (.cons rfl .nil) (by rw [List.append_nil]; exact q))
/-- v in x, x of an own class with its own __contains__, which hands back a truth -/
def rInO (C : Addr) (sp : Sp) (E : XK) : R2 := fun x y H Q => ∃ a dx fs, y = .ref a ∧ H a = some (.ins C dx fs) ∧ sp [y, x] H (fun v H' => ∃ b, v = .bl b ∧ Q (.bl b) H') E
theorem op_inO (hs : PySem.W.findIn X.K (.ref C) "__contains__" = some (some (.ref g))) (hf : PySem.W.isFn X.K (.ref g) = true) (F : FnOk X.prog X.w X.K X.mg X.base CX k g fd ps sp) (hr : Room k X.A) (hb : Binds X.K fd ps []) (hx : Passes CX X E) :
    OpR X (compareOp .In) (rInO C sp E) := by
  intro pins s σ H x y v u Q I rx ry h
  obtain ⟨a, dx, fs, rfl, ha, q⟩ := h
  cases (show u = Value.ref a from ry)
  obtain ⟨ox, od, J⟩ := inst_at I ha
  obtain ⟨m, hF⟩ := I.fr
  refine PySem.W.in_K hF I.ok.mod.kin J hs hf (wpAny_mono (run_fn (ds := []) (dvs := []) (vs := [.ref a, x]) F hr hb .nil hx I (.cons rfl (.cons rx .nil)) (by rw [List.append_nil]; exact q)) (fun w s' z => ?_) fun _ _ e => e)
  obtain ⟨z', H', I', rz, b, rfl, qz⟩ := z
  cases rz
  exact wpAny_truthy_bool ⟨.bl b, H', I', rfl, qz⟩
end
/-! ### fields, methods, new instances -/
section
variable {σ : L2.St} {H : Hp} {Q : VK} {K : PySem.W.Frag} {te ta tv : TE} {a C dx : Addr} {fs : List (Str × V)} {f : Str} {v : V} {D : Ends}
theorem r_fld (h : ta σ H fun x H1 => ∃ a C dx fs v, x = .ref a ∧ H1 a = some (.ins C dx fs) ∧ Cls K C ∧ NoAttr K C f ∧ fs.lookup f = some v ∧ Q v H1) : tFld K ta f σ H Q := h
theorem r_get {F : V → Prop} (e : H a = some (.ins C dx fs)) (c : Cls K C) (n : NoAttr K C f) (l : fs.lookup f = some v) (h : F v) : ∃ a' C dx fs v, V.ref a = .ref a' ∧ H a' = some (.ins C dx fs) ∧ Cls K C ∧ NoAttr K C f ∧ fs.lookup f = some v ∧ F v := ⟨a, C, dx, fs, v, rfl, e, c, n, l, h⟩
theorem r_sfld (h : tv σ H fun y H1 => ta σ H1 fun x H2 => ∃ a C dx fs, x = .ref a ∧ H2 a = some (.ins C dx fs) ∧ Cls K C ∧ NoAttr K C f ∧ fs.length < 1000 ∧ D.nx σ (upd H2 a (.ins C dx (putF f y fs)))) : sFld K ta tv f D σ H := h
theorem r_put {F : Hp → Prop} {y : V} (e : H a = some (.ins C dx fs)) (c : Cls K C) (n : NoAttr K C f) (l : fs.length < 1000) (h : F (upd H a (.ins C dx (putF f y fs)))) : ∃ a' C dx fs, V.ref a = .ref a' ∧ H a' = some (.ins C dx fs) ∧ Cls K C ∧ NoAttr K C f ∧ fs.length < 1000 ∧ F (upd H a' (.ins C dx (putF f y fs))) := ⟨a, C, dx, fs, rfl, e, c, n, l, h⟩
theorem r_meth {m : Str} {sp : Sp} {dvs : List V} {E : XK} {ts : TA} (h : ta σ H fun x H1 => ∃ a dx fs, x = .ref a ∧ H1 a = some (.ins C dx fs) ∧ fs.lookup m = none ∧ ts σ H1 fun vs H2 => sp (x :: (vs ++ dvs)) H2 Q E) : tMeth C m sp dvs E ta ts σ H Q := h
theorem r_who {m : Str} {A : Prop} (e : H a = some (.ins C dx fs)) (l : fs.lookup m = none) (h : A) : ∃ a' dx fs, V.ref a = .ref a' ∧ H a' = some (.ins C dx fs) ∧ fs.lookup m = none ∧ A := ⟨a, dx, fs, rfl, e, l, h⟩
theorem r_make {sp : Sp} {dvs : List V} {E : XK} {ts : TA} (h : ts σ H fun vs H1 => ∀ x dx, H1 x = none → H1 dx = none → dx ≠ x → sp (.ref x :: (vs ++ dvs)) (upd (upd H1 dx (.own x)) x (.ins C dx [])) (fun v H2 => v = .non ∧ Q (.ref x) H2) E) : tMake C sp dvs E ts σ H Q := h
end
theorem same_make {H H' : Hp} {x dx C : Addr} (nx : H x = none) (nd : H dx = none) (s : ∀ b o, (upd (upd H dx (.own x)) x (.ins C dx [])) b = some o → b ≠ x → H' b = some o) : Same H H' := fun b o e =>
  s b o (by rw [upd_ne (ne_of_none e nx), upd_ne (ne_of_none e nd)]; exact e) (ne_of_none e nx)
/-! ### defs that may ask repr of lists and tuples: called where no repr is under way -/
structure FnG (P : Program) (w : World) (K : PySem.W.Frag) (mg : Str → Option Value) (base : Heap) (CX : CXT) (k : Nat) (f : Addr) (fd : FuncData) (ps : List Str) (sp : Sp) : Prop where
  len : ∀ vs H Q E, sp vs H Q E → vs.length = ps.length
  run : ∀ (A : Around) (outer : List Env) (s : Shared) (H : Hp) (args : Args) (us : List Value) (vs : List V) (Q : VK) (E : XK), A.guards = some [] → Room k A → Env0 P w K mg base A outer s H →
    BindsTo s fd args (ps.zip us) → Vals vs us → sp vs H Q E → codeAny (model P w) A (.call (.ref f) args) (CR CX outer P w H s Q E) s
section
variable {P : Program} {w : World} {K : PySem.W.Frag} {mg : Str → Option Value} {base : Heap}
theorem okG {x qual : Str} {st : Stmt} {f : Addr} {fd : FuncData} {N ps : List Str} {k : Nat} {sp : Sp} (F : Fun K x qual st f fd) (S : FnScope N ps (defScope st)) (len : ∀ vs H Q E, sp vs H Q E → vs.length = ps.length)
    (hbody : ∀ (cdv : Value) (A : Around) (outer : List Env) (s : Shared) (H : Hp) (vs : List V) (Q : VK) (E : XK), A.guards = some [] → Room k (A.deeper (envOfC qual (defScope st) s.heap.objs.size f cdv)) → sp vs H Q E →
      ∃ t, PSs (cxOf CX0 P w K mg base N qual (defScope st) f cdv A outer s H E).nox (defBody st) t ∧ t { nx := fun _ H' => Q .non H', rt := Q } (start N vs) H) : FnG P w K mg base CX0 (k + 1) f fd ps sp := by
  obtain ⟨oc, od, kV, doc, pm, an, cdv, ct, osl, rfl, lk, hcd⟩ := F.ex
  refine ⟨len, fun A outer s H args us vs Q E hG hr e0 hb r hsp => ?_⟩
  -- the body's reading is kept for this around alone: elsewhere the promise is not asked
  have inn : K.In s.heap := e0.mod.kin.keeps fun b o e => (e0.bs b o e).1
  have nol : s.heap.NoLimit := e0.mod.nolimit.keeps fun b o e => (e0.bs b o e).1
  have par : ∀ y ∈ ps.zip us, (defScope st).names.lookup y.1 = some .local ∨ ((defScope st).names.lookup y.1 = some .cell ∧ ((cellsFrom (s.heap.objs.size + 1) (defScope st).names []).lookup y.1).isSome = true) := by
    intro y hy
    have hm : y.1 ∈ ps := (List.of_mem_zip (show (y.1, y.2) ∈ ps.zip us from hy)).1
    exact (S.par y.1 hm).imp (fun z => z) fun z => ⟨z, PySem.W.cellsFrom_some _ _ _ (.inl z)⟩
  obtain ⟨t, ht, hq⟩ := hbody cdv A outer s H vs Q E hG (hr.deeper _) hsp
  refine codeAny_call_function hr.depth (inn _ _ lk) rfl S.co S.gen rfl (PySem.W.codeRec_of inn hcd) (hb _ _ _ _ ?_)
  refine wpAny_newFunctionEnv_cells S.kind par fun env he s1 x => ?_
  subst he
  refine ⟨nol.keeps x.toInCall.keep, codeAny_func ?_⟩
  have I := inv_start (CX := CX0) (E := E) S hr.hd e0 (len _ _ _ _ hsp) r x
  refine wpAny_mono (ht.nox.run [] s1 (start N vs) H _ I hq) (fun fl s' hs => ?_) fun e s' hs => hs
  cases fl with
  | ret u =>
    obtain ⟨v, σ', H', J, rv, q⟩ := hs
    exact ⟨v, H', J.os, J.bare, J.base, J.hok, rv, q⟩
  | next =>
    obtain ⟨σ', H', J, q⟩ := hs
    exact ⟨V.non, H', J.os, J.bare, J.base, J.hok, rfl, q⟩
  | brk => exact False.elim hs.choose_spec.choose_spec.2
  | cont => exact False.elim hs.choose_spec.choose_spec.2
theorem deeper_guards {A : Around} {env : Env} (h : A.guards = some []) : (A.deeper env).guards = some [] := h
end
section
variable {X : Cx} {CX : CXT} {k : Nat} {f : Addr} {fd : FuncData} {ps : List Str} {sp : Sp} {dvs : List V} {ds : List Value} {E : XK} {x : Str} {p pos : Pos} {e : Expr} {es : List Expr} {t : TA}
theorem pe_callG (hG : X.A.guards = some []) (F : FnG X.prog X.w X.K X.mg X.base CX k f fd ps sp) (hr : Room k X.A) (hg : Gl X x) (hm : X.mg x = some (.ref f)) (hk : PySem.W.keepIn X.K (.ref f) = true) (hb : Binds X.K fd ps ds) (hd : Vals dvs ds) (hx : Passes CX X E)
    (ha : PA X (e :: es) t) (hdb : (x == ("__debug__" : Str)) = false := by decide) (he : starEach (e :: es) X.env = (false, eval e X.env) :: starEach es X.env := by rfl) (hpl : (backTo pos (starEach es X.env)).any (fun q => q.1) = false := by rfl) :
    PE X (.Call (.Name x p) (e :: es) [] pos) (tCall sp dvs E t) := by
  refine ⟨fun pins s σ H Q I h => wpAny_Call_Name_kw (ld_glob I hg hm ?_ hdb)⟩
  refine PySem.W.callWith_K (h₀ := X.base) I.ok.mod.kin hk (thn (ha.run pos pins s σ H _ I h) fun us s1 hh => ?_) he hpl
  obtain ⟨vs, H1, I1, r, q⟩ := hh
  refine ⟨I1.kIn, ?_⟩
  have r2 : Vals (vs ++ dvs) (us ++ ds) := r.append hd
  have hl : (us ++ ds).length = ps.length := by rw [← r2.length]; exact F.len _ _ _ _ q
  refine wpAny_call (codeAny_mono (F.run X.A X.stack s1 H1 ⟨us, []⟩ (us ++ ds) (vs ++ dvs) Q E hG hr I1.env0 (hb s1 us I1.kIn hl) r2 q) fun r s' hq => ?_)
  match r, hq with
  | .error e, hq => exact hx pins σ H1 s1 e s' I1 hq
  | .ok (.ret u), hq => exact I1.after hq
  | .ok .next, hq => exact False.elim hq
  | .ok .brk, hq => exact False.elim hq
  | .ok .cont, hq => exact False.elim hq
/-- repr of a list or a tuple of plain things -/
def rRepr (K : PySem.W.Frag) : List V → Hp → VK → Prop := fun xs H Q => ∃ (a : Addr) (d : PyData), xs = [.ref a] ∧ Dp K H (.ref a) d ∧ d.showable = true ∧ d.hasDict = false ∧ d.depth ≤ 20 ∧ d.shown.length ≤ sizeLine ∧ Q (.str d.shown) H
theorem call_repr (hG : X.A.guards = some []) (hu : X.A.units + 64 < cLine) : CallR X (.builtin "repr") (rRepr X.K) := by
  intro pins s σ H xs us Q I r h
  obtain ⟨a, d, rfl, hd, hs, hn, hdp, hz, q⟩ := h
  obtain ⟨u, rfl, ru⟩ := vals1 r
  cases (show u = Value.ref a from ru)
  obtain ⟨as, rd⟩ := Dp.reads I d _ _ hd rfl
  exact repr_of_reads' rd hs (fun z => by rw [hn] at z; cases z) hG (by omega) (fun _ _ z => z) (fun h' u tk hk => ⟨.str d.shown, H, I.kept hk, ⟨u, rfl⟩, q⟩) hz
end
/-! ### the law's own call, of a def of that kind -/
section
variable {P : Program} {w : World} {K : PySem.W.Frag} {mg mb : Str → Option Value} {k : Nat} {fa a : Addr} {fd : FuncData} {x : Str} {sp : Sp} {s : Shared} {vs : List Value} {ns : List Int}
/-- the script alone may be tracked: where it is, what of it is known -/
structure Alone (P : Program) (w : World) (K : PySem.W.Frag) (s : Shared) (a : Addr) (ns : List Int) (H : Hp) : Prop where
  only : Only H
  seq : SqL K H a (ns.map V.int)
  ok : HOk P w H s.heap
  at_ : ∀ b u, H b = some u → b = a
  out : ∀ u, H a = some u → K.lookup a = none
theorem alone_ex (inn : K.In s.heap) (ha : s.heap.get? a = some { cls := .type "list", data := .seq vs.toArray }) (hi : IntsAre vs ns) (hl : ns.length ≤ sizeLine) : ∃ H, Alone P w K s a ns H := by
  have rv := vals_ints hi
  cases hk : K.lookup a with
  | some o =>
    obtain rfl : o = { cls := .type "list", data := .seq vs.toArray } := Option.some.inj ((inn a o hk).symm.trans ha)
    refine ⟨fun _ => none, fun _ => .inl rfl, .inr ⟨_, vs.toArray, _, hk, rfl, rfl, rfl, ?_, ?_⟩, fun _ _ z => (by cases z), fun _ _ z => (by cases z), fun _ z => (by cases z)⟩
    · rw [List.size_toArray, hi.length]; exact hl
    · rw [List.toList_toArray]; exact rv
  | none =>
    have one : ∀ b u, (upd (fun _ => none) a (.frz { cls := .type "list", data := .seq vs.toArray } (.lst (ns.map V.int)))) b = some u → b = a := fun b u z => by
      by_cases hb : b = a
      · exact hb
      · rw [upd_ne hb] at z; cases z
    refine ⟨upd (fun _ => none) a (.frz { cls := .type "list", data := .seq vs.toArray } (.lst (ns.map V.int))), fun b => ?_, .inl (.inr ⟨_, upd_same⟩), fun b u z => ?_, one, fun _ _ => hk⟩
    · by_cases hb : b = a
      · subst hb; exact .inr ⟨_, _, upd_same⟩
      · exact .inl (upd_ne hb)
    · obtain rfl := one b u z
      rw [upd_same] at z
      cases z
      exact ⟨ha, by rw [List.length_map]; exact hl, vs, _, rv, ha⟩
theorem law_callG (inn : K.In s.heap) (hns : s.heap.Ns mainGlobals mg) (hb : s.heap.Ns builtinsNs mb) (hbb : ∀ x : Str, x ≠ "__name__" → mb x = bootBuiltins x) (hlim : s.heap.NoLimit) (hg : s.gens = #[])
    (ha : s.heap.get? a = some { cls := .type "list", data := .seq vs.toArray }) (hi : IntsAre vs ns) (hl : ns.length ≤ sizeLine) (hr : Room k callerA)
    (F : ∀ base : Heap, K.In base → base.Ns mainGlobals mg → FnG P w K mg base CX0 k fa fd [x] sp) (hbind : ∀ (s : Shared) (u : Value), BindsTo s fd ⟨[u], []⟩ [(x, u)])
    (hsp : ∀ H : Hp, Only H → SqL K H a (ns.map V.int) → sp [.ref a] H (fun v _ => v = .bl true) fun _ _ _ => False) :
    codeAny (model P w) callerA (.call (.ref fa) ⟨[.ref a], []⟩) (fun r s' => r = .ok (.ret (.bool true)) ∧ OldK s.heap s'.heap ∧ s'.os = s.os ∧ AllBare s'.gens) s := by
  obtain ⟨H, N⟩ := alone_ex (P := P) (w := w) inn ha hi hl
  -- a dict is not the script: it is not tracked
  have free : ∀ {b : Addr} {o : Obj}, s.heap.get? b = some o → (∀ its n, o.data ≠ .seq its n) → H b = none := fun {b o} e z => by
    cases q : H b with
    | none => rfl
    | some u =>
      obtain rfl := N.at_ b u q
      rw [ha] at e
      cases e
      exact absurd rfl (z _ _)
  have space : ∀ {b : Addr} {m : Str → Option Value}, s.heap.Ns b m → (hidT s.heap H).Ns b m := fun {b m} z => by
    obtain ⟨o, es, ep, e, d, r⟩ := z
    exact ⟨o, es, ep, hidT_get e (free e fun _ _ y => by rw [d] at y; cases y), d, r⟩
  have inb : K.In (hidT s.heap H) := fun b o e => hidT_get (inn b o e) (by
    cases q : H b with
    | none => rfl
    | some u =>
      obtain rfl := N.at_ b u q
      rw [N.out u q] at e
      cases e)
  have md : Mod K mg (hidT s.heap H) := by
    obtain ⟨mc, l1, l2⟩ := hlim
    exact ⟨inb, space hns, ⟨mb, space hb, hbb⟩, mc, space l1, l2⟩
  have e0 : Env0 P w K mg (hidT s.heap H) callerA [] s H := ⟨rfl, md, fun _ _ e => of_hidT e, Nat.le_of_eq (hidT_size _ _), trivial, fun _ z => (nomatch z), N.ok, .of_eq hg⟩
  refine codeAny_mono ((F _ inb (space hns)).run callerA [] s H ⟨[.ref a], []⟩ [.ref a] [.ref a] _ _ rfl hr e0 (hbind s (.ref a)) (.cons rfl .nil) (hsp H N.only N.seq)) fun r s' h => ?_
  match r, h with
  | .error e, h => exact False.elim h
  | .ok .next, h => exact False.elim h
  | .ok .brk, h => exact False.elim h
  | .ok .cont, h => exact False.elim h
  | .ok (.ret u), h =>
    obtain ⟨v, H', os, bare, un, ok', r', q⟩ := h
    obtain rfl : v = .bl true := q
    obtain rfl : u = Value.bool true := r'
    refine ⟨rfl, OldK.of_keep fun b o e => ?_, os, bare⟩
    cases q : H b with
    | none => exact un.keep b o e q (fun z => (nomatch z)) (fun z => (nomatch z))
    | some u =>
      rcases N.only b with z | ⟨ob, xs, z⟩
      · rw [q] at z; cases z
      · have e1 : s.heap.get? b = some ob := (show ObjOk P w H s.heap b (.frz ob (.lst xs)) from N.ok b _ z).1
        have e2 : s'.heap.get? b = some ob := (show ObjOk P w H' s'.heap b (.frz ob (.lst xs)) from ok' b _ (un.frzs b ob _ z)).1
        exact (Option.some.inj (e.symm.trans e1)) ▸ e2
end
theorem walk_ofG {l : PySem.W.OpenLaw} {n k : Nat} {q : Program} {loose : List Str} {XP : (Str → Option Value) → Heap → Prop} {YP : World → Heap → Prop} {d : DefRec} {K : Params → PySem.W.Frag} {sp : World → Sp} {x : Str}
    (hn : l.most = some n) (hn2 : n ≤ sizeLine) (hdf : d.params.defaults = []) (hr : Room k callerA) (hY : ∀ (w : World) (h : Heap), YP w h → (K w.params).In h)
    (F : ∀ (w : World) (mg : Str → Option Value) (fa : Addr) (h : Heap), (K w.params).In h → h.Ns mainGlobals mg → mg d.name = some (.ref fa) →
      ∃ fd : FuncData, (∀ (s : Shared) (u : Value), BindsTo s fd ⟨[u], []⟩ [(x, u)]) ∧ ∀ base : Heap, (K w.params).In base → base.Ns mainGlobals mg → FnG l.prog w (K w.params) mg base CX0 k fa fd [x] (sp w))
    (hsp : ∀ (w : World) (H : Hp) (a : Addr) (ns : List Int), ns.length ≤ n → Only H → SqL (K w.params) H a (ns.map V.int) → sp w [.ref a] H (fun v _ => v = .bl true) fun _ _ _ => False) :
    PySem.W.WalkO q loose XP YP l.row.toRowW d [] (fun f vs => PySem.call f vs) := by
  refine Att.attach_call hn hdf fun w s0 s1 mg mb fa o pm cd doc a vs ns G Y ho hd hcd hmg hobj hints hlen hg => ?_
  obtain ⟨fd, hb, hF⟩ := F w mg fa _ (hY w _ Y) G.T.g hmg
  exact law_callG (hY w _ Y) G.T.g G.T.b G.T.builtins G.T.nolimit hg hobj hints (Nat.le_trans hlen hn2) hr hF hb fun H hO hS => hsp w H a ns hlen hO hS
/-! ### new instances whose __init__ may raise, within a try: what is raised is wished for at the slots -/
section
variable {X : Cx} {CX : CXT} {k : Nat} {f C : Addr} {fd : FuncData} {ps ks : List Str} {sp : Sp} {x : Str} {p pos : Pos} {e : Expr} {es : List Expr} {kws : List Keyword} {t tk : TA} {g : List Value → List Value → List Value} {gV : List V → List V → List V}
theorem run_makeA {pins : List (Addr × Obj)} {σ : L2.St} {H : Hp} {s : Shared} {Q : VK} {E : XK} {us : List Value} {kw : List (Str × Value)} {fu : Value → List Value} {fv : V → List V} (M : Mk X.K C f) (F : FnOk X.prog X.w X.K X.mg X.base CX k f fd ps sp) (hr : Room (k + 1) X.A)
    (hb : ∀ (s' : Shared) (v : Value), X.K.In s'.heap → BindsTo s' fd ⟨v :: us, kw⟩ (ps.zip (fu v))) (rr : ∀ a : Addr, Vals (fv (.ref a)) (fu (.ref a))) (hx : PassesAt CX X σ E) (I : Inv X pins σ H s)
    (h : ∀ x dx, H x = none → H dx = none → dx ≠ x → sp (fv (.ref x)) (upd (upd H dx (.own x)) x (.ins C dx [])) (fun v H2 => v = .non ∧ Q (.ref x) H2) E) :
    wpAny (model X.prog X.w) X.A (call (.ref C) us kw) (EP X pins σ Q) X.xe s := by
  have I2 := Inv.made (C := C) I
  have hq := h (s.heap.objs.size + 1) s.heap.objs.size (I.hok.fresh (Nat.le_succ _)) (I.hok.fresh (Nat.le_refl _)) (Nat.ne_of_lt (Nat.lt_succ_self _))
  refine wpAny_call (make_map (f := f) I.kIn M.makes M.init (beq_iff_eq.mp M.fn) (codeAny_mono (F.run _ X.stack _ _ ⟨Value.ref (s.heap.objs.size + 1) :: us, kw⟩ (fu (.ref (s.heap.objs.size + 1))) (fv (.ref (s.heap.objs.size + 1))) _ E
    (hr.make C us kw) (I2.env0.make C us kw) (hb _ _ I2.kIn) (rr _) hq) fun r s' z => ?_))
  match r, z with
  | .error e, z => exact hx pins _ _ e s' I2 z
  | .ok .next, z => exact False.elim z
  | .ok .brk, z => exact False.elim z
  | .ok .cont, z => exact False.elim z
  | .ok (.ret u), z =>
    obtain ⟨v, H', I3, rv, rfl, q3⟩ := I2.after z
    exact ⟨rv, .ref (s.heap.objs.size + 1), H', I3, rfl, q3⟩
def tMakeS (C : Addr) (sp : Sp) (E : L2.St → XK) (t : TA) : TE := fun σ H Q => t σ H fun vs H1 => ∀ x dx, H1 x = none → H1 dx = none → dx ≠ x → sp (.ref x :: vs) (upd (upd H1 dx (.own x)) x (.ins C dx [])) (fun v H2 => v = .non ∧ Q (.ref x) H2) (E σ)
def tMakeKS (C : Addr) (m : Nat) (sp : Sp) (gV : List V → List V → List V) (E : L2.St → XK) (tk : TA) : TE := fun σ H Q => tk σ H fun zs H1 => zs.length = m ∧ ∀ x dx, H1 x = none → H1 dx = none → dx ≠ x → sp (gV [.ref x] zs) (upd (upd H1 dx (.own x)) x (.ins C dx [])) (fun v H2 => v = .non ∧ Q (.ref x) H2) (E σ)
theorem pe_makeS {E : L2.St → XK} (M : Mk X.K C f) (F : FnOk X.prog X.w X.K X.mg X.base CX k f fd ps sp) (hr : Room (k + 1) X.A) (hg : Gl X x) (hm : X.mg x = some (.ref C)) (hb : Binds X.K fd ps []) (hx : ∀ σ, PassesAt CX X σ (E σ)) (ha : PA X (e :: es) t)
    (hdb : (x == ("__debug__" : Str)) = false := by decide) (he : starEach (e :: es) X.env = (false, eval e X.env) :: starEach es X.env := by rfl) (hpl : (backTo pos (starEach es X.env)).any (fun q => q.1) = false := by rfl) :
    PE X (.Call (.Name x p) (e :: es) [] pos) (tMakeS C sp E t) := by
  refine ⟨fun pins s σ H Q I h => wpAny_Call_Name_kw (ld_glob I hg hm ?_ hdb)⟩
  refine PySem.W.callWith_K (h₀ := X.base) I.ok.mod.kin M.kp (thn (ha.run pos pins s σ H _ I h) fun us s1 hh => ?_) he hpl
  obtain ⟨vs, H1, I1, r, q⟩ := hh
  refine ⟨I1.kIn, ?_⟩
  have hq := q (s1.heap.objs.size + 1) s1.heap.objs.size (I1.hok.fresh (Nat.le_succ _)) (I1.hok.fresh (Nat.le_refl _)) (Nat.ne_of_lt (Nat.lt_succ_self _))
  have hl := F.len _ _ _ _ hq
  have hl2 : vs.length = us.length := r.length
  refine run_makeA (fu := fun v => v :: us) (fv := fun v => v :: vs) M F hr (fun s' v inn => ?_) (fun a => .cons rfl r) (hx σ) I1 q
  have z := hb s' (v :: us) inn (by rw [List.append_nil, List.length_cons, ← hl2]; exact hl)
  rw [List.append_nil] at z
  exact z
theorem pe_makeKS {E : L2.St → XK} (M : Mk X.K C f) (F : FnOk X.prog X.w X.K X.mg X.base CX k f fd ps sp) (hr : Room (k + 1) X.A) (hg : Gl X x) (hm : X.mg x = some (.ref C)) (hb : KBn X.K fd ps 1 ks g gV) (hx : ∀ σ, PassesAt CX X σ (E σ)) (hkw : PK X kws tk)
    (hall : (backToKw pos (keywordEach kws X.env)).all (fun q => q.1.isSome) = true := by rfl) (hks : (backToKw pos (keywordEach kws X.env)).filterMap (fun q => q.1) = ks := by rfl) (hdb : (x == ("__debug__" : Str)) = false := by decide)
    (hpl : ((backTo pos (starEach [] X.env)).any (fun q => q.1) || (backToKw pos (keywordEach kws X.env)).any (fun q => q.1.isNone)) = false := by rfl) :
    PE X (.Call (.Name x p) [] kws pos) (tMakeKS C ks.length sp gV E tk) := by
  refine ⟨fun pins s σ H Q I h => wpAny_Call_Name_kw (ld_glob I hg hm ?_ hdb)⟩
  refine PySem.W.callWith_KW0 (h₀ := X.base) I.ok.mod.kin M.kp hall (thn (hkw.run pos pins s σ H _ I h) fun ws s2 hh => ?_) hpl
  obtain ⟨zs, H2, I2, rz, l2, q2⟩ := hh
  refine ⟨I2.kIn, ?_⟩
  rw [hks]
  exact run_makeA (fu := fun v => g [v] ws) (fv := fun v => gV [v] zs) M F hr (fun s' v inn => hb.to s' [v] ws inn rfl (rz.length.symm.trans l2)) (fun a => hb.rel (.cons rfl .nil) rz) (hx σ) I2 q2
theorem kb_mk1 {K : PySem.W.Frag} {x qual : Str} {st : Stmt} {f : Addr} {fd : FuncData} {ps ks : List Str} {g : List Value → List Value → List Value} {gV : List V → List V → List V} (F : Fun K x qual st f fd)
    (h : ∀ (kV doc pm : Value) (an : Option Addr) (cdv ct : Value) (v : Value) (ws : List Value), ws.length = ks.length → bindArgs (PySem.W.fnOf x qual (defArgs st) (defBody st) (defScope st) .none kV doc pm an cdv ct) ⟨[v], ks.zip ws⟩ = pure (ps.zip (g [v] ws)))
    (hrel : ∀ {vs : List V} {us : List Value} {zs : List V} {ws : List Value}, Vals vs us → Vals zs ws → Vals (gV vs zs) (g us ws)) : KBn K fd ps 1 ks g gV := by
  obtain ⟨oc, od, kV, doc, pm, an, cdv, ct, osl, rfl, lk, hcd⟩ := F.ex
  refine ⟨fun s us ws _ l1 l2 => ?_, hrel⟩
  match us, l1 with
  | [v], _ => exact .of_eq (h kV doc pm an cdv ct v ws l2)
/-- isinstance(e, C), e the caught exception, where its class is C or below it -/
def rIsEp (K : PySem.W.Frag) (cls : Value) (a : Addr) : List V → Hp → VK → Prop := fun xs H Q => ∃ C' : Addr, xs = [.ref a, .ref C'] ∧ PySem.W.isIn K cls C' = true ∧ Q (.bl true) H
theorem call_isEp {a : Addr} {oe : Obj} {cls : Value} {d : Option Addr} {pn : List (Addr × Obj)} (hz : Zc cls d oe) : CallR (X.suite a ((a, oe) :: pn)) (.builtin "isinstance") (rIsEp X.K cls a) := by
  intro pins s σ H xs us Q I r h
  obtain ⟨C', rfl, e, q⟩ := h
  obtain ⟨u1, u2, rfl, r1, r2⟩ := vals2 r
  cases (show u1 = Value.ref a from r1)
  cases (show u2 = Value.ref C' from r2)
  obtain ⟨hget, _⟩ := I.pin (a, oe) (List.mem_append.mpr (.inl List.mem_cons_self))
  exact PySem.W.isi_call I.kIn (fun M A Q E s k q => wpAny_typeOf_ref (k _ _ hget) (by rw [hz.1]; exact q)) e (fun z => nomatch z) ⟨.bl true, H, I, rfl, q⟩
end
section
variable {σ : L2.St} {H : Hp} {Q : VK} {K : PySem.W.Frag} {C : Addr} {sp : Sp} {D : Ends}
theorem r_makeS {E : L2.St → XK} {t : TA} (h : t σ H fun vs H1 => ∀ x dx, H1 x = none → H1 dx = none → dx ≠ x → sp (.ref x :: vs) (upd (upd H1 dx (.own x)) x (.ins C dx [])) (fun v H2 => v = .non ∧ Q (.ref x) H2) (E σ)) : tMakeS C sp E t σ H Q := h
theorem r_makeKS {m : Nat} {gV : List V → List V → List V} {E : L2.St → XK} {tk : TA} (h : tk σ H fun zs H1 => zs.length = m ∧ ∀ x dx, H1 x = none → H1 dx = none → dx ≠ x → sp (gV [.ref x] zs) (upd (upd H1 dx (.own x)) x (.ins C dx [])) (fun v H2 => v = .non ∧ Q (.ref x) H2) (E σ)) : tMakeKS C m sp gV E tk σ H Q := h
theorem r_xf {a : Addr} {cls : Value} {d : Option Addr} {f : Str} {te : TE} (h : te σ H fun x H1 => x = .ref a ∧ cls = .ref C ∧ ∃ (dd : Addr) (fs : List (Str × V)) (v : V), d = some dd ∧ H1 dd = some (.xd fs) ∧ fs.lookup f = some v ∧ Q v H1) : tXf a cls d C f te σ H Q := h
theorem r_isEp {cls : Value} {a C' : Addr} (e : PySem.W.isIn K cls C' = true) (h : Q (.bl true) H) : rIsEp K cls a [.ref a, .ref C'] H Q := ⟨C', rfl, e, h⟩
/-- self.f = e in an exception's __init__: the first field, a later one -/
theorem r_ost {f : Str} {to te : TE} (h : te σ H fun y H1 => to σ H1 fun x H2 => ∃ a C : Addr, x = .ref a ∧ OexC K C ∧ PySem.W.findIn K (.ref C) f = some none ∧
  ((H2 a = some (exo a C none) ∧ ∀ dx, H2 dx = none → dx ≠ a → D.nx σ (upd (upd H2 dx (exd dx [(f, y)])) a (exo a C (some dx)))) ∨
    ∃ (dx : Addr) (fs : List (Str × V)), H2 a = some (exo a C (some dx)) ∧ H2 dx = some (exd dx fs) ∧ fs.length ≤ 900 ∧ D.nx σ (upd H2 dx (exd dx ((f, y) :: fs))))) : tOst K f to te D σ H := h
theorem r_ost1 {a : Addr} {f : Str} {F G : Addr → Addr → Prop} {Z : Addr → Addr → Prop} (T : OexC K C) (n : PySem.W.findIn K (.ref C) f = some none) (ha : H a = some (exo a C none)) (h : F a C) : ∃ a' C : Addr, V.ref a = .ref a' ∧ OexC K C ∧ PySem.W.findIn K (.ref C) f = some none ∧ ((H a' = some (exo a' C none) ∧ F a' C) ∨ G a' C) := ⟨a, C, rfl, T, n, .inl ⟨ha, h⟩⟩
end
/-! ### wrappers that name the written part: for comprehensions, try bodies, suites -/
section
variable {X : Cx} {K : PySem.W.Frag} {o e : Expr} {f : Str} {ta te : TE} {pos : Pos}
theorem pe_fldK (ha : PE X o ta) (hK : X.K = K := by rfl) (hb : attributeBase o f X.env (eval o X.env) = eval o X.env := by rfl) : PE X (.Attribute o f pos) (tFld K ta f) := by
  subst hK
  exact pe_fld ha hb
end
/-! ### a + b by an own def that may raise, within a try -/
def tBinS (C : Addr) (sp : Sp) (E : L2.St → XK) (ta tb : TE) : TE := fun σ H Q => ta σ H fun x H1 => tb σ H1 fun y H2 => ∃ a dx fs b dy gs, x = .ref a ∧ y = .ref b ∧ H2 a = some (.ins C dx fs) ∧ H2 b = some (.ins C dy gs) ∧ sp [x, y] H2 Q (E σ)
section
variable {X : Cx} {CX : CXT} {k : Nat} {g C : Addr} {fd : FuncData} {ps : List Str} {sp : Sp} {a b : Expr} {ta tb : TE} {pos : Pos} {op : Operator}
theorem pe_binS {E : L2.St → XK} (hc : PySem.W.selfFirst X.K C = true) (hs : PySem.W.findIn X.K (.ref C) (PySem.dunder op.info.2) = some (some (.ref g))) (hf : PySem.W.isFn X.K (.ref g) = true) (F : FnOk X.prog X.w X.K X.mg X.base CX k g fd ps sp) (hr : Room k X.A) (hb : Binds X.K fd ps []) (hx : ∀ σ, PassesAt CX X σ (E σ))
    (h1 : PE X a ta) (h2 : PE X b tb) : PE X (.BinOp a op b pos) (tBinS C sp E ta tb) := by
  refine ⟨fun pins s σ H Q I h => wpAny_BinOp (binT h1 h2 I h fun v u s2 x y H2 I2 rx ry q => ?_)⟩
  obtain ⟨p, dx, fs, r, dy, gs, rfl, rfl, ha, hb', q⟩ := q
  cases (show v = Value.ref p from rx)
  cases (show u = Value.ref r from ry)
  obtain ⟨ox, od, J⟩ := inst_at I2 ha
  obtain ⟨oy, oe, J'⟩ := inst_at I2 hb'
  obtain ⟨m, hF⟩ := I2.fr
  refine PySem.W.binop_K (op := op) hF I2.ok.mod.kin J J'.type hc hs hf (wpAny_mono (run_fnS (us := [.ref p, .ref r]) (vs := [.ref p, .ref r]) F hr hb (hx σ) I2 (.cons rfl (.cons rfl .nil)) q) (fun w s' z => ?_) fun _ _ e => e)
  obtain ⟨z', H', I', rz, qz⟩ := z
  exact cmpb rz ⟨z', H', I', rz, qz⟩
end
theorem r_binS {σ : L2.St} {H : Hp} {Q : VK} {C : Addr} {sp : Sp} {E : L2.St → XK} {ta tb : TE} (h : ta σ H fun x H1 => tb σ H1 fun y H2 => ∃ a dx fs b dy gs, x = .ref a ∧ y = .ref b ∧ H2 a = some (.ins C dx fs) ∧ H2 b = some (.ins C dy gs) ∧ sp [x, y] H2 Q (E σ)) : tBinS C sp E ta tb σ H Q := h
/-! ### ends: None or an int -/
def endV : Option Int → V
  | none => .non
  | some i => .int i
def endD : Option Int → PyData
  | none => .none
  | some i => .int i
/-- a small end: what repr takes -/
def EndOk (e : Option Int) : Prop := ∀ i, e = some i → -(10 ^ 60) < i ∧ i < 10 ^ 60
theorem log_ok {i : Int} (h : -(10 ^ 60) < i ∧ i < 10 ^ 60) : i.natAbs.log2 < 1920 := by
  have h1 : i.natAbs < 2 ^ 200 := by
    have : i.natAbs < 10 ^ 60 := by omega
    exact Nat.lt_trans this (by decide)
  have h2 : i.natAbs.log2 < 200 := by
    by_cases e : i.natAbs = 0
    · rw [e]; decide
    · exact (Nat.log2_lt e).mpr h1
  omega
theorem dp_end {K : PySem.W.Frag} {H : Hp} (e : Option Int) : Dp K H (endV e) (endD e) := by
  cases e with
  | none => exact .non
  | some i => exact .int i
theorem show_end {e : Option Int} (h : EndOk e) : (endD e).showable = true := by
  cases e with
  | none => rfl
  | some i => exact decide_eq_true (log_ok (h i rfl))
theorem len_end {e : Option Int} (h : EndOk e) : ((endD e).shown).length ≤ 2000 := by
  cases e with
  | none => decide +kernel
  | some i => exact Nat.le_trans (PyProof.Rows.int_text_len_1921 (log_ok (h i rfl))) (by decide)
section
variable {H : Hp} {Q : VK} {K : PySem.W.Frag} {X : Cx}
def rIsNo : R2 := fun x y H Q => y = .non ∧ Q (.bl (decide (x = .non))) H
def rNotNo : R2 := fun x y H Q => y = .non ∧ Q (.bl (!decide (x = .non))) H
theorem o_isN : OpR X (compareOp .Is) rIsNo := op_isN
theorem o_notN : OpR X (compareOp .IsNot) rNotNo := op_notN
theorem r_isNe {e : Option Int} (h : Q (.bl (!e.isSome)) H) : rIsNo (endV e) .non H Q := by
  cases e with
  | none => exact ⟨rfl, h⟩
  | some i => exact ⟨rfl, h⟩
theorem r_notNe {e : Option Int} (h : Q (.bl e.isSome) H) : rNotNo (endV e) .non H Q := by
  cases e with
  | none => exact ⟨rfl, h⟩
  | some i => exact ⟨rfl, h⟩
theorem r_isNi {i : Int} (h : Q (.bl false) H) : rIsNo (.int i) .non H Q := ⟨rfl, h⟩
theorem r_isNn (h : Q (.bl true) H) : rIsNo .non .non H Q := ⟨rfl, h⟩
theorem r_isNr {a : Addr} (h : Q (.bl false) H) : rIsNo (.ref a) .non H Q := ⟨rfl, h⟩
theorem r_notNi {i : Int} (h : Q (.bl true) H) : rNotNo (.int i) .non H Q := ⟨rfl, h⟩
theorem r_notNn (h : Q (.bl false) H) : rNotNo .non .non H Q := ⟨rfl, h⟩
theorem r_notNr {a : Addr} (h : Q (.bl true) H) : rNotNo (.ref a) .non H Q := ⟨rfl, h⟩
/-- repr of a list of two ends -/
theorem r_repr2 {a : Addr} {b c : Option Int} (h : H a = some (.lst [endV b, endV c])) (hb : EndOk b) (hc : EndOk c) (q : Q (.str (PyData.list [endD b, endD c]).shown) H) : rRepr K [.ref a] H Q := by
  refine ⟨a, .list [endD b, endD c], rfl, .lst (SqL.of h) (.cons (dp_end b) (.cons (dp_end c) .nil)), ?_, ?_, ?_, ?_, q⟩
  · show ((endD b).showable && ((endD c).showable && true)) = true
    rw [show_end hb, show_end hc]; rfl
  · cases b <;> cases c <;> rfl
  · cases b <;> cases c <;> exact Nat.le_of_ble_eq_true rfl
  · have h1 := len_end hb
    have h2 := len_end hc
    have h3 := listText_len_le (PyData.shownAll [endD b, endD c])
    have h4 : (PyData.shownAll [endD b, endD c]).length = 2 := rfl
    have h5 : ((PyData.shownAll [endD b, endD c]).map (fun t => t.length)).sum = (endD b).shown.length + ((endD c).shown.length + 0) := rfl
    show (listText (PyData.shownAll [endD b, endD c])).length ≤ sizeLine
    rw [h5, h4] at h3
    exact Nat.le_trans h3 (Nat.le_trans (show _ ≤ 5000 by omega) (by decide))
end
/-! ### stretches -/
def turnedB : Option Int → Option Int → Bool
  | some a, some b => decide (b < a)
  | _, _ => false
def loB : Option Int → Int → Bool
  | none, _ => true
  | some a, n => decide (a ≤ n)
def hiB : Option Int → Int → Bool
  | none, _ => true
  | some b, n => decide (n ≤ b)
def inB (lo hi : Option Int) (n : Int) : Bool := loB lo n && hiB hi n
def strF (lo hi : Option Int) : List (Str × V) := putF "high" (endV hi) (putF "low" (endV lo) [])
theorem n_lh : ¬ (("low" : Str) = "high") := by decide +kernel
theorem str_low (lo hi : Option Int) : (strF lo hi).lookup ("low" : Str) = some (endV lo) := by
  unfold strF
  rw [lookup_putF, if_neg n_lh, lookup_putF, if_pos rfl]
theorem str_high (lo hi : Option Int) : (strF lo hi).lookup ("high" : Str) = some (endV hi) := by
  unfold strF
  rw [lookup_putF, if_pos rfl]
theorem str_no (lo hi : Option Int) {m : Str} (h1 : ¬ m = "high") (h2 : ¬ m = "low") : (strF lo hi).lookup m = none := by
  unfold strF
  rw [lookup_putF, if_neg h1, lookup_putF, if_neg h2]
  rfl
theorem putF_len (f : Str) (v : V) : ∀ fs : List (Str × V), (putF f v fs).length ≤ fs.length + 1
  | [] => Nat.le_refl _
  | (g, x) :: r => by
    unfold putF
    split
    · show r.length + 1 ≤ r.length + 1 + 1
      omega
    · show (putF f v r).length + 1 ≤ r.length + 1 + 1
      have := putF_len f v r
      omega
def StrAt (C : Addr) (H : Hp) (p : Addr) (lo hi : Option Int) : Prop := ∃ dx, H p = some (.ins C dx (strF lo hi))
theorem StrAt.same {C : Addr} {H H' : Hp} {p : Addr} {lo hi : Option Int} (h : StrAt C H p lo hi) (s : Same H H') : StrAt C H' p lo hi := by
  obtain ⟨dx, e⟩ := h
  exact ⟨dx, s _ _ e⟩
/-- what is no list is not among the draws -/
theorem Ext.keep {d c r : Addr} {H H' : Hp} {b : Addr} {o : HO} (e : Ext d r H H') (D : Drw H d c r) (h : H b = some o) (n : ∀ xs, o ≠ .lst xs) : H' b = some o := by
  obtain ⟨_, _, _, _, _, _, h1, _, h3, _⟩ := D
  exact e b o h (ne_of h h1 (n _)) (ne_of h h3 (n _))
theorem StrAt.ext {C : Addr} {H H' : Hp} {p d c r : Addr} {lo hi : Option Int} (h : StrAt C H p lo hi) (e : Ext d r H H') (D : Drw H d c r) : StrAt C H' p lo hi := by
  obtain ⟨dx, z⟩ := h
  exact ⟨dx, e.keep D z fun _ q => nomatch q⟩
/-- the dict of a TurnedStretch -/
def turnF (lo hi : Option Int) : List (Str × V) := [("high", endV hi), ("low", endV lo)]
theorem turn_low (lo hi : Option Int) : (turnF lo hi).lookup ("low" : Str) = some (endV lo) := by
  unfold turnF
  rw [lookup_put, if_neg n_lh, lookup_put, if_pos rfl]
theorem turn_high (lo hi : Option Int) : (turnF lo hi).lookup ("high" : Str) = some (endV hi) := by
  unfold turnF
  rw [lookup_put, if_pos rfl]
def spTInit (C : Addr) : Sp := fun vs H Q _ => ∃ (a : Addr) (lo hi : Option Int), vs = [.ref a, endV lo, endV hi] ∧ H a = some (exo a C none) ∧
  ∀ (dx : Addr) (H' : Hp), H dx = none → H' a = some (exo a C (some dx)) → H' dx = some (exd dx (turnF lo hi)) → (∀ b o, H b = some o → b ≠ a → H' b = some o) → Q .non H'
def spSInit (C CT : Addr) : Sp := fun vs H Q E => ∃ (p dx : Addr) (lo hi : Option Int), vs = [.ref p, endV lo, endV hi] ∧ H p = some (.ins C dx []) ∧
  (turnedB lo hi = true → ∀ (d : Addr) (H' : Hp), H d = none → H' d = some (.xd (turnF lo hi)) → Same H H' → E (.ref CT) (some d) H') ∧
  (turnedB lo hi = false → ∀ H', StrAt C H' p lo hi → (∀ b o, H b = some o → b ≠ p → H' b = some o) → Q .non H')
def spSIn (C : Addr) : Sp := fun vs H Q _ => ∃ (p : Addr) (lo hi : Option Int) (n : Int), vs = [.ref p, .int n] ∧ StrAt C H p lo hi ∧ Q (.bl (inB lo hi n)) H
/-! ### flat data: None, truths, ints, texts, in a list or a tuple; repr and == of these -/
def vD : V → PyData
  | .non => .none
  | .bl b => .bool b
  | .int i => .int i
  | .str x => .str x
  | _ => .none
def okD : V → Prop
  | .non => True
  | .bl _ => True
  | .int i => -(10 ^ 60) < i ∧ i < 10 ^ 60
  | .str x => (reprText x).length ≤ 1000 ∧ PyData.strOk x = true
  | _ => False
/-- what may be compared: no bound on ints -/
def eqD : V → Prop
  | .non => True
  | .bl _ => True
  | .int _ => True
  | .str x => PyData.strOk x = true
  | _ => False
theorem okD.eq {v : V} (h : okD v) : eqD v := by
  cases v <;> first | exact trivial | exact h.2 | exact h.elim
theorem log_okI {i : Int} (h : -(10 ^ 60) < i ∧ i < 10 ^ 60) : i.natAbs.log2 < 1920 := by
  have h1 : i.natAbs < 2 ^ 200 := by
    have : i.natAbs < 10 ^ 60 := by omega
    exact Nat.lt_trans this (by decide)
  have h2 : i.natAbs.log2 < 200 := by
    by_cases e : i.natAbs = 0
    · rw [e]; decide
    · exact (Nat.log2_lt e).mpr h1
  omega
theorem dp_vD {K : PySem.W.Frag} {H : Hp} {v : V} (h : eqD v) : Dp K H v (vD v) := by
  cases v with
  | non => exact .non
  | bl b => exact .bl b
  | int i => exact .int i
  | str x => exact .str x
  | byt b => exact h.elim
  | flt b => exact h.elim
  | ref a => exact h.elim
  | ty n => exact h.elim
theorem dpAll_vD {K : PySem.W.Frag} {H : Hp} : ∀ {vs : List V}, (∀ v ∈ vs, eqD v) → DpAll K H vs (vs.map vD)
  | [], _ => .nil
  | v :: vs, h => .cons (dp_vD (h v List.mem_cons_self)) (dpAll_vD fun w hw => h w (List.mem_cons_of_mem _ hw))
theorem show_vD : ∀ {vs : List V}, (∀ v ∈ vs, okD v) → PyData.showableAll (vs.map vD) = true
  | [], _ => rfl
  | v :: vs, h => by
    have h1 := h v List.mem_cons_self
    have e : (vD v).showable = true := by
      cases v <;> first | rfl | exact decide_eq_true (log_okI h1)
    show ((vD v).showable && PyData.showableAll (vs.map vD)) = true
    rw [e, show_vD fun w hw => h w (List.mem_cons_of_mem _ hw)]
    rfl
theorem dict_vD : ∀ (vs : List V), PyData.hasDictAll (vs.map vD) = false
  | [] => rfl
  | v :: vs => by
    show ((vD v).hasDict || PyData.hasDictAll (vs.map vD)) = false
    rw [dict_vD vs]
    cases v <;> rfl
theorem depth_vD : ∀ (vs : List V), PyData.depthAll (vs.map vD) = 0
  | [] => rfl
  | v :: vs => by
    show max (vD v).depth (PyData.depthAll (vs.map vD)) = 0
    rw [depth_vD vs]
    cases v <;> rfl
theorem len_vD : ∀ {vs : List V}, (∀ v ∈ vs, okD v) → (PyData.shownAll (vs.map vD)).length = vs.length ∧ ((PyData.shownAll (vs.map vD)).map (fun t => t.length)).sum ≤ 2000 * vs.length
  | [], _ => ⟨rfl, Nat.le_refl _⟩
  | v :: vs, h => by
    obtain ⟨i1, i2⟩ := len_vD (vs := vs) fun w hw => h w (List.mem_cons_of_mem _ hw)
    have h1 := h v List.mem_cons_self
    have e : ((vD v).shown).length ≤ 2000 := by
      cases v with
      | non => decide +kernel
      | bl b => cases b <;> decide +kernel
      | int i => exact Nat.le_trans (PyProof.Rows.int_text_len_1921 (log_okI h1)) (by decide)
      | str x => exact Nat.le_trans h1.1 (by decide)
      | byt b => exact h1.elim
      | flt b => exact h1.elim
      | ref a => exact h1.elim
      | ty n => exact h1.elim
    refine ⟨?_, ?_⟩
    · show (PyData.shownAll (vs.map vD)).length + 1 = vs.length + 1
      rw [i1]
    · show (((vD v).shown).length :: (PyData.shownAll (vs.map vD)).map (fun t => t.length)).sum ≤ 2000 * (vs.length + 1)
      rw [List.sum_cons]
      omega
section
variable {H : Hp} {Q : VK} {K : PySem.W.Frag} {a b : Addr} {vs ws : List V}
def tupD (vs : List V) : PyData := .tuple (vs.map vD)
def lstD (vs : List V) : PyData := .list (vs.map vD)
theorem r_reprT (h : SqT K H a vs) (hv : ∀ v ∈ vs, okD v) (hl : vs.length ≤ 50) (q : Q (.str (tupD vs).shown) H) : rRepr K [.ref a] H Q := by
  refine ⟨a, tupD vs, rfl, .tup h (dpAll_vD fun v hw => (hv v hw).eq), show_vD hv, dict_vD vs, ?_, ?_, q⟩
  · show PyData.depthAll (vs.map vD) + 1 ≤ 20
    rw [depth_vD]
    decide
  · obtain ⟨i1, i2⟩ := len_vD hv
    have h3 := tupleText_len_le (PyData.shownAll (vs.map vD))
    rw [i1] at h3
    exact Nat.le_trans h3 (Nat.le_trans (show _ ≤ 200000 by omega) (by decide))
theorem r_reprL (h : SqL K H a vs) (hv : ∀ v ∈ vs, okD v) (hl : vs.length ≤ 50) (q : Q (.str (lstD vs).shown) H) : rRepr K [.ref a] H Q := by
  refine ⟨a, lstD vs, rfl, .lst h (dpAll_vD fun v hw => (hv v hw).eq), show_vD hv, dict_vD vs, ?_, ?_, q⟩
  · show PyData.depthAll (vs.map vD) + 1 ≤ 20
    rw [depth_vD]
    decide
  · obtain ⟨i1, i2⟩ := len_vD hv
    have h3 := listText_len_le (PyData.shownAll (vs.map vD))
    rw [i1] at h3
    exact Nat.le_trans h3 (Nat.le_trans (show _ ≤ 200000 by omega) (by decide))
theorem lay_vD : ∀ {vs : List V}, (∀ v ∈ vs, eqD v) → PyData.canLayAll0 (vs.map vD) = true
  | [], _ => rfl
  | v :: vs, h => by
    have h1 := h v List.mem_cons_self
    have e : (vD v).canLay0 = true := by cases v <;> first | rfl | exact h1
    show ((vD v).canLay0 && PyData.canLayAll0 (vs.map vD)) = true
    rw [e, lay_vD fun w hw => h w (List.mem_cons_of_mem _ hw)]
    rfl
theorem shaped_tup (h : ∀ v ∈ vs, eqD v) : SeqAt.shaped (tupD vs) = true := by
  unfold SeqAt.shaped
  rw [show (tupD vs).canLay0 = true from lay_vD h]
  show decide (PyData.depthAll (vs.map vD) + 1 ≤ 64) = true
  rw [depth_vD]
  rfl
theorem shaped_lst (h : ∀ v ∈ vs, eqD v) : SeqAt.shaped (lstD vs) = true := by
  unfold SeqAt.shaped
  rw [show (lstD vs).canLay0 = true from lay_vD h]
  show decide (PyData.depthAll (vs.map vD) + 1 ≤ 64) = true
  rw [depth_vD]
  rfl
/-- equality of flat data of the same kinds, place by place -/
def sameKind : V → V → Bool
  | .int _, .bl _ => false
  | .bl _, .int _ => false
  | _, _ => true
theorem eqv_vD {x y : V} (hx : eqD x) (hy : eqD y) (k : sameKind x y = true) : PyData.eqv (vD x) (vD y) = decide (x = y) := by
  cases x <;> cases y <;> first
    | exact hx.elim
    | exact hy.elim
    | (cases k; done)
    | rfl
    | (rw [decide_eq_false fun z => nomatch z]; rfl)
    | skip
  · rename_i a b
    show (a == b) = _
    rw [eq_dbl]
  · rename_i a b
    show (a == b) = _
    rw [eq_dint]
    exact (Bool.beq_eq_decide_eq a b)
  · rename_i a b
    show (a == b) = _
    rw [eq_dstr]
    exact (Bool.beq_eq_decide_eq a b)
theorem eqv_all : ∀ {vs ws : List V}, (∀ v ∈ vs, eqD v) → (∀ v ∈ ws, eqD v) → (∀ p ∈ vs.zip ws, sameKind p.1 p.2 = true) → PyData.eqvAll (vs.map vD) (ws.map vD) = decide (vs = ws)
  | [], [], _, _, _ => rfl
  | [], w :: ws, _, _, _ => by rw [decide_eq_false fun z => nomatch z]; rfl
  | v :: vs, [], _, _, _ => by rw [decide_eq_false fun z => nomatch z]; rfl
  | v :: vs, w :: ws, h1, h2, h3 => by
    show (PyData.eqv (vD v) (vD w) && PyData.eqvAll (vs.map vD) (ws.map vD)) = _
    rw [eqv_vD (h1 v List.mem_cons_self) (h2 w List.mem_cons_self) (h3 (v, w) List.mem_cons_self), eqv_all (fun x hx => h1 x (List.mem_cons_of_mem _ hx)) (fun x hx => h2 x (List.mem_cons_of_mem _ hx)) fun p hp => h3 p (List.mem_cons_of_mem _ hp), Bool.eq_iff_iff, Bool.and_eq_true, decide_eq_true_eq, decide_eq_true_eq, decide_eq_true_eq, List.cons.injEq]
theorem r_neTT (h1 : SqT K H a vs) (h2 : SqT K H b ws) (e1 : ∀ v ∈ vs, eqD v) (e2 : ∀ v ∈ ws, eqD v) (k : ∀ p ∈ vs.zip ws, sameKind p.1 p.2 = true) (q : Q (.bl (!decide (vs = ws))) H) : rNeD K (.ref a) (.ref b) H Q := by
  refine ⟨tupD vs, tupD ws, .tup h1 (dpAll_vD e1), .tup h2 (dpAll_vD e2), shaped_tup e1, shaped_tup e2, ?_⟩
  show Q (.bl (!PyData.eqvAll (vs.map vD) (ws.map vD))) H
  rw [eqv_all e1 e2 k]
  exact q
theorem r_eqTT (h1 : SqT K H a vs) (h2 : SqT K H b ws) (e1 : ∀ v ∈ vs, eqD v) (e2 : ∀ v ∈ ws, eqD v) (k : ∀ p ∈ vs.zip ws, sameKind p.1 p.2 = true) (q : Q (.bl (decide (vs = ws))) H) : rEqD K (.ref a) (.ref b) H Q := by
  refine ⟨tupD vs, tupD ws, .tup h1 (dpAll_vD e1), .tup h2 (dpAll_vD e2), shaped_tup e1, shaped_tup e2, ?_⟩
  show Q (.bl (PyData.eqvAll (vs.map vD) (ws.map vD))) H
  rw [eqv_all e1 e2 k]
  exact q
theorem r_neLL (h1 : SqL K H a vs) (h2 : SqL K H b ws) (e1 : ∀ v ∈ vs, eqD v) (e2 : ∀ v ∈ ws, eqD v) (k : ∀ p ∈ vs.zip ws, sameKind p.1 p.2 = true) (q : Q (.bl (!decide (vs = ws))) H) : rNeD K (.ref a) (.ref b) H Q := by
  refine ⟨lstD vs, lstD ws, .lst h1 (dpAll_vD e1), .lst h2 (dpAll_vD e2), shaped_lst e1, shaped_lst e2, ?_⟩
  show Q (.bl (!PyData.eqvAll (vs.map vD) (ws.map vD))) H
  rw [eqv_all e1 e2 k]
  exact q
end
/-! ### texts whose signs are signs -/
theorem sok_app {x y : Str} (hx : PyData.strOk x = true) (hy : PyData.strOk y = true) : PyData.strOk (x ++ y) = true := by
  show (x.cps ++ y.cps).all _ = true
  rw [Array.all_append]
  exact Bool.and_eq_true_iff.mpr ⟨hx, hy⟩
theorem sok_of (s : String) : PyData.strOk (Str.ofString s) = true := by
  rw [Str.ofString_eq_toList]
  show Array.all _ _ = true
  rw [List.all_toArray, List.all_map, List.all_eq_true]
  intro c _
  refine decide_eq_true ?_
  have := c.valid
  rcases this with z | z
  · exact Nat.lt_trans z (by decide)
  · exact z.2
theorem sok_join : ∀ {ts : List Str}, (∀ t ∈ ts, PyData.strOk t = true) → PyData.strOk (Str.join ", " ts) = true
  | [], _ => by decide +kernel
  | [x], h => h x List.mem_cons_self
  | x :: y :: r, h => by
    show PyData.strOk (x ++ (", " : Str) ++ Str.join ", " (y :: r)) = true
    exact sok_app (sok_app (h x List.mem_cons_self) (sok_of ", ")) (sok_join fun t ht => h t (List.mem_cons_of_mem _ ht))
theorem sok_tup {ts : List Str} (h : ∀ t ∈ ts, PyData.strOk t = true) : PyData.strOk (tupleText ts) = true := by
  unfold tupleText
  exact sok_app (sok_app (sok_of "(") (sok_join h)) (sok_of _)
theorem sok_from : ∀ {ts : List Str} {k : Nat} {acc : Str}, PyData.strOk acc = true → (∀ t ∈ ts, PyData.strOk t = true) → PyData.strOk (textFrom k acc ts) = true
  | [], _, _, ha, _ => ha
  | t :: ts, k, acc, ha, h => by
    unfold textFrom
    refine sok_from ?_ fun x hx => h x (List.mem_cons_of_mem _ hx)
    split
    · exact sok_app (sok_app ha (sok_of ", ")) (h t List.mem_cons_self)
    · exact sok_app ha (h t List.mem_cons_self)
theorem sok_lst {ts : List Str} (h : ∀ t ∈ ts, PyData.strOk t = true) : PyData.strOk (listText ts) = true := by
  unfold listText
  exact sok_app (sok_from (sok_of "[") h) (sok_of "]")
/-- a text whose repr is a text of signs (the laws' own words are) -/
def okR : V → Prop
  | .str x => PyData.strOk (reprText x) = true
  | _ => True
theorem sok_all : ∀ {vs : List V}, (∀ v ∈ vs, okR v) → ∀ t ∈ PyData.shownAll (vs.map vD), PyData.strOk t = true
  | [], _, t, ht => (nomatch ht)
  | v :: vs, h, t, ht => by
    have ht : t ∈ (vD v).shown :: PyData.shownAll (vs.map vD) := ht
    rcases List.mem_cons.mp ht with e | e
    · rw [e]
      cases v with
      | bl b => cases b <;> decide +kernel
      | int i => exact sok_of _
      | str x => exact h _ List.mem_cons_self
      | non => exact sok_of "None"
      | byt b => exact sok_of "None"
      | flt b => exact sok_of "None"
      | ref a => exact sok_of "None"
      | ty n => exact sok_of "None"
    · exact sok_all (fun w hw => h w (List.mem_cons_of_mem _ hw)) t e
theorem sok_tupD {vs : List V} (h : ∀ v ∈ vs, okR v) : PyData.strOk (tupD vs).shown = true := sok_tup (sok_all h)
theorem sok_lstD {vs : List V} (h : ∀ v ∈ vs, okR v) : PyData.strOk (lstD vs).shown = true := sok_lst (sok_all h)
/-! ### a list or a tuple, read alike; comprehensions over tuples and ranges -/
def SqA (K : PySem.W.Frag) (H : Hp) (p : Addr) (xs : List V) : Prop := SqL K H p xs ∨ SqT K H p xs
theorem same_tup {K : PySem.W.Frag} {H H' : Hp} {a : Addr} {xs : List V} (e : Same H H') (h : SqT K H a xs) : SqT K H' a xs := by
  rcases h with (h | ⟨o, h⟩) | h
  · exact .inl (.inl (e _ _ h))
  · exact .inl (.inr ⟨o, e _ _ h⟩)
  · exact .inr h
theorem SqA.same {K : PySem.W.Frag} {H H' : Hp} {a : Addr} {xs : List V} (h : SqA K H a xs) (e : Same H H') : SqA K H' a xs := h.imp (fun z => e.seq z) fun z => same_tup e z
theorem kAt_all {ns : List Int} {P : Int → Prop} (h : ∀ x ∈ ns, P x) {j : Nat} (hj : j < ns.length) : P (kAt ns j) := by
  have e : kAt ns j = ns[j] := by rw [kAt, List.getD_eq_getElem?_getD, List.getElem?_eq_getElem hj]; rfl
  rw [e]
  exact h _ (List.getElem_mem hj)
section
variable {σ : L2.St} {H : Hp} {Q : VK} {te : TE} {K : PySem.W.Frag} {a p : Addr} {xs : List V} {i : Int} {v : V}
theorem r_ixA (h : SqA K H p xs) (e : atI xs i = some v) (q : Q v H) : rIx K (.ref p) (.int i) H Q := by
  rcases h with h | h
  · exact .inl (r_ixL h e q)
  · exact .inr (.inl (r_ixT h e q))
def rTupA (K : PySem.W.Frag) : List V → Hp → VK → Prop := fun xs H Q => ∃ p ys, xs = [.ref p] ∧ ((SqL K H p ys ∧ ∀ l, H l = none → Q (.ref l) (upd H l (.tup ys))) ∨ (SqT K H p ys ∧ Q (.ref p) H))
theorem c_tupA {X : Cx} : CallR X (.type "tuple") (rTupA X.K) := call_tuple_of
theorem r_tupL (h : SqL K H p xs) (q : ∀ l, H l = none → Q (.ref l) (upd H l (.tup xs))) : rTupA K [.ref p] H Q := ⟨p, xs, rfl, .inl ⟨h, q⟩⟩
theorem r_tupA (h : SqA K H p xs) (q : ∀ l H', SqT K H' l xs → Same H H' → Q (.ref l) H') : rTupA K [.ref p] H Q := by
  rcases h with h | h
  · exact ⟨p, xs, rfl, .inl ⟨h, fun l nl => q l _ (SqT.of upd_same) (same_new nl)⟩⟩
  · exact ⟨p, xs, rfl, .inr ⟨h, q p H h (Same.refl H)⟩⟩
def rListA (K : PySem.W.Frag) : List V → Hp → VK → Prop := fun xs H Q => ∃ p ys, xs = [.ref p] ∧ (SqL K H p ys ∨ SqT K H p ys) ∧ ∀ l, H l = none → Q (.ref l) (upd H l (.lst ys))
theorem c_listA {X : Cx} : CallR X (.type "list") (rListA X.K) := call_list_of
theorem r_listA (h : SqA K H p xs) (q : ∀ l, H l = none → Q (.ref l) (upd H l (.lst xs))) : rListA K [.ref p] H Q := ⟨p, xs, rfl, h, q⟩
theorem r_catT {b : Addr} {ys : List V} (h1 : SqT K H a xs) (h2 : SqT K H b ys) (n1 : xs ≠ []) (n2 : ys ≠ []) (hz : xs.length + ys.length ≤ 1000) (q : ∀ p, H p = none → Q (.ref p) (upd H p (.tup (xs ++ ys)))) : rCatT K (.ref a) (.ref b) H Q :=
  ⟨a, b, xs, ys, rfl, rfl, h1, h2, n1, Nat.le_of_lt (small1000 hz), fun z => absurd z n2, fun _ => q⟩
theorem lc_mapT {n : Nat} (f : V → V) (hS : SqT K H a xs) (hz : xs.length ≤ 1000) (he : ∀ (x : V) (H' : Hp) (QQ : VK), x ∈ xs → Same H H' → QQ (f x) H' → te ((wipe σ [n]).set n (some x)) H' QQ)
    (hq : ∀ D, H D = none → Q (.ref D) (upd H D (.lst (xs.map f)))) : lcGo (Itt K a) (gName n) tYes te [n] σ Q H := by
  intro D hD
  refine lc_tup (K := K) (a := a) (xs := xs) (fun i H' => H' = upd H D (.lst ((xs.take i).map f))) rfl (fun i H' _ e => by subst e; exact same_tup (same_new hD) hS) ?_ ?_
  · rintro i x H' hx rfl
    refine ⟨wipe1, ?_⟩
    show te _ _ _
    refine he x _ _ (List.mem_of_getElem? hx) (same_new hD) ⟨(xs.take i).map f, upd_same, ?_, ?_⟩
    · rw [List.length_map, List.length_take]
      exact small1000 (by omega)
    · rw [upd_upd, List.take_add_one, hx, List.map_append]
      rfl
  · rintro H' rfl
    rw [List.take_length]
    exact hq D hD
theorem lc_mapR {n m : Nat} {lo : Int} (f : Nat → V) (hm : m ≤ 1000) (he : ∀ (i : Nat) (H' : Hp) (QQ : VK), i < m → Same H H' → QQ (f i) H' → te ((wipe σ [n]).set n (some (.int (lo + i)))) H' QQ)
    (hq : ∀ D, H D = none → Q (.ref D) (upd H D (.lst ((List.range m).map f)))) : lcGo (Itr lo m) (gName n) tYes te [n] σ Q H := by
  intro D hD
  refine lc_range (fun i H' => H' = upd H D (.lst ((List.range i).map f))) rfl ?_ ?_
  · rintro i H' hi rfl
    refine ⟨wipe1, ?_⟩
    show te _ _ _
    refine he i _ _ hi (same_new hD) ⟨(List.range i).map f, upd_same, ?_, ?_⟩
    · rw [List.length_map, List.length_range]
      exact small1000 (by omega)
    · rw [upd_upd, List.range_succ, List.map_append]
      rfl
  · rintro H' rfl
    exact hq D hD
end
/-! ### xs != [] of any items; comprehensions with any target -/
def rNeE (K : PySem.W.Frag) : R2 := fun x y H Q => ∃ a b xs, x = .ref a ∧ y = .ref b ∧ SqL K H a xs ∧ SqL K H b [] ∧ Q (.bl (!xs.isEmpty)) H
theorem op_neE {X : Cx} (hu : X.A.units < cLine) : OpR X (compareOp .NotEq) (rNeE X.K) := by
  intro pins s σ H x y v u Q I rx ry h
  obtain ⟨a, b, xs, rfl, rfl, h1, h2, q⟩ := h
  cases (show v = Value.ref a from rx)
  cases (show u = Value.ref b from ry)
  obtain ⟨its, r1, ⟨o1, n1, g1, c1, _, d1⟩, _⟩ := I.list h1
  obtain ⟨its2, r2, ⟨o2, n2, g2, c2, _, d2⟩, _⟩ := I.list h2
  cases r2
  show wpAny _ _ (richCompare .NotEq _ _) _ _ _
  cases r1 with
  | nil => exact SeqAt.RcNeAt.lists (e := fun _ => true) ⟨o1, g1, c1, n1, d1⟩ ⟨o2, g2, c2, n2, d2⟩ rfl hu (fun j h1 _ => absurd h1 (Nat.not_lt_zero j)) _ _ _ _ ⟨.bl false, H, I, rfl, q⟩
  | cons ra rb => exact SeqAt.RcNeAt.lists_lengths ⟨o1, g1, c1, n1, d1⟩ ⟨o2, g2, c2, n2, d2⟩ rfl hu _ _ _ _ ⟨.bl true, H, I, rfl, q⟩
section
variable {σ : L2.St} {H : Hp} {Q : VK} {te : TE} {K : PySem.W.Frag} {a b : Addr} {xs : List V}
theorem r_neE (h1 : SqL K H a xs) (h2 : SqL K H b []) (q : Q (.bl (!xs.isEmpty)) H) : rNeE K (.ref a) (.ref b) H Q := ⟨a, b, xs, rfl, rfl, h1, h2, q⟩
/-- [e for target in xs], e a value by a function of the item -/
theorem lc_mapG {g : TG} {vs : List Nat} (f : V → V) (hS : SqL K H a xs) (hz : xs.length ≤ 1000) (he : ∀ (x : V) (H' : Hp) (QQ : VK), x ∈ xs → Same H H' → QQ (f x) H' → g x (wipe σ vs) H' fun σ2 H2 => wipe σ2 vs = wipe σ vs ∧ te σ2 H2 QQ)
    (hq : ∀ D, H D = none → Q (.ref D) (upd H D (.lst (xs.map f)))) : lcGo (Itl K a) g tYes te vs σ Q H := by
  intro D hD
  refine lc_list (K := K) (a := a) (xs := xs) (fun i H' => H' = upd H D (.lst ((xs.take i).map f))) rfl (fun i H' _ e => by subst e; exact (same_new hD).seq hS) ?_ ?_
  · rintro i x H' hx rfl
    refine he x _ _ (List.mem_of_getElem? hx) (same_new hD) ⟨(xs.take i).map f, upd_same, ?_, ?_⟩
    · rw [List.length_map, List.length_take]
      exact small1000 (by omega)
    · rw [upd_upd, List.take_add_one, hx, List.map_append]
      rfl
  · rintro H' rfl
    rw [List.take_length]
    exact hq D hD
end
section
variable {σ : L2.St} {H : Hp} {Q : VK} {te : TE} {tt : TT} {K : PySem.W.Frag} {a : Addr} {xs : List V}
/-- [x for x in xs if test]: what passes the test -/
theorem lc_filt {n : Nat} (f : V → Bool) (hS : SqL K H a xs) (hz : xs.length ≤ 1000) (ht : ∀ (x : V) (H' : Hp) (QT : Bool → Hp → Prop), x ∈ xs → Same H H' → QT (f x) H' → tt ((wipe σ [n]).set n (some x)) H' QT)
    (he : ∀ (x : V) (H' : Hp) (QQ : VK), x ∈ xs → Same H H' → QQ x H' → te ((wipe σ [n]).set n (some x)) H' QQ) (hq : ∀ D, H D = none → Q (.ref D) (upd H D (.lst (xs.filter f)))) : lcGo (Itl K a) (gName n) tt te [n] σ Q H := by
  intro D hD
  refine lc_list (K := K) (a := a) (xs := xs) (fun i H' => H' = upd H D (.lst ((xs.take i).filter f))) rfl (fun i H' _ e => by subst e; exact (same_new hD).seq hS) ?_ ?_
  · rintro i x H' hx rfl
    have hx' := List.mem_of_getElem? hx
    refine ⟨wipe1, ht x _ _ hx' (same_new hD) ?_⟩
    cases hf : f x with
    | true =>
      refine he x _ _ hx' (same_new hD) ⟨(xs.take i).filter f, upd_same, ?_, ?_⟩
      · refine small1000 (Nat.le_trans (List.length_filter_le _ _) ?_)
        rw [List.length_take]
        omega
      · rw [upd_upd, List.take_add_one, hx, List.filter_append]
        show _ = upd H D (.lst (_ ++ List.filter f [x]))
        rw [List.filter_cons, if_pos hf]
        rfl
    | false =>
      show _ = _
      rw [List.take_add_one, hx, List.filter_append]
      show _ = upd H D (.lst (_ ++ List.filter f [x]))
      rw [List.filter_cons, if_neg (by rw [hf]; exact Bool.false_ne_true)]
      show _ = upd H D (.lst (_ ++ []))
      rw [List.append_nil]
  · rintro H' rfl
    rw [List.take_length]
    exact hq D hD
end
theorem sort1 {ns : List Int} {a : Int} (h : ns.Perm [a]) : ns = [a] := List.perm_singleton.mp h
theorem sort2 {ns : List Int} {a b : Int} (h : ns.Perm [a, b]) (hp : ns.Pairwise (· ≤ ·)) : ns = if b < a then [b, a] else [a, b] := by
  obtain ⟨x, y, rfl⟩ : ∃ x y, ns = [x, y] := by
    match ns, h.length_eq with
    | [x, y], _ => exact ⟨x, y, rfl⟩
  have hxy : x ≤ y := by
    have := List.rel_of_pairwise_cons hp (List.mem_singleton_self y)
    exact this
  have hx : x ∈ [a, b] := h.mem_iff.mp List.mem_cons_self
  simp only [List.mem_cons, List.mem_nil_iff, or_false] at hx
  rcases hx with rfl | rfl
  · have hy := List.perm_singleton.mp h.cons_inv
    cases hy
    rw [if_neg (by omega)]
  · have hy := List.perm_singleton.mp (h.trans (List.Perm.swap _ _ _)).cons_inv
    cases hy
    split
    · rfl
    · have : x = a := by omega
      rw [this]
section
variable {σ : L2.St} {H : Hp} {Q : VK} {te : TE} {tt : TT} {K : PySem.W.Frag} {a : Addr} {xs : List V}
/-- the same over a tuple -/
theorem lc_filtT {n : Nat} (f : V → Bool) (hS : SqT K H a xs) (hz : xs.length ≤ 1000) (ht : ∀ (x : V) (H' : Hp) (QT : Bool → Hp → Prop), x ∈ xs → Same H H' → QT (f x) H' → tt ((wipe σ [n]).set n (some x)) H' QT)
    (he : ∀ (x : V) (H' : Hp) (QQ : VK), x ∈ xs → Same H H' → QQ x H' → te ((wipe σ [n]).set n (some x)) H' QQ) (hq : ∀ D, H D = none → Q (.ref D) (upd H D (.lst (xs.filter f)))) : lcGo (Itt K a) (gName n) tt te [n] σ Q H := by
  intro D hD
  refine lc_tup (K := K) (a := a) (xs := xs) (fun i H' => H' = upd H D (.lst ((xs.take i).filter f))) rfl (fun i H' _ e => by subst e; exact same_tup (same_new hD) hS) ?_ ?_
  · rintro i x H' hx rfl
    have hx' := List.mem_of_getElem? hx
    refine ⟨wipe1, ht x _ _ hx' (same_new hD) ?_⟩
    cases hf : f x with
    | true =>
      refine he x _ _ hx' (same_new hD) ⟨(xs.take i).filter f, upd_same, ?_, ?_⟩
      · refine small1000 (Nat.le_trans (List.length_filter_le _ _) ?_)
        rw [List.length_take]
        omega
      · rw [upd_upd, List.take_add_one, hx, List.filter_append]
        show _ = upd H D (.lst (_ ++ List.filter f [x]))
        rw [List.filter_cons, if_pos hf]
        rfl
    | false =>
      show _ = _
      rw [List.take_add_one, hx, List.filter_append]
      show _ = upd H D (.lst (_ ++ List.filter f [x]))
      rw [List.filter_cons, if_neg (by rw [hf]; exact Bool.false_ne_true)]
      show _ = upd H D (.lst (_ ++ []))
      rw [List.append_nil]
  · rintro H' rfl
    rw [List.take_length]
    exact hq D hD
end
/-! ### constants of the top; binding by place and by keywords -/
theorem sqt_const {K : PySem.W.Frag} {H : Hp} {a : Addr} {od : Option Addr} {its : Array Value} {n : Nat} {sl : Array (Option Value)} {vs : List V} (h : K.lookup a = some ⟨.type "tuple", od, .seq its n, sl⟩) (r : Vals vs its.toList) (hl : vs.length ≤ 1000) : SqT K H a vs := by
  refine .inr ⟨_, its, n, h, rfl, rfl, ?_, r⟩
  have e : its.size = vs.length := (Array.length_toList (xs := its)).symm.trans r.length.symm
  rw [e]
  exact Nat.le_of_lt (small1000 hl)
theorem kb_mkN {K : PySem.W.Frag} {x qual : Str} {st : Stmt} {f : Addr} {fd : FuncData} {ps ks : List Str} {n : Nat} (F : Fun K x qual st f fd)
    (h : ∀ (kV doc pm : Value) (an : Option Addr) (cdv ct : Value) (us ws : List Value), us.length = n → ws.length = ks.length → bindArgs (PySem.W.fnOf x qual (defArgs st) (defBody st) (defScope st) .none kV doc pm an cdv ct) ⟨us, ks.zip ws⟩ = pure (ps.zip (us ++ ws))) :
    KBn K fd ps n ks (fun us ws => us ++ ws) (fun vs zs => vs ++ zs) := by
  obtain ⟨oc, od, kV, doc, pm, an, cdv, ct, osl, rfl, lk, hcd⟩ := F.ex
  exact ⟨fun s us ws _ l1 l2 => .of_eq (h kV doc pm an cdv ct us ws l1 l2), fun r1 r2 => r1.append r2⟩
theorem r_makeN {C : Addr} {n m : Nat} {sp : Sp} {gV : List V → List V → List V} {E : XK} {t tk : TA} {σ : L2.St} {H : Hp} {Q : VK} (h : t σ H fun vs H1 => tk σ H1 fun zs H2 => vs.length = n ∧ zs.length = m ∧ ∀ x dx, H2 x = none → H2 dx = none → dx ≠ x → sp (gV (.ref x :: vs) zs) (upd (upd H2 dx (.own x)) x (.ins C dx [])) (fun v H3 => v = .non ∧ Q (.ref x) H3) E) : tMakeN C n m sp gV E t tk σ H Q := h
theorem r_inT {K : PySem.W.Frag} {H : Hp} {Q : VK} {neg : Bool} {x : V} {p : Addr} {xs : List V} (h : SqT K H p xs) (h1 : flatV x = true) (h2 : xs.all flatV = true) (q : Q (.bl (if neg then !inV x xs else inV x xs)) H) : rIn K neg x (.ref p) H Q := ⟨p, xs, rfl, .inr h, h1, h2, q⟩
theorem r_inL {K : PySem.W.Frag} {H : Hp} {Q : VK} {neg : Bool} {x : V} {p : Addr} {xs : List V} (h : SqL K H p xs) (h1 : flatV x = true) (h2 : xs.all flatV = true) (q : Q (.bl (if neg then !inV x xs else inV x xs)) H) : rIn K neg x (.ref p) H Q := ⟨p, xs, rfl, .inl h, h1, h2, q⟩
/-! ### isinstance of a caught error with attributes of its own: both answers -/
section
open PySem.W PySem.Calls
variable {prog : Program} {w : World} {A : Around} {E : Value → Shared → Prop} {st : Shared} {K : PySem.W.Frag} {x D : Addr} {ob : Obj} {dob : Option Obj}
/-- e.__class__ of an error, whatever its own dict holds -/
theorem cls_of_error {Q : Option Value → Shared → Prop} (C : ExcC K D) (X : K.In st.heap) (I : PySem.W.InstAt st.heap x ob D dob) (h : Q (some (.ref D)) { st with toks := st.toks + 1 }) : wpAny (model prog w) A (getAttr? (.ref x) "__class__") Q E st := by
  have found : findObj K D dob "__class__" = some (.bind (.builtin "getset_descriptor.__get__") (.builtin "object.__class__")) := by
    obtain ⟨cd, hc, _⟩ := any_some C.hd
    unfold findObj; rw [hc, Option.bind_some, C.ha, Option.bind_some]; simp [C.hn, C.ht]
  obtain ⟨hp, g, d, t, os⟩ := st
  have T0 := I.type (M := model prog w)
  have T1 := looks_findIn (M := model prog w) X C.hg
  have T2 := looks_findIn (M := model prog w) X C.hk
  have T3 := looks_find (M := model prog w) X I found
  have isB : Looks (model prog w) hp (isInstance (.ref x) (.type "BaseException")) true := T0.andThen (looks_subIn X C.hs)
  have z2 : (Value.builtin "BaseException.__getattribute__" == Value.builtin "object.__getattribute__") = false := by decide +kernel
  have z1 : (onTheHeap (Value.ref D) && Value.builtin "BaseException.__getattribute__" == Value.builtin "object.__getattribute__") = false := by rw [z2] <;> rfl
  have z0 : (false && onTheHeap (Value.builtin "BaseException.__getattribute__")) = false := rfl
  unfold getAttr? getAttrBy?; unfold getAttrBy
  refine wpAny_bind (wpAny_mkText (wpAny_bind (wpAny_attempt (wpAny_holding (wpAny_bind (T0.at (wpAny_bind (T1.at ?_))))))))
  show wpAny _ _ (if (onTheHeap (Value.ref D) && Value.builtin "BaseException.__getattribute__" == Value.builtin "object.__getattribute__") = true then _ else _) _ _ _; rw [z1, if_neg Bool.false_ne_true]
  unfold getAttrByItsOwn; unfold hookBefore
  refine wpAny_bind ?_
  rw [if_pos (show onTheHeap (Value.ref D) = true from rfl)]; refine T2.at ?_
  refine wpAny_bind (wpAny_attempt (wpAny_holding ?_)); unfold callGetattribute
  rw [z0, if_neg Bool.false_ne_true]
  unfold boundAndCalled; rw [PySem.F.excAttr_ValueError.ga.bind (.ref x)]
  refine wpAny_bind (wpAny_pure ?_)
  show wpAny _ _ (call (.builtin "BaseException.__getattribute__") [.ref x, .str "__class__" t]) _ _ _; refine wpAny_call (codeAny_call_builtin PySem.F.excAttr_ValueError.ga.plain PySem.F.entry_bexc_ga ?_)
  refine @check_slot (model prog w) _ _ ⟨hp, g, d, t + 1, os⟩ "BaseException.__getattribute__" "BaseException" "__getattribute__" (.ref x) [.str "__class__" t] [] _ (by decide +kernel) (by decide +kernel) isB (PySem.F.args_bexc_ga (.ref x) (.str "__class__" t)) ?_
  unfold Builtin.«object.__getattribute__»; refine wpAny_bind (wpAny_of_eq (a := ((Value.ref x : Value), [Value.str "__class__" t])) (by first | rfl | (simp only [slotArgs]; rfl)) ?_)
  refine wpAny_bind (wpAny_pure (wpAny_bind (T0.at (wpAny_bind (T3.at ?_)))))
  show wpAny _ _ (holding [Value.builtin "object.__class__"] (call (.builtin "getset_descriptor.__get__") [.builtin "object.__class__", .ref x, .ref D]) >>= ret) _ _ _; refine wpAny_bind (wpAny_holding (wpAny_call (class_get (s := ⟨hp, g, d, t + 1, os⟩) (ox := ob) (od := dob) X I C.hm ?_)))
  refine wpAny_pure ?_; show wpAny _ _ (handedOut (.ref D)) _ _ _; rw [handedOut_of (v := .ref D) rfl]
  first | exact wpAny_pure (wpAny_pure h) | exact wpAny_pure h | exact wpAny_pure (wpAny_bind (wpAny_pure (wpAny_pure h)))
theorem kit_error (C : ExcC K D) : PySem.W.KitX K (.ref x) (.ref D) (fun h => PySem.W.InstAt h x ob D dob) where
  ty := fun _ _ _ I => I.type
  it := fun _ _ X _ => by
    obtain ⟨cd, hc, _⟩ := any_some C.hd
    unfold clsIn at hc
    split at hc
    · rename_i ho
      intro A' Q' E' s' k q
      unfold isType loadHead; exact wpAny_bind (wpAny_loadPart (k _ _ (X _ _ ho)) (wpAny_pure q))
    · cases hc
  ne := fun h tp dd its n sl X htp => by
    obtain ⟨cd, hc, _⟩ := any_some C.hd
    refine Bool.eq_false_iff.mpr fun q => ?_
    obtain rfl : D = tp := Value.ref.inj (beq_iff_eq.mp q)
    unfold clsIn at hc
    split at hc
    · rename_i ho; cases (X _ _ ho).symm.trans htp
    · cases hc
  ca := fun X I k => cls_of_error C X I k
end
def rIsX (K : PySem.W.Frag) (cls : Value) (d : Option Addr) (a : Addr) : List V → Hp → VK → Prop := fun xs H Q => ∃ (D dd : Addr) (fs : List (Str × V)) (c : V) (cv : Value) (b : Bool), cls = .ref D ∧ ExcC K D ∧ d = some dd ∧ H dd = some (.xd fs) ∧ xs = [.ref a, c] ∧ ClsV c cv ∧ PySem.W.kitOne K (.ref D) cv = some b ∧ Q (.bl b) H
theorem call_isX {X : Cx} {a : Addr} {oe : Obj} {cls : Value} {d : Option Addr} {pn : List (Addr × Obj)} (hz : Zc cls d oe) (hf : ∃ vs, oe.data = .fields vs) : CallR (X.suite a ((a, oe) :: pn)) (.builtin "isinstance") (rIsX X.K cls d a) := by
  intro pins s σ H xs us Q I r h
  obtain ⟨D, dd, fs, c, cv, b, rfl, C, rfl, ea, rfl, hc, e, q⟩ := h
  obtain ⟨u1, u2, rfl, r1, r2⟩ := vals2 r
  cases (show u1 = Value.ref a from r1)
  cases hc.eq r2
  obtain ⟨ha, _⟩ := I.pin (a, oe) (List.mem_append_left _ List.mem_cons_self)
  obtain ⟨vs, hv⟩ := hf
  have ho : ObjOk X.prog X.w H s.heap dd (.xd fs) := I.hok dd _ ea
  obtain ⟨mA, hns, _⟩ := ho
  obtain ⟨od, ho, _⟩ := lookIn_ns hns
  have J : PySem.W.InstAt s.heap a oe D (some od) := ⟨ha, hz.1, by unfold PySem.W.notCls; rw [hv] <;> rfl, by rw [hz.2]; exact ho⟩
  exact PySem.W.kia_one (kit_error C) I.kIn J e (fun z => nomatch z) fun tk => ⟨.bl b, H, I.kept (t' := tk) fun _ _ z => z, rfl, q⟩
theorem r_isX {K : PySem.W.Frag} {a D dd : Addr} {fs : List (Str × V)} {c : V} {cv : Value} {b : Bool} {H : Hp} {Q : VK} (C : ExcC K D) (hd : H dd = some (.xd fs)) (hc : ClsV c cv) (e : PySem.W.kitOne K (.ref D) cv = some b) (q : Q (.bl b) H) : rIsX K (.ref D) (some dd) a [.ref a, c] H Q := ⟨D, dd, fs, c, cv, b, rfl, C, rfl, hd, rfl, hc, e, q⟩
/-! ### several except clauses, each with a name -/
/-- the clauses' wishes: class, slot of the name, suite -/
def wManyA (K : PySem.W.Frag) (Wout : WX) (D : Ends) : List (Value × Nat × (Addr → Value → Option Addr → TS)) → WX
  | [] => Wout
  | (c, i, ts) :: r => fun cls d σ H => ∃ b, PySem.W.exmOne K cls c = some b ∧ (b = true → ∀ a, H a = none → ts a cls d { D with nx := fun σ' H' => D.nx (σ'.set i none) H', bk := fun σ' H' => D.bk (σ'.set i none) H', ct := fun σ' H' => D.ct (σ'.set i none) H' } (σ.set i (some (.ref a))) H) ∧ (b = false → wManyA K Wout D r cls d σ H)
inductive HdsA (X : Cx) : List ExceptHandler → List (Value × Nat × (Addr → Value → Option Addr → TS)) → Prop
  | nil : HdsA X [] []
  | cons {x n : Str} {c : Value} {i : Nat} {ts : Addr → Value → Option Addr → TS} {b₀ : Stmt} {suite : List Stmt} {np pos' : Pos} {hds : List ExceptHandler} {l : List (Value × Nat × (Addr → Value → Option Addr → TS))} (hi : X.N[i]? = some n) (hln : X.env.kindOf n = some .local) (hc : Names X x c)
      (hsu : ∀ (a : Addr) (oe : Obj) (cls : Value) (d : Option Addr) (pn : List (Addr × Obj)), Zc cls d oe → (∃ vs, oe.data = .fields vs) → PSs (X.suite a ((a, oe) :: pn)) (b₀ :: suite) (ts a cls d)) (r : HdsA X hds l) :
      HdsA X (.ExceptHandler (some (.Name x np)) (some n) (b₀ :: suite) pos' :: hds) ((c, i, ts) :: l)
theorem ps_try_manyA {X : Cx} {body : List Stmt} {h₀ : ExceptHandler} {hds : List ExceptHandler} {l : List (Value × Nat × (Addr → Value → Option Addr → TS))} {pos : Pos} {tb : WX → TS} {Wout : WX} (hs : X.stack = X.env :: X.outer) (hf : X.env.frame = some X.env.locals) (hN : X.N.Nodup) (tk : Takes X Wout)
    (hb : ∀ (W : WX) (pn : List (Addr × Obj)) (xe : Value → Shared → Prop), Takes (X.tr pn xe) W → PassesOwn (model X.prog X.w) X.A X.env xe → PSs (X.tr pn xe) body (tb W))
    (hh : HdsA X (h₀ :: hds) l) : PS X (.Try body (h₀ :: hds) [] [] pos) (fun D σ H => tb (wManyA X.K Wout D l) D σ H) := by
  refine ⟨fun pins s σ H D I h => ?_⟩
  have ok := I.ok; have hfr : X.A.frames = some (X.env :: X.outer) := by rw [ok.frames, hs]
  refine wpAny_Try_except ?_
  refine wpAny_mono ((hb (wManyA X.K Wout D l) (X.pn ++ pins) (fun e s₁ => wpAny (model X.prog X.w) X.A (noteFrame e X.env) (fun _ s₂ => wpAny (model X.prog X.w) X.A (setFlight e none) (fun _ s₃ =>
    wpAny (model X.prog X.w) X.A (handleBy e X.env (h₀ :: hds)) (SP X pins D) X.xe s₃) X.xe s₂) X.xe s₁) (fun u s' xx => ?_) PassesOwn.looking).run [] s σ H D (I.toTry _) h) (fun f s1 hsp => ?_) (fun e s1 he => he)
  · obtain ⟨a, B, sI, pins', σ', H', cls, d, rfl, J', nb, up, sky, na, os, ag, w⟩ := xx
    have J : Inv X pins σ' H' sI := J'.ofTry ok; have sky' : Sky B (X.env :: X.outer) a (Zc cls d) X.env.locals s'.heap := by rw [← hs]; exact sky
    show wpAny (model X.prog X.w) X.A (noteFrame (.ref a) X.env) _ _ _; refine Sky.land Zc.steady hfr hf sky' fun h3 fl3 up3 => ?_
    have J3 : Inv X pins σ' H' { s' with heap := h3 } := J.landed nb fl3.1 (up.trans up3) os ag; obtain ⟨oe3, vs3, he3, hz3, hd3⟩ := fl3.there
    have nfr : a ∉ frs (X.env :: X.outer) := fun hm => by
      obtain ⟨_, o', e', hnf⟩ := fl3.2.2.1.mem hm
      rw [he3] at e'; cases e'; exact hnf _ hd3
    have nL : a ≠ X.env.locals := fun z => nfr (List.mem_filterMap.mpr ⟨X.env, List.mem_cons_self, by rw [hf, z]⟩); have nF : a ∉ X.fs := fun hm => by
      obtain ⟨e, he, q⟩ := List.mem_filterMap.mp hm; exact nfr (List.mem_filterMap.mpr ⟨e, List.mem_cons_of_mem _ he, q⟩)
    have S3 := J3.suite he3 hd3 na nL nF; clear h hb; suffices go : ∀ {hds' : List ExceptHandler} {l' : List (Value × Nat × (Addr → Value → Option Addr → TS))}, HdsA X hds' l' → wManyA X.K Wout D l' cls d σ' H' →
        wpAny (model X.prog X.w) X.A (handleBy (.ref a) X.env hds') (SP X pins D) X.xe { s' with heap := h3 } from go hh w
    intro hds' l' hk
    induction hk with
    | nil =>
      intro w; refine wpAny_handleBy_nil ?_
      obtain ⟨k1, k2, k3, oe, vs, T, oT, ts', he, hz, hd, h1, hr⟩ := id fl3; unfold PySem.passOn
      refine wpAny_bind (wpAny_field he hd h1 ?_); rw [if_neg (show ¬ ((Value.ref T == Value.none) = true) from by simp)]
      have fin : wpAny (model X.prog X.w) X.A (setFlight (.ref a) X.env.frame) (fun _ s4 => wpAny (model X.prog X.w) X.A (throw (.ref a) : Sem Flow) (SP X pins D) X.xe s4) X.xe { s' with heap := h3 } := by
        rw [hf]; refine HandSPX.setFlight_upZ fl3 fun h4 hh4 up4 => wpAny_throw (tk _ _ ?_)
        exact ⟨a, B, sI, pins, σ', H', cls, d, rfl, J, nb, (up.trans up3).trans up4, .inr (.inr (by rw [hs]; exact hh4)), na, os, ag, w⟩
      first | exact wpAny_bind (wpAny_pure (wpAny_bind fin)) | exact wpAny_bind fin
    | @cons x n c i ts b₀ suite np pos' hds2 l2 hi hln hc hsu r ih =>
      intro w; obtain ⟨b, hb1, hyes, hno⟩ := w
      refine wpAny_handleBy_cons (codeAny_handlers_test ?_) (by intro q; cases q); have LT : PySem.W.Looks (model X.prog X.w) h3 (typeOf (.ref a)) cls := fun A Q E s k q => wpAny_typeOf_ref (k _ _ he3) (by rw [hz3.1]; exact q)
      have LM := PySem.W.exm_one (M := model X.prog X.w) (J3.kIn) LT hb1; have test : ∀ {Q : Value → Shared → Prop} {E : Value → Shared → Prop}, Q c { s' with heap := h3 } → wpAny (model X.prog X.w) (X.A.mark (some (.ref a))) (eval (.Name x np) X.env) Q E { s' with heap := h3 } := fun {Q E} q => by
        obtain ⟨hg, hdbg, hm | ⟨hm, hv, hnn⟩⟩ := hc
        · exact ld_glob (X := X.suite a ((a, oe3) :: (X.pn ++ pins))) S3 hg hm q hdbg
        · exact ld_blt (X := X.suite a ((a, oe3) :: (X.pn ++ pins))) S3 hg hm hv q hnn hdbg
      refine test (LM.here ?_)
      cases b with
      | false => exact ih (hno rfl)
      | true =>
        refine codeAny_handlers_suite_as ?_; refine HandSPX.lands_againZ fl3 fun h4 fl4 up4 => ?_
        have J4 : Inv X pins σ' H' { s' with heap := h4 } := J.landed nb fl4.1 ((up.trans up3).trans up4) os ag; obtain ⟨oe4, vs4, he4, hz4, hd4⟩ := fl4.there
        have S4 := J4.suite he4 hd4 na nL nF
        have hloc : Loc X.env.scope n := .inl hln; refine store_ok (X := X.suite a ((a, oe4) :: (X.pn ++ pins))) (v := .ref a) S4 hN hi hloc rfl (fun s5 S5 => ?_) (.inr hln)
        refine wpAny_mono ((hsu a oe4 cls d (X.pn ++ pins) hz4 ⟨_, hd4⟩).run [] s5 _ H' _ S5 (hyes rfl a na)) (fun f s6 hsp => ?_) (fun _ _ z => False.elim z)
        have end_ : ∀ {σ6 : L2.St} {H6 : Hp} {Q : Shared → Prop}, Inv (X.suite a ((a, oe4) :: (X.pn ++ pins))) [] σ6 H6 s6 → (∀ s7, Inv X pins (σ6.set i none) H6 s7 → Q s7) →
            wpAny (model X.prog X.w) X.A (do bindName X.env n .none; unbindBehindTheSuite X.env n pos') (fun _ s7 => Q s7) X.xe s6 := fun {σ6 H6 Q} S6 hq => gone_ok (S6.unsuite ok) hN hi hln hq
        cases f with
        | next => obtain ⟨σ6, H6, S6, q6⟩ := hsp; exact end_ S6 fun s7 J7 => ⟨_, _, J7, q6⟩
        | brk => obtain ⟨σ6, H6, S6, q6⟩ := hsp; exact end_ S6 fun s7 J7 => ⟨_, _, J7, q6⟩
        | cont => obtain ⟨σ6, H6, S6, q6⟩ := hsp; exact end_ S6 fun s7 J7 => ⟨_, _, J7, q6⟩
        | ret u => obtain ⟨v6, σ6, H6, S6, r6, q6⟩ := hsp; exact end_ S6 fun s7 J7 => ⟨_, _, _, J7, r6, q6⟩
  · cases f with
    | next => obtain ⟨σ', H', J', q⟩ := hsp; exact wpAny_execs_nil ⟨σ', H', J'.ofTry ok, q⟩
    | brk => obtain ⟨σ', H', J', q⟩ := hsp; exact ⟨σ', H', J'.ofTry ok, q⟩
    | cont => obtain ⟨σ', H', J', q⟩ := hsp; exact ⟨σ', H', J'.ofTry ok, q⟩
    | ret u => obtain ⟨v, σ', H', J', r, q⟩ := hsp; exact ⟨v, σ', H', J'.ofTry ok, r, q⟩
/-! ### C(e, .., k = v, ..) within a try, where __init__ may raise -/
def tMakeNS (C : Addr) (n m : Nat) (sp : Sp) (gV : List V → List V → List V) (E : L2.St → XK) (t tk : TA) : TE := fun σ H Q => t σ H fun vs H1 => tk σ H1 fun zs H2 => vs.length = n ∧ zs.length = m ∧ ∀ x dx, H2 x = none → H2 dx = none → dx ≠ x → sp (gV (.ref x :: vs) zs) (upd (upd H2 dx (.own x)) x (.ins C dx [])) (fun v H3 => v = .non ∧ Q (.ref x) H3) (E σ)
theorem pe_makeNS {X : Cx} {CX : CXT} {k n : Nat} {f C : Addr} {fd : FuncData} {ps ks : List Str} {sp : Sp} {x : Str} {p pos : Pos} {e : Expr} {es : List Expr} {kws : List Keyword} {t tk : TA} {g : List Value → List Value → List Value} {gV : List V → List V → List V} {E : L2.St → XK}
    (M : Mk X.K C f) (F : FnOk X.prog X.w X.K X.mg X.base CX k f fd ps sp) (hr : Room (k + 1) X.A) (hg : Gl X x) (hm : X.mg x = some (.ref C)) (hb : KBn X.K fd ps (n + 1) ks g gV) (hx : ∀ σ, PassesAt CX X σ (E σ)) (ha : PA X (e :: es) t) (hkw : PK X kws tk)
    (hall : (backToKw pos (keywordEach kws X.env)).all (fun q => q.1.isSome) = true := by rfl) (hks : (backToKw pos (keywordEach kws X.env)).filterMap (fun q => q.1) = ks := by rfl) (hdb : (x == ("__debug__" : Str)) = false := by decide)
    (he : starEach (e :: es) X.env = (false, eval e X.env) :: starEach es X.env := by rfl) (hpl : ((backTo pos (starEach (e :: es) X.env)).any (fun q => q.1) || (backToKw pos (keywordEach kws X.env)).any (fun q => q.1.isNone)) = false := by rfl) :
    PE X (.Call (.Name x p) (e :: es) kws pos) (tMakeNS C n ks.length sp gV E t tk) := by
  refine ⟨fun pins s σ H Q I h => wpAny_Call_Name_kw (ld_glob I hg hm ?_ hdb)⟩
  refine PySem.W.callWith_KW (h₀ := X.base) I.ok.mod.kin M.kp hall (thn (ha.run pos pins s σ H _ I h) fun us s1 hh => ?_) hpl he
  obtain ⟨vs, H1, I1, r, q⟩ := hh
  refine thn (hkw.run pos pins s1 σ H1 _ I1 q) fun ws s2 hw => ?_
  obtain ⟨zs, H2, I2, rz, l1, l2, q2⟩ := hw
  refine ⟨I2.kIn, ?_⟩
  rw [hks]
  exact run_makeA (fu := fun v => g (v :: us) ws) (fv := fun v => gV (v :: vs) zs) M F hr (fun s' v inn => hb.to s' (v :: us) ws inn (congrArg Nat.succ (r.length.symm.trans l1)) (rz.length.symm.trans l2)) (fun a => hb.rel (.cons rfl r) rz) (hx σ) I2 q2
theorem r_makeNS {C : Addr} {n m : Nat} {sp : Sp} {gV : List V → List V → List V} {E : L2.St → XK} {t tk : TA} {σ : L2.St} {H : Hp} {Q : VK} (h : t σ H fun vs H1 => tk σ H1 fun zs H2 => vs.length = n ∧ zs.length = m ∧ ∀ x dx, H2 x = none → H2 dx = none → dx ≠ x → sp (gV (.ref x :: vs) zs) (upd (upd H2 dx (.own x)) x (.ins C dx [])) (fun v H3 => v = .non ∧ Q (.ref x) H3) (E σ)) : tMakeNS C n m sp gV E t tk σ H Q := h
/-! ### v not in x, x of an own class; is, is not of truths; max of two ints -/
def rNiO (C : Addr) (sp : Sp) (E : XK) : R2 := fun x y H Q => ∃ a dx fs, y = .ref a ∧ H a = some (.ins C dx fs) ∧ sp [y, x] H (fun v H' => ∃ b, v = .bl b ∧ Q (.bl (!b)) H') E
section
variable {X : Cx} {CX : CXT} {k : Nat} {g C : Addr} {fd : FuncData} {ps : List Str} {sp : Sp} {E : XK}
theorem op_niO (hs : PySem.W.findIn X.K (.ref C) "__contains__" = some (some (.ref g))) (hf : PySem.W.isFn X.K (.ref g) = true) (F : FnOk X.prog X.w X.K X.mg X.base CX k g fd ps sp) (hr : Room k X.A) (hb : Binds X.K fd ps []) (hx : Passes CX X E) :
    OpR X (compareOp .NotIn) (rNiO C sp E) := by
  intro pins s σ H x y v u Q I rx ry h
  obtain ⟨a, dx, fs, rfl, ha, q⟩ := h
  cases (show u = Value.ref a from ry)
  obtain ⟨ox, od, J⟩ := inst_at I ha
  obtain ⟨m, hF⟩ := I.fr
  refine PySem.W.notIn_K hF I.ok.mod.kin J hs hf (wpAny_mono (run_fn (ds := []) (dvs := []) (vs := [.ref a, x]) F hr hb .nil hx I (.cons rfl (.cons rx .nil)) (by rw [List.append_nil]; exact q)) (fun w s' z => ?_) fun _ _ e => e)
  obtain ⟨z', H', I', rz, b, rfl, qz⟩ := z
  cases rz
  exact wpAny_truthy_bool ⟨.bl (!b), H', I', rfl, qz⟩
end
section
variable {σ : L2.St} {H : Hp} {Q : VK} {K : PySem.W.Frag}
theorem r_isBl {a b : Bool} (h : Q (.bl (decide (a = b))) H) : rIsB (.bl a) (.bl b) H Q := ⟨a, b, rfl, rfl, h⟩
theorem r_notBl {a b : Bool} (h : Q (.bl (!decide (a = b))) H) : rNotB (.bl a) (.bl b) H Q := ⟨a, b, rfl, rfl, h⟩
def rMax2 : List V → Hp → VK → Prop := fun xs H Q => ∃ i j, xs = [.int i, .int j] ∧ Q (.int (if j > i then j else i)) H
theorem c_max2 {X : Cx} (hc : X.calm = true) : CallR X (.builtin "max") rMax2 := call_max2 hc
theorem r_max2 {i j : Int} (h : ∀ m : Int, i ≤ m → j ≤ m → (m = i ∨ m = j) → m = max i j → Q (.int m) H) : rMax2 [.int i, .int j] H Q := by
  refine ⟨i, j, rfl, h _ ?_ ?_ ?_ ?_⟩
  all_goals split
  all_goals omega
end
/-! ### comprehensions that make a new tuple for each item -/
theorem lc_tups {σ : L2.St} {H : Hp} {Q : VK} {te : TE} {K : PySem.W.Frag} {a : Addr} {xs : List V} {n : Nat} (f : V → List V) (hS : SqL K H a xs) (hz : xs.length ≤ 1000)
    (he : ∀ (x : V) (H' : Hp) (QQ : VK), x ∈ xs → Same H H' → (∀ u H'', H' u = none → H'' u = some (.tup (f x)) → Same H' H'' → QQ (.ref u) H'') → te ((wipe σ [n]).set n (some x)) H' QQ)
    (hq : ∀ D (us : List Addr) H', H D = none → us.length = xs.length → H' D = some (.lst (us.map V.ref)) → (∀ (j : Nat) (u : Addr) (x : V), us[j]? = some u → xs[j]? = some x → H' u = some (.tup (f x))) → Same H H' → Q (.ref D) H') : lcGo (Itl K a) (gName n) tYes te [n] σ Q H := by
  intro D nD
  refine lc_list (K := K) (a := a) (xs := xs) (fun i H' => ∃ us : List Addr, us.length = i ∧ H' D = some (.lst (us.map V.ref)) ∧ (∀ (j : Nat) (u : Addr) (x : V), us[j]? = some u → xs[j]? = some x → H' u = some (.tup (f x))) ∧ Same H H') ⟨[], rfl, upd_same, fun j u x h => (by cases h), same_new nD⟩ (fun i H' _ ⟨_, _, _, _, s⟩ => s.seq hS) ?_ ?_
  · rintro i x H4 hx ⟨us, hl, hD4, hu, s4⟩
    refine ⟨wipe1, ?_⟩
    show te _ _ _
    refine he x H4 _ (List.mem_of_getElem? hx) s4 fun u H5 nu hu5 s5 => ?_
    have hD5 := s5 _ _ hD4
    have hi : i < xs.length := (List.getElem?_eq_some_iff.mp hx).1
    refine ⟨_, hD5, small1000 (by rw [List.length_map, hl]; omega), us ++ [u], by rw [List.length_append, hl]; rfl, by rw [upd_same, List.map_append]; rfl, fun j v y h1 h2 => ?_, fun b o e => (upd_ne (ne_of_none e nD)).trans (s5 _ _ (s4 _ _ e))⟩
    rcases Nat.lt_or_ge j us.length with hj | hj
    · rw [List.getElem?_append_left hj] at h1
      have z := s5 _ _ (hu j v y h1 h2)
      exact (upd_ne (ne_of z hD5 fun q => nomatch q)).trans z
    · rw [List.getElem?_append_right hj] at h1
      cases hk : j - us.length with
      | zero =>
        rw [hk] at h1
        cases h1
        have : j = i := by omega
        rw [this, hx] at h2
        cases h2
        exact (upd_ne (ne_of hu5 hD5 fun q => nomatch q)).trans hu5
      | succ m => rw [hk] at h1; cases h1
  · rintro H4 ⟨us, hl, hD4, hu, s4⟩
    exact hq D us H4 nD hl hD4 hu s4
theorem three_of {α : Type} {us : List α} (h : us.length = 3) : ∃ a b c, us = [a, b, c] := by
  match us, h with
  | [a, b, c], _ => exact ⟨a, b, c, rfl⟩
/-! ### two lists, place by place -/
structure All2 {α β : Type} (P : α → β → Prop) (as : List α) (bs : List β) : Prop where
  len : as.length = bs.length
  at_ : ∀ (j : Nat) (a : α) (b : β), as[j]? = some a → bs[j]? = some b → P a b
theorem All2.nil {α β : Type} {P : α → β → Prop} : All2 P ([] : List α) ([] : List β) := ⟨rfl, fun j a b h => by cases h⟩
theorem All2.imp {α β : Type} {P Q : α → β → Prop} {as : List α} {bs : List β} (h : All2 P as bs) (f : ∀ a b, P a b → Q a b) : All2 Q as bs := ⟨h.len, fun j a b h1 h2 => f a b (h.at_ j a b h1 h2)⟩
theorem All2.snoc {α β : Type} {P : α → β → Prop} {as : List α} {bs : List β} {a : α} {b : β} (h : All2 P as bs) (p : P a b) : All2 P (as ++ [a]) (bs ++ [b]) := by
  refine ⟨by rw [List.length_append, List.length_append, h.len]; rfl, fun j x y h1 h2 => ?_⟩
  rcases Nat.lt_or_ge j as.length with hj | hj
  · rw [List.getElem?_append_left hj] at h1
    rw [List.getElem?_append_left (by rw [← h.len]; exact hj)] at h2
    exact h.at_ j x y h1 h2
  · rw [List.getElem?_append_right hj] at h1
    rw [List.getElem?_append_right (by rw [← h.len]; exact hj), ← h.len] at h2
    cases hz : j - as.length with
    | zero =>
      rw [hz] at h1 h2
      cases h1
      cases h2
      exact p
    | succ n => rw [hz] at h1; cases h1
theorem All2.get {α β : Type} {P : α → β → Prop} {as : List α} {bs : List β} (h : All2 P as bs) {j : Nat} {a : α} (ha : as[j]? = some a) : ∃ b, bs[j]? = some b ∧ P a b := by
  have hj : j < bs.length := by rw [← h.len]; exact (List.getElem?_eq_some_iff.mp ha).1
  exact ⟨bs[j], List.getElem?_eq_getElem hj, h.at_ j a _ ha (List.getElem?_eq_getElem hj)⟩
theorem All2.map {α β : Type} {γ : Type} {P : α → β → Prop} {as : List α} {bs : List β} {f : α → γ} {k : β → γ} (h : All2 P as bs) (e : ∀ a b, P a b → f a = k b) : as.map f = bs.map k := by
  apply List.ext_getElem?
  intro j
  rw [List.getElem?_map, List.getElem?_map]
  cases ha : as[j]? with
  | none =>
    have : bs[j]? = none := by
      rw [List.getElem?_eq_none_iff] at ha ⊢
      rw [← h.len]
      exact ha
    rw [this]
    rfl
  | some a =>
    obtain ⟨b, hb, p⟩ := h.get ha
    rw [hb]
    exact congrArg some (e a b p)
/-- a field of the instance at an address -/
def fldV (H : Hp) (f : Str) : V → V
  | .ref u => match H u with
    | some (.ins _ _ fs) => (fs.lookup f).getD .non
    | _ => .non
  | _ => .non
theorem fld_at {H : Hp} {f : Str} {u C dx : Addr} {fs : List (Str × V)} {v : V} (h : H u = some (.ins C dx fs)) (l : fs.lookup f = some v) : fldV H f (.ref u) = v := by
  simp only [fldV, h]
  rw [l]
  rfl
section
variable {σ : L2.St} {H : Hp} {Q : VK} {K : PySem.W.Frag} {tr : TA} {te : TE} {QA : List V → Hp → Prop}
theorem r_star (h : te σ H fun x H1 => ∃ p xs, x = V.ref p ∧ (SqT K H1 p xs ∨ SqL K H1 p xs) ∧ tr σ H1 fun ys H2 => QA (xs ++ ys) H2) : StX.tStar K te tr σ H QA := h
theorem r_stT {a : Addr} {xs : List V} {F : List V → Prop} (h1 : SqT K H a xs) (h : F xs) : ∃ p xs, V.ref a = .ref p ∧ (SqT K H p xs ∨ SqL K H p xs) ∧ F xs := ⟨a, xs, rfl, .inl h1, h⟩
theorem r_stL {a : Addr} {xs : List V} {F : List V → Prop} (h1 : SqL K H a xs) (h : F xs) : ∃ p xs, V.ref a = .ref p ∧ (SqT K H p xs ∨ SqL K H p xs) ∧ F xs := ⟨a, xs, rfl, .inr h1, h⟩
end
/-! ### dicts by tuples of keys; range as a tuple: readings -/
section
variable {σ : L2.St} {H : Hp} {Q : VK} {K : PySem.W.Frag} {ta tb tc te td ty tv : TE} {D : Ends}
theorem r_dnewT (h : ∀ p, H p = none → Q (.ref p) (upd H p (.dT []))) : tDNewT σ H Q := h
theorem r_dnin (h : ty σ H fun y H1 => td σ H1 fun x H2 => ∃ a o, x = .ref a ∧ DGet H2 a y o ∧ Q (.bl (!o.isSome)) H2) : tDNotIn ty td σ H Q := h
theorem r_dgt (h : td σ H fun x H1 => ty σ H1 fun y H2 => ∃ a v, x = .ref a ∧ DGet H2 a y (some v) ∧ Q v H2) : tDGet td ty σ H Q := h
theorem r_dput (h : tv σ H fun v H1 => td σ H1 fun x H2 => ty σ H2 fun y H3 => ∃ a H4, x = .ref a ∧ DPut H3 a y v H4 ∧ D.nx σ H4) : sDPut td ty tv D σ H := h
theorem r_tupRg (h : ta σ H fun x H1 => ∃ n, x = .int n ∧ RgOk 0 n ∧ ∀ q, H1 q = none → Q (.ref q) (upd H1 q (.tup (rgV 0 n)))) : tTupRg (tRg1 ta) σ H Q := h
theorem r_dinT {d t : Addr} {kvs : List (List Key × V)} {k : List Key} {F : Option V → Prop} (e : H d = some (.dT kvs)) (et : H t = some (.tup (k.map kV))) (h : F (valV kvs k)) : ∃ a o, V.ref d = .ref a ∧ DGet H a (.ref t) o ∧ F o := ⟨d, _, rfl, DGet.t e et, h⟩
theorem r_dgetT {d t : Addr} {kvs : List (List Key × V)} {k : List Key} {v : V} {F : V → Prop} (e : H d = some (.dT kvs)) (et : H t = some (.tup (k.map kV))) (hv : valV kvs k = some v) (h : F v) : ∃ a v, V.ref d = .ref a ∧ DGet H a (.ref t) (some v) ∧ F v := ⟨d, _, rfl, hv ▸ DGet.t e et, h⟩
theorem r_dputT {d t : Addr} {kvs : List (List Key × V)} {k : List Key} {v : V} {F : Hp → Prop} (e : H d = some (.dT kvs)) (et : H t = some (.tup (k.map kV))) (hl : kvs.length ≤ 10000) (h : F (upd H d (.dT (putK kvs k v)))) : ∃ a H4, V.ref d = .ref a ∧ DPut H a (.ref t) v H4 ∧ F H4 := ⟨d, _, rfl, DPut.t e et (by rw [sizeLine_eq]; omega), h⟩
theorem putT_len {kvs : List (List Key × V)} {k : List Key} {v : V} : (putK kvs k v).length ≤ kvs.length + 1 := by
  unfold putK
  split
  · rw [List.length_map]; omega
  · rw [List.length_append]; exact Nat.le_refl _
end
theorem pi_listK {X : Cx} {tg l : Expr} {tl : TE} {K : PySem.W.Frag} (hl : PE X l tl) (hK : X.K = K := by rfl) : PI X tg l (iList K tl) := hK ▸ pi_list hl
/-! ### the matching by prices: a pure form of the search -/
namespace Hg
def fset {α : Type} (f : Nat → α) (i : Nat) (x : α) : Nat → α := fun k => if k = i then x else f k
theorem fset_same {α : Type} {f : Nat → α} {i : Nat} {x : α} : fset f i x i = x := if_pos rfl
theorem fset_ne {α : Type} {f : Nat → α} {i k : Nat} {x : α} (h : k ≠ i) : fset f i x k = f k := if_neg h
end Hg
/-! ### lists by their items' function; a few owned objects -/
open Hg (fset fset_same fset_ne)
def lsF (g : Nat → V) (n : Nat) : List V := (List.range n).map g
theorem lsF_len {g : Nat → V} {n : Nat} : (lsF g n).length = n := by rw [lsF, List.length_map, List.length_range]
theorem lsF_get {g : Nat → V} {n k : Nat} (h : k < n) : (lsF g n)[k]? = some (g k) := by rw [lsF, List.getElem?_map, List.getElem?_range h]; rfl
theorem at_lsF {g : Nat → V} {n k : Nat} (h : k < n) : atI (lsF g n) (k : Int) = some (g k) := atI_nat (lsF_get h)
theorem ixn_lsF {g : Nat → V} {n k : Nat} (h : k < n) : ixN (lsF g n).length (k : Int) = some k := by
  rw [ixn_in (by omega) (by rw [lsF_len]; omega), Int.toNat_natCast]
theorem set_lsF {g : Nat → V} {n k : Nat} {x : V} : (lsF g n).set k x = lsF (fset g k x) n := by
  refine List.ext_getElem? fun i => ?_
  rw [List.getElem?_set, lsF_len]
  by_cases hi : i < n
  · rw [lsF_get hi, lsF_get hi]
    by_cases e : k = i
    · subst e
      rw [if_pos rfl, if_pos hi, fset_same]
    · rw [if_neg e, fset_ne (Ne.symm e)]
  · have h1 : (lsF g n)[i]? = none := List.getElem?_eq_none (by rw [lsF_len]; omega)
    have h2 : (lsF (fset g k x) n)[i]? = none := List.getElem?_eq_none (by rw [lsF_len]; omega)
    rw [h1, h2]
    split
    · split
      · omega
      · rfl
    · rfl
theorem lsF_congr {g g' : Nat → V} {n : Nat} (h : ∀ k, k < n → g k = g' k) : lsF g n = lsF g' n := List.map_congr_left fun k hk => h k (List.mem_range.mp hk)
theorem lsF_rep {v : V} {n : Nat} : (List.replicate n [v]).flatten = lsF (fun _ => v) n := by
  rw [lsF, List.map_const', List.length_range]
  induction n with
  | zero => rfl
  | succ n ih => rw [List.replicate_succ, List.flatten_cons, ih, List.replicate_succ]; rfl
theorem fset_map {α : Type} {f : Nat → α} {i : Nat} {x : α} {k : α → V} : (fset (fun j => k (f j)) i (k x)) = fun j => k (fset f i x j) := by
  funext j
  unfold fset
  split <;> rfl
def intF (f : Nat → Int) (n : Nat) : List V := lsF (fun k => .int (f k)) n
def natF (f : Nat → Nat) (n : Nat) : List V := lsF (fun k => .int (f k : Int)) n
def optV : Option Int → V
  | none => .non
  | some l => .int l
def optF (f : Nat → Option Int) (n : Nat) : List V := lsF (fun k => optV (f k)) n
def boolF (f : Nat → Bool) (n : Nat) : List V := lsF (fun k => .bl (f k)) n
theorem set_intF {f : Nat → Int} {n k : Nat} {x : Int} : (intF f n).set k (.int x) = intF (fset f k x) n := by rw [intF, set_lsF, intF, fset_map (k := V.int)]
theorem set_natF {f : Nat → Nat} {n k : Nat} {x : Nat} : (natF f n).set k (.int (x : Int)) = natF (fset f k x) n := by rw [natF, set_lsF, natF, fset_map (k := fun m : Nat => V.int (m : Int))]
theorem set_optF {f : Nat → Option Int} {n k : Nat} {x : Int} : (optF f n).set k (.int x) = optF (fset f k (some x)) n := by
  rw [optF, set_lsF, optF, ← fset_map (k := optV)]
  rfl
theorem set_boolF {f : Nat → Bool} {n k : Nat} {x : Bool} : (boolF f n).set k (.bl x) = boolF (fset f k x) n := by rw [boolF, set_lsF, boolF, fset_map (k := V.bl)]
structure Hs (l : List (Addr × HO)) (rows : List Addr) (n : Nat) (w : Nat → Nat → Int) (H : Hp) : Prop where
  nd : (l.map (·.1)).Nodup
  at_ : ∀ e ∈ l, H e.1 = some e.2
  len : rows.length = n
  row : ∀ i r, rows[i]? = some r → r ∉ l.map (·.1) ∧ H r = some (.lst (intF (w i) n))
theorem Hs.get {l : List (Addr × HO)} {rows : List Addr} {n : Nat} {w : Nat → Nat → Int} {H : Hp} (h : Hs l rows n w H) (i : Nat) {a : Addr} {o : HO} (e : l[i]? = some (a, o)) : H a = some o := h.at_ _ (List.mem_of_getElem? e)
theorem Hs.put {l : List (Addr × HO)} {rows : List Addr} {n : Nat} {w : Nat → Nat → Int} {H : Hp} (h : Hs l rows n w H) (i : Nat) {a : Addr} {o o' : HO} (e : l[i]? = some (a, o)) : Hs (l.set i (a, o')) rows n w (upd H a o') := by
  have hi : i < l.length := (List.getElem?_eq_some_iff.mp e).1
  have em : (l.set i (a, o')).map (·.1) = l.map (·.1) := by
    rw [List.map_set]
    refine List.ext_getElem? fun j => ?_
    rw [List.getElem?_set]
    split
    · next y =>
      subst y
      rw [List.length_map, if_pos hi, List.getElem?_map, e]
      rfl
    · rfl
  refine ⟨by rw [em]; exact h.nd, fun x hx => ?_, h.len, fun j r hr => ?_⟩
  · obtain ⟨j, hj⟩ := List.getElem?_of_mem hx
    rw [List.getElem?_set] at hj
    split at hj
    · next y =>
      subst y
      cases hj
      exact upd_same
    · next y =>
      have ne : x.1 ≠ a := fun z => y (by
        have e1 : (l.map (·.1))[i]? = some a := by rw [List.getElem?_map, e]; rfl
        have e2 : (l.map (·.1))[j]? = some a := by rw [List.getElem?_map, hj, ← z]; rfl
        have hj' : j < (l.map (·.1)).length := (List.getElem?_eq_some_iff.mp e2).1
        have hi' : i < (l.map (·.1)).length := (List.getElem?_eq_some_iff.mp e1).1
        exact (List.getElem?_inj hi' h.nd).mp (e1.trans e2.symm))
      rw [upd_ne ne]
      exact h.at_ x (List.mem_of_getElem? hj)
  · obtain ⟨h1, h2⟩ := h.row j r hr
    refine ⟨by rw [em]; exact h1, ?_⟩
    rw [upd_ne (fun z => h1 (by rw [z]; exact List.mem_map.mpr ⟨_, List.mem_of_getElem? e, rfl⟩))]
    exact h2
theorem Hs.same {l : List (Addr × HO)} {rows : List Addr} {n : Nat} {w : Nat → Nat → Int} {H H' : Hp} (h : Hs l rows n w H) (s : Same H H') : Hs l rows n w H' := ⟨h.nd, fun e he => s _ _ (h.at_ e he), h.len, fun i r hr => ⟨(h.row i r hr).1, s _ _ (h.row i r hr).2⟩⟩
theorem Hs.push {l : List (Addr × HO)} {rows : List Addr} {n : Nat} {w : Nat → Nat → Int} {H H' : Hp} {a : Addr} {o : HO} (h : Hs l rows n w H) (na : H a = none) (s : Same H H') (ha : H' a = some o) : Hs (l ++ [(a, o)]) rows n w H' := by
  have nin : a ∉ l.map (·.1) := fun z => by
    obtain ⟨e, he, q⟩ := List.mem_map.mp z
    have y := h.at_ e he
    rw [q, na] at y
    cases y
  refine ⟨?_, fun e he => ?_, h.len, fun i r hr => ?_⟩
  · rw [List.map_append, List.nodup_append]
    exact ⟨h.nd, List.nodup_cons.mpr ⟨List.not_mem_nil, List.nodup_nil⟩, fun x hx y hy z => nin (by have q : y = a := List.mem_singleton.mp hy; rw [← q, ← z]; exact hx)⟩
  · rcases List.mem_append.mp he with z | z
    · exact s _ _ (h.at_ e z)
    · rw [List.mem_singleton.mp z]; exact ha
  · obtain ⟨h1, h2⟩ := h.row i r hr
    refine ⟨fun z => ?_, s _ _ h2⟩
    rw [List.map_append] at z
    rcases List.mem_append.mp z with y | y
    · exact h1 y
    · have q : r = a := List.mem_singleton.mp y
      rw [q, na] at h2
      cases h2
theorem r_lenR {H : Hp} {Q : VK} {K : PySem.W.Frag} {p : Addr} {as : List Addr} (h1 : H p = some (.lst (as.map V.ref))) (h : Q (.int as.length) H) : rLenL K [.ref p] H Q := ⟨p, _, rfl, .inl (.inl (.inl h1)), by rw [List.length_map]; exact h⟩
theorem r_rep {H : Hp} {Q : VK} {a : Addr} {v : V} {k : Nat} (ha : H a = some (.lst [v])) (hk : k ≤ 1000) (h : ∀ p, H p = none → Q (.ref p) (upd H p (.lst (lsF (fun _ => v) k)))) : rRep (.ref a) (.int (k : Int)) H Q := by
  refine ⟨a, k, [v], rfl, rfl, ha, by omega, by omega, ?_, fun p hp => ?_⟩
  · rw [Int.toNat_natCast, List.length_singleton, Nat.one_mul]
    exact Nat.le_of_lt (small1000 hk)
  · rw [Int.toNat_natCast, lsF_rep]
    exact h p hp
theorem r_while {c : TT} {tb : TS} {D : Ends} {σ : L2.St} {H : Hp} (Pv : Nat → L2.St → Hp → Prop) (h0 : ∃ m, Pv m σ H)
    (hs : ∀ m σ H, Pv m σ H → c σ H fun b H1 => if b = true then ∃ N : L2.St → Hp → Prop, (∀ σ' H', N σ' H' → ∃ m', m' < m ∧ Pv m' σ' H') ∧ tb { D with nx := N, ct := N, bk := D.nx } σ H1 else D.nx σ H1) : tWhile c tb D σ H := ⟨Pv, h0, hs⟩
/-! ### comprehensions that make a new list for each item -/
theorem lc_lsts {σ : L2.St} {H : Hp} {Q : VK} {te : TE} {K : PySem.W.Frag} {a : Addr} {xs : List V} {n : Nat} (f : V → List V) (hS : SqL K H a xs) (hz : xs.length ≤ 1000)
    (he : ∀ (x : V) (H' : Hp) (QQ : VK), x ∈ xs → Same H H' → (∀ u, H' u = none → QQ (.ref u) (upd H' u (.lst (f x)))) → te ((wipe σ [n]).set n (some x)) H' QQ)
    (hq : ∀ D (us : List Addr) H', H D = none → us.length = xs.length → us.Nodup → (∀ u ∈ us, H u = none ∧ u ≠ D) → H' D = some (.lst (us.map V.ref)) → (∀ (j : Nat) (u : Addr) (x : V), us[j]? = some u → xs[j]? = some x → H' u = some (.lst (f x))) → Same H H' → Q (.ref D) H') : lcGo (Itl K a) (gName n) tYes te [n] σ Q H := by
  intro D nD
  refine lc_list (K := K) (a := a) (xs := xs) (fun i H' => ∃ us : List Addr, us.length = i ∧ us.Nodup ∧ (∀ u ∈ us, H u = none ∧ u ≠ D) ∧ H' D = some (.lst (us.map V.ref)) ∧ (∀ (j : Nat) (u : Addr) (x : V), us[j]? = some u → xs[j]? = some x → H' u = some (.lst (f x))) ∧ Same H H') ⟨[], rfl, List.nodup_nil, fun u h => (by cases h), upd_same, fun j u x h => (by cases h), same_new nD⟩ (fun i H' _ ⟨_, _, _, _, _, _, s⟩ => s.seq hS) ?_ ?_
  · rintro i x H4 hx ⟨us, hl, hnd, hf, hD4, hu, s4⟩
    refine ⟨wipe1, ?_⟩
    show te _ _ _
    refine he x H4 _ (List.mem_of_getElem? hx) s4 fun u nu => ?_
    have uD : D ≠ u := ne_of_none hD4 nu
    have hD5 : (upd H4 u (.lst (f x))) D = some (.lst (us.map V.ref)) := (upd_ne uD).trans hD4
    have hi : i < xs.length := (List.getElem?_eq_some_iff.mp hx).1
    have nin : u ∉ us := fun hm => by
      obtain ⟨j, hj⟩ := List.getElem?_of_mem hm
      have hj' : j < us.length := (List.getElem?_eq_some_iff.mp hj).1
      have z := hu j u _ hj (List.getElem?_eq_getElem (show j < xs.length by omega))
      rw [nu] at z
      cases z
    refine ⟨_, hD5, small1000 (by rw [List.length_map, hl]; omega), us ++ [u], by rw [List.length_append, hl]; rfl, ?_, ?_, by rw [upd_same, List.map_append]; rfl, fun j v y h1 h2 => ?_, fun b o e => (upd_ne (ne_of_none e nD)).trans ((upd_ne (ne_of_none (s4 _ _ e) nu)).trans (s4 _ _ e))⟩
    · rw [List.nodup_append]
      exact ⟨hnd, (List.nodup_cons.mpr ⟨List.not_mem_nil, List.nodup_nil⟩), fun b hb c hc e => nin (by rw [← List.mem_singleton.mp hc, ← e]; exact hb)⟩
    · intro v hv
      rcases List.mem_append.mp hv with z | z
      · exact hf v z
      · rw [List.mem_singleton.mp z]
        exact ⟨s4.free nu, uD.symm⟩
    rcases Nat.lt_or_ge j us.length with hj | hj
    · rw [List.getElem?_append_left hj] at h1
      have z := hu j v y h1 h2
      have vm := List.mem_of_getElem? h1
      rw [upd_ne (hf v vm).2, upd_ne (ne_of_none z nu)]
      exact z
    · rw [List.getElem?_append_right hj] at h1
      cases hk : j - us.length with
      | zero =>
        rw [hk] at h1
        cases h1
        have : j = i := by omega
        rw [this, hx] at h2
        cases h2
        rw [upd_ne uD.symm]
        exact upd_same
      | succ m => rw [hk] at h1; cases h1
  · rintro H4 ⟨us, hl, hnd, hf, hD4, hu, s4⟩
    exact hq D us H4 nD hl hnd hf hD4 hu s4
/-- the items of the list or tuple at an address -/
def itemsOf (H : Hp) : V → List V
  | .ref u => match H u with
    | some (.lst xs) => xs
    | some (.tup xs) => xs
    | _ => []
  | _ => []
theorem items_tup {H : Hp} {u : Addr} {xs : List V} (h : H u = some (.tup xs)) : itemsOf H (.ref u) = xs := by simp only [itemsOf, h]
theorem items_lst {H : Hp} {u : Addr} {xs : List V} (h : H u = some (.lst xs)) : itemsOf H (.ref u) = xs := by simp only [itemsOf, h]
theorem lsF_succ {f : Nat → V} {n : Nat} : lsF f (n + 1) = lsF f n ++ [f n] := by rw [lsF, List.range_succ, List.map_append]; rfl
theorem lc_enum {σ : L2.St} {H : Hp} {Q : VK} {te : TE} {K : PySem.W.Frag} {a : Addr} {xs : List V} {n1 n2 : Nat} (f : Nat → V) (hS : SqL K H a xs) (hz : xs.length ≤ 1000) (hw : ∀ x y, wipe (((wipe σ [n1, n2]).set n1 (some x)).set n2 (some y)) [n1, n2] = wipe σ [n1, n2])
    (he : ∀ (i : Nat) (x : V) (H' : Hp) (QQ : VK), xs[i]? = some x → Same H H' → QQ (f i) H' → te (((wipe σ [n1, n2]).set n1 (some (.int (i : Int)))).set n2 (some x)) H' QQ)
    (hq : ∀ D H', H D = none → Same H H' → H' D = some (.lst (lsF f xs.length)) → Q (.ref D) H') : lcGo (Ite K a) (gTup K 2 (gCons (gName n1) (gCons (gName n2) gNil))) tYes te [n1, n2] σ Q H := by
  intro D nD
  refine lc_it (walk_enum (K := K) (a := a) (xs := xs)) (fun i H' => H' D = some (.lst (lsF f i)) ∧ Same H H') ⟨upd_same, same_new nD⟩ (fun i H' _ ⟨_, s⟩ => s.seq hS) ?_ ?_
  · rintro i v H1 H2 hi ⟨h1, s1⟩ ⟨T, x, y, rfl, nT, rfl, hx, hy⟩
    cases hx
    refine r_gtup (SqT.of upd_same) rfl ?_
    refine ⟨_, _, rfl, ?_⟩
    show gCons (gName n2) gNil _ _ _ _
    refine ⟨_, _, rfl, ?_⟩
    unfold gName
    refine ⟨rfl, hw _ _, ?_⟩
    show te _ _ _
    have hD : (upd H1 T (.tup [.int (i : Int), y])) D = some (.lst (lsF f i)) := (upd_ne (ne_of_none h1 nT)).trans h1
    refine he i y _ _ hy (s1.trans (same_new nT)) ⟨_, hD, small1000 (by rw [lsF_len]; omega), by rw [upd_same, lsF_succ], fun b o e => (upd_ne (ne_of_none e nD)).trans ((upd_ne (ne_of_none (s1 _ _ e) nT)).trans (s1 _ _ e))⟩
  · rintro H1 ⟨h1, s1⟩
    exact hq D H1 nD s1 h1
/-! ### o.m(e, ..) of an own method that may raise, within a try -/
def tMethT (C : Addr) (m : Str) (sp : Sp) (E : L2.St → XK) (ta : TE) (t : TA) : TE := fun σ H Q => ta σ H fun x H1 => ∃ a dx fs, x = .ref a ∧ H1 a = some (.ins C dx fs) ∧ fs.lookup m = none ∧ t σ H1 fun vs H2 => sp (x :: vs) H2 Q (E σ)
section
variable {X : Cx} {CX : CXT} {k : Nat} {f C : Addr} {fd : FuncData} {ps : List Str} {sp : Sp} {m : Str} {pos apos : Pos} {e o : Expr} {es : List Expr} {ta : TE} {t : TA}
theorem pe_methT {E : L2.St → XK} {pl : Sem Bool} (he : PE X o ta) (c : Cls X.K C) (hm : Meth X.K C m f) (F : FnOk X.prog X.w X.K X.mg X.base CX k f fd ps sp) (hr : Room k X.A) (hb : Binds X.K fd ps []) (hx : ∀ σ, PassesAt CX X σ (E σ)) (ha : PA X (e :: es) t)
    (hst : starEach (e :: es) X.env = (false, eval e X.env) :: starEach es X.env := by rfl) (hpl : (backTo pos (starEach es X.env)).any (fun q => q.1) = false := by rfl)
    (ht : eval (.Call (.Attribute o m apos) (e :: es) [] pos) X.env = (eval o X.env >>= fun ov => standAt apos.atName >>= fun _ => holding [ov] (getMethod ov m pl) >>= fun q => callWith pos q.1 q.2 (backTo pos (starEach (e :: es) X.env)) (backToKw pos (keywordEach [] X.env))) := by rfl) :
    PE X (.Call (.Attribute o m apos) (e :: es) [] pos) (tMethT C m sp E ta t) := by
  refine ⟨fun pins s σ H Q I h => PySem.W.methodCall_KW (pl := pl) (thn (he.run pins s σ H _ I h) fun u s1 w1 => ?_) ht⟩
  obtain ⟨x, H1, I1, rx, a, dx, fs, rfl, ea, l, q⟩ := w1
  cases (show u = Value.ref a from rx)
  refine getmeth_ok I1 ea c hm l (PySem.W.callWith_K (first := [.ref a]) (h₀ := X.base) I.ok.mod.kin hm.kp (thn (ha.run pos pins s1 σ H1 _ I1 q) fun us s2 w2 => ?_) hst hpl)
  obtain ⟨vs, H2, I2, r, q2⟩ := w2
  have two : Vals (V.ref a :: vs) (Value.ref a :: us) := .cons rfl r
  exact ⟨I2.kIn, run_fnS F hr hb (hx σ) I2 two q2⟩
end
theorem r_methT {σ : L2.St} {H : Hp} {Q : VK} {C : Addr} {m : Str} {sp : Sp} {E : L2.St → XK} {ta : TE} {t : TA} (h : ta σ H fun x H1 => ∃ a dx fs, x = .ref a ∧ H1 a = some (.ins C dx fs) ∧ fs.lookup m = none ∧ t σ H1 fun vs H2 => sp (x :: vs) H2 Q (E σ)) : tMethT C m sp E ta t σ H Q := h
theorem vals_rev : ∀ {vs : List V} {us : List Value}, Vals vs us → Vals vs.reverse us.reverse
  | [], _, r => by cases r; exact .nil
  | v :: vs, _, r => by
    cases r with
    | cons h t =>
      rw [List.reverse_cons, List.reverse_cons]
      exact (vals_rev t).append (.cons h .nil)
theorem r_dget {σ : L2.St} {H : Hp} {Q : VK} {td ty : TE} (h : td σ H fun x H1 => ty σ H1 fun y H2 => ∃ a v, x = .ref a ∧ DGet H2 a y (some v) ∧ Q v H2) : tDGet td ty σ H Q := h
theorem r_enum {σ : L2.St} {H : Hp} {K : PySem.W.Frag} {ta : TA} {R : It → Hp → Prop} (h : ta σ H fun vs H1 => ∃ a xs, vs = [.ref a] ∧ SqL K H1 a xs ∧ R (Ite K a) H1) : iEnum K ta σ H R := h
theorem r_iks {σ : L2.St} {H : Hp} {td : TE} {R : It → Hp → Prop} (h : td σ H fun x H1 => ∃ d o, x = .ref d ∧ ((∃ kvs, H1 d = some (.frz o (.dK kvs)) ∧ R (Itk d o kvs) H1) ∨ ∃ kvs, H1 d = some (.frz o (.dT kvs)) ∧ R (Itkt d o kvs) H1)) : iKeys td σ H R := h
theorem r_revL {σ : L2.St} {H : Hp} {Q : VK} {K : PySem.W.Frag} {te : TE} (h : te σ H fun x H1 => ∃ a xs, x = .ref a ∧ SqL K H1 a xs ∧ ∀ p, H1 p = none → Q (.ref p) (upd H1 p (.lst xs.reverse))) : tRevL K te σ H Q := h
theorem r_bm0 {σ : L2.St} {H : Hp} {Q : VK} {K : PySem.W.Frag} {T : String} {r : V → List V → Hp → VK → Prop} {to : TE} (h : to σ H fun x H1 => tyV K T x H1 ∧ r x [] H1 Q) : tBM0 K T r to σ H Q := h
theorem kit_self {K : PySem.W.Frag} {v : Value} : PySem.W.kitOne K v v = some true := by
  unfold PySem.W.kitOne
  rw [if_pos (beq_self_eq_true v)]
/-! ### x op= y, own classes: by their own __op__ where they have no __iop__; x op i, i an int -/
section
open PySem.W
variable {prog : Program} {w : World} {M : Model} {A : Around} {E : Value → Shared → Prop} {s : Shared} {K : PySem.W.Frag} {x C f : Addr} {ox : Obj} {od : Option Obj} {b : Value} {nm T : String}
/-- what the class says of in-place operators -/
def noI (K : PySem.W.Frag) (C : Addr) (nm : String) : Bool := (match PySem.W.clsIn K C with
  | some cd => decide (cd.mro = [.ref C, .type "object"])
  | none => false) && (decide (PySem.W.findIn K (.ref C) (dunderI nm) = some none) && decide (PySem.W.findIn K (.type "object") (dunderI nm) = some none))
theorem noSlot_I {h : Heap} {add : Bool} (X : K.In h) (e : noI K C nm = true) : PySem.W.Looks M h (fillsInplaceSlot (.ref C) nm add) false := by
  unfold noI at e
  obtain ⟨e1, e2⟩ := Bool.and_eq_true_iff.mp e
  obtain ⟨e2, e3⟩ := Bool.and_eq_true_iff.mp e2
  have hs := of_decide_eq_true e2
  have ho := of_decide_eq_true e3
  split at e1
  · next cd hc =>
    have hm := of_decide_eq_true e1
    intro A Q E s k q
    have Lm : PySem.W.Looks M h (mroOf (.ref C)) cd.mro := (PySem.W.looks_clsIn X hc).andThen (f := fun cd => pure cd.mro) .now
    have Lm' := Lm.keeps k
    obtain ⟨hh, g, d, tt, os⟩ := s
    have X' : K.In hh := X.keeps k
    have L1 : PySem.W.Looks M hh (typeLookup (.ref C) (dunderI nm)) none := PySem.W.looks_findIn X' hs
    have L2 : PySem.W.Looks M hh (typeLookup (.type "object") (dunderI nm)) none := PySem.W.looks_findIn X' ho
    unfold fillsInplaceSlot
    refine wpAny_bind (Lm'.at ?_)
    rw [hm, List.anyM_cons, List.anyM_cons, List.anyM_nil]
    repeat lk
    exact q
  · cases e1
theorem bin1_own {Q : Value → Shared → Prop} (X : K.In s.heap) (I : PySem.W.InstAt s.heap x ox C od) (hb : PySem.W.Looks (model prog w) s.heap (typeOf b) (.ref C)) (hc : PySem.W.selfFirst K C = true)
    (hs : PySem.W.findIn K (.ref C) (PySem.dunder nm) = some (some (.ref f))) (hf : PySem.W.isFn K (.ref f) = true)
    (h : wpAny (model prog w) A (call (.ref f) [.ref x, b]) (PySem.W.CmpBack Q) E s) : wpAny (model prog w) A (binaryOp1 nm (.ref x) b) (fun r s' => ∃ v, r = some v ∧ Q v s') E s := by
  obtain ⟨cd, rest, hcd, hm⟩ := PySem.W.ksp_first hc
  unfold binaryOp1
  refine wpAny_bind (I.type.here (wpAny_bind (hb.here (wpAny_bind ((PySem.W.fills_K X hcd hm hs).here ?_)))))
  simp only [beq_self_eq_true, if_true]
  refine wpAny_bind (wpAny_pure ?_)
  simp only [Bool.and_false, Bool.false_eq_true, if_false, Bool.false_and]
  refine wpAny_bind (wpAny_pure ?_)
  simp only [Bool.false_eq_true, if_false]
  refine wpAny_bind (m := tryMethod (.ref x) _ b) ?_
  unfold tryMethod
  refine wpAny_bind (special_fn X I hs (beq_iff_eq.mp hf) (wpAny_mono h (fun v s' hv => ?_) fun _ _ e => e))
  cases v <;> first | exact hv.elim | exact wpAny_pure (wpAny_pure ⟨_, rfl, hv⟩)
theorem iop_own {op : Operator} {Q : Value → Shared → Prop} (X : K.In s.heap) (I : PySem.W.InstAt s.heap x ox C od) (hn : noI K C op.info.2 = true)
    (h : wpAny (model prog w) A (binaryOp1 op.info.2 (.ref x) b) (fun r s' => ∃ v, r = some v ∧ Q v s') E s) : wpAny (model prog w) A (inplaceOp op (.ref x) b) Q E s := by
  unfold inplaceOp
  refine wpAny_holding (wpAny_bind (I.type.here (wpAny_bind ((noSlot_I X hn).here ?_))))
  simp only [Bool.false_eq_true, if_false]
  refine wpAny_bind (wpAny_mono h (fun r s' hr => ?_) fun _ _ e => e)
  obtain ⟨v, rfl, q⟩ := hr
  exact wpAny_pure q
end
section
open PySem.W
variable {prog : Program} {w : World} {M : Model} {A : Around} {E : Value → Shared → Prop} {s : Shared} {K : PySem.W.Frag} {x C f : Addr} {ox : Obj} {od : Option Obj} {b : Value} {nm T : String}
/-- what the class says of an operator against a plain type: its own def, its reflected one (or none), the type's two, that the type is not below the class -/
def binTB (K : PySem.W.Frag) (C : Addr) (nm T : String) : Bool := (match PySem.W.findIn K (.ref C) (dunderR nm) with
  | some none => true
  | some (some (.ref _)) => true
  | _ => false) && ((PySem.W.findIn K (.type T) (PySem.dunder nm)).isSome && ((PySem.W.findIn K (.type T) (dunderR nm)).isSome && decide (PySem.W.subIn K (.type T) (.ref C) = some false)))
theorem bin1_T {Q : Value → Shared → Prop} (X : K.In s.heap) (I : PySem.W.InstAt s.heap x ox C od) (hb : typeOf b = pure (.type T)) (hc : PySem.W.selfFirst K C = true)
    (hs : PySem.W.findIn K (.ref C) (PySem.dunder nm) = some (some (.ref f))) (hf : PySem.W.isFn K (.ref f) = true) (e : binTB K C nm T = true)
    (h : wpAny (model prog w) A (call (.ref f) [.ref x, b]) (PySem.W.CmpBack Q) E s) : wpAny (model prog w) A (binaryOp1 nm (.ref x) b) (fun r s' => ∃ v, r = some v ∧ Q v s') E s := by
  unfold binTB at e
  obtain ⟨e0, e⟩ := Bool.and_eq_true_iff.mp e
  obtain ⟨e1, e⟩ := Bool.and_eq_true_iff.mp e
  obtain ⟨e2, e3⟩ := Bool.and_eq_true_iff.mp e
  have hsub := of_decide_eq_true e3
  obtain ⟨fo, h1⟩ := Option.isSome_iff_exists.mp e1
  obtain ⟨ro, h2⟩ := Option.isSome_iff_exists.mp e2
  obtain ⟨rc, hr, hp⟩ : ∃ rc, PySem.W.findIn K (.ref C) (dunderR nm) = some rc ∧ (rc = none ∨ ∃ g : Addr, rc = some (.ref g)) := by
    split at e0
    · next e => exact ⟨_, e, .inl rfl⟩
    · next g e => exact ⟨_, e, .inr ⟨g, rfl⟩⟩
    · cases e0
  obtain ⟨cd, rest, hcd, hm⟩ := PySem.W.ksp_first hc
  have one := PySem.W.ksp_try X I hs hf h
  obtain ⟨hh, g, d, tt, os⟩ := s
  have L1 : PySem.W.Looks (model prog w) hh (typeOf (.ref x)) (.ref C) := I.type
  have L2 : PySem.W.Looks (model prog w) hh (typeOf b) (.type T) := PySem.W.Looks.of_pure hb
  have L3 : PySem.W.Looks (model prog w) hh (fillsNumberSlot (.ref C) nm) true := PySem.W.fills_K X hcd hm hs
  have L4 : PySem.W.Looks (model prog w) hh (fillsNumberSlot (.type T) nm) ((fo.isSome && !isSeqSlot fo) || (ro.isSome && !isSeqSlot ro)) := PySem.W.ksp_fillsT X h1 h2
  have L5 : PySem.W.Looks (model prog w) hh (isSubtype (.type T) (.ref C)) false := PySem.W.looks_subIn X hsub
  have L6 : PySem.W.Looks (model prog w) hh (numberSlotInPython (.ref C) nm) true := PySem.W.ksp_inPy X hs hr hp
  have L7 : PySem.W.Looks (model prog w) hh (numberSlotInPython (.type T) nm) false := PySem.W.Looks.of_pure rfl
  have L8 : PySem.W.Looks (model prog w) hh (typeLookup (.type T) (dunderR nm)) ro := PySem.W.looks_findIn X h2
  generalize ((fo.isSome && !isSeqSlot fo) || (ro.isSome && !isSeqSlot ro)) = right at L4
  have hne : (Value.ref C == Value.type T) = false := Bool.eq_false_iff.mpr fun q => by cases beq_iff_eq.mp q
  unfold binaryOp1
  refine wpAny_bind (L1.at (wpAny_bind (L2.at (wpAny_bind (L3.at ?_)))))
  simp only [hne, Bool.false_eq_true, if_false]
  cases right with
  | false =>
    ksp_lk
    refine wpAny_mono one (fun r s' hr' => ?_) fun _ _ e => e
    obtain ⟨v, rfl, hq⟩ := hr'
    ksp_lk
    exact ⟨_, rfl, hq⟩
  | true =>
    ksp_lk
    refine wpAny_mono one (fun r s' hr' => ?_) fun _ _ e => e
    obtain ⟨v, rfl, hq⟩ := hr'
    ksp_lk
    exact ⟨_, rfl, hq⟩
theorem bin_of1 {op : Operator} {a : Value} {Q : Value → Shared → Prop} (h : wpAny (model prog w) A (binaryOp1 op.info.2 a b) (fun r s' => ∃ v, r = some v ∧ Q v s') E s) : wpAny (model prog w) A (binaryOp op a b) Q E s := by
  unfold binaryOp
  refine wpAny_holding (wpAny_bind (wpAny_mono h (fun r s' hr => ?_) fun _ _ e => e))
  obtain ⟨v, rfl, q⟩ := hr
  exact wpAny_pure q
end
section
variable {X : Cx} {CX : CXT} {k : Nat} {g C : Addr} {fd : FuncData} {ps : List Str} {sp : Sp} {E : XK}
theorem ip_binO {op : Operator} (hn : noI X.K C op.info.2 = true) (hc : PySem.W.selfFirst X.K C = true) (hs : PySem.W.findIn X.K (.ref C) (PySem.dunder op.info.2) = some (some (.ref g))) (hf : PySem.W.isFn X.K (.ref g) = true) (F : FnOk X.prog X.w X.K X.mg X.base CX k g fd ps sp) (hr : Room k X.A) (hb : Binds X.K fd ps []) (hx : Passes CX X E) :
    PIp X op (rAddO C sp E) := by
  intro pins s σ H x y v u Q I rx ry h
  obtain ⟨a, dx, fs, b, dy, gs, rfl, rfl, ha, hb', q⟩ := h
  cases (show v = Value.ref a from rx)
  cases (show u = Value.ref b from ry)
  obtain ⟨ox, od, J⟩ := inst_at I ha
  obtain ⟨oy, oe, J'⟩ := inst_at I hb'
  refine iop_own I.kIn J hn (bin1_own I.kIn J J'.type hc hs hf ?_)
  refine wpAny_mono (run_fn (ds := []) (dvs := []) (vs := [.ref a, .ref b]) F hr hb .nil hx I (.cons rfl (.cons rfl .nil)) (by rw [List.append_nil]; exact q)) (fun w s' z => ?_) fun _ _ e => e
  obtain ⟨z', H', I', rz, qz⟩ := z
  exact cmpb rz ⟨z', H', I', rz, qz⟩
/-- x op i, i an int -/
def rMulI (C : Addr) (sp : Sp) (E : XK) : R2 := fun x y H Q => ∃ a dx fs i, x = .ref a ∧ y = .int i ∧ H a = some (.ins C dx fs) ∧ sp [x, y] H Q E
theorem bin1_I {op : Operator} (hT : binTB X.K C op.info.2 "int" = true) (hc : PySem.W.selfFirst X.K C = true) (hs : PySem.W.findIn X.K (.ref C) (PySem.dunder op.info.2) = some (some (.ref g))) (hf : PySem.W.isFn X.K (.ref g) = true) (F : FnOk X.prog X.w X.K X.mg X.base CX k g fd ps sp) (hr : Room k X.A) (hb : Binds X.K fd ps []) (hx : Passes CX X E)
    {pins : List (Addr × Obj)} {s : Shared} {σ : L2.St} {H : Hp} {a dx : Addr} {fs : List (Str × V)} {i : Int} {t : Tok} {Q : VK} (I : Inv X pins σ H s) (ha : H a = some (.ins C dx fs)) (q : sp [.ref a, .int i] H Q E) :
    wpAny (model X.prog X.w) X.A (binaryOp1 op.info.2 (.ref a) (.int i t)) (fun r s' => ∃ v, r = some v ∧ EP X pins σ Q v s') X.xe s := by
  obtain ⟨ox, od, J⟩ := inst_at I ha
  refine bin1_T I.kIn J rfl hc hs hf hT ?_
  refine wpAny_mono (run_fn (ds := []) (dvs := []) (vs := [.ref a, .int i]) F hr hb .nil hx I (.cons rfl (.cons ⟨t, rfl⟩ .nil)) (by rw [List.append_nil]; exact q)) (fun w s' z => ?_) fun _ _ e => e
  obtain ⟨z', H', I', rz, qz⟩ := z
  exact cmpb rz ⟨z', H', I', rz, qz⟩
theorem op_binI {op : Operator} (hT : binTB X.K C op.info.2 "int" = true) (hc : PySem.W.selfFirst X.K C = true) (hs : PySem.W.findIn X.K (.ref C) (PySem.dunder op.info.2) = some (some (.ref g))) (hf : PySem.W.isFn X.K (.ref g) = true) (F : FnOk X.prog X.w X.K X.mg X.base CX k g fd ps sp) (hr : Room k X.A) (hb : Binds X.K fd ps []) (hx : Passes CX X E) :
    OpR X (binaryOp op) (rMulI C sp E) := by
  intro pins s σ H x y v u Q I rx ry h
  obtain ⟨a, dx, fs, i, rfl, rfl, ha, q⟩ := h
  cases (show v = Value.ref a from rx)
  obtain ⟨t, rfl⟩ := (show ∃ t, u = Value.int i t from ry)
  exact bin_of1 (bin1_I hT hc hs hf F hr hb hx I ha q)
theorem ip_binI {op : Operator} (hn : noI X.K C op.info.2 = true) (hT : binTB X.K C op.info.2 "int" = true) (hc : PySem.W.selfFirst X.K C = true) (hs : PySem.W.findIn X.K (.ref C) (PySem.dunder op.info.2) = some (some (.ref g))) (hf : PySem.W.isFn X.K (.ref g) = true) (F : FnOk X.prog X.w X.K X.mg X.base CX k g fd ps sp) (hr : Room k X.A) (hb : Binds X.K fd ps []) (hx : Passes CX X E) :
    PIp X op (rMulI C sp E) := by
  intro pins s σ H x y v u Q I rx ry h
  obtain ⟨a, dx, fs, i, rfl, rfl, ha, q⟩ := h
  cases (show v = Value.ref a from rx)
  obtain ⟨t, rfl⟩ := (show ∃ t, u = Value.int i t from ry)
  obtain ⟨ox, od, J⟩ := inst_at I ha
  exact iop_own I.kIn J hn (bin1_I hT hc hs hf F hr hb hx I ha q)
end
/-! ### bool(x), x of an own class with __bool__ -/
section
open PySem.W
variable {prog : Program} {w : World} {A : Around} {E : Value → Shared → Prop} {s : Shared}
theorem bool_of {x : Value} {Q : Value → Shared → Prop} (h : wpAny (model prog w) A.in1.in1 (truthy x) (fun b s' => Q (.bool b) s') E s) : wpAny (model prog w) A (call (.type "bool") [x]) Q E s := by
  have ft := F.called_bool
  obtain ⟨c, tl, hmro⟩ := ft.mro
  have hmade := ft.made
  have hsub := ft.sub
  have hct := F.typeCall_bool_1 x
  refine wpAny_call (codeAny_of_tree ?_)
  show wpAny _ _ (callAny (.type "bool") _) _ _ _
  refine wpAny_pure ⟨Code.quiet_builtin _ (by decide +kernel), codeAny_builtin F.entry_type_call ?_⟩
  rw [Around.under_plain (weight_type_call_type "bool" [x] []) (units_type_call_type "bool" [x] [])]
  have h1 := ft.notType
  have h2 := ft.canCreate
  repeat (any_goals (first | assumption | wp_step))
  refine codeAny_mono (R := wants (fun obj s₁ => s₁.TypeIs obj "bool" ∧ Q obj s₁) E) (codeAny_call_builtin ft.plain F.entry_bool_new (wpAny_of_eq (F.newCall_bool_1 x) ?_)) fun r s₁ hr => ?_
  · unfold Builtin.«bool.__new__»
    have f1 := F.conv_sub_bool
    repeat (any_goals (first | assumption | (with_reducible refine wpAny_bind (m := truthy _) (wpAny_mono h (fun b s' q => ?_) fun _ _ e => e)) | wp_step))
    all_goals first | exact ⟨rfl, q⟩ | skip
  cases r with
  | error e => exact hr
  | ok fl =>
    cases fl with
    | ret obj =>
      obtain ⟨hT, hq⟩ := hr
      have hok := F.args_object_init_2 obj x
      have hli := ft.init.lookup
      have hbi := ft.init.bind obj
      repeat (any_goals (first | assumption | wp_step))
      refine codeAny_mono (codeAny_call_builtin ft.init.plain F.entry_object_init (ft.init.check _ _ _ _ _ _ _ _ hT hok (object_init_meets ft.init.lookup ft.made F.newNe_bool prog w A.in1 (wants (fun r s₂ => r = .none ∧ Q obj s₂) E) s₁ ⟨hT, rfl, hq⟩))) fun r₂ s₂ hr₂ => ?_
      cases r₂ with
      | error e => exact hr₂
      | ok fl₂ =>
        cases fl₂ with
        | ret r =>
          obtain ⟨rfl, hq⟩ := hr₂
          repeat (any_goals (first | assumption | wp_step))
        | _ => exact hr₂.elim
    | _ => exact hr.elim
end
section
open PySem.W
variable {M : Model} {A : Around} {E : Value → Shared → Prop} {s : Shared} {K : PySem.W.Frag} {x C f : Addr} {ox : Obj} {od : Option Obj}
theorem truthy_own {Q : Bool → Shared → Prop} (X : K.In s.heap) (I : PySem.W.InstAt s.heap x ox C od) (hs : PySem.W.findIn K (.ref C) "__bool__" = some (some (.ref f))) (hf : PySem.W.isFn K (.ref f) = true)
    (h : wpAny M A (call (.ref f) [.ref x]) (fun v s' => ∃ b, v = .bool b ∧ Q b s') E s) : wpAny M A (truthy (.ref x)) Q E s := by
  unfold truthy
  refine wpAny_bind (m := callSpecial? (.ref x) (Str.ofString "__bool__")) (special_fn X I hs (beq_iff_eq.mp hf) (wpAny_mono h (fun r s' hr => ?_) fun _ _ y => y))
  obtain ⟨b, rfl, q⟩ := hr
  exact wpAny_pure q
end
section
variable {X : Cx} {CX : CXT} {k : Nat} {g C : Addr} {fd : FuncData} {ps : List Str} {sp : Sp} {E : XK}
def rBoolO (C : Addr) (sp : Sp) (E : XK) : List V → Hp → VK → Prop := fun xs H Q => ∃ a dx fs, xs = [.ref a] ∧ H a = some (.ins C dx fs) ∧ sp [.ref a] H (fun v H' => ∃ b, v = .bl b ∧ Q (.bl b) H') E
theorem call_boolO (hs : PySem.W.findIn X.K (.ref C) "__bool__" = some (some (.ref g))) (hf : PySem.W.isFn X.K (.ref g) = true) (F : FnOk X.prog X.w X.K X.mg X.base CX k g fd ps sp) (hr : Room (k + 2) X.A) (hb : Binds X.K fd ps []) (hx : Passes CX X E) :
    CallR X (.type "bool") (rBoolO C sp E) := by
  intro pins s σ H xs us Q I r h
  obtain ⟨a, dx, fs, rfl, ha, q⟩ := h
  obtain rfl := Vals.ref1 r
  obtain ⟨ox, od, J⟩ := inst_at I ha
  refine bool_of (truthy_own I.kIn J hs hf ?_)
  have r2 : Vals [V.ref a] [Value.ref a] := .cons rfl .nil
  have hl : ([Value.ref a] ++ []).length = ps.length := by
    rw [List.append_nil, ← r2.length]
    exact F.len _ _ _ _ q
  refine wpAny_call (codeAny_mono (F.run X.A.in1.in1 X.stack s H ⟨[.ref a], []⟩ [.ref a] _ _ E hr.in1.in1 I.env0.in1.in1 (by have z := hb s [.ref a] I.kIn hl; rw [List.append_nil] at z; exact z) r2 q) fun r s' hq => ?_)
  cases r with
  | error e => exact hx pins σ H s e s' I hq
  | ok fl =>
    cases fl with
    | ret z =>
      obtain ⟨v', H', I', rv, b, rfl, qz⟩ := I.after hq
      cases rv
      exact ⟨b, rfl, .bl b, H', I', rfl, qz⟩
    | next => exact False.elim hq
    | brk => exact False.elim hq
    | cont => exact False.elim hq
end
def top (i : Nat) : Stmt := PySem.Challenge.pw_windowrows_k27_whole_region_laws.main.body.getD i (.Pass ⟨0, 0, 0, 0⟩)
abbrev s_TurnedStretch___init__ : Stmt := inClass (top 3) 0
theorem sc_TurnedStretch___init__ : FnScope ["self", "low", "high"] ["self", "low", "high"] (defScope s_TurnedStretch___init__) := ⟨rfl, rfl, rfl, by decide +kernel, rfl, by decide +kernel, by decide +kernel⟩
abbrev s_BadOffset___init__ : Stmt := inClass (top 4) 0
theorem sc_BadOffset___init__ : FnScope ["self", "rows", "groups", "distance"] ["self", "rows", "groups", "distance"] (defScope s_BadOffset___init__) := ⟨rfl, rfl, rfl, by decide +kernel, rfl, by decide +kernel, by decide +kernel⟩
abbrev s_inside : Stmt := top 6
theorem sc_inside : FnScope ["low", "high", "spot"] ["low", "high", "spot"] (defScope s_inside) := ⟨rfl, rfl, rfl, by decide +kernel, rfl, by decide +kernel, by decide +kernel⟩
abbrev s_starts_of : Stmt := top 7
theorem sc_starts_of : FnScope ["low", "high", "starts"] ["low", "high"] (defScope s_starts_of) := ⟨rfl, rfl, rfl, by decide +kernel, rfl, by decide +kernel, by decide +kernel⟩
abbrev s_mix : Stmt := top 8
theorem sc_mix : FnScope ["first", "second", "rule"] ["first", "second", "rule"] (defScope s_mix) := ⟨rfl, rfl, rfl, by decide +kernel, rfl, by decide +kernel, by decide +kernel⟩
abbrev s_line_at : Stmt := top 9
theorem sc_line_at : FnScope ["line", "spot", "found", "start", "weight"] ["line", "spot"] (defScope s_line_at) := ⟨rfl, rfl, rfl, by decide +kernel, rfl, by decide +kernel, by decide +kernel⟩
abbrev s_clean_line : Stmt := top 10
theorem sc_clean_line : FnScope ["line", "kept", "start", "weight"] ["line"] (defScope s_clean_line) := ⟨rfl, rfl, rfl, by decide +kernel, rfl, by decide +kernel, by decide +kernel⟩
abbrev s_line_between : Stmt := top 11
theorem sc_line_between : FnScope ["low", "high", "start"] ["low", "high"] (defScope s_line_between) := ⟨rfl, rfl, rfl, by decide +kernel, rfl, by decide +kernel, by decide +kernel⟩
abbrev s_mix_lines : Stmt := top 12
theorem sc_mix_lines : FnScope ["first", "second", "rule", "starts", "line", "start", "one"] ["first", "second", "rule"] (defScope s_mix_lines) := ⟨rfl, rfl, rfl, by decide +kernel, rfl, by decide +kernel, by decide +kernel⟩
abbrev s_end_of : Stmt := top 13
theorem sc_end_of : FnScope ["starts", "index"] ["starts", "index"] (defScope s_end_of) := ⟨rfl, rfl, rfl, by decide +kernel, rfl, by decide +kernel, by decide +kernel⟩
abbrev s_index_of : Stmt := top 14
theorem sc_index_of : FnScope ["starts", "spot", "found", "index", "start"] ["starts", "spot"] (defScope s_index_of) := ⟨rfl, rfl, rfl, by decide +kernel, rfl, by decide +kernel, by decide +kernel⟩
abbrev s_reaches : Stmt := top 15
theorem sc_reaches : FnScope ["starts", "index", "spot", "end"] ["starts", "index", "spot"] (defScope s_reaches) := ⟨rfl, rfl, rfl, by decide +kernel, rfl, by decide +kernel, by decide +kernel⟩
abbrev s_places_of : Stmt := top 16
theorem sc_places_of : FnScope ["axes", "rows", "groups", "distances", "found", "j", "spot", "k", "i"] ["axes"] (defScope s_places_of) := ⟨rfl, rfl, rfl, by decide +kernel, rfl, by decide +kernel, by decide +kernel⟩
abbrev s_near : Stmt := top 17
theorem sc_near : FnScope ["axes", "place", "spot"] ["axes", "place"] (defScope s_near) := ⟨rfl, rfl, rfl, by decide +kernel, rfl, by decide +kernel, by decide +kernel⟩
abbrev s_grid_at : Stmt := top 18
theorem sc_grid_at : FnScope ["grid", "numbers", "axes", "weights", "place"] ["grid", "numbers"] (defScope s_grid_at) := ⟨rfl, rfl, rfl, by decide +kernel, rfl, by decide +kernel, by decide +kernel⟩
abbrev s_needed_starts : Stmt := top 19
theorem sc_needed_starts : FnScope ["axes", "weights", "axis", "kept", "index", "place", "other"] ["axes", "weights", "axis"] (defScope s_needed_starts) := ⟨rfl, rfl, rfl, by decide +kernel, rfl, by decide +kernel, by decide +kernel⟩
abbrev s_clean_grid : Stmt := top 20
theorem sc_clean_grid : FnScope ["axes", "weights", "kept", "small", "place"] ["axes", "weights"] (defScope s_clean_grid) := ⟨rfl, rfl, rfl, by decide +kernel, rfl, by decide +kernel, by decide +kernel⟩
abbrev s_grid_between : Stmt := top 21
theorem sc_grid_between : FnScope ["axis", "low", "high", "lists", "axes", "weights", "place"] ["axis", "low", "high"] (defScope s_grid_between) := ⟨rfl, rfl, rfl, by decide +kernel, rfl, by decide +kernel, by decide +kernel⟩
abbrev s_flat_grid : Stmt := top 22
theorem sc_flat_grid : FnScope ["weight"] ["weight"] (defScope s_flat_grid) := ⟨rfl, rfl, rfl, by decide +kernel, rfl, by decide +kernel, by decide +kernel⟩
abbrev s_mix_grids : Stmt := top 23
theorem sc_mix_grids : FnScope ["first", "second", "rule", "rows", "groups", "distances", "axes", "weights", "place", "numbers"] ["first", "second", "rule"] (defScope s_mix_grids) := ⟨rfl, rfl, rfl, by decide +kernel, rfl, by decide +kernel, by decide +kernel⟩
abbrev s_possible : Stmt := top 25
theorem sc_possible : FnScope ["rows", "groups", "distance"] ["rows", "groups", "distance"] (defScope s_possible) := ⟨rfl, rfl, rfl, by decide +kernel, rfl, by decide +kernel, by decide +kernel⟩
abbrev s_zone_of : Stmt := top 26
theorem sc_zone_of : FnScope ["rows", "groups"] ["rows", "groups"] (defScope s_zone_of) := ⟨rfl, rfl, rfl, by decide +kernel, rfl, by decide +kernel, by decide +kernel⟩
abbrev s_Offset___init__ : Stmt := inClass (top 27) 0
theorem sc_Offset___init__ : FnScope ["self", "rows", "groups", "distance"] ["self", "rows", "groups", "distance"] (defScope s_Offset___init__) := ⟨rfl, rfl, rfl, by decide +kernel, rfl, by decide +kernel, by decide +kernel⟩
abbrev s_Offset___neg__ : Stmt := inClass (top 27) 2
theorem sc_Offset___neg__ : FnScope ["self"] ["self"] (defScope s_Offset___neg__) := ⟨rfl, rfl, rfl, by decide +kernel, rfl, by decide +kernel, by decide +kernel⟩
abbrev s_Stretch___init__ : Stmt := inClass (top 29) 0
theorem sc_Stretch___init__ : FnScope ["self", "low", "high"] ["self", "low", "high"] (defScope s_Stretch___init__) := ⟨rfl, rfl, rfl, by decide +kernel, rfl, by decide +kernel, by decide +kernel⟩
abbrev s_signed_stretch : Stmt := top 32
theorem sc_signed_stretch : FnScope ["low", "high", "sign"] ["low", "high", "sign"] (defScope s_signed_stretch) := ⟨rfl, rfl, rfl, by decide +kernel, rfl, by decide +kernel, by decide +kernel⟩
abbrev s_Cell___init__ : Stmt := inClass (top 33) 0
theorem sc_Cell___init__ : FnScope ["self", "zone", "rows", "groups", "distance"] ["self", "zone", "rows", "groups", "distance"] (defScope s_Cell___init__) := ⟨rfl, rfl, rfl, by decide +kernel, rfl, by decide +kernel, by decide +kernel⟩
abbrev s_own_cell : Stmt := top 34
theorem sc_own_cell : FnScope [] [] (defScope s_own_cell) := ⟨rfl, rfl, rfl, by decide +kernel, rfl, by decide +kernel, by decide +kernel⟩
abbrev s_peer_cell : Stmt := top 35
theorem sc_peer_cell : FnScope ["low", "high", "sign", "zone"] ["low", "high", "sign"] (defScope s_peer_cell) := ⟨rfl, rfl, rfl, by decide +kernel, rfl, by decide +kernel, by decide +kernel⟩
abbrev s_far_cell : Stmt := top 36
theorem sc_far_cell : FnScope ["ends", "sign", "zone", "rows", "groups", "distances"] ["ends", "sign"] (defScope s_far_cell) := ⟨rfl, rfl, rfl, by decide +kernel, rfl, by decide +kernel, by decide +kernel⟩
abbrev s_Side___init__ : Stmt := inClass (top 38) 0
theorem sc_Side___init__ : FnScope ["self", "line", "grid"] ["self", "line", "grid"] (defScope s_Side___init__) := ⟨rfl, rfl, rfl, by decide +kernel, rfl, by decide +kernel, by decide +kernel⟩
abbrev s_Side___eq__ : Stmt := inClass (top 38) 1
theorem sc_Side___eq__ : FnScope ["self", "other"] ["self", "other"] (defScope s_Side___eq__) := ⟨rfl, rfl, rfl, by decide +kernel, rfl, by decide +kernel, by decide +kernel⟩
abbrev s_weight_there : Stmt := top 39
theorem sc_weight_there : FnScope ["side", "rows", "groups", "distance"] ["side", "rows", "groups", "distance"] (defScope s_weight_there) := ⟨rfl, rfl, rfl, by decide +kernel, rfl, by decide +kernel, by decide +kernel⟩
abbrev s_mix_sides : Stmt := top 40
theorem sc_mix_sides : FnScope ["first", "second", "rule"] ["first", "second", "rule"] (defScope s_mix_sides) := ⟨rfl, rfl, rfl, by decide +kernel, rfl, by decide +kernel, by decide +kernel⟩
abbrev s_line_cells : Stmt := top 41
theorem sc_line_cells : FnScope ["side", "sign", "starts", "found", "index", "start", "weight"] ["side", "sign"] (defScope s_line_cells) := ⟨rfl, rfl, rfl, by decide +kernel, rfl, by decide +kernel, by decide +kernel⟩
abbrev s_grid_cells : Stmt := top 42
theorem sc_grid_cells : FnScope ["side", "sign", "axes", "weights", "found", "place", "weight", "ends", "at"] ["side", "sign"] (defScope s_grid_cells) := ⟨rfl, rfl, rfl, by decide +kernel, rfl, by decide +kernel, by decide +kernel⟩
abbrev s_nearest_on : Stmt := top 43
theorem sc_nearest_on : FnScope ["side", "found", "axes", "weights", "place", "weight", "start"] ["side"] (defScope s_nearest_on) := ⟨rfl, rfl, rfl, by decide +kernel, rfl, by decide +kernel, by decide +kernel⟩
abbrev s_Weights___init__ : Stmt := inClass (top 44) 0
theorem sc_Weights___init__ : FnScope ["self", "self_weight", "back", "ahead"] ["self", "self_weight", "back", "ahead"] (defScope s_Weights___init__) := ⟨rfl, rfl, rfl, by decide +kernel, rfl, by decide +kernel, by decide +kernel⟩
abbrev s_Weights_at : Stmt := inClass (top 44) 1
theorem sc_Weights_at : FnScope ["self", "offset"] ["self", "offset"] (defScope s_Weights_at) := ⟨rfl, rfl, rfl, by decide +kernel, rfl, by decide +kernel, by decide +kernel⟩
abbrev s_Weights___eq__ : Stmt := inClass (top 44) 7
theorem sc_Weights___eq__ : FnScope ["self", "other"] ["self", "other"] (defScope s_Weights___eq__) := ⟨rfl, rfl, rfl, by decide +kernel, rfl, by decide +kernel, by decide +kernel⟩
abbrev s_Weights___bool__ : Stmt := inClass (top 44) 8
theorem sc_Weights___bool__ : FnScope ["self"] ["self"] (defScope s_Weights___bool__) := ⟨rfl, rfl, rfl, by decide +kernel, rfl, by decide +kernel, by decide +kernel⟩
abbrev s_Weights_cells : Stmt := inClass (top 44) 9
theorem sc_Weights_cells : FnScope ["self", "found"] ["self"] (defScope s_Weights_cells) := ⟨rfl, rfl, rfl, by decide +kernel, rfl, by decide +kernel, by decide +kernel⟩
abbrev s_mix_weights : Stmt := top 45
theorem sc_mix_weights : FnScope ["first", "second", "rule"] ["first", "second", "rule"] (defScope s_mix_weights) := ⟨rfl, rfl, rfl, by decide +kernel, rfl, by decide +kernel, by decide +kernel⟩
abbrev s_turned : Stmt := top 46
theorem sc_turned : FnScope ["weights"] ["weights"] (defScope s_turned) := ⟨rfl, rfl, rfl, by decide +kernel, rfl, by decide +kernel, by decide +kernel⟩
abbrev s_Region___init__ : Stmt := inClass (top 48) 0
theorem sc_Region___init__ : FnScope ["self", "weights"] ["self", "weights"] (defScope s_Region___init__) := ⟨rfl, rfl, rfl, by decide +kernel, rfl, by decide +kernel, by decide +kernel⟩
abbrev s_Region___and__ : Stmt := inClass (top 48) 1
theorem sc_Region___and__ : FnScope ["self", "other"] ["self", "other"] (defScope s_Region___and__) := ⟨rfl, rfl, rfl, by decide +kernel, rfl, by decide +kernel, by decide +kernel⟩
abbrev s_Region___or__ : Stmt := inClass (top 48) 2
theorem sc_Region___or__ : FnScope ["self", "other"] ["self", "other"] (defScope s_Region___or__) := ⟨rfl, rfl, rfl, by decide +kernel, rfl, by decide +kernel, by decide +kernel⟩
abbrev s_Region___sub__ : Stmt := inClass (top 48) 3
theorem sc_Region___sub__ : FnScope ["self", "other"] ["self", "other"] (defScope s_Region___sub__) := ⟨rfl, rfl, rfl, by decide +kernel, rfl, by decide +kernel, by decide +kernel⟩
abbrev s_Region___xor__ : Stmt := inClass (top 48) 4
theorem sc_Region___xor__ : FnScope ["self", "other"] ["self", "other"] (defScope s_Region___xor__) := ⟨rfl, rfl, rfl, by decide +kernel, rfl, by decide +kernel, by decide +kernel⟩
abbrev s_Region___invert__ : Stmt := inClass (top 48) 5
theorem sc_Region___invert__ : FnScope ["self"] ["self"] (defScope s_Region___invert__) := ⟨rfl, rfl, rfl, by decide +kernel, rfl, by decide +kernel, by decide +kernel⟩
abbrev s_Region___neg__ : Stmt := inClass (top 48) 6
theorem sc_Region___neg__ : FnScope ["self"] ["self"] (defScope s_Region___neg__) := ⟨rfl, rfl, rfl, by decide +kernel, rfl, by decide +kernel, by decide +kernel⟩
abbrev s_Region___contains__ : Stmt := inClass (top 48) 7
theorem sc_Region___contains__ : FnScope ["self", "offset"] ["self", "offset"] (defScope s_Region___contains__) := ⟨rfl, rfl, rfl, by decide +kernel, rfl, by decide +kernel, by decide +kernel⟩
abbrev s_Region___eq__ : Stmt := inClass (top 48) 8
theorem sc_Region___eq__ : FnScope ["self", "other"] ["self", "other"] (defScope s_Region___eq__) := ⟨rfl, rfl, rfl, by decide +kernel, rfl, by decide +kernel, by decide +kernel⟩
abbrev s_Region___bool__ : Stmt := inClass (top 48) 9
theorem sc_Region___bool__ : FnScope ["self"] ["self"] (defScope s_Region___bool__) := ⟨rfl, rfl, rfl, by decide +kernel, rfl, by decide +kernel, by decide +kernel⟩
abbrev s_Region_cells : Stmt := inClass (top 48) 10
theorem sc_Region_cells : FnScope ["self", "cell", "weight"] ["self"] (defScope s_Region_cells) := ⟨rfl, rfl, rfl, by decide +kernel, rfl, by decide +kernel, by decide +kernel⟩
abbrev s_flat_side : Stmt := top 49
theorem sc_flat_side : FnScope ["peers", "others"] ["peers", "others"] (defScope s_flat_side) := ⟨rfl, rfl, rfl, by decide +kernel, rfl, by decide +kernel, by decide +kernel⟩
abbrev s_flat_region : Stmt := top 50
theorem sc_flat_region : FnScope ["itself", "peers", "others"] ["itself", "peers", "others"] (defScope s_flat_region) := ⟨rfl, rfl, rfl, by decide +kernel, rfl, by decide +kernel, by decide +kernel⟩
abbrev s_mirrored_end : Stmt := top 51
theorem sc_mirrored_end : FnScope ["end"] ["end"] (defScope s_mirrored_end) := ⟨rfl, rfl, rfl, by decide +kernel, rfl, by decide +kernel, by decide +kernel⟩
abbrev s_ends_checked : Stmt := top 52
theorem sc_ends_checked : FnScope ["low", "high"] ["low", "high"] (defScope s_ends_checked) := ⟨rfl, rfl, rfl, by decide +kernel, rfl, by decide +kernel, by decide +kernel⟩
abbrev s_rows_between : Stmt := top 53
theorem sc_rows_between : FnScope ["low", "high", "back"] ["low", "high"] (defScope s_rows_between) := ⟨rfl, rfl, rfl, by decide +kernel, rfl, by decide +kernel, by decide +kernel⟩
abbrev s_axis_between : Stmt := top 54
theorem sc_axis_between : FnScope ["axis", "low", "high", "peers", "back"] ["axis", "low", "high"] (defScope s_axis_between) := ⟨rfl, rfl, rfl, by decide +kernel, rfl, by decide +kernel, by decide +kernel⟩
abbrev s_groups_between : Stmt := top 55
theorem sc_groups_between : FnScope ["low", "high"] ["low", "high"] (defScope s_groups_between) := ⟨rfl, rfl, rfl, by decide +kernel, rfl, by decide +kernel, by decide +kernel⟩
abbrev s_keys_between : Stmt := top 56
theorem sc_keys_between : FnScope ["low", "high"] ["low", "high"] (defScope s_keys_between) := ⟨rfl, rfl, rfl, by decide +kernel, rfl, by decide +kernel, by decide +kernel⟩
abbrev s_own_row : Stmt := top 57
theorem sc_own_row : FnScope [] [] (defScope s_own_row) := ⟨rfl, rfl, rfl, by decide +kernel, rfl, by decide +kernel, by decide +kernel⟩
abbrev s_own_group : Stmt := top 58
theorem sc_own_group : FnScope [] [] (defScope s_own_group) := ⟨rfl, rfl, rfl, by decide +kernel, rfl, by decide +kernel, by decide +kernel⟩
abbrev s_ties : Stmt := top 59
theorem sc_ties : FnScope [] [] (defScope s_ties) := ⟨rfl, rfl, rfl, by decide +kernel, rfl, by decide +kernel, by decide +kernel⟩
abbrev s_every : Stmt := top 60
theorem sc_every : FnScope [] [] (defScope s_every) := ⟨rfl, rfl, rfl, by decide +kernel, rfl, by decide +kernel, by decide +kernel⟩
abbrev s_nothing : Stmt := top 61
theorem sc_nothing : FnScope [] [] (defScope s_nothing) := ⟨rfl, rfl, rfl, by decide +kernel, rfl, by decide +kernel, by decide +kernel⟩
abbrev s_weights_of : Stmt := top 62
theorem sc_weights_of : FnScope ["region", "number"] ["region", "number"] (defScope s_weights_of) := ⟨rfl, rfl, rfl, by decide +kernel, rfl, by decide +kernel, by decide +kernel⟩
abbrev s__law_begin : Stmt := top 64
theorem sc__law_begin : FnScope ["_law_script", "_law_cells", "_law_cell"] ["_law_script"] (defScope s__law_begin) := ⟨rfl, rfl, rfl, by decide +kernel, rfl, by decide +kernel, by decide +kernel⟩
abbrev s__law_draw : Stmt := top 65
theorem sc__law_draw : FnScope ["_law_draws", "_law_many", "_law_turn", "_law_at", "_law_cell", "_law_got", "_law_first", "_law_salt", "_law_second", "_law_mixed", "_law_third"] ["_law_draws", "_law_many"] (defScope s__law_draw) := ⟨rfl, rfl, rfl, by decide +kernel, rfl, by decide +kernel, by decide +kernel⟩
abbrev s__law_holds : Stmt := top 66
theorem sc__law_holds : FnScope ["_law_tree_here", "_law_d", "_law_g", "_law_k", "_law_word", "_law_spot", "_law_at", "_law_first", "_law_second"] ["_law_tree_here", "_law_d", "_law_g", "_law_k"] (defScope s__law_holds) := ⟨rfl, rfl, rfl, by decide +kernel, rfl, by decide +kernel, by decide +kernel⟩
abbrev s__law_region : Stmt := top 67
theorem sc__law_region : FnScope ["_law_tree_here", "_law_word", "_law_first", "_law_second"] ["_law_tree_here"] (defScope s__law_region) := ⟨rfl, rfl, rfl, by decide +kernel, rfl, by decide +kernel, by decide +kernel⟩
abbrev s__law_end : Stmt := top 68
theorem sc__law_end : FnScope ["_law_draws", "_law_word", "_law_way", "_law_wide"] ["_law_draws", "_law_word"] (defScope s__law_end) := ⟨rfl, rfl, rfl, by decide +kernel, rfl, by decide +kernel, by decide +kernel⟩
abbrev s__law_basic : Stmt := top 69
theorem sc__law_basic : FnScope ["_law_draws", "_law_way", "_law_word", "_law_ends"] ["_law_draws"] (defScope s__law_basic) := ⟨rfl, rfl, rfl, by decide +kernel, rfl, by decide +kernel, by decide +kernel⟩
abbrev s__law_tree : Stmt := top 70
theorem sc__law_tree : FnScope ["_law_draws", "_law_depth", "_law_way", "_law_first"] ["_law_draws", "_law_depth"] (defScope s__law_tree) := ⟨rfl, rfl, rfl, by decide +kernel, rfl, by decide +kernel, by decide +kernel⟩
abbrev s__law_numbers : Stmt := top 71
theorem sc__law_numbers : FnScope ["_law_draws", "_law_way", "_law_d", "_law_g", "_law_k"] ["_law_draws"] (defScope s__law_numbers) := ⟨rfl, rfl, rfl, by decide +kernel, rfl, by decide +kernel, by decide +kernel⟩
abbrev s__law_in_place : Stmt := top 72
theorem sc__law_in_place : FnScope ["_law_a", "_law_b", "_law_c", "_law_grown", "_law_cut", "_law_odd"] ["_law_a", "_law_b", "_law_c"] (defScope s__law_in_place) := ⟨rfl, rfl, rfl, by decide +kernel, rfl, by decide +kernel, by decide +kernel⟩
abbrev s__law_unlike : Stmt := top 73
theorem sc__law_unlike : FnScope ["_law_a", "_law_tree_here"] ["_law_a", "_law_tree_here"] (defScope s__law_unlike) := ⟨rfl, rfl, rfl, by decide +kernel, rfl, by decide +kernel, by decide +kernel⟩
abbrev s_law : Stmt := top 74
theorem sc_law : FnScope ["_law_script", "_law_draws", "_law_trees", "_law_a", "_law_b", "_law_c", "_law_good", "_law_one", "_law_d", "_law_g", "_law_k", "_law_j"] ["_law_script"] (defScope s_law) := ⟨rfl, rfl, rfl, by decide +kernel, rfl, by decide +kernel, by decide +kernel⟩
structure Txt (K : PySem.W.Frag) (mg : Str → Option Value) where
  f_TurnedStretch___init__ : Addr
  d_TurnedStretch___init__ : FuncData
  F_TurnedStretch___init__ : Fun K "__init__" "TurnedStretch.__init__" s_TurnedStretch___init__ f_TurnedStretch___init__ d_TurnedStretch___init__
  b_TurnedStretch___init__ : Binds K d_TurnedStretch___init__ ["self", "low", "high"] []
  f_BadOffset___init__ : Addr
  d_BadOffset___init__ : FuncData
  F_BadOffset___init__ : Fun K "__init__" "BadOffset.__init__" s_BadOffset___init__ f_BadOffset___init__ d_BadOffset___init__
  b_BadOffset___init__ : Binds K d_BadOffset___init__ ["self", "rows", "groups", "distance"] []
  f_inside : Addr
  d_inside : FuncData
  F_inside : Fun K "inside" "inside" s_inside f_inside d_inside
  b_inside : Binds K d_inside ["low", "high", "spot"] []
  g_inside : mg "inside" = some (.ref f_inside)
  f_starts_of : Addr
  d_starts_of : FuncData
  F_starts_of : Fun K "starts_of" "starts_of" s_starts_of f_starts_of d_starts_of
  b_starts_of : Binds K d_starts_of ["low", "high"] []
  g_starts_of : mg "starts_of" = some (.ref f_starts_of)
  f_mix : Addr
  d_mix : FuncData
  F_mix : Fun K "mix" "mix" s_mix f_mix d_mix
  b_mix : Binds K d_mix ["first", "second", "rule"] []
  g_mix : mg "mix" = some (.ref f_mix)
  f_line_at : Addr
  d_line_at : FuncData
  F_line_at : Fun K "line_at" "line_at" s_line_at f_line_at d_line_at
  b_line_at : Binds K d_line_at ["line", "spot"] []
  g_line_at : mg "line_at" = some (.ref f_line_at)
  f_clean_line : Addr
  d_clean_line : FuncData
  F_clean_line : Fun K "clean_line" "clean_line" s_clean_line f_clean_line d_clean_line
  b_clean_line : Binds K d_clean_line ["line"] []
  g_clean_line : mg "clean_line" = some (.ref f_clean_line)
  f_line_between : Addr
  d_line_between : FuncData
  F_line_between : Fun K "line_between" "line_between" s_line_between f_line_between d_line_between
  b_line_between : Binds K d_line_between ["low", "high"] []
  g_line_between : mg "line_between" = some (.ref f_line_between)
  f_mix_lines : Addr
  d_mix_lines : FuncData
  F_mix_lines : Fun K "mix_lines" "mix_lines" s_mix_lines f_mix_lines d_mix_lines
  b_mix_lines : Binds K d_mix_lines ["first", "second", "rule"] []
  g_mix_lines : mg "mix_lines" = some (.ref f_mix_lines)
  f_end_of : Addr
  d_end_of : FuncData
  F_end_of : Fun K "end_of" "end_of" s_end_of f_end_of d_end_of
  b_end_of : Binds K d_end_of ["starts", "index"] []
  g_end_of : mg "end_of" = some (.ref f_end_of)
  f_index_of : Addr
  d_index_of : FuncData
  F_index_of : Fun K "index_of" "index_of" s_index_of f_index_of d_index_of
  b_index_of : Binds K d_index_of ["starts", "spot"] []
  g_index_of : mg "index_of" = some (.ref f_index_of)
  f_reaches : Addr
  d_reaches : FuncData
  F_reaches : Fun K "reaches" "reaches" s_reaches f_reaches d_reaches
  b_reaches : Binds K d_reaches ["starts", "index", "spot"] []
  g_reaches : mg "reaches" = some (.ref f_reaches)
  f_places_of : Addr
  d_places_of : FuncData
  F_places_of : Fun K "places_of" "places_of" s_places_of f_places_of d_places_of
  b_places_of : Binds K d_places_of ["axes"] []
  g_places_of : mg "places_of" = some (.ref f_places_of)
  f_near : Addr
  d_near : FuncData
  F_near : Fun K "near" "near" s_near f_near d_near
  b_near : Binds K d_near ["axes", "place"] []
  g_near : mg "near" = some (.ref f_near)
  f_grid_at : Addr
  d_grid_at : FuncData
  F_grid_at : Fun K "grid_at" "grid_at" s_grid_at f_grid_at d_grid_at
  b_grid_at : Binds K d_grid_at ["grid", "numbers"] []
  g_grid_at : mg "grid_at" = some (.ref f_grid_at)
  f_needed_starts : Addr
  d_needed_starts : FuncData
  F_needed_starts : Fun K "needed_starts" "needed_starts" s_needed_starts f_needed_starts d_needed_starts
  b_needed_starts : Binds K d_needed_starts ["axes", "weights", "axis"] []
  g_needed_starts : mg "needed_starts" = some (.ref f_needed_starts)
  f_clean_grid : Addr
  d_clean_grid : FuncData
  F_clean_grid : Fun K "clean_grid" "clean_grid" s_clean_grid f_clean_grid d_clean_grid
  b_clean_grid : Binds K d_clean_grid ["axes", "weights"] []
  g_clean_grid : mg "clean_grid" = some (.ref f_clean_grid)
  f_grid_between : Addr
  d_grid_between : FuncData
  F_grid_between : Fun K "grid_between" "grid_between" s_grid_between f_grid_between d_grid_between
  b_grid_between : Binds K d_grid_between ["axis", "low", "high"] []
  g_grid_between : mg "grid_between" = some (.ref f_grid_between)
  f_flat_grid : Addr
  d_flat_grid : FuncData
  F_flat_grid : Fun K "flat_grid" "flat_grid" s_flat_grid f_flat_grid d_flat_grid
  b_flat_grid : Binds K d_flat_grid ["weight"] []
  g_flat_grid : mg "flat_grid" = some (.ref f_flat_grid)
  f_mix_grids : Addr
  d_mix_grids : FuncData
  F_mix_grids : Fun K "mix_grids" "mix_grids" s_mix_grids f_mix_grids d_mix_grids
  b_mix_grids : Binds K d_mix_grids ["first", "second", "rule"] []
  g_mix_grids : mg "mix_grids" = some (.ref f_mix_grids)
  f_possible : Addr
  d_possible : FuncData
  F_possible : Fun K "possible" "possible" s_possible f_possible d_possible
  b_possible : Binds K d_possible ["rows", "groups", "distance"] []
  g_possible : mg "possible" = some (.ref f_possible)
  f_zone_of : Addr
  d_zone_of : FuncData
  F_zone_of : Fun K "zone_of" "zone_of" s_zone_of f_zone_of d_zone_of
  b_zone_of : Binds K d_zone_of ["rows", "groups"] []
  g_zone_of : mg "zone_of" = some (.ref f_zone_of)
  f_Offset___init__ : Addr
  d_Offset___init__ : FuncData
  F_Offset___init__ : Fun K "__init__" "Offset.__init__" s_Offset___init__ f_Offset___init__ d_Offset___init__
  b_Offset___init__ : Binds K d_Offset___init__ ["self", "rows", "groups", "distance"] []
  f_Offset___neg__ : Addr
  d_Offset___neg__ : FuncData
  F_Offset___neg__ : Fun K "__neg__" "Offset.__neg__" s_Offset___neg__ f_Offset___neg__ d_Offset___neg__
  b_Offset___neg__ : Binds K d_Offset___neg__ ["self"] []
  f_Stretch___init__ : Addr
  d_Stretch___init__ : FuncData
  F_Stretch___init__ : Fun K "__init__" "Stretch.__init__" s_Stretch___init__ f_Stretch___init__ d_Stretch___init__
  b_Stretch___init__ : Binds K d_Stretch___init__ ["self", "low", "high"] []
  f_signed_stretch : Addr
  d_signed_stretch : FuncData
  F_signed_stretch : Fun K "signed_stretch" "signed_stretch" s_signed_stretch f_signed_stretch d_signed_stretch
  b_signed_stretch : Binds K d_signed_stretch ["low", "high", "sign"] []
  g_signed_stretch : mg "signed_stretch" = some (.ref f_signed_stretch)
  f_Cell___init__ : Addr
  d_Cell___init__ : FuncData
  F_Cell___init__ : Fun K "__init__" "Cell.__init__" s_Cell___init__ f_Cell___init__ d_Cell___init__
  b_Cell___init__ : Binds K d_Cell___init__ ["self", "zone", "rows", "groups", "distance"] []
  f_own_cell : Addr
  d_own_cell : FuncData
  F_own_cell : Fun K "own_cell" "own_cell" s_own_cell f_own_cell d_own_cell
  b_own_cell : Binds K d_own_cell [] []
  g_own_cell : mg "own_cell" = some (.ref f_own_cell)
  f_peer_cell : Addr
  d_peer_cell : FuncData
  F_peer_cell : Fun K "peer_cell" "peer_cell" s_peer_cell f_peer_cell d_peer_cell
  b_peer_cell : Binds K d_peer_cell ["low", "high", "sign"] []
  g_peer_cell : mg "peer_cell" = some (.ref f_peer_cell)
  f_far_cell : Addr
  d_far_cell : FuncData
  F_far_cell : Fun K "far_cell" "far_cell" s_far_cell f_far_cell d_far_cell
  b_far_cell : Binds K d_far_cell ["ends", "sign"] []
  g_far_cell : mg "far_cell" = some (.ref f_far_cell)
  f_Side___init__ : Addr
  d_Side___init__ : FuncData
  F_Side___init__ : Fun K "__init__" "Side.__init__" s_Side___init__ f_Side___init__ d_Side___init__
  b_Side___init__ : Binds K d_Side___init__ ["self", "line", "grid"] []
  f_Side___eq__ : Addr
  d_Side___eq__ : FuncData
  F_Side___eq__ : Fun K "__eq__" "Side.__eq__" s_Side___eq__ f_Side___eq__ d_Side___eq__
  b_Side___eq__ : Binds K d_Side___eq__ ["self", "other"] []
  f_weight_there : Addr
  d_weight_there : FuncData
  F_weight_there : Fun K "weight_there" "weight_there" s_weight_there f_weight_there d_weight_there
  b_weight_there : Binds K d_weight_there ["side", "rows", "groups", "distance"] []
  g_weight_there : mg "weight_there" = some (.ref f_weight_there)
  f_mix_sides : Addr
  d_mix_sides : FuncData
  F_mix_sides : Fun K "mix_sides" "mix_sides" s_mix_sides f_mix_sides d_mix_sides
  b_mix_sides : Binds K d_mix_sides ["first", "second", "rule"] []
  g_mix_sides : mg "mix_sides" = some (.ref f_mix_sides)
  f_line_cells : Addr
  d_line_cells : FuncData
  F_line_cells : Fun K "line_cells" "line_cells" s_line_cells f_line_cells d_line_cells
  b_line_cells : Binds K d_line_cells ["side", "sign"] []
  g_line_cells : mg "line_cells" = some (.ref f_line_cells)
  f_grid_cells : Addr
  d_grid_cells : FuncData
  F_grid_cells : Fun K "grid_cells" "grid_cells" s_grid_cells f_grid_cells d_grid_cells
  b_grid_cells : Binds K d_grid_cells ["side", "sign"] []
  g_grid_cells : mg "grid_cells" = some (.ref f_grid_cells)
  f_nearest_on : Addr
  d_nearest_on : FuncData
  F_nearest_on : Fun K "nearest_on" "nearest_on" s_nearest_on f_nearest_on d_nearest_on
  b_nearest_on : Binds K d_nearest_on ["side"] []
  g_nearest_on : mg "nearest_on" = some (.ref f_nearest_on)
  f_Weights___init__ : Addr
  d_Weights___init__ : FuncData
  F_Weights___init__ : Fun K "__init__" "Weights.__init__" s_Weights___init__ f_Weights___init__ d_Weights___init__
  b_Weights___init__ : Binds K d_Weights___init__ ["self", "self_weight", "back", "ahead"] []
  f_Weights_at : Addr
  d_Weights_at : FuncData
  F_Weights_at : Fun K "at" "Weights.at" s_Weights_at f_Weights_at d_Weights_at
  b_Weights_at : Binds K d_Weights_at ["self", "offset"] []
  f_Weights___eq__ : Addr
  d_Weights___eq__ : FuncData
  F_Weights___eq__ : Fun K "__eq__" "Weights.__eq__" s_Weights___eq__ f_Weights___eq__ d_Weights___eq__
  b_Weights___eq__ : Binds K d_Weights___eq__ ["self", "other"] []
  f_Weights___bool__ : Addr
  d_Weights___bool__ : FuncData
  F_Weights___bool__ : Fun K "__bool__" "Weights.__bool__" s_Weights___bool__ f_Weights___bool__ d_Weights___bool__
  b_Weights___bool__ : Binds K d_Weights___bool__ ["self"] []
  f_Weights_cells : Addr
  d_Weights_cells : FuncData
  F_Weights_cells : Fun K "cells" "Weights.cells" s_Weights_cells f_Weights_cells d_Weights_cells
  b_Weights_cells : Binds K d_Weights_cells ["self"] []
  f_mix_weights : Addr
  d_mix_weights : FuncData
  F_mix_weights : Fun K "mix_weights" "mix_weights" s_mix_weights f_mix_weights d_mix_weights
  b_mix_weights : Binds K d_mix_weights ["first", "second", "rule"] []
  g_mix_weights : mg "mix_weights" = some (.ref f_mix_weights)
  f_turned : Addr
  d_turned : FuncData
  F_turned : Fun K "turned" "turned" s_turned f_turned d_turned
  b_turned : Binds K d_turned ["weights"] []
  g_turned : mg "turned" = some (.ref f_turned)
  f_Region___init__ : Addr
  d_Region___init__ : FuncData
  F_Region___init__ : Fun K "__init__" "Region.__init__" s_Region___init__ f_Region___init__ d_Region___init__
  b_Region___init__ : Binds K d_Region___init__ ["self", "weights"] []
  f_Region___and__ : Addr
  d_Region___and__ : FuncData
  F_Region___and__ : Fun K "__and__" "Region.__and__" s_Region___and__ f_Region___and__ d_Region___and__
  b_Region___and__ : Binds K d_Region___and__ ["self", "other"] []
  f_Region___or__ : Addr
  d_Region___or__ : FuncData
  F_Region___or__ : Fun K "__or__" "Region.__or__" s_Region___or__ f_Region___or__ d_Region___or__
  b_Region___or__ : Binds K d_Region___or__ ["self", "other"] []
  f_Region___sub__ : Addr
  d_Region___sub__ : FuncData
  F_Region___sub__ : Fun K "__sub__" "Region.__sub__" s_Region___sub__ f_Region___sub__ d_Region___sub__
  b_Region___sub__ : Binds K d_Region___sub__ ["self", "other"] []
  f_Region___xor__ : Addr
  d_Region___xor__ : FuncData
  F_Region___xor__ : Fun K "__xor__" "Region.__xor__" s_Region___xor__ f_Region___xor__ d_Region___xor__
  b_Region___xor__ : Binds K d_Region___xor__ ["self", "other"] []
  f_Region___invert__ : Addr
  d_Region___invert__ : FuncData
  F_Region___invert__ : Fun K "__invert__" "Region.__invert__" s_Region___invert__ f_Region___invert__ d_Region___invert__
  b_Region___invert__ : Binds K d_Region___invert__ ["self"] []
  f_Region___neg__ : Addr
  d_Region___neg__ : FuncData
  F_Region___neg__ : Fun K "__neg__" "Region.__neg__" s_Region___neg__ f_Region___neg__ d_Region___neg__
  b_Region___neg__ : Binds K d_Region___neg__ ["self"] []
  f_Region___contains__ : Addr
  d_Region___contains__ : FuncData
  F_Region___contains__ : Fun K "__contains__" "Region.__contains__" s_Region___contains__ f_Region___contains__ d_Region___contains__
  b_Region___contains__ : Binds K d_Region___contains__ ["self", "offset"] []
  f_Region___eq__ : Addr
  d_Region___eq__ : FuncData
  F_Region___eq__ : Fun K "__eq__" "Region.__eq__" s_Region___eq__ f_Region___eq__ d_Region___eq__
  b_Region___eq__ : Binds K d_Region___eq__ ["self", "other"] []
  f_Region___bool__ : Addr
  d_Region___bool__ : FuncData
  F_Region___bool__ : Fun K "__bool__" "Region.__bool__" s_Region___bool__ f_Region___bool__ d_Region___bool__
  b_Region___bool__ : Binds K d_Region___bool__ ["self"] []
  f_Region_cells : Addr
  d_Region_cells : FuncData
  F_Region_cells : Fun K "cells" "Region.cells" s_Region_cells f_Region_cells d_Region_cells
  b_Region_cells : Binds K d_Region_cells ["self"] []
  f_flat_side : Addr
  d_flat_side : FuncData
  F_flat_side : Fun K "flat_side" "flat_side" s_flat_side f_flat_side d_flat_side
  b_flat_side : Binds K d_flat_side ["peers", "others"] []
  g_flat_side : mg "flat_side" = some (.ref f_flat_side)
  f_flat_region : Addr
  d_flat_region : FuncData
  F_flat_region : Fun K "flat_region" "flat_region" s_flat_region f_flat_region d_flat_region
  b_flat_region : Binds K d_flat_region ["itself", "peers", "others"] []
  g_flat_region : mg "flat_region" = some (.ref f_flat_region)
  f_mirrored_end : Addr
  d_mirrored_end : FuncData
  F_mirrored_end : Fun K "mirrored_end" "mirrored_end" s_mirrored_end f_mirrored_end d_mirrored_end
  b_mirrored_end : Binds K d_mirrored_end ["end"] []
  g_mirrored_end : mg "mirrored_end" = some (.ref f_mirrored_end)
  f_ends_checked : Addr
  d_ends_checked : FuncData
  F_ends_checked : Fun K "ends_checked" "ends_checked" s_ends_checked f_ends_checked d_ends_checked
  b_ends_checked : Binds K d_ends_checked ["low", "high"] []
  g_ends_checked : mg "ends_checked" = some (.ref f_ends_checked)
  f_rows_between : Addr
  d_rows_between : FuncData
  F_rows_between : Fun K "rows_between" "rows_between" s_rows_between f_rows_between d_rows_between
  b_rows_between : Binds K d_rows_between ["low", "high"] []
  g_rows_between : mg "rows_between" = some (.ref f_rows_between)
  f_axis_between : Addr
  d_axis_between : FuncData
  F_axis_between : Fun K "axis_between" "axis_between" s_axis_between f_axis_between d_axis_between
  b_axis_between : Binds K d_axis_between ["axis", "low", "high"] []
  g_axis_between : mg "axis_between" = some (.ref f_axis_between)
  f_groups_between : Addr
  d_groups_between : FuncData
  F_groups_between : Fun K "groups_between" "groups_between" s_groups_between f_groups_between d_groups_between
  b_groups_between : Binds K d_groups_between ["low", "high"] []
  g_groups_between : mg "groups_between" = some (.ref f_groups_between)
  f_keys_between : Addr
  d_keys_between : FuncData
  F_keys_between : Fun K "keys_between" "keys_between" s_keys_between f_keys_between d_keys_between
  b_keys_between : Binds K d_keys_between ["low", "high"] []
  g_keys_between : mg "keys_between" = some (.ref f_keys_between)
  f_own_row : Addr
  d_own_row : FuncData
  F_own_row : Fun K "own_row" "own_row" s_own_row f_own_row d_own_row
  b_own_row : Binds K d_own_row [] []
  g_own_row : mg "own_row" = some (.ref f_own_row)
  f_own_group : Addr
  d_own_group : FuncData
  F_own_group : Fun K "own_group" "own_group" s_own_group f_own_group d_own_group
  b_own_group : Binds K d_own_group [] []
  g_own_group : mg "own_group" = some (.ref f_own_group)
  f_ties : Addr
  d_ties : FuncData
  F_ties : Fun K "ties" "ties" s_ties f_ties d_ties
  b_ties : Binds K d_ties [] []
  g_ties : mg "ties" = some (.ref f_ties)
  f_every : Addr
  d_every : FuncData
  F_every : Fun K "every" "every" s_every f_every d_every
  b_every : Binds K d_every [] []
  g_every : mg "every" = some (.ref f_every)
  f_nothing : Addr
  d_nothing : FuncData
  F_nothing : Fun K "nothing" "nothing" s_nothing f_nothing d_nothing
  b_nothing : Binds K d_nothing [] []
  g_nothing : mg "nothing" = some (.ref f_nothing)
  f_weights_of : Addr
  d_weights_of : FuncData
  F_weights_of : Fun K "weights_of" "weights_of" s_weights_of f_weights_of d_weights_of
  b_weights_of : Binds K d_weights_of ["region", "number"] []
  g_weights_of : mg "weights_of" = some (.ref f_weights_of)
  f__law_begin : Addr
  d__law_begin : FuncData
  F__law_begin : Fun K "_law_begin" "_law_begin" s__law_begin f__law_begin d__law_begin
  b__law_begin : Binds K d__law_begin ["_law_script"] []
  g__law_begin : mg "_law_begin" = some (.ref f__law_begin)
  f__law_draw : Addr
  d__law_draw : FuncData
  F__law_draw : Fun K "_law_draw" "_law_draw" s__law_draw f__law_draw d__law_draw
  b__law_draw : Binds K d__law_draw ["_law_draws", "_law_many"] []
  g__law_draw : mg "_law_draw" = some (.ref f__law_draw)
  f__law_holds : Addr
  d__law_holds : FuncData
  F__law_holds : Fun K "_law_holds" "_law_holds" s__law_holds f__law_holds d__law_holds
  b__law_holds : Binds K d__law_holds ["_law_tree_here", "_law_d", "_law_g", "_law_k"] []
  g__law_holds : mg "_law_holds" = some (.ref f__law_holds)
  f__law_region : Addr
  d__law_region : FuncData
  F__law_region : Fun K "_law_region" "_law_region" s__law_region f__law_region d__law_region
  b__law_region : Binds K d__law_region ["_law_tree_here"] []
  g__law_region : mg "_law_region" = some (.ref f__law_region)
  f__law_end : Addr
  d__law_end : FuncData
  F__law_end : Fun K "_law_end" "_law_end" s__law_end f__law_end d__law_end
  b__law_end : Binds K d__law_end ["_law_draws", "_law_word"] []
  g__law_end : mg "_law_end" = some (.ref f__law_end)
  f__law_basic : Addr
  d__law_basic : FuncData
  F__law_basic : Fun K "_law_basic" "_law_basic" s__law_basic f__law_basic d__law_basic
  b__law_basic : Binds K d__law_basic ["_law_draws"] []
  g__law_basic : mg "_law_basic" = some (.ref f__law_basic)
  f__law_tree : Addr
  d__law_tree : FuncData
  F__law_tree : Fun K "_law_tree" "_law_tree" s__law_tree f__law_tree d__law_tree
  b__law_tree : Binds K d__law_tree ["_law_draws", "_law_depth"] []
  g__law_tree : mg "_law_tree" = some (.ref f__law_tree)
  f__law_numbers : Addr
  d__law_numbers : FuncData
  F__law_numbers : Fun K "_law_numbers" "_law_numbers" s__law_numbers f__law_numbers d__law_numbers
  b__law_numbers : Binds K d__law_numbers ["_law_draws"] []
  g__law_numbers : mg "_law_numbers" = some (.ref f__law_numbers)
  f__law_in_place : Addr
  d__law_in_place : FuncData
  F__law_in_place : Fun K "_law_in_place" "_law_in_place" s__law_in_place f__law_in_place d__law_in_place
  b__law_in_place : Binds K d__law_in_place ["_law_a", "_law_b", "_law_c"] []
  g__law_in_place : mg "_law_in_place" = some (.ref f__law_in_place)
  f__law_unlike : Addr
  d__law_unlike : FuncData
  F__law_unlike : Fun K "_law_unlike" "_law_unlike" s__law_unlike f__law_unlike d__law_unlike
  b__law_unlike : Binds K d__law_unlike ["_law_a", "_law_tree_here"] []
  g__law_unlike : mg "_law_unlike" = some (.ref f__law_unlike)
  f_law : Addr
  d_law : FuncData
  F_law : Fun K "law" "law" s_law f_law d_law
  b_law : Binds K d_law ["_law_script"] []
  g_law : mg "law" = some (.ref f_law)
  z_NotImplemented : mg "NotImplemented" = none
  z_abs : mg "abs" = none
  z_bool : mg "bool" = none
  z_enumerate : mg "enumerate" = none
  z_int : mg "int" = none
  z_isinstance : mg "isinstance" = none
  z_len : mg "len" = none
  z_max : mg "max" = none
  z_min : mg "min" = none
  z_range : mg "range" = none
  z_set : mg "set" = none
  z_sorted : mg "sorted" = none
  C_WindowError : Addr
  C_TurnedStretch : Addr
  C_BadOffset : Addr
  C_Offset : Addr
  C_Side : Addr
  C_Weights : Addr
  C_Region : Addr
  C_Stretch : Addr
  C_Cell : Addr
  g_WindowError : mg "WindowError" = some (.ref C_WindowError)
  g_TurnedStretch : mg "TurnedStretch" = some (.ref C_TurnedStretch)
  ox_TurnedStretch : OexC K C_TurnedStretch
  xf_TurnedStretch : XfC K C_TurnedStretch
  iC_TurnedStretch : PySem.W.findIn K (.ref C_TurnedStretch) "__init__" = some (some (.ref f_TurnedStretch___init__))
  tI_TurnedStretch : PySem.W.typeIn K (.ref f_TurnedStretch___init__) = some (.type "function")
  nf_TurnedStretch_low : PySem.W.findIn K (.ref C_TurnedStretch) "low" = some none
  nf_TurnedStretch_high : PySem.W.findIn K (.ref C_TurnedStretch) "high" = some none
  em_TurnedStretch_TurnedStretch : PySem.W.exmOne K (.ref C_TurnedStretch) (.ref C_TurnedStretch) = some true
  is_TurnedStretch_TurnedStretch : PySem.W.isIn K (.ref C_TurnedStretch) C_TurnedStretch = true
  g_BadOffset : mg "BadOffset" = some (.ref C_BadOffset)
  ox_BadOffset : OexC K C_BadOffset
  xf_BadOffset : XfC K C_BadOffset
  iC_BadOffset : PySem.W.findIn K (.ref C_BadOffset) "__init__" = some (some (.ref f_BadOffset___init__))
  tI_BadOffset : PySem.W.typeIn K (.ref f_BadOffset___init__) = some (.type "function")
  nf_BadOffset_rows : PySem.W.findIn K (.ref C_BadOffset) "rows" = some none
  nf_BadOffset_groups : PySem.W.findIn K (.ref C_BadOffset) "groups" = some none
  nf_BadOffset_distance : PySem.W.findIn K (.ref C_BadOffset) "distance" = some none
  em_BadOffset_BadOffset : PySem.W.exmOne K (.ref C_BadOffset) (.ref C_BadOffset) = some true
  is_BadOffset_BadOffset : PySem.W.isIn K (.ref C_BadOffset) C_BadOffset = true
  g_Offset : mg "Offset" = some (.ref C_Offset)
  c_Offset : Cls K C_Offset
  m_Offset : Mk K C_Offset f_Offset___init__
  nf_Offset_rows : NoAttr K C_Offset "rows"
  nf_Offset_groups : NoAttr K C_Offset "groups"
  nf_Offset_distance : NoAttr K C_Offset "distance"
  nf_Offset_zone : NoAttr K C_Offset "zone"
  mt_Offset___neg__ : Meth K C_Offset "__neg__" f_Offset___neg__
  ca_Offset : PySem.W.findIn K (.ref C_Offset) "__class__" = some (some (.builtin "object.__class__"))
  cn_Offset : PySem.W.specialIn K (.builtin "object.__class__") "__get__" = some (some (.builtin "getset_descriptor.__get__"))
  ct_Offset : PySem.W.takesIn K (.builtin "object.__class__") = some true
  cm_Offset : PySem.W.mroIn K C_Offset (.type "object") = some true
  g_Side : mg "Side" = some (.ref C_Side)
  c_Side : Cls K C_Side
  m_Side : Mk K C_Side f_Side___init__
  nf_Side_line : NoAttr K C_Side "line"
  nf_Side_grid : NoAttr K C_Side "grid"
  mt_Side___eq__ : Meth K C_Side "__eq__" f_Side___eq__
  ca_Side : PySem.W.findIn K (.ref C_Side) "__class__" = some (some (.builtin "object.__class__"))
  cn_Side : PySem.W.specialIn K (.builtin "object.__class__") "__get__" = some (some (.builtin "getset_descriptor.__get__"))
  ct_Side : PySem.W.takesIn K (.builtin "object.__class__") = some true
  cm_Side : PySem.W.mroIn K C_Side (.type "object") = some true
  nt_Side : PySem.W.notFirst K C_Side (.ref C_Side) = true
  g_Weights : mg "Weights" = some (.ref C_Weights)
  c_Weights : Cls K C_Weights
  m_Weights : Mk K C_Weights f_Weights___init__
  nf_Weights_self_weight : NoAttr K C_Weights "self_weight"
  nf_Weights_back : NoAttr K C_Weights "back"
  nf_Weights_ahead : NoAttr K C_Weights "ahead"
  mt_Weights_at : Meth K C_Weights "at" f_Weights_at
  mt_Weights___eq__ : Meth K C_Weights "__eq__" f_Weights___eq__
  mt_Weights___bool__ : Meth K C_Weights "__bool__" f_Weights___bool__
  mt_Weights_cells : Meth K C_Weights "cells" f_Weights_cells
  ca_Weights : PySem.W.findIn K (.ref C_Weights) "__class__" = some (some (.builtin "object.__class__"))
  cn_Weights : PySem.W.specialIn K (.builtin "object.__class__") "__get__" = some (some (.builtin "getset_descriptor.__get__"))
  ct_Weights : PySem.W.takesIn K (.builtin "object.__class__") = some true
  cm_Weights : PySem.W.mroIn K C_Weights (.type "object") = some true
  nt_Weights : PySem.W.notFirst K C_Weights (.ref C_Weights) = true
  nt_Weights_Region : PySem.W.notFirst K C_Weights (.ref C_Region) = true
  ki_Weights_Region : PySem.W.kitOne K (.ref C_Region) (.ref C_Weights) = some false
  g_Region : mg "Region" = some (.ref C_Region)
  c_Region : Cls K C_Region
  m_Region : Mk K C_Region f_Region___init__
  nf_Region_weights : NoAttr K C_Region "weights"
  mt_Region___and__ : Meth K C_Region "__and__" f_Region___and__
  mt_Region___or__ : Meth K C_Region "__or__" f_Region___or__
  mt_Region___sub__ : Meth K C_Region "__sub__" f_Region___sub__
  mt_Region___xor__ : Meth K C_Region "__xor__" f_Region___xor__
  mt_Region___invert__ : Meth K C_Region "__invert__" f_Region___invert__
  mt_Region___neg__ : Meth K C_Region "__neg__" f_Region___neg__
  mt_Region___contains__ : Meth K C_Region "__contains__" f_Region___contains__
  mt_Region___eq__ : Meth K C_Region "__eq__" f_Region___eq__
  mt_Region___bool__ : Meth K C_Region "__bool__" f_Region___bool__
  mt_Region_cells : Meth K C_Region "cells" f_Region_cells
  ca_Region : PySem.W.findIn K (.ref C_Region) "__class__" = some (some (.builtin "object.__class__"))
  cn_Region : PySem.W.specialIn K (.builtin "object.__class__") "__get__" = some (some (.builtin "getset_descriptor.__get__"))
  ct_Region : PySem.W.takesIn K (.builtin "object.__class__") = some true
  cm_Region : PySem.W.mroIn K C_Region (.type "object") = some true
  ne_Region : PySem.W.findIn K (.ref C_Region) "__ne__" = some (some (.builtin "object.__ne__"))
  ob_Region : PySem.W.subIn K (.ref C_Region) (.type "object") = some true
  nt_Region : PySem.W.notFirst K C_Region (.ref C_Region) = true
  sf_Region : PySem.W.selfFirst K C_Region = true
  no_Region_or : noI K C_Region "or" = true
  no_Region_and : noI K C_Region "and" = true
  no_Region_sub : noI K C_Region "sub" = true
  no_Region_xor : noI K C_Region "xor" = true
  nt_Region_int : PySem.W.notFirst K C_Region (.type "int") = true
  ki_Region_int : PySem.W.kitOne K (.type "int") (.ref C_Region) = some false
  nt_Region_str : PySem.W.notFirst K C_Region (.type "str") = true
  ki_Region_str : PySem.W.kitOne K (.type "str") (.ref C_Region) = some false
  nt_Region_list : PySem.W.notFirst K C_Region (.type "list") = true
  ki_Region_list : PySem.W.kitOne K (.type "list") (.ref C_Region) = some false
  nt_Region_Weights : PySem.W.notFirst K C_Region (.ref C_Weights) = true
  ki_Region_Weights : PySem.W.kitOne K (.ref C_Weights) (.ref C_Region) = some false
  nt_Region_Offset : PySem.W.notFirst K C_Region (.ref C_Offset) = true
  ki_Region_Offset : PySem.W.kitOne K (.ref C_Offset) (.ref C_Region) = some false
  g_Stretch : mg "Stretch" = some (.ref C_Stretch)
  c_Stretch : Cls K C_Stretch
  m_Stretch : Mk K C_Stretch f_Stretch___init__
  nf_Stretch_low : NoAttr K C_Stretch "low"
  nf_Stretch_high : NoAttr K C_Stretch "high"
  ca_Stretch : PySem.W.findIn K (.ref C_Stretch) "__class__" = some (some (.builtin "object.__class__"))
  cn_Stretch : PySem.W.specialIn K (.builtin "object.__class__") "__get__" = some (some (.builtin "getset_descriptor.__get__"))
  ct_Stretch : PySem.W.takesIn K (.builtin "object.__class__") = some true
  cm_Stretch : PySem.W.mroIn K C_Stretch (.type "object") = some true
  g_Cell : mg "Cell" = some (.ref C_Cell)
  c_Cell : Cls K C_Cell
  m_Cell : Mk K C_Cell f_Cell___init__
  nf_Cell_zone : NoAttr K C_Cell "zone"
  nf_Cell_rows : NoAttr K C_Cell "rows"
  nf_Cell_groups : NoAttr K C_Cell "groups"
  nf_Cell_distance : NoAttr K C_Cell "distance"
  ca_Cell : PySem.W.findIn K (.ref C_Cell) "__class__" = some (some (.builtin "object.__class__"))
  cn_Cell : PySem.W.specialIn K (.builtin "object.__class__") "__get__" = some (some (.builtin "getset_descriptor.__get__"))
  ct_Cell : PySem.W.takesIn K (.builtin "object.__class__") = some true
  cm_Cell : PySem.W.mroIn K C_Cell (.type "object") = some true
  kt_bool_int : PySem.W.kitOne K (.type "bool") (.type "int") = some true
  kt_int_bool : PySem.W.kitOne K (.type "int") (.type "bool") = some false
local macro_rules | `(tactic| wtm_at "rd1") => `(tactic| with_reducible first
  | ((show (_ : L2.TE) _ _ _); first | refine r_var rfl ?_ | refine r_c ?_ | refine r_op ?_ | refine r_lst ?_ | refine r_andV ?_ | refine r_orV ?_ | refine r_cb ?_ | refine r_call ?_ | refine r_bm ?_ | refine r_ife ?_ | refine r_sl ?_ | refine r_notV ?_ | refine r_fld ?_ | refine r_lc ?_ | refine r_un ?_ | refine r_tup ?_ | refine r_callN ?_ | refine r_meth ?_ | refine r_make ?_ | refine r_binS ?_ | refine r_makeS ?_ | refine r_makeKS ?_ | refine r_xf ?_ | refine r_makeN ?_ | refine r_makeNS ?_ | refine r_dgt ?_ | refine r_dnewT ?_ | refine r_tupRg ?_)
  | ((show (_ : L2.TA) _ _ _); first | refine r_cons ?_ | refine r_nil ?_ | refine r_star ?_)
  | ((show (_ : L2.TS) _ _ _); first | refine r_seq ?_ | refine r_ifs ?_ | refine r_next ?_ | refine r_asg ?_ | refine r_ret ?_ | refine r_drop ?_ | refine r_sfld ?_ | refine r_par ?_ | refine r_par3 ?_ | refine r_ost ?_ | refine r_dput ?_ | refine r_aug rfl ?_)
  | refine r_bl ?_
  | ((show (_ : L2.TT) _ _ _); first | refine r_test ?_ | refine r_or ?_ | refine r_and ?_ | refine r_tB ?_ | refine r_not ?_ | refine r_dnin ?_)
  | ((show (_ : L2.V → L2.St → L2.Hp → (L2.St → L2.Hp → Prop) → Prop) _ _ _ _); first | refine r_gname ?_ | refine r_gsub ?_)
  | ((show (_ : L2.V → L2.V → L2.Hp → L2.VK → Prop) _ _ _ _); first | refine r_eqI ?_ | refine r_eqS ?_ | refine r_I0 ?_ | refine r_neB ?_ | refine r_neI ?_ | refine r_isNn ?_ | refine r_isNi ?_ | refine r_notNn ?_ | refine r_notNi ?_ | refine r_isNr ?_ | refine r_notNr ?_ | refine r_isNe ?_ | refine r_notNe ?_ | refine r_eqB ?_ | refine r_neS ?_ | refine r_ipI ?_)
  | refine r_pti ?_
  | ((show (_ : L2.TO) _ _ _); first | refine r_np ?_ | refine r_pt ?_)
  | ((show (_ : L2.TI) _ _ _); first | refine r_il ?_ | refine r_it ?_ | refine r_rng1 ?_ | refine r_rng2 ?_)
  | ((show (_ : List L2.V → L2.St → L2.Hp → (L2.St → L2.Hp → Prop) → Prop) _ _ _ _); first | refine r_gcons ?_ | refine r_gnil ?_)
  | ((show (_ : List L2.V → L2.Hp → L2.VK → Prop) _ _ _); first | refine r_int1 ?_ | refine r_intB ?_ | refine r_abs1 ?_)
  | refine r_U ?_
  | refine r_two ?_
  | refine r_three ?_)
local macro_rules | `(tactic| wtm_at "ixs") => `(tactic| first
  | ((with_reducible show rIxL _ (V.ref _) (V.int _) _ _); refine r_ixL (.inl (.inl (by assumption))) (by first | rfl | exact ati_n (by omega) | exact ati_int (by omega) (by omega)) ?_)
  | ((with_reducible show rIxT _ (V.ref _) (V.int _) _ _); refine r_ixT (.inl (.inl (by assumption))) (by first | rfl | exact ati_n (by omega) | exact ati_int (by omega) (by omega)) ?_))
local macro_rules | `(tactic| wtm_at "rd") => `(tactic| repeat first | wtm_at "rd1" | wtm_at "ixs")
local macro_rules | `(tactic| wtm_at "rdi") => `(tactic| repeat' (first | wtm_at "rd1" | wtm_at "ixs" | with_reducible refine iteT ?_ | with_reducible refine iteF ?_ | with_reducible refine iteNT ?_ | with_reducible refine iteNF ?_ | with_reducible refine r_ite (fun _ => ?_) (fun _ => ?_) | with_reducible refine r_iten (fun _ => ?_) (fun _ => ?_)))
section
variable {P : Program} {w : World} {K : PySem.W.Frag} {mg : Str → Option Value} {base : Heap}
theorem ok__law_draw (T : Txt K mg) : FnOk P w K mg base CX0 1 T.f__law_draw T.d__law_draw ["_law_draws", "_law_many"] spDraw := by
  refine T.F__law_draw.ok sc__law_draw (fun vs H Q E h => ?_) (fun cdv A outer s H vs Q E hr h => ?_)
  · obtain ⟨d, c, r, m, rfl, _⟩ := h
    rfl
  · obtain ⟨d, c, r, m, rfl, D, m0, m1, q⟩ := h
    obtain ⟨dc, dr, cr, ns, rs, t, h1, h2, h3, hl, hp, ht, hn⟩ := D
    refine ⟨_, (pss_cons (ps_set (i := 2) sc__law_draw.nd rfl (by first | exact Or.inl rfl | exact Or.inr rfl) (pe_ix (r := rIxL K) ix_list (pv 0) pe_int (fun _ _ => rfl)))
      (pss_cons (ps_asg (pe_op op_add (pv 2) pe_int) (pg_sub (pv 0) pe_int set_list))
      (pss_cons (ps_set (i := 3) sc__law_draw.nd rfl (by first | exact Or.inl rfl | exact Or.inr rfl) (pe_op op_mod (pe_callTy c_int1 (by rfl) T.z_int (by decide +kernel) (pa_cons (pv 2) pa_nil)) (pe_callB (r := rLenL K) (id := "len") c_len (by rfl) T.z_len (by decide +kernel) (pa_cons (pe_ix (r := rIxL K) ix_list (pv 0) pe_int (fun _ _ => rfl)) pa_nil))))
      (pss_cons (ps_set (i := 4) sc__law_draw.nd rfl (by first | exact Or.inl rfl | exact Or.inr rfl) (pe_ix (r := rIxL K) ix_list (pe_ix (r := rIxL K) ix_list (pv 0) pe_int (fun _ _ => rfl)) (pv 3) (fun _ _ => rfl)))
      (pss_cons (ps_if (pt_cmpR op_gt (pe_ix (r := rIxL K) ix_list (pe_ix (r := rIxL K) ix_list (pv 0) pe_int (fun _ _ => rfl)) (pv 3) (fun _ _ => rfl)) pe_int (nomark _)) (pss_cons (ps_set (i := 5) sc__law_draw.nd rfl (by first | exact Or.inl rfl | exact Or.inr rfl) (pe_op op_mod (pe_callTy c_int1 (by rfl) T.z_int (by decide +kernel) (pa_cons (pe_ix (r := rIxL K) ix_list (pe_ix (r := rIxL K) ix_list (pv 0) pe_int (fun _ _ => rfl)) (pv 3) (fun _ _ => rfl)) pa_nil)) (pv 1)))
      (pss_cons (ps_asg (pe_op op_fdivW (pe_ix (r := rIxL K) ix_list (pe_ix (r := rIxL K) ix_list (pv 0) pe_int (fun _ _ => rfl)) (pv 3) (fun _ _ => rfl)) (pv 1)) (pg_sub (pe_ix (r := rIxL K) ix_list (pv 0) pe_int (fun _ _ => rfl)) (pv 3) set_list))
      (pss_one (ps_ret (pv 5))))) pss_nil)
      (pss_cons (ps_set (i := 6) sc__law_draw.nd rfl (by first | exact Or.inl rfl | exact Or.inr rfl) (pe_op op_mod (pe_callTy c_int1 (by rfl) T.z_int (by decide +kernel) (pa_cons (pe_op op_mul (pe_op op_add (pe_op op_mod (pe_callTy c_int1 (by rfl) T.z_int (by decide +kernel) (pa_cons (pv 4) pa_nil)) pe_int) pe_int) (pe_op op_add (pv 2) pe_int)) pa_nil)) pe_int))
      (pss_cons (ps_set (i := 7) sc__law_draw.nd rfl (by first | exact Or.inl rfl | exact Or.inr rfl) (pe_op op_add (pe_op op_mod (pe_callTy c_int1 (by rfl) T.z_int (by decide +kernel) (pa_cons (pv 4) pa_nil)) pe_int) (pe_op op_mul pe_int (pv 2))))
      (pss_cons (ps_set (i := 8) sc__law_draw.nd rfl (by first | exact Or.inl rfl | exact Or.inr rfl) (pe_op op_mod (pe_callTy c_int1 (by rfl) T.z_int (by decide +kernel) (pa_cons (pe_op op_add (pe_op op_add (pe_op op_mul (pv 6) (pv 6)) (pe_op op_mul pe_int (pv 6))) (pv 7)) pa_nil)) pe_int))
      (pss_cons (ps_set (i := 9) sc__law_draw.nd rfl (by first | exact Or.inl rfl | exact Or.inr rfl) (pe_op op_add (pe_op op_mul (pe_op op_mod (pe_callTy c_int1 (by rfl) T.z_int (by decide +kernel) (pa_cons (pv 8) pa_nil)) pe_int) pe_int) (pe_op op_mul (pe_op op_fdivW (pv 8) pe_int) pe_int)))
      (pss_cons (ps_set (i := 10) sc__law_draw.nd rfl (by first | exact Or.inl rfl | exact Or.inr rfl) (pe_op op_mod (pe_callTy c_int1 (by rfl) T.z_int (by decide +kernel) (pa_cons (pe_op op_add (pv 9) (pv 6)) pa_nil)) pe_int))
      (pss_cons (ps_if (pt_cmpR op_le (pv 1) pe_int (nomark _)) (pss_one (ps_ret (pe_op op_mod (pe_callTy c_int1 (by rfl) T.z_int (by decide +kernel) (pa_cons (pv 10) pa_nil)) (pv 1)))) pss_nil)
      (pss_one (ps_ret (pe_op op_mod (pe_callTy c_int1 (by rfl) T.z_int (by decide +kernel) (pa_cons (pe_op op_add (pe_op op_mul (pv 10) pe_int) (pv 8)) pa_nil)) (pv 1))))))))))))))), ?_⟩
    try simp only [nox_K, cx_K]
    wtm_at "rd"
    refine r_setL (n := 2) h1 rfl ?_
    have g1 : (upd H d (.lst ([.ref c, .ref r, .int t].set 2 (.int (t + 1))))) d = some (.lst [.ref c, .ref r, .int (t + 1)]) := upd_same
    have g2 : (upd H d (.lst ([.ref c, .ref r, .int t].set 2 (.int (t + 1))))) c = some (.lst (ns.map V.int)) := (upd_ne dc.symm).trans h2
    have g3 : (upd H d (.lst ([.ref c, .ref r, .int t].set 2 (.int (t + 1))))) r = some (.lst (rs.map V.int)) := (upd_ne dr.symm).trans h3
    have e1 : Ext d r H (upd H d (.lst ([.ref c, .ref r, .int t].set 2 (.int (t + 1))))) := fun b o e n1 n2 => (upd_ne n1).trans e
    revert g1 g2 g3 e1
    generalize (upd H d (.lst ([.ref c, .ref r, .int t].set 2 (.int (t + 1))))) = H1
    intro g1 g2 g3 e1
    wtm_at "rd"
    refine r_lenI g2 ?_
    refine r_mod (by omega) fun at_ a0 a1 _ => ?_
    wtm_at "rd"
    refine r_ite (fun c1 => ?_) (fun c1 => ?_)
    · wtm_at "rd"
      refine r_mod m0 fun k k0 k1 _ => ?_
      wtm_at "rd"
      refine r_fdiv m0 m1 fun z z0 _ => ?_
      wtm_at "rd"
      refine r_setL g3 (ixn_in a0 (by rw [List.length_map]; omega)) ?_
      wtm_at "rd"
      refine q k _ k0 k1 ⟨dc, dr, cr, ns, rs.set at_.toNat z, t + 1, (upd_ne dr).trans g1, (upd_ne cr).trans g2, ?_, ?_, hp, by omega, ?_⟩ (fun b o e n1 n2 => (upd_ne n2).trans (e1 b o e n1 n2))
      · rw [upd_same, List.map_set]
      · rw [List.length_set]; exact hl
      · intro x hx
        rcases List.mem_or_eq_of_mem_set hx with e | e
        · exact hn x e
        · rw [e]; exact z0 (by omega)
    · wtm_at "rd"
      refine r_mod (by decide) fun x1 l1 u1 _ => ?_
      wtm_at "rd"
      refine r_mul (.inl ⟨by omega, by omega⟩) fun x2 _ => ?_
      wtm_at "rd"
      refine r_mod (by decide) fun first f0 f1 _ => ?_
      wtm_at "rd"
      refine r_mod (by decide) fun x3 l3 u3 _ => ?_
      wtm_at "rd"
      refine r_mul (.inl ⟨by omega, by omega⟩) fun x4 _ => ?_
      wtm_at "rd"
      refine r_mul (.inl ⟨by omega, by omega⟩) fun x5 _ => ?_
      wtm_at "rd"
      refine r_mul (.inl ⟨by omega, by omega⟩) fun x6 _ => ?_
      wtm_at "rd"
      refine r_mod (by decide) fun second s0 s1 _ => ?_
      wtm_at "rd"
      refine r_mod (by decide) fun x7 l7 u7 _ => ?_
      wtm_at "rd"
      refine r_mul (.inl ⟨by omega, by omega⟩) fun x8 _ => ?_
      wtm_at "rd"
      refine r_fdiv (by decide) (by decide) fun x9 _ _ => ?_
      wtm_at "rd"
      refine r_mul (.inr ⟨by omega, by omega⟩) fun x10 _ => ?_
      wtm_at "rd"
      refine r_mod (by decide) fun third t0 t1 _ => ?_
      wtm_at "rd"
      refine r_ite (fun c2 => ?_) (fun c2 => ?_)
      · wtm_at "rd"
        refine r_mod m0 fun k k0 k1 _ => ?_
        exact q k _ k0 k1 ⟨dc, dr, cr, ns, rs, t + 1, g1, g2, g3, hl, hp, by omega, hn⟩ e1
      · wtm_at "rd"
        refine r_mul (.inl ⟨by omega, by omega⟩) fun x11 _ => ?_
        wtm_at "rd"
        refine r_mod m0 fun k k0 k1 _ => ?_
        exact q k _ k0 k1 ⟨dc, dr, cr, ns, rs, t + 1, g1, g2, g3, hl, hp, by omega, hn⟩ e1
theorem ok__law_begin (T : Txt K mg) : FnOk P w K mg base CX0 1 T.f__law_begin T.d__law_begin ["_law_script"] (spBegin K) := by
  refine T.F__law_begin.ok sc__law_begin (fun vs H Q E h => ?_) (fun cdv A outer s H vs Q E hr h => ?_)
  · obtain ⟨a, ns, rfl, _⟩ := h
    rfl
  obtain ⟨a, ns, rfl, hS, hlen, q⟩ := h
  refine ⟨_, (pss_cons (ps_setLc (i := 1) (own := [("_law_cell", 2)]) (g := gName 2) (tt := tYes) rfl sc__law_begin.nd rfl rfl (sw_true rfl rfl rfl (by decide +kernel)) (pi_list (pe_slice sl_list (pv 0) po_none (po_some pe_int))) (blkOk_by (N := ["_law_script", "_law_cells", "_law_cell"]) (sc := defScope s__law_begin) (by decide +kernel)) (fun _ _ _ _ _ => pg_name (i := 2) sc__law_begin.nd rfl (by first | exact Or.inl rfl | exact Or.inr rfl)) (fun _ _ _ _ _ => pts_nil) (fun _ _ _ _ _ => (pe_callTy c_int1 (by rfl) T.z_int (by decide +kernel) (pa_cons (pv 2) pa_nil))))
      (C8.pss_cut (ps_if (pt_cmpR op_eq (pe_callB (r := rLenL K) (id := "len") c_len (by rfl) T.z_len (by decide +kernel) (pa_cons (pv 1) pa_nil)) pe_int (nomark _)) (pss_one (ps_set (i := 1) sc__law_begin.nd rfl (by first | exact Or.inl rfl | exact Or.inr rfl) (pe_lst (pa_cons pe_int pa_nil)))) pss_nil)
      (pss_one (ps_ret (pe_lst (pa_cons (pv 1) (pa_cons (pe_lc (own := [("_law_cell", 2)]) (g := gName 2) (tt := tYes) rfl sc__law_begin.nd (pi_list (pv 1)) (blkOk_by (N := ["_law_script", "_law_cells", "_law_cell"]) (sc := defScope s__law_begin) (by decide +kernel)) (fun _ _ _ _ _ => pg_name (i := 2) sc__law_begin.nd rfl (by first | exact Or.inl rfl | exact Or.inr rfl)) (fun _ _ _ _ _ => pts_nil) (fun _ _ _ _ _ => (pe_op op_mul (pe_callB c_abs (by rfl) T.z_abs (by decide +kernel) (pa_cons (pv 2) pa_nil)) (pe_callTy c_intB (by rfl) T.z_int (by decide +kernel) (pa_cons (pe_cmpR op_ge (pe_callB c_abs (by rfl) T.z_abs (by decide +kernel) (pa_cons (pv 2) pa_nil)) (pe_op op_pow pe_int pe_int) (nomark _)) pa_nil))))) (pa_cons pe_int pa_nil)))))))), ?_⟩
  try simp only [nox_K, cx_K]
  wtm_at "rd"
  refine r_slL hS fun p np => ?_
  have s1 : Same H (upd H p (.lst (cutV (ns.map V.int) none (some 63)))) := same_new np
  have e0 : cutV (ns.map V.int) none (some 63) = ns.map V.int := cut_none (n := 63) (by rw [List.length_map]; exact hlen)
  rw [e0] at s1 ⊢
  have hp : (upd H p (.lst (ns.map V.int))) p = some (.lst (ns.map V.int)) := upd_same
  refine r_itl (SqL.of hp) ?_
  refine lc_map (fun x => x) (SqL.of hp) (by rw [List.length_map]; omega) (fun x H' QQ hx s' hQ => ?_) (fun c nc => ?_)
  · obtain ⟨y, _, rfl⟩ := List.mem_map.mp hx
    wtm_at "rd"
    exact hQ
  have s2 := s1.trans (same_new (o := .lst ((ns.map V.int).map fun x => x)) nc)
  have hc : (upd (upd H p (.lst (ns.map V.int))) c (.lst ((ns.map V.int).map fun x => x))) c = some (.lst (ns.map V.int)) := by rw [upd_same, List.map_id']
  revert s2 hc
  generalize (upd (upd H p (.lst (ns.map V.int))) c (.lst ((ns.map V.int).map fun x => x))) = H2
  intro s2 hc
  wtm_at "rd"
  refine ⟨fun σ H1 => ∃ (c : Addr) (ms : List Int) (x3 : Option V), σ = [some (.ref a), some (.ref c), x3] ∧ H1 c = some (.lst (ms.map V.int)) ∧ 0 < ms.length ∧ ms.length ≤ 63 ∧ Same H H1 ∧ H c = none, ?_, ?_⟩
  · wtm_at "rd"
    refine r_lenI hc ?_
    wtm_at "rd"
    refine r_ite (fun e => ?_) (fun e => ?_)
    · wtm_at "rd"
      refine r_new rfl fun c2 nc2 => ?_
      wtm_at "rd"
      exact ⟨c2, [0], _, rfl, upd_same, by decide, by decide, s2.trans (same_new nc2), s2.free nc2⟩
    · wtm_at "rd"
      exact ⟨c, ns, _, rfl, hc, by omega, hlen, s2, s1.free nc⟩
  rintro σ H1 ⟨c, ms, x3, rfl, hc, h0, h63, s1, nc⟩
  wtm_at "rd"
  refine r_itl (SqL.of hc) ?_
  refine lc_map restOf (SqL.of hc) (by rw [List.length_map]; omega) (fun x H' QQ hx s' hQ => ?_) (fun r nr => ?_)
  · obtain ⟨y, _, rfl⟩ := List.mem_map.mp hx
    wtm_at "rd"
    refine r_I ⟨by decide, by decide, by decide⟩ ?_
    wtm_at "rd"
    exact r_I (.inr bit_ok) hQ
  have s2 : Same H1 (upd H1 r (.lst ((ms.map V.int).map restOf))) := same_new nr
  wtm_at "rd"
  refine r_new rfl fun d nd => ?_
  have hd : H d = none := (s1.trans s2).free nd
  have hcr : c ≠ r := ne_of_none hc nr
  have hdc : d ≠ c := (ne_of_none (s2 _ _ hc) nd).symm
  have hdr : d ≠ r := (ne_of_none (upd_same (H := H1) (a := r)) nd).symm
  refine q d c r _ ⟨hdc, hdr, hcr, ms, ms.map restI, 0, upd_same, ?_, ?_, ?_, h0, by decide, ?_⟩ ((s1.trans s2).trans (same_new nd)) hd nc (s1.free nr)
  · rw [upd_ne hdc.symm]; exact s2 _ _ hc
  · rw [upd_ne hdr.symm, upd_same, rest_map]
  · rw [List.length_map]
  · intro x hx
    obtain ⟨y, _, rfl⟩ := List.mem_map.mp hx
    exact rest_nn y
end

abbrev En := Option Int
def spIns : Sp := fun vs H Q _ => ∃ (lo hi : En) (x : Int), vs = [endV lo, endV hi, .int x] ∧ Q (.bl (ins lo hi x)) H
def spStarts : Sp := fun vs H Q _ => ∃ (lo hi : En), vs = [endV lo, endV hi] ∧ ∀ a H', H a = none → H' a = some (.lst ((startsOf lo hi).map V.int)) → Same H H' → Q (.ref a) H'
def Bd (x : Int) : Prop := -4000000000000000000 ≤ x ∧ x ≤ 4000000000000000000
structure Rul where
  a : Int
  b : Int
  c : Int
def Rul.ok (ρ : Rul) : Prop := Bd ρ.a ∧ Bd ρ.b ∧ Bd ρ.c
def Rul.f (ρ : Rul) (x y : Int) : Int := ρ.a * x + ρ.b * y + ρ.c * x * y
def RulAt (H : Hp) (t : Addr) (ρ : Rul) : Prop := H t = some (.tup [.int ρ.a, .int ρ.b, .int ρ.c])
def spMix : Sp := fun vs H Q _ => ∃ (x y : Int) (t : Addr) (ρ : Rul), vs = [.int x, .int y, .ref t] ∧ RulAt H t ρ ∧ ρ.ok ∧ Bd x ∧ Bd y ∧ Q (.int (ρ.f x y)) H
def PrAt (H : Hp) (u : Addr) (p : Int × Int) : Prop := H u = some (.tup [.int p.1, .int p.2])
def LnAt (H : Hp) (a : Addr) (l : Ln) : Prop := ∃ us : List Addr, H a = some (.lst (us.map V.ref)) ∧ All2 (PrAt H) us l
theorem LnAt.same {H H' : Hp} {a : Addr} {l : Ln} (h : LnAt H a l) (s : Same H H') : LnAt H' a l := by
  obtain ⟨us, h1, h2⟩ := h
  exact ⟨us, s _ _ h1, h2.imp fun _ _ z => s _ _ z⟩
def spLineAt : Sp := fun vs H Q _ => ∃ (a : Addr) (l : Ln) (x : Int), vs = [.ref a, .int x] ∧ LnAt H a l ∧ Q (.int (lnAt l x)) H
def spClean : Sp := fun vs H Q _ => ∃ (a : Addr) (l : Ln), vs = [.ref a] ∧ LnAt H a l ∧ l.length ≤ 900 ∧ ∀ b H', H b = none → LnAt H' b (clean l) → Same H H' → Q (.ref b) H'
def spBetw : Sp := fun vs H Q _ => ∃ (lo hi : En), vs = [endV lo, endV hi] ∧ ∀ b H', H b = none → LnAt H' b (lnBetween lo hi) → Same H H' → Q (.ref b) H'
/-- the sorted union of two lists -/
structure Uni (l k u : List Int) : Prop where
  asc : u.Pairwise (· < ·)
  m : ∀ x, x ∈ u ↔ (x ∈ l ∨ x ∈ k)
def fst (l : Ln) : List Int := l.map (·.1)
def mixLn (ρ : Rul) (l k : Ln) (u : List Int) : Ln := clean (u.map fun x => (x, ρ.f (lnAt l x) (lnAt k x)))
def LnBd (l : Ln) : Prop := ∀ p ∈ l, Bd p.2
def spMixLn : Sp := fun vs H Q _ => ∃ (a b t : Addr) (l k : Ln) (ρ : Rul), vs = [.ref a, .ref b, .ref t] ∧ LnAt H a l ∧ LnAt H b k ∧ RulAt H t ρ ∧ ρ.ok ∧ LnBd l ∧ LnBd k ∧ 0 < l.length ∧ 0 < k.length ∧ l.length ≤ 29 ∧ k.length ≤ 29 ∧
  ∀ c u H', H c = none → Uni (fst l) (fst k) u → u.length ≤ l.length + k.length → LnAt H' c (mixLn ρ l k u) → Same H H' → Q (.ref c) H'
theorem lnAt_bd {l : Ln} (h : LnBd l) (x : Int) : Bd (lnAt l x) := by
  unfold lnAt
  have gen : ∀ (l : Ln) (acc : Int), Bd acc → LnBd l → Bd (l.foldl (fun acc p => if p.1 ≤ x then p.2 else acc) acc) := by
    intro l
    induction l with
    | nil => intro acc h _; exact h
    | cons p l ih =>
      intro acc ha hl
      refine ih _ ?_ fun q hq => hl q (List.mem_cons_of_mem _ hq)
      show Bd (if p.1 ≤ x then p.2 else acc)
      split
      · exact hl p List.mem_cons_self
      · exact ha
  exact gen l 0 ⟨by decide, by decide⟩ h
def stA (lo : En) : List Int := [1] ++ (match lo with | some a => if 1 < a then [a] else [] | none => [])
theorem stA_pos {x : Int} (c : 1 < x) : stA (some x) = [1, x] := by show [1] ++ (if 1 < x then [x] else []) = _; rw [if_pos c]; rfl
theorem stA_neg {x : Int} (c : ¬ 1 < x) : stA (some x) = [1] := by show [1] ++ (if 1 < x then [x] else []) = _; rw [if_neg c]; rfl
theorem stA_len (lo : En) : (stA lo).length ≤ 2 := by
  cases lo with
  | none => decide
  | some x =>
    by_cases c : 1 < x
    · rw [stA_pos c]; exact Nat.le_refl 2
    · rw [stA_neg c]; exact Nat.le_succ 1
theorem st_none (lo : En) : startsOf lo none = stA lo := List.append_nil _
theorem st_pos {lo : En} {y : Int} (c : 1 ≤ y) : startsOf lo (some y) = stA lo ++ [y + 1] := by show stA lo ++ (if 1 ≤ y then [y + 1] else []) = _; rw [if_pos c]
theorem st_neg {lo : En} {y : Int} (c : ¬ 1 ≤ y) : startsOf lo (some y) = stA lo := by show stA lo ++ (if 1 ≤ y then [y + 1] else []) = _; rw [if_neg c]; exact List.append_nil _
theorem put_sameR {H H' : Hp} {a : Addr} {o : HO} (s : Same H H') (na : H a = none) : Same H (upd H' a o) := fun b x e => (upd_ne (ne_of_none e na)).trans (s b x e)
theorem clStep_len (k : Ln) (p : Int × Int) : (Gr.clStep k p).length ≤ k.length + 1 := by
  unfold Gr.clStep
  split
  · rw [List.length_append, List.length_singleton]; exact Nat.le_refl _
  · split
    · omega
    · rw [List.length_append, List.length_singleton]; exact Nat.le_refl _
theorem clean_len : ∀ l : Ln, (clean l).length ≤ l.length := fun l => by
  have gen : ∀ (l k : Ln), (l.foldl Gr.clStep k).length ≤ k.length + l.length := by
    intro l
    induction l with
    | nil => intro k; exact Nat.le_refl _
    | cons p l ih =>
      intro k
      have h1 := ih (Gr.clStep k p)
      have h2 := clStep_len k p
      rw [List.foldl_cons, List.length_cons]
      omega
  have z := gen l []
  rw [List.length_nil, Nat.zero_add] at z
  exact z
theorem All2.unsnoc {α β : Type} {P : α → β → Prop} {as : List α} {bs : List β} {b : β} (h : All2 P as (bs ++ [b])) : ∃ cs a, as = cs ++ [a] ∧ All2 P cs bs ∧ P a b := by
  rcases Gr.snoc_cases as with e | ⟨cs, a, e⟩
  · subst e
    have := h.len
    rw [List.length_append] at this
    cases this
  · subst e
    have hl : cs.length = bs.length := by
      have := h.len
      rw [List.length_append, List.length_append] at this
      exact Nat.add_right_cancel this
    refine ⟨cs, a, rfl, ⟨hl, fun j x y hx hy => ?_⟩, ?_⟩
    · have j1 := (List.getElem?_eq_some_iff.mp hx).1
      have j2 := (List.getElem?_eq_some_iff.mp hy).1
      exact h.at_ j x y (by rw [List.getElem?_append_left j1]; exact hx) (by rw [List.getElem?_append_left j2]; exact hy)
    · refine h.at_ cs.length a b (List.getElem?_concat_length) ?_
      rw [hl]
      exact List.getElem?_concat_length
theorem none_s {H H' : Hp} {p : Addr} (s : Same H H') (h : H' p = none) : H p = none := by
  cases e : H p with
  | none => rfl
  | some o => have := s _ _ e; rw [h] at this; cases this
theorem starts_len (lo hi : En) : (startsOf lo hi).length ≤ 3 ∧ 0 < (startsOf lo hi).length := by
  have h := stA_len lo
  have h0 : 0 < (stA lo).length := by unfold stA; rw [List.length_append]; exact Nat.lt_of_lt_of_le Nat.zero_lt_one (Nat.le_add_right _ _)
  cases hi with
  | none => rw [st_none]; omega
  | some y =>
    by_cases c : 1 ≤ y
    · rw [st_pos c, List.length_append, List.length_singleton]; omega
    · rw [st_neg c]; omega
def intOf : V → Int
  | .int x => x
  | _ => 0
def ins2 (lo hi : En) (v : V) : List V := [v, .int (Gr.b2i (ins lo hi (intOf v)))]
def fstV (H : Hp) : V → V
  | .ref u => match H u with
    | some (.tup (x :: _)) => x
    | _ => .non
  | _ => .non
theorem fst_at {H : Hp} {u : Addr} {p : Int × Int} (h : PrAt H u p) : fstV H (.ref u) = .int p.1 := by unfold PrAt at h; simp only [fstV, h]
theorem r_tru {σ : L2.St} {H : Hp} {ta : TE} {K : PySem.W.Frag} {QB : Bool → Hp → Prop} (h : ta σ H fun x H' => ∃ k, TruV K x H' k ∧ QB k H') : (fun (σ : L2.St) (H : Hp) (Q : Bool → Hp → Prop) => ta σ H fun x H' => ∃ k, TruV K x H' k ∧ Q k H') σ H QB := h
theorem tru_l {K : PySem.W.Frag} {H : Hp} {a : Addr} {xs : List V} {F : Bool → Prop} (h : H a = some (.lst xs)) (q : F (!xs.isEmpty)) : ∃ k, TruV K (.ref a) H k ∧ F k := ⟨_, (show (∃ ys, SqL K H a ys ∧ _ = !ys.isEmpty) ∨ _ ∨ _ from .inl ⟨xs, SqL.of h, rfl⟩), q⟩
section
variable {P : Program} {w : World} {K : PySem.W.Frag} {mg : Str → Option Value} {base : Heap}

theorem ok_inside (T : Txt K mg) : FnOk P w K mg base CX0 1 T.f_inside T.d_inside ["low", "high", "spot"] spIns := by
  refine T.F_inside.ok sc_inside (fun vs H Q E h => ?_) (fun cdv A outer s H vs Q E hr h => ?_)
  · obtain ⟨lo, hi, x, rfl, _⟩ := h
    rfl
  obtain ⟨lo, hi, x, rfl, q⟩ := h
  refine ⟨_, (pss_one (ps_ret (pe_and (pe_or (pe_cmpR o_isN (pv 0) pe_non (nomark _)) (pe_one (pe_cmpR op_le (pv 0) (pv 2) (nomark _)))) (pe_one (pe_or (pe_cmpR o_isN (pv 1) pe_non (nomark _)) (pe_one (pe_cmpR op_le (pv 2) (pv 1) (nomark _)))))))), ?_⟩
  try simp only [nox_K, cx_K]
  unfold ins at q
  cases lo <;> cases hi <;> dsimp only [endV]
  all_goals
    wtm_at "rdi"
  all_goals
    refine bl_to q ?_
    rw [Bool.eq_iff_iff]
    simp only [Bool.and_eq_true, decide_eq_true_eq, Bool.false_eq_true, true_and, and_true, eq_self, true_iff, false_iff, iff_self]
  all_goals
    try omega
theorem ok_starts_of (T : Txt K mg) : FnOk P w K mg base CX0 1 T.f_starts_of T.d_starts_of ["low", "high"] spStarts := by
  refine T.F_starts_of.ok sc_starts_of (fun vs H Q E h => ?_) (fun cdv A outer s H vs Q E hr h => ?_)
  · obtain ⟨lo, hi, rfl, _⟩ := h
    rfl
  obtain ⟨lo, hi, rfl, q⟩ := h
  refine ⟨_, (pss_cons (ps_set (i := 2) sc_starts_of.nd rfl (by first | exact Or.inl rfl | exact Or.inr rfl) (pe_lst (pa_cons pe_int pa_nil)))
      (C8.pss_cut (ps_if (PW.pt (pw_and (pt_cmpR o_notN (pv 0) pe_non (nomark _)) (pw_and1 (pt_cmpR op_gt (pv 0) pe_int (nomark _))))) (pss_one (ps_expr (pe_bm PySem.F.plainAttrs_list PySem.F.slot_list_append PySem.F.type_list_append mt_append (pv 2) (pa_cons (pv 0) pa_nil)))) pss_nil)
      (pss_cons (ps_if (PW.pt (pw_and (pt_cmpR o_notN (pv 1) pe_non (nomark _)) (pw_and1 (pt_cmpR op_ge (pv 1) pe_int (nomark _))))) (pss_one (ps_expr (pe_bm PySem.F.plainAttrs_list PySem.F.slot_list_append PySem.F.type_list_append mt_append (pv 2) (pa_cons (pe_op op_add (pv 1) pe_int) pa_nil)))) pss_nil)
      (pss_one (ps_ret (pv 2)))))), ?_⟩
  try simp only [nox_K, cx_K]
  wtm_at "rd"
  refine r_new rfl fun a n_a => ?_
  have n_a0 := n_a
  generalize eq_a : upd _ a _ = H1
  have s_a : Same _ H1 := eq_a ▸ same_new n_a
  have h_a : H1 a = some _ := eq_a ▸ upd_same
  clear eq_a
  wtm_at "rd"
  refine ⟨fun σ' H' => σ' = [some (endV lo), some (endV hi), some (.ref a)] ∧ H' a = some (.lst ((stA lo).map V.int)) ∧ Same H H', ?_, ?_⟩
  · cases lo with
    | none =>
      dsimp only [endV]
      wtm_at "rdi"
      exact ⟨rfl, h_a, s_a⟩
    | some x =>
      dsimp only [endV]
      wtm_at "rd"
      refine iteT ?_
      wtm_at "rd"
      refine r_ite (fun c => ?_) (fun c => ?_)
      · wtm_at "rd"
        refine r_tyL (SqL.of h_a) ?_
        wtm_at "rd"
        refine r_app h_a (small1000 (by decide)) ?_
        refine ⟨rfl, ?_, put_sameR s_a n_a0⟩
        rw [upd_same, stA_pos c]
        rfl
      · wtm_at "rd"
        refine ⟨rfl, ?_, s_a⟩
        rw [stA_neg c]
        exact h_a
  rintro σ' H2 ⟨rfl, h2, s2⟩
  cases hi with
  | none =>
    dsimp only [endV]
    wtm_at "rdi"
    refine q a H2 n_a0 ?_ s2
    rw [st_none]
    exact h2
  | some y =>
    dsimp only [endV]
    wtm_at "rd"
    refine iteT ?_
    wtm_at "rd"
    refine r_ite (fun c => ?_) (fun c => ?_)
    · wtm_at "rd"
      refine r_tyL (SqL.of h2) ?_
      wtm_at "rd"
      refine r_app h2 (small1000 (by rw [List.length_map]; have := stA_len lo; omega)) ?_
      wtm_at "rd"
      refine q a _ n_a0 ?_ (put_sameR s2 n_a0)
      rw [upd_same, st_pos c, List.map_append]
      rfl
    · wtm_at "rd"
      refine q a H2 n_a0 ?_ s2
      rw [st_neg c]
      exact h2
theorem ok_mix (T : Txt K mg) : FnOk P w K mg base CX0 1 T.f_mix T.d_mix ["first", "second", "rule"] spMix := by
  refine T.F_mix.ok sc_mix (fun vs H Q E h => ?_) (fun cdv A outer s H vs Q E hr h => ?_)
  · obtain ⟨x, y, t, ρ, rfl, _⟩ := h
    rfl
  obtain ⟨x, y, t, ρ, rfl, ht, hρ, hx, hy, q⟩ := h
  refine ⟨_, (pss_one (ps_ret (pe_op op_add (pe_op op_add (pe_op op_mul (pe_ix (r := rIxT K) ix_tup (pv 2) pe_int (fun _ _ => rfl)) (pv 0)) (pe_op op_mul (pe_ix (r := rIxT K) ix_tup (pv 2) pe_int (fun _ _ => rfl)) (pv 1))) (pe_op op_mul (pe_op op_mul (pe_ix (r := rIxT K) ix_tup (pv 2) pe_int (fun _ _ => rfl)) (pv 0)) (pv 1))))), ?_⟩
  try simp only [nox_K, cx_K]
  have ht : H t = some (.tup [.int ρ.a, .int ρ.b, .int ρ.c]) := ht
  obtain ⟨⟨a1, a2⟩, ⟨b1, b2⟩, c1, c2⟩ := hρ
  obtain ⟨x1, x2⟩ := hx
  obtain ⟨y1, y2⟩ := hy
  wtm_at "rd"
  refine r_mul (.inl ⟨by omega, by omega⟩) fun k1 e1 => ?_
  wtm_at "rd"
  refine r_mul (.inl ⟨by omega, by omega⟩) fun k2 e2 => ?_
  wtm_at "rd"
  refine r_mul (.inl ⟨by omega, by omega⟩) fun k3 e3 => ?_
  wtm_at "rd"
  refine r_mul (.inr ⟨by omega, by omega⟩) fun k4 e4 => ?_
  wtm_at "rd"
  rw [e4, e3, e2, e1]
  exact q
theorem ok_line_at (T : Txt K mg) : FnOk P w K mg base CX0 1 T.f_line_at T.d_line_at ["line", "spot"] spLineAt := by
  refine T.F_line_at.ok sc_line_at (fun vs H Q E h => ?_) (fun cdv A outer s H vs Q E hr h => ?_)
  · obtain ⟨a, l, x, rfl, _⟩ := h
    rfl
  obtain ⟨a, l, x, rfl, ha, q⟩ := h
  refine ⟨_, (pss_cons (ps_set (i := 2) sc_line_at.nd rfl (by first | exact Or.inl rfl | exact Or.inr rfl) pe_int)
      (pss_cons (ps_for PassesOwn.never rfl (pi_list (pv 0)) (pg_tup (by rfl) (pgs_cons (pg_name (i := 3) sc_line_at.nd rfl (by first | exact Or.inl rfl | exact Or.inr rfl)) (pgs_cons (pg_name (i := 4) sc_line_at.nd rfl (by first | exact Or.inl rfl | exact Or.inr rfl)) pgs_nil))) (pss_one (ps_if (pt_cmpR op_le (pv 3) (pv 1) (nomark _)) (pss_one (ps_set (i := 2) sc_line_at.nd rfl (by first | exact Or.inl rfl | exact Or.inr rfl) (pv 4))) pss_nil)))
      (pss_one (ps_ret (pv 2))))), ?_⟩
  try simp only [nox_K, cx_K]
  obtain ⟨us, h1, h2⟩ := ha
  wtm_at "rd"
  refine r_for (r_il ?_)
  wtm_at "rd"
  refine r_itl (SqL.of h1) ?_
  refine for_list (K := K) (a := a) (xs := us.map V.ref) (fun i σ H' => ∃ (x3 x4 : Option V), σ = [some (.ref a), some (.int x), some (.int (lnAt (l.take i) x)), x3, x4] ∧ H' = H) ⟨_, _, rfl, rfl⟩ (fun i σ H' _ ⟨_, _, _, e⟩ => by rw [e]; exact SqL.of h1) ?_ ?_
  · rintro i v σ H' hv ⟨x3, x4, rfl, rfl⟩
    rw [List.getElem?_map] at hv
    obtain ⟨u, hu, rfl⟩ := Option.map_eq_some_iff.mp hv
    obtain ⟨p, hp, gu⟩ := h2.get hu
    have gu : H' u = some (.tup [.int p.1, .int p.2]) := gu
    have et : l.take (i + 1) = l.take i ++ [p] := by rw [List.take_add_one, hp]; rfl
    refine r_gtup (SqT.of gu) rfl ?_
    wtm_at "rd"
    refine r_ite (fun c => ?_) (fun c => ?_)
    · wtm_at "rd"
      exact ⟨_, _, by rw [et, Gr.lnAt_snoc, if_pos c]; rfl, rfl⟩
    · wtm_at "rd"
      exact ⟨_, _, by rw [et, Gr.lnAt_snoc, if_neg c]; rfl, rfl⟩
  · rintro σ H' ⟨x3, x4, rfl, rfl⟩
    wtm_at "rd"
    rw [List.length_map, h2.len, List.take_length]
    exact q
theorem ok_clean_line (T : Txt K mg) : FnOk P w K mg base CX0 1 T.f_clean_line T.d_clean_line ["line"] spClean := by
  refine T.F_clean_line.ok sc_clean_line (fun vs H Q E h => ?_) (fun cdv A outer s H vs Q E hr h => ?_)
  · obtain ⟨a, l, rfl, _⟩ := h
    rfl
  obtain ⟨a, l, rfl, ha, lz, q⟩ := h
  refine ⟨_, (pss_cons (ps_set (i := 1) sc_clean_line.nd rfl (by first | exact Or.inl rfl | exact Or.inr rfl) (pe_lst pa_nil))
      (pss_cons (ps_for PassesOwn.never rfl (pi_list (pv 0)) (pg_tup (by rfl) (pgs_cons (pg_name (i := 2) sc_clean_line.nd rfl (by first | exact Or.inl rfl | exact Or.inr rfl)) (pgs_cons (pg_name (i := 3) sc_clean_line.nd rfl (by first | exact Or.inl rfl | exact Or.inr rfl)) pgs_nil))) (pss_one (ps_if (PW.pt (pw_or (pt_not (pt_truth (pv 1) (fun _ => rfl))) (pw_or1 (pt_cmpR op_ne (pe_ix (r := rIxT K) ix_tup (pe_ix (r := rIxL K) ix_list (pv 1) (pe_un un_neg pe_int) (fun _ _ => rfl)) pe_int (fun _ _ => rfl)) (pv 3) (nomark _))))) (pss_one (ps_expr (pe_bm PySem.F.plainAttrs_list PySem.F.slot_list_append PySem.F.type_list_append mt_append (pv 1) (pa_cons (pe_tup (pa_cons (pv 2) (pa_cons (pv 3) pa_nil))) pa_nil)))) pss_nil)))
      (pss_one (ps_ret (pv 1))))), ?_⟩
  try simp only [nox_K, cx_K]
  obtain ⟨us, h1, h2⟩ := ha
  wtm_at "rd"
  refine r_new rfl fun b n_b => ?_
  have n_b0 := n_b
  generalize eq_b : upd _ b _ = H1
  have s_b : Same _ H1 := eq_b ▸ same_new n_b
  have h_b : H1 b = some _ := eq_b ▸ upd_same
  clear eq_b
  wtm_at "rd"
  refine r_for (r_il ?_)
  wtm_at "rd"
  refine r_itl (SqL.of (s_b _ _ h1)) ?_
  refine for_list (K := K) (a := a) (xs := us.map V.ref) (fun i σ H' => ∃ (x2 x3 : Option V), σ = [some (.ref a), some (.ref b), x2, x3] ∧ LnAt H' b (clean (l.take i)) ∧ Same H H') ⟨_, _, rfl, ⟨[], h_b, All2.nil⟩, s_b⟩ (fun i σ H' _ ⟨_, _, _, _, s⟩ => SqL.of (s _ _ h1)) ?_ ?_
  · rintro i v σ H2 hv ⟨x2, x3, rfl, ⟨ks, k1, k2⟩, s2⟩
    rw [List.getElem?_map] at hv
    obtain ⟨u, hu, rfl⟩ := Option.map_eq_some_iff.mp hv
    obtain ⟨p, hp, gu⟩ := h2.get hu
    have hi := (List.getElem?_eq_some_iff.mp hp).1
    have gu2 : H2 u = some (.tup [.int p.1, .int p.2]) := s2 _ _ gu
    have et : clean (l.take (i + 1)) = Gr.clStep (clean (l.take i)) p := by rw [List.take_add_one, hp]; exact Gr.clean_snoc
    have lc : (clean (l.take i)).length ≤ 900 := by
      have := clean_len (l.take i)
      rw [List.length_take] at this
      omega
    have add : ∀ {H3 : Hp}, Same H2 H3 → (∀ q, H3 q = none → ∃ (x2 x3 : Option V), ([some (V.ref a), some (.ref b), some (.int p.1), some (.int p.2)] : L2.St) = [some (.ref a), some (.ref b), x2, x3] ∧ LnAt (upd (upd H3 q (.tup [.int p.1, .int p.2])) b (.lst (ks.map V.ref ++ [.ref q]))) b (clean (l.take i) ++ [p]) ∧ Same H (upd (upd H3 q (.tup [.int p.1, .int p.2])) b (.lst (ks.map V.ref ++ [.ref q])))) := fun {H3} s3 q nq => by
      have sq := s3.trans (same_new (o := .tup [.int p.1, .int p.2]) nq)
      have kb := sq _ _ k1
      refine ⟨_, _, rfl, ⟨ks ++ [q], by rw [upd_same, List.map_append]; rfl, All2.snoc (k2.imp fun x y z => ?_) ?_⟩, put_sameR (s2.trans sq) n_b0⟩
      · have z := sq _ _ z
        exact (upd_ne (ne_of z kb fun e => nomatch e)).trans z
      · have z : (upd H3 q (.tup [.int p.1, .int p.2])) q = some (.tup [.int p.1, .int p.2]) := upd_same
        exact (upd_ne (ne_of z kb fun e => nomatch e)).trans z
    refine r_gtup (SqT.of gu2) rfl ?_
    wtm_at "rd"
    rcases Gr.snoc_cases (clean (l.take i)) with e0 | ⟨r, x, e0⟩
    · have ek : ks = [] := by
        have z := k2.len
        rw [e0] at z
        exact List.length_eq_zero_iff.mp z
      subst ek
      have c0 : Gr.clStep (clean (l.take i)) p = clean (l.take i) ++ [p] := by rw [e0]; rfl
      rw [et, c0]
      refine tru_l (xs := []) k1 ?_
      refine iteT (iteT ?_)
      wtm_at "rd"
      refine r_tyL (SqL.of k1) ?_
      wtm_at "rd"
      refine r_new rfl fun w n_w => ?_
      wtm_at "rd"
      refine r_app (same_new n_w _ _ k1) (small1000 (Nat.zero_le _)) ?_
      exact add (fun _ _ z => z) w n_w
    · have e1 : ∃ cs w, ks = cs ++ [w] ∧ All2 (PrAt H2) cs r ∧ PrAt H2 w x := by
        rw [e0] at k2
        exact k2.unsnoc
      obtain ⟨cs, w, rfl, k3, gw⟩ := e1
      have kl := k2.len
      refine tru_l (xs := (cs ++ [w]).map V.ref) k1 ?_
      have em : (!((cs ++ [w]).map V.ref).isEmpty) = true := by rw [List.map_append]; cases cs <;> rfl
      rw [em]
      refine iteF ?_
      wtm_at "rd"
      have gw : H2 w = some (.tup [.int x.1, .int x.2]) := gw
      refine r_ixL (v := .ref w) (SqL.of k1) (by rw [List.map_append]; exact atI_last _ _) ?_
      wtm_at "rd"
      have c0 : Gr.clStep (clean (l.take i)) p = if x.2 = p.2 then clean (l.take i) else clean (l.take i) ++ [p] := by rw [e0]; unfold Gr.clStep; rw [List.getLast?_concat]
      by_cases c : x.2 = p.2
      · rw [decide_eq_true c, Bool.not_true]
        refine iteF ?_
        wtm_at "rd"
        refine ⟨_, _, rfl, ?_, s2⟩
        rw [et, c0, if_pos c]
        exact ⟨_, k1, k2⟩
      · rw [decide_eq_false c, Bool.not_false]
        refine iteT ?_
        wtm_at "rd"
        refine r_tyL (SqL.of k1) ?_
        wtm_at "rd"
        refine r_new rfl fun u n_u => ?_
        wtm_at "rd"
        refine r_app (same_new n_u _ _ k1) (small1000 (by rw [List.length_map]; omega)) ?_
        rw [et, c0, if_neg c]
        exact add (fun _ _ z => z) u n_u
  · rintro σ H2 ⟨x2, x3, rfl, hl, s2⟩
    wtm_at "rd"
    rw [List.length_map, h2.len, List.take_length] at hl
    exact q b H2 n_b0 hl s2
theorem ok_line_between (T : Txt K mg) : FnOk P w K mg base CX0 2 T.f_line_between T.d_line_between ["low", "high"] spBetw := by
  refine T.F_line_between.ok sc_line_between (fun vs H Q E h => ?_) (fun cdv A outer s H vs Q E hr h => ?_)
  · obtain ⟨lo, hi, rfl, _⟩ := h
    rfl
  obtain ⟨lo, hi, rfl, q⟩ := h
  refine ⟨_, (pss_one (ps_ret (pe_call (ok_clean_line T) (hr.mono (by decide)) (by rfl) T.g_clean_line T.F_clean_line.kp T.b_clean_line .nil pass0 (pa_cons (pe_lc (own := [("start", 2)]) (g := gName 2) (tt := tYes) rfl sc_line_between.nd (pi_list (pe_call (ok_starts_of T) (hr.mono (by decide)) (by rfl) T.g_starts_of T.F_starts_of.kp T.b_starts_of .nil pass0 (pa_cons (pv 0) (pa_cons (pv 1) pa_nil)))) (blkOk_by (N := ["low", "high", "start"]) (sc := defScope s_line_between) (by decide +kernel)) (fun _ _ _ _ _ => pg_name (i := 2) sc_line_between.nd rfl (by first | exact Or.inl rfl | exact Or.inr rfl)) (fun _ _ _ _ _ => pts_nil) (fun _ _ _ _ _ => (pe_tup (pa_cons (pv 2) (pa_cons (pe_callTy c_intB (by rfl) T.z_int (by decide +kernel) (pa_cons (pe_call (ok_inside T) (hr.mono (by decide)) (by rfl) T.g_inside T.F_inside.kp T.b_inside .nil pass0 (pa_cons (pv 0) (pa_cons (pv 1) (pa_cons (pv 2) pa_nil)))) pa_nil)) pa_nil))))) pa_nil)))), ?_⟩
  try simp only [nox_K, cx_K]
  wtm_at "rd"
  refine ⟨lo, hi, rfl, fun l H1 n_l h_l s_l => ?_⟩
  wtm_at "rd"
  have hz := starts_len lo hi
  refine r_itl (SqL.of h_l) ?_
  refine lc_tups (ins2 lo hi) (SqL.of h_l) (by rw [List.length_map]; omega) (fun x H2 QQ hx s2 hQ => ?_) fun D us H2 nD lus hD hus s2 => ?_
  · obtain ⟨y, hy, rfl⟩ := List.mem_map.mp hx
    wtm_at "rd"
    refine ⟨lo, hi, y, rfl, ?_⟩
    wtm_at "rd"
    exact r_new rfl fun u n_u => hQ u _ n_u upd_same (same_new n_u)
  have ul : us.length = (startsOf lo hi).length := by rw [lus, List.length_map]
  have hL : LnAt H2 D ((startsOf lo hi).map fun u => (u, Gr.b2i (ins lo hi u))) := ⟨us, hD, by rw [ul, List.length_map], fun j u p e1 e2 => by
    rw [List.getElem?_map] at e2
    obtain ⟨y, hy, rfl⟩ := Option.map_eq_some_iff.mp e2
    exact hus j u (.int y) e1 (by rw [List.getElem?_map, hy]; rfl)⟩
  wtm_at "rd"
  refine ⟨D, _, rfl, hL, by rw [List.length_map]; omega, fun b H3 n_b h_b s3 => ?_⟩
  exact q b H3 (none_s (s_l.trans s2) n_b) h_b ((s_l.trans s2).trans s3)
theorem ok_mix_lines (T : Txt K mg) : FnOk P w K mg base CX0 2 T.f_mix_lines T.d_mix_lines ["first", "second", "rule"] spMixLn := by
  refine T.F_mix_lines.ok sc_mix_lines (fun vs H Q E h => ?_) (fun cdv A outer s H vs Q E hr h => ?_)
  · obtain ⟨a, b, t, l, k, ρ, rfl, _⟩ := h
    rfl
  obtain ⟨a, b, t, l, k, ρ, rfl, ha, hb, ht, hρ, bl, bk, l0, k0, l1, k1, q⟩ := h
  refine ⟨_, (pss_cons (ps_set (i := 3) sc_mix_lines.nd rfl (by first | exact Or.inl rfl | exact Or.inr rfl) (pe_callB (r := rSortedSet w) (cr_sortedSet rfl) (by rfl) T.z_sorted (by decide +kernel) (pa_cons (pe_op (r := SOr.rOrSet w) SOr.op_orSet (pe_callTy (r := SOr.rSetI K w) (SOr.cr_setI rfl) (by rfl) T.z_set (by decide +kernel) (pa_cons (pe_lc (own := [("one", 6)]) (g := gName 6) (tt := tYes) rfl sc_mix_lines.nd (pi_list (pv 0)) (blkOk_by (N := ["first", "second", "rule", "starts", "line", "start", "one"]) (sc := defScope s_mix_lines) (by decide +kernel)) (fun _ _ _ _ _ => pg_name (i := 6) sc_mix_lines.nd rfl (by first | exact Or.inl rfl | exact Or.inr rfl)) (fun _ _ _ _ _ => pts_nil) (fun _ _ _ _ _ => (pe_ix (r := rIxT K) ix_tup (pv 6) pe_int (fun _ _ => rfl)))) pa_nil)) (pe_callTy (r := SOr.rSetI K w) (SOr.cr_setI rfl) (by rfl) T.z_set (by decide +kernel) (pa_cons (pe_lc (own := [("one", 6)]) (g := gName 6) (tt := tYes) rfl sc_mix_lines.nd (pi_list (pv 1)) (blkOk_by (N := ["first", "second", "rule", "starts", "line", "start", "one"]) (sc := defScope s_mix_lines) (by decide +kernel)) (fun _ _ _ _ _ => pg_name (i := 6) sc_mix_lines.nd rfl (by first | exact Or.inl rfl | exact Or.inr rfl)) (fun _ _ _ _ _ => pts_nil) (fun _ _ _ _ _ => (pe_ix (r := rIxT K) ix_tup (pv 6) pe_int (fun _ _ => rfl)))) pa_nil))) pa_nil)))
      (pss_cons (ps_set (i := 4) sc_mix_lines.nd rfl (by first | exact Or.inl rfl | exact Or.inr rfl) (pe_lst pa_nil))
      (pss_cons (ps_for PassesOwn.never rfl (pi_list (pv 3)) (pg_name (i := 5) sc_mix_lines.nd rfl (by first | exact Or.inl rfl | exact Or.inr rfl)) (pss_one (ps_expr (pe_bm PySem.F.plainAttrs_list PySem.F.slot_list_append PySem.F.type_list_append mt_append (pv 4) (pa_cons (pe_tup (pa_cons (pv 5) (pa_cons (pe_call (ok_mix T) (hr.mono (by decide)) (by rfl) T.g_mix T.F_mix.kp T.b_mix .nil pass0 (pa_cons (pe_call (ok_line_at T) (hr.mono (by decide)) (by rfl) T.g_line_at T.F_line_at.kp T.b_line_at .nil pass0 (pa_cons (pv 0) (pa_cons (pv 5) pa_nil))) (pa_cons (pe_call (ok_line_at T) (hr.mono (by decide)) (by rfl) T.g_line_at T.F_line_at.kp T.b_line_at .nil pass0 (pa_cons (pv 1) (pa_cons (pv 5) pa_nil))) (pa_cons (pv 2) pa_nil)))) pa_nil))) pa_nil)))))
      (pss_one (ps_ret (pe_call (ok_clean_line T) (hr.mono (by decide)) (by rfl) T.g_clean_line T.F_clean_line.kp T.b_clean_line .nil pass0 (pa_cons (pv 4) pa_nil))))))), ?_⟩
  try simp only [nox_K, cx_K]
  obtain ⟨us, a1, a2⟩ := id ha
  obtain ⟨ws, b1, b2⟩ := id hb
  have lu := a2.len
  have lw := b2.len
  wtm_at "rd"
  refine r_itl (SqL.of a1) ?_
  refine lc_map (fstV H) (SqL.of a1) (by rw [List.length_map]; omega) (fun v H' QQ hv s' hQ => ?_) fun la n_la => ?_
  · obtain ⟨u, hu, rfl⟩ := List.mem_map.mp hv
    obtain ⟨j, hj⟩ := List.getElem?_of_mem hu
    obtain ⟨p, _, hp⟩ := a2.get hj
    rw [fst_at hp] at hQ
    have hp : H' u = some (.tup [.int p.1, .int p.2]) := s' _ _ hp
    wtm_at "rd"
    exact hQ
  have ea : (us.map V.ref).map (fstV H) = (fst l).map V.int := by
    rw [fst, List.map_map, List.map_map]
    exact a2.map fun x y h => fst_at h
  rw [ea]
  generalize eq_la : upd _ la _ = H1
  have s_la : Same _ H1 := eq_la ▸ same_new n_la
  have h_la : H1 la = some _ := eq_la ▸ upd_same
  clear eq_la
  have b1 := s_la _ _ b1
  wtm_at "rd"
  refine ⟨la, fst l, rfl, SqL.of h_la, by rw [fst, List.length_map]; omega, by rw [fst, List.length_map]; omega, fun sa ca n_sa ca0 ca1 => ?_⟩
  rw [fst, List.length_map] at ca1
  generalize eq_sa : upd _ sa _ = H2
  have s_sa : Same _ H2 := eq_sa ▸ same_new n_sa
  have h_sa : H2 sa = some _ := eq_sa ▸ upd_same
  clear eq_sa
  have b1 := s_sa _ _ b1
  have s_la := s_la.trans s_sa
  have hb2 : All2 (PrAt H2) ws k := b2.imp fun _ _ z => s_la _ _ z
  wtm_at "rd"
  refine r_itl (SqL.of b1) ?_
  refine lc_map (fstV H2) (SqL.of b1) (by rw [List.length_map]; omega) (fun v H' QQ hv s' hQ => ?_) fun lb n_lb => ?_
  · obtain ⟨u, hu, rfl⟩ := List.mem_map.mp hv
    obtain ⟨j, hj⟩ := List.getElem?_of_mem hu
    obtain ⟨p, _, hp⟩ := hb2.get hj
    rw [fst_at hp] at hQ
    have hp : H' u = some (.tup [.int p.1, .int p.2]) := s' _ _ hp
    wtm_at "rd"
    exact hQ
  have eb : (ws.map V.ref).map (fstV H2) = (fst k).map V.int := by
    rw [fst, List.map_map, List.map_map]
    exact hb2.map fun x y h => fst_at h
  rw [eb]
  generalize eq_lb : upd _ lb _ = H3
  have s_lb : Same _ H3 := eq_lb ▸ same_new n_lb
  have h_lb : H3 lb = some _ := eq_lb ▸ upd_same
  clear eq_lb
  have h_sa := s_lb _ _ h_sa
  have s_la := s_la.trans s_lb
  wtm_at "rd"
  refine ⟨lb, fst k, rfl, SqL.of h_lb, by rw [fst, List.length_map]; omega, by rw [fst, List.length_map]; omega, fun sb cb n_sb cb0 cb1 => ?_⟩
  rw [fst, List.length_map] at cb1
  have sab : sa ≠ sb := fun e => by subst e; rw [h_sa] at n_sb; cases n_sb
  generalize eq_sb : upd _ sb _ = H4
  have s_sb : Same _ H4 := eq_sb ▸ same_new n_sb
  have h_sb : H4 sb = some _ := eq_sb ▸ upd_same
  clear eq_sb
  have h_sa := s_sb _ _ h_sa
  have s_la := s_la.trans s_sb
  wtm_at "rd"
  refine ⟨sa, sb, _, _, ca, cb, rfl, rfl, sab, h_sa, h_sb, ca0, by omega, fun so co n_so co1 => ?_⟩
  generalize eq_so : upd _ so _ = H5
  have s_so : Same _ H5 := eq_so ▸ same_new n_so
  have h_so : H5 so = some _ := eq_so ▸ upd_same
  clear eq_so
  have s_la := s_la.trans s_so
  wtm_at "rd"
  refine ⟨so, _, co, rfl, h_so, by omega, fun ns p asc mem len n_p => ?_⟩
  have hu : Uni (fst l) (fst k) ns := ⟨asc, fun x => by rw [mem]; simp only [Bool.or_eq_true, decide_eq_true_eq]⟩
  generalize eq_p : upd _ p _ = H6
  have s_p : Same _ H6 := eq_p ▸ same_new n_p
  have h_p : H6 p = some _ := eq_p ▸ upd_same
  clear eq_p
  have s_la := s_la.trans s_p
  wtm_at "rd"
  refine r_new rfl fun c n_c => ?_
  have n_c0 := none_s s_la n_c
  have pc : p ≠ c := fun e => by subst e; rw [h_p] at n_c; cases n_c
  generalize eq_c : upd _ c _ = H7
  have s_c : Same _ H7 := eq_c ▸ same_new n_c
  have h_c : H7 c = some _ := eq_c ▸ upd_same
  clear eq_c
  have h_p := s_c _ _ h_p
  have s_la := s_la.trans s_c
  wtm_at "rd"
  refine r_for (r_il ?_)
  wtm_at "rd"
  refine r_itl (SqL.of h_p) ?_
  refine for_list (K := K) (a := p) (xs := ns.map V.int) (fun i σ H' => ∃ x6, σ = [some (.ref a), some (.ref b), some (.ref t), some (.ref p), some (.ref c), x6, none] ∧ LnAt H' c ((ns.take i).map fun x => (x, ρ.f (lnAt l x) (lnAt k x))) ∧ H' p = some (.lst (ns.map V.int)) ∧ Same H H') ⟨_, rfl, ⟨[], h_c, All2.nil⟩, h_p, s_la⟩ (fun i σ H' _ ⟨_, _, _, h, _⟩ => SqL.of h) ?_ ?_
  · rintro i v σ G hv ⟨x6, rfl, ⟨ks, k1, k2⟩, gp, sG⟩
    rw [List.getElem?_map] at hv
    obtain ⟨x, hx, rfl⟩ := Option.map_eq_some_iff.mp hv
    have hi := (List.getElem?_eq_some_iff.mp hx).1
    have lk := k2.len
    rw [List.length_map, List.length_take] at lk
    wtm_at "rd"
    refine r_tyL (SqL.of k1) ?_
    wtm_at "rd"
    refine ⟨a, l, x, rfl, ha.same sG, ?_⟩
    wtm_at "rd"
    refine ⟨b, k, x, rfl, hb.same sG, ?_⟩
    wtm_at "rd"
    refine ⟨_, _, t, ρ, rfl, sG _ _ ht, hρ, lnAt_bd bl x, lnAt_bd bk x, ?_⟩
    wtm_at "rd"
    refine r_new rfl fun w n_w => ?_
    wtm_at "rd"
    have kc : (upd G w (.tup [.int x, .int (ρ.f (lnAt l x) (lnAt k x))])) c = some (.lst (ks.map V.ref)) := same_new n_w _ _ k1
    refine r_app kc (small1000 (by rw [List.length_map]; omega)) ?_
    have sw := same_new (o := .tup [.int x, .int (ρ.f (lnAt l x) (lnAt k x))]) n_w
    have et : ns.take (i + 1) = ns.take i ++ [x] := by rw [List.take_add_one, hx]; rfl
    refine ⟨_, rfl, ⟨ks ++ [w], by rw [upd_same, List.map_append]; rfl, ?_⟩, ?_, put_sameR (sG.trans sw) n_c0⟩
    · rw [et, List.map_append]
      refine All2.snoc (k2.imp fun y z h => ?_) ?_
      · have h := sw _ _ h
        exact (upd_ne (ne_of h kc fun e => nomatch e)).trans h
      · have z : (upd G w (.tup [.int x, .int (ρ.f (lnAt l x) (lnAt k x))])) w = some (.tup [.int x, .int (ρ.f (lnAt l x) (lnAt k x))]) := upd_same
        exact (upd_ne (ne_of z kc fun e => nomatch e)).trans z
    · exact (upd_ne pc).trans (sw _ _ gp)
  · rintro σ G ⟨x6, rfl, hl, _, sG⟩
    rw [List.length_map, List.take_length] at hl
    wtm_at "rd"
    refine ⟨c, _, rfl, hl, by rw [List.length_map]; omega, fun d H8 n_d h_d s8 => ?_⟩
    wtm_at "rd"
    exact q d ns H8 (none_s sG n_d) hu (by omega) h_d (sG.trans s8)

end

def endOf (ax : List Int) (i : Nat) : En := match ax[i + 1]? with
  | none => none
  | some b => some (b - 1)
theorem reach_end {ax : List Int} {i : Nat} {y : Int} : reach ax i y = match endOf ax i with | none => true | some e => decide (y ≤ e) := by
  unfold reach endOf
  cases ax[i + 1]? <;> rfl
def spEnd : Sp := fun vs H Q _ => ∃ (a : Addr) (i : Nat) (ax : List Int), vs = [.ref a, .int (i : Int)] ∧ H a = some (.lst (ax.map V.int)) ∧ i < ax.length ∧ Q (endV (endOf ax i)) H
def spIdx : Sp := fun vs H Q _ => ∃ (a : Addr) (x : Int) (ax : List Int), vs = [.ref a, .int x] ∧ H a = some (.lst (ax.map V.int)) ∧ ax.length ≤ 100 ∧ ax.Pairwise (· < ·) ∧ ∀ H', Same H H' → Q (.int (idx ax x : Nat)) H'
def spReach : Sp := fun vs H Q _ => ∃ (a : Addr) (i : Nat) (y : Int) (ax : List Int), vs = [.ref a, .int (i : Int), .int y] ∧ H a = some (.lst (ax.map V.int)) ∧ i < ax.length ∧ Q (.bl (reach ax i y)) H
/-- three axes; N holds of their lists -/
def AxsAt (N : Addr → Prop) (H : Hp) (t : Addr) (A : Axes) : Prop := ∃ x y z : Addr, H t = some (.tup [.ref x, .ref y, .ref z]) ∧ H x = some (.lst (A.r.map V.int)) ∧ H y = some (.lst (A.g.map V.int)) ∧ H z = some (.lst (A.d.map V.int)) ∧ N x ∧ N y ∧ N z
theorem AxsAt.same {N : Addr → Prop} {H H' : Hp} {t : Addr} {A : Axes} (h : AxsAt N H t A) (s : Same H H') : AxsAt N H' t A := by
  obtain ⟨x, y, z, h1, h2, h3, h4, h5⟩ := h
  exact ⟨x, y, z, s _ _ h1, s _ _ h2, s _ _ h3, s _ _ h4, h5⟩
structure ASz (A : Axes) : Prop where
  r : A.r.length ≤ 20
  g : A.g.length ≤ 20
  d : A.d.length ≤ 20
/-- the places, as they come -/
def plsK (A : Axes) (j k : Nat) : List Pl := if reach A.d k (A.g.getD j 0) = true then ((List.range A.r.length).filter fun i => reach A.r i (A.g.getD j 0)).map fun i => (i, j, k) else []
def plsJ (A : Axes) (j n : Nat) : List Pl := (List.range n).flatMap fun k => plsK A j k
def pls (A : Axes) : List Pl := (List.range A.g.length).flatMap fun j => plsJ A j A.d.length
def PlAt (H : Hp) (u : Addr) (p : Pl) : Prop := H u = some (.tup [.int (p.1 : Int), .int (p.2.1 : Int), .int (p.2.2 : Int)])
def NumAt (H : Hp) (u : Addr) (n : Num) : Prop := H u = some (.tup [.int n.r, .int n.g, .int n.d])
def plK (p : Pl) : List Key := [.inl (p.1 : Int), .inl (p.2.1 : Int), .inl (p.2.2 : Int)]
def wtK (A : Axes) (W : Wt) : List (List Key × V) := (pls A).map fun p => (plK p, .int (W p))
def GrAt (N : Addr → Prop) (H : Hp) (g : Addr) (A : Axes) (W : Wt) : Prop := ∃ t d : Addr, H g = some (.tup [.ref t, .ref d]) ∧ AxsAt N H t A ∧ H d = some (.dT (wtK A W))
theorem GrAt.same {N : Addr → Prop} {H H' : Hp} {g : Addr} {A : Axes} {W : Wt} (h : GrAt N H g A W) (s : Same H H') : GrAt N H' g A W := by
  obtain ⟨t, d, h1, h2, h3⟩ := h
  exact ⟨t, d, s _ _ h1, h2.same s, s _ _ h3⟩
def spPlaces : Sp := fun vs H Q _ => ∃ (t : Addr) (N : Addr → Prop) (A : Axes), vs = [.ref t] ∧ AxsAt N H t A ∧ ASz A ∧
  ∀ a us H', H a = none → H' a = some (.lst (us.map V.ref)) → All2 (PlAt H') us (pls A) → Same H H' → Q (.ref a) H'
def spNear : Sp := fun vs H Q _ => ∃ (t u : Addr) (N : Addr → Prop) (A : Axes) (p : Pl), vs = [.ref t, .ref u] ∧ AxsAt N H t A ∧ PlAt H u p ∧ inPl A p ∧
  ∀ a, H a = none → Q (.ref a) (upd H a (.tup [.int (Gr.near A p).r, .int (Gr.near A p).g, .int (Gr.near A p).d]))
def spGrAt : Sp := fun vs H Q _ => ∃ (a u : Addr) (N : Addr → Prop) (A : Axes) (W : Wt) (n : Num), vs = [.ref a, .ref u] ∧ GrAt N H a A W ∧ A.Ok ∧ ASz A ∧ NumAt H u n ∧ n.Ok ∧ ∀ H', Same H H' → Q (.int (gAt A W n)) H'
theorem mem_pls {A : Axes} {p : Pl} : p ∈ pls A ↔ inPl A p := by
  obtain ⟨i, j, k⟩ := p
  unfold pls plsJ inPl
  rw [List.mem_flatMap]
  constructor
  · rintro ⟨j', hj, h⟩
    rw [List.mem_flatMap] at h
    obtain ⟨k', hk, h⟩ := h
    rw [List.mem_range] at hj hk
    unfold plsK at h
    split at h
    · next c =>
      obtain ⟨i', hi, e⟩ := List.mem_map.mp h
      cases e
      obtain ⟨h1, h2⟩ := List.mem_filter.mp hi
      exact ⟨List.mem_range.mp h1, hj, hk, h2, c⟩
    · cases h
  · rintro ⟨h1, h2, h3, h4, h5⟩
    refine ⟨j, List.mem_range.mpr h2, List.mem_flatMap.mpr ⟨k, List.mem_range.mpr h3, ?_⟩⟩
    unfold plsK
    rw [if_pos h5]
    exact List.mem_map.mpr ⟨i, List.mem_filter.mpr ⟨List.mem_range.mpr h1, h4⟩, rfl⟩
theorem plK_inj {p q : Pl} (h : plK p = plK q) : p = q := by
  obtain ⟨a, b, c⟩ := p
  obtain ⟨a', b', c'⟩ := q
  unfold plK at h
  simp only [List.cons.injEq, Sum.inl.injEq, Int.natCast_inj, and_true] at h
  obtain ⟨h1, h2, h3⟩ := h
  subst h1 h2 h3
  rfl
theorem wt_val {W : Wt} {p : Pl} : ∀ {l : List Pl}, p ∈ l → valV (l.map fun p => (plK p, V.int (W p))) (plK p) = some (.int (W p))
  | q :: l, h => by
    by_cases e : q = p
    · subst e
      exact valV_pos rfl
    · have h : p ∈ l := by
        rcases List.mem_cons.mp h with z | z
        · exact absurd z.symm e
        · exact z
      exact (valV_neg fun z => e (plK_inj z)).trans (wt_val h)
theorem wt_none {W : Wt} {p : Pl} : ∀ {l : List Pl}, ¬ p ∈ l → valV (l.map fun p => (plK p, V.int (W p))) (plK p) = none
  | [], _ => rfl
  | q :: l, h => (valV_neg fun z => h (by rw [plK_inj z]; exact List.mem_cons_self)).trans (wt_none fun z => h (List.mem_cons_of_mem _ z))
theorem lc_tupsF {σ : L2.St} {H : Hp} {Q : VK} {te : TE} {tt : TT} {n m : Nat} {lo : Int} (f : Nat → List V) (p : Nat → Bool) (hm : m ≤ 1000)
    (ht : ∀ (i : Nat) (H' : Hp) (QT : Bool → Hp → Prop), i < m → Same H H' → QT (p i) H' → tt ((wipe σ [n]).set n (some (.int (lo + i)))) H' QT)
    (he : ∀ (i : Nat) (H' : Hp) (QQ : VK), i < m → Same H H' → (∀ u H'', H' u = none → H'' u = some (.tup (f i)) → Same H' H'' → QQ (.ref u) H'') → te ((wipe σ [n]).set n (some (.int (lo + i)))) H' QQ)
    (hq : ∀ D (us : List Addr) H', H D = none → H' D = some (.lst (us.map V.ref)) → All2 (fun u i => H' u = some (.tup (f i))) us ((List.range m).filter p) → Same H H' → Q (.ref D) H') : lcGo (Itr lo m) (gName n) tt te [n] σ Q H := by
  intro D nD
  refine lc_range (fun i H' => ∃ us : List Addr, H' D = some (.lst (us.map V.ref)) ∧ All2 (fun u i => H' u = some (.tup (f i))) us ((List.range i).filter p) ∧ Same H H') ⟨[], upd_same, All2.nil, same_new nD⟩ ?_ ?_
  · rintro i H4 hi ⟨us, hD4, hu, s4⟩
    refine ⟨wipe1, ht i H4 _ hi s4 ?_⟩
    have el : (List.range (i + 1)).filter p = (List.range i).filter p ++ (if p i = true then [i] else []) := by
      rw [List.range_succ, List.filter_append, List.filter_cons, List.filter_nil]
    cases hp : p i with
    | true =>
      rw [hp, if_pos rfl] at el
      rw [if_pos rfl, el]
      refine he i H4 _ hi s4 fun u H5 nu hu5 s5 => ?_
      have hD5 := s5 _ _ hD4
      have hl := hu.len
      have h2 := List.length_filter_le p (List.range i)
      rw [List.length_range] at h2
      refine ⟨_, hD5, small1000 (by rw [List.length_map]; omega), us ++ [u], by rw [upd_same, List.map_append]; rfl, All2.snoc (hu.imp fun x y z => ?_) ?_, fun b o e => (upd_ne (ne_of_none e nD)).trans (s5 _ _ (s4 _ _ e))⟩
      · have z := s5 _ _ z
        exact (upd_ne (ne_of z hD5 fun q => nomatch q)).trans z
      · exact (upd_ne (ne_of hu5 hD5 fun q => nomatch q)).trans hu5
    | false =>
      rw [hp, if_neg Bool.false_ne_true, List.append_nil] at el
      rw [if_neg Bool.false_ne_true, el]
      exact ⟨us, hD4, hu, s4⟩
  · rintro H4 ⟨us, hD4, hu, s4⟩
    exact hq D us H4 nD hD4 hu s4
theorem All2.app {α β : Type} {P : α → β → Prop} {as cs : List α} {bs ds : List β} (h : All2 P as bs) (k : All2 P cs ds) : All2 P (as ++ cs) (bs ++ ds) := by
  refine ⟨by rw [List.length_append, List.length_append, h.len, k.len], fun j x y h1 h2 => ?_⟩
  have hl := h.len
  rcases Nat.lt_or_ge j as.length with hj | hj
  · rw [List.getElem?_append_left hj] at h1
    rw [List.getElem?_append_left (by omega)] at h2
    exact h.at_ j x y h1 h2
  · rw [List.getElem?_append_right hj] at h1
    rw [List.getElem?_append_right (by omega), ← hl] at h2
    exact k.at_ _ x y h1 h2
theorem All2.mapR {α β γ : Type} {P : α → β → Prop} {Q : α → γ → Prop} {as : List α} {bs : List β} (g : β → γ) (h : All2 P as bs) (e : ∀ a b, P a b → Q a (g b)) : All2 Q as (bs.map g) := by
  refine ⟨by rw [List.length_map, h.len], fun j x y h1 h2 => ?_⟩
  rw [List.getElem?_map] at h2
  obtain ⟨b, hb, rfl⟩ := Option.map_eq_some_iff.mp h2
  exact e _ _ (h.at_ j x b h1 hb)
theorem cnt_snoc {l : List Int} {s x : Int} : Gr.cnt (l ++ [s]) x = Gr.cnt l x + if s ≤ x then 1 else 0 := by
  unfold Gr.cnt
  rw [List.filter_append, List.length_append, List.filter_cons, List.filter_nil]
  by_cases c : s ≤ x
  · rw [if_pos (decide_eq_true c), if_pos c]; rfl
  · rw [if_neg fun z => c (of_decide_eq_true z), if_neg c]; rfl
theorem cnt_all {l : List Int} {x : Int} (h : ∀ a ∈ l, a ≤ x) : Gr.cnt l x = l.length := by
  unfold Gr.cnt
  rw [List.filter_eq_self.mpr fun a ha => decide_eq_true (h a ha)]
theorem idx_snoc {l : List Int} {s x : Int} (asc : (l ++ [s]).Pairwise (· < ·)) : idx (l ++ [s]) x = if s ≤ x then l.length else idx l x := by
  unfold Gr.idx
  rw [cnt_snoc]
  by_cases c : s ≤ x
  · rw [if_pos c, if_pos c, cnt_all fun a ha => ?_]
    · omega
    · have := (List.pairwise_append.mp asc).2.2 a ha s List.mem_cons_self
      omega
  · rw [if_neg c, if_neg c, Nat.add_zero]
theorem plsK_len (A : Axes) (j k : Nat) : (plsK A j k).length ≤ A.r.length := by
  unfold plsK
  split
  · rw [List.length_map]
    have := List.length_filter_le (fun i => reach A.r i (A.g.getD j 0)) (List.range A.r.length)
    rwa [List.length_range] at this
  · exact Nat.zero_le _
theorem plsJ_succ (A : Axes) (j n : Nat) : plsJ A j (n + 1) = plsJ A j n ++ plsK A j n := by
  unfold plsJ
  rw [List.range_succ, List.flatMap_append, List.flatMap_cons, List.flatMap_nil, List.append_nil]
theorem plsJ_len (A : Axes) (j n : Nat) : (plsJ A j n).length ≤ n * A.r.length := by
  induction n with
  | zero => exact Nat.zero_le _
  | succ n ih =>
    rw [plsJ_succ, List.length_append, Nat.succ_mul]
    have := plsK_len A j n
    omega
def plsI (A : Axes) (m : Nat) : List Pl := (List.range m).flatMap fun j => plsJ A j A.d.length
theorem plsI_succ (A : Axes) (m : Nat) : plsI A (m + 1) = plsI A m ++ plsJ A m A.d.length := by
  unfold plsI
  rw [List.range_succ, List.flatMap_append, List.flatMap_cons, List.flatMap_nil, List.append_nil]
theorem plsI_len {A : Axes} (hz : ASz A) (m : Nat) : (plsI A m).length ≤ m * 400 := by
  induction m with
  | zero => exact Nat.zero_le _
  | succ m ih =>
    rw [plsI_succ, List.length_append, Nat.succ_mul]
    have h1 := plsJ_len A m A.d.length
    have h2 : A.d.length * A.r.length ≤ 20 * 20 := Nat.mul_le_mul hz.d hz.r
    omega
theorem pls_len {A : Axes} (hz : ASz A) : (pls A).length ≤ 8000 := by
  have := plsI_len hz A.g.length
  have h2 : A.g.length * 400 ≤ 20 * 400 := Nat.mul_le_mul_right 400 hz.g
  show (plsI A A.g.length).length ≤ 8000
  omega
section
variable {P : Program} {w : World} {K : PySem.W.Frag} {mg : Str → Option Value} {base : Heap}

theorem ok_end_of (T : Txt K mg) : FnOk P w K mg base CX0 1 T.f_end_of T.d_end_of ["starts", "index"] spEnd := by
  refine T.F_end_of.ok sc_end_of (fun vs H Q E h => ?_) (fun cdv A outer s H vs Q E hr h => ?_)
  · obtain ⟨a, i, ax, rfl, _⟩ := h
    rfl
  obtain ⟨a, i, ax, rfl, ha, hi, q⟩ := h
  refine ⟨_, (pss_cons (ps_if (pt_cmpR op_lt (pe_op op_add (pv 1) pe_int) (pe_callB (r := rLenL K) (id := "len") c_len (by rfl) T.z_len (by decide +kernel) (pa_cons (pv 0) pa_nil)) (nomark _)) (pss_one (ps_ret (pe_op op_sub (pe_ix (r := rIxL K) ix_list (pv 0) (pe_op op_add (pv 1) pe_int) (fun _ _ => rfl)) pe_int))) pss_nil)
      (pss_one (ps_ret pe_non))), ?_⟩
  try simp only [nox_K, cx_K]
  wtm_at "rd"
  refine r_lenI ha ?_
  wtm_at "rd"
  refine r_ite (fun c => ?_) (fun c => ?_)
  · have hi1 : i + 1 < ax.length := by omega
    have ee : endOf ax i = some (ax.getD (i + 1) 0 - 1) := by
      unfold endOf
      rw [List.getElem?_eq_getElem hi1, Gr.getD_of (List.getElem?_eq_getElem hi1)]
    rw [ee] at q
    wtm_at "rd"
    exact q
  · have e1 : ax[i+1]? = none := List.getElem?_eq_none (by omega)
    rw [show endOf ax i = none by unfold endOf; rw [e1]] at q
    wtm_at "rd"
    exact q
theorem ok_index_of (T : Txt K mg) : FnOk P w K mg base CX0 1 T.f_index_of T.d_index_of ["starts", "spot"] spIdx := by
  refine T.F_index_of.ok sc_index_of (fun vs H Q E h => ?_) (fun cdv A outer s H vs Q E hr h => ?_)
  · obtain ⟨a, x, ax, rfl, _⟩ := h
    rfl
  obtain ⟨a, x, ax, rfl, ha, hz, asc, q⟩ := h
  refine ⟨_, (pss_cons (ps_set (i := 2) sc_index_of.nd rfl (by first | exact Or.inl rfl | exact Or.inr rfl) pe_int)
      (pss_cons (ps_for PassesOwn.never rfl (pi_enum (by rfl) T.z_enumerate (pa_cons (pv 0) pa_nil)) (pg_tup (by rfl) (pgs_cons (pg_name (i := 3) sc_index_of.nd rfl (by first | exact Or.inl rfl | exact Or.inr rfl)) (pgs_cons (pg_name (i := 4) sc_index_of.nd rfl (by first | exact Or.inl rfl | exact Or.inr rfl)) pgs_nil))) (pss_one (ps_if (pt_cmpR op_le (pv 4) (pv 1) (nomark _)) (pss_one (ps_set (i := 2) sc_index_of.nd rfl (by first | exact Or.inl rfl | exact Or.inr rfl) (pv 3))) pss_nil)))
      (pss_one (ps_ret (pv 2))))), ?_⟩
  try simp only [nox_K, cx_K]
  wtm_at "rd"
  refine r_for (r_enum ?_)
  wtm_at "rd"
  refine ⟨a, _, rfl, SqL.of ha, ?_⟩
  refine for_it (walk_enum (K := K) (a := a) (xs := ax.map V.int)) (fun i σ H' => ∃ x3 x4 : Option V, σ = [some (.ref a), some (.int x), some (.int (idx (ax.take i) x : Nat)), x3, x4] ∧ Same H H') ⟨_, _, rfl, fun _ _ z => z⟩ (fun i σ H' _ ⟨_, _, _, s⟩ => SqL.of (s _ _ ha)) ?_ ?_
  · rintro i v σ H3 H4 hi ⟨x3, x4, rfl, s1⟩ ⟨T0, y, z, rfl, nT, rfl, hy, hz'⟩
    cases hy
    dsimp only at hz'
    rw [List.getElem?_map] at hz'
    obtain ⟨s, hs, rfl⟩ := Option.map_eq_some_iff.mp hz'
    have et : ax.take (i + 1) = ax.take i ++ [s] := by rw [List.take_add_one, hs]; rfl
    have es : idx (ax.take (i + 1)) x = if s ≤ x then i else idx (ax.take i) x := by
      rw [et, idx_snoc (by rw [← et]; exact asc.sublist (List.take_sublist _ _)), List.length_take]
      have hi := (List.getElem?_eq_some_iff.mp hs).1
      rw [Nat.min_eq_left (Nat.le_of_lt hi)]
    have sT := s1.trans (same_new (o := .tup [.int (i : Nat), .int s]) nT)
    refine r_gtup (SqT.of upd_same) rfl ?_
    wtm_at "rd"
    refine r_ite (fun c => ?_) (fun c => ?_)
    · wtm_at "rd"
      exact ⟨_, _, by rw [es, if_pos c]; rfl, sT⟩
    · wtm_at "rd"
      exact ⟨_, _, by rw [es, if_neg c]; rfl, sT⟩
  · rintro σ H3 ⟨x3, x4, rfl, s1⟩
    wtm_at "rd"
    rw [List.length_map, List.take_length]
    exact q H3 s1
theorem ok_reaches (T : Txt K mg) : FnOk P w K mg base CX0 2 T.f_reaches T.d_reaches ["starts", "index", "spot"] spReach := by
  refine T.F_reaches.ok sc_reaches (fun vs H Q E h => ?_) (fun cdv A outer s H vs Q E hr h => ?_)
  · obtain ⟨a, i, y, ax, rfl, _⟩ := h
    rfl
  obtain ⟨a, i, y, ax, rfl, ha, hi, q⟩ := h
  refine ⟨_, (pss_cons (ps_set (i := 3) sc_reaches.nd rfl (by first | exact Or.inl rfl | exact Or.inr rfl) (pe_call (ok_end_of T) (hr.mono (by decide)) (by rfl) T.g_end_of T.F_end_of.kp T.b_end_of .nil pass0 (pa_cons (pv 0) (pa_cons (pv 1) pa_nil))))
      (pss_one (ps_ret (pe_or (pe_cmpR o_isN (pv 3) pe_non (nomark _)) (pe_one (pe_cmpR op_ge (pv 3) (pv 2) (nomark _))))))), ?_⟩
  try simp only [nox_K, cx_K]
  wtm_at "rd"
  refine ⟨a, i, ax, rfl, ha, hi, ?_⟩
  rw [reach_end] at q
  cases e : endOf ax i with
  | none =>
    rw [e] at q
    dsimp only [endV]
    wtm_at "rdi"
    exact q
  | some b =>
    rw [e] at q
    dsimp only [endV]
    wtm_at "rdi"
    exact q
theorem ok_places_of (T : Txt K mg) : FnOk P w K mg base CX0 3 T.f_places_of T.d_places_of ["axes"] spPlaces := by
  refine T.F_places_of.ok sc_places_of (fun vs H Q E h => ?_) (fun cdv A outer s H vs Q E hr h => ?_)
  · obtain ⟨t, N, A, rfl, _⟩ := h
    rfl
  obtain ⟨t, N, A, rfl, o, hz, q⟩ := h
  refine ⟨_, (pss_cons (ps_asg (pv 0) (pg_tup (by rfl) (pgs_cons (pg_name (i := 1) sc_places_of.nd rfl (by first | exact Or.inl rfl | exact Or.inr rfl)) (pgs_cons (pg_name (i := 2) sc_places_of.nd rfl (by first | exact Or.inl rfl | exact Or.inr rfl)) (pgs_cons (pg_name (i := 3) sc_places_of.nd rfl (by first | exact Or.inl rfl | exact Or.inr rfl)) pgs_nil)))))
      (pss_cons (ps_set (i := 4) sc_places_of.nd rfl (by first | exact Or.inl rfl | exact Or.inr rfl) (pe_lst pa_nil))
      (pss_cons (ps_for PassesOwn.never rfl (pi_enum (by rfl) T.z_enumerate (pa_cons (pv 2) pa_nil)) (pg_tup (by rfl) (pgs_cons (pg_name (i := 5) sc_places_of.nd rfl (by first | exact Or.inl rfl | exact Or.inr rfl)) (pgs_cons (pg_name (i := 6) sc_places_of.nd rfl (by first | exact Or.inl rfl | exact Or.inr rfl)) pgs_nil))) (pss_one (ps_for PassesOwn.never rfl (pi_range1 (by rfl) T.z_range (pa_cons (pe_callB (r := rLenL K) (id := "len") c_len (by rfl) T.z_len (by decide +kernel) (pa_cons (pv 3) pa_nil)) pa_nil)) (pg_name (i := 7) sc_places_of.nd rfl (by first | exact Or.inl rfl | exact Or.inr rfl)) (pss_one (ps_if (pt_val (pe_call (ok_reaches T) (hr.mono (by decide)) (by rfl) T.g_reaches T.F_reaches.kp T.b_reaches .nil pass0 (pa_cons (pv 3) (pa_cons (pv 7) (pa_cons (pv 6) pa_nil))))) (pss_one (ps_expr (pe_bm PySem.F.plainAttrs_list PySem.F.slot_list_extend PySem.F.type_list_extend mt_extend (pv 4) (pa_cons (pe_lc (own := [("i", 8)]) (g := gName 8) rfl sc_places_of.nd (pi_range1 (by rfl) T.z_range (pa_cons (pe_callB (r := rLenL K) (id := "len") c_len (by rfl) T.z_len (by decide +kernel) (pa_cons (pv 1) pa_nil)) pa_nil)) (blkOk_by (N := ["axes", "rows", "groups", "distances", "found", "j", "spot", "k", "i"]) (sc := defScope s_places_of) (by decide +kernel)) (fun _ _ _ _ _ => pg_name (i := 8) sc_places_of.nd rfl (by first | exact Or.inl rfl | exact Or.inr rfl)) (fun _ _ _ _ _ => (pts_one (pt_val (pe_call (ok_reaches T) (hr.mono (by decide)) (by rfl) T.g_reaches T.F_reaches.kp T.b_reaches .nil pass0 (pa_cons (pv 1) (pa_cons (pv 8) (pa_cons (pv 6) pa_nil))))))) (fun _ _ _ _ _ => (pe_tup (pa_cons (pv 8) (pa_cons (pv 5) (pa_cons (pv 7) pa_nil)))))) pa_nil)))) pss_nil)))))
      (pss_one (ps_ret (pv 4)))))), ?_⟩
  try simp only [nox_K, cx_K]
  obtain ⟨x, y, z, h1, h2, h3, h4, _⟩ := id o
  have h20 := h2
  have h30 := h3
  have h40 := h4
  wtm_at "rd"
  refine r_gtup (SqT.of h1) rfl ?_
  wtm_at "rd"
  refine r_new rfl fun f n_f => ?_
  have n_f0 := n_f
  generalize eq_f : upd _ f _ = H1
  have s_f : Same _ H1 := eq_f ▸ same_new n_f
  have h_f : H1 f = some _ := eq_f ▸ upd_same
  clear eq_f
  wtm_at "rd"
  refine r_for (r_enum ?_)
  wtm_at "rd"
  refine ⟨y, _, rfl, SqL.of (s_f _ _ h30), ?_⟩
  refine for_it (walk_enum (K := K) (a := y) (xs := A.g.map V.int)) (fun m σ H' => ∃ (x5 x6 x7 : Option V) (us : List Addr), σ = [some (.ref t), some (.ref x), some (.ref y), some (.ref z), some (.ref f), x5, x6, x7, none] ∧ H' f = some (.lst (us.map V.ref)) ∧ All2 (PlAt H') us (plsI A m) ∧ Same H H') ⟨_, _, _, [], rfl, h_f, All2.nil, s_f⟩ (fun i σ H' _ ⟨_, _, _, _, _, _, _, s⟩ => SqL.of (s _ _ h30)) ?_ ?_
  · rintro j v σ H3 H4 hi ⟨x5, x6, x7, us, rfl, gf, gu, s1⟩ ⟨T0, yy, zz, rfl, nT, rfl, hy, hz'⟩
    cases hy
    dsimp only at hz'
    rw [List.length_map] at hi
    rw [List.getElem?_map] at hz'
    obtain ⟨s, hs, rfl⟩ := Option.map_eq_some_iff.mp hz'
    have sd : A.g.getD j 0 = s := Gr.getD_of hs
    have sT := same_new (o := .tup [.int (j : Nat), .int s]) nT
    refine r_gtup (SqT.of upd_same) rfl ?_
    have gf := sT _ _ gf
    have gu : All2 (PlAt (upd H3 T0 (.tup [.int (j : Nat), .int s]))) us (plsI A j) := gu.imp fun _ _ h => sT _ _ h
    have s2 := s1.trans sT
    generalize upd H3 T0 (.tup [.int (j : Nat), .int s]) = H4 at gf gu s2 ⊢
    clear sT nT s1
    wtm_at "rd"
    dsimp only
    refine r_for (r_rng1 ?_)
    wtm_at "rd"
    refine r_lenI (s2 _ _ h40) ?_
    have zd := hz.d
    have zr := hz.r
    have zg := hz.g
    refine r_upto (by omega) (by omega) ?_
    refine for_range (fun k σ H' => ∃ (x7 : Option V) (us : List Addr), σ = [some (.ref t), some (.ref x), some (.ref y), some (.ref z), some (.ref f), some (.int (j : Nat)), some (.int s), x7, none] ∧ H' f = some (.lst (us.map V.ref)) ∧ All2 (PlAt H') us (plsI A j ++ plsJ A j k) ∧ Same H H') ⟨_, us, rfl, gf, by rw [show plsJ A j 0 = [] from rfl, List.append_nil]; exact gu, s2⟩ ?_ ?_
    · rintro k σ H5 hk ⟨x7, vs, rfl, gf, gu, s5⟩
      have hk : k < A.d.length := by omega
      have pk : plsI A j ++ plsJ A j (k + 1) = (plsI A j ++ plsJ A j k) ++ plsK A j k := by rw [plsJ_succ, List.append_assoc]
      wtm_at "rd"
      refine ⟨z, k, s, A.d, by rw [Int.zero_add]; rfl, s5 _ _ h40, hk, ?_⟩
      wtm_at "rd"
      cases rc : reach A.d k s with
      | false =>
        refine iteF ?_
        wtm_at "rd"
        refine ⟨_, vs, rfl, gf, ?_, s5⟩
        rw [pk, plsK, sd, rc, if_neg Bool.false_ne_true, List.append_nil]
        exact gu
      | true =>
        refine iteT ?_
        wtm_at "rd"
        refine r_tyL (SqL.of gf) ?_
        wtm_at "rd"
        refine r_lenI (s5 _ _ h20) ?_
        refine r_upto (by omega) (by omega) ?_
        refine lc_tupsF (fun i => [.int (0 + (i : Nat)), .int (j : Nat), .int (0 + (k : Nat))]) (fun i => reach A.r i s) (by omega) (fun i H' QT hi s' hQ => ?_) (fun i H' QQ hi s' hQ => ?_) fun D ws H6 nD hD hw s6 => ?_
        · wtm_at "rd"
          refine ⟨x, i, s, A.r, by rw [Int.zero_add]; rfl, (s5.trans s') _ _ h20, by omega, ?_⟩
          wtm_at "rd"
          exact hQ
        · wtm_at "rd"
          exact r_new rfl fun u nu => hQ u _ nu upd_same (same_new nu)
        have gf6 := s6 _ _ gf
        have lv := gu.len
        have lw := hw.len
        have l1 := plsI_len hz j
        have l2 := plsJ_len A j k
        have l3 : k * A.r.length ≤ 20 * 20 := Nat.mul_le_mul (by omega) zr
        have l4 := List.length_filter_le (fun i => reach A.r i s) (List.range (A.r.length : Int).toNat)
        rw [List.length_range] at l4
        rw [List.length_append] at lv
        wtm_at "rd"
        refine ⟨f, D, _, _, rfl, rfl, gf6, hD, by rw [sizeLine_eq, List.length_map, List.length_map]; omega, ?_⟩
        wtm_at "rd"
        refine ⟨_, vs ++ ws, rfl, by rw [upd_same, List.map_append], ?_, put_sameR (s5.trans s6) n_f0⟩
        rw [pk]
        refine All2.app (gu.imp fun u p h => ?_) ?_
        · have h := s6 _ _ h
          exact (upd_ne (ne_of h gf6 fun e => nomatch e)).trans h
        · rw [plsK, sd, rc, if_pos rfl]
          refine hw.mapR _ fun u i h => ?_
          have h : H6 u = some (.tup [.int (i : Nat), .int (j : Nat), .int (k : Nat)]) := by rw [h, Int.zero_add, Int.zero_add]
          exact (upd_ne (ne_of h gf6 fun e => nomatch e)).trans h
    · rintro σ H5 ⟨x7, vs, rfl, gf, gu, s5⟩
      exact ⟨_, _, _, vs, rfl, gf, by rw [plsI_succ]; exact gu, s5⟩
  · rintro σ H5 ⟨x5, x6, x7, vs, rfl, gf, gu, s5⟩
    wtm_at "rd"
    rw [List.length_map] at gu
    exact q f vs H5 n_f0 gf gu s5
theorem ok_near (T : Txt K mg) : FnOk P w K mg base CX0 1 T.f_near T.d_near ["axes", "place"] spNear := by
  refine T.F_near.ok sc_near (fun vs H Q E h => ?_) (fun cdv A outer s H vs Q E hr h => ?_)
  · obtain ⟨t, u, N, A, p, rfl, _⟩ := h
    rfl
  obtain ⟨t, u, N, A, p, rfl, o, hp, hi, q⟩ := h
  refine ⟨_, (pss_cons (ps_set (i := 2) sc_near.nd rfl (by first | exact Or.inl rfl | exact Or.inr rfl) (pe_ix (r := rIxL K) ix_list (pe_ix (r := rIxT K) ix_tup (pv 0) pe_int (fun _ _ => rfl)) (pe_ix (r := rIxT K) ix_tup (pv 1) pe_int (fun _ _ => rfl)) (fun _ _ => rfl)))
      (pss_one (ps_ret (pe_tup (pa_cons (pe_callB (c_max2 rfl) (by rfl) T.z_max (by decide +kernel) (pa_cons (pe_ix (r := rIxL K) ix_list (pe_ix (r := rIxT K) ix_tup (pv 0) pe_int (fun _ _ => rfl)) (pe_ix (r := rIxT K) ix_tup (pv 1) pe_int (fun _ _ => rfl)) (fun _ _ => rfl)) (pa_cons (pv 2) pa_nil))) (pa_cons (pv 2) (pa_cons (pe_callB (c_max2 rfl) (by rfl) T.z_max (by decide +kernel) (pa_cons (pe_ix (r := rIxL K) ix_list (pe_ix (r := rIxT K) ix_tup (pv 0) pe_int (fun _ _ => rfl)) (pe_ix (r := rIxT K) ix_tup (pv 1) pe_int (fun _ _ => rfl)) (fun _ _ => rfl)) (pa_cons (pv 2) pa_nil))) pa_nil))))))), ?_⟩
  try simp only [nox_K, cx_K]
  obtain ⟨x, y, z, h1, h2, h3, h4, _⟩ := id o
  obtain ⟨i1, i2, i3, _⟩ := hi
  have hp : H u = some (.tup [.int (p.1 : Int), .int (p.2.1 : Int), .int (p.2.2 : Int)]) := hp
  wtm_at "rd"
  refine r_max2 fun m1 _ _ _ e1 => ?_
  wtm_at "rd"
  refine r_max2 fun m2 _ _ _ e2 => ?_
  wtm_at "rd"
  subst e1 e2
  exact r_new rfl fun a n_a => q a n_a
theorem ok_grid_at (T : Txt K mg) : FnOk P w K mg base CX0 2 T.f_grid_at T.d_grid_at ["grid", "numbers"] spGrAt := by
  refine T.F_grid_at.ok sc_grid_at (fun vs H Q E h => ?_) (fun cdv A outer s H vs Q E hr h => ?_)
  · obtain ⟨a, u, N, A, W, n, rfl, _⟩ := h
    rfl
  obtain ⟨a, u, N, A, W, n, rfl, o, ok, hz, hn, nk, q⟩ := h
  refine ⟨_, (pss_cons (ps_asg (pv 0) (pg_tup (by rfl) (pgs_cons (pg_name (i := 2) sc_grid_at.nd rfl (by first | exact Or.inl rfl | exact Or.inr rfl)) (pgs_cons (pg_name (i := 3) sc_grid_at.nd rfl (by first | exact Or.inl rfl | exact Or.inr rfl)) pgs_nil))))
      (pss_cons (ps_set (i := 4) sc_grid_at.nd rfl (by first | exact Or.inl rfl | exact Or.inr rfl) (pe_tup (pa_cons (pe_call (ok_index_of T) (hr.mono (by decide)) (by rfl) T.g_index_of T.F_index_of.kp T.b_index_of .nil pass0 (pa_cons (pe_ix (r := rIxT K) ix_tup (pv 2) pe_int (fun _ _ => rfl)) (pa_cons (pe_ix (r := rIxT K) ix_tup (pv 1) pe_int (fun _ _ => rfl)) pa_nil))) (pa_cons (pe_call (ok_index_of T) (hr.mono (by decide)) (by rfl) T.g_index_of T.F_index_of.kp T.b_index_of .nil pass0 (pa_cons (pe_ix (r := rIxT K) ix_tup (pv 2) pe_int (fun _ _ => rfl)) (pa_cons (pe_ix (r := rIxT K) ix_tup (pv 1) pe_int (fun _ _ => rfl)) pa_nil))) (pa_cons (pe_call (ok_index_of T) (hr.mono (by decide)) (by rfl) T.g_index_of T.F_index_of.kp T.b_index_of .nil pass0 (pa_cons (pe_ix (r := rIxT K) ix_tup (pv 2) pe_int (fun _ _ => rfl)) (pa_cons (pe_ix (r := rIxT K) ix_tup (pv 1) pe_int (fun _ _ => rfl)) pa_nil))) pa_nil)))))
      (pss_one (ps_ret (pe_dget (hu_of hr) (pv 3) (pv 4) (fun _ _ => rfl)))))), ?_⟩
  try simp only [nox_K, cx_K]
  obtain ⟨t, d, g1, o, gd⟩ := o
  obtain ⟨x, y, z, h1, h2, h3, h4, _⟩ := id o
  have hn : H u = some (.tup [.int n.r, .int n.g, .int n.d]) := hn
  wtm_at "rd"
  refine r_gtup (SqT.of g1) rfl ?_
  wtm_at "rd"
  refine ⟨x, _, A.r, rfl, h2, Nat.le_trans hz.r (by decide), ok.r.asc, fun H1 s1 => ?_⟩
  have h1' := s1 _ _ h1
  have hn' := s1 _ _ hn
  wtm_at "rd"
  refine ⟨y, _, A.g, rfl, s1 _ _ h3, Nat.le_trans hz.g (by decide), ok.g.asc, fun H2 s2 => ?_⟩
  have h1' := s2 _ _ h1'
  have hn' := s2 _ _ hn'
  wtm_at "rd"
  have s12 := s1.trans s2
  refine ⟨z, _, A.d, rfl, s12 _ _ h4, Nat.le_trans hz.d (by decide), ok.d.asc, fun H3 s3 => ?_⟩
  wtm_at "rd"
  refine r_new rfl fun w n_w => ?_
  wtm_at "rd"
  have s3' := (s12.trans s3).trans (same_new (o := .tup [.int (idx A.r n.r : Nat), .int (idx A.g n.g : Nat), .int (idx A.d n.d : Nat)]) n_w)
  refine r_dgetT (s3' _ _ gd) (k := plK (Gr.place A n)) upd_same (wt_val (mem_pls.mpr (Gr.place_in ok nk))) ?_
  wtm_at "rd"
  exact q _ s3'

end

def co (m : Nat) (p : Pl) : Nat := match m with | 0 => p.1 | 1 => p.2.1 | _ => p.2.2
def dcr (m : Nat) (p : Pl) : Pl := match m with | 0 => (p.1 - 1, p.2.1, p.2.2) | 1 => (p.1, p.2.1 - 1, p.2.2) | _ => (p.1, p.2.1, p.2.2 - 1)
def axm (m : Nat) (A : Axes) : List Int := match m with | 0 => A.r | 1 => A.g | _ => A.d
def ndp (A : Axes) (W : Wt) (m i : Nat) (p : Pl) : Bool := decide (co m p = i) && (decide (dcr m p ∈ pls A) && !decide (W (dcr m p) = W p))
def nds (A : Axes) (W : Wt) (m i : Nat) : Bool := (pls A).any (ndp A W m i)
def plV (p : Pl) : List V := [.int (p.1 : Int), .int (p.2.1 : Int), .int (p.2.2 : Int)]
theorem three {P : Nat → Prop} (h0 : P 0) (h1 : P 1) (h2 : P 2) : ∀ {m : Nat}, m < 3 → P m
  | 0, _ => h0
  | 1, _ => h1
  | 2, _ => h2
  | m + 3, h => absurd h (by omega)
theorem co_at {p : Pl} {m : Nat} (hm : m < 3) : atI (plV p) (m : Int) = some (.int (co m p : Nat)) := three (P := fun m => atI (plV p) (m : Int) = some (.int (co m p : Nat))) rfl rfl rfl hm
theorem axs_ix {N : Addr → Prop} {H : Hp} {t : Addr} {A : Axes} {m : Nat} (o : AxsAt N H t A) (hm : m < 3) : ∃ z L, H t = some (.tup L) ∧ atI L (m : Int) = some (.ref z) ∧ H z = some (.lst ((axm m A).map V.int)) ∧ N z := by
  obtain ⟨x, y, z, h1, h2, h3, h4, h5, h6, h7⟩ := o
  refine three (P := fun m => ∃ z L, H t = some (.tup L) ∧ atI L (m : Int) = some (.ref z) ∧ H z = some (.lst ((axm m A).map V.int)) ∧ N z) ⟨x, _, h1, rfl, h2, h5⟩ ⟨y, _, h1, rfl, h3, h6⟩ ⟨z, _, h1, rfl, h4, h7⟩ hm
theorem axm_ok {A : Axes} (h : A.Ok) {m : Nat} (hm : m < 3) : AxOk (axm m A) := three (P := fun m => AxOk (axm m A)) h.r h.g h.d hm
theorem axm_sz {A : Axes} (h : ASz A) {m : Nat} (hm : m < 3) : (axm m A).length ≤ 20 := three (P := fun m => (axm m A).length ≤ 20) h.r h.g h.d hm
theorem cut_dc {p : Pl} {m : Nat} {k : Int} (hm : m < 3) (c : (co m p : Int) = k) (k1 : 1 ≤ k) : (cutV (plV p) none (some (m : Int)) ++ [.int (k - 1)]) ++ cutV (plV p) (some ((m : Int) + 1)) none = plV (dcr m p) := by
  obtain ⟨a, b, e⟩ := p
  revert c
  refine three (P := fun m => (co m (a, b, e) : Int) = k → (cutV (plV (a, b, e)) none (some (m : Int)) ++ [.int (k - 1)]) ++ cutV (plV (a, b, e)) (some ((m : Int) + 1)) none = plV (dcr m (a, b, e))) (fun c => ?_) (fun c => ?_) (fun c => ?_) hm
  · have c : (a : Int) = k := c
    show [V.int (k - 1), .int b, .int e] = [.int ((a - 1 : Nat) : Int), .int b, .int e]
    rw [show ((a - 1 : Nat) : Int) = k - 1 by omega]
  · have c : (b : Int) = k := c
    show [V.int a, .int (k - 1), .int e] = [.int a, .int ((b - 1 : Nat) : Int), .int e]
    rw [show ((b - 1 : Nat) : Int) = k - 1 by omega]
  · have c : (e : Int) = k := c
    show [V.int a, .int b, .int (k - 1)] = [.int a, .int b, .int ((e - 1 : Nat) : Int)]
    rw [show ((e - 1 : Nat) : Int) = k - 1 by omega]
theorem cut_no1 {m : Nat} (hm : m < 3) : ¬ (HT.sIx 3 0 none = 0 ∧ HT.sIx 3 3 (some (m : Int)) = 3) := three (P := fun m => ¬ (HT.sIx 3 0 none = 0 ∧ HT.sIx 3 3 (some (m : Int)) = 3)) (by decide) (by decide) (by decide) hm
theorem cut_no2 {m : Nat} (hm : m < 3) : ¬ (HT.sIx 3 0 (some ((m : Int) + 1)) = 0 ∧ HT.sIx 3 3 none = 3) := three (P := fun m => ¬ (HT.sIx 3 0 (some ((m : Int) + 1)) = 0 ∧ HT.sIx 3 3 none = 3)) (by decide) (by decide) (by decide) hm
theorem r_slT3 {K : PySem.W.Frag} {H : Hp} {Q : VK} {a : Addr} {xs : List V} {lo hi : Option Int} (h : H a = some (.tup xs)) (l3 : xs.length = 3) (no : ¬ (HT.sIx 3 0 lo = 0 ∧ HT.sIx 3 3 hi = 3)) (q : ∀ p H', H' p = some (.tup (cutV xs lo hi)) → Same H H' → Q (.ref p) H') : rSlT K (.ref a) lo hi H Q :=
  ⟨a, xs, rfl, SqT.of h, by rw [l3]; exact no, fun p np => q p _ upd_same (same_new np)⟩
theorem r_catA3 {K : PySem.W.Frag} {H : Hp} {Q : VK} {a b : Addr} {xs ys : List V} (h1 : H a = some (.tup xs)) (h2 : H b = some (.tup ys)) (hz : xs.length + ys.length ≤ 1000) (q : ∀ p H', H' p = some (.tup (xs ++ ys)) → Same H H' → Q (.ref p) H') : rCatA K (.ref a) (.ref b) H Q :=
  ⟨a, b, xs, ys, rfl, rfl, SqT.of h1, SqT.of h2, by rw [sizeLine_eq]; omega, fun e => q b H (by rw [e]; exact h2) fun _ _ z => z, fun _ e => q a H (by rw [e, List.append_nil]; exact h1) fun _ _ z => z, fun _ _ p np => q p _ upd_same (same_new np)⟩
theorem r_dIn {σ : L2.St} {H : Hp} {Q : VK} {td ty : TE} (h : ty σ H fun y H1 => td σ H1 fun x H2 => ∃ a o, x = .ref a ∧ DGet H2 a y o ∧ Q (.bl o.isSome) H2) : tDIn ty td σ H Q := h
theorem dget_fz {H : Hp} {d b : Addr} {od : Obj} {kvs : List (List Key × V)} {k : List Key} (e : H d = some (.frz od (.dT kvs))) (eb : H b = some (.tup (k.map kV))) : DGet H d (.ref b) (valV kvs k) := .inr ⟨kvs, k, b, .inr ⟨od, e⟩, rfl, eb, rfl⟩
theorem nds_clean {A : Axes} {W : Wt} : Gr.Clean A W (nds A W 0) (nds A W 1) (nds A W 2) := by
  have key : ∀ (m i : Nat) (p : Pl), nds A W m i = false → inPl A p → co m p = i → inPl A (dcr m p) → W (dcr m p) = W p := fun m i p h1 h2 h3 h4 => by
    have h := List.any_eq_false.mp h1 p (mem_pls.mpr h2)
    unfold ndp at h
    rw [decide_eq_true h3, decide_eq_true (mem_pls.mpr h4), Bool.true_and, Bool.true_and] at h
    simpa using h
  exact ⟨fun t j k h1 h2 h3 => key 0 (t + 1) (t + 1, j, k) h1 h2 rfl h3, fun i t k h1 h2 h3 => key 1 (t + 1) (i, t + 1, k) h1 h2 rfl h3, fun i j t h1 h2 h3 => key 2 (t + 1) (i, j, t + 1) h1 h2 rfl h3⟩
theorem unlock_same {H H' : Hp} {d : Addr} {u : HO} (gd : H d = some u) (k : ∀ b x, H b = some x → b ≠ d → H' b = some x) : Same H (upd H' d u) := fun b x e => by
  by_cases c : b = d
  · subst c
    rw [gd] at e
    cases e
    exact upd_same
  · exact (upd_ne c).trans (k b x e c)
theorem keep_len (ax : List Int) (P : Nat → Bool) : ∀ n, (Gr.keep ax P n).length ≤ n + 1
  | 0 => Nat.le_refl _
  | n + 1 => by
    have h := keep_len ax P n
    show (if P (n + 1) = true then Gr.keep ax P n ++ [ax.getD (n + 1) 0] else Gr.keep ax P n).length ≤ _
    split
    · rw [List.length_append, List.length_singleton]; omega
    · omega
def spNeed : Sp := fun vs H Q _ => ∃ (t d : Addr) (m : Nat) (N : Addr → Prop) (A : Axes) (W : Wt), vs = [.ref t, .ref d, .int (m : Int)] ∧ m < 3 ∧ AxsAt N H t A ∧ H d = some (.dT (wtK A W)) ∧ A.Ok ∧ ASz A ∧
  ∀ f H', H f = none → H' f = some (.lst ((Gr.keep (axm m A) (nds A W m) ((axm m A).length - 1)).map V.int)) → Same H H' → Q (.ref f) H'
section
variable {P : Program} {w : World} {K : PySem.W.Frag} {mg : Str → Option Value} {base : Heap}

theorem ok_needed_starts (T : Txt K mg) : FnOk P w K mg base CX0 1 T.f_needed_starts T.d_needed_starts ["axes", "weights", "axis"] spNeed := by
  refine T.F_needed_starts.ok sc_needed_starts (fun vs H Q E h => ?_) (fun cdv A outer s H vs Q E hr h => ?_)
  · obtain ⟨t, d, m, N, A, W, rfl, _⟩ := h
    rfl
  obtain ⟨t, d, m, N, A, W, rfl, hm, o, gd, ok, hz, q⟩ := h
  refine ⟨_, (pss_cons (ps_set (i := 3) sc_needed_starts.nd rfl (by first | exact Or.inl rfl | exact Or.inr rfl) (pe_lst (pa_cons pe_int pa_nil)))
      (pss_cons (ps_for PassesOwn.never rfl (pi_range2 (by rfl) T.z_range (pa_cons pe_int (pa_cons (pe_callB (r := rLenL K) (id := "len") c_len (by rfl) T.z_len (by decide +kernel) (pa_cons (pe_ix (r := rIxT K) ix_tup (pv 0) (pv 2) (fun _ _ => rfl)) pa_nil)) pa_nil))) (pg_name (i := 4) sc_needed_starts.nd rfl (by first | exact Or.inl rfl | exact Or.inr rfl)) (pss_one (ps_lock (ps_for PassesOwn.never rfl (pi_keys (pv 1)) (pg_name (i := 5) sc_needed_starts.nd rfl (by first | exact Or.inl rfl | exact Or.inr rfl)) (pss_one (ps_if (pt_cmpR op_eq (pe_ix (r := rIxT K) ix_tup (pv 5) (pv 2) (fun _ _ => rfl)) (pv 4) (nomark _)) (pss_cons (ps_set (i := 6) sc_needed_starts.nd rfl (by first | exact Or.inl rfl | exact Or.inr rfl) (pe_op (r := rCatA K) op_catA (pe_op (r := rCatA K) op_catA (pe_slice sl_tup (pv 5) po_none (po_some (pv 2))) (pe_tup (pa_cons (pe_op op_sub (pv 4) pe_int) pa_nil))) (pe_slice sl_tup (pv 5) (po_some (pe_op op_add (pv 2) pe_int)) po_none)))
      (pss_one (ps_if (PW.pt (pw_and (pt_cmp (pc_din (hu_of hr) (pv 6) (pv 1))) (pw_and1 (pt_cmpR op_ne (pe_dget (hu_of hr) (pv 1) (pv 6) (fun _ _ => rfl)) (pe_dget (hu_of hr) (pv 1) (pv 5) (fun _ _ => rfl)) (nomark _))))) (pss_cons (ps_expr (pe_bm PySem.F.plainAttrs_list PySem.F.slot_list_append PySem.F.type_list_append mt_append (pv 3) (pa_cons (pe_ix (r := rIxL K) ix_list (pe_ix (r := rIxT K) ix_tup (pv 0) (pv 2) (fun _ _ => rfl)) (pv 4) (fun _ _ => rfl)) pa_nil)))
      (pss_one ps_break)) pss_nil))) pss_nil))))))
      (pss_one (ps_ret (pv 3))))), ?_⟩
  try simp only [nox_K, cx_K]
  obtain ⟨z, L, e1, e2, e3, _⟩ := axs_ix o hm
  have l1 := axm_sz hz hm
  have l0 := (axm_ok ok hm).at0.2
  wtm_at "rd"
  refine r_new rfl fun f n_f => ?_
  have n_f0 := n_f
  have d_f : d ≠ f := ne_of_none gd n_f
  have gd0 := gd
  generalize eq_f : upd _ f _ = H1
  have s_f : Same _ H1 := eq_f ▸ same_new n_f
  have h_f : H1 f = some _ := eq_f ▸ upd_same
  clear eq_f
  wtm_at "rd"
  dsimp only
  refine r_for (r_rng2 ?_)
  wtm_at "rd"
  refine r_ixT (SqT.of (s_f _ _ e1)) e2 ?_
  wtm_at "rd"
  refine r_lenI (s_f _ _ e3) ?_
  refine r_from (by omega) (by omega) ?_
  refine for_range (fun i σ H' => ∃ x5 x6 x7 : Option V, σ = [some (.ref t), some (.ref d), some (.int (m : Int)), some (.ref f), x5, x6, x7] ∧ H' f = some (.lst ((Gr.keep (axm m A) (nds A W m) i).map V.int)) ∧ Same H H') ⟨_, _, _, rfl, h_f, s_f⟩ ?_ ?_
  · rintro i σ H3 hi ⟨x5, x6, x7, rfl, gf, s3⟩
    wtm_at "rd"
    have gd3 := s3 _ _ gd0
    refine ⟨d, _, gd3, trivial, fun od => ?_⟩
    dsimp only
    refine r_for (r_iks ?_)
    wtm_at "rd"
    refine ⟨d, od, rfl, .inr ⟨_, upd_same, ?_⟩⟩
    refine for_it (walk_keysT (d := d) (o := od) (kvs := wtK A W)) (fun n σ H' => ∃ x6 x7 : Option V, σ = [some (.ref t), some (.ref d), some (.int (m : Int)), some (.ref f), some (.int (1 + (i : Nat))), x6, x7] ∧ H' d = some (.frz od (.dT (wtK A W))) ∧ (∀ b x, H3 b = some x → b ≠ d → H' b = some x) ∧ ∀ p ∈ (pls A).take n, ndp A W m (i + 1) p = false) ⟨_, _, rfl, upd_same, fun b x e n => (upd_ne n).trans e, fun p h => by rw [List.take_zero] at h; cases h⟩ (fun n σ H' _ ⟨_, _, _, z, _⟩ => z) ?_ ?_
    · rintro n v σ H4 H5 hn ⟨x6, x7, rfl, g4, k4, hp⟩ ⟨rfl, key, val, q0, hk, rfl, hq⟩
      rw [wtK, List.getElem?_map] at hk
      obtain ⟨p, hpn, e⟩ := Option.map_eq_some_iff.mp hk
      cases e
      have tk : (pls A).take (n + 1) = (pls A).take n ++ [p] := by rw [List.take_add_one, hpn]; rfl
      have next : ndp A W m (i + 1) p = false → ∀ p ∈ (pls A).take (n + 1), ndp A W m (i + 1) p = false := fun h p' hp' => by
        rw [tk] at hp'
        rcases List.mem_append.mp hp' with z | z
        · exact hp p' z
        · rw [List.mem_singleton.mp z]; exact h
      have hq : H5 q0 = some (.tup (plV p)) := hq
      wtm_at "rd"
      refine r_ixT (SqT.of hq) (co_at hm) ?_
      wtm_at "rd"
      refine r_ite (fun c => ?_) (fun c => ?_)
      · wtm_at "rd"
        refine r_slT3 hq rfl (cut_no1 hm) fun p1 H6 c1 t1 => ?_
        wtm_at "rd"
        refine r_new rfl fun p2 n_p2 => ?_
        have t2 := t1.trans (same_new (o := .tup [.int (1 + (i : Nat) - 1)]) n_p2)
        have c1 := same_new (o := .tup [.int (1 + (i : Nat) - 1)]) n_p2 _ _ c1
        have c2 : (upd H6 p2 (.tup [.int (1 + (i : Nat) - 1)])) p2 = some (.tup [.int (1 + (i : Nat) - 1)]) := upd_same
        generalize upd H6 p2 (.tup [.int (1 + (i : Nat) - 1)]) = H7 at t2 c1 c2 ⊢
        clear n_p2 t1
        wtm_at "rd"
        refine r_catA3 c1 c2 (by have := cutV_length (plV p) none (some (m : Int)); have : (plV p).length = 3 := rfl; simp only [List.length_singleton]; omega) fun p3 H8 c3 t3 => ?_
        have t3 := t2.trans t3
        wtm_at "rd"
        refine r_slT3 (t3 _ _ hq) rfl (cut_no2 hm) fun p4 H9 c4 t4 => ?_
        have c3 := t4 _ _ c3
        have t4 := t3.trans t4
        wtm_at "rd"
        refine r_catA3 c3 c4 (by have := cutV_length (plV p) none (some (m : Int)); have := cutV_length (plV p) (some ((m : Int) + 1)) none; have : (plV p).length = 3 := rfl; simp only [List.length_append, List.length_singleton]; omega) fun p5 H10 c5 t5 => ?_
        rw [cut_dc hm c (by omega)] at c5
        have t5 := t4.trans t5
        have g10 := t5 _ _ g4
        have k10 : ∀ b x, H3 b = some x → b ≠ d → H10 b = some x := fun b x e n => t5 _ _ (k4 b x e n)
        have hq10 : H10 q0 = some (.tup ((plK p).map kV)) := t5 _ _ hq
        have c10 : H10 p5 = some (.tup ((plK (dcr m p)).map kV)) := c5
        clear c5 c4 c3 c2 c1 t2 t3 t4
        wtm_at "rd"
        refine r_dIn ?_
        wtm_at "rd"
        refine ⟨d, _, rfl, dget_fz g10 c10, ?_⟩
        refine ⟨_, rfl, ?_⟩
        have pm : p ∈ pls A := List.mem_of_getElem? hpn
        have vp : valV (wtK A W) (plK p) = some (.int (W p)) := wt_val pm
        have cp : co m p = i + 1 := by omega
        by_cases om : dcr m p ∈ pls A
        · have vo : valV (wtK A W) (plK (dcr m p)) = some (.int (W (dcr m p))) := wt_val om
          have D1 := dget_fz g10 c10
          have D2 := dget_fz g10 hq10
          rw [vo] at D1
          rw [vp] at D2
          rw [vo]
          refine iteT ?_
          wtm_at "rd"
          refine ⟨d, _, rfl, D1, ?_⟩
          wtm_at "rd"
          refine ⟨d, _, rfl, D2, ?_⟩
          wtm_at "rd"
          by_cases e : W (dcr m p) = W p
          · rw [decide_eq_true e, Bool.not_true]
            refine iteF ?_
            wtm_at "rd"
            refine ⟨_, _, rfl, g10, k10, next ?_⟩
            unfold ndp
            rw [decide_eq_true e, Bool.not_true, Bool.and_false, Bool.and_false]
          · rw [decide_eq_false e, Bool.not_false]
            refine iteT ?_
            have gf10 := k10 f _ gf d_f.symm
            have td : t ≠ d := ne_of e1 gd0 fun q => nomatch q
            have zd : z ≠ d := ne_of e3 gd0 fun q => nomatch q
            wtm_at "rd"
            refine r_tyL (SqL.of gf10) ?_
            wtm_at "rd"
            refine r_ixT (SqT.of (k10 t _ (s3 _ _ e1) td)) e2 ?_
            wtm_at "rd"
            refine r_ixL (v := .int ((axm m A).getD (i + 1) 0)) (SqL.of (k10 z _ (s3 _ _ e3) zd)) (by rw [show (1 : Int) + (i : Nat) = ((i + 1 : Nat) : Int) by omega]; exact ati_n (by omega)) ?_
            wtm_at "rd"
            have lk := keep_len (axm m A) (nds A W m) i
            refine r_app gf10 (small1000 (by rw [List.length_map]; omega)) ?_
            wtm_at "rd"
            have yes : nds A W m (i + 1) = true := List.any_eq_true.mpr ⟨p, pm, by unfold ndp; rw [decide_eq_true cp, decide_eq_true om, decide_eq_false e]; rfl⟩
            refine ⟨(upd_ne d_f).trans g10, _, _, _, rfl, ?_, unlock_same gd0 fun b x e n => (upd_ne (ne_of_none e n_f0)).trans (k10 b x (s3 _ _ e) n)⟩
            rw [upd_ne d_f.symm, upd_same]
            show _ = some (HO.lst (List.map V.int (if nds A W m (i + 1) = true then _ else _)))
            rw [if_pos yes, List.map_append]
            rfl
        · have vo : valV (wtK A W) (plK (dcr m p)) = none := wt_none om
          rw [vo]
          refine iteF ?_
          refine iteF ?_
          wtm_at "rd"
          refine ⟨_, _, rfl, g10, k10, next ?_⟩
          unfold ndp
          rw [decide_eq_false om, Bool.false_and, Bool.and_false]
      · wtm_at "rd"
        refine ⟨_, _, rfl, g4, k4, next ?_⟩
        unfold ndp
        rw [decide_eq_false (by omega), Bool.false_and]
    · rintro σ H4 ⟨x6, x7, rfl, g4, k4, hp⟩
      have ln : (wtK A W).length = (pls A).length := by rw [wtK, List.length_map]
      rw [ln, List.take_length] at hp
      have no : nds A W m (i + 1) = false := List.any_eq_false.mpr fun p h => by rw [hp p h]; exact Bool.false_ne_true
      refine ⟨g4, _, _, _, rfl, ?_, unlock_same gd0 fun b x e n => k4 b x (s3 _ _ e) n⟩
      rw [upd_ne d_f.symm, k4 f _ gf d_f.symm]
      show _ = some (HO.lst (List.map V.int (if nds A W m (i + 1) = true then _ else _)))
      rw [if_neg (by rw [no]; exact Bool.false_ne_true)]
  · rintro σ H3 ⟨x5, x6, x7, rfl, gf, s3⟩
    wtm_at "rd"
    rw [show ((axm m A).length - 1 : Int).toNat = (axm m A).length - 1 by omega] at gf
    exact q f H3 n_f0 gf s3

end

theorem plsK_mem {A : Axes} {j k : Nat} {x : Pl} (h : x ∈ plsK A j k) : x.2.1 = j ∧ x.2.2 = k := by
  unfold plsK at h
  split at h
  · obtain ⟨i, _, e⟩ := List.mem_map.mp h
    subst e
    exact ⟨rfl, rfl⟩
  · cases h
theorem plsJ_mem {A : Axes} {j n : Nat} {x : Pl} (h : x ∈ plsJ A j n) : x.2.1 = j := by
  obtain ⟨k, _, h⟩ := List.mem_flatMap.mp h
  exact (plsK_mem h).1
theorem pls_nodup (A : Axes) : (pls A).Nodup := by
  unfold pls List.Nodup
  refine List.pairwise_flatMap.mpr ⟨fun j _ => ?_, ?_⟩
  · unfold plsJ
    refine List.pairwise_flatMap.mpr ⟨fun k _ => ?_, ?_⟩
    · unfold plsK
      split
      · rw [List.pairwise_map]
        refine ((List.nodup_range).sublist List.filter_sublist).imp fun {a b} h e => h ?_
        exact congrArg Prod.fst e
      · exact List.Pairwise.nil
    · exact (List.nodup_range).imp fun {a b} h x hx y hy e => h (by rw [← (plsK_mem hx).2, ← (plsK_mem hy).2, e])
  · exact (List.nodup_range).imp fun {a b} h x hx y hy e => h (by rw [← plsJ_mem hx, ← plsJ_mem hy, e])
theorem pls_fresh {A : Axes} {i : Nat} {p : Pl} (h : (pls A)[i]? = some p) : ¬ p ∈ (pls A).take i := fun hm => by
  obtain ⟨j, hj⟩ := List.getElem?_of_mem hm
  rw [List.getElem?_take] at hj
  split at hj
  · next c =>
    have hi := (List.getElem?_eq_some_iff.mp h).1
    have hj' := (List.getElem?_eq_some_iff.mp hj).1
    have z := List.pairwise_iff_getElem.mp (pls_nodup A) j i hj' hi c
    rw [List.getElem?_eq_getElem hi] at h
    rw [List.getElem?_eq_getElem hj'] at hj
    exact z (Option.some.inj (hj.trans h.symm))
  · cases hj
def kA (A : Axes) (W : Wt) : Axes := Gr.keptA A (nds A W 0) (nds A W 1) (nds A W 2)
def kW (A : Axes) (W : Wt) : Wt := fun p => gAt A W (Gr.near (kA A W) p)
/-! ### canonical lines and grids: what is kept depends on the answers alone -/
def nmc (m : Nat) (n : Num) : Int := match m with | 0 => n.r | 1 => n.g | _ => n.d
def decN (m : Nat) (n : Num) : Num := match m with | 0 => ⟨n.r - 1, n.g, n.d⟩ | 1 => ⟨n.r, n.g - 1, n.d⟩ | _ => ⟨n.r, n.g, n.d - 1⟩
/-- s is an essential end on the axis m -/
def Ess (f : Num → Int) (m : Nat) (s : Int) : Prop := ∃ n : Num, n.Ok ∧ (decN m n).Ok ∧ nmc m n = s ∧ f (decN m n) ≠ f n
def GrCan (A : Axes) (f : Num → Int) : Prop := ∀ m, m < 3 → ∀ s, s ∈ axm m A ↔ s = 1 ∨ Ess f m s
theorem iv_before {ax : List Int} {i : Nat} {s : Int} (ok : AxOk ax) (h : ax[i + 1]? = some s) : InIv ax i (s - 1) := by
  have hj := (List.getElem?_eq_some_iff.mp h).1
  have hi : i < ax.length := by omega
  have lt := List.pairwise_iff_getElem.mp ok.asc i (i + 1) hi hj (by omega)
  have e : ax[i + 1] = s := by rw [List.getElem?_eq_getElem hj] at h; exact Option.some.inj h
  refine ⟨ax[i], List.getElem?_eq_getElem hi, by omega, fun b hb => ?_⟩
  rw [h] at hb
  cases hb
  omega
theorem iv_at {ax : List Int} {i : Nat} {s : Int} (ok : AxOk ax) (h : ax[i]? = some s) : InIv ax i s := by
  have hi := (List.getElem?_eq_some_iff.mp h).1
  have z := Gr.iv_self ok.asc hi
  rwa [Gr.getD_of h] at z
/-- from s - 1 to s the stretch changes at a start alone -/
theorem idx_step {ax : List Int} {s : Int} (ok : AxOk ax) (h1 : 1 ≤ s - 1) (ne : idx ax (s - 1) ≠ idx ax s) : ∃ i, idx ax (s - 1) = i ∧ idx ax s = i + 1 ∧ ax[i + 1]? = some s := by
  have I := ok.iv h1
  have J := ok.iv (show 1 ≤ s by omega)
  obtain ⟨a, e1, l1, u1⟩ := I
  obtain ⟨b, e2, l2, u2⟩ := J
  have mono := Gr.idx_mono (ax := ax) (show s - 1 ≤ s by omega)
  have hj := (List.getElem?_eq_some_iff.mp e2).1
  have hi1 : idx ax (s - 1) + 1 < ax.length := by omega
  have z := u1 _ (List.getElem?_eq_getElem hi1)
  have lt : idx ax (s - 1) + 1 ≤ idx ax s := by omega
  have ee : ax[idx ax s] = b := by rw [List.getElem?_eq_getElem hj] at e2; exact Option.some.inj e2
  rcases Nat.lt_or_ge (idx ax (s - 1) + 1) (idx ax s) with c | c
  · have := List.pairwise_iff_getElem.mp ok.asc _ _ hi1 hj c
    omega
  · have eq : idx ax s = idx ax (s - 1) + 1 := by omega
    refine ⟨_, rfl, eq, ?_⟩
    rw [← eq, e2]
    congr 1
    have e3 : ax[idx ax (s - 1) + 1] = b := by rw [← ee]; congr 1; exact eq.symm
    omega
theorem iv_idx' {ax : List Int} {i : Nat} {x : Int} (ok : AxOk ax) (h : InIv ax i x) : idx ax x = i := Gr.iv_idx ok.asc h
theorem reach_lt {ax : List Int} {i : Nat} {s y : Int} (h : ax[i + 1]? = some s) (r : reach ax i y = true) : y ≤ s - 1 := by
  unfold Gr.reach at r
  rw [h] at r
  exact of_decide_eq_true r
theorem kept_can {A : Axes} {W : Wt} {f : Num → Int} (ok : A.Ok) (hf : ∀ n : Num, n.Ok → gAt A W n = f n) : GrCan (kA A W) f := by
  intro m hm s
  have ea : axm m (kA A W) = Gr.keep (axm m A) (nds A W m) ((axm m A).length - 1) := three (P := fun m => axm m (kA A W) = Gr.keep (axm m A) (nds A W m) ((axm m A).length - 1)) rfl rfl rfl hm
  have oka := axm_ok ok hm
  rw [ea, Gr.mem_keep]
  have at_lt : ∀ {i : Nat}, i < (axm m A).length - 1 → (axm m A)[i + 1]? = some ((axm m A).getD (i + 1) 0) := fun {i} h => by
    have : i + 1 < (axm m A).length := by omega
    rw [Gr.getD_of (List.getElem?_eq_getElem this)]
    exact List.getElem?_eq_getElem this
  refine or_congr Iff.rfl ⟨fun ⟨i, hi, hn, hs⟩ => ?_, fun ⟨n, n1, n2, hs, hne⟩ => ?_⟩
  · have hsi := at_lt hi
    rw [← hs] at hsi
    unfold nds at hn
    obtain ⟨p, hp, hq⟩ := List.any_eq_true.mp hn
    unfold ndp at hq
    simp only [Bool.and_eq_true, decide_eq_true_eq, Bool.not_eq_true', decide_eq_false_iff_not] at hq
    obtain ⟨q1, q2, q3⟩ := hq
    have ip := mem_pls.mp hp
    have iq := mem_pls.mp q2
    have nr := Gr.near_iv ok ip
    have no := Gr.near_ok ok ip
    obtain ⟨pi, pj, pk⟩ := p
    have eR : idx A.r (max (A.r.getD pi 0) (A.g.getD pj 0)) = pi := iv_idx' ok.r nr.1
    have eG : idx A.g (A.g.getD pj 0) = pj := iv_idx' ok.g nr.2.1
    have eD : idx A.d (max (A.d.getD pk 0) (A.g.getD pj 0)) = pk := iv_idx' ok.d nr.2.2
    rcases (show m = 0 ∨ m = 1 ∨ m = 2 by omega) with e | e | e <;> subst e
    · have q1 : pi = i + 1 := q1
      subst q1
      have hsi : A.r[i + 1]? = some s := hsi
      have rl : A.g.getD pj 0 ≤ s - 1 := reach_lt hsi iq.2.2.2.1
      have g1 : 1 ≤ A.g.getD pj 0 := no.g1
      let n : Num := ⟨s, A.g.getD pj 0, max (A.d.getD pk 0) (A.g.getD pj 0)⟩
      have n1 : n.Ok := ⟨g1, by show A.g.getD pj 0 ≤ s; omega, no.gd⟩
      have n2 : (decN 0 n).Ok := ⟨g1, by show A.g.getD pj 0 ≤ s - 1; omega, no.gd⟩
      have p1 : Gr.place A n = (i + 1, pj, pk) := by
        show (idx A.r s, idx A.g (A.g.getD pj 0), idx A.d (max (A.d.getD pk 0) (A.g.getD pj 0))) = _
        rw [iv_idx' ok.r (iv_at ok.r hsi), eG, eD]
      have p2 : Gr.place A (decN 0 n) = (i, pj, pk) := by
        show (idx A.r (s - 1), idx A.g (A.g.getD pj 0), idx A.d (max (A.d.getD pk 0) (A.g.getD pj 0))) = _
        rw [iv_idx' ok.r (iv_before ok.r hsi), eG, eD]
      refine ⟨n, n1, n2, rfl, ?_⟩
      rw [← hf _ n1, ← hf _ n2]
      show W (Gr.place A (decN 0 n)) ≠ W (Gr.place A n)
      rw [p1, p2]
      exact q3
    · have q1 : pj = i + 1 := q1
      subst q1
      have hsi : A.g[i + 1]? = some s := hsi
      have hs' : A.g.getD (i + 1) 0 = s := Gr.getD_of hsi
      have ib := iv_before ok.g hsi
      obtain ⟨a, e1, l1, _⟩ := id ib
      have a1 := ok.g.ge e1
      let n : Num := ⟨max (A.r.getD pi 0) s, s, max (A.d.getD pk 0) s⟩
      have n1 : n.Ok := ⟨by show 1 ≤ s; omega, by show s ≤ max _ s; omega, by show s ≤ max _ s; omega⟩
      have n2 : (decN 1 n).Ok := ⟨by show 1 ≤ s - 1; omega, by show s - 1 ≤ max _ s; omega, by show s - 1 ≤ max _ s; omega⟩
      have nr1 : InIv A.r pi (max (A.r.getD pi 0) s) := by have z := nr.1; unfold Gr.near at z; dsimp only at z; rwa [hs'] at z
      have nr2 : InIv A.d pk (max (A.d.getD pk 0) s) := by have z := nr.2.2; unfold Gr.near at z; dsimp only at z; rwa [hs'] at z
      have p1 : Gr.place A n = (pi, i + 1, pk) := by
        show (idx A.r (max (A.r.getD pi 0) s), idx A.g s, idx A.d (max (A.d.getD pk 0) s)) = _
        rw [iv_idx' ok.r nr1, iv_idx' ok.g (iv_at ok.g hsi), iv_idx' ok.d nr2]
      have p2 : Gr.place A (decN 1 n) = (pi, i, pk) := by
        show (idx A.r (max (A.r.getD pi 0) s), idx A.g (s - 1), idx A.d (max (A.d.getD pk 0) s)) = _
        rw [iv_idx' ok.r nr1, iv_idx' ok.g ib, iv_idx' ok.d nr2]
      refine ⟨n, n1, n2, rfl, ?_⟩
      rw [← hf _ n1, ← hf _ n2]
      show W (Gr.place A (decN 1 n)) ≠ W (Gr.place A n)
      rw [p1, p2]
      exact q3
    · have q1 : pk = i + 1 := q1
      subst q1
      have hsi : A.d[i + 1]? = some s := hsi
      have rl : A.g.getD pj 0 ≤ s - 1 := reach_lt hsi iq.2.2.2.2
      have g1 : 1 ≤ A.g.getD pj 0 := no.g1
      let n : Num := ⟨max (A.r.getD pi 0) (A.g.getD pj 0), A.g.getD pj 0, s⟩
      have n1 : n.Ok := ⟨g1, no.gr, by show A.g.getD pj 0 ≤ s; omega⟩
      have n2 : (decN 2 n).Ok := ⟨g1, no.gr, by show A.g.getD pj 0 ≤ s - 1; omega⟩
      have p1 : Gr.place A n = (pi, pj, i + 1) := by
        show (idx A.r (max (A.r.getD pi 0) (A.g.getD pj 0)), idx A.g (A.g.getD pj 0), idx A.d s) = _
        rw [iv_idx' ok.d (iv_at ok.d hsi), eG, eR]
      have p2 : Gr.place A (decN 2 n) = (pi, pj, i) := by
        show (idx A.r (max (A.r.getD pi 0) (A.g.getD pj 0)), idx A.g (A.g.getD pj 0), idx A.d (s - 1)) = _
        rw [iv_idx' ok.d (iv_before ok.d hsi), eG, eR]
      refine ⟨n, n1, n2, rfl, ?_⟩
      rw [← hf _ n1, ← hf _ n2]
      show W (Gr.place A (decN 2 n)) ≠ W (Gr.place A n)
      rw [p1, p2]
      exact q3
  · rw [← hf _ n1, ← hf _ n2] at hne
    have hne : W (Gr.place A (decN m n)) ≠ W (Gr.place A n) := hne
    have k1 := mem_pls.mpr (Gr.place_in ok n1)
    have k2 := mem_pls.mpr (Gr.place_in ok n2)
    -- the step on the axis
    have key : ∀ (i : Nat), (axm m A)[i + 1]? = some s → co m (Gr.place A n) = i + 1 → dcr m (Gr.place A n) = Gr.place A (decN m n) → ∃ i, i < (axm m A).length - 1 ∧ nds A W m (i + 1) = true ∧ s = (axm m A).getD (i + 1) 0 := fun i h1 h2 h3 => by
      have hj := (List.getElem?_eq_some_iff.mp h1).1
      refine ⟨i, by omega, List.any_eq_true.mpr ⟨_, k1, ?_⟩, (Gr.getD_of h1).symm⟩
      unfold ndp
      rw [h2, h3, decide_eq_true rfl, decide_eq_true k2, decide_eq_false hne]
      rfl
    have g1 := n1.g1
    have gr := n1.gr
    have gd := n1.gd
    rcases (show m = 0 ∨ m = 1 ∨ m = 2 by omega) with e | e | e <;> subst e
    · have hs : n.r = s := hs
      have b1 : n.g ≤ n.r - 1 := n2.gr
      have nz : idx A.r (n.r - 1) ≠ idx A.r n.r := fun z => hne (by show W (idx A.r (n.r - 1), _, _) = W (idx A.r n.r, _, _); rw [z]; rfl)
      obtain ⟨i, e1, e2, e3⟩ := idx_step ok.r (by omega) nz
      refine key i (by rw [← hs]; exact e3) e2 ?_
      show (idx A.r n.r - 1, idx A.g n.g, idx A.d n.d) = (idx A.r (n.r - 1), idx A.g n.g, idx A.d n.d)
      rw [e1, e2]
      rfl
    · have hs : n.g = s := hs
      have b1 : 1 ≤ n.g - 1 := n2.g1
      have nz : idx A.g (n.g - 1) ≠ idx A.g n.g := fun z => hne (by show W (_, idx A.g (n.g - 1), _) = W (_, idx A.g n.g, _); rw [z]; rfl)
      obtain ⟨i, e1, e2, e3⟩ := idx_step ok.g (by omega) nz
      refine key i (by rw [← hs]; exact e3) e2 ?_
      show (idx A.r n.r, idx A.g n.g - 1, idx A.d n.d) = (idx A.r n.r, idx A.g (n.g - 1), idx A.d n.d)
      rw [e1, e2]
      rfl
    · have hs : n.d = s := hs
      have b1 : n.g ≤ n.d - 1 := n2.gd
      have nz : idx A.d (n.d - 1) ≠ idx A.d n.d := fun z => hne (by show W (_, _, idx A.d (n.d - 1)) = W (_, _, idx A.d n.d); rw [z]; rfl)
      obtain ⟨i, e1, e2, e3⟩ := idx_step ok.d (by omega) nz
      refine key i (by rw [← hs]; exact e3) e2 ?_
      show (idx A.r n.r, idx A.g n.g, idx A.d n.d - 1) = (idx A.r n.r, idx A.g n.g, idx A.d (n.d - 1))
      rw [e1, e2]
      rfl
/-- ascending lists with the same members are equal -/
theorem asc_eq : ∀ {l k : List Int}, l.Pairwise (· < ·) → k.Pairwise (· < ·) → (∀ s, s ∈ l ↔ s ∈ k) → l = k
  | [], [], _, _, _ => rfl
  | [], b :: k, _, _, h => absurd ((h b).mpr List.mem_cons_self) List.not_mem_nil
  | a :: l, [], _, _, h => absurd ((h a).mp List.mem_cons_self) List.not_mem_nil
  | a :: l, b :: k, p, q, h => by
    have p := List.pairwise_cons.mp p
    have q := List.pairwise_cons.mp q
    have ab : a = b := by
      rcases List.mem_cons.mp ((h a).mp List.mem_cons_self) with e | e
      · exact e
      · rcases List.mem_cons.mp ((h b).mpr List.mem_cons_self) with e' | e'
        · exact e'.symm
        · have := q.1 a e
          have := p.1 b e'
          omega
    subst ab
    rw [asc_eq p.2 q.2 fun s => ⟨fun hs => ?_, fun hs => ?_⟩]
    · rcases List.mem_cons.mp ((h s).mp (List.mem_cons_of_mem _ hs)) with e | e
      · have := p.1 s hs; omega
      · exact e
    · rcases List.mem_cons.mp ((h s).mpr (List.mem_cons_of_mem _ hs)) with e | e
      · have := q.1 s hs; omega
      · exact e
theorem ess_congr {f g : Num → Int} (h : ∀ n : Num, n.Ok → f n = g n) (m : Nat) (s : Int) : Ess f m s ↔ Ess g m s :=
  ⟨fun ⟨n, n1, n2, e, d⟩ => ⟨n, n1, n2, e, by rw [← h _ n1, ← h _ n2]; exact d⟩, fun ⟨n, n1, n2, e, d⟩ => ⟨n, n1, n2, e, by rw [h _ n1, h _ n2]; exact d⟩⟩
theorem can_uniq {A B : Axes} {f g : Num → Int} (okA : A.Ok) (okB : B.Ok) (cA : GrCan A f) (cB : GrCan B g) (h : ∀ n : Num, n.Ok → f n = g n) : A = B := by
  have key : ∀ m, m < 3 → axm m A = axm m B := fun m hm => asc_eq (axm_ok okA hm).asc (axm_ok okB hm).asc fun s => by rw [cA m hm, cB m hm, ess_congr h]
  obtain ⟨r, g, d⟩ := A
  obtain ⟨r', g', d'⟩ := B
  have e0 : r = r' := key 0 (by decide)
  have e1 : g = g' := key 1 (by decide)
  have e2 : d = d' := key 2 (by decide)
  rw [e0, e1, e2]
/-! lines -/
structure LnCan (l : Ln) (f : Int → Int) : Prop where
  st : ∀ s, s ∈ fst l ↔ s = 1 ∨ (2 ≤ s ∧ f (s - 1) ≠ f s)
/-- neighbours in a clean line differ -/
theorem clean_adj : ∀ (n : Nat) (l : Ln), l.length = n → ∀ (i : Nat) (p q : Int × Int), (clean l)[i]? = some p → (clean l)[i + 1]? = some q → p.2 ≠ q.2
  | 0, l, hn, i, p, q, h, _ => by
    rw [List.length_eq_zero_iff.mp hn] at h
    cases h
  | n + 1, l, hn, i, p, q, h1, h2 => by
    rcases Gr.snoc_cases l with h | ⟨r, z, rfl⟩
    · rw [h] at hn; cases hn
    have ih := clean_adj n r (by rw [List.length_append] at hn; simpa using hn)
    rw [Gr.clean_snoc] at h1 h2
    have put : ((clean r).getLast? = none ∨ ∃ y, (clean r).getLast? = some y ∧ y.2 ≠ z.2) → (clean r ++ [z])[i]? = some p → (clean r ++ [z])[i + 1]? = some q → p.2 ≠ q.2 := fun hl h1 h2 => by
      rcases Nat.lt_or_ge (i + 1) (clean r).length with c | c
      · rw [List.getElem?_append_left (by omega)] at h1
        rw [List.getElem?_append_left c] at h2
        exact ih i p q h1 h2
      · have hj := (List.getElem?_eq_some_iff.mp h2).1
        rw [List.length_append] at hj
        have ei : i + 1 = (clean r).length := by
          have : [z].length = 1 := rfl
          omega
        rw [List.getElem?_append_right c, ei, Nat.sub_self] at h2
        cases h2
        rw [List.getElem?_append_left (by omega)] at h1
        have gl : (clean r).getLast? = some p := by
          rw [List.getLast?_eq_getElem?, ← ei]
          exact h1
        rcases hl with e | ⟨y, e, ne⟩
        · rw [gl] at e; cases e
        · rw [gl] at e; cases e; exact ne
    unfold Gr.clStep at h1 h2
    cases e : (clean r).getLast? with
    | none =>
      rw [e] at h1 h2
      exact put (.inl e) h1 h2
    | some y =>
      rw [e] at h1 h2
      by_cases c : y.2 = z.2
      · have h1 : (if y.2 = z.2 then clean r else clean r ++ [z])[i]? = some p := h1
        have h2 : (if y.2 = z.2 then clean r else clean r ++ [z])[i + 1]? = some q := h2
        rw [if_pos c] at h1 h2
        exact ih i p q h1 h2
      · have h1 : (if y.2 = z.2 then clean r else clean r ++ [z])[i]? = some p := h1
        have h2 : (if y.2 = z.2 then clean r else clean r ++ [z])[i + 1]? = some q := h2
        rw [if_neg c] at h1 h2
        exact put (.inr ⟨y, e, c⟩) h1 h2
theorem ln_selfC {p : Int × Int} : ∀ (n : Nat) (l : Ln), l.length = n → (l.map (·.1)).Pairwise (· < ·) → p ∈ l → lnAt l p.1 = p.2
  | 0, l, hn, _, hp => by rw [List.length_eq_zero_iff.mp hn] at hp; cases hp
  | n + 1, l, hn, asc, hp => by
    rcases Gr.snoc_cases l with h | ⟨r, q, rfl⟩
    · rw [h] at hn; cases hn
    rw [List.length_append] at hn
    rw [List.map_append] at asc
    obtain ⟨a1, _, a3⟩ := List.pairwise_append.mp asc
    rw [Gr.lnAt_snoc]
    rcases List.mem_append.mp hp with z | z
    · have := a3 p.1 (List.mem_map.mpr ⟨p, z, rfl⟩) q.1 List.mem_cons_self
      rw [if_neg (by omega)]
      exact ln_selfC n r (by simpa using hn) a1 z
    · rw [List.mem_singleton.mp z, if_pos (Int.le_refl _)]
theorem ln_canon {l : Ln} {f : Int → Int} (ok : LnOk (clean l)) (hf : ∀ x, 1 ≤ x → lnAt (clean l) x = f x) : LnCan (clean l) f := by
  refine ⟨fun s => ⟨fun h => ?_, fun h => ?_⟩⟩
  · by_cases c : s = 1
    · exact .inl c
    right
    obtain ⟨i, hi⟩ := List.getElem?_of_mem h
    have h0 := ok.at0
    cases i with
    | zero =>
      have z := Gr.getD_of hi
      rw [show fst (clean l) = (clean l).map (·.1) from rfl, h0.1] at z
      exact absurd z.symm c
    | succ i =>
      have ib := iv_before ok hi
      have ia := iv_at ok hi
      obtain ⟨a, e1, l1, _⟩ := id ib
      have a1 := ok.ge e1
      refine ⟨by omega, ?_⟩
      rw [← hf _ (by omega), ← hf _ (by omega)]
      have hi' : ((clean l).map (·.1))[i + 1]? = some s := hi
      rw [List.getElem?_map] at hi'
      obtain ⟨q, hq, rfl⟩ := Option.map_eq_some_iff.mp hi'
      have e1' : ((clean l).map (·.1))[i]? = some a := e1
      rw [List.getElem?_map] at e1'
      obtain ⟨p, hp, rfl⟩ := Option.map_eq_some_iff.mp e1'
      have z1 := ln_selfC _ _ rfl ok.asc (List.mem_of_getElem? hq)
      have z2 := ln_selfC _ _ rfl ok.asc (List.mem_of_getElem? hp)
      rw [z1, Gr.lnAt_same ok.asc (fun p hp => List.mem_map.mpr ⟨p, hp, rfl⟩) ib (iv_at ok (i := i) e1), z2]
      exact clean_adj _ l rfl i p q hp hq
  · rcases h with rfl | ⟨h2, hne⟩
    · exact List.mem_of_getElem? (i := 0) (by have z := ok.one; rw [show fst (clean l) = (clean l).map (·.1) from rfl]; cases e : (clean l).map (·.1) with | nil => rw [e] at z; cases z | cons b r => rw [e] at z; cases z; rfl)
    · rw [← hf _ (by omega), ← hf _ (by omega)] at hne
      refine Classical.byContradiction fun ni => hne ?_
      refine Gr.lnAt_congr fun p hp => ?_
      have : p.1 ≠ s := fun e => ni (e ▸ List.mem_map.mpr ⟨p, hp, rfl⟩)
      omega
theorem ln_form {l : Ln} {f : Int → Int} (ok : LnOk l) (hf : ∀ x, 1 ≤ x → lnAt l x = f x) : l = (fst l).map fun s => (s, f s) := by
  unfold fst
  rw [List.map_map]
  symm
  refine (List.map_congr_left fun p hp => ?_).trans (List.map_id _)
  have p1 : 1 ≤ p.1 := by
    obtain ⟨i, hi⟩ := List.getElem?_of_mem (List.mem_map.mpr ⟨p, hp, rfl⟩ : p.1 ∈ l.map (·.1))
    exact ok.ge hi
  show (p.1, f p.1) = p
  rw [← hf _ p1, ln_selfC _ l rfl ok.asc hp]
theorem ln_uniq {l k : Ln} {f g : Int → Int} (ok1 : LnOk l) (ok2 : LnOk k) (h1 : ∀ x, 1 ≤ x → lnAt l x = f x) (h2 : ∀ x, 1 ≤ x → lnAt k x = g x) (c1 : LnCan l f) (c2 : LnCan k g) (h : ∀ x, 1 ≤ x → f x = g x) : l = k := by
  have e : fst l = fst k := asc_eq ok1.asc ok2.asc fun s => by
    rw [c1.st, c2.st]
    refine or_congr Iff.rfl ⟨fun ⟨a, b⟩ => ⟨a, by rw [← h _ (by omega), ← h _ (by omega)]; exact b⟩, fun ⟨a, b⟩ => ⟨a, by rw [h _ (by omega), h _ (by omega)]; exact b⟩⟩
  rw [ln_form ok1 h1, ln_form ok2 h2, e]
  refine List.map_congr_left fun s hs => ?_
  obtain ⟨i, hi⟩ := List.getElem?_of_mem hs
  rw [h s (ok2.ge hi)]
/-- the excess of a joined axis: both together, or that of one where both answer alike -/
def Jn (P : Prop) (a b c : Nat) : Prop := c = a + b ∨ (P ∧ a = b ∧ c = a)
theorem Jn.le {P : Prop} {a b c n : Nat} (h : Jn P a b c) (k : c ≤ n) : a ≤ n ∧ b ≤ n := by
  rcases h with h | ⟨_, h, h2⟩ <;> omega
theorem uni_same {l u : List Int} (hl : l.Pairwise (· < ·)) (hu : Uni l l u) : u = l := asc_eq hu.asc hl fun s => by rw [hu.m s]; exact or_self_iff

structure GrRes (A : Axes) (W : Wt) (A' : Axes) (W' : Wt) : Prop where
  ok : A'.Ok
  sub : A'.Sub A
  at_ : ∀ n : Num, n.Ok → gAt A' W' n = gAt A W n
  lr : A'.r.length ≤ A.r.length
  lg : A'.g.length ≤ A.g.length
  ld : A'.d.length ≤ A.d.length
  can : ∀ f : Num → Int, (∀ n : Num, n.Ok → gAt A W n = f n) → GrCan A' f
theorem GrRes.sz {A A' : Axes} {W W' : Wt} (h : GrRes A W A' W') (z : ASz A) : ASz A' := ⟨Nat.le_trans h.lr z.r, Nat.le_trans h.lg z.g, Nat.le_trans h.ld z.d⟩
theorem kept_len {ax : List Int} {P : Nat → Bool} (h : AxOk ax) : (Gr.keep ax P (ax.length - 1)).length ≤ ax.length := by
  have := keep_len ax P (ax.length - 1)
  have := h.at0.2
  omega
theorem kept_res {A : Axes} {W : Wt} (ok : A.Ok) : GrRes A W (kA A W) (kW A W) := by
  refine ⟨Gr.kept_ok ok _ _ _, ⟨?_, ?_, ?_⟩, fun n hn => Gr.clean_at ok nds_clean hn, kept_len ok.r, kept_len ok.g, kept_len ok.d, fun f hf => kept_can ok hf⟩
  · exact Gr.keep_sub ok.r (by have := ok.r.at0.2; omega)
  · exact Gr.keep_sub ok.g (by have := ok.g.at0.2; omega)
  · exact Gr.keep_sub ok.d (by have := ok.d.at0.2; omega)
def spCleanG : Sp := fun vs H Q _ => ∃ (t d : Addr) (N : Addr → Prop) (A : Axes) (W : Wt), vs = [.ref t, .ref d] ∧ AxsAt N H t A ∧ H d = some (.dT (wtK A W)) ∧ A.Ok ∧ ASz A ∧
  ∀ g H' A' W', GrAt (fun a => H a = none) H' g A' W' → GrRes A W A' W' → Same H H' → Q (.ref g) H'
section
variable {P : Program} {w : World} {K : PySem.W.Frag} {mg : Str → Option Value} {base : Heap}

theorem ok_clean_grid (T : Txt K mg) : FnOk P w K mg base CX0 4 T.f_clean_grid T.d_clean_grid ["axes", "weights"] spCleanG := by
  refine T.F_clean_grid.ok sc_clean_grid (fun vs H Q E h => ?_) (fun cdv A outer s H vs Q E hr h => ?_)
  · obtain ⟨t, d, N, A, W, rfl, _⟩ := h
    rfl
  obtain ⟨t, d, N, A, W, rfl, o, gd, ok, hz, q⟩ := h
  refine ⟨_, (pss_cons (ps_set (i := 2) sc_clean_grid.nd rfl (by first | exact Or.inl rfl | exact Or.inr rfl) (pe_tup (pa_cons (pe_call (ok_needed_starts T) (hr.mono (by decide)) (by rfl) T.g_needed_starts T.F_needed_starts.kp T.b_needed_starts .nil pass0 (pa_cons (pv 0) (pa_cons (pv 1) (pa_cons pe_int pa_nil)))) (pa_cons (pe_call (ok_needed_starts T) (hr.mono (by decide)) (by rfl) T.g_needed_starts T.F_needed_starts.kp T.b_needed_starts .nil pass0 (pa_cons (pv 0) (pa_cons (pv 1) (pa_cons pe_int pa_nil)))) (pa_cons (pe_call (ok_needed_starts T) (hr.mono (by decide)) (by rfl) T.g_needed_starts T.F_needed_starts.kp T.b_needed_starts .nil pass0 (pa_cons (pv 0) (pa_cons (pv 1) (pa_cons pe_int pa_nil)))) pa_nil)))))
      (pss_cons (ps_set (i := 3) sc_clean_grid.nd rfl (by first | exact Or.inl rfl | exact Or.inr rfl) pe_dnewT)
      (pss_cons (ps_for PassesOwn.never rfl (pi_list (pe_call (ok_places_of T) (hr.mono (by decide)) (by rfl) T.g_places_of T.F_places_of.kp T.b_places_of .nil pass0 (pa_cons (pv 2) pa_nil))) (pg_name (i := 4) sc_clean_grid.nd rfl (by first | exact Or.inl rfl | exact Or.inr rfl)) (pss_one (ps_dput (hu_of hr) (pv 3) (pv 4) (pe_call (ok_grid_at T) (hr.mono (by decide)) (by rfl) T.g_grid_at T.F_grid_at.kp T.b_grid_at .nil pass0 (pa_cons (pe_tup (pa_cons (pv 0) (pa_cons (pv 1) pa_nil))) (pa_cons (pe_call (ok_near T) (hr.mono (by decide)) (by rfl) T.g_near T.F_near.kp T.b_near .nil pass0 (pa_cons (pv 2) (pa_cons (pv 4) pa_nil))) pa_nil))) rfl)))
      (pss_one (ps_ret (pe_tup (pa_cons (pv 2) (pa_cons (pv 3) pa_nil)))))))), ?_⟩
  try simp only [nox_K, cx_K]
  have res := kept_res (W := W) ok
  wtm_at "rd"
  refine ⟨t, d, 0, N, A, W, rfl, by decide, o, gd, ok, hz, fun k0 H1 n0 e0 s1 => ?_⟩
  wtm_at "rd"
  refine ⟨t, d, 1, N, A, W, rfl, by decide, o.same s1, s1 _ _ gd, ok, hz, fun k1 H2 n1 e1 s2 => ?_⟩
  have s12 := s1.trans s2
  wtm_at "rd"
  refine ⟨t, d, 2, N, A, W, rfl, by decide, o.same s12, s12 _ _ gd, ok, hz, fun k2 H3 n2 e2 s3 => ?_⟩
  have s13 := s12.trans s3
  wtm_at "rd"
  refine r_new rfl fun kp n_kp => ?_
  have s4 := same_new (o := .tup [.ref k0, .ref k1, .ref k2]) n_kp
  have oK : AxsAt (fun a => H a = none) (upd H3 kp (.tup [.ref k0, .ref k1, .ref k2])) kp (kA A W) := ⟨k0, k1, k2, upd_same, s4 _ _ (s3 _ _ (s2 _ _ e0)), s4 _ _ (s3 _ _ e1), s4 _ _ e2, n0, none_s s1 n1, none_s s12 n2⟩
  have s14 := s13.trans s4
  generalize upd H3 kp (.tup [.ref k0, .ref k1, .ref k2]) = H4 at s14 oK ⊢
  clear s4 n_kp e0 e1 e2 s1 s2 s3 s12 s13
  wtm_at "rd"
  intro sm n_sm
  have n_sm0 := none_s s14 n_sm
  have s5 := same_new (o := .dT []) n_sm
  have gs : (upd H4 sm (.dT [])) sm = some (.dT []) := upd_same
  have oK := oK.same s5
  have s15 := s14.trans s5
  generalize upd H4 sm (.dT []) = H5 at s15 oK gs ⊢
  clear s5 s14
  wtm_at "rd"
  refine r_for (r_il ?_)
  wtm_at "rd"
  refine ⟨kp, _, _, rfl, oK, res.sz hz, fun l us H6 n_l h_l hus s6 => ?_⟩
  have oK := oK.same s6
  have gs := s6 _ _ gs
  have s16 := s15.trans s6
  have o := o.same s16
  have d_sm : d ≠ sm := ne_of_none gd n_sm0
  have gd := s16 _ _ gd
  wtm_at "rd"
  refine r_itl (SqL.of h_l) ?_
  have lsm : l ≠ sm := ne_of h_l gs fun e => nomatch e
  have kz := pls_len (res.sz hz)
  have ul := hus.len
  refine for_list (K := K) (a := l) (xs := us.map V.ref) (fun i σ H' => ∃ x5 : Option V, σ = [some (.ref t), some (.ref d), some (.ref kp), some (.ref sm), x5] ∧ H' sm = some (.dT (((pls (kA A W)).take i).map fun p => (plK p, V.int (kW A W p)))) ∧ (∀ b x, H6 b = some x → b ≠ sm → H' b = some x) ∧ Same H H') ⟨_, rfl, gs, fun _ _ e _ => e, s16⟩ (fun i σ H' _ ⟨_, _, _, k, _⟩ => SqL.of (k _ _ h_l lsm)) ?_ ?_
  · rintro i v σ H7 hv ⟨x5, rfl, g7, k7, s7⟩
    rw [List.getElem?_map] at hv
    obtain ⟨u, hu, rfl⟩ := Option.map_eq_some_iff.mp hv
    obtain ⟨p, hp, pu⟩ := hus.get hu
    have hi := (List.getElem?_eq_some_iff.mp hp).1
    have pin : inPl (kA A W) p := mem_pls.mp (List.mem_of_getElem? hp)
    have u_sm : u ≠ sm := ne_of pu gs fun e => nomatch e
    have pu7 : PlAt H7 u p := k7 _ _ pu u_sm
    have oK7 : AxsAt (fun a => H a = none) H7 kp (kA A W) := by
      obtain ⟨x, y, z, h1, h2, h3, h4, h5⟩ := oK
      exact ⟨x, y, z, k7 _ _ h1 (ne_of h1 gs fun e => nomatch e), k7 _ _ h2 (ne_of h2 gs fun e => nomatch e), k7 _ _ h3 (ne_of h3 gs fun e => nomatch e), k7 _ _ h4 (ne_of h4 gs fun e => nomatch e), h5⟩
    have o7 := o
    obtain ⟨ox, oy, oz, h1, h2, h3, h4, h5⟩ := o7
    have o7 : AxsAt N H7 t A := ⟨ox, oy, oz, k7 _ _ h1 (ne_of h1 gs fun e => nomatch e), k7 _ _ h2 (ne_of h2 gs fun e => nomatch e), k7 _ _ h3 (ne_of h3 gs fun e => nomatch e), k7 _ _ h4 (ne_of h4 gs fun e => nomatch e), h5⟩
    have gd7 := k7 _ _ gd d_sm
    wtm_at "rd"
    refine r_new rfl fun g0 n_g0 => ?_
    have t1 := same_new (o := .tup [.ref t, .ref d]) n_g0
    have gr : GrAt N (upd H7 g0 (.tup [.ref t, .ref d])) g0 A W := ⟨t, d, upd_same, o7.same t1, t1 _ _ gd7⟩
    generalize upd H7 g0 (.tup [.ref t, .ref d]) = H8 at t1 gr ⊢
    wtm_at "rd"
    refine ⟨kp, u, _, kA A W, p, rfl, oK7.same t1, t1 _ _ pu7, pin, fun a na => ?_⟩
    have t2 := same_new (o := .tup [.int (Gr.near (kA A W) p).r, .int (Gr.near (kA A W) p).g, .int (Gr.near (kA A W) p).d]) na
    have na2 : NumAt (upd H8 a (.tup [.int (Gr.near (kA A W) p).r, .int (Gr.near (kA A W) p).g, .int (Gr.near (kA A W) p).d])) a (Gr.near (kA A W) p) := upd_same
    have gr := gr.same t2
    have t2 := t1.trans t2
    generalize upd H8 a (.tup [.int (Gr.near (kA A W) p).r, .int (Gr.near (kA A W) p).g, .int (Gr.near (kA A W) p).d]) = H9 at t2 na2 gr ⊢
    wtm_at "rd"
    refine ⟨g0, a, N, A, W, Gr.near (kA A W) p, rfl, gr, ok, hz, na2, Gr.near_ok res.ok pin, fun H10 t3 => ?_⟩
    have t3 := t2.trans t3
    wtm_at "rd"
    have pu10 : H10 u = some (.tup ((plK p).map kV)) := t3 _ _ pu7
    refine r_dputT (k := plK p) (t3 _ _ g7) pu10 (by rw [List.length_map, List.length_take]; omega) ?_
    refine ⟨_, rfl, ?_, fun b x e n => (upd_ne n).trans (t3 _ _ (k7 b x e n)), put_sameR (s7.trans t3) n_sm0⟩
    rw [upd_same, putK_new _ (wt_none (pls_fresh hp)), List.take_add_one, hp, List.map_append]
    rfl
  · rintro σ H7 ⟨x5, rfl, g7, k7, s7⟩
    rw [List.length_map, ul, List.take_length] at g7
    wtm_at "rd"
    refine r_new rfl fun g n_g => ?_
    have sg := same_new (o := .tup [.ref kp, .ref sm]) n_g
    obtain ⟨x, y, z, h1, h2, h3, h4, h5⟩ := oK
    exact q g _ (kA A W) (kW A W) ⟨kp, sm, upd_same, ⟨x, y, z, sg _ _ (k7 _ _ h1 (ne_of h1 gs fun e => nomatch e)), sg _ _ (k7 _ _ h2 (ne_of h2 gs fun e => nomatch e)), sg _ _ (k7 _ _ h3 (ne_of h3 gs fun e => nomatch e)), sg _ _ (k7 _ _ h4 (ne_of h4 gs fun e => nomatch e)), h5⟩, sg _ _ g7⟩ res (s7.trans sg)

end

def nm (m : Nat) (n : Num) : Int := match m with | 0 => n.r | 1 => n.g | _ => n.d
def Am (m : Nat) (st : List Int) : Axes := match m with | 0 => ⟨st, [1], [1]⟩ | 1 => ⟨[1], st, [1]⟩ | _ => ⟨[1], [1], st⟩
theorem one_ok : AxOk [1] := ⟨List.pairwise_singleton _ _, rfl⟩
theorem am_ok {m : Nat} {st : List Int} (hm : m < 3) (h : AxOk st) : (Am m st).Ok := three (P := fun m => (Am m st).Ok) ⟨h, one_ok, one_ok⟩ ⟨one_ok, h, one_ok⟩ ⟨one_ok, one_ok, h⟩ hm
theorem am_ax {m : Nat} {st : List Int} (hm : m < 3) : axm m (Am m st) = st := three (P := fun m => axm m (Am m st) = st) rfl rfl rfl hm
theorem am_sz {m : Nat} {st : List Int} (hm : m < 3) (h : st.length ≤ 3) : ASz (Am m st) := by
  have h1 : ([1] : List Int).length ≤ 20 := by decide
  have h2 : st.length ≤ 20 := by omega
  exact three (P := fun m => ASz (Am m st)) ⟨h2, h1, h1⟩ ⟨h1, h2, h1⟩ ⟨h1, h1, h2⟩ hm
theorem set3 {N : Addr → Prop} {H : Hp} {a b c s : Addr} {st : List Int} {m : Nat} (hm : m < 3) (ha : H a = some (.lst [V.int 1])) (hb : H b = some (.lst [V.int 1])) (hc : H c = some (.lst [V.int 1])) (hs : H s = some (.lst (st.map V.int))) (na : N a) (nb : N b) (nc : N c) (ns : N s) :
    ∃ x y z, ([V.ref a, .ref b, .ref c].set m (.ref s)) = [.ref x, .ref y, .ref z] ∧ H x = some (.lst ((Am m st).r.map V.int)) ∧ H y = some (.lst ((Am m st).g.map V.int)) ∧ H z = some (.lst ((Am m st).d.map V.int)) ∧ N x ∧ N y ∧ N z :=
  three (P := fun m => ∃ x y z, ([V.ref a, .ref b, .ref c].set m (.ref s)) = [.ref x, .ref y, .ref z] ∧ H x = some (.lst ((Am m st).r.map V.int)) ∧ H y = some (.lst ((Am m st).g.map V.int)) ∧ H z = some (.lst ((Am m st).d.map V.int)) ∧ N x ∧ N y ∧ N z)
    ⟨s, b, c, rfl, hs, hb, hc, ns, nb, nc⟩ ⟨a, s, c, rfl, ha, hs, hc, na, ns, nc⟩ ⟨a, b, s, rfl, ha, hb, hs, na, nb, ns⟩ hm
theorem co_lt {m : Nat} (hm : m < 3) {A : Axes} {p : Pl} (h : inPl A p) : co m p < (axm m A).length := three (P := fun m => co m p < (axm m A).length) h.1 h.2.1 h.2.2.1 hm
def Wb (m : Nat) (lo hi : En) : Wt := fun p => Gr.b2i (ins lo hi ((startsOf lo hi).getD (co m p) 0))
theorem nm_one {m : Nat} (hm : m < 3) {n : Num} (h : n.Ok) : 1 ≤ nm m n := three (P := fun m => 1 ≤ nm m n) (Int.le_trans h.g1 h.gr) h.g1 (Int.le_trans h.g1 h.gd) hm
theorem co_place {m : Nat} (hm : m < 3) {A : Axes} {n : Num} : co m (Gr.place A n) = idx (axm m A) (nm m n) := three (P := fun m => co m (Gr.place A n) = idx (axm m A) (nm m n)) rfl rfl rfl hm
theorem betw_at {m : Nat} {lo hi : En} (hm : m < 3) (h : EndsOk lo hi) {n : Num} (hn : n.Ok) : gAt (Am m (startsOf lo hi)) (Wb m lo hi) n = Gr.b2i (ins lo hi (nm m n)) := by
  have ok := Gr.starts_ok h
  have iv := ok.iv (nm_one hm hn)
  show Gr.b2i (ins lo hi ((startsOf lo hi).getD (co m (Gr.place (Am m (startsOf lo hi)) n)) 0)) = _
  rw [co_place hm, am_ax hm]
  have iv' : Gr.InIv (startsOf lo hi) (idx (startsOf lo hi) (nm m n)) ((startsOf lo hi).getD (idx (startsOf lo hi) (nm m n)) 0) := Gr.iv_self ok.asc iv.lt
  rw [Gr.ins_same h iv' iv ?_ (nm_one hm hn)]
  exact ok.ge (List.getElem?_eq_getElem iv.lt) |> fun z => by rw [Gr.getD_of (List.getElem?_eq_getElem iv.lt)]; exact z
/-- a grid by what it answers; e bounds the starts beyond the first -/
structure GrI0 (A : Axes) (W : Wt) (f : Num → Int) (er eg ed : Nat) : Prop where
  ok : A.Ok
  at_ : ∀ n : Num, n.Ok → gAt A W n = f n
  lr : A.r.length ≤ 1 + er
  lg : A.g.length ≤ 1 + eg
  ld : A.d.length ≤ 1 + ed
structure GrIs (A : Axes) (W : Wt) (f : Num → Int) (er eg ed : Nat) : Prop extends GrI0 A W f er eg ed where
  can : GrCan A f
theorem GrRes.is_ {A A' : Axes} {W W' : Wt} {f : Num → Int} {er eg ed : Nat} (h : GrRes A W A' W') (k : GrI0 A W f er eg ed) : GrIs A' W' f er eg ed := ⟨⟨h.ok, fun n hn => (h.at_ n hn).trans (k.at_ n hn), Nat.le_trans h.lr k.lr, Nat.le_trans h.lg k.lg, Nat.le_trans h.ld k.ld⟩, h.can f k.at_⟩
def e3 (m k : Nat) : Nat := if m = k then 2 else 0
theorem betw_is {m : Nat} {lo hi : En} (hm : m < 3) (h : EndsOk lo hi) : GrI0 (Am m (startsOf lo hi)) (Wb m lo hi) (fun n => Gr.b2i (ins lo hi (nm m n))) (e3 m 0) (e3 m 1) (e3 m 2) := by
  have l3 := (starts_len lo hi).1
  refine ⟨am_ok hm (Gr.starts_ok h), fun n hn => betw_at hm h hn, ?_, ?_, ?_⟩
  · exact three (P := fun m => (Am m (startsOf lo hi)).r.length ≤ 1 + e3 m 0) l3 (Nat.le_refl _) (Nat.le_refl _) hm
  · exact three (P := fun m => (Am m (startsOf lo hi)).g.length ≤ 1 + e3 m 1) (Nat.le_refl _) l3 (Nat.le_refl _) hm
  · exact three (P := fun m => (Am m (startsOf lo hi)).d.length ≤ 1 + e3 m 2) (Nat.le_refl _) (Nat.le_refl _) l3 hm
theorem AxsAt.mono {N M : Addr → Prop} {H : Hp} {t : Addr} {A : Axes} (h : AxsAt N H t A) (f : ∀ a, N a → M a) : AxsAt M H t A := by
  obtain ⟨x, y, z, h1, h2, h3, h4, h5, h6, h7⟩ := h
  exact ⟨x, y, z, h1, h2, h3, h4, f _ h5, f _ h6, f _ h7⟩
theorem GrAt.mono {N M : Addr → Prop} {H : Hp} {g : Addr} {A : Axes} {W : Wt} (h : GrAt N H g A W) (f : ∀ a, N a → M a) : GrAt M H g A W := by
  obtain ⟨t, d, h1, h2, h3⟩ := h
  exact ⟨t, d, h1, h2.mono f, h3⟩
def spGrBetw : Sp := fun vs H Q _ => ∃ (m : Nat) (lo hi : En), vs = [.int (m : Int), endV lo, endV hi] ∧ m < 3 ∧ EndsOk lo hi ∧
  ∀ g H' A W, GrAt (fun a => H a = none) H' g A W → GrIs A W (fun n => Gr.b2i (ins lo hi (nm m n))) (e3 m 0) (e3 m 1) (e3 m 2) → Same H H' → Q (.ref g) H'
section
variable {P : Program} {w : World} {K : PySem.W.Frag} {mg : Str → Option Value} {base : Heap}

theorem ok_grid_between (T : Txt K mg) : FnOk P w K mg base CX0 5 T.f_grid_between T.d_grid_between ["axis", "low", "high"] spGrBetw := by
  refine T.F_grid_between.ok sc_grid_between (fun vs H Q E h => ?_) (fun cdv A outer s H vs Q E hr h => ?_)
  · obtain ⟨m, lo, hi, rfl, _⟩ := h
    rfl
  obtain ⟨m, lo, hi, rfl, hm, he, q⟩ := h
  refine ⟨_, (pss_cons (ps_set (i := 3) sc_grid_between.nd rfl (by first | exact Or.inl rfl | exact Or.inr rfl) (pe_lst (pa_cons (pe_lst (pa_cons pe_int pa_nil)) (pa_cons (pe_lst (pa_cons pe_int pa_nil)) (pa_cons (pe_lst (pa_cons pe_int pa_nil)) pa_nil)))))
      (pss_cons (ps_asg (pe_call (ok_starts_of T) (hr.mono (by decide)) (by rfl) T.g_starts_of T.F_starts_of.kp T.b_starts_of .nil pass0 (pa_cons (pv 1) (pa_cons (pv 2) pa_nil))) (pg_sub (pv 3) (pv 0) set_list))
      (pss_cons (ps_set (i := 4) sc_grid_between.nd rfl (by first | exact Or.inl rfl | exact Or.inr rfl) (pe_tup (pa_cons (pe_ix (r := rIxL K) ix_list (pv 3) pe_int (fun _ _ => rfl)) (pa_cons (pe_ix (r := rIxL K) ix_list (pv 3) pe_int (fun _ _ => rfl)) (pa_cons (pe_ix (r := rIxL K) ix_list (pv 3) pe_int (fun _ _ => rfl)) pa_nil)))))
      (pss_cons (ps_set (i := 5) sc_grid_between.nd rfl (by first | exact Or.inl rfl | exact Or.inr rfl) pe_dnewT)
      (pss_cons (ps_for PassesOwn.never rfl (pi_list (pe_call (ok_places_of T) (hr.mono (by decide)) (by rfl) T.g_places_of T.F_places_of.kp T.b_places_of .nil pass0 (pa_cons (pv 4) pa_nil))) (pg_name (i := 6) sc_grid_between.nd rfl (by first | exact Or.inl rfl | exact Or.inr rfl)) (pss_one (ps_dput (hu_of hr) (pv 5) (pv 6) (pe_callTy c_intB (by rfl) T.z_int (by decide +kernel) (pa_cons (pe_call (ok_inside T) (hr.mono (by decide)) (by rfl) T.g_inside T.F_inside.kp T.b_inside .nil pass0 (pa_cons (pv 1) (pa_cons (pv 2) (pa_cons (pe_ix (r := rIxL K) ix_list (pe_ix (r := rIxT K) ix_tup (pv 4) (pv 0) (fun _ _ => rfl)) (pe_ix (r := rIxT K) ix_tup (pv 6) (pv 0) (fun _ _ => rfl)) (fun _ _ => rfl)) pa_nil)))) pa_nil)) rfl)))
      (pss_one (ps_ret (pe_call (ok_clean_grid T) (hr.mono (by decide)) (by rfl) T.g_clean_grid T.F_clean_grid.kp T.b_clean_grid .nil pass0 (pa_cons (pv 4) (pa_cons (pv 5) pa_nil)))))))))), ?_⟩
  try simp only [nox_K, cx_K]
  have l3 := (starts_len lo hi).1
  wtm_at "rd"
  refine r_new rfl fun a n_a => ?_
  have n_a0 := n_a
  generalize eq_a : upd _ a _ = H1
  have s_a : Same _ H1 := eq_a ▸ same_new n_a
  have h_a : H1 a = some _ := eq_a ▸ upd_same
  clear eq_a
  wtm_at "rd"
  refine r_new rfl fun b n_b => ?_
  have n_b0 := none_s s_a n_b
  generalize eq_b : upd _ b _ = H2
  have s_b : Same _ H2 := eq_b ▸ same_new n_b
  have h_b : H2 b = some _ := eq_b ▸ upd_same
  clear eq_b
  have h_a := s_b _ _ h_a
  have s_a := s_a.trans s_b
  wtm_at "rd"
  refine r_new rfl fun c n_c => ?_
  have n_c0 := none_s s_a n_c
  generalize eq_c : upd _ c _ = H3
  have s_c : Same _ H3 := eq_c ▸ same_new n_c
  have h_c : H3 c = some _ := eq_c ▸ upd_same
  clear eq_c
  have h_a := s_c _ _ h_a
  have h_b := s_c _ _ h_b
  have s_a := s_a.trans s_c
  wtm_at "rd"
  refine r_new rfl fun l n_l => ?_
  have n_l0 := none_s s_a n_l
  have a_l := ne_of_none h_a n_l
  have b_l := ne_of_none h_b n_l
  have c_l := ne_of_none h_c n_l
  generalize eq_l : upd _ l _ = H4
  have s_l : Same _ H4 := eq_l ▸ same_new n_l
  have h_l : H4 l = some _ := eq_l ▸ upd_same
  clear eq_l
  have h_a := s_l _ _ h_a
  have h_b := s_l _ _ h_b
  have h_c := s_l _ _ h_c
  have s_a := s_a.trans s_l
  wtm_at "rd"
  refine ⟨lo, hi, rfl, fun s H5 n_s h_s s_s => ?_⟩
  have n_s0 := none_s s_a n_s
  wtm_at "rd"
  have s_l := (ne_of_none h_l n_s).symm
  obtain ⟨x, y, z, eL, hx, hy, hz, ⟨nx, xl⟩, ⟨ny, yl⟩, nz, zl⟩ := set3 (N := fun a => H a = none ∧ a ≠ l) hm (s_s _ _ h_a) (s_s _ _ h_b) (s_s _ _ h_c) h_s ⟨n_a0, a_l⟩ ⟨n_b0, b_l⟩ ⟨n_c0, c_l⟩ ⟨n_s0, s_l⟩
  have hl5 := s_s _ _ h_l
  refine r_setL hl5 (n := m) (by rw [ixn_in (by omega) (by show (m : Int) < 3; omega), Int.toNat_natCast]) ?_
  rw [eL]
  have s6 : Same H (upd H5 l (.lst [.ref x, .ref y, .ref z])) := put_sameR (s_a.trans s_s) n_l0
  have gl : (upd H5 l (.lst [.ref x, .ref y, .ref z])) l = some (.lst [.ref x, .ref y, .ref z]) := upd_same
  have hx := (upd_ne (o := HO.lst [.ref x, .ref y, .ref z]) xl).trans hx
  have hy := (upd_ne (o := HO.lst [.ref x, .ref y, .ref z]) yl).trans hy
  have hz := (upd_ne (o := HO.lst [.ref x, .ref y, .ref z]) zl).trans hz
  generalize upd H5 l (.lst [.ref x, .ref y, .ref z]) = H6 at s6 gl hx hy hz ⊢
  clear s_s h_s h_a h_b h_c h_l s_a hl5 n_s n_l eL
  wtm_at "rd"
  refine r_new rfl fun t n_t => ?_
  have sT := same_new (o := .tup [.ref x, .ref y, .ref z]) n_t
  have oT : AxsAt (fun a => H a = none) (upd H6 t (.tup [.ref x, .ref y, .ref z])) t (Am m (startsOf lo hi)) := ⟨x, y, z, upd_same, sT _ _ hx, sT _ _ hy, sT _ _ hz, nx, ny, nz⟩
  have s7 := s6.trans sT
  generalize upd H6 t (.tup [.ref x, .ref y, .ref z]) = H7 at s7 oT ⊢
  clear sT s6 n_t hx hy hz gl
  wtm_at "rd"
  intro w n_w
  have n_w0 := none_s s7 n_w
  have s8 := same_new (o := .dT []) n_w
  have gw : (upd H7 w (.dT [])) w = some (.dT []) := upd_same
  have oT := oT.same s8
  have s8 := s7.trans s8
  generalize upd H7 w (.dT []) = H8 at s8 oT gw ⊢
  wtm_at "rd"
  refine r_for (r_il ?_)
  wtm_at "rd"
  refine ⟨t, _, _, rfl, oT, am_sz hm l3, fun ls us H9 n_ls h_ls hus s9 => ?_⟩
  have oT := oT.same s9
  have gw := s9 _ _ gw
  have s9 := s8.trans s9
  wtm_at "rd"
  refine r_itl (SqL.of h_ls) ?_
  have lsw : ls ≠ w := ne_of h_ls gw fun e => nomatch e
  have kz := pls_len (am_sz hm l3)
  have ul := hus.len
  refine for_list (K := K) (a := ls) (xs := us.map V.ref) (fun i σ H' => ∃ x6 : Option V, σ = [some (.int (m : Int)), some (endV lo), some (endV hi), some (.ref l), some (.ref t), some (.ref w), x6] ∧ H' w = some (.dT (((pls (Am m (startsOf lo hi))).take i).map fun p => (plK p, V.int (Wb m lo hi p)))) ∧ (∀ b x, H9 b = some x → b ≠ w → H' b = some x) ∧ Same H H') ⟨_, rfl, gw, fun _ _ e _ => e, s9⟩ (fun i σ H' _ ⟨_, _, _, k, _⟩ => SqL.of (k _ _ h_ls lsw)) ?_ ?_
  · rintro i v σ H10 hv ⟨x6, rfl, g10, k10, s10⟩
    rw [List.getElem?_map] at hv
    obtain ⟨u, hu, rfl⟩ := Option.map_eq_some_iff.mp hv
    obtain ⟨p, hp, pu⟩ := hus.get hu
    have pin : inPl (Am m (startsOf lo hi)) p := mem_pls.mp (List.mem_of_getElem? hp)
    have pl := co_lt hm pin
    have pu10 : H10 u = some (.tup (plV p)) := k10 _ _ pu (ne_of pu gw fun e => nomatch e)
    obtain ⟨az, L, e1, e2, e4, _⟩ := axs_ix oT hm
    have e1 := k10 _ _ e1 (ne_of e1 gw fun e => nomatch e)
    have e4 := k10 _ _ e4 (ne_of e4 gw fun e => nomatch e)
    rw [am_ax hm] at e4 pl
    wtm_at "rd"
    refine r_ixT (SqT.of e1) e2 ?_
    wtm_at "rd"
    refine r_ixT (SqT.of pu10) (co_at hm) ?_
    wtm_at "rd"
    refine ⟨lo, hi, _, rfl, ?_⟩
    wtm_at "rd"
    refine r_dputT (k := plK p) g10 pu10 (by rw [List.length_map, List.length_take]; omega) ?_
    refine ⟨_, rfl, ?_, fun b x e n => (upd_ne n).trans (k10 b x e n), put_sameR s10 n_w0⟩
    rw [upd_same, putK_new _ (wt_none (pls_fresh hp)), List.take_add_one, hp, List.map_append]
    rfl
  · rintro σ H10 ⟨x6, rfl, g10, k10, s10⟩
    rw [List.length_map, ul, List.take_length] at g10
    wtm_at "rd"
    obtain ⟨x, y, z, h1, h2, h3, h4, h5⟩ := oT
    have oT : AxsAt (fun a => H a = none) H10 t (Am m (startsOf lo hi)) := ⟨x, y, z, k10 _ _ h1 (ne_of h1 gw fun e => nomatch e), k10 _ _ h2 (ne_of h2 gw fun e => nomatch e), k10 _ _ h3 (ne_of h3 gw fun e => nomatch e), k10 _ _ h4 (ne_of h4 gw fun e => nomatch e), h5⟩
    refine ⟨t, w, _, _, _, rfl, oT, g10, (betw_is hm he).ok, am_sz hm l3, fun g H11 A' W' gr res s11 => ?_⟩
    wtm_at "rd"
    exact q g H11 A' W' (gr.mono fun b h => none_s s10 h) (res.is_ (betw_is hm he)) (s10.trans s11)

end

theorem nodup_len {α : Type} [DecidableEq α] : ∀ (l l' : List α), l.Nodup → (∀ a ∈ l, a ∈ l') → l.length ≤ l'.length
  | [], _, _, _ => Nat.zero_le _
  | a :: l, l', nd, sub => by
    have nd := List.nodup_cons.mp nd
    have h := nodup_len l (l'.erase a) nd.2 fun b hb => (List.mem_erase_of_ne fun e => nd.1 (by rw [← e]; exact hb)).mpr (sub b (List.mem_cons_of_mem _ hb))
    have m := sub a List.mem_cons_self
    rw [List.length_erase_of_mem m] at h
    have := List.length_pos_of_mem m
    rw [List.length_cons]
    omega
theorem ax_one {l : List Int} (h : AxOk l) : (1 : Int) ∈ l := List.mem_of_getElem? (i := 0) (by have z := h.one; cases l with | nil => cases z | cons b r => cases z; rfl)
theorem ax_ge1 {l : List Int} (h : AxOk l) {x : Int} (hx : x ∈ l) : 1 ≤ x := by
  obtain ⟨i, hi⟩ := List.getElem?_of_mem hx
  exact h.ge hi
theorem uni_ok {l k u : List Int} (hl : AxOk l) (hk : AxOk k) (h : Uni l k u) : AxOk u := by
  refine ⟨h.asc, ?_⟩
  have m1 : (1 : Int) ∈ u := (h.m 1).mpr (.inl (ax_one hl))
  have ge : ∀ x ∈ u, 1 ≤ x := fun x hx => ((h.m x).mp hx).elim (ax_ge1 hl) (ax_ge1 hk)
  have asc := h.asc
  cases u with
  | nil => cases m1
  | cons a r =>
    have := ge a List.mem_cons_self
    rcases List.mem_cons.mp m1 with e | e
    · rw [← e]; rfl
    · have := (List.pairwise_cons.mp asc).1 1 e
      omega
theorem uni_len {l k u : List Int} (hl : AxOk l) (hk : AxOk k) (h : Uni l k u) : u.length + 1 ≤ l.length + k.length := by
  have nd : u.Nodup := h.asc.imp fun {a b} z e => by omega
  have z := hk.one
  cases k with
  | nil => cases z
  | cons b r =>
    cases z
    have := nodup_len u (l ++ r) nd fun a ha => by
      rcases (h.m a).mp ha with q | q
      · exact List.mem_append.mpr (.inl q)
      · rcases List.mem_cons.mp q with q | q
        · subst q
          exact List.mem_append.mpr (.inl (ax_one hl))
        · exact List.mem_append.mpr (.inr q)
    rw [List.length_append] at this
    rw [List.length_cons]
    omega
structure Uni3 (A B U : Axes) : Prop where
  r : Uni A.r B.r U.r
  g : Uni A.g B.g U.g
  d : Uni A.d B.d U.d
def Wm (ρ : Rul) (A B U : Axes) (V W : Wt) : Wt := fun p => ρ.f (gAt A V (Gr.near U p)) (gAt B W (Gr.near U p))
theorem mix_is {A B U : Axes} {V W : Wt} {f h : Num → Int} {a b c a' b' c' : Nat} {ρ : Rul} (i : GrIs A V f a b c) (j : GrIs B W h a' b' c') {p q r : Nat} (J1 : Jn (f = h) a a' p) (J2 : Jn (f = h) b b' q) (J3 : Jn (f = h) c c' r) (u : Uni3 A B U) : GrI0 U (Wm ρ A B U V W) (fun n => ρ.f (f n) (h n)) p q r := by
  have hU : U.Ok := ⟨uni_ok i.ok.r j.ok.r u.r, uni_ok i.ok.g j.ok.g u.g, uni_ok i.ok.d j.ok.d u.d⟩
  have s1 : A.Sub U := ⟨fun x hx => (u.r.m x).mpr (.inl hx), fun x hx => (u.g.m x).mpr (.inl hx), fun x hx => (u.d.m x).mpr (.inl hx)⟩
  have s2 : B.Sub U := ⟨fun x hx => (u.r.m x).mpr (.inr hx), fun x hx => (u.g.m x).mpr (.inr hx), fun x hx => (u.d.m x).mpr (.inr hx)⟩
  refine ⟨hU, fun n hn => ?_, ?_, ?_, ?_⟩
  · have z := Gr.mix_at hU s1 s2 (V := V) (W := W) ρ.f hn
    rw [i.at_ n hn, j.at_ n hn] at z
    exact z
  · rcases J1 with e | ⟨e, _, e2⟩
    · have := uni_len i.ok.r j.ok.r u.r; have := i.lr; have := j.lr; omega
    · have AB := can_uniq i.ok j.ok i.can j.can fun n _ => congrFun e n
      have ur := u.r
      rw [← AB] at ur
      rw [uni_same i.ok.r.asc ur, e2]
      exact i.lr
  · rcases J2 with e | ⟨e, _, e2⟩
    · have := uni_len i.ok.g j.ok.g u.g; have := i.lg; have := j.lg; omega
    · have AB := can_uniq i.ok j.ok i.can j.can fun n _ => congrFun e n
      have ur := u.g
      rw [← AB] at ur
      rw [uni_same i.ok.g.asc ur, e2]
      exact i.lg
  · rcases J3 with e | ⟨e, _, e2⟩
    · have := uni_len i.ok.d j.ok.d u.d; have := i.ld; have := j.ld; omega
    · have AB := can_uniq i.ok j.ok i.can j.can fun n _ => congrFun e n
      have ur := u.d
      rw [← AB] at ur
      rw [uni_same i.ok.d.asc ur, e2]
      exact i.ld
def spMixGr : Sp := fun vs H Q _ => ∃ (g1 g2 t : Addr) (N M : Addr → Prop) (A B : Axes) (V W : Wt) (f h : Num → Int) (a b c a' b' c' p q r : Nat) (ρ : Rul), vs = [.ref g1, .ref g2, .ref t] ∧ GrAt N H g1 A V ∧ GrAt M H g2 B W ∧ GrIs A V f a b c ∧ GrIs B W h a' b' c' ∧ RulAt H t ρ ∧ ρ.ok ∧
  (∀ n, n.Ok → Bd (f n)) ∧ (∀ n, n.Ok → Bd (h n)) ∧ Jn (f = h) a a' p ∧ Jn (f = h) b b' q ∧ Jn (f = h) c c' r ∧ p ≤ 18 ∧ q ≤ 18 ∧ r ≤ 18 ∧
  ∀ g H' A' W', GrAt (fun a => H a = none) H' g A' W' → GrIs A' W' (fun n => ρ.f (f n) (h n)) p q r → Same H H' → Q (.ref g) H'
section
variable {P : Program} {w : World} {K : PySem.W.Frag} {mg : Str → Option Value} {base : Heap}

theorem ok_mix_grids (T : Txt K mg) : FnOk P w K mg base CX0 5 T.f_mix_grids T.d_mix_grids ["first", "second", "rule"] spMixGr := by
  refine T.F_mix_grids.ok sc_mix_grids (fun vs H Q E h => ?_) (fun cdv A outer s H vs Q E hr h => ?_)
  · obtain ⟨g1, g2, t, N, M, A, B, WA, WB, f, h, a, b, c, a', b', c', ep, eq, er, ρ, rfl, _⟩ := h
    rfl
  obtain ⟨g1, g2, t, N, M, A, B, WA, WB, f, h, a, b, c, a', b', c', ep, eq, er, ρ, rfl, o1, o2, i1, i2, ht, hρ, bd1, bd2, J1, J2, J3, z1, z2, z3, q⟩ := h
  refine ⟨_, (pss_cons (ps_set (i := 3) sc_mix_grids.nd rfl (by first | exact Or.inl rfl | exact Or.inr rfl) (pe_callB (r := rSortedSet w) (cr_sortedSet rfl) (by rfl) T.z_sorted (by decide +kernel) (pa_cons (pe_op (r := SOr.rOrSet w) SOr.op_orSet (pe_callTy (r := SOr.rSetI K w) (SOr.cr_setI rfl) (by rfl) T.z_set (by decide +kernel) (pa_cons (pe_ix (r := rIxT K) ix_tup (pe_ix (r := rIxT K) ix_tup (pv 0) pe_int (fun _ _ => rfl)) pe_int (fun _ _ => rfl)) pa_nil)) (pe_callTy (r := SOr.rSetI K w) (SOr.cr_setI rfl) (by rfl) T.z_set (by decide +kernel) (pa_cons (pe_ix (r := rIxT K) ix_tup (pe_ix (r := rIxT K) ix_tup (pv 1) pe_int (fun _ _ => rfl)) pe_int (fun _ _ => rfl)) pa_nil))) pa_nil)))
      (pss_cons (ps_set (i := 4) sc_mix_grids.nd rfl (by first | exact Or.inl rfl | exact Or.inr rfl) (pe_callB (r := rSortedSet w) (cr_sortedSet rfl) (by rfl) T.z_sorted (by decide +kernel) (pa_cons (pe_op (r := SOr.rOrSet w) SOr.op_orSet (pe_callTy (r := SOr.rSetI K w) (SOr.cr_setI rfl) (by rfl) T.z_set (by decide +kernel) (pa_cons (pe_ix (r := rIxT K) ix_tup (pe_ix (r := rIxT K) ix_tup (pv 0) pe_int (fun _ _ => rfl)) pe_int (fun _ _ => rfl)) pa_nil)) (pe_callTy (r := SOr.rSetI K w) (SOr.cr_setI rfl) (by rfl) T.z_set (by decide +kernel) (pa_cons (pe_ix (r := rIxT K) ix_tup (pe_ix (r := rIxT K) ix_tup (pv 1) pe_int (fun _ _ => rfl)) pe_int (fun _ _ => rfl)) pa_nil))) pa_nil)))
      (pss_cons (ps_set (i := 5) sc_mix_grids.nd rfl (by first | exact Or.inl rfl | exact Or.inr rfl) (pe_callB (r := rSortedSet w) (cr_sortedSet rfl) (by rfl) T.z_sorted (by decide +kernel) (pa_cons (pe_op (r := SOr.rOrSet w) SOr.op_orSet (pe_callTy (r := SOr.rSetI K w) (SOr.cr_setI rfl) (by rfl) T.z_set (by decide +kernel) (pa_cons (pe_ix (r := rIxT K) ix_tup (pe_ix (r := rIxT K) ix_tup (pv 0) pe_int (fun _ _ => rfl)) pe_int (fun _ _ => rfl)) pa_nil)) (pe_callTy (r := SOr.rSetI K w) (SOr.cr_setI rfl) (by rfl) T.z_set (by decide +kernel) (pa_cons (pe_ix (r := rIxT K) ix_tup (pe_ix (r := rIxT K) ix_tup (pv 1) pe_int (fun _ _ => rfl)) pe_int (fun _ _ => rfl)) pa_nil))) pa_nil)))
      (pss_cons (ps_set (i := 6) sc_mix_grids.nd rfl (by first | exact Or.inl rfl | exact Or.inr rfl) (pe_tup (pa_cons (pv 3) (pa_cons (pv 4) (pa_cons (pv 5) pa_nil)))))
      (pss_cons (ps_set (i := 7) sc_mix_grids.nd rfl (by first | exact Or.inl rfl | exact Or.inr rfl) pe_dnewT)
      (pss_cons (ps_for PassesOwn.never rfl (pi_list (pe_call (ok_places_of T) (hr.mono (by decide)) (by rfl) T.g_places_of T.F_places_of.kp T.b_places_of .nil pass0 (pa_cons (pv 6) pa_nil))) (pg_name (i := 8) sc_mix_grids.nd rfl (by first | exact Or.inl rfl | exact Or.inr rfl)) (pss_cons (ps_set (i := 9) sc_mix_grids.nd rfl (by first | exact Or.inl rfl | exact Or.inr rfl) (pe_call (ok_near T) (hr.mono (by decide)) (by rfl) T.g_near T.F_near.kp T.b_near .nil pass0 (pa_cons (pv 6) (pa_cons (pv 8) pa_nil))))
      (pss_one (ps_dput (hu_of hr) (pv 7) (pv 8) (pe_call (ok_mix T) (hr.mono (by decide)) (by rfl) T.g_mix T.F_mix.kp T.b_mix .nil pass0 (pa_cons (pe_call (ok_grid_at T) (hr.mono (by decide)) (by rfl) T.g_grid_at T.F_grid_at.kp T.b_grid_at .nil pass0 (pa_cons (pv 0) (pa_cons (pv 9) pa_nil))) (pa_cons (pe_call (ok_grid_at T) (hr.mono (by decide)) (by rfl) T.g_grid_at T.F_grid_at.kp T.b_grid_at .nil pass0 (pa_cons (pv 1) (pa_cons (pv 9) pa_nil))) (pa_cons (pv 2) pa_nil)))) rfl))))
      (pss_one (ps_ret (pe_call (ok_clean_grid T) (hr.mono (by decide)) (by rfl) T.g_clean_grid T.F_clean_grid.kp T.b_clean_grid .nil pass0 (pa_cons (pv 6) (pa_cons (pv 7) pa_nil))))))))))), ?_⟩
  try simp only [nox_K, cx_K]
  obtain ⟨za1, za2⟩ := J1.le z1
  obtain ⟨zb1, zb2⟩ := J2.le z2
  obtain ⟨zc1, zc2⟩ := J3.le z3
  obtain ⟨t1, d1, a1, ⟨x1, y1, w1, a2, a3, a4, a5, _⟩, a6⟩ := id o1
  obtain ⟨t2, d2, b1, ⟨x2, y2, w2, b2, b3, b4, b5, _⟩, b6⟩ := id o2
  have l1 := i1.lr
  have l2 := i1.lg
  have l3 := i1.ld
  have l4 := i2.lr
  have l5 := i2.lg
  have l6 := i2.ld
  have m1 := i1.ok.r.at0.2
  have m2 := i1.ok.g.at0.2
  have m3 := i1.ok.d.at0.2
  have m4 := i2.ok.r.at0.2
  have m5 := i2.ok.g.at0.2
  have m6 := i2.ok.d.at0.2
  have s0 : Same H H := fun _ _ z => z
  wtm_at "rd"
  refine ⟨x1, A.r, rfl, SqL.of a3, by omega, by omega, fun sa0 ca0 n_sa0 ca00 ca01 => ?_⟩
  generalize eq_sa0 : upd _ sa0 _ = G1
  have s_sa0 : Same _ G1 := eq_sa0 ▸ same_new n_sa0
  have h_sa0 : G1 sa0 = some _ := eq_sa0 ▸ upd_same
  clear eq_sa0
  have a1 := s_sa0 _ _ a1
  have a2 := s_sa0 _ _ a2
  have a3 := s_sa0 _ _ a3
  have a4 := s_sa0 _ _ a4
  have a5 := s_sa0 _ _ a5
  have b1 := s_sa0 _ _ b1
  have b2 := s_sa0 _ _ b2
  have b3 := s_sa0 _ _ b3
  have b4 := s_sa0 _ _ b4
  have b5 := s_sa0 _ _ b5
  have s0 := s0.trans s_sa0
  wtm_at "rd"
  refine ⟨x2, B.r, rfl, SqL.of b3, by omega, by omega, fun sb0 cb0 n_sb0 cb00 cb01 => ?_⟩
  have sab0 : sa0 ≠ sb0 := fun e => by subst e; rw [h_sa0] at n_sb0; cases n_sb0
  generalize eq_sb0 : upd _ sb0 _ = G2
  have s_sb0 : Same _ G2 := eq_sb0 ▸ same_new n_sb0
  have h_sb0 : G2 sb0 = some _ := eq_sb0 ▸ upd_same
  clear eq_sb0
  have a1 := s_sb0 _ _ a1
  have a2 := s_sb0 _ _ a2
  have a3 := s_sb0 _ _ a3
  have a4 := s_sb0 _ _ a4
  have a5 := s_sb0 _ _ a5
  have b1 := s_sb0 _ _ b1
  have b2 := s_sb0 _ _ b2
  have b3 := s_sb0 _ _ b3
  have b4 := s_sb0 _ _ b4
  have b5 := s_sb0 _ _ b5
  have h_sa0 := s_sb0 _ _ h_sa0
  have s0 := s0.trans s_sb0
  wtm_at "rd"
  refine ⟨sa0, sb0, _, _, ca0, cb0, rfl, rfl, sab0, h_sa0, h_sb0, ca00, by omega, fun so0 co0 n_so0 co01 => ?_⟩
  generalize eq_so0 : upd _ so0 _ = G3
  have s_so0 : Same _ G3 := eq_so0 ▸ same_new n_so0
  have h_so0 : G3 so0 = some _ := eq_so0 ▸ upd_same
  clear eq_so0
  have a1 := s_so0 _ _ a1
  have a2 := s_so0 _ _ a2
  have a3 := s_so0 _ _ a3
  have a4 := s_so0 _ _ a4
  have a5 := s_so0 _ _ a5
  have b1 := s_so0 _ _ b1
  have b2 := s_so0 _ _ b2
  have b3 := s_so0 _ _ b3
  have b4 := s_so0 _ _ b4
  have b5 := s_so0 _ _ b5
  have s0 := s0.trans s_so0
  wtm_at "rd"
  refine ⟨so0, _, co0, rfl, h_so0, by omega, fun u0 p0 asc0 mem0 len0 n_p0 => ?_⟩
  have hu0 : Uni A.r B.r u0 := ⟨asc0, fun x => by rw [mem0]; simp only [Bool.or_eq_true, decide_eq_true_eq]⟩
  have n_q0 := none_s s0 n_p0
  generalize eq_p0 : upd _ p0 _ = G4
  have s_p0 : Same _ G4 := eq_p0 ▸ same_new n_p0
  have h_p0 : G4 p0 = some _ := eq_p0 ▸ upd_same
  clear eq_p0
  have a1 := s_p0 _ _ a1
  have a2 := s_p0 _ _ a2
  have a3 := s_p0 _ _ a3
  have a4 := s_p0 _ _ a4
  have a5 := s_p0 _ _ a5
  have b1 := s_p0 _ _ b1
  have b2 := s_p0 _ _ b2
  have b3 := s_p0 _ _ b3
  have b4 := s_p0 _ _ b4
  have b5 := s_p0 _ _ b5
  have s0 := s0.trans s_p0
  wtm_at "rd"
  refine ⟨y1, A.g, rfl, SqL.of a4, by omega, by omega, fun sa1 ca1 n_sa1 ca10 ca11 => ?_⟩
  generalize eq_sa1 : upd _ sa1 _ = G5
  have s_sa1 : Same _ G5 := eq_sa1 ▸ same_new n_sa1
  have h_sa1 : G5 sa1 = some _ := eq_sa1 ▸ upd_same
  clear eq_sa1
  have a1 := s_sa1 _ _ a1
  have a2 := s_sa1 _ _ a2
  have a3 := s_sa1 _ _ a3
  have a4 := s_sa1 _ _ a4
  have a5 := s_sa1 _ _ a5
  have b1 := s_sa1 _ _ b1
  have b2 := s_sa1 _ _ b2
  have b3 := s_sa1 _ _ b3
  have b4 := s_sa1 _ _ b4
  have b5 := s_sa1 _ _ b5
  have h_p0 := s_sa1 _ _ h_p0
  have s0 := s0.trans s_sa1
  wtm_at "rd"
  refine ⟨y2, B.g, rfl, SqL.of b4, by omega, by omega, fun sb1 cb1 n_sb1 cb10 cb11 => ?_⟩
  have sab1 : sa1 ≠ sb1 := fun e => by subst e; rw [h_sa1] at n_sb1; cases n_sb1
  generalize eq_sb1 : upd _ sb1 _ = G6
  have s_sb1 : Same _ G6 := eq_sb1 ▸ same_new n_sb1
  have h_sb1 : G6 sb1 = some _ := eq_sb1 ▸ upd_same
  clear eq_sb1
  have a1 := s_sb1 _ _ a1
  have a2 := s_sb1 _ _ a2
  have a3 := s_sb1 _ _ a3
  have a4 := s_sb1 _ _ a4
  have a5 := s_sb1 _ _ a5
  have b1 := s_sb1 _ _ b1
  have b2 := s_sb1 _ _ b2
  have b3 := s_sb1 _ _ b3
  have b4 := s_sb1 _ _ b4
  have b5 := s_sb1 _ _ b5
  have h_p0 := s_sb1 _ _ h_p0
  have h_sa1 := s_sb1 _ _ h_sa1
  have s0 := s0.trans s_sb1
  wtm_at "rd"
  refine ⟨sa1, sb1, _, _, ca1, cb1, rfl, rfl, sab1, h_sa1, h_sb1, ca10, by omega, fun so1 co1 n_so1 co11 => ?_⟩
  generalize eq_so1 : upd _ so1 _ = G7
  have s_so1 : Same _ G7 := eq_so1 ▸ same_new n_so1
  have h_so1 : G7 so1 = some _ := eq_so1 ▸ upd_same
  clear eq_so1
  have a1 := s_so1 _ _ a1
  have a2 := s_so1 _ _ a2
  have a3 := s_so1 _ _ a3
  have a4 := s_so1 _ _ a4
  have a5 := s_so1 _ _ a5
  have b1 := s_so1 _ _ b1
  have b2 := s_so1 _ _ b2
  have b3 := s_so1 _ _ b3
  have b4 := s_so1 _ _ b4
  have b5 := s_so1 _ _ b5
  have h_p0 := s_so1 _ _ h_p0
  have s0 := s0.trans s_so1
  wtm_at "rd"
  refine ⟨so1, _, co1, rfl, h_so1, by omega, fun u1 p1 asc1 mem1 len1 n_p1 => ?_⟩
  have hu1 : Uni A.g B.g u1 := ⟨asc1, fun x => by rw [mem1]; simp only [Bool.or_eq_true, decide_eq_true_eq]⟩
  have n_q1 := none_s s0 n_p1
  generalize eq_p1 : upd _ p1 _ = G8
  have s_p1 : Same _ G8 := eq_p1 ▸ same_new n_p1
  have h_p1 : G8 p1 = some _ := eq_p1 ▸ upd_same
  clear eq_p1
  have a1 := s_p1 _ _ a1
  have a2 := s_p1 _ _ a2
  have a3 := s_p1 _ _ a3
  have a4 := s_p1 _ _ a4
  have a5 := s_p1 _ _ a5
  have b1 := s_p1 _ _ b1
  have b2 := s_p1 _ _ b2
  have b3 := s_p1 _ _ b3
  have b4 := s_p1 _ _ b4
  have b5 := s_p1 _ _ b5
  have h_p0 := s_p1 _ _ h_p0
  have s0 := s0.trans s_p1
  wtm_at "rd"
  refine ⟨w1, A.d, rfl, SqL.of a5, by omega, by omega, fun sa2 ca2 n_sa2 ca20 ca21 => ?_⟩
  generalize eq_sa2 : upd _ sa2 _ = G9
  have s_sa2 : Same _ G9 := eq_sa2 ▸ same_new n_sa2
  have h_sa2 : G9 sa2 = some _ := eq_sa2 ▸ upd_same
  clear eq_sa2
  have a1 := s_sa2 _ _ a1
  have a2 := s_sa2 _ _ a2
  have a3 := s_sa2 _ _ a3
  have a4 := s_sa2 _ _ a4
  have a5 := s_sa2 _ _ a5
  have b1 := s_sa2 _ _ b1
  have b2 := s_sa2 _ _ b2
  have b3 := s_sa2 _ _ b3
  have b4 := s_sa2 _ _ b4
  have b5 := s_sa2 _ _ b5
  have h_p0 := s_sa2 _ _ h_p0
  have h_p1 := s_sa2 _ _ h_p1
  have s0 := s0.trans s_sa2
  wtm_at "rd"
  refine ⟨w2, B.d, rfl, SqL.of b5, by omega, by omega, fun sb2 cb2 n_sb2 cb20 cb21 => ?_⟩
  have sab2 : sa2 ≠ sb2 := fun e => by subst e; rw [h_sa2] at n_sb2; cases n_sb2
  generalize eq_sb2 : upd _ sb2 _ = G10
  have s_sb2 : Same _ G10 := eq_sb2 ▸ same_new n_sb2
  have h_sb2 : G10 sb2 = some _ := eq_sb2 ▸ upd_same
  clear eq_sb2
  have a1 := s_sb2 _ _ a1
  have a2 := s_sb2 _ _ a2
  have a3 := s_sb2 _ _ a3
  have a4 := s_sb2 _ _ a4
  have a5 := s_sb2 _ _ a5
  have b1 := s_sb2 _ _ b1
  have b2 := s_sb2 _ _ b2
  have b3 := s_sb2 _ _ b3
  have b4 := s_sb2 _ _ b4
  have b5 := s_sb2 _ _ b5
  have h_p0 := s_sb2 _ _ h_p0
  have h_p1 := s_sb2 _ _ h_p1
  have h_sa2 := s_sb2 _ _ h_sa2
  have s0 := s0.trans s_sb2
  wtm_at "rd"
  refine ⟨sa2, sb2, _, _, ca2, cb2, rfl, rfl, sab2, h_sa2, h_sb2, ca20, by omega, fun so2 co2 n_so2 co21 => ?_⟩
  generalize eq_so2 : upd _ so2 _ = G11
  have s_so2 : Same _ G11 := eq_so2 ▸ same_new n_so2
  have h_so2 : G11 so2 = some _ := eq_so2 ▸ upd_same
  clear eq_so2
  have a1 := s_so2 _ _ a1
  have a2 := s_so2 _ _ a2
  have a3 := s_so2 _ _ a3
  have a4 := s_so2 _ _ a4
  have a5 := s_so2 _ _ a5
  have b1 := s_so2 _ _ b1
  have b2 := s_so2 _ _ b2
  have b3 := s_so2 _ _ b3
  have b4 := s_so2 _ _ b4
  have b5 := s_so2 _ _ b5
  have h_p0 := s_so2 _ _ h_p0
  have h_p1 := s_so2 _ _ h_p1
  have s0 := s0.trans s_so2
  wtm_at "rd"
  refine ⟨so2, _, co2, rfl, h_so2, by omega, fun u2 p2 asc2 mem2 len2 n_p2 => ?_⟩
  have hu2 : Uni A.d B.d u2 := ⟨asc2, fun x => by rw [mem2]; simp only [Bool.or_eq_true, decide_eq_true_eq]⟩
  have n_q2 := none_s s0 n_p2
  generalize eq_p2 : upd _ p2 _ = G12
  have s_p2 : Same _ G12 := eq_p2 ▸ same_new n_p2
  have h_p2 : G12 p2 = some _ := eq_p2 ▸ upd_same
  clear eq_p2
  have a1 := s_p2 _ _ a1
  have a2 := s_p2 _ _ a2
  have a3 := s_p2 _ _ a3
  have a4 := s_p2 _ _ a4
  have a5 := s_p2 _ _ a5
  have b1 := s_p2 _ _ b1
  have b2 := s_p2 _ _ b2
  have b3 := s_p2 _ _ b3
  have b4 := s_p2 _ _ b4
  have b5 := s_p2 _ _ b5
  have h_p0 := s_p2 _ _ h_p0
  have h_p1 := s_p2 _ _ h_p1
  have s0 := s0.trans s_p2
  have is := mix_is (ρ := ρ) i1 i2 J1 J2 J3 (U := ⟨u0, u1, u2⟩) ⟨hu0, hu1, hu2⟩
  have sz : ASz ⟨u0, u1, u2⟩ := ⟨Nat.le_trans is.lr (by omega), Nat.le_trans is.lg (by omega), Nat.le_trans is.ld (by omega)⟩
  have sz1 : ASz A := ⟨by omega, by omega, by omega⟩
  have sz2 : ASz B := ⟨by omega, by omega, by omega⟩
  clear a1 a2 a3 a4 a5 b1 b2 b3 b4 b5
  wtm_at "rd"
  refine r_new rfl fun ta n_t => ?_
  have sT := same_new (o := .tup [.ref p0, .ref p1, .ref p2]) n_t
  have oT : AxsAt (fun a => H a = none) (upd G12 ta (.tup [.ref p0, .ref p1, .ref p2])) ta ⟨u0, u1, u2⟩ := ⟨p0, p1, p2, upd_same, sT _ _ h_p0, sT _ _ h_p1, sT _ _ h_p2, n_q0, n_q1, n_q2⟩
  have s7 := s0.trans sT
  generalize upd G12 ta (.tup [.ref p0, .ref p1, .ref p2]) = H7 at s7 oT ⊢
  wtm_at "rd"
  intro w n_w
  have n_w0 := none_s s7 n_w
  have s8 := same_new (o := .dT []) n_w
  have gw : (upd H7 w (.dT [])) w = some (.dT []) := upd_same
  have oT := oT.same s8
  have s8 := s7.trans s8
  generalize upd H7 w (.dT []) = H8 at s8 oT gw ⊢
  wtm_at "rd"
  refine r_for (r_il ?_)
  wtm_at "rd"
  refine ⟨ta, _, _, rfl, oT, sz, fun ls us H9 n_ls h_ls hus s9 => ?_⟩
  have oT := oT.same s9
  have gw := s9 _ _ gw
  have s9 := s8.trans s9
  wtm_at "rd"
  refine r_itl (SqL.of h_ls) ?_
  have lsw : ls ≠ w := ne_of h_ls gw fun e => nomatch e
  have kz := pls_len sz
  have ul := hus.len
  refine for_list (K := K) (a := ls) (xs := us.map V.ref) (fun i σ H' => ∃ x8 x9 : Option V, σ = [some (.ref g1), some (.ref g2), some (.ref t), some (.ref p0), some (.ref p1), some (.ref p2), some (.ref ta), some (.ref w), x8, x9] ∧ H' w = some (.dT (((pls ⟨u0, u1, u2⟩).take i).map fun p => (plK p, V.int (Wm ρ A B ⟨u0, u1, u2⟩ WA WB p)))) ∧ (∀ b x, H9 b = some x → b ≠ w → H' b = some x) ∧ Same H H') ⟨_, _, rfl, gw, fun _ _ e _ => e, s9⟩ (fun i σ H' _ ⟨_, _, _, _, k, _⟩ => SqL.of (k _ _ h_ls lsw)) ?_ ?_
  · rintro i v σ H10 hv ⟨x8, x9, rfl, g10, k10, s10⟩
    rw [List.getElem?_map] at hv
    obtain ⟨u, hu, rfl⟩ := Option.map_eq_some_iff.mp hv
    obtain ⟨p, hp, pu⟩ := hus.get hu
    have pin : inPl ⟨u0, u1, u2⟩ p := mem_pls.mp (List.mem_of_getElem? hp)
    have pu10 : PlAt H10 u p := k10 _ _ pu (ne_of pu gw fun e => nomatch e)
    have oT10 : AxsAt (fun a => H a = none) H10 ta ⟨u0, u1, u2⟩ := by
      obtain ⟨x, y, z, h1, h2, h3, h4, h5⟩ := oT
      exact ⟨x, y, z, k10 _ _ h1 (ne_of h1 gw fun e => nomatch e), k10 _ _ h2 (ne_of h2 gw fun e => nomatch e), k10 _ _ h3 (ne_of h3 gw fun e => nomatch e), k10 _ _ h4 (ne_of h4 gw fun e => nomatch e), h5⟩
    have nk := Gr.near_ok is.ok pin
    wtm_at "rd"
    refine ⟨ta, u, _, _, p, rfl, oT10, pu10, pin, fun nb n_nb => ?_⟩
    have t1 := same_new (o := .tup [.int (Gr.near ⟨u0, u1, u2⟩ p).r, .int (Gr.near ⟨u0, u1, u2⟩ p).g, .int (Gr.near ⟨u0, u1, u2⟩ p).d]) n_nb
    have na : NumAt (upd H10 nb (.tup [.int (Gr.near ⟨u0, u1, u2⟩ p).r, .int (Gr.near ⟨u0, u1, u2⟩ p).g, .int (Gr.near ⟨u0, u1, u2⟩ p).d])) nb (Gr.near ⟨u0, u1, u2⟩ p) := upd_same
    generalize upd H10 nb (.tup [.int (Gr.near ⟨u0, u1, u2⟩ p).r, .int (Gr.near ⟨u0, u1, u2⟩ p).g, .int (Gr.near ⟨u0, u1, u2⟩ p).d]) = H11 at t1 na ⊢
    wtm_at "rd"
    have s11 := s10.trans t1
    refine ⟨g1, nb, N, A, WA, _, rfl, o1.same s11, i1.ok, sz1, na, nk, fun H12 t2 => ?_⟩
    have t2' := t1.trans t2
    wtm_at "rd"
    refine ⟨g2, nb, M, B, WB, _, rfl, o2.same (s10.trans t2'), i2.ok, sz2, t2 _ _ na, nk, fun H13 t3 => ?_⟩
    have t3 := t2'.trans t3
    wtm_at "rd"
    refine ⟨_, _, t, ρ, rfl, (s10.trans t3) _ _ ht, hρ, by rw [i1.at_ _ nk]; exact bd1 _ nk, by rw [i2.at_ _ nk]; exact bd2 _ nk, ?_⟩
    wtm_at "rd"
    have pu13 : H13 u = some (.tup ((plK p).map kV)) := t3 _ _ pu10
    refine r_dputT (k := plK p) (t3 _ _ g10) pu13 (by rw [List.length_map, List.length_take]; omega) ?_
    refine ⟨_, _, rfl, ?_, fun b x e n => (upd_ne n).trans (t3 _ _ (k10 b x e n)), put_sameR (s10.trans t3) n_w0⟩
    rw [upd_same, putK_new _ (wt_none (pls_fresh hp)), List.take_add_one, hp, List.map_append]
    rfl
  · rintro σ H10 ⟨x8, x9, rfl, g10, k10, s10⟩
    rw [List.length_map, ul, List.take_length] at g10
    wtm_at "rd"
    obtain ⟨x, y, z, h1, h2, h3, h4, h5⟩ := oT
    have oT : AxsAt (fun a => H a = none) H10 ta ⟨u0, u1, u2⟩ := ⟨x, y, z, k10 _ _ h1 (ne_of h1 gw fun e => nomatch e), k10 _ _ h2 (ne_of h2 gw fun e => nomatch e), k10 _ _ h3 (ne_of h3 gw fun e => nomatch e), k10 _ _ h4 (ne_of h4 gw fun e => nomatch e), h5⟩
    refine ⟨ta, w, _, _, _, rfl, oT, g10, is.ok, sz, fun g H11 A' W' gr res s11 => ?_⟩
    wtm_at "rd"
    exact q g H11 A' W' (gr.mono fun b h => none_s s10 h) (res.is_ is) (s10.trans s11)

end

def possB (r g d : Int) : Bool := decide ((g = 0 ∧ d = 0) ∨ (g < 0 ∧ r ≤ g ∧ d ≤ g) ∨ (0 < g ∧ g ≤ r ∧ g ≤ d))
theorem poss_neg (r g d : Int) : possB (-r) (-g) (-d) = possB r g d := by
  unfold possB
  rw [decide_eq_decide]
  omega
def zoneS (r g : Int) : Str := if r = 0 then "self" else if g = 0 then (if 0 < r then "after" else "before") else if 0 < g then "future" else "past"
def offF (r g d : Int) : List (Str × V) := putF "zone" (.str (zoneS r g)) (putF "distance" (.int d) (putF "groups" (.int g) (putF "rows" (.int r) [])))
theorem n_rg : ¬ (("rows" : Str) = "groups") := by decide +kernel
theorem n_rd : ¬ (("rows" : Str) = "distance") := by decide +kernel
theorem n_rz : ¬ (("rows" : Str) = "zone") := by decide +kernel
theorem n_gd : ¬ (("groups" : Str) = "distance") := by decide +kernel
theorem n_gz : ¬ (("groups" : Str) = "zone") := by decide +kernel
theorem n_dz : ¬ (("distance" : Str) = "zone") := by decide +kernel
theorem off_rows (r g d : Int) : (offF r g d).lookup ("rows" : Str) = some (.int r) := by
  unfold offF
  rw [lookup_putF, if_neg n_rz, lookup_putF, if_neg n_rd, lookup_putF, if_neg n_rg, lookup_putF, if_pos rfl]
theorem off_groups (r g d : Int) : (offF r g d).lookup ("groups" : Str) = some (.int g) := by
  unfold offF
  rw [lookup_putF, if_neg n_gz, lookup_putF, if_neg n_gd, lookup_putF, if_pos rfl]
theorem off_distance (r g d : Int) : (offF r g d).lookup ("distance" : Str) = some (.int d) := by
  unfold offF
  rw [lookup_putF, if_neg n_dz, lookup_putF, if_pos rfl]
theorem off_zone (r g d : Int) : (offF r g d).lookup ("zone" : Str) = some (.str (zoneS r g)) := by
  unfold offF
  rw [lookup_putF, if_pos rfl]
theorem off_no (r g d : Int) {m : Str} (h1 : ¬ m = "zone") (h2 : ¬ m = "distance") (h3 : ¬ m = "groups") (h4 : ¬ m = "rows") : (offF r g d).lookup m = none := by
  unfold offF
  rw [lookup_putF, if_neg h1, lookup_putF, if_neg h2, lookup_putF, if_neg h3, lookup_putF, if_neg h4]
  rfl
/-- an Offset stands at p -/
def OffAt (C : Addr) (H : Hp) (p : Addr) (r g d : Int) : Prop := ∃ dx, H p = some (.ins C dx (offF r g d))
theorem OffAt.same {C : Addr} {H H' : Hp} {p : Addr} {r g d : Int} (h : OffAt C H p r g d) (s : Same H H') : OffAt C H' p r g d := by
  obtain ⟨dx, e⟩ := h
  exact ⟨dx, s _ _ e⟩
/-- the dict of a BadOffset -/
def badF (r g d : Int) : List (Str × V) := [("distance", .int d), ("groups", .int g), ("rows", .int r)]
theorem bad_rows (r g d : Int) : (badF r g d).lookup ("rows" : Str) = some (.int r) := by
  unfold badF
  rw [lookup_put, if_neg n_rd, lookup_put, if_neg n_rg, lookup_put, if_pos rfl]
theorem bad_groups (r g d : Int) : (badF r g d).lookup ("groups" : Str) = some (.int g) := by
  unfold badF
  rw [lookup_put, if_neg n_gd, lookup_put, if_pos rfl]
theorem bad_distance (r g d : Int) : (badF r g d).lookup ("distance" : Str) = some (.int d) := by
  unfold badF
  rw [lookup_put, if_pos rfl]
def sp3 (f : Int → Int → Int → Bool) : Sp := fun vs H Q _ => ∃ a b c : Int, vs = [.int a, .int b, .int c] ∧ Q (.bl (f a b c)) H
def spZone2 : Sp := fun vs H Q _ => ∃ a b : Int, vs = [.int a, .int b] ∧ Q (.str (zoneS a b)) H
def spBInit (C : Addr) : Sp := fun vs H Q _ => ∃ (a : Addr) (r g d : Int), vs = [.ref a, .int r, .int g, .int d] ∧ H a = some (exo a C none) ∧
  ∀ (dx : Addr) (H' : Hp), H dx = none → H' a = some (exo a C (some dx)) → H' dx = some (exd dx (badF r g d)) → (∀ b o, H b = some o → b ≠ a → H' b = some o) → Q .non H'
def spOInit (C CB : Addr) : Sp := fun vs H Q E => ∃ (p dx : Addr) (r g d : Int), vs = [.ref p, .int r, .int g, .int d] ∧ H p = some (.ins C dx []) ∧
  (possB r g d = false → ∀ (dd : Addr) (H' : Hp), H dd = none → H' dd = some (.xd (badF r g d)) → Same H H' → E (.ref CB) (some dd) H') ∧
  (possB r g d = true → ∀ H', OffAt C H' p r g d → (∀ b o, H b = some o → b ≠ p → H' b = some o) → Q .non H')
def spOFew (C : Addr) : Sp := fun vs H Q _ => ∃ (p : Addr) (r g d : Int), vs = [.ref p] ∧ OffAt C H p r g d ∧ Q (.int (1 + (if r < 0 then -r else r))) H
def spONeg (C : Addr) : Sp := fun vs H Q _ => ∃ (p : Addr) (r g d : Int), vs = [.ref p] ∧ OffAt C H p r g d ∧ possB r g d = true ∧ ∀ x H', H x = none → Same H H' → OffAt C H' x (-r) (-g) (-d) → Q (.ref x) H'
def spOAdd (C CB : Addr) : Sp := fun vs H Q E => ∃ (p q : Addr) (r g d r' g' d' : Int), vs = [.ref p, .ref q] ∧ OffAt C H p r g d ∧ OffAt C H q r' g' d' ∧
  (possB (r + r') (g + g') (d + d') = false → ∀ (dd : Addr) (H' : Hp), H' dd = some (.xd (badF (r + r') (g + g') (d + d'))) → Same H H' → E (.ref CB) (some dd) H') ∧
  (possB (r + r') (g + g') (d + d') = true → ∀ x H', H x = none → Same H H' → OffAt C H' x (r + r') (g + g') (d + d') → Q (.ref x) H')
def spOEq (C : Addr) : Sp := fun vs H Q _ => ∃ (p q : Addr) (r g d r' g' d' : Int), vs = [.ref p, .ref q] ∧ OffAt C H p r g d ∧ OffAt C H q r' g' d' ∧ Q (.bl (decide (r = r') && (decide (g = g') && decide (d = d')))) H
theorem same_two {H : Hp} {x dx C : Addr} (nx : H x = none) (nd : H dx = none) : Same H (upd (upd H dx (.own x)) x (.ins C dx [])) := fun b o e => (upd_ne (ne_of_none e nx)).trans ((upd_ne (ne_of_none e nd)).trans e)
theorem make_off {C CB : Addr} {H : Hp} {Q : VK} {E : XK} {r g d : Int} (hn : possB r g d = false → ∀ (dd : Addr) (H' : Hp), H' dd = some (.xd (badF r g d)) → Same H H' → E (.ref CB) (some dd) H') (h : possB r g d = true → ∀ x H', H x = none → Same H H' → OffAt C H' x r g d → Q (.ref x) H') :
    ∀ x dx, H x = none → H dx = none → dx ≠ x → spOInit C CB (.ref x :: ([.int r, .int g, .int d] ++ [])) (upd (upd H dx (.own x)) x (.ins C dx [])) (fun v H2 => v = .non ∧ Q (.ref x) H2) E :=
  fun x dx nx nd _ => ⟨x, dx, r, g, d, rfl, upd_same, fun hf dd H' _ hd s => hn hf dd H' hd ((same_two nx nd).trans s), fun ht H' ho hk => ⟨rfl, h ht x H' nx (same_make nx nd hk) ho⟩⟩
/-- the same, read for any end -/
theorem make_offF {C CB : Addr} {H : Hp} {F : Addr → Hp → Prop} {E : XK} {r g d : Int} (hb : possB r g d = true) (h : ∀ x H', H x = none → Same H H' → OffAt C H' x r g d → F x H') :
    ∀ x dx, H x = none → H dx = none → dx ≠ x → spOInit C CB (.ref x :: ([.int r, .int g, .int d] ++ [])) (upd (upd H dx (.own x)) x (.ins C dx [])) (fun v H2 => v = .non ∧ F x H2) E :=
  fun x dx nx nd _ => ⟨x, dx, r, g, d, rfl, upd_same, fun hf => (by rw [hb] at hf; cases hf), fun _ H' ho hk => ⟨rfl, h x H' nx (same_make nx nd hk) ho⟩⟩
section
variable {P : Program} {w : World} {K : PySem.W.Frag} {mg : Str → Option Value} {base : Heap}

theorem off_ty (T : Txt K mg) {H : Hp} {p : Addr} {r g d : Int} (h : OffAt T.C_Offset H p r g d) : TyX K H (.ref p) (.ref T.C_Offset) := by
  obtain ⟨dx, e⟩ := h
  exact .base (.ins e T.c_Offset T.ca_Offset T.cn_Offset T.ct_Offset T.cm_Offset)
section
variable {H : Hp} {Q : VK} {p : Addr} {r g d : Int} {F : V → Prop}
theorem r_rows (T : Txt K mg) (o : OffAt T.C_Offset H p r g d) (h : F (.int r)) : ∃ a C dx fs v, V.ref p = .ref a ∧ H a = some (.ins C dx fs) ∧ Cls K C ∧ NoAttr K C "rows" ∧ fs.lookup ("rows" : Str) = some v ∧ F v := by
  obtain ⟨dx, e⟩ := o
  exact r_get e T.c_Offset T.nf_Offset_rows (off_rows r g d) h
theorem r_groups (T : Txt K mg) (o : OffAt T.C_Offset H p r g d) (h : F (.int g)) : ∃ a C dx fs v, V.ref p = .ref a ∧ H a = some (.ins C dx fs) ∧ Cls K C ∧ NoAttr K C "groups" ∧ fs.lookup ("groups" : Str) = some v ∧ F v := by
  obtain ⟨dx, e⟩ := o
  exact r_get e T.c_Offset T.nf_Offset_groups (off_groups r g d) h
theorem r_distance (T : Txt K mg) (o : OffAt T.C_Offset H p r g d) (h : F (.int d)) : ∃ a C dx fs v, V.ref p = .ref a ∧ H a = some (.ins C dx fs) ∧ Cls K C ∧ NoAttr K C "distance" ∧ fs.lookup ("distance" : Str) = some v ∧ F v := by
  obtain ⟨dx, e⟩ := o
  exact r_get e T.c_Offset T.nf_Offset_distance (off_distance r g d) h
theorem r_zone (T : Txt K mg) (o : OffAt T.C_Offset H p r g d) (h : F (.str (zoneS r g))) : ∃ a C dx fs v, V.ref p = .ref a ∧ H a = some (.ins C dx fs) ∧ Cls K C ∧ NoAttr K C "zone" ∧ fs.lookup ("zone" : Str) = some v ∧ F v := by
  obtain ⟨dx, e⟩ := o
  exact r_get e T.c_Offset T.nf_Offset_zone (off_zone r g d) h
theorem off_who {m : Str} {A : Prop} {C : Addr} (o : OffAt C H p r g d) (h1 : ¬ m = "zone") (h2 : ¬ m = "distance") (h3 : ¬ m = "groups") (h4 : ¬ m = "rows") (h : A) : ∃ a' dx fs, V.ref p = .ref a' ∧ H a' = some (.ins C dx fs) ∧ fs.lookup m = none ∧ A := by
  obtain ⟨dx, e⟩ := o
  exact r_who e (off_no r g d h1 h2 h3 h4) h
end
theorem ok_possible (T : Txt K mg) : FnOk P w K mg base CX0 1 T.f_possible T.d_possible ["rows", "groups", "distance"] (sp3 possB) := by
  refine T.F_possible.ok sc_possible (fun vs H Q E h => ?_) (fun cdv A outer s H vs Q E hr h => ?_)
  · obtain ⟨a, b, c, rfl, _⟩ := h
    rfl
  obtain ⟨a, b, c, rfl, q⟩ := h
  refine ⟨_, (pss_cons (ps_if (pt_cmpR op_eq (pv 1) pe_int (nomark _)) (pss_one (ps_ret (pe_cmpR op_eq (pv 2) pe_int (nomark _)))) pss_nil)
      (pss_cons (ps_if (pt_cmpR op_lt (pv 1) pe_int (nomark _)) (pss_one (ps_ret (pe_and (pe_cmpR op_le (pv 0) (pv 1) (nomark _)) (pe_one (pe_cmpR op_le (pv 2) (pv 1) (nomark _)))))) pss_nil)
      (pss_one (ps_ret (pe_and (pe_cmpR op_ge (pv 0) (pv 1) (nomark _)) (pe_one (pe_cmpR op_ge (pv 2) (pv 1) (nomark _)))))))), ?_⟩
  try simp only [nox_K, cx_K]
  wtm_at "rdi"
  all_goals (refine bl_to q ?_; rw [Bool.eq_iff_iff]; simp only [possB, decide_eq_true_eq, Bool.false_eq_true, eq_self, true_iff, false_iff]; omega)
theorem ok_zone_of (T : Txt K mg) : FnOk P w K mg base CX0 1 T.f_zone_of T.d_zone_of ["rows", "groups"] spZone2 := by
  refine T.F_zone_of.ok sc_zone_of (fun vs H Q E h => ?_) (fun cdv A outer s H vs Q E hr h => ?_)
  · obtain ⟨a, b, rfl, _⟩ := h
    rfl
  obtain ⟨a, b, rfl, q⟩ := h
  refine ⟨_, (pss_cons (ps_if (pt_cmpR op_eq (pv 0) pe_int (nomark _)) (pss_one (ps_ret pe_str)) pss_nil)
      (pss_cons (ps_if (pt_cmpR op_eq (pv 1) pe_int (nomark _)) (pss_one (ps_ret (pe_ifExp (pt_cmpR op_gt (pv 0) pe_int (nomark _)) pe_str pe_str))) pss_nil)
      (pss_one (ps_ret (pe_ifExp (pt_cmpR op_gt (pv 1) pe_int (nomark _)) pe_str pe_str))))), ?_⟩
  try simp only [nox_K, cx_K]
  unfold zoneS at q
  wtm_at "rdi"
  all_goals (simp only [*, if_true, if_false] at q; exact q)
theorem ok_BadOffset___init__ (T : Txt K mg) : FnOk P w K mg base CX0 1 T.f_BadOffset___init__ T.d_BadOffset___init__ ["self", "rows", "groups", "distance"] (spBInit T.C_BadOffset) := by
  refine T.F_BadOffset___init__.ok sc_BadOffset___init__ (fun vs H Q E h => ?_) (fun cdv A outer s H vs Q E hr h => ?_)
  · obtain ⟨a, r, g, d, rfl, _⟩ := h
    rfl
  obtain ⟨a, r, g, d, rfl, ha, q⟩ := h
  refine ⟨_, (pss_cons (ps_ost (pv 0) (pv 1))
      (pss_cons (ps_ost (pv 0) (pv 2))
      (pss_one (ps_ost (pv 0) (pv 3))))), ?_⟩
  try simp only [nox_K, cx_K]
  wtm_at "rd"
  refine ⟨a, _, rfl, T.ox_BadOffset, T.nf_BadOffset_rows, .inl ⟨ha, fun dx nd ne => ?_⟩⟩
  wtm_at "rd"
  refine ⟨a, _, rfl, T.ox_BadOffset, T.nf_BadOffset_groups, .inr ⟨dx, [("rows", .int r)], upd_same, ?_, Nat.le_of_ble_eq_true rfl, ?_⟩⟩
  · rw [upd_ne ne, upd_same]
  wtm_at "rd"
  refine ⟨a, _, rfl, T.ox_BadOffset, T.nf_BadOffset_distance, .inr ⟨dx, [("groups", .int g), ("rows", .int r)], ?_, upd_same, Nat.le_of_ble_eq_true rfl, ?_⟩⟩
  · rw [upd_ne ne.symm, upd_same]
  wtm_at "rd"
  refine q dx _ nd ?_ upd_same fun b o e nb => ?_
  · rw [upd_ne ne.symm, upd_ne ne.symm, upd_same]
  · rw [upd_ne (ne_of_none e nd), upd_ne (ne_of_none e nd), upd_ne nb, upd_ne (ne_of_none e nd)]
    exact e
theorem raise_bad {C : Addr} {r g d : Int} {H : Hp} {Q : XK} (h : ∀ (dd : Addr) (H' : Hp), H dd = none → H' dd = some (.xd (badF r g d)) → Same H H' → Q (.ref C) (some dd) H') :
    ∀ a, H a = none → spBInit C (.ref a :: ([.int r, .int g, .int d] ++ [])) (upd H a (exo a C none)) (fun v H2 => v = .non ∧ ∃ (dd : Addr) (fs : List (Str × V)), H2 a = some (exo a C (some dd)) ∧ H2 dd = some (exd dd fs) ∧ H dd = none ∧ Q (.ref C) (some dd) (upd (del H2 a) dd (.xd fs))) (fun _ _ _ => False) := by
  intro a na
  refine ⟨a, r, g, d, rfl, upd_same, fun dx H' nd ha hd hk => ⟨rfl, dx, badF r g d, ha, hd, (same_new na).free nd, ?_⟩⟩
  refine h dx _ ((same_new na).free nd) upd_same fun b o e => ?_
  have nb : b ≠ a := ne_of_none e na
  rw [upd_ne (ne_of_none e ((same_new na).free nd)), del_ne nb]
  exact hk b o (by rw [upd_ne nb]; exact e) nb
theorem ok_Offset___init__ (T : Txt K mg) : FnOk P w K mg base (L2.CX P w) 4 T.f_Offset___init__ T.d_Offset___init__ ["self", "rows", "groups", "distance"] (spOInit T.C_Offset T.C_BadOffset) := by
  refine T.F_Offset___init__.okX sc_Offset___init__ (fun vs H Q E h => ?_) (fun cdv A outer s H vs Q E hr h => ?_)
  · obtain ⟨p, dx, r, g, d, rfl, _⟩ := h
    rfl
  obtain ⟨p, dx, r, g, d, rfl, hp, qE, q⟩ := h
  refine ⟨_, (pss_cons (ps_if (pt_not (pt_val (pe_call (ok_possible T) (hr.mono (by decide)) (by rfl) T.g_possible T.F_possible.kp T.b_possible .nil pass0 (pa_cons (pv 1) (pa_cons (pv 2) (pa_cons (pv 3) pa_nil)))))) (pss_one (ps_raise rfl (takes_of rfl rfl rfl rfl) (pmk_oex T.ox_BadOffset T.iC_BadOffset T.tI_BadOffset (ok_BadOffset___init__ T) (hr.mono (by decide)) T.b_BadOffset___init__ .nil pass0 (by rfl) T.g_BadOffset (pa_cons (pv 1) (pa_cons (pv 2) (pa_cons (pv 3) pa_nil)))))) pss_nil)
      (pss_cons (ps_fld (pv 0) (pv 1) rfl)
      (pss_cons (ps_fld (pv 0) (pv 2) rfl)
      (pss_cons (ps_fld (pv 0) (pv 3) rfl)
      (pss_one (ps_fld (pv 0) (pe_call (ok_zone_of T) (hr.mono (by decide)) (by rfl) T.g_zone_of T.F_zone_of.kp T.b_zone_of .nil pass0 (pa_cons (pv 1) (pa_cons (pv 2) pa_nil))) rfl)))))), ?_⟩
  try simp only [nox_K, cx_K]
  wtm_at "rd"
  refine ⟨r, g, d, rfl, ?_⟩
  wtm_at "rd"
  refine r_itebn (fun hb => ?_) (fun hb => ?_)
  · refine ⟨.int r, rfl, .int g, rfl, .int d, rfl, Nat.le_of_ble_eq_true rfl, raise_bad fun dd H' nd hd s => ?_⟩
    exact qE hb dd H' nd hd s
  wtm_at "rd"
  refine r_put hp T.c_Offset T.nf_Offset_rows (by decide) ?_
  wtm_at "rd"
  refine r_put upd_same T.c_Offset T.nf_Offset_groups (by have := putF_len "rows" (.int r) []; exact Nat.lt_of_le_of_lt this (by decide)) ?_
  wtm_at "rd"
  refine r_put upd_same T.c_Offset T.nf_Offset_distance (Nat.lt_of_le_of_lt (Nat.le_trans (putF_len _ _ _) (Nat.succ_le_succ (putF_len _ _ _))) (by decide)) ?_
  wtm_at "rd"
  refine ⟨r, g, rfl, ?_⟩
  wtm_at "rd"
  refine r_put upd_same T.c_Offset T.nf_Offset_zone (Nat.lt_of_le_of_lt (Nat.le_trans (putF_len _ _ _) (Nat.succ_le_succ (Nat.le_trans (putF_len _ _ _) (Nat.succ_le_succ (putF_len _ _ _))))) (by decide)) ?_
  wtm_at "rd"
  refine q hb _ ⟨dx, upd_same⟩ fun b o e nb => ?_
  rw [upd_ne nb, upd_ne nb, upd_ne nb, upd_ne nb]
  exact e

end
/-! ### {k: v}, k a tuple -/
def tDispT1 (tk tv : TE) : TE := fun σ H Q => ∀ p, H p = none → tk σ (upd H p (.dT [])) fun x H1 => tv σ H1 fun y H2 => H2 p = some (.dT []) ∧ ∃ (b : Addr) (k : List Key), x = .ref b ∧ H2 b = some (.tup (k.map kV)) ∧ Q (.ref p) (upd H2 p (.dT [(k, y)]))
def onePair (F : V → V → Hp → Prop) : List (V × V) → Hp → Prop
  | [(x, y)], H => F x y H
  | _, _ => False
theorem pe_dispT1 {X : Cx} {pos : Pos} {k v : Expr} {tk tv : TE} (hu : X.A.units + 1 < cLine) (hk : PE X k tk) (hv : PE X v tv) : PE X (.Dict [some k] [v] pos) (tDispT1 tk tv) := by
  refine ⟨fun pins s σ H Q I q => ?_⟩
  have hn := I.hok.fresh (Nat.le_refl s.heap.objs.size)
  have I1 := I.laid (a := s.heap.objs.size) (o := .dT []) (h' := s.heap.push { cls := .type "dict", data := .dict #[] }) (t' := s.toks) (fun _ _ q => Heap.get?_push_of_some _ q) (Nat.le_refl _) (dt_empty s.heap I.big)
  have q1 : tPairs [(tk, tv)] σ (upd H s.heap.objs.size (.dT [])) (onePair fun x y H2 => H2 s.heap.objs.size = some (.dT []) ∧ ∃ (b : Addr) (k : List Key), x = .ref b ∧ H2 b = some (.tup (k.map kV)) ∧ Q (.ref s.heap.objs.size) (upd H2 s.heap.objs.size (.dT [(k, y)]))) := q _ hn
  have len := pairTrees_length [some k] [v] X.env pos rfl rfl
  have l1 : (pairTrees [some k] [v] X.env pos).length = 1 := len
  rw [arm_eval_Dict, zip_pairTrees [some k] [v] X.env pos rfl rfl, dictDisplay_pairs (pairTrees [some k] [v] X.env pos) (fun e => by rw [e] at l1; cases l1) (by omega)]
  refine wpAny_bind (wpAny_standAt (wpAny_bind (wpAny_subDictH (knd := tupleKind (mixKind X.prog X.w)) (Q := fun d s' => wpAny (model X.prog X.w) X.A (pure (Value.ref d)) (EP X pins σ Q) X.xe s') (show X.A.units < cLine by omega) (by omega) ?_)))
  refine thn ((pps_cons hk hv pps_nil).run pins _ σ _ _ I1 q1) fun ws s2 ⟨ps, H2, I2, rel, q2⟩ => ?_
  match ps, rel, q2 with
  | [(x, y)], rel, q2 =>
    obtain ⟨e, b, kk, rfl, eb, q3⟩ := q2
    cases rel with
    | @cons _ w1 _ ws h t =>
      cases t
      obtain ⟨b1, b2⟩ := w1
      obtain ⟨r1, r2⟩ := h
      cases (show b1 = Value.ref b from r1)
      obtain ⟨z, hd, xs, r0, dd⟩ := dt_of I2.hok e
      cases r0
      refine ⟨[(kk, b, b2)], ⟨rfl, rfl, key_of I2.hok eb, trivial⟩, dd, fun h' tk' dd' hs => wpAny_pure ⟨.ref s.heap.objs.size, _, ?_, rfl, q3⟩⟩
      have es : storedAllH ([] : List (List Key × Addr × Value)) [(kk, b, b2)] = [(kk, b, b2)] := rfl
      rw [es] at dd'
      obtain ⟨o, es, ep, hq, h2, h3, h4, _, h5⟩ := dd'
      refine d_write I2 (by rw [e]; exact True.intro) hs ⟨o, hq⟩ ⟨by rw [sizeLine_eq]; exact Nat.le_of_ble_eq_true rfl, hd, [(kk, b, b2)], .cons ⟨rfl, ?_, r2⟩ .nil, o, es, ep, hq, h2, h3, h4, h5⟩
      rw [upd_ne (ne_of eb e fun z => nomatch z)]
      exact eb

def A1 : Axes := ⟨[1], [1], [1]⟩
theorem flat_is (v : Int) : GrIs A1 (fun _ => v) (fun _ => v) 0 0 0 := by
  refine ⟨⟨⟨one_ok, one_ok, one_ok⟩, fun _ _ => rfl, Nat.le_refl _, Nat.le_refl _, Nat.le_refl _⟩, fun m hm s => ?_⟩
  have e : axm m A1 = [1] := three (P := fun m => axm m A1 = [1]) rfl rfl rfl hm
  rw [e, List.mem_singleton]
  exact ⟨.inl, fun h => h.elim id fun ⟨n, _, _, _, z⟩ => absurd rfl z⟩
theorem flat_wt (v : Int) : wtK A1 (fun _ => v) = [(plK (0, 0, 0), V.int v)] := by
  have e : pls A1 = [(0, 0, 0)] := by decide
  unfold wtK
  rw [e]
  rfl
def spFlatG : Sp := fun vs H Q _ => ∃ v : Int, vs = [.int v] ∧ ∀ g H', GrAt (fun a => H a = none) H' g A1 (fun _ => v) → Same H H' → Q (.ref g) H'
def sideF (pl pg : Addr) : List (Str × V) := putF "grid" (.ref pg) (putF "line" (.ref pl) [])
theorem n_lg : ¬ (("line" : Str) = "grid") := by decide +kernel
theorem side_line (pl pg : Addr) : (sideF pl pg).lookup ("line" : Str) = some (.ref pl) := by
  unfold sideF
  rw [lookup_putF, if_neg n_lg, lookup_putF, if_pos rfl]
theorem side_grid (pl pg : Addr) : (sideF pl pg).lookup ("grid" : Str) = some (.ref pg) := by
  unfold sideF
  rw [lookup_putF, if_pos rfl]
def spSdInit (C : Addr) : Sp := fun vs H Q _ => ∃ (p dx pl pg : Addr), vs = [.ref p, .ref pl, .ref pg] ∧ H p = some (.ins C dx []) ∧
  ∀ H', H' p = some (.ins C dx (sideF pl pg)) → (∀ b o, H b = some o → b ≠ p → H' b = some o) → Q .non H'
section
variable {P : Program} {w : World} {K : PySem.W.Frag} {mg : Str → Option Value} {base : Heap}

theorem ok_flat_grid (T : Txt K mg) : FnOk P w K mg base CX0 1 T.f_flat_grid T.d_flat_grid ["weight"] spFlatG := by
  refine T.F_flat_grid.ok sc_flat_grid (fun vs H Q E h => ?_) (fun cdv A outer s H vs Q E hr h => ?_)
  · obtain ⟨v, rfl, _⟩ := h
    rfl
  obtain ⟨v, rfl, q⟩ := h
  refine ⟨_, (pss_one (ps_ret (pe_tup (pa_cons (pe_tup (pa_cons (pe_lst (pa_cons pe_int pa_nil)) (pa_cons (pe_lst (pa_cons pe_int pa_nil)) (pa_cons (pe_lst (pa_cons pe_int pa_nil)) pa_nil)))) (pa_cons (pe_dispT1 (hu_of hr) (pe_tup (pa_cons pe_int (pa_cons pe_int (pa_cons pe_int pa_nil)))) (pv 0)) pa_nil))))), ?_⟩
  try simp only [nox_K, cx_K]
  wtm_at "rd"
  refine r_new rfl fun a n_a => ?_
  have n_a0 := n_a
  generalize eq_a : upd _ a _ = H1
  have s_a : Same _ H1 := eq_a ▸ same_new n_a
  have h_a : H1 a = some _ := eq_a ▸ upd_same
  clear eq_a
  wtm_at "rd"
  refine r_new rfl fun b n_b => ?_
  have n_b0 := none_s s_a n_b
  generalize eq_b : upd _ b _ = H2
  have s_b : Same _ H2 := eq_b ▸ same_new n_b
  have h_b : H2 b = some _ := eq_b ▸ upd_same
  clear eq_b
  have h_a := s_b _ _ h_a
  have s_a := s_a.trans s_b
  wtm_at "rd"
  refine r_new rfl fun c n_c => ?_
  have n_c0 := none_s s_a n_c
  generalize eq_c : upd _ c _ = H3
  have s_c : Same _ H3 := eq_c ▸ same_new n_c
  have h_c : H3 c = some _ := eq_c ▸ upd_same
  clear eq_c
  have h_a := s_c _ _ h_a
  have h_b := s_c _ _ h_b
  have s_a := s_a.trans s_c
  wtm_at "rd"
  refine r_new rfl fun t n_t => ?_
  have sT := same_new (o := .tup [.ref a, .ref b, .ref c]) n_t
  have oT : AxsAt (fun a => H a = none) (upd H3 t (.tup [.ref a, .ref b, .ref c])) t A1 := ⟨a, b, c, upd_same, sT _ _ h_a, sT _ _ h_b, sT _ _ h_c, n_a0, n_b0, n_c0⟩
  have s4 := s_a.trans sT
  generalize upd H3 t (.tup [.ref a, .ref b, .ref c]) = H4 at s4 oT ⊢
  wtm_at "rd"
  intro d n_d
  have n_d0 := none_s s4 n_d
  have s5 := same_new (o := .dT []) n_d
  have gd : (upd H4 d (.dT [])) d = some (.dT []) := upd_same
  have oT := oT.same s5
  have s5 := s4.trans s5
  generalize upd H4 d (.dT []) = H5 at s5 oT gd ⊢
  wtm_at "rd"
  refine r_new rfl fun u n_u => ?_
  have s6 := same_new (o := .tup [.int 0, .int 0, .int 0]) n_u
  have gu : (upd H5 u (.tup [.int 0, .int 0, .int 0])) u = some (.tup ((plK (0, 0, 0)).map kV)) := upd_same
  have gd := s6 _ _ gd
  have oT := oT.same s6
  have s6 := s5.trans s6
  generalize upd H5 u (.tup [.int 0, .int 0, .int 0]) = H6 at s6 oT gd gu ⊢
  wtm_at "rd"
  refine ⟨gd, u, plK (0, 0, 0), rfl, gu, ?_⟩
  rw [← flat_wt v]
  wtm_at "rd"
  refine r_new rfl fun g n_g => ?_
  obtain ⟨x, y, z, h1, h2, h3, h4, h5⟩ := oT
  have s7 := same_new (o := .tup [.ref t, .ref d]) n_g
  refine q g _ ⟨t, d, upd_same, ⟨x, y, z, s7 _ _ ((upd_ne (ne_of h1 gd fun e => nomatch e)).trans h1), s7 _ _ ((upd_ne (ne_of h2 gd fun e => nomatch e)).trans h2), s7 _ _ ((upd_ne (ne_of h3 gd fun e => nomatch e)).trans h3), s7 _ _ ((upd_ne (ne_of h4 gd fun e => nomatch e)).trans h4), h5⟩, s7 _ _ upd_same⟩ ((put_sameR s6 n_d0).trans s7)
theorem ok_Side___init__ (T : Txt K mg) : FnOk P w K mg base CX0 1 T.f_Side___init__ T.d_Side___init__ ["self", "line", "grid"] (spSdInit T.C_Side) := by
  refine T.F_Side___init__.ok sc_Side___init__ (fun vs H Q E h => ?_) (fun cdv A outer s H vs Q E hr h => ?_)
  · obtain ⟨p, dx, pl, pg, rfl, _⟩ := h
    rfl
  obtain ⟨p, dx, pl, pg, rfl, hp, q⟩ := h
  refine ⟨_, (pss_cons (ps_fld (pv 0) (pv 1) rfl)
      (pss_one (ps_fld (pv 0) (pv 2) rfl))), ?_⟩
  try simp only [nox_K, cx_K]
  wtm_at "rd"
  refine r_put hp T.c_Side T.nf_Side_line (by decide) ?_
  wtm_at "rd"
  refine r_put upd_same T.c_Side T.nf_Side_grid (Nat.lt_of_le_of_lt (putF_len _ _ _) (by decide)) ?_
  wtm_at "rd"
  refine q _ upd_same fun b o e nb => ?_
  rw [upd_ne nb, upd_ne nb]
  exact e

end

theorem ln_self {p : Int × Int} : ∀ (n : Nat) (l : Ln), l.length = n → (l.map (·.1)).Pairwise (· < ·) → p ∈ l → lnAt l p.1 = p.2
  | 0, l, hn, _, hp => by rw [List.length_eq_zero_iff.mp hn] at hp; cases hp
  | n + 1, l, hn, asc, hp => by
    rcases Gr.snoc_cases l with h | ⟨r, q, rfl⟩
    · rw [h] at hn; cases hn
    rw [List.length_append] at hn
    rw [List.map_append] at asc
    obtain ⟨a1, _, a3⟩ := List.pairwise_append.mp asc
    rw [Gr.lnAt_snoc]
    rcases List.mem_append.mp hp with z | z
    · have := a3 p.1 (List.mem_map.mpr ⟨p, z, rfl⟩) q.1 List.mem_cons_self
      rw [if_neg (by omega)]
      exact ln_self n r (by simpa using hn) a1 z
    · rw [List.mem_singleton.mp z, if_pos (Int.le_refl _)]
/-- a line by what it answers -/
structure LnIs (l : Ln) (f : Int → Int) (e : Nat) : Prop where
  ok : LnOk l
  at_ : ∀ x, 1 ≤ x → lnAt l x = f x
  len : l.length ≤ 1 + e
  can : LnCan l f
theorem LnIs.pos {l : Ln} {f : Int → Int} {e : Nat} (h : LnIs l f e) : 0 < l.length := by
  have z := (AxOk.at0 h.ok).2
  rwa [List.length_map] at z
theorem LnIs.bd {l : Ln} {f : Int → Int} {e : Nat} (h : LnIs l f e) (b : ∀ x, 1 ≤ x → Bd (f x)) : LnBd l := fun p hp => by
  have p1 : 1 ≤ p.1 := ax_ge1 h.ok (List.mem_map.mpr ⟨p, hp, rfl⟩)
  rw [← ln_self _ l rfl h.ok.asc hp, h.at_ _ p1]
  exact b _ p1
theorem LnIs.mix {l k : Ln} {f h : Int → Int} {a b c : Nat} {ρ : Rul} {u : List Int} (i : LnIs l f a) (j : LnIs k h b) (J : Jn (f = h) a b c) (hu : Uni (fst l) (fst k) u) : LnIs (mixLn ρ l k u) (fun x => ρ.f (f x) (h x)) c := by
  have hU : AxOk u := uni_ok i.ok j.ok hu
  have sl : ∀ p ∈ l, p.1 ∈ u := fun p hp => (hu.m _).mpr (.inl (List.mem_map.mpr ⟨p, hp, rfl⟩))
  have sk : ∀ p ∈ k, p.1 ∈ u := fun p hp => (hu.m _).mpr (.inr (List.mem_map.mpr ⟨p, hp, rfl⟩))
  have hok : LnOk (mixLn ρ l k u) := by
    refine Gr.clean_lnok ?_
    unfold Gr.LnOk
    rw [List.map_map, show ((fun p : Int × Int => p.1) ∘ fun x => (x, ρ.f (lnAt l x) (lnAt k x))) = id from rfl, List.map_id]
    exact hU
  have hat : ∀ x, 1 ≤ x → lnAt (mixLn ρ l k u) x = ρ.f (f x) (h x) := fun x hx => by
    have z := Gr.lnmix_at hU sl sk ρ.f hx
    rw [i.at_ x hx, j.at_ x hx] at z
    exact z
  refine ⟨hok, hat, ?_, ln_canon hok hat⟩
  · have zu : u.length ≤ 1 + c := by
      rcases J with e | ⟨e, _, e2⟩
      · have z := uni_len i.ok j.ok hu
        have e1 : (fst l).length = l.length := List.length_map _
        have e2 : (fst k).length = k.length := List.length_map _
        have z1 : u.length + 1 ≤ (fst l).length + (fst k).length := z
        have := i.len
        have := j.len
        omega
      · have lk := ln_uniq i.ok j.ok i.at_ j.at_ i.can j.can fun x _ => congrFun e x
        rw [← lk] at hu
        rw [uni_same i.ok.asc hu, e2]
        rw [List.length_map]
        exact i.len
    have y := clean_len (u.map fun x => (x, ρ.f (lnAt l x) (lnAt k x)))
    rw [List.length_map] at y
    show (clean _).length ≤ _
    omega
structure Ex where
  l : Nat
  r : Nat
  g : Nat
  d : Nat
def Ex.add (a b : Ex) : Ex := ⟨a.l + b.l, a.r + b.r, a.g + b.g, a.d + b.d⟩
structure Ex.le (a : Ex) (n : Nat) : Prop where
  l : a.l ≤ n
  r : a.r ≤ n
  g : a.g ≤ n
  d : a.d ≤ n
def JnE (P : Prop) (a b c : Ex) : Prop := c = a.add b ∨ (P ∧ a = b ∧ c = a)
theorem JnE.at_ {P Q : Prop} {a b c : Ex} (h : JnE P a b c) (i : P → Q) : Jn Q a.l b.l c.l ∧ Jn Q a.r b.r c.r ∧ Jn Q a.g b.g c.g ∧ Jn Q a.d b.d c.d := by
  rcases h with rfl | ⟨p, rfl, rfl⟩
  · exact ⟨.inl rfl, .inl rfl, .inl rfl, .inl rfl⟩
  · exact ⟨.inr ⟨i p, rfl, rfl⟩, .inr ⟨i p, rfl, rfl⟩, .inr ⟨i p, rfl, rfl⟩, .inr ⟨i p, rfl, rfl⟩⟩
theorem JnE.imp {P Q : Prop} {a b c : Ex} (h : JnE P a b c) (i : P → Q) : JnE Q a b c := h.imp_right fun ⟨p, r⟩ => ⟨i p, r⟩
structure SdIs (l : Ln) (A : Axes) (W : Wt) (f : Int → Int) (h : Num → Int) (e : Ex) : Prop where
  ln : LnIs l f e.l
  gr : GrIs A W h e.r e.g e.d
/-- a Side stands at p -/
def SdAt (C : Addr) (N : Addr → Prop) (H : Hp) (p : Addr) (f : Int → Int) (h : Num → Int) (e : Ex) : Prop := ∃ dx pl pg l A W, H p = some (.ins C dx (sideF pl pg)) ∧ N pl ∧ LnAt H pl l ∧ GrAt N H pg A W ∧ SdIs l A W f h e
theorem SdAt.same {C : Addr} {N : Addr → Prop} {H H' : Hp} {p : Addr} {f : Int → Int} {h : Num → Int} {e : Ex} (k : SdAt C N H p f h e) (s : Same H H') : SdAt C N H' p f h e := by
  obtain ⟨dx, pl, pg, l, A, W, h1, h2, h3, h4, h5⟩ := k
  exact ⟨dx, pl, pg, l, A, W, s _ _ h1, h2, h3.same s, h4.same s, h5⟩
theorem SdAt.mono {C : Addr} {N M : Addr → Prop} {H : Hp} {p : Addr} {f : Int → Int} {h : Num → Int} {e : Ex} (k : SdAt C N H p f h e) (m : ∀ a, N a → M a) : SdAt C M H p f h e := by
  obtain ⟨dx, pl, pg, l, A, W, h1, h2, h3, h4, h5⟩ := k
  exact ⟨dx, pl, pg, l, A, W, h1, m _ h2, h3, h4.mono m, h5⟩
structure SdBd (f : Int → Int) (h : Num → Int) : Prop where
  l : ∀ x, 1 ≤ x → Bd (f x)
  g : ∀ n : Num, n.Ok → Bd (h n)
def spThere (C : Addr) : Sp := fun vs H Q _ => ∃ (p : Addr) (r g d : Int) (N : Addr → Prop) (f : Int → Int) (h : Num → Int) (e : Ex), vs = [.ref p, .int r, .int g, .int d] ∧ SdAt C N H p f h e ∧ e.le 18 ∧ (g = 0 ∧ 1 ≤ r ∨ (⟨r, g, d⟩ : Num).Ok) ∧
  ∀ H', Same H H' → Q (.int (if g = 0 then f r else h ⟨r, g, d⟩)) H'
def spMixSd (C : Addr) : Sp := fun vs H Q _ => ∃ (p q t : Addr) (N M : Addr → Prop) (f k : Int → Int) (h j : Num → Int) (a b c : Ex) (ρ : Rul), vs = [.ref p, .ref q, .ref t] ∧ SdAt C N H p f h a ∧ SdAt C M H q k j b ∧ RulAt H t ρ ∧ ρ.ok ∧ SdBd f h ∧ SdBd k j ∧ JnE (f = k ∧ h = j) a b c ∧ c.le 18 ∧
  ∀ s H', H s = none → SdAt C (fun a => H a = none) H' s (fun x => ρ.f (f x) (k x)) (fun n => ρ.f (h n) (j n)) c → Same H H' → Q (.ref s) H'
theorem make_side {C : Addr} {H : Hp} {F : Addr → Hp → Prop} {E : XK} {pl pg : Addr} (h : ∀ x dx H', H x = none → Same H H' → H' x = some (.ins C dx (sideF pl pg)) → F x H') :
    ∀ x dx, H x = none → H dx = none → dx ≠ x → spSdInit C (.ref x :: ([.ref pl, .ref pg] ++ [])) (upd (upd H dx (.own x)) x (.ins C dx [])) (fun v H2 => v = .non ∧ F x H2) E :=
  fun x dx nx nd _ => ⟨x, dx, pl, pg, rfl, upd_same, fun H' e hk => ⟨rfl, h x dx H' nx (same_make nx nd hk) e⟩⟩
section
variable {P : Program} {w : World} {K : PySem.W.Frag} {mg : Str → Option Value} {base : Heap}

theorem ok_weight_there (T : Txt K mg) : FnOk P w K mg base CX0 3 T.f_weight_there T.d_weight_there ["side", "rows", "groups", "distance"] (spThere T.C_Side) := by
  refine T.F_weight_there.ok sc_weight_there (fun vs H Q E h => ?_) (fun cdv A outer s H vs Q E hr h => ?_)
  · obtain ⟨p, r, g, d, N, f, h, e, rfl, _⟩ := h
    rfl
  obtain ⟨p, r, g, d, N, f, h, e, rfl, o, he, hn, q⟩ := h
  refine ⟨_, (pss_cons (ps_if (pt_cmpR op_eq (pv 2) pe_int (nomark _)) (pss_one (ps_ret (pe_call (ok_line_at T) (hr.mono (by decide)) (by rfl) T.g_line_at T.F_line_at.kp T.b_line_at .nil pass0 (pa_cons (pe_fldK (K := K) (pv 0)) (pa_cons (pv 1) pa_nil))))) pss_nil)
      (pss_one (ps_ret (pe_call (ok_grid_at T) (hr.mono (by decide)) (by rfl) T.g_grid_at T.F_grid_at.kp T.b_grid_at .nil pass0 (pa_cons (pe_fldK (K := K) (pv 0)) (pa_cons (pe_tup (pa_cons (pv 1) (pa_cons (pv 2) (pa_cons (pv 3) pa_nil)))) pa_nil)))))), ?_⟩
  try simp only [nox_K, cx_K]
  obtain ⟨dx, pl, pg, l, A, W, h1, h2, h3, h4, h5⟩ := o
  wtm_at "rd"
  refine r_ite (fun c => ?_) (fun c => ?_)
  · subst c
    wtm_at "rd"
    refine r_get h1 T.c_Side T.nf_Side_line (side_line _ _) ?_
    wtm_at "rd"
    refine ⟨pl, l, r, rfl, h3, ?_⟩
    wtm_at "rd"
    have z := q H (fun _ _ z => z)
    rw [if_pos rfl] at z
    rw [h5.ln.at_ r (hn.elim (fun z => z.2) fun z => Int.le_trans z.g1 z.gr)]
    exact z
  · have nk : (⟨r, g, d⟩ : Num).Ok := hn.elim (fun z => absurd z.1 c) id
    have l1 := h5.gr.lr
    have l2 := h5.gr.lg
    have l3 := h5.gr.ld
    have m1 := he.r
    have m2 := he.g
    have m3 := he.d
    wtm_at "rd"
    refine r_get h1 T.c_Side T.nf_Side_grid (side_grid _ _) ?_
    wtm_at "rd"
    refine r_new rfl fun u n_u => ?_
    have su := same_new (o := .tup [.int r, .int g, .int d]) n_u
    wtm_at "rd"
    refine ⟨pg, u, N, A, W, ⟨r, g, d⟩, rfl, h4.same su, h5.gr.ok, ⟨by omega, by omega, by omega⟩, upd_same, nk, fun H' s' => ?_⟩
    wtm_at "rd"
    have z := q H' (su.trans s')
    rw [if_neg c] at z
    rw [h5.gr.at_ _ nk]
    exact z
theorem ok_mix_sides (T : Txt K mg) : FnOk P w K mg base CX0 6 T.f_mix_sides T.d_mix_sides ["first", "second", "rule"] (spMixSd T.C_Side) := by
  refine T.F_mix_sides.ok sc_mix_sides (fun vs H Q E h => ?_) (fun cdv A outer s H vs Q E hr h => ?_)
  · obtain ⟨p, q0, t, N, M, f, k, h, j, a, b, ec, ρ, rfl, _⟩ := h
    rfl
  obtain ⟨p, q0, t, N, M, f, k, h, j, a, b, ec, ρ, rfl, o1, o2, ht, hρ, bd1, bd2, hj, hz, q⟩ := h
  refine ⟨_, (pss_one (ps_ret (pe_make T.m_Side (ok_Side___init__ T) (hr.mono (by decide)) (by rfl) T.g_Side T.b_Side___init__ .nil pass0 (pa_cons (pe_call (ok_mix_lines T) (hr.mono (by decide)) (by rfl) T.g_mix_lines T.F_mix_lines.kp T.b_mix_lines .nil pass0 (pa_cons (pe_fldK (K := K) (pv 0)) (pa_cons (pe_fldK (K := K) (pv 1)) (pa_cons (pv 2) pa_nil)))) (pa_cons (pe_call (ok_mix_grids T) (hr.mono (by decide)) (by rfl) T.g_mix_grids T.F_mix_grids.kp T.b_mix_grids .nil pass0 (pa_cons (pe_fldK (K := K) (pv 0)) (pa_cons (pe_fldK (K := K) (pv 1)) (pa_cons (pv 2) pa_nil)))) pa_nil))))), ?_⟩
  try simp only [nox_K, cx_K]
  obtain ⟨dx, pl, pg, l, A, W, h1, h2, h3, h4, h5⟩ := o1
  obtain ⟨dx', pl', pg', l', A', W', i1, i2, i3, i4, i5⟩ := o2
  have J1 := (hj.at_ (Q := f = k) fun z => z.1).1
  obtain ⟨_, J2, J3, J4⟩ := hj.at_ (Q := h = j) fun z => z.2
  obtain ⟨zl1, zl2⟩ := J1.le hz.l
  have y1 := h5.ln.len
  have y2 := i5.ln.len
  wtm_at "rd"
  refine r_get h1 T.c_Side T.nf_Side_line (side_line _ _) ?_
  wtm_at "rd"
  refine r_get i1 T.c_Side T.nf_Side_line (side_line _ _) ?_
  wtm_at "rd"
  refine ⟨pl, pl', t, l, l', ρ, rfl, h3, i3, ht, hρ, h5.ln.bd bd1.l, i5.ln.bd bd2.l, h5.ln.pos, i5.ln.pos, by omega, by omega, fun c u H1 n_c hu _ hc s1 => ?_⟩
  have LI := LnIs.mix (ρ := ρ) h5.ln i5.ln J1 hu
  wtm_at "rd"
  refine r_get (s1 _ _ h1) T.c_Side T.nf_Side_grid (side_grid _ _) ?_
  wtm_at "rd"
  refine r_get (s1 _ _ i1) T.c_Side T.nf_Side_grid (side_grid _ _) ?_
  wtm_at "rd"
  refine ⟨pg, pg', t, N, M, A, A', W, W', h, j, a.r, a.g, a.d, b.r, b.g, b.d, ec.r, ec.g, ec.d, ρ, rfl, h4.same s1, i4.same s1, h5.gr, i5.gr, s1 _ _ ht, hρ, bd1.g, bd2.g, J2, J3, J4, hz.r, hz.g, hz.d, fun g H2 A2 W2 hg GI s2 => ?_⟩
  wtm_at "rd"
  have s12 := s1.trans s2
  refine make_side fun x dx2 H3 nx s3 hx => ?_
  wtm_at "rd"
  exact q x H3 (none_s s12 nx) ⟨dx2, c, g, _, A2, W2, hx, n_c, (hc.same s2).same s3, (hg.mono fun b h => none_s s1 h).same s3, LI, GI⟩ (s12.trans s3)

end

structure Sdv where
  f : Int → Int
  h : Num → Int
structure Wgt where
  s : Int
  b : Sdv
  a : Sdv
def Sdv.at_ (k : Sdv) (r g d : Int) : Int := if g = 0 then k.f r else k.h ⟨r, g, d⟩
def Wgt.at_ (w : Wgt) (r g d : Int) : Int := if r = 0 then w.s else if 0 < r then w.a.at_ r g d else w.b.at_ (0 - r) (0 - g) (0 - d)
def Sdv.mix (ρ : Rul) (k j : Sdv) : Sdv := ⟨fun x => ρ.f (k.f x) (j.f x), fun n => ρ.f (k.h n) (j.h n)⟩
def Wgt.mix (ρ : Rul) (w v : Wgt) : Wgt := ⟨ρ.f w.s v.s, w.b.mix ρ v.b, w.a.mix ρ v.a⟩
theorem Wgt.mix_at (ρ : Rul) (w v : Wgt) (r g d : Int) : (w.mix ρ v).at_ r g d = ρ.f (w.at_ r g d) (v.at_ r g d) := by
  unfold Wgt.at_ Wgt.mix Sdv.at_ Sdv.mix
  dsimp only
  split
  · rfl
  · split
    · split <;> rfl
    · split <;> rfl
def wgF (v : Int) (pb pa : Addr) : List (Str × V) := putF "ahead" (.ref pa) (putF "back" (.ref pb) (putF "self_weight" (.int v) []))
theorem n_sb : ¬ (("self_weight" : Str) = "back") := by decide +kernel
theorem n_sa : ¬ (("self_weight" : Str) = "ahead") := by decide +kernel
theorem n_ba : ¬ (("back" : Str) = "ahead") := by decide +kernel
theorem wg_self (v : Int) (pb pa : Addr) : (wgF v pb pa).lookup ("self_weight" : Str) = some (.int v) := by
  unfold wgF
  rw [lookup_putF, if_neg n_sa, lookup_putF, if_neg n_sb, lookup_putF, if_pos rfl]
theorem wg_back (v : Int) (pb pa : Addr) : (wgF v pb pa).lookup ("back" : Str) = some (.ref pb) := by
  unfold wgF
  rw [lookup_putF, if_neg n_ba, lookup_putF, if_pos rfl]
theorem wg_ahead (v : Int) (pb pa : Addr) : (wgF v pb pa).lookup ("ahead" : Str) = some (.ref pa) := by
  unfold wgF
  rw [lookup_putF, if_pos rfl]
theorem wg_no {m : Str} (v : Int) (pb pa : Addr) (h1 : ¬ m = "ahead") (h2 : ¬ m = "back") (h3 : ¬ m = "self_weight") : (wgF v pb pa).lookup m = none := by
  unfold wgF
  rw [lookup_putF, if_neg h1, lookup_putF, if_neg h2, lookup_putF, if_neg h3]
  rfl
/-- a Weights stands at p -/
def WgAt (C CS : Addr) (N : Addr → Prop) (H : Hp) (p : Addr) (w : Wgt) (e : Ex) : Prop := ∃ dx pb pa, H p = some (.ins C dx (wgF w.s pb pa)) ∧ SdAt CS N H pb w.b.f w.b.h e ∧ SdAt CS N H pa w.a.f w.a.h e
theorem WgAt.same {C CS : Addr} {N : Addr → Prop} {H H' : Hp} {p : Addr} {w : Wgt} {e : Ex} (k : WgAt C CS N H p w e) (s : Same H H') : WgAt C CS N H' p w e := by
  obtain ⟨dx, pb, pa, h1, h2, h3⟩ := k
  exact ⟨dx, pb, pa, s _ _ h1, h2.same s, h3.same s⟩
theorem WgAt.mono {C CS : Addr} {N M : Addr → Prop} {H : Hp} {p : Addr} {w : Wgt} {e : Ex} (k : WgAt C CS N H p w e) (m : ∀ a, N a → M a) : WgAt C CS M H p w e := by
  obtain ⟨dx, pb, pa, h1, h2, h3⟩ := k
  exact ⟨dx, pb, pa, h1, h2.mono m, h3.mono m⟩
structure WgBd (w : Wgt) : Prop where
  s : Bd w.s
  b : SdBd w.b.f w.b.h
  a : SdBd w.a.f w.a.h
def spWgInit (C : Addr) : Sp := fun vs H Q _ => ∃ (p dx pb pa : Addr) (v : Int), vs = [.ref p, .int v, .ref pb, .ref pa] ∧ H p = some (.ins C dx []) ∧
  ∀ H', H' p = some (.ins C dx (wgF v pb pa)) → (∀ b o, H b = some o → b ≠ p → H' b = some o) → Q .non H'
theorem make_wg {C : Addr} {H : Hp} {F : Addr → Hp → Prop} {E : XK} {v : Int} {pb pa : Addr} (h : ∀ x dx H', H x = none → Same H H' → H' x = some (.ins C dx (wgF v pb pa)) → F x H') :
    ∀ x dx, H x = none → H dx = none → dx ≠ x → spWgInit C (.ref x :: ([.int v, .ref pb, .ref pa] ++ [])) (upd (upd H dx (.own x)) x (.ins C dx [])) (fun v H2 => v = .non ∧ F x H2) E :=
  fun x dx nx nd _ => ⟨x, dx, pb, pa, v, rfl, upd_same, fun H' e hk => ⟨rfl, h x dx H' nx (same_make nx nd hk) e⟩⟩
def spWgOff (C CS CO : Addr) : Sp := fun vs H Q _ => ∃ (p o : Addr) (N : Addr → Prop) (w : Wgt) (e : Ex) (r g d : Int), vs = [.ref p, .ref o] ∧ WgAt C CS N H p w e ∧ OffAt CO H o r g d ∧ possB r g d = true ∧ e.le 18 ∧ ∀ H', Same H H' → Q (.int (w.at_ r g d)) H'
def spMixWg (C CS : Addr) : Sp := fun vs H Q _ => ∃ (p q t : Addr) (N M : Addr → Prop) (w v : Wgt) (a b c : Ex) (ρ : Rul), vs = [.ref p, .ref q, .ref t] ∧ WgAt C CS N H p w a ∧ WgAt C CS M H q v b ∧ RulAt H t ρ ∧ ρ.ok ∧ WgBd w ∧ WgBd v ∧ JnE (w = v) a b c ∧ c.le 18 ∧
  ∀ s H', H s = none → WgAt C CS (fun a => H a = none) H' s (w.mix ρ v) c → Same H H' → Q (.ref s) H'
def spTurned (C CS : Addr) : Sp := fun vs H Q _ => ∃ (p : Addr) (N : Addr → Prop) (w : Wgt) (e : Ex), vs = [.ref p] ∧ WgAt C CS N H p w e ∧ ∀ s H', H s = none → WgAt C CS N H' s ⟨w.s, w.a, w.b⟩ e → Same H H' → Q (.ref s) H'
theorem zone_self (r g : Int) : decide (zoneS r g = "self") = decide (r = 0) := by
  unfold zoneS
  have n1 : ¬ (("after" : Str) = "self") := by decide +kernel
  have n2 : ¬ (("before" : Str) = "self") := by decide +kernel
  have n3 : ¬ (("future" : Str) = "self") := by decide +kernel
  have n4 : ¬ (("past" : Str) = "self") := by decide +kernel
  rw [decide_eq_decide]
  split
  · next h => exact ⟨fun _ => h, fun _ => rfl⟩
  · next h =>
    refine ⟨fun z => absurd z ?_, fun z => absurd z h⟩
    split
    · split
      · exact n1
      · exact n2
    · split
      · exact n3
      · exact n4
section
variable {P : Program} {w : World} {K : PySem.W.Frag} {mg : Str → Option Value} {base : Heap}

theorem ok_Weights___init__ (T : Txt K mg) : FnOk P w K mg base CX0 1 T.f_Weights___init__ T.d_Weights___init__ ["self", "self_weight", "back", "ahead"] (spWgInit T.C_Weights) := by
  refine T.F_Weights___init__.ok sc_Weights___init__ (fun vs H Q E h => ?_) (fun cdv A outer s H vs Q E hr h => ?_)
  · obtain ⟨p, dx, pb, pa, v, rfl, _⟩ := h
    rfl
  obtain ⟨p, dx, pb, pa, v, rfl, hp, q⟩ := h
  refine ⟨_, (pss_cons (ps_fld (pv 0) (pv 1) rfl)
      (pss_cons (ps_fld (pv 0) (pv 2) rfl)
      (pss_one (ps_fld (pv 0) (pv 3) rfl)))), ?_⟩
  try simp only [nox_K, cx_K]
  wtm_at "rd"
  refine r_put hp T.c_Weights T.nf_Weights_self_weight (by decide) ?_
  wtm_at "rd"
  refine r_put upd_same T.c_Weights T.nf_Weights_back (Nat.lt_of_le_of_lt (putF_len _ _ _) (by decide)) ?_
  wtm_at "rd"
  refine r_put upd_same T.c_Weights T.nf_Weights_ahead (Nat.lt_of_le_of_lt (Nat.le_trans (putF_len _ _ _) (Nat.succ_le_succ (putF_len _ _ _))) (by decide)) ?_
  wtm_at "rd"
  refine q _ upd_same fun b o e nb => ?_
  rw [upd_ne nb, upd_ne nb, upd_ne nb]
  exact e
theorem ok_Weights_at (T : Txt K mg) : FnOk P w K mg base CX0 4 T.f_Weights_at T.d_Weights_at ["self", "offset"] (spWgOff T.C_Weights T.C_Side T.C_Offset) := by
  refine T.F_Weights_at.ok sc_Weights_at (fun vs H Q E h => ?_) (fun cdv A outer s H vs Q E hr h => ?_)
  · obtain ⟨p, o, N, w, e, r, g, d, rfl, _⟩ := h
    rfl
  obtain ⟨p, o, N, w, e, r, g, d, rfl, hw, oo, hb, he, q⟩ := h
  refine ⟨_, (pss_cons (ps_if (pt_cmpR op_eq (pe_fldK (K := K) (pv 1)) pe_str (nomark _)) (pss_one (ps_ret (pe_fldK (K := K) (pv 0)))) pss_nil)
      (pss_cons (ps_if (pt_cmpR op_gt (pe_fldK (K := K) (pv 1)) pe_int (nomark _)) (pss_one (ps_ret (pe_call (ok_weight_there T) (hr.mono (by decide)) (by rfl) T.g_weight_there T.F_weight_there.kp T.b_weight_there .nil pass0 (pa_cons (pe_fldK (K := K) (pv 0)) (pa_cons (pe_fldK (K := K) (pv 1)) (pa_cons (pe_fldK (K := K) (pv 1)) (pa_cons (pe_fldK (K := K) (pv 1)) pa_nil))))))) pss_nil)
      (pss_one (ps_ret (pe_call (ok_weight_there T) (hr.mono (by decide)) (by rfl) T.g_weight_there T.F_weight_there.kp T.b_weight_there .nil pass0 (pa_cons (pe_fldK (K := K) (pv 0)) (pa_cons (pe_op op_sub pe_int (pe_fldK (K := K) (pv 1))) (pa_cons (pe_op op_sub pe_int (pe_fldK (K := K) (pv 1))) (pa_cons (pe_op op_sub pe_int (pe_fldK (K := K) (pv 1))) pa_nil))))))))), ?_⟩
  try simp only [nox_K, cx_K]
  obtain ⟨dx, pb, pa, h1, h2, h3⟩ := id hw
  have hb := of_decide_eq_true hb
  wtm_at "rd"
  refine r_zone T oo ?_
  wtm_at "rd"
  rw [zone_self]
  refine r_ite (fun c => ?_) (fun c => ?_)
  · wtm_at "rd"
    refine r_get h1 T.c_Weights T.nf_Weights_self_weight (wg_self _ _ _) ?_
    wtm_at "rd"
    have z := q H (fun _ _ z => z)
    rw [show w.at_ r g d = w.s from if_pos c] at z
    exact z
  wtm_at "rd"
  refine r_rows T oo ?_
  wtm_at "rd"
  refine r_ite (fun c2 => ?_) (fun c2 => ?_)
  · have ev : w.at_ r g d = w.a.at_ r g d := (if_neg c).trans (if_pos c2)
    rw [ev] at q
    wtm_at "rd"
    refine r_get h1 T.c_Weights T.nf_Weights_ahead (wg_ahead _ _ _) ?_
    wtm_at "rd"
    refine r_rows T oo ?_
    wtm_at "rd"
    refine r_groups T oo ?_
    wtm_at "rd"
    refine r_distance T oo ?_
    wtm_at "rd"
    refine ⟨pa, r, g, d, N, w.a.f, w.a.h, e, rfl, h3, he, ?_, fun H' s' => ?_⟩
    · by_cases g0 : g = 0
      · exact .inl ⟨g0, by omega⟩
      · exact .inr ⟨by show 1 ≤ g; omega, by show g ≤ r; omega, by show g ≤ d; omega⟩
    wtm_at "rd"
    exact q H' s'
  · have ev : w.at_ r g d = w.b.at_ (0 - r) (0 - g) (0 - d) := (if_neg c).trans (if_neg c2)
    rw [ev] at q
    wtm_at "rd"
    refine r_get h1 T.c_Weights T.nf_Weights_back (wg_back _ _ _) ?_
    wtm_at "rd"
    refine r_rows T oo ?_
    wtm_at "rd"
    refine r_groups T oo ?_
    wtm_at "rd"
    refine r_distance T oo ?_
    wtm_at "rd"
    refine ⟨pb, 0 - r, 0 - g, 0 - d, N, w.b.f, w.b.h, e, rfl, h2, he, ?_, fun H' s' => ?_⟩
    · by_cases g0 : g = 0
      · exact .inl ⟨by omega, by omega⟩
      · exact .inr ⟨by show 1 ≤ 0 - g; omega, by show 0 - g ≤ 0 - r; omega, by show 0 - g ≤ 0 - d; omega⟩
    wtm_at "rd"
    exact q H' s'
theorem ok_mix_weights (T : Txt K mg) : FnOk P w K mg base CX0 7 T.f_mix_weights T.d_mix_weights ["first", "second", "rule"] (spMixWg T.C_Weights T.C_Side) := by
  refine T.F_mix_weights.ok sc_mix_weights (fun vs H Q E h => ?_) (fun cdv A outer s H vs Q E hr h => ?_)
  · obtain ⟨p, q0, t, N, M, w, v, a, b, ec, ρ, rfl, _⟩ := h
    rfl
  obtain ⟨p, q0, t, N, M, w, v, a, b, ec, ρ, rfl, o1, o2, ht, hρ, bd1, bd2, hj, hz, q⟩ := h
  refine ⟨_, (pss_one (ps_ret (pe_make T.m_Weights (ok_Weights___init__ T) (hr.mono (by decide)) (by rfl) T.g_Weights T.b_Weights___init__ .nil pass0 (pa_cons (pe_call (ok_mix T) (hr.mono (by decide)) (by rfl) T.g_mix T.F_mix.kp T.b_mix .nil pass0 (pa_cons (pe_fldK (K := K) (pv 0)) (pa_cons (pe_fldK (K := K) (pv 1)) (pa_cons (pv 2) pa_nil)))) (pa_cons (pe_call (ok_mix_sides T) (hr.mono (by decide)) (by rfl) T.g_mix_sides T.F_mix_sides.kp T.b_mix_sides .nil pass0 (pa_cons (pe_fldK (K := K) (pv 0)) (pa_cons (pe_fldK (K := K) (pv 1)) (pa_cons (pv 2) pa_nil)))) (pa_cons (pe_call (ok_mix_sides T) (hr.mono (by decide)) (by rfl) T.g_mix_sides T.F_mix_sides.kp T.b_mix_sides .nil pass0 (pa_cons (pe_fldK (K := K) (pv 0)) (pa_cons (pe_fldK (K := K) (pv 1)) (pa_cons (pv 2) pa_nil)))) pa_nil)))))), ?_⟩
  try simp only [nox_K, cx_K]
  obtain ⟨dx, pb, pa, h1, h2, h3⟩ := o1
  obtain ⟨dx', pb', pa', i1, i2, i3⟩ := o2
  wtm_at "rd"
  refine r_get h1 T.c_Weights T.nf_Weights_self_weight (wg_self _ _ _) ?_
  wtm_at "rd"
  refine r_get i1 T.c_Weights T.nf_Weights_self_weight (wg_self _ _ _) ?_
  wtm_at "rd"
  refine ⟨w.s, v.s, t, ρ, rfl, ht, hρ, bd1.s, bd2.s, ?_⟩
  wtm_at "rd"
  refine r_get h1 T.c_Weights T.nf_Weights_back (wg_back _ _ _) ?_
  wtm_at "rd"
  refine r_get i1 T.c_Weights T.nf_Weights_back (wg_back _ _ _) ?_
  wtm_at "rd"
  refine ⟨pb, pb', t, N, M, w.b.f, v.b.f, w.b.h, v.b.h, a, b, ec, ρ, rfl, h2, i2, ht, hρ, bd1.b, bd2.b, hj.imp (fun z => by rw [z]; exact ⟨rfl, rfl⟩), hz, fun s1 H1 n1 k1 t1 => ?_⟩
  wtm_at "rd"
  refine r_get (t1 _ _ h1) T.c_Weights T.nf_Weights_ahead (wg_ahead _ _ _) ?_
  wtm_at "rd"
  refine r_get (t1 _ _ i1) T.c_Weights T.nf_Weights_ahead (wg_ahead _ _ _) ?_
  wtm_at "rd"
  refine ⟨pa, pa', t, N, M, w.a.f, v.a.f, w.a.h, v.a.h, a, b, ec, ρ, rfl, h3.same t1, i3.same t1, t1 _ _ ht, hρ, bd1.a, bd2.a, hj.imp (fun z => by rw [z]; exact ⟨rfl, rfl⟩), hz, fun s2 H2 n2 k2 t2 => ?_⟩
  have t12 := t1.trans t2
  wtm_at "rd"
  refine make_wg fun x dx2 H3 nx t3 hx => ?_
  wtm_at "rd"
  exact q x H3 (none_s t12 nx) ⟨dx2, s1, s2, hx, (k1.same t2).same t3, (k2.mono fun _ z => none_s t1 z).same t3⟩ (t12.trans t3)
theorem ok_turned (T : Txt K mg) : FnOk P w K mg base CX0 3 T.f_turned T.d_turned ["weights"] (spTurned T.C_Weights T.C_Side) := by
  refine T.F_turned.ok sc_turned (fun vs H Q E h => ?_) (fun cdv A outer s H vs Q E hr h => ?_)
  · obtain ⟨p, N, w, e, rfl, _⟩ := h
    rfl
  obtain ⟨p, N, w, e, rfl, o, q⟩ := h
  refine ⟨_, (pss_one (ps_ret (pe_make T.m_Weights (ok_Weights___init__ T) (hr.mono (by decide)) (by rfl) T.g_Weights T.b_Weights___init__ .nil pass0 (pa_cons (pe_fldK (K := K) (pv 0)) (pa_cons (pe_fldK (K := K) (pv 0)) (pa_cons (pe_fldK (K := K) (pv 0)) pa_nil)))))), ?_⟩
  try simp only [nox_K, cx_K]
  obtain ⟨dx, pb, pa, h1, h2, h3⟩ := o
  wtm_at "rd"
  refine r_get h1 T.c_Weights T.nf_Weights_self_weight (wg_self _ _ _) ?_
  wtm_at "rd"
  refine r_get h1 T.c_Weights T.nf_Weights_ahead (wg_ahead _ _ _) ?_
  wtm_at "rd"
  refine r_get h1 T.c_Weights T.nf_Weights_back (wg_back _ _ _) ?_
  wtm_at "rd"
  refine make_wg fun x dx2 H3 nx t3 hx => ?_
  wtm_at "rd"
  exact q x H3 nx ⟨dx2, pa, pb, hx, h3.same t3, h2.same t3⟩ t3

end

def rgF (pw : Addr) : List (Str × V) := putF "weights" (.ref pw) []
theorem rg_weights (pw : Addr) : (rgF pw).lookup ("weights" : Str) = some (.ref pw) := by
  unfold rgF
  rw [lookup_putF, if_pos rfl]
theorem rg_no {m : Str} (pw : Addr) (h1 : ¬ m = "weights") : (rgF pw).lookup m = none := by
  unfold rgF
  rw [lookup_putF, if_neg h1]
  rfl
/-- a Region stands at p -/
def RgAt (C CW CS : Addr) (N : Addr → Prop) (H : Hp) (p : Addr) (w : Wgt) (e : Ex) : Prop := ∃ dx pw, H p = some (.ins C dx (rgF pw)) ∧ WgAt CW CS N H pw w e
theorem RgAt.same {C CW CS : Addr} {N : Addr → Prop} {H H' : Hp} {p : Addr} {w : Wgt} {e : Ex} (k : RgAt C CW CS N H p w e) (s : Same H H') : RgAt C CW CS N H' p w e := by
  obtain ⟨dx, pw, h1, h2⟩ := k
  exact ⟨dx, pw, s _ _ h1, h2.same s⟩
theorem RgAt.mono {C CW CS : Addr} {N M : Addr → Prop} {H : Hp} {p : Addr} {w : Wgt} {e : Ex} (k : RgAt C CW CS N H p w e) (m : ∀ a, N a → M a) : RgAt C CW CS M H p w e := by
  obtain ⟨dx, pw, h1, h2⟩ := k
  exact ⟨dx, pw, h1, h2.mono m⟩
def spRgInit (C : Addr) : Sp := fun vs H Q _ => ∃ (p dx pw : Addr), vs = [.ref p, .ref pw] ∧ H p = some (.ins C dx []) ∧
  ∀ H', H' p = some (.ins C dx (rgF pw)) → (∀ b o, H b = some o → b ≠ p → H' b = some o) → Q .non H'
theorem make_rg {C : Addr} {H : Hp} {F : Addr → Hp → Prop} {E : XK} {pw : Addr} (h : ∀ x dx H', H x = none → Same H H' → H' x = some (.ins C dx (rgF pw)) → F x H') :
    ∀ x dx, H x = none → H dx = none → dx ≠ x → spRgInit C (.ref x :: ([.ref pw] ++ [])) (upd (upd H dx (.own x)) x (.ins C dx [])) (fun v H2 => v = .non ∧ F x H2) E :=
  fun x dx nx nd _ => ⟨x, dx, pw, rfl, upd_same, fun H' e hk => ⟨rfl, h x dx H' nx (same_make nx nd hk) e⟩⟩
def Ex0 : Ex := ⟨0, 0, 0, 0⟩
def flatS (p o : Int) : Sdv := ⟨fun _ => p, fun _ => o⟩
def flatW (s p o : Int) : Wgt := ⟨s, flatS p o, flatS p o⟩
theorem one_ln (v : Int) : LnIs [(1, v)] (fun _ => v) 0 := by
  refine ⟨one_ok, fun x hx => ?_, Nat.le_refl _, ⟨fun s => ?_⟩⟩
  · show (if (1 : Int) ≤ x then v else 0) = v
    rw [if_pos hx]
  · show s ∈ [1] ↔ _
    rw [List.mem_singleton]
    exact ⟨.inl, fun h => h.elim id fun z => absurd rfl z.2⟩
def spFlatSd (CS : Addr) : Sp := fun vs H Q _ => ∃ (p o : Int), vs = [.int p, .int o] ∧ ∀ s H', H s = none → SdAt CS (fun a => H a = none) H' s (fun _ => p) (fun _ => o) Ex0 → Same H H' → Q (.ref s) H'
def spFlatRg (C CW CS : Addr) : Sp := fun vs H Q _ => ∃ (s p o : Int), vs = [.int s, .int p, .int o] ∧ ∀ x H', H x = none → RgAt C CW CS (fun a => H a = none) H' x (flatW s p o) Ex0 → Same H H' → Q (.ref x) H'
def spRg0 (C CW CS : Addr) (s p o : Int) : Sp := fun vs H Q _ => vs = [] ∧ ∀ x H', H x = none → RgAt C CW CS (fun a => H a = none) H' x (flatW s p o) Ex0 → Same H H' → Q (.ref x) H'
section
variable {P : Program} {w : World} {K : PySem.W.Frag} {mg : Str → Option Value} {base : Heap}

theorem ok_Region___init__ (T : Txt K mg) : FnOk P w K mg base CX0 1 T.f_Region___init__ T.d_Region___init__ ["self", "weights"] (spRgInit T.C_Region) := by
  refine T.F_Region___init__.ok sc_Region___init__ (fun vs H Q E h => ?_) (fun cdv A outer s H vs Q E hr h => ?_)
  · obtain ⟨p, dx, pw, rfl, _⟩ := h
    rfl
  obtain ⟨p, dx, pw, rfl, hp, q⟩ := h
  refine ⟨_, (pss_one (ps_fld (pv 0) (pv 1) rfl)), ?_⟩
  try simp only [nox_K, cx_K]
  wtm_at "rd"
  refine r_put hp T.c_Region T.nf_Region_weights (by decide) ?_
  wtm_at "rd"
  refine q _ upd_same fun b o e nb => ?_
  rw [upd_ne nb]
  exact e
theorem ok_flat_side (T : Txt K mg) : FnOk P w K mg base CX0 4 T.f_flat_side T.d_flat_side ["peers", "others"] (spFlatSd T.C_Side) := by
  refine T.F_flat_side.ok sc_flat_side (fun vs H Q E h => ?_) (fun cdv A outer s H vs Q E hr h => ?_)
  · obtain ⟨p, o, rfl, _⟩ := h
    rfl
  obtain ⟨p, o, rfl, q⟩ := h
  refine ⟨_, (pss_one (ps_ret (pe_make T.m_Side (ok_Side___init__ T) (hr.mono (by decide)) (by rfl) T.g_Side T.b_Side___init__ .nil pass0 (pa_cons (pe_lst (pa_cons (pe_tup (pa_cons pe_int (pa_cons (pv 0) pa_nil))) pa_nil)) (pa_cons (pe_call (ok_flat_grid T) (hr.mono (by decide)) (by rfl) T.g_flat_grid T.F_flat_grid.kp T.b_flat_grid .nil pass0 (pa_cons (pv 1) pa_nil)) pa_nil))))), ?_⟩
  try simp only [nox_K, cx_K]
  wtm_at "rd"
  refine r_new rfl fun u n_u => ?_
  generalize eq_u : upd _ u _ = H1
  have s_u : Same _ H1 := eq_u ▸ same_new n_u
  have h_u : H1 u = some _ := eq_u ▸ upd_same
  clear eq_u
  wtm_at "rd"
  refine r_new rfl fun c n_c => ?_
  have n_c0 := none_s s_u n_c
  generalize eq_c : upd _ c _ = H2
  have s_c : Same _ H2 := eq_c ▸ same_new n_c
  have h_c : H2 c = some _ := eq_c ▸ upd_same
  clear eq_c
  have h_u := s_c _ _ h_u
  have s_u := s_u.trans s_c
  wtm_at "rd"
  refine ⟨o, rfl, fun g H3 k s3 => ?_⟩
  have h_u := s3 _ _ h_u
  have h_c := s3 _ _ h_c
  have t3 := s_u.trans s3
  wtm_at "rd"
  refine make_side fun x dx H4 nx s4 hx => ?_
  wtm_at "rd"
  refine q x H4 (none_s t3 nx) ⟨dx, c, g, [(1, p)], A1, _, hx, n_c0, ⟨[u], s4 _ _ h_c, ?_⟩, (k.mono fun _ z => none_s s_u z).same s4, one_ln p, flat_is o⟩ (t3.trans s4)
  exact All2.snoc All2.nil (s4 _ _ h_u)
theorem ok_flat_region (T : Txt K mg) : FnOk P w K mg base CX0 6 T.f_flat_region T.d_flat_region ["itself", "peers", "others"] (spFlatRg T.C_Region T.C_Weights T.C_Side) := by
  refine T.F_flat_region.ok sc_flat_region (fun vs H Q E h => ?_) (fun cdv A outer s H vs Q E hr h => ?_)
  · obtain ⟨s, p, o, rfl, _⟩ := h
    rfl
  obtain ⟨s, p, o, rfl, q⟩ := h
  refine ⟨_, (pss_one (ps_ret (pe_make T.m_Region (ok_Region___init__ T) (hr.mono (by decide)) (by rfl) T.g_Region T.b_Region___init__ .nil pass0 (pa_cons (pe_make T.m_Weights (ok_Weights___init__ T) (hr.mono (by decide)) (by rfl) T.g_Weights T.b_Weights___init__ .nil pass0 (pa_cons (pv 0) (pa_cons (pe_call (ok_flat_side T) (hr.mono (by decide)) (by rfl) T.g_flat_side T.F_flat_side.kp T.b_flat_side .nil pass0 (pa_cons (pv 1) (pa_cons (pv 2) pa_nil))) (pa_cons (pe_call (ok_flat_side T) (hr.mono (by decide)) (by rfl) T.g_flat_side T.F_flat_side.kp T.b_flat_side .nil pass0 (pa_cons (pv 1) (pa_cons (pv 2) pa_nil))) pa_nil)))) pa_nil)))), ?_⟩
  try simp only [nox_K, cx_K]
  wtm_at "rd"
  refine ⟨p, o, rfl, fun s1 H1 n1 k1 t1 => ?_⟩
  wtm_at "rd"
  refine ⟨p, o, rfl, fun s2 H2 n2 k2 t2 => ?_⟩
  have t12 := t1.trans t2
  wtm_at "rd"
  refine make_wg fun pw dx H3 nx t3 hx => ?_
  have t13 := t12.trans t3
  wtm_at "rd"
  refine make_rg fun x dx2 H4 nx2 t4 hx2 => ?_
  wtm_at "rd"
  exact q x H4 (none_s t13 nx2) ⟨dx2, pw, hx2, dx, s1, s2, t4 _ _ hx, ((k1.same t2).same t3).same t4, ((k2.mono fun _ z => none_s t1 z).same t3).same t4⟩ (t13.trans t4)
theorem ok_own_row (T : Txt K mg) : FnOk P w K mg base CX0 8 T.f_own_row T.d_own_row [] (spRg0 T.C_Region T.C_Weights T.C_Side 1 0 0) := by
  refine T.F_own_row.ok sc_own_row (fun vs H Q E h => ?_) (fun cdv A outer s H vs Q E hr h => ?_)
  · obtain ⟨rfl, _⟩ := h
    rfl
  obtain ⟨rfl, q⟩ := h
  refine ⟨_, (pss_one (ps_ret (pe_call (ok_flat_region T) (hr.mono (by decide)) (by rfl) T.g_flat_region T.F_flat_region.kp T.b_flat_region .nil pass0 (pa_cons pe_int (pa_cons pe_int (pa_cons pe_int pa_nil)))))), ?_⟩
  try simp only [nox_K, cx_K]
  wtm_at "rd"
  refine ⟨1, 0, 0, rfl, fun x H' n k s => ?_⟩
  wtm_at "rd"
  exact q x H' n k s
theorem ok_own_group (T : Txt K mg) : FnOk P w K mg base CX0 8 T.f_own_group T.d_own_group [] (spRg0 T.C_Region T.C_Weights T.C_Side 1 1 0) := by
  refine T.F_own_group.ok sc_own_group (fun vs H Q E h => ?_) (fun cdv A outer s H vs Q E hr h => ?_)
  · obtain ⟨rfl, _⟩ := h
    rfl
  obtain ⟨rfl, q⟩ := h
  refine ⟨_, (pss_one (ps_ret (pe_call (ok_flat_region T) (hr.mono (by decide)) (by rfl) T.g_flat_region T.F_flat_region.kp T.b_flat_region .nil pass0 (pa_cons pe_int (pa_cons pe_int (pa_cons pe_int pa_nil)))))), ?_⟩
  try simp only [nox_K, cx_K]
  wtm_at "rd"
  refine ⟨1, 1, 0, rfl, fun x H' n k s => ?_⟩
  wtm_at "rd"
  exact q x H' n k s
theorem ok_ties (T : Txt K mg) : FnOk P w K mg base CX0 8 T.f_ties T.d_ties [] (spRg0 T.C_Region T.C_Weights T.C_Side 0 1 0) := by
  refine T.F_ties.ok sc_ties (fun vs H Q E h => ?_) (fun cdv A outer s H vs Q E hr h => ?_)
  · obtain ⟨rfl, _⟩ := h
    rfl
  obtain ⟨rfl, q⟩ := h
  refine ⟨_, (pss_one (ps_ret (pe_call (ok_flat_region T) (hr.mono (by decide)) (by rfl) T.g_flat_region T.F_flat_region.kp T.b_flat_region .nil pass0 (pa_cons pe_int (pa_cons pe_int (pa_cons pe_int pa_nil)))))), ?_⟩
  try simp only [nox_K, cx_K]
  wtm_at "rd"
  refine ⟨0, 1, 0, rfl, fun x H' n k s => ?_⟩
  wtm_at "rd"
  exact q x H' n k s
theorem ok_every (T : Txt K mg) : FnOk P w K mg base CX0 8 T.f_every T.d_every [] (spRg0 T.C_Region T.C_Weights T.C_Side 1 1 1) := by
  refine T.F_every.ok sc_every (fun vs H Q E h => ?_) (fun cdv A outer s H vs Q E hr h => ?_)
  · obtain ⟨rfl, _⟩ := h
    rfl
  obtain ⟨rfl, q⟩ := h
  refine ⟨_, (pss_one (ps_ret (pe_call (ok_flat_region T) (hr.mono (by decide)) (by rfl) T.g_flat_region T.F_flat_region.kp T.b_flat_region .nil pass0 (pa_cons pe_int (pa_cons pe_int (pa_cons pe_int pa_nil)))))), ?_⟩
  try simp only [nox_K, cx_K]
  wtm_at "rd"
  refine ⟨1, 1, 1, rfl, fun x H' n k s => ?_⟩
  wtm_at "rd"
  exact q x H' n k s
theorem ok_nothing (T : Txt K mg) : FnOk P w K mg base CX0 8 T.f_nothing T.d_nothing [] (spRg0 T.C_Region T.C_Weights T.C_Side 0 0 0) := by
  refine T.F_nothing.ok sc_nothing (fun vs H Q E h => ?_) (fun cdv A outer s H vs Q E hr h => ?_)
  · obtain ⟨rfl, _⟩ := h
    rfl
  obtain ⟨rfl, q⟩ := h
  refine ⟨_, (pss_one (ps_ret (pe_call (ok_flat_region T) (hr.mono (by decide)) (by rfl) T.g_flat_region T.F_flat_region.kp T.b_flat_region .nil pass0 (pa_cons pe_int (pa_cons pe_int (pa_cons pe_int pa_nil)))))), ?_⟩
  try simp only [nox_K, cx_K]
  wtm_at "rd"
  refine ⟨0, 0, 0, rfl, fun x H' n k s => ?_⟩
  wtm_at "rd"
  exact q x H' n k s

end

def ngE (e : En) : En := e.map fun x => 0 - x
theorem ng_ok {lo hi : En} (h : EndsOk lo hi) : EndsOk (ngE hi) (ngE lo) := by
  intro a b ha hb
  obtain ⟨x, hx, rfl⟩ := Option.map_eq_some_iff.mp ha
  obtain ⟨y, hy, rfl⟩ := Option.map_eq_some_iff.mp hb
  have := h y x hy hx
  omega
def spMirr : Sp := fun vs H Q _ => ∃ e : En, vs = [endV e] ∧ Q (endV (ngE e)) H
def ErT (CT : Addr) (lo hi : En) (H : Hp) (E : XK) : Prop := ¬ EndsOk lo hi → ∀ (dd : Addr) (H' : Hp), H dd = none → H' dd = some (.xd (turnF lo hi)) → Same H H' → E (.ref CT) (some dd) H'
def spEndsC (CT : Addr) : Sp := fun vs H Q E => ∃ lo hi : En, vs = [endV lo, endV hi] ∧ ErT CT lo hi H E ∧ (EndsOk lo hi → Q .non H)
def bS (m : Nat) (lo hi : En) : Sdv := ⟨fun x => Gr.b2i (ins lo hi x), fun n => Gr.b2i (ins lo hi (nm m n))⟩
def rowsW (lo hi : En) : Wgt := ⟨Gr.b2i (ins lo hi 0), bS 0 (ngE hi) (ngE lo), bS 0 lo hi⟩
def aS (m : Nat) (v : Int) (lo hi : En) : Sdv := ⟨fun _ => v, fun n => Gr.b2i (ins lo hi (nm m n))⟩
def axisW (m : Nat) (lo hi : En) : Wgt := ⟨Gr.b2i (ins lo hi 0), aS m (Gr.b2i (ins lo hi 0)) (ngE hi) (ngE lo), aS m (Gr.b2i (ins lo hi 0)) lo hi⟩
def exL (m : Nat) : Ex := ⟨2, e3 m 0, e3 m 1, e3 m 2⟩
def exA (m : Nat) : Ex := ⟨0, e3 m 0, e3 m 1, e3 m 2⟩
theorem betw_ln {lo hi : En} (h : EndsOk lo hi) : LnIs (lnBetween lo hi) (fun x => Gr.b2i (ins lo hi x)) 2 := by
  have hok : LnOk (lnBetween lo hi) := Gr.clean_lnok (Gr.between_ok h)
  have hat : ∀ x, 1 ≤ x → lnAt (lnBetween lo hi) x = Gr.b2i (ins lo hi x) := fun x hx => Gr.between_at h hx
  refine ⟨hok, hat, ?_, ln_canon hok hat⟩
  have z := clean_len ((startsOf lo hi).map fun u => (u, Gr.b2i (ins lo hi u)))
  have y := (starts_len lo hi).1
  rw [List.length_map] at z
  exact Nat.le_trans z y
def spRowsB (CT C CW CS : Addr) : Sp := fun vs H Q E => ∃ lo hi : En, vs = [endV lo, endV hi] ∧ ErT CT lo hi H E ∧ (EndsOk lo hi → ∀ x H', H x = none → RgAt C CW CS (fun a => H a = none) H' x (rowsW lo hi) (exL 0) → Same H H' → Q (.ref x) H')
def spAxisB (CT C CW CS : Addr) : Sp := fun vs H Q E => ∃ (m : Nat) (lo hi : En), vs = [.int (m : Int), endV lo, endV hi] ∧ m < 3 ∧ ErT CT lo hi H E ∧ (EndsOk lo hi → ∀ x H', H x = none → RgAt C CW CS (fun a => H a = none) H' x (axisW m lo hi) (exA m) → Same H H' → Q (.ref x) H')
def spAxB (CT C CW CS : Addr) (m : Nat) : Sp := fun vs H Q E => ∃ lo hi : En, vs = [endV lo, endV hi] ∧ ErT CT lo hi H E ∧ (EndsOk lo hi → ∀ x H', H x = none → RgAt C CW CS (fun a => H a = none) H' x (axisW m lo hi) (exA m) → Same H H' → Q (.ref x) H')
section
variable {P : Program} {w : World} {K : PySem.W.Frag} {mg : Str → Option Value} {base : Heap}
theorem ok_TurnedStretch___init__ (T : Txt K mg) : FnOk P w K mg base CX0 1 T.f_TurnedStretch___init__ T.d_TurnedStretch___init__ ["self", "low", "high"] (spTInit T.C_TurnedStretch) := by
  refine T.F_TurnedStretch___init__.ok sc_TurnedStretch___init__ (fun vs H Q E h => ?_) (fun cdv A outer s H vs Q E hr h => ?_)
  · obtain ⟨a, lo, hi, rfl, _⟩ := h
    rfl
  obtain ⟨a, lo, hi, rfl, ha, q⟩ := h
  refine ⟨_, (pss_cons (ps_ost (pv 0) (pv 1))
      (pss_one (ps_ost (pv 0) (pv 2)))), ?_⟩
  try simp only [nox_K, cx_K]
  wtm_at "rd"
  refine ⟨a, _, rfl, T.ox_TurnedStretch, T.nf_TurnedStretch_low, .inl ⟨ha, fun dx nd ne => ?_⟩⟩
  wtm_at "rd"
  refine ⟨a, _, rfl, T.ox_TurnedStretch, T.nf_TurnedStretch_high, .inr ⟨dx, [("low", endV lo)], upd_same, ?_, Nat.le_of_ble_eq_true rfl, ?_⟩⟩
  · rw [upd_ne ne, upd_same]
  wtm_at "rd"
  refine q dx _ nd ?_ upd_same fun b o e nb => ?_
  · rw [upd_ne ne.symm, upd_same]
  · rw [upd_ne (ne_of_none e nd), upd_ne nb, upd_ne (ne_of_none e nd)]
    exact e
theorem raise_turned {C : Addr} {lo hi : Option Int} {H : Hp} {Q : XK} (h : ∀ (d : Addr) (H' : Hp), H d = none → H' d = some (.xd (turnF lo hi)) → Same H H' → Q (.ref C) (some d) H') :
    ∀ a, H a = none → spTInit C (.ref a :: ([endV lo, endV hi] ++ [])) (upd H a (exo a C none)) (fun v H2 => v = .non ∧ ∃ (d : Addr) (fs : List (Str × V)), H2 a = some (exo a C (some d)) ∧ H2 d = some (exd d fs) ∧ H d = none ∧ Q (.ref C) (some d) (upd (del H2 a) d (.xd fs))) (fun _ _ _ => False) := by
  intro a na
  refine ⟨a, lo, hi, rfl, upd_same, fun dx H' nd ha hd hk => ⟨rfl, dx, turnF lo hi, ha, hd, (same_new na).free nd, ?_⟩⟩
  have nda : dx ≠ a := (ne_of_none (upd_same (H := H) (a := a) (o := exo a C none)) nd).symm
  refine h dx _ ((same_new na).free nd) upd_same fun b o e => ?_
  have nb : b ≠ a := ne_of_none e na
  rw [upd_ne (ne_of_none e ((same_new na).free nd)), del_ne nb]
  exact hk b o (by rw [upd_ne nb]; exact e) nb
theorem ok_mirrored_end (T : Txt K mg) : FnOk P w K mg base CX0 1 T.f_mirrored_end T.d_mirrored_end ["end"] spMirr := by
  refine T.F_mirrored_end.ok sc_mirrored_end (fun vs H Q E h => ?_) (fun cdv A outer s H vs Q E hr h => ?_)
  · obtain ⟨e, rfl, _⟩ := h
    rfl
  obtain ⟨e, rfl, q⟩ := h
  refine ⟨_, (pss_cons (ps_if (pt_cmpR o_isN (pv 0) pe_non (nomark _)) (pss_one (ps_ret pe_non)) pss_nil)
      (pss_one (ps_ret (pe_op op_sub pe_int (pv 0))))), ?_⟩
  try simp only [nox_K, cx_K]
  cases e with
  | none =>
    dsimp only [endV]
    wtm_at "rdi"
    exact q
  | some x =>
    dsimp only [endV]
    wtm_at "rdi"
    exact q
theorem ok_ends_checked (T : Txt K mg) : FnOk P w K mg base (L2.CX P w) 4 T.f_ends_checked T.d_ends_checked ["low", "high"] (spEndsC T.C_TurnedStretch) := by
  refine T.F_ends_checked.okX sc_ends_checked (fun vs H Q E h => ?_) (fun cdv A outer s H vs Q E hr h => ?_)
  · obtain ⟨lo, hi, rfl, _⟩ := h
    rfl
  obtain ⟨lo, hi, rfl, qE, q⟩ := h
  refine ⟨_, (pss_one (ps_if (PW.pt (pw_and (pt_cmpR o_notN (pv 0) pe_non (nomark _)) (pw_and (pt_cmpR o_notN (pv 1) pe_non (nomark _)) (pw_and1 (pt_cmpR op_gt (pv 0) (pv 1) (nomark _)))))) (pss_one (ps_raise rfl (takes_of rfl rfl rfl rfl) (pmk_oex T.ox_TurnedStretch T.iC_TurnedStretch T.tI_TurnedStretch (ok_TurnedStretch___init__ T) (hr.mono (by decide)) T.b_TurnedStretch___init__ .nil pass0 (by rfl) T.g_TurnedStretch (pa_cons (pv 0) (pa_cons (pv 1) pa_nil))))) pss_nil)), ?_⟩
  try simp only [nox_K, cx_K]
  cases lo with
  | none =>
    cases hi <;> dsimp only [endV]
    all_goals wtm_at "rdi"
    all_goals exact q fun a b h _ => nomatch h
  | some a =>
    cases hi with
    | none =>
      dsimp only [endV]
      wtm_at "rdi"
      exact q fun a b _ h => nomatch h
    | some b =>
      dsimp only [endV]
      wtm_at "rdi"
      · refine ⟨.int a, rfl, .int b, rfl, Nat.le_of_ble_eq_true rfl, raise_turned (lo := some a) (hi := some b) fun d H' nd hd s => ?_⟩
        exact qE (fun z => by have := z a b rfl rfl; omega) d H' nd hd s
      · exact q fun x y hx hy => by cases hx; cases hy; omega
theorem ok_rows_between (T : Txt K mg) : FnOk P w K mg base (L2.CX P w) 9 T.f_rows_between T.d_rows_between ["low", "high"] (spRowsB T.C_TurnedStretch T.C_Region T.C_Weights T.C_Side) := by
  refine T.F_rows_between.okX sc_rows_between (fun vs H Q E h => ?_) (fun cdv A outer s H vs Q E hr h => ?_)
  · obtain ⟨lo, hi, rfl, _⟩ := h
    rfl
  obtain ⟨lo, hi, rfl, qE, q⟩ := h
  refine ⟨_, (pss_cons (ps_expr (pe_call (ok_ends_checked T) (hr.mono (by decide)) (by rfl) T.g_ends_checked T.F_ends_checked.kp T.b_ends_checked .nil (passes_call (takes_of rfl rfl rfl rfl) fun _ _ _ _ h => h) (pa_cons (pv 0) (pa_cons (pv 1) pa_nil))))
      (pss_cons (ps_set (i := 2) sc_rows_between.nd rfl (by first | exact Or.inl rfl | exact Or.inr rfl) (pe_tup (pa_cons (pe_call (ok_mirrored_end T) (hr.mono (by decide)) (by rfl) T.g_mirrored_end T.F_mirrored_end.kp T.b_mirrored_end .nil pass0 (pa_cons (pv 1) pa_nil)) (pa_cons (pe_call (ok_mirrored_end T) (hr.mono (by decide)) (by rfl) T.g_mirrored_end T.F_mirrored_end.kp T.b_mirrored_end .nil pass0 (pa_cons (pv 0) pa_nil)) pa_nil))))
      (pss_one (ps_ret (pe_make T.m_Region (ok_Region___init__ T) (hr.mono (by decide)) (by rfl) T.g_Region T.b_Region___init__ .nil pass0 (pa_cons (pe_make T.m_Weights (ok_Weights___init__ T) (hr.mono (by decide)) (by rfl) T.g_Weights T.b_Weights___init__ .nil pass0 (pa_cons (pe_callTy c_intB (by rfl) T.z_int (by decide +kernel) (pa_cons (pe_call (ok_inside T) (hr.mono (by decide)) (by rfl) T.g_inside T.F_inside.kp T.b_inside .nil pass0 (pa_cons (pv 0) (pa_cons (pv 1) (pa_cons pe_int pa_nil)))) pa_nil)) (pa_cons (pe_make T.m_Side (ok_Side___init__ T) (hr.mono (by decide)) (by rfl) T.g_Side T.b_Side___init__ .nil pass0 (pa_cons (pe_call (ok_line_between T) (hr.mono (by decide)) (by rfl) T.g_line_between T.F_line_between.kp T.b_line_between .nil pass0 (pa_cons (pe_ix (r := rIxT K) ix_tup (pv 2) pe_int (fun _ _ => rfl)) (pa_cons (pe_ix (r := rIxT K) ix_tup (pv 2) pe_int (fun _ _ => rfl)) pa_nil))) (pa_cons (pe_call (ok_grid_between T) (hr.mono (by decide)) (by rfl) T.g_grid_between T.F_grid_between.kp T.b_grid_between .nil pass0 (pa_cons pe_int (pa_cons (pe_ix (r := rIxT K) ix_tup (pv 2) pe_int (fun _ _ => rfl)) (pa_cons (pe_ix (r := rIxT K) ix_tup (pv 2) pe_int (fun _ _ => rfl)) pa_nil)))) pa_nil))) (pa_cons (pe_make T.m_Side (ok_Side___init__ T) (hr.mono (by decide)) (by rfl) T.g_Side T.b_Side___init__ .nil pass0 (pa_cons (pe_call (ok_line_between T) (hr.mono (by decide)) (by rfl) T.g_line_between T.F_line_between.kp T.b_line_between .nil pass0 (pa_cons (pv 0) (pa_cons (pv 1) pa_nil))) (pa_cons (pe_call (ok_grid_between T) (hr.mono (by decide)) (by rfl) T.g_grid_between T.F_grid_between.kp T.b_grid_between .nil pass0 (pa_cons pe_int (pa_cons (pv 0) (pa_cons (pv 1) pa_nil)))) pa_nil))) pa_nil)))) pa_nil)))))), ?_⟩
  try simp only [nox_K, cx_K]
  wtm_at "rd"
  refine ⟨lo, hi, rfl, qE, fun he => ?_⟩
  have q := q he
  wtm_at "rd"
  refine ⟨hi, rfl, ?_⟩
  wtm_at "rd"
  refine ⟨lo, rfl, ?_⟩
  wtm_at "rd"
  refine r_new rfl fun t n_t => ?_
  generalize eq_t : upd _ t _ = H1
  have s_t : Same _ H1 := eq_t ▸ same_new n_t
  have h_t : H1 t = some _ := eq_t ▸ upd_same
  clear eq_t
  wtm_at "rd"
  refine ⟨lo, hi, 0, rfl, ?_⟩
  wtm_at "rd"
  refine ⟨ngE hi, ngE lo, rfl, fun l1 H2 n1 k1 t1 => ?_⟩
  have h_t := t1 _ _ h_t
  have t1 := s_t.trans t1
  wtm_at "rd"
  refine ⟨0, ngE hi, ngE lo, rfl, by decide, ng_ok he, fun g1 H3 A1' W1 k2 i1 t2 => ?_⟩
  have t12 := t1.trans t2
  wtm_at "rd"
  refine make_side fun sb dxb H4 nb tb hb => ?_
  have k1 := (k1.same t2).same tb
  have k2 := k2.same tb
  have t14 := t12.trans tb
  wtm_at "rd"
  refine ⟨lo, hi, rfl, fun l2 H5 n2 k3 t3 => ?_⟩
  have t15 := t14.trans t3
  wtm_at "rd"
  refine ⟨0, lo, hi, rfl, by decide, he, fun g2 H6 A2' W2 k4 i2 t4 => ?_⟩
  have t16 := t15.trans t4
  wtm_at "rd"
  refine make_side fun sa dxa H7 na ta ha => ?_
  have t17 := t16.trans ta
  wtm_at "rd"
  refine make_wg fun pw dxw H8 nw tw hw => ?_
  have t18 := t17.trans tw
  wtm_at "rd"
  refine make_rg fun x dxr H9 nx tx hx => ?_
  wtm_at "rd"
  have tall := ta.trans (tw.trans tx)
  have t49 := t3.trans (t4.trans tall)
  refine q x H9 (none_s t18 nx) ⟨dxr, pw, hx, dxw, sb, sa, tx _ _ hw, ⟨dxb, l1, g1, _, A1', W1, t49 _ _ hb, none_s s_t n1, k1.same t49, (k2.mono fun _ z => none_s t1 z).same t49, betw_ln (ng_ok he), i1⟩, ⟨dxa, l2, g2, _, A2', W2, (tw.trans tx) _ _ ha, none_s t14 n2, (k3.same t4).same tall, (k4.mono fun _ z => none_s t15 z).same tall, betw_ln he, i2⟩⟩ (t18.trans tx)

end
section
variable {P : Program} {w : World} {K : PySem.W.Frag} {mg : Str → Option Value} {base : Heap}

theorem ok_axis_between (T : Txt K mg) : FnOk P w K mg base (L2.CX P w) 9 T.f_axis_between T.d_axis_between ["axis", "low", "high"] (spAxisB T.C_TurnedStretch T.C_Region T.C_Weights T.C_Side) := by
  refine T.F_axis_between.okX sc_axis_between (fun vs H Q E h => ?_) (fun cdv A outer s H vs Q E hr h => ?_)
  · obtain ⟨m, lo, hi, rfl, _⟩ := h
    rfl
  obtain ⟨m, lo, hi, rfl, hm, qE, q⟩ := h
  refine ⟨_, (pss_cons (ps_expr (pe_call (ok_ends_checked T) (hr.mono (by decide)) (by rfl) T.g_ends_checked T.F_ends_checked.kp T.b_ends_checked .nil (passes_call (takes_of rfl rfl rfl rfl) fun _ _ _ _ h => h) (pa_cons (pv 1) (pa_cons (pv 2) pa_nil))))
      (pss_cons (ps_set (i := 3) sc_axis_between.nd rfl (by first | exact Or.inl rfl | exact Or.inr rfl) (pe_callTy c_intB (by rfl) T.z_int (by decide +kernel) (pa_cons (pe_call (ok_inside T) (hr.mono (by decide)) (by rfl) T.g_inside T.F_inside.kp T.b_inside .nil pass0 (pa_cons (pv 1) (pa_cons (pv 2) (pa_cons pe_int pa_nil)))) pa_nil)))
      (pss_cons (ps_set (i := 4) sc_axis_between.nd rfl (by first | exact Or.inl rfl | exact Or.inr rfl) (pe_call (ok_grid_between T) (hr.mono (by decide)) (by rfl) T.g_grid_between T.F_grid_between.kp T.b_grid_between .nil pass0 (pa_cons (pv 0) (pa_cons (pe_call (ok_mirrored_end T) (hr.mono (by decide)) (by rfl) T.g_mirrored_end T.F_mirrored_end.kp T.b_mirrored_end .nil pass0 (pa_cons (pv 2) pa_nil)) (pa_cons (pe_call (ok_mirrored_end T) (hr.mono (by decide)) (by rfl) T.g_mirrored_end T.F_mirrored_end.kp T.b_mirrored_end .nil pass0 (pa_cons (pv 1) pa_nil)) pa_nil)))))
      (pss_one (ps_ret (pe_make T.m_Region (ok_Region___init__ T) (hr.mono (by decide)) (by rfl) T.g_Region T.b_Region___init__ .nil pass0 (pa_cons (pe_make T.m_Weights (ok_Weights___init__ T) (hr.mono (by decide)) (by rfl) T.g_Weights T.b_Weights___init__ .nil pass0 (pa_cons (pv 3) (pa_cons (pe_make T.m_Side (ok_Side___init__ T) (hr.mono (by decide)) (by rfl) T.g_Side T.b_Side___init__ .nil pass0 (pa_cons (pe_lst (pa_cons (pe_tup (pa_cons pe_int (pa_cons (pv 3) pa_nil))) pa_nil)) (pa_cons (pv 4) pa_nil))) (pa_cons (pe_make T.m_Side (ok_Side___init__ T) (hr.mono (by decide)) (by rfl) T.g_Side T.b_Side___init__ .nil pass0 (pa_cons (pe_lst (pa_cons (pe_tup (pa_cons pe_int (pa_cons (pv 3) pa_nil))) pa_nil)) (pa_cons (pe_call (ok_grid_between T) (hr.mono (by decide)) (by rfl) T.g_grid_between T.F_grid_between.kp T.b_grid_between .nil pass0 (pa_cons (pv 0) (pa_cons (pv 1) (pa_cons (pv 2) pa_nil)))) pa_nil))) pa_nil)))) pa_nil))))))), ?_⟩
  try simp only [nox_K, cx_K]
  wtm_at "rd"
  refine ⟨lo, hi, rfl, qE, fun he => ?_⟩
  have q := q he
  wtm_at "rd"
  refine ⟨lo, hi, 0, rfl, ?_⟩
  wtm_at "rd"
  refine ⟨hi, rfl, ?_⟩
  wtm_at "rd"
  refine ⟨lo, rfl, ?_⟩
  wtm_at "rd"
  refine ⟨m, ngE hi, ngE lo, rfl, hm, ng_ok he, fun g1 H1 A1' W1 k1 i1 t1 => ?_⟩
  wtm_at "rd"
  refine r_new rfl fun u n_u => ?_
  have n_u0 := none_s t1 n_u
  generalize eq_u : upd _ u _ = H2
  have s_u : Same _ H2 := eq_u ▸ same_new n_u
  have h_u : H2 u = some _ := eq_u ▸ upd_same
  clear eq_u
  have t1 := t1.trans s_u
  wtm_at "rd"
  refine r_new rfl fun c n_c => ?_
  have n_c0 := none_s t1 n_c
  have k1 := k1.same s_u
  generalize eq_c : upd _ c _ = H3
  have s_c : Same _ H3 := eq_c ▸ same_new n_c
  have h_c : H3 c = some _ := eq_c ▸ upd_same
  clear eq_c
  have h_u := s_c _ _ h_u
  have t1 := t1.trans s_c
  have k1 := k1.same s_c
  wtm_at "rd"
  refine make_side fun sb dxb H4 nb tb hb => ?_
  have k1 := k1.same tb
  have h_u := tb _ _ h_u
  have h_c := tb _ _ h_c
  have t14 := t1.trans tb
  wtm_at "rd"
  refine r_new rfl fun u2 n_u2 => ?_
  have n_u20 := none_s t14 n_u2
  generalize eq_u2 : upd _ u2 _ = H5
  have s_u2 : Same _ H5 := eq_u2 ▸ same_new n_u2
  have h_u2 : H5 u2 = some _ := eq_u2 ▸ upd_same
  clear eq_u2
  have h_u := s_u2 _ _ h_u
  have h_c := s_u2 _ _ h_c
  have hb := s_u2 _ _ hb
  have t14 := t14.trans s_u2
  have k1 := k1.same s_u2
  wtm_at "rd"
  refine r_new rfl fun c2 n_c2 => ?_
  have n_c20 := none_s t14 n_c2
  generalize eq_c2 : upd _ c2 _ = H6
  have s_c2 : Same _ H6 := eq_c2 ▸ same_new n_c2
  have h_c2 : H6 c2 = some _ := eq_c2 ▸ upd_same
  clear eq_c2
  have h_u := s_c2 _ _ h_u
  have h_c := s_c2 _ _ h_c
  have hb := s_c2 _ _ hb
  have h_u2 := s_c2 _ _ h_u2
  have t14 := t14.trans s_c2
  have k1 := k1.same s_c2
  wtm_at "rd"
  refine ⟨m, lo, hi, rfl, hm, he, fun g2 H7 A2' W2 k2 i2 t7 => ?_⟩
  have t17 := t14.trans t7
  wtm_at "rd"
  refine make_side fun sa dxa H8 na ta ha => ?_
  have t18 := t17.trans ta
  wtm_at "rd"
  refine make_wg fun pw dxw H9 nw tw hw => ?_
  have t19 := t18.trans tw
  wtm_at "rd"
  refine make_rg fun x dxr H10 nx tx hx => ?_
  wtm_at "rd"
  have t8 := ta.trans (tw.trans tx)
  have t6 := t7.trans t8
  refine q x H10 (none_s t19 nx) ⟨dxr, pw, hx, dxw, sb, sa, tx _ _ hw, ⟨dxb, c, g1, [(1, _)], A1', W1, t6 _ _ hb, n_c0, ⟨[u], t6 _ _ h_c, All2.snoc All2.nil (t6 _ _ h_u)⟩, k1.same t6, one_ln _, i1⟩, ⟨dxa, c2, g2, [(1, _)], A2', W2, (tw.trans tx) _ _ ha, n_c20, ⟨[u2], t6 _ _ h_c2, All2.snoc All2.nil (t6 _ _ h_u2)⟩, (k2.mono fun _ z => none_s t14 z).same t8, one_ln _, i2⟩⟩ (t19.trans tx)
theorem ok_groups_between (T : Txt K mg) : FnOk P w K mg base (L2.CX P w) 11 T.f_groups_between T.d_groups_between ["low", "high"] (spAxB T.C_TurnedStretch T.C_Region T.C_Weights T.C_Side 1) := by
  refine T.F_groups_between.okX sc_groups_between (fun vs H Q E h => ?_) (fun cdv A outer s H vs Q E hr h => ?_)
  · obtain ⟨lo, hi, rfl, _⟩ := h
    rfl
  obtain ⟨lo, hi, rfl, qE, q⟩ := h
  refine ⟨_, (pss_one (ps_ret (pe_call (ok_axis_between T) (hr.mono (by decide)) (by rfl) T.g_axis_between T.F_axis_between.kp T.b_axis_between .nil (passes_call (takes_of rfl rfl rfl rfl) fun _ _ _ _ h => h) (pa_cons pe_int (pa_cons (pv 0) (pa_cons (pv 1) pa_nil)))))), ?_⟩
  try simp only [nox_K, cx_K]
  wtm_at "rd"
  refine ⟨1, lo, hi, rfl, by decide, qE, fun he x H' n k s => ?_⟩
  wtm_at "rd"
  exact q he x H' n k s
theorem ok_keys_between (T : Txt K mg) : FnOk P w K mg base (L2.CX P w) 11 T.f_keys_between T.d_keys_between ["low", "high"] (spAxB T.C_TurnedStretch T.C_Region T.C_Weights T.C_Side 2) := by
  refine T.F_keys_between.okX sc_keys_between (fun vs H Q E h => ?_) (fun cdv A outer s H vs Q E hr h => ?_)
  · obtain ⟨lo, hi, rfl, _⟩ := h
    rfl
  obtain ⟨lo, hi, rfl, qE, q⟩ := h
  refine ⟨_, (pss_one (ps_ret (pe_call (ok_axis_between T) (hr.mono (by decide)) (by rfl) T.g_axis_between T.F_axis_between.kp T.b_axis_between .nil (passes_call (takes_of rfl rfl rfl rfl) fun _ _ _ _ h => h) (pa_cons pe_int (pa_cons (pv 0) (pa_cons (pv 1) pa_nil)))))), ?_⟩
  try simp only [nox_K, cx_K]
  wtm_at "rd"
  refine ⟨2, lo, hi, rfl, by decide, qE, fun he x H' n k s => ?_⟩
  wtm_at "rd"
  exact q he x H' n k s

end

def spRgBin (C CW CS : Addr) (ρ : Rul) : Sp := fun vs H Q _ => ∃ (p p2 : Addr) (N M : Addr → Prop) (w v : Wgt) (a b : Ex), vs = [.ref p, .ref p2] ∧ RgAt C CW CS N H p w a ∧ RgAt C CW CS M H p2 v b ∧ WgBd w ∧ WgBd v ∧ (a.add b).le 18 ∧
  ∀ x H', H x = none → RgAt C CW CS (fun a => H a = none) H' x (w.mix ρ v) (a.add b) → Same H H' → Q (.ref x) H'
def spRgInv (C CW CS : Addr) : Sp := fun vs H Q _ => ∃ (p : Addr) (N : Addr → Prop) (w : Wgt) (a : Ex), vs = [.ref p] ∧ RgAt C CW CS N H p w a ∧ WgBd w ∧ (Ex0.add a).le 18 ∧
  ∀ x H', H x = none → RgAt C CW CS (fun a => H a = none) H' x ((flatW 1 1 1).mix ⟨1, 0 - 1, 0⟩ w) (Ex0.add a) → Same H H' → Q (.ref x) H'
def spRgNeg (C CW CS : Addr) : Sp := fun vs H Q _ => ∃ (p : Addr) (N : Addr → Prop) (w : Wgt) (a : Ex), vs = [.ref p] ∧ RgAt C CW CS N H p w a ∧
  ∀ x H', H x = none → RgAt C CW CS N H' x ⟨w.s, w.a, w.b⟩ a → Same H H' → Q (.ref x) H'
def spWof (C CW CS : Addr) : Sp := fun vs H Q _ => ∃ (p : Addr) (k : Int) (N : Addr → Prop) (w : Wgt) (a : Ex), vs = [.ref p, .int k] ∧ RgAt C CW CS N H p w a ∧ WgBd w ∧ Bd k ∧ a.le 18 ∧
  ∀ x H', H x = none → WgAt CW CS (fun a => H a = none) H' x (w.mix ⟨k, 0, 0⟩ w) a → Same H H' → Q (.ref x) H'
theorem flat_bd {s p o : Int} (h1 : Bd s) (h2 : Bd p) (h3 : Bd o) : WgBd (flatW s p o) := ⟨h1, ⟨fun _ _ => h2, fun _ _ => h3⟩, ⟨fun _ _ => h2, fun _ _ => h3⟩⟩
section
variable {P : Program} {w : World} {K : PySem.W.Frag} {mg : Str → Option Value} {base : Heap}

theorem rg_ty (T : Txt K mg) {H : Hp} {p : Addr} {N : Addr → Prop} {w : Wgt} {e : Ex} (h : RgAt T.C_Region T.C_Weights T.C_Side N H p w e) : TyX K H (.ref p) (.ref T.C_Region) := by
  obtain ⟨dx, pw, h1, _⟩ := h
  exact .base (.ins h1 T.c_Region T.ca_Region T.cn_Region T.ct_Region T.cm_Region)
theorem ok_Region___and__ (T : Txt K mg) : FnOk P w K mg base CX0 9 T.f_Region___and__ T.d_Region___and__ ["self", "other"] (spRgBin T.C_Region T.C_Weights T.C_Side ⟨0, 0, 1⟩) := by
  refine T.F_Region___and__.ok sc_Region___and__ (fun vs H Q E h => ?_) (fun cdv A outer s H vs Q E hr h => ?_)
  · obtain ⟨p, p2, N, M, w, v, a, b, rfl, _⟩ := h
    rfl
  obtain ⟨p, p2, N, M, w, v, a, b, rfl, o, o2, bd1, bd2, hz, q⟩ := h
  refine ⟨_, (pss_cons (ps_if (pt_not (pt_val (pe_callB call_isi (by rfl) T.z_isinstance (by decide +kernel) (pa_cons (pv 1) (pa_cons (pe_glob (v := .ref T.C_Region) rfl T.g_Region rfl) pa_nil))))) (pss_one ps_never) pss_nil)
      (pss_one (ps_ret (pe_make T.m_Region (ok_Region___init__ T) (hr.mono (by decide)) (by rfl) T.g_Region T.b_Region___init__ .nil pass0 (pa_cons (pe_call (ok_mix_weights T) (hr.mono (by decide)) (by rfl) T.g_mix_weights T.F_mix_weights.kp T.b_mix_weights .nil pass0 (pa_cons (pe_fldK (K := K) (pv 0)) (pa_cons (pe_fldK (K := K) (pv 1)) (pa_cons (pe_tup (pa_cons pe_int (pa_cons pe_int (pa_cons pe_int pa_nil)))) pa_nil)))) pa_nil))))), ?_⟩
  try simp only [nox_K, cx_K]
  have ty := rg_ty T o2
  obtain ⟨dx, pw, h1, h2⟩ := o
  obtain ⟨dx', pw', i1, i2⟩ := o2
  wtm_at "rd"
  refine r_isi (.own _) ty kit_self ?_
  wtm_at "rdi"
  refine r_get h1 T.c_Region T.nf_Region_weights (rg_weights _) ?_
  wtm_at "rd"
  refine r_get i1 T.c_Region T.nf_Region_weights (rg_weights _) ?_
  wtm_at "rd"
  refine r_new rfl fun t n_t => ?_
  have st := same_new (o := .tup [.int 0, .int 0, .int (1)]) n_t
  wtm_at "rd"
  refine ⟨pw, pw', t, N, M, w, v, a, b, a.add b, ⟨0, 0, 1⟩, rfl, h2.same st, i2.same st, upd_same, ⟨by unfold Bd; decide, by unfold Bd; decide, by unfold Bd; decide⟩, bd1, bd2, .inl rfl, hz, fun s H1 n1 k1 s1 => ?_⟩
  have s1 := st.trans s1
  have k1 := k1.mono fun _ z => none_s st z
  wtm_at "rd"
  refine make_rg fun x dx2 H2 nx s2 hx => ?_
  wtm_at "rd"
  exact q x H2 (none_s s1 nx) ⟨dx2, s, hx, k1.same s2⟩ (s1.trans s2)
theorem ok_Region___or__ (T : Txt K mg) : FnOk P w K mg base CX0 9 T.f_Region___or__ T.d_Region___or__ ["self", "other"] (spRgBin T.C_Region T.C_Weights T.C_Side ⟨1, 1, 0 - 1⟩) := by
  refine T.F_Region___or__.ok sc_Region___or__ (fun vs H Q E h => ?_) (fun cdv A outer s H vs Q E hr h => ?_)
  · obtain ⟨p, p2, N, M, w, v, a, b, rfl, _⟩ := h
    rfl
  obtain ⟨p, p2, N, M, w, v, a, b, rfl, o, o2, bd1, bd2, hz, q⟩ := h
  refine ⟨_, (pss_cons (ps_if (pt_not (pt_val (pe_callB call_isi (by rfl) T.z_isinstance (by decide +kernel) (pa_cons (pv 1) (pa_cons (pe_glob (v := .ref T.C_Region) rfl T.g_Region rfl) pa_nil))))) (pss_one ps_never) pss_nil)
      (pss_one (ps_ret (pe_make T.m_Region (ok_Region___init__ T) (hr.mono (by decide)) (by rfl) T.g_Region T.b_Region___init__ .nil pass0 (pa_cons (pe_call (ok_mix_weights T) (hr.mono (by decide)) (by rfl) T.g_mix_weights T.F_mix_weights.kp T.b_mix_weights .nil pass0 (pa_cons (pe_fldK (K := K) (pv 0)) (pa_cons (pe_fldK (K := K) (pv 1)) (pa_cons (pe_tup (pa_cons pe_int (pa_cons pe_int (pa_cons (pe_op op_sub pe_int pe_int) pa_nil)))) pa_nil)))) pa_nil))))), ?_⟩
  try simp only [nox_K, cx_K]
  have ty := rg_ty T o2
  obtain ⟨dx, pw, h1, h2⟩ := o
  obtain ⟨dx', pw', i1, i2⟩ := o2
  wtm_at "rd"
  refine r_isi (.own _) ty kit_self ?_
  wtm_at "rdi"
  refine r_get h1 T.c_Region T.nf_Region_weights (rg_weights _) ?_
  wtm_at "rd"
  refine r_get i1 T.c_Region T.nf_Region_weights (rg_weights _) ?_
  wtm_at "rd"
  refine r_new rfl fun t n_t => ?_
  have st := same_new (o := .tup [.int 1, .int 1, .int (0 - 1)]) n_t
  wtm_at "rd"
  refine ⟨pw, pw', t, N, M, w, v, a, b, a.add b, ⟨1, 1, 0 - 1⟩, rfl, h2.same st, i2.same st, upd_same, ⟨by unfold Bd; decide, by unfold Bd; decide, by unfold Bd; decide⟩, bd1, bd2, .inl rfl, hz, fun s H1 n1 k1 s1 => ?_⟩
  have s1 := st.trans s1
  have k1 := k1.mono fun _ z => none_s st z
  wtm_at "rd"
  refine make_rg fun x dx2 H2 nx s2 hx => ?_
  wtm_at "rd"
  exact q x H2 (none_s s1 nx) ⟨dx2, s, hx, k1.same s2⟩ (s1.trans s2)
theorem ok_Region___sub__ (T : Txt K mg) : FnOk P w K mg base CX0 9 T.f_Region___sub__ T.d_Region___sub__ ["self", "other"] (spRgBin T.C_Region T.C_Weights T.C_Side ⟨1, 0, 0 - 1⟩) := by
  refine T.F_Region___sub__.ok sc_Region___sub__ (fun vs H Q E h => ?_) (fun cdv A outer s H vs Q E hr h => ?_)
  · obtain ⟨p, p2, N, M, w, v, a, b, rfl, _⟩ := h
    rfl
  obtain ⟨p, p2, N, M, w, v, a, b, rfl, o, o2, bd1, bd2, hz, q⟩ := h
  refine ⟨_, (pss_cons (ps_if (pt_not (pt_val (pe_callB call_isi (by rfl) T.z_isinstance (by decide +kernel) (pa_cons (pv 1) (pa_cons (pe_glob (v := .ref T.C_Region) rfl T.g_Region rfl) pa_nil))))) (pss_one ps_never) pss_nil)
      (pss_one (ps_ret (pe_make T.m_Region (ok_Region___init__ T) (hr.mono (by decide)) (by rfl) T.g_Region T.b_Region___init__ .nil pass0 (pa_cons (pe_call (ok_mix_weights T) (hr.mono (by decide)) (by rfl) T.g_mix_weights T.F_mix_weights.kp T.b_mix_weights .nil pass0 (pa_cons (pe_fldK (K := K) (pv 0)) (pa_cons (pe_fldK (K := K) (pv 1)) (pa_cons (pe_tup (pa_cons pe_int (pa_cons pe_int (pa_cons (pe_op op_sub pe_int pe_int) pa_nil)))) pa_nil)))) pa_nil))))), ?_⟩
  try simp only [nox_K, cx_K]
  have ty := rg_ty T o2
  obtain ⟨dx, pw, h1, h2⟩ := o
  obtain ⟨dx', pw', i1, i2⟩ := o2
  wtm_at "rd"
  refine r_isi (.own _) ty kit_self ?_
  wtm_at "rdi"
  refine r_get h1 T.c_Region T.nf_Region_weights (rg_weights _) ?_
  wtm_at "rd"
  refine r_get i1 T.c_Region T.nf_Region_weights (rg_weights _) ?_
  wtm_at "rd"
  refine r_new rfl fun t n_t => ?_
  have st := same_new (o := .tup [.int 1, .int 0, .int (0 - 1)]) n_t
  wtm_at "rd"
  refine ⟨pw, pw', t, N, M, w, v, a, b, a.add b, ⟨1, 0, 0 - 1⟩, rfl, h2.same st, i2.same st, upd_same, ⟨by unfold Bd; decide, by unfold Bd; decide, by unfold Bd; decide⟩, bd1, bd2, .inl rfl, hz, fun s H1 n1 k1 s1 => ?_⟩
  have s1 := st.trans s1
  have k1 := k1.mono fun _ z => none_s st z
  wtm_at "rd"
  refine make_rg fun x dx2 H2 nx s2 hx => ?_
  wtm_at "rd"
  exact q x H2 (none_s s1 nx) ⟨dx2, s, hx, k1.same s2⟩ (s1.trans s2)
theorem ok_Region___xor__ (T : Txt K mg) : FnOk P w K mg base CX0 9 T.f_Region___xor__ T.d_Region___xor__ ["self", "other"] (spRgBin T.C_Region T.C_Weights T.C_Side ⟨1, 1, 0 - 2⟩) := by
  refine T.F_Region___xor__.ok sc_Region___xor__ (fun vs H Q E h => ?_) (fun cdv A outer s H vs Q E hr h => ?_)
  · obtain ⟨p, p2, N, M, w, v, a, b, rfl, _⟩ := h
    rfl
  obtain ⟨p, p2, N, M, w, v, a, b, rfl, o, o2, bd1, bd2, hz, q⟩ := h
  refine ⟨_, (pss_cons (ps_if (pt_not (pt_val (pe_callB call_isi (by rfl) T.z_isinstance (by decide +kernel) (pa_cons (pv 1) (pa_cons (pe_glob (v := .ref T.C_Region) rfl T.g_Region rfl) pa_nil))))) (pss_one ps_never) pss_nil)
      (pss_one (ps_ret (pe_make T.m_Region (ok_Region___init__ T) (hr.mono (by decide)) (by rfl) T.g_Region T.b_Region___init__ .nil pass0 (pa_cons (pe_call (ok_mix_weights T) (hr.mono (by decide)) (by rfl) T.g_mix_weights T.F_mix_weights.kp T.b_mix_weights .nil pass0 (pa_cons (pe_fldK (K := K) (pv 0)) (pa_cons (pe_fldK (K := K) (pv 1)) (pa_cons (pe_tup (pa_cons pe_int (pa_cons pe_int (pa_cons (pe_op op_sub pe_int pe_int) pa_nil)))) pa_nil)))) pa_nil))))), ?_⟩
  try simp only [nox_K, cx_K]
  have ty := rg_ty T o2
  obtain ⟨dx, pw, h1, h2⟩ := o
  obtain ⟨dx', pw', i1, i2⟩ := o2
  wtm_at "rd"
  refine r_isi (.own _) ty kit_self ?_
  wtm_at "rdi"
  refine r_get h1 T.c_Region T.nf_Region_weights (rg_weights _) ?_
  wtm_at "rd"
  refine r_get i1 T.c_Region T.nf_Region_weights (rg_weights _) ?_
  wtm_at "rd"
  refine r_new rfl fun t n_t => ?_
  have st := same_new (o := .tup [.int 1, .int 1, .int (0 - 2)]) n_t
  wtm_at "rd"
  refine ⟨pw, pw', t, N, M, w, v, a, b, a.add b, ⟨1, 1, 0 - 2⟩, rfl, h2.same st, i2.same st, upd_same, ⟨by unfold Bd; decide, by unfold Bd; decide, by unfold Bd; decide⟩, bd1, bd2, .inl rfl, hz, fun s H1 n1 k1 s1 => ?_⟩
  have s1 := st.trans s1
  have k1 := k1.mono fun _ z => none_s st z
  wtm_at "rd"
  refine make_rg fun x dx2 H2 nx s2 hx => ?_
  wtm_at "rd"
  exact q x H2 (none_s s1 nx) ⟨dx2, s, hx, k1.same s2⟩ (s1.trans s2)
theorem ok_Region___invert__ (T : Txt K mg) : FnOk P w K mg base CX0 10 T.f_Region___invert__ T.d_Region___invert__ ["self"] (spRgInv T.C_Region T.C_Weights T.C_Side) := by
  refine T.F_Region___invert__.ok sc_Region___invert__ (fun vs H Q E h => ?_) (fun cdv A outer s H vs Q E hr h => ?_)
  · obtain ⟨p, N, w, a, rfl, _⟩ := h
    rfl
  obtain ⟨p, N, w, a, rfl, o, bd, hz, q⟩ := h
  refine ⟨_, (pss_one (ps_ret (pe_make T.m_Region (ok_Region___init__ T) (hr.mono (by decide)) (by rfl) T.g_Region T.b_Region___init__ .nil pass0 (pa_cons (pe_call (ok_mix_weights T) (hr.mono (by decide)) (by rfl) T.g_mix_weights T.F_mix_weights.kp T.b_mix_weights .nil pass0 (pa_cons (pe_fldK (K := K) (pe_call0 (ok_every T) (hr.mono (by decide)) (by rfl) T.g_every T.F_every.kp T.b_every .nil pass0)) (pa_cons (pe_fldK (K := K) (pv 0)) (pa_cons (pe_tup (pa_cons pe_int (pa_cons (pe_op op_sub pe_int pe_int) (pa_cons pe_int pa_nil)))) pa_nil)))) pa_nil)))), ?_⟩
  try simp only [nox_K, cx_K]
  obtain ⟨dx, pw, h1, h2⟩ := o
  wtm_at "rd"
  refine ⟨rfl, fun y H1 n1 k1 s1 => ?_⟩
  obtain ⟨dy, pe, e1, e2⟩ := k1
  wtm_at "rd"
  refine r_get e1 T.c_Region T.nf_Region_weights (rg_weights _) ?_
  wtm_at "rd"
  refine r_get (s1 _ _ h1) T.c_Region T.nf_Region_weights (rg_weights _) ?_
  wtm_at "rd"
  refine r_new rfl fun t n_t => ?_
  have st := same_new (o := .tup [.int 1, .int (0 - 1), .int 0]) n_t
  have s2 := s1.trans st
  wtm_at "rd"
  refine ⟨pe, pw, t, _, N, _, w, Ex0, a, Ex0.add a, ⟨1, 0 - 1, 0⟩, rfl, e2.same st, h2.same s2, upd_same, ⟨by unfold Bd; decide, by unfold Bd; decide, by unfold Bd; decide⟩, flat_bd (by unfold Bd; decide) (by unfold Bd; decide) (by unfold Bd; decide), bd, .inl rfl, hz, fun s H3 n3 k3 s3 => ?_⟩
  have k3 := k3.mono fun _ z => none_s s2 z
  have s3 := s2.trans s3
  wtm_at "rd"
  refine make_rg fun x dx2 H4 nx s4 hx => ?_
  wtm_at "rd"
  exact q x H4 (none_s s3 nx) ⟨dx2, s, hx, k3.same s4⟩ (s3.trans s4)
theorem ok_Region___neg__ (T : Txt K mg) : FnOk P w K mg base CX0 6 T.f_Region___neg__ T.d_Region___neg__ ["self"] (spRgNeg T.C_Region T.C_Weights T.C_Side) := by
  refine T.F_Region___neg__.ok sc_Region___neg__ (fun vs H Q E h => ?_) (fun cdv A outer s H vs Q E hr h => ?_)
  · obtain ⟨p, N, w, a, rfl, _⟩ := h
    rfl
  obtain ⟨p, N, w, a, rfl, o, q⟩ := h
  refine ⟨_, (pss_one (ps_ret (pe_make T.m_Region (ok_Region___init__ T) (hr.mono (by decide)) (by rfl) T.g_Region T.b_Region___init__ .nil pass0 (pa_cons (pe_call (ok_turned T) (hr.mono (by decide)) (by rfl) T.g_turned T.F_turned.kp T.b_turned .nil pass0 (pa_cons (pe_fldK (K := K) (pv 0)) pa_nil)) pa_nil)))), ?_⟩
  try simp only [nox_K, cx_K]
  obtain ⟨dx, pw, h1, h2⟩ := o
  wtm_at "rd"
  refine r_get h1 T.c_Region T.nf_Region_weights (rg_weights _) ?_
  wtm_at "rd"
  refine ⟨pw, N, w, a, rfl, h2, fun s H1 n1 k1 s1 => ?_⟩
  wtm_at "rd"
  refine make_rg fun x dx2 H4 nx s4 hx => ?_
  wtm_at "rd"
  exact q x H4 (none_s s1 nx) ⟨dx2, s, hx, k1.same s4⟩ (s1.trans s4)
theorem ok_weights_of (T : Txt K mg) : FnOk P w K mg base CX0 9 T.f_weights_of T.d_weights_of ["region", "number"] (spWof T.C_Region T.C_Weights T.C_Side) := by
  refine T.F_weights_of.ok sc_weights_of (fun vs H Q E h => ?_) (fun cdv A outer s H vs Q E hr h => ?_)
  · obtain ⟨p, k, N, w, a, rfl, _⟩ := h
    rfl
  obtain ⟨p, k, N, w, a, rfl, o, bd, bk, hz, q⟩ := h
  refine ⟨_, (pss_one (ps_ret (pe_call (ok_mix_weights T) (hr.mono (by decide)) (by rfl) T.g_mix_weights T.F_mix_weights.kp T.b_mix_weights .nil pass0 (pa_cons (pe_fldK (K := K) (pv 0)) (pa_cons (pe_fldK (K := K) (pv 0)) (pa_cons (pe_tup (pa_cons (pv 1) (pa_cons pe_int (pa_cons pe_int pa_nil)))) pa_nil)))))), ?_⟩
  try simp only [nox_K, cx_K]
  obtain ⟨dx, pw, h1, h2⟩ := o
  wtm_at "rd"
  refine r_get h1 T.c_Region T.nf_Region_weights (rg_weights _) ?_
  wtm_at "rd"
  refine r_get h1 T.c_Region T.nf_Region_weights (rg_weights _) ?_
  wtm_at "rd"
  refine r_new rfl fun t n_t => ?_
  have st := same_new (o := .tup [.int k, .int 0, .int 0]) n_t
  wtm_at "rd"
  refine ⟨pw, pw, t, N, N, w, w, a, a, a, ⟨k, 0, 0⟩, rfl, h2.same st, h2.same st, upd_same, ⟨bk, ⟨by show (-4000000000000000000 : Int) ≤ 0; decide, by show (0 : Int) ≤ 4000000000000000000; decide⟩, ⟨by show (-4000000000000000000 : Int) ≤ 0; decide, by show (0 : Int) ≤ 4000000000000000000; decide⟩⟩, bd, bd, .inr ⟨rfl, rfl, rfl⟩, hz, fun s H1 n1 k1 s1 => ?_⟩
  wtm_at "rd"
  exact q s H1 (none_s st n1) (k1.mono fun _ z => none_s st z) (st.trans s1)

end

theorem ins_neg {lo hi : En} {x : Int} : ins (ngE hi) (ngE lo) (0 - x) = ins lo hi x := by
  unfold Gr.ins ngE
  cases lo <;> cases hi <;> dsimp only [Option.map_none, Option.map_some]
  all_goals
    rw [Bool.eq_iff_iff]
    simp only [Bool.and_eq_true, decide_eq_true_eq, true_and, and_true]
  all_goals
    try omega
theorem rows_at {lo hi : En} (r g d : Int) : (rowsW lo hi).at_ r g d = Gr.b2i (ins lo hi r) := by
  unfold Wgt.at_
  by_cases c : r = 0
  · rw [if_pos c, c]; rfl
  · rw [if_neg c]
    by_cases c2 : 0 < r
    · rw [if_pos c2]
      unfold Sdv.at_
      by_cases c3 : g = 0
      · rw [if_pos c3]; rfl
      · rw [if_neg c3]; rfl
    · rw [if_neg c2]
      unfold Sdv.at_
      rw [← ins_neg (x := r)]
      by_cases c3 : 0 - g = 0
      · rw [if_pos c3]; rfl
      · rw [if_neg c3]; rfl
theorem groups_at {lo hi : En} {r g d : Int} (h : possB r g d = true) : (axisW 1 lo hi).at_ r g d = Gr.b2i (ins lo hi g) := by
  have h := of_decide_eq_true h
  unfold Wgt.at_
  by_cases c : r = 0
  · rw [if_pos c, show g = 0 by omega]; rfl
  · rw [if_neg c]
    by_cases c2 : 0 < r
    · rw [if_pos c2]
      unfold Sdv.at_
      by_cases c3 : g = 0
      · rw [if_pos c3, c3]; rfl
      · rw [if_neg c3]; rfl
    · rw [if_neg c2]
      unfold Sdv.at_
      by_cases c3 : 0 - g = 0
      · rw [if_pos c3, show g = 0 by omega]; rfl
      · rw [if_neg c3, ← ins_neg (x := g)]; rfl
theorem keys_at {lo hi : En} {r g d : Int} (h : possB r g d = true) : (axisW 2 lo hi).at_ r g d = Gr.b2i (ins lo hi d) := by
  have h := of_decide_eq_true h
  unfold Wgt.at_
  by_cases c : r = 0
  · rw [if_pos c, show d = 0 by omega]; rfl
  · rw [if_neg c]
    by_cases c2 : 0 < r
    · rw [if_pos c2]
      unfold Sdv.at_
      by_cases c3 : g = 0
      · rw [if_pos c3, show d = 0 by omega]; rfl
      · rw [if_neg c3]; rfl
    · rw [if_neg c2]
      unfold Sdv.at_
      by_cases c3 : 0 - g = 0
      · rw [if_pos c3, show d = 0 by omega]; rfl
      · rw [if_neg c3, ← ins_neg (x := d)]; rfl
theorem flat_at (s p o r g d : Int) : (flatW s p o).at_ r g d = if r = 0 then s else if g = 0 then p else o := by
  unfold Wgt.at_
  by_cases c : r = 0
  · rw [if_pos c, if_pos c]; rfl
  · rw [if_neg c, if_neg c]
    by_cases c2 : 0 < r
    · rw [if_pos c2]
      unfold Sdv.at_
      rfl
    · rw [if_neg c2]
      unfold Sdv.at_
      by_cases c3 : g = 0
      · rw [if_pos c3, if_pos (by omega)]; rfl
      · rw [if_neg c3, if_neg (by omega)]; rfl
theorem turned_at (w : Wgt) (r g d : Int) : Wgt.at_ ⟨w.s, w.a, w.b⟩ r g d = w.at_ (0 - r) (0 - g) (0 - d) := by
  unfold Wgt.at_
  by_cases c : r = 0
  · rw [if_pos c, if_pos (by omega)]
  · rw [if_neg c, if_neg (show ¬ 0 - r = 0 by omega)]
    by_cases c2 : 0 < r
    · rw [if_pos c2, if_neg (show ¬ 0 < 0 - r by omega), show 0 - (0 - r) = r by omega, show 0 - (0 - g) = g by omega, show 0 - (0 - d) = d by omega]
    · rw [if_neg c2, if_pos (show 0 < 0 - r by omega)]
theorem b2_and (a b : Bool) : (⟨0, 0, 1⟩ : Rul).f (Gr.b2i a) (Gr.b2i b) = Gr.b2i (a && b) := by cases a <;> cases b <;> rfl
theorem b2_or (a b : Bool) : (⟨1, 1, 0 - 1⟩ : Rul).f (Gr.b2i a) (Gr.b2i b) = Gr.b2i (a || b) := by cases a <;> cases b <;> rfl
theorem b2_sub (a b : Bool) : (⟨1, 0, 0 - 1⟩ : Rul).f (Gr.b2i a) (Gr.b2i b) = Gr.b2i (a && !b) := by cases a <;> cases b <;> rfl
theorem b2_xor (a b : Bool) : (⟨1, 1, 0 - 2⟩ : Rul).f (Gr.b2i a) (Gr.b2i b) = Gr.b2i (a != b) := by cases a <;> cases b <;> rfl
theorem b2_not (b : Bool) : (⟨1, 0 - 1, 0⟩ : Rul).f 1 (Gr.b2i b) = Gr.b2i (!b) := by cases b <;> rfl
theorem k_mul (k x y : Int) : (⟨k, 0, 0⟩ : Rul).f x y = k * x := by
  unfold Rul.f
  simp only [Int.zero_mul, Int.add_zero]
section
variable {P : Program} {w : World} {K : PySem.W.Frag} {mg : Str → Option Value} {base : Heap}

end

inductive Tr where
  | rows (lo hi : En)
  | groups (lo hi : En)
  | keys (lo hi : En)
  | self
  | ties
  | group
  | all
  | none
  | inv (t : Tr)
  | neg (t : Tr)
  | and (t u : Tr)
  | or (t u : Tr)
  | sub (t u : Tr)
  | xor (t u : Tr)
namespace Tr
def ok : Tr → Prop
  | rows lo hi => EndsOk lo hi
  | groups lo hi => EndsOk lo hi
  | keys lo hi => EndsOk lo hi
  | inv t => t.ok
  | neg t => t.ok
  | and t u => t.ok ∧ u.ok
  | or t u => t.ok ∧ u.ok
  | sub t u => t.ok ∧ u.ok
  | xor t u => t.ok ∧ u.ok
  | _ => True
def w : Tr → Wgt
  | rows lo hi => rowsW lo hi
  | groups lo hi => axisW 1 lo hi
  | keys lo hi => axisW 2 lo hi
  | self => flatW 1 0 0
  | ties => flatW 0 1 0
  | group => flatW 1 1 0
  | all => flatW 1 1 1
  | none => flatW 0 0 0
  | inv t => (flatW 1 1 1).mix ⟨1, 0 - 1, 0⟩ t.w
  | neg t => ⟨t.w.s, t.w.a, t.w.b⟩
  | and t u => t.w.mix ⟨0, 0, 1⟩ u.w
  | or t u => t.w.mix ⟨1, 1, 0 - 1⟩ u.w
  | sub t u => t.w.mix ⟨1, 0, 0 - 1⟩ u.w
  | xor t u => t.w.mix ⟨1, 1, 0 - 2⟩ u.w
def holds : Tr → Int → Int → Int → Bool
  | rows lo hi, r, _, _ => ins lo hi r
  | groups lo hi, _, g, _ => ins lo hi g
  | keys lo hi, _, _, d => ins lo hi d
  | self, r, _, _ => decide (r = 0)
  | ties, r, g, _ => decide (g = 0) && !decide (r = 0)
  | group, _, g, _ => decide (g = 0)
  | all, _, _, _ => true
  | none, _, _, _ => false
  | inv t, r, g, d => !t.holds r g d
  | neg t, r, g, d => t.holds (0 - r) (0 - g) (0 - d)
  | and t u, r, g, d => t.holds r g d && u.holds r g d
  | or t u, r, g, d => t.holds r g d || u.holds r g d
  | sub t u, r, g, d => t.holds r g d && !u.holds r g d
  | xor t u, r, g, d => t.holds r g d != u.holds r g d
def ex : Tr → Ex
  | rows _ _ => exL 0
  | groups _ _ => exA 1
  | keys _ _ => exA 2
  | inv t => Ex0.add t.ex
  | neg t => t.ex
  | and t u => t.ex.add u.ex
  | or t u => t.ex.add u.ex
  | sub t u => t.ex.add u.ex
  | xor t u => t.ex.add u.ex
  | _ => Ex0
def leaves : Tr → Nat
  | inv t => t.leaves
  | neg t => t.leaves
  | and t u => t.leaves + u.leaves
  | or t u => t.leaves + u.leaves
  | sub t u => t.leaves + u.leaves
  | xor t u => t.leaves + u.leaves
  | _ => 1
theorem poss0 {r g d : Int} (h : possB r g d = true) : possB (0 - r) (0 - g) (0 - d) = true := by
  have z := of_decide_eq_true h
  exact decide_eq_true (by omega)
theorem all_at {r g d : Int} : (flatW 1 1 1).at_ r g d = 1 := by
  rw [flat_at]
  split
  · rfl
  · split <;> rfl
theorem w_at : ∀ (t : Tr) {r g d : Int}, possB r g d = true → t.w.at_ r g d = Gr.b2i (t.holds r g d)
  | rows lo hi, r, g, d, _ => rows_at r g d
  | groups lo hi, r, g, d, h => groups_at h
  | keys lo hi, r, g, d, h => keys_at h
  | self, r, g, d, h => by
    show (flatW 1 0 0).at_ r g d = Gr.b2i (decide (r = 0))
    rw [flat_at]
    by_cases c : r = 0
    · rw [if_pos c, decide_eq_true c]; rfl
    · rw [if_neg c, decide_eq_false c]; split <;> rfl
  | ties, r, g, d, h => by
    have z := of_decide_eq_true h
    show (flatW 0 1 0).at_ r g d = Gr.b2i (decide (g = 0) && !decide (r = 0))
    rw [flat_at]
    by_cases c : r = 0
    · rw [if_pos c, decide_eq_true c, Bool.not_true, Bool.and_false]; rfl
    · rw [if_neg c, decide_eq_false c, Bool.not_false, Bool.and_true]
      by_cases c2 : g = 0
      · rw [if_pos c2, decide_eq_true c2]; rfl
      · rw [if_neg c2, decide_eq_false c2]; rfl
  | group, r, g, d, h => by
    have z := of_decide_eq_true h
    show (flatW 1 1 0).at_ r g d = Gr.b2i (decide (g = 0))
    rw [flat_at]
    by_cases c : r = 0
    · rw [if_pos c, decide_eq_true (show g = 0 by omega)]; rfl
    · rw [if_neg c]
      by_cases c2 : g = 0
      · rw [if_pos c2, decide_eq_true c2]; rfl
      · rw [if_neg c2, decide_eq_false c2]; rfl
  | all, r, g, d, h => by
    show (flatW 1 1 1).at_ r g d = 1
    rw [flat_at]
    split
    · rfl
    · split <;> rfl
  | none, r, g, d, h => by
    show (flatW 0 0 0).at_ r g d = 0
    rw [flat_at]
    split
    · rfl
    · split <;> rfl
  | inv t, r, g, d, h => by
    show ((flatW 1 1 1).mix ⟨1, 0 - 1, 0⟩ t.w).at_ r g d = Gr.b2i (!t.holds r g d)
    have z : (flatW 1 1 1).at_ r g d = 1 := all_at
    rw [Wgt.mix_at, w_at t h, z]
    exact b2_not _
  | neg t, r, g, d, h => (turned_at t.w r g d).trans (w_at t (poss0 h))
  | and t u, r, g, d, h => by
    show (t.w.mix _ u.w).at_ r g d = _
    rw [Wgt.mix_at, w_at t h, w_at u h]
    exact b2_and _ _
  | or t u, r, g, d, h => by
    show (t.w.mix _ u.w).at_ r g d = _
    rw [Wgt.mix_at, w_at t h, w_at u h]
    exact b2_or _ _
  | sub t u, r, g, d, h => by
    show (t.w.mix _ u.w).at_ r g d = _
    rw [Wgt.mix_at, w_at t h, w_at u h]
    exact b2_sub _ _
  | xor t u, r, g, d, h => by
    show (t.w.mix _ u.w).at_ r g d = _
    rw [Wgt.mix_at, w_at t h, w_at u h]
    exact b2_xor _ _
theorem add_le {a b : Ex} {n m : Nat} (h : a.le (2 * n)) (k : b.le (2 * m)) : (a.add b).le (2 * (n + m)) := by
  obtain ⟨h1, h2, h3, h4⟩ := h
  obtain ⟨k1, k2, k3, k4⟩ := k
  exact ⟨by show a.l + b.l ≤ _; omega, by show a.r + b.r ≤ _; omega, by show a.g + b.g ≤ _; omega, by show a.d + b.d ≤ _; omega⟩
theorem ex_le : ∀ t : Tr, t.ex.le (2 * t.leaves)
  | rows _ _ => ⟨Nat.le_refl 2, Nat.le_refl 2, Nat.zero_le 2, Nat.zero_le 2⟩
  | groups _ _ => ⟨Nat.zero_le 2, Nat.zero_le 2, Nat.le_refl 2, Nat.zero_le 2⟩
  | keys _ _ => ⟨Nat.zero_le 2, Nat.zero_le 2, Nat.zero_le 2, Nat.le_refl 2⟩
  | self => by refine ⟨?_, ?_, ?_, ?_⟩ <;> decide
  | ties => by refine ⟨?_, ?_, ?_, ?_⟩ <;> decide
  | group => by refine ⟨?_, ?_, ?_, ?_⟩ <;> decide
  | all => by refine ⟨?_, ?_, ?_, ?_⟩ <;> decide
  | none => by refine ⟨?_, ?_, ?_, ?_⟩ <;> decide
  | inv t => by
    obtain ⟨h1, h2, h3, h4⟩ := ex_le t
    exact ⟨by show 0 + t.ex.l ≤ 2 * t.leaves; omega, by show 0 + t.ex.r ≤ 2 * t.leaves; omega, by show 0 + t.ex.g ≤ 2 * t.leaves; omega, by show 0 + t.ex.d ≤ 2 * t.leaves; omega⟩
  | neg t => ex_le t
  | and t u => add_le (ex_le t) (ex_le u)
  | or t u => add_le (ex_le t) (ex_le u)
  | sub t u => add_le (ex_le t) (ex_le u)
  | xor t u => add_le (ex_le t) (ex_le u)
end Tr
section
variable {P : Program} {w : World} {K : PySem.W.Frag} {mg : Str → Option Value} {base : Heap}

end

theorem b2i_bd (b : Bool) : Bd (Gr.b2i b) := by
  cases b
  · exact ⟨by show (-4000000000000000000 : Int) ≤ 0; decide, by show (0 : Int) ≤ 4000000000000000000; decide⟩
  · exact ⟨by show (-4000000000000000000 : Int) ≤ 1; decide, by show (1 : Int) ≤ 4000000000000000000; decide⟩
theorem bd_of {w : Wgt} (h : ∀ r g d, possB r g d = true → ∃ b, w.at_ r g d = Gr.b2i b) : WgBd w := by
  have key : ∀ r g d, possB r g d = true → Bd (w.at_ r g d) := fun r g d z => by
    obtain ⟨b, e⟩ := h r g d z
    rw [e]
    exact b2i_bd b
  refine ⟨?_, ⟨fun x hx => ?_, fun n hn => ?_⟩, ⟨fun x hx => ?_, fun n hn => ?_⟩⟩
  · exact key 0 0 0 (decide_eq_true (by omega))
  · have z := key (0 - x) 0 0 (decide_eq_true (by omega))
    unfold Wgt.at_ Sdv.at_ at z
    rw [if_neg (by omega), if_neg (by omega), if_pos (by omega), show 0 - (0 - x) = x by omega] at z
    exact z
  · obtain ⟨h1, h2, h3⟩ := hn
    have z := key (0 - n.r) (0 - n.g) (0 - n.d) (decide_eq_true (by omega))
    unfold Wgt.at_ Sdv.at_ at z
    rw [if_neg (by omega), if_neg (by omega), if_neg (by omega), show 0 - (0 - n.r) = n.r by omega, show 0 - (0 - n.g) = n.g by omega, show 0 - (0 - n.d) = n.d by omega] at z
    exact z
  · have z := key x 0 0 (decide_eq_true (by omega))
    unfold Wgt.at_ Sdv.at_ at z
    rw [if_neg (by omega), if_pos (by omega), if_pos rfl] at z
    exact z
  · obtain ⟨h1, h2, h3⟩ := hn
    have z := key n.r n.g n.d (decide_eq_true (by omega))
    unfold Wgt.at_ Sdv.at_ at z
    rw [if_neg (by omega), if_pos (by omega), if_neg (by omega)] at z
    exact z
theorem Tr.bd (t : Tr) : WgBd t.w := bd_of fun r g d h => ⟨_, t.w_at h⟩
section
variable {P : Program} {w : World} {K : PySem.W.Frag} {mg : Str → Option Value} {base : Heap}

end

/-- everything stays but lists of which N does not hold -/
def KeepN (N : Addr → Prop) (H H' : Hp) : Prop := ∀ b o, H b = some o → (N b ∨ ∀ xs, o ≠ .lst xs) → H' b = some o
theorem LnAt.keep {N : Addr → Prop} {H H' : Hp} {a : Addr} {l : Ln} (h : LnAt H a l) (k : KeepN N H H') (n : N a) : LnAt H' a l := by
  obtain ⟨us, h1, h2⟩ := h
  exact ⟨us, k _ _ h1 (.inl n), h2.imp fun _ _ z => k _ _ z (.inr fun _ e => nomatch e)⟩
theorem AxsAt.keep {N : Addr → Prop} {H H' : Hp} {t : Addr} {A : Axes} (h : AxsAt N H t A) (k : KeepN N H H') : AxsAt N H' t A := by
  obtain ⟨x, y, z, h1, h2, h3, h4, n1, n2, n3⟩ := h
  exact ⟨x, y, z, k _ _ h1 (.inr fun _ e => nomatch e), k _ _ h2 (.inl n1), k _ _ h3 (.inl n2), k _ _ h4 (.inl n3), n1, n2, n3⟩
theorem GrAt.keep {N : Addr → Prop} {H H' : Hp} {g : Addr} {A : Axes} {W : Wt} (h : GrAt N H g A W) (k : KeepN N H H') : GrAt N H' g A W := by
  obtain ⟨t, d, h1, h2, h3⟩ := h
  exact ⟨t, d, k _ _ h1 (.inr fun _ e => nomatch e), h2.keep k, k _ _ h3 (.inr fun _ e => nomatch e)⟩
theorem SdAt.keep {C : Addr} {N : Addr → Prop} {H H' : Hp} {p : Addr} {f : Int → Int} {h : Num → Int} {e : Ex} (s : SdAt C N H p f h e) (k : KeepN N H H') : SdAt C N H' p f h e := by
  obtain ⟨dx, pl, pg, l, A, W, h1, h2, h3, h4, h5⟩ := s
  exact ⟨dx, pl, pg, l, A, W, k _ _ h1 (.inr fun _ e => nomatch e), h2, h3.keep k h2, h4.keep k, h5⟩
theorem WgAt.keep {C CS : Addr} {N : Addr → Prop} {H H' : Hp} {p : Addr} {w : Wgt} {e : Ex} (s : WgAt C CS N H p w e) (k : KeepN N H H') : WgAt C CS N H' p w e := by
  obtain ⟨dx, pb, pa, h1, h2, h3⟩ := s
  exact ⟨dx, pb, pa, k _ _ h1 (.inr fun _ e => nomatch e), h2.keep k, h3.keep k⟩
theorem RgAt.keep {C CW CS : Addr} {N : Addr → Prop} {H H' : Hp} {p : Addr} {w : Wgt} {e : Ex} (s : RgAt C CW CS N H p w e) (k : KeepN N H H') : RgAt C CW CS N H' p w e := by
  obtain ⟨dx, pw, h1, h2⟩ := s
  exact ⟨dx, pw, k _ _ h1 (.inr fun _ e => nomatch e), h2.keep k⟩
theorem keep_ext {N : Addr → Prop} {d r : Addr} {xs ys : List V} {H H' : Hp} (e : Ext d r H H') (hd : H d = some (.lst xs)) (hr : H r = some (.lst ys)) (n : ∀ a, N a → a ≠ d ∧ a ≠ r) : KeepN N H H' := fun b o hb h => by
  refine e b o hb ?_ ?_
  · rcases h with h | h
    · exact (n b h).1
    · intro c; subst c; rw [hd] at hb; exact h xs (Option.some.inj hb).symm
  · rcases h with h | h
    · exact (n b h).2
    · intro c; subst c; rw [hr] at hb; exact h ys (Option.some.inj hb).symm
section
variable {P : Program} {w : World} {K : PySem.W.Frag} {mg : Str → Option Value} {base : Heap}

end

def Tr.dep : Tr → Nat
  | .inv t => t.dep + 1
  | .neg t => t.dep + 1
  | .and t u => max t.dep u.dep + 1
  | .or t u => max t.dep u.dep + 1
  | .sub t u => max t.dep u.dep + 1
  | .xor t u => max t.dep u.dep + 1
  | _ => 0
/-- the list of a tree stands at p -/
def TrAt (N : Addr → Prop) (H : Hp) : Tr → Addr → Prop
  | .rows lo hi, p => N p ∧ H p = some (.lst [.str "rows", endV lo, endV hi])
  | .groups lo hi, p => N p ∧ H p = some (.lst [.str "groups", endV lo, endV hi])
  | .keys lo hi, p => N p ∧ H p = some (.lst [.str "keys", endV lo, endV hi])
  | .self, p => N p ∧ H p = some (.lst [.str "self"])
  | .ties, p => N p ∧ H p = some (.lst [.str "ties"])
  | .group, p => N p ∧ H p = some (.lst [.str "group"])
  | .all, p => N p ∧ H p = some (.lst [.str "all"])
  | .none, p => N p ∧ H p = some (.lst [.str "none"])
  | .inv t, p => N p ∧ ∃ q, H p = some (.lst [.str "~", .ref q]) ∧ TrAt N H t q
  | .neg t, p => N p ∧ ∃ q, H p = some (.lst [.str "neg", .ref q]) ∧ TrAt N H t q
  | .and t u, p => N p ∧ ∃ q r, H p = some (.lst [.str "&", .ref q, .ref r]) ∧ TrAt N H t q ∧ TrAt N H u r
  | .or t u, p => N p ∧ ∃ q r, H p = some (.lst [.str "|", .ref q, .ref r]) ∧ TrAt N H t q ∧ TrAt N H u r
  | .sub t u, p => N p ∧ ∃ q r, H p = some (.lst [.str "-", .ref q, .ref r]) ∧ TrAt N H t q ∧ TrAt N H u r
  | .xor t u, p => N p ∧ ∃ q r, H p = some (.lst [.str "^", .ref q, .ref r]) ∧ TrAt N H t q ∧ TrAt N H u r
theorem TrAt.keep {N : Addr → Prop} {H H' : Hp} (k : KeepN N H H') : ∀ {t : Tr} {p : Addr}, TrAt N H t p → TrAt N H' t p
  | .rows _ _, _, h => ⟨h.1, k _ _ h.2 (.inl h.1)⟩
  | .groups _ _, _, h => ⟨h.1, k _ _ h.2 (.inl h.1)⟩
  | .keys _ _, _, h => ⟨h.1, k _ _ h.2 (.inl h.1)⟩
  | .self, _, h => ⟨h.1, k _ _ h.2 (.inl h.1)⟩
  | .ties, _, h => ⟨h.1, k _ _ h.2 (.inl h.1)⟩
  | .group, _, h => ⟨h.1, k _ _ h.2 (.inl h.1)⟩
  | .all, _, h => ⟨h.1, k _ _ h.2 (.inl h.1)⟩
  | .none, _, h => ⟨h.1, k _ _ h.2 (.inl h.1)⟩
  | .inv _, _, ⟨n, q, h, i⟩ => ⟨n, q, k _ _ h (.inl n), TrAt.keep k i⟩
  | .neg _, _, ⟨n, q, h, i⟩ => ⟨n, q, k _ _ h (.inl n), TrAt.keep k i⟩
  | .and _ _, _, ⟨n, q, r, h, i, j⟩ => ⟨n, q, r, k _ _ h (.inl n), TrAt.keep k i, TrAt.keep k j⟩
  | .or _ _, _, ⟨n, q, r, h, i, j⟩ => ⟨n, q, r, k _ _ h (.inl n), TrAt.keep k i, TrAt.keep k j⟩
  | .sub _ _, _, ⟨n, q, r, h, i, j⟩ => ⟨n, q, r, k _ _ h (.inl n), TrAt.keep k i, TrAt.keep k j⟩
  | .xor _ _, _, ⟨n, q, r, h, i, j⟩ => ⟨n, q, r, k _ _ h (.inl n), TrAt.keep k i, TrAt.keep k j⟩
theorem TrAt.mono {N M : Addr → Prop} {H : Hp} (m : ∀ a, N a → M a) : ∀ {t : Tr} {p : Addr}, TrAt N H t p → TrAt M H t p
  | .rows _ _, _, h => ⟨m _ h.1, h.2⟩
  | .groups _ _, _, h => ⟨m _ h.1, h.2⟩
  | .keys _ _, _, h => ⟨m _ h.1, h.2⟩
  | .self, _, h => ⟨m _ h.1, h.2⟩
  | .ties, _, h => ⟨m _ h.1, h.2⟩
  | .group, _, h => ⟨m _ h.1, h.2⟩
  | .all, _, h => ⟨m _ h.1, h.2⟩
  | .none, _, h => ⟨m _ h.1, h.2⟩
  | .inv _, _, ⟨n, q, h, i⟩ => ⟨m _ n, q, h, TrAt.mono m i⟩
  | .neg _, _, ⟨n, q, h, i⟩ => ⟨m _ n, q, h, TrAt.mono m i⟩
  | .and _ _, _, ⟨n, q, r, h, i, j⟩ => ⟨m _ n, q, r, h, TrAt.mono m i, TrAt.mono m j⟩
  | .or _ _, _, ⟨n, q, r, h, i, j⟩ => ⟨m _ n, q, r, h, TrAt.mono m i, TrAt.mono m j⟩
  | .sub _ _, _, ⟨n, q, r, h, i, j⟩ => ⟨m _ n, q, r, h, TrAt.mono m i, TrAt.mono m j⟩
  | .xor _ _, _, ⟨n, q, r, h, i, j⟩ => ⟨m _ n, q, r, h, TrAt.mono m i, TrAt.mono m j⟩
theorem keep_same {N : Addr → Prop} {H H' : Hp} (s : Same H H') : KeepN N H H' := fun b o h _ => s b o h
theorem TrAt.same {N : Addr → Prop} {H H' : Hp} {t : Tr} {p : Addr} (h : TrAt N H t p) (s : Same H H') : TrAt N H' t p := h.keep (keep_same s)
theorem keepD {H0 H H' : Hp} {d c r : Addr} (D : Drw H d c r) (e : Ext d r H H') (hd : H0 d ≠ none) (hr : H0 r ≠ none) : KeepN (fun a => H0 a = none) H H' := by
  obtain ⟨_, _, _, ns, rs, t, h1, h2, h3, _⟩ := D
  exact keep_ext e h1 h3 fun a n => ⟨fun z => hd (z ▸ n), fun z => hr (z ▸ n)⟩
theorem Drw.some {H : Hp} {d c r : Addr} (D : Drw H d c r) : H d ≠ none ∧ H r ≠ none := by
  obtain ⟨_, _, _, ns, rs, t, h1, h2, h3, _⟩ := D
  exact ⟨fun z => (by rw [h1] at z; cases z), fun z => (by rw [h3] at z; cases z)⟩
theorem keep_d {H H1 H' : Hp} {d c r : Addr} (D : Drw H d c r) (D1 : Drw H1 d c r) (e : Ext d r H1 H') : KeepN (fun a => H a = none) H1 H' := keepD D1 e D.some.1 D.some.2
theorem Ext.none {H H' : Hp} {d c r a : Addr} (D : Drw H d c r) (D' : Drw H' d c r) (e : Ext d r H H') (h : H' a = none) : H a = none := D.back e h D'
theorem wide_at (b c : Bool) : ∃ W : Int, atI [V.int 3, .int 12, .int 3, .int (10 ^ (9 : Int).toNat)] ((if b = true then 1 else 0) + 2 * (if c = true then 1 else 0)) = some (.int W) ∧ 0 < W ∧ W ≤ 1000000000 := by
  cases b <;> cases c
  · exact ⟨3, rfl, by decide, by decide⟩
  · exact ⟨3, rfl, by decide, by decide⟩
  · exact ⟨12, rfl, by decide, by decide⟩
  · exact ⟨1000000000, rfl, by decide, by decide⟩
def spEndD : Sp := fun vs H Q _ => ∃ (d c r : Addr) (z : Str), vs = [.ref d, .str z] ∧ Drw H d c r ∧ ∀ (e : En) (H' : Hp), Drw H' d c r → Ext d r H H' → Q (endV e) H'
def spBasic : Sp := fun vs H Q _ => ∃ (d c r : Addr), vs = [.ref d] ∧ Drw H d c r ∧ ∀ (t : Tr) (p : Addr) (H' : Hp), t.ok → t.leaves = 1 → t.dep = 0 → TrAt (fun a => H a = none) H' t p → Drw H' d c r → Ext d r H H' → Q (.ref p) H'
def spTree (n : Nat) : Sp := fun vs H Q _ => ∃ (d c r : Addr) (k : Nat), vs = [.ref d, .int (k : Int)] ∧ k < n ∧ Drw H d c r ∧ ∀ (t : Tr) (p : Addr) (H' : Hp), t.ok → t.leaves ≤ 2 ^ k → t.dep ≤ k → TrAt (fun a => H a = none) H' t p → Drw H' d c r → Ext d r H H' → Q (.ref p) H'
def spFactor : Sp := fun vs H Q _ => ∃ (d c r : Addr), vs = [.ref d] ∧ Drw H d c r ∧ ∀ (k : Int) (H' : Hp), -1000000000 ≤ k → k ≤ 1000000000 → Drw H' d c r → Ext d r H H' → Q (.int k) H'
def axL : List Str := ["rows", "groups", "keys"]
def axS (n : Nat) : Str := axL.getD n ""
def Tr.ax (n : Nat) (lo hi : En) : Tr := match n with | 0 => .rows lo hi | 1 => .groups lo hi | _ => .keys lo hi
theorem ax_at {k : Int} (h0 : 0 ≤ k) (h1 : k < 3) : ∃ n, n < 3 ∧ atI (axL.map V.str) k = some (.str (axS n)) := by
  rcases (show k = 0 ∨ k = 1 ∨ k = 2 by omega) with e | e | e <;> subst e
  · exact ⟨0, by decide, rfl⟩
  · exact ⟨1, by decide, rfl⟩
  · exact ⟨2, by decide, rfl⟩
theorem ax_tr {N : Addr → Prop} {H : Hp} {n : Nat} {lo hi : En} {p : Addr} (hn : n < 3) (h1 : N p) (h2 : H p = some (.lst [.str (axS n), endV lo, endV hi])) : TrAt N H (Tr.ax n lo hi) p := by
  rcases (show n = 0 ∨ n = 1 ∨ n = 2 by omega) with e | e | e <;> subst e
  · exact ⟨h1, h2⟩
  · exact ⟨h1, h2⟩
  · exact ⟨h1, h2⟩
theorem ax_ok {n : Nat} {lo hi : En} (hn : n < 3) (h : EndsOk lo hi) : (Tr.ax n lo hi).ok ∧ (Tr.ax n lo hi).leaves = 1 ∧ (Tr.ax n lo hi).dep = 0 := by
  rcases (show n = 0 ∨ n = 1 ∨ n = 2 by omega) with e | e | e <;> subst e
  · exact ⟨h, rfl, rfl⟩
  · exact ⟨h, rfl, rfl⟩
  · exact ⟨h, rfl, rfl⟩
def oneL : List Str := ["self", "ties", "group", "all", "none"]
def Tr.one (n : Nat) : Tr := match n with | 0 => .self | 1 => .ties | 2 => .group | 3 => .all | _ => .none
theorem r_cat {H : Hp} {Q : VK} {a b : Addr} {xs ys : List V} (h1 : H a = some (.lst xs)) (h2 : H b = some (.lst ys)) (hz : xs.length + ys.length ≤ 1000) (q : ∀ p, H p = none → Q (.ref p) (upd H p (.lst (xs ++ ys)))) : rCat (.ref a) (.ref b) H Q :=
  ⟨a, b, xs, ys, rfl, rfl, h1, h2, Nat.le_of_lt (small1000 hz), q⟩
/-- x not in a written list -/
theorem r_ninV {K : PySem.W.Frag} {H : Hp} {Q : VK} {x : V} {p : Addr} {xs : List V} (b : Bool) (h : SqL K H p xs) (h1 : flatV x = true) (h2 : xs.all flatV = true) (e : (!inV x xs) = b) (q : Q (.bl b) H) : rIn K true x (.ref p) H Q := by
  refine r_inL h h1 h2 ?_
  rw [if_pos rfl, e]
  exact q
theorem sort_two {a b : Int} {ns : List Int} (h : ns.Perm [a, b]) (s : ns.Pairwise (· ≤ ·)) : ∃ x y, ns = [x, y] ∧ x ≤ y := by
  have l := h.length_eq
  match ns, l, s with
  | [x, y], _, s => exact ⟨x, y, rfl, by cases s with | cons h _ => exact h y List.mem_cons_self⟩
section
variable {P : Program} {w : World} {K : PySem.W.Frag} {mg : Str → Option Value} {base : Heap}

theorem ok__law_end (T : Txt K mg) : FnOk P w K mg base CX0 3 T.f__law_end T.d__law_end ["_law_draws", "_law_word"] spEndD := by
  refine T.F__law_end.ok sc__law_end (fun vs H Q E h => ?_) (fun cdv A outer s H vs Q E hr h => ?_)
  · obtain ⟨d, c, r, z, rfl, _⟩ := h
    rfl
  obtain ⟨d, c, r, z, rfl, D, q⟩ := h
  refine ⟨_, (pss_cons (ps_set (i := 2) sc__law_end.nd rfl (by first | exact Or.inl rfl | exact Or.inr rfl) (pe_call (ok__law_draw T) (hr.mono (by decide)) (by rfl) T.g__law_draw T.F__law_draw.kp T.b__law_draw .nil pass0 (pa_cons (pv 0) (pa_cons pe_int pa_nil))))
      (pss_cons (ps_set (i := 3) sc__law_end.nd rfl (by first | exact Or.inl rfl | exact Or.inr rfl) (pe_ix (r := rIxL K) ix_list (pe_lst (pa_cons pe_int (pa_cons pe_int (pa_cons pe_int (pa_cons (pe_op op_pow pe_int pe_int) pa_nil))))) (pe_op op_add (pe_callTy c_intB (by rfl) T.z_int (by decide +kernel) (pa_cons (pe_cmpR op_gt (pv 2) pe_int (nomark _)) pa_nil)) (pe_op op_mul pe_int (pe_callTy c_intB (by rfl) T.z_int (by decide +kernel) (pa_cons (pe_cmpR op_eq (pv 1) pe_str (nomark _)) pa_nil)))) (fun _ _ => rfl)))
      (pss_one (ps_ret (pe_ifExp (pt_cmpR op_gt (pv 2) pe_int (nomark _)) (pe_op op_sub (pe_call (ok__law_draw T) (hr.mono (by decide)) (by rfl) T.g__law_draw T.F__law_draw.kp T.b__law_draw .nil pass0 (pa_cons (pv 0) (pa_cons (pe_op op_add (pe_op op_mul pe_int (pv 3)) pe_int) pa_nil))) (pv 3)) pe_non))))), ?_⟩
  try simp only [nox_K, cx_K]
  wtm_at "rd"
  refine ⟨d, c, r, 8, rfl, D, by decide, by decide, fun k H1 k0 k1 D1 E1 => ?_⟩
  wtm_at "rd"
  refine r_I ⟨by decide, by decide, by decide⟩ ?_
  wtm_at "rd"
  refine r_new rfl fun l n_l => ?_
  have D2 := D1.new (o := .lst [V.int 3, .int 12, .int 3, .int (10 ^ (9 : Int).toNat)]) n_l
  have E2 := E1.trans (Ext.of (same_new (o := .lst [V.int 3, .int 12, .int 3, .int (10 ^ (9 : Int).toNat)]) n_l))
  wtm_at "rd"
  refine r_mul (.inl ⟨by decide, by decide⟩) ?_
  rintro _ rfl
  wtm_at "rd"
  obtain ⟨W, hW, W0, W1⟩ := wide_at (decide (k > 5)) (decide (z = "keys"))
  refine r_ixL (SqL.of upd_same) hW ?_
  wtm_at "rd"
  refine r_ite (fun c1 => ?_) (fun c1 => ?_)
  · wtm_at "rd"
    refine r_mul (.inl ⟨by decide, by decide⟩) ?_
    rintro _ rfl
    wtm_at "rd"
    refine ⟨d, c, r, 2 * W + 1, rfl, D2, by omega, by omega, fun m H2 m0 m1 D3 E3 => ?_⟩
    wtm_at "rd"
    exact q (some _) H2 D3 (E2.trans E3)
  · wtm_at "rd"
    exact q none _ D2 E2
theorem ok__law_basic (T : Txt K mg) : FnOk P w K mg base CX0 4 T.f__law_basic T.d__law_basic ["_law_draws"] spBasic := by
  refine T.F__law_basic.ok sc__law_basic (fun vs H Q E h => ?_) (fun cdv A outer s H vs Q E hr h => ?_)
  · obtain ⟨d, c, r, rfl, _⟩ := h
    rfl
  obtain ⟨d, c, r, rfl, D, q⟩ := h
  refine ⟨_, (pss_cons (ps_set (i := 1) sc__law_basic.nd rfl (by first | exact Or.inl rfl | exact Or.inr rfl) (pe_call (ok__law_draw T) (hr.mono (by decide)) (by rfl) T.g__law_draw T.F__law_draw.kp T.b__law_draw .nil pass0 (pa_cons (pv 0) (pa_cons pe_int pa_nil))))
      (pss_cons (ps_if (pt_cmpR op_gt (pv 1) pe_int (nomark _)) (pss_one (ps_ret (pe_ix (r := rIxL K) ix_list (pe_lst (pa_cons (pe_lst (pa_cons pe_str pa_nil)) (pa_cons (pe_lst (pa_cons pe_str pa_nil)) (pa_cons (pe_lst (pa_cons pe_str pa_nil)) (pa_cons (pe_lst (pa_cons pe_str pa_nil)) (pa_cons (pe_lst (pa_cons pe_str pa_nil)) pa_nil)))))) (pe_call (ok__law_draw T) (hr.mono (by decide)) (by rfl) T.g__law_draw T.F__law_draw.kp T.b__law_draw .nil pass0 (pa_cons (pv 0) (pa_cons pe_int pa_nil))) (fun _ _ => rfl)))) pss_nil)
      (pss_cons (ps_set (i := 2) sc__law_basic.nd rfl (by first | exact Or.inl rfl | exact Or.inr rfl) (pe_ix (r := rIxL K) ix_list (pe_lst (pa_cons pe_str (pa_cons pe_str (pa_cons pe_str pa_nil)))) (pe_op op_mod (pe_callTy c_int1 (by rfl) T.z_int (by decide +kernel) (pa_cons (pv 1) pa_nil)) pe_int) (fun _ _ => rfl)))
      (pss_cons (ps_set (i := 3) sc__law_basic.nd rfl (by first | exact Or.inl rfl | exact Or.inr rfl) (pe_lst (pa_cons (pe_call (ok__law_end T) (hr.mono (by decide)) (by rfl) T.g__law_end T.F__law_end.kp T.b__law_end .nil pass0 (pa_cons (pv 0) (pa_cons (pv 2) pa_nil))) (pa_cons (pe_call (ok__law_end T) (hr.mono (by decide)) (by rfl) T.g__law_end T.F__law_end.kp T.b__law_end .nil pass0 (pa_cons (pv 0) (pa_cons (pv 2) pa_nil))) pa_nil))))
      (pss_cons (ps_if (pt_cmpR (r := rIn K true) op_notIn_seq pe_non (pv 3) (by rfl)) (pss_one (ps_set (i := 3) sc__law_basic.nd rfl (by first | exact Or.inl rfl | exact Or.inr rfl) (pe_callB (r := rSortedI K) cr_sortedI (by rfl) T.z_sorted (by decide +kernel) (pa_cons (pv 3) pa_nil)))) pss_nil)
      (pss_one (ps_ret (pe_op op_cat (pe_lst (pa_cons (pv 2) pa_nil)) (pv 3))))))))), ?_⟩
  try simp only [nox_K, cx_K]
  wtm_at "rd"
  refine ⟨d, c, r, 8, rfl, D, by decide, by decide, fun k H1 k0 k1 D1 E1 => ?_⟩
  wtm_at "rd"
  refine r_ite (fun c1 => ?_) (fun c1 => ?_)
  · wtm_at "rd"
    refine r_new rfl fun l0 n0 => ?_
    have N0 := D.back E1 n0
    have D1 := D1.new (o := .lst [V.str "self"]) n0
    have E1 := E1.trans (Ext.of (same_new (o := .lst [V.str "self"]) n0))
    have h0 : (upd H1 l0 (.lst [V.str "self"])) l0 = some (.lst [V.str "self"]) := upd_same
    generalize upd H1 l0 (.lst [V.str "self"]) = G0 at D1 E1 h0 ⊢
    wtm_at "rd"
    refine r_new rfl fun l1 n1 => ?_
    have N1 := D.back E1 n1
    have D1 := D1.new (o := .lst [V.str "ties"]) n1
    have s1 := same_new (o := .lst [V.str "ties"]) n1
    have h0 := s1 _ _ h0
    have E1 := E1.trans (Ext.of s1)
    have h1 : (upd G0 l1 (.lst [V.str "ties"])) l1 = some (.lst [V.str "ties"]) := upd_same
    clear s1
    generalize upd G0 l1 (.lst [V.str "ties"]) = G1 at D1 E1 h0 h1 ⊢
    wtm_at "rd"
    refine r_new rfl fun l2 n2 => ?_
    have N2 := D.back E1 n2
    have D1 := D1.new (o := .lst [V.str "group"]) n2
    have s1 := same_new (o := .lst [V.str "group"]) n2
    have h0 := s1 _ _ h0
    have h1 := s1 _ _ h1
    have E1 := E1.trans (Ext.of s1)
    have h2 : (upd G1 l2 (.lst [V.str "group"])) l2 = some (.lst [V.str "group"]) := upd_same
    clear s1
    generalize upd G1 l2 (.lst [V.str "group"]) = G2 at D1 E1 h0 h1 h2 ⊢
    wtm_at "rd"
    refine r_new rfl fun l3 n3 => ?_
    have N3 := D.back E1 n3
    have D1 := D1.new (o := .lst [V.str "all"]) n3
    have s1 := same_new (o := .lst [V.str "all"]) n3
    have h0 := s1 _ _ h0
    have h1 := s1 _ _ h1
    have h2 := s1 _ _ h2
    have E1 := E1.trans (Ext.of s1)
    have h3 : (upd G2 l3 (.lst [V.str "all"])) l3 = some (.lst [V.str "all"]) := upd_same
    clear s1
    generalize upd G2 l3 (.lst [V.str "all"]) = G3 at D1 E1 h0 h1 h2 h3 ⊢
    wtm_at "rd"
    refine r_new rfl fun l4 n4 => ?_
    have N4 := D.back E1 n4
    have D1 := D1.new (o := .lst [V.str "none"]) n4
    have s1 := same_new (o := .lst [V.str "none"]) n4
    have h0 := s1 _ _ h0
    have h1 := s1 _ _ h1
    have h2 := s1 _ _ h2
    have h3 := s1 _ _ h3
    have E1 := E1.trans (Ext.of s1)
    have h4 : (upd G3 l4 (.lst [V.str "none"])) l4 = some (.lst [V.str "none"]) := upd_same
    clear s1
    generalize upd G3 l4 (.lst [V.str "none"]) = G4 at D1 E1 h0 h1 h2 h3 h4 ⊢
    wtm_at "rd"
    refine r_new rfl fun L nL => ?_
    have D2 := D1.new (o := .lst [V.ref l0, .ref l1, .ref l2, .ref l3, .ref l4]) nL
    have s1 := same_new (o := .lst [V.ref l0, .ref l1, .ref l2, .ref l3, .ref l4]) nL
    have E2 := E1.trans (Ext.of s1)
    have h0 := s1 _ _ h0
    have h1 := s1 _ _ h1
    have h2 := s1 _ _ h2
    have h3 := s1 _ _ h3
    have h4 := s1 _ _ h4
    have hL : (upd G4 L (.lst [V.ref l0, .ref l1, .ref l2, .ref l3, .ref l4])) L = some (.lst [V.ref l0, .ref l1, .ref l2, .ref l3, .ref l4]) := upd_same
    have ldL := D1.ned nL
    have lrL := D1.ner nL
    clear s1
    generalize upd G4 L (.lst [V.ref l0, .ref l1, .ref l2, .ref l3, .ref l4]) = G5 at D2 E2 h0 h1 h2 h3 h4 hL ⊢
    wtm_at "rd"
    refine ⟨d, c, r, 5, rfl, D2, by decide, by decide, fun j H2 j0 j1 D3 E3 => ?_⟩
    have E4 := E2.trans E3
    have kp : ∀ {a : Addr} {o : HO}, H a = none → G5 a = some o → H2 a = some o := fun {a o} n h => E3 _ _ h (fun z => D.some.1 (z ▸ n)) (fun z => D.some.2 (z ▸ n))
    have hL := E3 _ _ hL ldL lrL
    rcases (show j = 0 ∨ j = 1 ∨ j = 2 ∨ j = 3 ∨ j = 4 by omega) with e | e | e | e | e <;> subst e
    · refine r_ixL (SqL.of hL) rfl ?_
      exact q .self l0 H2 trivial rfl rfl ⟨N0, kp N0 h0⟩ D3 E4
    · refine r_ixL (SqL.of hL) rfl ?_
      exact q .ties l1 H2 trivial rfl rfl ⟨N1, kp N1 h1⟩ D3 E4
    · refine r_ixL (SqL.of hL) rfl ?_
      exact q .group l2 H2 trivial rfl rfl ⟨N2, kp N2 h2⟩ D3 E4
    · refine r_ixL (SqL.of hL) rfl ?_
      exact q .all l3 H2 trivial rfl rfl ⟨N3, kp N3 h3⟩ D3 E4
    · refine r_ixL (SqL.of hL) rfl ?_
      exact q .none l4 H2 trivial rfl rfl ⟨N4, kp N4 h4⟩ D3 E4
  wtm_at "rd"
  refine r_new rfl fun l n_l => ?_
  have D2 := D1.new (o := .lst [V.str "rows", .str "groups", .str "keys"]) n_l
  have E2 := E1.trans (Ext.of (same_new (o := .lst [V.str "rows", .str "groups", .str "keys"]) n_l))
  wtm_at "rd"
  refine r_mod (by decide) fun m m0 m1 _ => ?_
  obtain ⟨n, hn, hm⟩ := ax_at m0 m1
  refine r_ixL (SqL.of upd_same) hm ?_
  generalize upd H1 l (.lst [V.str "rows", .str "groups", .str "keys"]) = G1 at D2 E2 ⊢
  wtm_at "rd"
  refine ⟨d, c, r, axS n, rfl, D2, fun e1 H3 D3 E3 => ?_⟩
  have E3 := E2.trans E3
  wtm_at "rd"
  refine ⟨d, c, r, axS n, rfl, D3, fun e2 H4 D4 E4 => ?_⟩
  have E4 := E3.trans E4
  wtm_at "rd"
  refine r_new rfl fun p n_p => ?_
  have N_p := D.back E4 n_p
  have D5 := D4.new (o := .lst [endV e1, endV e2]) n_p
  have E5 := E4.trans (Ext.of (same_new (o := .lst [endV e1, endV e2]) n_p))
  have h_p : (upd H4 p (.lst [endV e1, endV e2])) p = some (.lst [endV e1, endV e2]) := upd_same
  generalize upd H4 p (.lst [endV e1, endV e2]) = G5 at D5 E5 h_p ⊢
  have fin : ∀ (lo hi : En) (p : Addr) (G : Hp) (F : Addr → Hp → Prop), EndsOk lo hi → G p = some (.lst [endV lo, endV hi]) → Drw G d c r → Ext d r H G → (∀ (t : Tr) (p : Addr) (H' : Hp), t.ok → t.leaves = 1 → t.dep = 0 → TrAt (fun a => H a = none) H' t p → Drw H' d c r → Ext d r H H' → F p H') →
      ∀ w, G w = none → rCat (.ref w) (.ref p) (upd G w (.lst [V.str (axS n)])) (fun v H' => ∃ b, v = .ref b ∧ F b H') := by
    intro lo hi p G F ok hp D6 E6 hq w n_w
    have D7 := D6.new (o := .lst [V.str (axS n)]) n_w
    have E7 := E6.trans (Ext.of (same_new (o := .lst [V.str (axS n)]) n_w))
    refine r_cat upd_same (same_new (o := .lst [V.str (axS n)]) n_w _ _ hp) (Nat.le_of_ble_eq_true rfl) fun b n_b => ⟨b, rfl, ?_⟩
    obtain ⟨o1, o2, o3⟩ := ax_ok hn ok
    exact hq (Tr.ax n lo hi) b _ o1 o2 o3 (ax_tr hn (D.back E7 n_b) upd_same) (D7.new n_b) (E7.trans (Ext.of (same_new n_b)))
  wtm_at "rd"
  cases e1 with
  | none =>
    refine r_ninV false (SqL.of h_p) rfl (by cases e2 <;> rfl) rfl ?_
    wtm_at "rdi"
    refine r_new rfl fun w n_w => ?_
    wtm_at "rd"
    obtain ⟨a, b, xs, zs, k1, k2, k3, k4, k5, k6⟩ := fin none e2 p G5 (fun b H' => Q (.ref b) H') (fun a b h _ => nomatch h) h_p D5 E5 q w n_w
    refine ⟨a, b, xs, zs, k1, k2, k3, k4, k5, fun p hp => ?_⟩
    obtain ⟨b', e, z⟩ := k6 p hp
    cases e
    exact z
  | some x =>
    cases e2 with
    | none =>
      refine r_ninV false (SqL.of h_p) rfl rfl rfl ?_
      wtm_at "rdi"
      refine r_new rfl fun w n_w => ?_
      wtm_at "rd"
      obtain ⟨a, b, xs, zs, k1, k2, k3, k4, k5, k6⟩ := fin (some x) none p G5 (fun b H' => Q (.ref b) H') (fun a b _ h => nomatch h) h_p D5 E5 q w n_w
      refine ⟨a, b, xs, zs, k1, k2, k3, k4, k5, fun p hp => ?_⟩
      obtain ⟨b', e, z⟩ := k6 p hp
      cases e
      exact z
    | some y =>
      refine r_ninV true (SqL.of h_p) rfl rfl rfl ?_
      wtm_at "rdi"
      refine ⟨p, [x, y], rfl, SqL.of h_p, fun ns' p2 pm pw n_p2 => ?_⟩
      obtain ⟨x', y', rfl, le⟩ := sort_two pm pw
      have D6 := D5.new (o := .lst ([x', y'].map V.int)) n_p2
      have E6 := E5.trans (Ext.of (same_new (o := .lst ([x', y'].map V.int)) n_p2))
      have h_p2 : (upd G5 p2 (.lst ([x', y'].map V.int))) p2 = some (.lst ([x', y'].map V.int)) := upd_same
      generalize upd G5 p2 (.lst ([x', y'].map V.int)) = G6 at D6 E6 h_p2 ⊢
      wtm_at "rd"
      refine r_new rfl fun w n_w => ?_
      wtm_at "rd"
      obtain ⟨a, b, xs, zs, k1, k2, k3, k4, k5, k6⟩ := fin (some x') (some y') p2 G6 (fun b H' => Q (.ref b) H') (fun a b h h' => (by cases h; cases h'; exact le)) h_p2 D6 E6 q w n_w
      refine ⟨a, b, xs, zs, k1, k2, k3, k4, k5, fun p hp => ?_⟩
      obtain ⟨b', e, z⟩ := k6 p hp
      cases e
      exact z
theorem ok__law_tree (T : Txt K mg) : ∀ n : Nat, FnOk P w K mg base CX0 (n + 4) T.f__law_tree T.d__law_tree ["_law_draws", "_law_depth"] (spTree n)
  | 0 => ⟨fun vs H Q E h => by obtain ⟨d, c, r, k, _, h, _⟩ := h; exact absurd h (by omega), fun A outer s H args us vs Q E _ _ _ _ h => by obtain ⟨d, c, r, k, _, h, _⟩ := h; exact absurd h (by omega)⟩
  | n + 1 => by
    have ih := ok__law_tree T n
    refine T.F__law_tree.ok sc__law_tree (fun vs H Q E h => ?_) (fun cdv A outer s H vs Q E hr h => ?_)
    · obtain ⟨d, c, r, k, rfl, _⟩ := h
      rfl
    obtain ⟨d, c, r, k, rfl, hk, D, q⟩ := h
    refine ⟨_, (pss_cons (ps_set (i := 2) sc__law_tree.nd rfl (by first | exact Or.inl rfl | exact Or.inr rfl) (pe_call (ok__law_draw T) (hr.mono (by omega)) (by rfl) T.g__law_draw T.F__law_draw.kp T.b__law_draw .nil pass0 (pa_cons (pv 0) (pa_cons pe_int pa_nil))))
      (pss_cons (ps_if (PW.pt (pw_or (pt_cmpR op_eq (pv 1) pe_int (nomark _)) (pw_or1 (pt_cmpR op_lt (pv 2) pe_int (nomark _))))) (pss_one (ps_ret (pe_call (ok__law_basic T) (hr.mono (by omega)) (by rfl) T.g__law_basic T.F__law_basic.kp T.b__law_basic .nil pass0 (pa_cons (pv 0) pa_nil)))) pss_nil)
      (pss_cons (ps_set (i := 3) sc__law_tree.nd rfl (by first | exact Or.inl rfl | exact Or.inr rfl) (pe_call ih (hr.mono (by omega)) (by rfl) T.g__law_tree T.F__law_tree.kp T.b__law_tree .nil pass0 (pa_cons (pv 0) (pa_cons (pe_op op_sub (pv 1) pe_int) pa_nil))))
      (pss_cons (ps_if (pt_cmpR op_lt (pv 2) pe_int (nomark _)) (pss_one (ps_ret (pe_lst (pa_cons (pe_ix (r := rIxL K) ix_list (pe_lst (pa_cons pe_str (pa_cons pe_str pa_nil))) (pe_op op_sub (pv 2) pe_int) (fun _ _ => rfl)) (pa_cons (pv 3) pa_nil))))) pss_nil)
      (pss_one (ps_ret (pe_lst (pa_cons (pe_ix (r := rIxL K) ix_list (pe_lst (pa_cons pe_str (pa_cons pe_str (pa_cons pe_str (pa_cons pe_str pa_nil))))) (pe_call (ok__law_draw T) (hr.mono (by omega)) (by rfl) T.g__law_draw T.F__law_draw.kp T.b__law_draw .nil pass0 (pa_cons (pv 0) (pa_cons pe_int pa_nil))) (fun _ _ => rfl)) (pa_cons (pv 3) (pa_cons (pe_call ih (hr.mono (by omega)) (by rfl) T.g__law_tree T.F__law_tree.kp T.b__law_tree .nil pass0 (pa_cons (pv 0) (pa_cons (pe_op op_sub (pv 1) pe_int) pa_nil))) pa_nil)))))))))), ?_⟩
    try simp only [nox_K, cx_K]
    wtm_at "rd"
    refine ⟨d, c, r, 8, rfl, D, by decide, by decide, fun j H1 j0 j1 D1 E1 => ?_⟩
    wtm_at "rd"
    have base : ∀ (p : Addr) (t : Tr) (H' : Hp), t.ok → t.leaves = 1 → t.dep = 0 → TrAt (fun a => H1 a = none) H' t p → Drw H' d c r → Ext d r H1 H' → Q (.ref p) H' := fun p t H' h1 h2 h3 h4 h5 h6 =>
      q t p H' h1 (by rw [h2]; exact Nat.one_le_two_pow) (by omega) (h4.mono fun a ha => D.back E1 ha) h5 (E1.trans h6)
    refine r_ite (fun c1 => ?_) (fun c1 => ?_)
    · wtm_at "rd"
      refine iteT ?_
      wtm_at "rd"
      exact ⟨d, c, r, rfl, D1, fun t p H' h1 h2 h3 h4 h5 h6 => base p t H' h1 h2 h3 h4 h5 h6⟩
    wtm_at "rd"
    refine r_ite (fun c2 => ?_) (fun c2 => ?_)
    · wtm_at "rd"
      exact ⟨d, c, r, rfl, D1, fun t p H' h1 h2 h3 h4 h5 h6 => base p t H' h1 h2 h3 h4 h5 h6⟩
    obtain ⟨m, rfl⟩ : ∃ m, k = m + 1 := ⟨k - 1, by omega⟩
    wtm_at "rd"
    refine ⟨d, c, r, m, by rw [show ((m + 1 : Nat) : Int) - 1 = (m : Int) by omega]; rfl, by omega, D1, fun t p H2 t1 t2 t3 t4 D2 E2 => ?_⟩
    have t4 := t4.mono fun a (ha : H1 a = none) => (show H a = none from D.back E1 ha)
    have E2 := E1.trans E2
    have pw : 2 ^ (m + 1) = 2 ^ m + 2 ^ m := by rw [Nat.pow_succ]; omega
    wtm_at "rd"
    refine r_ite (fun c3 => ?_) (fun c3 => ?_)
    · wtm_at "rd"
      refine r_new rfl fun l n_l => ?_
      have s1 := same_new (o := .lst [V.str "~", .str "neg"]) n_l
      have D3 := D2.new (o := .lst [V.str "~", .str "neg"]) n_l
      have E3 := E2.trans (Ext.of s1)
      have t4 := t4.same s1
      wtm_at "rd"
      rcases (show j = 3 ∨ j = 4 by omega) with e | e <;> subst e
      · refine r_ixL (SqL.of upd_same) rfl ?_
        wtm_at "rd"
        refine r_new rfl fun b n_b => ?_
        exact q (.inv t) b _ t1 (by show t.leaves ≤ _; omega) (by show t.dep + 1 ≤ _; omega) ⟨D.back E3 n_b, p, upd_same, t4.same (same_new n_b)⟩ (D3.new n_b) (E3.trans (Ext.of (same_new n_b)))
      · refine r_ixL (SqL.of upd_same) rfl ?_
        wtm_at "rd"
        refine r_new rfl fun b n_b => ?_
        exact q (.neg t) b _ t1 (by show t.leaves ≤ _; omega) (by show t.dep + 1 ≤ _; omega) ⟨D.back E3 n_b, p, upd_same, t4.same (same_new n_b)⟩ (D3.new n_b) (E3.trans (Ext.of (same_new n_b)))
    wtm_at "rd"
    refine r_new rfl fun l n_l => ?_
    have s1 := same_new (o := .lst [V.str "&", .str "|", .str "-", .str "^"]) n_l
    have D3 := D2.new (o := .lst [V.str "&", .str "|", .str "-", .str "^"]) n_l
    have E3 := E2.trans (Ext.of s1)
    have t4 := t4.same s1
    have hl : (upd H2 l (.lst [V.str "&", .str "|", .str "-", .str "^"])) l = some (.lst [V.str "&", .str "|", .str "-", .str "^"]) := upd_same
    have n1 := D2.ned n_l
    have n2 := D2.ner n_l
    clear s1
    generalize upd H2 l (.lst [V.str "&", .str "|", .str "-", .str "^"]) = G1 at D3 E3 t4 hl ⊢
    wtm_at "rd"
    refine ⟨d, c, r, 4, rfl, D3, by decide, by decide, fun i H3 i0 i1 D4 E4 => ?_⟩
    have hl := E4 _ _ hl n1 n2
    have t4 := t4.keep (keep_d D D3 E4)
    have E4 := E3.trans E4
    rcases (show i = 0 ∨ i = 1 ∨ i = 2 ∨ i = 3 by omega) with e | e | e | e <;> subst e
    · refine r_ixL (SqL.of hl) rfl ?_
      wtm_at "rd"
      refine ⟨d, c, r, m, by rw [show ((m + 1 : Nat) : Int) - 1 = (m : Int) by omega]; rfl, by omega, D4, fun u p2 H4 u1 u2 u3 u4 D5 E5 => ?_⟩
      have u4 := u4.mono fun a (ha : H3 a = none) => (show H a = none from D.back E4 ha)
      have t4 := t4.keep (keep_d D D4 E5)
      have E5 := E4.trans E5
      wtm_at "rd"
      refine r_new rfl fun b n_b => ?_
      have s1 := same_new (o := .lst [V.str "&", .ref p, .ref p2]) n_b
      exact q (.and t u) b _ ⟨t1, u1⟩ (by show t.leaves + u.leaves ≤ _; omega) (by show max t.dep u.dep + 1 ≤ _; omega) ⟨D.back E5 n_b, p, p2, upd_same, t4.same s1, u4.same s1⟩ (D5.new n_b) (E5.trans (Ext.of s1))
    · refine r_ixL (SqL.of hl) rfl ?_
      wtm_at "rd"
      refine ⟨d, c, r, m, by rw [show ((m + 1 : Nat) : Int) - 1 = (m : Int) by omega]; rfl, by omega, D4, fun u p2 H4 u1 u2 u3 u4 D5 E5 => ?_⟩
      have u4 := u4.mono fun a (ha : H3 a = none) => (show H a = none from D.back E4 ha)
      have t4 := t4.keep (keep_d D D4 E5)
      have E5 := E4.trans E5
      wtm_at "rd"
      refine r_new rfl fun b n_b => ?_
      have s1 := same_new (o := .lst [V.str "|", .ref p, .ref p2]) n_b
      exact q (.or t u) b _ ⟨t1, u1⟩ (by show t.leaves + u.leaves ≤ _; omega) (by show max t.dep u.dep + 1 ≤ _; omega) ⟨D.back E5 n_b, p, p2, upd_same, t4.same s1, u4.same s1⟩ (D5.new n_b) (E5.trans (Ext.of s1))
    · refine r_ixL (SqL.of hl) rfl ?_
      wtm_at "rd"
      refine ⟨d, c, r, m, by rw [show ((m + 1 : Nat) : Int) - 1 = (m : Int) by omega]; rfl, by omega, D4, fun u p2 H4 u1 u2 u3 u4 D5 E5 => ?_⟩
      have u4 := u4.mono fun a (ha : H3 a = none) => (show H a = none from D.back E4 ha)
      have t4 := t4.keep (keep_d D D4 E5)
      have E5 := E4.trans E5
      wtm_at "rd"
      refine r_new rfl fun b n_b => ?_
      have s1 := same_new (o := .lst [V.str "-", .ref p, .ref p2]) n_b
      exact q (.sub t u) b _ ⟨t1, u1⟩ (by show t.leaves + u.leaves ≤ _; omega) (by show max t.dep u.dep + 1 ≤ _; omega) ⟨D.back E5 n_b, p, p2, upd_same, t4.same s1, u4.same s1⟩ (D5.new n_b) (E5.trans (Ext.of s1))
    · refine r_ixL (SqL.of hl) rfl ?_
      wtm_at "rd"
      refine ⟨d, c, r, m, by rw [show ((m + 1 : Nat) : Int) - 1 = (m : Int) by omega]; rfl, by omega, D4, fun u p2 H4 u1 u2 u3 u4 D5 E5 => ?_⟩
      have u4 := u4.mono fun a (ha : H3 a = none) => (show H a = none from D.back E4 ha)
      have t4 := t4.keep (keep_d D D4 E5)
      have E5 := E4.trans E5
      wtm_at "rd"
      refine r_new rfl fun b n_b => ?_
      have s1 := same_new (o := .lst [V.str "^", .ref p, .ref p2]) n_b
      exact q (.xor t u) b _ ⟨t1, u1⟩ (by show t.leaves + u.leaves ≤ _; omega) (by show max t.dep u.dep + 1 ≤ _; omega) ⟨D.back E5 n_b, p, p2, upd_same, t4.same s1, u4.same s1⟩ (D5.new n_b) (E5.trans (Ext.of s1))

end

section
open PySem.W
variable {A : Around} {E : Value → Shared → Prop} {s : Shared} {K : PySem.W.Frag} {x C f : Addr} {ox : Obj} {od : Option Obj}
theorem inv_own {M : Model} {Q : Value → Shared → Prop} (X : K.In s.heap) (I : InstAt s.heap x ox C od) (hs : findIn K (.ref C) "__invert__" = some (some (.ref f))) (hf : isFn K (.ref f) = true)
    (h : wpAny M A (call (.ref f) [.ref x]) Q E s) : wpAny M A (unaryOp .Invert (.ref x)) Q E s := by
  unfold unaryOp
  refine wpAny_holding ?_
  dsimp only
  rw [if_neg (by decide)]
  exact wpAny_bind (special_fn X I hs (beq_iff_eq.mp hf) (wpAny_mono h (fun _ _ z => wpAny_pure z) fun _ _ z => z))
end
section
variable {X : Cx} {CX : CXT} {k : Nat} {g C : Addr} {fd : FuncData} {ps : List Str} {sp : Sp} {E : XK}
theorem un_invO (hs : PySem.W.findIn X.K (.ref C) "__invert__" = some (some (.ref g))) (hf : PySem.W.isFn X.K (.ref g) = true) (F : FnOk X.prog X.w X.K X.mg X.base CX k g fd ps sp) (hr : Room k X.A) (hb : Binds X.K fd ps []) (hx : Passes CX X E) :
    UnR X (unaryOp .Invert) (rNegO C sp E) := by
  intro pins s σ H x v Q I rx h
  obtain ⟨a, dx, fs, rfl, ha, q⟩ := h
  cases (show v = Value.ref a from rx)
  obtain ⟨ox, od, J⟩ := inst_at I ha
  exact inv_own I.kIn J hs hf (run_fn (ds := []) (dvs := []) (vs := [.ref a]) F hr hb .nil hx I (.cons rfl .nil) (by rw [List.append_nil]; exact q))
theorem pe_indexK {X : Cx} {K : PySem.W.Frag} {o e : Expr} {es : List Expr} {to : TE} {t : TA} {apos cpos : Pos} (hK : X.K = K) (ho : PE X o to) (ha : PA X (e :: es) t) (h1 : attributeBase o "index" X.env (eval o X.env) = eval o X.env := by rfl)
    (h2 : ((backTo cpos (starEach (e :: es) X.env)).all (fun x => !x.1) && (backToKw cpos (keywordEach [] X.env)).all (fun x => x.1.isSome) && decide ((e :: es).length + ([] : List Keyword).length + (if ([] : List Keyword).isEmpty then 0 else 1) < 30)) = true := by rfl)
    (h3 : (apos.endLine == cpos.line) = true := by rfl) (h4 : starEach (e :: es) X.env = (false, eval e X.env) :: starEach es X.env := by rfl) (h5 : (backTo cpos (starEach es X.env)).any (·.1) = false := by rfl) : PE X (.Call (.Attribute o "index" apos) (e :: es) [] cpos) (tBM K "list" (rIndex K) to t) := by
  subst hK
  exact pe_bm PySem.F.plainAttrs_list PySem.F.slot_list_index PySem.F.type_list_index mt_index ho ha h1 h2 h3 h4 h5
end
theorem r_idxS {K : PySem.W.Frag} {H : Hp} {Q : VK} {a : Addr} {ss : List Str} {z : Str} {j : Nat} (h : SqL K H a (ss.map V.str)) (e : ss[j]? = some z) (n : ∀ m, m < j → ss[m]? ≠ some z) (q : Q (.int j) H) : rIndex K (.ref a) [.str z] H Q := by
  refine ⟨a, ss.map V.str, .str z, j, .str z, rfl, rfl, h, rfl, ?_, by rw [List.getElem?_map, e]; rfl, ?_, ?_, q⟩
  · rw [List.all_map]
    exact List.all_eq_true.mpr fun _ _ => rfl
  · show (z == z) = true
    exact beq_self_eq_true z
  · intro m z' hm hz
    rw [List.getElem?_map] at hz
    cases hs : ss[m]? with
    | none => rw [hs] at hz; cases hz
    | some y =>
      rw [hs] at hz
      cases hz
      show (y == z) = false
      rw [beq_eq_false_iff_ne]
      intro e
      exact n m hm (by rw [hs, e])
/-- x in a written list of texts -/
theorem r_inB {K : PySem.W.Frag} {H : Hp} {Q : VK} {z : Str} {p : Addr} {ws : List Str} (b : Bool) (h : SqL K H p (ws.map V.str)) (e : inV (.str z) (ws.map V.str) = b) (q : Q (.bl b) H) : rIn K false (.str z) (.ref p) H Q := by
  refine r_inL h rfl ?_ ?_
  · rw [List.all_map]
    exact List.all_eq_true.mpr fun _ _ => rfl
  · rw [e]
    exact q
def opL : List Str := ["&", "|", "-", "^"]
theorem nomem {ss : List Str} {z : Str} {j : Nat} (h : z ∉ ss.take j) : ∀ m, m < j → ss[m]? ≠ some z := fun m hm e => h (List.mem_of_getElem? (i := m) (by rw [List.getElem?_take, if_pos hm, e]))
def spHolds (n : Nat) : Sp := fun vs H Q _ => ∃ (p : Addr) (r g d : Int) (N : Addr → Prop) (t : Tr), vs = [.ref p, .int r, .int g, .int d] ∧ t.dep < n ∧ TrAt N H t p ∧ ∀ H', Same H H' → Q (.bl (t.holds r g d)) H'
def spReg (C CW CS : Addr) (n : Nat) : Sp := fun vs H Q _ => ∃ (p : Addr) (N : Addr → Prop) (t : Tr), vs = [.ref p] ∧ t.dep < n ∧ t.ok ∧ t.leaves ≤ 9 ∧ TrAt N H t p ∧
  ∀ x H', H x = none → RgAt C CW CS (fun a => H a = none) H' x t.w t.ex → Same H H' → Q (.ref x) H'
theorem Ex.le.mono {a : Ex} {n m : Nat} (h : a.le n) (k : n ≤ m) : a.le m := ⟨Nat.le_trans h.l k, Nat.le_trans h.r k, Nat.le_trans h.g k, Nat.le_trans h.d k⟩
theorem ins_cases (lo hi : En) (x : Int) : Gr.ins lo hi x = ((match lo with | none => true | some a => decide (a ≤ x)) && (match hi with | none => true | some b => decide (x ≤ b))) := by
  unfold Gr.ins
  rfl
section
variable {P : Program} {w : World} {K : PySem.W.Frag} {mg : Str → Option Value} {base : Heap}

theorem ok__law_holds (T : Txt K mg) : ∀ n : Nat, FnOk P w K mg base CX0 (n + 1) T.f__law_holds T.d__law_holds ["_law_tree_here", "_law_d", "_law_g", "_law_k"] (spHolds n)
  | 0 => ⟨fun vs H Q E h => by obtain ⟨p, r, g, d, N, t, _, h, _⟩ := h; exact absurd h (by omega), fun A outer s H args us vs Q E _ _ _ _ h => by obtain ⟨p, r, g, d, N, t, _, h, _⟩ := h; exact absurd h (by omega)⟩
  | n + 1 => by
    have ih := ok__law_holds T n
    refine T.F__law_holds.ok sc__law_holds (fun vs H Q E h => ?_) (fun cdv A outer s H vs Q E hr h => ?_)
    · obtain ⟨p, r, g, d, N, t, rfl, _⟩ := h
      rfl
    obtain ⟨p, r, g, d, N, t, rfl, hk, ht, q⟩ := h
    refine ⟨_, (pss_cons (ps_set (i := 4) sc__law_holds.nd rfl (by first | exact Or.inl rfl | exact Or.inr rfl) (pe_ix (r := rIxL K) ix_list (pv 0) pe_int (fun _ _ => rfl)))
      (pss_cons (ps_if (pt_cmpR (r := rIn K false) op_in_seq (pv 4) (pe_lst (pa_cons pe_str (pa_cons pe_str (pa_cons pe_str pa_nil)))) (by rfl)) (pss_cons (ps_set (i := 5) sc__law_holds.nd rfl (by first | exact Or.inl rfl | exact Or.inr rfl) (pe_ix (r := rIxL K) ix_list (pe_lst (pa_cons (pv 1) (pa_cons (pv 2) (pa_cons (pv 3) pa_nil)))) (pe_indexK (K := K) rfl (pe_lst (pa_cons pe_str (pa_cons pe_str (pa_cons pe_str pa_nil)))) (pa_cons (pv 4) pa_nil)) (fun _ _ => rfl)))
      (pss_one (ps_ret (pe_and (pe_or (pe_cmpR o_isN (pe_ix (r := rIxL K) ix_list (pv 0) pe_int (fun _ _ => rfl)) pe_non (nomark _)) (pe_one (pe_cmpR op_le (pe_ix (r := rIxL K) ix_list (pv 0) pe_int (fun _ _ => rfl)) (pv 5) (nomark _)))) (pe_one (pe_or (pe_cmpR o_isN (pe_ix (r := rIxL K) ix_list (pv 0) pe_int (fun _ _ => rfl)) pe_non (nomark _)) (pe_one (pe_cmpR op_le (pv 5) (pe_ix (r := rIxL K) ix_list (pv 0) pe_int (fun _ _ => rfl)) (nomark _))))))))) pss_nil)
      (pss_cons (ps_if (pt_cmpR op_eq (pe_callB (r := rLenL K) (id := "len") c_len (by rfl) T.z_len (by decide +kernel) (pa_cons (pv 0) pa_nil)) pe_int (nomark _)) (pss_cons (ps_set (i := 6) sc__law_holds.nd rfl (by first | exact Or.inl rfl | exact Or.inr rfl) (pe_indexK (K := K) rfl (pe_lst (pa_cons pe_str (pa_cons pe_str (pa_cons pe_str (pa_cons pe_str (pa_cons pe_str pa_nil)))))) (pa_cons (pv 4) pa_nil)))
      (pss_one (ps_ret (pe_ix (r := rIxL K) ix_list (pe_lst (pa_cons (pe_cmpR op_eq (pv 1) pe_int (nomark _)) (pa_cons (pe_and (pe_cmpR op_eq (pv 2) pe_int (nomark _)) (pe_one (pe_cmpR op_ne (pv 1) pe_int (nomark _)))) (pa_cons (pe_cmpR op_eq (pv 2) pe_int (nomark _)) (pa_cons pe_bl (pa_cons pe_bl pa_nil)))))) (pv 6) (fun _ _ => rfl))))) pss_nil)
      (pss_cons (ps_if (pt_cmpR op_eq (pv 4) pe_str (nomark _)) (pss_one (ps_ret (pe_call ih (hr.mono (by omega)) (by rfl) T.g__law_holds T.F__law_holds.kp T.b__law_holds .nil pass0 (pa_cons (pe_ix (r := rIxL K) ix_list (pv 0) pe_int (fun _ _ => rfl)) (pa_cons (pe_op op_sub pe_int (pv 1)) (pa_cons (pe_op op_sub pe_int (pv 2)) (pa_cons (pe_op op_sub pe_int (pv 3)) pa_nil))))))) pss_nil)
      (pss_cons (ps_set (i := 7) sc__law_holds.nd rfl (by first | exact Or.inl rfl | exact Or.inr rfl) (pe_call ih (hr.mono (by omega)) (by rfl) T.g__law_holds T.F__law_holds.kp T.b__law_holds .nil pass0 (pa_cons (pe_ix (r := rIxL K) ix_list (pv 0) pe_int (fun _ _ => rfl)) (pa_cons (pv 1) (pa_cons (pv 2) (pa_cons (pv 3) pa_nil))))))
      (pss_cons (ps_if (pt_cmpR op_eq (pv 4) pe_str (nomark _)) (pss_one (ps_ret (pe_not (pv 7)))) pss_nil)
      (pss_cons (ps_set (i := 8) sc__law_holds.nd rfl (by first | exact Or.inl rfl | exact Or.inr rfl) (pe_call ih (hr.mono (by omega)) (by rfl) T.g__law_holds T.F__law_holds.kp T.b__law_holds .nil pass0 (pa_cons (pe_ix (r := rIxL K) ix_list (pv 0) pe_int (fun _ _ => rfl)) (pa_cons (pv 1) (pa_cons (pv 2) (pa_cons (pv 3) pa_nil))))))
      (pss_cons (ps_set (i := 6) sc__law_holds.nd rfl (by first | exact Or.inl rfl | exact Or.inr rfl) (pe_indexK (K := K) rfl (pe_lst (pa_cons pe_str (pa_cons pe_str (pa_cons pe_str (pa_cons pe_str pa_nil))))) (pa_cons (pv 4) pa_nil)))
      (pss_one (ps_ret (pe_ix (r := rIxL K) ix_list (pe_lst (pa_cons (pe_and (pv 7) (pe_one (pv 8))) (pa_cons (pe_or (pv 7) (pe_one (pv 8))) (pa_cons (pe_and (pv 7) (pe_one (pe_not (pv 8)))) (pa_cons (pe_cmpR op_ne (pv 7) (pv 8) (nomark _)) pa_nil))))) (pv 6) (fun _ _ => rfl)))))))))))), ?_⟩
    try simp only [nox_K, cx_K]
    cases t
    case rows lo hi =>
      obtain ⟨hN, hp⟩ := ht
      wtm_at "rd"
      try refine r_ixL (SqL.of hp) rfl ?_
      wtm_at "rd"
      refine r_new rfl fun l1 n_l1 => ?_
      have s_l1 := same_new (o := .lst [.str "rows", .str "groups", .str "keys"]) n_l1
      have hp := s_l1 _ _ hp
      have h_l1 : (upd H l1 (.lst [.str "rows", .str "groups", .str "keys"])) l1 = some (.lst [.str "rows", .str "groups", .str "keys"]) := upd_same
      have S := s_l1
      generalize upd H l1 (.lst [.str "rows", .str "groups", .str "keys"]) = H1 at hp h_l1 S s_l1 ⊢
      wtm_at "rd"
      refine r_inB (ws := axL) true (SqL.of h_l1) (by decide +kernel) ?_
      wtm_at "rd"
      refine iteT ?_
      wtm_at "rd"
      refine r_new rfl fun l2 n_l2 => ?_
      have s_l2 := same_new (o := .lst [.int r, .int g, .int d]) n_l2
      have hp := s_l2 _ _ hp
      have h_l2 : (upd H1 l2 (.lst [.int r, .int g, .int d])) l2 = some (.lst [.int r, .int g, .int d]) := upd_same
      have S := S.trans s_l2
      generalize upd H1 l2 (.lst [.int r, .int g, .int d]) = H2 at hp h_l2 S s_l2 ⊢
      wtm_at "rd"
      refine r_new rfl fun l3 n_l3 => ?_
      have s_l3 := same_new (o := .lst [.str "rows", .str "groups", .str "keys"]) n_l3
      have hp := s_l3 _ _ hp
      have h_l2 := s_l3 _ _ h_l2
      have h_l3 : (upd H2 l3 (.lst [.str "rows", .str "groups", .str "keys"])) l3 = some (.lst [.str "rows", .str "groups", .str "keys"]) := upd_same
      have S := S.trans s_l3
      generalize upd H2 l3 (.lst [.str "rows", .str "groups", .str "keys"]) = H3 at hp h_l2 h_l3 S s_l3 ⊢
      wtm_at "rd"
      refine r_tyL (SqL.of h_l3) ?_
      wtm_at "rd"
      refine r_idxS (ss := axL) (j := 0) (SqL.of h_l3) rfl (nomem (by decide +kernel)) ?_
      refine r_ixL (SqL.of h_l2) rfl ?_
      have q := q H3 S
      have e : Tr.holds (.rows lo hi) r g d = Gr.ins lo hi r := rfl
      rw [e, ins_cases] at q
      clear e
      cases lo <;> cases hi <;> dsimp only [endV] at hp q
      all_goals
        repeat' (first | wtm_at "rd1" | refine r_ixL (SqL.of hp) rfl ?_ | with_reducible refine iteT ?_ | with_reducible refine iteF ?_ | with_reducible refine r_ite (fun c => ?_) (fun c => ?_))
      all_goals (refine bl_to q ?_; first | rfl | simp only [*, decide_true, decide_false, Bool.true_and, Bool.false_and, Bool.and_true, Bool.and_false, Bool.not_true, Bool.not_false])
    case groups lo hi =>
      obtain ⟨hN, hp⟩ := ht
      wtm_at "rd"
      try refine r_ixL (SqL.of hp) rfl ?_
      wtm_at "rd"
      refine r_new rfl fun l1 n_l1 => ?_
      have s_l1 := same_new (o := .lst [.str "rows", .str "groups", .str "keys"]) n_l1
      have hp := s_l1 _ _ hp
      have h_l1 : (upd H l1 (.lst [.str "rows", .str "groups", .str "keys"])) l1 = some (.lst [.str "rows", .str "groups", .str "keys"]) := upd_same
      have S := s_l1
      generalize upd H l1 (.lst [.str "rows", .str "groups", .str "keys"]) = H1 at hp h_l1 S s_l1 ⊢
      wtm_at "rd"
      refine r_inB (ws := axL) true (SqL.of h_l1) (by decide +kernel) ?_
      wtm_at "rd"
      refine iteT ?_
      wtm_at "rd"
      refine r_new rfl fun l2 n_l2 => ?_
      have s_l2 := same_new (o := .lst [.int r, .int g, .int d]) n_l2
      have hp := s_l2 _ _ hp
      have h_l2 : (upd H1 l2 (.lst [.int r, .int g, .int d])) l2 = some (.lst [.int r, .int g, .int d]) := upd_same
      have S := S.trans s_l2
      generalize upd H1 l2 (.lst [.int r, .int g, .int d]) = H2 at hp h_l2 S s_l2 ⊢
      wtm_at "rd"
      refine r_new rfl fun l3 n_l3 => ?_
      have s_l3 := same_new (o := .lst [.str "rows", .str "groups", .str "keys"]) n_l3
      have hp := s_l3 _ _ hp
      have h_l2 := s_l3 _ _ h_l2
      have h_l3 : (upd H2 l3 (.lst [.str "rows", .str "groups", .str "keys"])) l3 = some (.lst [.str "rows", .str "groups", .str "keys"]) := upd_same
      have S := S.trans s_l3
      generalize upd H2 l3 (.lst [.str "rows", .str "groups", .str "keys"]) = H3 at hp h_l2 h_l3 S s_l3 ⊢
      wtm_at "rd"
      refine r_tyL (SqL.of h_l3) ?_
      wtm_at "rd"
      refine r_idxS (ss := axL) (j := 1) (SqL.of h_l3) rfl (nomem (by decide +kernel)) ?_
      refine r_ixL (SqL.of h_l2) rfl ?_
      have q := q H3 S
      have e : Tr.holds (.groups lo hi) r g d = Gr.ins lo hi g := rfl
      rw [e, ins_cases] at q
      clear e
      cases lo <;> cases hi <;> dsimp only [endV] at hp q
      all_goals
        repeat' (first | wtm_at "rd1" | refine r_ixL (SqL.of hp) rfl ?_ | with_reducible refine iteT ?_ | with_reducible refine iteF ?_ | with_reducible refine r_ite (fun c => ?_) (fun c => ?_))
      all_goals (refine bl_to q ?_; first | rfl | simp only [*, decide_true, decide_false, Bool.true_and, Bool.false_and, Bool.and_true, Bool.and_false, Bool.not_true, Bool.not_false])
    case keys lo hi =>
      obtain ⟨hN, hp⟩ := ht
      wtm_at "rd"
      try refine r_ixL (SqL.of hp) rfl ?_
      wtm_at "rd"
      refine r_new rfl fun l1 n_l1 => ?_
      have s_l1 := same_new (o := .lst [.str "rows", .str "groups", .str "keys"]) n_l1
      have hp := s_l1 _ _ hp
      have h_l1 : (upd H l1 (.lst [.str "rows", .str "groups", .str "keys"])) l1 = some (.lst [.str "rows", .str "groups", .str "keys"]) := upd_same
      have S := s_l1
      generalize upd H l1 (.lst [.str "rows", .str "groups", .str "keys"]) = H1 at hp h_l1 S s_l1 ⊢
      wtm_at "rd"
      refine r_inB (ws := axL) true (SqL.of h_l1) (by decide +kernel) ?_
      wtm_at "rd"
      refine iteT ?_
      wtm_at "rd"
      refine r_new rfl fun l2 n_l2 => ?_
      have s_l2 := same_new (o := .lst [.int r, .int g, .int d]) n_l2
      have hp := s_l2 _ _ hp
      have h_l2 : (upd H1 l2 (.lst [.int r, .int g, .int d])) l2 = some (.lst [.int r, .int g, .int d]) := upd_same
      have S := S.trans s_l2
      generalize upd H1 l2 (.lst [.int r, .int g, .int d]) = H2 at hp h_l2 S s_l2 ⊢
      wtm_at "rd"
      refine r_new rfl fun l3 n_l3 => ?_
      have s_l3 := same_new (o := .lst [.str "rows", .str "groups", .str "keys"]) n_l3
      have hp := s_l3 _ _ hp
      have h_l2 := s_l3 _ _ h_l2
      have h_l3 : (upd H2 l3 (.lst [.str "rows", .str "groups", .str "keys"])) l3 = some (.lst [.str "rows", .str "groups", .str "keys"]) := upd_same
      have S := S.trans s_l3
      generalize upd H2 l3 (.lst [.str "rows", .str "groups", .str "keys"]) = H3 at hp h_l2 h_l3 S s_l3 ⊢
      wtm_at "rd"
      refine r_tyL (SqL.of h_l3) ?_
      wtm_at "rd"
      refine r_idxS (ss := axL) (j := 2) (SqL.of h_l3) rfl (nomem (by decide +kernel)) ?_
      refine r_ixL (SqL.of h_l2) rfl ?_
      have q := q H3 S
      have e : Tr.holds (.keys lo hi) r g d = Gr.ins lo hi d := rfl
      rw [e, ins_cases] at q
      clear e
      cases lo <;> cases hi <;> dsimp only [endV] at hp q
      all_goals
        repeat' (first | wtm_at "rd1" | refine r_ixL (SqL.of hp) rfl ?_ | with_reducible refine iteT ?_ | with_reducible refine iteF ?_ | with_reducible refine r_ite (fun c => ?_) (fun c => ?_))
      all_goals (refine bl_to q ?_; first | rfl | simp only [*, decide_true, decide_false, Bool.true_and, Bool.false_and, Bool.and_true, Bool.and_false, Bool.not_true, Bool.not_false])
    case self =>
      obtain ⟨hN, hp⟩ := ht
      wtm_at "rd"
      try refine r_ixL (SqL.of hp) rfl ?_
      wtm_at "rd"
      refine r_new rfl fun l1 n_l1 => ?_
      have s_l1 := same_new (o := .lst [.str "rows", .str "groups", .str "keys"]) n_l1
      have hp := s_l1 _ _ hp
      have h_l1 : (upd H l1 (.lst [.str "rows", .str "groups", .str "keys"])) l1 = some (.lst [.str "rows", .str "groups", .str "keys"]) := upd_same
      have S := s_l1
      generalize upd H l1 (.lst [.str "rows", .str "groups", .str "keys"]) = H1 at hp h_l1 S s_l1 ⊢
      wtm_at "rd"
      refine r_inB (ws := axL) false (SqL.of h_l1) (by decide +kernel) ?_
      wtm_at "rd"
      refine iteF ?_
      wtm_at "rd"
      refine r_lenL (SqL.of hp) ?_
      wtm_at "rd"
      refine r_ite (fun _ => ?_) (fun z => absurd rfl z)
      wtm_at "rd"
      refine r_new rfl fun l3 n_l3 => ?_
      have s_l3 := same_new (o := .lst [.str "self", .str "ties", .str "group", .str "all", .str "none"]) n_l3
      have hp := s_l3 _ _ hp
      have h_l3 : (upd H1 l3 (.lst [.str "self", .str "ties", .str "group", .str "all", .str "none"])) l3 = some (.lst [.str "self", .str "ties", .str "group", .str "all", .str "none"]) := upd_same
      have S := S.trans s_l3
      generalize upd H1 l3 (.lst [.str "self", .str "ties", .str "group", .str "all", .str "none"]) = H3 at hp h_l3 S s_l3 ⊢
      wtm_at "rd"
      refine r_tyL (SqL.of h_l3) ?_
      wtm_at "rd"
      refine r_idxS (ss := oneL) (j := 0) (SqL.of h_l3) rfl (nomem (by decide +kernel)) ?_
      wtm_at "rd"
      refine r_ite (fun c => ?_) (fun c => ?_)
      all_goals
        wtm_at "rd"
        refine r_new rfl fun l2 n_l2 => ?_
        wtm_at "rd"
        refine r_ixL (SqL.of upd_same) rfl ?_
        refine bl_to (q _ (S.trans (same_new n_l2))) ?_
        first | rfl | (show _ = (decide (g = 0) && !decide (r = 0)); first | rfl | simp only [*, decide_true, decide_false, Bool.true_and, Bool.false_and, Bool.and_true, Bool.and_false, Bool.not_true, Bool.not_false])
    case ties =>
      obtain ⟨hN, hp⟩ := ht
      wtm_at "rd"
      try refine r_ixL (SqL.of hp) rfl ?_
      wtm_at "rd"
      refine r_new rfl fun l1 n_l1 => ?_
      have s_l1 := same_new (o := .lst [.str "rows", .str "groups", .str "keys"]) n_l1
      have hp := s_l1 _ _ hp
      have h_l1 : (upd H l1 (.lst [.str "rows", .str "groups", .str "keys"])) l1 = some (.lst [.str "rows", .str "groups", .str "keys"]) := upd_same
      have S := s_l1
      generalize upd H l1 (.lst [.str "rows", .str "groups", .str "keys"]) = H1 at hp h_l1 S s_l1 ⊢
      wtm_at "rd"
      refine r_inB (ws := axL) false (SqL.of h_l1) (by decide +kernel) ?_
      wtm_at "rd"
      refine iteF ?_
      wtm_at "rd"
      refine r_lenL (SqL.of hp) ?_
      wtm_at "rd"
      refine r_ite (fun _ => ?_) (fun z => absurd rfl z)
      wtm_at "rd"
      refine r_new rfl fun l3 n_l3 => ?_
      have s_l3 := same_new (o := .lst [.str "self", .str "ties", .str "group", .str "all", .str "none"]) n_l3
      have hp := s_l3 _ _ hp
      have h_l3 : (upd H1 l3 (.lst [.str "self", .str "ties", .str "group", .str "all", .str "none"])) l3 = some (.lst [.str "self", .str "ties", .str "group", .str "all", .str "none"]) := upd_same
      have S := S.trans s_l3
      generalize upd H1 l3 (.lst [.str "self", .str "ties", .str "group", .str "all", .str "none"]) = H3 at hp h_l3 S s_l3 ⊢
      wtm_at "rd"
      refine r_tyL (SqL.of h_l3) ?_
      wtm_at "rd"
      refine r_idxS (ss := oneL) (j := 1) (SqL.of h_l3) rfl (nomem (by decide +kernel)) ?_
      wtm_at "rd"
      refine r_ite (fun c => ?_) (fun c => ?_)
      all_goals
        wtm_at "rd"
        refine r_new rfl fun l2 n_l2 => ?_
        wtm_at "rd"
        refine r_ixL (SqL.of upd_same) rfl ?_
        refine bl_to (q _ (S.trans (same_new n_l2))) ?_
        first | rfl | (show _ = (decide (g = 0) && !decide (r = 0)); first | rfl | simp only [*, decide_true, decide_false, Bool.true_and, Bool.false_and, Bool.and_true, Bool.and_false, Bool.not_true, Bool.not_false])
    case group =>
      obtain ⟨hN, hp⟩ := ht
      wtm_at "rd"
      try refine r_ixL (SqL.of hp) rfl ?_
      wtm_at "rd"
      refine r_new rfl fun l1 n_l1 => ?_
      have s_l1 := same_new (o := .lst [.str "rows", .str "groups", .str "keys"]) n_l1
      have hp := s_l1 _ _ hp
      have h_l1 : (upd H l1 (.lst [.str "rows", .str "groups", .str "keys"])) l1 = some (.lst [.str "rows", .str "groups", .str "keys"]) := upd_same
      have S := s_l1
      generalize upd H l1 (.lst [.str "rows", .str "groups", .str "keys"]) = H1 at hp h_l1 S s_l1 ⊢
      wtm_at "rd"
      refine r_inB (ws := axL) false (SqL.of h_l1) (by decide +kernel) ?_
      wtm_at "rd"
      refine iteF ?_
      wtm_at "rd"
      refine r_lenL (SqL.of hp) ?_
      wtm_at "rd"
      refine r_ite (fun _ => ?_) (fun z => absurd rfl z)
      wtm_at "rd"
      refine r_new rfl fun l3 n_l3 => ?_
      have s_l3 := same_new (o := .lst [.str "self", .str "ties", .str "group", .str "all", .str "none"]) n_l3
      have hp := s_l3 _ _ hp
      have h_l3 : (upd H1 l3 (.lst [.str "self", .str "ties", .str "group", .str "all", .str "none"])) l3 = some (.lst [.str "self", .str "ties", .str "group", .str "all", .str "none"]) := upd_same
      have S := S.trans s_l3
      generalize upd H1 l3 (.lst [.str "self", .str "ties", .str "group", .str "all", .str "none"]) = H3 at hp h_l3 S s_l3 ⊢
      wtm_at "rd"
      refine r_tyL (SqL.of h_l3) ?_
      wtm_at "rd"
      refine r_idxS (ss := oneL) (j := 2) (SqL.of h_l3) rfl (nomem (by decide +kernel)) ?_
      wtm_at "rd"
      refine r_ite (fun c => ?_) (fun c => ?_)
      all_goals
        wtm_at "rd"
        refine r_new rfl fun l2 n_l2 => ?_
        wtm_at "rd"
        refine r_ixL (SqL.of upd_same) rfl ?_
        refine bl_to (q _ (S.trans (same_new n_l2))) ?_
        first | rfl | (show _ = (decide (g = 0) && !decide (r = 0)); first | rfl | simp only [*, decide_true, decide_false, Bool.true_and, Bool.false_and, Bool.and_true, Bool.and_false, Bool.not_true, Bool.not_false])
    case all =>
      obtain ⟨hN, hp⟩ := ht
      wtm_at "rd"
      try refine r_ixL (SqL.of hp) rfl ?_
      wtm_at "rd"
      refine r_new rfl fun l1 n_l1 => ?_
      have s_l1 := same_new (o := .lst [.str "rows", .str "groups", .str "keys"]) n_l1
      have hp := s_l1 _ _ hp
      have h_l1 : (upd H l1 (.lst [.str "rows", .str "groups", .str "keys"])) l1 = some (.lst [.str "rows", .str "groups", .str "keys"]) := upd_same
      have S := s_l1
      generalize upd H l1 (.lst [.str "rows", .str "groups", .str "keys"]) = H1 at hp h_l1 S s_l1 ⊢
      wtm_at "rd"
      refine r_inB (ws := axL) false (SqL.of h_l1) (by decide +kernel) ?_
      wtm_at "rd"
      refine iteF ?_
      wtm_at "rd"
      refine r_lenL (SqL.of hp) ?_
      wtm_at "rd"
      refine r_ite (fun _ => ?_) (fun z => absurd rfl z)
      wtm_at "rd"
      refine r_new rfl fun l3 n_l3 => ?_
      have s_l3 := same_new (o := .lst [.str "self", .str "ties", .str "group", .str "all", .str "none"]) n_l3
      have hp := s_l3 _ _ hp
      have h_l3 : (upd H1 l3 (.lst [.str "self", .str "ties", .str "group", .str "all", .str "none"])) l3 = some (.lst [.str "self", .str "ties", .str "group", .str "all", .str "none"]) := upd_same
      have S := S.trans s_l3
      generalize upd H1 l3 (.lst [.str "self", .str "ties", .str "group", .str "all", .str "none"]) = H3 at hp h_l3 S s_l3 ⊢
      wtm_at "rd"
      refine r_tyL (SqL.of h_l3) ?_
      wtm_at "rd"
      refine r_idxS (ss := oneL) (j := 3) (SqL.of h_l3) rfl (nomem (by decide +kernel)) ?_
      wtm_at "rd"
      refine r_ite (fun c => ?_) (fun c => ?_)
      all_goals
        wtm_at "rd"
        refine r_new rfl fun l2 n_l2 => ?_
        wtm_at "rd"
        refine r_ixL (SqL.of upd_same) rfl ?_
        refine bl_to (q _ (S.trans (same_new n_l2))) ?_
        first | rfl | (show _ = (decide (g = 0) && !decide (r = 0)); first | rfl | simp only [*, decide_true, decide_false, Bool.true_and, Bool.false_and, Bool.and_true, Bool.and_false, Bool.not_true, Bool.not_false])
    case none =>
      obtain ⟨hN, hp⟩ := ht
      wtm_at "rd"
      try refine r_ixL (SqL.of hp) rfl ?_
      wtm_at "rd"
      refine r_new rfl fun l1 n_l1 => ?_
      have s_l1 := same_new (o := .lst [.str "rows", .str "groups", .str "keys"]) n_l1
      have hp := s_l1 _ _ hp
      have h_l1 : (upd H l1 (.lst [.str "rows", .str "groups", .str "keys"])) l1 = some (.lst [.str "rows", .str "groups", .str "keys"]) := upd_same
      have S := s_l1
      generalize upd H l1 (.lst [.str "rows", .str "groups", .str "keys"]) = H1 at hp h_l1 S s_l1 ⊢
      wtm_at "rd"
      refine r_inB (ws := axL) false (SqL.of h_l1) (by decide +kernel) ?_
      wtm_at "rd"
      refine iteF ?_
      wtm_at "rd"
      refine r_lenL (SqL.of hp) ?_
      wtm_at "rd"
      refine r_ite (fun _ => ?_) (fun z => absurd rfl z)
      wtm_at "rd"
      refine r_new rfl fun l3 n_l3 => ?_
      have s_l3 := same_new (o := .lst [.str "self", .str "ties", .str "group", .str "all", .str "none"]) n_l3
      have hp := s_l3 _ _ hp
      have h_l3 : (upd H1 l3 (.lst [.str "self", .str "ties", .str "group", .str "all", .str "none"])) l3 = some (.lst [.str "self", .str "ties", .str "group", .str "all", .str "none"]) := upd_same
      have S := S.trans s_l3
      generalize upd H1 l3 (.lst [.str "self", .str "ties", .str "group", .str "all", .str "none"]) = H3 at hp h_l3 S s_l3 ⊢
      wtm_at "rd"
      refine r_tyL (SqL.of h_l3) ?_
      wtm_at "rd"
      refine r_idxS (ss := oneL) (j := 4) (SqL.of h_l3) rfl (nomem (by decide +kernel)) ?_
      wtm_at "rd"
      refine r_ite (fun c => ?_) (fun c => ?_)
      all_goals
        wtm_at "rd"
        refine r_new rfl fun l2 n_l2 => ?_
        wtm_at "rd"
        refine r_ixL (SqL.of upd_same) rfl ?_
        refine bl_to (q _ (S.trans (same_new n_l2))) ?_
        first | rfl | (show _ = (decide (g = 0) && !decide (r = 0)); first | rfl | simp only [*, decide_true, decide_false, Bool.true_and, Bool.false_and, Bool.and_true, Bool.and_false, Bool.not_true, Bool.not_false])
    case inv t =>
      obtain ⟨hN, t1, hp, ht⟩ := ht
      have hk : t.dep < n := Nat.lt_of_succ_lt_succ hk
      wtm_at "rd"
      try refine r_ixL (SqL.of hp) rfl ?_
      wtm_at "rd"
      refine r_new rfl fun l1 n_l1 => ?_
      have s_l1 := same_new (o := .lst [.str "rows", .str "groups", .str "keys"]) n_l1
      have hp := s_l1 _ _ hp
      have h_l1 : (upd H l1 (.lst [.str "rows", .str "groups", .str "keys"])) l1 = some (.lst [.str "rows", .str "groups", .str "keys"]) := upd_same
      have S := s_l1
      generalize upd H l1 (.lst [.str "rows", .str "groups", .str "keys"]) = H1 at hp h_l1 S s_l1 ⊢
      have ht := ht.same S
      wtm_at "rd"
      refine r_inB (ws := axL) false (SqL.of h_l1) (by decide +kernel) ?_
      wtm_at "rd"
      refine iteF ?_
      wtm_at "rd"
      refine r_lenL (SqL.of hp) ?_
      wtm_at "rd"
      refine r_ite (fun z => absurd z (by dsimp only [List.length_cons, List.length_nil]; decide)) (fun _ => ?_)
      wtm_at "rd"
      refine r_ite (fun z => absurd z (by decide +kernel)) (fun _ => ?_)
      wtm_at "rd"
      try refine r_ixL (SqL.of hp) rfl ?_
      wtm_at "rd"
      refine ⟨t1, r, g, d, N, t, rfl, hk, ht, fun H2 S2 => ?_⟩
      wtm_at "rd"
      refine r_ite (fun _ => ?_) (fun z => absurd rfl z)
      wtm_at "rd"
      exact q H2 (S.trans S2)
    case neg t =>
      obtain ⟨hN, t1, hp, ht⟩ := ht
      have hk : t.dep < n := Nat.lt_of_succ_lt_succ hk
      wtm_at "rd"
      try refine r_ixL (SqL.of hp) rfl ?_
      wtm_at "rd"
      refine r_new rfl fun l1 n_l1 => ?_
      have s_l1 := same_new (o := .lst [.str "rows", .str "groups", .str "keys"]) n_l1
      have hp := s_l1 _ _ hp
      have h_l1 : (upd H l1 (.lst [.str "rows", .str "groups", .str "keys"])) l1 = some (.lst [.str "rows", .str "groups", .str "keys"]) := upd_same
      have S := s_l1
      generalize upd H l1 (.lst [.str "rows", .str "groups", .str "keys"]) = H1 at hp h_l1 S s_l1 ⊢
      have ht := ht.same S
      wtm_at "rd"
      refine r_inB (ws := axL) false (SqL.of h_l1) (by decide +kernel) ?_
      wtm_at "rd"
      refine iteF ?_
      wtm_at "rd"
      refine r_lenL (SqL.of hp) ?_
      wtm_at "rd"
      refine r_ite (fun z => absurd z (by dsimp only [List.length_cons, List.length_nil]; decide)) (fun _ => ?_)
      wtm_at "rd"
      refine r_ite (fun _ => ?_) (fun z => absurd rfl z)
      wtm_at "rd"
      try refine r_ixL (SqL.of hp) rfl ?_
      wtm_at "rd"
      refine ⟨t1, 0 - r, 0 - g, 0 - d, N, t, rfl, hk, ht, fun H2 S2 => ?_⟩
      exact q H2 (S.trans S2)
    case and t u =>
      obtain ⟨hN, t1, u1, hp, ht, hu⟩ := ht
      have hk : max t.dep u.dep < n := Nat.lt_of_succ_lt_succ hk
      wtm_at "rd"
      try refine r_ixL (SqL.of hp) rfl ?_
      wtm_at "rd"
      refine r_new rfl fun l1 n_l1 => ?_
      have s_l1 := same_new (o := .lst [.str "rows", .str "groups", .str "keys"]) n_l1
      have hp := s_l1 _ _ hp
      have h_l1 : (upd H l1 (.lst [.str "rows", .str "groups", .str "keys"])) l1 = some (.lst [.str "rows", .str "groups", .str "keys"]) := upd_same
      have S := s_l1
      generalize upd H l1 (.lst [.str "rows", .str "groups", .str "keys"]) = H1 at hp h_l1 S s_l1 ⊢
      have ht := ht.same S
      have hu := hu.same S
      wtm_at "rd"
      refine r_inB (ws := axL) false (SqL.of h_l1) (by decide +kernel) ?_
      wtm_at "rd"
      refine iteF ?_
      wtm_at "rd"
      refine r_lenL (SqL.of hp) ?_
      wtm_at "rd"
      refine r_ite (fun z => absurd z (by dsimp only [List.length_cons, List.length_nil]; decide)) (fun _ => ?_)
      wtm_at "rd"
      refine r_ite (fun z => absurd z (by decide +kernel)) (fun _ => ?_)
      wtm_at "rd"
      try refine r_ixL (SqL.of hp) rfl ?_
      wtm_at "rd"
      refine ⟨t1, r, g, d, N, t, rfl, by omega, ht, fun H2 S2 => ?_⟩
      have hp := S2 _ _ hp
      have hu := hu.same S2
      have S := S.trans S2
      wtm_at "rd"
      refine r_ite (fun z => absurd z (by decide +kernel)) (fun _ => ?_)
      wtm_at "rd"
      try refine r_ixL (SqL.of hp) rfl ?_
      wtm_at "rd"
      refine ⟨u1, r, g, d, N, u, rfl, by omega, hu, fun H3 S3 => ?_⟩
      have S := S.trans S3
      wtm_at "rd"
      refine r_new rfl fun l3 n_l3 => ?_
      have s_l3 := same_new (o := .lst [.str "&", .str "|", .str "-", .str "^"]) n_l3
      have h_l3 : (upd H3 l3 (.lst [.str "&", .str "|", .str "-", .str "^"])) l3 = some (.lst [.str "&", .str "|", .str "-", .str "^"]) := upd_same
      have S := S.trans s_l3
      generalize upd H3 l3 (.lst [.str "&", .str "|", .str "-", .str "^"]) = H4 at  h_l3 S s_l3 ⊢
      wtm_at "rd"
      refine r_tyL (SqL.of h_l3) ?_
      wtm_at "rd"
      refine r_idxS (ss := opL) (j := 0) (SqL.of h_l3) rfl (nomem (by decide +kernel)) ?_
      have e : Tr.holds (.and t u) r g d = (t.holds r g d && u.holds r g d) := rfl
      rw [e] at q
      clear e
      revert q
      generalize t.holds r g d = b1
      generalize u.holds r g d = b2
      intro q
      cases b1 <;> cases b2
      all_goals
        wtm_at "rdi"
        refine r_new rfl fun l2 n_l2 => ?_
        wtm_at "rd"
        refine r_ixL (SqL.of upd_same) rfl ?_
        exact q _ (S.trans (same_new n_l2))
    case or t u =>
      obtain ⟨hN, t1, u1, hp, ht, hu⟩ := ht
      have hk : max t.dep u.dep < n := Nat.lt_of_succ_lt_succ hk
      wtm_at "rd"
      try refine r_ixL (SqL.of hp) rfl ?_
      wtm_at "rd"
      refine r_new rfl fun l1 n_l1 => ?_
      have s_l1 := same_new (o := .lst [.str "rows", .str "groups", .str "keys"]) n_l1
      have hp := s_l1 _ _ hp
      have h_l1 : (upd H l1 (.lst [.str "rows", .str "groups", .str "keys"])) l1 = some (.lst [.str "rows", .str "groups", .str "keys"]) := upd_same
      have S := s_l1
      generalize upd H l1 (.lst [.str "rows", .str "groups", .str "keys"]) = H1 at hp h_l1 S s_l1 ⊢
      have ht := ht.same S
      have hu := hu.same S
      wtm_at "rd"
      refine r_inB (ws := axL) false (SqL.of h_l1) (by decide +kernel) ?_
      wtm_at "rd"
      refine iteF ?_
      wtm_at "rd"
      refine r_lenL (SqL.of hp) ?_
      wtm_at "rd"
      refine r_ite (fun z => absurd z (by dsimp only [List.length_cons, List.length_nil]; decide)) (fun _ => ?_)
      wtm_at "rd"
      refine r_ite (fun z => absurd z (by decide +kernel)) (fun _ => ?_)
      wtm_at "rd"
      try refine r_ixL (SqL.of hp) rfl ?_
      wtm_at "rd"
      refine ⟨t1, r, g, d, N, t, rfl, by omega, ht, fun H2 S2 => ?_⟩
      have hp := S2 _ _ hp
      have hu := hu.same S2
      have S := S.trans S2
      wtm_at "rd"
      refine r_ite (fun z => absurd z (by decide +kernel)) (fun _ => ?_)
      wtm_at "rd"
      try refine r_ixL (SqL.of hp) rfl ?_
      wtm_at "rd"
      refine ⟨u1, r, g, d, N, u, rfl, by omega, hu, fun H3 S3 => ?_⟩
      have S := S.trans S3
      wtm_at "rd"
      refine r_new rfl fun l3 n_l3 => ?_
      have s_l3 := same_new (o := .lst [.str "&", .str "|", .str "-", .str "^"]) n_l3
      have h_l3 : (upd H3 l3 (.lst [.str "&", .str "|", .str "-", .str "^"])) l3 = some (.lst [.str "&", .str "|", .str "-", .str "^"]) := upd_same
      have S := S.trans s_l3
      generalize upd H3 l3 (.lst [.str "&", .str "|", .str "-", .str "^"]) = H4 at  h_l3 S s_l3 ⊢
      wtm_at "rd"
      refine r_tyL (SqL.of h_l3) ?_
      wtm_at "rd"
      refine r_idxS (ss := opL) (j := 1) (SqL.of h_l3) rfl (nomem (by decide +kernel)) ?_
      have e : Tr.holds (.or t u) r g d = (t.holds r g d || u.holds r g d) := rfl
      rw [e] at q
      clear e
      revert q
      generalize t.holds r g d = b1
      generalize u.holds r g d = b2
      intro q
      cases b1 <;> cases b2
      all_goals
        wtm_at "rdi"
        refine r_new rfl fun l2 n_l2 => ?_
        wtm_at "rd"
        refine r_ixL (SqL.of upd_same) rfl ?_
        exact q _ (S.trans (same_new n_l2))
    case sub t u =>
      obtain ⟨hN, t1, u1, hp, ht, hu⟩ := ht
      have hk : max t.dep u.dep < n := Nat.lt_of_succ_lt_succ hk
      wtm_at "rd"
      try refine r_ixL (SqL.of hp) rfl ?_
      wtm_at "rd"
      refine r_new rfl fun l1 n_l1 => ?_
      have s_l1 := same_new (o := .lst [.str "rows", .str "groups", .str "keys"]) n_l1
      have hp := s_l1 _ _ hp
      have h_l1 : (upd H l1 (.lst [.str "rows", .str "groups", .str "keys"])) l1 = some (.lst [.str "rows", .str "groups", .str "keys"]) := upd_same
      have S := s_l1
      generalize upd H l1 (.lst [.str "rows", .str "groups", .str "keys"]) = H1 at hp h_l1 S s_l1 ⊢
      have ht := ht.same S
      have hu := hu.same S
      wtm_at "rd"
      refine r_inB (ws := axL) false (SqL.of h_l1) (by decide +kernel) ?_
      wtm_at "rd"
      refine iteF ?_
      wtm_at "rd"
      refine r_lenL (SqL.of hp) ?_
      wtm_at "rd"
      refine r_ite (fun z => absurd z (by dsimp only [List.length_cons, List.length_nil]; decide)) (fun _ => ?_)
      wtm_at "rd"
      refine r_ite (fun z => absurd z (by decide +kernel)) (fun _ => ?_)
      wtm_at "rd"
      try refine r_ixL (SqL.of hp) rfl ?_
      wtm_at "rd"
      refine ⟨t1, r, g, d, N, t, rfl, by omega, ht, fun H2 S2 => ?_⟩
      have hp := S2 _ _ hp
      have hu := hu.same S2
      have S := S.trans S2
      wtm_at "rd"
      refine r_ite (fun z => absurd z (by decide +kernel)) (fun _ => ?_)
      wtm_at "rd"
      try refine r_ixL (SqL.of hp) rfl ?_
      wtm_at "rd"
      refine ⟨u1, r, g, d, N, u, rfl, by omega, hu, fun H3 S3 => ?_⟩
      have S := S.trans S3
      wtm_at "rd"
      refine r_new rfl fun l3 n_l3 => ?_
      have s_l3 := same_new (o := .lst [.str "&", .str "|", .str "-", .str "^"]) n_l3
      have h_l3 : (upd H3 l3 (.lst [.str "&", .str "|", .str "-", .str "^"])) l3 = some (.lst [.str "&", .str "|", .str "-", .str "^"]) := upd_same
      have S := S.trans s_l3
      generalize upd H3 l3 (.lst [.str "&", .str "|", .str "-", .str "^"]) = H4 at  h_l3 S s_l3 ⊢
      wtm_at "rd"
      refine r_tyL (SqL.of h_l3) ?_
      wtm_at "rd"
      refine r_idxS (ss := opL) (j := 2) (SqL.of h_l3) rfl (nomem (by decide +kernel)) ?_
      have e : Tr.holds (.sub t u) r g d = (t.holds r g d && !u.holds r g d) := rfl
      rw [e] at q
      clear e
      revert q
      generalize t.holds r g d = b1
      generalize u.holds r g d = b2
      intro q
      cases b1 <;> cases b2
      all_goals
        wtm_at "rdi"
        refine r_new rfl fun l2 n_l2 => ?_
        wtm_at "rd"
        refine r_ixL (SqL.of upd_same) rfl ?_
        exact q _ (S.trans (same_new n_l2))
    case xor t u =>
      obtain ⟨hN, t1, u1, hp, ht, hu⟩ := ht
      have hk : max t.dep u.dep < n := Nat.lt_of_succ_lt_succ hk
      wtm_at "rd"
      try refine r_ixL (SqL.of hp) rfl ?_
      wtm_at "rd"
      refine r_new rfl fun l1 n_l1 => ?_
      have s_l1 := same_new (o := .lst [.str "rows", .str "groups", .str "keys"]) n_l1
      have hp := s_l1 _ _ hp
      have h_l1 : (upd H l1 (.lst [.str "rows", .str "groups", .str "keys"])) l1 = some (.lst [.str "rows", .str "groups", .str "keys"]) := upd_same
      have S := s_l1
      generalize upd H l1 (.lst [.str "rows", .str "groups", .str "keys"]) = H1 at hp h_l1 S s_l1 ⊢
      have ht := ht.same S
      have hu := hu.same S
      wtm_at "rd"
      refine r_inB (ws := axL) false (SqL.of h_l1) (by decide +kernel) ?_
      wtm_at "rd"
      refine iteF ?_
      wtm_at "rd"
      refine r_lenL (SqL.of hp) ?_
      wtm_at "rd"
      refine r_ite (fun z => absurd z (by dsimp only [List.length_cons, List.length_nil]; decide)) (fun _ => ?_)
      wtm_at "rd"
      refine r_ite (fun z => absurd z (by decide +kernel)) (fun _ => ?_)
      wtm_at "rd"
      try refine r_ixL (SqL.of hp) rfl ?_
      wtm_at "rd"
      refine ⟨t1, r, g, d, N, t, rfl, by omega, ht, fun H2 S2 => ?_⟩
      have hp := S2 _ _ hp
      have hu := hu.same S2
      have S := S.trans S2
      wtm_at "rd"
      refine r_ite (fun z => absurd z (by decide +kernel)) (fun _ => ?_)
      wtm_at "rd"
      try refine r_ixL (SqL.of hp) rfl ?_
      wtm_at "rd"
      refine ⟨u1, r, g, d, N, u, rfl, by omega, hu, fun H3 S3 => ?_⟩
      have S := S.trans S3
      wtm_at "rd"
      refine r_new rfl fun l3 n_l3 => ?_
      have s_l3 := same_new (o := .lst [.str "&", .str "|", .str "-", .str "^"]) n_l3
      have h_l3 : (upd H3 l3 (.lst [.str "&", .str "|", .str "-", .str "^"])) l3 = some (.lst [.str "&", .str "|", .str "-", .str "^"]) := upd_same
      have S := S.trans s_l3
      generalize upd H3 l3 (.lst [.str "&", .str "|", .str "-", .str "^"]) = H4 at  h_l3 S s_l3 ⊢
      wtm_at "rd"
      refine r_tyL (SqL.of h_l3) ?_
      wtm_at "rd"
      refine r_idxS (ss := opL) (j := 3) (SqL.of h_l3) rfl (nomem (by decide +kernel)) ?_
      have e : Tr.holds (.xor t u) r g d = (t.holds r g d != u.holds r g d) := rfl
      rw [e] at q
      clear e
      revert q
      generalize t.holds r g d = b1
      generalize u.holds r g d = b2
      intro q
      cases b1 <;> cases b2
      all_goals
        wtm_at "rdi"
        refine r_new rfl fun l2 n_l2 => ?_
        wtm_at "rd"
        refine r_ixL (SqL.of upd_same) rfl ?_
        exact q _ (S.trans (same_new n_l2))

theorem rg_bin (T : Txt K mg) {ρ : Rul} {H : Hp} {Q : VK} {E : XK} {a b : Addr} {N M : Addr → Prop} {w v : Wgt} {e f : Ex} (h1 : RgAt T.C_Region T.C_Weights T.C_Side N H a w e) (h2 : RgAt T.C_Region T.C_Weights T.C_Side M H b v f) (bd1 : WgBd w) (bd2 : WgBd v) (hz : (e.add f).le 18)
    (q : ∀ x H', H x = none → RgAt T.C_Region T.C_Weights T.C_Side (fun a => H a = none) H' x (w.mix ρ v) (e.add f) → Same H H' → Q (.ref x) H') : rAddO T.C_Region (spRgBin T.C_Region T.C_Weights T.C_Side ρ) E (.ref a) (.ref b) H Q := by
  obtain ⟨dx, pw, i1, _⟩ := id h1
  obtain ⟨dy, pv, i2, _⟩ := id h2
  exact ⟨a, dx, _, b, dy, _, rfl, rfl, i1, i2, a, b, N, M, w, v, e, f, rfl, h1, h2, bd1, bd2, hz, q⟩
theorem rg_un (T : Txt K mg) {sp : Sp} {H : Hp} {Q : VK} {E : XK} {a : Addr} {N : Addr → Prop} {w : Wgt} {e : Ex} (h1 : RgAt T.C_Region T.C_Weights T.C_Side N H a w e) (q : sp [.ref a] H Q E) : rNegO T.C_Region sp E (.ref a) H Q := by
  obtain ⟨dx, pw, i1, _⟩ := id h1
  exact ⟨a, dx, _, rfl, i1, q⟩
theorem ok__law_region (T : Txt K mg) : ∀ n : Nat, FnOk P w K mg base CX0 (n + 12) T.f__law_region T.d__law_region ["_law_tree_here"] (spReg T.C_Region T.C_Weights T.C_Side n)
  | 0 => ⟨fun vs H Q E h => by obtain ⟨p, N, t, _, h, _⟩ := h; exact absurd h (by omega), fun A outer s H args us vs Q E _ _ _ _ h => by obtain ⟨p, N, t, _, h, _⟩ := h; exact absurd h (by omega)⟩
  | n + 1 => by
    have ih := ok__law_region T n
    refine T.F__law_region.ok sc__law_region (fun vs H Q E h => ?_) (fun cdv A outer s H vs Q E hr h => ?_)
    · obtain ⟨p, N, t, rfl, _⟩ := h
      rfl
    obtain ⟨p, N, t, rfl, hk, ho, hl, ht, q⟩ := h
    refine ⟨_, (pss_cons (ps_set (i := 1) sc__law_region.nd rfl (by first | exact Or.inl rfl | exact Or.inr rfl) (pe_ix (r := rIxL K) ix_list (pv 0) pe_int (fun _ _ => rfl)))
      (pss_cons (ps_if (pt_cmpR (r := rIn K false) op_in_seq (pv 1) (pe_lst (pa_cons pe_str (pa_cons pe_str (pa_cons pe_str pa_nil)))) (by rfl)) (pss_cons (ps_if (pt_cmpR op_eq (pv 1) pe_str (nomark _)) (pss_one (ps_ret (pe_call (ok_keys_between T) (hr.mono (by omega)) (by rfl) T.g_keys_between T.F_keys_between.kp T.b_keys_between .nil passL (pa_cons (pe_ix (r := rIxL K) ix_list (pv 0) pe_int (fun _ _ => rfl)) (pa_cons (pe_ix (r := rIxL K) ix_list (pv 0) pe_int (fun _ _ => rfl)) pa_nil))))) pss_nil)
      (pss_one (ps_ret (pe_ifExp (pt_cmpR op_eq (pv 1) pe_str (nomark _)) (pe_call (ok_rows_between T) (hr.mono (by omega)) (by rfl) T.g_rows_between T.F_rows_between.kp T.b_rows_between .nil passL (pa_cons (pe_ix (r := rIxL K) ix_list (pv 0) pe_int (fun _ _ => rfl)) (pa_cons (pe_ix (r := rIxL K) ix_list (pv 0) pe_int (fun _ _ => rfl)) pa_nil))) (pe_call (ok_groups_between T) (hr.mono (by omega)) (by rfl) T.g_groups_between T.F_groups_between.kp T.b_groups_between .nil passL (pa_cons (pe_ix (r := rIxL K) ix_list (pv 0) pe_int (fun _ _ => rfl)) (pa_cons (pe_ix (r := rIxL K) ix_list (pv 0) pe_int (fun _ _ => rfl)) pa_nil))))))) pss_nil)
      (pss_cons (ps_if (pt_cmpR (r := rIn K false) op_in_seq (pv 1) (pe_lst (pa_cons pe_str (pa_cons pe_str (pa_cons pe_str pa_nil)))) (by rfl)) (pss_one (ps_ret (pe_ifExp (pt_cmpR op_eq (pv 1) pe_str (nomark _)) (pe_call0 (ok_own_row T) (hr.mono (by omega)) (by rfl) T.g_own_row T.F_own_row.kp T.b_own_row .nil pass0) (pe_ifExp (pt_cmpR op_eq (pv 1) pe_str (nomark _)) (pe_call0 (ok_ties T) (hr.mono (by omega)) (by rfl) T.g_ties T.F_ties.kp T.b_ties .nil pass0) (pe_call0 (ok_own_group T) (hr.mono (by omega)) (by rfl) T.g_own_group T.F_own_group.kp T.b_own_group .nil pass0))))) pss_nil)
      (pss_cons (ps_if (pt_cmpR op_eq (pe_callB (r := rLenL K) (id := "len") c_len (by rfl) T.z_len (by decide +kernel) (pa_cons (pv 0) pa_nil)) pe_int (nomark _)) (pss_one (ps_ret (pe_ifExp (pt_cmpR op_eq (pv 1) pe_str (nomark _)) (pe_call0 (ok_every T) (hr.mono (by omega)) (by rfl) T.g_every T.F_every.kp T.b_every .nil pass0) (pe_call0 (ok_nothing T) (hr.mono (by omega)) (by rfl) T.g_nothing T.F_nothing.kp T.b_nothing .nil pass0)))) pss_nil)
      (pss_cons (ps_set (i := 2) sc__law_region.nd rfl (by first | exact Or.inl rfl | exact Or.inr rfl) (pe_call ih (hr.mono (by omega)) (by rfl) T.g__law_region T.F__law_region.kp T.b__law_region .nil pass0 (pa_cons (pe_ix (r := rIxL K) ix_list (pv 0) pe_int (fun _ _ => rfl)) pa_nil)))
      (pss_cons (ps_if (pt_cmpR op_eq (pe_callB (r := rLenL K) (id := "len") c_len (by rfl) T.z_len (by decide +kernel) (pa_cons (pv 0) pa_nil)) pe_int (nomark _)) (pss_one (ps_ret (pe_ifExp (pt_cmpR op_eq (pv 1) pe_str (nomark _)) (pe_un (un_invO T.mt_Region___invert__.at_ T.mt_Region___invert__.fn (ok_Region___invert__ T) (hr.mono (by omega)) T.b_Region___invert__ pass0) (pv 2)) (pe_un (un_negO T.mt_Region___neg__.at_ T.mt_Region___neg__.fn (ok_Region___neg__ T) (hr.mono (by omega)) T.b_Region___neg__ pass0) (pv 2))))) pss_nil)
      (pss_cons (ps_set (i := 3) sc__law_region.nd rfl (by first | exact Or.inl rfl | exact Or.inr rfl) (pe_call ih (hr.mono (by omega)) (by rfl) T.g__law_region T.F__law_region.kp T.b__law_region .nil pass0 (pa_cons (pe_ix (r := rIxL K) ix_list (pv 0) pe_int (fun _ _ => rfl)) pa_nil)))
      (pss_cons (ps_if (PW.pt (pw_or (pt_cmpR op_eq (pv 1) pe_str (nomark _)) (pw_or1 (pt_cmpR op_eq (pv 1) pe_str (nomark _))))) (pss_one (ps_ret (pe_ifExp (pt_cmpR op_eq (pv 1) pe_str (nomark _)) (pe_op (op_binO (op := .BitAnd) T.sf_Region T.mt_Region___and__.at_ T.mt_Region___and__.fn (ok_Region___and__ T) (hr.mono (by omega)) T.b_Region___and__ pass0) (pv 2) (pv 3)) (pe_op (op_binO (op := .BitOr) T.sf_Region T.mt_Region___or__.at_ T.mt_Region___or__.fn (ok_Region___or__ T) (hr.mono (by omega)) T.b_Region___or__ pass0) (pv 2) (pv 3))))) pss_nil)
      (pss_one (ps_ret (pe_ifExp (pt_cmpR op_eq (pv 1) pe_str (nomark _)) (pe_op (op_binO (op := .Sub) T.sf_Region T.mt_Region___sub__.at_ T.mt_Region___sub__.fn (ok_Region___sub__ T) (hr.mono (by omega)) T.b_Region___sub__ pass0) (pv 2) (pv 3)) (pe_op (op_binO (op := .BitXor) T.sf_Region T.mt_Region___xor__.at_ T.mt_Region___xor__.fn (ok_Region___xor__ T) (hr.mono (by omega)) T.b_Region___xor__ pass0) (pv 2) (pv 3))))))))))))), ?_⟩
    try simp only [nox_K, cx_K]
    cases t
    case rows lo hi =>
      obtain ⟨hN, hp⟩ := ht
      wtm_at "rd"
      try refine r_ixL (SqL.of hp) rfl ?_
      wtm_at "rd"
      refine r_new rfl fun l1 n_l1 => ?_
      have s_l1 := same_new (o := .lst [.str "rows", .str "groups", .str "keys"]) n_l1
      have hp := s_l1 _ _ hp
      have h_l1 : (upd H l1 (.lst [.str "rows", .str "groups", .str "keys"])) l1 = some (.lst [.str "rows", .str "groups", .str "keys"]) := upd_same
      have S := s_l1
      generalize upd H l1 (.lst [.str "rows", .str "groups", .str "keys"]) = H1 at hp h_l1 S s_l1 ⊢
      wtm_at "rd"
      refine r_inB (ws := axL) true (SqL.of h_l1) (by decide +kernel) ?_
      wtm_at "rd"
      refine iteT ?_
      wtm_at "rd"
      refine r_ite (fun z => absurd z (by decide +kernel)) (fun _ => ?_)
      wtm_at "rd"
      refine r_ite (fun _ => ?_) (fun z => absurd rfl z)
      wtm_at "rd"
      try refine r_ixL (SqL.of hp) rfl ?_
      wtm_at "rd"
      try refine r_ixL (SqL.of hp) rfl ?_
      wtm_at "rd"
      exact ⟨lo, hi, rfl, fun z => absurd ho z, fun _ => fun x' H' nx k s => q x' H' (S.free nx) (k.mono fun _ z => S.free z) (S.trans s)⟩
    case groups lo hi =>
      obtain ⟨hN, hp⟩ := ht
      wtm_at "rd"
      try refine r_ixL (SqL.of hp) rfl ?_
      wtm_at "rd"
      refine r_new rfl fun l1 n_l1 => ?_
      have s_l1 := same_new (o := .lst [.str "rows", .str "groups", .str "keys"]) n_l1
      have hp := s_l1 _ _ hp
      have h_l1 : (upd H l1 (.lst [.str "rows", .str "groups", .str "keys"])) l1 = some (.lst [.str "rows", .str "groups", .str "keys"]) := upd_same
      have S := s_l1
      generalize upd H l1 (.lst [.str "rows", .str "groups", .str "keys"]) = H1 at hp h_l1 S s_l1 ⊢
      wtm_at "rd"
      refine r_inB (ws := axL) true (SqL.of h_l1) (by decide +kernel) ?_
      wtm_at "rd"
      refine iteT ?_
      wtm_at "rd"
      refine r_ite (fun z => absurd z (by decide +kernel)) (fun _ => ?_)
      wtm_at "rd"
      refine r_ite (fun z => absurd z (by decide +kernel)) (fun _ => ?_)
      wtm_at "rd"
      try refine r_ixL (SqL.of hp) rfl ?_
      wtm_at "rd"
      try refine r_ixL (SqL.of hp) rfl ?_
      wtm_at "rd"
      exact ⟨lo, hi, rfl, fun z => absurd ho z, fun _ => fun x' H' nx k s => q x' H' (S.free nx) (k.mono fun _ z => S.free z) (S.trans s)⟩
    case keys lo hi =>
      obtain ⟨hN, hp⟩ := ht
      wtm_at "rd"
      try refine r_ixL (SqL.of hp) rfl ?_
      wtm_at "rd"
      refine r_new rfl fun l1 n_l1 => ?_
      have s_l1 := same_new (o := .lst [.str "rows", .str "groups", .str "keys"]) n_l1
      have hp := s_l1 _ _ hp
      have h_l1 : (upd H l1 (.lst [.str "rows", .str "groups", .str "keys"])) l1 = some (.lst [.str "rows", .str "groups", .str "keys"]) := upd_same
      have S := s_l1
      generalize upd H l1 (.lst [.str "rows", .str "groups", .str "keys"]) = H1 at hp h_l1 S s_l1 ⊢
      wtm_at "rd"
      refine r_inB (ws := axL) true (SqL.of h_l1) (by decide +kernel) ?_
      wtm_at "rd"
      refine iteT ?_
      wtm_at "rd"
      refine r_ite (fun _ => ?_) (fun z => absurd rfl z)
      wtm_at "rd"
      try refine r_ixL (SqL.of hp) rfl ?_
      wtm_at "rd"
      try refine r_ixL (SqL.of hp) rfl ?_
      wtm_at "rd"
      exact ⟨lo, hi, rfl, fun z => absurd ho z, fun _ => fun x' H' nx k s => q x' H' (S.free nx) (k.mono fun _ z => S.free z) (S.trans s)⟩
    case self =>
      obtain ⟨hN, hp⟩ := ht
      wtm_at "rd"
      try refine r_ixL (SqL.of hp) rfl ?_
      wtm_at "rd"
      refine r_new rfl fun l1 n_l1 => ?_
      have s_l1 := same_new (o := .lst [.str "rows", .str "groups", .str "keys"]) n_l1
      have hp := s_l1 _ _ hp
      have h_l1 : (upd H l1 (.lst [.str "rows", .str "groups", .str "keys"])) l1 = some (.lst [.str "rows", .str "groups", .str "keys"]) := upd_same
      have S := s_l1
      generalize upd H l1 (.lst [.str "rows", .str "groups", .str "keys"]) = H1 at hp h_l1 S s_l1 ⊢
      wtm_at "rd"
      refine r_inB (ws := axL) false (SqL.of h_l1) (by decide +kernel) ?_
      wtm_at "rd"
      refine iteF ?_
      wtm_at "rd"
      refine r_new rfl fun l2 n_l2 => ?_
      have s_l2 := same_new (o := .lst [.str "self", .str "ties", .str "group"]) n_l2
      have hp := s_l2 _ _ hp
      have h_l2 : (upd H1 l2 (.lst [.str "self", .str "ties", .str "group"])) l2 = some (.lst [.str "self", .str "ties", .str "group"]) := upd_same
      have S := S.trans s_l2
      generalize upd H1 l2 (.lst [.str "self", .str "ties", .str "group"]) = H2 at hp h_l2 S s_l2 ⊢
      wtm_at "rd"
      refine r_inB (ws := ["self", "ties", "group"]) true (SqL.of h_l2) (by decide +kernel) ?_
      wtm_at "rd"
      refine iteT ?_
      wtm_at "rd"
      refine r_ite (fun _ => ?_) (fun z => absurd rfl z)
      wtm_at "rd"
      exact ⟨rfl, fun x' H' nx k s => q x' H' (S.free nx) (k.mono fun _ z => S.free z) (S.trans s)⟩
    case ties =>
      obtain ⟨hN, hp⟩ := ht
      wtm_at "rd"
      try refine r_ixL (SqL.of hp) rfl ?_
      wtm_at "rd"
      refine r_new rfl fun l1 n_l1 => ?_
      have s_l1 := same_new (o := .lst [.str "rows", .str "groups", .str "keys"]) n_l1
      have hp := s_l1 _ _ hp
      have h_l1 : (upd H l1 (.lst [.str "rows", .str "groups", .str "keys"])) l1 = some (.lst [.str "rows", .str "groups", .str "keys"]) := upd_same
      have S := s_l1
      generalize upd H l1 (.lst [.str "rows", .str "groups", .str "keys"]) = H1 at hp h_l1 S s_l1 ⊢
      wtm_at "rd"
      refine r_inB (ws := axL) false (SqL.of h_l1) (by decide +kernel) ?_
      wtm_at "rd"
      refine iteF ?_
      wtm_at "rd"
      refine r_new rfl fun l2 n_l2 => ?_
      have s_l2 := same_new (o := .lst [.str "self", .str "ties", .str "group"]) n_l2
      have hp := s_l2 _ _ hp
      have h_l2 : (upd H1 l2 (.lst [.str "self", .str "ties", .str "group"])) l2 = some (.lst [.str "self", .str "ties", .str "group"]) := upd_same
      have S := S.trans s_l2
      generalize upd H1 l2 (.lst [.str "self", .str "ties", .str "group"]) = H2 at hp h_l2 S s_l2 ⊢
      wtm_at "rd"
      refine r_inB (ws := ["self", "ties", "group"]) true (SqL.of h_l2) (by decide +kernel) ?_
      wtm_at "rd"
      refine iteT ?_
      wtm_at "rd"
      refine r_ite (fun z => absurd z (by decide +kernel)) (fun _ => ?_)
      wtm_at "rd"
      refine r_ite (fun _ => ?_) (fun z => absurd rfl z)
      wtm_at "rd"
      exact ⟨rfl, fun x' H' nx k s => q x' H' (S.free nx) (k.mono fun _ z => S.free z) (S.trans s)⟩
    case group =>
      obtain ⟨hN, hp⟩ := ht
      wtm_at "rd"
      try refine r_ixL (SqL.of hp) rfl ?_
      wtm_at "rd"
      refine r_new rfl fun l1 n_l1 => ?_
      have s_l1 := same_new (o := .lst [.str "rows", .str "groups", .str "keys"]) n_l1
      have hp := s_l1 _ _ hp
      have h_l1 : (upd H l1 (.lst [.str "rows", .str "groups", .str "keys"])) l1 = some (.lst [.str "rows", .str "groups", .str "keys"]) := upd_same
      have S := s_l1
      generalize upd H l1 (.lst [.str "rows", .str "groups", .str "keys"]) = H1 at hp h_l1 S s_l1 ⊢
      wtm_at "rd"
      refine r_inB (ws := axL) false (SqL.of h_l1) (by decide +kernel) ?_
      wtm_at "rd"
      refine iteF ?_
      wtm_at "rd"
      refine r_new rfl fun l2 n_l2 => ?_
      have s_l2 := same_new (o := .lst [.str "self", .str "ties", .str "group"]) n_l2
      have hp := s_l2 _ _ hp
      have h_l2 : (upd H1 l2 (.lst [.str "self", .str "ties", .str "group"])) l2 = some (.lst [.str "self", .str "ties", .str "group"]) := upd_same
      have S := S.trans s_l2
      generalize upd H1 l2 (.lst [.str "self", .str "ties", .str "group"]) = H2 at hp h_l2 S s_l2 ⊢
      wtm_at "rd"
      refine r_inB (ws := ["self", "ties", "group"]) true (SqL.of h_l2) (by decide +kernel) ?_
      wtm_at "rd"
      refine iteT ?_
      wtm_at "rd"
      refine r_ite (fun z => absurd z (by decide +kernel)) (fun _ => ?_)
      wtm_at "rd"
      refine r_ite (fun z => absurd z (by decide +kernel)) (fun _ => ?_)
      wtm_at "rd"
      exact ⟨rfl, fun x' H' nx k s => q x' H' (S.free nx) (k.mono fun _ z => S.free z) (S.trans s)⟩
    case all =>
      obtain ⟨hN, hp⟩ := ht
      wtm_at "rd"
      try refine r_ixL (SqL.of hp) rfl ?_
      wtm_at "rd"
      refine r_new rfl fun l1 n_l1 => ?_
      have s_l1 := same_new (o := .lst [.str "rows", .str "groups", .str "keys"]) n_l1
      have hp := s_l1 _ _ hp
      have h_l1 : (upd H l1 (.lst [.str "rows", .str "groups", .str "keys"])) l1 = some (.lst [.str "rows", .str "groups", .str "keys"]) := upd_same
      have S := s_l1
      generalize upd H l1 (.lst [.str "rows", .str "groups", .str "keys"]) = H1 at hp h_l1 S s_l1 ⊢
      wtm_at "rd"
      refine r_inB (ws := axL) false (SqL.of h_l1) (by decide +kernel) ?_
      wtm_at "rd"
      refine iteF ?_
      wtm_at "rd"
      refine r_new rfl fun l2 n_l2 => ?_
      have s_l2 := same_new (o := .lst [.str "self", .str "ties", .str "group"]) n_l2
      have hp := s_l2 _ _ hp
      have h_l2 : (upd H1 l2 (.lst [.str "self", .str "ties", .str "group"])) l2 = some (.lst [.str "self", .str "ties", .str "group"]) := upd_same
      have S := S.trans s_l2
      generalize upd H1 l2 (.lst [.str "self", .str "ties", .str "group"]) = H2 at hp h_l2 S s_l2 ⊢
      wtm_at "rd"
      refine r_inB (ws := ["self", "ties", "group"]) false (SqL.of h_l2) (by decide +kernel) ?_
      wtm_at "rd"
      refine iteF ?_
      wtm_at "rd"
      refine r_lenL (SqL.of hp) ?_
      wtm_at "rd"
      refine r_ite (fun _ => ?_) (fun z => absurd rfl z)
      wtm_at "rd"
      refine r_ite (fun _ => ?_) (fun z => absurd rfl z)
      wtm_at "rd"
      exact ⟨rfl, fun x' H' nx k s => q x' H' (S.free nx) (k.mono fun _ z => S.free z) (S.trans s)⟩
    case none =>
      obtain ⟨hN, hp⟩ := ht
      wtm_at "rd"
      try refine r_ixL (SqL.of hp) rfl ?_
      wtm_at "rd"
      refine r_new rfl fun l1 n_l1 => ?_
      have s_l1 := same_new (o := .lst [.str "rows", .str "groups", .str "keys"]) n_l1
      have hp := s_l1 _ _ hp
      have h_l1 : (upd H l1 (.lst [.str "rows", .str "groups", .str "keys"])) l1 = some (.lst [.str "rows", .str "groups", .str "keys"]) := upd_same
      have S := s_l1
      generalize upd H l1 (.lst [.str "rows", .str "groups", .str "keys"]) = H1 at hp h_l1 S s_l1 ⊢
      wtm_at "rd"
      refine r_inB (ws := axL) false (SqL.of h_l1) (by decide +kernel) ?_
      wtm_at "rd"
      refine iteF ?_
      wtm_at "rd"
      refine r_new rfl fun l2 n_l2 => ?_
      have s_l2 := same_new (o := .lst [.str "self", .str "ties", .str "group"]) n_l2
      have hp := s_l2 _ _ hp
      have h_l2 : (upd H1 l2 (.lst [.str "self", .str "ties", .str "group"])) l2 = some (.lst [.str "self", .str "ties", .str "group"]) := upd_same
      have S := S.trans s_l2
      generalize upd H1 l2 (.lst [.str "self", .str "ties", .str "group"]) = H2 at hp h_l2 S s_l2 ⊢
      wtm_at "rd"
      refine r_inB (ws := ["self", "ties", "group"]) false (SqL.of h_l2) (by decide +kernel) ?_
      wtm_at "rd"
      refine iteF ?_
      wtm_at "rd"
      refine r_lenL (SqL.of hp) ?_
      wtm_at "rd"
      refine r_ite (fun _ => ?_) (fun z => absurd rfl z)
      wtm_at "rd"
      refine r_ite (fun z => absurd z (by decide +kernel)) (fun _ => ?_)
      wtm_at "rd"
      exact ⟨rfl, fun x' H' nx k s => q x' H' (S.free nx) (k.mono fun _ z => S.free z) (S.trans s)⟩
    case inv t =>
      obtain ⟨hN, t1, hp, ht⟩ := ht
      have hk : t.dep < n := Nat.lt_of_succ_lt_succ hk
      wtm_at "rd"
      try refine r_ixL (SqL.of hp) rfl ?_
      wtm_at "rd"
      refine r_new rfl fun l1 n_l1 => ?_
      have s_l1 := same_new (o := .lst [.str "rows", .str "groups", .str "keys"]) n_l1
      have hp := s_l1 _ _ hp
      have h_l1 : (upd H l1 (.lst [.str "rows", .str "groups", .str "keys"])) l1 = some (.lst [.str "rows", .str "groups", .str "keys"]) := upd_same
      have S := s_l1
      generalize upd H l1 (.lst [.str "rows", .str "groups", .str "keys"]) = H1 at hp h_l1 S s_l1 ⊢
      wtm_at "rd"
      refine r_inB (ws := axL) false (SqL.of h_l1) (by decide +kernel) ?_
      wtm_at "rd"
      refine iteF ?_
      wtm_at "rd"
      refine r_new rfl fun l2 n_l2 => ?_
      have s_l2 := same_new (o := .lst [.str "self", .str "ties", .str "group"]) n_l2
      have hp := s_l2 _ _ hp
      have h_l2 : (upd H1 l2 (.lst [.str "self", .str "ties", .str "group"])) l2 = some (.lst [.str "self", .str "ties", .str "group"]) := upd_same
      have S := S.trans s_l2
      generalize upd H1 l2 (.lst [.str "self", .str "ties", .str "group"]) = H2 at hp h_l2 S s_l2 ⊢
      wtm_at "rd"
      refine r_inB (ws := ["self", "ties", "group"]) false (SqL.of h_l2) (by decide +kernel) ?_
      wtm_at "rd"
      refine iteF ?_
      wtm_at "rd"
      refine r_lenL (SqL.of hp) ?_
      wtm_at "rd"
      refine r_ite (fun z => absurd z (by dsimp only [List.length_cons, List.length_nil]; decide)) (fun _ => ?_)
      have ht := ht.same S
      have S0 := S
      wtm_at "rd"
      try refine r_ixL (SqL.of hp) rfl ?_
      wtm_at "rd"
      refine ⟨t1, N, t, rfl, hk, ho, hl, ht, fun x H3 nx k s => ?_⟩
      have hp := s _ _ hp
      have S := S.trans s
      wtm_at "rd"
      refine r_lenL (SqL.of hp) ?_
      wtm_at "rd"
      refine r_ite (fun _ => ?_) (fun z => absurd rfl z)
      wtm_at "rd"
      refine r_ite (fun _ => ?_) (fun z => absurd rfl z)
      wtm_at "rd"
      refine rg_un T k ?_
      exact ⟨x, _, t.w, t.ex, rfl, k, t.bd, (show (Ex0.add t.ex).le 18 from (Tr.ex_le (.inv t)).mono (by show 2 * t.leaves ≤ 18; have : t.leaves ≤ 9 := hl; omega)), fun x' H' nx k s => q x' H' (S.free nx) (k.mono fun _ z => S.free z) (S.trans s)⟩
    case neg t =>
      obtain ⟨hN, t1, hp, ht⟩ := ht
      have hk : t.dep < n := Nat.lt_of_succ_lt_succ hk
      wtm_at "rd"
      try refine r_ixL (SqL.of hp) rfl ?_
      wtm_at "rd"
      refine r_new rfl fun l1 n_l1 => ?_
      have s_l1 := same_new (o := .lst [.str "rows", .str "groups", .str "keys"]) n_l1
      have hp := s_l1 _ _ hp
      have h_l1 : (upd H l1 (.lst [.str "rows", .str "groups", .str "keys"])) l1 = some (.lst [.str "rows", .str "groups", .str "keys"]) := upd_same
      have S := s_l1
      generalize upd H l1 (.lst [.str "rows", .str "groups", .str "keys"]) = H1 at hp h_l1 S s_l1 ⊢
      wtm_at "rd"
      refine r_inB (ws := axL) false (SqL.of h_l1) (by decide +kernel) ?_
      wtm_at "rd"
      refine iteF ?_
      wtm_at "rd"
      refine r_new rfl fun l2 n_l2 => ?_
      have s_l2 := same_new (o := .lst [.str "self", .str "ties", .str "group"]) n_l2
      have hp := s_l2 _ _ hp
      have h_l2 : (upd H1 l2 (.lst [.str "self", .str "ties", .str "group"])) l2 = some (.lst [.str "self", .str "ties", .str "group"]) := upd_same
      have S := S.trans s_l2
      generalize upd H1 l2 (.lst [.str "self", .str "ties", .str "group"]) = H2 at hp h_l2 S s_l2 ⊢
      wtm_at "rd"
      refine r_inB (ws := ["self", "ties", "group"]) false (SqL.of h_l2) (by decide +kernel) ?_
      wtm_at "rd"
      refine iteF ?_
      wtm_at "rd"
      refine r_lenL (SqL.of hp) ?_
      wtm_at "rd"
      refine r_ite (fun z => absurd z (by dsimp only [List.length_cons, List.length_nil]; decide)) (fun _ => ?_)
      have ht := ht.same S
      have S0 := S
      wtm_at "rd"
      try refine r_ixL (SqL.of hp) rfl ?_
      wtm_at "rd"
      refine ⟨t1, N, t, rfl, hk, ho, hl, ht, fun x H3 nx k s => ?_⟩
      have hp := s _ _ hp
      have S := S.trans s
      wtm_at "rd"
      refine r_lenL (SqL.of hp) ?_
      wtm_at "rd"
      refine r_ite (fun _ => ?_) (fun z => absurd rfl z)
      wtm_at "rd"
      refine r_ite (fun z => absurd z (by decide +kernel)) (fun _ => ?_)
      wtm_at "rd"
      refine rg_un T k ?_
      exact ⟨x, _, t.w, t.ex, rfl, k, fun x' H' nx k' s => q x' H' (S.free nx) (k'.mono fun _ z => S0.free z) (S.trans s)⟩
    case and t u =>
      obtain ⟨hN, t1, u1, hp, ht, hu⟩ := ht
      have hk : max t.dep u.dep < n := Nat.lt_of_succ_lt_succ hk
      have hl0 : t.leaves + u.leaves ≤ 9 := hl
      wtm_at "rd"
      try refine r_ixL (SqL.of hp) rfl ?_
      wtm_at "rd"
      refine r_new rfl fun l1 n_l1 => ?_
      have s_l1 := same_new (o := .lst [.str "rows", .str "groups", .str "keys"]) n_l1
      have hp := s_l1 _ _ hp
      have h_l1 : (upd H l1 (.lst [.str "rows", .str "groups", .str "keys"])) l1 = some (.lst [.str "rows", .str "groups", .str "keys"]) := upd_same
      have S := s_l1
      generalize upd H l1 (.lst [.str "rows", .str "groups", .str "keys"]) = H1 at hp h_l1 S s_l1 ⊢
      wtm_at "rd"
      refine r_inB (ws := axL) false (SqL.of h_l1) (by decide +kernel) ?_
      wtm_at "rd"
      refine iteF ?_
      wtm_at "rd"
      refine r_new rfl fun l2 n_l2 => ?_
      have s_l2 := same_new (o := .lst [.str "self", .str "ties", .str "group"]) n_l2
      have hp := s_l2 _ _ hp
      have h_l2 : (upd H1 l2 (.lst [.str "self", .str "ties", .str "group"])) l2 = some (.lst [.str "self", .str "ties", .str "group"]) := upd_same
      have S := S.trans s_l2
      generalize upd H1 l2 (.lst [.str "self", .str "ties", .str "group"]) = H2 at hp h_l2 S s_l2 ⊢
      wtm_at "rd"
      refine r_inB (ws := ["self", "ties", "group"]) false (SqL.of h_l2) (by decide +kernel) ?_
      wtm_at "rd"
      refine iteF ?_
      wtm_at "rd"
      refine r_lenL (SqL.of hp) ?_
      wtm_at "rd"
      refine r_ite (fun z => absurd z (by dsimp only [List.length_cons, List.length_nil]; decide)) (fun _ => ?_)
      have ht := ht.same S
      have hu := hu.same S
      wtm_at "rd"
      try refine r_ixL (SqL.of hp) rfl ?_
      wtm_at "rd"
      refine ⟨t1, N, t, rfl, by omega, ho.1, by omega, ht, fun x H3 nx k s => ?_⟩
      have hp := s _ _ hp
      have hu := hu.same s
      have S := S.trans s
      wtm_at "rd"
      refine r_lenL (SqL.of hp) ?_
      wtm_at "rd"
      refine r_ite (fun z => absurd z (by dsimp only [List.length_cons, List.length_nil]; decide)) (fun _ => ?_)
      wtm_at "rd"
      try refine r_ixL (SqL.of hp) rfl ?_
      wtm_at "rd"
      refine ⟨u1, N, u, rfl, by omega, ho.2, by omega, hu, fun y H4 ny k2 s2 => ?_⟩
      have k := k.same s2
      have S := S.trans s2
      wtm_at "rd"
      refine r_ite (fun _ => ?_) (fun z => absurd rfl z)
      wtm_at "rd"
      refine iteT ?_
      wtm_at "rd"
      refine r_ite (fun _ => ?_) (fun z => absurd rfl z)
      wtm_at "rd"
      exact rg_bin T k k2 t.bd u.bd ((Tr.ex_le (.and t u)).mono (by show 2 * (t.leaves + u.leaves) ≤ 18; omega)) (fun x' H' nx k s => q x' H' (S.free nx) (k.mono fun _ z => S.free z) (S.trans s))
    case or t u =>
      obtain ⟨hN, t1, u1, hp, ht, hu⟩ := ht
      have hk : max t.dep u.dep < n := Nat.lt_of_succ_lt_succ hk
      have hl0 : t.leaves + u.leaves ≤ 9 := hl
      wtm_at "rd"
      try refine r_ixL (SqL.of hp) rfl ?_
      wtm_at "rd"
      refine r_new rfl fun l1 n_l1 => ?_
      have s_l1 := same_new (o := .lst [.str "rows", .str "groups", .str "keys"]) n_l1
      have hp := s_l1 _ _ hp
      have h_l1 : (upd H l1 (.lst [.str "rows", .str "groups", .str "keys"])) l1 = some (.lst [.str "rows", .str "groups", .str "keys"]) := upd_same
      have S := s_l1
      generalize upd H l1 (.lst [.str "rows", .str "groups", .str "keys"]) = H1 at hp h_l1 S s_l1 ⊢
      wtm_at "rd"
      refine r_inB (ws := axL) false (SqL.of h_l1) (by decide +kernel) ?_
      wtm_at "rd"
      refine iteF ?_
      wtm_at "rd"
      refine r_new rfl fun l2 n_l2 => ?_
      have s_l2 := same_new (o := .lst [.str "self", .str "ties", .str "group"]) n_l2
      have hp := s_l2 _ _ hp
      have h_l2 : (upd H1 l2 (.lst [.str "self", .str "ties", .str "group"])) l2 = some (.lst [.str "self", .str "ties", .str "group"]) := upd_same
      have S := S.trans s_l2
      generalize upd H1 l2 (.lst [.str "self", .str "ties", .str "group"]) = H2 at hp h_l2 S s_l2 ⊢
      wtm_at "rd"
      refine r_inB (ws := ["self", "ties", "group"]) false (SqL.of h_l2) (by decide +kernel) ?_
      wtm_at "rd"
      refine iteF ?_
      wtm_at "rd"
      refine r_lenL (SqL.of hp) ?_
      wtm_at "rd"
      refine r_ite (fun z => absurd z (by dsimp only [List.length_cons, List.length_nil]; decide)) (fun _ => ?_)
      have ht := ht.same S
      have hu := hu.same S
      wtm_at "rd"
      try refine r_ixL (SqL.of hp) rfl ?_
      wtm_at "rd"
      refine ⟨t1, N, t, rfl, by omega, ho.1, by omega, ht, fun x H3 nx k s => ?_⟩
      have hp := s _ _ hp
      have hu := hu.same s
      have S := S.trans s
      wtm_at "rd"
      refine r_lenL (SqL.of hp) ?_
      wtm_at "rd"
      refine r_ite (fun z => absurd z (by dsimp only [List.length_cons, List.length_nil]; decide)) (fun _ => ?_)
      wtm_at "rd"
      try refine r_ixL (SqL.of hp) rfl ?_
      wtm_at "rd"
      refine ⟨u1, N, u, rfl, by omega, ho.2, by omega, hu, fun y H4 ny k2 s2 => ?_⟩
      have k := k.same s2
      have S := S.trans s2
      wtm_at "rd"
      refine r_ite (fun z => absurd z (by decide +kernel)) (fun _ => ?_)
      wtm_at "rd"
      refine r_ite (fun _ => ?_) (fun z => absurd rfl z)
      wtm_at "rd"
      refine r_ite (fun z => absurd z (by decide +kernel)) (fun _ => ?_)
      wtm_at "rd"
      exact rg_bin T k k2 t.bd u.bd ((Tr.ex_le (.or t u)).mono (by show 2 * (t.leaves + u.leaves) ≤ 18; omega)) (fun x' H' nx k s => q x' H' (S.free nx) (k.mono fun _ z => S.free z) (S.trans s))
    case sub t u =>
      obtain ⟨hN, t1, u1, hp, ht, hu⟩ := ht
      have hk : max t.dep u.dep < n := Nat.lt_of_succ_lt_succ hk
      have hl0 : t.leaves + u.leaves ≤ 9 := hl
      wtm_at "rd"
      try refine r_ixL (SqL.of hp) rfl ?_
      wtm_at "rd"
      refine r_new rfl fun l1 n_l1 => ?_
      have s_l1 := same_new (o := .lst [.str "rows", .str "groups", .str "keys"]) n_l1
      have hp := s_l1 _ _ hp
      have h_l1 : (upd H l1 (.lst [.str "rows", .str "groups", .str "keys"])) l1 = some (.lst [.str "rows", .str "groups", .str "keys"]) := upd_same
      have S := s_l1
      generalize upd H l1 (.lst [.str "rows", .str "groups", .str "keys"]) = H1 at hp h_l1 S s_l1 ⊢
      wtm_at "rd"
      refine r_inB (ws := axL) false (SqL.of h_l1) (by decide +kernel) ?_
      wtm_at "rd"
      refine iteF ?_
      wtm_at "rd"
      refine r_new rfl fun l2 n_l2 => ?_
      have s_l2 := same_new (o := .lst [.str "self", .str "ties", .str "group"]) n_l2
      have hp := s_l2 _ _ hp
      have h_l2 : (upd H1 l2 (.lst [.str "self", .str "ties", .str "group"])) l2 = some (.lst [.str "self", .str "ties", .str "group"]) := upd_same
      have S := S.trans s_l2
      generalize upd H1 l2 (.lst [.str "self", .str "ties", .str "group"]) = H2 at hp h_l2 S s_l2 ⊢
      wtm_at "rd"
      refine r_inB (ws := ["self", "ties", "group"]) false (SqL.of h_l2) (by decide +kernel) ?_
      wtm_at "rd"
      refine iteF ?_
      wtm_at "rd"
      refine r_lenL (SqL.of hp) ?_
      wtm_at "rd"
      refine r_ite (fun z => absurd z (by dsimp only [List.length_cons, List.length_nil]; decide)) (fun _ => ?_)
      have ht := ht.same S
      have hu := hu.same S
      wtm_at "rd"
      try refine r_ixL (SqL.of hp) rfl ?_
      wtm_at "rd"
      refine ⟨t1, N, t, rfl, by omega, ho.1, by omega, ht, fun x H3 nx k s => ?_⟩
      have hp := s _ _ hp
      have hu := hu.same s
      have S := S.trans s
      wtm_at "rd"
      refine r_lenL (SqL.of hp) ?_
      wtm_at "rd"
      refine r_ite (fun z => absurd z (by dsimp only [List.length_cons, List.length_nil]; decide)) (fun _ => ?_)
      wtm_at "rd"
      try refine r_ixL (SqL.of hp) rfl ?_
      wtm_at "rd"
      refine ⟨u1, N, u, rfl, by omega, ho.2, by omega, hu, fun y H4 ny k2 s2 => ?_⟩
      have k := k.same s2
      have S := S.trans s2
      wtm_at "rd"
      refine r_ite (fun z => absurd z (by decide +kernel)) (fun _ => ?_)
      wtm_at "rd"
      refine r_ite (fun z => absurd z (by decide +kernel)) (fun _ => ?_)
      wtm_at "rd"
      refine r_ite (fun _ => ?_) (fun z => absurd rfl z)
      wtm_at "rd"
      exact rg_bin T k k2 t.bd u.bd ((Tr.ex_le (.sub t u)).mono (by show 2 * (t.leaves + u.leaves) ≤ 18; omega)) (fun x' H' nx k s => q x' H' (S.free nx) (k.mono fun _ z => S.free z) (S.trans s))
    case xor t u =>
      obtain ⟨hN, t1, u1, hp, ht, hu⟩ := ht
      have hk : max t.dep u.dep < n := Nat.lt_of_succ_lt_succ hk
      have hl0 : t.leaves + u.leaves ≤ 9 := hl
      wtm_at "rd"
      try refine r_ixL (SqL.of hp) rfl ?_
      wtm_at "rd"
      refine r_new rfl fun l1 n_l1 => ?_
      have s_l1 := same_new (o := .lst [.str "rows", .str "groups", .str "keys"]) n_l1
      have hp := s_l1 _ _ hp
      have h_l1 : (upd H l1 (.lst [.str "rows", .str "groups", .str "keys"])) l1 = some (.lst [.str "rows", .str "groups", .str "keys"]) := upd_same
      have S := s_l1
      generalize upd H l1 (.lst [.str "rows", .str "groups", .str "keys"]) = H1 at hp h_l1 S s_l1 ⊢
      wtm_at "rd"
      refine r_inB (ws := axL) false (SqL.of h_l1) (by decide +kernel) ?_
      wtm_at "rd"
      refine iteF ?_
      wtm_at "rd"
      refine r_new rfl fun l2 n_l2 => ?_
      have s_l2 := same_new (o := .lst [.str "self", .str "ties", .str "group"]) n_l2
      have hp := s_l2 _ _ hp
      have h_l2 : (upd H1 l2 (.lst [.str "self", .str "ties", .str "group"])) l2 = some (.lst [.str "self", .str "ties", .str "group"]) := upd_same
      have S := S.trans s_l2
      generalize upd H1 l2 (.lst [.str "self", .str "ties", .str "group"]) = H2 at hp h_l2 S s_l2 ⊢
      wtm_at "rd"
      refine r_inB (ws := ["self", "ties", "group"]) false (SqL.of h_l2) (by decide +kernel) ?_
      wtm_at "rd"
      refine iteF ?_
      wtm_at "rd"
      refine r_lenL (SqL.of hp) ?_
      wtm_at "rd"
      refine r_ite (fun z => absurd z (by dsimp only [List.length_cons, List.length_nil]; decide)) (fun _ => ?_)
      have ht := ht.same S
      have hu := hu.same S
      wtm_at "rd"
      try refine r_ixL (SqL.of hp) rfl ?_
      wtm_at "rd"
      refine ⟨t1, N, t, rfl, by omega, ho.1, by omega, ht, fun x H3 nx k s => ?_⟩
      have hp := s _ _ hp
      have hu := hu.same s
      have S := S.trans s
      wtm_at "rd"
      refine r_lenL (SqL.of hp) ?_
      wtm_at "rd"
      refine r_ite (fun z => absurd z (by dsimp only [List.length_cons, List.length_nil]; decide)) (fun _ => ?_)
      wtm_at "rd"
      try refine r_ixL (SqL.of hp) rfl ?_
      wtm_at "rd"
      refine ⟨u1, N, u, rfl, by omega, ho.2, by omega, hu, fun y H4 ny k2 s2 => ?_⟩
      have k := k.same s2
      have S := S.trans s2
      wtm_at "rd"
      refine r_ite (fun z => absurd z (by decide +kernel)) (fun _ => ?_)
      wtm_at "rd"
      refine r_ite (fun z => absurd z (by decide +kernel)) (fun _ => ?_)
      wtm_at "rd"
      refine r_ite (fun z => absurd z (by decide +kernel)) (fun _ => ?_)
      wtm_at "rd"
      exact rg_bin T k k2 t.bd u.bd ((Tr.ex_le (.xor t u)).mono (by show 2 * (t.leaves + u.leaves) ≤ 18; omega)) (fun x' H' nx k s => q x' H' (S.free nx) (k.mono fun _ z => S.free z) (S.trans s))

end

def Dom (B H : Hp) : Prop := ∀ a, H a = none → B a = none
theorem Dom.refl {H : Hp} : Dom H H := fun _ h => h
theorem Dom.trans {A B C : Hp} (h : Dom A B) (k : Dom B C) : Dom A C := fun a n => h a (k a n)
theorem Dom.of {H H' : Hp} (s : Same H H') : Dom H H' := fun _ n => s.free n
theorem Dom.ext {H H' : Hp} {d c r : Addr} (D : Drw H d c r) (D' : Drw H' d c r) (e : Ext d r H H') : Dom H H' := fun _ n => D.back e n D'
theorem Dom.put {B H : Hp} {a : Addr} {o : HO} (h : Dom B H) (n : H a ≠ none) : Dom B (upd H a o) := fun b z => by
  by_cases e : b = a
  · subst e; rw [upd_same] at z; cases z
  · rw [upd_ne e] at z; exact h b z
theorem keep_put {N : Addr → Prop} {H : Hp} {a : Addr} {xs ys : List V} (h : H a = some (.lst xs)) (n : ¬ N a) : KeepN N H (upd H a (.lst ys)) := fun b o hb z => by
  by_cases e : b = a
  · subst e
    rcases z with z | z
    · exact absurd z n
    · rw [h] at hb; exact absurd (Option.some.inj hb).symm (z xs)
  · rw [upd_ne e]; exact hb
theorem KeepN.trans {N : Addr → Prop} {A B C : Hp} (h : KeepN N A B) (k : KeepN N B C) : KeepN N A C := fun b o e n => k b o (h b o e n) n
/-- [e for x in xs], each item's fact by its place, kept while only lists outside change -/
theorem lc_rel {σ : L2.St} {H : Hp} {Q : VK} {te : TE} {K : PySem.W.Frag} {a : Addr} {xs : List V} {n : Nat} (P : Nat → V → (Addr → Prop) → Hp → Prop)
    (mono : ∀ i v N M H, P i v N H → (∀ a, N a → M a) → P i v M H) (keep : ∀ i v N H H', P i v N H → KeepN N H H' → P i v N H') (hS : SqL K H a xs) (hz : xs.length ≤ 1000)
    (he : ∀ (i : Nat) (x : V) (H' : Hp) (QQ : VK), xs[i]? = some x → Same H H' → (∀ v H'', P i v (fun a => H' a = none) H'' → Same H' H'' → QQ v H'') → te ((wipe σ [n]).set n (some x)) H' QQ)
    (hq : ∀ D ys H', H D = none → H' D = some (.lst ys) → ys.length = xs.length → (∀ i v, ys[i]? = some v → P i v (fun a => H a = none) H') → Same H H' → Q (.ref D) H') : lcGo (Itl K a) (gName n) tYes te [n] σ Q H := by
  intro D nD
  refine lc_list (K := K) (a := a) (xs := xs) (fun i H' => ∃ ys : List V, ys.length = i ∧ H' D = some (.lst ys) ∧ (∀ j v, ys[j]? = some v → P j v (fun a => H a = none ∧ a ≠ D) H') ∧ Same H H') ⟨[], rfl, upd_same, fun j v h => (by cases h), same_new nD⟩ (fun i H' _ h => by obtain ⟨_, _, _, _, s⟩ := h; exact s.seq hS) ?_ ?_
  · rintro i x H4 hx ⟨ys, hl, hD, hp, s4⟩
    refine ⟨wipe1, ?_⟩
    show te _ _ _
    have hi : i < xs.length := (List.getElem?_eq_some_iff.mp hx).1
    refine he i x H4 _ hx s4 fun v H5 hv s5 => ⟨ys, s5 _ _ hD, small1000 (by omega), ys ++ [v], by rw [List.length_append, hl]; rfl, upd_same, fun j w hw => ?_, fun b o e => (upd_ne (ne_of_none e nD)).trans (s5 _ _ (s4 _ _ e))⟩
    have kp : KeepN (fun a => H a = none ∧ a ≠ D) H5 (upd H5 D (.lst (ys ++ [v]))) := keep_put (s5 _ _ hD) fun z => z.2 rfl
    rcases Nat.lt_or_ge j ys.length with hj | hj
    · rw [List.getElem?_append_left hj] at hw
      exact keep _ _ _ _ _ (keep _ _ _ _ _ (hp j w hw) (keep_same s5)) kp
    · rw [List.getElem?_append_right hj] at hw
      cases hk : j - ys.length with
      | zero =>
        rw [hk] at hw
        cases hw
        have : j = i := by omega
        subst this
        exact keep _ _ _ _ _ (mono _ _ _ _ _ hv fun a n => ⟨s4.free n, fun e => (by rw [e, hD] at n; cases n)⟩) kp
      | succ m => rw [hk] at hw; cases hw
  · rintro H4 ⟨ys, hl, hD, hp, s4⟩
    exact hq D ys H4 nD hD hl (fun i v h => mono _ _ _ _ _ (hp i v h) fun a n => n.1) s4
/-- [e for x in range(..)], e draws and makes -/
theorem lc_drawsR {σ : L2.St} {H : Hp} {Q : VK} {te : TE} {n m : Nat} {lo : Int} {d c r : Addr} (P : Nat → V → (Addr → Prop) → Hp → Prop)
    (mono : ∀ i v N M H, P i v N H → (∀ a, N a → M a) → P i v M H) (keep : ∀ i v N H H', P i v N H → KeepN N H H' → P i v N H') (hm : m ≤ 1000) (D0 : Drw H d c r)
    (he : ∀ (i : Nat) (H' : Hp) (QQ : VK), i < m → Drw H' d c r → Ext d r H H' → (∀ (v : V) (H'' : Hp), P i v (fun a => H' a = none) H'' → Drw H'' d c r → Ext d r H' H'' → QQ v H'') → te ((wipe σ [n]).set n (some (.int (lo + i)))) H' QQ)
    (hq : ∀ (l : Addr) (ss : List V) (H' : Hp), ss.length = m → (∀ i v, ss[i]? = some v → P i v (fun a => H a = none) H') → H l = none → H' l = some (.lst ss) → Drw H' d c r → Ext d r H H' → Q (.ref l) H') : lcGo (Itr lo m) (gName n) tYes te [n] σ Q H := by
  intro l nl
  have ld := D0.ned nl
  have lr := D0.ner nl
  have lc := D0.nec nl
  refine lc_range (fun i H' => ∃ ss : List V, ss.length = i ∧ (∀ j v, ss[j]? = some v → P j v (fun a => H a = none ∧ a ≠ l) H') ∧ H' l = some (.lst ss) ∧ Drw H' d c r ∧ Ext d r H H') ⟨[], rfl, fun j v h => (nomatch h), upd_same, D0.new nl, Ext.of (same_new nl)⟩ ?_ ?_
  · rintro i H' hi ⟨ss, hl, hp, hs, D1, E1⟩
    refine ⟨wipe1, ?_⟩
    show te _ _ _
    refine he i H' _ hi D1 E1 fun k H'' hk D2 E2 => ⟨ss, E2 _ _ hs ld lr, small1000 (by omega), ?_⟩
    have kp : KeepN (fun a => H a = none ∧ a ≠ l) H'' (upd H'' l (.lst (ss ++ [k]))) := keep_put (E2 _ _ hs ld lr) fun z => z.2 rfl
    have k2 : KeepN (fun a => H a = none ∧ a ≠ l) H' H'' := fun b o hb z => keep_d D0 D1 E2 b o hb (z.imp_left fun n => n.1)
    refine ⟨ss ++ [k], by rw [List.length_append, hl]; rfl, fun j v hv => ?_, upd_same, D2.put ld lr lc, fun b o e n1 n2 => ?_⟩
    · rcases Nat.lt_or_ge j ss.length with hj | hj
      · rw [List.getElem?_append_left hj] at hv
        exact keep _ _ _ _ _ (keep _ _ _ _ _ (hp j v hv) k2) kp
      · rw [List.getElem?_append_right hj] at hv
        cases hz : j - ss.length with
        | zero =>
          rw [hz] at hv
          cases hv
          have : j = i := by omega
          subst this
          exact keep _ _ _ _ _ (mono _ _ _ _ _ hk fun a n => ⟨D0.back E1 n D1, fun e => (by rw [e, hs] at n; cases n)⟩) kp
        | succ m => rw [hz] at hv; cases hv
    · rw [upd_ne (ne_of_none e nl)]
      exact E2 b o (E1 b o e n1 n2) n1 n2
  · rintro H' ⟨ss, hl, hp, hs, D1, E1⟩
    exact hq l ss H' hl (fun i v h => mono _ _ _ _ _ (hp i v h) fun a n => n.1) nl hs D1 E1
/-- a tuple of numbers of a possible offset -/
def NumAt3 (v : V) (N : Addr → Prop) (H : Hp) : Prop := ∃ (t : Addr) (x y k : Int), v = .ref t ∧ possB x y k = true ∧ H t = some (.tup [.int x, .int y, .int k])
theorem NumAt3.keep {v : V} {N : Addr → Prop} {H H' : Hp} (h : NumAt3 v N H) (k : KeepN N H H') : NumAt3 v N H' := by
  obtain ⟨t, x, y, z, h1, h2, h3⟩ := h
  exact ⟨t, x, y, z, h1, h2, k _ _ h3 (.inr fun _ e => nomatch e)⟩
def spNumbersL : Sp := fun vs H Q _ => ∃ (d c r : Addr), vs = [.ref d] ∧ Drw H d c r ∧ ∀ (t : Addr) (x y k : Int) (H' : Hp), possB x y k = true → H' t = some (.tup [.int x, .int y, .int k]) → Drw H' d c r → Ext d r H H' → Q (.ref t) H'
def spWhole : Sp := fun vs H Q _ => ∃ i : Int, vs = [.int i] ∧ Q (.bl true) H
section
variable {P : Program} {w : World} {K : PySem.W.Frag} {mg : Str → Option Value} {base : Heap}
theorem ok__law_numbers (T : Txt K mg) : FnOk P w K mg base CX0 2 T.f__law_numbers T.d__law_numbers ["_law_draws"] spNumbersL := by
  refine T.F__law_numbers.ok sc__law_numbers (fun vs H Q E h => ?_) (fun cdv A outer s H vs Q E hr h => ?_)
  · obtain ⟨d, c, r, rfl, _⟩ := h
    rfl
  obtain ⟨d, c, r, rfl, D, q⟩ := h
  refine ⟨_, (pss_cons (ps_set (i := 1) sc__law_numbers.nd rfl (by first | exact Or.inl rfl | exact Or.inr rfl) (pe_call (ok__law_draw T) (hr.mono (by decide)) (by rfl) T.g__law_draw T.F__law_draw.kp T.b__law_draw .nil pass0 (pa_cons (pv 0) (pa_cons pe_int pa_nil))))
      (pss_cons (ps_if (pt_cmpR op_eq (pv 1) pe_int (nomark _)) (pss_one (ps_ret (pe_tup (pa_cons pe_int (pa_cons pe_int (pa_cons pe_int pa_nil)))))) pss_nil)
      (pss_cons (ps_set (i := 2) sc__law_numbers.nd rfl (by first | exact Or.inl rfl | exact Or.inr rfl) (pe_op op_add pe_int (pe_call (ok__law_draw T) (hr.mono (by decide)) (by rfl) T.g__law_draw T.F__law_draw.kp T.b__law_draw .nil pass0 (pa_cons (pv 0) (pa_cons pe_int pa_nil)))))
      (pss_cons (ps_if (pt_cmpR op_eq (pv 1) pe_int (nomark _)) (pss_one (ps_ret (pe_tup (pa_cons (pv 2) (pa_cons pe_int (pa_cons pe_int pa_nil)))))) pss_nil)
      (pss_cons (ps_if (pt_cmpR op_eq (pv 1) pe_int (nomark _)) (pss_one (ps_ret (pe_tup (pa_cons (pe_op op_sub pe_int (pv 2)) (pa_cons pe_int (pa_cons pe_int pa_nil)))))) pss_nil)
      (pss_cons (ps_set (i := 3) sc__law_numbers.nd rfl (by first | exact Or.inl rfl | exact Or.inr rfl) (pe_op op_add pe_int (pe_call (ok__law_draw T) (hr.mono (by decide)) (by rfl) T.g__law_draw T.F__law_draw.kp T.b__law_draw .nil pass0 (pa_cons (pv 0) (pa_cons (pe_ix (r := rIxL K) ix_list (pe_lst (pa_cons pe_int (pa_cons pe_int (pa_cons pe_int (pa_cons pe_int pa_nil))))) (pe_call (ok__law_draw T) (hr.mono (by decide)) (by rfl) T.g__law_draw T.F__law_draw.kp T.b__law_draw .nil pass0 (pa_cons (pv 0) (pa_cons pe_int pa_nil))) (fun _ _ => rfl)) pa_nil)))))
      (pss_cons (ps_set (i := 2) sc__law_numbers.nd rfl (by first | exact Or.inl rfl | exact Or.inr rfl) (pe_op op_add (pv 3) (pe_call (ok__law_draw T) (hr.mono (by decide)) (by rfl) T.g__law_draw T.F__law_draw.kp T.b__law_draw .nil pass0 (pa_cons (pv 0) (pa_cons pe_int pa_nil)))))
      (pss_cons (ps_set (i := 4) sc__law_numbers.nd rfl (by first | exact Or.inl rfl | exact Or.inr rfl) (pe_op op_add (pv 3) (pe_call (ok__law_draw T) (hr.mono (by decide)) (by rfl) T.g__law_draw T.F__law_draw.kp T.b__law_draw .nil pass0 (pa_cons (pv 0) (pa_cons (pe_ix (r := rIxL K) ix_list (pe_lst (pa_cons pe_int (pa_cons pe_int (pa_cons (pe_op op_mul pe_int (pe_op op_pow pe_int pe_int)) pa_nil)))) (pe_call (ok__law_draw T) (hr.mono (by decide)) (by rfl) T.g__law_draw T.F__law_draw.kp T.b__law_draw .nil pass0 (pa_cons (pv 0) (pa_cons pe_int pa_nil))) (fun _ _ => rfl)) pa_nil)))))
      (pss_cons (ps_if (pt_cmpR op_lt (pv 1) pe_int (nomark _)) (pss_one (ps_ret (pe_tup (pa_cons (pv 2) (pa_cons (pv 3) (pa_cons (pv 4) pa_nil)))))) pss_nil)
      (pss_one (ps_ret (pe_tup (pa_cons (pe_op op_sub pe_int (pv 2)) (pa_cons (pe_op op_sub pe_int (pv 3)) (pa_cons (pe_op op_sub pe_int (pv 4)) pa_nil))))))))))))))), ?_⟩
  try simp only [nox_K, cx_K]
  have P1 : ∀ r g d : Int, (g = 0 ∧ d = 0) ∨ (g < 0 ∧ r ≤ g ∧ d ≤ g) ∨ (0 < g ∧ g ≤ r ∧ g ≤ d) → possB r g d = true := fun r g d h => decide_eq_true h
  wtm_at "rd"
  refine ⟨d, c, r, 8, rfl, D, by decide, by decide, fun k H1 k0 k1 D1 E1 => ?_⟩
  wtm_at "rd"
  refine r_ite (fun e1 => ?_) (fun e1 => ?_)
  · wtm_at "rd"
    refine r_new rfl fun t n_t => ?_
    generalize eq_t : upd _ t _ = H2
    have s_t : Same _ H2 := eq_t ▸ same_new n_t
    have h_t : H2 t = some _ := eq_t ▸ upd_same
    clear eq_t
    have D1 := D1.same s_t
    have E1 := E1.trans (Ext.of s_t)
    exact q t 0 0 0 _ (P1 _ _ _ (by omega)) h_t D1 E1
  wtm_at "rd"
  refine ⟨d, c, r, 14, rfl, D1, by decide, by decide, fun k2 H2 k20 k21 D2 E2 => ?_⟩
  have E2 := E1.trans E2
  wtm_at "rd"
  refine r_ite (fun e2 => ?_) (fun e2 => ?_)
  · wtm_at "rd"
    refine r_new rfl fun t n_t => ?_
    generalize eq_t : upd _ t _ = H3
    have s_t : Same _ H3 := eq_t ▸ same_new n_t
    have h_t : H3 t = some _ := eq_t ▸ upd_same
    clear eq_t
    have D2 := D2.same s_t
    have E2 := E2.trans (Ext.of s_t)
    exact q t _ 0 0 _ (P1 _ _ _ (by omega)) h_t D2 E2
  wtm_at "rd"
  refine r_ite (fun e3 => ?_) (fun e3 => ?_)
  · wtm_at "rd"
    refine r_new rfl fun t n_t => ?_
    generalize eq_t : upd _ t _ = H3
    have s_t : Same _ H3 := eq_t ▸ same_new n_t
    have h_t : H3 t = some _ := eq_t ▸ upd_same
    clear eq_t
    have D2 := D2.same s_t
    have E2 := E2.trans (Ext.of s_t)
    exact q t _ 0 0 _ (P1 _ _ _ (by omega)) h_t D2 E2
  wtm_at "rd"
  refine r_new rfl fun l nl => ?_
  wtm_at "rd"
  refine ⟨d, c, r, 4, rfl, D2.new nl, by decide, by decide, fun k3 H3 k30 k31 D3 E3 => ?_⟩
  have hl : H3 l = some (.lst ([1, 2, 4, 14].map V.int)) := E3 _ _ upd_same (D2.ned nl) (D2.ner nl)
  refine r_ixL (SqL.of hl) (ati_int k30 k31) ?_
  have hm : 0 < kAt [1, 2, 4, 14] k3.toNat ∧ kAt [1, 2, 4, 14] k3.toNat < 20 := by
    obtain e | e | e | e : k3 = 0 ∨ k3 = 1 ∨ k3 = 2 ∨ k3 = 3 := by omega
    all_goals subst e
    all_goals decide
  have E3 := (E2.trans (Ext.of (same_new (o := .lst [V.int 1, .int 2, .int 4, .int 14]) nl))).trans E3
  wtm_at "rd"
  refine ⟨d, c, r, _, rfl, D3, hm.1, by omega, fun k4 H4 k40 k41 D4 E4 => ?_⟩
  have E4 := E3.trans E4
  wtm_at "rd"
  refine ⟨d, c, r, 6, rfl, D4, by decide, by decide, fun k5 H5 k50 k51 D5 E5 => ?_⟩
  have E5 := E4.trans E5
  wtm_at "rd"
  refine r_I ⟨by decide, by decide, by decide⟩ ?_
  wtm_at "rd"
  refine r_I (.inl ⟨by decide, by decide⟩) ?_
  wtm_at "rd"
  refine r_new rfl fun l2 nl2 => ?_
  wtm_at "rd"
  refine ⟨d, c, r, 3, rfl, D5.new nl2, by decide, by decide, fun k6 H6 k60 k61 D6 E6 => ?_⟩
  have hl2 : H6 l2 = some (.lst ([1, 8, 2 * 10 ^ (9 : Int).toNat].map V.int)) := E6 _ _ upd_same (D5.ned nl2) (D5.ner nl2)
  refine r_ixL (SqL.of hl2) (ati_int k60 k61) ?_
  have hm2 : 0 < kAt [1, 8, 2 * 10 ^ (9 : Int).toNat] k6.toNat ∧ kAt [1, 8, 2 * 10 ^ (9 : Int).toNat] k6.toNat < 10 ^ 12 := by
    obtain e | e | e : k6 = 0 ∨ k6 = 1 ∨ k6 = 2 := by omega
    all_goals subst e
    all_goals decide
  have E6 := (E5.trans (Ext.of (same_new (o := .lst [V.int 1, .int 8, .int (2 * 10 ^ (9 : Int).toNat)]) nl2))).trans E6
  wtm_at "rd"
  refine ⟨d, c, r, _, rfl, D6, hm2.1, by omega, fun k7 H7 k70 k71 D7 E7 => ?_⟩
  have E7 := E6.trans E7
  wtm_at "rd"
  refine r_ite (fun e4 => ?_) (fun e4 => ?_)
  · wtm_at "rd"
    refine r_new rfl fun t n_t => ?_
    generalize eq_t : upd _ t _ = H8
    have s_t : Same _ H8 := eq_t ▸ same_new n_t
    have h_t : H8 t = some _ := eq_t ▸ upd_same
    clear eq_t
    have D7 := D7.same s_t
    have E7 := E7.trans (Ext.of s_t)
    exact q t _ _ _ _ (P1 _ _ _ (by omega)) h_t D7 E7
  · wtm_at "rd"
    refine r_new rfl fun t n_t => ?_
    generalize eq_t : upd _ t _ = H8
    have s_t : Same _ H8 := eq_t ▸ same_new n_t
    have h_t : H8 t = some _ := eq_t ▸ upd_same
    clear eq_t
    have D7 := D7.same s_t
    have E7 := E7.trans (Ext.of s_t)
    exact q t _ _ _ _ (P1 _ _ _ (by omega)) h_t D7 E7
end
/-! ### == of dicts whose keys are tuples (the same keys in the same order), of tuples, nested: both answers -/
namespace EQT
open PySem L2 PyProof.Rows
section
variable {prog : Program} {w : World} {A : Around} {E : Value → Shared → Prop} {s : Shared} {K : Type} [DecidableEq K] {knd : HeapKind prog w K}
theorem shows_ok {a : Addr} {Q : Unit → Shared → Prop} (ha : (a == sysModules) = false) (q : Q () s) : wpAny (model prog w) A (Builtin.Dict.showsAll a) Q E s := by
  unfold Builtin.Dict.showsAll
  rw [if_neg (by rw [ha]; exact Bool.false_ne_true)]
  exact wpAny_pure q
theorem samePairsH {nm : String} {a b : Addr} {xs ys : List (K × Addr × Value)} {e : Nat → Bool} {Q : Bool → Shared → Prop} (ha : (a == sysModules) = false) (hb : (b == sysModules) = false) (room : knd.room A)
    (da : Heap.DictOfH knd s.heap a xs) (db : Heap.DictOfH knd s.heap b ys) (hk : xs.map (fun x => x.1) = ys.map (fun x => x.1))
    (he : ∀ (i : Nat) x y, xs[i]? = some x → ys[i]? = some y → SeqAt.EqP prog w A s x.2.2 y.2.2 (e i)) (q : Q ((List.range xs.length).all e) s) : wpAny (model prog w) A (Builtin.Dict.samePairs nm a b) Q E s := by
  obtain ⟨oa, ea, pa, ga, xa, da, la, ka, na⟩ := da
  obtain ⟨ob, eb, pb, gb, xb, db, lb, kb, nb⟩ := db
  have sa : ea.size = xs.length := by rw [← Array.length_toList, la, List.length_map]
  have sb : eb.size = ys.length := by rw [← Array.length_toList, lb, List.length_map]
  have sl : xs.length = ys.length := by have z := congrArg List.length hk; rwa [List.length_map, List.length_map] at z
  unfold Builtin.Dict.samePairs
  refine wpAny_bind (shows_ok ha (wpAny_bind (shows_ok hb ?_)))
  refine wpAny_bind (wpAny_dictEntries ga da ?_)
  refine wpAny_bind (wpAny_dictEntries gb db ?_)
  dsimp only
  rw [if_neg (by rw [sa, sb, sl]; simp)]
  refine wpAny_bind (wpAny_dictEpoch ga da ?_)
  simp only [Std.Legacy.Range.forIn_eq_forIn_range']
  have hn : [:ea.size].size = xs.length := by rw [sa]; simp [Std.Legacy.Range.size]
  rw [hn]
  refine wpAny_bind (wpAny_mono (wpAny_forIn_list _ (fun rest b' s' => s' = s ∧ b' = (none, ()) ∧ ∃ i, rest = (List.range' 0 xs.length).drop i ∧ i ≤ xs.length ∧ ∀ j, j < i → e j = true) (fun b' s' => s' = s ∧ ((b'.1 = none ∧ ∀ j, j < xs.length → e j = true) ∨ (b'.1 = some false ∧ ∃ j, j < xs.length ∧ e j = false))) ?_ ?_ _ _ ⟨rfl, rfl, 0, rfl, Nat.zero_le _, fun j h => absurd h (Nat.not_lt_zero j)⟩) ?_ fun _ _ z => z)
  · rintro x rest b' s' ⟨rfl, rfl, i, hr, hi, hall⟩
    have hlt : i < (List.range' 0 xs.length).length := Nat.lt_of_not_le fun z => by rw [List.drop_of_length_le z] at hr; cases hr
    rw [List.drop_eq_getElem_cons hlt] at hr
    have ex : x = i := by
      have z := (List.cons.inj hr).1
      rw [z, List.getElem_range']
      omega
    subst ex
    have hx : x < xs.length := by rw [List.length_range'] at hlt; exact hlt
    have hy : x < ys.length := by omega
    have e1 : ea[x]? = some (entryOfKey knd xs[x]) := by
      rw [← Array.getElem?_toList, la, List.getElem?_map, List.getElem?_eq_getElem hx]
      rfl
    refine wpAny_bind (wpAny_dictEntries ga da ?_)
    rw [e1]
    dsimp only
    refine wpAny_bind (wpAny_holding ?_)
    have hkey : (ys[x]).1 = (xs[x]).1 := by
      have z := congrArg (fun l => l[x]?) hk
      simp only [List.getElem?_map, List.getElem?_eq_getElem hx, List.getElem?_eq_getElem hy, Option.map_some] at z
      exact (Option.some.inj z).symm
    refine wpAny_bind (wpAny_dictFind_heap room (ka xs[x] (List.getElem_mem hx)) gb db lb kb nb (fun hno => ?_) (fun j p hj => ?_))
    · refine absurd ?_ (hno x (ys[x]).2)
      rw [List.getElem?_eq_getElem hy, ← hkey]
    · have hj' := (List.getElem?_eq_some_iff.mp hj).1
      have ej : j = x := by
        have z1 : (ys.map (fun y => y.1))[j]? = some (xs[x]).1 := by rw [List.getElem?_map, hj]; rfl
        have z2 : (ys.map (fun y => y.1))[x]? = some (xs[x]).1 := by rw [List.getElem?_map, List.getElem?_eq_getElem hy, ← hkey]; rfl
        exact (List.getElem?_inj (by rw [List.length_map]; exact hj') nb).mp (z1.trans z2.symm)
      subst ej
      have e2 : eb[j]? = some (entryOfKey knd ys[j]) := by
        rw [← Array.getElem?_toList, lb, List.getElem?_map, List.getElem?_eq_getElem hy]
        rfl
      refine wpAny_bind (wpAny_dictEntries gb db ?_)
      rw [e2]
      dsimp only
      refine wpAny_holding (he j xs[j] ys[j] (List.getElem?_eq_getElem hx) (List.getElem?_eq_getElem hy) _ _ ?_)
      cases hb : e j with
      | false =>
        exact wpAny_pure ⟨rfl, .inr ⟨rfl, j, hx, hb⟩⟩
      | true =>
        refine wpAny_bind (wpAny_dictEpoch ga da ?_)
        rw [if_neg (by simp)]
        refine wpAny_pure ⟨rfl, rfl, j + 1, (List.cons.inj hr).2, hx, fun i hi => ?_⟩
        rcases Nat.lt_or_ge i j with c | c
        · exact hall i c
        · have : i = j := by omega
          rw [this, hb]
  · rintro b' s' ⟨rfl, rfl, i, hr, hi, hall⟩
    have hge : (List.range' 0 xs.length).length ≤ i := Nat.le_of_not_lt fun z => by rw [List.drop_eq_getElem_cons z] at hr; cases hr
    rw [List.length_range'] at hge
    exact ⟨rfl, .inl ⟨rfl, fun j hj => hall j (by omega)⟩⟩
  · rintro b' s' ⟨rfl, h⟩
    rcases h with ⟨h1, h2⟩ | ⟨h1, j, hj, h2⟩
    · rw [h1]
      rw [List.all_eq_true.mpr fun i hi => h2 i (List.mem_range.mp hi)] at q
      exact wpAny_pure q
    · rw [h1]
      have z : (List.range xs.length).all e = false := by
        rw [List.all_eq_false]
        exact ⟨j, List.mem_range.mpr hj, by rw [h2]; exact Bool.false_ne_true⟩
      rw [z] at q
      exact wpAny_pure q
theorem rcP_dictsH {a b : Addr} {xs ys : List (K × Addr × Value)} {e : Nat → Bool} (ha : (a == sysModules) = false) (hb : (b == sysModules) = false) (room : knd.room A.in1)
    (da : Heap.DictOfH knd s.heap a xs) (db : Heap.DictOfH knd s.heap b ys) (hk : xs.map (fun x => x.1) = ys.map (fun x => x.1)) (hu : A.units < cLine)
    (he : ∀ (i : Nat) x y, xs[i]? = some x → ys[i]? = some y → SeqAt.EqP prog w A.in1 s x.2.2 y.2.2 (e i)) (E Q : Value → Shared → Prop) (q : Q (.bool ((List.range xs.length).all e)) s) : wpAny (model prog w) A (richCompare .Eq (.ref a) (.ref b)) Q E s := by
  have ta := da.typeIs
  have tb := db.typeIs
  refine wpAny_richCompare_same_room (op := .Eq) ta tb PySem.F.slot_dict_eq (wpAny_call_entry PySem.F.slot_dict_eq ta PySem.F.entry_dict_eq ?_ (PySem.F.args_dict_eq_2 _ _)) hu
  refine wpAny_bind (m := Builtin.Dict.dictSlotArgs "__eq__" ⟨[.ref a, .ref b], []⟩) ?_
  unfold Builtin.Dict.dictSlotArgs
  refine wpAny_bind (wpAny_notOrdered_dict ta (wpAny_pure ?_))
  refine wpAny_bind (wpAny_isInstance (T := "dict") tb PySem.F.sub_dict_dict ?_)
  rw [if_neg (by decide)]
  refine wpAny_bind (wpAny_pure (wpAny_bind (wpAny_pure ?_)))
  refine wpAny_bind (samePairsH ha hb room da db hk he ?_)
  refine wpAny_pure ⟨_, rfl, (fun x => nomatch x), ?_⟩
  cases hr : (List.range xs.length).all e with
  | true => rw [hr] at q; exact q
  | false => rw [hr] at q; exact q
end
open PySem.SeqAt
open MeetsSeq MeetsSeq2 MeetsSeq3 SeqRoads2
section
variable {prog : Program} {w : World} {A : Around} {R : Result → Shared → Prop}
/-- the loop of the tuples' ==: I i as long as all were equal, N when two were not -/
theorem eq_body (l b : Addr) (items items2 : Array Value) (n n2 : Nat) (dd dd2 : Option Addr) (sl sl2 : Array (Option Value)) (I : Nat → Shared → Prop) (N : Shared → Prop)
    (turn : ∀ i (h1 : i < items.size) (h2 : i < items2.size) s, I i s → wpAny (model prog w) A.in1 (eqBool items[i] items2[i]) (fun r s' => (r = true ∧ I (i + 1) s') ∨ (r = false ∧ N s')) (fun e s' => R (.error e) s') s)
    (fin : ∀ s, I (min items.size items2.size) s → R (.ok (.ret (.bool (items.size == items2.size)))) s) (diff : ∀ s, N s → R (.ok (.ret (.bool false))) s) {s : Shared}
    (g1 : s.heap.get? l = some { cls := .type "tuple", dict := dd, data := .seq items n, slots := sl }) (g2 : s.heap.get? b = some { cls := .type "tuple", dict := dd2, data := .seq items2 n2, slots := sl2 }) (h : I 0 s) :
    wpAny (model prog w) A.in1 (Builtin.«tuple.__eq__» ⟨[.ref l, .ref b], []⟩) (GQ.FinOf prog w A R) (fun e s' => R (.error e) s') s := by
  have f2 := AutoSeq1.sub_tuple_tuple
  have hZ : (items.toList.zip items2.toList).length = min items.size items2.size := by simp
  have h0 := h
  obtain ⟨hp, g, d, tk, os⟩ := s
  wp_walk using AutoSeq1.wpAny_loadPart' g1, AutoSeq1.wpAny_loadPart' g2, wpAny_forIn_list _ (fun rest b s' => b.1 = none ∧ ∃ i, rest = (items.toList.zip items2.toList).drop i ∧ i ≤ min items.size items2.size ∧ I i s') _
  case turn =>
    rintro ⟨y, x⟩ rest b s' ⟨hb', i, hz, hi, hI⟩
    have hlt : i < (items.toList.zip items2.toList).length := Nat.lt_of_not_le fun z => by rw [List.drop_of_length_le z] at hz; cases hz
    rw [List.drop_eq_getElem_cons hlt] at hz
    have h1 : i < items.size := by omega
    have h2 : i < items2.size := by omega
    have e1 : (y, x) = (items.toList.zip items2.toList)[i] := (List.cons.inj hz).1
    have hy : y = items[i] := by simpa using congrArg Prod.fst e1
    have hx : x = items2[i] := by simpa using congrArg Prod.snd e1
    subst hy hx
    refine wpAny_bind (wpAny_mono (turn i h1 h2 s' hI) (fun r s2 q2 => ?_) fun _ _ x => x)
    rcases q2 with ⟨rfl, q2⟩ | ⟨rfl, q2⟩
    · wp_walk
      exact ⟨rfl, i + 1, (List.cons.inj hz).2, by omega, q2⟩
    · have hR := diff s2 q2
      wp_walk
      exact hR
  case fin =>
    rintro ⟨b1, b2⟩ s' ⟨hb', i, hz, hi, hI⟩
    simp only at hb'
    subst hb'
    have hge : (items.toList.zip items2.toList).length ≤ i := Nat.le_of_not_lt fun z => by rw [List.drop_eq_getElem_cons z] at hz; cases hz
    have hR := fin s' ((show i = min items.size items2.size by omega) ▸ hI)
    wp_walk
    simpa [Builtin.Tuple.tupleCompareSizes] using hR
  case h =>
    exact ⟨rfl, 0, rfl, Nat.zero_le _, h0⟩
end
section
variable {prog : Program} {w : World} {A : Around} {E : Value → Shared → Prop} {s : Shared}
theorem rcP_tups {l b : Addr} {items items2 : Array Value} {e : Nat → Bool} (hl : s.heap.IsTuple l items) (hb : s.heap.IsTuple b items2) (hz : items.size = items2.size) (hu : A.units < cLine)
    (each : ∀ j (h1 : j < items.size) (h2 : j < items2.size), (∀ i, i < j → e i = true) → EqP prog w A.in1 s items[j] items2[j] (e j)) (E Q : Value → Shared → Prop) (q : Q (.bool ((List.range items.size).all e)) s) : wpAny (model prog w) A (richCompare .Eq (.ref l) (.ref b)) Q E s := by
  rcases id hl with ⟨⟨c1, d1, t1, z1⟩, y1, y2, n1, y3⟩
  rcases id hb with ⟨⟨c2, d2, t2, z2⟩, x1, x2, n2, x3⟩
  cases (show c1 = _ from y2)
  cases (show t1 = _ from y3)
  cases (show c2 = _ from x2)
  cases (show t2 = _ from x3)
  refine wpAny_richCompare_same_room (op := .Eq) ⟨_, y1, rfl⟩ ⟨_, x1, rfl⟩ F.slot_tuple_eq (GQ.call_here F.slot_tuple_eq ⟨_, y1, rfl⟩ F.entry_tuple_eq (F.args_tuple_eq_2 _ _)
    (eq_body (R := wants (fun v s' => v ≠ .notImplemented ∧ Q v s') E) l b items items2 n1 n2 d1 d2 z1 z2 (fun i s' => s' = s ∧ ∀ j, j < i → e j = true) (fun s' => s' = s ∧ ∃ j, j < items.size ∧ e j = false) ?_ ?_ ?_ y1 x1 ⟨rfl, fun j h => absurd h (Nat.not_lt_zero j)⟩)) hu
  · rintro i h1 h2 s' ⟨rfl, hall⟩
    refine each i h1 h2 hall _ _ ?_
    cases hb : e i with
    | true =>
      refine .inl ⟨rfl, rfl, fun j hj => ?_⟩
      rcases Nat.lt_or_ge j i with c | c
      · exact hall j c
      · have : j = i := by omega
        rw [this, hb]
    | false => exact .inr ⟨rfl, rfl, i, h1, hb⟩
  · rintro s' ⟨rfl, hall⟩
    refine ⟨(fun x => nomatch x), ?_⟩
    rw [← hz, Nat.min_self] at hall
    rw [List.all_eq_true.mpr fun i hi => hall i (List.mem_range.mp hi)] at q
    rw [hz, beq_self_eq_true]
    exact q
  · rintro s' ⟨rfl, j, hj, h2⟩
    refine ⟨(fun x => nomatch x), ?_⟩
    have z : (List.range items.size).all e = false := by
      rw [List.all_eq_false]
      exact ⟨j, List.mem_range.mpr hj, by rw [h2]; exact Bool.false_ne_true⟩
    rw [z] at q
    exact q
end
end EQT
namespace EQT
open PySem PySem.Spec PyProof.Rows L2
/-- two lists, tuples or dicts with the answer of == -/
def EqXO (K : PySem.W.Frag) (H : Hp) (F : V → V → Bool → Prop) (x y : V) (b : Bool) : Prop := ∃ a c, x = .ref a ∧ y = .ref c ∧ (a = c → b = true) ∧
  ((∃ xs ys : List V, SqL K H a xs ∧ SqL K H c ys ∧ xs.length = ys.length ∧ ∃ e : Nat → Bool, (∀ (j : Nat) (u v : V), xs[j]? = some u → ys[j]? = some v → F u v (e j)) ∧ b = (List.range xs.length).all e) ∨
   (∃ xs ys : List V, SqL K H a xs ∧ SqL K H c ys ∧ xs.length ≠ ys.length ∧ b = false) ∨
   (∃ xs ys : List V, SqT K H a xs ∧ SqT K H c ys ∧ xs.length = ys.length ∧ ∃ e : Nat → Bool, (∀ (j : Nat) (u v : V), (∀ i, i < j → e i = true) → xs[j]? = some u → ys[j]? = some v → F u v (e j)) ∧ b = (List.range xs.length).all e) ∨
   (∃ ks ls : List (List Key × V), H a = some (.dT ks) ∧ H c = some (.dT ls) ∧ ks.map (fun p => p.1) = ls.map (fun p => p.1) ∧ ∃ e : Nat → Bool, (∀ (j : Nat) (u v : List Key × V), ks[j]? = some u → ls[j]? = some v → F u.2 v.2 (e j)) ∧ b = (List.range ks.length).all e))
def EqX (K : PySem.W.Frag) (H : Hp) : Nat → V → V → Bool → Prop
  | 0 => fun _ _ _ => False
  | n + 1 => fun x y b => (flatV x = true ∧ flatV y = true ∧ b = eqV x y) ∨ EqXO K H (EqX K H n) x y b
section
variable {X : Cx} {pins : List (Addr × Obj)} {σ : L2.St} {H : Hp} {s : Shared}
theorem vals_atX : ∀ {xs : List V} {us : List Value}, Vals xs us → ∀ (j : Nat) (h : j < us.length), ∃ x, xs[j]? = some x ∧ RelV x us[j]
  | _, _, .nil, j, h => absurd h (Nat.not_lt_zero j)
  | _, _, .cons r t, 0, _ => ⟨_, rfl, r⟩
  | _, _, .cons r t, j + 1, h => vals_atX t j (Nat.lt_of_succ_lt_succ h)
theorem kt_at : ∀ {kvs : List (List Key × V)} {xs : List (List Key × Addr × Value)}, KT H kvs xs → xs.length = kvs.length ∧ (xs.map (fun x => x.1) = kvs.map (fun p => p.1)) ∧ ∀ (j : Nat) x, xs[j]? = some x → ∃ p, kvs[j]? = some p ∧ RelV p.2 x.2.2
  | _, _, .nil => ⟨rfl, rfl, fun j x h => (nomatch h)⟩
  | _, _, .cons r t => by
    obtain ⟨h1, h2, h3⟩ := kt_at t
    refine ⟨by rw [List.length_cons, List.length_cons, h1], by rw [List.map_cons, List.map_cons, h2, r.1], fun j x h => ?_⟩
    cases j with
    | zero => cases h; exact ⟨_, rfl, r.2.2⟩
    | succ j => exact h3 j x h
theorem eqXO_run (I : Inv X pins σ H s) {A : Around} {F : V → V → Bool → Prop} (hu : A.units + 2 < cLine) (ih : ∀ x y b v u, F x y b → RelV x v → RelV y u → SeqAt.EqP X.prog X.w A.in1 s v u b) {x y : V} {b : Bool} {v u : Value} (h : EqXO X.K H F x y b) (rx : RelV x v) (ry : RelV y u)
    (E Q : Value → Shared → Prop) (q : Q (.bool b) s) : wpAny (model X.prog X.w) A (richCompare .Eq v u) Q E s := by
  obtain ⟨a, c, rfl, rfl, _, h⟩ := h
  cases (show v = Value.ref a from rx)
  cases (show u = Value.ref c from ry)
  have hu0 : A.units < cLine := by omega
  rcases h with ⟨xs, ys, ha, hb, hl, e, he, rfl⟩ | ⟨xs, ys, ha, hb, hl, rfl⟩ | ⟨xs, ys, ha, hb, hl, e, he, rfl⟩ | ⟨ks, ls, ha, hb, hk, e, he, rfl⟩
  · obtain ⟨us, r1, p1, _⟩ := I.list ha
    obtain ⟨ws, r2, p2, _⟩ := I.list hb
    have hz : us.toArray.size = ws.toArray.size := by
      rw [List.size_toArray, List.size_toArray, ← r1.length, ← r2.length]
      exact hl
    refine SeqAt.rcP_lists (e := e) p1.isList p2.isList hz hu0 (fun j h1 h2 => ?_) E Q ?_
    · rw [List.size_toArray] at h1 h2
      obtain ⟨x1, e1, v1⟩ := vals_atX r1 j h1
      obtain ⟨x2, e2, v2⟩ := vals_atX r2 j h2
      have k := ih _ _ _ _ _ (he j x1 x2 e1 e2) v1 v2
      simpa using k
    · rw [List.size_toArray, ← r1.length]
      exact q
  · obtain ⟨us, r1, p1, _⟩ := I.list ha
    obtain ⟨ws, r2, p2, _⟩ := I.list hb
    refine SeqAt.RcAt.lists_lengths p1.isList p2.isList ?_ hu0 _ _ E Q q
    rw [List.size_toArray, List.size_toArray, ← r1.length, ← r2.length]
    exact bne_iff_ne.mpr hl
  · obtain ⟨us, r1, p1, _⟩ := I.tuple ha
    obtain ⟨ws, r2, p2, _⟩ := I.tuple hb
    have hz : us.toArray.size = ws.toArray.size := by
      rw [List.size_toArray, List.size_toArray, ← r1.length, ← r2.length]
      exact hl
    refine rcP_tups (e := e) p1 p2 hz hu0 (fun j h1 h2 hall => ?_) E Q ?_
    · rw [List.size_toArray] at h1 h2
      obtain ⟨x1, e1, v1⟩ := vals_atX r1 j h1
      obtain ⟨x2, e2, v2⟩ := vals_atX r2 j h2
      have k := ih _ _ _ _ _ (he j x1 x2 hall e1 e2) v1 v2
      simpa using k
    · rw [List.size_toArray, ← r1.length]
      exact q
  · obtain ⟨_, ya, xs, ra, da⟩ := dt_of I.hok ha
    obtain ⟨_, yb, ys, rb, db⟩ := dt_of I.hok hb
    obtain ⟨l1, m1, v1⟩ := kt_at ra
    obtain ⟨l2, m2, v2⟩ := kt_at rb
    refine rcP_dictsH (e := e) ya yb (tupleKind_room_in1 (by omega)) da db (by rw [m1, m2, hk]) hu0 (fun i x y hx hy => ?_) E Q (by rw [l1]; exact q)
    obtain ⟨p, hp, rp⟩ := v1 i x hx
    obtain ⟨p2, hp2, rp2⟩ := v2 i y hy
    exact ih _ _ _ _ _ (he i p p2 hp hp2) rp rp2
theorem eqX_run (I : Inv X pins σ H s) : ∀ (n : Nat) (A : Around), A.units + n + 2 < cLine → ∀ (x y : V) (b : Bool) (v u : Value), EqX X.K H n x y b → RelV x v → RelV y u → SeqAt.EqP X.prog X.w A s v u b
  | 0, _, _, _, _, _, _, _, h, _, _ => (show False from h).elim
  | n + 1, A, hu, x, y, b, v, u, h, rx, ry => by
    rcases h with ⟨f1, f2, rfl⟩ | h
    · exact (eqAt_V rx ry f1 f2).eqP
    · have step := eqXO_run I (A := A) (by omega) (eqX_run I n A.in1 (by show A.units + 1 + n + 2 < cLine; omega)) h rx ry
      obtain ⟨a, c, rfl, rfl, hac, _⟩ := h
      cases (show v = Value.ref a from rx)
      cases (show u = Value.ref c from ry)
      by_cases e : a = c
      · cases hac e
        subst e
        exact (SeqAt.EqAt.same _).eqP
      · exact SeqAt.eqP_refs e step
end
section
variable {X : Cx}
def rEqX (K : PySem.W.Frag) : R2 := fun x y H Q => ∃ (n : Nat) (b : Bool), n ≤ 50 ∧ EqXO K H (EqX K H n) x y b ∧ Q (.bl b) H
theorem op_eqX (hu : X.A.units + 64 < cLine) : OpR X (compareOp .Eq) (rEqX X.K) := by
  intro pins s σ H x y v u Q I rx ry h
  obtain ⟨n, b, hn, h, q⟩ := h
  exact eqXO_run I (A := X.A) (by omega) (eqX_run I n X.A.in1 (by show X.A.units + 1 + n + 2 < cLine; omega)) h rx ry _ _ ⟨.bl b, H, I, rfl, q⟩
end
end EQT

open EQT (EqX EqXO)
def SdEq (f k : Int → Int) (h j : Num → Int) : Prop := (∀ x, 1 ≤ x → f x = k x) ∧ ∀ n : Num, n.Ok → h n = j n
def WgEq (w v : Wgt) : Prop := w.s = v.s ∧ SdEq w.b.f v.b.f w.b.h v.b.h ∧ SdEq w.a.f v.a.f w.a.h v.a.h
theorem all_dec {α : Type} [DecidableEq α] {L K : List α} (h : L.length = K.length) : (List.range L.length).all (fun j => decide (L[j]? = K[j]?)) = decide (L = K) := by
  by_cases e : L = K
  · subst e
    rw [decide_eq_true rfl]
    exact List.all_eq_true.mpr fun j _ => decide_eq_true rfl
  · rw [decide_eq_false e, List.all_eq_false]
    refine Classical.byContradiction fun hn => e (List.ext_getElem? fun j => ?_)
    rcases Nat.lt_or_ge j L.length with hj | hj
    · refine Classical.byContradiction fun z => hn ⟨j, List.mem_range.mpr hj, by rw [decide_eq_false z]; exact Bool.false_ne_true⟩
    · rw [List.getElem?_eq_none hj, List.getElem?_eq_none (by omega)]
section
variable {K : PySem.W.Frag} {H : Hp}
theorem eqx_int (n : Nat) (x y : Int) : EqX K H (n + 1) (.int x) (.int y) (decide (x = y)) := .inl ⟨rfl, rfl, by
  show decide (x = y) = (x == y)
  rw [Bool.eq_iff_iff]
  simp⟩
/-- lists of ints -/
theorem eqxo_ints {a c : Addr} {L M : List Int} (n : Nat) (ha : H a = some (.lst (L.map V.int))) (hc : H c = some (.lst (M.map V.int))) : EqXO K H (EqX K H (n + 1)) (.ref a) (.ref c) (decide (L = M)) := by
  refine ⟨a, c, rfl, rfl, fun e => ?_, ?_⟩
  · subst e
    rw [ha] at hc
    have z := HO.lst.inj (Option.some.inj hc)
    exact decide_eq_true ((List.map_inj_right fun x y h => V.int.inj h).mp z)
  by_cases hl : L.length = M.length
  · refine .inl ⟨_, _, SqL.of ha, SqL.of hc, by rw [List.length_map, List.length_map, hl], fun j => decide (L[j]? = M[j]?), fun j u v hu hv => ?_, by rw [List.length_map, all_dec hl]⟩
    rw [List.getElem?_map] at hu hv
    obtain ⟨x, hx, rfl⟩ := Option.map_eq_some_iff.mp hu
    obtain ⟨y, hy, rfl⟩ := Option.map_eq_some_iff.mp hv
    have e : decide (L[j]? = M[j]?) = decide (x = y) := by
      rw [hx, hy, decide_eq_decide]
      exact ⟨Option.some.inj, fun z => by rw [z]⟩
    show EqX K H (n + 1) (.int x) (.int y) (decide (L[j]? = M[j]?))
    rw [e]
    exact eqx_int n x y
  · refine .inr (.inl ⟨_, _, SqL.of ha, SqL.of hc, by rw [List.length_map, List.length_map]; exact hl, decide_eq_false fun e => hl (by rw [e])⟩)
theorem eqx_pair {u w : Addr} {p q : Int × Int} (n : Nat) (hu : PrAt H u p) (hw : PrAt H w q) : EqX K H (n + 2) (.ref u) (.ref w) (decide (p = q)) := by
  refine .inr ⟨u, w, rfl, rfl, fun e => ?_, .inr (.inr (.inl ⟨_, _, SqT.of hu, SqT.of hw, rfl, fun j => if j = 0 then decide (p.1 = q.1) else decide (p.2 = q.2), fun j x y _ hx hy => ?_, ?_⟩))⟩
  · subst e
    unfold PrAt at hu hw
    rw [hu] at hw
    have z := HO.tup.inj (Option.some.inj hw)
    injection z with z1 z2
    injection z2 with z2 _
    exact decide_eq_true (Prod.ext (V.int.inj z1) (V.int.inj z2))
  · rcases j with _ | _ | j
    · cases hx
      cases hy
      exact eqx_int n _ _
    · cases hx
      cases hy
      exact eqx_int n _ _
    · cases hx
  · show decide (p = q) = (decide (p.1 = q.1) && (decide (p.2 = q.2) && true))
    rw [Bool.and_true, Bool.eq_iff_iff]
    simp only [decide_eq_true_eq, Bool.and_eq_true]
    exact ⟨fun e => by rw [e]; exact ⟨rfl, rfl⟩, fun ⟨e1, e2⟩ => Prod.ext e1 e2⟩
theorem pr_uniq {u : Addr} {p q : Int × Int} (hu : PrAt H u p) (hw : PrAt H u q) : p = q := by
  unfold PrAt at hu hw
  rw [hu] at hw
  have z := HO.tup.inj (Option.some.inj hw)
  injection z with z1 z2
  injection z2 with z2 _
  exact Prod.ext (V.int.inj z1) (V.int.inj z2)
theorem refs_inj {us ws : List Addr} (h : us.map V.ref = ws.map V.ref) : us = ws := (List.map_inj_right fun x y h => V.ref.inj h).mp h
/-- lines -/
theorem eqxo_ln {a c : Addr} {l k : Ln} (n : Nat) (ha : LnAt H a l) (hc : LnAt H c k) : EqXO K H (EqX K H (n + 2)) (.ref a) (.ref c) (decide (l = k)) := by
  obtain ⟨us, a1, a2⟩ := ha
  obtain ⟨ws, c1, c2⟩ := hc
  have lu := a2.len
  have lw := c2.len
  refine ⟨a, c, rfl, rfl, fun e => ?_, ?_⟩
  · subst e
    rw [a1] at c1
    have z := refs_inj (HO.lst.inj (Option.some.inj c1))
    subst z
    refine decide_eq_true (List.ext_getElem? fun j => ?_)
    rcases Nat.lt_or_ge j us.length with hj | hj
    · obtain ⟨p, hp, pp⟩ := a2.get (List.getElem?_eq_getElem hj)
      obtain ⟨q, hq, qq⟩ := c2.get (List.getElem?_eq_getElem hj)
      rw [hp, hq, pr_uniq pp qq]
    · rw [List.getElem?_eq_none (by omega), List.getElem?_eq_none (by omega)]
  by_cases hl : l.length = k.length
  · refine .inl ⟨_, _, SqL.of a1, SqL.of c1, by rw [List.length_map, List.length_map]; omega, fun j => decide (l[j]? = k[j]?), fun j u v hu hv => ?_, by rw [List.length_map, lu, all_dec hl]⟩
    rw [List.getElem?_map] at hu hv
    obtain ⟨x, hx, rfl⟩ := Option.map_eq_some_iff.mp hu
    obtain ⟨y, hy, rfl⟩ := Option.map_eq_some_iff.mp hv
    obtain ⟨p, hp, pp⟩ := a2.get hx
    obtain ⟨q, hq, qq⟩ := c2.get hy
    have e : decide (l[j]? = k[j]?) = decide (p = q) := by
      rw [hp, hq, decide_eq_decide]
      exact ⟨Option.some.inj, fun z => by rw [z]⟩
    show EqX K H (n + 2) (.ref x) (.ref y) (decide (l[j]? = k[j]?))
    rw [e]
    exact eqx_pair n pp qq
  · refine .inr (.inl ⟨_, _, SqL.of a1, SqL.of c1, by rw [List.length_map, List.length_map]; omega, decide_eq_false fun e => hl (by rw [e])⟩)
def aEq (A B : Axes) : Bool := decide (A.r = B.r) && (decide (A.g = B.g) && decide (A.d = B.d))
theorem aEq_iff {A B : Axes} : aEq A B = true ↔ A = B := by
  unfold aEq
  simp only [Bool.and_eq_true, decide_eq_true_eq]
  constructor
  · rintro ⟨h1, h2, h3⟩
    cases A
    cases B
    dsimp only at h1 h2 h3
    rw [h1, h2, h3]
  · rintro rfl
    exact ⟨rfl, rfl, rfl⟩
theorem axs_uniq {N M : Addr → Prop} {t : Addr} {A B : Axes} (h : AxsAt N H t A) (k : AxsAt M H t B) : A = B := by
  obtain ⟨x, y, z, h1, h2, h3, h4, _⟩ := h
  obtain ⟨x', y', z', k1, k2, k3, k4, _⟩ := k
  rw [h1] at k1
  have e := HO.tup.inj (Option.some.inj k1)
  injection e with e1 e2
  injection e2 with e2 e3
  injection e3 with e3 _
  cases V.ref.inj e1
  cases V.ref.inj e2
  cases V.ref.inj e3
  rw [h2] at k2
  rw [h3] at k3
  rw [h4] at k4
  have i : ∀ {L M : List Int}, some (HO.lst (L.map V.int)) = some (HO.lst (M.map V.int)) → L = M := fun h => (List.map_inj_right fun x y h => V.int.inj h).mp (HO.lst.inj (Option.some.inj h))
  cases A
  cases B
  dsimp only at k2 k3 k4
  rw [i k2, i k3, i k4]
theorem eqx_axs {N M : Addr → Prop} {t u : Addr} {A B : Axes} (n : Nat) (h : AxsAt N H t A) (k : AxsAt M H u B) : EqX K H (n + 3) (.ref t) (.ref u) (aEq A B) := by
  have hu := fun e : t = u => axs_uniq h (e ▸ k)
  obtain ⟨x, y, z, h1, h2, h3, h4, _⟩ := h
  obtain ⟨x', y', z', k1, k2, k3, k4, _⟩ := k
  refine .inr ⟨t, u, rfl, rfl, fun e => aEq_iff.mpr (hu e), .inr (.inr (.inl ⟨_, _, SqT.of h1, SqT.of k1, rfl, fun j => if j = 0 then decide (A.r = B.r) else if j = 1 then decide (A.g = B.g) else decide (A.d = B.d), fun j p q _ hp hq => ?_, ?_⟩))⟩
  · rcases j with _ | _ | _ | j
    · cases hp
      cases hq
      exact .inr (eqxo_ints n h2 k2)
    · cases hp
      cases hq
      exact .inr (eqxo_ints n h3 k3)
    · cases hp
      cases hq
      exact .inr (eqxo_ints n h4 k4)
    · cases hp
  · show aEq A B = (decide (A.r = B.r) && (decide (A.g = B.g) && (decide (A.d = B.d) && true)))
    rw [Bool.and_true]
    rfl
def gEq (A B : Axes) (W X : Wt) : Bool := aEq A B && (pls A).all fun p => decide (W p = X p)
theorem eqxo_gr {N M : Addr → Prop} {g c : Addr} {A B : Axes} {W X : Wt} (n : Nat) (h : GrAt N H g A W) (k : GrAt M H c B X) : EqXO K H (EqX K H (n + 4)) (.ref g) (.ref c) (gEq A B W X) := by
  have same : ∀ {N M : Addr → Prop} {g : Addr} {A B : Axes} {W X : Wt}, GrAt N H g A W → GrAt M H g B X → gEq A B W X = true := by
    rintro N M g A B W X ⟨t, d, h1, h2, h3⟩ ⟨t', d', k1, k2, k3⟩
    rw [h1] at k1
    have e := HO.tup.inj (Option.some.inj k1)
    injection e with e1 e2
    injection e2 with e2 _
    cases V.ref.inj e1
    cases V.ref.inj e2
    cases axs_uniq h2 k2
    rw [h3] at k3
    have z := HO.dT.inj (Option.some.inj k3)
    unfold gEq
    rw [aEq_iff.mpr rfl, Bool.true_and]
    refine List.all_eq_true.mpr fun p hp => decide_eq_true ?_
    have z1 := wt_val (W := W) hp
    have z2 := wt_val (W := X) hp
    unfold wtK at z
    rw [z, z2] at z1
    exact (V.int.inj (Option.some.inj z1)).symm
  have hs := fun e : g = c => same h (e ▸ k)
  obtain ⟨t, d, h1, h2, h3⟩ := h
  obtain ⟨t', d', k1, k2, k3⟩ := k
  refine ⟨g, c, rfl, rfl, hs, .inr (.inr (.inl ⟨_, _, SqT.of h1, SqT.of k1, rfl, fun j => if j = 0 then aEq A B else gEq A B W X, fun j p q hi hp hq => ?_, ?_⟩))⟩
  · rcases j with _ | _ | j
    · cases hp
      cases hq
      exact eqx_axs (n + 1) h2 k2
    · cases hp
      cases hq
      have e : A = B := aEq_iff.mp (hi 0 (by decide))
      subst e
      show EqX K H (n + 4) (.ref d) (.ref d') (gEq A A W X)
      unfold gEq
      rw [aEq_iff.mpr rfl, Bool.true_and]
      refine .inr ⟨d, d', rfl, rfl, fun e => ?_, .inr (.inr (.inr ⟨_, _, h3, k3, ?_, fun j => match (pls A)[j]? with | some p => decide (W p = X p) | none => true, fun j u v hu hv => ?_, ?_⟩))⟩
      · subst e
        rw [h3] at k3
        have z := HO.dT.inj (Option.some.inj k3)
        refine List.all_eq_true.mpr fun p hp => decide_eq_true ?_
        have z1 := wt_val (W := W) hp
        have z2 := wt_val (W := X) hp
        unfold wtK at z
        rw [z, z2] at z1
        exact (V.int.inj (Option.some.inj z1)).symm
      · unfold wtK
        rw [List.map_map, List.map_map]
        rfl
      · unfold wtK at hu hv
        rw [List.getElem?_map] at hu hv
        obtain ⟨p, hp, rfl⟩ := Option.map_eq_some_iff.mp hu
        rw [hp] at hv
        cases hv
        show EqX K H (n + 3) (.int (W p)) (.int (X p)) (match (pls A)[j]? with | some p => decide (W p = X p) | none => true)
        rw [hp]
        exact eqx_int (n + 2) _ _
      · unfold wtK
        rw [List.length_map, Bool.eq_iff_iff, List.all_eq_true, List.all_eq_true]
        constructor
        · intro h j hj
          have hj := List.mem_range.mp hj
          rw [List.getElem?_eq_getElem hj]
          exact h _ (List.getElem_mem hj)
        · intro h p hp
          obtain ⟨j, hj⟩ := List.getElem?_of_mem hp
          have z := h j (List.mem_range.mpr (List.getElem?_eq_some_iff.mp hj).1)
          rw [hj] at z
          exact z
    · cases hp
  · show gEq A B W X = (aEq A B && (gEq A B W X && true))
    rw [Bool.and_true]
    unfold gEq
    cases aEq A B <;> rfl
end
theorem gEq_iff {A B : Axes} {W X : Wt} {f h : Num → Int} {a b c a' b' c' : Nat} (i : GrIs A W f a b c) (j : GrIs B X h a' b' c') : gEq A B W X = true ↔ ∀ n : Num, n.Ok → f n = h n := by
  unfold gEq
  rw [Bool.and_eq_true, aEq_iff, List.all_eq_true]
  constructor
  · rintro ⟨rfl, hp⟩ n hn
    rw [← i.at_ n hn, ← j.at_ n hn]
    exact of_decide_eq_true (hp _ (mem_pls.mpr (Gr.place_in i.ok hn)))
  · intro hf
    have e := can_uniq i.ok j.ok i.can j.can hf
    subst e
    refine ⟨rfl, fun p hp => decide_eq_true ?_⟩
    have ip := mem_pls.mp hp
    have no := Gr.near_ok i.ok ip
    have z1 := i.at_ _ no
    have z2 := j.at_ _ no
    unfold Gr.gAt at z1 z2
    rw [Gr.place_near i.ok ip] at z1 z2
    rw [z1, z2, hf _ no]
theorem lEq_iff {l k : Ln} {f h : Int → Int} {a b : Nat} (i : LnIs l f a) (j : LnIs k h b) : decide (l = k) = true ↔ ∀ x, 1 ≤ x → f x = h x := by
  rw [decide_eq_true_eq]
  constructor
  · rintro rfl x hx
    rw [← i.at_ x hx, ← j.at_ x hx]
  · exact ln_uniq i.ok j.ok i.at_ j.at_ i.can j.can
theorem at_back {w : Wgt} {x : Int} (hx : 1 ≤ x) : w.at_ (0 - x) 0 0 = w.b.f x := by
  unfold Wgt.at_ Sdv.at_
  rw [if_neg (by omega), if_neg (by omega), if_pos (by omega), show 0 - (0 - x) = x by omega]
theorem at_backN {w : Wgt} {n : Num} (hn : n.Ok) : w.at_ (0 - n.r) (0 - n.g) (0 - n.d) = w.b.h n := by
  obtain ⟨h1, h2, h3⟩ := hn
  unfold Wgt.at_ Sdv.at_
  rw [if_neg (by omega), if_neg (by omega), if_neg (by omega), show 0 - (0 - n.r) = n.r by omega, show 0 - (0 - n.g) = n.g by omega, show 0 - (0 - n.d) = n.d by omega]
theorem at_ahead {w : Wgt} {x : Int} (hx : 1 ≤ x) : w.at_ x 0 0 = w.a.f x := by
  unfold Wgt.at_ Sdv.at_
  rw [if_neg (by omega), if_pos (by omega), if_pos rfl]
theorem at_aheadN {w : Wgt} {n : Num} (hn : n.Ok) : w.at_ n.r n.g n.d = w.a.h n := by
  obtain ⟨h1, h2, h3⟩ := hn
  unfold Wgt.at_ Sdv.at_
  rw [if_neg (by omega), if_pos (by omega), if_neg (by omega)]
theorem wgEq_iff {w v : Wgt} : WgEq w v ↔ ∀ r g d, possB r g d = true → w.at_ r g d = v.at_ r g d := by
  constructor
  · rintro ⟨h0, ⟨b1, b2⟩, a1, a2⟩ r g d h
    have h := of_decide_eq_true h
    unfold Wgt.at_ Sdv.at_
    by_cases c : r = 0
    · rw [if_pos c, if_pos c, h0]
    rw [if_neg c, if_neg c]
    by_cases c2 : 0 < r
    · rw [if_pos c2, if_pos c2]
      by_cases c3 : g = 0
      · rw [if_pos c3, if_pos c3]
        exact a1 r (by omega)
      · rw [if_neg c3, if_neg c3]
        exact a2 ⟨r, g, d⟩ ⟨by show 1 ≤ g; omega, by show g ≤ r; omega, by show g ≤ d; omega⟩
    · rw [if_neg c2, if_neg c2]
      by_cases c3 : 0 - g = 0
      · rw [if_pos c3, if_pos c3]
        exact b1 (0 - r) (by omega)
      · rw [if_neg c3, if_neg c3]
        exact b2 ⟨0 - r, 0 - g, 0 - d⟩ ⟨by show 1 ≤ 0 - g; omega, by show 0 - g ≤ 0 - r; omega, by show 0 - g ≤ 0 - d; omega⟩
  · intro h
    refine ⟨h 0 0 0 (decide_eq_true (by omega)), ⟨fun x hx => ?_, fun n hn => ?_⟩, fun x hx => ?_, fun n hn => ?_⟩
    · have z := h (0 - x) 0 0 (decide_eq_true (by omega))
      rwa [at_back hx, at_back hx] at z
    · obtain ⟨h1, h2, h3⟩ := id hn
      have z := h (0 - n.r) (0 - n.g) (0 - n.d) (decide_eq_true (by omega))
      rwa [at_backN hn, at_backN hn] at z
    · have z := h x 0 0 (decide_eq_true (by omega))
      rwa [at_ahead hx, at_ahead hx] at z
    · obtain ⟨h1, h2, h3⟩ := id hn
      have z := h n.r n.g n.d (decide_eq_true (by omega))
      rwa [at_aheadN hn, at_aheadN hn] at z
def spSdEq (C : Addr) : Sp := fun vs H Q _ => ∃ (p q : Addr) (N M : Addr → Prop) (f k : Int → Int) (h j : Num → Int) (a b : Ex), vs = [.ref p, .ref q] ∧ SdAt C N H p f h a ∧ SdAt C M H q k j b ∧ ∀ r : Bool, (r = true ↔ SdEq f k h j) → Q (.bl r) H
def spWgEq (K : PySem.W.Frag) (C CS : Addr) : Sp := fun vs H Q _ => ∃ (p : Addr) (x : V) (N : Addr → Prop) (w : Wgt) (a : Ex), vs = [.ref p, x] ∧ WgAt C CS N H p w a ∧
  ((∃ (q : Addr) (M : Addr → Prop) (v : Wgt) (b : Ex), x = .ref q ∧ WgAt C CS M H q v b ∧ ∀ r : Bool, (r = true ↔ WgEq w v) → Q (.bl r) H) ∨ (∃ t, TyX K H x t ∧ PySem.W.kitOne K t (.ref C) = some false ∧ Q (.bl false) H))
section
variable {P : Program} {w : World} {K : PySem.W.Frag} {mg : Str → Option Value} {base : Heap}

theorem sd_ty (T : Txt K mg) {H : Hp} {p : Addr} {N : Addr → Prop} {f : Int → Int} {h : Num → Int} {e : Ex} (k : SdAt T.C_Side N H p f h e) : TyX K H (.ref p) (.ref T.C_Side) := by
  obtain ⟨dx, pl, pg, l, A, W, h1, _⟩ := k
  exact .base (.ins h1 T.c_Side T.ca_Side T.cn_Side T.ct_Side T.cm_Side)
theorem wg_ty (T : Txt K mg) {H : Hp} {p : Addr} {N : Addr → Prop} {w : Wgt} {e : Ex} (k : WgAt T.C_Weights T.C_Side N H p w e) : TyX K H (.ref p) (.ref T.C_Weights) := by
  obtain ⟨dx, pb, pa, h1, _⟩ := k
  exact .base (.ins h1 T.c_Weights T.ca_Weights T.cn_Weights T.ct_Weights T.cm_Weights)
theorem ok_Side___eq__ (T : Txt K mg) : FnOk P w K mg base CX0 2 T.f_Side___eq__ T.d_Side___eq__ ["self", "other"] (spSdEq T.C_Side) := by
  refine T.F_Side___eq__.ok sc_Side___eq__ (fun vs H Q E h => ?_) (fun cdv A outer s H vs Q E hr h => ?_)
  · obtain ⟨p, q0, N, M, f, k, h, j, a, b, rfl, _⟩ := h
    rfl
  obtain ⟨p, q0, N, M, f, k, h, j, a, b, rfl, o1, o2, q⟩ := h
  refine ⟨_, (pss_one (ps_ret (pe_and (pe_callB call_isi (by rfl) T.z_isinstance (by decide +kernel) (pa_cons (pv 1) (pa_cons (pe_glob (v := .ref T.C_Side) rfl T.g_Side rfl) pa_nil))) (pe_and (pe_cmpR (r := EQT.rEqX K) (EQT.op_eqX hr.units) (pe_fldK (K := K) (pv 0)) (pe_fldK (K := K) (pv 1)) (nomark _)) (pe_one (pe_cmpR (r := EQT.rEqX K) (EQT.op_eqX hr.units) (pe_fldK (K := K) (pv 0)) (pe_fldK (K := K) (pv 1)) (nomark _))))))), ?_⟩
  try simp only [nox_K, cx_K]
  have ty := sd_ty T o2
  obtain ⟨dx, pl, pg, l, A, W, h1, h2, h3, h4, h5⟩ := o1
  obtain ⟨dx', pl', pg', l', A', W', i1, i2, i3, i4, i5⟩ := o2
  have e1 := lEq_iff h5.ln i5.ln
  have e2 := gEq_iff h5.gr i5.gr
  wtm_at "rd"
  refine r_isi (.own _) ty kit_self ?_
  wtm_at "rdi"
  refine r_get h1 T.c_Side T.nf_Side_line (side_line _ _) ?_
  wtm_at "rd"
  refine r_get i1 T.c_Side T.nf_Side_line (side_line _ _) ?_
  wtm_at "rd"
  refine ⟨6, _, by decide, eqxo_ln 4 h3 i3, ?_⟩
  wtm_at "rd"
  refine r_iteb (fun c => ?_) (fun c => ?_)
  · wtm_at "rd"
    refine r_get h1 T.c_Side T.nf_Side_grid (side_grid _ _) ?_
    wtm_at "rd"
    refine r_get i1 T.c_Side T.nf_Side_grid (side_grid _ _) ?_
    wtm_at "rd"
    refine ⟨6, _, by decide, eqxo_gr 2 h4 i4, ?_⟩
    exact q _ (e2.trans ⟨fun z => ⟨e1.mp c, z⟩, fun z => z.2⟩)
  · refine q _ ⟨fun z => (nomatch z), fun z => ?_⟩
    rw [e1.mpr z.1] at c
    cases c
theorem eq_sd (T : Txt K mg) {H : Hp} {Q : VK} {E : XK} {p q0 : Addr} {N M : Addr → Prop} {f k : Int → Int} {h j : Num → Int} {a b : Ex} (o1 : SdAt T.C_Side N H p f h a) (o2 : SdAt T.C_Side M H q0 k j b) (q : ∀ r : Bool, (r = true ↔ SdEq f k h j) → Q (.bl r) H) : rCmpO K T.C_Side (spSdEq T.C_Side) E (.ref p) (.ref q0) H Q := by
  obtain ⟨dx, pl, pg, l, A, W, h1, _⟩ := id o1
  exact ⟨p, dx, _, _, rfl, h1, sd_ty T o2, T.nt_Side, p, q0, N, M, f, k, h, j, a, b, rfl, o1, o2, q⟩
theorem ok_Weights___eq__ (T : Txt K mg) : FnOk P w K mg base CX0 4 T.f_Weights___eq__ T.d_Weights___eq__ ["self", "other"] (spWgEq K T.C_Weights T.C_Side) := by
  refine T.F_Weights___eq__.ok sc_Weights___eq__ (fun vs H Q E h => ?_) (fun cdv A outer s H vs Q E hr h => ?_)
  · obtain ⟨p, x, N, w, a, rfl, _⟩ := h
    rfl
  obtain ⟨p, x, N, w, a, rfl, o, hx⟩ := h
  refine ⟨_, (pss_cons (ps_if (pt_not (pt_val (pe_callB call_isi (by rfl) T.z_isinstance (by decide +kernel) (pa_cons (pv 1) (pa_cons (pe_glob (v := .ref T.C_Weights) rfl T.g_Weights rfl) pa_nil))))) (pss_one (ps_ret pe_bl)) pss_nil)
      (pss_cons (ps_if (pt_cmpR op_ne (pe_fldK (K := K) (pv 0)) (pe_fldK (K := K) (pv 1)) (nomark _)) (pss_one (ps_ret pe_bl)) pss_nil)
      (pss_one (ps_ret (pe_and (pe_cmpR (op_eqO T.mt_Side___eq__.at_ T.mt_Side___eq__.fn (ok_Side___eq__ T) (hr.mono (by decide)) T.b_Side___eq__ pass0) (pe_fldK (K := K) (pv 0)) (pe_fldK (K := K) (pv 1)) (nomark _)) (pe_one (pe_cmpR (op_eqO T.mt_Side___eq__.at_ T.mt_Side___eq__.fn (ok_Side___eq__ T) (hr.mono (by decide)) T.b_Side___eq__ pass0) (pe_fldK (K := K) (pv 0)) (pe_fldK (K := K) (pv 1)) (nomark _)))))))), ?_⟩
  try simp only [nox_K, cx_K]
  rcases hx with ⟨q0, M, v, b, rfl, o2, q⟩ | ⟨t, ty, kit, q⟩
  · have ty := wg_ty T o2
    obtain ⟨dx, pb, pa, h1, h2, h3⟩ := o
    obtain ⟨dx', pb', pa', i1, i2, i3⟩ := o2
    wtm_at "rd"
    refine r_isi (.own _) ty kit_self ?_
    wtm_at "rdi"
    refine r_get h1 T.c_Weights T.nf_Weights_self_weight (wg_self _ _ _) ?_
    wtm_at "rd"
    refine r_get i1 T.c_Weights T.nf_Weights_self_weight (wg_self _ _ _) ?_
    wtm_at "rd"
    refine r_iten (fun c => ?_) (fun c => ?_)
    · wtm_at "rd"
      exact q false ⟨fun z => (nomatch z), fun z => absurd z.1 c⟩
    wtm_at "rd"
    refine r_get h1 T.c_Weights T.nf_Weights_back (wg_back _ _ _) ?_
    wtm_at "rd"
    refine r_get i1 T.c_Weights T.nf_Weights_back (wg_back _ _ _) ?_
    refine eq_sd T h2 i2 fun r1 e1 => ?_
    wtm_at "rd"
    refine r_iteb (fun c1 => ?_) (fun c1 => ?_)
    · wtm_at "rd"
      refine r_get h1 T.c_Weights T.nf_Weights_ahead (wg_ahead _ _ _) ?_
      wtm_at "rd"
      refine r_get i1 T.c_Weights T.nf_Weights_ahead (wg_ahead _ _ _) ?_
      refine eq_sd T h3 i3 fun r2 e2 => ?_
      exact q r2 (e2.trans ⟨fun z => ⟨c, e1.mp c1, z⟩, fun z => z.2.2⟩)
    · refine q false ⟨fun z => (nomatch z), fun z => ?_⟩
      rw [e1.mpr z.2.1] at c1
      cases c1
  · wtm_at "rd"
    refine r_isi (.own _) ty kit ?_
    wtm_at "rdi"
    exact q

end
/-! ### for k, v in d.items(), the keys tuples; min(xs, default=None) of a list of ints -/
section
open PySem PySem.Spec PyProof.Rows
open L2
section
variable {X : Cx} {pins : List (Addr × Obj)} {σ : L2.St} {H : Hp} {s : Shared} {d : Addr} {o : Obj}
theorem frzT2 {kvs : List (List Key × V)} (I : Inv X pins σ H s) (h : H d = some (.frz o (.dT kvs))) :
    (d == sysModules) = false ∧ s.heap.get? d = some o ∧ o.ExactDict ∧ ∃ (es : Array DictEntry) (ep : Nat), o.data = .dict es ep ∧ es.size = kvs.length ∧
      ∀ (i : Nat) (k : List Key) (v : V), kvs[i]? = some (k, v) → ∃ (en : DictEntry) (q : Addr), es[i]? = some en ∧ en.key = .ref q ∧ H q = some (.tup (k.map kV)) ∧ RelV v en.val := by
  obtain ⟨hd, z, hs, xs, pr, o', es, ep, ho, hx, hdt, he, _⟩ := I.hok d _ h
  rw [hd] at ho
  cases ho
  refine ⟨hs, hd, hx, es, ep, hdt, ?_, fun i k v e => ?_⟩
  · have l1 : es.size = xs.length := size_of_entries he
    have l2 : kvs.length = xs.length := Paired.length pr
    omega
  · obtain ⟨b, hb, e1, e2, e3⟩ := paired_get pr e
    have q := entry_at he i
    rw [hb] at q
    exact ⟨_, b.2.1, q, rfl, e2, e3⟩
end
def Itit (d : Addr) (o : Obj) (kvs : List (List Key × V)) : It :=
  ⟨fun i H => H d = some (.frz o (.dT kvs)) ∧ i < kvs.length, fun i H x H' => ∃ T k v q, kvs[i]? = some (k, v) ∧ x = .ref T ∧ H T = none ∧ H q = some (.tup (k.map kV)) ∧ H' = upd H T (.tup [.ref q, v]), fun i H => H d = some (.frz o (.dT kvs)) ∧ kvs.length ≤ i⟩
section
variable {P : Program} {w : World} {K : PySem.W.Frag} {d : Addr} {o : Obj} {es : Array DictEntry} {ep : Nat}
theorem turn_itemsT {kvs : List (List Key × V)} {elts : List Expr} {kk : Nat} {tpos : Pos} (it : Addr) (hod : o.data = .dict es ep) :
    Turn P w K (.Tuple elts kk tpos) (Itit d o kvs) [it] it (fun i h => ∃ ok ov, IsItemIter h it d i kvs.length ep ok ov) where
  mem := by simp
  obj := fun i h st b hb => by
    have e : b = it := by simpa using hb
    subst e
    obtain ⟨ok, ov, e⟩ := st
    exact ⟨_, e, fun v z => nomatch z⟩
  keep := fun i h h' st k => let ⟨ok, ov, e⟩ := st; ⟨ok, ov, k it (by simp) _ e⟩
  item := by
    intro X hP hw hK hc i pins s σ H E I hf st hg
    subst hP hw hK
    obtain ⟨hd, hi⟩ := hg
    obtain ⟨hs, hgd, hx, es', ep', hdt, hsz, ent⟩ := frzT2 I hd
    obtain ⟨rfl, rfl⟩ := dict_ep hod hdt
    obtain ⟨⟨k, v⟩, hkv⟩ : ∃ p, kvs[i]? = some p := ⟨kvs[i], List.getElem?_eq_getElem hi⟩
    obtain ⟨en, q, hen, hkey, hq, hval⟩ := ent i k v hkv
    obtain ⟨ok, ov, he⟩ := st
    rw [← hsz] at he
    have hlt : it < s.heap.objs.size := Heap.lt_size he
    obtain ⟨hi', een⟩ := Array.getElem?_eq_some_iff.mp hen
    refine wpAny_pyNext_items_item_raw he ⟨o, hgd, hx, hod⟩ hi' fun h' ho hT hz hk => ?_
    rw [een] at ho hT
    refine ⟨_, rfl, wpAny_letOwnedTupleGo_items (s := { s with heap := h' }) ho fun h'' he' sb => ?_⟩
    have hT2 : h''.get? s.heap.objs.size = some { cls := .type "tuple", data := .seq #[en.key, en.val] } := (sb.2 _ (Nat.ne_of_gt hlt)).trans hT
    have new : ObjOk X.prog X.w (upd H s.heap.objs.size (.tup [.ref q, v])) h'' s.heap.objs.size (.tup [.ref q, v]) :=
      ⟨by show 2 ≤ sizeLine; decide, [en.key, en.val], .cons hkey (.cons hval .nil), ⟨_, hT2, rfl, _, rfl⟩⟩
    have I1 : Inv X pins σ (upd H s.heap.objs.size (.tup [.ref q, v])) { s with heap := h'' } :=
      I.turnedNew (t' := s.toks) (ch := [it]) (fun b ob hb e => (sb.2 b (by simpa using hb)).trans (hk b ob (by simpa using hb) e)) hf (Nat.le_refl _) new
    refine ⟨.ref s.heap.objs.size, _, I1, rfl, ⟨_, k, v, q, hkv, rfl, I.hok.fresh (Nat.le_refl _), hq, rfl⟩, ⟨en.key, en.val, ?_⟩, fun b hb => ?_⟩
    · rw [← hsz]; exact he'
    · have e : b = it := by simpa using hb
      rw [e, upd_ne (Nat.ne_of_lt hlt)]
      exact (hf it (by simp)).1
  done := by
    intro X hP hw hK hc i pins s σ H E I hf st hg
    subst hP hw hK
    obtain ⟨hd, hi⟩ := hg
    obtain ⟨f0, f1, f2, f3, f4, f5⟩ := hf it (by simp)
    obtain ⟨hs, hgd, hx, es', ep', hdt, hsz, ent⟩ := frzT2 I hd
    obtain ⟨rfl, rfl⟩ := dict_ep hod hdt
    obtain ⟨ok, ov, he⟩ := st
    rw [← hsz] at he
    exact wpAny_pyNext_items_end_raw (I.ok.hd hc) he ⟨o, hgd, hx, hod⟩ (by omega) fun h' eb => ⟨rfl, I.turned (t' := s.toks) (fun b ob hb e => eb b ob hb e) f0 f1 f3 f4 f5⟩
  self := fun A i s Q E st h => let ⟨_, _, e⟩ := st; PySem.W.kcp_self e h
end
def iItemsT (td : TE) : TI := fun σ H R => td σ H fun x H1 => ∃ d o kvs, x = .ref d ∧ H1 d = some (.frz o (.dT kvs)) ∧ R (Itit d o kvs) H1
section
variable {X : Cx} {e : Expr} {td : TE} {apos cpos : Pos}
theorem pi_itemsT {elts : List Expr} {kk : Nat} {tpos : Pos} (he : PE X e td) (hbase : attributeBase e "items" X.env (eval e X.env) = eval e X.env := by rfl) (hline : (apos.endLine == cpos.line) = true := by rfl) :
    PI X (.Tuple elts kk tpos) (.Call (.Attribute e "items" apos) [] [] cpos) (iItemsT td) := by
  refine ⟨fun pins s σ H R I h => ?_⟩
  refine wpAny_Call_method (T := "dict") (id := "dict.items") hbase rfl hline F.plainAttrs_dict F.slot_dict_items F.type_dict_items (thn (he.run pins s σ H _ I h) fun u s1 ⟨x, H1, I1, rx, d, o, kvs, ex, hd, q⟩ => ?_)
  subst ex
  obtain rfl : u = Value.ref d := rx
  obtain ⟨hs, hgd, hx, es, ep, hdt, hsz, ent⟩ := frzT2 I1 hd
  have raw : s1.heap.DictRaw d es ep := ⟨o, hgd, hx, hdt⟩
  refine ⟨raw.typeIs, ?_, ?_⟩
  · intro a e
    cases e
    exact ⟨o, hgd, hx.2.1⟩
  have I2 : Inv X pins σ H1 { s1 with heap := s1.heap.push { cls := .type "dict_items", data := .fields #[.ref d] } } := I1.kept (t' := s1.toks) fun b ob q => Heap.get?_push_of_some _ q
  have raw2 : ({ s1 with heap := s1.heap.push { cls := .type "dict_items", data := .fields #[.ref d] } } : Shared).heap.DictRaw d es ep := ⟨o, Heap.get?_push_of_some _ hgd, hx, hdt⟩
  have fin : wpAny (model X.prog X.w) X.A (pyIter (.ref s1.heap.objs.size)) (PIE X pins σ (.Tuple elts kk tpos) R) X.xe { s1 with heap := s1.heap.push { cls := .type "dict_items", data := .fields #[.ref d] } } := by
    refine wpAny_pyIter_items_raw (d := d) ⟨_, Heap.get?_push_size _ rfl, rfl, rfl⟩ raw2 (pi_one (tk := s1.toks) I2 _ (turn_itemsT _ hdt) ⟨.none, .none, ?_⟩ q)
    rw [← hsz]
    exact Heap.get?_push_size _ rfl
  show wpAny _ _ (callWith cpos (.builtin "dict.items") [.ref d] [] []) _ X.xe s1
  exact method_meetsIn F.slot_dict_items F.entry_dict_items rfl (PySem.evalArgs_none ⟨rfl, raw.typeIs, F.args_dict_items_1 _, _, meets_dict_items_raw d hs, ⟨es, ep, raw⟩, fin⟩)
end
theorem walk_itemsT {d : Addr} {o : Obj} {kvs : List (List Key × V)} : Walk (Itit d o kvs) kvs.length (fun H => H d = some (.frz o (.dT kvs)))
    (fun i H x H' => ∃ T k v q, kvs[i]? = some (k, v) ∧ x = .ref T ∧ H T = none ∧ H q = some (.tup (k.map kV)) ∧ H' = upd H T (.tup [.ref q, v])) :=
  ⟨fun _ _ hi q => ⟨q, hi⟩, fun _ q => ⟨q, Nat.le_refl _⟩, fun _ _ _ _ _ _ y => y⟩
section
variable {prog : Program} {w : World} {A : Around} {E : Value → Shared → Prop} {s : Shared} {l : Addr} {its : List Value} {ns : List Int} {d : Value} {Q : Value → Shared → Prop}
theorem min_rawD (hh : A.handled = none) (hl : s.heap.IsList l its.toArray) (hi : IntsAre its ns)
    (h0 : ns = [] → ∀ h' tk, (∀ b o, s.heap.get? b = some o → h'.get? b = some o) → Q d { s with heap := h', toks := tk })
    (h : ∀ h' tk M t', (∀ b o, s.heap.get? b = some o → h'.get? b = some o) → M ∈ ns → (∀ a, a ∈ ns → M ≤ a) → Q (.int M t') { s with heap := h', toks := tk }) :
    wpAny (model prog w) A (call (.builtin "min") [.ref l] [(Str.ofString "default", d)]) Q E s := by
  obtain ⟨xs, e⟩ := hi.allInts.items
  have hn : numsOf (intItems xs).toList = ns := by rw [← e]; exact hi.numsOf
  rw [nums_intItems] at hn
  subst hn
  rw [e] at hl
  have hsz : (intItems xs).size = xs.size := by simp [intItems]
  refine call_min_walkD (PySem.W.iter_listW (A := A.in1) hh hl fun s₂ e2 W st hfp hw hk => ?_)
  refine ⟨_, _, _, _, _, _, _, s.heap, (fun i j => decide (numAt xs i < numAt xs j)), rfl, W, st, hfp, hw, hk, fun hz s' m => ?_, fun hp => ⟨?_, fun v s' hP m => ?_⟩⟩
  · obtain ⟨h', tk, rfl, hk'⟩ := PySem.W.moved_old e2 rfl m
    refine h0 (List.eq_nil_of_length_eq_zero ?_) h' tk hk'
    rw [List.length_map, Array.length_toList]
    omega
  · exact fun i j vi vj s Q E _ hi hj hq => CmpOf.ints_lt (numAt xs) (fun _ _ => intItems_at) i j vi vj s Q E hi hj hq
  · obtain ⟨h', tk, rfl, hk'⟩ := PySem.W.moved_old e2 rfl m
    obtain ⟨t, rfl⟩ := intItems_at hP
    rw [hsz] at hp ⊢
    obtain ⟨h1, h2⟩ := argBest_lt (numAt xs) (xs.size - 1)
    refine h h' tk _ t hk' ?_ fun a ha => ?_
    · rw [numAt_eq]; exact PySem.getD_mem (by rw [List.length_map, Array.length_toList]; omega)
    · obtain ⟨j, hj, rfl⟩ := mem_getD ha
      rw [List.length_map, Array.length_toList] at hj
      rw [← numAt_eq]; exact h2 j (by omega)
end
/-- min(xs, default=d) of a list of ints -/
def rMinD (K : PySem.W.Frag) : List V → List V → Hp → VK → Prop := fun vs zs H Q => ∃ (a : Addr) (ns : List Int) (d : V), vs = [V.ref a] ∧ zs = [d] ∧ SqL K H a (ns.map V.int) ∧ (ns = [] → Q d H) ∧ ∀ m, m ∈ ns → (∀ y, y ∈ ns → m ≤ y) → Q (.int m) H
theorem cr_minD {X : Cx} (hc : X.calm = true) : CallRK X (.builtin "min") [Str.ofString "default"] (rMinD X.K) := by
  intro pins s σ H vs zs us ws Q I r rz h
  obtain ⟨a, ns, d, rfl, rfl, hs, q0, q⟩ := h
  obtain ⟨its, rv, hl, _⟩ := I.list hs
  rw [Vals.ref1 r]
  obtain ⟨w1, rfl, e1⟩ := vals1 rz
  exact min_rawD (I.ok.hd hc) hl.isList rv.ints (fun e h' tk hk => ⟨d, H, I.kept hk, e1, q0 e⟩) fun h' tk m t' hk h1 h2 => ⟨.int _, H, I.kept hk, ⟨_, rfl⟩, q m h1 h2⟩
end
section
open PySem PySem.Spec PyProof.Rows L2
theorem r_iit {σ : L2.St} {H : Hp} {td : TE} {R : It → Hp → Prop} (h : td σ H fun x H1 => ∃ d o kvs, x = .ref d ∧ H1 d = some (.frz o (.dT kvs)) ∧ R (Itit d o kvs) H1) : iItemsT td σ H R := h
theorem r_minD {K : PySem.W.Frag} {H : Hp} {Q : VK} {a : Addr} {ns : List Int} {d : V} (h : SqL K H a (ns.map V.int)) (q0 : ns = [] → Q d H) (q : ∀ m, m ∈ ns → (∀ y, y ∈ ns → m ≤ y) → Q (.int m) H) : rMinD K [.ref a] [d] H Q := ⟨a, ns, d, rfl, rfl, h, q0, q⟩
theorem r_ckw {σ : L2.St} {H : Hp} {Q : VK} {r : List V → List V → Hp → VK → Prop} {t tk : TA} (h : t σ H fun vs H1 => tk σ H1 fun zs H2 => r vs zs H2 Q) : tCKw r t tk σ H Q := h
/-- bool of an int, a truth or None -/
def rBool3 : List V → Hp → VK → Prop := fun xs H Q => (∃ i, xs = [.int i] ∧ Q (.bl (i != 0)) H) ∨ (∃ k, xs = [.bl k] ∧ Q (.bl k) H) ∨ (xs = [.non] ∧ Q (.bl false) H)
theorem call_bool3 {X : Cx} : CallR X (.type "bool") rBool3 := by
  intro pins s σ H xs us Q I r h
  rcases h with ⟨i, rfl, q⟩ | ⟨k, rfl, q⟩ | ⟨rfl, q⟩
  · exact call_bool1 pins s σ H _ us Q I r (.inl ⟨i, rfl, q⟩)
  · exact call_bool1 pins s σ H _ us Q I r (.inr ⟨k, rfl, q⟩)
  · obtain ⟨u, rfl, r1⟩ := vals1 r
    obtain rfl : u = Value.none := r1
    refine bool_of ?_
    show wpAny _ _ (pure false) _ _ _
    exact wpAny_pure ⟨.bl false, H, I, rfl, q⟩
end

theorem ln_piece {x : Int} : ∀ (n : Nat) (l : Ln), l.length = n → lnAt l x ≠ 0 → ∃ p ∈ l, p.1 ≤ x ∧ p.2 = lnAt l x
  | 0, l, hn, h => by rw [List.length_eq_zero_iff.mp hn] at h; exact absurd rfl h
  | n + 1, l, hn, h => by
    rcases Gr.snoc_cases l with e | ⟨r, q, rfl⟩
    · rw [e] at hn; cases hn
    rw [List.length_append] at hn
    rw [Gr.lnAt_snoc] at h ⊢
    by_cases c : q.1 ≤ x
    · rw [if_pos c]
      exact ⟨q, List.mem_append_right _ List.mem_cons_self, c, rfl⟩
    · rw [if_neg c] at h ⊢
      obtain ⟨p, h1, h2⟩ := ln_piece n r (by simpa using hn) h
      exact ⟨p, List.mem_append_left _ h1, h2⟩
def fndL (l : Ln) : List Int := (l.filter fun p => !decide (p.2 = 0)).map (·.1)
def fndG (A : Axes) (W : Wt) (ps : List Pl) : List Int := (ps.filter fun p => !decide (W p = 0)).map fun p => (Gr.near A p).r
/-- what nearest_on answers -/
def NrIs (f : Int → Int) (h : Num → Int) (v : V) : Prop := (v = .non ∧ (∀ x, 1 ≤ x → f x = 0) ∧ ∀ n : Num, n.Ok → h n = 0) ∨
  ∃ m, v = .int m ∧ 1 ≤ m ∧ (f m ≠ 0 ∨ ∃ n : Num, n.Ok ∧ n.r = m ∧ h n ≠ 0) ∧ (∀ x, 1 ≤ x → f x ≠ 0 → m ≤ x) ∧ ∀ n : Num, n.Ok → h n ≠ 0 → m ≤ n.r
theorem mem_fl {l : Ln} {y : Int} : y ∈ fndL l ↔ ∃ p ∈ l, p.2 ≠ 0 ∧ p.1 = y := by
  unfold fndL
  rw [List.mem_map]
  constructor
  · rintro ⟨p, hp, e⟩
    obtain ⟨h1, h2⟩ := List.mem_filter.mp hp
    exact ⟨p, h1, by simpa using h2, e⟩
  · rintro ⟨p, h1, h2, e⟩
    exact ⟨p, List.mem_filter.mpr ⟨h1, by simpa using h2⟩, e⟩
theorem mem_fg {A : Axes} {W : Wt} {ps : List Pl} {y : Int} : y ∈ fndG A W ps ↔ ∃ p ∈ ps, W p ≠ 0 ∧ (Gr.near A p).r = y := by
  unfold fndG
  rw [List.mem_map]
  constructor
  · rintro ⟨p, hp, e⟩
    obtain ⟨h1, h2⟩ := List.mem_filter.mp hp
    exact ⟨p, h1, by simpa using h2, e⟩
  · rintro ⟨p, h1, h2, e⟩
    exact ⟨p, List.mem_filter.mpr ⟨h1, by simpa using h2⟩, e⟩
section
variable {l : Ln} {A : Axes} {W : Wt} {f : Int → Int} {h : Num → Int} {e : Ex}
theorem fnd_up (k : SdIs l A W f h e) {y : Int} (hy : y ∈ fndL l ++ fndG A W (pls A)) : 1 ≤ y ∧ (f y ≠ 0 ∨ ∃ n : Num, n.Ok ∧ n.r = y ∧ h n ≠ 0) := by
  rcases List.mem_append.mp hy with hy | hy
  · obtain ⟨p, h1, h2, rfl⟩ := mem_fl.mp hy
    have p1 : 1 ≤ p.1 := ax_ge1 k.ln.ok (List.mem_map.mpr ⟨p, h1, rfl⟩)
    refine ⟨p1, .inl ?_⟩
    rw [← k.ln.at_ _ p1, ln_self _ l rfl k.ln.ok.asc h1]
    exact h2
  · obtain ⟨p, h1, h2, rfl⟩ := mem_fg.mp hy
    have ip := mem_pls.mp h1
    have no := Gr.near_ok k.gr.ok ip
    refine ⟨by obtain ⟨a1, a2, _⟩ := no; omega, .inr ⟨_, no, rfl, ?_⟩⟩
    rw [← k.gr.at_ _ no]
    unfold Gr.gAt
    rw [Gr.place_near k.gr.ok ip]
    exact h2
theorem fnd_ln (k : SdIs l A W f h e) {x : Int} (hx : 1 ≤ x) (hf : f x ≠ 0) : ∃ y ∈ fndL l ++ fndG A W (pls A), y ≤ x := by
  rw [← k.ln.at_ _ hx] at hf
  obtain ⟨p, h1, h2, h3⟩ := ln_piece _ l rfl hf
  exact ⟨p.1, List.mem_append_left _ (mem_fl.mpr ⟨p, h1, by rw [h3]; exact hf, rfl⟩), h2⟩
theorem fnd_gr (k : SdIs l A W f h e) {n : Num} (hn : n.Ok) (hh : h n ≠ 0) : ∃ y ∈ fndL l ++ fndG A W (pls A), y ≤ n.r := by
  rw [← k.gr.at_ _ hn] at hh
  have ip := Gr.place_in k.gr.ok hn
  refine ⟨_, List.mem_append_right _ (mem_fg.mpr ⟨Gr.place A n, mem_pls.mpr ip, hh, rfl⟩), ?_⟩
  obtain ⟨n1, n2, n3⟩ := hn
  obtain ⟨a, ha, ha2, _⟩ := k.gr.ok.r.iv (x := n.r) (by omega)
  obtain ⟨b, hb, hb2, _⟩ := k.gr.ok.g.iv (x := n.g) n1
  show max (A.r.getD (idx A.r n.r) 0) (A.g.getD (idx A.g n.g) 0) ≤ n.r
  rw [Gr.getD_of ha, Gr.getD_of hb]
  omega
theorem nr_none (k : SdIs l A W f h e) (h0 : fndL l ++ fndG A W (pls A) = []) : NrIs f h .non := by
  refine .inl ⟨rfl, fun x hx => ?_, fun n hn => ?_⟩
  · refine Classical.byContradiction fun z => ?_
    obtain ⟨y, hy, _⟩ := fnd_ln k hx z
    rw [h0] at hy
    cases hy
  · refine Classical.byContradiction fun z => ?_
    obtain ⟨y, hy, _⟩ := fnd_gr k hn z
    rw [h0] at hy
    cases hy
theorem nr_some (k : SdIs l A W f h e) {m : Int} (hm : m ∈ fndL l ++ fndG A W (pls A)) (hl : ∀ y, y ∈ fndL l ++ fndG A W (pls A) → m ≤ y) : NrIs f h (.int m) := by
  obtain ⟨h1, h2⟩ := fnd_up k hm
  refine .inr ⟨m, rfl, h1, h2, fun x hx z => ?_, fun n hn z => ?_⟩
  · obtain ⟨y, hy, hyx⟩ := fnd_ln k hx z
    exact Int.le_trans (hl y hy) hyx
  · obtain ⟨y, hy, hyx⟩ := fnd_gr k hn z
    exact Int.le_trans (hl y hy) hyx
end
theorem lc_prF {σ : L2.St} {H : Hp} {Q : VK} {te : TE} {tt : TT} {K : PySem.W.Frag} {a : Addr} {us : List Addr} {l : Ln} {n1 n2 : Nat} (t : Int × Int → Bool) (f : Int × Int → V) (hS : H a = some (.lst (us.map V.ref))) (hu : All2 (PrAt H) us l) (hz : l.length ≤ 1000)
    (hw : ∀ x y, wipe (((wipe σ [n1, n2]).set n1 (some x)).set n2 (some y)) [n1, n2] = wipe σ [n1, n2])
    (ht : ∀ (p : Int × Int) (H' : Hp) (QT : Bool → Hp → Prop), QT (t p) H' → tt (((wipe σ [n1, n2]).set n1 (some (.int p.1))).set n2 (some (.int p.2))) H' QT)
    (he : ∀ (p : Int × Int) (H' : Hp) (QQ : VK), QQ (f p) H' → te (((wipe σ [n1, n2]).set n1 (some (.int p.1))).set n2 (some (.int p.2))) H' QQ)
    (hq : ∀ D, H D = none → Q (.ref D) (upd H D (.lst ((l.filter t).map f)))) : lcGo (Itl K a) (gTup K 2 (gCons (gName n1) (gCons (gName n2) gNil))) tt te [n1, n2] σ Q H := by
  intro D nD
  have hul := hu.len
  refine lc_list (K := K) (a := a) (xs := us.map V.ref) (fun i H' => H' = upd H D (.lst (((l.take i).filter t).map f))) rfl (fun i H' _ e => by subst e; exact (same_new nD).seq (SqL.of hS)) ?_ ?_
  · rintro i x H' hx rfl
    rw [List.getElem?_map] at hx
    obtain ⟨u, hu', rfl⟩ := Option.map_eq_some_iff.mp hx
    obtain ⟨p, hp, pp⟩ := hu.get hu'
    have pp := same_new (o := .lst (((l.take i).filter t).map f)) nD _ _ pp
    have el : (l.take (i + 1)).filter t = (l.take i).filter t ++ (if t p = true then [p] else []) := by
      rw [List.take_add_one, hp, List.filter_append]
      show _ ++ List.filter t [p] = _
      rw [List.filter_cons, List.filter_nil]
    refine r_gtup (SqT.of pp) rfl ?_
    refine ⟨_, _, rfl, ?_⟩
    show gCons (gName n2) gNil _ _ _ _
    refine ⟨_, _, rfl, ?_⟩
    unfold gName
    refine ⟨rfl, hw _ _, ?_⟩
    refine ht p _ _ ?_
    cases hf : t p with
    | true =>
      rw [hf, if_pos rfl] at el
      rw [if_pos rfl]
      refine he p _ _ ⟨((l.take i).filter t).map f, upd_same, small1000 ?_, ?_⟩
      · rw [List.length_map]
        have := List.length_filter_le t (l.take i)
        rw [List.length_take] at this
        have := (List.getElem?_eq_some_iff.mp hp).1
        omega
      · rw [upd_upd, el, List.map_append]
        rfl
    | false =>
      rw [hf, if_neg Bool.false_ne_true, List.append_nil] at el
      rw [if_neg Bool.false_ne_true, el]
  · rintro H' rfl
    rw [List.length_map, hul, List.take_length]
    exact hq D nD
def spNearOn (C : Addr) : Sp := fun vs H Q _ => ∃ (p : Addr) (N : Addr → Prop) (f : Int → Int) (h : Num → Int) (e : Ex), vs = [.ref p] ∧ SdAt C N H p f h e ∧ e.le 18 ∧ ∀ v H', NrIs f h v → Same H H' → Q v H'
def spWgBin (C CS : Addr) (ρ : Rul) : Sp := fun vs H Q _ => ∃ (p p2 : Addr) (N M : Addr → Prop) (w v : Wgt) (a b c : Ex), vs = [.ref p, .ref p2] ∧ WgAt C CS N H p w a ∧ WgAt C CS M H p2 v b ∧ WgBd w ∧ WgBd v ∧ JnE (w = v) a b c ∧ c.le 18 ∧
  ∀ x H', H x = none → WgAt C CS (fun a => H a = none) H' x (w.mix ρ v) c → Same H H' → Q (.ref x) H'
def spWgNeg (C CS : Addr) : Sp := fun vs H Q _ => ∃ (p : Addr) (N : Addr → Prop) (w : Wgt) (a : Ex), vs = [.ref p] ∧ WgAt C CS N H p w a ∧ WgBd w ∧ a.le 18 ∧
  ∀ x H', H x = none → WgAt C CS (fun a => H a = none) H' x (w.mix ⟨0 - 1, 0, 0⟩ w) a → Same H H' → Q (.ref x) H'
def spWgMul (C CS : Addr) : Sp := fun vs H Q _ => ∃ (p : Addr) (k : Int) (N : Addr → Prop) (w : Wgt) (a : Ex), vs = [.ref p, .int k] ∧ WgAt C CS N H p w a ∧ WgBd w ∧ Bd k ∧ a.le 18 ∧
  ∀ x H', H x = none → WgAt C CS (fun a => H a = none) H' x (w.mix ⟨k, 0, 0⟩ w) a → Same H H' → Q (.ref x) H'
/-- some weight is not 0 -/
def WgNz (w : Wgt) : Prop := ∃ r g d, possB r g d = true ∧ w.at_ r g d ≠ 0
def spWgBool (C CS : Addr) : Sp := fun vs H Q _ => ∃ (p : Addr) (N : Addr → Prop) (w : Wgt) (a : Ex), vs = [.ref p] ∧ WgAt C CS N H p w a ∧ a.le 18 ∧ ∀ r H', (r = true ↔ WgNz w) → Same H H' → Q (.bl r) H'
theorem nz_nr {w : Wgt} {v u : V} (hb : NrIs w.b.f w.b.h v) (ha : NrIs w.a.f w.a.h u) : WgNz w ↔ (w.s ≠ 0 ∨ v ≠ .non ∨ u ≠ .non) := by
  constructor
  · rintro ⟨r, g, d, h, hz⟩
    have h := of_decide_eq_true h
    unfold Wgt.at_ Sdv.at_ at hz
    by_cases c : r = 0
    · rw [if_pos c] at hz
      exact .inl hz
    rw [if_neg c] at hz
    by_cases c2 : 0 < r
    · rw [if_pos c2] at hz
      refine .inr (.inr ?_)
      rintro rfl
      rcases ha with ⟨_, a1, a2⟩ | ⟨m, e, _⟩
      · by_cases c3 : g = 0
        · rw [if_pos c3] at hz
          exact hz (a1 r (by omega))
        · rw [if_neg c3] at hz
          exact hz (a2 ⟨r, g, d⟩ ⟨by show 1 ≤ g; omega, by show g ≤ r; omega, by show g ≤ d; omega⟩)
      · cases e
    · rw [if_neg c2] at hz
      refine .inr (.inl ?_)
      rintro rfl
      rcases hb with ⟨_, a1, a2⟩ | ⟨m, e, _⟩
      · by_cases c3 : 0 - g = 0
        · rw [if_pos c3] at hz
          exact hz (a1 (0 - r) (by omega))
        · rw [if_neg c3] at hz
          exact hz (a2 ⟨0 - r, 0 - g, 0 - d⟩ ⟨by show 1 ≤ 0 - g; omega, by show 0 - g ≤ 0 - r; omega, by show 0 - g ≤ 0 - d; omega⟩)
      · cases e
  · rintro (z | z | z)
    · exact ⟨0, 0, 0, decide_eq_true (by omega), z⟩
    · rcases hb with ⟨e, _⟩ | ⟨m, _, m1, m2 | ⟨n, n1, n2, n3⟩, _⟩
      · exact absurd e z
      · exact ⟨0 - m, 0, 0, decide_eq_true (by omega), by rw [at_back m1]; exact m2⟩
      · obtain ⟨h1, h2, h3⟩ := id n1
        exact ⟨0 - n.r, 0 - n.g, 0 - n.d, decide_eq_true (by omega), by rw [at_backN n1]; exact n3⟩
    · rcases ha with ⟨e, _⟩ | ⟨m, _, m1, m2 | ⟨n, n1, n2, n3⟩, _⟩
      · exact absurd e z
      · exact ⟨m, 0, 0, decide_eq_true (by omega), by rw [at_ahead m1]; exact m2⟩
      · obtain ⟨h1, h2, h3⟩ := id n1
        exact ⟨n.r, n.g, n.d, decide_eq_true (by omega), by rw [at_aheadN n1]; exact n3⟩
theorem nr_bool {f : Int → Int} {h : Num → Int} {v : V} {H : Hp} {Q : VK} (k : NrIs f h v) (q : ∀ r : Bool, (r = true ↔ v ≠ .non) → Q (.bl r) H) : rBool3 [v] H Q := by
  rcases k with ⟨rfl, _⟩ | ⟨m, rfl, m1, _⟩
  · exact .inr (.inr ⟨rfl, q false ⟨fun z => (nomatch z), fun z => absurd rfl z⟩⟩)
  · refine .inl ⟨m, rfl, q _ ⟨fun _ z => (nomatch z), fun _ => ?_⟩⟩
    show (m != 0) = true
    rw [bne_iff_ne]
    omega
theorem ruld {x y z : Int} (h1 : Bd x) (h2 : Bd y) (h3 : Bd z) : (⟨x, y, z⟩ : Rul).ok := ⟨h1, h2, h3⟩
theorem bd0 : Bd 0 := by unfold Bd; decide
theorem bd1 : Bd 1 := by unfold Bd; decide
theorem bdm : Bd (0 - 1) := by unfold Bd; decide
section
variable {P : Program} {w : World} {K : PySem.W.Frag} {mg : Str → Option Value} {base : Heap}

theorem ok_nearest_on (T : Txt K mg) : FnOk P w K mg base CX0 1 T.f_nearest_on T.d_nearest_on ["side"] (spNearOn T.C_Side) := by
  refine T.F_nearest_on.ok sc_nearest_on (fun vs H Q E h => ?_) (fun cdv A outer s H vs Q E hr h => ?_)
  · obtain ⟨p, N, f, h, e, rfl, _⟩ := h
    rfl
  obtain ⟨p, N, f, h, e, rfl, o, he, q⟩ := h
  refine ⟨_, (pss_cons (ps_setLc (i := 1) (own := [("start", 6), ("weight", 5)]) (g := gTup K 2 (gCons (gName 6) (gCons (gName 5) gNil))) rfl sc_nearest_on.nd rfl rfl (sw_true rfl rfl rfl (by decide +kernel)) (pi_list (pe_fldK (K := K) (pv 0))) (blkOk_by (N := ["side", "found", "axes", "weights", "place", "weight", "start"]) (sc := defScope s_nearest_on) (by decide +kernel)) (fun _ _ _ _ _ => pg_tup (by rfl) (pgs_cons (pg_name (i := 6) sc_nearest_on.nd rfl (by first | exact Or.inl rfl | exact Or.inr rfl)) (pgs_cons (pg_name (i := 5) sc_nearest_on.nd rfl (by first | exact Or.inl rfl | exact Or.inr rfl)) pgs_nil))) (fun _ _ _ _ _ => (pts_one (pt_cmpR op_ne (pv 5) pe_int (nomark _)))) (fun _ _ _ _ _ => (pv 6)))
      (pss_cons (ps_asg (pe_fldK (K := K) (pv 0)) (pg_tup (by rfl) (pgs_cons (pg_name (i := 2) sc_nearest_on.nd rfl (by first | exact Or.inl rfl | exact Or.inr rfl)) (pgs_cons (pg_name (i := 3) sc_nearest_on.nd rfl (by first | exact Or.inl rfl | exact Or.inr rfl)) pgs_nil))))
      (pss_cons (ps_lock (ps_for PassesOwn.never rfl (pi_itemsT (pv 3)) (pg_tup (by rfl) (pgs_cons (pg_name (i := 4) sc_nearest_on.nd rfl (by first | exact Or.inl rfl | exact Or.inr rfl)) (pgs_cons (pg_name (i := 5) sc_nearest_on.nd rfl (by first | exact Or.inl rfl | exact Or.inr rfl)) pgs_nil))) (pss_one (ps_if (pt_cmpR op_ne (pv 5) pe_int (nomark _)) (pss_one (ps_expr (pe_bm PySem.F.plainAttrs_list PySem.F.slot_list_append PySem.F.type_list_append mt_append (pv 1) (pa_cons (pe_callB (c_max2 rfl) (by rfl) T.z_max (by decide +kernel) (pa_cons (pe_ix (r := rIxL K) ix_list (pe_ix (r := rIxT K) ix_tup (pv 2) pe_int (fun _ _ => rfl)) (pe_ix (r := rIxT K) ix_tup (pv 4) pe_int (fun _ _ => rfl)) (fun _ _ => rfl)) (pa_cons (pe_ix (r := rIxL K) ix_list (pe_ix (r := rIxT K) ix_tup (pv 2) pe_int (fun _ _ => rfl)) (pe_ix (r := rIxT K) ix_tup (pv 4) pe_int (fun _ _ => rfl)) (fun _ _ => rfl)) pa_nil))) pa_nil)))) pss_nil))))
      (pss_one (ps_ret (pe_callBK (r := rMinD K) (cr_minD rfl) (by rfl) T.z_min (by decide +kernel) (pa_cons (pv 1) pa_nil) (pk_cons pe_non pk_nil))))))), ?_⟩
  try simp only [nox_K, cx_K]
  obtain ⟨dx, pl, pg, l, A, W, h1, h2, h3, h4, h5⟩ := o
  obtain ⟨us, l1, l2⟩ := h3
  obtain ⟨ga, d, g1, o, gd⟩ := h4
  obtain ⟨x, y, z, a1, a2, a3, a4, _⟩ := id o
  have ll := h5.ln.len
  have pz := pls_len (A := A) ⟨by have := h5.gr.lr; have := he.r; omega, by have := h5.gr.lg; have := he.g; omega, by have := h5.gr.ld; have := he.d; omega⟩
  have hel := he.l
  wtm_at "rd"
  refine r_get h1 T.c_Side T.nf_Side_line (side_line _ _) ?_
  wtm_at "rd"
  refine r_itl (SqL.of l1) ?_
  refine lc_prF (fun p => !decide (p.2 = 0)) (fun p => .int p.1) l1 l2 (by omega) (by exact fun _ _ => rfl) (fun p H' QT hQ => ?_) (fun p H' QQ hQ => ?_) fun F n_F => ?_
  · wtm_at "rd"
    exact hQ
  · wtm_at "rd"
    exact hQ
  have sF := same_new (o := .lst (((l.filter fun p => !decide (p.2 = 0)).map fun p => V.int p.1))) n_F
  have eF : ((l.filter fun p => !decide (p.2 = 0)).map fun p => V.int p.1) = (fndL l).map V.int := by
    unfold fndL
    rw [List.map_map]
    rfl
  have h_F : (upd H F (.lst ((l.filter fun p => !decide (p.2 = 0)).map fun p => V.int p.1))) F = some (.lst ((fndL l).map V.int)) := by rw [upd_same, eF]
  generalize upd H F (.lst ((l.filter fun p => !decide (p.2 = 0)).map fun p => V.int p.1)) = H1 at sF h_F ⊢
  have gd1 := sF _ _ gd
  have dF : d ≠ F := ne_of_none gd n_F
  wtm_at "rd"
  refine r_get (sF _ _ h1) T.c_Side T.nf_Side_grid (side_grid _ _) ?_
  wtm_at "rd"
  refine r_gtup (SqT.of (sF _ _ g1)) rfl ?_
  wtm_at "rd"
  refine ⟨d, _, gd1, trivial, fun od => ?_⟩
  dsimp only
  refine r_for (r_iit ?_)
  wtm_at "rd"
  refine ⟨d, od, _, rfl, upd_same, ?_⟩
  have fl : (fndL l).length ≤ 19 := by
    unfold fndL
    rw [List.length_map]
    have := List.length_filter_le (fun p : Int × Int => !decide (p.2 = 0)) l
    omega
  refine for_it (walk_itemsT (d := d) (o := od) (kvs := wtK A W)) (fun n σ H' => ∃ x4 x5 : Option V, σ = [some (.ref p), some (.ref F), some (.ref ga), some (.ref d), x4, x5, none] ∧ H' d = some (.frz od (.dT (wtK A W))) ∧ H' F = some (.lst ((fndL l ++ fndG A W ((pls A).take n)).map V.int)) ∧ ∀ b x, H1 b = some x → b ≠ d → b ≠ F → H' b = some x) ⟨_, _, rfl, upd_same, by rw [upd_ne (Ne.symm dF), h_F, List.take_zero]; show _ = some (HO.lst ((fndL l ++ []).map V.int)); rw [List.append_nil], fun b x e n _ => (upd_ne n).trans e⟩ (fun n σ H' _ ⟨_, _, _, z, _⟩ => z) ?_ ?_
  · rintro n v σ H4 H5 hn ⟨x4, x5, rfl, g4, f4, k4⟩ ⟨T0, key, val, q0, hk, rfl, nT, hq, rfl⟩
    rw [wtK, List.getElem?_map] at hk
    obtain ⟨pp, hpn, ee⟩ := Option.map_eq_some_iff.mp hk
    cases ee
    have tk : (pls A).take (n + 1) = (pls A).take n ++ [pp] := by rw [List.take_add_one, hpn]; rfl
    have ip := mem_pls.mp (List.mem_of_getElem? hpn)
    obtain ⟨i1, i2, i3, _⟩ := id ip
    have eg : fndG A W ((pls A).take (n + 1)) = fndG A W ((pls A).take n) ++ (if W pp = 0 then [] else [(Gr.near A pp).r]) := by
      rw [tk]
      unfold fndG
      rw [List.filter_append, List.map_append, List.filter_cons, List.filter_nil]
      by_cases c : W pp = 0
      · rw [if_pos c, if_neg (by rw [decide_eq_true c]; exact Bool.false_ne_true)]
        rfl
      · rw [if_neg c, if_pos (by rw [decide_eq_false c]; rfl)]
        rfl
    have sT := same_new (o := .tup [.ref q0, .int (W pp)]) nT
    have g4 := sT _ _ g4
    have f4 := sT _ _ f4
    have hq : (upd H4 T0 (.tup [.ref q0, .int (W pp)])) q0 = some (.tup [.int (pp.1 : Int), .int (pp.2.1 : Int), .int (pp.2.2 : Int)]) := sT _ _ hq
    have k4 : ∀ b x, H1 b = some x → b ≠ d → b ≠ F → (upd H4 T0 (.tup [.ref q0, .int (W pp)])) b = some x := fun b x e n1 n2 => sT _ _ (k4 b x e n1 n2)
    refine r_gtup (SqT.of upd_same) rfl ?_
    generalize upd H4 T0 (.tup [.ref q0, .int (W pp)]) = H6 at g4 f4 hq k4 ⊢
    have a1 := k4 _ _ (sF _ _ a1) (fun z => by subst z; rw [gd] at a1; cases a1) (fun z => by subst z; rw [n_F] at a1; cases a1)
    have a2' := a2
    have a3' := a3
    have a2 := k4 _ _ (sF _ _ a2) (fun z => by subst z; rw [gd] at a2'; cases a2') (fun z => by subst z; rw [n_F] at a2'; cases a2')
    have a3 := k4 _ _ (sF _ _ a3) (fun z => by subst z; rw [gd] at a3'; cases a3') (fun z => by subst z; rw [n_F] at a3'; cases a3')
    wtm_at "rd"
    refine r_iten (fun c => ?_) (fun c => ?_)
    · rw [if_neg c] at eg
      wtm_at "rd"
      refine r_tyL (SqL.of f4) ?_
      wtm_at "rd"
      refine r_max2 fun m1 _ _ _ e1 => ?_
      wtm_at "rd"
      have lg : (fndL l ++ fndG A W ((pls A).take n)).length ≤ 8019 := by
        rw [List.length_append]
        unfold fndG
        rw [List.length_map]
        have := List.length_filter_le (fun p => !decide (W p = 0)) ((pls A).take n)
        rw [List.length_take] at this
        omega
      refine r_app f4 (by rw [List.length_map, sizeLine_eq]; omega) ?_
      wtm_at "rd"
      subst e1
      refine ⟨_, _, rfl, (upd_ne dF).trans g4, ?_, fun b x e n1 n2 => (upd_ne n2).trans (k4 b x e n1 n2)⟩
      rw [upd_same, eg, ← List.append_assoc]
      exact congrArg (fun z => some (HO.lst z)) (List.map_append (f := V.int) (l₁ := fndL l ++ fndG A W ((pls A).take n)) (l₂ := [(Gr.near A pp).r])).symm
    · rw [if_pos c, List.append_nil] at eg
      wtm_at "rd"
      exact ⟨_, _, rfl, g4, by rw [eg]; exact f4, k4⟩
  · rintro σ H4 ⟨x4, x5, rfl, g4, f4, k4⟩
    have el : (wtK A W).length = (pls A).length := List.length_map _
    rw [el, List.take_length] at f4
    dsimp only
    refine ⟨g4, ?_⟩
    have f5 : (upd H4 d (.dT (wtK A W))) F = some (.lst ((fndL l ++ fndG A W (pls A)).map V.int)) := (upd_ne (Ne.symm dF)).trans f4
    have sm : Same H (upd H4 d (.dT (wtK A W))) := fun b o e => by
      by_cases c : b = d
      · subst c
        rw [gd] at e
        cases e
        exact upd_same
      · rw [upd_ne c]
        exact k4 b o (sF _ _ e) c (ne_of_none e n_F)
    wtm_at "rd"
    refine r_ckw ?_
    wtm_at "rd"
    refine r_minD (SqL.of f5) (fun e0 => ?_) fun m m1 m2 => ?_
    · exact q _ _ (nr_none h5 e0) sm
    · exact q _ _ (nr_some h5 m1 m2) sm
theorem ok_Weights___bool__ (T : Txt K mg) : FnOk P w K mg base CX0 3 T.f_Weights___bool__ T.d_Weights___bool__ ["self"] (spWgBool T.C_Weights T.C_Side) := by
  refine T.F_Weights___bool__.ok sc_Weights___bool__ (fun vs H Q E h => ?_) (fun cdv A outer s H vs Q E hr h => ?_)
  · obtain ⟨p, N, w, a, rfl, _⟩ := h
    rfl
  obtain ⟨p, N, w, a, rfl, o, hz, q⟩ := h
  refine ⟨_, (pss_one (ps_ret (pe_or (pe_callTy call_bool3 (by rfl) T.z_bool (by decide +kernel) (pa_cons (pe_cmpR op_ne (pe_fldK (K := K) (pv 0)) pe_int (nomark _)) pa_nil)) (pe_or (pe_callTy call_bool3 (by rfl) T.z_bool (by decide +kernel) (pa_cons (pe_call (ok_nearest_on T) (hr.mono (by decide)) (by rfl) T.g_nearest_on T.F_nearest_on.kp T.b_nearest_on .nil pass0 (pa_cons (pe_fldK (K := K) (pv 0)) pa_nil)) pa_nil)) (pe_one (pe_callTy call_bool3 (by rfl) T.z_bool (by decide +kernel) (pa_cons (pe_call (ok_nearest_on T) (hr.mono (by decide)) (by rfl) T.g_nearest_on T.F_nearest_on.kp T.b_nearest_on .nil pass0 (pa_cons (pe_fldK (K := K) (pv 0)) pa_nil)) pa_nil))))))), ?_⟩
  try simp only [nox_K, cx_K]
  obtain ⟨dx, pb, pa, h1, h2, h3⟩ := o
  wtm_at "rd"
  refine r_get h1 T.c_Weights T.nf_Weights_self_weight (wg_self _ _ _) ?_
  wtm_at "rd"
  refine .inr (.inl ⟨_, rfl, ?_⟩)
  have key : ∀ {r : Bool} {v u : V}, NrIs w.b.f w.b.h v → NrIs w.a.f w.a.h u → (r = true ↔ (w.s ≠ 0 ∨ v ≠ .non ∨ u ≠ .non)) → (r = true ↔ WgNz w) := fun hb ha e => e.trans (nz_nr hb ha).symm
  refine ⟨_, rfl, ?_⟩
  by_cases c : w.s = 0
  · rw [if_neg (by rw [decide_eq_true c]; exact Bool.false_ne_true)]
    wtm_at "rd"
    refine r_get h1 T.c_Weights T.nf_Weights_back (wg_back _ _ _) ?_
    wtm_at "rd"
    refine ⟨pb, N, _, _, _, rfl, h2, hz, fun v H1 hv s1 => ?_⟩
    wtm_at "rd"
    refine nr_bool hv fun r1 e1 => ⟨_, rfl, ?_⟩
    cases r1 with
    | true => exact q _ _ ⟨fun _ => (show WgNz w from by
        rcases hv with ⟨e, _⟩ | ⟨m, _, m1, m2 | ⟨n, n1, n2, n3⟩, _⟩
        · exact absurd e (e1.mp rfl)
        · exact ⟨0 - m, 0, 0, decide_eq_true (by omega), by rw [at_back m1]; exact m2⟩
        · obtain ⟨h1, h2, h3⟩ := id n1
          exact ⟨0 - n.r, 0 - n.g, 0 - n.d, decide_eq_true (by omega), by rw [at_backN n1]; exact n3⟩), fun _ => rfl⟩ s1
    | false =>
      rw [if_neg Bool.false_ne_true]
      have v0 : v = .non := Classical.byContradiction fun z => Bool.false_ne_true (e1.mpr z)
      wtm_at "rd"
      refine r_get (s1 _ _ h1) T.c_Weights T.nf_Weights_ahead (wg_ahead _ _ _) ?_
      wtm_at "rd"
      refine ⟨pa, N, _, _, _, rfl, h3.same s1, hz, fun u H2 hu s2 => ?_⟩
      wtm_at "rd"
      refine nr_bool hu fun r2 e2 => ?_
      exact q _ _ (key hv hu ⟨fun z => .inr (.inr (e2.mp z)), fun z => e2.mpr (z.elim (fun z => absurd c z) fun z => z.elim (fun z => absurd v0 z) id)⟩) (s1.trans s2)
  · rw [if_pos (by rw [decide_eq_false c]; rfl)]
    have nz : WgNz w := ⟨0, 0, 0, decide_eq_true (by omega), c⟩
    have z := q true H ⟨fun _ => nz, fun _ => rfl⟩ (fun _ _ z => z)
    exact z

end

def spRgIn (K : PySem.W.Frag) (C CW CS CO : Addr) : Sp := fun vs H Q _ => ∃ (p : Addr) (v : V) (N : Addr → Prop) (w : Wgt) (e : Ex), vs = [.ref p, v] ∧ RgAt C CW CS N H p w e ∧ e.le 18 ∧
  ((∃ (o : Addr) (r g d : Int), v = .ref o ∧ OffAt CO H o r g d ∧ possB r g d = true ∧ ∀ H', Same H H' → Q (.bl (decide (w.at_ r g d = 1))) H') ∨ (∃ t, TyX K H v t ∧ PySem.W.kitOne K t (.ref CO) = some false ∧ Q (.bl false) H))
theorem dec_b2i (b : Bool) : decide (Gr.b2i b = 1) = b := by cases b <;> rfl
section
variable {P : Program} {w : World} {K : PySem.W.Frag} {mg : Str → Option Value} {base : Heap}

theorem ok_Region___contains__ (T : Txt K mg) : FnOk P w K mg base CX0 6 T.f_Region___contains__ T.d_Region___contains__ ["self", "offset"] (spRgIn K T.C_Region T.C_Weights T.C_Side T.C_Offset) := by
  refine T.F_Region___contains__.ok sc_Region___contains__ (fun vs H Q E h => ?_) (fun cdv A outer s H vs Q E hr h => ?_)
  · obtain ⟨p, v, N, w, e, rfl, _⟩ := h
    rfl
  obtain ⟨p, v, N, w, e, rfl, o, he, hv⟩ := h
  refine ⟨_, (pss_cons (ps_if (pt_not (pt_val (pe_callB call_isi (by rfl) T.z_isinstance (by decide +kernel) (pa_cons (pv 1) (pa_cons (pe_glob (v := .ref T.C_Offset) rfl T.g_Offset rfl) pa_nil))))) (pss_one (ps_ret pe_bl)) pss_nil)
      (pss_one (ps_ret (pe_cmpR op_eq (pe_meth (pe_fldK (K := K) (pv 0)) T.c_Weights T.mt_Weights_at (ok_Weights_at T) (hr.mono (by decide)) T.b_Weights_at .nil pass0 (pa_cons (pv 1) pa_nil)) pe_int (nomark _))))), ?_⟩
  try simp only [nox_K, cx_K]
  rcases hv with ⟨o2, r, g, d, rfl, oo, hb, q⟩ | ⟨t, ty, kit, q⟩
  · wtm_at "rd"
    refine r_isi (.own _) (off_ty T oo) kit_self ?_
    wtm_at "rdi"
    obtain ⟨dx, pw, h1, h2⟩ := o
    refine r_get h1 T.c_Region T.nf_Region_weights (rg_weights _) ?_
    obtain ⟨wdx, wpb, wpa, w1, _⟩ := id h2
    refine r_who w1 (wg_no _ _ _ (by decide +kernel) (by decide +kernel) (by decide +kernel)) ?_
    wtm_at "rd"
    refine ⟨pw, o2, N, w, e, r, g, d, rfl, h2, oo, hb, he, fun H' s => ?_⟩
    wtm_at "rd"
    exact q H' s
  · wtm_at "rd"
    refine r_isi (.own _) ty kit ?_
    wtm_at "rdi"
    exact q
theorem in_rg (T : Txt K mg) {H : Hp} {Q : VK} {E : XK} {p o : Addr} {N : Addr → Prop} {w : Wgt} {e : Ex} {r g d : Int} (k : RgAt T.C_Region T.C_Weights T.C_Side N H p w e) (he : e.le 18) (oo : OffAt T.C_Offset H o r g d) (hb : possB r g d = true) (h : ∀ H', Same H H' → Q (.bl (decide (w.at_ r g d = 1))) H') :
    rInO T.C_Region (spRgIn K T.C_Region T.C_Weights T.C_Side T.C_Offset) E (.ref o) (.ref p) H Q := by
  obtain ⟨dx, pw, h1, h2⟩ := id k
  exact ⟨p, dx, _, rfl, h1, p, .ref o, N, w, e, rfl, k, he, .inl ⟨o, r, g, d, rfl, oo, hb, fun H' s => ⟨_, rfl, h H' s⟩⟩⟩
theorem in_no (T : Txt K mg) {H : Hp} {Q : VK} {E : XK} {p : Addr} {v : V} {t : Value} {N : Addr → Prop} {w : Wgt} {e : Ex} (k : RgAt T.C_Region T.C_Weights T.C_Side N H p w e) (he : e.le 18) (ty : TyX K H v t) (kit : PySem.W.kitOne K t (.ref T.C_Offset) = some false) (h : Q (.bl false) H) :
    rInO T.C_Region (spRgIn K T.C_Region T.C_Weights T.C_Side T.C_Offset) E v (.ref p) H Q := by
  obtain ⟨dx, pw, h1, h2⟩ := id k
  exact ⟨p, dx, _, rfl, h1, p, v, N, w, e, rfl, k, he, .inr ⟨t, ty, kit, _, rfl, h⟩⟩

end
abbrev Pr2 := Option Int × Option Int
def cellF (z : Str) (pr pg pd : Addr) : List (Str × V) := putF "distance" (.ref pd) (putF "groups" (.ref pg) (putF "rows" (.ref pr) (putF "zone" (.str z) [])))
theorem cell_zone (z : Str) (pr pg pd : Addr) : (cellF z pr pg pd).lookup ("zone" : Str) = some (.str z) := by
  unfold cellF
  rw [lookup_putF, if_neg (by decide +kernel), lookup_putF, if_neg (by decide +kernel), lookup_putF, if_neg (by decide +kernel), lookup_putF, if_pos rfl]
theorem cell_rows (z : Str) (pr pg pd : Addr) : (cellF z pr pg pd).lookup ("rows" : Str) = some (.ref pr) := by
  unfold cellF
  rw [lookup_putF, if_neg (by decide +kernel), lookup_putF, if_neg (by decide +kernel), lookup_putF, if_pos rfl]
theorem cell_groups (z : Str) (pr pg pd : Addr) : (cellF z pr pg pd).lookup ("groups" : Str) = some (.ref pg) := by
  unfold cellF
  rw [lookup_putF, if_neg (by decide +kernel), lookup_putF, if_pos rfl]
theorem cell_distance (z : Str) (pr pg pd : Addr) : (cellF z pr pg pd).lookup ("distance" : Str) = some (.ref pd) := by
  unfold cellF
  rw [lookup_putF, if_pos rfl]
theorem cell_no (z : Str) (pr pg pd : Addr) {m : Str} (h1 : ¬ m = "distance") (h2 : ¬ m = "groups") (h3 : ¬ m = "rows") (h4 : ¬ m = "zone") : (cellF z pr pg pd).lookup m = none := by
  unfold cellF
  rw [lookup_putF, if_neg h1, lookup_putF, if_neg h2, lookup_putF, if_neg h3, lookup_putF, if_neg h4]
  rfl
structure Cl where
  z : Str
  a : Pr2
  b : Pr2
  c : Pr2
/-- a Cell stands at p -/
structure CellAt (CC CS : Addr) (H : Hp) (p : Addr) (l : Cl) : Prop where
  ex : ∃ dx pr pg pd, H p = some (.ins CC dx (cellF l.z pr pg pd)) ∧ StrAt CS H pr l.a.1 l.a.2 ∧ StrAt CS H pg l.b.1 l.b.2 ∧ StrAt CS H pd l.c.1 l.c.2
theorem CellAt.same {CC CS : Addr} {H H' : Hp} {p : Addr} {l : Cl} (h : CellAt CC CS H p l) (s : Same H H') : CellAt CC CS H' p l := by
  obtain ⟨dx, pr, pg, pd, h1, h2, h3, h4⟩ := h
  exact ⟨dx, pr, pg, pd, s _ _ h1, h2.same s, h3.same s, h4.same s⟩
def spCInit (CC CS : Addr) : Sp := fun vs H Q _ => ∃ (p dx pr pg pd : Addr) (z : Str), vs = [.ref p, .str z, .ref pr, .ref pg, .ref pd] ∧ H p = some (.ins CC dx []) ∧
  ∀ H', H' p = some (.ins CC dx (cellF z pr pg pd)) → (∀ b o, H b = some o → b ≠ p → H' b = some o) → Q .non H'
theorem make_str {C CT : Addr} {H : Hp} {F : Addr → Hp → Prop} {E : XK} {lo hi : Option Int} (hb : turnedB lo hi = false) (h : ∀ x H', H x = none → Same H H' → StrAt C H' x lo hi → F x H') :
    ∀ x dx, H x = none → H dx = none → dx ≠ x → spSInit C CT (.ref x :: ([endV lo, endV hi] ++ [])) (upd (upd H dx (.own x)) x (.ins C dx [])) (fun v H2 => v = .non ∧ F x H2) E :=
  fun x dx nx nd _ => ⟨x, dx, lo, hi, rfl, upd_same, fun hf => (by rw [hb] at hf; cases hf), fun _ H' ho hk => ⟨rfl, h x H' nx (same_make nx nd hk) ho⟩⟩
theorem make_cell {CC CS : Addr} {H : Hp} {F : Addr → Hp → Prop} {E : XK} {l : Cl} {pr pg pd : Addr} (h2 : StrAt CS H pr l.a.1 l.a.2) (h3 : StrAt CS H pg l.b.1 l.b.2) (h4 : StrAt CS H pd l.c.1 l.c.2) (h : ∀ x H', H x = none → Same H H' → CellAt CC CS H' x l → F x H') :
    ∀ x dx, H x = none → H dx = none → dx ≠ x → spCInit CC CS (.ref x :: ([.str l.z, .ref pr, .ref pg, .ref pd] ++ [])) (upd (upd H dx (.own x)) x (.ins CC dx [])) (fun v H2 => v = .non ∧ F x H2) E :=
  fun x dx nx nd _ => ⟨x, dx, pr, pg, pd, l.z, rfl, upd_same, fun H' ho hk => ⟨rfl, h x H' nx (same_make nx nd hk) ⟨dx, pr, pg, pd, ho, h2.same (same_make nx nd hk), h3.same (same_make nx nd hk), h4.same (same_make nx nd hk)⟩⟩⟩

def sgS (s l : Int) (h : En) : En × En := if 0 < s then (some l, h) else (ngE h, some (0 - l))
def UpE (l : Int) (h : En) : Prop := ∀ b, h = some b → l ≤ b
theorem sg_ok {s l : Int} {h : En} (u : UpE l h) : turnedB (sgS s l h).1 (sgS s l h).2 = false := by
  unfold sgS
  split
  · cases h with
    | none => rfl
    | some b => exact decide_eq_false (by have := u b rfl; omega)
  · cases h with
    | none => rfl
    | some b =>
      refine decide_eq_false ?_
      have := u b rfl
      show ¬ (0 - l < 0 - b)
      omega
theorem end_up {ax : List Int} (h : AxOk ax) {j : Nat} (hj : j < ax.length) : UpE (ax.getD j 0) (endOf ax j) := by
  intro b hb
  unfold endOf at hb
  cases e : ax[j + 1]? with
  | none => rw [e] at hb; cases hb
  | some c =>
    rw [e] at hb
    cases hb
    have hc := (List.getElem?_eq_some_iff.mp e).1
    have := h.at_lt (i := j) (j := j + 1) (by omega) hc
    rw [Gr.getD_of e] at this
    omega
def peerC (s l : Int) (h : En) : Cl := ⟨if 0 < s then "after" else "before", sgS s l h, (some 0, some 0), (some 0, some 0)⟩
def farC (s : Int) (a b c : Int × En) : Cl := ⟨if 0 < s then "future" else "past", sgS s a.1 a.2, sgS s b.1 b.2, sgS s c.1 c.2⟩
def ownC : Cl := ⟨"self", (some 0, some 0), (some 0, some 0), (some 0, some 0)⟩
def lnCell (s : Int) (l : Ln) (j : Nat) : Cl × Int := (peerC s (l.getD j (0, 0)).1 (endOf (fst l) j), (l.getD j (0, 0)).2)
def lnCells (s : Int) (l : Ln) (n : Nat) : List (Cl × Int) := ((List.range n).filter fun j => !decide ((l.getD j (0, 0)).2 = 0)).map (lnCell s l)
theorem lnCells_succ {s : Int} {l : Ln} {n : Nat} : lnCells s l (n + 1) = lnCells s l n ++ (if (l.getD n (0, 0)).2 = 0 then [] else [lnCell s l n]) := by
  unfold lnCells
  rw [List.range_succ, List.filter_append, List.map_append, List.filter_cons, List.filter_nil]
  by_cases c : (l.getD n (0, 0)).2 = 0
  · rw [if_pos c, if_neg (by rw [decide_eq_true c]; exact Bool.false_ne_true)]
    rfl
  · rw [if_neg c, if_pos (by rw [decide_eq_false c]; rfl)]
    rfl
theorem lnCells_len {s : Int} {l : Ln} {n : Nat} : (lnCells s l n).length ≤ n := by
  unfold lnCells
  rw [List.length_map]
  have := List.length_filter_le (fun j => !decide ((l.getD j (0, 0)).2 = 0)) (List.range n)
  rwa [List.length_range] at this
def axEnd (ax : List Int) (i : Nat) : Int × En := (ax.getD i 0, endOf ax i)
def grCell (s : Int) (A : Axes) (W : Wt) (p : Pl) : Cl × Int := (farC s (axEnd A.r p.1) (axEnd A.g p.2.1) (axEnd A.d p.2.2), W p)
def grCells (s : Int) (A : Axes) (W : Wt) (ps : List Pl) : List (Cl × Int) := (ps.filter fun p => !decide (W p = 0)).map (grCell s A W)
theorem grCells_snoc {s : Int} {A : Axes} {W : Wt} {ps : List Pl} {p : Pl} : grCells s A W (ps ++ [p]) = grCells s A W ps ++ (if W p = 0 then [] else [grCell s A W p]) := by
  unfold grCells
  rw [List.filter_append, List.map_append, List.filter_cons, List.filter_nil]
  by_cases c : W p = 0
  · rw [if_pos c, if_neg (by rw [decide_eq_true c]; exact Bool.false_ne_true)]
    rfl
  · rw [if_neg c, if_pos (by rw [decide_eq_false c]; rfl)]
    rfl
theorem grCells_len {s : Int} {A : Axes} {W : Wt} {ps : List Pl} : (grCells s A W ps).length ≤ ps.length := by
  unfold grCells
  rw [List.length_map]
  exact List.length_filter_le _ _
/-- a cell with its weight -/
def CtV (CC CS : Addr) (H : Hp) (v : V) (z : Cl × Int) : Prop := ∃ t p, v = .ref t ∧ H t = some (.tup [.ref p, .int z.2]) ∧ CellAt CC CS H p z.1
theorem CtV.same {CC CS : Addr} {H H' : Hp} {v : V} {z : Cl × Int} (h : CtV CC CS H v z) (s : Same H H') : CtV CC CS H' v z := by
  obtain ⟨t, p, e, h1, h2⟩ := h
  exact ⟨t, p, e, s _ _ h1, h2.same s⟩
def spSgn (C : Addr) : Sp := fun vs H Q _ => ∃ (l s : Int) (h : En), vs = [.int l, endV h, .int s] ∧ UpE l h ∧ ∀ x H', H x = none → StrAt C H' x (sgS s l h).1 (sgS s l h).2 → Same H H' → Q (.ref x) H'
def spOwnC (CC CS : Addr) : Sp := fun vs H Q _ => vs = [] ∧ ∀ x H', H x = none → CellAt CC CS H' x ownC → Same H H' → Q (.ref x) H'
def spPeerC (CC CS : Addr) : Sp := fun vs H Q _ => ∃ (l s : Int) (h : En), vs = [.int l, endV h, .int s] ∧ UpE l h ∧ ∀ x H', H x = none → CellAt CC CS H' x (peerC s l h) → Same H H' → Q (.ref x) H'
def PeV (H : Hp) (u : Addr) (a : Int × En) : Prop := H u = some (.tup [.int a.1, endV a.2])
def spFarC (CC CS : Addr) : Sp := fun vs H Q _ => ∃ (q u v w : Addr) (a b c : Int × En) (s : Int), vs = [.ref q, .int s] ∧ H q = some (.lst [.ref u, .ref v, .ref w]) ∧ PeV H u a ∧ PeV H v b ∧ PeV H w c ∧ UpE a.1 a.2 ∧ UpE b.1 b.2 ∧ UpE c.1 c.2 ∧
  ∀ x H', H x = none → CellAt CC CS H' x (farC s a b c) → Same H H' → Q (.ref x) H'
def spLnC (CC CS CW : Addr) : Sp := fun vs H Q _ => ∃ (p : Addr) (s : Int) (N : Addr → Prop) (f : Int → Int) (h : Num → Int) (e : Ex), vs = [.ref p, .int s] ∧ SdAt CW N H p f h e ∧ e.le 18 ∧
  ∀ D as l H', H D = none → LnIs l f e.l → H' D = some (.lst as) → All2 (CtV CC CS H') as (lnCells s l l.length) → Same H H' → Q (.ref D) H'
def spGrC (CC CS CW : Addr) : Sp := fun vs H Q _ => ∃ (p : Addr) (s : Int) (N : Addr → Prop) (f : Int → Int) (h : Num → Int) (e : Ex), vs = [.ref p, .int s] ∧ SdAt CW N H p f h e ∧ e.le 18 ∧
  ∀ D as A W H', H D = none → GrIs A W h e.r e.g e.d → H' D = some (.lst as) → All2 (CtV CC CS H') as (grCells s A W (pls A)) → Same H H' → Q (.ref D) H'
/-- the canonical cells of a weight function, by its lines and grids -/
def CanC (w : Wgt) (e : Ex) (zs : List (Cl × Int)) : Prop := ∃ lb Ab Wb la Aa Wa, LnIs lb w.b.f e.l ∧ GrIs Ab Wb w.b.h e.r e.g e.d ∧ LnIs la w.a.f e.l ∧ GrIs Aa Wa w.a.h e.r e.g e.d ∧
  zs = grCells (0 - 1) Ab Wb (pls Ab) ++ lnCells (0 - 1) lb lb.length ++ (if w.s = 0 then [] else [(ownC, w.s)]) ++ lnCells 1 la la.length ++ grCells 1 Aa Wa (pls Aa)
def spWgC (CC CS CW CD : Addr) : Sp := fun vs H Q _ => ∃ (p : Addr) (N : Addr → Prop) (w : Wgt) (e : Ex), vs = [.ref p] ∧ WgAt CW CD N H p w e ∧ e.le 18 ∧
  ∀ D as zs H', H D = none → CanC w e zs → H' D = some (.lst as) → All2 (CtV CC CS H') as zs → Same H H' → Q (.ref D) H'
def spRgC (CC CS CR CW CD : Addr) : Sp := fun vs H Q _ => ∃ (p : Addr) (N : Addr → Prop) (w : Wgt) (e : Ex), vs = [.ref p] ∧ RgAt CR CW CD N H p w e ∧ e.le 18 ∧
  ∀ D as zs H', H D = none → CanC w e zs → H' D = some (.lst as) → All2 (fun v (z : Cl × Int) => ∃ a, v = .ref a ∧ CellAt CC CS H' a z.1) as zs → Same H H' → Q (.ref D) H'
theorem CanC.len {w : Wgt} {e : Ex} {zs : List (Cl × Int)} (h : CanC w e zs) (he : e.le 18) : zs.length ≤ 16100 := by
  obtain ⟨lb, Ab, Wb, la, Aa, Wa, h1, h2, h3, h4, rfl⟩ := h
  have p1 := pls_len (A := Ab) ⟨by have := h2.lr; have := he.r; omega, by have := h2.lg; have := he.g; omega, by have := h2.ld; have := he.d; omega⟩
  have p2 := pls_len (A := Aa) ⟨by have := h4.lr; have := he.r; omega, by have := h4.lg; have := he.g; omega, by have := h4.ld; have := he.d; omega⟩
  have a1 := grCells_len (s := 0 - 1) (A := Ab) (W := Wb) (ps := pls Ab)
  have a2 := lnCells_len (s := 0 - 1) (l := lb) (n := lb.length)
  have a3 := lnCells_len (s := 1) (l := la) (n := la.length)
  have a4 := grCells_len (s := 1) (A := Aa) (W := Wa) (ps := pls Aa)
  have b1 := h1.len
  have b2 := h3.len
  have b3 := he.l
  have c : (if w.s = 0 then ([] : List (Cl × Int)) else [(ownC, w.s)]).length ≤ 1 := by split <;> simp
  simp only [List.length_append]
  omega
/-- the first of a pair on the heap -/
def fstH (H : Hp) (v : V) : V := match v with
  | .ref t => (match H t with
    | some (.tup (x :: _)) => x
    | _ => .non)
  | _ => .non
theorem fstH_of {H : Hp} {t : Addr} {x y : V} (h : H t = some (.tup [x, y])) : fstH H (.ref t) = x := by
  show (match H t with
    | some (.tup (x :: _)) => x
    | _ => .non) = x
  rw [h]
theorem r_glst {K : PySem.W.Frag} {σ : L2.St} {H : Hp} {n : Nat} {tg : TGs} {a : Addr} {xs : List V} {QS : L2.St → Hp → Prop} (h1 : SqL K H a xs) (h2 : xs.length = n) (h : tg xs σ H QS) : gLst K n tg (.ref a) σ H QS := ⟨a, xs, rfl, h1, h2, h⟩
section
variable {P : Program} {w : World} {K : PySem.W.Frag} {mg : Str → Option Value} {base : Heap}
theorem ok_Stretch___init__ (T : Txt K mg) : FnOk P w K mg base (L2.CX P w) 4 T.f_Stretch___init__ T.d_Stretch___init__ ["self", "low", "high"] (spSInit T.C_Stretch T.C_TurnedStretch) := by
  refine T.F_Stretch___init__.okX sc_Stretch___init__ (fun vs H Q E h => ?_) (fun cdv A outer s H vs Q E hr h => ?_)
  · obtain ⟨p, dx, lo, hi, rfl, _⟩ := h
    rfl
  obtain ⟨p, dx, lo, hi, rfl, hp, qE, q⟩ := h
  refine ⟨_, (pss_cons (ps_if (PW.pt (pw_and (pt_cmpR o_notN (pv 1) pe_non (nomark _)) (pw_and (pt_cmpR o_notN (pv 2) pe_non (nomark _)) (pw_and1 (pt_cmpR op_gt (pv 1) (pv 2) (nomark _)))))) (pss_one (ps_raise rfl (takes_of rfl rfl rfl rfl) (pmk_oex T.ox_TurnedStretch T.iC_TurnedStretch T.tI_TurnedStretch (ok_TurnedStretch___init__ T) (hr.mono (by decide)) T.b_TurnedStretch___init__ .nil pass0 (by rfl) T.g_TurnedStretch (pa_cons (pv 1) (pa_cons (pv 2) pa_nil))))) pss_nil)
      (pss_cons (ps_fld (pv 0) (pv 1) rfl)
      (pss_one (ps_fld (pv 0) (pv 2) rfl)))), ?_⟩
  try simp only [nox_K, cx_K]
  cases lo with
  | none =>
    cases hi with
    | none =>
      simp only [endV]
      wtm_at "rdi"
      refine r_put hp T.c_Stretch T.nf_Stretch_low (by decide) ?_
      wtm_at "rd"
      refine r_put upd_same T.c_Stretch T.nf_Stretch_high (Nat.lt_of_le_of_lt (putF_len _ _ _) (by decide)) ?_
      wtm_at "rd"
      refine q rfl _ ⟨dx, upd_same⟩ fun b o e nb => ?_
      rw [upd_ne nb, upd_ne nb]
      exact e
    | some b =>
      simp only [endV]
      wtm_at "rdi"
      refine r_put hp T.c_Stretch T.nf_Stretch_low (by decide) ?_
      wtm_at "rd"
      refine r_put upd_same T.c_Stretch T.nf_Stretch_high (Nat.lt_of_le_of_lt (putF_len _ _ _) (by decide)) ?_
      wtm_at "rd"
      refine q rfl _ ⟨dx, upd_same⟩ fun b o e nb => ?_
      rw [upd_ne nb, upd_ne nb]
      exact e
  | some a =>
    cases hi with
    | none =>
      simp only [endV]
      wtm_at "rdi"
      refine r_put hp T.c_Stretch T.nf_Stretch_low (by decide) ?_
      wtm_at "rd"
      refine r_put upd_same T.c_Stretch T.nf_Stretch_high (Nat.lt_of_le_of_lt (putF_len _ _ _) (by decide)) ?_
      wtm_at "rd"
      refine q rfl _ ⟨dx, upd_same⟩ fun b o e nb => ?_
      rw [upd_ne nb, upd_ne nb]
      exact e
    | some b =>
      simp only [endV]
      wtm_at "rdi"
      · refine ⟨.int a, rfl, .int b, rfl, Nat.le_of_ble_eq_true rfl, raise_turned (lo := some a) (hi := some b) fun d H' nd hd s => ?_⟩
        exact qE (decide_eq_true (by assumption)) d H' nd hd s
      · skip
        refine r_put hp T.c_Stretch T.nf_Stretch_low (by decide) ?_
        wtm_at "rd"
        refine r_put upd_same T.c_Stretch T.nf_Stretch_high (Nat.lt_of_le_of_lt (putF_len _ _ _) (by decide)) ?_
        wtm_at "rd"
        refine q (decide_eq_false (by assumption)) _ ⟨dx, upd_same⟩ fun b o e nb => ?_
        rw [upd_ne nb, upd_ne nb]
        exact e
theorem ok_Cell___init__ (T : Txt K mg) : FnOk P w K mg base CX0 1 T.f_Cell___init__ T.d_Cell___init__ ["self", "zone", "rows", "groups", "distance"] (spCInit T.C_Cell T.C_Stretch) := by
  refine T.F_Cell___init__.ok sc_Cell___init__ (fun vs H Q E h => ?_) (fun cdv A outer s H vs Q E hr h => ?_)
  · obtain ⟨p, dx, pr, pg, pd, z, rfl, _⟩ := h
    rfl
  obtain ⟨p, dx, pr, pg, pd, z, rfl, hp, q⟩ := h
  refine ⟨_, (pss_cons (ps_fld (pv 0) (pv 1) rfl)
      (pss_cons (ps_fld (pv 0) (pv 2) rfl)
      (pss_cons (ps_fld (pv 0) (pv 3) rfl)
      (pss_one (ps_fld (pv 0) (pv 4) rfl))))), ?_⟩
  try simp only [nox_K, cx_K]
  wtm_at "rd"
  refine r_put hp T.c_Cell T.nf_Cell_zone (by decide) ?_
  wtm_at "rd"
  refine r_put upd_same T.c_Cell T.nf_Cell_rows (Nat.lt_of_le_of_lt (putF_len _ _ _) (by decide)) ?_
  wtm_at "rd"
  refine r_put upd_same T.c_Cell T.nf_Cell_groups (Nat.lt_of_le_of_lt (putF_len _ _ _) (Nat.lt_of_le_of_lt (Nat.succ_le_succ (putF_len _ _ _)) (by decide))) ?_
  wtm_at "rd"
  refine r_put upd_same T.c_Cell T.nf_Cell_distance (Nat.lt_of_le_of_lt (putF_len _ _ _) (Nat.lt_of_le_of_lt (Nat.succ_le_succ (putF_len _ _ _)) (Nat.lt_of_le_of_lt (Nat.succ_le_succ (Nat.succ_le_succ (putF_len _ _ _))) (by decide)))) ?_
  wtm_at "rd"
  refine q _ upd_same fun b o e nb => ?_
  rw [upd_ne nb, upd_ne nb, upd_ne nb, upd_ne nb]
  exact e
theorem ok_signed_stretch (T : Txt K mg) : FnOk P w K mg base CX0 6 T.f_signed_stretch T.d_signed_stretch ["low", "high", "sign"] (spSgn T.C_Stretch) := by
  refine T.F_signed_stretch.ok sc_signed_stretch (fun vs H Q E h => ?_) (fun cdv A outer s H vs Q E hr h => ?_)
  · obtain ⟨l, s0, h, rfl, _⟩ := h
    rfl
  obtain ⟨l, s0, h, rfl, u, q⟩ := h
  refine ⟨_, (pss_cons (ps_if (pt_cmpR op_gt (pv 2) pe_int (nomark _)) (pss_one (ps_ret (pe_make T.m_Stretch (ok_Stretch___init__ T) (hr.mono (by decide)) (by rfl) T.g_Stretch T.b_Stretch___init__ .nil passL (pa_cons (pv 0) (pa_cons (pv 1) pa_nil))))) pss_nil)
      (pss_cons (ps_if (pt_cmpR o_isN (pv 1) pe_non (nomark _)) (pss_one (ps_ret (pe_make T.m_Stretch (ok_Stretch___init__ T) (hr.mono (by decide)) (by rfl) T.g_Stretch T.b_Stretch___init__ .nil passL (pa_cons pe_non (pa_cons (pe_op op_sub pe_int (pv 0)) pa_nil))))) pss_nil)
      (pss_one (ps_ret (pe_make T.m_Stretch (ok_Stretch___init__ T) (hr.mono (by decide)) (by rfl) T.g_Stretch T.b_Stretch___init__ .nil passL (pa_cons (pe_op op_sub pe_int (pv 1)) (pa_cons (pe_op op_sub pe_int (pv 0)) pa_nil))))))), ?_⟩
  try simp only [nox_K, cx_K]
  have ok := sg_ok (s := s0) u
  cases h with
  | none =>
    unfold sgS at q ok
    dsimp only [endV]
    wtm_at "rd"
    refine r_ite (fun c => ?_) (fun c => ?_)
    · rw [if_pos c] at q ok
      wtm_at "rd"
      refine make_str (lo := some l) (hi := none) ok fun x H' n s h => ?_
      wtm_at "rd"
      exact q x H' n h s
    · rw [if_neg c] at q ok
      wtm_at "rdi"
      refine make_str (lo := none) (hi := some (0 - l)) ok fun x H' n s h => ?_
      wtm_at "rd"
      exact q x H' n h s
  | some b =>
    unfold sgS at q ok
    dsimp only [endV]
    wtm_at "rd"
    refine r_ite (fun c => ?_) (fun c => ?_)
    · rw [if_pos c] at q ok
      wtm_at "rd"
      refine make_str (lo := some l) (hi := some b) ok fun x H' n s h => ?_
      wtm_at "rd"
      exact q x H' n h s
    · rw [if_neg c] at q ok
      wtm_at "rdi"
      refine make_str (lo := some (0 - b)) (hi := some (0 - l)) ok fun x H' n s h => ?_
      wtm_at "rd"
      exact q x H' n h s
theorem ok_own_cell (T : Txt K mg) : FnOk P w K mg base CX0 6 T.f_own_cell T.d_own_cell [] (spOwnC T.C_Cell T.C_Stretch) := by
  refine T.F_own_cell.ok sc_own_cell (fun vs H Q E h => ?_) (fun cdv A outer s H vs Q E hr h => ?_)
  · obtain ⟨rfl, _⟩ := h
    rfl
  obtain ⟨rfl, q⟩ := h
  refine ⟨_, (pss_one (ps_ret (pe_make T.m_Cell (ok_Cell___init__ T) (hr.mono (by decide)) (by rfl) T.g_Cell T.b_Cell___init__ .nil pass0 (pa_cons pe_str (pa_cons (pe_make T.m_Stretch (ok_Stretch___init__ T) (hr.mono (by decide)) (by rfl) T.g_Stretch T.b_Stretch___init__ .nil passL (pa_cons pe_int (pa_cons pe_int pa_nil))) (pa_cons (pe_make T.m_Stretch (ok_Stretch___init__ T) (hr.mono (by decide)) (by rfl) T.g_Stretch T.b_Stretch___init__ .nil passL (pa_cons pe_int (pa_cons pe_int pa_nil))) (pa_cons (pe_make T.m_Stretch (ok_Stretch___init__ T) (hr.mono (by decide)) (by rfl) T.g_Stretch T.b_Stretch___init__ .nil passL (pa_cons pe_int (pa_cons pe_int pa_nil))) pa_nil))))))), ?_⟩
  try simp only [nox_K, cx_K]
  wtm_at "rd"
  refine make_str (lo := some 0) (hi := some 0) rfl fun x1 H1 n1 s1 h1 => ?_
  wtm_at "rd"
  refine make_str (lo := some 0) (hi := some 0) rfl fun x2 H2 n2 s2 h2 => ?_
  wtm_at "rd"
  refine make_str (lo := some 0) (hi := some 0) rfl fun x3 H3 n3 s3 h3 => ?_
  wtm_at "rd"
  refine make_cell (l := ownC) (h1.same (s2.trans s3)) (h2.same s3) h3 fun x H4 n4 s4 h4 => ?_
  wtm_at "rd"
  have s := (s1.trans s2).trans s3
  exact q x H4 (s.free n4) h4 (s.trans s4)
theorem ok_peer_cell (T : Txt K mg) : FnOk P w K mg base CX0 8 T.f_peer_cell T.d_peer_cell ["low", "high", "sign"] (spPeerC T.C_Cell T.C_Stretch) := by
  refine T.F_peer_cell.ok sc_peer_cell (fun vs H Q E h => ?_) (fun cdv A outer s H vs Q E hr h => ?_)
  · obtain ⟨l, s0, h, rfl, _⟩ := h
    rfl
  obtain ⟨l, s0, h, rfl, u, q⟩ := h
  refine ⟨_, (pss_cons (ps_set (i := 3) sc_peer_cell.nd rfl (by first | exact Or.inl rfl | exact Or.inr rfl) pe_str)
      (pss_cons (ps_if (pt_cmpR op_gt (pv 2) pe_int (nomark _)) (pss_one (ps_set (i := 3) sc_peer_cell.nd rfl (by first | exact Or.inl rfl | exact Or.inr rfl) pe_str)) pss_nil)
      (pss_one (ps_ret (pe_make T.m_Cell (ok_Cell___init__ T) (hr.mono (by decide)) (by rfl) T.g_Cell T.b_Cell___init__ .nil pass0 (pa_cons (pv 3) (pa_cons (pe_call (ok_signed_stretch T) (hr.mono (by decide)) (by rfl) T.g_signed_stretch T.F_signed_stretch.kp T.b_signed_stretch .nil pass0 (pa_cons (pv 0) (pa_cons (pv 1) (pa_cons (pv 2) pa_nil)))) (pa_cons (pe_make T.m_Stretch (ok_Stretch___init__ T) (hr.mono (by decide)) (by rfl) T.g_Stretch T.b_Stretch___init__ .nil passL (pa_cons pe_int (pa_cons pe_int pa_nil))) (pa_cons (pe_make T.m_Stretch (ok_Stretch___init__ T) (hr.mono (by decide)) (by rfl) T.g_Stretch T.b_Stretch___init__ .nil passL (pa_cons pe_int (pa_cons pe_int pa_nil))) pa_nil))))))))), ?_⟩
  try simp only [nox_K, cx_K]
  wtm_at "rd"
  refine r_ite (fun c => ?_) (fun c => ?_)
  all_goals
    have e : peerC s0 l h = ⟨if 0 < s0 then "after" else "before", sgS s0 l h, (some 0, some 0), (some 0, some 0)⟩ := rfl
    first | rw [if_pos c] at e | rw [if_neg c] at e
    rw [e] at q
    wtm_at "rd"
    refine ⟨l, s0, h, rfl, u, fun x1 H1 n1 h1 s1 => ?_⟩
    wtm_at "rd"
    refine make_str (lo := some 0) (hi := some 0) rfl fun x2 H2 n2 s2 h2 => ?_
    wtm_at "rd"
    refine make_str (lo := some 0) (hi := some 0) rfl fun x3 H3 n3 s3 h3 => ?_
    wtm_at "rd"
    refine make_cell (l := ⟨_, sgS s0 l h, (some 0, some 0), (some 0, some 0)⟩) (h1.same (s2.trans s3)) (h2.same s3) h3 fun x H4 n4 s4 h4 => ?_
    wtm_at "rd"
    have s := (s1.trans s2).trans s3
    exact q x H4 (s.free n4) h4 (s.trans s4)
theorem ok_far_cell (T : Txt K mg) : FnOk P w K mg base CX0 8 T.f_far_cell T.d_far_cell ["ends", "sign"] (spFarC T.C_Cell T.C_Stretch) := by
  refine T.F_far_cell.ok sc_far_cell (fun vs H Q E h => ?_) (fun cdv A outer s H vs Q E hr h => ?_)
  · obtain ⟨q0, u, v, w, a, b, c, s0, rfl, _⟩ := h
    rfl
  obtain ⟨q0, u, v, w, a, b, c, s0, rfl, hq, h1, h2, h3, u1, u2, u3, q⟩ := h
  refine ⟨_, (pss_cons (ps_set (i := 2) sc_far_cell.nd rfl (by first | exact Or.inl rfl | exact Or.inr rfl) pe_str)
      (pss_cons (ps_if (pt_cmpR op_gt (pv 1) pe_int (nomark _)) (pss_one (ps_set (i := 2) sc_far_cell.nd rfl (by first | exact Or.inl rfl | exact Or.inr rfl) pe_str)) pss_nil)
      (pss_cons (ps_asg (pv 0) (pg_lst (by rfl) (pgs_cons (pg_name (i := 3) sc_far_cell.nd rfl (by first | exact Or.inl rfl | exact Or.inr rfl)) (pgs_cons (pg_name (i := 4) sc_far_cell.nd rfl (by first | exact Or.inl rfl | exact Or.inr rfl)) (pgs_cons (pg_name (i := 5) sc_far_cell.nd rfl (by first | exact Or.inl rfl | exact Or.inr rfl)) pgs_nil)))))
      (pss_one (ps_ret (pe_make T.m_Cell (ok_Cell___init__ T) (hr.mono (by decide)) (by rfl) T.g_Cell T.b_Cell___init__ .nil pass0 (pa_cons (pv 2) (pa_cons (pe_call (ok_signed_stretch T) (hr.mono (by decide)) (by rfl) T.g_signed_stretch T.F_signed_stretch.kp T.b_signed_stretch .nil pass0 (pa_cons (pe_ix (r := rIxT K) ix_tup (pv 3) pe_int (fun _ _ => rfl)) (pa_cons (pe_ix (r := rIxT K) ix_tup (pv 3) pe_int (fun _ _ => rfl)) (pa_cons (pv 1) pa_nil)))) (pa_cons (pe_call (ok_signed_stretch T) (hr.mono (by decide)) (by rfl) T.g_signed_stretch T.F_signed_stretch.kp T.b_signed_stretch .nil pass0 (pa_cons (pe_ix (r := rIxT K) ix_tup (pv 4) pe_int (fun _ _ => rfl)) (pa_cons (pe_ix (r := rIxT K) ix_tup (pv 4) pe_int (fun _ _ => rfl)) (pa_cons (pv 1) pa_nil)))) (pa_cons (pe_call (ok_signed_stretch T) (hr.mono (by decide)) (by rfl) T.g_signed_stretch T.F_signed_stretch.kp T.b_signed_stretch .nil pass0 (pa_cons (pe_ix (r := rIxT K) ix_tup (pv 5) pe_int (fun _ _ => rfl)) (pa_cons (pe_ix (r := rIxT K) ix_tup (pv 5) pe_int (fun _ _ => rfl)) (pa_cons (pv 1) pa_nil)))) pa_nil)))))))))), ?_⟩
  try simp only [nox_K, cx_K]
  have h1 : H u = some (.tup [.int a.1, endV a.2]) := h1
  have h2 : H v = some (.tup [.int b.1, endV b.2]) := h2
  have h3 : H w = some (.tup [.int c.1, endV c.2]) := h3
  wtm_at "rd"
  refine r_ite (fun d => ?_) (fun d => ?_)
  all_goals
    have e : farC s0 a b c = ⟨if 0 < s0 then "future" else "past", sgS s0 a.1 a.2, sgS s0 b.1 b.2, sgS s0 c.1 c.2⟩ := rfl
    first | rw [if_pos d] at e | rw [if_neg d] at e
    rw [e] at q
    wtm_at "rd"
    refine r_glst (SqL.of hq) rfl ?_
    wtm_at "rd"
    try refine r_ixT (SqT.of h1) rfl ?_
    wtm_at "rd"
    try refine r_ixT (SqT.of h1) rfl ?_
    wtm_at "rd"
    refine ⟨a.1, s0, a.2, rfl, u1, fun x1 H1 n1 k1 s1 => ?_⟩
    have h2 := s1 _ _ h2
    wtm_at "rd"
    try refine r_ixT (SqT.of h2) rfl ?_
    wtm_at "rd"
    try refine r_ixT (SqT.of h2) rfl ?_
    wtm_at "rd"
    refine ⟨b.1, s0, b.2, rfl, u2, fun x2 H2 n2 k2 s2 => ?_⟩
    have h3 := s2 _ _ (s1 _ _ h3)
    wtm_at "rd"
    try refine r_ixT (SqT.of h3) rfl ?_
    wtm_at "rd"
    try refine r_ixT (SqT.of h3) rfl ?_
    wtm_at "rd"
    refine ⟨c.1, s0, c.2, rfl, u3, fun x3 H3 n3 k3 s3 => ?_⟩
    wtm_at "rd"
    refine make_cell (l := ⟨_, sgS s0 a.1 a.2, sgS s0 b.1 b.2, sgS s0 c.1 c.2⟩) (k1.same (s2.trans s3)) (k2.same s3) k3 fun x H4 n4 s4 h4 => ?_
    wtm_at "rd"
    have s := (s1.trans s2).trans s3
    exact q x H4 (s.free n4) h4 (s.trans s4)
theorem ok_line_cells (T : Txt K mg) : FnOk P w K mg base CX0 10 T.f_line_cells T.d_line_cells ["side", "sign"] (spLnC T.C_Cell T.C_Stretch T.C_Side) := by
  refine T.F_line_cells.ok sc_line_cells (fun vs H Q E h => ?_) (fun cdv A outer s H vs Q E hr h => ?_)
  · obtain ⟨p, s0, N, f, h, e, rfl, _⟩ := h
    rfl
  obtain ⟨p, s0, N, f, h, e, rfl, o, he, q⟩ := h
  refine ⟨_, (pss_cons (ps_setLc (i := 2) (own := [("start", 5), ("weight", 6)]) (g := gTup K 2 (gCons (gName 5) (gCons (gName 6) gNil))) (tt := tYes) rfl sc_line_cells.nd rfl rfl (sw_true rfl rfl rfl (by decide +kernel)) (pi_list (pe_fldK (K := K) (pv 0))) (blkOk_by (N := ["side", "sign", "starts", "found", "index", "start", "weight"]) (sc := defScope s_line_cells) (by decide +kernel)) (fun _ _ _ _ _ => pg_tup (by rfl) (pgs_cons (pg_name (i := 5) sc_line_cells.nd rfl (by first | exact Or.inl rfl | exact Or.inr rfl)) (pgs_cons (pg_name (i := 6) sc_line_cells.nd rfl (by first | exact Or.inl rfl | exact Or.inr rfl)) pgs_nil))) (fun _ _ _ _ _ => pts_nil) (fun _ _ _ _ _ => (pv 5)))
      (pss_cons (ps_set (i := 3) sc_line_cells.nd rfl (by first | exact Or.inl rfl | exact Or.inr rfl) (pe_lst pa_nil))
      (pss_cons (ps_for PassesOwn.never rfl (pi_enum (by rfl) T.z_enumerate (pa_cons (pe_fldK (K := K) (pv 0)) pa_nil)) (pg_tup (by rfl) (pgs_cons (pg_name (i := 4) sc_line_cells.nd rfl (by first | exact Or.inl rfl | exact Or.inr rfl)) (pgs_cons (pg_tup (by rfl) (pgs_cons (pg_name (i := 5) sc_line_cells.nd rfl (by first | exact Or.inl rfl | exact Or.inr rfl)) (pgs_cons (pg_name (i := 6) sc_line_cells.nd rfl (by first | exact Or.inl rfl | exact Or.inr rfl)) pgs_nil))) pgs_nil))) (pss_one (ps_if (pt_cmpR op_ne (pv 6) pe_int (nomark _)) (pss_one (ps_expr (pe_bm PySem.F.plainAttrs_list PySem.F.slot_list_append PySem.F.type_list_append mt_append (pv 3) (pa_cons (pe_tup (pa_cons (pe_call (ok_peer_cell T) (hr.mono (by decide)) (by rfl) T.g_peer_cell T.F_peer_cell.kp T.b_peer_cell .nil pass0 (pa_cons (pv 5) (pa_cons (pe_call (ok_end_of T) (hr.mono (by decide)) (by rfl) T.g_end_of T.F_end_of.kp T.b_end_of .nil pass0 (pa_cons (pv 2) (pa_cons (pv 4) pa_nil))) (pa_cons (pv 1) pa_nil)))) (pa_cons (pv 6) pa_nil))) pa_nil)))) pss_nil)))
      (pss_one (ps_ret (pv 3)))))), ?_⟩
  try simp only [nox_K, cx_K]
  obtain ⟨dx, pl, pg, l, A, W, h1, h2, h3, h4, h5⟩ := o
  obtain ⟨us, l1, l2⟩ := h3
  have ll := h5.ln.len
  have hel := he.l
  have ul := l2.len
  wtm_at "rd"
  refine r_get h1 T.c_Side T.nf_Side_line (side_line _ _) ?_
  wtm_at "rd"
  refine r_itl (SqL.of l1) ?_
  refine lc_prF (fun _ => true) (fun p => .int p.1) l1 l2 (by omega) (by exact fun _ _ => rfl) (fun p H' QT hQ => hQ) (fun p H' QQ hQ => ?_) fun S n_S => ?_
  · wtm_at "rd"
    exact hQ
  have sS := same_new (o := .lst (((l.filter fun _ => true).map fun p => V.int p.1))) n_S
  have eS : ((l.filter fun _ => true).map fun p => V.int p.1) = (fst l).map V.int := by
    rw [List.filter_eq_self.mpr fun _ _ => rfl]
    show _ = (l.map _).map V.int
    rw [List.map_map]
    rfl
  have h_S : (upd H S (.lst ((l.filter fun _ => true).map fun p => V.int p.1))) S = some (.lst ((fst l).map V.int)) := by rw [upd_same, eS]
  generalize upd H S (.lst ((l.filter fun _ => true).map fun p => V.int p.1)) = H1 at sS h_S ⊢
  wtm_at "rd"
  refine r_new rfl fun F n_F => ?_
  have sF := sS.trans (same_new (o := .lst []) n_F)
  have h_S0 := h_S
  have h_S := same_new (o := .lst []) n_F _ _ h_S
  have SF : S ≠ F := ne_of_none h_S0 n_F
  have h_F : (upd H1 F (.lst [])) F = some (.lst []) := upd_same
  have n_F := sS.free n_F
  generalize upd H1 F (.lst []) = H2 at sF h_S h_F ⊢
  have plF : pl ≠ F := ne_of_none l1 n_F
  wtm_at "rd"
  refine r_for (r_enum ?_)
  wtm_at "rd"
  refine r_get (sF _ _ h1) T.c_Side T.nf_Side_line (side_line _ _) ?_
  wtm_at "rd"
  refine ⟨pl, _, rfl, SqL.of (sF _ _ l1), ?_⟩
  refine for_it (walk_enum (K := K) (a := pl) (xs := us.map V.ref)) (fun m σ H' => ∃ (x4 x5 x6 : Option V) (as : List V), σ = [some (.ref p), some (.int s0), some (.ref S), some (.ref F), x4, x5, x6] ∧ H' F = some (.lst as) ∧ All2 (CtV T.C_Cell T.C_Stretch H') as (lnCells s0 l m) ∧ (∀ b o, H2 b = some o → b ≠ F → H' b = some o)) ⟨_, _, _, [], rfl, h_F, All2.nil, fun b o e _ => e⟩ (fun i σ H' _ ⟨_, _, _, _, _, _, _, k⟩ => SqL.of (k _ _ (sF _ _ l1) plF)) ?_ ?_
  · rintro j v σ H3 H4 hi ⟨x4, x5, x6, as, rfl, gf, gu, k3⟩ ⟨T0, y, z, rfl, nT, rfl, hy, hz⟩
    cases hy
    dsimp only at hz
    rw [List.getElem?_map] at hz
    obtain ⟨u, hu, rfl⟩ := Option.map_eq_some_iff.mp hz
    obtain ⟨pr, hpr, pp⟩ := l2.get hu
    have hj := (List.getElem?_eq_some_iff.mp hpr).1
    have gd : l.getD j (0, 0) = pr := by rw [List.getD_eq_getElem?_getD, hpr]; rfl
    have sT := same_new (o := .tup [.int (j : Nat), .ref u]) nT
    have gf := sT _ _ gf
    have gu : All2 (CtV T.C_Cell T.C_Stretch (upd H3 T0 (.tup [.int (j : Nat), .ref u]))) as (lnCells s0 l j) := gu.imp fun _ _ h => h.same sT
    have k3 : ∀ b o, H2 b = some o → b ≠ F → (upd H3 T0 (.tup [.int (j : Nat), .ref u])) b = some o := fun b o e n => sT _ _ (k3 b o e n)
    refine r_gtup (SqT.of upd_same) rfl ?_
    generalize upd H3 T0 (.tup [.int (j : Nat), .ref u]) = H5 at gf gu k3 ⊢
    have pp : H u = some (.tup [.int pr.1, .int pr.2]) := pp
    have pp := k3 _ _ (sF _ _ pp) (ne_of_none pp n_F)
    have hS := k3 _ _ h_S SF
    have al := gu.len
    have al2 := lnCells_len (s := s0) (l := l) (n := j)
    wtm_at "rd"
    refine r_gtup (SqT.of pp) rfl ?_
    wtm_at "rd"
    have es := lnCells_succ (s := s0) (l := l) (n := j)
    rw [gd] at es
    refine r_iten (fun c => ?_) (fun c => ?_)
    · rw [if_neg c] at es
      wtm_at "rd"
      refine r_tyL (SqL.of gf) ?_
      wtm_at "rd"
      refine ⟨S, j, fst l, rfl, hS, by show j < (l.map _).length; rw [List.length_map]; exact hj, ?_⟩
      wtm_at "rd"
      have hu2 : UpE pr.1 (endOf (fst l) j) := by
        have z := end_up (ax := fst l) h5.ln.ok (j := j) (by show j < (l.map _).length; rw [List.length_map]; exact hj)
        have e1 : (fst l).getD j 0 = pr.1 := by
          unfold fst
          rw [List.getD_eq_getElem?_getD, List.getElem?_map, hpr]
          rfl
        rw [e1] at z
        exact z
      refine ⟨pr.1, s0, endOf (fst l) j, rfl, hu2, fun x H6 nx hx s6 => ?_⟩
      have gf := s6 _ _ gf
      wtm_at "rd"
      refine r_new rfl fun tp n_tp => ?_
      have s7 := same_new (o := .tup [.ref x, .int pr.2]) n_tp
      have gf := s7 _ _ gf
      have s67 := s6.trans s7
      have h_tp : (upd H6 tp (.tup [.ref x, .int pr.2])) tp = some (.tup [.ref x, .int pr.2]) := upd_same
      have hx := hx.same s7
      generalize upd H6 tp (.tup [.ref x, .int pr.2]) = H7 at gf s67 h_tp hx ⊢
      wtm_at "rd"
      refine r_app gf (small1000 (by omega)) ?_
      wtm_at "rd"
      have keep : ∀ {v : V} {z : Cl × Int}, CtV T.C_Cell T.C_Stretch H7 v z → CtV T.C_Cell T.C_Stretch (upd H7 F (.lst (as ++ [.ref tp]))) v z := by
        rintro v z ⟨t, p, e, g1, ⟨dx, pr, pg, pd, g2, ⟨d3, g3⟩, ⟨d4, g4⟩, ⟨d5, g5⟩⟩⟩
        have nf : ∀ {a : Addr} {o : HO}, H7 a = some o → (∀ xs, o ≠ .lst xs) → (upd H7 F (.lst (as ++ [.ref tp]))) a = some o := fun e n => (upd_ne (ne_of e gf (n _))).trans e
        exact ⟨t, p, e, nf g1 (fun _ z => nomatch z), ⟨dx, pr, pg, pd, nf g2 (fun _ z => nomatch z), ⟨d3, nf g3 (fun _ z => nomatch z)⟩, ⟨d4, nf g4 (fun _ z => nomatch z)⟩, ⟨d5, nf g5 (fun _ z => nomatch z)⟩⟩⟩
      refine ⟨_, _, _, as ++ [.ref tp], rfl, upd_same, ?_, fun b o e n => (upd_ne n).trans (s67 _ _ (k3 b o e n))⟩
      rw [es]
      refine All2.snoc (gu.imp fun v z h => keep (h.same s67)) (keep ⟨tp, x, rfl, ?_, ?_⟩)
      · show H7 tp = some (.tup [.ref x, .int (l.getD j (0, 0)).2])
        rw [gd]
        exact h_tp
      · show CellAt _ _ _ _ (peerC s0 (l.getD j (0, 0)).1 (endOf (fst l) j))
        rw [gd]
        exact hx
    · rw [if_pos c, List.append_nil] at es
      wtm_at "rd"
      exact ⟨_, _, _, as, rfl, gf, by rw [es]; exact gu, k3⟩
  · rintro σ H3 ⟨x4, x5, x6, as, rfl, gf, gu, k3⟩
    wtm_at "rd"
    rw [List.length_map, ul] at gu
    exact q F as l H3 n_F h5.ln gf gu fun b o e => k3 _ _ (sF _ _ e) (ne_of_none e n_F)
theorem ok_grid_cells (T : Txt K mg) : FnOk P w K mg base CX0 10 T.f_grid_cells T.d_grid_cells ["side", "sign"] (spGrC T.C_Cell T.C_Stretch T.C_Side) := by
  refine T.F_grid_cells.ok sc_grid_cells (fun vs H Q E h => ?_) (fun cdv A outer s H vs Q E hr h => ?_)
  · obtain ⟨p, s0, N, f, h, e, rfl, _⟩ := h
    rfl
  obtain ⟨p, s0, N, f, h, e, rfl, o, he, q⟩ := h
  refine ⟨_, (pss_cons (ps_asg (pe_fldK (K := K) (pv 0)) (pg_tup (by rfl) (pgs_cons (pg_name (i := 2) sc_grid_cells.nd rfl (by first | exact Or.inl rfl | exact Or.inr rfl)) (pgs_cons (pg_name (i := 3) sc_grid_cells.nd rfl (by first | exact Or.inl rfl | exact Or.inr rfl)) pgs_nil))))
      (pss_cons (ps_set (i := 4) sc_grid_cells.nd rfl (by first | exact Or.inl rfl | exact Or.inr rfl) (pe_lst pa_nil))
      (pss_cons (ps_lock (ps_for PassesOwn.never rfl (pi_itemsT (pv 3)) (pg_tup (by rfl) (pgs_cons (pg_name (i := 5) sc_grid_cells.nd rfl (by first | exact Or.inl rfl | exact Or.inr rfl)) (pgs_cons (pg_name (i := 6) sc_grid_cells.nd rfl (by first | exact Or.inl rfl | exact Or.inr rfl)) pgs_nil))) (pss_one (ps_if (pt_cmpR op_ne (pv 6) pe_int (nomark _)) (pss_cons (ps_setLc (i := 7) (own := [("at", 8)]) (g := gName 8) (tt := tYes) rfl sc_grid_cells.nd rfl rfl (sw_true rfl rfl rfl (by decide +kernel)) (pi_range1 (by rfl) T.z_range (pa_cons pe_int pa_nil)) (blkOk_by (N := ["side", "sign", "axes", "weights", "found", "place", "weight", "ends", "at"]) (sc := defScope s_grid_cells) (by decide +kernel)) (fun _ _ _ _ _ => pg_name (i := 8) sc_grid_cells.nd rfl (by first | exact Or.inl rfl | exact Or.inr rfl)) (fun _ _ _ _ _ => pts_nil) (fun _ _ _ _ _ => (pe_tup (pa_cons (pe_ix (r := rIxL K) ix_list (pe_ix (r := rIxT K) ix_tup (pv 2) (pv 8) (fun _ _ => rfl)) (pe_ix (r := rIxT K) ix_tup (pv 5) (pv 8) (fun _ _ => rfl)) (fun _ _ => rfl)) (pa_cons (pe_call (ok_end_of T) (hr.mono (by decide)) (by rfl) T.g_end_of T.F_end_of.kp T.b_end_of .nil pass0 (pa_cons (pe_ix (r := rIxT K) ix_tup (pv 2) (pv 8) (fun _ _ => rfl)) (pa_cons (pe_ix (r := rIxT K) ix_tup (pv 5) (pv 8) (fun _ _ => rfl)) pa_nil))) pa_nil)))))
      (pss_one (ps_expr (pe_bm PySem.F.plainAttrs_list PySem.F.slot_list_append PySem.F.type_list_append mt_append (pv 4) (pa_cons (pe_tup (pa_cons (pe_call (ok_far_cell T) (hr.mono (by decide)) (by rfl) T.g_far_cell T.F_far_cell.kp T.b_far_cell .nil pass0 (pa_cons (pv 7) (pa_cons (pv 1) pa_nil))) (pa_cons (pv 6) pa_nil))) pa_nil))))) pss_nil))))
      (pss_one (ps_ret (pv 4)))))), ?_⟩
  try simp only [nox_K, cx_K]
  obtain ⟨dx, pl, pg, l, A, W, h1, h2, h3, h4, h5⟩ := o
  obtain ⟨ga, d, g1, o, gd⟩ := h4
  obtain ⟨x, y, z, a1, a2, a3, a4, _⟩ := id o
  have pz := pls_len (A := A) ⟨by have := h5.gr.lr; have := he.r; omega, by have := h5.gr.lg; have := he.g; omega, by have := h5.gr.ld; have := he.d; omega⟩
  wtm_at "rd"
  refine r_get h1 T.c_Side T.nf_Side_grid (side_grid _ _) ?_
  wtm_at "rd"
  refine r_gtup (SqT.of g1) rfl ?_
  wtm_at "rd"
  refine r_new rfl fun F n_F => ?_
  have sF := same_new (o := .lst []) n_F
  have h_F : (upd H F (.lst [])) F = some (.lst []) := upd_same
  generalize upd H F (.lst []) = H1 at sF h_F ⊢
  have gd1 := sF _ _ gd
  have dF : d ≠ F := ne_of_none gd n_F
  wtm_at "rd"
  refine ⟨d, _, gd1, trivial, fun od => ?_⟩
  dsimp only
  refine r_for (r_iit ?_)
  wtm_at "rd"
  refine ⟨d, od, _, rfl, upd_same, ?_⟩
  refine for_it (walk_itemsT (d := d) (o := od) (kvs := wtK A W)) (fun n σ H' => ∃ (x5 x6 x7 : Option V) (as : List V), σ = [some (.ref p), some (.int s0), some (.ref ga), some (.ref d), some (.ref F), x5, x6, x7, none] ∧ H' d = some (.frz od (.dT (wtK A W))) ∧ H' F = some (.lst as) ∧ All2 (CtV T.C_Cell T.C_Stretch H') as (grCells s0 A W ((pls A).take n)) ∧ ∀ b x, H1 b = some x → b ≠ d → b ≠ F → H' b = some x) ⟨_, _, _, [], rfl, upd_same, (upd_ne (Ne.symm dF)).trans h_F, by rw [List.take_zero]; exact All2.nil, fun b x e n _ => (upd_ne n).trans e⟩ (fun n σ H' _ ⟨_, _, _, _, _, z, _⟩ => z) ?_ ?_
  · rintro n v σ H4 H5 hn ⟨x5, x6, x7, as, rfl, g4, f4, gu, k4⟩ ⟨T0, key, val, q0, hk, rfl, nT, hq, rfl⟩
    rw [wtK, List.getElem?_map] at hk
    obtain ⟨pp, hpn, ee⟩ := Option.map_eq_some_iff.mp hk
    cases ee
    have tk : (pls A).take (n + 1) = (pls A).take n ++ [pp] := by rw [List.take_add_one, hpn]; rfl
    have ip := mem_pls.mp (List.mem_of_getElem? hpn)
    obtain ⟨i1, i2, i3, _⟩ := id ip
    have eg : grCells s0 A W ((pls A).take (n + 1)) = grCells s0 A W ((pls A).take n) ++ (if W pp = 0 then [] else [grCell s0 A W pp]) := by rw [tk, grCells_snoc]
    have sT := same_new (o := .tup [.ref q0, .int (W pp)]) nT
    have g4 := sT _ _ g4
    have f4 := sT _ _ f4
    have gu : All2 (CtV T.C_Cell T.C_Stretch (upd H4 T0 (.tup [.ref q0, .int (W pp)]))) as (grCells s0 A W ((pls A).take n)) := gu.imp fun _ _ h => h.same sT
    have hq : (upd H4 T0 (.tup [.ref q0, .int (W pp)])) q0 = some (.tup [.int (pp.1 : Int), .int (pp.2.1 : Int), .int (pp.2.2 : Int)]) := sT _ _ hq
    have k4 : ∀ b x, H1 b = some x → b ≠ d → b ≠ F → (upd H4 T0 (.tup [.ref q0, .int (W pp)])) b = some x := fun b x e n1 n2 => sT _ _ (k4 b x e n1 n2)
    refine r_gtup (SqT.of upd_same) rfl ?_
    generalize upd H4 T0 (.tup [.ref q0, .int (W pp)]) = H6 at g4 f4 gu hq k4 ⊢
    have kk : ∀ {b : Addr} {o : HO}, H b = some o → (∀ k, o ≠ .dT k) → H6 b = some o := fun {b o} e n => k4 _ _ (sF _ _ e) (fun z => by subst z; rw [gd] at e; exact n _ (Option.some.inj e).symm) (ne_of_none e n_F)
    have a1 := kk a1 (fun _ z => nomatch z)
    have a2 := kk a2 (fun _ z => nomatch z)
    have a3 := kk a3 (fun _ z => nomatch z)
    have a4 := kk a4 (fun _ z => nomatch z)
    have al := gu.len
    have al2 := grCells_len (s := s0) (A := A) (W := W) (ps := (pls A).take n)
    rw [List.length_take] at al2
    wtm_at "rd"
    refine r_iten (fun c => ?_) (fun c => ?_)
    · rw [if_neg c] at eg
      wtm_at "rd"
      refine r_upto (by decide) (by decide) ?_
      refine lc_tupsF (fun i => [.int (axEnd (axm i A) (co i pp)).1, endV (axEnd (axm i A) (co i pp)).2]) (fun _ => true) (by decide) (fun i H' QT hi s' hQ => hQ) (fun i H' QQ hi s' hQ => ?_) fun D us H7 nD hD hu s7 => ?_
      · have hi : i < 3 := hi
        rcases (show i = 0 ∨ i = 1 ∨ i = 2 by omega) with e | e | e <;> subst e
        · wtm_at "rd"
          try refine r_ixT (SqT.of (s' _ _ a1)) rfl ?_
          wtm_at "rd"
          try refine r_ixT (SqT.of (s' _ _ hq)) rfl ?_
          wtm_at "rd"
          try refine r_ixL (SqL.of (s' _ _ a2)) (ati_n i1) ?_
          wtm_at "rd"
          try refine r_ixT (SqT.of (s' _ _ a1)) rfl ?_
          wtm_at "rd"
          try refine r_ixT (SqT.of (s' _ _ hq)) rfl ?_
          wtm_at "rd"
          refine ⟨x, pp.1, A.r, rfl, s' _ _ a2, i1, ?_⟩
          wtm_at "rd"
          exact r_new rfl fun u nu => hQ u _ nu upd_same (same_new nu)
        · wtm_at "rd"
          try refine r_ixT (SqT.of (s' _ _ a1)) rfl ?_
          wtm_at "rd"
          try refine r_ixT (SqT.of (s' _ _ hq)) rfl ?_
          wtm_at "rd"
          try refine r_ixL (SqL.of (s' _ _ a3)) (ati_n i2) ?_
          wtm_at "rd"
          try refine r_ixT (SqT.of (s' _ _ a1)) rfl ?_
          wtm_at "rd"
          try refine r_ixT (SqT.of (s' _ _ hq)) rfl ?_
          wtm_at "rd"
          refine ⟨y, pp.2.1, A.g, rfl, s' _ _ a3, i2, ?_⟩
          wtm_at "rd"
          exact r_new rfl fun u nu => hQ u _ nu upd_same (same_new nu)
        · wtm_at "rd"
          try refine r_ixT (SqT.of (s' _ _ a1)) rfl ?_
          wtm_at "rd"
          try refine r_ixT (SqT.of (s' _ _ hq)) rfl ?_
          wtm_at "rd"
          try refine r_ixL (SqL.of (s' _ _ a4)) (ati_n i3) ?_
          wtm_at "rd"
          try refine r_ixT (SqT.of (s' _ _ a1)) rfl ?_
          wtm_at "rd"
          try refine r_ixT (SqT.of (s' _ _ hq)) rfl ?_
          wtm_at "rd"
          refine ⟨z, pp.2.2, A.d, rfl, s' _ _ a4, i3, ?_⟩
          wtm_at "rd"
          exact r_new rfl fun u nu => hQ u _ nu upd_same (same_new nu)
      have ul := hu.len
      obtain ⟨u0, u1, u2, rfl⟩ : ∃ a b c, us = [a, b, c] := by
        match us, ul with
        | [a, b, c], _ => exact ⟨a, b, c, rfl⟩
      have b0 : H7 u0 = _ := hu.at_ 0 _ _ rfl rfl
      have b1 : H7 u1 = _ := hu.at_ 1 _ _ rfl rfl
      have b2 : H7 u2 = _ := hu.at_ 2 _ _ rfl rfl
      have f4 := s7 _ _ f4
      have g4 := s7 _ _ g4
      wtm_at "rd"
      refine r_tyL (SqL.of f4) ?_
      wtm_at "rd"
      refine ⟨D, u0, u1, u2, axEnd A.r pp.1, axEnd A.g pp.2.1, axEnd A.d pp.2.2, s0, rfl, hD, b0, b1, b2, end_up h5.gr.ok.r i1, end_up h5.gr.ok.g i2, end_up h5.gr.ok.d i3, fun x H8 nx hx s8 => ?_⟩
      have f4 := s8 _ _ f4
      have g4 := s8 _ _ g4
      wtm_at "rd"
      refine r_new rfl fun tp n_tp => ?_
      have s9 := same_new (o := .tup [.ref x, .int (W pp)]) n_tp
      have f4 := s9 _ _ f4
      have g4 := s9 _ _ g4
      have s69 := (s7.trans s8).trans s9
      have h_tp : (upd H8 tp (.tup [.ref x, .int (W pp)])) tp = some (.tup [.ref x, .int (W pp)]) := upd_same
      have hx := hx.same s9
      generalize upd H8 tp (.tup [.ref x, .int (W pp)]) = H9 at f4 g4 s69 h_tp hx ⊢
      wtm_at "rd"
      refine r_app f4 (by rw [sizeLine_eq]; omega) ?_
      wtm_at "rd"
      have keep : ∀ {v : V} {z : Cl × Int}, CtV T.C_Cell T.C_Stretch H9 v z → CtV T.C_Cell T.C_Stretch (upd H9 F (.lst (as ++ [.ref tp]))) v z := by
        rintro v z ⟨t, p, e, g1, ⟨dx, pr, pg, pd, g2, ⟨d3, g3⟩, ⟨d4, g4⟩, ⟨d5, g5⟩⟩⟩
        have nf : ∀ {a : Addr} {o : HO}, H9 a = some o → (∀ xs, o ≠ .lst xs) → (upd H9 F (.lst (as ++ [.ref tp]))) a = some o := fun e n => (upd_ne (ne_of e f4 (n _))).trans e
        exact ⟨t, p, e, nf g1 (fun _ z => nomatch z), ⟨dx, pr, pg, pd, nf g2 (fun _ z => nomatch z), ⟨d3, nf g3 (fun _ z => nomatch z)⟩, ⟨d4, nf g4 (fun _ z => nomatch z)⟩, ⟨d5, nf g5 (fun _ z => nomatch z)⟩⟩⟩
      refine ⟨_, _, _, as ++ [.ref tp], rfl, (upd_ne dF).trans g4, upd_same, ?_, fun b o e n1 n2 => (upd_ne n2).trans (s69 _ _ (k4 b o e n1 n2))⟩
      rw [eg]
      exact All2.snoc (gu.imp fun v z h => keep (h.same s69)) (keep ⟨tp, x, rfl, h_tp, hx⟩)
    · rw [if_pos c, List.append_nil] at eg
      wtm_at "rd"
      exact ⟨_, _, _, as, rfl, g4, f4, by rw [eg]; exact gu, k4⟩
  · rintro σ H4 ⟨x5, x6, x7, as, rfl, g4, f4, gu, k4⟩
    have el : (wtK A W).length = (pls A).length := List.length_map _
    rw [el, List.take_length] at gu
    dsimp only
    refine ⟨g4, ?_⟩
    have sm4 : ∀ {b : Addr} {o : HO}, H4 b = some o → (∀ u, o ≠ .frz od u) → (upd H4 d (.dT (wtK A W))) b = some o := fun {b o} e n => (upd_ne (fun z => by subst z; rw [g4] at e; exact n _ (Option.some.inj e).symm)).trans e
    have sm : Same H (upd H4 d (.dT (wtK A W))) := fun b o e => by
      by_cases c : b = d
      · subst c
        rw [gd] at e
        cases e
        exact upd_same
      · rw [upd_ne c]
        exact k4 b o (sF _ _ e) c (ne_of_none e n_F)
    have gu : All2 (CtV T.C_Cell T.C_Stretch (upd H4 d (.dT (wtK A W)))) as (grCells s0 A W (pls A)) := gu.imp fun v z h => by
      obtain ⟨t, p, e, g1, ⟨dx, pr, pg, pd, g2, ⟨d3, g3⟩, ⟨d4, g4⟩, ⟨d5, g5⟩⟩⟩ := h
      exact ⟨t, p, e, sm4 g1 (fun _ z => nomatch z), ⟨dx, pr, pg, pd, sm4 g2 (fun _ z => nomatch z), ⟨d3, sm4 g3 (fun _ z => nomatch z)⟩, ⟨d4, sm4 g4 (fun _ z => nomatch z)⟩, ⟨d5, sm4 g5 (fun _ z => nomatch z)⟩⟩⟩
    wtm_at "rd"
    exact q F as A W _ n_F h5.gr ((upd_ne (Ne.symm dF)).trans f4) gu sm
theorem ok_Weights_cells (T : Txt K mg) : FnOk P w K mg base CX0 11 T.f_Weights_cells T.d_Weights_cells ["self"] (spWgC T.C_Cell T.C_Stretch T.C_Weights T.C_Side) := by
  refine T.F_Weights_cells.ok sc_Weights_cells (fun vs H Q E h => ?_) (fun cdv A outer s H vs Q E hr h => ?_)
  · obtain ⟨p, N, w, e, rfl, _⟩ := h
    rfl
  obtain ⟨p, N, w, e, rfl, o, he, q⟩ := h
  refine ⟨_, (pss_cons (ps_set (i := 1) sc_Weights_cells.nd rfl (by first | exact Or.inl rfl | exact Or.inr rfl) (pe_op op_cat (pe_call (ok_grid_cells T) (hr.mono (by decide)) (by rfl) T.g_grid_cells T.F_grid_cells.kp T.b_grid_cells .nil pass0 (pa_cons (pe_fldK (K := K) (pv 0)) (pa_cons (pe_op op_sub pe_int pe_int) pa_nil))) (pe_call (ok_line_cells T) (hr.mono (by decide)) (by rfl) T.g_line_cells T.F_line_cells.kp T.b_line_cells .nil pass0 (pa_cons (pe_fldK (K := K) (pv 0)) (pa_cons (pe_op op_sub pe_int pe_int) pa_nil)))))
      (pss_cons (ps_if (pt_cmpR op_ne (pe_fldK (K := K) (pv 0)) pe_int (nomark _)) (pss_one (ps_expr (pe_bm PySem.F.plainAttrs_list PySem.F.slot_list_append PySem.F.type_list_append mt_append (pv 1) (pa_cons (pe_tup (pa_cons (pe_call0 (ok_own_cell T) (hr.mono (by decide)) (by rfl) T.g_own_cell T.F_own_cell.kp T.b_own_cell .nil pass0) (pa_cons (pe_fldK (K := K) (pv 0)) pa_nil))) pa_nil)))) pss_nil)
      (pss_one (ps_ret (pe_op op_cat (pe_op op_cat (pv 1) (pe_call (ok_line_cells T) (hr.mono (by decide)) (by rfl) T.g_line_cells T.F_line_cells.kp T.b_line_cells .nil pass0 (pa_cons (pe_fldK (K := K) (pv 0)) (pa_cons pe_int pa_nil)))) (pe_call (ok_grid_cells T) (hr.mono (by decide)) (by rfl) T.g_grid_cells T.F_grid_cells.kp T.b_grid_cells .nil pass0 (pa_cons (pe_fldK (K := K) (pv 0)) (pa_cons pe_int pa_nil)))))))), ?_⟩
  try simp only [nox_K, cx_K]
  obtain ⟨dx, pb, pa, h1, h2, h3⟩ := o
  have pzz : ∀ {A : Axes} {W : Wt} {hh : Num → Int}, GrIs A W hh e.r e.g e.d → (pls A).length ≤ 8000 := fun k => pls_len ⟨by have := k.lr; have := he.r; omega, by have := k.lg; have := he.g; omega, by have := k.ld; have := he.d; omega⟩
  have lz : ∀ {l : Ln} {f : Int → Int}, LnIs l f e.l → l.length ≤ 19 := fun k => by have := k.len; have := he.l; omega
  wtm_at "rd"
  refine r_get h1 T.c_Weights T.nf_Weights_back (wg_back _ _ _) ?_
  wtm_at "rd"
  refine ⟨pb, 0 - 1, N, _, _, _, rfl, h2, he, fun D1 as1 Ab Wb H1 n1 kb e1 u1 s1 => ?_⟩
  wtm_at "rd"
  refine r_get (s1 _ _ h1) T.c_Weights T.nf_Weights_back (wg_back _ _ _) ?_
  wtm_at "rd"
  refine ⟨pb, 0 - 1, N, _, _, _, rfl, h2.same s1, he, fun D2 as2 lb H2 n2 lkb e2 u2 s2 => ?_⟩
  have s12 := s1.trans s2
  have e1 := s2 _ _ e1
  have g1 := u1.len
  have g2 := u2.len
  have z1 := pzz kb
  have z2 := lz lkb
  have y1 := grCells_len (s := 0 - 1) (A := Ab) (W := Wb) (ps := pls Ab)
  have y2 := lnCells_len (s := 0 - 1) (l := lb) (n := lb.length)
  wtm_at "rd"
  refine ⟨D1, D2, as1, as2, rfl, rfl, e1, e2, by rw [sizeLine_eq]; omega, fun F n_F => ?_⟩
  have s3 := same_new (o := .lst (as1 ++ as2)) n_F
  have sF := s12.trans s3
  have h_F : (upd H2 F (.lst (as1 ++ as2))) F = some (.lst (as1 ++ as2)) := upd_same
  have n_F0 := s12.free n_F
  have uF : All2 (CtV T.C_Cell T.C_Stretch (upd H2 F (.lst (as1 ++ as2)))) (as1 ++ as2) (grCells (0 - 1) Ab Wb (pls Ab) ++ lnCells (0 - 1) lb lb.length) := (u1.imp fun _ _ h => h.same (s2.trans s3)).app (u2.imp fun _ _ h => h.same s3)
  generalize upd H2 F (.lst (as1 ++ as2)) = H3 at sF h_F uF ⊢
  clear s3
  wtm_at "rd"
  refine r_get (sF _ _ h1) T.c_Weights T.nf_Weights_self_weight (wg_self _ _ _) ?_
  wtm_at "rd"
  have lF : (as1 ++ as2).length ≤ 8019 := by rw [List.length_append]; omega
  refine r_iten (fun c => ?_) (fun c => ?_)
  · wtm_at "rd"
    refine r_tyL (SqL.of h_F) ?_
    wtm_at "rd"
    refine ⟨rfl, fun x H8 nx hx s8 => ?_⟩
    wtm_at "rd"
    refine r_get ((sF.trans s8) _ _ h1) T.c_Weights T.nf_Weights_self_weight (wg_self _ _ _) ?_
    wtm_at "rd"
    refine r_new rfl fun tp n_tp => ?_
    have s9 := s8.trans (same_new (o := .tup [.ref x, .int w.s]) n_tp)
    have h_tp : (upd H8 tp (.tup [.ref x, .int w.s])) tp = some (.tup [.ref x, .int w.s]) := upd_same
    have hx := hx.same (same_new (o := .tup [.ref x, .int w.s]) n_tp)
    have hF := s9 _ _ h_F
    have uF := uF.imp fun _ _ h => CtV.same h s9
    generalize upd H8 tp (.tup [.ref x, .int w.s]) = H9 at s9 h_tp hx hF uF ⊢
    wtm_at "rd"
    refine r_app hF (by rw [sizeLine_eq]; omega) ?_
    have s4 : Same H (upd H9 F (.lst ((as1 ++ as2) ++ [.ref tp]))) := fun b o e => (upd_ne (ne_of_none e n_F0)).trans (s9 _ _ (sF _ _ e))
    have keep : ∀ {v : V} {z : Cl × Int}, CtV T.C_Cell T.C_Stretch H9 v z → CtV T.C_Cell T.C_Stretch (upd H9 F (.lst ((as1 ++ as2) ++ [.ref tp]))) v z := by
      rintro v z ⟨t, p, e, g1, ⟨dx, pr, pg, pd, g2, ⟨d3, g3⟩, ⟨d4, g4⟩, ⟨d5, g5⟩⟩⟩
      have nf : ∀ {a : Addr} {o : HO}, H9 a = some o → (∀ xs, o ≠ .lst xs) → (upd H9 F (.lst ((as1 ++ as2) ++ [.ref tp]))) a = some o := fun e n => (upd_ne (ne_of e hF (n _))).trans e
      exact ⟨t, p, e, nf g1 (fun _ z => nomatch z), ⟨dx, pr, pg, pd, nf g2 (fun _ z => nomatch z), ⟨d3, nf g3 (fun _ z => nomatch z)⟩, ⟨d4, nf g4 (fun _ z => nomatch z)⟩, ⟨d5, nf g5 (fun _ z => nomatch z)⟩⟩⟩
    have uF : All2 (CtV T.C_Cell T.C_Stretch (upd H9 F (.lst ((as1 ++ as2) ++ [.ref tp])))) ((as1 ++ as2) ++ [.ref tp]) (grCells (0 - 1) Ab Wb (pls Ab) ++ lnCells (0 - 1) lb lb.length ++ [(ownC, w.s)]) := All2.snoc (uF.imp fun _ _ h => keep h) (keep ⟨tp, x, rfl, h_tp, hx⟩)
    have hF : (upd H9 F (.lst ((as1 ++ as2) ++ [.ref tp]))) F = some (.lst ((as1 ++ as2) ++ [.ref tp])) := upd_same
    have lF2 : ((as1 ++ as2) ++ [V.ref tp]).length ≤ 8020 := by rw [List.length_append]; show (as1 ++ as2).length + 1 ≤ _; omega
    generalize upd H9 F (.lst ((as1 ++ as2) ++ [.ref tp])) = HX at s4 uF hF ⊢
    generalize (as1 ++ as2) ++ [V.ref tp] = as0 at uF hF lF2 ⊢
    wtm_at "rd"
    refine r_get (s4 _ _ h1) T.c_Weights T.nf_Weights_ahead (wg_ahead _ _ _) ?_
    wtm_at "rd"
    refine ⟨pa, 1, N, _, _, _, rfl, h3.same s4, he, fun D3 as3 la H5 n3 lka e3 u3 s5 => ?_⟩
    have hF := s5 _ _ hF
    have uF := uF.imp fun _ _ h => CtV.same h s5
    have s45 := s4.trans s5
    have g3 := u3.len
    have z3 := lz lka
    have y3 := lnCells_len (s := 1) (l := la) (n := la.length)
    wtm_at "rd"
    refine ⟨F, D3, _, as3, rfl, rfl, hF, e3, by rw [sizeLine_eq]; omega, fun G n_G => ?_⟩
    have s6 := same_new (o := .lst (as0 ++ as3)) n_G
    have h_G : (upd H5 G (.lst (as0 ++ as3))) G = some (.lst (as0 ++ as3)) := upd_same
    have u5 := (uF.imp fun _ _ h => CtV.same h s6).app (u3.imp fun _ _ h => h.same s6)
    have s46 := s45.trans s6
    generalize upd H5 G (.lst (as0 ++ as3)) = H6 at h_G u5 s46 ⊢
    clear s6
    wtm_at "rd"
    refine r_get (s46 _ _ h1) T.c_Weights T.nf_Weights_ahead (wg_ahead _ _ _) ?_
    wtm_at "rd"
    refine ⟨pa, 1, N, _, _, _, rfl, h3.same s46, he, fun D4 as4 Aa Wa H7 n4 ka e4 u4 s7 => ?_⟩
    have g4 := u4.len
    have z4 := pzz ka
    have y4 := grCells_len (s := 1) (A := Aa) (W := Wa) (ps := pls Aa)
    wtm_at "rd"
    refine ⟨G, D4, _, as4, rfl, rfl, s7 _ _ h_G, e4, by rw [sizeLine_eq, List.length_append]; omega, fun J n_J => ?_⟩
    have s8 := same_new (o := .lst ((as0 ++ as3) ++ as4)) n_J
    have s48 := (s46.trans s7).trans s8
    have u8 := (u5.imp fun _ _ h => CtV.same h (s7.trans s8)).app (u4.imp fun _ _ h => h.same s8)
    exact q J _ _ _ ((s46.trans s7).free n_J) ⟨lb, Ab, Wb, la, Aa, Wa, lkb, kb, lka, ka, rfl⟩ upd_same (show All2 _ _ (grCells (0 - 1) Ab Wb (pls Ab) ++ lnCells (0 - 1) lb lb.length ++ (if w.s = 0 then [] else [(ownC, w.s)]) ++ lnCells 1 la la.length ++ grCells 1 Aa Wa (pls Aa)) from by rw [if_neg c]; exact u8) s48
  · have hF := h_F
    have s4 := sF
    have c : w.s = 0 := c
    generalize as1 ++ as2 = as0 at uF hF lF ⊢
    wtm_at "rd"
    refine r_get (s4 _ _ h1) T.c_Weights T.nf_Weights_ahead (wg_ahead _ _ _) ?_
    wtm_at "rd"
    refine ⟨pa, 1, N, _, _, _, rfl, h3.same s4, he, fun D3 as3 la H5 n3 lka e3 u3 s5 => ?_⟩
    have hF := s5 _ _ hF
    have uF := uF.imp fun _ _ h => CtV.same h s5
    have s45 := s4.trans s5
    have g3 := u3.len
    have z3 := lz lka
    have y3 := lnCells_len (s := 1) (l := la) (n := la.length)
    wtm_at "rd"
    refine ⟨F, D3, _, as3, rfl, rfl, hF, e3, by rw [sizeLine_eq]; omega, fun G n_G => ?_⟩
    have s6 := same_new (o := .lst (as0 ++ as3)) n_G
    have h_G : (upd H5 G (.lst (as0 ++ as3))) G = some (.lst (as0 ++ as3)) := upd_same
    have u5 := (uF.imp fun _ _ h => CtV.same h s6).app (u3.imp fun _ _ h => h.same s6)
    have s46 := s45.trans s6
    generalize upd H5 G (.lst (as0 ++ as3)) = H6 at h_G u5 s46 ⊢
    clear s6
    wtm_at "rd"
    refine r_get (s46 _ _ h1) T.c_Weights T.nf_Weights_ahead (wg_ahead _ _ _) ?_
    wtm_at "rd"
    refine ⟨pa, 1, N, _, _, _, rfl, h3.same s46, he, fun D4 as4 Aa Wa H7 n4 ka e4 u4 s7 => ?_⟩
    have g4 := u4.len
    have z4 := pzz ka
    have y4 := grCells_len (s := 1) (A := Aa) (W := Wa) (ps := pls Aa)
    wtm_at "rd"
    refine ⟨G, D4, _, as4, rfl, rfl, s7 _ _ h_G, e4, by rw [sizeLine_eq, List.length_append]; omega, fun J n_J => ?_⟩
    have s8 := same_new (o := .lst ((as0 ++ as3) ++ as4)) n_J
    have s48 := (s46.trans s7).trans s8
    have u8 := (u5.imp fun _ _ h => CtV.same h (s7.trans s8)).app (u4.imp fun _ _ h => h.same s8)
    exact q J _ _ _ ((s46.trans s7).free n_J) ⟨lb, Ab, Wb, la, Aa, Wa, lkb, kb, lka, ka, rfl⟩ upd_same (show All2 _ _ (grCells (0 - 1) Ab Wb (pls Ab) ++ lnCells (0 - 1) lb lb.length ++ (if w.s = 0 then [] else [(ownC, w.s)]) ++ lnCells 1 la la.length ++ grCells 1 Aa Wa (pls Aa)) from by rw [if_pos c, List.append_nil]; exact u8) s48
theorem ok_Region_cells (T : Txt K mg) : FnOk P w K mg base CX0 13 T.f_Region_cells T.d_Region_cells ["self"] (spRgC T.C_Cell T.C_Stretch T.C_Region T.C_Weights T.C_Side) := by
  refine T.F_Region_cells.ok sc_Region_cells (fun vs H Q E h => ?_) (fun cdv A outer s H vs Q E hr h => ?_)
  · obtain ⟨p, N, w, e, rfl, _⟩ := h
    rfl
  obtain ⟨p, N, w, e, rfl, o, he, q⟩ := h
  refine ⟨_, (pss_one (ps_ret (pe_lc (own := [("cell", 1), ("weight", 2)]) (g := gTup K 2 (gCons (gName 1) (gCons (gName 2) gNil))) (tt := tYes) rfl sc_Region_cells.nd (pi_list (pe_meth0 (pe_fldK (K := K) (pv 0)) T.c_Weights T.mt_Weights_cells (ok_Weights_cells T) (hr.mono (by decide)) T.b_Weights_cells .nil pass0)) (blkOk_by (N := ["self", "cell", "weight"]) (sc := defScope s_Region_cells) (by decide +kernel)) (fun _ _ _ _ _ => pg_tup (by rfl) (pgs_cons (pg_name (i := 1) sc_Region_cells.nd rfl (by first | exact Or.inl rfl | exact Or.inr rfl)) (pgs_cons (pg_name (i := 2) sc_Region_cells.nd rfl (by first | exact Or.inl rfl | exact Or.inr rfl)) pgs_nil))) (fun _ _ _ _ _ => pts_nil) (fun _ _ _ _ _ => (pv 1))))), ?_⟩
  try simp only [nox_K, cx_K]
  obtain ⟨dx, pw, h1, h2⟩ := o
  wtm_at "rd"
  refine r_get h1 T.c_Region T.nf_Region_weights (rg_weights _) ?_
  obtain ⟨wdx, wpb, wpa, w1, _⟩ := id h2
  refine r_who w1 (wg_no _ _ _ (by decide +kernel) (by decide +kernel) (by decide +kernel)) ?_
  wtm_at "rd"
  refine ⟨pw, N, w, e, rfl, h2, he, fun D as zs H1 nD cz hD u s1 => ?_⟩
  wtm_at "rd"
  refine ⟨D, rfl, ⟨as, SqL.of hD⟩, ?_⟩
  have al := u.len
  have zl := cz.len he
  intro L nL
  refine lc_list (K := K) (a := D) (xs := as) (fun i H' => H' = upd H1 L (.lst ((as.take i).map (fstH H1)))) rfl (fun i H' _ e => by subst e; exact (same_new nL).seq (SqL.of hD)) ?_ ?_
  · rintro i v H' hx rfl
    obtain ⟨z, hz, t, pc, rfl, ht, hc⟩ := u.get hx
    refine r_gtup (SqT.of (same_new nL _ _ ht)) rfl ?_
    refine ⟨_, _, rfl, ?_⟩
    show gCons (gName 2) gNil _ _ _ _
    refine ⟨_, _, rfl, ?_⟩
    unfold gName
    refine ⟨rfl, rfl, ?_⟩
    unfold tYes
    dsimp only
    rw [if_pos rfl]
    have ll : (as.take i).length ≤ as.length := by rw [List.length_take]; omega
    wtm_at "rd"
    refine ⟨(as.take i).map (fstH H1), upd_same, by rw [List.length_map, sizeLine_eq]; omega, ?_⟩
    rw [upd_upd, List.take_add_one, hx, List.map_append]
    show _ = upd H1 L (.lst (_ ++ [fstH H1 (.ref t)]))
    rw [fstH_of ht]
  · rintro H' rfl
    rw [List.take_length]
    have sL := same_new (o := .lst (as.map (fstH H1))) nL
    refine q L _ zs _ (s1.free nL) cz upd_same ⟨by rw [List.length_map, al], fun j x y h1 h2 => ?_⟩ (s1.trans sL)
    rw [List.getElem?_map] at h1
    obtain ⟨v, hv, rfl⟩ := Option.map_eq_some_iff.mp h1
    obtain ⟨t, pc, rfl, g1, g2⟩ := u.at_ j v y hv h2
    exact ⟨pc, fstH_of g1, g2.same sL⟩

end
def spRgEq (K : PySem.W.Frag) (C CW CS : Addr) : Sp := fun vs H Q _ => ∃ (p : Addr) (x : V) (N : Addr → Prop) (w : Wgt) (a : Ex), vs = [.ref p, x] ∧ RgAt C CW CS N H p w a ∧
  ((∃ (q : Addr) (M : Addr → Prop) (v : Wgt) (b : Ex), x = .ref q ∧ RgAt C CW CS M H q v b ∧ ∀ r : Bool, (r = true ↔ WgEq w v) → Q (.bl r) H) ∨ (∃ t, TyX K H x t ∧ PySem.W.kitOne K t (.ref C) = some false ∧ Q (.bl false) H))

def spRgBool (C CW CS : Addr) : Sp := fun vs H Q _ => ∃ (p : Addr) (N : Addr → Prop) (w : Wgt) (a : Ex), vs = [.ref p] ∧ RgAt C CW CS N H p w a ∧ a.le 18 ∧ ∀ r H', (r = true ↔ WgNz w) → Same H H' → Q (.bl r) H'
theorem nz_tr {t : Tr} : WgNz t.w ↔ ∃ r g d, possB r g d = true ∧ t.holds r g d = true := by
  constructor
  · rintro ⟨r, g, d, h, z⟩
    rw [t.w_at h] at z
    refine ⟨r, g, d, h, ?_⟩
    cases e : t.holds r g d with
    | true => rfl
    | false => rw [e] at z; exact absurd rfl z
  · rintro ⟨r, g, d, h, z⟩
    refine ⟨r, g, d, h, ?_⟩
    rw [t.w_at h, z]
    decide
theorem tr_eq {t u : Tr} : WgEq t.w u.w ↔ ∀ r g d, possB r g d = true → t.holds r g d = u.holds r g d := by
  rw [wgEq_iff]
  constructor
  · intro h r g d hp
    have z := h r g d hp
    rw [t.w_at hp, u.w_at hp] at z
    cases h1 : t.holds r g d <;> cases h2 : u.holds r g d <;> rw [h1, h2] at z <;> first | rfl | (exact absurd z (by decide))
  · intro h r g d hp
    rw [t.w_at hp, u.w_at hp, h r g d hp]
theorem lv18 {t : Tr} (h : t.leaves ≤ 9) : t.ex.le 18 := t.ex_le.mono (by omega)
section
variable {P : Program} {w : World} {K : PySem.W.Frag} {mg : Str → Option Value} {base : Heap}
theorem neg_off {C : Addr} {H : Hp} {Q : VK} {E : XK} {p : Addr} {r g d : Int} (o : OffAt C H p r g d) (hb : possB r g d = true) (h : ∀ x H', H x = none → Same H H' → OffAt C H' x (-r) (-g) (-d) → Q (.ref x) H') : rNegO C (spONeg C) E (.ref p) H Q := by
  obtain ⟨dx, e⟩ := id o
  exact ⟨p, dx, _, rfl, e, p, r, g, d, rfl, o, hb, h⟩
theorem eq_wg (T : Txt K mg) {H : Hp} {Q : VK} {E : XK} {p q0 : Addr} {N M : Addr → Prop} {w v : Wgt} {a b : Ex} (o1 : WgAt T.C_Weights T.C_Side N H p w a) (o2 : WgAt T.C_Weights T.C_Side M H q0 v b) (q : ∀ r : Bool, (r = true ↔ WgEq w v) → Q (.bl r) H) : rCmpO K T.C_Weights (spWgEq K T.C_Weights T.C_Side) E (.ref p) (.ref q0) H Q := by
  obtain ⟨dx, pb, pa, h1, _⟩ := id o1
  exact ⟨p, dx, _, _, rfl, h1, wg_ty T o2, T.nt_Weights, p, _, N, w, a, rfl, o1, .inl ⟨q0, M, v, b, rfl, o2, q⟩⟩
theorem ok_Region___eq__ (T : Txt K mg) : FnOk P w K mg base CX0 6 T.f_Region___eq__ T.d_Region___eq__ ["self", "other"] (spRgEq K T.C_Region T.C_Weights T.C_Side) := by
  refine T.F_Region___eq__.ok sc_Region___eq__ (fun vs H Q E h => ?_) (fun cdv A outer s H vs Q E hr h => ?_)
  · obtain ⟨p, x, N, w, a, rfl, _⟩ := h
    rfl
  obtain ⟨p, x, N, w, a, rfl, o, hx⟩ := h
  refine ⟨_, (pss_one (ps_ret (pe_and (pe_callB call_isi (by rfl) T.z_isinstance (by decide +kernel) (pa_cons (pv 1) (pa_cons (pe_glob (v := .ref T.C_Region) rfl T.g_Region rfl) pa_nil))) (pe_one (pe_cmpR (op_eqO T.mt_Weights___eq__.at_ T.mt_Weights___eq__.fn (ok_Weights___eq__ T) (hr.mono (by decide)) T.b_Weights___eq__ pass0) (pe_fldK (K := K) (pv 0)) (pe_fldK (K := K) (pv 1)) (nomark _)))))), ?_⟩
  try simp only [nox_K, cx_K]
  rcases hx with ⟨q0, M, v, b, rfl, o2, q⟩ | ⟨t, ty, kit, q⟩
  · have ty := rg_ty T o2
    obtain ⟨dx, pw, h1, h2⟩ := o
    obtain ⟨dx', pv, i1, i2⟩ := o2
    wtm_at "rd"
    refine r_isi (.own _) ty kit_self ?_
    wtm_at "rdi"
    refine r_get h1 T.c_Region T.nf_Region_weights (rg_weights _) ?_
    wtm_at "rd"
    refine r_get i1 T.c_Region T.nf_Region_weights (rg_weights _) ?_
    exact eq_wg T h2 i2 q
  · wtm_at "rd"
    refine r_isi (.own _) ty kit ?_
    wtm_at "rdi"
    exact q
theorem eq_rg (T : Txt K mg) {H : Hp} {Q : VK} {E : XK} {p q0 : Addr} {N M : Addr → Prop} {w v : Wgt} {a b : Ex} (o1 : RgAt T.C_Region T.C_Weights T.C_Side N H p w a) (o2 : RgAt T.C_Region T.C_Weights T.C_Side M H q0 v b) (q : ∀ r : Bool, (r = true ↔ WgEq w v) → Q (.bl r) H) : rCmpO K T.C_Region (spRgEq K T.C_Region T.C_Weights T.C_Side) E (.ref p) (.ref q0) H Q := by
  obtain ⟨dx, pw, h1, _⟩ := id o1
  exact ⟨p, dx, _, _, rfl, h1, rg_ty T o2, T.nt_Region, p, _, N, w, a, rfl, o1, .inl ⟨q0, M, v, b, rfl, o2, q⟩⟩
theorem ok_Region___bool__ (T : Txt K mg) : FnOk P w K mg base CX0 6 T.f_Region___bool__ T.d_Region___bool__ ["self"] (spRgBool T.C_Region T.C_Weights T.C_Side) := by
  refine T.F_Region___bool__.ok sc_Region___bool__ (fun vs H Q E h => ?_) (fun cdv A outer s H vs Q E hr h => ?_)
  · obtain ⟨p, N, w, a, rfl, _⟩ := h
    rfl
  obtain ⟨p, N, w, a, rfl, o, hz, q⟩ := h
  refine ⟨_, (pss_one (ps_ret (pe_callTy (call_boolO T.mt_Weights___bool__.at_ T.mt_Weights___bool__.fn (ok_Weights___bool__ T) (hr.mono (by decide)) T.b_Weights___bool__ pass0) (by rfl) T.z_bool (by decide +kernel) (pa_cons (pe_fldK (K := K) (pv 0)) pa_nil)))), ?_⟩
  try simp only [nox_K, cx_K]
  obtain ⟨dx, pw, h1, h2⟩ := o
  wtm_at "rd"
  refine r_get h1 T.c_Region T.nf_Region_weights (rg_weights _) ?_
  obtain ⟨wdx, wpb, wpa, w1, _⟩ := id h2
  exact ⟨pw, wdx, _, rfl, w1, pw, N, w, a, rfl, h2, hz, fun r H' hr s => ⟨r, rfl, q r H' hr s⟩⟩
theorem and_rg (T : Txt K mg) {H : Hp} {Q : VK} {E : XK} {a b : Addr} {N M : Addr → Prop} {t u : Tr} (h1 : RgAt T.C_Region T.C_Weights T.C_Side N H a t.w t.ex) (h2 : RgAt T.C_Region T.C_Weights T.C_Side M H b u.w u.ex) (hz : t.leaves + u.leaves ≤ 9)
    (q : ∀ x H', RgAt T.C_Region T.C_Weights T.C_Side (fun _ => True) H' x (Tr.and t u).w (Tr.and t u).ex → Same H H' → Q (.ref x) H') : rAddO T.C_Region (spRgBin T.C_Region T.C_Weights T.C_Side ⟨0, 0, 1⟩) E (.ref a) (.ref b) H Q :=
  rg_bin T h1 h2 t.bd u.bd (lv18 (t := Tr.and t u) hz) fun x H' _ o s => q x H' (RgAt.mono (show RgAt _ _ _ _ _ _ (Tr.and t u).w (Tr.and t u).ex from o) fun _ _ => trivial) s
theorem or_rg (T : Txt K mg) {H : Hp} {Q : VK} {E : XK} {a b : Addr} {N M : Addr → Prop} {t u : Tr} (h1 : RgAt T.C_Region T.C_Weights T.C_Side N H a t.w t.ex) (h2 : RgAt T.C_Region T.C_Weights T.C_Side M H b u.w u.ex) (hz : t.leaves + u.leaves ≤ 9)
    (q : ∀ x H', RgAt T.C_Region T.C_Weights T.C_Side (fun _ => True) H' x (Tr.or t u).w (Tr.or t u).ex → Same H H' → Q (.ref x) H') : rAddO T.C_Region (spRgBin T.C_Region T.C_Weights T.C_Side ⟨1, 1, 0 - 1⟩) E (.ref a) (.ref b) H Q :=
  rg_bin T h1 h2 t.bd u.bd (lv18 (t := Tr.or t u) hz) fun x H' _ o s => q x H' (RgAt.mono (show RgAt _ _ _ _ _ _ (Tr.or t u).w (Tr.or t u).ex from o) fun _ _ => trivial) s
theorem sub_rg (T : Txt K mg) {H : Hp} {Q : VK} {E : XK} {a b : Addr} {N M : Addr → Prop} {t u : Tr} (h1 : RgAt T.C_Region T.C_Weights T.C_Side N H a t.w t.ex) (h2 : RgAt T.C_Region T.C_Weights T.C_Side M H b u.w u.ex) (hz : t.leaves + u.leaves ≤ 9)
    (q : ∀ x H', RgAt T.C_Region T.C_Weights T.C_Side (fun _ => True) H' x (Tr.sub t u).w (Tr.sub t u).ex → Same H H' → Q (.ref x) H') : rAddO T.C_Region (spRgBin T.C_Region T.C_Weights T.C_Side ⟨1, 0, 0 - 1⟩) E (.ref a) (.ref b) H Q :=
  rg_bin T h1 h2 t.bd u.bd (lv18 (t := Tr.sub t u) hz) fun x H' _ o s => q x H' (RgAt.mono (show RgAt _ _ _ _ _ _ (Tr.sub t u).w (Tr.sub t u).ex from o) fun _ _ => trivial) s
theorem xor_rg (T : Txt K mg) {H : Hp} {Q : VK} {E : XK} {a b : Addr} {N M : Addr → Prop} {t u : Tr} (h1 : RgAt T.C_Region T.C_Weights T.C_Side N H a t.w t.ex) (h2 : RgAt T.C_Region T.C_Weights T.C_Side M H b u.w u.ex) (hz : t.leaves + u.leaves ≤ 9)
    (q : ∀ x H', RgAt T.C_Region T.C_Weights T.C_Side (fun _ => True) H' x (Tr.xor t u).w (Tr.xor t u).ex → Same H H' → Q (.ref x) H') : rAddO T.C_Region (spRgBin T.C_Region T.C_Weights T.C_Side ⟨1, 1, 0 - 2⟩) E (.ref a) (.ref b) H Q :=
  rg_bin T h1 h2 t.bd u.bd (lv18 (t := Tr.xor t u) hz) fun x H' _ o s => q x H' (RgAt.mono (show RgAt _ _ _ _ _ _ (Tr.xor t u).w (Tr.xor t u).ex from o) fun _ _ => trivial) s
theorem inv_rg (T : Txt K mg) {H : Hp} {Q : VK} {E : XK} {a : Addr} {N : Addr → Prop} {t : Tr} (h1 : RgAt T.C_Region T.C_Weights T.C_Side N H a t.w t.ex) (hz : t.leaves ≤ 9)
    (q : ∀ x H', RgAt T.C_Region T.C_Weights T.C_Side (fun _ => True) H' x (Tr.inv t).w (Tr.inv t).ex → Same H H' → Q (.ref x) H') : rNegO T.C_Region (spRgInv T.C_Region T.C_Weights T.C_Side) E (.ref a) H Q :=
  rg_un T h1 ⟨a, _, t.w, t.ex, rfl, h1, t.bd, lv18 (t := Tr.inv t) hz, fun x H' _ o s => q x H' (RgAt.mono (show RgAt _ _ _ _ _ _ (Tr.inv t).w (Tr.inv t).ex from o) fun _ _ => trivial) s⟩
theorem neg_rg (T : Txt K mg) {H : Hp} {Q : VK} {E : XK} {a : Addr} {N : Addr → Prop} {t : Tr} (h1 : RgAt T.C_Region T.C_Weights T.C_Side N H a t.w t.ex)
    (q : ∀ x H', RgAt T.C_Region T.C_Weights T.C_Side (fun _ => True) H' x (Tr.neg t).w (Tr.neg t).ex → Same H H' → Q (.ref x) H') : rNegO T.C_Region (spRgNeg T.C_Region T.C_Weights T.C_Side) E (.ref a) H Q :=
  rg_un T h1 ⟨a, _, t.w, t.ex, rfl, h1, fun x H' _ o s => q x H' (RgAt.mono (show RgAt _ _ _ _ _ _ (Tr.neg t).w (Tr.neg t).ex from o) fun _ _ => trivial) s⟩
theorem eq_tr (T : Txt K mg) {H : Hp} {Q : VK} {E : XK} {a b : Addr} {N M : Addr → Prop} {t u : Tr} (h1 : RgAt T.C_Region T.C_Weights T.C_Side N H a t.w t.ex) (h2 : RgAt T.C_Region T.C_Weights T.C_Side M H b u.w u.ex) (h : ∀ r g d, t.holds r g d = u.holds r g d) (q : Q (.bl true) H) :
    rCmpO K T.C_Region (spRgEq K T.C_Region T.C_Weights T.C_Side) E (.ref a) (.ref b) H Q :=
  eq_rg T h1 h2 fun r hr => by
    obtain rfl : r = true := hr.mpr (tr_eq.mpr fun r g d _ => h r g d)
    exact q
theorem eq_nor (T : Txt K mg) {H : Hp} {Q : VK} {E : XK} {a : Addr} {N : Addr → Prop} {w : Wgt} {e : Ex} {x : V} {t : Value} (h1 : RgAt T.C_Region T.C_Weights T.C_Side N H a w e) (ty : TyX K H x t) (nf : PySem.W.notFirst K T.C_Region t = true) (kit : PySem.W.kitOne K t (.ref T.C_Region) = some false) (q : Q (.bl false) H) :
    rCmpO K T.C_Region (spRgEq K T.C_Region T.C_Weights T.C_Side) E (.ref a) x H Q := by
  obtain ⟨dx, pw, i1, _⟩ := id h1
  exact ⟨a, dx, _, t, rfl, i1, ty, nf, a, x, N, w, e, rfl, h1, .inr ⟨t, ty, kit, q⟩⟩
theorem ne_nor (T : Txt K mg) {H : Hp} {Q : VK} {E : XK} {a : Addr} {N : Addr → Prop} {w : Wgt} {e : Ex} {x : V} {t : Value} (h1 : RgAt T.C_Region T.C_Weights T.C_Side N H a w e) (ty : TyX K H x t) (nf : PySem.W.notFirst K T.C_Region t = true) (kit : PySem.W.kitOne K t (.ref T.C_Region) = some false) (q : Q (.bl true) H) :
    rNeO K T.C_Region (spRgEq K T.C_Region T.C_Weights T.C_Side) E (.ref a) x H Q := by
  obtain ⟨dx, pw, i1, _⟩ := id h1
  exact ⟨a, dx, _, t, rfl, i1, ty, nf, a, x, N, w, e, rfl, h1, .inr ⟨t, ty, kit, false, rfl, q⟩⟩
theorem bool_rg (T : Txt K mg) {H : Hp} {Q : VK} {E : XK} {a : Addr} {N : Addr → Prop} {t : Tr} (h1 : RgAt T.C_Region T.C_Weights T.C_Side N H a t.w t.ex) (hz : t.leaves ≤ 9) (q : ∀ r H', (r = true ↔ ∃ x g d, possB x g d = true ∧ t.holds x g d = true) → Same H H' → Q (.bl r) H') :
    rBoolO T.C_Region (spRgBool T.C_Region T.C_Weights T.C_Side) E [.ref a] H Q := by
  obtain ⟨dx, pw, i1, _⟩ := id h1
  exact ⟨a, dx, _, rfl, i1, a, N, t.w, t.ex, rfl, h1, lv18 hz, fun r H' hr s => ⟨r, rfl, q r H' (hr.trans nz_tr) s⟩⟩
theorem ok_Offset___neg__ (T : Txt K mg) : FnOk P w K mg base CX0 6 T.f_Offset___neg__ T.d_Offset___neg__ ["self"] (spONeg T.C_Offset) := by
  refine T.F_Offset___neg__.ok sc_Offset___neg__ (fun vs H Q E h => ?_) (fun cdv A outer s H vs Q E hr h => ?_)
  · obtain ⟨p, r, g, d, rfl, _⟩ := h
    rfl
  obtain ⟨p, r, g, d, rfl, o, hb, q⟩ := h
  refine ⟨_, (pss_one (ps_ret (pe_make T.m_Offset (ok_Offset___init__ T) (hr.mono (by decide)) (by rfl) T.g_Offset T.b_Offset___init__ .nil passL (pa_cons (pe_un un_neg (pe_fldK (K := K) (pv 0))) (pa_cons (pe_un un_neg (pe_fldK (K := K) (pv 0))) (pa_cons (pe_un un_neg (pe_fldK (K := K) (pv 0))) pa_nil)))))), ?_⟩
  try simp only [nox_K, cx_K]
  wtm_at "rd"
  refine r_rows T o ?_
  wtm_at "rd"
  refine r_groups T o ?_
  wtm_at "rd"
  refine r_distance T o ?_
  wtm_at "rd"
  exact make_off (fun z => (by rw [poss_neg, hb] at z; cases z)) fun _ => q

end

structure R3 (N : Addr → Prop) (C CW CS : Addr) (H : Hp) (a b c : Addr) (ta tb tc : Tr) : Prop where
  a : RgAt C CW CS N H a ta.w ta.ex
  b : RgAt C CW CS N H b tb.w tb.ex
  c : RgAt C CW CS N H c tc.w tc.ex
  la : ta.leaves ≤ 2
  lb : tb.leaves ≤ 1
  lc : tc.leaves ≤ 1
def spInP (C CW CS : Addr) : Sp := fun vs H Q _ => ∃ (a b c : Addr) (N : Addr → Prop) (ta tb tc : Tr), vs = [.ref a, .ref b, .ref c] ∧ R3 N C CW CS H a b c ta tb tc ∧ ∀ H', Same H H' → Q (.bl true) H'
def spUnl (C CW CS : Addr) : Sp := fun vs H Q _ => ∃ (a p : Addr) (N : Addr → Prop) (ta : Tr) (xs : List V), vs = [.ref a, .ref p] ∧ RgAt C CW CS N H a ta.w ta.ex ∧ ta.leaves ≤ 2 ∧ H p = some (.lst xs) ∧ ∀ H', Same H H' → Q (.bl true) H'
section
variable {P : Program} {w : World} {K : PySem.W.Frag} {mg : Str → Option Value} {base : Heap}
theorem ok__law_in_place (T : Txt K mg) : FnOk P w K mg base CX0 15 T.f__law_in_place T.d__law_in_place ["_law_a", "_law_b", "_law_c"] (spInP T.C_Region T.C_Weights T.C_Side) := by
  refine T.F__law_in_place.ok sc__law_in_place (fun vs H Q E h => ?_) (fun cdv A outer s H vs Q E hr h => ?_)
  · obtain ⟨a, b, c, N, ta, tb, tc, rfl, _⟩ := h
    rfl
  obtain ⟨a, b, c, N, ta, tb, tc, rfl, st, q⟩ := h
  refine ⟨_, (pss_cons (ps_set (i := 3) sc__law_in_place.nd rfl (by first | exact Or.inl rfl | exact Or.inr rfl) (pv 0))
      (pss_cons (ps_aug (i := 3) sc__law_in_place.nd rfl (by first | exact Or.inl rfl | exact Or.inr rfl) (pv 1) (ip_binO (op := .BitOr) T.no_Region_or T.sf_Region T.mt_Region___or__.at_ T.mt_Region___or__.fn (ok_Region___or__ T) (hr.mono (by decide)) T.b_Region___or__ pass0))
      (pss_cons (ps_set (i := 4) sc__law_in_place.nd rfl (by first | exact Or.inl rfl | exact Or.inr rfl) (pv 1))
      (pss_cons (ps_aug (i := 4) sc__law_in_place.nd rfl (by first | exact Or.inl rfl | exact Or.inr rfl) (pv 2) (ip_binO (op := .BitAnd) T.no_Region_and T.sf_Region T.mt_Region___and__.at_ T.mt_Region___and__.fn (ok_Region___and__ T) (hr.mono (by decide)) T.b_Region___and__ pass0))
      (pss_cons (ps_aug (i := 4) sc__law_in_place.nd rfl (by first | exact Or.inl rfl | exact Or.inr rfl) (pv 0) (ip_binO (op := .Sub) T.no_Region_sub T.sf_Region T.mt_Region___sub__.at_ T.mt_Region___sub__.fn (ok_Region___sub__ T) (hr.mono (by decide)) T.b_Region___sub__ pass0))
      (pss_cons (ps_set (i := 5) sc__law_in_place.nd rfl (by first | exact Or.inl rfl | exact Or.inr rfl) (pv 0))
      (pss_cons (ps_aug (i := 5) sc__law_in_place.nd rfl (by first | exact Or.inl rfl | exact Or.inr rfl) (pv 2) (ip_binO (op := .BitXor) T.no_Region_xor T.sf_Region T.mt_Region___xor__.at_ T.mt_Region___xor__.fn (ok_Region___xor__ T) (hr.mono (by decide)) T.b_Region___xor__ pass0))
      (pss_one (ps_ret (pe_and (pe_cmpR (op_eqO T.mt_Region___eq__.at_ T.mt_Region___eq__.fn (ok_Region___eq__ T) (hr.mono (by decide)) T.b_Region___eq__ pass0) (pv 3) (pe_op (op_binO (op := .BitOr) T.sf_Region T.mt_Region___or__.at_ T.mt_Region___or__.fn (ok_Region___or__ T) (hr.mono (by decide)) T.b_Region___or__ pass0) (pv 0) (pv 1)) (nomark _)) (pe_and (pe_cmpR (op_eqO T.mt_Region___eq__.at_ T.mt_Region___eq__.fn (ok_Region___eq__ T) (hr.mono (by decide)) T.b_Region___eq__ pass0) (pv 4) (pe_op (op_binO (op := .Sub) T.sf_Region T.mt_Region___sub__.at_ T.mt_Region___sub__.fn (ok_Region___sub__ T) (hr.mono (by decide)) T.b_Region___sub__ pass0) (pe_op (op_binO (op := .BitAnd) T.sf_Region T.mt_Region___and__.at_ T.mt_Region___and__.fn (ok_Region___and__ T) (hr.mono (by decide)) T.b_Region___and__ pass0) (pv 1) (pv 2)) (pv 0)) (nomark _)) (pe_one (pe_cmpR (op_eqO T.mt_Region___eq__.at_ T.mt_Region___eq__.fn (ok_Region___eq__ T) (hr.mono (by decide)) T.b_Region___eq__ pass0) (pv 5) (pe_op (op_binO (op := .BitXor) T.sf_Region T.mt_Region___xor__.at_ T.mt_Region___xor__.fn (ok_Region___xor__ T) (hr.mono (by decide)) T.b_Region___xor__ pass0) (pv 0) (pv 2)) (nomark _)))))))))))))), ?_⟩
  try simp only [nox_K, cx_K]
  obtain ⟨oa, ob, oc, la, lb, lc⟩ := st
  have sm : Same H H := fun _ _ z => z
  wtm_at "rd"
  refine or_rg T (oa.same sm) (ob.same sm) (by show _ ≤ _; (try simp only [Tr.leaves]); omega) fun x1_ H1_ o1_ s1_ => ?_
  replace sm := sm.trans s1_
  wtm_at "rd"
  refine and_rg T (ob.same sm) (oc.same sm) (by show _ ≤ _; (try simp only [Tr.leaves]); omega) fun x2_ H2_ o2_ s2_ => ?_
  replace sm := sm.trans s2_
  wtm_at "rd"
  refine sub_rg T o2_ (oa.same sm) (by show _ ≤ _; (try simp only [Tr.leaves]); omega) fun x3_ H3_ o3_ s3_ => ?_
  replace sm := sm.trans s3_
  wtm_at "rd"
  refine xor_rg T (oa.same sm) (oc.same sm) (by show _ ≤ _; (try simp only [Tr.leaves]); omega) fun x4_ H4_ o4_ s4_ => ?_
  replace sm := sm.trans s4_
  wtm_at "rd"
  refine or_rg T (oa.same sm) (ob.same sm) (by show _ ≤ _; (try simp only [Tr.leaves]); omega) fun x5_ H5_ o5_ s5_ => ?_
  replace sm := sm.trans s5_
  wtm_at "rd"
  refine eq_tr T (o1_.same (((s2_.trans s3_).trans s4_).trans s5_)) o5_ (fun r g d => rfl) ?_
  wtm_at "rd"
  rw [if_pos rfl]
  wtm_at "rd"
  refine and_rg T (ob.same sm) (oc.same sm) (by show _ ≤ _; (try simp only [Tr.leaves]); omega) fun x6_ H6_ o6_ s6_ => ?_
  replace sm := sm.trans s6_
  wtm_at "rd"
  refine sub_rg T o6_ (oa.same sm) (by show _ ≤ _; (try simp only [Tr.leaves]); omega) fun x7_ H7_ o7_ s7_ => ?_
  replace sm := sm.trans s7_
  wtm_at "rd"
  refine eq_tr T (o3_.same (((s4_.trans s5_).trans s6_).trans s7_)) o7_ (fun r g d => rfl) ?_
  wtm_at "rd"
  rw [if_pos rfl]
  wtm_at "rd"
  refine xor_rg T (oa.same sm) (oc.same sm) (by show _ ≤ _; (try simp only [Tr.leaves]); omega) fun x8_ H8_ o8_ s8_ => ?_
  replace sm := sm.trans s8_
  wtm_at "rd"
  refine eq_tr T (o4_.same (((s5_.trans s6_).trans s7_).trans s8_)) o8_ (fun r g d => rfl) ?_
  exact q _ sm
theorem ok__law_unlike (T : Txt K mg) : FnOk P w K mg base CX0 15 T.f__law_unlike T.d__law_unlike ["_law_a", "_law_tree_here"] (spUnl T.C_Region T.C_Weights T.C_Side) := by
  refine T.F__law_unlike.ok sc__law_unlike (fun vs H Q E h => ?_) (fun cdv A outer s H vs Q E hr h => ?_)
  · obtain ⟨a, p, N, ta, xs, rfl, _⟩ := h
    rfl
  obtain ⟨a, p, N, ta, xs, rfl, oa, la, hp, q⟩ := h
  refine ⟨_, (pss_cons (ps_if (PW.pt (pw_or (pt_cmpR (op_eqO T.mt_Weights___eq__.at_ T.mt_Weights___eq__.fn (ok_Weights___eq__ T) (hr.mono (by decide)) T.b_Weights___eq__ pass0) (pe_call (ok_weights_of T) (hr.mono (by decide)) (by rfl) T.g_weights_of T.F_weights_of.kp T.b_weights_of .nil pass0 (pa_cons (pv 0) (pa_cons pe_int pa_nil))) (pv 0) (nomark _)) (pw_or (pt_cmpR (op_eqO T.mt_Region___eq__.at_ T.mt_Region___eq__.fn (ok_Region___eq__ T) (hr.mono (by decide)) T.b_Region___eq__ pass0) (pv 0) (pe_call (ok_weights_of T) (hr.mono (by decide)) (by rfl) T.g_weights_of T.F_weights_of.kp T.b_weights_of .nil pass0 (pa_cons (pv 0) (pa_cons pe_int pa_nil))) (nomark _)) (pw_or (pt_cmpR (op_eqO T.mt_Region___eq__.at_ T.mt_Region___eq__.fn (ok_Region___eq__ T) (hr.mono (by decide)) T.b_Region___eq__ pass0) (pv 0) (pe_meth0 (pv 0) T.c_Region T.mt_Region_cells (ok_Region_cells T) (hr.mono (by decide)) T.b_Region_cells .nil pass0) (nomark _)) (pw_or1 (pt_cmpR (op_eqO T.mt_Region___eq__.at_ T.mt_Region___eq__.fn (ok_Region___eq__ T) (hr.mono (by decide)) T.b_Region___eq__ pass0) (pv 0) (pe_make T.m_Offset (ok_Offset___init__ T) (hr.mono (by decide)) (by rfl) T.g_Offset T.b_Offset___init__ .nil passL (pa_cons pe_int (pa_cons pe_int (pa_cons pe_int pa_nil)))) (nomark _))))))) (pss_one (ps_ret pe_bl)) pss_nil)
      (pss_cons (ps_if (PW.pt (pw_or (pt_val (pe_callTy (call_boolO T.mt_Region___bool__.at_ T.mt_Region___bool__.fn (ok_Region___bool__ T) (hr.mono (by decide)) T.b_Region___bool__ pass0) (by rfl) T.z_bool (by decide +kernel) (pa_cons (pe_call0 (ok_nothing T) (hr.mono (by decide)) (by rfl) T.g_nothing T.F_nothing.kp T.b_nothing .nil pass0) pa_nil))) (pw_or (pt_not (pt_val (pe_callTy (call_boolO T.mt_Region___bool__.at_ T.mt_Region___bool__.fn (ok_Region___bool__ T) (hr.mono (by decide)) T.b_Region___bool__ pass0) (by rfl) T.z_bool (by decide +kernel) (pa_cons (pe_call0 (ok_every T) (hr.mono (by decide)) (by rfl) T.g_every T.F_every.kp T.b_every .nil pass0) pa_nil)))) (pw_or (pt_cmpR (op_eqO T.mt_Region___eq__.at_ T.mt_Region___eq__.fn (ok_Region___eq__ T) (hr.mono (by decide)) T.b_Region___eq__ pass0) (pv 0) (pv 1) (nomark _)) (pw_or1 (pt_cmpR (op_eqO T.mt_Region___eq__.at_ T.mt_Region___eq__.fn (ok_Region___eq__ T) (hr.mono (by decide)) T.b_Region___eq__ pass0) (pv 0) pe_int (nomark _))))))) (pss_one (ps_ret pe_bl)) pss_nil)
      (pss_one (ps_ret (pe_and (pe_cmpR (op_neO T.mt_Region___eq__.at_ T.mt_Region___eq__.fn T.ne_Region T.ob_Region (ok_Region___eq__ T) (hr.mono (by decide)) T.b_Region___eq__ pass0) (pe_call0 (ok_nothing T) (hr.mono (by decide)) (by rfl) T.g_nothing T.F_nothing.kp T.b_nothing .nil pass0) pe_int (nomark _)) (pe_one (pe_cmpR (op_neO T.mt_Region___eq__.at_ T.mt_Region___eq__.fn T.ne_Region T.ob_Region (ok_Region___eq__ T) (hr.mono (by decide)) T.b_Region___eq__ pass0) (pe_call0 (ok_every T) (hr.mono (by decide)) (by rfl) T.g_every T.F_every.kp T.b_every .nil pass0) pe_str (nomark _)))))))), ?_⟩
  try simp only [nox_K, cx_K]
  have bd1' : Bd 1 := bd1
  wtm_at "rd"
  refine ⟨a, 1, N, ta.w, ta.ex, rfl, oa, ta.bd, bd1, lv18 (by omega), fun x1 H1 n1 k1 s1 => ?_⟩
  wtm_at "rd"
  obtain ⟨wdx, wpb, wpa, w1, _⟩ := id k1
  refine ⟨x1, wdx, _, _, rfl, w1, rg_ty T (oa.same s1), T.nt_Weights_Region, x1, .ref a, _, _, _, rfl, k1, .inr ⟨_, rg_ty T (oa.same s1), T.ki_Weights_Region, ?_⟩⟩
  wtm_at "rd"
  refine iteF ?_
  wtm_at "rd"
  refine ⟨a, 1, N, ta.w, ta.ex, rfl, oa.same s1, ta.bd, bd1, lv18 (by omega), fun x2 H2 n2 k2 s2 => ?_⟩
  have s2' := s1.trans s2
  wtm_at "rd"
  refine eq_nor T (oa.same s2') (wg_ty T k2) T.nt_Region_Weights T.ki_Region_Weights ?_
  wtm_at "rd"
  refine iteF ?_
  wtm_at "rd"
  obtain ⟨rdx, rpw, r1, _⟩ := id (oa.same s2')
  refine r_who r1 (rg_no _ (by decide +kernel)) ?_
  wtm_at "rd"
  refine ⟨a, N, ta.w, ta.ex, rfl, oa.same s2', lv18 (by omega), fun D as zs H3 nD cz hD u s3 => ?_⟩
  have s3' := s2'.trans s3
  wtm_at "rd"
  refine eq_nor T (oa.same s3') (.base (.lst hD)) T.nt_Region_list T.ki_Region_list ?_
  wtm_at "rd"
  refine iteF ?_
  wtm_at "rd"
  refine make_offF (r := 0) (g := 0) (d := 0) (decide_eq_true (by omega)) fun o H4 no s4 ho => ?_
  have s4' := s3'.trans s4
  wtm_at "rd"
  refine eq_nor T (oa.same s4') (off_ty T ho) T.nt_Region_Offset T.ki_Region_Offset ?_
  wtm_at "rd"
  refine iteF ?_
  wtm_at "rd"
  refine ⟨rfl, fun x5 H5 n5 q5 s5 => ?_⟩
  have s5' := s4'.trans s5
  have o5 : RgAt T.C_Region T.C_Weights T.C_Side _ H5 x5 Tr.none.w Tr.none.ex := q5
  wtm_at "rd"
  refine bool_rg T o5 (by decide) fun r6 H6 e6 s6 => ?_
  have s6' := s5'.trans s6
  obtain rfl : r6 = false := by
    cases r6 with
    | false => rfl
    | true => obtain ⟨_, _, _, _, z⟩ := e6.mp rfl; cases z
  wtm_at "rd"
  refine iteF ?_
  wtm_at "rd"
  refine ⟨rfl, fun x7 H7 n7 q7 s7 => ?_⟩
  have s7' := s6'.trans s7
  have o7 : RgAt T.C_Region T.C_Weights T.C_Side _ H7 x7 Tr.all.w Tr.all.ex := q7
  wtm_at "rd"
  refine bool_rg T o7 (by decide) fun r8 H8 e8 s8 => ?_
  have s8' := s7'.trans s8
  obtain rfl : r8 = true := e8.mpr ⟨0, 0, 0, decide_eq_true (by omega), rfl⟩
  wtm_at "rd"
  refine iteNT ?_
  wtm_at "rd"
  refine eq_nor T (oa.same s8') (.base (.lst (s8' _ _ hp))) T.nt_Region_list T.ki_Region_list ?_
  wtm_at "rd"
  refine iteF ?_
  wtm_at "rd"
  refine eq_nor T (oa.same s8') (.base (.int _)) T.nt_Region_int T.ki_Region_int ?_
  wtm_at "rd"
  refine iteF ?_
  wtm_at "rd"
  refine ⟨rfl, fun x9 H9 n9 q9 s9 => ?_⟩
  have s9' := s8'.trans s9
  wtm_at "rd"
  refine ne_nor T q9 (.base (.int _)) T.nt_Region_int T.ki_Region_int ?_
  wtm_at "rd"
  rw [if_pos rfl]
  wtm_at "rd"
  refine ⟨rfl, fun x10 H10 n10 q10 s10 => ?_⟩
  have s10' := s9'.trans s10
  wtm_at "rd"
  refine ne_nor T q10 (.base (.str _)) T.nt_Region_str T.ki_Region_str ?_
  exact q _ s10'

end

theorem threeV {ss : List V} (h : ss.length = 3) : ∃ a b c, ss = [a, b, c] := by
  match ss, h with
  | [a, b, c], _ => exact ⟨a, b, c, rfl⟩
def RgV (C CW CS : Addr) (ts : List Tr) (i : Nat) (v : V) (N : Addr → Prop) (H : Hp) : Prop := ∃ b t, ts[i]? = some t ∧ v = .ref b ∧ RgAt C CW CS N H b t.w t.ex
theorem RgV.keep {C CW CS : Addr} {ts : List Tr} {i : Nat} {v : V} {N : Addr → Prop} {H H' : Hp} (h : RgV C CW CS ts i v N H) (k : KeepN N H H') : RgV C CW CS ts i v N H' := by
  obtain ⟨b, t, h1, h2, h3⟩ := h
  exact ⟨b, t, h1, h2, h3.keep k⟩
theorem RgV.mono {C CW CS : Addr} {ts : List Tr} {i : Nat} {v : V} {N M : Addr → Prop} {H : Hp} (h : RgV C CW CS ts i v N H) (k : ∀ a, N a → M a) : RgV C CW CS ts i v M H := by
  obtain ⟨b, t, h1, h2, h3⟩ := h
  exact ⟨b, t, h1, h2, h3.mono k⟩
/-- a region of the loop -/
def RlV (C CW CS : Addr) (H : Hp) (v : V) (t : Tr) : Prop := ∃ b, v = .ref b ∧ RgAt C CW CS (fun _ => True) H b t.w t.ex ∧ t.leaves ≤ 4
theorem TrAt.lst {N : Addr → Prop} {H : Hp} : ∀ {t : Tr} {p : Addr}, TrAt N H t p → ∃ xs, H p = some (.lst xs)
  | .rows _ _, _, h => ⟨_, h.2⟩
  | .groups _ _, _, h => ⟨_, h.2⟩
  | .keys _ _, _, h => ⟨_, h.2⟩
  | .self, _, h => ⟨_, h.2⟩
  | .ties, _, h => ⟨_, h.2⟩
  | .group, _, h => ⟨_, h.2⟩
  | .all, _, h => ⟨_, h.2⟩
  | .none, _, h => ⟨_, h.2⟩
  | .inv _, _, ⟨_, _, h, _⟩ => ⟨_, h⟩
  | .neg _, _, ⟨_, _, h, _⟩ => ⟨_, h⟩
  | .and _ _, _, ⟨_, _, _, h, _⟩ => ⟨_, h⟩
  | .or _ _, _, ⟨_, _, _, h, _⟩ => ⟨_, h⟩
  | .sub _ _, _, ⟨_, _, _, h, _⟩ => ⟨_, h⟩
  | .xor _ _, _, ⟨_, _, _, h, _⟩ => ⟨_, h⟩
def spLaw (K : PySem.W.Frag) : Sp := fun vs H Q _ => ∃ (a : Addr) (ns : List Int), vs = [.ref a] ∧ SqL K H a (ns.map V.int) ∧ ns.length ≤ 63 ∧ ∀ H', Q (.bl true) H'
section
variable {P : Program} {w : World} {K : PySem.W.Frag} {mg : Str → Option Value} {base : Heap}

theorem ok_law (T : Txt K mg) : FnOk P w K mg base CX0 18 T.f_law T.d_law ["_law_script"] (spLaw K) := by
  refine T.F_law.ok sc_law (fun vs H Q E h => ?_) (fun cdv A outer s H vs Q E hr h => ?_)
  · obtain ⟨a0, ns, rfl, _⟩ := h
    rfl
  obtain ⟨a0, ns, rfl, hS, hlen, q⟩ := h
  refine ⟨_, (pss_cons (ps_set (i := 1) sc_law.nd rfl (by first | exact Or.inl rfl | exact Or.inr rfl) (pe_call (ok__law_begin T) (hr.mono (by decide)) (by rfl) T.g__law_begin T.F__law_begin.kp T.b__law_begin .nil pass0 (pa_cons (pv 0) pa_nil)))
      (pss_cons (ps_set (i := 2) sc_law.nd rfl (by first | exact Or.inl rfl | exact Or.inr rfl) (pe_lst (pa_cons (pe_call (ok__law_tree T 2) (hr.mono (by decide)) (by rfl) T.g__law_tree T.F__law_tree.kp T.b__law_tree .nil pass0 (pa_cons (pv 1) (pa_cons pe_int pa_nil))) (pa_cons (pe_call (ok__law_basic T) (hr.mono (by decide)) (by rfl) T.g__law_basic T.F__law_basic.kp T.b__law_basic .nil pass0 (pa_cons (pv 1) pa_nil)) (pa_cons (pe_call (ok__law_basic T) (hr.mono (by decide)) (by rfl) T.g__law_basic T.F__law_basic.kp T.b__law_basic .nil pass0 (pa_cons (pv 1) pa_nil)) pa_nil)))))
      (pss_cons (ps_asg (pe_lc (own := [("_law_one", 7)]) (g := gName 7) (tt := tYes) rfl sc_law.nd (pi_list (pv 2)) (blkOk_by (N := ["_law_script", "_law_draws", "_law_trees", "_law_a", "_law_b", "_law_c", "_law_good", "_law_one", "_law_d", "_law_g", "_law_k", "_law_j"]) (sc := defScope s_law) (by decide +kernel)) (fun _ _ _ _ _ => pg_name (i := 7) sc_law.nd rfl (by first | exact Or.inl rfl | exact Or.inr rfl)) (fun _ _ _ _ _ => pts_nil) (fun _ _ _ _ _ => (pe_call (ok__law_region T 2) (hr.mono (by decide)) (by rfl) T.g__law_region T.F__law_region.kp T.b__law_region .nil pass0 (pa_cons (pv 7) pa_nil)))) (pg_lst (by rfl) (pgs_cons (pg_name (i := 3) sc_law.nd rfl (by first | exact Or.inl rfl | exact Or.inr rfl)) (pgs_cons (pg_name (i := 4) sc_law.nd rfl (by first | exact Or.inl rfl | exact Or.inr rfl)) (pgs_cons (pg_name (i := 5) sc_law.nd rfl (by first | exact Or.inl rfl | exact Or.inr rfl)) pgs_nil)))))
      (pss_cons (ps_set (i := 6) sc_law.nd rfl (by first | exact Or.inl rfl | exact Or.inr rfl) (pe_and (pe_cmpR (op_eqO T.mt_Region___eq__.at_ T.mt_Region___eq__.fn (ok_Region___eq__ T) (hr.mono (by decide)) T.b_Region___eq__ pass0) (pe_un (un_invO T.mt_Region___invert__.at_ T.mt_Region___invert__.fn (ok_Region___invert__ T) (hr.mono (by decide)) T.b_Region___invert__ pass0) (pe_un (un_invO T.mt_Region___invert__.at_ T.mt_Region___invert__.fn (ok_Region___invert__ T) (hr.mono (by decide)) T.b_Region___invert__ pass0) (pv 3))) (pv 3) (nomark _)) (pe_and (pe_cmpR (op_eqO T.mt_Region___eq__.at_ T.mt_Region___eq__.fn (ok_Region___eq__ T) (hr.mono (by decide)) T.b_Region___eq__ pass0) (pe_un (un_invO T.mt_Region___invert__.at_ T.mt_Region___invert__.fn (ok_Region___invert__ T) (hr.mono (by decide)) T.b_Region___invert__ pass0) (pe_op (op_binO (op := .BitOr) T.sf_Region T.mt_Region___or__.at_ T.mt_Region___or__.fn (ok_Region___or__ T) (hr.mono (by decide)) T.b_Region___or__ pass0) (pv 3) (pv 4))) (pe_op (op_binO (op := .BitAnd) T.sf_Region T.mt_Region___and__.at_ T.mt_Region___and__.fn (ok_Region___and__ T) (hr.mono (by decide)) T.b_Region___and__ pass0) (pe_un (un_invO T.mt_Region___invert__.at_ T.mt_Region___invert__.fn (ok_Region___invert__ T) (hr.mono (by decide)) T.b_Region___invert__ pass0) (pv 3)) (pe_un (un_invO T.mt_Region___invert__.at_ T.mt_Region___invert__.fn (ok_Region___invert__ T) (hr.mono (by decide)) T.b_Region___invert__ pass0) (pv 4))) (nomark _)) (pe_and (pe_cmpR (op_eqO T.mt_Region___eq__.at_ T.mt_Region___eq__.fn (ok_Region___eq__ T) (hr.mono (by decide)) T.b_Region___eq__ pass0) (pe_un (un_invO T.mt_Region___invert__.at_ T.mt_Region___invert__.fn (ok_Region___invert__ T) (hr.mono (by decide)) T.b_Region___invert__ pass0) (pe_op (op_binO (op := .BitAnd) T.sf_Region T.mt_Region___and__.at_ T.mt_Region___and__.fn (ok_Region___and__ T) (hr.mono (by decide)) T.b_Region___and__ pass0) (pv 3) (pv 4))) (pe_op (op_binO (op := .BitOr) T.sf_Region T.mt_Region___or__.at_ T.mt_Region___or__.fn (ok_Region___or__ T) (hr.mono (by decide)) T.b_Region___or__ pass0) (pe_un (un_invO T.mt_Region___invert__.at_ T.mt_Region___invert__.fn (ok_Region___invert__ T) (hr.mono (by decide)) T.b_Region___invert__ pass0) (pv 3)) (pe_un (un_invO T.mt_Region___invert__.at_ T.mt_Region___invert__.fn (ok_Region___invert__ T) (hr.mono (by decide)) T.b_Region___invert__ pass0) (pv 4))) (nomark _)) (pe_one (pe_cmpR (op_eqO T.mt_Region___eq__.at_ T.mt_Region___eq__.fn (ok_Region___eq__ T) (hr.mono (by decide)) T.b_Region___eq__ pass0) (pe_op (op_binO (op := .Sub) T.sf_Region T.mt_Region___sub__.at_ T.mt_Region___sub__.fn (ok_Region___sub__ T) (hr.mono (by decide)) T.b_Region___sub__ pass0) (pv 3) (pv 4)) (pe_op (op_binO (op := .BitAnd) T.sf_Region T.mt_Region___and__.at_ T.mt_Region___and__.fn (ok_Region___and__ T) (hr.mono (by decide)) T.b_Region___and__ pass0) (pv 3) (pe_un (un_invO T.mt_Region___invert__.at_ T.mt_Region___invert__.fn (ok_Region___invert__ T) (hr.mono (by decide)) T.b_Region___invert__ pass0) (pv 4))) (nomark _)))))))
      (pss_cons (ps_set (i := 6) sc_law.nd rfl (by first | exact Or.inl rfl | exact Or.inr rfl) (pe_and (pv 6) (pe_and (pe_cmpR (op_eqO T.mt_Region___eq__.at_ T.mt_Region___eq__.fn (ok_Region___eq__ T) (hr.mono (by decide)) T.b_Region___eq__ pass0) (pe_op (op_binO (op := .BitXor) T.sf_Region T.mt_Region___xor__.at_ T.mt_Region___xor__.fn (ok_Region___xor__ T) (hr.mono (by decide)) T.b_Region___xor__ pass0) (pv 3) (pv 4)) (pe_op (op_binO (op := .Sub) T.sf_Region T.mt_Region___sub__.at_ T.mt_Region___sub__.fn (ok_Region___sub__ T) (hr.mono (by decide)) T.b_Region___sub__ pass0) (pe_op (op_binO (op := .BitOr) T.sf_Region T.mt_Region___or__.at_ T.mt_Region___or__.fn (ok_Region___or__ T) (hr.mono (by decide)) T.b_Region___or__ pass0) (pv 3) (pv 4)) (pe_op (op_binO (op := .BitAnd) T.sf_Region T.mt_Region___and__.at_ T.mt_Region___and__.fn (ok_Region___and__ T) (hr.mono (by decide)) T.b_Region___and__ pass0) (pv 3) (pv 4))) (nomark _)) (pe_and (pe_cmpR (op_eqO T.mt_Region___eq__.at_ T.mt_Region___eq__.fn (ok_Region___eq__ T) (hr.mono (by decide)) T.b_Region___eq__ pass0) (pe_op (op_binO (op := .BitAnd) T.sf_Region T.mt_Region___and__.at_ T.mt_Region___and__.fn (ok_Region___and__ T) (hr.mono (by decide)) T.b_Region___and__ pass0) (pv 3) (pe_op (op_binO (op := .BitOr) T.sf_Region T.mt_Region___or__.at_ T.mt_Region___or__.fn (ok_Region___or__ T) (hr.mono (by decide)) T.b_Region___or__ pass0) (pv 4) (pv 5))) (pe_op (op_binO (op := .BitOr) T.sf_Region T.mt_Region___or__.at_ T.mt_Region___or__.fn (ok_Region___or__ T) (hr.mono (by decide)) T.b_Region___or__ pass0) (pe_op (op_binO (op := .BitAnd) T.sf_Region T.mt_Region___and__.at_ T.mt_Region___and__.fn (ok_Region___and__ T) (hr.mono (by decide)) T.b_Region___and__ pass0) (pv 3) (pv 4)) (pe_op (op_binO (op := .BitAnd) T.sf_Region T.mt_Region___and__.at_ T.mt_Region___and__.fn (ok_Region___and__ T) (hr.mono (by decide)) T.b_Region___and__ pass0) (pv 3) (pv 5))) (nomark _)) (pe_one (pe_cmpR (op_eqO T.mt_Region___eq__.at_ T.mt_Region___eq__.fn (ok_Region___eq__ T) (hr.mono (by decide)) T.b_Region___eq__ pass0) (pe_op (op_binO (op := .BitOr) T.sf_Region T.mt_Region___or__.at_ T.mt_Region___or__.fn (ok_Region___or__ T) (hr.mono (by decide)) T.b_Region___or__ pass0) (pv 3) (pe_op (op_binO (op := .BitAnd) T.sf_Region T.mt_Region___and__.at_ T.mt_Region___and__.fn (ok_Region___and__ T) (hr.mono (by decide)) T.b_Region___and__ pass0) (pv 3) (pv 4))) (pv 3) (nomark _)))))))
      (pss_cons (ps_set (i := 6) sc_law.nd rfl (by first | exact Or.inl rfl | exact Or.inr rfl) (pe_and (pv 6) (pe_and (pe_cmpR (op_eqO T.mt_Region___eq__.at_ T.mt_Region___eq__.fn (ok_Region___eq__ T) (hr.mono (by decide)) T.b_Region___eq__ pass0) (pe_un (un_negO T.mt_Region___neg__.at_ T.mt_Region___neg__.fn (ok_Region___neg__ T) (hr.mono (by decide)) T.b_Region___neg__ pass0) (pe_op (op_binO (op := .BitOr) T.sf_Region T.mt_Region___or__.at_ T.mt_Region___or__.fn (ok_Region___or__ T) (hr.mono (by decide)) T.b_Region___or__ pass0) (pv 3) (pv 4))) (pe_op (op_binO (op := .BitOr) T.sf_Region T.mt_Region___or__.at_ T.mt_Region___or__.fn (ok_Region___or__ T) (hr.mono (by decide)) T.b_Region___or__ pass0) (pe_un (un_negO T.mt_Region___neg__.at_ T.mt_Region___neg__.fn (ok_Region___neg__ T) (hr.mono (by decide)) T.b_Region___neg__ pass0) (pv 3)) (pe_un (un_negO T.mt_Region___neg__.at_ T.mt_Region___neg__.fn (ok_Region___neg__ T) (hr.mono (by decide)) T.b_Region___neg__ pass0) (pv 4))) (nomark _)) (pe_and (pe_cmpR (op_eqO T.mt_Region___eq__.at_ T.mt_Region___eq__.fn (ok_Region___eq__ T) (hr.mono (by decide)) T.b_Region___eq__ pass0) (pe_un (un_negO T.mt_Region___neg__.at_ T.mt_Region___neg__.fn (ok_Region___neg__ T) (hr.mono (by decide)) T.b_Region___neg__ pass0) (pe_op (op_binO (op := .Sub) T.sf_Region T.mt_Region___sub__.at_ T.mt_Region___sub__.fn (ok_Region___sub__ T) (hr.mono (by decide)) T.b_Region___sub__ pass0) (pv 3) (pv 5))) (pe_op (op_binO (op := .Sub) T.sf_Region T.mt_Region___sub__.at_ T.mt_Region___sub__.fn (ok_Region___sub__ T) (hr.mono (by decide)) T.b_Region___sub__ pass0) (pe_un (un_negO T.mt_Region___neg__.at_ T.mt_Region___neg__.fn (ok_Region___neg__ T) (hr.mono (by decide)) T.b_Region___neg__ pass0) (pv 3)) (pe_un (un_negO T.mt_Region___neg__.at_ T.mt_Region___neg__.fn (ok_Region___neg__ T) (hr.mono (by decide)) T.b_Region___neg__ pass0) (pv 5))) (nomark _)) (pe_and (pe_cmpR (op_eqO T.mt_Region___eq__.at_ T.mt_Region___eq__.fn (ok_Region___eq__ T) (hr.mono (by decide)) T.b_Region___eq__ pass0) (pe_un (un_negO T.mt_Region___neg__.at_ T.mt_Region___neg__.fn (ok_Region___neg__ T) (hr.mono (by decide)) T.b_Region___neg__ pass0) (pe_un (un_negO T.mt_Region___neg__.at_ T.mt_Region___neg__.fn (ok_Region___neg__ T) (hr.mono (by decide)) T.b_Region___neg__ pass0) (pv 4))) (pv 4) (nomark _)) (pe_one (pe_cmpR (op_eqO T.mt_Region___eq__.at_ T.mt_Region___eq__.fn (ok_Region___eq__ T) (hr.mono (by decide)) T.b_Region___eq__ pass0) (pe_un (un_negO T.mt_Region___neg__.at_ T.mt_Region___neg__.fn (ok_Region___neg__ T) (hr.mono (by decide)) T.b_Region___neg__ pass0) (pe_un (un_invO T.mt_Region___invert__.at_ T.mt_Region___invert__.fn (ok_Region___invert__ T) (hr.mono (by decide)) T.b_Region___invert__ pass0) (pv 5))) (pe_un (un_invO T.mt_Region___invert__.at_ T.mt_Region___invert__.fn (ok_Region___invert__ T) (hr.mono (by decide)) T.b_Region___invert__ pass0) (pe_un (un_negO T.mt_Region___neg__.at_ T.mt_Region___neg__.fn (ok_Region___neg__ T) (hr.mono (by decide)) T.b_Region___neg__ pass0) (pv 5))) (nomark _))))))))
      (pss_cons (ps_set (i := 6) sc_law.nd rfl (by first | exact Or.inl rfl | exact Or.inr rfl) (pe_and (pv 6) (pe_and (pe_cmpR (op_eqO T.mt_Region___eq__.at_ T.mt_Region___eq__.fn (ok_Region___eq__ T) (hr.mono (by decide)) T.b_Region___eq__ pass0) (pe_op (op_binO (op := .BitXor) T.sf_Region T.mt_Region___xor__.at_ T.mt_Region___xor__.fn (ok_Region___xor__ T) (hr.mono (by decide)) T.b_Region___xor__ pass0) (pe_op (op_binO (op := .BitXor) T.sf_Region T.mt_Region___xor__.at_ T.mt_Region___xor__.fn (ok_Region___xor__ T) (hr.mono (by decide)) T.b_Region___xor__ pass0) (pv 3) (pv 4)) (pv 5)) (pe_op (op_binO (op := .BitXor) T.sf_Region T.mt_Region___xor__.at_ T.mt_Region___xor__.fn (ok_Region___xor__ T) (hr.mono (by decide)) T.b_Region___xor__ pass0) (pv 3) (pe_op (op_binO (op := .BitXor) T.sf_Region T.mt_Region___xor__.at_ T.mt_Region___xor__.fn (ok_Region___xor__ T) (hr.mono (by decide)) T.b_Region___xor__ pass0) (pv 4) (pv 5))) (nomark _)) (pe_and (pe_cmpR (op_eqO T.mt_Region___eq__.at_ T.mt_Region___eq__.fn (ok_Region___eq__ T) (hr.mono (by decide)) T.b_Region___eq__ pass0) (pe_op (op_binO (op := .BitXor) T.sf_Region T.mt_Region___xor__.at_ T.mt_Region___xor__.fn (ok_Region___xor__ T) (hr.mono (by decide)) T.b_Region___xor__ pass0) (pv 3) (pv 3)) (pe_call0 (ok_nothing T) (hr.mono (by decide)) (by rfl) T.g_nothing T.F_nothing.kp T.b_nothing .nil pass0) (nomark _)) (pe_one (pe_cmpR (op_eqO T.mt_Region___eq__.at_ T.mt_Region___eq__.fn (ok_Region___eq__ T) (hr.mono (by decide)) T.b_Region___eq__ pass0) (pe_op (op_binO (op := .BitOr) T.sf_Region T.mt_Region___or__.at_ T.mt_Region___or__.fn (ok_Region___or__ T) (hr.mono (by decide)) T.b_Region___or__ pass0) (pv 3) (pe_un (un_invO T.mt_Region___invert__.at_ T.mt_Region___invert__.fn (ok_Region___invert__ T) (hr.mono (by decide)) T.b_Region___invert__ pass0) (pv 3))) (pe_call0 (ok_every T) (hr.mono (by decide)) (by rfl) T.g_every T.F_every.kp T.b_every .nil pass0) (nomark _)))))))
      (pss_cons (ps_set (i := 6) sc_law.nd rfl (by first | exact Or.inl rfl | exact Or.inr rfl) (pe_and (pv 6) (pe_and (pe_cmpR (op_eqO T.mt_Region___eq__.at_ T.mt_Region___eq__.fn (ok_Region___eq__ T) (hr.mono (by decide)) T.b_Region___eq__ pass0) (pe_op (op_binO (op := .BitAnd) T.sf_Region T.mt_Region___and__.at_ T.mt_Region___and__.fn (ok_Region___and__ T) (hr.mono (by decide)) T.b_Region___and__ pass0) (pv 3) (pv 3)) (pv 3) (nomark _)) (pe_and (pe_cmpR (op_eqO T.mt_Region___eq__.at_ T.mt_Region___eq__.fn (ok_Region___eq__ T) (hr.mono (by decide)) T.b_Region___eq__ pass0) (pe_op (op_binO (op := .BitOr) T.sf_Region T.mt_Region___or__.at_ T.mt_Region___or__.fn (ok_Region___or__ T) (hr.mono (by decide)) T.b_Region___or__ pass0) (pv 3) (pv 3)) (pv 3) (nomark _)) (pe_one (pe_cmpR (op_eqO T.mt_Region___eq__.at_ T.mt_Region___eq__.fn (ok_Region___eq__ T) (hr.mono (by decide)) T.b_Region___eq__ pass0) (pe_op (op_binO (op := .Sub) T.sf_Region T.mt_Region___sub__.at_ T.mt_Region___sub__.fn (ok_Region___sub__ T) (hr.mono (by decide)) T.b_Region___sub__ pass0) (pv 4) (pv 4)) (pe_call0 (ok_nothing T) (hr.mono (by decide)) (by rfl) T.g_nothing T.F_nothing.kp T.b_nothing .nil pass0) (nomark _)))))))
      (pss_cons (ps_if (pt_cmpR op_notBl (pv 6) pe_bl (nomark _)) (pss_one (ps_ret pe_bl)) pss_nil)
      (pss_cons (ps_if (PW.pt (pw_or (pt_not (pt_val (pe_call (ok__law_in_place T) (hr.mono (by decide)) (by rfl) T.g__law_in_place T.F__law_in_place.kp T.b__law_in_place .nil pass0 (pa_cons (pv 3) (pa_cons (pv 4) (pa_cons (pv 5) pa_nil)))))) (pw_or1 (pt_not (pt_val (pe_call (ok__law_unlike T) (hr.mono (by decide)) (by rfl) T.g__law_unlike T.F__law_unlike.kp T.b__law_unlike .nil pass0 (pa_cons (pv 3) (pa_cons (pe_ix (r := rIxL K) ix_list (pv 2) pe_int (fun _ _ => rfl)) pa_nil)))))))) (pss_one (ps_ret pe_bl)) pss_nil)
      (pss_cons (ps_for PassesOwn.never rfl (pi_list (pe_lst (pa_cons (pv 3) (pa_cons (pv 4) (pa_cons (pv 5) (pa_cons (pe_op (op_binO (op := .BitAnd) T.sf_Region T.mt_Region___and__.at_ T.mt_Region___and__.fn (ok_Region___and__ T) (hr.mono (by decide)) T.b_Region___and__ pass0) (pv 3) (pv 4)) (pa_cons (pe_op (op_binO (op := .Sub) T.sf_Region T.mt_Region___sub__.at_ T.mt_Region___sub__.fn (ok_Region___sub__ T) (hr.mono (by decide)) T.b_Region___sub__ pass0) (pv 3) (pv 4)) (pa_cons (pe_op (op_binO (op := .BitXor) T.sf_Region T.mt_Region___xor__.at_ T.mt_Region___xor__.fn (ok_Region___xor__ T) (hr.mono (by decide)) T.b_Region___xor__ pass0) (pv 3) (pv 4)) (pa_cons (pe_op (op_binO (op := .BitAnd) T.sf_Region T.mt_Region___and__.at_ T.mt_Region___and__.fn (ok_Region___and__ T) (hr.mono (by decide)) T.b_Region___and__ pass0) (pv 4) (pv 5)) pa_nil))))))))) (pg_name (i := 7) sc_law.nd rfl (by first | exact Or.inl rfl | exact Or.inr rfl)) (pss_one (ps_if (PW.pt (pw_or (pt_cmpR op_eq (pe_callTy (call_boolO T.mt_Region___bool__.at_ T.mt_Region___bool__.fn (ok_Region___bool__ T) (hr.mono (by decide)) T.b_Region___bool__ pass0) (by rfl) T.z_bool (by decide +kernel) (pa_cons (pv 7) pa_nil)) (pe_cmpR (op_eqO T.mt_Region___eq__.at_ T.mt_Region___eq__.fn (ok_Region___eq__ T) (hr.mono (by decide)) T.b_Region___eq__ pass0) (pv 7) (pe_call0 (ok_nothing T) (hr.mono (by decide)) (by rfl) T.g_nothing T.F_nothing.kp T.b_nothing .nil pass0) (nomark _)) (nomark _)) (pw_or1 (pt_not (pt_val (pe_callB call_isi (by rfl) T.z_isinstance (by decide +kernel) (pa_cons (pe_cmpR (op_eqO T.mt_Region___eq__.at_ T.mt_Region___eq__.fn (ok_Region___eq__ T) (hr.mono (by decide)) T.b_Region___eq__ pass0) (pv 7) (pv 3) (nomark _)) (pa_cons (pe_bltn (v := .ty "bool") (u := .type "bool") (by rfl) T.z_bool (by decide +kernel) rfl) pa_nil)))))))) (pss_one (ps_ret pe_bl)) pss_nil)))
      (pss_cons (ps_for PassesOwn.never rfl (pi_list (pe_lc (own := [("_law_j", 11)]) (g := gName 11) (tt := tYes) rfl sc_law.nd (pi_range1 (by rfl) T.z_range (pa_cons pe_int pa_nil)) (blkOk_by (N := ["_law_script", "_law_draws", "_law_trees", "_law_a", "_law_b", "_law_c", "_law_good", "_law_one", "_law_d", "_law_g", "_law_k", "_law_j"]) (sc := defScope s_law) (by decide +kernel)) (fun _ _ _ _ _ => pg_name (i := 11) sc_law.nd rfl (by first | exact Or.inl rfl | exact Or.inr rfl)) (fun _ _ _ _ _ => pts_nil) (fun _ _ _ _ _ => (pe_call (ok__law_numbers T) (hr.mono (by decide)) (by rfl) T.g__law_numbers T.F__law_numbers.kp T.b__law_numbers .nil pass0 (pa_cons (pv 1) pa_nil))))) (pg_tup (by rfl) (pgs_cons (pg_name (i := 8) sc_law.nd rfl (by first | exact Or.inl rfl | exact Or.inr rfl)) (pgs_cons (pg_name (i := 9) sc_law.nd rfl (by first | exact Or.inl rfl | exact Or.inr rfl)) (pgs_cons (pg_name (i := 10) sc_law.nd rfl (by first | exact Or.inl rfl | exact Or.inr rfl)) pgs_nil)))) (pss_one (ps_for PassesOwn.never rfl (pi_range1 (by rfl) T.z_range (pa_cons pe_int pa_nil)) (pg_name (i := 11) sc_law.nd rfl (by first | exact Or.inl rfl | exact Or.inr rfl)) (pss_cons (ps_if (pt_cmpR op_ne (pe_cmpR (op_inO T.mt_Region___contains__.at_ T.mt_Region___contains__.fn (ok_Region___contains__ T) (hr.mono (by decide)) T.b_Region___contains__ pass0) (pe_make T.m_Offset (ok_Offset___init__ T) (hr.mono (by decide)) (by rfl) T.g_Offset T.b_Offset___init__ .nil passL (pa_cons (pv 8) (pa_cons (pv 9) (pa_cons (pv 10) pa_nil)))) (pe_ix (r := rIxL K) ix_list (pe_lst (pa_cons (pv 3) (pa_cons (pv 4) (pa_cons (pv 5) pa_nil)))) (pv 11) (fun _ _ => rfl)) (by rfl)) (pe_call (ok__law_holds T 2) (hr.mono (by decide)) (by rfl) T.g__law_holds T.F__law_holds.kp T.b__law_holds .nil pass0 (pa_cons (pe_ix (r := rIxL K) ix_list (pv 2) (pv 11) (fun _ _ => rfl)) (pa_cons (pv 8) (pa_cons (pv 9) (pa_cons (pv 10) pa_nil))))) (nomark _)) (pss_one (ps_ret pe_bl)) pss_nil)
      (pss_one (ps_if (pt_cmpR op_ne (pe_cmpR (op_inO T.mt_Region___contains__.at_ T.mt_Region___contains__.fn (ok_Region___contains__ T) (hr.mono (by decide)) T.b_Region___contains__ pass0) (pe_un (un_negO T.mt_Offset___neg__.at_ T.mt_Offset___neg__.fn (ok_Offset___neg__ T) (hr.mono (by decide)) T.b_Offset___neg__ pass0) (pe_make T.m_Offset (ok_Offset___init__ T) (hr.mono (by decide)) (by rfl) T.g_Offset T.b_Offset___init__ .nil passL (pa_cons (pv 8) (pa_cons (pv 9) (pa_cons (pv 10) pa_nil))))) (pe_un (un_negO T.mt_Region___neg__.at_ T.mt_Region___neg__.fn (ok_Region___neg__ T) (hr.mono (by decide)) T.b_Region___neg__ pass0) (pe_ix (r := rIxL K) ix_list (pe_lst (pa_cons (pv 3) (pa_cons (pv 4) (pa_cons (pv 5) pa_nil)))) (pv 11) (fun _ _ => rfl))) (by rfl)) (pe_call (ok__law_holds T 2) (hr.mono (by decide)) (by rfl) T.g__law_holds T.F__law_holds.kp T.b__law_holds .nil pass0 (pa_cons (pe_ix (r := rIxL K) ix_list (pv 2) (pv 11) (fun _ _ => rfl)) (pa_cons (pv 8) (pa_cons (pv 9) (pa_cons (pv 10) pa_nil))))) (nomark _)) (pss_one (ps_ret pe_bl)) pss_nil))))))
      (pss_one (ps_ret pe_bl)))))))))))))), ?_⟩
  try simp only [nox_K, cx_K]
  wtm_at "rd"
  refine ⟨a0, ns, rfl, hS, hlen, fun d c0 r B D2 S1 nd nc nr => ?_⟩
  wtm_at "rd"
  refine ⟨d, c0, r, 1, rfl, by decide, D2, fun ta p0 H1 k0 l0 e0 a1 D3 E3 => ?_⟩
  wtm_at "rd"
  refine ⟨d, c0, r, rfl, D3, fun tb p1 H2 k1 l1 e1 a2 D4 E4 => ?_⟩
  wtm_at "rd"
  refine ⟨d, c0, r, rfl, D4, fun tc p2 H3 k2 l2 e2 a3 D5 E5 => ?_⟩
  have m1 : Dom B H1 := Dom.ext D2 D3 E3
  have m2 : Dom B H2 := m1.trans (Dom.ext D3 D4 E4)
  have a1 := (a1.keep (keep_d D2 D3 E4)).keep (keep_d D2 D4 E5)
  have a2 := (a2.mono m1).keep (keep_d D2 D4 E5)
  have a3 := a3.mono m2
  have m3 : Dom B H3 := m2.trans (Dom.ext D4 D5 E5)
  wtm_at "rd"
  refine r_new rfl fun L n_L => ?_
  have sL := same_new (o := .lst [V.ref p0, .ref p1, .ref p2]) n_L
  have hL : (upd H3 L (.lst [V.ref p0, .ref p1, .ref p2])) L = some (.lst [V.ref p0, .ref p1, .ref p2]) := upd_same
  have a1 := a1.same sL
  have a2 := a2.same sL
  have a3 := a3.same sL
  have D6 := D5.same sL
  have Ld := D5.ned n_L
  have Lr := D5.ner n_L
  have n_L := m3 _ n_L
  have m4 := m3.trans (Dom.of sL)
  generalize upd H3 L (.lst [V.ref p0, .ref p1, .ref p2]) = H4 at hL a1 a2 a3 D6 m4 ⊢
  clear sL
  wtm_at "rd"
  refine r_itl (SqL.of hL) ?_
  refine lc_rel (RgV T.C_Region T.C_Weights T.C_Side [ta, tb, tc]) (fun i v N M H h m => h.mono m) (fun i v N H H' h k => h.keep k) (SqL.of hL) (by show 3 ≤ 1000; decide) (fun i x H' QQ hx s' hq => ?_) fun Mm ys H5 n_M hM ysl hys s5 => ?_
  · obtain ⟨p, t, hti, rfl, ha, hok, hlv, hdp⟩ : ∃ p t, [ta, tb, tc][i]? = some t ∧ x = .ref p ∧ TrAt (fun a => B a = none) H4 t p ∧ t.ok ∧ t.leaves ≤ 9 ∧ t.dep < 2 := by
      rcases i with _ | _ | _ | i
      · cases hx; exact ⟨p0, ta, rfl, rfl, a1, k0, by omega, by omega⟩
      · cases hx; exact ⟨p1, tb, rfl, rfl, a2, k1, by omega, by omega⟩
      · cases hx; exact ⟨p2, tc, rfl, rfl, a3, k2, by omega, by omega⟩
      · cases hx
    wtm_at "rd"
    refine ⟨p, _, t, rfl, hdp, hok, hlv, ha.same s', fun x H4' nx kx sx => ?_⟩
    exact hq _ _ ⟨x, t, hti, rfl, kx⟩ sx
  obtain ⟨v0, v1, v2, rfl⟩ := threeV (ysl.trans rfl)
  obtain ⟨a, t, e, rfl, oa⟩ := hys 0 v0 rfl
  cases e
  obtain ⟨b, t, e, rfl, ob⟩ := hys 1 v1 rfl
  cases e
  obtain ⟨c, t, e, rfl, oc⟩ := hys 2 v2 rfl
  cases e
  have oa := oa.mono m4
  have ob := ob.mono m4
  have oc := oc.mono m4
  have hL := s5 _ _ hL
  have a1 := a1.same s5
  have a2 := a2.same s5
  have a3 := a3.same s5
  have D7 := D6.same s5
  have la : ta.leaves ≤ 2 := l0
  have lb : tb.leaves ≤ 1 := by omega
  have lc : tc.leaves ≤ 1 := by omega
  wtm_at "rd"
  refine r_glst (SqL.of hM) rfl ?_
  have sm : Same H5 H5 := fun _ _ z => z
  wtm_at "rd"
  refine inv_rg T (oa.same sm) (by show _ ≤ _; (try simp only [Tr.leaves]); omega) fun x1_ H1_ o1_ s1_ => ?_
  replace sm := sm.trans s1_
  wtm_at "rd"
  refine inv_rg T o1_ (by show _ ≤ _; (try simp only [Tr.leaves]); omega) fun x2_ H2_ o2_ s2_ => ?_
  replace sm := sm.trans s2_
  wtm_at "rd"
  refine eq_tr T o2_ (oa.same sm) (fun r g d => by simp only [Tr.holds] <;> cases ta.holds r g d <;> rfl) ?_
  wtm_at "rd"
  try rw [if_pos rfl]
  wtm_at "rd"
  refine or_rg T (oa.same sm) (ob.same sm) (by show _ ≤ _; (try simp only [Tr.leaves]); omega) fun x3_ H3_ o3_ s3_ => ?_
  replace sm := sm.trans s3_
  wtm_at "rd"
  refine inv_rg T o3_ (by show _ ≤ _; (try simp only [Tr.leaves]); omega) fun x4_ H4_ o4_ s4_ => ?_
  replace sm := sm.trans s4_
  wtm_at "rd"
  refine inv_rg T (oa.same sm) (by show _ ≤ _; (try simp only [Tr.leaves]); omega) fun x5_ H5_ o5_ s5_ => ?_
  replace sm := sm.trans s5_
  wtm_at "rd"
  refine inv_rg T (ob.same sm) (by show _ ≤ _; (try simp only [Tr.leaves]); omega) fun x6_ H6_ o6_ s6_ => ?_
  replace sm := sm.trans s6_
  wtm_at "rd"
  refine and_rg T (o5_.same s6_) o6_ (by show _ ≤ _; (try simp only [Tr.leaves]); omega) fun x7_ H7_ o7_ s7_ => ?_
  replace sm := sm.trans s7_
  wtm_at "rd"
  refine eq_tr T (o4_.same ((s5_.trans s6_).trans s7_)) o7_ (fun r g d => by simp only [Tr.holds] <;> cases ta.holds r g d <;> cases tb.holds r g d <;> rfl) ?_
  wtm_at "rd"
  try rw [if_pos rfl]
  wtm_at "rd"
  refine and_rg T (oa.same sm) (ob.same sm) (by show _ ≤ _; (try simp only [Tr.leaves]); omega) fun x8_ H8_ o8_ s8_ => ?_
  replace sm := sm.trans s8_
  wtm_at "rd"
  refine inv_rg T o8_ (by show _ ≤ _; (try simp only [Tr.leaves]); omega) fun x9_ H9_ o9_ s9_ => ?_
  replace sm := sm.trans s9_
  wtm_at "rd"
  refine inv_rg T (oa.same sm) (by show _ ≤ _; (try simp only [Tr.leaves]); omega) fun x10_ H10_ o10_ s10_ => ?_
  replace sm := sm.trans s10_
  wtm_at "rd"
  refine inv_rg T (ob.same sm) (by show _ ≤ _; (try simp only [Tr.leaves]); omega) fun x11_ H11_ o11_ s11_ => ?_
  replace sm := sm.trans s11_
  wtm_at "rd"
  refine or_rg T (o10_.same s11_) o11_ (by show _ ≤ _; (try simp only [Tr.leaves]); omega) fun x12_ H12_ o12_ s12_ => ?_
  replace sm := sm.trans s12_
  wtm_at "rd"
  refine eq_tr T (o9_.same ((s10_.trans s11_).trans s12_)) o12_ (fun r g d => by simp only [Tr.holds] <;> cases ta.holds r g d <;> cases tb.holds r g d <;> rfl) ?_
  wtm_at "rd"
  try rw [if_pos rfl]
  wtm_at "rd"
  refine sub_rg T (oa.same sm) (ob.same sm) (by show _ ≤ _; (try simp only [Tr.leaves]); omega) fun x13_ H13_ o13_ s13_ => ?_
  replace sm := sm.trans s13_
  wtm_at "rd"
  refine inv_rg T (ob.same sm) (by show _ ≤ _; (try simp only [Tr.leaves]); omega) fun x14_ H14_ o14_ s14_ => ?_
  replace sm := sm.trans s14_
  wtm_at "rd"
  refine and_rg T (oa.same sm) o14_ (by show _ ≤ _; (try simp only [Tr.leaves]); omega) fun x15_ H15_ o15_ s15_ => ?_
  replace sm := sm.trans s15_
  wtm_at "rd"
  refine eq_tr T (o13_.same (s14_.trans s15_)) o15_ (fun r g d => by simp only [Tr.holds] <;> cases ta.holds r g d <;> cases tb.holds r g d <;> rfl) ?_
  wtm_at "rd"
  wtm_at "rd"
  try rw [if_pos rfl]
  wtm_at "rd"
  refine xor_rg T (oa.same sm) (ob.same sm) (by show _ ≤ _; (try simp only [Tr.leaves]); omega) fun x16_ H16_ o16_ s16_ => ?_
  replace sm := sm.trans s16_
  wtm_at "rd"
  refine or_rg T (oa.same sm) (ob.same sm) (by show _ ≤ _; (try simp only [Tr.leaves]); omega) fun x17_ H17_ o17_ s17_ => ?_
  replace sm := sm.trans s17_
  wtm_at "rd"
  refine and_rg T (oa.same sm) (ob.same sm) (by show _ ≤ _; (try simp only [Tr.leaves]); omega) fun x18_ H18_ o18_ s18_ => ?_
  replace sm := sm.trans s18_
  wtm_at "rd"
  refine sub_rg T (o17_.same s18_) o18_ (by show _ ≤ _; (try simp only [Tr.leaves]); omega) fun x19_ H19_ o19_ s19_ => ?_
  replace sm := sm.trans s19_
  wtm_at "rd"
  refine eq_tr T (o16_.same ((s17_.trans s18_).trans s19_)) o19_ (fun r g d => by simp only [Tr.holds] <;> cases ta.holds r g d <;> cases tb.holds r g d <;> rfl) ?_
  wtm_at "rd"
  try rw [if_pos rfl]
  wtm_at "rd"
  refine or_rg T (ob.same sm) (oc.same sm) (by show _ ≤ _; (try simp only [Tr.leaves]); omega) fun x20_ H20_ o20_ s20_ => ?_
  replace sm := sm.trans s20_
  wtm_at "rd"
  refine and_rg T (oa.same sm) o20_ (by show _ ≤ _; (try simp only [Tr.leaves]); omega) fun x21_ H21_ o21_ s21_ => ?_
  replace sm := sm.trans s21_
  wtm_at "rd"
  refine and_rg T (oa.same sm) (ob.same sm) (by show _ ≤ _; (try simp only [Tr.leaves]); omega) fun x22_ H22_ o22_ s22_ => ?_
  replace sm := sm.trans s22_
  wtm_at "rd"
  refine and_rg T (oa.same sm) (oc.same sm) (by show _ ≤ _; (try simp only [Tr.leaves]); omega) fun x23_ H23_ o23_ s23_ => ?_
  replace sm := sm.trans s23_
  wtm_at "rd"
  refine or_rg T (o22_.same s23_) o23_ (by show _ ≤ _; (try simp only [Tr.leaves]); omega) fun x24_ H24_ o24_ s24_ => ?_
  replace sm := sm.trans s24_
  wtm_at "rd"
  refine eq_tr T (o21_.same ((s22_.trans s23_).trans s24_)) o24_ (fun r g d => by simp only [Tr.holds] <;> cases ta.holds r g d <;> cases tb.holds r g d <;> cases tc.holds r g d <;> rfl) ?_
  wtm_at "rd"
  try rw [if_pos rfl]
  wtm_at "rd"
  refine and_rg T (oa.same sm) (ob.same sm) (by show _ ≤ _; (try simp only [Tr.leaves]); omega) fun x25_ H25_ o25_ s25_ => ?_
  replace sm := sm.trans s25_
  wtm_at "rd"
  refine or_rg T (oa.same sm) o25_ (by show _ ≤ _; (try simp only [Tr.leaves]); omega) fun x26_ H26_ o26_ s26_ => ?_
  replace sm := sm.trans s26_
  wtm_at "rd"
  refine eq_tr T o26_ (oa.same sm) (fun r g d => by simp only [Tr.holds] <;> cases ta.holds r g d <;> cases tb.holds r g d <;> rfl) ?_
  wtm_at "rd"
  wtm_at "rd"
  try rw [if_pos rfl]
  wtm_at "rd"
  refine or_rg T (oa.same sm) (ob.same sm) (by show _ ≤ _; (try simp only [Tr.leaves]); omega) fun x27_ H27_ o27_ s27_ => ?_
  replace sm := sm.trans s27_
  wtm_at "rd"
  refine neg_rg T o27_ fun x28_ H28_ o28_ s28_ => ?_
  replace sm := sm.trans s28_
  wtm_at "rd"
  refine neg_rg T (oa.same sm) fun x29_ H29_ o29_ s29_ => ?_
  replace sm := sm.trans s29_
  wtm_at "rd"
  refine neg_rg T (ob.same sm) fun x30_ H30_ o30_ s30_ => ?_
  replace sm := sm.trans s30_
  wtm_at "rd"
  refine or_rg T (o29_.same s30_) o30_ (by show _ ≤ _; (try simp only [Tr.leaves]); omega) fun x31_ H31_ o31_ s31_ => ?_
  replace sm := sm.trans s31_
  wtm_at "rd"
  refine eq_tr T (o28_.same ((s29_.trans s30_).trans s31_)) o31_ (fun r g d => by simp only [Tr.holds] <;> cases ta.holds (0 - r) (0 - g) (0 - d) <;> cases tb.holds (0 - r) (0 - g) (0 - d) <;> rfl) ?_
  wtm_at "rd"
  try rw [if_pos rfl]
  wtm_at "rd"
  refine sub_rg T (oa.same sm) (oc.same sm) (by show _ ≤ _; (try simp only [Tr.leaves]); omega) fun x32_ H32_ o32_ s32_ => ?_
  replace sm := sm.trans s32_
  wtm_at "rd"
  refine neg_rg T o32_ fun x33_ H33_ o33_ s33_ => ?_
  replace sm := sm.trans s33_
  wtm_at "rd"
  refine neg_rg T (oa.same sm) fun x34_ H34_ o34_ s34_ => ?_
  replace sm := sm.trans s34_
  wtm_at "rd"
  refine neg_rg T (oc.same sm) fun x35_ H35_ o35_ s35_ => ?_
  replace sm := sm.trans s35_
  wtm_at "rd"
  refine sub_rg T (o34_.same s35_) o35_ (by show _ ≤ _; (try simp only [Tr.leaves]); omega) fun x36_ H36_ o36_ s36_ => ?_
  replace sm := sm.trans s36_
  wtm_at "rd"
  refine eq_tr T (o33_.same ((s34_.trans s35_).trans s36_)) o36_ (fun r g d => by simp only [Tr.holds] <;> cases ta.holds (0 - r) (0 - g) (0 - d) <;> cases tc.holds (0 - r) (0 - g) (0 - d) <;> rfl) ?_
  wtm_at "rd"
  try rw [if_pos rfl]
  wtm_at "rd"
  refine neg_rg T (ob.same sm) fun x37_ H37_ o37_ s37_ => ?_
  replace sm := sm.trans s37_
  wtm_at "rd"
  refine neg_rg T o37_ fun x38_ H38_ o38_ s38_ => ?_
  replace sm := sm.trans s38_
  wtm_at "rd"
  refine eq_tr T o38_ (ob.same sm) (fun r g d => by simp only [Tr.holds]; rw [show 0 - (0 - r) = r by omega, show 0 - (0 - g) = g by omega, show 0 - (0 - d) = d by omega]) ?_
  wtm_at "rd"
  try rw [if_pos rfl]
  wtm_at "rd"
  refine inv_rg T (oc.same sm) (by show _ ≤ _; (try simp only [Tr.leaves]); omega) fun x39_ H39_ o39_ s39_ => ?_
  replace sm := sm.trans s39_
  wtm_at "rd"
  refine neg_rg T o39_ fun x40_ H40_ o40_ s40_ => ?_
  replace sm := sm.trans s40_
  wtm_at "rd"
  refine neg_rg T (oc.same sm) fun x41_ H41_ o41_ s41_ => ?_
  replace sm := sm.trans s41_
  wtm_at "rd"
  refine inv_rg T o41_ (by show _ ≤ _; (try simp only [Tr.leaves]); omega) fun x42_ H42_ o42_ s42_ => ?_
  replace sm := sm.trans s42_
  wtm_at "rd"
  refine eq_tr T (o40_.same (s41_.trans s42_)) o42_ (fun r g d => by simp only [Tr.holds] <;> cases tc.holds (0 - r) (0 - g) (0 - d) <;> rfl) ?_
  wtm_at "rd"
  wtm_at "rd"
  try rw [if_pos rfl]
  wtm_at "rd"
  refine xor_rg T (oa.same sm) (ob.same sm) (by show _ ≤ _; (try simp only [Tr.leaves]); omega) fun x43_ H43_ o43_ s43_ => ?_
  replace sm := sm.trans s43_
  wtm_at "rd"
  refine xor_rg T o43_ (oc.same sm) (by show _ ≤ _; (try simp only [Tr.leaves]); omega) fun x44_ H44_ o44_ s44_ => ?_
  replace sm := sm.trans s44_
  wtm_at "rd"
  refine xor_rg T (ob.same sm) (oc.same sm) (by show _ ≤ _; (try simp only [Tr.leaves]); omega) fun x45_ H45_ o45_ s45_ => ?_
  replace sm := sm.trans s45_
  wtm_at "rd"
  refine xor_rg T (oa.same sm) o45_ (by show _ ≤ _; (try simp only [Tr.leaves]); omega) fun x46_ H46_ o46_ s46_ => ?_
  replace sm := sm.trans s46_
  wtm_at "rd"
  refine eq_tr T (o44_.same (s45_.trans s46_)) o46_ (fun r g d => by simp only [Tr.holds] <;> cases ta.holds r g d <;> cases tb.holds r g d <;> cases tc.holds r g d <;> rfl) ?_
  wtm_at "rd"
  try rw [if_pos rfl]
  wtm_at "rd"
  refine xor_rg T (oa.same sm) (oa.same sm) (by show _ ≤ _; (try simp only [Tr.leaves]); omega) fun x47_ H47_ o47_ s47_ => ?_
  replace sm := sm.trans s47_
  wtm_at "rd"
  refine ⟨rfl, fun x48_ H48_ n48_ q48_ s48_ => ?_⟩
  have o48_ : RgAt T.C_Region T.C_Weights T.C_Side _ H48_ x48_ (Tr.none).w (Tr.none).ex := q48_
  replace sm := sm.trans s48_
  wtm_at "rd"
  refine eq_tr T (o47_.same s48_) o48_ (fun r g d => by simp only [Tr.holds] <;> cases ta.holds r g d <;> rfl) ?_
  wtm_at "rd"
  try rw [if_pos rfl]
  wtm_at "rd"
  refine inv_rg T (oa.same sm) (by show _ ≤ _; (try simp only [Tr.leaves]); omega) fun x49_ H49_ o49_ s49_ => ?_
  replace sm := sm.trans s49_
  wtm_at "rd"
  refine or_rg T (oa.same sm) o49_ (by show _ ≤ _; (try simp only [Tr.leaves]); omega) fun x50_ H50_ o50_ s50_ => ?_
  replace sm := sm.trans s50_
  wtm_at "rd"
  refine ⟨rfl, fun x51_ H51_ n51_ q51_ s51_ => ?_⟩
  have o51_ : RgAt T.C_Region T.C_Weights T.C_Side _ H51_ x51_ (Tr.all).w (Tr.all).ex := q51_
  replace sm := sm.trans s51_
  wtm_at "rd"
  refine eq_tr T (o50_.same s51_) o51_ (fun r g d => by simp only [Tr.holds] <;> cases ta.holds r g d <;> rfl) ?_
  wtm_at "rd"
  wtm_at "rd"
  try rw [if_pos rfl]
  wtm_at "rd"
  refine and_rg T (oa.same sm) (oa.same sm) (by show _ ≤ _; (try simp only [Tr.leaves]); omega) fun x52_ H52_ o52_ s52_ => ?_
  replace sm := sm.trans s52_
  wtm_at "rd"
  refine eq_tr T o52_ (oa.same sm) (fun r g d => by simp only [Tr.holds] <;> cases ta.holds r g d <;> rfl) ?_
  wtm_at "rd"
  try rw [if_pos rfl]
  wtm_at "rd"
  refine or_rg T (oa.same sm) (oa.same sm) (by show _ ≤ _; (try simp only [Tr.leaves]); omega) fun x53_ H53_ o53_ s53_ => ?_
  replace sm := sm.trans s53_
  wtm_at "rd"
  refine eq_tr T o53_ (oa.same sm) (fun r g d => by simp only [Tr.holds] <;> cases ta.holds r g d <;> rfl) ?_
  wtm_at "rd"
  try rw [if_pos rfl]
  wtm_at "rd"
  refine sub_rg T (ob.same sm) (ob.same sm) (by show _ ≤ _; (try simp only [Tr.leaves]); omega) fun x54_ H54_ o54_ s54_ => ?_
  replace sm := sm.trans s54_
  wtm_at "rd"
  refine ⟨rfl, fun x55_ H55_ n55_ q55_ s55_ => ?_⟩
  have o55_ : RgAt T.C_Region T.C_Weights T.C_Side _ H55_ x55_ (Tr.none).w (Tr.none).ex := q55_
  replace sm := sm.trans s55_
  wtm_at "rd"
  refine eq_tr T (o54_.same s55_) o55_ (fun r g d => by simp only [Tr.holds] <;> cases tb.holds r g d <;> rfl) ?_
  wtm_at "rd"
  wtm_at "rd"
  refine r_notBl ?_
  rw [decide_eq_true rfl]
  wtm_at "rd"
  refine iteNT ?_
  wtm_at "rd"
  refine ⟨a, b, c, _, ta, tb, tc, rfl, ⟨oa.same sm, ob.same sm, oc.same sm, la, lb, lc⟩, fun J1 t1 => ?_⟩
  replace sm := sm.trans t1
  wtm_at "rd"
  refine iteNT ?_
  wtm_at "rd"
  try refine r_ixL (SqL.of (sm _ _ hL)) rfl ?_
  wtm_at "rd"
  obtain ⟨xs0, hx0⟩ := (a1.same sm).lst
  refine ⟨a, p0, _, ta, xs0, rfl, oa.same sm, la, hx0, fun J2 t2 => ?_⟩
  replace sm := sm.trans t2
  wtm_at "rd"
  refine iteNT ?_
  wtm_at "rd"
  refine r_for ?_
  wtm_at "rd"
  refine and_rg T (oa.same sm) (ob.same sm) (by show _ ≤ _; (try simp only [Tr.leaves]); omega) fun x56_ H56_ o56_ s56_ => ?_
  replace sm := sm.trans s56_
  wtm_at "rd"
  refine sub_rg T (oa.same sm) (ob.same sm) (by show _ ≤ _; (try simp only [Tr.leaves]); omega) fun x57_ H57_ o57_ s57_ => ?_
  replace sm := sm.trans s57_
  wtm_at "rd"
  refine xor_rg T (oa.same sm) (ob.same sm) (by show _ ≤ _; (try simp only [Tr.leaves]); omega) fun x58_ H58_ o58_ s58_ => ?_
  replace sm := sm.trans s58_
  wtm_at "rd"
  refine and_rg T (ob.same sm) (oc.same sm) (by show _ ≤ _; (try simp only [Tr.leaves]); omega) fun x59_ H59_ o59_ s59_ => ?_
  replace sm := sm.trans s59_
  wtm_at "rd"
  refine r_new rfl fun Lo n_Lo => ?_
  have sLo := same_new (o := .lst [V.ref a, .ref b, .ref c, .ref x56_, .ref x57_, .ref x58_, .ref x59_]) n_Lo
  have hLo : (upd H59_ Lo (.lst [V.ref a, .ref b, .ref c, .ref x56_, .ref x57_, .ref x58_, .ref x59_])) Lo = some (.lst [V.ref a, .ref b, .ref c, .ref x56_, .ref x57_, .ref x58_, .ref x59_]) := upd_same
  have tr : ∀ {N : Addr → Prop} (a : Addr), N a → True := fun _ _ => trivial
  have hall : All2 (RlV T.C_Region T.C_Weights T.C_Side (upd H59_ Lo (.lst [V.ref a, .ref b, .ref c, .ref x56_, .ref x57_, .ref x58_, .ref x59_]))) [V.ref a, .ref b, .ref c, .ref x56_, .ref x57_, .ref x58_, .ref x59_] [ta, tb, tc, .and ta tb, .sub ta tb, .xor ta tb, .and tb tc] :=
    All2.snoc (All2.snoc (All2.snoc (All2.snoc (All2.snoc (All2.snoc (All2.snoc All2.nil ⟨a, rfl, ((oa.same sm).same sLo).mono tr, by omega⟩) ⟨b, rfl, ((ob.same sm).same sLo).mono tr, by omega⟩) ⟨c, rfl, ((oc.same sm).same sLo).mono tr, by omega⟩)
      ⟨x56_, rfl, RgAt.same (o56_.same ((s57_.trans s58_).trans s59_)) sLo, by simp only [Tr.leaves]; omega⟩) ⟨x57_, rfl, RgAt.same (o57_.same (s58_.trans s59_)) sLo, by simp only [Tr.leaves]; omega⟩) ⟨x58_, rfl, RgAt.same (o58_.same s59_) sLo, by simp only [Tr.leaves]; omega⟩) ⟨x59_, rfl, RgAt.same o59_ sLo, by simp only [Tr.leaves]; omega⟩
  replace sm := sm.trans sLo
  generalize upd H59_ Lo (.lst [V.ref a, .ref b, .ref c, .ref x56_, .ref x57_, .ref x58_, .ref x59_]) = G at sm hLo hall ⊢
  clear sLo
  wtm_at "rd"
  refine r_itl (SqL.of hLo) ?_
  refine for_list (K := K) (a := Lo) (xs := [V.ref a, .ref b, .ref c, .ref x56_, .ref x57_, .ref x58_, .ref x59_]) (fun i σ H' => ∃ (x7 : Option V), σ = [some (.ref a0), some (.ref d), some (.ref L), some (.ref a), some (.ref b), some (.ref c), some (.bl true), x7, none, none, none, none] ∧ Same G H') ⟨_, rfl, fun _ _ z => z⟩ (fun i σ H' _ ⟨_, _, s⟩ => SqL.of (s _ _ hLo)) ?_ ?_
  · rintro i v σ J3 hv ⟨x7, rfl, t3⟩
    obtain ⟨t, ht, b1, rfl, ob1, lv⟩ := hall.get hv
    wtm_at "rd"
    refine bool_rg T (ob1.same t3) (by omega) fun r1 J4 e1 t4 => ?_
    have t34 := t3.trans t4
    wtm_at "rd"
    refine ⟨rfl, fun x5 J5 n5 q5 t5 => ?_⟩
    have o5 : RgAt T.C_Region T.C_Weights T.C_Side _ J5 x5 Tr.none.w Tr.none.ex := q5
    have t35 := t34.trans t5
    wtm_at "rd"
    refine eq_rg T (ob1.same t35) o5 fun r2 e2 => ?_
    obtain rfl : r2 = !r1 := by
      have e2 := e2.trans tr_eq
      cases r1 with
      | true =>
        obtain ⟨x, y, z, hp, hz⟩ := e1.mp rfl
        cases r2 with
        | false => rfl
        | true =>
          have w := e2.mp rfl x y z hp
          rw [hz] at w
          cases w
      | false =>
        refine e2.mpr fun x y z hp => ?_
        cases hz : t.holds x y z with
        | false => rfl
        | true => exact absurd (e1.mpr ⟨x, y, z, hp, hz⟩) Bool.false_ne_true
    wtm_at "rd"
    rw [if_neg (by cases r1 <;> exact Bool.false_ne_true)]
    wtm_at "rd"
    refine eq_rg T (ob1.same t35) ((oa.same sm).same t35) fun r3 _ => ?_
    wtm_at "rd"
    refine r_isi (.ty "bool") (.base (.bl _)) kit_self ?_
    wtm_at "rd"
    refine iteNT ?_
    wtm_at "rd"
    exact ⟨_, rfl, t35⟩
  rintro σ J3 ⟨x7, rfl, t3⟩
  replace sm := sm.trans t3
  have D8 := D7.same sm
  wtm_at "rd"
  refine r_for ?_
  wtm_at "rd"
  refine r_upto (by decide) (by decide) ?_
  refine lc_drawsR (fun _ v N H => NumAt3 v N H) (fun i v N M H h m => h) (fun i v N H H' h k => NumAt3.keep h k) (by decide) D8 (fun i H' QQ hi D' E' hq => ?_) fun Z ns3 G2 zl hzs n_Z hZ D9 E9 => ?_
  · wtm_at "rd"
    exact ⟨d, c0, r, rfl, D', fun t x y k H5 hp ht D6 E6 => hq _ _ ⟨t, x, y, k, rfl, hp, ht⟩ D6 E6⟩
  have kd : KeepN (fun a => B a = none) J3 G2 := keep_d D2 D8 E9
  have oa := (oa.same sm).keep kd
  have ob := (ob.same sm).keep kd
  have oc := (oc.same sm).keep kd
  have a1 := (a1.same sm).keep kd
  have a2 := (a2.same sm).keep kd
  have a3 := (a3.same sm).keep kd
  have hL := kd _ _ (sm _ _ hL) (.inl n_L)
  refine r_itl (SqL.of hZ) ?_
  refine for_list (K := K) (a := Z) (xs := ns3) (fun i σ H' => ∃ (x7 x8 x9 x10 x11 : Option V), σ = [some (.ref a0), some (.ref d), some (.ref L), some (.ref a), some (.ref b), some (.ref c), some (.bl true), x7, x8, x9, x10, x11] ∧ Same G2 H') ⟨_, _, _, _, _, rfl, fun _ _ z => z⟩ (fun i σ H' _ ⟨_, _, _, _, _, _, s⟩ => SqL.of (s _ _ hZ)) ?_ ?_
  · rintro i v σ J4 hv ⟨x7, x8, x9, x10, x11, rfl, t4⟩
    obtain ⟨tn, x, y, kk, rfl, hb, htn⟩ := hzs i v hv
    refine r_gtup (SqT.of (t4 _ _ htn)) rfl ?_
    wtm_at "rd"
    refine r_for (r_rng1 ?_)
    wtm_at "rd"
    refine r_upto (by decide) (by decide) ?_
    refine for_range (fun j σ H' => ∃ (x11 : Option V), σ = [some (.ref a0), some (.ref d), some (.ref L), some (.ref a), some (.ref b), some (.ref c), some (.bl true), x7, some (.int x), some (.int y), some (.int kk), x11] ∧ Same G2 H') ⟨_, rfl, t4⟩ ?_ ?_
    · rintro j σ J5 hj ⟨x11, rfl, t5⟩
      have hj : j < 3 := hj
      obtain ⟨p, t, rg, i1, i2, At, Rt, dp, lv⟩ : ∃ p t rg, atI [V.ref a, .ref b, .ref c] (0 + (j : Int)) = some (.ref rg) ∧ atI [V.ref p0, .ref p1, .ref p2] (0 + (j : Int)) = some (.ref p) ∧ TrAt (fun a => B a = none) G2 t p ∧ RgAt T.C_Region T.C_Weights T.C_Side (fun a => B a = none) G2 rg t.w t.ex ∧ t.dep < 2 ∧ t.leaves ≤ 2 := by
        rcases (show j = 0 ∨ j = 1 ∨ j = 2 by omega) with e | e | e <;> subst e
        · exact ⟨p0, ta, a, rfl, rfl, a1, oa, by omega, la⟩
        · exact ⟨p1, tb, b, rfl, rfl, a2, ob, by omega, by omega⟩
        · exact ⟨p2, tc, c, rfl, rfl, a3, oc, by omega, by omega⟩
      wtm_at "rd"
      refine make_offF hb fun o J6 no t6 ho => ?_
      replace t5 := t5.trans t6
      wtm_at "rd"
      refine r_new rfl fun l1 n_l1 => ?_
      have t7 := same_new (o := .lst [V.ref a, .ref b, .ref c]) n_l1
      replace t5 := t5.trans t7
      wtm_at "rd"
      refine r_ixL (SqL.of upd_same) i1 ?_
      have ho7 : OffAt T.C_Offset (upd J6 l1 (.lst [V.ref a, .ref b, .ref c])) o x y kk := by
        obtain ⟨dx, e⟩ := ho
        exact ⟨dx, t7 _ _ e⟩
      refine in_rg T (Rt.same t5) (lv18 (by omega)) ho7 hb fun J8 t8 => ?_
      replace t5 := t5.trans t8
      wtm_at "rd"
      refine r_ixL (SqL.of (t5 _ _ hL)) i2 ?_
      wtm_at "rd"
      refine ⟨p, x, y, kk, _, t, rfl, dp, At.same t5, fun J9 t9 => ?_⟩
      replace t5 := t5.trans t9
      wtm_at "rd"
      refine r_itebn (fun z => ?_) (fun _ => ?_)
      · rw [t.w_at hb, dec_b2i, beq_self_eq_true] at z
        cases z
      wtm_at "rd"
      refine make_offF hb fun o2 J10 no2 t10 ho2 => ?_
      replace t5 := t5.trans t10
      wtm_at "rd"
      refine neg_off ho2 hb fun o3 J11 no3 t11 ho3 => ?_
      replace t5 := t5.trans t11
      have hb3 : possB (-x) (-y) (-kk) = true := by rw [poss_neg]; exact hb
      wtm_at "rd"
      refine r_new rfl fun l2 n_l2 => ?_
      have t12 := same_new (o := .lst [V.ref a, .ref b, .ref c]) n_l2
      replace t5 := t5.trans t12
      wtm_at "rd"
      refine r_ixL (SqL.of upd_same) i1 ?_
      wtm_at "rd"
      refine neg_rg T (Rt.same t5) fun nr J13 onr t13 => ?_
      replace t5 := t5.trans t13
      have ho13 : OffAt T.C_Offset J13 o3 (-x) (-y) (-kk) := by
        obtain ⟨dx, e⟩ := ho3
        exact ⟨dx, t13 _ _ (t12 _ _ e)⟩
      wtm_at "rd"
      refine in_rg T onr (lv18 (t := Tr.neg t) (by simp only [Tr.leaves]; omega)) ho13 hb3 fun J14 t14 => ?_
      replace t5 := t5.trans t14
      wtm_at "rd"
      refine r_ixL (SqL.of (t5 _ _ hL)) i2 ?_
      wtm_at "rd"
      refine ⟨p, x, y, kk, _, t, rfl, dp, At.same t5, fun J15 t15 => ?_⟩
      replace t5 := t5.trans t15
      wtm_at "rd"
      refine r_itebn (fun z => ?_) (fun _ => ?_)
      · rw [(Tr.neg t).w_at hb3, dec_b2i] at z
        have e : (Tr.neg t).holds (-x) (-y) (-kk) = t.holds x y kk := by
          show t.holds (0 - -x) (0 - -y) (0 - -kk) = _
          rw [show 0 - -x = x by omega, show 0 - -y = y by omega, show 0 - -kk = kk by omega]
        rw [e, beq_self_eq_true] at z
        cases z
      wtm_at "rd"
      exact ⟨_, rfl, t5⟩
    · rintro σ J5 ⟨x11, rfl, t5⟩
      exact ⟨_, _, _, _, _, rfl, t5⟩
  · rintro σ J4 ⟨x7, x8, x9, x10, x11, rfl, t4⟩
    wtm_at "rd"
    exact q _

end
def _root_.PySem.W.Fast.tw2872270144361633026 : Unit := ()
def _root_.PySem.W.Fast.tw9983406822416582602 : Unit := ()
def _root_.PySem.W.Fast.tw15941407322702800260 : Unit := ()
def _root_.PySem.W.Fast.tw14591651164229706832 : Unit := ()
def _root_.PySem.W.Fast.tw10372463192155134882 : Unit := ()
def _root_.PySem.W.Fast.tw5275931753195777258 : Unit := ()
def _root_.PySem.W.Fast.tw11341559360815061429 : Unit := ()
def _root_.PySem.W.Fast.tw1709172141011211695 : Unit := ()
def _root_.PySem.W.Fast.tw14244381801918332887 : Unit := ()
def _root_.PySem.W.Fast.tw16917226747705563448 : Unit := ()
def _root_.PySem.W.Fast.tw2384918812980736120 : Unit := ()
def _root_.PySem.W.Fast.tw6743232443643092418 : Unit := ()
def _root_.PySem.W.Fast.tw5760501167719194231 : Unit := ()
def _root_.PySem.W.Fast.tw6842637764031523222 : Unit := ()
def _root_.PySem.W.Fast.tw15395015912976049436 : Unit := ()
def _root_.PySem.W.Fast.tw12824915849104204214 : Unit := ()
def _root_.PySem.W.Fast.tw6367745441137106446 : Unit := ()
def _root_.PySem.W.Fast.tw18149026186556496831 : Unit := ()
def _root_.PySem.W.Fast.tw5264584423927849589 : Unit := ()
def _root_.PySem.W.Fast.tw6416577009145406544 : Unit := ()
def _root_.PySem.W.Fast.tw8372865665780543728 : Unit := ()
theorem noI_of {K : PySem.W.Frag} {C : Addr} {cd : ClassData} {nm : String} {s : Str} (h1 : PySem.W.clsIn K C = some cd) (h2 : cd.mro = [.ref C, .type "object"]) (h3 : PySem.W.findIn K (.ref C) s = some none) (h4 : PySem.W.findIn K (.type "object") s = some none) (e : dunderI nm = s) : noI K C nm = true := by
  subst e
  unfold noI
  rw [h1, h3, h4]
  dsimp only
  rw [decide_eq_true h2, decide_eq_true rfl]
  rfl
theorem binTB_of {K : PySem.W.Frag} {C f : Addr} {nm T : String} {s r : Str} {x y : Option Value} (h0 : PySem.W.findIn K (.ref C) r = some (some (.ref f))) (h1 : PySem.W.findIn K (.type T) s = some x) (h2 : PySem.W.findIn K (.type T) r = some y) (h3 : PySem.W.subIn K (.type T) (.ref C) = some false) (e1 : PySem.dunder nm = s) (e2 : dunderR nm = r) : binTB K C nm T = true := by
  subst e1 e2
  unfold binTB
  rw [h0, h1, h2, h3]
  rfl
theorem all_mk {l : PySem.W.OpenLaw} {w : World} {K : PySem.W.Frag} {h : Heap} {mg : Str → Option Value} {fa : Addr} (X : K.In h) (G : h.Ns mainGlobals mg) (hfa : mg "law" = some (.ref fa))
    {C_WindowError : Addr}
    {C_TurnedStretch : Addr}
    {nm_TurnedStretch q_TurnedStretch : Str} {N_TurnedStretch : Addr} {bs_TurnedStretch bm_TurnedStretch : List Value} {sn_TurnedStretch : List Str} {sub_TurnedStretch : List Value} {ab_TurnedStretch : Bool} {col_TurnedStretch : Option Bool} {dd_TurnedStretch : Option Addr} {m0_TurnedStretch m1_TurnedStretch m2_TurnedStretch m3_TurnedStretch m5_TurnedStretch : Option Value}
    {C_BadOffset : Addr}
    {nm_BadOffset q_BadOffset : Str} {N_BadOffset : Addr} {bs_BadOffset bm_BadOffset : List Value} {sn_BadOffset : List Str} {sub_BadOffset : List Value} {ab_BadOffset : Bool} {col_BadOffset : Option Bool} {dd_BadOffset : Option Addr} {m0_BadOffset m1_BadOffset m2_BadOffset m3_BadOffset m5_BadOffset : Option Value}
    {C_Offset : Addr}
    {C_Side : Addr}
    {C_Weights : Addr}
    {C_Region : Addr}
    {cdo_Region : ClassData}
    {C_Stretch : Addr}
    {C_Cell : Addr}
    {od0 an0 : Option Addr} {sl0 : Array (Option Value)} {oc0 kV0 dc0 pm0 cd0 ct0 : Value} {f0 : Addr}
    {od1 an1 : Option Addr} {sl1 : Array (Option Value)} {oc1 kV1 dc1 pm1 cd1 ct1 : Value} {f1 : Addr}
    {od2 an2 : Option Addr} {sl2 : Array (Option Value)} {oc2 kV2 dc2 pm2 cd2 ct2 : Value} {f2 : Addr}
    {od3 an3 : Option Addr} {sl3 : Array (Option Value)} {oc3 kV3 dc3 pm3 cd3 ct3 : Value} {f3 : Addr}
    {od4 an4 : Option Addr} {sl4 : Array (Option Value)} {oc4 kV4 dc4 pm4 cd4 ct4 : Value} {f4 : Addr}
    {od5 an5 : Option Addr} {sl5 : Array (Option Value)} {oc5 kV5 dc5 pm5 cd5 ct5 : Value} {f5 : Addr}
    {od6 an6 : Option Addr} {sl6 : Array (Option Value)} {oc6 kV6 dc6 pm6 cd6 ct6 : Value} {f6 : Addr}
    {od7 an7 : Option Addr} {sl7 : Array (Option Value)} {oc7 kV7 dc7 pm7 cd7 ct7 : Value} {f7 : Addr}
    {od8 an8 : Option Addr} {sl8 : Array (Option Value)} {oc8 kV8 dc8 pm8 cd8 ct8 : Value} {f8 : Addr}
    {od9 an9 : Option Addr} {sl9 : Array (Option Value)} {oc9 kV9 dc9 pm9 cd9 ct9 : Value} {f9 : Addr}
    {od10 an10 : Option Addr} {sl10 : Array (Option Value)} {oc10 kV10 dc10 pm10 cd10 ct10 : Value} {f10 : Addr}
    {od11 an11 : Option Addr} {sl11 : Array (Option Value)} {oc11 kV11 dc11 pm11 cd11 ct11 : Value} {f11 : Addr}
    {od12 an12 : Option Addr} {sl12 : Array (Option Value)} {oc12 kV12 dc12 pm12 cd12 ct12 : Value} {f12 : Addr}
    {od13 an13 : Option Addr} {sl13 : Array (Option Value)} {oc13 kV13 dc13 pm13 cd13 ct13 : Value} {f13 : Addr}
    {od14 an14 : Option Addr} {sl14 : Array (Option Value)} {oc14 kV14 dc14 pm14 cd14 ct14 : Value} {f14 : Addr}
    {od15 an15 : Option Addr} {sl15 : Array (Option Value)} {oc15 kV15 dc15 pm15 cd15 ct15 : Value} {f15 : Addr}
    {od16 an16 : Option Addr} {sl16 : Array (Option Value)} {oc16 kV16 dc16 pm16 cd16 ct16 : Value} {f16 : Addr}
    {od17 an17 : Option Addr} {sl17 : Array (Option Value)} {oc17 kV17 dc17 pm17 cd17 ct17 : Value} {f17 : Addr}
    {od18 an18 : Option Addr} {sl18 : Array (Option Value)} {oc18 kV18 dc18 pm18 cd18 ct18 : Value} {f18 : Addr}
    {od19 an19 : Option Addr} {sl19 : Array (Option Value)} {oc19 kV19 dc19 pm19 cd19 ct19 : Value} {f19 : Addr}
    {od20 an20 : Option Addr} {sl20 : Array (Option Value)} {oc20 kV20 dc20 pm20 cd20 ct20 : Value} {f20 : Addr}
    {od21 an21 : Option Addr} {sl21 : Array (Option Value)} {oc21 kV21 dc21 pm21 cd21 ct21 : Value} {f21 : Addr}
    {od22 an22 : Option Addr} {sl22 : Array (Option Value)} {oc22 kV22 dc22 pm22 cd22 ct22 : Value} {f22 : Addr}
    {od23 an23 : Option Addr} {sl23 : Array (Option Value)} {oc23 kV23 dc23 pm23 cd23 ct23 : Value} {f23 : Addr}
    {od24 an24 : Option Addr} {sl24 : Array (Option Value)} {oc24 kV24 dc24 pm24 cd24 ct24 : Value} {f24 : Addr}
    {od25 an25 : Option Addr} {sl25 : Array (Option Value)} {oc25 kV25 dc25 pm25 cd25 ct25 : Value} {f25 : Addr}
    {od26 an26 : Option Addr} {sl26 : Array (Option Value)} {oc26 kV26 dc26 pm26 cd26 ct26 : Value} {f26 : Addr}
    {od27 an27 : Option Addr} {sl27 : Array (Option Value)} {oc27 kV27 dc27 pm27 cd27 ct27 : Value} {f27 : Addr}
    {od28 an28 : Option Addr} {sl28 : Array (Option Value)} {oc28 kV28 dc28 pm28 cd28 ct28 : Value} {f28 : Addr}
    {od29 an29 : Option Addr} {sl29 : Array (Option Value)} {oc29 kV29 dc29 pm29 cd29 ct29 : Value} {f29 : Addr}
    {od30 an30 : Option Addr} {sl30 : Array (Option Value)} {oc30 kV30 dc30 pm30 cd30 ct30 : Value} {f30 : Addr}
    {od31 an31 : Option Addr} {sl31 : Array (Option Value)} {oc31 kV31 dc31 pm31 cd31 ct31 : Value} {f31 : Addr}
    {od32 an32 : Option Addr} {sl32 : Array (Option Value)} {oc32 kV32 dc32 pm32 cd32 ct32 : Value} {f32 : Addr}
    {od33 an33 : Option Addr} {sl33 : Array (Option Value)} {oc33 kV33 dc33 pm33 cd33 ct33 : Value} {f33 : Addr}
    {od34 an34 : Option Addr} {sl34 : Array (Option Value)} {oc34 kV34 dc34 pm34 cd34 ct34 : Value} {f34 : Addr}
    {od35 an35 : Option Addr} {sl35 : Array (Option Value)} {oc35 kV35 dc35 pm35 cd35 ct35 : Value} {f35 : Addr}
    {od36 an36 : Option Addr} {sl36 : Array (Option Value)} {oc36 kV36 dc36 pm36 cd36 ct36 : Value} {f36 : Addr}
    {od37 an37 : Option Addr} {sl37 : Array (Option Value)} {oc37 kV37 dc37 pm37 cd37 ct37 : Value} {f37 : Addr}
    {od38 an38 : Option Addr} {sl38 : Array (Option Value)} {oc38 kV38 dc38 pm38 cd38 ct38 : Value} {f38 : Addr}
    {od39 an39 : Option Addr} {sl39 : Array (Option Value)} {oc39 kV39 dc39 pm39 cd39 ct39 : Value} {f39 : Addr}
    {od40 an40 : Option Addr} {sl40 : Array (Option Value)} {oc40 kV40 dc40 pm40 cd40 ct40 : Value} {f40 : Addr}
    {od41 an41 : Option Addr} {sl41 : Array (Option Value)} {oc41 kV41 dc41 pm41 cd41 ct41 : Value} {f41 : Addr}
    {od42 an42 : Option Addr} {sl42 : Array (Option Value)} {oc42 kV42 dc42 pm42 cd42 ct42 : Value} {f42 : Addr}
    {od43 an43 : Option Addr} {sl43 : Array (Option Value)} {oc43 kV43 dc43 pm43 cd43 ct43 : Value} {f43 : Addr}
    {od44 an44 : Option Addr} {sl44 : Array (Option Value)} {oc44 kV44 dc44 pm44 cd44 ct44 : Value} {f44 : Addr}
    {od45 an45 : Option Addr} {sl45 : Array (Option Value)} {oc45 kV45 dc45 pm45 cd45 ct45 : Value} {f45 : Addr}
    {od46 an46 : Option Addr} {sl46 : Array (Option Value)} {oc46 kV46 dc46 pm46 cd46 ct46 : Value} {f46 : Addr}
    {od47 an47 : Option Addr} {sl47 : Array (Option Value)} {oc47 kV47 dc47 pm47 cd47 ct47 : Value} {f47 : Addr}
    {od48 an48 : Option Addr} {sl48 : Array (Option Value)} {oc48 kV48 dc48 pm48 cd48 ct48 : Value} {f48 : Addr}
    {od49 an49 : Option Addr} {sl49 : Array (Option Value)} {oc49 kV49 dc49 pm49 cd49 ct49 : Value} {f49 : Addr}
    {od50 an50 : Option Addr} {sl50 : Array (Option Value)} {oc50 kV50 dc50 pm50 cd50 ct50 : Value} {f50 : Addr}
    {od51 an51 : Option Addr} {sl51 : Array (Option Value)} {oc51 kV51 dc51 pm51 cd51 ct51 : Value} {f51 : Addr}
    {od52 an52 : Option Addr} {sl52 : Array (Option Value)} {oc52 kV52 dc52 pm52 cd52 ct52 : Value} {f52 : Addr}
    {od53 an53 : Option Addr} {sl53 : Array (Option Value)} {oc53 kV53 dc53 pm53 cd53 ct53 : Value} {f53 : Addr}
    {od54 an54 : Option Addr} {sl54 : Array (Option Value)} {oc54 kV54 dc54 pm54 cd54 ct54 : Value} {f54 : Addr}
    {od55 an55 : Option Addr} {sl55 : Array (Option Value)} {oc55 kV55 dc55 pm55 cd55 ct55 : Value} {f55 : Addr}
    {od56 an56 : Option Addr} {sl56 : Array (Option Value)} {oc56 kV56 dc56 pm56 cd56 ct56 : Value} {f56 : Addr}
    {od57 an57 : Option Addr} {sl57 : Array (Option Value)} {oc57 kV57 dc57 pm57 cd57 ct57 : Value} {f57 : Addr}
    {od58 an58 : Option Addr} {sl58 : Array (Option Value)} {oc58 kV58 dc58 pm58 cd58 ct58 : Value} {f58 : Addr}
    {od59 an59 : Option Addr} {sl59 : Array (Option Value)} {oc59 kV59 dc59 pm59 cd59 ct59 : Value} {f59 : Addr}
    {od60 an60 : Option Addr} {sl60 : Array (Option Value)} {oc60 kV60 dc60 pm60 cd60 ct60 : Value} {f60 : Addr}
    {od61 an61 : Option Addr} {sl61 : Array (Option Value)} {oc61 kV61 dc61 pm61 cd61 ct61 : Value} {f61 : Addr}
    {od62 an62 : Option Addr} {sl62 : Array (Option Value)} {oc62 kV62 dc62 pm62 cd62 ct62 : Value} {f62 : Addr}
    {od63 an63 : Option Addr} {sl63 : Array (Option Value)} {oc63 kV63 dc63 pm63 cd63 ct63 : Value} {f63 : Addr}
    {od64 an64 : Option Addr} {sl64 : Array (Option Value)} {oc64 kV64 dc64 pm64 cd64 ct64 : Value} {f64 : Addr}
    {od65 an65 : Option Addr} {sl65 : Array (Option Value)} {oc65 kV65 dc65 pm65 cd65 ct65 : Value} {f65 : Addr}
    {od66 an66 : Option Addr} {sl66 : Array (Option Value)} {oc66 kV66 dc66 pm66 cd66 ct66 : Value} {f66 : Addr}
    {od67 an67 : Option Addr} {sl67 : Array (Option Value)} {oc67 kV67 dc67 pm67 cd67 ct67 : Value} {f67 : Addr}
    {od68 an68 : Option Addr} {sl68 : Array (Option Value)} {oc68 kV68 dc68 pm68 cd68 ct68 : Value} {f68 : Addr}
    {od69 an69 : Option Addr} {sl69 : Array (Option Value)} {oc69 kV69 dc69 pm69 cd69 ct69 : Value} {f69 : Addr}
    {od70 an70 : Option Addr} {sl70 : Array (Option Value)} {oc70 kV70 dc70 pm70 cd70 ct70 : Value} {f70 : Addr}
    {od71 an71 : Option Addr} {sl71 : Array (Option Value)} {oc71 kV71 dc71 pm71 cd71 ct71 : Value} {f71 : Addr}
    {od72 an72 : Option Addr} {sl72 : Array (Option Value)} {oc72 kV72 dc72 pm72 cd72 ct72 : Value} {f72 : Addr}
    {od73 an73 : Option Addr} {sl73 : Array (Option Value)} {oc73 kV73 dc73 pm73 cd73 ct73 : Value} {f73 : Addr}
    {od74 an74 : Option Addr} {sl74 : Array (Option Value)} {oc74 kV74 dc74 pm74 cd74 ct74 : Value} {f74 : Addr}
    {od75 an75 : Option Addr} {sl75 : Array (Option Value)} {oc75 kV75 dc75 pm75 cd75 ct75 : Value} {f75 : Addr}
    {od76 an76 : Option Addr} {sl76 : Array (Option Value)} {oc76 kV76 dc76 pm76 cd76 ct76 : Value} {f76 : Addr}
    {od77 an77 : Option Addr} {sl77 : Array (Option Value)} {oc77 kV77 dc77 pm77 cd77 ct77 : Value} {f77 : Addr}
    {od78 an78 : Option Addr} {sl78 : Array (Option Value)} {oc78 kV78 dc78 pm78 cd78 ct78 : Value} {f78 : Addr}
    {od79 an79 : Option Addr} {sl79 : Array (Option Value)} {oc79 kV79 dc79 pm79 cd79 ct79 : Value} {f79 : Addr}
    (aC_WindowError : PySem.W.nsIn K mainGlobals "WindowError" = some (some (.ref C_WindowError)))
    (aC_TurnedStretch : PySem.W.nsIn K mainGlobals "TurnedStretch" = some (some (.ref C_TurnedStretch)))
    (aC_BadOffset : PySem.W.nsIn K mainGlobals "BadOffset" = some (some (.ref C_BadOffset)))
    (aC_Offset : PySem.W.nsIn K mainGlobals "Offset" = some (some (.ref C_Offset)))
    (aC_Side : PySem.W.nsIn K mainGlobals "Side" = some (some (.ref C_Side)))
    (aC_Weights : PySem.W.nsIn K mainGlobals "Weights" = some (some (.ref C_Weights)))
    (aC_Region : PySem.W.nsIn K mainGlobals "Region" = some (some (.ref C_Region)))
    (aC_Stretch : PySem.W.nsIn K mainGlobals "Stretch" = some (some (.ref C_Stretch)))
    (aC_Cell : PySem.W.nsIn K mainGlobals "Cell" = some (some (.ref C_Cell)))
    (a0 : PySem.W.findIn K (.ref C_TurnedStretch) "__init__" = some (some (.ref f0)))
    (i0 : PySem.W.isFn K (.ref f0) = true)
    (l0 : K.lookup f0 = some ⟨oc0, od0, .func (PySem.W.fnOf "__init__" "TurnedStretch.__init__" (defArgs s_TurnedStretch___init__) (defBody s_TurnedStretch___init__) (defScope s_TurnedStretch___init__) .none kV0 dc0 pm0 an0 cd0 ct0), sl0⟩)
    (c0 : PySem.W.codeIn K cd0 "TurnedStretch.__init__" = true)
    (k0 : PySem.W.keepIn K (.ref f0) = true)
    (a1 : PySem.W.findIn K (.ref C_BadOffset) "__init__" = some (some (.ref f1)))
    (i1 : PySem.W.isFn K (.ref f1) = true)
    (l1 : K.lookup f1 = some ⟨oc1, od1, .func (PySem.W.fnOf "__init__" "BadOffset.__init__" (defArgs s_BadOffset___init__) (defBody s_BadOffset___init__) (defScope s_BadOffset___init__) .none kV1 dc1 pm1 an1 cd1 ct1), sl1⟩)
    (c1 : PySem.W.codeIn K cd1 "BadOffset.__init__" = true)
    (k1 : PySem.W.keepIn K (.ref f1) = true)
    (a2 : PySem.W.nsIn K mainGlobals "inside" = some (some (.ref f2)))
    (l2 : K.lookup f2 = some ⟨oc2, od2, .func (PySem.W.fnOf "inside" "inside" (defArgs s_inside) (defBody s_inside) (defScope s_inside) .none kV2 dc2 pm2 an2 cd2 ct2), sl2⟩)
    (c2 : PySem.W.codeIn K cd2 "inside" = true)
    (k2 : PySem.W.keepIn K (.ref f2) = true)
    (a3 : PySem.W.nsIn K mainGlobals "starts_of" = some (some (.ref f3)))
    (l3 : K.lookup f3 = some ⟨oc3, od3, .func (PySem.W.fnOf "starts_of" "starts_of" (defArgs s_starts_of) (defBody s_starts_of) (defScope s_starts_of) .none kV3 dc3 pm3 an3 cd3 ct3), sl3⟩)
    (c3 : PySem.W.codeIn K cd3 "starts_of" = true)
    (k3 : PySem.W.keepIn K (.ref f3) = true)
    (a4 : PySem.W.nsIn K mainGlobals "mix" = some (some (.ref f4)))
    (l4 : K.lookup f4 = some ⟨oc4, od4, .func (PySem.W.fnOf "mix" "mix" (defArgs s_mix) (defBody s_mix) (defScope s_mix) .none kV4 dc4 pm4 an4 cd4 ct4), sl4⟩)
    (c4 : PySem.W.codeIn K cd4 "mix" = true)
    (k4 : PySem.W.keepIn K (.ref f4) = true)
    (a5 : PySem.W.nsIn K mainGlobals "line_at" = some (some (.ref f5)))
    (l5 : K.lookup f5 = some ⟨oc5, od5, .func (PySem.W.fnOf "line_at" "line_at" (defArgs s_line_at) (defBody s_line_at) (defScope s_line_at) .none kV5 dc5 pm5 an5 cd5 ct5), sl5⟩)
    (c5 : PySem.W.codeIn K cd5 "line_at" = true)
    (k5 : PySem.W.keepIn K (.ref f5) = true)
    (a6 : PySem.W.nsIn K mainGlobals "clean_line" = some (some (.ref f6)))
    (l6 : K.lookup f6 = some ⟨oc6, od6, .func (PySem.W.fnOf "clean_line" "clean_line" (defArgs s_clean_line) (defBody s_clean_line) (defScope s_clean_line) .none kV6 dc6 pm6 an6 cd6 ct6), sl6⟩)
    (c6 : PySem.W.codeIn K cd6 "clean_line" = true)
    (k6 : PySem.W.keepIn K (.ref f6) = true)
    (a7 : PySem.W.nsIn K mainGlobals "line_between" = some (some (.ref f7)))
    (l7 : K.lookup f7 = some ⟨oc7, od7, .func (PySem.W.fnOf "line_between" "line_between" (defArgs s_line_between) (defBody s_line_between) (defScope s_line_between) .none kV7 dc7 pm7 an7 cd7 ct7), sl7⟩)
    (c7 : PySem.W.codeIn K cd7 "line_between" = true)
    (k7 : PySem.W.keepIn K (.ref f7) = true)
    (a8 : PySem.W.nsIn K mainGlobals "mix_lines" = some (some (.ref f8)))
    (l8 : K.lookup f8 = some ⟨oc8, od8, .func (PySem.W.fnOf "mix_lines" "mix_lines" (defArgs s_mix_lines) (defBody s_mix_lines) (defScope s_mix_lines) .none kV8 dc8 pm8 an8 cd8 ct8), sl8⟩)
    (c8 : PySem.W.codeIn K cd8 "mix_lines" = true)
    (k8 : PySem.W.keepIn K (.ref f8) = true)
    (a9 : PySem.W.nsIn K mainGlobals "end_of" = some (some (.ref f9)))
    (l9 : K.lookup f9 = some ⟨oc9, od9, .func (PySem.W.fnOf "end_of" "end_of" (defArgs s_end_of) (defBody s_end_of) (defScope s_end_of) .none kV9 dc9 pm9 an9 cd9 ct9), sl9⟩)
    (c9 : PySem.W.codeIn K cd9 "end_of" = true)
    (k9 : PySem.W.keepIn K (.ref f9) = true)
    (a10 : PySem.W.nsIn K mainGlobals "index_of" = some (some (.ref f10)))
    (l10 : K.lookup f10 = some ⟨oc10, od10, .func (PySem.W.fnOf "index_of" "index_of" (defArgs s_index_of) (defBody s_index_of) (defScope s_index_of) .none kV10 dc10 pm10 an10 cd10 ct10), sl10⟩)
    (c10 : PySem.W.codeIn K cd10 "index_of" = true)
    (k10 : PySem.W.keepIn K (.ref f10) = true)
    (a11 : PySem.W.nsIn K mainGlobals "reaches" = some (some (.ref f11)))
    (l11 : K.lookup f11 = some ⟨oc11, od11, .func (PySem.W.fnOf "reaches" "reaches" (defArgs s_reaches) (defBody s_reaches) (defScope s_reaches) .none kV11 dc11 pm11 an11 cd11 ct11), sl11⟩)
    (c11 : PySem.W.codeIn K cd11 "reaches" = true)
    (k11 : PySem.W.keepIn K (.ref f11) = true)
    (a12 : PySem.W.nsIn K mainGlobals "places_of" = some (some (.ref f12)))
    (l12 : K.lookup f12 = some ⟨oc12, od12, .func (PySem.W.fnOf "places_of" "places_of" (defArgs s_places_of) (defBody s_places_of) (defScope s_places_of) .none kV12 dc12 pm12 an12 cd12 ct12), sl12⟩)
    (c12 : PySem.W.codeIn K cd12 "places_of" = true)
    (k12 : PySem.W.keepIn K (.ref f12) = true)
    (a13 : PySem.W.nsIn K mainGlobals "near" = some (some (.ref f13)))
    (l13 : K.lookup f13 = some ⟨oc13, od13, .func (PySem.W.fnOf "near" "near" (defArgs s_near) (defBody s_near) (defScope s_near) .none kV13 dc13 pm13 an13 cd13 ct13), sl13⟩)
    (c13 : PySem.W.codeIn K cd13 "near" = true)
    (k13 : PySem.W.keepIn K (.ref f13) = true)
    (a14 : PySem.W.nsIn K mainGlobals "grid_at" = some (some (.ref f14)))
    (l14 : K.lookup f14 = some ⟨oc14, od14, .func (PySem.W.fnOf "grid_at" "grid_at" (defArgs s_grid_at) (defBody s_grid_at) (defScope s_grid_at) .none kV14 dc14 pm14 an14 cd14 ct14), sl14⟩)
    (c14 : PySem.W.codeIn K cd14 "grid_at" = true)
    (k14 : PySem.W.keepIn K (.ref f14) = true)
    (a15 : PySem.W.nsIn K mainGlobals "needed_starts" = some (some (.ref f15)))
    (l15 : K.lookup f15 = some ⟨oc15, od15, .func (PySem.W.fnOf "needed_starts" "needed_starts" (defArgs s_needed_starts) (defBody s_needed_starts) (defScope s_needed_starts) .none kV15 dc15 pm15 an15 cd15 ct15), sl15⟩)
    (c15 : PySem.W.codeIn K cd15 "needed_starts" = true)
    (k15 : PySem.W.keepIn K (.ref f15) = true)
    (a16 : PySem.W.nsIn K mainGlobals "clean_grid" = some (some (.ref f16)))
    (l16 : K.lookup f16 = some ⟨oc16, od16, .func (PySem.W.fnOf "clean_grid" "clean_grid" (defArgs s_clean_grid) (defBody s_clean_grid) (defScope s_clean_grid) .none kV16 dc16 pm16 an16 cd16 ct16), sl16⟩)
    (c16 : PySem.W.codeIn K cd16 "clean_grid" = true)
    (k16 : PySem.W.keepIn K (.ref f16) = true)
    (a17 : PySem.W.nsIn K mainGlobals "grid_between" = some (some (.ref f17)))
    (l17 : K.lookup f17 = some ⟨oc17, od17, .func (PySem.W.fnOf "grid_between" "grid_between" (defArgs s_grid_between) (defBody s_grid_between) (defScope s_grid_between) .none kV17 dc17 pm17 an17 cd17 ct17), sl17⟩)
    (c17 : PySem.W.codeIn K cd17 "grid_between" = true)
    (k17 : PySem.W.keepIn K (.ref f17) = true)
    (a18 : PySem.W.nsIn K mainGlobals "flat_grid" = some (some (.ref f18)))
    (l18 : K.lookup f18 = some ⟨oc18, od18, .func (PySem.W.fnOf "flat_grid" "flat_grid" (defArgs s_flat_grid) (defBody s_flat_grid) (defScope s_flat_grid) .none kV18 dc18 pm18 an18 cd18 ct18), sl18⟩)
    (c18 : PySem.W.codeIn K cd18 "flat_grid" = true)
    (k18 : PySem.W.keepIn K (.ref f18) = true)
    (a19 : PySem.W.nsIn K mainGlobals "mix_grids" = some (some (.ref f19)))
    (l19 : K.lookup f19 = some ⟨oc19, od19, .func (PySem.W.fnOf "mix_grids" "mix_grids" (defArgs s_mix_grids) (defBody s_mix_grids) (defScope s_mix_grids) .none kV19 dc19 pm19 an19 cd19 ct19), sl19⟩)
    (c19 : PySem.W.codeIn K cd19 "mix_grids" = true)
    (k19 : PySem.W.keepIn K (.ref f19) = true)
    (a20 : PySem.W.nsIn K mainGlobals "possible" = some (some (.ref f20)))
    (l20 : K.lookup f20 = some ⟨oc20, od20, .func (PySem.W.fnOf "possible" "possible" (defArgs s_possible) (defBody s_possible) (defScope s_possible) .none kV20 dc20 pm20 an20 cd20 ct20), sl20⟩)
    (c20 : PySem.W.codeIn K cd20 "possible" = true)
    (k20 : PySem.W.keepIn K (.ref f20) = true)
    (a21 : PySem.W.nsIn K mainGlobals "zone_of" = some (some (.ref f21)))
    (l21 : K.lookup f21 = some ⟨oc21, od21, .func (PySem.W.fnOf "zone_of" "zone_of" (defArgs s_zone_of) (defBody s_zone_of) (defScope s_zone_of) .none kV21 dc21 pm21 an21 cd21 ct21), sl21⟩)
    (c21 : PySem.W.codeIn K cd21 "zone_of" = true)
    (k21 : PySem.W.keepIn K (.ref f21) = true)
    (a22 : PySem.W.findIn K (.ref C_Offset) "__init__" = some (some (.ref f22)))
    (i22 : PySem.W.isFn K (.ref f22) = true)
    (l22 : K.lookup f22 = some ⟨oc22, od22, .func (PySem.W.fnOf "__init__" "Offset.__init__" (defArgs s_Offset___init__) (defBody s_Offset___init__) (defScope s_Offset___init__) .none kV22 dc22 pm22 an22 cd22 ct22), sl22⟩)
    (c22 : PySem.W.codeIn K cd22 "Offset.__init__" = true)
    (k22 : PySem.W.keepIn K (.ref f22) = true)
    (a23 : PySem.W.findIn K (.ref C_Offset) "__neg__" = some (some (.ref f23)))
    (i23 : PySem.W.isFn K (.ref f23) = true)
    (l23 : K.lookup f23 = some ⟨oc23, od23, .func (PySem.W.fnOf "__neg__" "Offset.__neg__" (defArgs s_Offset___neg__) (defBody s_Offset___neg__) (defScope s_Offset___neg__) .none kV23 dc23 pm23 an23 cd23 ct23), sl23⟩)
    (c23 : PySem.W.codeIn K cd23 "Offset.__neg__" = true)
    (k23 : PySem.W.keepIn K (.ref f23) = true)
    (a24 : PySem.W.findIn K (.ref C_Stretch) "__init__" = some (some (.ref f24)))
    (i24 : PySem.W.isFn K (.ref f24) = true)
    (l24 : K.lookup f24 = some ⟨oc24, od24, .func (PySem.W.fnOf "__init__" "Stretch.__init__" (defArgs s_Stretch___init__) (defBody s_Stretch___init__) (defScope s_Stretch___init__) .none kV24 dc24 pm24 an24 cd24 ct24), sl24⟩)
    (c24 : PySem.W.codeIn K cd24 "Stretch.__init__" = true)
    (k24 : PySem.W.keepIn K (.ref f24) = true)
    (a25 : PySem.W.nsIn K mainGlobals "signed_stretch" = some (some (.ref f25)))
    (l25 : K.lookup f25 = some ⟨oc25, od25, .func (PySem.W.fnOf "signed_stretch" "signed_stretch" (defArgs s_signed_stretch) (defBody s_signed_stretch) (defScope s_signed_stretch) .none kV25 dc25 pm25 an25 cd25 ct25), sl25⟩)
    (c25 : PySem.W.codeIn K cd25 "signed_stretch" = true)
    (k25 : PySem.W.keepIn K (.ref f25) = true)
    (a26 : PySem.W.findIn K (.ref C_Cell) "__init__" = some (some (.ref f26)))
    (i26 : PySem.W.isFn K (.ref f26) = true)
    (l26 : K.lookup f26 = some ⟨oc26, od26, .func (PySem.W.fnOf "__init__" "Cell.__init__" (defArgs s_Cell___init__) (defBody s_Cell___init__) (defScope s_Cell___init__) .none kV26 dc26 pm26 an26 cd26 ct26), sl26⟩)
    (c26 : PySem.W.codeIn K cd26 "Cell.__init__" = true)
    (k26 : PySem.W.keepIn K (.ref f26) = true)
    (a27 : PySem.W.nsIn K mainGlobals "own_cell" = some (some (.ref f27)))
    (l27 : K.lookup f27 = some ⟨oc27, od27, .func (PySem.W.fnOf "own_cell" "own_cell" (defArgs s_own_cell) (defBody s_own_cell) (defScope s_own_cell) .none kV27 dc27 pm27 an27 cd27 ct27), sl27⟩)
    (c27 : PySem.W.codeIn K cd27 "own_cell" = true)
    (k27 : PySem.W.keepIn K (.ref f27) = true)
    (a28 : PySem.W.nsIn K mainGlobals "peer_cell" = some (some (.ref f28)))
    (l28 : K.lookup f28 = some ⟨oc28, od28, .func (PySem.W.fnOf "peer_cell" "peer_cell" (defArgs s_peer_cell) (defBody s_peer_cell) (defScope s_peer_cell) .none kV28 dc28 pm28 an28 cd28 ct28), sl28⟩)
    (c28 : PySem.W.codeIn K cd28 "peer_cell" = true)
    (k28 : PySem.W.keepIn K (.ref f28) = true)
    (a29 : PySem.W.nsIn K mainGlobals "far_cell" = some (some (.ref f29)))
    (l29 : K.lookup f29 = some ⟨oc29, od29, .func (PySem.W.fnOf "far_cell" "far_cell" (defArgs s_far_cell) (defBody s_far_cell) (defScope s_far_cell) .none kV29 dc29 pm29 an29 cd29 ct29), sl29⟩)
    (c29 : PySem.W.codeIn K cd29 "far_cell" = true)
    (k29 : PySem.W.keepIn K (.ref f29) = true)
    (a30 : PySem.W.findIn K (.ref C_Side) "__init__" = some (some (.ref f30)))
    (i30 : PySem.W.isFn K (.ref f30) = true)
    (l30 : K.lookup f30 = some ⟨oc30, od30, .func (PySem.W.fnOf "__init__" "Side.__init__" (defArgs s_Side___init__) (defBody s_Side___init__) (defScope s_Side___init__) .none kV30 dc30 pm30 an30 cd30 ct30), sl30⟩)
    (c30 : PySem.W.codeIn K cd30 "Side.__init__" = true)
    (k30 : PySem.W.keepIn K (.ref f30) = true)
    (a31 : PySem.W.findIn K (.ref C_Side) "__eq__" = some (some (.ref f31)))
    (i31 : PySem.W.isFn K (.ref f31) = true)
    (l31 : K.lookup f31 = some ⟨oc31, od31, .func (PySem.W.fnOf "__eq__" "Side.__eq__" (defArgs s_Side___eq__) (defBody s_Side___eq__) (defScope s_Side___eq__) .none kV31 dc31 pm31 an31 cd31 ct31), sl31⟩)
    (c31 : PySem.W.codeIn K cd31 "Side.__eq__" = true)
    (k31 : PySem.W.keepIn K (.ref f31) = true)
    (a32 : PySem.W.nsIn K mainGlobals "weight_there" = some (some (.ref f32)))
    (l32 : K.lookup f32 = some ⟨oc32, od32, .func (PySem.W.fnOf "weight_there" "weight_there" (defArgs s_weight_there) (defBody s_weight_there) (defScope s_weight_there) .none kV32 dc32 pm32 an32 cd32 ct32), sl32⟩)
    (c32 : PySem.W.codeIn K cd32 "weight_there" = true)
    (k32 : PySem.W.keepIn K (.ref f32) = true)
    (a33 : PySem.W.nsIn K mainGlobals "mix_sides" = some (some (.ref f33)))
    (l33 : K.lookup f33 = some ⟨oc33, od33, .func (PySem.W.fnOf "mix_sides" "mix_sides" (defArgs s_mix_sides) (defBody s_mix_sides) (defScope s_mix_sides) .none kV33 dc33 pm33 an33 cd33 ct33), sl33⟩)
    (c33 : PySem.W.codeIn K cd33 "mix_sides" = true)
    (k33 : PySem.W.keepIn K (.ref f33) = true)
    (a34 : PySem.W.nsIn K mainGlobals "line_cells" = some (some (.ref f34)))
    (l34 : K.lookup f34 = some ⟨oc34, od34, .func (PySem.W.fnOf "line_cells" "line_cells" (defArgs s_line_cells) (defBody s_line_cells) (defScope s_line_cells) .none kV34 dc34 pm34 an34 cd34 ct34), sl34⟩)
    (c34 : PySem.W.codeIn K cd34 "line_cells" = true)
    (k34 : PySem.W.keepIn K (.ref f34) = true)
    (a35 : PySem.W.nsIn K mainGlobals "grid_cells" = some (some (.ref f35)))
    (l35 : K.lookup f35 = some ⟨oc35, od35, .func (PySem.W.fnOf "grid_cells" "grid_cells" (defArgs s_grid_cells) (defBody s_grid_cells) (defScope s_grid_cells) .none kV35 dc35 pm35 an35 cd35 ct35), sl35⟩)
    (c35 : PySem.W.codeIn K cd35 "grid_cells" = true)
    (k35 : PySem.W.keepIn K (.ref f35) = true)
    (a36 : PySem.W.nsIn K mainGlobals "nearest_on" = some (some (.ref f36)))
    (l36 : K.lookup f36 = some ⟨oc36, od36, .func (PySem.W.fnOf "nearest_on" "nearest_on" (defArgs s_nearest_on) (defBody s_nearest_on) (defScope s_nearest_on) .none kV36 dc36 pm36 an36 cd36 ct36), sl36⟩)
    (c36 : PySem.W.codeIn K cd36 "nearest_on" = true)
    (k36 : PySem.W.keepIn K (.ref f36) = true)
    (a37 : PySem.W.findIn K (.ref C_Weights) "__init__" = some (some (.ref f37)))
    (i37 : PySem.W.isFn K (.ref f37) = true)
    (l37 : K.lookup f37 = some ⟨oc37, od37, .func (PySem.W.fnOf "__init__" "Weights.__init__" (defArgs s_Weights___init__) (defBody s_Weights___init__) (defScope s_Weights___init__) .none kV37 dc37 pm37 an37 cd37 ct37), sl37⟩)
    (c37 : PySem.W.codeIn K cd37 "Weights.__init__" = true)
    (k37 : PySem.W.keepIn K (.ref f37) = true)
    (a38 : PySem.W.findIn K (.ref C_Weights) "at" = some (some (.ref f38)))
    (i38 : PySem.W.isFn K (.ref f38) = true)
    (l38 : K.lookup f38 = some ⟨oc38, od38, .func (PySem.W.fnOf "at" "Weights.at" (defArgs s_Weights_at) (defBody s_Weights_at) (defScope s_Weights_at) .none kV38 dc38 pm38 an38 cd38 ct38), sl38⟩)
    (c38 : PySem.W.codeIn K cd38 "Weights.at" = true)
    (k38 : PySem.W.keepIn K (.ref f38) = true)
    (a39 : PySem.W.findIn K (.ref C_Weights) "__eq__" = some (some (.ref f39)))
    (i39 : PySem.W.isFn K (.ref f39) = true)
    (l39 : K.lookup f39 = some ⟨oc39, od39, .func (PySem.W.fnOf "__eq__" "Weights.__eq__" (defArgs s_Weights___eq__) (defBody s_Weights___eq__) (defScope s_Weights___eq__) .none kV39 dc39 pm39 an39 cd39 ct39), sl39⟩)
    (c39 : PySem.W.codeIn K cd39 "Weights.__eq__" = true)
    (k39 : PySem.W.keepIn K (.ref f39) = true)
    (a40 : PySem.W.findIn K (.ref C_Weights) "__bool__" = some (some (.ref f40)))
    (i40 : PySem.W.isFn K (.ref f40) = true)
    (l40 : K.lookup f40 = some ⟨oc40, od40, .func (PySem.W.fnOf "__bool__" "Weights.__bool__" (defArgs s_Weights___bool__) (defBody s_Weights___bool__) (defScope s_Weights___bool__) .none kV40 dc40 pm40 an40 cd40 ct40), sl40⟩)
    (c40 : PySem.W.codeIn K cd40 "Weights.__bool__" = true)
    (k40 : PySem.W.keepIn K (.ref f40) = true)
    (a41 : PySem.W.findIn K (.ref C_Weights) "cells" = some (some (.ref f41)))
    (i41 : PySem.W.isFn K (.ref f41) = true)
    (l41 : K.lookup f41 = some ⟨oc41, od41, .func (PySem.W.fnOf "cells" "Weights.cells" (defArgs s_Weights_cells) (defBody s_Weights_cells) (defScope s_Weights_cells) .none kV41 dc41 pm41 an41 cd41 ct41), sl41⟩)
    (c41 : PySem.W.codeIn K cd41 "Weights.cells" = true)
    (k41 : PySem.W.keepIn K (.ref f41) = true)
    (a42 : PySem.W.nsIn K mainGlobals "mix_weights" = some (some (.ref f42)))
    (l42 : K.lookup f42 = some ⟨oc42, od42, .func (PySem.W.fnOf "mix_weights" "mix_weights" (defArgs s_mix_weights) (defBody s_mix_weights) (defScope s_mix_weights) .none kV42 dc42 pm42 an42 cd42 ct42), sl42⟩)
    (c42 : PySem.W.codeIn K cd42 "mix_weights" = true)
    (k42 : PySem.W.keepIn K (.ref f42) = true)
    (a43 : PySem.W.nsIn K mainGlobals "turned" = some (some (.ref f43)))
    (l43 : K.lookup f43 = some ⟨oc43, od43, .func (PySem.W.fnOf "turned" "turned" (defArgs s_turned) (defBody s_turned) (defScope s_turned) .none kV43 dc43 pm43 an43 cd43 ct43), sl43⟩)
    (c43 : PySem.W.codeIn K cd43 "turned" = true)
    (k43 : PySem.W.keepIn K (.ref f43) = true)
    (a44 : PySem.W.findIn K (.ref C_Region) "__init__" = some (some (.ref f44)))
    (i44 : PySem.W.isFn K (.ref f44) = true)
    (l44 : K.lookup f44 = some ⟨oc44, od44, .func (PySem.W.fnOf "__init__" "Region.__init__" (defArgs s_Region___init__) (defBody s_Region___init__) (defScope s_Region___init__) .none kV44 dc44 pm44 an44 cd44 ct44), sl44⟩)
    (c44 : PySem.W.codeIn K cd44 "Region.__init__" = true)
    (k44 : PySem.W.keepIn K (.ref f44) = true)
    (a45 : PySem.W.findIn K (.ref C_Region) "__and__" = some (some (.ref f45)))
    (i45 : PySem.W.isFn K (.ref f45) = true)
    (l45 : K.lookup f45 = some ⟨oc45, od45, .func (PySem.W.fnOf "__and__" "Region.__and__" (defArgs s_Region___and__) (defBody s_Region___and__) (defScope s_Region___and__) .none kV45 dc45 pm45 an45 cd45 ct45), sl45⟩)
    (c45 : PySem.W.codeIn K cd45 "Region.__and__" = true)
    (k45 : PySem.W.keepIn K (.ref f45) = true)
    (a46 : PySem.W.findIn K (.ref C_Region) "__or__" = some (some (.ref f46)))
    (i46 : PySem.W.isFn K (.ref f46) = true)
    (l46 : K.lookup f46 = some ⟨oc46, od46, .func (PySem.W.fnOf "__or__" "Region.__or__" (defArgs s_Region___or__) (defBody s_Region___or__) (defScope s_Region___or__) .none kV46 dc46 pm46 an46 cd46 ct46), sl46⟩)
    (c46 : PySem.W.codeIn K cd46 "Region.__or__" = true)
    (k46 : PySem.W.keepIn K (.ref f46) = true)
    (a47 : PySem.W.findIn K (.ref C_Region) "__sub__" = some (some (.ref f47)))
    (i47 : PySem.W.isFn K (.ref f47) = true)
    (l47 : K.lookup f47 = some ⟨oc47, od47, .func (PySem.W.fnOf "__sub__" "Region.__sub__" (defArgs s_Region___sub__) (defBody s_Region___sub__) (defScope s_Region___sub__) .none kV47 dc47 pm47 an47 cd47 ct47), sl47⟩)
    (c47 : PySem.W.codeIn K cd47 "Region.__sub__" = true)
    (k47 : PySem.W.keepIn K (.ref f47) = true)
    (a48 : PySem.W.findIn K (.ref C_Region) "__xor__" = some (some (.ref f48)))
    (i48 : PySem.W.isFn K (.ref f48) = true)
    (l48 : K.lookup f48 = some ⟨oc48, od48, .func (PySem.W.fnOf "__xor__" "Region.__xor__" (defArgs s_Region___xor__) (defBody s_Region___xor__) (defScope s_Region___xor__) .none kV48 dc48 pm48 an48 cd48 ct48), sl48⟩)
    (c48 : PySem.W.codeIn K cd48 "Region.__xor__" = true)
    (k48 : PySem.W.keepIn K (.ref f48) = true)
    (a49 : PySem.W.findIn K (.ref C_Region) "__invert__" = some (some (.ref f49)))
    (i49 : PySem.W.isFn K (.ref f49) = true)
    (l49 : K.lookup f49 = some ⟨oc49, od49, .func (PySem.W.fnOf "__invert__" "Region.__invert__" (defArgs s_Region___invert__) (defBody s_Region___invert__) (defScope s_Region___invert__) .none kV49 dc49 pm49 an49 cd49 ct49), sl49⟩)
    (c49 : PySem.W.codeIn K cd49 "Region.__invert__" = true)
    (k49 : PySem.W.keepIn K (.ref f49) = true)
    (a50 : PySem.W.findIn K (.ref C_Region) "__neg__" = some (some (.ref f50)))
    (i50 : PySem.W.isFn K (.ref f50) = true)
    (l50 : K.lookup f50 = some ⟨oc50, od50, .func (PySem.W.fnOf "__neg__" "Region.__neg__" (defArgs s_Region___neg__) (defBody s_Region___neg__) (defScope s_Region___neg__) .none kV50 dc50 pm50 an50 cd50 ct50), sl50⟩)
    (c50 : PySem.W.codeIn K cd50 "Region.__neg__" = true)
    (k50 : PySem.W.keepIn K (.ref f50) = true)
    (a51 : PySem.W.findIn K (.ref C_Region) "__contains__" = some (some (.ref f51)))
    (i51 : PySem.W.isFn K (.ref f51) = true)
    (l51 : K.lookup f51 = some ⟨oc51, od51, .func (PySem.W.fnOf "__contains__" "Region.__contains__" (defArgs s_Region___contains__) (defBody s_Region___contains__) (defScope s_Region___contains__) .none kV51 dc51 pm51 an51 cd51 ct51), sl51⟩)
    (c51 : PySem.W.codeIn K cd51 "Region.__contains__" = true)
    (k51 : PySem.W.keepIn K (.ref f51) = true)
    (a52 : PySem.W.findIn K (.ref C_Region) "__eq__" = some (some (.ref f52)))
    (i52 : PySem.W.isFn K (.ref f52) = true)
    (l52 : K.lookup f52 = some ⟨oc52, od52, .func (PySem.W.fnOf "__eq__" "Region.__eq__" (defArgs s_Region___eq__) (defBody s_Region___eq__) (defScope s_Region___eq__) .none kV52 dc52 pm52 an52 cd52 ct52), sl52⟩)
    (c52 : PySem.W.codeIn K cd52 "Region.__eq__" = true)
    (k52 : PySem.W.keepIn K (.ref f52) = true)
    (a53 : PySem.W.findIn K (.ref C_Region) "__bool__" = some (some (.ref f53)))
    (i53 : PySem.W.isFn K (.ref f53) = true)
    (l53 : K.lookup f53 = some ⟨oc53, od53, .func (PySem.W.fnOf "__bool__" "Region.__bool__" (defArgs s_Region___bool__) (defBody s_Region___bool__) (defScope s_Region___bool__) .none kV53 dc53 pm53 an53 cd53 ct53), sl53⟩)
    (c53 : PySem.W.codeIn K cd53 "Region.__bool__" = true)
    (k53 : PySem.W.keepIn K (.ref f53) = true)
    (a54 : PySem.W.findIn K (.ref C_Region) "cells" = some (some (.ref f54)))
    (i54 : PySem.W.isFn K (.ref f54) = true)
    (l54 : K.lookup f54 = some ⟨oc54, od54, .func (PySem.W.fnOf "cells" "Region.cells" (defArgs s_Region_cells) (defBody s_Region_cells) (defScope s_Region_cells) .none kV54 dc54 pm54 an54 cd54 ct54), sl54⟩)
    (c54 : PySem.W.codeIn K cd54 "Region.cells" = true)
    (k54 : PySem.W.keepIn K (.ref f54) = true)
    (a55 : PySem.W.nsIn K mainGlobals "flat_side" = some (some (.ref f55)))
    (l55 : K.lookup f55 = some ⟨oc55, od55, .func (PySem.W.fnOf "flat_side" "flat_side" (defArgs s_flat_side) (defBody s_flat_side) (defScope s_flat_side) .none kV55 dc55 pm55 an55 cd55 ct55), sl55⟩)
    (c55 : PySem.W.codeIn K cd55 "flat_side" = true)
    (k55 : PySem.W.keepIn K (.ref f55) = true)
    (a56 : PySem.W.nsIn K mainGlobals "flat_region" = some (some (.ref f56)))
    (l56 : K.lookup f56 = some ⟨oc56, od56, .func (PySem.W.fnOf "flat_region" "flat_region" (defArgs s_flat_region) (defBody s_flat_region) (defScope s_flat_region) .none kV56 dc56 pm56 an56 cd56 ct56), sl56⟩)
    (c56 : PySem.W.codeIn K cd56 "flat_region" = true)
    (k56 : PySem.W.keepIn K (.ref f56) = true)
    (a57 : PySem.W.nsIn K mainGlobals "mirrored_end" = some (some (.ref f57)))
    (l57 : K.lookup f57 = some ⟨oc57, od57, .func (PySem.W.fnOf "mirrored_end" "mirrored_end" (defArgs s_mirrored_end) (defBody s_mirrored_end) (defScope s_mirrored_end) .none kV57 dc57 pm57 an57 cd57 ct57), sl57⟩)
    (c57 : PySem.W.codeIn K cd57 "mirrored_end" = true)
    (k57 : PySem.W.keepIn K (.ref f57) = true)
    (a58 : PySem.W.nsIn K mainGlobals "ends_checked" = some (some (.ref f58)))
    (l58 : K.lookup f58 = some ⟨oc58, od58, .func (PySem.W.fnOf "ends_checked" "ends_checked" (defArgs s_ends_checked) (defBody s_ends_checked) (defScope s_ends_checked) .none kV58 dc58 pm58 an58 cd58 ct58), sl58⟩)
    (c58 : PySem.W.codeIn K cd58 "ends_checked" = true)
    (k58 : PySem.W.keepIn K (.ref f58) = true)
    (a59 : PySem.W.nsIn K mainGlobals "rows_between" = some (some (.ref f59)))
    (l59 : K.lookup f59 = some ⟨oc59, od59, .func (PySem.W.fnOf "rows_between" "rows_between" (defArgs s_rows_between) (defBody s_rows_between) (defScope s_rows_between) .none kV59 dc59 pm59 an59 cd59 ct59), sl59⟩)
    (c59 : PySem.W.codeIn K cd59 "rows_between" = true)
    (k59 : PySem.W.keepIn K (.ref f59) = true)
    (a60 : PySem.W.nsIn K mainGlobals "axis_between" = some (some (.ref f60)))
    (l60 : K.lookup f60 = some ⟨oc60, od60, .func (PySem.W.fnOf "axis_between" "axis_between" (defArgs s_axis_between) (defBody s_axis_between) (defScope s_axis_between) .none kV60 dc60 pm60 an60 cd60 ct60), sl60⟩)
    (c60 : PySem.W.codeIn K cd60 "axis_between" = true)
    (k60 : PySem.W.keepIn K (.ref f60) = true)
    (a61 : PySem.W.nsIn K mainGlobals "groups_between" = some (some (.ref f61)))
    (l61 : K.lookup f61 = some ⟨oc61, od61, .func (PySem.W.fnOf "groups_between" "groups_between" (defArgs s_groups_between) (defBody s_groups_between) (defScope s_groups_between) .none kV61 dc61 pm61 an61 cd61 ct61), sl61⟩)
    (c61 : PySem.W.codeIn K cd61 "groups_between" = true)
    (k61 : PySem.W.keepIn K (.ref f61) = true)
    (a62 : PySem.W.nsIn K mainGlobals "keys_between" = some (some (.ref f62)))
    (l62 : K.lookup f62 = some ⟨oc62, od62, .func (PySem.W.fnOf "keys_between" "keys_between" (defArgs s_keys_between) (defBody s_keys_between) (defScope s_keys_between) .none kV62 dc62 pm62 an62 cd62 ct62), sl62⟩)
    (c62 : PySem.W.codeIn K cd62 "keys_between" = true)
    (k62 : PySem.W.keepIn K (.ref f62) = true)
    (a63 : PySem.W.nsIn K mainGlobals "own_row" = some (some (.ref f63)))
    (l63 : K.lookup f63 = some ⟨oc63, od63, .func (PySem.W.fnOf "own_row" "own_row" (defArgs s_own_row) (defBody s_own_row) (defScope s_own_row) .none kV63 dc63 pm63 an63 cd63 ct63), sl63⟩)
    (c63 : PySem.W.codeIn K cd63 "own_row" = true)
    (k63 : PySem.W.keepIn K (.ref f63) = true)
    (a64 : PySem.W.nsIn K mainGlobals "own_group" = some (some (.ref f64)))
    (l64 : K.lookup f64 = some ⟨oc64, od64, .func (PySem.W.fnOf "own_group" "own_group" (defArgs s_own_group) (defBody s_own_group) (defScope s_own_group) .none kV64 dc64 pm64 an64 cd64 ct64), sl64⟩)
    (c64 : PySem.W.codeIn K cd64 "own_group" = true)
    (k64 : PySem.W.keepIn K (.ref f64) = true)
    (a65 : PySem.W.nsIn K mainGlobals "ties" = some (some (.ref f65)))
    (l65 : K.lookup f65 = some ⟨oc65, od65, .func (PySem.W.fnOf "ties" "ties" (defArgs s_ties) (defBody s_ties) (defScope s_ties) .none kV65 dc65 pm65 an65 cd65 ct65), sl65⟩)
    (c65 : PySem.W.codeIn K cd65 "ties" = true)
    (k65 : PySem.W.keepIn K (.ref f65) = true)
    (a66 : PySem.W.nsIn K mainGlobals "every" = some (some (.ref f66)))
    (l66 : K.lookup f66 = some ⟨oc66, od66, .func (PySem.W.fnOf "every" "every" (defArgs s_every) (defBody s_every) (defScope s_every) .none kV66 dc66 pm66 an66 cd66 ct66), sl66⟩)
    (c66 : PySem.W.codeIn K cd66 "every" = true)
    (k66 : PySem.W.keepIn K (.ref f66) = true)
    (a67 : PySem.W.nsIn K mainGlobals "nothing" = some (some (.ref f67)))
    (l67 : K.lookup f67 = some ⟨oc67, od67, .func (PySem.W.fnOf "nothing" "nothing" (defArgs s_nothing) (defBody s_nothing) (defScope s_nothing) .none kV67 dc67 pm67 an67 cd67 ct67), sl67⟩)
    (c67 : PySem.W.codeIn K cd67 "nothing" = true)
    (k67 : PySem.W.keepIn K (.ref f67) = true)
    (a68 : PySem.W.nsIn K mainGlobals "weights_of" = some (some (.ref f68)))
    (l68 : K.lookup f68 = some ⟨oc68, od68, .func (PySem.W.fnOf "weights_of" "weights_of" (defArgs s_weights_of) (defBody s_weights_of) (defScope s_weights_of) .none kV68 dc68 pm68 an68 cd68 ct68), sl68⟩)
    (c68 : PySem.W.codeIn K cd68 "weights_of" = true)
    (k68 : PySem.W.keepIn K (.ref f68) = true)
    (a69 : PySem.W.nsIn K mainGlobals "_law_begin" = some (some (.ref f69)))
    (l69 : K.lookup f69 = some ⟨oc69, od69, .func (PySem.W.fnOf "_law_begin" "_law_begin" (defArgs s__law_begin) (defBody s__law_begin) (defScope s__law_begin) .none kV69 dc69 pm69 an69 cd69 ct69), sl69⟩)
    (c69 : PySem.W.codeIn K cd69 "_law_begin" = true)
    (k69 : PySem.W.keepIn K (.ref f69) = true)
    (a70 : PySem.W.nsIn K mainGlobals "_law_draw" = some (some (.ref f70)))
    (l70 : K.lookup f70 = some ⟨oc70, od70, .func (PySem.W.fnOf "_law_draw" "_law_draw" (defArgs s__law_draw) (defBody s__law_draw) (defScope s__law_draw) .none kV70 dc70 pm70 an70 cd70 ct70), sl70⟩)
    (c70 : PySem.W.codeIn K cd70 "_law_draw" = true)
    (k70 : PySem.W.keepIn K (.ref f70) = true)
    (a71 : PySem.W.nsIn K mainGlobals "_law_holds" = some (some (.ref f71)))
    (l71 : K.lookup f71 = some ⟨oc71, od71, .func (PySem.W.fnOf "_law_holds" "_law_holds" (defArgs s__law_holds) (defBody s__law_holds) (defScope s__law_holds) .none kV71 dc71 pm71 an71 cd71 ct71), sl71⟩)
    (c71 : PySem.W.codeIn K cd71 "_law_holds" = true)
    (k71 : PySem.W.keepIn K (.ref f71) = true)
    (a72 : PySem.W.nsIn K mainGlobals "_law_region" = some (some (.ref f72)))
    (l72 : K.lookup f72 = some ⟨oc72, od72, .func (PySem.W.fnOf "_law_region" "_law_region" (defArgs s__law_region) (defBody s__law_region) (defScope s__law_region) .none kV72 dc72 pm72 an72 cd72 ct72), sl72⟩)
    (c72 : PySem.W.codeIn K cd72 "_law_region" = true)
    (k72 : PySem.W.keepIn K (.ref f72) = true)
    (a73 : PySem.W.nsIn K mainGlobals "_law_end" = some (some (.ref f73)))
    (l73 : K.lookup f73 = some ⟨oc73, od73, .func (PySem.W.fnOf "_law_end" "_law_end" (defArgs s__law_end) (defBody s__law_end) (defScope s__law_end) .none kV73 dc73 pm73 an73 cd73 ct73), sl73⟩)
    (c73 : PySem.W.codeIn K cd73 "_law_end" = true)
    (k73 : PySem.W.keepIn K (.ref f73) = true)
    (a74 : PySem.W.nsIn K mainGlobals "_law_basic" = some (some (.ref f74)))
    (l74 : K.lookup f74 = some ⟨oc74, od74, .func (PySem.W.fnOf "_law_basic" "_law_basic" (defArgs s__law_basic) (defBody s__law_basic) (defScope s__law_basic) .none kV74 dc74 pm74 an74 cd74 ct74), sl74⟩)
    (c74 : PySem.W.codeIn K cd74 "_law_basic" = true)
    (k74 : PySem.W.keepIn K (.ref f74) = true)
    (a75 : PySem.W.nsIn K mainGlobals "_law_tree" = some (some (.ref f75)))
    (l75 : K.lookup f75 = some ⟨oc75, od75, .func (PySem.W.fnOf "_law_tree" "_law_tree" (defArgs s__law_tree) (defBody s__law_tree) (defScope s__law_tree) .none kV75 dc75 pm75 an75 cd75 ct75), sl75⟩)
    (c75 : PySem.W.codeIn K cd75 "_law_tree" = true)
    (k75 : PySem.W.keepIn K (.ref f75) = true)
    (a76 : PySem.W.nsIn K mainGlobals "_law_numbers" = some (some (.ref f76)))
    (l76 : K.lookup f76 = some ⟨oc76, od76, .func (PySem.W.fnOf "_law_numbers" "_law_numbers" (defArgs s__law_numbers) (defBody s__law_numbers) (defScope s__law_numbers) .none kV76 dc76 pm76 an76 cd76 ct76), sl76⟩)
    (c76 : PySem.W.codeIn K cd76 "_law_numbers" = true)
    (k76 : PySem.W.keepIn K (.ref f76) = true)
    (a77 : PySem.W.nsIn K mainGlobals "_law_in_place" = some (some (.ref f77)))
    (l77 : K.lookup f77 = some ⟨oc77, od77, .func (PySem.W.fnOf "_law_in_place" "_law_in_place" (defArgs s__law_in_place) (defBody s__law_in_place) (defScope s__law_in_place) .none kV77 dc77 pm77 an77 cd77 ct77), sl77⟩)
    (c77 : PySem.W.codeIn K cd77 "_law_in_place" = true)
    (k77 : PySem.W.keepIn K (.ref f77) = true)
    (a78 : PySem.W.nsIn K mainGlobals "_law_unlike" = some (some (.ref f78)))
    (l78 : K.lookup f78 = some ⟨oc78, od78, .func (PySem.W.fnOf "_law_unlike" "_law_unlike" (defArgs s__law_unlike) (defBody s__law_unlike) (defScope s__law_unlike) .none kV78 dc78 pm78 an78 cd78 ct78), sl78⟩)
    (c78 : PySem.W.codeIn K cd78 "_law_unlike" = true)
    (k78 : PySem.W.keepIn K (.ref f78) = true)
    (a79 : PySem.W.nsIn K mainGlobals "law" = some (some (.ref f79)))
    (l79 : K.lookup f79 = some ⟨oc79, od79, .func (PySem.W.fnOf "law" "law" (defArgs s_law) (defBody s_law) (defScope s_law) .none kV79 dc79 pm79 an79 cd79 ct79), sl79⟩)
    (c79 : PySem.W.codeIn K cd79 "law" = true)
    (k79 : PySem.W.keepIn K (.ref f79) = true)
    (z_NotImplemented : PySem.W.nsIn K mainGlobals "NotImplemented" = some none)
    (z_abs : PySem.W.nsIn K mainGlobals "abs" = some none)
    (z_bool : PySem.W.nsIn K mainGlobals "bool" = some none)
    (z_enumerate : PySem.W.nsIn K mainGlobals "enumerate" = some none)
    (z_int : PySem.W.nsIn K mainGlobals "int" = some none)
    (z_isinstance : PySem.W.nsIn K mainGlobals "isinstance" = some none)
    (z_len : PySem.W.nsIn K mainGlobals "len" = some none)
    (z_max : PySem.W.nsIn K mainGlobals "max" = some none)
    (z_min : PySem.W.nsIn K mainGlobals "min" = some none)
    (z_range : PySem.W.nsIn K mainGlobals "range" = some none)
    (z_set : PySem.W.nsIn K mainGlobals "set" = some none)
    (z_sorted : PySem.W.nsIn K mainGlobals "sorted" = some none)
    (ex_WindowError : PySem.W.subIn K (.ref C_WindowError) (.type "BaseException") = some true)
    (ty_WindowError : PySem.W.typeIn K (.ref C_WindowError) = some (.type "type"))
    (hd_WindowError : PySem.W.hasDictIn K C_WindowError = true)
    (ex_TurnedStretch : PySem.W.subIn K (.ref C_TurnedStretch) (.type "BaseException") = some true)
    (ty_TurnedStretch : PySem.W.typeIn K (.ref C_TurnedStretch) = some (.type "type"))
    (hd_TurnedStretch : PySem.W.hasDictIn K C_TurnedStretch = true)
    (xL_TurnedStretch : K.lookup C_TurnedStretch = some (excClassObj nm_TurnedStretch q_TurnedStretch C_TurnedStretch N_TurnedStretch bs_TurnedStretch bm_TurnedStretch true sn_TurnedStretch sub_TurnedStretch ab_TurnedStretch col_TurnedStretch dd_TurnedStretch m0_TurnedStretch m1_TurnedStretch m2_TurnedStretch m3_TurnedStretch m5_TurnedStretch "ValueError.__new__"))
    (bmr_TurnedStretch : PySem.HandSPX.refsVE bm_TurnedStretch = true)
    (sa_TurnedStretch : PySem.W.findIn K (.ref C_TurnedStretch) "__setattr__" = some (some (.builtin "object.__setattr__")))
    (kc_TurnedStretch : PySem.W.keepIn K (.ref C_TurnedStretch) = true)
    (ga_TurnedStretch : PySem.W.findIn K (.ref C_TurnedStretch) "__getattribute__" = some (some (.builtin "BaseException.__getattribute__")))
    (gg_TurnedStretch : PySem.W.findIn K (.ref C_TurnedStretch) "__getattr__" = some none)
    (tI_TurnedStretch : PySem.W.typeIn K (.ref f0) = some (.type "function"))
    (nf_TurnedStretch_low : PySem.W.findIn K (.ref C_TurnedStretch) "low" = some none)
    (nf_TurnedStretch_high : PySem.W.findIn K (.ref C_TurnedStretch) "high" = some none)
    (su_TurnedStretch_TurnedStretch : PySem.W.subIn K (.ref C_TurnedStretch) (.ref C_TurnedStretch) = some true)
    (is_TurnedStretch_TurnedStretch : PySem.W.isIn K (.ref C_TurnedStretch) C_TurnedStretch = true)
    (ex_BadOffset : PySem.W.subIn K (.ref C_BadOffset) (.type "BaseException") = some true)
    (ty_BadOffset : PySem.W.typeIn K (.ref C_BadOffset) = some (.type "type"))
    (hd_BadOffset : PySem.W.hasDictIn K C_BadOffset = true)
    (xL_BadOffset : K.lookup C_BadOffset = some (excClassObj nm_BadOffset q_BadOffset C_BadOffset N_BadOffset bs_BadOffset bm_BadOffset true sn_BadOffset sub_BadOffset ab_BadOffset col_BadOffset dd_BadOffset m0_BadOffset m1_BadOffset m2_BadOffset m3_BadOffset m5_BadOffset "ValueError.__new__"))
    (bmr_BadOffset : PySem.HandSPX.refsVE bm_BadOffset = true)
    (sa_BadOffset : PySem.W.findIn K (.ref C_BadOffset) "__setattr__" = some (some (.builtin "object.__setattr__")))
    (kc_BadOffset : PySem.W.keepIn K (.ref C_BadOffset) = true)
    (ga_BadOffset : PySem.W.findIn K (.ref C_BadOffset) "__getattribute__" = some (some (.builtin "BaseException.__getattribute__")))
    (gg_BadOffset : PySem.W.findIn K (.ref C_BadOffset) "__getattr__" = some none)
    (tI_BadOffset : PySem.W.typeIn K (.ref f1) = some (.type "function"))
    (nf_BadOffset_rows : PySem.W.findIn K (.ref C_BadOffset) "rows" = some none)
    (nf_BadOffset_groups : PySem.W.findIn K (.ref C_BadOffset) "groups" = some none)
    (nf_BadOffset_distance : PySem.W.findIn K (.ref C_BadOffset) "distance" = some none)
    (su_BadOffset_BadOffset : PySem.W.subIn K (.ref C_BadOffset) (.ref C_BadOffset) = some true)
    (is_BadOffset_BadOffset : PySem.W.isIn K (.ref C_BadOffset) C_BadOffset = true)
    (pg_Offset : PySem.W.plainGet K C_Offset Str.empty = true)
    (hd_Offset : PySem.W.hasDictIn K C_Offset = true)
    (po_Offset : PySem.W.plainOver K C_Offset = true)
    (sa_Offset : PySem.W.findIn K (.ref C_Offset) "__setattr__" = some (some (.builtin "object.__setattr__")))
    (mk_Offset : PySem.W.makesIn K C_Offset = true)
    (kc_Offset : PySem.W.keepIn K (.ref C_Offset) = true)
    (nf_Offset_rows : PySem.W.findIn K (.ref C_Offset) "rows" = some none)
    (nf_Offset_groups : PySem.W.findIn K (.ref C_Offset) "groups" = some none)
    (nf_Offset_distance : PySem.W.findIn K (.ref C_Offset) "distance" = some none)
    (nf_Offset_zone : PySem.W.findIn K (.ref C_Offset) "zone" = some none)
    (ca_Offset : PySem.W.findIn K (.ref C_Offset) "__class__" = some (some (.builtin "object.__class__")))
    (cn_Offset : PySem.W.specialIn K (.builtin "object.__class__") "__get__" = some (some (.builtin "getset_descriptor.__get__")))
    (ct_Offset : PySem.W.takesIn K (.builtin "object.__class__") = some true)
    (cm_Offset : PySem.W.mroIn K C_Offset (.type "object") = some true)
    (pg_Side : PySem.W.plainGet K C_Side Str.empty = true)
    (hd_Side : PySem.W.hasDictIn K C_Side = true)
    (po_Side : PySem.W.plainOver K C_Side = true)
    (sa_Side : PySem.W.findIn K (.ref C_Side) "__setattr__" = some (some (.builtin "object.__setattr__")))
    (mk_Side : PySem.W.makesIn K C_Side = true)
    (kc_Side : PySem.W.keepIn K (.ref C_Side) = true)
    (nf_Side_line : PySem.W.findIn K (.ref C_Side) "line" = some none)
    (nf_Side_grid : PySem.W.findIn K (.ref C_Side) "grid" = some none)
    (ca_Side : PySem.W.findIn K (.ref C_Side) "__class__" = some (some (.builtin "object.__class__")))
    (cn_Side : PySem.W.specialIn K (.builtin "object.__class__") "__get__" = some (some (.builtin "getset_descriptor.__get__")))
    (ct_Side : PySem.W.takesIn K (.builtin "object.__class__") = some true)
    (cm_Side : PySem.W.mroIn K C_Side (.type "object") = some true)
    (nt_Side : PySem.W.notFirst K C_Side (.ref C_Side) = true)
    (pg_Weights : PySem.W.plainGet K C_Weights Str.empty = true)
    (hd_Weights : PySem.W.hasDictIn K C_Weights = true)
    (po_Weights : PySem.W.plainOver K C_Weights = true)
    (sa_Weights : PySem.W.findIn K (.ref C_Weights) "__setattr__" = some (some (.builtin "object.__setattr__")))
    (mk_Weights : PySem.W.makesIn K C_Weights = true)
    (kc_Weights : PySem.W.keepIn K (.ref C_Weights) = true)
    (nf_Weights_self_weight : PySem.W.findIn K (.ref C_Weights) "self_weight" = some none)
    (nf_Weights_back : PySem.W.findIn K (.ref C_Weights) "back" = some none)
    (nf_Weights_ahead : PySem.W.findIn K (.ref C_Weights) "ahead" = some none)
    (ca_Weights : PySem.W.findIn K (.ref C_Weights) "__class__" = some (some (.builtin "object.__class__")))
    (cn_Weights : PySem.W.specialIn K (.builtin "object.__class__") "__get__" = some (some (.builtin "getset_descriptor.__get__")))
    (ct_Weights : PySem.W.takesIn K (.builtin "object.__class__") = some true)
    (cm_Weights : PySem.W.mroIn K C_Weights (.type "object") = some true)
    (nt_Weights : PySem.W.notFirst K C_Weights (.ref C_Weights) = true)
    (nt_Weights_Region : PySem.W.notFirst K C_Weights (.ref C_Region) = true)
    (ki_Weights_Region : PySem.W.kitOne K (.ref C_Region) (.ref C_Weights) = some false)
    (pg_Region : PySem.W.plainGet K C_Region Str.empty = true)
    (hd_Region : PySem.W.hasDictIn K C_Region = true)
    (po_Region : PySem.W.plainOver K C_Region = true)
    (sa_Region : PySem.W.findIn K (.ref C_Region) "__setattr__" = some (some (.builtin "object.__setattr__")))
    (mk_Region : PySem.W.makesIn K C_Region = true)
    (kc_Region : PySem.W.keepIn K (.ref C_Region) = true)
    (nf_Region_weights : PySem.W.findIn K (.ref C_Region) "weights" = some none)
    (ca_Region : PySem.W.findIn K (.ref C_Region) "__class__" = some (some (.builtin "object.__class__")))
    (cn_Region : PySem.W.specialIn K (.builtin "object.__class__") "__get__" = some (some (.builtin "getset_descriptor.__get__")))
    (ct_Region : PySem.W.takesIn K (.builtin "object.__class__") = some true)
    (cm_Region : PySem.W.mroIn K C_Region (.type "object") = some true)
    (ne_Region : PySem.W.findIn K (.ref C_Region) "__ne__" = some (some (.builtin "object.__ne__")))
    (ob_Region : PySem.W.subIn K (.ref C_Region) (.type "object") = some true)
    (nt_Region : PySem.W.notFirst K C_Region (.ref C_Region) = true)
    (sf_Region : PySem.W.selfFirst K C_Region = true)
    (hcd_Region : PySem.W.clsIn K C_Region = some cdo_Region)
    (hmr_Region : cdo_Region.mro = [.ref C_Region, .type "object"])
    (fi_Region_or : PySem.W.findIn K (.ref C_Region) "__ior__" = some none)
    (fo_Region_or : PySem.W.findIn K (.type "object") "__ior__" = some none)
    (fi_Region_and : PySem.W.findIn K (.ref C_Region) "__iand__" = some none)
    (fo_Region_and : PySem.W.findIn K (.type "object") "__iand__" = some none)
    (fi_Region_sub : PySem.W.findIn K (.ref C_Region) "__isub__" = some none)
    (fo_Region_sub : PySem.W.findIn K (.type "object") "__isub__" = some none)
    (fi_Region_xor : PySem.W.findIn K (.ref C_Region) "__ixor__" = some none)
    (fo_Region_xor : PySem.W.findIn K (.type "object") "__ixor__" = some none)
    (nt_Region_int : PySem.W.notFirst K C_Region (.type "int") = true)
    (ki_Region_int : PySem.W.kitOne K (.type "int") (.ref C_Region) = some false)
    (nt_Region_str : PySem.W.notFirst K C_Region (.type "str") = true)
    (ki_Region_str : PySem.W.kitOne K (.type "str") (.ref C_Region) = some false)
    (nt_Region_list : PySem.W.notFirst K C_Region (.type "list") = true)
    (ki_Region_list : PySem.W.kitOne K (.type "list") (.ref C_Region) = some false)
    (nt_Region_Weights : PySem.W.notFirst K C_Region (.ref C_Weights) = true)
    (ki_Region_Weights : PySem.W.kitOne K (.ref C_Weights) (.ref C_Region) = some false)
    (nt_Region_Offset : PySem.W.notFirst K C_Region (.ref C_Offset) = true)
    (ki_Region_Offset : PySem.W.kitOne K (.ref C_Offset) (.ref C_Region) = some false)
    (pg_Stretch : PySem.W.plainGet K C_Stretch Str.empty = true)
    (hd_Stretch : PySem.W.hasDictIn K C_Stretch = true)
    (po_Stretch : PySem.W.plainOver K C_Stretch = true)
    (sa_Stretch : PySem.W.findIn K (.ref C_Stretch) "__setattr__" = some (some (.builtin "object.__setattr__")))
    (mk_Stretch : PySem.W.makesIn K C_Stretch = true)
    (kc_Stretch : PySem.W.keepIn K (.ref C_Stretch) = true)
    (nf_Stretch_low : PySem.W.findIn K (.ref C_Stretch) "low" = some none)
    (nf_Stretch_high : PySem.W.findIn K (.ref C_Stretch) "high" = some none)
    (ca_Stretch : PySem.W.findIn K (.ref C_Stretch) "__class__" = some (some (.builtin "object.__class__")))
    (cn_Stretch : PySem.W.specialIn K (.builtin "object.__class__") "__get__" = some (some (.builtin "getset_descriptor.__get__")))
    (ct_Stretch : PySem.W.takesIn K (.builtin "object.__class__") = some true)
    (cm_Stretch : PySem.W.mroIn K C_Stretch (.type "object") = some true)
    (pg_Cell : PySem.W.plainGet K C_Cell Str.empty = true)
    (hd_Cell : PySem.W.hasDictIn K C_Cell = true)
    (po_Cell : PySem.W.plainOver K C_Cell = true)
    (sa_Cell : PySem.W.findIn K (.ref C_Cell) "__setattr__" = some (some (.builtin "object.__setattr__")))
    (mk_Cell : PySem.W.makesIn K C_Cell = true)
    (kc_Cell : PySem.W.keepIn K (.ref C_Cell) = true)
    (nf_Cell_zone : PySem.W.findIn K (.ref C_Cell) "zone" = some none)
    (nf_Cell_rows : PySem.W.findIn K (.ref C_Cell) "rows" = some none)
    (nf_Cell_groups : PySem.W.findIn K (.ref C_Cell) "groups" = some none)
    (nf_Cell_distance : PySem.W.findIn K (.ref C_Cell) "distance" = some none)
    (ca_Cell : PySem.W.findIn K (.ref C_Cell) "__class__" = some (some (.builtin "object.__class__")))
    (cn_Cell : PySem.W.specialIn K (.builtin "object.__class__") "__get__" = some (some (.builtin "getset_descriptor.__get__")))
    (ct_Cell : PySem.W.takesIn K (.builtin "object.__class__") = some true)
    (cm_Cell : PySem.W.mroIn K C_Cell (.type "object") = some true)
    (kt_bool_int : PySem.W.kitOne K (.type "bool") (.type "int") = some true)
    (kt_int_bool : PySem.W.kitOne K (.type "int") (.type "bool") = some false)
    : ∃ fd : FuncData, (∀ (s : Shared) (v : Value), BindsTo s fd ⟨[v], []⟩ [("_law_script", v)]) ∧ ∀ base : Heap, K.In base → base.Ns mainGlobals mg → FnOk l.prog w K mg base CX0 18 fa fd ["_law_script"] (spLaw K) := by
  have e := hfa.symm.trans (PySem.W.mg_of X G a79)
  cases e
  have F0 := fun_mk (st := s_TurnedStretch___init__) l0 c0 k0
  have b0 := F0.binds (ps := ["self", "low", "high"]) fun _ _ _ _ _ _ us hl => match us, hl with | [_, _, _], _ => rfl
  have F1 := fun_mk (st := s_BadOffset___init__) l1 c1 k1
  have b1 := F1.binds (ps := ["self", "rows", "groups", "distance"]) fun _ _ _ _ _ _ us hl => match us, hl with | [_, _, _, _], _ => rfl
  have F2 := fun_mk (st := s_inside) l2 c2 k2
  have b2 := F2.binds (ps := ["low", "high", "spot"]) fun _ _ _ _ _ _ us hl => match us, hl with | [_, _, _], _ => rfl
  have F3 := fun_mk (st := s_starts_of) l3 c3 k3
  have b3 := F3.binds (ps := ["low", "high"]) fun _ _ _ _ _ _ us hl => match us, hl with | [_, _], _ => rfl
  have F4 := fun_mk (st := s_mix) l4 c4 k4
  have b4 := F4.binds (ps := ["first", "second", "rule"]) fun _ _ _ _ _ _ us hl => match us, hl with | [_, _, _], _ => rfl
  have F5 := fun_mk (st := s_line_at) l5 c5 k5
  have b5 := F5.binds (ps := ["line", "spot"]) fun _ _ _ _ _ _ us hl => match us, hl with | [_, _], _ => rfl
  have F6 := fun_mk (st := s_clean_line) l6 c6 k6
  have b6 := F6.binds (ps := ["line"]) fun _ _ _ _ _ _ us hl => match us, hl with | [_], _ => rfl
  have F7 := fun_mk (st := s_line_between) l7 c7 k7
  have b7 := F7.binds (ps := ["low", "high"]) fun _ _ _ _ _ _ us hl => match us, hl with | [_, _], _ => rfl
  have F8 := fun_mk (st := s_mix_lines) l8 c8 k8
  have b8 := F8.binds (ps := ["first", "second", "rule"]) fun _ _ _ _ _ _ us hl => match us, hl with | [_, _, _], _ => rfl
  have F9 := fun_mk (st := s_end_of) l9 c9 k9
  have b9 := F9.binds (ps := ["starts", "index"]) fun _ _ _ _ _ _ us hl => match us, hl with | [_, _], _ => rfl
  have F10 := fun_mk (st := s_index_of) l10 c10 k10
  have b10 := F10.binds (ps := ["starts", "spot"]) fun _ _ _ _ _ _ us hl => match us, hl with | [_, _], _ => rfl
  have F11 := fun_mk (st := s_reaches) l11 c11 k11
  have b11 := F11.binds (ps := ["starts", "index", "spot"]) fun _ _ _ _ _ _ us hl => match us, hl with | [_, _, _], _ => rfl
  have F12 := fun_mk (st := s_places_of) l12 c12 k12
  have b12 := F12.binds (ps := ["axes"]) fun _ _ _ _ _ _ us hl => match us, hl with | [_], _ => rfl
  have F13 := fun_mk (st := s_near) l13 c13 k13
  have b13 := F13.binds (ps := ["axes", "place"]) fun _ _ _ _ _ _ us hl => match us, hl with | [_, _], _ => rfl
  have F14 := fun_mk (st := s_grid_at) l14 c14 k14
  have b14 := F14.binds (ps := ["grid", "numbers"]) fun _ _ _ _ _ _ us hl => match us, hl with | [_, _], _ => rfl
  have F15 := fun_mk (st := s_needed_starts) l15 c15 k15
  have b15 := F15.binds (ps := ["axes", "weights", "axis"]) fun _ _ _ _ _ _ us hl => match us, hl with | [_, _, _], _ => rfl
  have F16 := fun_mk (st := s_clean_grid) l16 c16 k16
  have b16 := F16.binds (ps := ["axes", "weights"]) fun _ _ _ _ _ _ us hl => match us, hl with | [_, _], _ => rfl
  have F17 := fun_mk (st := s_grid_between) l17 c17 k17
  have b17 := F17.binds (ps := ["axis", "low", "high"]) fun _ _ _ _ _ _ us hl => match us, hl with | [_, _, _], _ => rfl
  have F18 := fun_mk (st := s_flat_grid) l18 c18 k18
  have b18 := F18.binds (ps := ["weight"]) fun _ _ _ _ _ _ us hl => match us, hl with | [_], _ => rfl
  have F19 := fun_mk (st := s_mix_grids) l19 c19 k19
  have b19 := F19.binds (ps := ["first", "second", "rule"]) fun _ _ _ _ _ _ us hl => match us, hl with | [_, _, _], _ => rfl
  have F20 := fun_mk (st := s_possible) l20 c20 k20
  have b20 := F20.binds (ps := ["rows", "groups", "distance"]) fun _ _ _ _ _ _ us hl => match us, hl with | [_, _, _], _ => rfl
  have F21 := fun_mk (st := s_zone_of) l21 c21 k21
  have b21 := F21.binds (ps := ["rows", "groups"]) fun _ _ _ _ _ _ us hl => match us, hl with | [_, _], _ => rfl
  have F22 := fun_mk (st := s_Offset___init__) l22 c22 k22
  have b22 := F22.binds (ps := ["self", "rows", "groups", "distance"]) fun _ _ _ _ _ _ us hl => match us, hl with | [_, _, _, _], _ => rfl
  have F23 := fun_mk (st := s_Offset___neg__) l23 c23 k23
  have b23 := F23.binds (ps := ["self"]) fun _ _ _ _ _ _ us hl => match us, hl with | [_], _ => rfl
  have F24 := fun_mk (st := s_Stretch___init__) l24 c24 k24
  have b24 := F24.binds (ps := ["self", "low", "high"]) fun _ _ _ _ _ _ us hl => match us, hl with | [_, _, _], _ => rfl
  have F25 := fun_mk (st := s_signed_stretch) l25 c25 k25
  have b25 := F25.binds (ps := ["low", "high", "sign"]) fun _ _ _ _ _ _ us hl => match us, hl with | [_, _, _], _ => rfl
  have F26 := fun_mk (st := s_Cell___init__) l26 c26 k26
  have b26 := F26.binds (ps := ["self", "zone", "rows", "groups", "distance"]) fun _ _ _ _ _ _ us hl => match us, hl with | [_, _, _, _, _], _ => rfl
  have F27 := fun_mk (st := s_own_cell) l27 c27 k27
  have b27 := F27.binds (ps := []) fun _ _ _ _ _ _ us hl => match us, hl with | [], _ => rfl
  have F28 := fun_mk (st := s_peer_cell) l28 c28 k28
  have b28 := F28.binds (ps := ["low", "high", "sign"]) fun _ _ _ _ _ _ us hl => match us, hl with | [_, _, _], _ => rfl
  have F29 := fun_mk (st := s_far_cell) l29 c29 k29
  have b29 := F29.binds (ps := ["ends", "sign"]) fun _ _ _ _ _ _ us hl => match us, hl with | [_, _], _ => rfl
  have F30 := fun_mk (st := s_Side___init__) l30 c30 k30
  have b30 := F30.binds (ps := ["self", "line", "grid"]) fun _ _ _ _ _ _ us hl => match us, hl with | [_, _, _], _ => rfl
  have F31 := fun_mk (st := s_Side___eq__) l31 c31 k31
  have b31 := F31.binds (ps := ["self", "other"]) fun _ _ _ _ _ _ us hl => match us, hl with | [_, _], _ => rfl
  have F32 := fun_mk (st := s_weight_there) l32 c32 k32
  have b32 := F32.binds (ps := ["side", "rows", "groups", "distance"]) fun _ _ _ _ _ _ us hl => match us, hl with | [_, _, _, _], _ => rfl
  have F33 := fun_mk (st := s_mix_sides) l33 c33 k33
  have b33 := F33.binds (ps := ["first", "second", "rule"]) fun _ _ _ _ _ _ us hl => match us, hl with | [_, _, _], _ => rfl
  have F34 := fun_mk (st := s_line_cells) l34 c34 k34
  have b34 := F34.binds (ps := ["side", "sign"]) fun _ _ _ _ _ _ us hl => match us, hl with | [_, _], _ => rfl
  have F35 := fun_mk (st := s_grid_cells) l35 c35 k35
  have b35 := F35.binds (ps := ["side", "sign"]) fun _ _ _ _ _ _ us hl => match us, hl with | [_, _], _ => rfl
  have F36 := fun_mk (st := s_nearest_on) l36 c36 k36
  have b36 := F36.binds (ps := ["side"]) fun _ _ _ _ _ _ us hl => match us, hl with | [_], _ => rfl
  have F37 := fun_mk (st := s_Weights___init__) l37 c37 k37
  have b37 := F37.binds (ps := ["self", "self_weight", "back", "ahead"]) fun _ _ _ _ _ _ us hl => match us, hl with | [_, _, _, _], _ => rfl
  have F38 := fun_mk (st := s_Weights_at) l38 c38 k38
  have b38 := F38.binds (ps := ["self", "offset"]) fun _ _ _ _ _ _ us hl => match us, hl with | [_, _], _ => rfl
  have F39 := fun_mk (st := s_Weights___eq__) l39 c39 k39
  have b39 := F39.binds (ps := ["self", "other"]) fun _ _ _ _ _ _ us hl => match us, hl with | [_, _], _ => rfl
  have F40 := fun_mk (st := s_Weights___bool__) l40 c40 k40
  have b40 := F40.binds (ps := ["self"]) fun _ _ _ _ _ _ us hl => match us, hl with | [_], _ => rfl
  have F41 := fun_mk (st := s_Weights_cells) l41 c41 k41
  have b41 := F41.binds (ps := ["self"]) fun _ _ _ _ _ _ us hl => match us, hl with | [_], _ => rfl
  have F42 := fun_mk (st := s_mix_weights) l42 c42 k42
  have b42 := F42.binds (ps := ["first", "second", "rule"]) fun _ _ _ _ _ _ us hl => match us, hl with | [_, _, _], _ => rfl
  have F43 := fun_mk (st := s_turned) l43 c43 k43
  have b43 := F43.binds (ps := ["weights"]) fun _ _ _ _ _ _ us hl => match us, hl with | [_], _ => rfl
  have F44 := fun_mk (st := s_Region___init__) l44 c44 k44
  have b44 := F44.binds (ps := ["self", "weights"]) fun _ _ _ _ _ _ us hl => match us, hl with | [_, _], _ => rfl
  have F45 := fun_mk (st := s_Region___and__) l45 c45 k45
  have b45 := F45.binds (ps := ["self", "other"]) fun _ _ _ _ _ _ us hl => match us, hl with | [_, _], _ => rfl
  have F46 := fun_mk (st := s_Region___or__) l46 c46 k46
  have b46 := F46.binds (ps := ["self", "other"]) fun _ _ _ _ _ _ us hl => match us, hl with | [_, _], _ => rfl
  have F47 := fun_mk (st := s_Region___sub__) l47 c47 k47
  have b47 := F47.binds (ps := ["self", "other"]) fun _ _ _ _ _ _ us hl => match us, hl with | [_, _], _ => rfl
  have F48 := fun_mk (st := s_Region___xor__) l48 c48 k48
  have b48 := F48.binds (ps := ["self", "other"]) fun _ _ _ _ _ _ us hl => match us, hl with | [_, _], _ => rfl
  have F49 := fun_mk (st := s_Region___invert__) l49 c49 k49
  have b49 := F49.binds (ps := ["self"]) fun _ _ _ _ _ _ us hl => match us, hl with | [_], _ => rfl
  have F50 := fun_mk (st := s_Region___neg__) l50 c50 k50
  have b50 := F50.binds (ps := ["self"]) fun _ _ _ _ _ _ us hl => match us, hl with | [_], _ => rfl
  have F51 := fun_mk (st := s_Region___contains__) l51 c51 k51
  have b51 := F51.binds (ps := ["self", "offset"]) fun _ _ _ _ _ _ us hl => match us, hl with | [_, _], _ => rfl
  have F52 := fun_mk (st := s_Region___eq__) l52 c52 k52
  have b52 := F52.binds (ps := ["self", "other"]) fun _ _ _ _ _ _ us hl => match us, hl with | [_, _], _ => rfl
  have F53 := fun_mk (st := s_Region___bool__) l53 c53 k53
  have b53 := F53.binds (ps := ["self"]) fun _ _ _ _ _ _ us hl => match us, hl with | [_], _ => rfl
  have F54 := fun_mk (st := s_Region_cells) l54 c54 k54
  have b54 := F54.binds (ps := ["self"]) fun _ _ _ _ _ _ us hl => match us, hl with | [_], _ => rfl
  have F55 := fun_mk (st := s_flat_side) l55 c55 k55
  have b55 := F55.binds (ps := ["peers", "others"]) fun _ _ _ _ _ _ us hl => match us, hl with | [_, _], _ => rfl
  have F56 := fun_mk (st := s_flat_region) l56 c56 k56
  have b56 := F56.binds (ps := ["itself", "peers", "others"]) fun _ _ _ _ _ _ us hl => match us, hl with | [_, _, _], _ => rfl
  have F57 := fun_mk (st := s_mirrored_end) l57 c57 k57
  have b57 := F57.binds (ps := ["end"]) fun _ _ _ _ _ _ us hl => match us, hl with | [_], _ => rfl
  have F58 := fun_mk (st := s_ends_checked) l58 c58 k58
  have b58 := F58.binds (ps := ["low", "high"]) fun _ _ _ _ _ _ us hl => match us, hl with | [_, _], _ => rfl
  have F59 := fun_mk (st := s_rows_between) l59 c59 k59
  have b59 := F59.binds (ps := ["low", "high"]) fun _ _ _ _ _ _ us hl => match us, hl with | [_, _], _ => rfl
  have F60 := fun_mk (st := s_axis_between) l60 c60 k60
  have b60 := F60.binds (ps := ["axis", "low", "high"]) fun _ _ _ _ _ _ us hl => match us, hl with | [_, _, _], _ => rfl
  have F61 := fun_mk (st := s_groups_between) l61 c61 k61
  have b61 := F61.binds (ps := ["low", "high"]) fun _ _ _ _ _ _ us hl => match us, hl with | [_, _], _ => rfl
  have F62 := fun_mk (st := s_keys_between) l62 c62 k62
  have b62 := F62.binds (ps := ["low", "high"]) fun _ _ _ _ _ _ us hl => match us, hl with | [_, _], _ => rfl
  have F63 := fun_mk (st := s_own_row) l63 c63 k63
  have b63 := F63.binds (ps := []) fun _ _ _ _ _ _ us hl => match us, hl with | [], _ => rfl
  have F64 := fun_mk (st := s_own_group) l64 c64 k64
  have b64 := F64.binds (ps := []) fun _ _ _ _ _ _ us hl => match us, hl with | [], _ => rfl
  have F65 := fun_mk (st := s_ties) l65 c65 k65
  have b65 := F65.binds (ps := []) fun _ _ _ _ _ _ us hl => match us, hl with | [], _ => rfl
  have F66 := fun_mk (st := s_every) l66 c66 k66
  have b66 := F66.binds (ps := []) fun _ _ _ _ _ _ us hl => match us, hl with | [], _ => rfl
  have F67 := fun_mk (st := s_nothing) l67 c67 k67
  have b67 := F67.binds (ps := []) fun _ _ _ _ _ _ us hl => match us, hl with | [], _ => rfl
  have F68 := fun_mk (st := s_weights_of) l68 c68 k68
  have b68 := F68.binds (ps := ["region", "number"]) fun _ _ _ _ _ _ us hl => match us, hl with | [_, _], _ => rfl
  have F69 := fun_mk (st := s__law_begin) l69 c69 k69
  have b69 := F69.binds (ps := ["_law_script"]) fun _ _ _ _ _ _ us hl => match us, hl with | [_], _ => rfl
  have F70 := fun_mk (st := s__law_draw) l70 c70 k70
  have b70 := F70.binds (ps := ["_law_draws", "_law_many"]) fun _ _ _ _ _ _ us hl => match us, hl with | [_, _], _ => rfl
  have F71 := fun_mk (st := s__law_holds) l71 c71 k71
  have b71 := F71.binds (ps := ["_law_tree_here", "_law_d", "_law_g", "_law_k"]) fun _ _ _ _ _ _ us hl => match us, hl with | [_, _, _, _], _ => rfl
  have F72 := fun_mk (st := s__law_region) l72 c72 k72
  have b72 := F72.binds (ps := ["_law_tree_here"]) fun _ _ _ _ _ _ us hl => match us, hl with | [_], _ => rfl
  have F73 := fun_mk (st := s__law_end) l73 c73 k73
  have b73 := F73.binds (ps := ["_law_draws", "_law_word"]) fun _ _ _ _ _ _ us hl => match us, hl with | [_, _], _ => rfl
  have F74 := fun_mk (st := s__law_basic) l74 c74 k74
  have b74 := F74.binds (ps := ["_law_draws"]) fun _ _ _ _ _ _ us hl => match us, hl with | [_], _ => rfl
  have F75 := fun_mk (st := s__law_tree) l75 c75 k75
  have b75 := F75.binds (ps := ["_law_draws", "_law_depth"]) fun _ _ _ _ _ _ us hl => match us, hl with | [_, _], _ => rfl
  have F76 := fun_mk (st := s__law_numbers) l76 c76 k76
  have b76 := F76.binds (ps := ["_law_draws"]) fun _ _ _ _ _ _ us hl => match us, hl with | [_], _ => rfl
  have F77 := fun_mk (st := s__law_in_place) l77 c77 k77
  have b77 := F77.binds (ps := ["_law_a", "_law_b", "_law_c"]) fun _ _ _ _ _ _ us hl => match us, hl with | [_, _, _], _ => rfl
  have F78 := fun_mk (st := s__law_unlike) l78 c78 k78
  have b78 := F78.binds (ps := ["_law_a", "_law_tree_here"]) fun _ _ _ _ _ _ us hl => match us, hl with | [_, _], _ => rfl
  have F79 := fun_mk (st := s_law) l79 c79 k79
  have b79 := F79.binds (ps := ["_law_script"]) fun _ _ _ _ _ _ us hl => match us, hl with | [_], _ => rfl
  let T : Txt K mg := {
    f_TurnedStretch___init__ := f0,
    d_TurnedStretch___init__ := _,
    F_TurnedStretch___init__ := F0,
    b_TurnedStretch___init__ := b0,
    f_BadOffset___init__ := f1,
    d_BadOffset___init__ := _,
    F_BadOffset___init__ := F1,
    b_BadOffset___init__ := b1,
    f_inside := f2,
    d_inside := _,
    F_inside := F2,
    b_inside := b2,
    g_inside := PySem.W.mg_of X G a2,
    f_starts_of := f3,
    d_starts_of := _,
    F_starts_of := F3,
    b_starts_of := b3,
    g_starts_of := PySem.W.mg_of X G a3,
    f_mix := f4,
    d_mix := _,
    F_mix := F4,
    b_mix := b4,
    g_mix := PySem.W.mg_of X G a4,
    f_line_at := f5,
    d_line_at := _,
    F_line_at := F5,
    b_line_at := b5,
    g_line_at := PySem.W.mg_of X G a5,
    f_clean_line := f6,
    d_clean_line := _,
    F_clean_line := F6,
    b_clean_line := b6,
    g_clean_line := PySem.W.mg_of X G a6,
    f_line_between := f7,
    d_line_between := _,
    F_line_between := F7,
    b_line_between := b7,
    g_line_between := PySem.W.mg_of X G a7,
    f_mix_lines := f8,
    d_mix_lines := _,
    F_mix_lines := F8,
    b_mix_lines := b8,
    g_mix_lines := PySem.W.mg_of X G a8,
    f_end_of := f9,
    d_end_of := _,
    F_end_of := F9,
    b_end_of := b9,
    g_end_of := PySem.W.mg_of X G a9,
    f_index_of := f10,
    d_index_of := _,
    F_index_of := F10,
    b_index_of := b10,
    g_index_of := PySem.W.mg_of X G a10,
    f_reaches := f11,
    d_reaches := _,
    F_reaches := F11,
    b_reaches := b11,
    g_reaches := PySem.W.mg_of X G a11,
    f_places_of := f12,
    d_places_of := _,
    F_places_of := F12,
    b_places_of := b12,
    g_places_of := PySem.W.mg_of X G a12,
    f_near := f13,
    d_near := _,
    F_near := F13,
    b_near := b13,
    g_near := PySem.W.mg_of X G a13,
    f_grid_at := f14,
    d_grid_at := _,
    F_grid_at := F14,
    b_grid_at := b14,
    g_grid_at := PySem.W.mg_of X G a14,
    f_needed_starts := f15,
    d_needed_starts := _,
    F_needed_starts := F15,
    b_needed_starts := b15,
    g_needed_starts := PySem.W.mg_of X G a15,
    f_clean_grid := f16,
    d_clean_grid := _,
    F_clean_grid := F16,
    b_clean_grid := b16,
    g_clean_grid := PySem.W.mg_of X G a16,
    f_grid_between := f17,
    d_grid_between := _,
    F_grid_between := F17,
    b_grid_between := b17,
    g_grid_between := PySem.W.mg_of X G a17,
    f_flat_grid := f18,
    d_flat_grid := _,
    F_flat_grid := F18,
    b_flat_grid := b18,
    g_flat_grid := PySem.W.mg_of X G a18,
    f_mix_grids := f19,
    d_mix_grids := _,
    F_mix_grids := F19,
    b_mix_grids := b19,
    g_mix_grids := PySem.W.mg_of X G a19,
    f_possible := f20,
    d_possible := _,
    F_possible := F20,
    b_possible := b20,
    g_possible := PySem.W.mg_of X G a20,
    f_zone_of := f21,
    d_zone_of := _,
    F_zone_of := F21,
    b_zone_of := b21,
    g_zone_of := PySem.W.mg_of X G a21,
    f_Offset___init__ := f22,
    d_Offset___init__ := _,
    F_Offset___init__ := F22,
    b_Offset___init__ := b22,
    f_Offset___neg__ := f23,
    d_Offset___neg__ := _,
    F_Offset___neg__ := F23,
    b_Offset___neg__ := b23,
    f_Stretch___init__ := f24,
    d_Stretch___init__ := _,
    F_Stretch___init__ := F24,
    b_Stretch___init__ := b24,
    f_signed_stretch := f25,
    d_signed_stretch := _,
    F_signed_stretch := F25,
    b_signed_stretch := b25,
    g_signed_stretch := PySem.W.mg_of X G a25,
    f_Cell___init__ := f26,
    d_Cell___init__ := _,
    F_Cell___init__ := F26,
    b_Cell___init__ := b26,
    f_own_cell := f27,
    d_own_cell := _,
    F_own_cell := F27,
    b_own_cell := b27,
    g_own_cell := PySem.W.mg_of X G a27,
    f_peer_cell := f28,
    d_peer_cell := _,
    F_peer_cell := F28,
    b_peer_cell := b28,
    g_peer_cell := PySem.W.mg_of X G a28,
    f_far_cell := f29,
    d_far_cell := _,
    F_far_cell := F29,
    b_far_cell := b29,
    g_far_cell := PySem.W.mg_of X G a29,
    f_Side___init__ := f30,
    d_Side___init__ := _,
    F_Side___init__ := F30,
    b_Side___init__ := b30,
    f_Side___eq__ := f31,
    d_Side___eq__ := _,
    F_Side___eq__ := F31,
    b_Side___eq__ := b31,
    f_weight_there := f32,
    d_weight_there := _,
    F_weight_there := F32,
    b_weight_there := b32,
    g_weight_there := PySem.W.mg_of X G a32,
    f_mix_sides := f33,
    d_mix_sides := _,
    F_mix_sides := F33,
    b_mix_sides := b33,
    g_mix_sides := PySem.W.mg_of X G a33,
    f_line_cells := f34,
    d_line_cells := _,
    F_line_cells := F34,
    b_line_cells := b34,
    g_line_cells := PySem.W.mg_of X G a34,
    f_grid_cells := f35,
    d_grid_cells := _,
    F_grid_cells := F35,
    b_grid_cells := b35,
    g_grid_cells := PySem.W.mg_of X G a35,
    f_nearest_on := f36,
    d_nearest_on := _,
    F_nearest_on := F36,
    b_nearest_on := b36,
    g_nearest_on := PySem.W.mg_of X G a36,
    f_Weights___init__ := f37,
    d_Weights___init__ := _,
    F_Weights___init__ := F37,
    b_Weights___init__ := b37,
    f_Weights_at := f38,
    d_Weights_at := _,
    F_Weights_at := F38,
    b_Weights_at := b38,
    f_Weights___eq__ := f39,
    d_Weights___eq__ := _,
    F_Weights___eq__ := F39,
    b_Weights___eq__ := b39,
    f_Weights___bool__ := f40,
    d_Weights___bool__ := _,
    F_Weights___bool__ := F40,
    b_Weights___bool__ := b40,
    f_Weights_cells := f41,
    d_Weights_cells := _,
    F_Weights_cells := F41,
    b_Weights_cells := b41,
    f_mix_weights := f42,
    d_mix_weights := _,
    F_mix_weights := F42,
    b_mix_weights := b42,
    g_mix_weights := PySem.W.mg_of X G a42,
    f_turned := f43,
    d_turned := _,
    F_turned := F43,
    b_turned := b43,
    g_turned := PySem.W.mg_of X G a43,
    f_Region___init__ := f44,
    d_Region___init__ := _,
    F_Region___init__ := F44,
    b_Region___init__ := b44,
    f_Region___and__ := f45,
    d_Region___and__ := _,
    F_Region___and__ := F45,
    b_Region___and__ := b45,
    f_Region___or__ := f46,
    d_Region___or__ := _,
    F_Region___or__ := F46,
    b_Region___or__ := b46,
    f_Region___sub__ := f47,
    d_Region___sub__ := _,
    F_Region___sub__ := F47,
    b_Region___sub__ := b47,
    f_Region___xor__ := f48,
    d_Region___xor__ := _,
    F_Region___xor__ := F48,
    b_Region___xor__ := b48,
    f_Region___invert__ := f49,
    d_Region___invert__ := _,
    F_Region___invert__ := F49,
    b_Region___invert__ := b49,
    f_Region___neg__ := f50,
    d_Region___neg__ := _,
    F_Region___neg__ := F50,
    b_Region___neg__ := b50,
    f_Region___contains__ := f51,
    d_Region___contains__ := _,
    F_Region___contains__ := F51,
    b_Region___contains__ := b51,
    f_Region___eq__ := f52,
    d_Region___eq__ := _,
    F_Region___eq__ := F52,
    b_Region___eq__ := b52,
    f_Region___bool__ := f53,
    d_Region___bool__ := _,
    F_Region___bool__ := F53,
    b_Region___bool__ := b53,
    f_Region_cells := f54,
    d_Region_cells := _,
    F_Region_cells := F54,
    b_Region_cells := b54,
    f_flat_side := f55,
    d_flat_side := _,
    F_flat_side := F55,
    b_flat_side := b55,
    g_flat_side := PySem.W.mg_of X G a55,
    f_flat_region := f56,
    d_flat_region := _,
    F_flat_region := F56,
    b_flat_region := b56,
    g_flat_region := PySem.W.mg_of X G a56,
    f_mirrored_end := f57,
    d_mirrored_end := _,
    F_mirrored_end := F57,
    b_mirrored_end := b57,
    g_mirrored_end := PySem.W.mg_of X G a57,
    f_ends_checked := f58,
    d_ends_checked := _,
    F_ends_checked := F58,
    b_ends_checked := b58,
    g_ends_checked := PySem.W.mg_of X G a58,
    f_rows_between := f59,
    d_rows_between := _,
    F_rows_between := F59,
    b_rows_between := b59,
    g_rows_between := PySem.W.mg_of X G a59,
    f_axis_between := f60,
    d_axis_between := _,
    F_axis_between := F60,
    b_axis_between := b60,
    g_axis_between := PySem.W.mg_of X G a60,
    f_groups_between := f61,
    d_groups_between := _,
    F_groups_between := F61,
    b_groups_between := b61,
    g_groups_between := PySem.W.mg_of X G a61,
    f_keys_between := f62,
    d_keys_between := _,
    F_keys_between := F62,
    b_keys_between := b62,
    g_keys_between := PySem.W.mg_of X G a62,
    f_own_row := f63,
    d_own_row := _,
    F_own_row := F63,
    b_own_row := b63,
    g_own_row := PySem.W.mg_of X G a63,
    f_own_group := f64,
    d_own_group := _,
    F_own_group := F64,
    b_own_group := b64,
    g_own_group := PySem.W.mg_of X G a64,
    f_ties := f65,
    d_ties := _,
    F_ties := F65,
    b_ties := b65,
    g_ties := PySem.W.mg_of X G a65,
    f_every := f66,
    d_every := _,
    F_every := F66,
    b_every := b66,
    g_every := PySem.W.mg_of X G a66,
    f_nothing := f67,
    d_nothing := _,
    F_nothing := F67,
    b_nothing := b67,
    g_nothing := PySem.W.mg_of X G a67,
    f_weights_of := f68,
    d_weights_of := _,
    F_weights_of := F68,
    b_weights_of := b68,
    g_weights_of := PySem.W.mg_of X G a68,
    f__law_begin := f69,
    d__law_begin := _,
    F__law_begin := F69,
    b__law_begin := b69,
    g__law_begin := PySem.W.mg_of X G a69,
    f__law_draw := f70,
    d__law_draw := _,
    F__law_draw := F70,
    b__law_draw := b70,
    g__law_draw := PySem.W.mg_of X G a70,
    f__law_holds := f71,
    d__law_holds := _,
    F__law_holds := F71,
    b__law_holds := b71,
    g__law_holds := PySem.W.mg_of X G a71,
    f__law_region := f72,
    d__law_region := _,
    F__law_region := F72,
    b__law_region := b72,
    g__law_region := PySem.W.mg_of X G a72,
    f__law_end := f73,
    d__law_end := _,
    F__law_end := F73,
    b__law_end := b73,
    g__law_end := PySem.W.mg_of X G a73,
    f__law_basic := f74,
    d__law_basic := _,
    F__law_basic := F74,
    b__law_basic := b74,
    g__law_basic := PySem.W.mg_of X G a74,
    f__law_tree := f75,
    d__law_tree := _,
    F__law_tree := F75,
    b__law_tree := b75,
    g__law_tree := PySem.W.mg_of X G a75,
    f__law_numbers := f76,
    d__law_numbers := _,
    F__law_numbers := F76,
    b__law_numbers := b76,
    g__law_numbers := PySem.W.mg_of X G a76,
    f__law_in_place := f77,
    d__law_in_place := _,
    F__law_in_place := F77,
    b__law_in_place := b77,
    g__law_in_place := PySem.W.mg_of X G a77,
    f__law_unlike := f78,
    d__law_unlike := _,
    F__law_unlike := F78,
    b__law_unlike := b78,
    g__law_unlike := PySem.W.mg_of X G a78,
    f_law := fa,
    d_law := _,
    F_law := F79,
    b_law := b79,
    g_law := PySem.W.mg_of X G a79,
    z_NotImplemented := PySem.W.mg_none_of X G z_NotImplemented,
    z_abs := PySem.W.mg_none_of X G z_abs,
    z_bool := PySem.W.mg_none_of X G z_bool,
    z_enumerate := PySem.W.mg_none_of X G z_enumerate,
    z_int := PySem.W.mg_none_of X G z_int,
    z_isinstance := PySem.W.mg_none_of X G z_isinstance,
    z_len := PySem.W.mg_none_of X G z_len,
    z_max := PySem.W.mg_none_of X G z_max,
    z_min := PySem.W.mg_none_of X G z_min,
    z_range := PySem.W.mg_none_of X G z_range,
    z_set := PySem.W.mg_none_of X G z_set,
    z_sorted := PySem.W.mg_none_of X G z_sorted,
    C_WindowError := C_WindowError,
    g_WindowError := PySem.W.mg_of X G aC_WindowError,
    C_TurnedStretch := C_TurnedStretch,
    g_TurnedStretch := PySem.W.mg_of X G aC_TurnedStretch,
    ox_TurnedStretch := ⟨⟨nm_TurnedStretch, q_TurnedStretch, N_TurnedStretch, bs_TurnedStretch, bm_TurnedStretch, sn_TurnedStretch, sub_TurnedStretch, ab_TurnedStretch, col_TurnedStretch, dd_TurnedStretch, m0_TurnedStretch, m1_TurnedStretch, m2_TurnedStretch, m3_TurnedStretch, m5_TurnedStretch, xL_TurnedStretch, bmr_TurnedStretch⟩, sa_TurnedStretch, ex_TurnedStretch, ty_TurnedStretch, kc_TurnedStretch⟩,
    xf_TurnedStretch := ⟨ga_TurnedStretch, gg_TurnedStretch, ex_TurnedStretch, hd_TurnedStretch⟩,
    iC_TurnedStretch := a0,
    tI_TurnedStretch := tI_TurnedStretch,
    nf_TurnedStretch_low := nf_TurnedStretch_low,
    nf_TurnedStretch_high := nf_TurnedStretch_high,
    em_TurnedStretch_TurnedStretch := PySem.W.exm_ref ex_TurnedStretch hd_TurnedStretch ty_TurnedStretch su_TurnedStretch_TurnedStretch,
    is_TurnedStretch_TurnedStretch := is_TurnedStretch_TurnedStretch,
    C_BadOffset := C_BadOffset,
    g_BadOffset := PySem.W.mg_of X G aC_BadOffset,
    ox_BadOffset := ⟨⟨nm_BadOffset, q_BadOffset, N_BadOffset, bs_BadOffset, bm_BadOffset, sn_BadOffset, sub_BadOffset, ab_BadOffset, col_BadOffset, dd_BadOffset, m0_BadOffset, m1_BadOffset, m2_BadOffset, m3_BadOffset, m5_BadOffset, xL_BadOffset, bmr_BadOffset⟩, sa_BadOffset, ex_BadOffset, ty_BadOffset, kc_BadOffset⟩,
    xf_BadOffset := ⟨ga_BadOffset, gg_BadOffset, ex_BadOffset, hd_BadOffset⟩,
    iC_BadOffset := a1,
    tI_BadOffset := tI_BadOffset,
    nf_BadOffset_rows := nf_BadOffset_rows,
    nf_BadOffset_groups := nf_BadOffset_groups,
    nf_BadOffset_distance := nf_BadOffset_distance,
    em_BadOffset_BadOffset := PySem.W.exm_ref ex_BadOffset hd_BadOffset ty_BadOffset su_BadOffset_BadOffset,
    is_BadOffset_BadOffset := is_BadOffset_BadOffset,
    C_Offset := C_Offset,
    g_Offset := PySem.W.mg_of X G aC_Offset,
    c_Offset := ⟨pg_Offset, hd_Offset, po_Offset, sa_Offset⟩,
    m_Offset := ⟨mk_Offset, a22, i22, kc_Offset⟩,
    nf_Offset_rows := nf_Offset_rows,
    nf_Offset_groups := nf_Offset_groups,
    nf_Offset_distance := nf_Offset_distance,
    nf_Offset_zone := nf_Offset_zone,
    mt_Offset___neg__ := ⟨a23, i23, k23⟩,
    ca_Offset := ca_Offset,
    cn_Offset := cn_Offset,
    ct_Offset := ct_Offset,
    cm_Offset := cm_Offset,
    C_Side := C_Side,
    g_Side := PySem.W.mg_of X G aC_Side,
    c_Side := ⟨pg_Side, hd_Side, po_Side, sa_Side⟩,
    m_Side := ⟨mk_Side, a30, i30, kc_Side⟩,
    nf_Side_line := nf_Side_line,
    nf_Side_grid := nf_Side_grid,
    mt_Side___eq__ := ⟨a31, i31, k31⟩,
    ca_Side := ca_Side,
    cn_Side := cn_Side,
    ct_Side := ct_Side,
    cm_Side := cm_Side,
    nt_Side := nt_Side,
    C_Weights := C_Weights,
    g_Weights := PySem.W.mg_of X G aC_Weights,
    c_Weights := ⟨pg_Weights, hd_Weights, po_Weights, sa_Weights⟩,
    m_Weights := ⟨mk_Weights, a37, i37, kc_Weights⟩,
    nf_Weights_self_weight := nf_Weights_self_weight,
    nf_Weights_back := nf_Weights_back,
    nf_Weights_ahead := nf_Weights_ahead,
    mt_Weights_at := ⟨a38, i38, k38⟩,
    mt_Weights___eq__ := ⟨a39, i39, k39⟩,
    mt_Weights___bool__ := ⟨a40, i40, k40⟩,
    mt_Weights_cells := ⟨a41, i41, k41⟩,
    ca_Weights := ca_Weights,
    cn_Weights := cn_Weights,
    ct_Weights := ct_Weights,
    cm_Weights := cm_Weights,
    nt_Weights := nt_Weights,
    nt_Weights_Region := nt_Weights_Region,
    ki_Weights_Region := ki_Weights_Region,
    C_Region := C_Region,
    g_Region := PySem.W.mg_of X G aC_Region,
    c_Region := ⟨pg_Region, hd_Region, po_Region, sa_Region⟩,
    m_Region := ⟨mk_Region, a44, i44, kc_Region⟩,
    nf_Region_weights := nf_Region_weights,
    mt_Region___and__ := ⟨a45, i45, k45⟩,
    mt_Region___or__ := ⟨a46, i46, k46⟩,
    mt_Region___sub__ := ⟨a47, i47, k47⟩,
    mt_Region___xor__ := ⟨a48, i48, k48⟩,
    mt_Region___invert__ := ⟨a49, i49, k49⟩,
    mt_Region___neg__ := ⟨a50, i50, k50⟩,
    mt_Region___contains__ := ⟨a51, i51, k51⟩,
    mt_Region___eq__ := ⟨a52, i52, k52⟩,
    mt_Region___bool__ := ⟨a53, i53, k53⟩,
    mt_Region_cells := ⟨a54, i54, k54⟩,
    ca_Region := ca_Region,
    cn_Region := cn_Region,
    ct_Region := ct_Region,
    cm_Region := cm_Region,
    ne_Region := ne_Region,
    ob_Region := ob_Region,
    nt_Region := nt_Region,
    sf_Region := sf_Region,
    no_Region_or := noI_of hcd_Region hmr_Region fi_Region_or fo_Region_or (by decide +kernel),
    no_Region_and := noI_of hcd_Region hmr_Region fi_Region_and fo_Region_and (by decide +kernel),
    no_Region_sub := noI_of hcd_Region hmr_Region fi_Region_sub fo_Region_sub (by decide +kernel),
    no_Region_xor := noI_of hcd_Region hmr_Region fi_Region_xor fo_Region_xor (by decide +kernel),
    nt_Region_int := nt_Region_int,
    ki_Region_int := ki_Region_int,
    nt_Region_str := nt_Region_str,
    ki_Region_str := ki_Region_str,
    nt_Region_list := nt_Region_list,
    ki_Region_list := ki_Region_list,
    nt_Region_Weights := nt_Region_Weights,
    ki_Region_Weights := ki_Region_Weights,
    nt_Region_Offset := nt_Region_Offset,
    ki_Region_Offset := ki_Region_Offset,
    C_Stretch := C_Stretch,
    g_Stretch := PySem.W.mg_of X G aC_Stretch,
    c_Stretch := ⟨pg_Stretch, hd_Stretch, po_Stretch, sa_Stretch⟩,
    m_Stretch := ⟨mk_Stretch, a24, i24, kc_Stretch⟩,
    nf_Stretch_low := nf_Stretch_low,
    nf_Stretch_high := nf_Stretch_high,
    ca_Stretch := ca_Stretch,
    cn_Stretch := cn_Stretch,
    ct_Stretch := ct_Stretch,
    cm_Stretch := cm_Stretch,
    C_Cell := C_Cell,
    g_Cell := PySem.W.mg_of X G aC_Cell,
    c_Cell := ⟨pg_Cell, hd_Cell, po_Cell, sa_Cell⟩,
    m_Cell := ⟨mk_Cell, a26, i26, kc_Cell⟩,
    nf_Cell_zone := nf_Cell_zone,
    nf_Cell_rows := nf_Cell_rows,
    nf_Cell_groups := nf_Cell_groups,
    nf_Cell_distance := nf_Cell_distance,
    ca_Cell := ca_Cell,
    cn_Cell := cn_Cell,
    ct_Cell := ct_Cell,
    cm_Cell := cm_Cell,
    kt_bool_int := kt_bool_int,
    kt_int_bool := kt_int_bool }
  exact ⟨PySem.W.fnOf "law" "law" (defArgs s_law) (defBody s_law) (defScope s_law) .none kV79 dc79 pm79 an79 cd79 ct79, fun s v => .of_eq rfl, fun base _ _ => ok_law T⟩
end Wr
open PySem PySem.W PyProof.Rows
set_option maxRecDepth 100000 in
set_option maxHeartbeats 0 in
theorem PySem.Challenge.cw_windowrows_k27_whole_region_laws_holds : PySem.Challenge.rw_windowrows_k27_whole_region_laws.Holds := by
  w_on; o_law; k_head; (case hw => w_witness2)
  k_fill
  refine L2.walk_of (l := PySem.Challenge.rw_windowrows_k27_whole_region_laws) (n := 63) (k := 18) (x := "_law_script") (CX := fun _ => L2.CX0) (sp := fun w => Wr.spLaw _) rfl (by decide) rfl ⟨rfl, by decide, by decide⟩ (fun w h Y => PySem.W.kIn_of Y) ?F (fun _ _ a ns hl _ hS => ⟨a, ns, rfl, hS, hl, fun _ => rfl⟩) (fun _ _ _ _ _ h => h)
  case F =>
    intro w mg fa h KX G hmg
    refine' Wr.all_mk KX G hmg ?aC_WindowError ?aC_TurnedStretch ?aC_BadOffset ?aC_Offset ?aC_Side ?aC_Weights ?aC_Region ?aC_Stretch ?aC_Cell ?a0 ?i0 ?l0 ?c0 ?k0 ?a1 ?i1 ?l1 ?c1 ?k1 ?a2 ?l2 ?c2 ?k2 ?a3 ?l3 ?c3 ?k3 ?a4 ?l4 ?c4 ?k4 ?a5 ?l5 ?c5 ?k5 ?a6 ?l6 ?c6 ?k6 ?a7 ?l7 ?c7 ?k7 ?a8 ?l8 ?c8 ?k8 ?a9 ?l9 ?c9 ?k9 ?a10 ?l10 ?c10 ?k10 ?a11 ?l11 ?c11 ?k11 ?a12 ?l12 ?c12 ?k12 ?a13 ?l13 ?c13 ?k13 ?a14 ?l14 ?c14 ?k14 ?a15 ?l15 ?c15 ?k15 ?a16 ?l16 ?c16 ?k16 ?a17 ?l17 ?c17 ?k17 ?a18 ?l18 ?c18 ?k18 ?a19 ?l19 ?c19 ?k19 ?a20 ?l20 ?c20 ?k20 ?a21 ?l21 ?c21 ?k21 ?a22 ?i22 ?l22 ?c22 ?k22 ?a23 ?i23 ?l23 ?c23 ?k23 ?a24 ?i24 ?l24 ?c24 ?k24 ?a25 ?l25 ?c25 ?k25 ?a26 ?i26 ?l26 ?c26 ?k26 ?a27 ?l27 ?c27 ?k27 ?a28 ?l28 ?c28 ?k28 ?a29 ?l29 ?c29 ?k29 ?a30 ?i30 ?l30 ?c30 ?k30 ?a31 ?i31 ?l31 ?c31 ?k31 ?a32 ?l32 ?c32 ?k32 ?a33 ?l33 ?c33 ?k33 ?a34 ?l34 ?c34 ?k34 ?a35 ?l35 ?c35 ?k35 ?a36 ?l36 ?c36 ?k36 ?a37 ?i37 ?l37 ?c37 ?k37 ?a38 ?i38 ?l38 ?c38 ?k38 ?a39 ?i39 ?l39 ?c39 ?k39 ?a40 ?i40 ?l40 ?c40 ?k40 ?a41 ?i41 ?l41 ?c41 ?k41 ?a42 ?l42 ?c42 ?k42 ?a43 ?l43 ?c43 ?k43 ?a44 ?i44 ?l44 ?c44 ?k44 ?a45 ?i45 ?l45 ?c45 ?k45 ?a46 ?i46 ?l46 ?c46 ?k46 ?a47 ?i47 ?l47 ?c47 ?k47 ?a48 ?i48 ?l48 ?c48 ?k48 ?a49 ?i49 ?l49 ?c49 ?k49 ?a50 ?i50 ?l50 ?c50 ?k50 ?a51 ?i51 ?l51 ?c51 ?k51 ?a52 ?i52 ?l52 ?c52 ?k52 ?a53 ?i53 ?l53 ?c53 ?k53 ?a54 ?i54 ?l54 ?c54 ?k54 ?a55 ?l55 ?c55 ?k55 ?a56 ?l56 ?c56 ?k56 ?a57 ?l57 ?c57 ?k57 ?a58 ?l58 ?c58 ?k58 ?a59 ?l59 ?c59 ?k59 ?a60 ?l60 ?c60 ?k60 ?a61 ?l61 ?c61 ?k61 ?a62 ?l62 ?c62 ?k62 ?a63 ?l63 ?c63 ?k63 ?a64 ?l64 ?c64 ?k64 ?a65 ?l65 ?c65 ?k65 ?a66 ?l66 ?c66 ?k66 ?a67 ?l67 ?c67 ?k67 ?a68 ?l68 ?c68 ?k68 ?a69 ?l69 ?c69 ?k69 ?a70 ?l70 ?c70 ?k70 ?a71 ?l71 ?c71 ?k71 ?a72 ?l72 ?c72 ?k72 ?a73 ?l73 ?c73 ?k73 ?a74 ?l74 ?c74 ?k74 ?a75 ?l75 ?c75 ?k75 ?a76 ?l76 ?c76 ?k76 ?a77 ?l77 ?c77 ?k77 ?a78 ?l78 ?c78 ?k78 ?a79 ?l79 ?c79 ?k79 ?z_NotImplemented ?z_abs ?z_bool ?z_enumerate ?z_int ?z_isinstance ?z_len ?z_max ?z_min ?z_range ?z_set ?z_sorted ?ex_WindowError ?ty_WindowError ?hd_WindowError ?ex_TurnedStretch ?ty_TurnedStretch ?hd_TurnedStretch ?xL_TurnedStretch ?bmr_TurnedStretch ?sa_TurnedStretch ?kc_TurnedStretch ?ga_TurnedStretch ?gg_TurnedStretch ?tI_TurnedStretch ?nf_TurnedStretch_low ?nf_TurnedStretch_high ?su_TurnedStretch_TurnedStretch ?is_TurnedStretch_TurnedStretch ?ex_BadOffset ?ty_BadOffset ?hd_BadOffset ?xL_BadOffset ?bmr_BadOffset ?sa_BadOffset ?kc_BadOffset ?ga_BadOffset ?gg_BadOffset ?tI_BadOffset ?nf_BadOffset_rows ?nf_BadOffset_groups ?nf_BadOffset_distance ?su_BadOffset_BadOffset ?is_BadOffset_BadOffset ?pg_Offset ?hd_Offset ?po_Offset ?sa_Offset ?mk_Offset ?kc_Offset ?nf_Offset_rows ?nf_Offset_groups ?nf_Offset_distance ?nf_Offset_zone ?ca_Offset ?cn_Offset ?ct_Offset ?cm_Offset ?pg_Side ?hd_Side ?po_Side ?sa_Side ?mk_Side ?kc_Side ?nf_Side_line ?nf_Side_grid ?ca_Side ?cn_Side ?ct_Side ?cm_Side ?nt_Side ?pg_Weights ?hd_Weights ?po_Weights ?sa_Weights ?mk_Weights ?kc_Weights ?nf_Weights_self_weight ?nf_Weights_back ?nf_Weights_ahead ?ca_Weights ?cn_Weights ?ct_Weights ?cm_Weights ?nt_Weights ?nt_Weights_Region ?ki_Weights_Region ?pg_Region ?hd_Region ?po_Region ?sa_Region ?mk_Region ?kc_Region ?nf_Region_weights ?ca_Region ?cn_Region ?ct_Region ?cm_Region ?ne_Region ?ob_Region ?nt_Region ?sf_Region ?hcd_Region ?hmr_Region ?fi_Region_or ?fo_Region_or ?fi_Region_and ?fo_Region_and ?fi_Region_sub ?fo_Region_sub ?fi_Region_xor ?fo_Region_xor ?nt_Region_int ?ki_Region_int ?nt_Region_str ?ki_Region_str ?nt_Region_list ?ki_Region_list ?nt_Region_Weights ?ki_Region_Weights ?nt_Region_Offset ?ki_Region_Offset ?pg_Stretch ?hd_Stretch ?po_Stretch ?sa_Stretch ?mk_Stretch ?kc_Stretch ?nf_Stretch_low ?nf_Stretch_high ?ca_Stretch ?cn_Stretch ?ct_Stretch ?cm_Stretch ?pg_Cell ?hd_Cell ?po_Cell ?sa_Cell ?mk_Cell ?kc_Cell ?nf_Cell_zone ?nf_Cell_rows ?nf_Cell_groups ?nf_Cell_distance ?ca_Cell ?cn_Cell ?ct_Cell ?cm_Cell ?kt_bool_int ?kt_int_bool
    (case aC_WindowError => k_is)
    (case aC_TurnedStretch => k_is)
    (case aC_BadOffset => k_is)
    (case aC_Offset => k_is)
    (case aC_Side => k_is)
    (case aC_Weights => k_is)
    (case aC_Region => k_is)
    (case aC_Stretch => k_is)
    (case aC_Cell => k_is)
    (case a0 => k_is)
    (case i0 => k_is)
    (case l0 => k_is)
    (case c0 => k_is)
    (case k0 => k_is)
    (case a1 => k_is)
    (case i1 => k_is)
    (case l1 => k_is)
    (case c1 => k_is)
    (case k1 => k_is)
    (case a2 => k_is)
    (case l2 => k_is)
    (case c2 => k_is)
    (case k2 => k_is)
    (case a3 => k_is)
    (case l3 => k_is)
    (case c3 => k_is)
    (case k3 => k_is)
    (case a4 => k_is)
    (case l4 => k_is)
    (case c4 => k_is)
    (case k4 => k_is)
    (case a5 => k_is)
    (case l5 => k_is)
    (case c5 => k_is)
    (case k5 => k_is)
    (case a6 => k_is)
    (case l6 => k_is)
    (case c6 => k_is)
    (case k6 => k_is)
    (case a7 => k_is)
    (case l7 => k_is)
    (case c7 => k_is)
    (case k7 => k_is)
    (case a8 => k_is)
    (case l8 => k_is)
    (case c8 => k_is)
    (case k8 => k_is)
    (case a9 => k_is)
    (case l9 => k_is)
    (case c9 => k_is)
    (case k9 => k_is)
    (case a10 => k_is)
    (case l10 => k_is)
    (case c10 => k_is)
    (case k10 => k_is)
    (case a11 => k_is)
    (case l11 => k_is)
    (case c11 => k_is)
    (case k11 => k_is)
    (case a12 => k_is)
    (case l12 => k_is)
    (case c12 => k_is)
    (case k12 => k_is)
    (case a13 => k_is)
    (case l13 => k_is)
    (case c13 => k_is)
    (case k13 => k_is)
    (case a14 => k_is)
    (case l14 => k_is)
    (case c14 => k_is)
    (case k14 => k_is)
    (case a15 => k_is)
    (case l15 => k_is)
    (case c15 => k_is)
    (case k15 => k_is)
    (case a16 => k_is)
    (case l16 => k_is)
    (case c16 => k_is)
    (case k16 => k_is)
    (case a17 => k_is)
    (case l17 => k_is)
    (case c17 => k_is)
    (case k17 => k_is)
    (case a18 => k_is)
    (case l18 => k_is)
    (case c18 => k_is)
    (case k18 => k_is)
    (case a19 => k_is)
    (case l19 => k_is)
    (case c19 => k_is)
    (case k19 => k_is)
    (case a20 => k_is)
    (case l20 => k_is)
    (case c20 => k_is)
    (case k20 => k_is)
    (case a21 => k_is)
    (case l21 => k_is)
    (case c21 => k_is)
    (case k21 => k_is)
    (case a22 => k_is)
    (case i22 => k_is)
    (case l22 => k_is)
    (case c22 => k_is)
    (case k22 => k_is)
    (case a23 => k_is)
    (case i23 => k_is)
    (case l23 => k_is)
    (case c23 => k_is)
    (case k23 => k_is)
    (case a24 => k_is)
    (case i24 => k_is)
    (case l24 => k_is)
    (case c24 => k_is)
    (case k24 => k_is)
    (case a25 => k_is)
    (case l25 => k_is)
    (case c25 => k_is)
    (case k25 => k_is)
    (case a26 => k_is)
    (case i26 => k_is)
    (case l26 => k_is)
    (case c26 => k_is)
    (case k26 => k_is)
    (case a27 => k_is)
    (case l27 => k_is)
    (case c27 => k_is)
    (case k27 => k_is)
    (case a28 => k_is)
    (case l28 => k_is)
    (case c28 => k_is)
    (case k28 => k_is)
    (case a29 => k_is)
    (case l29 => k_is)
    (case c29 => k_is)
    (case k29 => k_is)
    (case a30 => k_is)
    (case i30 => k_is)
    (case l30 => k_is)
    (case c30 => k_is)
    (case k30 => k_is)
    (case a31 => k_is)
    (case i31 => k_is)
    (case l31 => k_is)
    (case c31 => k_is)
    (case k31 => k_is)
    (case a32 => k_is)
    (case l32 => k_is)
    (case c32 => k_is)
    (case k32 => k_is)
    (case a33 => k_is)
    (case l33 => k_is)
    (case c33 => k_is)
    (case k33 => k_is)
    (case a34 => k_is)
    (case l34 => k_is)
    (case c34 => k_is)
    (case k34 => k_is)
    (case a35 => k_is)
    (case l35 => k_is)
    (case c35 => k_is)
    (case k35 => k_is)
    (case a36 => k_is)
    (case l36 => k_is)
    (case c36 => k_is)
    (case k36 => k_is)
    (case a37 => k_is)
    (case i37 => k_is)
    (case l37 => k_is)
    (case c37 => k_is)
    (case k37 => k_is)
    (case a38 => k_is)
    (case i38 => k_is)
    (case l38 => k_is)
    (case c38 => k_is)
    (case k38 => k_is)
    (case a39 => k_is)
    (case i39 => k_is)
    (case l39 => k_is)
    (case c39 => k_is)
    (case k39 => k_is)
    (case a40 => k_is)
    (case i40 => k_is)
    (case l40 => k_is)
    (case c40 => k_is)
    (case k40 => k_is)
    (case a41 => k_is)
    (case i41 => k_is)
    (case l41 => k_is)
    (case c41 => k_is)
    (case k41 => k_is)
    (case a42 => k_is)
    (case l42 => k_is)
    (case c42 => k_is)
    (case k42 => k_is)
    (case a43 => k_is)
    (case l43 => k_is)
    (case c43 => k_is)
    (case k43 => k_is)
    (case a44 => k_is)
    (case i44 => k_is)
    (case l44 => k_is)
    (case c44 => k_is)
    (case k44 => k_is)
    (case a45 => k_is)
    (case i45 => k_is)
    (case l45 => k_is)
    (case c45 => k_is)
    (case k45 => k_is)
    (case a46 => k_is)
    (case i46 => k_is)
    (case l46 => k_is)
    (case c46 => k_is)
    (case k46 => k_is)
    (case a47 => k_is)
    (case i47 => k_is)
    (case l47 => k_is)
    (case c47 => k_is)
    (case k47 => k_is)
    (case a48 => k_is)
    (case i48 => k_is)
    (case l48 => k_is)
    (case c48 => k_is)
    (case k48 => k_is)
    (case a49 => k_is)
    (case i49 => k_is)
    (case l49 => k_is)
    (case c49 => k_is)
    (case k49 => k_is)
    (case a50 => k_is)
    (case i50 => k_is)
    (case l50 => k_is)
    (case c50 => k_is)
    (case k50 => k_is)
    (case a51 => k_is)
    (case i51 => k_is)
    (case l51 => k_is)
    (case c51 => k_is)
    (case k51 => k_is)
    (case a52 => k_is)
    (case i52 => k_is)
    (case l52 => k_is)
    (case c52 => k_is)
    (case k52 => k_is)
    (case a53 => k_is)
    (case i53 => k_is)
    (case l53 => k_is)
    (case c53 => k_is)
    (case k53 => k_is)
    (case a54 => k_is)
    (case i54 => k_is)
    (case l54 => k_is)
    (case c54 => k_is)
    (case k54 => k_is)
    (case a55 => k_is)
    (case l55 => k_is)
    (case c55 => k_is)
    (case k55 => k_is)
    (case a56 => k_is)
    (case l56 => k_is)
    (case c56 => k_is)
    (case k56 => k_is)
    (case a57 => k_is)
    (case l57 => k_is)
    (case c57 => k_is)
    (case k57 => k_is)
    (case a58 => k_is)
    (case l58 => k_is)
    (case c58 => k_is)
    (case k58 => k_is)
    (case a59 => k_is)
    (case l59 => k_is)
    (case c59 => k_is)
    (case k59 => k_is)
    (case a60 => k_is)
    (case l60 => k_is)
    (case c60 => k_is)
    (case k60 => k_is)
    (case a61 => k_is)
    (case l61 => k_is)
    (case c61 => k_is)
    (case k61 => k_is)
    (case a62 => k_is)
    (case l62 => k_is)
    (case c62 => k_is)
    (case k62 => k_is)
    (case a63 => k_is)
    (case l63 => k_is)
    (case c63 => k_is)
    (case k63 => k_is)
    (case a64 => k_is)
    (case l64 => k_is)
    (case c64 => k_is)
    (case k64 => k_is)
    (case a65 => k_is)
    (case l65 => k_is)
    (case c65 => k_is)
    (case k65 => k_is)
    (case a66 => k_is)
    (case l66 => k_is)
    (case c66 => k_is)
    (case k66 => k_is)
    (case a67 => k_is)
    (case l67 => k_is)
    (case c67 => k_is)
    (case k67 => k_is)
    (case a68 => k_is)
    (case l68 => k_is)
    (case c68 => k_is)
    (case k68 => k_is)
    (case a69 => k_is)
    (case l69 => k_is)
    (case c69 => k_is)
    (case k69 => k_is)
    (case a70 => k_is)
    (case l70 => k_is)
    (case c70 => k_is)
    (case k70 => k_is)
    (case a71 => k_is)
    (case l71 => k_is)
    (case c71 => k_is)
    (case k71 => k_is)
    (case a72 => k_is)
    (case l72 => k_is)
    (case c72 => k_is)
    (case k72 => k_is)
    (case a73 => k_is)
    (case l73 => k_is)
    (case c73 => k_is)
    (case k73 => k_is)
    (case a74 => k_is)
    (case l74 => k_is)
    (case c74 => k_is)
    (case k74 => k_is)
    (case a75 => k_is)
    (case l75 => k_is)
    (case c75 => k_is)
    (case k75 => k_is)
    (case a76 => k_is)
    (case l76 => k_is)
    (case c76 => k_is)
    (case k76 => k_is)
    (case a77 => k_is)
    (case l77 => k_is)
    (case c77 => k_is)
    (case k77 => k_is)
    (case a78 => k_is)
    (case l78 => k_is)
    (case c78 => k_is)
    (case k78 => k_is)
    (case a79 => k_is)
    (case l79 => k_is)
    (case c79 => k_is)
    (case k79 => k_is)
    (case z_NotImplemented => k_is)
    (case z_abs => k_is)
    (case z_bool => k_is)
    (case z_enumerate => k_is)
    (case z_int => k_is)
    (case z_isinstance => k_is)
    (case z_len => k_is)
    (case z_max => k_is)
    (case z_min => k_is)
    (case z_range => k_is)
    (case z_set => k_is)
    (case z_sorted => k_is)
    (case ex_WindowError => k_is)
    (case ty_WindowError => k_is)
    (case hd_WindowError => k_is)
    (case ex_TurnedStretch => k_is)
    (case ty_TurnedStretch => k_is)
    (case hd_TurnedStretch => k_is)
    (case xL_TurnedStretch => k_is)
    (case bmr_TurnedStretch => decide +kernel)
    (case sa_TurnedStretch => k_is)
    (case kc_TurnedStretch => k_is)
    (case ga_TurnedStretch => k_is)
    (case gg_TurnedStretch => k_is)
    (case tI_TurnedStretch => k_is)
    (case nf_TurnedStretch_low => k_is)
    (case nf_TurnedStretch_high => k_is)
    (case su_TurnedStretch_TurnedStretch => first | rfl | k_is)
    (case is_TurnedStretch_TurnedStretch => first | k_is | rfl)
    (case ex_BadOffset => k_is)
    (case ty_BadOffset => k_is)
    (case hd_BadOffset => k_is)
    (case xL_BadOffset => k_is)
    (case bmr_BadOffset => decide +kernel)
    (case sa_BadOffset => k_is)
    (case kc_BadOffset => k_is)
    (case ga_BadOffset => k_is)
    (case gg_BadOffset => k_is)
    (case tI_BadOffset => k_is)
    (case nf_BadOffset_rows => k_is)
    (case nf_BadOffset_groups => k_is)
    (case nf_BadOffset_distance => k_is)
    (case su_BadOffset_BadOffset => first | rfl | k_is)
    (case is_BadOffset_BadOffset => first | k_is | rfl)
    (case pg_Offset => k_is)
    (case hd_Offset => k_is)
    (case po_Offset => k_is)
    (case sa_Offset => k_is)
    (case mk_Offset => k_is)
    (case kc_Offset => k_is)
    (case nf_Offset_rows => k_is)
    (case nf_Offset_groups => k_is)
    (case nf_Offset_distance => k_is)
    (case nf_Offset_zone => k_is)
    (case ca_Offset => k_is)
    (case cn_Offset => k_is)
    (case ct_Offset => k_is)
    (case cm_Offset => k_is)
    (case pg_Side => k_is)
    (case hd_Side => k_is)
    (case po_Side => k_is)
    (case sa_Side => k_is)
    (case mk_Side => k_is)
    (case kc_Side => k_is)
    (case nf_Side_line => k_is)
    (case nf_Side_grid => k_is)
    (case ca_Side => k_is)
    (case cn_Side => k_is)
    (case ct_Side => k_is)
    (case cm_Side => k_is)
    (case nt_Side => k_is)
    (case pg_Weights => k_is)
    (case hd_Weights => k_is)
    (case po_Weights => k_is)
    (case sa_Weights => k_is)
    (case mk_Weights => k_is)
    (case kc_Weights => k_is)
    (case nf_Weights_self_weight => k_is)
    (case nf_Weights_back => k_is)
    (case nf_Weights_ahead => k_is)
    (case ca_Weights => k_is)
    (case cn_Weights => k_is)
    (case ct_Weights => k_is)
    (case cm_Weights => k_is)
    (case nt_Weights => k_is)
    (case nt_Weights_Region => k_is)
    (case ki_Weights_Region => kit_is)
    (case pg_Region => k_is)
    (case hd_Region => k_is)
    (case po_Region => k_is)
    (case sa_Region => k_is)
    (case mk_Region => k_is)
    (case kc_Region => k_is)
    (case nf_Region_weights => k_is)
    (case ca_Region => k_is)
    (case cn_Region => k_is)
    (case ct_Region => k_is)
    (case cm_Region => k_is)
    (case ne_Region => k_is)
    (case ob_Region => k_is)
    (case nt_Region => k_is)
    (case sf_Region => k_is)
    (case hcd_Region => k_is)
    (case hmr_Region => rfl)
    (case fi_Region_or => k_is)
    (case fo_Region_or => k_is)
    (case fi_Region_and => k_is)
    (case fo_Region_and => k_is)
    (case fi_Region_sub => k_is)
    (case fo_Region_sub => k_is)
    (case fi_Region_xor => k_is)
    (case fo_Region_xor => k_is)
    (case nt_Region_int => k_is)
    (case ki_Region_int => kit_is)
    (case nt_Region_str => k_is)
    (case ki_Region_str => kit_is)
    (case nt_Region_list => k_is)
    (case ki_Region_list => kit_is)
    (case nt_Region_Weights => k_is)
    (case ki_Region_Weights => kit_is)
    (case nt_Region_Offset => k_is)
    (case ki_Region_Offset => kit_is)
    (case pg_Stretch => k_is)
    (case hd_Stretch => k_is)
    (case po_Stretch => k_is)
    (case sa_Stretch => k_is)
    (case mk_Stretch => k_is)
    (case kc_Stretch => k_is)
    (case nf_Stretch_low => k_is)
    (case nf_Stretch_high => k_is)
    (case ca_Stretch => k_is)
    (case cn_Stretch => k_is)
    (case ct_Stretch => k_is)
    (case cm_Stretch => k_is)
    (case pg_Cell => k_is)
    (case hd_Cell => k_is)
    (case po_Cell => k_is)
    (case sa_Cell => k_is)
    (case mk_Cell => k_is)
    (case kc_Cell => k_is)
    (case nf_Cell_zone => k_is)
    (case nf_Cell_rows => k_is)
    (case nf_Cell_groups => k_is)
    (case nf_Cell_distance => k_is)
    (case ca_Cell => k_is)
    (case cn_Cell => k_is)
    (case ct_Cell => k_is)
    (case cm_Cell => k_is)
    (case kt_bool_int => kit_is)
    (case kt_int_bool => kit_is)
