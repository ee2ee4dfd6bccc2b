import PyProof.Rows.All
import HandS.ForMost
import HandS.Conv
import KE.SortKeyHeap
import KE.KDictSum
import KE.KDictDisplayH
import HandS.Strs
import HandS.SetFor
import KE.GoesMore
import PyProof.Rows.SetFrom
import HandS.Lambda
import HandS.SortKw
import KE.KLam
import HandS.Star
import HandS.TupAny
import HandS.TupLe
import HandS.TupLen
import HandS.IsInst
import HandS.Zip
import HandS.SortInts
import HandS.Evl
import HandS.Walk
import HandS.EndTab
import HandS.Style
import PySem.Challenge.RW_stoopers_k42_whole_halves
section
set_option autoImplicit false
/-! The plain law, 1: lists, webs, connection, stoops. -/
namespace Hv

/-! ### lists -/
theorem nodup_sub_len {α : Type} : ∀ {l m : List α}, l.Nodup → (∀ x ∈ l, x ∈ m) → l.length ≤ m.length
  | [], _, _, _ => Nat.zero_le _
  | x :: l, m, hn, hs => by
    obtain ⟨a, b, rfl⟩ := List.append_of_mem (hs x List.mem_cons_self)
    have hn' := List.nodup_cons.mp hn
    have h1 : ∀ y ∈ l, y ∈ a ++ b := fun y hy => by
      have := hs y (List.mem_cons_of_mem _ hy)
      rcases List.mem_append.mp this with h | h
      · exact List.mem_append_left _ h
      · rcases List.mem_cons.mp h with e | h
        · subst e; exact absurd hy hn'.1
        · exact List.mem_append_right _ h
    have h2 := nodup_sub_len hn'.2 h1
    simp only [List.length_append, List.length_cons] at h2 ⊢
    omega

/-- all lists of that length over the given items -/
def tuplesOf {α : Type} (s : List α) : Nat → List (List α)
  | 0 => [[]]
  | n + 1 => s.flatMap fun x => (tuplesOf s n).map (x :: ·)
theorem tuplesOf_len {α : Type} (s : List α) : ∀ n, (tuplesOf s n).length = s.length ^ n
  | 0 => rfl
  | n + 1 => by
    have h : ∀ t : List α, (t.flatMap fun x => (tuplesOf s n).map (x :: ·)).length = t.length * s.length ^ n := by
      intro t
      induction t with
      | nil => simp
      | cons x t ih =>
        rw [List.flatMap_cons, List.length_append, ih, List.length_map, tuplesOf_len s n, List.length_cons, Nat.succ_mul, Nat.add_comm]
    show (s.flatMap fun x => (tuplesOf s n).map (x :: ·)).length = _
    rw [h s, Nat.pow_succ, Nat.mul_comm]
theorem mem_tuplesOf {α : Type} {s : List α} : ∀ {n : Nat} {l : List α}, l.length = n → (∀ x ∈ l, x ∈ s) → l ∈ tuplesOf s n
  | 0, l, hl, _ => by
    have : l = [] := List.eq_nil_of_length_eq_zero hl
    subst this; exact List.mem_singleton.mpr rfl
  | n + 1, [], hl, _ => by simp at hl
  | n + 1, x :: l, hl, hs => by
    refine List.mem_flatMap.mpr ⟨x, hs x List.mem_cons_self, List.mem_map.mpr ⟨l, ?_, rfl⟩⟩
    exact mem_tuplesOf (by simpa using hl) fun y hy => hs y (List.mem_cons_of_mem _ hy)

/-- two rising lists with the same members are one -/
theorem sorted_ext {α : Type} {r : α → α → Prop} (irr : ∀ x, ¬ r x x) (asy : ∀ x y, r x y → ¬ r y x) : ∀ {l m : List α}, l.Pairwise r → m.Pairwise r → (∀ x, x ∈ l ↔ x ∈ m) → l = m
  | [], [], _, _, _ => rfl
  | [], y :: m, _, _, h => absurd ((h y).mpr List.mem_cons_self) (by simp)
  | x :: l, [], _, _, h => absurd ((h x).mp List.mem_cons_self) (by simp)
  | x :: l, y :: m, hl, hm, h => by
    have hl' := List.pairwise_cons.mp hl
    have hm' := List.pairwise_cons.mp hm
    have e : x = y := by
      rcases List.mem_cons.mp ((h x).mp List.mem_cons_self) with e | hx
      · exact e
      · rcases List.mem_cons.mp ((h y).mpr List.mem_cons_self) with e | hy
        · exact e.symm
        · exact absurd (hl'.1 y hy) (asy _ _ (hm'.1 x hx))
    subst e
    congr 1
    refine sorted_ext irr asy hl'.2 hm'.2 fun z => ⟨fun hz => ?_, fun hz => ?_⟩
    · rcases List.mem_cons.mp ((h z).mp (List.mem_cons_of_mem _ hz)) with e | hz'
      · subst e; exact absurd (hl'.1 z hz) (irr z)
      · exact hz'
    · rcases List.mem_cons.mp ((h z).mpr (List.mem_cons_of_mem _ hz)) with e | hz'
      · subst e; exact absurd (hm'.1 z hz) (irr z)
      · exact hz'
theorem natSorted_ext {l m : List Nat} (hl : l.Pairwise (· < ·)) (hm : m.Pairwise (· < ·)) (h : ∀ x, x ∈ l ↔ x ∈ m) : l = m :=
  sorted_ext (fun x => Nat.lt_irrefl x) (fun _ _ a b => Nat.lt_asymm a b) hl hm h
theorem intSorted_ext {l m : List Int} (hl : l.Pairwise (· < ·)) (hm : m.Pairwise (· < ·)) (h : ∀ x, x ∈ l ↔ x ∈ m) : l = m :=
  sorted_ext (fun x => Int.lt_irrefl x) (fun _ _ a b => Int.lt_asymm a b) hl hm h

/-- a rising list of the members of a list of ints -/
def insI (x : Int) : List Int → List Int
  | [] => [x]
  | y :: l => if x < y then x :: y :: l else if x = y then y :: l else y :: insI x l
theorem mem_insI {x z : Int} : ∀ {l : List Int}, z ∈ insI x l ↔ z = x ∨ z ∈ l
  | [] => by simp [insI]
  | y :: l => by
    unfold insI
    by_cases h : x < y
    · rw [if_pos h]; simp
    · rw [if_neg h]
      by_cases e : x = y
      · rw [if_pos e]; subst e; simp
      · rw [if_neg e, List.mem_cons, mem_insI, List.mem_cons]
        constructor
        · rintro (h | h | h)
          · exact .inr (.inl h)
          · exact .inl h
          · exact .inr (.inr h)
        · rintro (h | h | h)
          · exact .inr (.inl h)
          · exact .inl h
          · exact .inr (.inr h)
theorem insI_sorted {x : Int} : ∀ {l : List Int}, l.Pairwise (· < ·) → (insI x l).Pairwise (· < ·)
  | [], _ => List.pairwise_singleton _ _
  | y :: l, hp => by
    have hp' := List.pairwise_cons.mp hp
    unfold insI
    by_cases h : x < y
    · rw [if_pos h]
      refine List.pairwise_cons.mpr ⟨fun z hz => ?_, hp⟩
      rcases List.mem_cons.mp hz with e | hz
      · omega
      · have := hp'.1 z hz; omega
    · rw [if_neg h]
      by_cases e : x = y
      · rw [if_pos e]; exact hp
      · rw [if_neg e]
        refine List.pairwise_cons.mpr ⟨fun z hz => ?_, insI_sorted hp'.2⟩
        rcases mem_insI.mp hz with e | hz
        · omega
        · exact hp'.1 z hz
def sortI : List Int → List Int
  | [] => []
  | x :: l => insI x (sortI l)
theorem mem_sortI {z : Int} : ∀ {l : List Int}, z ∈ sortI l ↔ z ∈ l
  | [] => by simp [sortI]
  | x :: l => by
    show z ∈ insI x (sortI l) ↔ _
    rw [mem_insI, mem_sortI, List.mem_cons]
theorem sortI_sorted : ∀ l : List Int, (sortI l).Pairwise (· < ·)
  | [] => List.Pairwise.nil
  | _ :: l => insI_sorted (sortI_sorted l)

theorem range_sorted (n : Nat) : (List.range n).Pairwise (· < ·) := List.pairwise_lt_range
theorem filter_sorted {α : Type} {r : α → α → Prop} {l : List α} (p : α → Bool) (h : l.Pairwise r) : (l.filter p).Pairwise r := h.filter p

/-! ### webs -/
abbrev Ties := List (Nat × Nat)
def Adj (T : Ties) (a b : Nat) : Prop := (a, b) ∈ T ∨ (b, a) ∈ T
instance (T : Ties) (a b : Nat) : Decidable (Adj T a b) := by unfold Adj; infer_instance
theorem Adj.symm {T : Ties} {a b : Nat} (h : Adj T a b) : Adj T b a := Or.symm h
def pairLt (p q : Nat × Nat) : Prop := p.1 < q.1 ∨ (p.1 = q.1 ∧ p.2 < q.2)
structure WebOk (n : Nat) (T : Ties) : Prop where
  pos : 1 ≤ n
  few : n ≤ 5
  tie : ∀ p ∈ T, p.1 < p.2 ∧ p.2 < n
  srt : T.Pairwise pairLt
  short : T.length ≤ 100
theorem WebOk.adj {n : Nat} {T : Ties} (W : WebOk n T) {a b : Nat} (h : Adj T a b) : a < n ∧ b < n ∧ a ≠ b := by
  rcases h with h | h
  · have := W.tie _ h; simp only at this; omega
  · have := W.tie _ h; simp only at this; omega

/-! ### going along ties through a lot -/
inductive Conn (T : Ties) (S : Nat → Prop) : Nat → Nat → Prop
  | refl (a : Nat) : Conn T S a a
  | step {a b c : Nat} : Conn T S a b → Adj T b c → S c → Conn T S a c
theorem Conn.head {T : Ties} {S : Nat → Prop} {a b c : Nat} (hab : Adj T a b) (hb : S b) (h : Conn T S b c) : Conn T S a c := by
  induction h with
  | refl => exact .step (.refl a) hab hb
  | step _ h2 h3 ih => exact .step ih h2 h3
theorem Conn.trans {T : Ties} {S : Nat → Prop} {a b c : Nat} (h1 : Conn T S a b) (h2 : Conn T S b c) : Conn T S a c := by
  induction h2 with
  | refl => exact h1
  | step _ h3 h4 ih => exact .step ih h3 h4
theorem Conn.mono {T : Ties} {S S' : Nat → Prop} {a b : Nat} (hS : ∀ i, S i → S' i) (h : Conn T S a b) : Conn T S' a b := by
  induction h with
  | refl => exact .refl _
  | step _ h2 h3 ih => exact .step ih h2 (hS _ h3)
theorem Conn.inside {T : Ties} {S : Nat → Prop} {a b : Nat} (h : Conn T S a b) (ha : S a) : S b := by
  cases h with
  | refl => exact ha
  | step _ _ h3 => exact h3
theorem Conn.symm {T : Ties} {S : Nat → Prop} {a b : Nat} (h : Conn T S a b) (ha : S a) : Conn T S b a := by
  induction h with
  | refl => exact .refl _
  | step h1 h2 h3 ih => exact Conn.head h2.symm (h1.inside ha) ih
theorem Conn.lt {n : Nat} {T : Ties} (W : WebOk n T) {S : Nat → Prop} {a b : Nat} (h : Conn T S a b) (ha : a < n) : b < n := by
  cases h with
  | refl => exact ha
  | step _ h2 _ => exact (W.adj h2).2.1
/-- a path's ends: by a property of the walked ones -/
theorem Conn.strong {T : Ties} {S S' : Nat → Prop} {a b : Nat} (h : Conn T S a b) (hS : ∀ i, Conn T S a i → S i → S' i) : Conn T S' a b := by
  induction h with
  | refl => exact .refl _
  | step h1 h2 h3 ih => exact .step ih h2 (hS _ (.step h1 h2 h3) h3)
/-- a set that is closed holds what can be come to -/
theorem Conn.closed {T : Ties} {S F : Nat → Prop} {a b : Nat} (h : Conn T S a b) (ha : F a) (hc : ∀ i j, F i → Adj T i j → S j → F j) : F b := by
  induction h with
  | refl => exact ha
  | step _ h2 h3 ih => exact hc _ _ ih h2 h3
/-- the last one of a path that is not yet where the end is -/
theorem Conn.edge {T : Ties} {S F : Nat → Prop} {a b : Nat} (h : Conn T S a b) (ha : F a) (hb : ¬ F b) : ∃ i j, Adj T i j ∧ F i ∧ ¬ F j ∧ S j ∧ (i = a ∨ S i) := by
  induction h with
  | refl => exact absurd ha hb
  | @step b c h1 h2 h3 ih =>
    by_cases hF : F b
    · refine ⟨b, c, h2, hF, hb, h3, ?_⟩
      cases h1 with
      | refl => exact .inl rfl
      | step _ _ h => exact .inr h
    · exact ih hF

open Classical in
/-- those who hang together with one within a lot, rising -/
noncomputable def hangL (T : Ties) (n : Nat) (lot : List Nat) (p : Nat) : List Nat := (List.range n).filter fun q => decide (Conn T (· ∈ lot) p q)
open Classical in
theorem mem_hangL {T : Ties} {n : Nat} {lot : List Nat} {p q : Nat} : q ∈ hangL T n lot p ↔ q < n ∧ Conn T (· ∈ lot) p q := by
  unfold hangL
  rw [List.mem_filter, List.mem_range, decide_eq_true_eq]
theorem hangL_sorted {T : Ties} {n : Nat} {lot : List Nat} {p : Nat} : (hangL T n lot p).Pairwise (· < ·) := filter_sorted _ (range_sorted n)
theorem hangL_nodup {T : Ties} {n : Nat} {lot : List Nat} {p : Nat} : (hangL T n lot p).Nodup := hangL_sorted.imp fun h => Nat.ne_of_lt h
theorem hangL_len {T : Ties} {n : Nat} {lot : List Nat} {p : Nat} : (hangL T n lot p).length ≤ n := by
  have := List.length_filter_le (fun q => @decide (Conn T (· ∈ lot) p q) (Classical.propDecidable _)) (List.range n)
  rw [List.length_range] at this
  exact this

/-! ### heights and stoops -/
abbrev at0 (h : List Int) (i : Nat) : Int := h.getD i 0
theorem at0_set {h : List Int} {p i : Nat} {v : Int} (hp : p < h.length) : at0 (h.set p v) i = if i = p then v else at0 h i := by
  unfold at0
  rw [List.getD_eq_getElem?_getD, List.getD_eq_getElem?_getD, List.getElem?_set]
  by_cases e : p = i
  · subst e; simp [hp]
  · rw [if_neg e, if_neg (fun q => e q.symm)]
theorem at0_mem {h : List Int} {i : Nat} (hi : i < h.length) : at0 h i ∈ h := by
  unfold at0
  rw [List.getD_eq_getElem?_getD, List.getElem?_eq_getElem hi]
  exact List.getElem_mem hi
theorem mem_at0 {h : List Int} {v : Int} (hv : v ∈ h) : ∃ i, i < h.length ∧ at0 h i = v := by
  obtain ⟨i, hi, e⟩ := List.getElem_of_mem hv
  refine ⟨i, hi, ?_⟩
  unfold at0
  rw [List.getD_eq_getElem?_getD, List.getElem?_eq_getElem hi]
  exact e
theorem at0_ext {g h : List Int} (hl : g.length = h.length) (e : ∀ i, i < g.length → at0 g i = at0 h i) : g = h := by
  refine List.ext_getElem hl fun i h1 h2 => ?_
  have := e i h1
  unfold at0 at this
  rw [List.getD_eq_getElem?_getD, List.getElem?_eq_getElem h1, List.getD_eq_getElem?_getD, List.getElem?_eq_getElem h2] at this
  exact this
/-- one stoop -/
def Mv (T : Ties) (g g' : List Int) : Prop := ∃ p q, Adj T p q ∧ p < g.length ∧ q < g.length ∧ at0 g q < at0 g p ∧ g' = g.set p (at0 g q)
inductive Rch (T : Ties) (h : List Int) : Nat → List Int → Prop
  | zero : Rch T h 0 h
  | succ {k : Nat} {g g' : List Int} : Rch T h k g → Mv T g g' → Rch T h (k + 1) g'
theorem Rch.trans {T : Ties} {h g g' : List Int} {j k : Nat} (h1 : Rch T h j g) (h2 : Rch T g k g') : Rch T h (j + k) g' := by
  induction h2 with
  | zero => exact h1
  | succ _ m ih => exact .succ ih m
theorem Rch.len {T : Ties} {h g : List Int} {k : Nat} (r : Rch T h k g) : g.length = h.length := by
  induction r with
  | zero => rfl
  | succ _ m ih =>
    obtain ⟨p, q, _, _, _, _, rfl⟩ := m
    rw [List.length_set]; exact ih
theorem Rch.le {T : Ties} {h g : List Int} {k : Nat} (r : Rch T h k g) (i : Nat) : at0 g i ≤ at0 h i := by
  induction r with
  | zero => exact Int.le_refl _
  | succ _ m ih =>
    obtain ⟨p, q, _, hp, _, hlt, rfl⟩ := m
    rw [at0_set hp]
    by_cases e : i = p
    · rw [if_pos e]; subst e; omega
    · rw [if_neg e]; exact ih
theorem Rch.mem {T : Ties} {h g : List Int} {k : Nat} (r : Rch T h k g) : ∀ v ∈ g, v ∈ h := by
  induction r with
  | zero => exact fun _ h => h
  | succ _ m ih =>
    obtain ⟨p, q, _, hp, hq, hlt, rfl⟩ := m
    intro v hv
    rcases List.mem_or_eq_of_mem_set hv with hv | hv
    · exact ih v hv
    · subst hv; exact ih _ (at0_mem hq)
def Reach (T : Ties) (h g : List Int) : Prop := ∃ k, Rch T h k g
theorem Reach.step {T : Ties} {h g g' : List Int} (r : Reach T h g) (m : Mv T g g') : Reach T h g' := let ⟨k, r⟩ := r; ⟨k + 1, .succ r m⟩
/-- there are few of them -/
theorem reach_few {T : Ties} {h : List Int} (hn : h.length ≤ 5) {ks : List (List Int)} (nd : ks.Nodup) (hr : ∀ g ∈ ks, Reach T h g) : ks.length ≤ 3125 := by
  have h1 := nodup_sub_len nd (m := tuplesOf h h.length) fun g hg => by
    obtain ⟨k, r⟩ := hr g hg
    exact mem_tuplesOf r.len r.mem
  rw [tuplesOf_len] at h1
  have : ∀ n : Nat, n ≤ 5 → n ^ n ≤ 3125 := by decide
  exact Nat.le_trans h1 (this _ hn)
end Hv
end
section
set_option autoImplicit false
/-! The plain law, 2: which heights come of which; how few stoops; the least outcome. -/
namespace Hv

/-! ### a goal for some -/
abbrev Part := List (Option Int)
def pAt (part : Part) (i : Nat) : Option Int := part.getD i none
def Match (n : Nat) (part : Part) (g : List Int) : Prop := ∀ i, i < n → ∀ u, pAt part i = some u → at0 g i = u
/-- open at a height on the way to a goal for some -/
def OpenH (n : Nat) (h : List Int) (part : Part) (v : Int) (i : Nat) : Prop := i < n ∧ v ≤ at0 h i ∧ ∀ u, pAt part i = some u → u ≤ v
/-- a person can have a height -/
def Src (T : Ties) (n : Nat) (h : List Int) (part : Part) (v : Int) (p : Nat) : Prop := OpenH n h part v p ∧ ∃ s, Conn T (OpenH n h part v) p s ∧ at0 h s = v
def Free (T : Ties) (n : Nat) (h : List Int) (part : Part) : Prop := ∀ p, p < n → ∀ v, pAt part p = some v → Src T n h part v p
/-- a height that a person can have at the least -/
def Cand (T : Ties) (n : Nat) (h : List Int) (part : Part) (v : Int) (p : Nat) : Prop := Src T n h part v p ∧ (pAt part p = none ∨ pAt part p = some v)

/-! ### what came has come along open ones -/
theorem rch_path {T : Ties} {n : Nat} {h g : List Int} {k : Nat} (W : WebOk n T) (hl : h.length = n) (r : Rch T h k g) :
    ∀ p, p < n → ∃ s, Conn T (fun i => i < n ∧ at0 g p ≤ at0 h i ∧ at0 g i ≤ at0 g p) p s ∧ at0 h s = at0 g p := by
  induction r with
  | zero => exact fun p _ => ⟨p, .refl p, rfl⟩
  | @succ k g g' r m ih =>
    obtain ⟨a, b, hab, ha, hb, hlt, rfl⟩ := m
    have hgl : g.length = n := r.len.trans hl
    have hle : ∀ i, at0 (g.set a (at0 g b)) i ≤ at0 g i := fun i => by
      rw [at0_set ha]
      by_cases e : i = a
      · rw [if_pos e]; subst e; omega
      · rw [if_neg e]; exact Int.le_refl _
    intro p hp
    by_cases e : p = a
    · subst e
      have hne : b ≠ p := fun q => (W.adj hab).2.2 q.symm
      have ev : at0 (g.set p (at0 g b)) p = at0 g b := by rw [at0_set ha, if_pos rfl]
      rw [ev]
      obtain ⟨s, hs, es⟩ := ih b (by omega)
      refine ⟨s, Conn.head hab ?_ (hs.mono fun i hi => ⟨hi.1, hi.2.1, Int.le_trans (hle i) hi.2.2⟩), es⟩
      exact ⟨by omega, r.le b, hle b⟩
    · have ev : at0 (g.set a (at0 g b)) p = at0 g p := by rw [at0_set ha, if_neg e]
      rw [ev]
      obtain ⟨s, hs, es⟩ := ih p hp
      exact ⟨s, hs.mono fun i hi => ⟨hi.1, hi.2.1, Int.le_trans (hle i) hi.2.2⟩, es⟩

/-- an outcome that matches: each person's height is one that it can have -/
theorem cand_of_rch {T : Ties} {n : Nat} {h g : List Int} {k : Nat} {part : Part} (W : WebOk n T) (hl : h.length = n) (r : Rch T h k g) (hm : Match n part g) {p : Nat} (hp : p < n) : Cand T n h part (at0 g p) p := by
  obtain ⟨s, hs, es⟩ := rch_path W hl r p hp
  have op : ∀ i, (i < n ∧ at0 g p ≤ at0 h i ∧ at0 g i ≤ at0 g p) → OpenH n h part (at0 g p) i := fun i ⟨a, b, c⟩ => ⟨a, b, fun u hu => by
    have := hm i a u hu
    omega⟩
  refine ⟨⟨op p ⟨hp, r.le p, Int.le_refl _⟩, s, hs.mono op, es⟩, ?_⟩
  cases e : pAt part p with
  | none => exact .inl rfl
  | some u => right; rw [hm p hp u e]
theorem free_of_rch {T : Ties} {n : Nat} {h g : List Int} {k : Nat} {part : Part} (W : WebOk n T) (hl : h.length = n) (r : Rch T h k g) (hm : Match n part g) : Free T n h part := fun p hp v hv => by
  have := (cand_of_rch W hl r hm hp).1
  rw [hm p hp v hv] at this
  exact this

/-! ### a row of stoops, made lot by lot from the highest on -/
/-- all of a lot come to one height, one after the other -/
theorem spread_lot {T : Ties} {n : Nat} {v : Int} (W : WebOk n T) : ∀ (m : Nat) (J : List Nat) (g : List Int) (A : Nat → Prop), J.length = m → J.Nodup → g.length = n →
    (∀ i, i ∈ J → i < n ∧ v < at0 g i) → (∀ i, A i → i ∉ J → i < n ∧ at0 g i = v) → (∀ i, i ∈ J → ∃ s, Conn T A i s ∧ s ∉ J ∧ A s) →
    ∃ g', Rch T g m g' ∧ ∀ i, at0 g' i = if i ∈ J then v else at0 g i
  | 0, J, g, A, hm, _, _, _, _, _ => by
    have : J = [] := List.eq_nil_of_length_eq_zero hm
    subst this
    exact ⟨g, .zero, fun i => by simp⟩
  | m + 1, J, g, A, hm, hnd, hgl, hJ, hA, hc => by
    obtain ⟨x, hx⟩ : ∃ x, x ∈ J := by
      cases J with
      | nil => simp at hm
      | cons x l => exact ⟨x, List.mem_cons_self⟩
    obtain ⟨s, hs, hsJ, _⟩ := hc x hx
    obtain ⟨a, b, hab, haJ, hbJ, hbA, _⟩ := hs.edge (F := (· ∈ J)) hx hsJ
    obtain ⟨hbn, hbv⟩ := hA b hbA hbJ
    obtain ⟨han, hav⟩ := hJ a haJ
    have hmv : Mv T g (g.set a v) := ⟨a, b, hab, by omega, by omega, by omega, by rw [hbv]⟩
    have ha : a < g.length := by omega
    have hmem : ∀ i, i ∈ J.erase a ↔ i ∈ J ∧ i ≠ a := fun i => by
      rw [hnd.mem_erase_iff]; exact And.comm
    obtain ⟨g', r', e'⟩ := spread_lot (T := T) (n := n) (v := v) W m (J.erase a) (g.set a v) (fun i => A i ∨ i = a) (by rw [List.length_erase_of_mem haJ, hm]; rfl) (hnd.erase a) (by rw [List.length_set]; exact hgl)
      (fun i hi => by
        obtain ⟨h1, h2⟩ := (hmem i).mp hi
        rw [at0_set ha, if_neg h2]
        exact hJ i h1)
      (fun i hi hn => by
        rw [at0_set ha]
        by_cases e : i = a
        · rw [if_pos e]; subst e; exact ⟨han, rfl⟩
        · rw [if_neg e]
          rcases hi with hi | hi
          · exact hA i hi fun q => hn ((hmem i).mpr ⟨q, e⟩)
          · exact absurd hi e)
      (fun i hi => by
        obtain ⟨s, hs, hsJ, hsA⟩ := hc i ((hmem i).mp hi).1
        exact ⟨s, hs.mono fun j hj => .inl hj, fun q => hsJ ((hmem s).mp q).1, .inl hsA⟩)
    refine ⟨g', ?_, fun i => ?_⟩
    · have := Rch.trans (Rch.succ (Rch.zero (T := T) (h := g)) hmv) r'
      rw [Nat.add_comm] at this
      simpa using this
    · rw [e' i, at0_set ha]
      by_cases e : i = a
      · subst e
        rw [if_neg (fun q => ((hmem i).mp q).2 rfl), if_pos rfl, if_pos haJ]
      · rw [if_neg e]
        by_cases hi : i ∈ J
        · rw [if_pos hi, if_pos ((hmem i).mpr ⟨hi, e⟩)]
        · rw [if_neg hi, if_neg fun q => hi ((hmem i).mp q).1]

/-- a lot that can come to a height -/
structure LotOk (T : Ties) (n : Nat) (h : List Int) (v : Int) (L : List Nat) : Prop where
  nd : L.Nodup
  up : ∀ i ∈ L, i < n ∧ v < at0 h i
  join : ∀ i ∈ L, ∃ s, Conn T (fun j => j ∈ L ∨ (j < n ∧ at0 h j = v)) i s ∧ s < n ∧ at0 h s = v

theorem build_row {T : Ties} {n : Nat} {h : List Int} (W : WebOk n T) (hl : h.length = n) (L : Int → List Nat) : ∀ vs : List Int, vs.Pairwise (· < ·) → (∀ v ∈ vs, LotOk T n h v (L v)) →
    ∃ g, Rch T h ((vs.map fun v => (L v).length).sum) g ∧ ∀ i, i < n → (at0 g i = at0 h i ∧ ∀ v ∈ vs, i ∉ L v) ∨ ∃ v, v ∈ vs ∧ at0 g i = v ∧ i ∈ L v ∧ ∀ w ∈ vs, i ∈ L w → v ≤ w
  | [], _, _ => ⟨h, .zero, fun i _ => .inl ⟨rfl, fun _ hv => absurd hv (by simp)⟩⟩
  | v :: vs, hp, ok => by
    obtain ⟨hv, hp'⟩ := List.pairwise_cons.mp hp
    obtain ⟨g, r, e⟩ := build_row W hl L vs hp' fun w hw => ok w (List.mem_cons_of_mem _ hw)
    have o := ok v List.mem_cons_self
    have hgl : g.length = n := r.len.trans hl
    obtain ⟨g', r', e'⟩ := spread_lot (T := T) (n := n) (v := v) W (L v).length (L v) g (fun j => j ∈ L v ∨ (j < n ∧ at0 h j = v)) rfl o.nd hgl
      (fun i hi => by
        obtain ⟨h1, h2⟩ := o.up i hi
        refine ⟨h1, ?_⟩
        rcases e i h1 with ⟨q, _⟩ | ⟨w, hw, q, _⟩
        · omega
        · have := hv w hw; omega)
      (fun i hi hn => by
        rcases hi with hi | ⟨h1, h2⟩
        · exact absurd hi hn
        · refine ⟨h1, ?_⟩
          rcases e i h1 with ⟨q, _⟩ | ⟨w, hw, q, hiw, _⟩
          · omega
          · have a1 := hv w hw
            have a2 := ((ok w (List.mem_cons_of_mem _ hw)).up i hiw).2
            omega)
      (fun i hi => by
        obtain ⟨s, hs, h1, h2⟩ := o.join i hi
        exact ⟨s, hs, fun q => by have := (o.up s q).2; omega, .inr ⟨h1, h2⟩⟩)
    refine ⟨g', ?_, fun i hi => ?_⟩
    · have := Rch.trans r r'
      rw [Nat.add_comm] at this
      simpa using this
    · rw [e' i]
      by_cases hL : i ∈ L v
      · rw [if_pos hL]
        refine .inr ⟨v, List.mem_cons_self, rfl, hL, fun w hw _ => ?_⟩
        rcases List.mem_cons.mp hw with q | hw
        · omega
        · have := hv w hw; omega
      · rw [if_neg hL]
        rcases e i hi with ⟨q, no⟩ | ⟨w, hw, q, hiw, le⟩
        · refine .inl ⟨q, fun u hu => ?_⟩
          rcases List.mem_cons.mp hu with z | hu
          · rw [z]; exact hL
          · exact no u hu
        · refine .inr ⟨w, List.mem_cons_of_mem _ hw, q, hiw, fun u hu hiu => ?_⟩
          rcases List.mem_cons.mp hu with z | hu
          · rw [z] at hiu; exact absurd hiu hL
          · exact le u hu hiu

/-! ### the criterion is enough -/
open Classical in
theorem reach_of_paths {T : Ties} {n : Nat} {h m : List Int} (W : WebOk n T) (hl : h.length = n) (ml : m.length = n)
    (hc : ∀ p, p < n → at0 m p ≤ at0 h p ∧ ∃ s, Conn T (fun i => i < n ∧ at0 m p ≤ at0 h i ∧ at0 m i ≤ at0 m p) p s ∧ at0 h s = at0 m p) : Reach T h m := by
  let O : Int → Nat → Prop := fun v i => i < n ∧ v ≤ at0 h i ∧ at0 m i ≤ v
  let L : Int → List Nat := fun v => (List.range n).filter fun i => decide (v < at0 h i ∧ at0 m i ≤ v ∧ ∃ s, Conn T (O v) i s ∧ at0 h s = v)
  have mL : ∀ v i, i ∈ L v ↔ i < n ∧ v < at0 h i ∧ at0 m i ≤ v ∧ ∃ s, Conn T (O v) i s ∧ at0 h s = v := fun v i => by
    show i ∈ (List.range n).filter _ ↔ _
    rw [List.mem_filter, List.mem_range, decide_eq_true_eq]
  obtain ⟨g, r, e⟩ := build_row W hl L (sortI m) (sortI_sorted m) fun v _ => {
    nd := (filter_sorted _ (range_sorted n)).imp fun h => Nat.ne_of_lt h
    up := fun i hi => by
      obtain ⟨a, b, _⟩ := (mL v i).mp hi
      exact ⟨a, b⟩
    join := fun i hi => by
      obtain ⟨a, b, c, s, hs, es⟩ := (mL v i).mp hi
      have Oi : O v i := ⟨a, by omega, c⟩
      refine ⟨s, hs.strong fun j hj Oj => ?_, (hs.inside Oi).1, es⟩
      by_cases ej : at0 h j = v
      · exact .inr ⟨Oj.1, ej⟩
      · refine .inl ((mL v j).mpr ⟨Oj.1, ?_, Oj.2.2, s, ?_, es⟩)
        · have := Oj.2.1; omega
        · exact (hj.symm Oi).trans hs }
  have : g = m := by
    refine at0_ext ((r.len.trans hl).trans ml.symm) fun i hi => ?_
    have hin : i < n := by rw [r.len, hl] at hi; exact hi
    obtain ⟨c1, s, c2, c3⟩ := hc i hin
    have hmem : at0 m i ∈ sortI m := mem_sortI.mpr (at0_mem (by omega))
    by_cases q : at0 m i = at0 h i
    · rcases e i hin with ⟨z, _⟩ | ⟨v, hv, z, hiL, _⟩
      · omega
      · obtain ⟨_, a, b, _⟩ := (mL v i).mp hiL
        omega
    · have hi' : i ∈ L (at0 m i) := (mL _ i).mpr ⟨hin, by omega, Int.le_refl _, s, c2, c3⟩
      rcases e i hin with ⟨_, no⟩ | ⟨v, hv, z, hiL, le⟩
      · exact absurd hi' (no _ hmem)
      · have a1 := le _ hmem hi'
        obtain ⟨_, _, b, _⟩ := (mL v i).mp hiL
        omega
  exact ⟨_, this ▸ r⟩

/-! ### the least outcome -/
/-- m is at each place the least height that a person can have -/
structure Least (T : Ties) (n : Nat) (h : List Int) (part : Part) (m : List Int) : Prop where
  len : m.length = n
  cand : ∀ p, p < n → Cand T n h part (at0 m p) p
  le : ∀ p, p < n → ∀ v, Cand T n h part v p → at0 m p ≤ v
theorem Least.comes {T : Ties} {n : Nat} {h m : List Int} {part : Part} (W : WebOk n T) (hl : h.length = n) (F : Free T n h part) (M : Least T n h part m) : Reach T h m ∧ Match n part m := by
  have hmt : Match n part m := fun i hi u hu => by
    rcases (M.cand i hi).2 with e | e
    · rw [hu] at e; cases e
    · rw [hu] at e; cases e; rfl
  refine ⟨reach_of_paths W hl M.len fun p hp => ?_, hmt⟩
  obtain ⟨⟨op, s, hs, es⟩, _⟩ := M.cand p hp
  refine ⟨op.2.1, s, hs.strong fun j hj Oj => ⟨Oj.1, Oj.2.1, ?_⟩, es⟩
  have sj : Src T n h part (at0 m p) j := ⟨Oj, s, (hj.symm op).trans hs, es⟩
  cases e : pAt part j with
  | none => exact M.le j Oj.1 _ ⟨sj, .inl e⟩
  | some u =>
    have := hmt j Oj.1 u e
    have := Oj.2.2 u e
    omega
/-- each person can have some height -/
theorem cand_some {T : Ties} {n : Nat} {h : List Int} {part : Part} (F : Free T n h part) {p : Nat} (hp : p < n) : ∃ v, Cand T n h part v p := by
  cases e : pAt part p with
  | none => exact ⟨at0 h p, ⟨⟨hp, Int.le_refl _, fun u hu => by rw [e] at hu; cases hu⟩, p, .refl p, rfl⟩, .inl e⟩
  | some u => exact ⟨u, F p hp u e, .inr e⟩
theorem cand_mem {T : Ties} {n : Nat} {h : List Int} {part : Part} (W : WebOk n T) (hl : h.length = n) {p : Nat} {v : Int} (c : Cand T n h part v p) : v ∈ h := by
  obtain ⟨⟨op, s, hs, es⟩, _⟩ := c
  rw [← es]
  exact at0_mem (by rw [hl]; exact (hs.inside op).1)
open Classical in
/-- there is such a least one -/
theorem least_there {T : Ties} {n : Nat} {h : List Int} {part : Part} (W : WebOk n T) (hl : h.length = n) (F : Free T n h part) : ∃ m, Least T n h part m := by
  have one : ∀ p, p < n → ∃ v, Cand T n h part v p ∧ ∀ u, Cand T n h part u p → v ≤ u := fun p hp => by
    obtain ⟨v0, c0⟩ := cand_some F hp
    have key : ∀ l : List Int, l.Pairwise (· < ·) → (∃ v ∈ l, Cand T n h part v p) → ∃ v ∈ l, Cand T n h part v p ∧ ∀ u ∈ l, Cand T n h part u p → v ≤ u := by
      intro l
      induction l with
      | nil => exact fun _ ⟨v, hv, _⟩ => absurd hv (by simp)
      | cons x l ih =>
        intro hp' ⟨v, hv, cv⟩
        obtain ⟨hx, hp''⟩ := List.pairwise_cons.mp hp'
        by_cases c : Cand T n h part x p
        · refine ⟨x, List.mem_cons_self, c, fun u hu _ => ?_⟩
          rcases List.mem_cons.mp hu with e | hu
          · omega
          · have := hx u hu; omega
        · have hvl : v ∈ l := by
            rcases List.mem_cons.mp hv with e | h
            · subst e; exact absurd cv c
            · exact h
          obtain ⟨w, hw, cw, lw⟩ := ih hp'' ⟨v, hvl, cv⟩
          refine ⟨w, List.mem_cons_of_mem _ hw, cw, fun u hu cu => ?_⟩
          rcases List.mem_cons.mp hu with e | hu
          · subst e; exact absurd cu c
          · exact lw u hu cu
    obtain ⟨v, _, cv, lv⟩ := key (sortI h) (sortI_sorted h) ⟨v0, mem_sortI.mpr (cand_mem W hl c0), c0⟩
    exact ⟨v, cv, fun u cu => lv u (mem_sortI.mpr (cand_mem W hl cu)) cu⟩
  let f : Nat → Int := fun p => if hp : p < n then Classical.choose (one p hp) else 0
  have hf : ∀ p, p < n → at0 ((List.range n).map f) p = f p := fun p hp => by
    unfold at0
    rw [List.getD_eq_getElem?_getD, List.getElem?_map, List.getElem?_range hp]
    rfl
  refine ⟨(List.range n).map f, by simp, fun p hp => ?_, fun p hp v cv => ?_⟩
  · rw [hf p hp]
    show Cand T n h part (if hp : p < n then Classical.choose (one p hp) else 0) p
    rw [dif_pos hp]
    exact (Classical.choose_spec (one p hp)).1
  · rw [hf p hp]
    show (if hp : p < n then Classical.choose (one p hp) else 0) ≤ v
    rw [dif_pos hp]
    exact (Classical.choose_spec (one p hp)).2 v cv
/-- point 22's criterion -/
theorem free_iff {T : Ties} {n : Nat} {h : List Int} {part : Part} (W : WebOk n T) (hl : h.length = n) : Free T n h part ↔ ∃ g, Reach T h g ∧ Match n part g := by
  constructor
  · intro F
    obtain ⟨m, M⟩ := least_there W hl F
    exact ⟨m, M.comes W hl F⟩
  · rintro ⟨g, ⟨k, r⟩, hm⟩
    exact free_of_rch W hl r hm
theorem Least.below {T : Ties} {n : Nat} {h m g : List Int} {part : Part} (W : WebOk n T) (hl : h.length = n) (M : Least T n h part m) (r : Reach T h g) (hm : Match n part g) {p : Nat} (hp : p < n) : at0 m p ≤ at0 g p := by
  obtain ⟨k, r⟩ := r
  exact M.le p hp _ (cand_of_rch W hl r hm hp)
end Hv
end
section
set_option autoImplicit false
set_option linter.unusedVariables false
/-! The plain law, 3: the fewest stoops; lots; parts. -/
namespace Hv

/-! ### a row of stoops and who came to what -/
theorem rch_hist {T : Ties} {n : Nat} {h g : List Int} {k : Nat} (W : WebOk n T) (hl : h.length = n) (r : Rch T h k g) :
    ∃ hist : List (Nat × Int), hist.length = k ∧ (∀ i v, (i, v) ∈ hist → i < n ∧ v < at0 h i ∧ at0 g i ≤ v) ∧ (∀ i, i < n → at0 g i = at0 h i ∨ (i, at0 g i) ∈ hist) ∧
      ∀ i v, (i, v) ∈ hist → ∃ s, Conn T (fun j => (j, v) ∈ hist ∨ (j < n ∧ at0 h j = v)) i s ∧ s < n ∧ at0 h s = v := by
  induction r with
  | zero => exact ⟨[], rfl, fun _ _ h => absurd h (by simp), fun _ _ => .inl rfl, fun _ _ h => absurd h (by simp)⟩
  | @succ k g g' r m ih =>
    obtain ⟨hist, e, h1, h2, h3⟩ := ih
    obtain ⟨a, b, hab, ha, hb, hlt, rfl⟩ := m
    have hgl : g.length = n := r.len.trans hl
    have hne : b ≠ a := fun q => (W.adj hab).2.2 q.symm
    refine ⟨(a, at0 g b) :: hist, by rw [List.length_cons, e], fun i v hi => ?_, fun i hi => ?_, fun i v hi => ?_⟩
    · rw [at0_set ha]
      rcases List.mem_cons.mp hi with q | hi
      · cases q
        rw [if_pos rfl]
        have := r.le (T := T) a
        exact ⟨by omega, by omega, Int.le_refl _⟩
      · obtain ⟨x1, x2, x3⟩ := h1 i v hi
        by_cases q : i = a
        · rw [if_pos q]; subst q; exact ⟨x1, x2, by omega⟩
        · rw [if_neg q]; exact ⟨x1, x2, x3⟩
    · rw [at0_set ha]
      by_cases q : i = a
      · rw [if_pos q]; subst q; exact .inr List.mem_cons_self
      · rw [if_neg q]
        rcases h2 i hi with z | z
        · exact .inl z
        · exact .inr (List.mem_cons_of_mem _ z)
    · have mono : ∀ w j, ((j, w) ∈ hist ∨ (j < n ∧ at0 h j = w)) → ((j, w) ∈ (a, at0 g b) :: hist ∨ (j < n ∧ at0 h j = w)) := fun w j hj => hj.imp (List.mem_cons_of_mem _) id
      rcases List.mem_cons.mp hi with q | hi
      · cases q
        rcases h2 b (by omega) with z | z
        · exact ⟨b, Conn.head hab (.inr ⟨by omega, z.symm⟩) (.refl b), by omega, z.symm⟩
        · obtain ⟨s, hs, hsn, es⟩ := h3 b _ z
          exact ⟨s, Conn.head hab (.inl (List.mem_cons_of_mem _ z)) (hs.mono (mono _)), hsn, es⟩
      · obtain ⟨s, hs, hsn, es⟩ := h3 i v hi
        exact ⟨s, hs.mono (mono v), hsn, es⟩

/-! ### lists of the program -/
def openB (h : List Int) (part : Part) (v : Int) (i : Nat) : Bool := decide (v ≤ at0 h i) && (match pAt part i with | none => true | some u => decide (u ≤ v))
def openL (n : Nat) (h : List Int) (part : Part) (v : Int) : List Nat := (List.range n).filter (openB h part v)
theorem openB_iff {h : List Int} {part : Part} {v : Int} {i : Nat} : openB h part v i = true ↔ v ≤ at0 h i ∧ ∀ u, pAt part i = some u → u ≤ v := by
  unfold openB
  rw [Bool.and_eq_true, decide_eq_true_eq]
  cases e : pAt part i with
  | none => simp
  | some u => simp
theorem mem_openL {n : Nat} {h : List Int} {part : Part} {v : Int} {i : Nat} : i ∈ openL n h part v ↔ OpenH n h part v i := by
  unfold openL OpenH
  rw [List.mem_filter, List.mem_range, openB_iff]
theorem openL_sorted {n : Nat} {h : List Int} {part : Part} {v : Int} : (openL n h part v).Pairwise (· < ·) := filter_sorted _ (range_sorted n)
def freeL (n : Nat) (h : List Int) (part : Part) (v : Int) : List Nat := (openL n h part v).filter fun i => !decide (at0 h i = v)
def srcL (n : Nat) (h : List Int) (part : Part) (v : Int) : List Nat := (openL n h part v).filter fun i => decide (at0 h i = v)
def dueL (n : Nat) (h : List Int) (part : Part) (v : Int) : List Nat := (openL n h part v).filter fun i => decide (pAt part i = some v) && !decide (at0 h i = v)
theorem mem_freeL {n : Nat} {h : List Int} {part : Part} {v : Int} {i : Nat} : i ∈ freeL n h part v ↔ OpenH n h part v i ∧ at0 h i ≠ v := by
  unfold freeL; rw [List.mem_filter, mem_openL]; simp
theorem mem_srcL {n : Nat} {h : List Int} {part : Part} {v : Int} {i : Nat} : i ∈ srcL n h part v ↔ OpenH n h part v i ∧ at0 h i = v := by
  unfold srcL; rw [List.mem_filter, mem_openL]; simp
theorem mem_dueL {n : Nat} {h : List Int} {part : Part} {v : Int} {i : Nat} : i ∈ dueL n h part v ↔ OpenH n h part v i ∧ pAt part i = some v ∧ at0 h i ≠ v := by
  unfold dueL; rw [List.mem_filter, mem_openL]; simp
theorem freeL_nodup {n : Nat} {h : List Int} {part : Part} {v : Int} : (freeL n h part v).Nodup := (filter_sorted _ openL_sorted).imp fun h => Nat.ne_of_lt h

/-- a lot that must come to a height, and can -/
structure NeedOk (T : Ties) (n : Nat) (h : List Int) (part : Part) (v : Int) (L : List Nat) : Prop where
  nd : L.Nodup
  fr : ∀ i ∈ L, i ∈ freeL n h part v
  due : ∀ i ∈ dueL n h part v, i ∈ L
  join : ∀ i ∈ L, ∃ s, Conn T (· ∈ L ++ srcL n h part v) i s ∧ s ∈ srcL n h part v
theorem NeedOk.lot {T : Ties} {n : Nat} {h : List Int} {part : Part} {v : Int} {L : List Nat} (N : NeedOk T n h part v L) : LotOk T n h v L where
  nd := N.nd
  up := fun i hi => by
    obtain ⟨⟨a, b, _⟩, c⟩ := mem_freeL.mp (N.fr i hi)
    exact ⟨a, by omega⟩
  join := fun i hi => by
    obtain ⟨s, hs, hsrc⟩ := N.join i hi
    refine ⟨s, hs.mono fun j hj => ?_, (mem_srcL.mp hsrc).1.1, (mem_srcL.mp hsrc).2⟩
    rcases List.mem_append.mp hj with h | h
    · exact .inl h
    · exact .inr ⟨(mem_srcL.mp h).1.1, (mem_srcL.mp h).2⟩
/-- as small as can be -/
def NeedMin (T : Ties) (n : Nat) (h : List Int) (part : Part) (v : Int) (L : List Nat) : Prop := NeedOk T n h part v L ∧ ∀ L' : List Nat, L'.Sublist (freeL n h part v) → NeedOk T n h part v L' → L.length ≤ L'.length

theorem sum_filter_le {α : Type} : ∀ (hist : List (α × Int)) (vs : List Int), vs.Nodup → ((vs.map fun v => (hist.filter fun p => decide (p.2 = v)).length).sum) ≤ hist.length
  | [], vs, _ => by
    induction vs with
    | nil => simp
    | cons v vs ih =>
      have q : ∀ l : List Int, (l.map fun _ => 0).sum = 0 := fun l => by induction l with
        | nil => rfl
        | cons x l ih => simpa using ih
      simpa using q vs
  | p :: hist, vs, hn => by
    have ih := sum_filter_le hist vs hn
    have key : ∀ vs : List Int, vs.Nodup → ((vs.map fun v => ((p :: hist).filter fun p => decide (p.2 = v)).length).sum) ≤ ((vs.map fun v => (hist.filter fun p => decide (p.2 = v)).length).sum) + (if p.2 ∈ vs then 1 else 0) := by
      intro vs
      induction vs with
      | nil => intro _; simp
      | cons v vs ih2 =>
        intro hn
        obtain ⟨h1, h2⟩ := List.nodup_cons.mp hn
        have q := ih2 h2
        rw [List.map_cons, List.sum_cons, List.map_cons, List.sum_cons, List.filter_cons]
        by_cases e : p.2 = v
        · have e1 : p.2 ∉ vs := by rw [e]; exact h1
          rw [if_neg e1] at q
          rw [if_pos (decide_eq_true e), List.length_cons, if_pos (by rw [e]; exact List.mem_cons_self)]
          omega
        · rw [if_neg (by simpa using e)]
          by_cases e2 : p.2 ∈ vs
          · rw [if_pos e2] at q; rw [if_pos (List.mem_cons_of_mem _ e2)]; omega
          · rw [if_neg e2] at q; rw [if_neg (by rw [List.mem_cons]; exact fun z => z.elim e e2)]; omega
    have := key vs hn
    rw [List.length_cons]
    by_cases e : p.2 ∈ vs
    · rw [if_pos e] at this; omega
    · rw [if_neg e] at this; omega
theorem sum_le {f g : Int → Nat} : ∀ {vs : List Int}, (∀ v ∈ vs, f v ≤ g v) → (vs.map f).sum ≤ (vs.map g).sum
  | [], _ => Nat.le_refl _
  | v :: vs, h => by
    have a := h v List.mem_cons_self
    have b := sum_le (f := f) (g := g) (vs := vs) fun u hu => h u (List.mem_cons_of_mem _ hu)
    simp only [List.map_cons, List.sum_cons]
    omega

/-- no row is shorter -/
theorem fewest_low {T : Ties} {n : Nat} {h g : List Int} {k : Nat} {part : Part} (W : WebOk n T) (hl : h.length = n) (r : Rch T h k g) (hm : Match n part g) {vs : List Int} (nd : vs.Nodup) (L : Int → List Nat)
    (mn : ∀ v ∈ vs, ∀ L' : List Nat, L'.Sublist (freeL n h part v) → NeedOk T n h part v L' → (L v).length ≤ L'.length) : ((vs.map fun v => (L v).length).sum) ≤ k := by
  obtain ⟨hist, e, h1, h2, h3⟩ := rch_hist W hl r
  have le : ∀ i u, i < n → pAt part i = some u → u = at0 g i := fun i u hi hu => (hm i hi u hu).symm
  have one : ∀ v ∈ vs, (L v).length ≤ (hist.filter fun p => decide (p.2 = v)).length := fun v hv => by
    let L' : List Nat := (freeL n h part v).filter fun i => decide ((i, v) ∈ hist)
    have mL : ∀ i, i ∈ L' ↔ (i, v) ∈ hist := fun i => by
      show i ∈ (freeL n h part v).filter _ ↔ _
      rw [List.mem_filter, decide_eq_true_eq]
      refine ⟨fun q => q.2, fun q => ⟨?_, q⟩⟩
      obtain ⟨a, b, c⟩ := h1 i v q
      refine mem_freeL.mpr ⟨⟨a, by omega, fun u hu => ?_⟩, by omega⟩
      have := le i u a hu
      omega
    have src : ∀ j, j < n → at0 h j = v → j ∈ srcL n h part v := fun j hj ej => mem_srcL.mpr ⟨⟨hj, by omega, fun u hu => by
      have a := le j u hj hu
      have b := r.le (T := T) j
      omega⟩, ej⟩
    have ok : NeedOk T n h part v L' := {
      nd := freeL_nodup.filter _
      fr := fun i hi => (List.mem_filter.mp hi).1
      due := fun i hi => by
        obtain ⟨⟨a, b, c⟩, d, e'⟩ := mem_dueL.mp hi
        rw [mL]
        have eg := le i v a d
        rcases h2 i a with z | z
        · omega
        · rw [← eg] at z; exact z
      join := fun i hi => by
        obtain ⟨s, hs, hsn, es⟩ := h3 i v ((mL i).mp hi)
        refine ⟨s, hs.mono fun j hj => ?_, src s hsn es⟩
        rcases hj with hj | ⟨hj, ej⟩
        · exact List.mem_append_left _ ((mL j).mpr hj)
        · exact List.mem_append_right _ (src j hj ej) }
    have a := mn v hv L' List.filter_sublist ok
    have b : (L'.map fun i => (i, v)).length ≤ (hist.filter fun p => decide (p.2 = v)).length := by
      refine nodup_sub_len ?_ fun x hx => ?_
      · exact List.pairwise_map.mpr (ok.nd.imp fun hne q => hne (Prod.mk.inj q).1)
      · obtain ⟨i, hi, rfl⟩ := List.mem_map.mp hx
        exact List.mem_filter.mpr ⟨(mL i).mp hi, by simp⟩
    rw [List.length_map] at b
    exact Nat.le_trans a b
  exact Nat.le_trans (sum_le one) (by rw [← e]; exact sum_filter_le hist vs nd)

/-- and one is as short -/
theorem fewest_up {T : Ties} {n : Nat} {h : List Int} {part : Part} (W : WebOk n T) (hl : h.length = n) (F : Free T n h part) {vs : List Int} (hp : vs.Pairwise (· < ·)) (hv : ∀ i u, i < n → pAt part i = some u → u ∈ vs) (L : Int → List Nat)
    (ok : ∀ v ∈ vs, NeedOk T n h part v (L v)) : ∃ g, Rch T h ((vs.map fun v => (L v).length).sum) g ∧ Match n part g := by
  obtain ⟨g, r, e⟩ := build_row W hl L vs hp fun v hv => (ok v hv).lot
  refine ⟨g, r, fun i hi u hu => ?_⟩
  have op := (F i hi u hu).1
  have huv := hv i u hi hu
  by_cases q : at0 h i = u
  · rcases e i hi with ⟨z, _⟩ | ⟨v, hv', z, hiL, _⟩
    · omega
    · obtain ⟨⟨_, b, c⟩, d⟩ := mem_freeL.mp ((ok v hv').fr i hiL)
      have := c u hu
      omega
  · have hd : i ∈ L u := (ok u huv).due i (mem_dueL.mpr ⟨op, hu, q⟩)
    rcases e i hi with ⟨_, no⟩ | ⟨v, hv', z, hiL, le⟩
    · exact absurd hd (no u huv)
    · obtain ⟨⟨_, b, c⟩, d⟩ := mem_freeL.mp ((ok v hv').fr i hiL)
      have a1 := c u hu
      have a2 := le u huv hd
      omega

open Classical in
/-- there is such a lot -/
theorem need_there {T : Ties} {n : Nat} {h : List Int} {part : Part} (F : Free T n h part) (v : Int) : ∃ L : List Nat, L.Sublist (freeL n h part v) ∧ NeedOk T n h part v L := by
  refine ⟨(freeL n h part v).filter fun i => decide (∃ s, Conn T (OpenH n h part v) i s ∧ at0 h s = v), List.filter_sublist, ?_⟩
  have mL : ∀ i, i ∈ ((freeL n h part v).filter fun i => decide (∃ s, Conn T (OpenH n h part v) i s ∧ at0 h s = v)) ↔ i ∈ freeL n h part v ∧ ∃ s, Conn T (OpenH n h part v) i s ∧ at0 h s = v := fun i => by
    rw [List.mem_filter, decide_eq_true_eq]
  refine { nd := freeL_nodup.filter _, fr := fun i hi => ((mL i).mp hi).1, due := fun i hi => ?_, join := fun i hi => ?_ }
  · obtain ⟨a, b, c⟩ := mem_dueL.mp hi
    obtain ⟨_, s, hs, es⟩ := F i a.1 v b
    exact (mL i).mpr ⟨mem_freeL.mpr ⟨a, c⟩, s, hs, es⟩
  · obtain ⟨hf, s, hs, es⟩ := (mL i).mp hi
    have Oi := (mem_freeL.mp hf).1
    refine ⟨s, hs.strong fun j hj Oj => ?_, mem_srcL.mpr ⟨hs.inside Oi, es⟩⟩
    by_cases ej : at0 h j = v
    · exact List.mem_append_right _ (mem_srcL.mpr ⟨Oj, ej⟩)
    · exact List.mem_append_left _ ((mL j).mpr ⟨mem_freeL.mpr ⟨Oj, ej⟩, s, (hj.symm Oi).trans hs, es⟩)

/-! ### all lots of some -/
def subsL (xs : List Nat) : List (List Nat) := xs.foldl (fun acc p => acc ++ acc.map (· ++ [p])) [[]]
theorem subsL_snoc (xs : List Nat) (p : Nat) : subsL (xs ++ [p]) = subsL xs ++ (subsL xs).map (· ++ [p]) := by
  unfold subsL; rw [List.foldl_append]; rfl
theorem subsL_nil : subsL [] = [[]] := rfl
theorem mem_subsL_aux : ∀ (m : Nat) (xs : List Nat), xs.length = m → ∀ L : List Nat, L ∈ subsL xs ↔ L.Sublist xs
  | 0, xs, hm, L => by
    have : xs = [] := List.eq_nil_of_length_eq_zero hm
    subst this
    rw [subsL_nil, List.mem_singleton, List.sublist_nil]
  | m + 1, xs, hm, L => by
    obtain ⟨ys, p, rfl⟩ : ∃ ys p, xs = ys ++ [p] := ⟨xs.dropLast, xs.getLast (by intro e; subst e; simp at hm), (List.dropLast_concat_getLast _).symm⟩
    have hy : ys.length = m := by simpa using hm
    have ih := mem_subsL_aux m ys hy
    rw [subsL_snoc, List.mem_append, ih, List.mem_map, List.sublist_append_iff]
    constructor
    · rintro (h | ⟨L0, h, rfl⟩)
      · exact ⟨L, [], by simp, h, List.nil_sublist _⟩
      · exact ⟨L0, [p], rfl, (ih L0).mp h, List.Sublist.refl _⟩
    · rintro ⟨a, b, rfl, ha, hb⟩
      rcases (by cases hb with | cons _ h => exact .inl (List.sublist_nil.mp h) | cons_cons _ h => exact .inr (by rw [List.sublist_nil.mp h]) : b = [] ∨ b = [p]) with e | e
      · subst e; left; rw [List.append_nil]; exact ha
      · subst e; right; exact ⟨a, (ih a).mpr ha, rfl⟩
theorem mem_subsL {xs L : List Nat} : L ∈ subsL xs ↔ L.Sublist xs := mem_subsL_aux xs.length xs rfl L
theorem subsL_len_aux : ∀ (m : Nat) (xs : List Nat), xs.length = m → (subsL xs).length = 2 ^ m
  | 0, xs, hm => by
    have : xs = [] := List.eq_nil_of_length_eq_zero hm
    subst this; rfl
  | m + 1, xs, hm => by
    obtain ⟨ys, p, rfl⟩ : ∃ ys p, xs = ys ++ [p] := ⟨xs.dropLast, xs.getLast (by intro e; subst e; simp at hm), (List.dropLast_concat_getLast _).symm⟩
    have hy : ys.length = m := by simpa using hm
    rw [subsL_snoc, List.length_append, List.length_map, subsL_len_aux m ys hy, Nat.pow_succ]; omega
theorem subsL_len (xs : List Nat) : (subsL xs).length = 2 ^ xs.length := subsL_len_aux _ xs rfl
/-- what lots_of hands back: all lots, smaller ones first -/
structure LotsOk (xs : List Nat) (ls : List (List Nat)) : Prop where
  mem : ∀ L, L ∈ ls ↔ L.Sublist xs
  srt : ls.Pairwise fun a b => a.length ≤ b.length

/-- the first of them that will do is as small as can be -/
theorem lots_first {xs : List Nat} {ls : List (List Nat)} (O : LotsOk xs ls) {i : Nat} {L : List Nat} (hi : ls[i]? = some L) {P : List Nat → Prop} (no : ∀ j L', j < i → ls[j]? = some L' → ¬ P L') {L' : List Nat} (hs : L'.Sublist xs) (hP : P L') : L.length ≤ L'.length := by
  obtain ⟨j, hj, e⟩ := List.getElem_of_mem ((O.mem L').mpr hs)
  have hj' : ls[j]? = some L' := by rw [List.getElem?_eq_getElem hj, e]
  obtain ⟨hi1, hi2⟩ := List.getElem?_eq_some_iff.mp hi
  by_cases q : j < i
  · exact absurd hP (no j L' q hj')
  · by_cases q2 : j = i
    · subst q2; rw [hi] at hj'; cases hj'; exact Nat.le_refl _
    · have := List.pairwise_iff_getElem.mp O.srt i j hi1 hj (by omega)
      rw [hi2, e] at this
      exact this

/-! ### parts -/
noncomputable def partsF (T : Ties) (n : Nat) (lot : List Nat) : Nat → List Nat → List (List Nat)
  | 0, _ => []
  | _ + 1, [] => []
  | k + 1, x :: left => hangL T n lot x :: partsF T n lot k ((x :: left).filter fun i => !decide (i ∈ hangL T n lot x))
noncomputable def partsL (T : Ties) (n : Nat) (lot : List Nat) : List (List Nat) := partsF T n lot lot.length lot
theorem partsF_nil {T : Ties} {n : Nat} {lot : List Nat} : ∀ k, partsF T n lot k [] = []
  | 0 => rfl
  | _ + 1 => rfl
theorem self_hang {T : Ties} {n : Nat} {lot : List Nat} {x : Nat} (hx : x < n) : x ∈ hangL T n lot x := mem_hangL.mpr ⟨hx, .refl x⟩
theorem left_less {T : Ties} {n : Nat} {lot left : List Nat} {x : Nat} (hx : x < n) : ((x :: left).filter fun i => !decide (i ∈ hangL T n lot x)).length ≤ left.length := by
  rw [List.filter_cons, if_neg (by simpa using self_hang hx)]
  exact List.length_filter_le _ _
/-- fuel does not matter -/
theorem partsF_more {T : Ties} {n : Nat} {lot : List Nat} : ∀ (k j : Nat) (left : List Nat), (∀ i ∈ left, i < n) → left.length ≤ k → left.length ≤ j → partsF T n lot k left = partsF T n lot j left
  | 0, j, left, _, hk, _ => by
    have : left = [] := List.eq_nil_of_length_eq_zero (by omega)
    subst this; rw [partsF_nil, partsF_nil]
  | k + 1, 0, left, _, _, hj => by
    have : left = [] := List.eq_nil_of_length_eq_zero (by omega)
    subst this; rw [partsF_nil, partsF_nil]
  | k + 1, j + 1, [], _, _, _ => rfl
  | k + 1, j + 1, x :: left, hn, hk, hj => by
    have hx := hn x List.mem_cons_self
    have := left_less (T := T) (lot := lot) (left := left) hx
    rw [List.length_cons] at hk hj
    show _ :: _ = _ :: _
    rw [partsF_more k j _ (fun i hi => hn i (List.mem_filter.mp hi).1) (by omega) (by omega)]
/-- one turn of either program's loop -/
theorem partsF_step {T : Ties} {n k : Nat} {lot left : List Nat} {x : Nat} (hn : ∀ i ∈ x :: left, i < n) (hk : (x :: left).length ≤ k) : partsF T n lot k (x :: left) = hangL T n lot x :: partsF T n lot k ((x :: left).filter fun i => !decide (i ∈ hangL T n lot x)) := by
  have hx := hn x List.mem_cons_self
  have hle := left_less (T := T) (lot := lot) (left := left) hx
  have e : partsF T n lot k (x :: left) = partsF T n lot (k + 1) (x :: left) := partsF_more _ _ _ hn hk (by omega)
  rw [e]; rfl
/-- what is left is closed: nobody of it has a tie with one of the lot that is gone -/
def ClosedIn (T : Ties) (lot left : List Nat) : Prop := (∀ i ∈ left, i ∈ lot) ∧ ∀ i j, i ∈ left → Adj T i j → j ∈ lot → j ∈ left
theorem closed_conn {T : Ties} {lot left : List Nat} (C : ClosedIn T lot left) {x y : Nat} (hx : x ∈ left) : Conn T (· ∈ lot) x y ↔ Conn T (· ∈ left) x y := by
  constructor
  · intro h
    induction h with
    | refl => exact .refl _
    | step h1 h2 h3 ih => exact .step ih h2 (C.2 _ _ (ih.inside hx) h2 h3)
  · exact fun h => h.mono C.1
theorem closed_hang {T : Ties} {n : Nat} {lot left : List Nat} (C : ClosedIn T lot left) {x : Nat} (hx : x ∈ left) : hangL T n left x = hangL T n lot x :=
  natSorted_ext hangL_sorted hangL_sorted fun y => by rw [mem_hangL, mem_hangL, closed_conn C hx]
theorem closed_next {T : Ties} {n : Nat} {lot left : List Nat} (hn : ∀ i ∈ lot, i < n) (C : ClosedIn T lot left) {x : Nat} (hx : x ∈ left) : ClosedIn T lot (left.filter fun i => !decide (i ∈ hangL T n lot x)) := by
  refine ⟨fun i hi => C.1 i (List.mem_filter.mp hi).1, fun i j hi hij hj => ?_⟩
  obtain ⟨h1, h2⟩ := List.mem_filter.mp hi
  refine List.mem_filter.mpr ⟨C.2 i j h1 hij hj, ?_⟩
  have h2' : i ∉ hangL T n lot x := by simpa using h2
  have : j ∉ hangL T n lot x := fun q => h2' (by
    obtain ⟨_, q⟩ := mem_hangL.mp q
    exact mem_hangL.mpr ⟨hn i (C.1 i h1), .step q hij.symm (C.1 i h1)⟩)
  simpa using this
theorem closed_all {T : Ties} (lot : List Nat) : ClosedIn T lot lot := ⟨fun _ h => h, fun _ _ _ _ h => h⟩
/-- every part is that of each of its persons; every person is in one -/
theorem partsF_mem {T : Ties} {n : Nat} {lot : List Nat} (hn : ∀ i ∈ lot, i < n) : ∀ (k : Nat) (left : List Nat), left.length ≤ k → ClosedIn T lot left →
    (∀ P ∈ partsF T n lot k left, ∃ x ∈ left, P = hangL T n lot x) ∧ ∀ y ∈ left, ∃ P ∈ partsF T n lot k left, y ∈ P
  | 0, left, hk, _ => by
    have : left = [] := List.eq_nil_of_length_eq_zero (by omega)
    subst this
    exact ⟨fun P h => absurd h (by simp [partsF]), fun y h => absurd h (by simp)⟩
  | k + 1, [], _, _ => ⟨fun P h => absurd h (by simp [partsF]), fun y h => absurd h (by simp)⟩
  | k + 1, x :: left, hk, C => by
    have hx := hn x (C.1 x List.mem_cons_self)
    have hle := left_less (T := T) (lot := lot) (left := left) hx
    rw [List.length_cons] at hk
    obtain ⟨a, b⟩ := partsF_mem hn k _ (by omega) (closed_next hn C List.mem_cons_self)
    refine ⟨fun P hP => ?_, fun y hy => ?_⟩
    · rcases List.mem_cons.mp hP with e | hP
      · exact ⟨x, List.mem_cons_self, e⟩
      · obtain ⟨z, hz, e⟩ := a P hP
        exact ⟨z, (List.mem_filter.mp hz).1, e⟩
    · by_cases q : y ∈ hangL T n lot x
      · exact ⟨_, List.mem_cons_self, q⟩
      · obtain ⟨P, hP, hyP⟩ := b y (List.mem_filter.mpr ⟨hy, by simpa using q⟩)
        exact ⟨P, List.mem_cons_of_mem _ hP, hyP⟩
theorem hang_same {T : Ties} {n : Nat} {lot : List Nat} (hn : ∀ i ∈ lot, i < n) {x y : Nat} (hx : x ∈ lot) (hy : y ∈ hangL T n lot x) : hangL T n lot x = hangL T n lot y := by
  obtain ⟨_, c⟩ := mem_hangL.mp hy
  refine natSorted_ext hangL_sorted hangL_sorted fun z => ?_
  rw [mem_hangL, mem_hangL]
  exact ⟨fun ⟨a, b⟩ => ⟨a, (c.symm hx).trans b⟩, fun ⟨a, b⟩ => ⟨a, c.trans b⟩⟩
/-- the first part that holds a person -/
theorem parts_of_one {T : Ties} {n : Nat} {lot : List Nat} (hn : ∀ i ∈ lot, i < n) (p : Nat) :
    (p ∉ lot → ((partsL T n lot).filter fun P => decide (p ∈ P)) = []) ∧ (p ∈ lot → ((partsL T n lot).filter fun P => decide (p ∈ P))[0]? = some (hangL T n lot p)) := by
  obtain ⟨a, b⟩ := partsF_mem (T := T) hn lot.length lot (Nat.le_refl _) (closed_all lot)
  constructor
  · intro hp
    refine List.filter_eq_nil_iff.mpr fun P hP q => ?_
    obtain ⟨x, hx, rfl⟩ := a P hP
    have : p ∈ hangL T n lot x := of_decide_eq_true q
    exact hp ((mem_hangL.mp this).2.inside hx)
  · intro hp
    obtain ⟨P, hP, hpP⟩ := b p hp
    cases e : (partsL T n lot).filter fun P => decide (p ∈ P) with
    | nil => exact absurd (decide_eq_true hpP) (List.filter_eq_nil_iff.mp e P hP)
    | cons Q r =>
      have hQ : Q ∈ (partsL T n lot).filter fun P => decide (p ∈ P) := by rw [e]; exact List.mem_cons_self
      obtain ⟨h1, h2⟩ := List.mem_filter.mp hQ
      obtain ⟨x, hx, rfl⟩ := a Q h1
      rw [hang_same hn hx (of_decide_eq_true h2)]
      rfl
theorem partsL_len {T : Ties} {n : Nat} {lot : List Nat} (hn : ∀ i ∈ lot, i < n) : (partsL T n lot).length ≤ lot.length := by
  have key : ∀ (k : Nat) (left : List Nat), (partsF T n lot k left).length ≤ k := by
    intro k
    induction k with
    | zero => intro left; exact Nat.le_refl _
    | succ k ih =>
      intro left
      cases left with
      | nil => exact Nat.zero_le _
      | cons x left => show (_ :: _).length ≤ _; rw [List.length_cons]; exact Nat.succ_le_succ (ih _)
  exact key _ _
end Hv
end
section
set_option autoImplicit false
set_option linter.unusedVariables false
/-! The plain law, 4: searches. -/
namespace Hv

/-! ### a search with a pile -/
structure Dfs {α : Type} (R : α → α → Prop) (Pr : α → Prop) (found edge : List α) : Prop where
  nd : found.Nodup
  pr : ∀ x ∈ found, Pr x
  sub : ∀ x ∈ edge, x ∈ found
  cl : ∀ x ∈ found, x ∉ edge → ∀ y, R x y → y ∈ found
structure DfsIn {α : Type} (R : α → α → Prop) (Pr : α → Prop) (x : α) (C : α → Prop) (found edge : List α) : Prop where
  nd : found.Nodup
  pr : ∀ x ∈ found, Pr x
  sub : ∀ x ∈ edge, x ∈ found
  at_ : x ∈ found
  cl : ∀ z ∈ found, z ∉ edge → z ≠ x → ∀ y, R z y → y ∈ found
  cov : ∀ y, C y → R x y → y ∈ found
section
variable {α : Type} {R : α → α → Prop} {Pr : α → Prop} {x y r : α} {C : α → Prop} {found edge : List α}
theorem Dfs.start (h : Pr r) : Dfs R Pr [r] [r] where
  nd := List.nodup_cons.mpr ⟨by simp, List.nodup_nil⟩
  pr := fun x hx => by rw [List.mem_singleton.mp hx]; exact h
  sub := fun _ h => h
  cl := fun _ h1 h2 => absurd h1 h2
theorem Dfs.pop (D : Dfs R Pr found (edge ++ [x])) : DfsIn R Pr x (fun _ => False) found edge where
  nd := D.nd
  pr := D.pr
  sub := fun z hz => D.sub z (List.mem_append_left _ hz)
  at_ := D.sub x (List.mem_append_right _ List.mem_cons_self)
  cl := fun z hz hn hne y hy => D.cl z hz (fun q => by
    rcases List.mem_append.mp q with q | q
    · exact hn q
    · exact hne (List.mem_singleton.mp q)) y hy
  cov := fun _ h => h.elim
theorem DfsIn.add (D : DfsIn R Pr x C found edge) (hy : y ∉ found) (py : Pr y) : DfsIn R Pr x (fun z => C z ∨ z = y) (found ++ [y]) (edge ++ [y]) where
  nd := by
    rw [List.nodup_append]
    refine ⟨D.nd, List.nodup_cons.mpr ⟨by simp, List.nodup_nil⟩, fun a ha b hb e => ?_⟩
    rw [List.mem_singleton] at hb
    subst hb; subst e; exact hy ha
  pr := fun z hz => by
    rcases List.mem_append.mp hz with hz | hz
    · exact D.pr z hz
    · rw [List.mem_singleton.mp hz]; exact py
  sub := fun z hz => by
    rcases List.mem_append.mp hz with hz | hz
    · exact List.mem_append_left _ (D.sub z hz)
    · exact List.mem_append_right _ hz
  at_ := List.mem_append_left _ D.at_
  cl := fun z hz hn hne w hw => by
    rcases List.mem_append.mp hz with hz | hz
    · exact List.mem_append_left _ (D.cl z hz (fun q => hn (List.mem_append_left _ q)) hne w hw)
    · exact absurd (List.mem_append_right _ hz) hn
  cov := fun z hz hw => by
    rcases hz with hz | hz
    · exact List.mem_append_left _ (D.cov z hz hw)
    · subst hz; exact List.mem_append_right _ List.mem_cons_self
theorem DfsIn.skip (D : DfsIn R Pr x C found edge) (hy : R x y → y ∈ found) : DfsIn R Pr x (fun z => C z ∨ z = y) found edge := by
  refine { D with cov := fun z hz hw => ?_ }
  rcases hz with hz | hz
  · exact D.cov z hz hw
  · subst hz; exact hy hw
theorem DfsIn.imp {C' : α → Prop} (D : DfsIn R Pr x C found edge) (h : ∀ y, C' y → C y) : DfsIn R Pr x C' found edge :=
  { D with cov := fun z hz hw => D.cov z (h z hz) hw }
theorem DfsIn.done (D : DfsIn R Pr x C found edge) (h : ∀ y, R x y → C y) : Dfs R Pr found edge where
  nd := D.nd
  pr := D.pr
  sub := D.sub
  cl := fun z hz hn y hy => by
    by_cases e : z = x
    · subst e; exact D.cov y (h y hy) hy
    · exact D.cl z hz hn e y hy
theorem Dfs.closed (D : Dfs R Pr found []) : ∀ z ∈ found, ∀ y, R z y → y ∈ found := fun z hz y hy => D.cl z hz (by simp) y hy
end

/-- hanging: what is found when the pile is empty -/
abbrev hR (T : Ties) (lot : List Nat) : Nat → Nat → Prop := fun x y => Adj T x y ∧ y ∈ lot
theorem hang_end {T : Ties} {lot found : List Nat} {p : Nat} (D : Dfs (hR T lot) (Conn T (· ∈ lot) p) found []) (hp : p ∈ found) (q : Nat) : q ∈ found ↔ Conn T (· ∈ lot) p q := by
  refine ⟨D.pr q, fun h => ?_⟩
  induction h with
  | refl => exact hp
  | step _ h2 h3 ih => exact D.closed _ ih _ ⟨h2, h3⟩
theorem hang_sorted_eq {T : Ties} {n : Nat} {lot found : List Nat} {p : Nat} (W : WebOk n T) (hpn : p < n) (nd : found.Nodup) (hm : ∀ q, q ∈ found ↔ Conn T (· ∈ lot) p q) {ns : List Int} (hp : ns.Perm (found.map fun i : Nat => (i : Int))) (hs : ns.Pairwise (· ≤ ·)) :
    ns = (hangL T n lot p).map fun i : Nat => (i : Int) := by
  have nd1 : (found.map fun i : Nat => (i : Int)).Nodup := List.pairwise_map.mpr (nd.imp fun h q => h (by omega))
  have nd2 : ns.Nodup := hp.nodup_iff.mpr nd1
  have hs2 : ns.Pairwise (· < ·) := by
    have := hs.and nd2
    exact this.imp fun ⟨a, b⟩ => by omega
  refine intSorted_ext hs2 (List.pairwise_map.mpr (hangL_sorted.imp fun h => by omega)) fun x => ?_
  rw [hp.mem_iff, List.mem_map, List.mem_map]
  constructor
  · rintro ⟨i, hi, rfl⟩
    have c := (hm i).mp hi
    exact ⟨i, mem_hangL.mpr ⟨c.lt W hpn, c⟩, rfl⟩
  · rintro ⟨i, hi, rfl⟩
    exact ⟨i, (hm i).mpr (mem_hangL.mp hi).2, rfl⟩

/-- all_of -/
theorem all_end {T : Ties} {h : List Int} {found : List (List Int)} (D : Dfs (Mv T) (Reach T h) found []) (hp : h ∈ found) (g : List Int) : g ∈ found ↔ Reach T h g := by
  refine ⟨D.pr g, fun r => ?_⟩
  obtain ⟨k, r⟩ := r
  induction r with
  | zero => exact hp
  | succ _ m ih => exact D.closed _ ih _ m

/-! ### a search by levels -/
structure Bfs (T : Ties) (h : List Int) (d : Nat) (kvs : List (List Int × Nat)) (edge : List (List Int)) : Prop where
  nd : (kvs.map (·.1)).Nodup
  ok : ∀ g k, (g, k) ∈ kvs → Rch T h k g ∧ k ≤ d ∧ ∀ j, Rch T h j g → k ≤ j
  all : ∀ j g, j ≤ d → Rch T h j g → ∃ k, (g, k) ∈ kvs
  edge : ∀ g, g ∈ edge ↔ (g, d) ∈ kvs
structure BfsIn (T : Ties) (h : List Int) (d : Nat) (edge : List (List Int)) (C : List Int → Prop) (kvs : List (List Int × Nat)) (later : List (List Int)) : Prop where
  nd : (kvs.map (·.1)).Nodup
  ok : ∀ g k, (g, k) ∈ kvs → Rch T h k g ∧ k ≤ d + 1 ∧ ∀ j, Rch T h j g → k ≤ j
  all : ∀ j g, j ≤ d → Rch T h j g → ∃ k, (g, k) ∈ kvs
  edge : ∀ g, g ∈ edge ↔ (g, d) ∈ kvs
  later : ∀ g, g ∈ later ↔ (g, d + 1) ∈ kvs
  cov : ∀ g, C g → ∃ k, (g, k) ∈ kvs
section
variable {T : Ties} {h : List Int} {d : Nat} {kvs : List (List Int × Nat)} {edge later : List (List Int)} {C : List Int → Prop}
theorem Bfs.start : Bfs T h 0 [(h, 0)] [h] where
  nd := List.nodup_cons.mpr ⟨by simp, List.nodup_nil⟩
  ok := fun g k hg => by
    rw [List.mem_singleton] at hg
    cases hg
    exact ⟨.zero, Nat.le_refl _, fun j _ => Nat.zero_le _⟩
  all := fun j g hj r => by
    have : j = 0 := by omega
    subst this
    cases r
    exact ⟨0, List.mem_cons_self⟩
  edge := fun g => by simp
theorem Bfs.next (B : Bfs T h d kvs edge) : BfsIn T h d edge (fun _ => False) kvs [] where
  nd := B.nd
  ok := fun g k hg => by
    obtain ⟨a, b, c⟩ := B.ok g k hg
    exact ⟨a, by omega, c⟩
  all := B.all
  edge := B.edge
  later := fun g => ⟨fun q => absurd q (by simp), fun q => by
    have := (B.ok g _ q).2.1
    omega⟩
  cov := fun _ h => h.elim
theorem BfsIn.add (B : BfsIn T h d edge C kvs later) {now told : List Int} (hn : now ∈ edge) (m : Mv T now told) (no : told ∉ kvs.map (·.1)) : BfsIn T h d edge (fun g => C g ∨ g = told) (kvs ++ [(told, d + 1)]) (later ++ [told]) where
  nd := by
    rw [List.map_append, List.nodup_append]
    refine ⟨B.nd, List.nodup_cons.mpr ⟨by simp, List.nodup_nil⟩, fun a ha b hb e => ?_⟩
    rw [List.map_singleton, List.mem_singleton] at hb
    subst hb; subst e; exact no ha
  ok := fun g k hg => by
    rcases List.mem_append.mp hg with hg | hg
    · exact B.ok g k hg
    · rw [List.mem_singleton] at hg
      cases hg
      refine ⟨.succ (B.ok now d ((B.edge now).mp hn)).1 m, Nat.le_refl _, fun j r => ?_⟩
      by_cases q : j ≤ d
      · obtain ⟨k, hk⟩ := B.all j _ q r
        exact absurd (List.mem_map.mpr ⟨_, hk, rfl⟩) no
      · omega
  all := fun j g hj r => by
    obtain ⟨k, hk⟩ := B.all j g hj r
    exact ⟨k, List.mem_append_left _ hk⟩
  edge := fun g => by
    rw [B.edge g, List.mem_append]
    refine ⟨.inl, fun q => ?_⟩
    rcases q with q | q
    · exact q
    · rw [List.mem_singleton] at q
      have := (Prod.mk.inj q).2
      omega
  later := fun g => by
    rw [List.mem_append, B.later g, List.mem_append, List.mem_singleton, List.mem_singleton, Prod.mk.injEq]
    refine ⟨fun q => q.imp id fun e => ⟨e, rfl⟩, fun q => q.imp id fun e => e.1⟩
  cov := fun g hg => by
    rcases hg with hg | hg
    · obtain ⟨k, hk⟩ := B.cov g hg
      exact ⟨k, List.mem_append_left _ hk⟩
    · subst hg; exact ⟨d + 1, List.mem_append_right _ List.mem_cons_self⟩
theorem BfsIn.skip (B : BfsIn T h d edge C kvs later) {told : List Int} (there : told ∈ kvs.map (·.1)) : BfsIn T h d edge (fun g => C g ∨ g = told) kvs later := by
  refine { B with cov := fun g hg => ?_ }
  rcases hg with hg | hg
  · exact B.cov g hg
  · subst hg
    obtain ⟨⟨g', k⟩, hk, e⟩ := List.mem_map.mp there
    cases e
    exact ⟨k, hk⟩
theorem BfsIn.imp {C' : List Int → Prop} (B : BfsIn T h d edge C kvs later) (i : ∀ g, C' g → C g) : BfsIn T h d edge C' kvs later := { B with cov := fun g hg => B.cov g (i g hg) }
theorem BfsIn.done (B : BfsIn T h d edge C kvs later) (hc : ∀ now ∈ edge, ∀ g, Mv T now g → C g) : Bfs T h (d + 1) kvs later where
  nd := B.nd
  ok := B.ok
  all := fun j g hj r => by
    by_cases q : j ≤ d
    · exact B.all j g q r
    · have : j = d + 1 := by omega
      subst this
      cases r with
      | @succ _ g0 _ r0 m =>
        obtain ⟨k, hk⟩ := B.all d g0 (Nat.le_refl _) r0
        obtain ⟨rk, _, mk⟩ := B.ok g0 k hk
        have hkd := mk d r0
        by_cases e : k = d
        · subst e
          exact B.cov g (hc g0 ((B.edge g0).mpr hk) g m)
        · exact B.all (k + 1) g (by omega) (.succ rk m)
  edge := B.later
/-- what is known in the end: each outcome with the fewest stoops to it -/
structure Known (T : Ties) (h : List Int) (kvs : List (List Int × Nat)) : Prop where
  nd : (kvs.map (·.1)).Nodup
  ok : ∀ g k, (g, k) ∈ kvs → Rch T h k g ∧ ∀ j, Rch T h j g → k ≤ j
  all : ∀ g, Reach T h g → ∃ k, (g, k) ∈ kvs
theorem Bfs.known (B : Bfs T h d kvs []) : Known T h kvs where
  nd := B.nd
  ok := fun g k hk => let ⟨a, _, c⟩ := B.ok g k hk; ⟨a, c⟩
  all := fun g r => by
    obtain ⟨j, r⟩ := r
    induction r with
    | zero => exact B.all 0 h (Nat.zero_le _) .zero
    | @succ j g0 g r m ih =>
      obtain ⟨k, hk⟩ := ih
      obtain ⟨rk, kd, _⟩ := B.ok g0 k hk
      by_cases e : k = d
      · subst e
        exact absurd ((B.edge g0).mpr hk) (by simp)
      · exact B.all (k + 1) g (by omega) (.succ rk m)
theorem Known.mem (K : Known T h kvs) (g : List Int) : g ∈ kvs.map (·.1) ↔ Reach T h g := by
  rw [List.mem_map]
  constructor
  · rintro ⟨⟨g', k⟩, hk, rfl⟩
    exact ⟨k, (K.ok _ k hk).1⟩
  · intro r
    obtain ⟨k, hk⟩ := K.all g r
    exact ⟨_, hk, rfl⟩
theorem BfsIn.few (B : BfsIn T h d edge C kvs later) (hn : h.length ≤ 5) : kvs.length ≤ 3125 := by
  have := reach_few (T := T) hn B.nd fun g hg => by
    obtain ⟨⟨g', k⟩, hk, rfl⟩ := List.mem_map.mp hg
    exact ⟨k, (B.ok _ k hk).1⟩
  rw [List.length_map] at this
  exact this
theorem Bfs.few (B : Bfs T h d kvs edge) (hn : h.length ≤ 5) : kvs.length ≤ 3125 := B.next.few hn
theorem Known.few (K : Known T h kvs) (hn : h.length ≤ 5) : kvs.length ≤ 3125 := by
  have := reach_few (T := T) hn K.nd fun g hg => (K.mem g).mp hg
  rw [List.length_map] at this
  exact this
end

/-! ### the rounds of the law's parts -/
structure Rnd (T : Ties) (lot : List Nat) (x k : Nat) (s : List Nat) : Prop where
  nd : s.Nodup
  at_ : x ∈ s
  pr : ∀ y ∈ s, Conn T (· ∈ lot) x y
  go : k + 1 ≤ s.length ∨ ∀ i j, i ∈ s → Adj T i j → j ∈ lot → j ∈ s
/-- within a round: the ties ts were asked -/
structure RndIn (T : Ties) (lot : List Nat) (x k : Nat) (ts : Ties) (s : List Nat) : Prop where
  nd : s.Nodup
  at_ : x ∈ s
  pr : ∀ y ∈ s, Conn T (· ∈ lot) x y
  go : k + 2 ≤ s.length ∨ (∀ i j, i ∈ s → Adj T i j → j ∈ lot → j ∈ s) ∨ (k + 1 ≤ s.length ∧ ∀ t ∈ ts, t.1 ∈ lot → t.2 ∈ lot → (t.1 ∈ s ↔ t.2 ∈ s))
section
variable {T : Ties} {lot s : List Nat} {x k : Nat} {ts : Ties}
theorem Rnd.start : Rnd T lot x 0 [x] where
  nd := List.nodup_cons.mpr ⟨by simp, List.nodup_nil⟩
  at_ := List.mem_cons_self
  pr := fun y hy => by rw [List.mem_singleton.mp hy]; exact .refl x
  go := .inl (Nat.le_refl _)
theorem Rnd.begin (R : Rnd T lot x k s) : RndIn T lot x k [] s where
  nd := R.nd
  at_ := R.at_
  pr := R.pr
  go := by
    rcases R.go with h | h
    · exact .inr (.inr ⟨h, fun _ h => absurd h (by simp)⟩)
    · exact .inr (.inl h)
theorem RndIn.pass (R : RndIn T lot x k ts s) {t : Nat × Nat} (no : ¬ (t.1 ∈ lot ∧ t.2 ∈ lot ∧ ¬ (t.1 ∈ s ↔ t.2 ∈ s))) : RndIn T lot x k (ts ++ [t]) s := by
  refine { R with go := ?_ }
  rcases R.go with h | h | ⟨h1, h2⟩
  · exact .inl h
  · exact .inr (.inl h)
  · refine .inr (.inr ⟨h1, fun u hu a b => ?_⟩)
    rcases List.mem_append.mp hu with hu | hu
    · exact h2 u hu a b
    · rw [List.mem_singleton] at hu
      subst hu
      exact Classical.byContradiction fun q => no ⟨a, b, q⟩
theorem RndIn.grow (R : RndIn T lot x k ts s) (hx : x ∈ lot) {t : Nat × Nat} (ht : t ∈ T) {y : Nat} (a : t.1 ∈ lot) (b : t.2 ∈ lot) (c : (t.1 ∈ s ∧ t.2 ∉ s ∧ y = t.2) ∨ (t.1 ∉ s ∧ t.2 ∈ s ∧ y = t.1)) : RndIn T lot x k (ts ++ [t]) (s ++ [y]) := by
  have key : y ∉ s ∧ ∃ z ∈ s, Adj T z y ∧ y ∈ lot := by
    rcases c with ⟨c1, c2, rfl⟩ | ⟨c1, c2, rfl⟩
    · exact ⟨c2, t.1, c1, .inl ht, b⟩
    · exact ⟨c1, t.2, c2, .inr ht, a⟩
  obtain ⟨hy, z, hz, hzy, hyl⟩ := key
  refine ⟨?_, List.mem_append_left _ R.at_, fun w hw => ?_, ?_⟩
  · rw [List.nodup_append]
    refine ⟨R.nd, List.nodup_cons.mpr ⟨by simp, List.nodup_nil⟩, fun a ha b hb e => ?_⟩
    rw [List.mem_singleton] at hb
    subst hb; subst e; exact hy ha
  · rcases List.mem_append.mp hw with hw | hw
    · exact R.pr w hw
    · rw [List.mem_singleton.mp hw]
      exact .step (R.pr z hz) hzy hyl
  · rw [List.length_append, List.length_singleton]
    rcases R.go with h | h | ⟨h1, _⟩
    · exact .inl (by omega)
    · exact absurd (h z y hz hzy hyl) hy
    · exact .inl (by omega)
theorem RndIn.over (R : RndIn T lot x k T s) (hx : x ∈ lot) : Rnd T lot x (k + 1) s where
  nd := R.nd
  at_ := R.at_
  pr := R.pr
  go := by
    rcases R.go with h | h | ⟨_, h⟩
    · exact .inl h
    · exact .inr h
    · refine .inr fun i j hi hij hj => ?_
      have hil : i ∈ lot := (R.pr i hi).inside hx
      rcases hij with q | q
      · exact (h _ q hil hj).mp hi
      · exact (h _ q hj hil).mpr hi
/-- behind as many rounds as there are left: the whole part -/
theorem Rnd.whole {left : List Nat} (R : Rnd T lot x left.length s) (C : ClosedIn T lot left) (hx : x ∈ left) (q : Nat) : q ∈ s ↔ Conn T (· ∈ lot) x q := by
  have cl : ∀ i j, i ∈ s → Adj T i j → j ∈ lot → j ∈ s := by
    rcases R.go with h | h
    · have := nodup_sub_len R.nd (m := left) fun y hy => ((closed_conn C hx).mp (R.pr y hy)).inside hx
      omega
    · exact h
  refine ⟨R.pr q, fun h => ?_⟩
  exact h.closed (F := (· ∈ s)) R.at_ fun i j hi hij hj => cl i j hi hij hj
end
end Hv
end
section
set_option Elab.async false
set_option linter.all false
set_option maxRecDepth 100000
set_option maxHeartbeats 4000000
/-! Rules that the hand layer lacks, 1: sorted of tuples of ints, any length, of a list and of a dict; a display with one tuple key. -/
namespace Hv
open PySem PySem.Spec PyProof.Rows L2

/-! ### tuples of ints as data -/
def tupD (b : List Int) : PyData := .tuple (b.map .int)
theorem le_dec (p q : List Int) : (!decide (q < p)) = decide (p ≤ q) := by
  by_cases h : q < p
  · have h' : ¬ p ≤ q := fun r => List.not_lt.mpr r h
    simp [h, h']
  · have h' : p ≤ q := List.not_lt.mp h
    simp [h, h']
theorem dataLt_tup (xs ys : List PyData) : PySem.W.dataLt (.tuple xs) (.tuple ys) = PySem.W.rowLt xs ys := by
  unfold PySem.W.dataLt PySem.W.rowLt
  simp only [PySem.W.keyToks]
theorem dataLe_tup : PySem.W.dataLe false tupD = fun p q => decide (p ≤ q) := by
  funext p q
  show (!PySem.W.dataLt (.tuple (q.map .int)) (.tuple (p.map .int))) = _
  rw [dataLt_tup, PySem.W.dataLt_ints, le_dec]
/-- the tuples at ps hold the ints bs -/
abbrev ITup (H : Hp) : List Addr → List (List Int) → Prop := Paired fun p b => H p = some (.tup (b.map V.int))
theorem dpAll_ints {K : PySem.W.Frag} {H : Hp} : ∀ b : List Int, DpAll K H (b.map V.int) (b.map PyData.int)
  | [] => .nil
  | x :: b => .cons (.int x) (dpAll_ints b)
theorem refs_each {H : Hp} {R : Value → List Int → Prop} (hR : ∀ p b, H p = some (.tup (b.map V.int)) → R (.ref p) b) : ∀ {ps : List Addr} {bs : List (List Int)}, ITup H ps bs → PySem.W.EachIs R (ps.map Value.ref) bs
  | _, _, .nil => .nil
  | _, _, .cons h t => .cons (hR _ _ h) (refs_each hR t)
theorem each_refs {H : Hp} : ∀ {out : List Value} {bs : List (List Int)}, PySem.W.EachIs (fun v b => ∃ p, v = Value.ref p ∧ H p = some (.tup (b.map V.int))) out bs → ∃ ps : List Addr, out = ps.map Value.ref ∧ ITup H ps bs
  | _, _, .nil => ⟨[], rfl, .nil⟩
  | _, _, .cons h t => by
    obtain ⟨p, rfl, hp⟩ := h
    obtain ⟨ps, rfl, e⟩ := each_refs t
    exact ⟨p :: ps, rfl, .cons hp e⟩
theorem vals_of_addrs : ∀ ps : List Addr, Vals (ps.map V.ref) (ps.map Value.ref)
  | [] => .nil
  | _ :: ps => .cons rfl (vals_of_addrs ps)
theorem depth_tupD (b : List Int) : (tupD b).depth ≤ 1 := by
  show (PyData.tuple (b.map .int)).depth ≤ 1
  simp only [PyData.depth]
  rw [PySem.W.depth_ints]
  exact Nat.le_refl _
theorem alike_tupD (b c : List Int) : PySem.W.alike (tupD b) (tupD c) = true := by
  show PySem.W.alike (.tuple (b.map .int)) (.tuple (c.map .int)) = true
  simp only [PySem.W.alike]
  exact PySem.W.alike_ints _ _
theorem sortable_tupD {bs : List (List Int)} (h : ∀ b ∈ bs, b ≠ []) : PySem.W.Sortable (bs.map tupD) := .inl fun d hd => by
  obtain ⟨b, hb, rfl⟩ := List.mem_map.mp hd
  cases b with
  | nil => exact absurd rfl (h _ hb)
  | cons x r => exact ⟨.int x, r.map .int, rfl⟩
abbrev leB (p q : List Int) : Bool := decide (p ≤ q)

/-- sorted(xs), xs a list of tuples of ints -/
def rSortTI (K : PySem.W.Frag) : List V → Hp → VK → Prop := fun vs H Q => ∃ (a : Addr) (ps : List Addr) (bs : List (List Int)), vs = [V.ref a] ∧ SqL K H a (ps.map V.ref) ∧ ITup H ps bs ∧ (∀ b ∈ bs, b ≠ []) ∧
  ∀ ps' p, ITup H ps' (bs.mergeSort leB) → H p = none → Q (.ref p) (upd H p (.lst (ps'.map V.ref)))
/-- sorted(d), d a dict whose keys are tuples of ints -/
def rSortDT : List V → Hp → VK → Prop := fun vs H Q => ∃ (a : Addr) (kvs : List (List Int × V)), vs = [V.ref a] ∧ Rd H a (.dT (kvs.map fun kv => (kv.1.map Sum.inl, kv.2))) ∧ (∀ kv ∈ kvs, kv.1 ≠ []) ∧
  ∀ ps' p, ITup H ps' ((kvs.map (·.1)).mergeSort leB) → H p = none → Q (.ref p) (upd H p (.lst (ps'.map V.ref)))
theorem kV_ints (b : List Int) : (b.map (Sum.inl : Int → Key)).map kV = b.map V.int := by
  rw [List.map_map]; rfl
section
variable {X : Cx}
theorem reads_tup {pins : List (Addr × Obj)} {σ : L2.St} {H : Hp} {s : Shared} (I : L2.Inv X pins σ H s) {p : Addr} {b : List Int} (h : H p = some (.tup (b.map V.int))) : ∃ as, Reads s.heap (.ref p) (tupD b) as :=
  Dp.reads I (tupD b) (.ref p) (.ref p) (.tup (SqT.of h) (dpAll_ints b)) rfl
theorem cr_sortTI (hu : X.A.units + 64 < cLine) : CallR X (.builtin "sorted") (rSortTI X.K) := by
  intro pins s σ H vs us Q I r h
  obtain ⟨a, ps, bs, rfl, hs, ht, hne, q⟩ := h
  obtain ⟨u, rfl, ru⟩ := vals1 r
  cases ru
  obtain ⟨its, rv, pl, hz⟩ := I.list hs
  have ei : its = ps.map Value.ref := refs_at rv
  subst ei
  have hlen : bs.length = ps.length := (Paired.length ht).symm
  have e : PySem.W.EachIs (fun v b => ∃ p, v = Value.ref p ∧ H p = some (.tup (b.map V.int))) (ps.map Value.ref) bs := refs_each (fun p b h => ⟨p, rfl, h⟩) ht
  have er : PySem.W.EachIs (fun v b => ∃ as, Reads s.heap v (tupD b) as) (ps.map Value.ref) bs := refs_each (fun p b h => reads_tup I h) ht
  have hz' : bs.length ≤ sizeLine := by rw [hlen]; rw [List.length_map] at hz; exact hz
  refine PySem.W.sorted_data (enc := tupD) pl.isList e er (PySem.W.AllAlike.of alike_tupD) (sortable_tupD hne) hz' (fun b _ => ?_) fun out ho eo => ?_
  · have := depth_tupD b
    omega
  · rw [dataLe_tup] at eo
    obtain ⟨ps', rfl, e'⟩ := each_refs eo
    obtain ⟨c, hc⟩ := sortedAll_at s.heap (ps.map Value.ref) (ps'.map Value.ref).toArray
    have hl : (ps'.map V.ref).length ≤ sizeLine := by
      rw [List.length_map] at ho ⊢
      rw [ho]; exact hz'
    refine ⟨.ref (s.heap.objs.size + 1), upd H (s.heap.objs.size + 1) (.lst (ps'.map V.ref)), I.laid (t' := s.toks) (fun b o e => sortedAll_old e) (Nat.le_succ _) ⟨hl, ps'.map Value.ref, c, vals_of_addrs ps', hc⟩, rfl, q _ _ e' (I.hok.fresh (Nat.le_succ _))⟩
theorem cr_sortDT (hcalm : X.calm = true) (hu : X.A.units + 64 < cLine) : CallR X (.builtin "sorted") rSortDT := by
  intro pins s σ H vs us Q I r h
  obtain ⟨a, kvs, rfl, hd, hne, q⟩ := h
  obtain ⟨u, rfl, ru⟩ := vals1 r
  cases ru
  obtain ⟨z, hs, ks, pr, o, es, ep, ho, hx, hdt, he, hn⟩ := (show ObjOk X.prog X.w H s.heap a (.dT _) from hd.ok I.hok)
  have l1 : es.size = ks.length := size_of_entries he
  have l2 : (kvs.map fun kv => (kv.1.map (Sum.inl : Int → Key), kv.2)).length = ks.length := Paired.length pr
  rw [List.length_map] at l2 z
  refine Calls.call_function_entry PyProof.Rows.kind_sorted PyProof.Rows.plain_sorted PyProof.Rows.entry_sorted (PyProof.Rows.args_sorted1 _) ?_
  unfold Builtin.«sorted»
  refine wpAny_bind (m := checkCount "sorted" 1 1 _) (wpAny_pure ?_)
  refine wpAny_bind (PySem.W.kdu_collect (A := X.A.in1) (kdl_raw hs hx hdt) (I.ok.hd hcalm) ho (by omega) fun h' tk acc hk it => ?_)
  have ea : acc.toList = (ks.map fun x => x.2.1).map Value.ref := by
    have hl : acc.toList.length = ks.length := by rw [Array.length_toList, it.1]; exact l1
    apply List.ext_getElem?
    intro j
    rw [List.getElem?_map, List.getElem?_map]
    cases hj : acc.toList[j]? with
    | none =>
      have h1 := List.getElem?_eq_none_iff.mp hj
      rw [List.getElem?_eq_none (by omega)]
      all_goals rfl
    | some v =>
      obtain ⟨en, hen, hv⟩ := it.2 j v (by rw [← Array.getElem?_toList]; exact hj)
      have qe := entry_at he j
      rw [hen] at qe
      cases hb : ks[j]? with
      | none =>
        rw [hb] at qe
        exact nomatch (show some en = none from qe)
      | some b =>
        rw [hb] at qe
        have e2 : en = entryOfKey (tupleKind (mixKind X.prog X.w)) b := Option.some.inj (show some en = some _ from qe)
        rw [hv, e2]
        rfl
  have ht : ITup H (ks.map fun x => x.2.1) (kvs.map (·.1)) := by
    have key : ∀ (kvs : List (List Int × V)) (ks : List (List Key × Addr × Value)), KT H (kvs.map fun kv => (kv.1.map (Sum.inl : Int → Key), kv.2)) ks → ITup H (ks.map fun x => x.2.1) (kvs.map (·.1)) := by
      intro kvs
      induction kvs with
      | nil => intro ks h; cases h; exact .nil
      | cons kv kvs ih =>
        intro ks h
        cases h with
        | cons a b => exact .cons (by rw [← kV_ints]; exact a.2.1) (ih _ b)
    exact key _ _ pr
  have I1 : L2.Inv X pins σ H { s with heap := h', toks := tk } := I.kept hk
  rw [ea]
  refine wpAny_bind (wpAny_newList ?_ (by rw [List.length_map, List.length_map]; omega))
  generalize hps : (ks.map fun x => x.2.1) = ps at ht ⊢
  have hlp : ps.length = kvs.length := by rw [← hps, List.length_map]; exact l2.symm
  have hoL : (h'.push (seqObj "list" (ps.map Value.ref).toArray 0)).get? h'.objs.size = some (seqObj "list" (ps.map Value.ref).toArray 0) := Heap.get?_push_size _ rfl
  show wpAny _ _ _ _ _ { s with heap := h'.push (seqObj "list" (ps.map Value.ref).toArray 0), toks := tk }
  have e : PySem.W.EachIs (fun v b => ∃ p, v = Value.ref p ∧ H p = some (.tup (b.map V.int))) (ps.map Value.ref) (kvs.map (·.1)) := refs_each (fun p b h => ⟨p, rfl, h⟩) ht
  have I2 : L2.Inv X pins σ H { s with heap := h'.push (seqObj "list" (ps.map Value.ref).toArray 0), toks := tk } := I1.kept fun b u e => Heap.get?_push_of_some _ e
  have hold : ∀ b u, h'.get? b = some u → (PySem.W.sortingHeap (h'.push (seqObj "list" (ps.map Value.ref).toArray 0)) h'.objs.size (ps.map Value.ref)).get? b = some u := fun b u e => PySem.W.sortingHeap_old (Nat.ne_of_lt (Heap.lt_size e)) (Heap.get?_push_of_some _ e)
  have er : PySem.W.EachIs (fun v b => ∃ as, Reads (PySem.W.sortingHeap (h'.push (seqObj "list" (ps.map Value.ref).toArray 0)) h'.objs.size (ps.map Value.ref)) v (tupD b) as) (ps.map Value.ref) (kvs.map (·.1)) := refs_each (fun p b h => by
    obtain ⟨as, r⟩ := reads_tup (s := { s with heap := h', toks := tk }) I1 h
    exact ⟨as, PyProof.Rows.Reads.keeps hold r⟩) ht
  have hal : PySem.W.AllAlike ((kvs.map (·.1)).map tupD) := PySem.W.AllAlike.of alike_tupD
  have hsk : PySem.W.Sortable ((kvs.map (·.1)).map tupD) := sortable_tupD fun b hb => by
    obtain ⟨kv, hk, rfl⟩ := List.mem_map.mp hb
    exact hne kv hk
  have hL : (ps.map Value.ref).length ≤ sizeLine := by rw [List.length_map, hlp]; exact z
  refine wpAny_bind (wpAny_holding (wpAny_call_entry PyProof.Rows.slot_list_sort ⟨_, hoL, rfl⟩ PyProof.Rows.entry_list_sort
    (PySem.W.list_sort_vals (s := { s with heap := h'.push (seqObj "list" (ps.map Value.ref).toArray 0), toks := tk }) (κ := PySem.W.dataKind (PySem.W.sortingHeap (h'.push (seqObj "list" (ps.map Value.ref).toArray 0)) h'.objs.size (ps.map Value.ref)) ((kvs.map (·.1)).map tupD)) hoL
      (PySem.W.SortsAt.data (s := { s with heap := PySem.W.sortingHeap (h'.push (seqObj "list" (ps.map Value.ref).toArray 0)) h'.objs.size (ps.map Value.ref), toks := tk }) (PySem.W.each_map (R := fun v d => ∃ as, Reads (PySem.W.sortingHeap (h'.push (seqObj "list" (ps.map Value.ref).toArray 0)) h'.objs.size (ps.map Value.ref)) v d as) tupD er) hal hsk (PySem.W.bound_map fun b _ => by
        have := depth_tupD b
        show X.A.in1.in1.units + _ < _
        have : X.A.in1.in1.units = X.A.units + 2 := rfl
        omega)) hL ⟨_, rfl, ?_⟩) (PyProof.Rows.args_list_sort _)))
  have eo := PySem.W.sortVals_data false e er hal
  rw [dataLe_tup] at eo
  obtain ⟨ps', hps', e'⟩ := each_refs eo
  rw [hps']
  obtain ⟨c, hc⟩ := sortedHeap_at (vs := ps.map Value.ref) (out := (ps'.map Value.ref).toArray) hoL
  have hl : (ps'.map V.ref).length ≤ sizeLine := by
    rw [List.length_map, Paired.length e', (List.mergeSort_perm _ _).length_eq, List.length_map]
    exact z
  refine wpAny_pure ⟨_, rfl, .ref h'.objs.size, upd H h'.objs.size (.lst (ps'.map V.ref)), I1.laid (t' := tk) (fun b u e => ?_) (Nat.le_refl _) (show ObjOk X.prog X.w _ _ _ (.lst (ps'.map V.ref)) from ⟨hl, ps'.map Value.ref, c, vals_of_addrs ps', hc⟩), rfl, q _ _ e' (I1.hok.fresh (Nat.le_refl _))⟩
  have hb : b < h'.objs.size := Heap.lt_size e
  rw [sortedHeap_old (Nat.ne_of_lt hb) (by rw [size_push']; exact Nat.lt_succ_of_lt hb)]
  exact Heap.get?_push_of_some _ e
end
end Hv
end
section
set_option Elab.async false
set_option linter.all false
set_option maxRecDepth 100000
set_option maxHeartbeats 4000000
/-! Rules that the hand layer lacks, 2: a display with one tuple key; enumerate of a tuple. -/
namespace Hv
open PySem PySem.Spec PyProof.Rows L2

/-! ### {t: v}, t a tuple -/
def tDispT (tk tv : TE) : TE := fun σ H Q => ∀ p, H p = none → tk σ (upd H p (.dT [])) fun x H1 => tv σ H1 fun y H2 => H2 p = some (.dT []) ∧ ∃ b ks, x = .ref b ∧ H2 b = some (.tup (ks.map kV)) ∧ Q (.ref p) (upd H2 p (.dT [(ks, y)]))
def dispQ (p : Addr) (Q : VK) : List (V × V) → Hp → Prop := fun ps H2 => match ps with
  | [(x, y)] => H2 p = some (.dT []) ∧ ∃ b ks, x = .ref b ∧ H2 b = some (.tup (ks.map kV)) ∧ Q (.ref p) (upd H2 p (.dT [(ks, y)]))
  | _ => False
def dispP (tk tv : TE) (p : Addr) (σ : L2.St) (H : Hp) (Q : VK) : Prop := tPairs [(tk, tv)] σ H (dispQ p Q)
theorem pe_dispT {X : Cx} {k v : Expr} {pos : Pos} {tk tv : TE} (hu : X.A.units + 1 < cLine) (hk : PE X k tk) (hv : PE X v tv) : PE X (.Dict [some k] [v] pos) (tDispT tk tv) := by
  refine ⟨fun pins s σ H Q I q => ?_⟩
  have hn := I.hok.fresh (Nat.le_refl s.heap.objs.size)
  have I1 := I.laid (a := s.heap.objs.size) (o := .dT []) (t' := s.toks) (fun _ _ q => Heap.get?_push_of_some _ q) (Nat.le_refl _) (dt_empty s.heap I.big)
  have hpp : PPs X pos [some k] [v] [(tk, tv)] := pps_cons hk hv pps_nil
  rw [arm_eval_Dict, zip_pairTrees [some k] [v] X.env pos rfl rfl, dictDisplay_pairs _ (fun z => by cases z) (by show 1 < 17; decide)]
  refine wpAny_bind (wpAny_standAt (wpAny_bind (wpAny_subDictH (knd := tupleKind (mixKind X.prog X.w)) (Q := fun d s' => wpAny (model X.prog X.w) X.A (pure (Value.ref d)) (EP X pins σ Q) X.xe s') (show X.A.units < cLine by omega) (by show 1 ≤ 15; decide)
    (thn (hpp.run pins _ σ _ (dispQ s.heap.objs.size Q) I1 (show dispP tk tv s.heap.objs.size σ _ Q from q _ hn)) fun ws s2 hh => ?_))))
  obtain ⟨ps, H2, I2, rel, hq⟩ := hh
  obtain ⟨x, y, rfl, e, b, ks, ex, hb, q2⟩ : ∃ x y, ps = [(x, y)] ∧ H2 s.heap.objs.size = some (.dT []) ∧ ∃ b ks, x = .ref b ∧ H2 b = some (.tup (ks.map kV)) ∧ Q (.ref s.heap.objs.size) (upd H2 s.heap.objs.size (.dT [(ks, y)])) := by
    match ps, hq with
    | [(x, y)], hq => exact ⟨x, y, rfl, hq⟩
  cases rel with
  | cons r1 r2 =>
    cases r2
    rename_i w1
    obtain ⟨ra, rb⟩ := r1
    obtain ⟨w11, w12⟩ := w1
    simp only at ra rb ex
    subst ex
    cases (show w11 = Value.ref b from ra)
    obtain ⟨z, hd, xs, rel, dd⟩ := dt_of I2.hok e
    cases rel
    refine ⟨[(ks, b, w12)], ⟨rfl, rfl, key_of I2.hok hb, trivial⟩, dd, fun h' tk dd' hs => wpAny_pure ⟨.ref s.heap.objs.size, _, ?_, rfl, q2⟩⟩
    obtain ⟨o, es, ep, ho, h2, h3, h4, _, h5⟩ := dd'
    refine d_write I2 (by rw [e]; exact True.intro) hs ⟨o, ho⟩ ⟨?_, hd, [(ks, b, w12)], .cons (l₂ := []) ⟨rfl, ?_, rb⟩ .nil, o, es, ep, ho, h2, h3, ?_, ?_⟩
    · show 1 ≤ sizeLine
      decide
    · rw [upd_ne (ne_of hb e (fun z => nomatch z))]
      exact hb
    · exact h4
    · exact h5

/-! ### enumerate(t), t a tuple -/
theorem meets_enumerate_newT (l : Addr) (items : Array Value) (n : Nat) (dct : Option Addr) (sl : Array (Option Value)) :
    Meets (Builtin.«enumerate.__new__» ⟨[.type "enumerate", .ref l], []⟩) (fun _ R s => s.heap.get? l = some { cls := .type "tuple", dict := dct, data := .seq items n, slots := sl } ∧
      R (.ok (.ret (.ref (s.heap.push { cls := .type "tuple_iterator", data := .fields #[.ref l, .int 0 0] }).objs.size)))
        { s with heap := (s.heap.push { cls := .type "tuple_iterator", data := .fields #[.ref l, .int 0 0] }).push { cls := .type "enumerate", data := .fields #[.none, .bool false, .ref s.heap.objs.size, rawInt 0, .none, .none] } }) :=
  .of_wp fun prog w A R s h => by
    obtain ⟨hp, g, d, tk, os⟩ := s
    obtain ⟨hl, h⟩ := h
    have hsub := sub_enumerate
    have hT : Heap.IsTuple (Shared.heap ⟨hp, g, d, tk, os⟩) l items := ⟨_, hl, rfl, n, rfl⟩
    wp_walk using AutoSeq1.wpAny_loadPart' hl
    refine wpAny_stack_any fun st => wpAny_pure ?_
    split
    · rename_i c _ _ _ _ _
      cases (c == Value.type "enumerate") <;> (wp_walk using AutoSeq1.wpAny_loadPart' hl, wpAny_pyIter_tuple hT) <;> exact ⟨_, rfl, h⟩
    · wp_walk using AutoSeq1.wpAny_loadPart' hl, wpAny_pyIter_tuple hT
      exact ⟨_, rfl, h⟩
theorem call_enumerate_tuple {prog : Program} {w : World} {A : Around} {E : Value → Shared → Prop} {s : Shared} {l : Addr} {items : Array Value} {Q : Value → Shared → Prop} (hL : s.heap.IsTuple l items)
    (h : ∀ h', IsEnum h' (s.heap.objs.size + 1) s.heap.objs.size 0 .none → h'.IsTupleIter s.heap.objs.size l 0 → (∀ b o, s.heap.get? b = some o → h'.get? b = some o) → Q (.ref (s.heap.objs.size + 1)) { s with heap := h' }) :
    wpAny (model prog w) A (call (.type "enumerate") [.ref l]) Q E s := by
  obtain ⟨⟨c, dct, dt, sl⟩, hl, hc, n, hd⟩ := hL
  simp only at hc hd
  subst hc hd
  refine callType_new F.called_enumerate (by decide) (F.typeCall_enumerate_1 _) (F.newCall_enumerate_1 _) (fun obj => F.args_object_init_2 obj _) F.entry_enumerate_new (meets_enumerate_newT l items n dct sl) ⟨hl, ?_⟩
  let oi : Obj := { cls := .type "tuple_iterator", data := .fields #[.ref l, .int 0 0] }
  have hz : (s.heap.push oi).objs.size = s.heap.objs.size + 1 := Heap.size_push ..
  show _ ∧ _
  rw [hz]
  have he : ((s.heap.push oi).push { cls := .type "enumerate", data := .fields #[.none, .bool false, .ref s.heap.objs.size, rawInt 0, .none, .none] }).get? (s.heap.objs.size + 1) = some { cls := .type "enumerate", data := .fields #[.none, .bool false, .ref s.heap.objs.size, rawInt 0, .none, .none] } := by
    rw [← hz]
    exact Heap.get?_push_size _ rfl
  have old : ∀ b o, s.heap.get? b = some o → ((s.heap.push oi).push { cls := .type "enumerate", data := .fields #[.none, .bool false, .ref s.heap.objs.size, rawInt 0, .none, .none] }).get? b = some o := fun b o x => Heap.get?_push_of_some _ (Heap.get?_push_of_some _ x)
  exact ⟨⟨_, he, rfl⟩, h _ he ⟨oi, Heap.get?_push_of_some _ (Heap.get?_push_size _ rfl), rfl, rfl⟩ old⟩
/-- the tuple at a, each item in a new pair -/
def IteT (K : PySem.W.Frag) (a : Addr) : It :=
  ⟨fun i H => ∃ (xs : List V) (x : V), SqT K H a xs ∧ xs[i]? = some x, fun i H v H' => ∃ T x, v = .ref T ∧ H T = none ∧ H' = upd H T (.tup [.int (i : Nat), x]) ∧ ∀ xs, SqT K H a xs → xs[i]? = some x, fun i H => ∃ xs : List V, SqT K H a xs ∧ xs.length = i⟩
theorem turn_enumT {P : Program} {w : World} {K : PySem.W.Frag} {elts : List Expr} {kk : Nat} {tpos : Pos} (a e it : Addr) (hie : e ≠ it) (hae : a ≠ e) (hai : a ≠ it) :
    Turn P w K (.Tuple elts kk tpos) (IteT K a) [e, it] e (fun i h => (∃ old, IsEnum h e it ((i : Nat) : Int) old) ∧ h.IsTupleIter it a i) where
  mem := by simp
  obj := fun i h st b hb => by
    obtain ⟨⟨old, he⟩, o, ho, hc, hd⟩ := st
    rcases (by simpa using hb : b = e ∨ b = it) with z | z
    · rw [z]; exact ⟨_, he, fun v q => nomatch q⟩
    · rw [z]; exact ⟨o, ho, fun v q => by rw [hd] at q; cases q⟩
  keep := fun i h h' st k => let ⟨⟨old, he⟩, hi⟩ := st; ⟨⟨old, k e (by simp) _ he⟩, hi.at fun o q => k it (by simp) o q⟩
  item := by
    intro X hP hw hK hc i pins s σ H E I hf st hg
    subst hP hw hK
    obtain ⟨⟨old, he⟩, hit⟩ := st
    obtain ⟨xs, x, hq, hx⟩ := hg
    obtain ⟨its, rv, p, hz⟩ := I.tuple hq
    obtain ⟨u, hu, ru⟩ := rv.get hx
    have hilt : i < its.toArray.size := by rw [List.size_toArray]; exact (List.getElem?_eq_some_iff.mp hu).1
    have hel : e < s.heap.objs.size := Heap.lt_size he
    have hil : it < s.heap.objs.size := by obtain ⟨_, q, _⟩ := hit; exact Heap.lt_size q
    refine wpAny_pyNext_enum_itemD (Draws.tuple (prog := X.prog) (w := X.w) (A := X.A.in1) (I.ok.hd hc) it a hai its.toArray) he ⟨hit, p⟩ hilt hie (by simp [hie, hae.symm]) fun y h' tk hy ho hst hT hsz hk => ?_
    have ey : y = u := by
      have : its[i]? = some y := by simpa using hy
      rw [hu] at this
      exact (Option.some.inj this).symm
    subst ey
    refine ⟨_, rfl, wpAny_letOwnedTupleGo_enum (s := { s with heap := h', toks := tk + 1 }) ho fun h'' he' sb => ?_⟩
    have hT2 : h''.get? s.heap.objs.size = some { cls := .type "tuple", data := .seq #[.int i tk, y] } := (sb.2 _ (Nat.ne_of_gt hel)).trans hT
    have new : ObjOk X.prog X.w (upd H s.heap.objs.size (.tup [.int (i : Nat), x])) h'' s.heap.objs.size (.tup [.int (i : Nat), x]) :=
      ⟨by show 2 ≤ sizeLine; decide, [.int i tk, y], .cons ⟨_, rfl⟩ (.cons ru .nil), ⟨_, hT2, rfl, _, rfl⟩⟩
    have I1 : L2.Inv X pins σ (upd H s.heap.objs.size (.tup [.int (i : Nat), x])) { s with heap := h'', toks := tk + 1 } :=
      I.turnedNew (ch := [e, it]) (fun b ob hb q => (sb.2 b (fun z => hb (by simp [z]))).trans (hk b ob (fun z => hb (by simp [z])) (fun z => hb (by simp [z])) q)) hf (Nat.le_refl _) new
    refine ⟨.ref s.heap.objs.size, _, I1, rfl, ⟨_, x, rfl, I.hok.fresh (Nat.le_refl _), rfl, fun ys hy => by rw [I.tuple_inj hy hq]; exact hx⟩, ⟨⟨y, ?_⟩, hst.1.at fun o q => (sb.2 it (Ne.symm hie)).trans q⟩, fun b hb => ?_⟩
    · rw [show ((i + 1 : Nat) : Int) = (i : Int) + 1 by omega]
      exact he'
    · have hb' : b < s.heap.objs.size := by
        rcases (by simpa using hb : b = e ∨ b = it) with z | z
        · rw [z]; exact hel
        · rw [z]; exact hil
      rw [upd_ne (Nat.ne_of_lt hb')]
      exact (hf b hb).1
  done := by
    intro X hP hw hK hc i pins s σ H E I hf st hg
    subst hP hw hK
    obtain ⟨⟨old, he⟩, hit⟩ := st
    obtain ⟨xs, hq, hx⟩ := hg
    obtain ⟨its, rv, p, hz⟩ := I.tuple hq
    obtain ⟨f0, f1, f2, f3, f4, f5⟩ := hf it (by simp)
    have hl := rv.length
    have hn : i = its.toArray.size := by rw [List.size_toArray]; omega
    subst hn
    exact wpAny_pyNext_enum_endD (Draws.tuple (prog := X.prog) (w := X.w) (A := X.A.in1) (I.ok.hd hc) it a hai its.toArray) he ⟨hit, p⟩ fun h' eb => ⟨rfl, I.turned (t' := s.toks) (fun b o hb q => eb b o hb q) f0 f1 f3 f4 f5⟩
  self := fun A i s Q E st h => let ⟨⟨_, he⟩, _⟩ := st; wpAny_pyIter_enum he h
def iEnumT (K : PySem.W.Frag) (ta : TA) : TI := fun σ H R => ta σ H fun vs H1 => ∃ a xs, vs = [.ref a] ∧ SqT K H1 a xs ∧ R (IteT K a) H1
theorem pi_enumT {X : Cx} {e : Expr} {ta : TA} {p pos tpos : Pos} {elts : List Expr} {kk : Nat} (hg : Gl X "enumerate") (hm : X.mg "enumerate" = none) (ha : PA X [e] ta) (hs : starEach [e] X.env = [(false, eval e X.env)] := by rfl) :
    PI X (.Tuple elts kk tpos) (.Call (.Name "enumerate" p) [e] [] pos) (iEnumT X.K ta) := by
  refine ⟨fun pins s σ H R I h => ?_⟩
  refine Call_ (ld_blt I hg hm boot_enumerate (PyProof.Rows.callWith_type1 (thn (ha.run pos pins s σ H _ I h) fun us s1 hh => ?_) hs rfl))
  obtain ⟨vs, H1, I1, r1, a, xs, ex, hq, q⟩ := hh
  subst ex
  obtain ⟨u, rfl, ru⟩ := vals1 r1
  cases ru
  obtain ⟨its, rv, p', hz⟩ := I1.tuple hq
  refine call_enumerate_tuple p' fun h' he hit hk => wpAny_pyIter_enum he ?_
  have I2 : L2.Inv X pins σ H1 { s1 with heap := h' } := I1.kept (t' := s1.toks) hk
  have hal : a < s1.heap.objs.size := by obtain ⟨_, q, _⟩ := p'; exact Heap.lt_size q
  refine ⟨s1.heap.objs.size + 1, [s1.heap.objs.size + 1, s1.heap.objs.size], _, _, H1, rfl, I2, turn_enumT a (s1.heap.objs.size + 1) s1.heap.objs.size (Nat.succ_ne_self _) (Nat.ne_of_lt (Nat.lt_succ_of_lt hal)) (Nat.ne_of_lt hal), ⟨⟨.none, he⟩, hit⟩, fun b hb => ?_, q⟩
  have hle : s1.heap.objs.size ≤ b := by
    rcases (by simpa using hb : b = s1.heap.objs.size + 1 ∨ b = s1.heap.objs.size) with z | z
    · rw [z]; exact Nat.le_succ _
    · rw [z]; exact Nat.le_refl _
  exact I1.fpOk hle (I1.hok.fresh hle)
/-- the loop over it -/
theorem for_enumT {K : PySem.W.Frag} {a : Addr} {xs : List V} {g : TG} {tb : TS} {D : Ends} {σ : L2.St} {H : Hp} (Pv : Nat → L2.St → Hp → Prop) (h0 : Pv 0 σ H) (hl : ∀ i σ H, i ≤ xs.length → Pv i σ H → SqT K H a xs)
    (hs : ∀ i x T σ H, xs[i]? = some x → Pv i σ H → H T = none → g (.ref T) σ (upd H T (.tup [.int (i : Nat), x])) fun σ2 H2 => tb { D with nx := Pv (i + 1), ct := Pv (i + 1), bk := D.nx } σ2 H2) (hd : ∀ σ H, Pv xs.length σ H → D.nx σ H) :
    ∃ W : Nat → Nat → L2.St → Hp → Prop, (∃ m, W 0 m σ H) ∧ ∀ i m σ H, W i m σ H → ((IteT K a).stop i H ∧ D.nx σ H) ∨ ((IteT K a).go i H ∧ ∃ N : L2.St → Hp → Prop, (∀ σ' H', N σ' H' → ∃ m', m' < m ∧ W (i + 1) m' σ' H') ∧ ∀ x H', (IteT K a).yld i H x H' → g x σ H' fun σ2 H2 => tb { D with nx := N, ct := N, bk := D.nx } σ2 H2) := by
  refine ⟨fun i m σ H => i + m = xs.length ∧ Pv i σ H, ⟨xs.length, by omega, h0⟩, fun i m σ H hW => ?_⟩
  obtain ⟨em, hP⟩ := hW
  by_cases hi : i < xs.length
  · refine .inr ⟨⟨xs, xs[i], hl i σ H (by omega) hP, List.getElem?_eq_getElem hi⟩, Pv (i + 1), fun σ' H' h => ⟨m - 1, by omega, by omega, h⟩, fun v H' hy => ?_⟩
    obtain ⟨T, x, rfl, hT, rfl, hx⟩ := hy
    exact hs i x T σ H (hx xs (hl i σ H (by omega) hP)) hP hT
  · have e : i = xs.length := by omega
    subst e
    exact .inl ⟨⟨xs, hl _ σ H (Nat.le_refl _) hP, rfl⟩, hd σ H hP⟩
end Hv
end
section
set_option Elab.async false
set_option linter.all false
set_option maxRecDepth 100000
set_option maxHeartbeats 4000000
/-! Rules that the hand layer lacks, 3: set(x), x a tuple or a list of ints. -/
namespace Hv
open PySem PySem.Spec PyProof.Rows L2

section
variable {P : Program} {w : World} {A : Around} {E : Value → Shared → Prop} {s : Shared}
/-- the empty set that set(..) begins with -/
abbrev set0 (w : World) : Obj := { cls := .type "set", dict := none, data := .set #[] 0 (.fresh 0 0 (!w.params.followText "set-order")) }
/-- what set(xs) leaves -/
def SetDone (w : World) (s : Shared) (ns : List Int) (s₂ : Shared) : Prop :=
  ∃ h' tk c, s₂ = { s with heap := h', toks := tk } ∧ SetR w h' s.heap.objs.size (fun j => decide (j ∈ ns)) c ∧ c ≤ ns.length ∧ ∀ b o, s.heap.get? b = some o → h'.get? b = some o
theorem call_set_listI {l : Addr} {items : Array Value} (ns : List Int) {Q : Value → Shared → Prop} (hh : A.handled = none) (hl : s.heap.IsList l items) (hit : IntsAre items.toList ns) (hb : ns.length + 1 < scanBound)
    (h : ∀ s₂, SetDone w s ns s₂ → Q (.ref s.heap.objs.size) s₂) : wpAny (model P w) A (call (.type "set") [.ref l]) Q E s := by
  have hisz : items.size = ns.length := by
    have q := IntsAre.length hit
    rw [Array.length_toList] at q
    exact q
  have hval : ∀ (i : Nat) (v : Value), items[i]? = some v → ∃ k t, ns[i]? = some k ∧ v = .int k t := fun i v hv => by
    have hi : i < ns.length := by rw [← hisz]; exact (Array.getElem?_eq_some_iff.mp hv).1
    obtain ⟨t, e⟩ := PyProof.Rows.IntsAre.int_at hit i v (by rw [Array.getElem?_toList]; exact hv)
    refine ⟨ns[i], t, List.getElem?_eq_getElem hi, ?_⟩
    rw [e, List.getD_eq_getElem?_getD, List.getElem?_eq_getElem hi]
    rfl
  obtain ⟨ol, hol, hcl, nl, hdl⟩ := hl
  have hlS : l < s.heap.objs.size := Heap.lt_size hol
  have hT1 : (s.heap.push (set0 w)).get? s.heap.objs.size = some (set0 w) := Heap.get?_push_size _ rfl
  have hl1 : (s.heap.push (set0 w)).IsList l items := ⟨ol, Heap.get?_push_of_some _ hol, hcl, nl, hdl⟩
  obtain ⟨c, tl, hmro⟩ := F.called_set.mro
  have hmade := F.called_set.made
  have hsub := F.called_set.sub
  refine wpAny_call (codeAny_of_tree ?_)
  show wpAny _ _ (callAny (.type "set") _) _ _ _
  refine wpAny_pure ⟨Code.quiet_builtin _ (by decide +kernel), codeAny_builtin F.entry_type_call ?_⟩
  rw [Around.under_plain (weight_type_call_type "set" [.ref l] []) rfl]
  have h1 := F.called_set.notType
  have h2 := F.called_set.canCreate
  have hct := F.typeCall_set_1 (.ref l)
  repeat (any_goals (first | assumption | wp_step))
  refine codeAny_mono (code_set_led1 (.ref l) (E := E) (Q₁ := fun obj s₁ => obj = .ref s.heap.objs.size ∧ s₁ = { s with heap := s.heap.push (set0 w) }) ⟨rfl, rfl⟩) fun r s₁ hr => ?_
  match r, hr with
  | .error e, hr => exact hr
  | .ok .next, hr => exact hr.elim
  | .ok .brk, hr => exact hr.elim
  | .ok .cont, hr => exact hr.elim
  | .ok (.ret obj), hr =>
    obtain ⟨rfl, rfl⟩ := hr
    have hT : Shared.TypeIs { s with heap := s.heap.push (set0 w) } (.ref s.heap.objs.size) "set" := ⟨_, hT1, rfl⟩
    have hli := F.called_set.init.lookup
    have hbi := F.called_set.init.bind (.ref s.heap.objs.size)
    repeat (any_goals (first | assumption | wp_step))
    refine codeAny_mono (codeAny_call_builtin (R := wants (fun r s₂ => r = .none ∧ SetDone w s ns s₂) E) F.called_set.init.plain F.entry_set_init (check_set_init_1 hT ?_)) fun r₂ s₂ hr₂ => ?_
    · obtain ⟨ocls, odict, odata, oslots⟩ := ol
      simp only at hcl hdl
      subst hcl
      subst hdl
      have hol' : (s.heap.push (set0 w)).get? l = some { cls := .type "list", dict := odict, data := .seq items nl, slots := oslots } := Heap.get?_push_of_some _ hol
      have hsls := F.sub_list_set
      have hslf := F.sub_list_frozenset
      have hne : (Value.type "list" == Value.type "dict") = false := by decide
      unfold Builtin.«set.__init__» noKeywords Builtin.Frozenset.updateFrom
      generalize hPI : pyIter = PI
      wp_walk
      subst hPI
      refine wpAny_pyIter_list hl1 ?_
      refine wpAny_bind (wpAny_runValue ?_)
      have hsz : (s.heap.push (set0 w)).objs.size = s.heap.objs.size + 1 := Heap.size_push ..
      have hneI : l ≠ (s.heap.push (set0 w)).objs.size := by rw [hsz]; exact Nat.ne_of_lt (Nat.lt_succ_of_lt hlS)
      have hSf : s.heap.objs.size ∉ [(s.heap.push (set0 w)).objs.size, l] := by
        rw [hsz]
        intro q
        rcases (by simpa using q : s.heap.objs.size = s.heap.objs.size + 1 ∨ s.heap.objs.size = l) with q | q
        · exact absurd q (Nat.ne_of_lt (Nat.lt_succ_self _))
        · exact absurd q.symm (Nat.ne_of_lt hlS)
      refine set_update_ints ((Walks.list (A := A.in1.in1.in1) (by simp [hh]) _ l hneI items).toS) s.heap.objs.size hSf ns hisz hb hval (items.size - 0) 0 _ (by omega) (Nat.zero_le _) ⟨⟨_, Heap.get?_push_size _ rfl, rfl, rfl⟩, hl1.push _⟩ ⟨0, Nat.le_refl 0, setR_new_at (Heap.get?_push_of_some _ hT1)⟩ ?hR
      case hR =>
        intro s' c' hm hc' hS'
        obtain ⟨h', g2, d', tk', os'⟩ := s'
        cases (show g2 = s.gens from hm.gens)
        cases (show d' = s.drawn from hm.drawn)
        cases (show os' = s.os from hm.os)
        show wpAny _ _ _ _ _ _
        refine wpAny_pure ?_
        show wpAny _ _ (ret Value.none) _ _ _
        refine wpAny_pure ⟨rfl, h', tk', c', rfl, hS', by omega, fun b o e => ?_⟩
        have hb0 : b < s.heap.objs.size := Heap.lt_size e
        refine hm.heap b o (fun q => ?_) (Heap.get?_push_of_some _ (Heap.get?_push_of_some _ e))
        rcases (by simpa [hsz] using q : b = s.heap.objs.size ∨ b = s.heap.objs.size + 1) with q | q
        · exact absurd q (Nat.ne_of_lt hb0)
        · exact absurd q (Nat.ne_of_lt (Nat.lt_succ_of_lt hb0))
    · match r₂, hr₂ with
      | .error e, hr₂ => exact hr₂
      | .ok .next, hr₂ => exact hr₂.elim
      | .ok .brk, hr₂ => exact hr₂.elim
      | .ok .cont, hr₂ => exact hr₂.elim
      | .ok (.ret r), hr₂ =>
        obtain ⟨rfl, hd⟩ := hr₂
        have hd' := hd
        obtain ⟨h', tk, c, rfl, _⟩ := hd'
        repeat (any_goals (first | assumption | wp_step))
        exact h _ hd
end
/-- set(x), x a tuple or a list of ints -/
def rSetI (K : PySem.W.Frag) (w : World) : List V → Hp → VK → Prop := fun xs H Q => ∃ (p : Addr) (ns : List Int), xs = [.ref p] ∧ (SqT K H p (ns.map V.int) ∨ SqL K H p (ns.map V.int)) ∧ ns.length ≤ 1000 ∧
  ∀ q n, H q = none → n ≤ ns.length → Q (.ref q) (upd H q (SetO w q (fun j => decide (j ∈ ns)) n))
theorem cr_setI {X : Cx} (hc : X.calm = true) : CallR X (.type "set") (rSetI X.K X.w) := by
  intro pins s σ H xs us Q I r h
  obtain ⟨p, ns, rfl, hq, hn, q⟩ := h
  obtain ⟨u, rfl, ru⟩ := vals1 r
  cases ru
  have hb : ns.length + 1 < scanBound := by unfold scanBound; omega
  have fresh : H s.heap.objs.size = none := I.hok.fresh (Nat.le_refl _)
  rcases hq with hq | hq
  · obtain ⟨its, rv, pl, hz⟩ := I.tuple hq
    refine call_set_tupI (P := X.prog) (w := X.w) ns (I.ok.hd hc) pl (by simpa using Vals.ints rv) hb fun h' tk c R hcn k => ?_
    exact ⟨.ref s.heap.objs.size, _, I.laid (t' := tk) k (Nat.le_refl _) (setO_new R), rfl, q _ c fresh hcn⟩
  · obtain ⟨its, rv, pl, hz⟩ := I.list hq
    refine call_set_listI (P := X.prog) (w := X.w) ns (I.ok.hd hc) pl.isList (by simpa using Vals.ints rv) hb fun s2 hd => ?_
    obtain ⟨h', tk, c, rfl, R, hcn, k⟩ := hd
    exact ⟨.ref s.heap.objs.size, _, I.laid (t' := tk) k (Nat.le_refl _) (setO_new R), rfl, q _ c fresh hcn⟩
end Hv
end
section
set_option Elab.async false
set_option linter.all false
set_option maxRecDepth 100000
set_option maxHeartbeats 4000000
/-! Rules that the hand layer lacks, 4: sorted(xs, key=lambda x: (len(x), x)), xs a list of tuples of ints. -/
namespace Hv
open PySem PySem.Spec PyProof.Rows L2 LamX
def keyD (b : List Int) : PyData := .tuple [.int b.length, tupD b]
def keyLe (b c : List Int) : Bool := decide (b.length < c.length ∨ (b.length = c.length ∧ b ≤ c))
theorem eqv_ints : ∀ b c : List Int, PyData.eqvAll (b.map .int) (c.map .int) = decide (b = c)
  | [], [] => by simp [PyData.eqvAll]
  | [], _ :: _ => by simp [PyData.eqvAll]
  | _ :: _, [] => by simp [PyData.eqvAll]
  | x :: b, y :: c => by
    have ih := eqv_ints b c
    simp only [List.map_cons, PyData.eqvAll, PyData.eqv, ih]
    by_cases h : x = y <;> by_cases h2 : b = c <;> simp [h, h2]
theorem dataLe_key : PySem.W.dataLe false keyD = keyLe := by
  funext b c
  show (!PySem.W.dataLt (.tuple [.int c.length, tupD c]) (.tuple [.int b.length, tupD b])) = _
  rw [PySem.W.dataLt_pair (by simp [PySem.W.alike]) (alike_tupD c b)]
  have e1 : PyData.eqv (.int (c.length : Int)) (.int (b.length : Int)) = decide (c.length = b.length) := by
    simp only [PyData.eqv]
    by_cases h : c.length = b.length <;> simp [h] <;> omega
  have e2 : PyData.eqv (tupD c) (tupD b) = decide (c = b) := by
    unfold tupD
    simp only [PyData.eqv]
    exact eqv_ints c b
  have e3 : PySem.W.dataLt (.int (c.length : Int)) (.int (b.length : Int)) = decide (c.length < b.length) := by
    rw [PySem.W.dataLt_int]
    by_cases h : c.length < b.length <;> simp [h] <;> omega
  have e4 : PySem.W.dataLt (tupD c) (tupD b) = decide (c < b) := by
    unfold tupD
    rw [dataLt_tup, PySem.W.dataLt_ints]
  rw [e1, e2, e3, e4]
  unfold keyLe
  by_cases h : c.length = b.length
  · by_cases h2 : c = b
    · subst h2; simp
    · by_cases h3 : c < b
      · have : ¬ b ≤ c := fun r => List.not_lt.mpr r h3
        simp [h, h2, h3, this]
      · have : b ≤ c := List.not_lt.mp h3
        simp [h, h2, h3, this]
  · by_cases h3 : c.length < b.length
    · have h4 : ¬ b.length < c.length := by omega
      have h5 : ¬ b.length = c.length := by omega
      simp [h, h3, h4, h5]
    · have h4 : b.length < c.length := by omega
      simp [h, h3, h4]
theorem keyLe_total (a b : List Int) : (keyLe a b || keyLe b a) = true := by
  unfold keyLe
  simp only [Bool.or_eq_true, decide_eq_true_eq]
  rcases Nat.lt_trichotomy a.length b.length with h | h | h
  · exact .inl (.inl h)
  · rcases List.le_total a b with z | z
    · exact .inl (.inr ⟨h, z⟩)
    · exact .inr (.inr ⟨h.symm, z⟩)
  · exact .inr (.inl h)
theorem keyLe_trans (a b c : List Int) (h1 : keyLe a b = true) (h2 : keyLe b c = true) : keyLe a c = true := by
  unfold keyLe at *
  simp only [decide_eq_true_eq] at *
  rcases h1 with h1 | ⟨h1, h1'⟩ <;> rcases h2 with h2 | ⟨h2, h2'⟩
  · exact .inl (by omega)
  · exact .inl (by omega)
  · exact .inl (by omega)
  · exact .inr ⟨by omega, List.le_trans h1' h2'⟩
theorem keyLe_len {a b : List Int} (h : keyLe a b = true) : a.length ≤ b.length := by
  unfold keyLe at h
  simp only [decide_eq_true_eq] at h
  omega
theorem key_sorted (l : List (List Int)) : (l.mergeSort keyLe).Pairwise fun a b => a.length ≤ b.length := (List.pairwise_mergeSort keyLe_trans keyLe_total l).imp keyLe_len
theorem alike_keyD (b c : List Int) : PySem.W.alike (keyD b) (keyD c) = true := by
  have h := alike_tupD b c
  unfold keyD
  simp only [PySem.W.alike, PySem.W.alikeAll, h, Bool.and_self]
theorem depth_keyD (b : List Int) : (keyD b).depth ≤ 2 := by
  have h := depth_tupD b
  unfold keyD
  simp only [PyData.depth, PyData.depthAll]
  omega
theorem sortable_keyD (bs : List (List Int)) : PySem.W.Sortable (bs.map keyD) := .inl fun d hd => by
  obtain ⟨b, _, rfl⟩ := List.mem_map.mp hd
  exact ⟨.int _, [tupD b], rfl⟩
theorem readsAll_ints {h : Heap} : ∀ {b : List Int} {vs : List Value} {as : List Addr}, ReadsAll h vs (b.map .int) as → as = []
  | [], _, _, r => by cases r; rfl
  | x :: b, _, _, r => by
    cases r with
    | cons r1 r2 =>
      cases r1
      rw [readsAll_ints r2]; rfl
theorem reads_tup_nil {h : Heap} {p : Addr} {b : List Int} {as : List Addr} (r : Reads h (.ref p) (tupD b) as) : as = [] := by
  unfold tupD at r
  cases r with
  | tuple h1 h2 h3 h4 => exact readsAll_ints h4
/-- the lambda -/
abbrev lamPs (p : Pos) : Arguments := { posonlyargs := [], args := [{ arg := "lot", annotation := none, pos := p }], vararg := none, kwonlyargs := [], kw_defaults := [], kwarg := none, defaults := [] }
abbrev lamBody (p1 p2 p3 p4 p5 : Pos) : Expr := .Tuple [.Call (.Name "len" p1) [.Name "lot" p2] [] p3, .Name "lot" p4] 0 p5
abbrev lamSc (m : List (Str × Const)) : Scope := { kind := .function, names := [("lot", .local), ("len", .globalImplicit)], isGenerator := false, isCoroutine := false, more := m }
theorem lam_turn {X : Cx} {pins : List (Addr × Obj)} {σ : L2.St} {H : Hp} {s : Shared} {f c' p : Addr} {pm ctv : Value} {qual : Str} {pp p1 p2 p3 p4 p5 : Pos} {m : List (Str × Const)} {b : List Int} {A : Around} (I : Inv X pins σ H s) (hm : X.mg "len" = none) (hd : A.depth < recursionLimit)
    (hf : s.heap.get? f = some (PySem.W.kla_obj "<lambda>" qual (lamPs pp) (lamBody p1 p2 p3 p4 p5) (lamSc m) [] pm c' ctv)) (hc : H c' = some (CodeO c' qual)) (hp : H p = some (.tup (b.map V.int)))
    (h : Heap) (tk : Nat) (kp : ∀ b o, s.heap.get? b = some o → h.get? b = some o) :
    wpAny (model X.prog X.w) A (call (.ref f) [.ref p]) (PySem.W.KeyPure (keyD b) { s with heap := h, toks := tk }) (fun _ _ => False) { s with heap := h, toks := tk } := by
  obtain ⟨⟨oc, vs, t, hoc, hdc, hvc⟩, _, _⟩ := I.hok c' _ hc
  obtain ⟨zt, its, rv, pt⟩ : ObjOk X.prog X.w H s.heap p (.tup (b.map V.int)) := I.hok p _ hp
  refine wpAny_call ?_
  refine PySem.W.kla_callFunE hd (kp _ _ hf) rfl rfl rfl rfl ⟨c', oc, vs, t, rfl, kp _ _ hoc, hdc, hvc⟩ ?_
  have hbind : bindArgs (PySem.W.kla_fn "<lambda>" qual (lamPs pp) (lamBody p1 p2 p3 p4 p5) (lamSc m) [] pm (Value.ref c') ctv) ⟨[Value.ref p], []⟩ = pure [(Str.ofString "lot", Value.ref p)] := by rfl
  rw [hbind]
  refine wpAny_pure (wpAny_newFunctionEnv (fun y hy => ?_) (fun y hy => ?_) (fun h₁ hns hsb => ⟨(I.nolimit.keeps kp).fresh _ hsb, ?_⟩) rfl)
  · rcases List.mem_cons.mp hy with rfl | hy
    · simp
    · rcases List.mem_cons.mp hy with rfl | hy
      · simp
      · simp at hy
  · rw [List.mem_singleton] at hy
    subst hy
    rfl
  have kp1 : ∀ b o, h.get? b = some o → h₁.get? b = some o := fun b o e => hsb.extBut b o (Nat.ne_of_lt (Heap.lt_size e)) (Heap.get?_push_of_some _ e)
  have kp2 : ∀ b o, s.heap.get? b = some o → h₁.get? b = some o := fun b o e => kp1 b o (kp b o e)
  obtain ⟨mb, hb1, hb2⟩ := I.mod.blt
  have hlen := rv.length
  have hn := line63
  have hr0 : ∃ as, Reads s.heap (.ref p) (tupD b) as := reads_tup I hp
  obtain ⟨as, hr0⟩ := hr0
  have has := reads_tup_nil hr0
  subst has
  refine PySem.W.kla_codeExpr ?_
  refine wpAny_Tuple_spliced (args_cons (wpAny_Call_Name_kw (Calls.Name_function_global rfl rfl (Calls.loadGlobal_builtin ((I.mod.glob.keeps I.bk).keeps kp2) hm ((hb1.keeps I.bk).keeps kp2) ((hb2 "len" (by decide)).trans (by rfl)) ?_) (by decide))) (by rfl))
  refine callWith_builtin1 (args_cons (wpAny_Name (wpAny_loadName_local rfl rfl hns (by rfl) (args_nil ?_)) (by decide)) (by rfl)) (by rfl) (by rfl)
  refine len_tuple (pt.keeps kp2) (by simp only [List.size_toArray]; omega) ?_
  refine args_cons (wpAny_Name (wpAny_loadName_local rfl rfl hns (by rfl) (args_nil ?_)) (by decide)) (by rfl)
  refine ⟨by show 2 ≤ sizeLine; decide, ?_⟩
  refine ⟨_, _, rfl, fun a o e => Heap.get?_push_of_some _ (kp1 a o e), ?_⟩
  refine .tuple (Heap.get?_push_size _ rfl) rfl rfl (as := [] ++ ([] ++ [])) (.cons ?_ (.cons ?_ .nil))
  · have e : ((its.toArray.size : Nat) : Int) = (b.length : Int) := by rw [List.size_toArray, ← hlen, List.length_map]
    show Reads _ (.int ((its.toArray.size : Nat) : Int) _) (.int (b.length : Int)) []
    rw [e]
    exact .int _ _
  · exact Reads.keeps (fun a o e => Heap.get?_push_of_some _ (kp2 a o e)) hr0
theorem Paired_impN {α β : Type} {F G : α → β → Prop} {l : List α} {m : List β} (p : Paired F l m) (h : ∀ a b, F a b → G a b) : Paired G l m := by
  induction p with
  | nil => exact .nil
  | cons a _ ih => exact .cons (h _ _ a) ih
theorem sq_of {K : PySem.W.Frag} {H : Hp} {a : Addr} {xs : List V} (h : H a = some (.lst xs)) : SqL K H a xs := SqL.of h
/-! ### the whole expression -/
def tSortLam (T : List (Addr × Str)) (ta : TA) : TE := fun σ H Q => ta σ H fun vs H1 => ∃ (a : Addr) (ps : List Addr) (bs : List (List Int)), vs = [V.ref a] ∧ H1 a = some (.lst (ps.map V.ref)) ∧ ITup H1 ps bs ∧ Tabs T H1 ∧
  ∀ H2 ps' p, ExtN H1 H2 → Tabs T H2 → H2 p = none → ITup H2 ps' (bs.mergeSort keyLe) → Q (.ref p) (upd H2 p (.lst (ps'.map V.ref)))
theorem pe_sortLam {X : Cx} {T : List (Addr × Str)} {c P : Addr} {e : Expr} {ta : TA} {p pos kpos lpos pp p1 p2 p3 p4 p5 : Pos} {m : List (Str × Const)} (hg : Gl X "sorted") (hm : X.mg "sorted" = none) (hml : X.mg "len" = none) (ha : PA X [e] ta) (TB : TabB X.base X.mg c P) (hcode : X.env.code = .ref c)
    (hmT : (P, X.env.qual ++ "<lambda>") ∈ T) (hu : ∀ p ∈ T, p.1 = P → p.2 = X.env.qual ++ "<lambda>") (hdp : X.A.in1.in1.depth < recursionLimit) (hun : X.A.units + 64 < cLine)
    (he : backTo pos (starEach [e] X.env) = (false, eval e X.env) :: backTo pos (starEach [] X.env) := by rfl) (hpl : (backTo pos (starEach [e] X.env)).any (·.1) = false := by rfl) :
    PE X (.Call (.Name "sorted" p) [e] [⟨some "key", .Lambda (lamPs pp) (lamBody p1 p2 p3 p4 p5) (lamSc m) lpos, kpos⟩] pos) (tSortLam T ta) := by
  refine ⟨fun pins s σ H Q I h => ?_⟩
  refine wpAny_Call_Name_kw (ld_blt I hg hm (by rfl) ?_ (by decide) (by decide))
  refine PyProof.Rows.callWith_kw (thn (ha.run pos pins s σ H _ I h) fun us s1 ⟨vs, H1, I1, r1, q1⟩ => ?_) he hpl (by rfl) (by rfl)
  obtain ⟨a, ps, bs, rfl, hs, ht, hT, q⟩ := q1
  obtain rfl := Vals.ref1 r1
  show wpAny _ _ (evalAll [(do let v ← eval (.Lambda (lamPs pp) (lamBody p1 p2 p3 p4 p5) (lamSc m) lpos) X.env; standAt pos; pure v)]) _ _ s1
  refine wpAny_evalAll_cons (wpAny_bind (lam_make2 I1 TB hcode hmT hu hT (by rfl) (fun y hy hfr => ?_) (fun f c' pm ctv H2 s2 I2 eN hT2 hf hfn hfrs hc => wpAny_bind (wpAny_standAt (wpAny_pure (wpAny_evalAll_nil ?_))))))
  · rcases List.mem_cons.mp hy with rfl | hy
    · cases hfr
    · rcases List.mem_cons.mp hy with rfl | hy
      · cases hfr
      · simp at hy
  have hs2 : H2 a = some (.lst (ps.map V.ref)) := eN _ _ hs (fun _ z => nomatch z)
  have ht2 : ITup H2 ps bs := Paired_impN ht fun p b hb => eN _ _ hb (fun _ z => nomatch z)
  obtain ⟨its, rv, pl, hz⟩ := I2.list (sq_of hs2)
  have ei : its = ps.map Value.ref := refs_at rv
  subst ei
  have hlen : bs.length = ps.length := (Paired.length ht).symm
  have e1 : PySem.W.EachIs (fun v b => ∃ p, v = Value.ref p ∧ H2 p = some (.tup (b.map V.int))) (ps.map Value.ref) bs := refs_each (fun p b h => ⟨p, rfl, h⟩) ht2
  have hz' : bs.length ≤ sizeLine := by rw [hlen]; rw [List.length_map] at hz; exact hz
  show wpAny _ _ (call (.builtin "sorted") [.ref a] [(Str.ofString "key", .ref f)]) _ _ s2
  refine PySem.W.sorted_key_data (b := false) keyD pl.isList e1 (PySem.W.AllAlike.of alike_keyD) (sortable_keyD bs) hz' (fun b _ => ?_) (ksk_s1 _ _) (fun _ => ksk_l1 _ _) (fun _ => ksk_t1 _ _) (fun v b hR _ h tk kp => ?_) (fun out c h' tk kp fresh hD hl eo => ?_)
  · have := depth_keyD b
    omega
  · obtain ⟨p, rfl, hp⟩ := hR
    exact lam_turn I2 hml hdp hf hc hp h tk kp
  · rw [dataLe_key] at eo
    obtain ⟨ps', rfl, e'⟩ := each_refs eo
    have hl' : (ps'.map V.ref).length ≤ sizeLine := by
      rw [List.length_map] at hl ⊢
      rw [hl]; exact hz'
    exact ⟨.ref (s2.heap.objs.size + 1), upd H2 (s2.heap.objs.size + 1) (.lst (ps'.map V.ref)), I2.laid (t' := tk) kp (Nat.le_succ _) ⟨hl', ps'.map Value.ref, c, vals_of_addrs ps', hD⟩, rfl, q _ _ _ eN hT2 (I2.hok.fresh (Nat.le_succ _)) e'⟩
end Hv
end
section
set_option Elab.async false
set_option linter.all false
set_option maxRecDepth 100000
set_option maxHeartbeats 4000000
/-! The walk's words: defs that stand in the module, data that stand in the heap, what evaluates to what. -/
namespace Hv
open PySem PySem.Spec PyProof.Rows L2 Evl
def topS (i : Nat) : Stmt := PySem.Challenge.pw_stoopers_k42_whole_halves.main.body.getD i (.Pass ⟨0, 0, 0, 0⟩)

/-! ### defs and built-ins -/
/-- no name of these is bound by the module -/
structure NoB (mg : Str → Option Value) : Prop where
  len_ : mg "len" = none
  range_ : mg "range" = none
  sorted_ : mg "sorted" = none
  tuple_ : mg "tuple" = none
  list_ : mg "list" = none
  int_ : mg "int" = none
  bool_ : mg "bool" = none
  str_ : mg "str" = none
  isinstance_ : mg "isinstance" = none
  any_ : mg "any" = none
  all_ : mg "all" = none
  sum_ : mg "sum" = none
  set_ : mg "set" = none
  zip_ : mg "zip" = none
  enumerate_ : mg "enumerate" = none
  min_ : mg "min" = none
/-- the module's x is a def that keeps the promise sp -/
structure Has (P : Program) (w : World) (K : PySem.W.Frag) (mg : Str → Option Value) (base : Heap) (k : Nat) (x : Str) (ps : List Str) (sp : Sp) : Prop where
  ex : ∃ (f : Addr) (fd : FuncData), FnOk P w K mg base CX0 k f fd ps sp ∧ L2.Binds K fd ps [] ∧ mg x = some (.ref f) ∧ PySem.W.keepIn K (.ref f) = true
section
variable {P : Program} {w : World} {K : PySem.W.Frag} {mg : Str → Option Value} {base : Heap} {k : Nat} {x : Str} {ps : List Str} {sp : Sp}
theorem Has.mk' {f : Addr} {fd : FuncData} {st : Stmt} (F : Fun K x x st f fd) (g : mg x = some (.ref f)) (b : L2.Binds K fd ps []) (h : FnOk P w K mg base CX0 k f fd ps sp) : Has P w K mg base k x ps sp := ⟨f, fd, h, b, g, F.kp⟩
theorem pe_has {X : Cx} {p pos : Pos} {e : Expr} {es : List Expr} {t : TA} (h : Has X.prog X.w X.K X.mg X.base k x ps sp) (hr : Room k X.A) (ha : PA X (e :: es) t) (hg : Gl X x := by rfl) (hdb : (x == ("__debug__" : Str)) = false := by decide)
    (he : starEach (e :: es) X.env = (false, eval e X.env) :: starEach es X.env := by rfl) (hpl : (backTo pos (starEach es X.env)).any (·.1) = false := by rfl) : PE X (.Call (.Name x p) (e :: es) [] pos) (tCall sp [] E0 t) := by
  obtain ⟨f, fd, F, b, m, kp⟩ := h.ex
  exact pe_call F hr hg m kp b .nil pass0 ha hdb he hpl
end

/-! ### data in the heap: tuples stay -/
abbrev vN (i : Nat) : V := .int (i : Int)
def oV : Option Int → V
  | none => .non
  | some i => .int i
abbrev XT (H H' : Hp) : Prop := ∀ b xs, H b = some (.tup xs) → H' b = some (.tup xs)
theorem XT.of {H H' : Hp} (e : Ex H H') : XT H H' := fun b xs h => e b _ h
theorem XT.ofN {H H' : Hp} (e : LamX.ExtN H H') : XT H H' := fun b xs h => e b _ h (fun _ q => nomatch q)
theorem XT.trans {H H1 H2 : Hp} (a : XT H H1) (b : XT H1 H2) : XT H H2 := fun c xs h => b c xs (a c xs h)
def PairsAt (H : Hp) (ps : List Addr) (T : Ties) : Prop := Paired (fun p t => H p = some (.tup [vN t.1, vN t.2])) ps T
def WebAt (H : Hp) (v : V) (n : Nat) (T : Ties) : Prop := ∃ (a b : Addr) (ps : List Addr), v = .ref a ∧ H a = some (.tup [vN n, .ref b]) ∧ H b = some (.tup (ps.map V.ref)) ∧ PairsAt H ps T
def HtsAt (H : Hp) (v : V) (hs : List Int) : Prop := ∃ a, v = .ref a ∧ H a = some (.tup (hs.map V.int))
def PartAt (H : Hp) (v : V) (part : Part) : Prop := ∃ a, v = .ref a ∧ H a = some (.tup (part.map oV))
def TupN (H : Hp) (v : V) (ns : List Nat) : Prop := ∃ a, v = .ref a ∧ H a = some (.tup (ns.map vN))
def LstN (H : Hp) (v : V) (ns : List Nat) : Prop := ∃ a, v = .ref a ∧ H a = some (.lst (ns.map vN))
def TupsN (H : Hp) (ps : List Addr) (ls : List (List Nat)) : Prop := Paired (fun p l => H p = some (.tup (l.map vN))) ps ls
theorem paired_imp {α β : Type} {F G : α → β → Prop} (h : ∀ a b, F a b → G a b) : ∀ {l : List α} {m : List β}, Paired F l m → Paired G l m
  | _, _, .nil => .nil
  | _, _, .cons a t => .cons (h _ _ a) (paired_imp h t)
theorem paired_get {α β : Type} {F : α → β → Prop} : ∀ {l : List α} {m : List β} {i : Nat} {b : β}, Paired F l m → m[i]? = some b → ∃ a, l[i]? = some a ∧ F a b
  | _, _, _, _, .nil, h => by simp at h
  | _, _, 0, _, .cons a t, h => by simp at h; subst h; exact ⟨_, rfl, a⟩
  | _, _, i + 1, b, .cons a t, h => by
    obtain ⟨x, h1, h2⟩ := paired_get (i := i) t (by simpa using h)
    exact ⟨x, by simpa using h1, h2⟩
theorem paired_getL {α β : Type} {F : α → β → Prop} : ∀ {l : List α} {m : List β} {i : Nat} {a : α}, Paired F l m → l[i]? = some a → ∃ b, m[i]? = some b ∧ F a b
  | _, _, _, _, .nil, h => by simp at h
  | _, _, 0, _, .cons a t, h => by simp at h; subst h; exact ⟨_, rfl, a⟩
  | _, _, i + 1, b, .cons a t, h => by
    obtain ⟨x, h1, h2⟩ := paired_getL (i := i) t (by simpa using h)
    exact ⟨x, by simpa using h1, h2⟩
section
variable {H H' : Hp} (e : XT H H')
include e
theorem PairsAt.ex {ps : List Addr} {T : Ties} (h : PairsAt H ps T) : PairsAt H' ps T := paired_imp (fun _ _ q => e _ _ q) h
theorem WebAt.ex {v : V} {n : Nat} {T : Ties} (h : WebAt H v n T) : WebAt H' v n T := by
  obtain ⟨a, b, ps, h1, h2, h3, h4⟩ := h
  exact ⟨a, b, ps, h1, e _ _ h2, e _ _ h3, h4.ex e⟩
theorem HtsAt.ex {v : V} {hs : List Int} (h : HtsAt H v hs) : HtsAt H' v hs := by
  obtain ⟨a, h1, h2⟩ := h
  exact ⟨a, h1, e _ _ h2⟩
theorem PartAt.ex {v : V} {p : Part} (h : PartAt H v p) : PartAt H' v p := by
  obtain ⟨a, h1, h2⟩ := h
  exact ⟨a, h1, e _ _ h2⟩
theorem TupN.ex {v : V} {p : List Nat} (h : TupN H v p) : TupN H' v p := by
  obtain ⟨a, h1, h2⟩ := h
  exact ⟨a, h1, e _ _ h2⟩
theorem TupsN.ex {ps : List Addr} {ls : List (List Nat)} (h : TupsN H ps ls) : TupsN H' ps ls := paired_imp (fun _ _ q => e _ _ q) h
theorem ITup.ex {ps : List Addr} {ls : List (List Int)} (h : ITup H ps ls) : ITup H' ps ls := paired_imp (fun _ _ q => e _ _ q) h
end
theorem LstN.ex {H H' : Hp} (e : Ex H H') {v : V} {p : List Nat} (h : LstN H v p) : LstN H' v p := by
  obtain ⟨a, h1, h2⟩ := h
  exact ⟨a, h1, e _ _ h2⟩
theorem hts_get {hs : List Int} {i : Nat} (hi : i < hs.length) : (hs.map V.int)[i]? = some (.int (at0 hs i)) := by
  rw [List.getElem?_map, List.getElem?_eq_getElem hi]
  unfold at0
  rw [List.getD_eq_getElem?_getD, List.getElem?_eq_getElem hi]
  rfl
theorem part_get {part : Part} {i : Nat} (hi : i < part.length) : (part.map oV)[i]? = some (oV (pAt part i)) := by
  rw [List.getElem?_map, List.getElem?_eq_getElem hi]
  unfold pAt
  rw [List.getD_eq_getElem?_getD, List.getElem?_eq_getElem hi]
  rfl
theorem ns_get {ns : List Nat} {i j : Nat} (h : ns[i]? = some j) : (ns.map vN)[i]? = some (vN j) := by
  rw [List.getElem?_map, h]; rfl
theorem vN_inj {i j : Nat} (h : vN i = vN j) : i = j := by
  have := V.int.inj h
  omega
/-- in a list of persons -/
theorem inV_N {i : Nat} {ns : List Nat} : inV (vN i) (ns.map vN) = decide (i ∈ ns) := by
  induction ns with
  | nil => rfl
  | cons j ns ih =>
    show (eqV (vN j) (vN i) || inV (vN i) (ns.map vN)) = _
    rw [ih]
    show (((j : Int) == (i : Int)) || _) = _
    by_cases e : j = i
    · subst e; simp
    · have e1 : ((j : Int) == (i : Int)) = false := by simpa using fun q => e (by omega)
      have e2 : ¬ i = j := fun q => e q.symm
      rw [e1]; simp [e2]
theorem flat_N (ns : List Nat) : (ns.map vN).all flatV = true := by
  induction ns with
  | nil => rfl
  | cons j ns ih => rw [List.map_cons, List.all_cons, ih]; rfl
theorem ints_N (ns : List Nat) : ns.map vN = (ns.map fun i : Nat => (i : Int)).map V.int := by rw [List.map_map]; rfl

/-! ### tests that are known -/
theorem if_f {b : Bool} {A B : Prop} (h : b = false) (k : B) : if b = true then A else B := by rw [h]; exact k
theorem if_t {b : Bool} {A B : Prop} (h : b = true) (k : A) : if b = true then A else B := by rw [h]; exact k
theorem if_d {b : Bool} {A B : Prop} (h1 : b = true → A) (h2 : b = false → B) : if b = true then A else B := by
  cases b with
  | true => exact h1 rfl
  | false => exact h2 rfl
theorem sq1 {K : PySem.W.Frag} {H H' : Hp} {a : Addr} {xs : List V} (e : Ex H H') (h : H a = some (.tup xs)) : SqT K H' a xs := SqT.of (e _ _ h)
theorem ex_new {H : Hp} {p : Addr} {o : HO} (h : H p = none) : Ex H (upd H p o) := Ex.new h
/-! ### what evaluates to something -/
/-- a value of which P holds -/
def EvP (te : TE) (σ : L2.St) (H : Hp) (P : V → Hp → Prop) : Prop := ∀ H1, Ex H H1 → ∀ Q : VK, (∀ v H2, Ex H1 H2 → P v H2 → Q v H2) → te σ H1 Q
/-- a def's promise, so told -/
def SpP (sp : Sp) (vs : List V) (H : Hp) (P : V → Hp → Prop) : Prop := ∀ H1, Ex H H1 → ∀ Q : VK, (∀ v H2, Ex H1 H2 → P v H2 → Q v H2) → ∀ E : XK, sp vs H1 Q E
section
variable {σ : L2.St} {H : Hp} {te ta tb : TE} {P R : V → Hp → Prop}
theorem EvP.of_ev {v : V} (h : Ev te σ H v) (k : ∀ H', Ex H H' → P v H') : EvP te σ H P := fun H1 e1 Q q => h H1 e1 Q fun H2 e2 => q _ _ e2 (k _ (e1.trans e2))
theorem EvP.imp (h : EvP te σ H P) (k : ∀ v H', Ex H H' → P v H' → R v H') : EvP te σ H R := fun H1 e1 Q q => h H1 e1 Q fun v H2 e2 p => q _ _ e2 (k _ _ (e1.trans e2) p)
theorem EvP.mono {H' : Hp} (e : Ex H H') (h : EvP te σ H P) : EvP te σ H' P := fun H1 e1 Q q => h H1 (e.trans e1) Q q
theorem evp_call {sp : Sp} {vs : List V} {E : XK} {t : TA} (h : EvA t σ H vs) (hs : SpP sp vs H P) : EvP (tCall sp [] E t) σ H P := fun H1 e1 Q q => h H1 e1 _ fun H2 e2 => by
  show sp (vs ++ []) H2 Q E
  rw [List.append_nil]
  exact hs H2 (e1.trans e2) Q (fun v H3 e3 p => q _ _ (e2.trans e3) p) E
theorem ev_callV {sp : Sp} {vs : List V} {z : V} {E : XK} {t : TA} (h : EvA t σ H vs) (hs : SpV sp vs H z) : Ev (tCall sp [] E t) σ H z := ev_call h (by rw [List.append_nil]; exact hs)
/-- statements -/
theorem s_asgP {i : Nat} {D : Ends} (h : EvP te σ H P) (k : ∀ v H1, Ex H H1 → P v H1 → D.nx (σ.set i (some v)) H1) : tAsg te (gName i) D σ H := h H (Ex.refl H) _ fun v H1 e p => k v H1 e p
theorem q_asgP {i : Nat} {D : Ends} {tz : TS} (h : EvP te σ H P) (k : ∀ v H1, Ex H H1 → P v H1 → tz D (σ.set i (some v)) H1) : tSeq (tAsg te (gName i)) tz D σ H := h H (Ex.refl H) _ fun v H1 e p => k v H1 e p
theorem s_retP {D : Ends} (h : EvP te σ H P) (k : ∀ v H1, Ex H H1 → P v H1 → D.rt v H1) : tRet te D σ H := h H (Ex.refl H) _ fun v H1 e p => k v H1 e p
end
end Hv
end
section
set_option Elab.async false
set_option linter.all false
set_option maxRecDepth 100000
set_option maxHeartbeats 4000000
/-! The walk's words, 2: == with the empty list; comprehensions; sorted persons. -/
namespace Hv
open PySem PySem.Spec PyProof.Rows L2 Evl

/-! ### small data -/
def Small (k : Nat) (d : PyData) : Prop := d.canLay0 = true ∧ d.depth ≤ k
theorem small_all {k : Nat} : ∀ {ds : List PyData}, (∀ d ∈ ds, Small k d) → PyData.canLayAll0 ds = true ∧ PyData.depthAll ds ≤ k
  | [], _ => by simp [PyData.canLayAll0, PyData.depthAll]
  | d :: ds, h => by
    obtain ⟨a, b⟩ := h d List.mem_cons_self
    obtain ⟨a', b'⟩ := small_all fun d hd => h d (List.mem_cons_of_mem _ hd)
    rw [PyData.canLayAll0, PyData.depthAll, a, a']
    exact ⟨rfl, by omega⟩
theorem small_list {k : Nat} {ds : List PyData} (h : ∀ d ∈ ds, Small k d) : Small (k + 1) (.list ds) := by
  obtain ⟨a, b⟩ := small_all h
  unfold Small
  rw [PyData.canLay0, PyData.depth]
  exact ⟨a, by omega⟩
theorem small_tuple {k : Nat} {ds : List PyData} (h : ∀ d ∈ ds, Small k d) : Small (k + 1) (.tuple ds) := by
  obtain ⟨a, b⟩ := small_all h
  unfold Small
  rw [PyData.canLay0, PyData.depth]
  exact ⟨a, by omega⟩
theorem small_int (k : Nat) (i : Int) : Small k (.int i) := by
  unfold Small
  rw [PyData.canLay0, PyData.depth]
  exact ⟨rfl, Nat.zero_le _⟩
theorem small_none (k : Nat) : Small k .none := by
  unfold Small
  rw [PyData.canLay0, PyData.depth]
  exact ⟨rfl, Nat.zero_le _⟩
theorem Small.mono {j k : Nat} {d : PyData} (h : Small j d) (l : j ≤ k) : Small k d := ⟨h.1, Nat.le_trans h.2 l⟩
theorem Small.shaped {k : Nat} {d : PyData} (h : Small k d) (l : k ≤ 64) : SeqAt.shaped d = true := by
  unfold SeqAt.shaped
  rw [h.1, decide_eq_true (Nat.le_trans h.2 l)]
  rfl
theorem small_tupD (b : List Int) : Small 1 (tupD b) := small_tuple fun d hd => by
  obtain ⟨x, _, rfl⟩ := List.mem_map.mp hd
  exact small_int 0 x
theorem dpAll_len {K : PySem.W.Frag} {H : Hp} : ∀ {xs : List V} {ds : List PyData}, DpAll K H xs ds → xs.length = ds.length
  | _, _, .nil => rfl
  | _, _, .cons _ t => by rw [List.length_cons, List.length_cons, dpAll_len t]
theorem eqv_nil (ds : List PyData) : PyData.eqv (.list ds) (.list []) = ds.isEmpty := by
  cases ds <;> simp [PyData.eqv, PyData.eqvAll]
section
variable {K : PySem.W.Frag} {H : Hp} {a b : Addr} {xs : List V} {ds : List PyData} {Q : VK}
theorem ne_nil (hx : SqL K H a xs) (hd : DpAll K H xs ds) (hs : ∀ d ∈ ds, Small 10 d) (hb : SqL K H b []) (q : Q (.bl (!xs.isEmpty)) H) : rNeD K (.ref a) (.ref b) H Q := by
  refine ⟨.list ds, .list [], .lst hx hd, .lst hb .nil, (small_list hs).shaped (by decide), (small_list (k := 0) (by simp)).shaped (by decide), ?_⟩
  rw [eqv_nil]
  have e : ds.isEmpty = xs.isEmpty := by
    have := dpAll_len hd
    cases ds <;> cases xs <;> simp_all
  rw [e]
  exact q
theorem eq_nil (hx : SqL K H a xs) (hd : DpAll K H xs ds) (hs : ∀ d ∈ ds, Small 10 d) (hb : SqL K H b []) (q : Q (.bl xs.isEmpty) H) : rEqD K (.ref a) (.ref b) H Q := by
  refine ⟨.list ds, .list [], .lst hx hd, .lst hb .nil, (small_list hs).shaped (by decide), (small_list (k := 0) (by simp)).shaped (by decide), ?_⟩
  rw [eqv_nil]
  have e : ds.isEmpty = xs.isEmpty := by
    have := dpAll_len hd
    cases ds <;> cases xs <;> simp_all
  rw [e]
  exact q
theorem dpAll_N : ∀ ns : List Nat, DpAll K H (ns.map vN) (ns.map fun i : Nat => PyData.int (i : Int))
  | [] => .nil
  | i :: ns => .cons (.int _) (dpAll_N ns)
theorem small_N (ns : List Nat) : ∀ d ∈ ns.map fun i : Nat => PyData.int (i : Int), Small 10 d := fun d hd => by
  obtain ⟨i, _, rfl⟩ := List.mem_map.mp hd
  exact small_int _ _
theorem dpAll_T : ∀ {ps : List Addr} {bs : List (List Int)}, ITup H ps bs → DpAll K H (ps.map V.ref) (bs.map tupD)
  | _, _, .nil => .nil
  | _, _, .cons h t => .cons (.tup (SqT.of h) (dpAll_ints _)) (dpAll_T t)
theorem small_T (bs : List (List Int)) : ∀ d ∈ bs.map tupD, Small 10 d := fun d hd => by
  obtain ⟨b, _, rfl⟩ := List.mem_map.mp hd
  exact (small_tupD b).mono (by decide)
theorem PairsAt.itup {ps : List Addr} {T : Ties} (h : PairsAt H ps T) : ITup H ps (T.map fun t => [(t.1 : Int), (t.2 : Int)]) := by
  unfold PairsAt at h
  induction h with
  | nil => exact .nil
  | cons a _ ih => exact .cons a ih
theorem TupsN.itup {ps : List Addr} {ls : List (List Nat)} (h : TupsN H ps ls) : ITup H ps (ls.map fun l => l.map fun i : Nat => (i : Int)) := by
  unfold TupsN at h
  induction h with
  | nil => exact .nil
  | cons a _ ih => exact .cons (by rw [← ints_N]; exact a) ih
theorem isEmpty_map {α β : Type} (f : α → β) (l : List α) : (l.map f).isEmpty = l.isEmpty := by cases l <;> rfl
end

/-! ### rules where K is told -/
section
variable {X : Cx} {K : PySem.W.Frag}
theorem call_len_seqK (h : X.K = K) : CallR X (.builtin "len") (fun xs H Q => ∃ p ys, xs = [.ref p] ∧ (SqL K H p ys ∨ SqT K H p ys) ∧ Q (.int ys.length) H) := h ▸ call_len_seq
theorem pa_starK {e : Expr} {es : List Expr} {te : TE} {t : TA} {p : Pos} (h : X.K = K) (he : PE X e te) (hr : PA X es t) (hs : starEach (.Starred e p :: es) X.env = (true, eval e X.env) :: starEach es X.env := by rfl) : PA X (.Starred e p :: es) (StX.tStar K te t) := h ▸ StX.pa_star he hr hs
theorem op_inK (h : X.K = K) : OpR X (compareOp .In) (rIn K false) := h ▸ op_in_seq
theorem op_niK (h : X.K = K) : OpR X (compareOp .NotIn) (rIn K true) := h ▸ op_notIn_seq
theorem ix_tupK (h : X.K = K) : IxR X (rIxT K) := h ▸ ix_tup
theorem ix_listK (h : X.K = K) : IxR X (rIxL K) := h ▸ ix_list
theorem cr_anyK (h : X.K = K) (hc : X.calm = true) : CallR X (.builtin "any") (rAny K) := h ▸ cr_any hc
theorem cr_allK (h : X.K = K) (hc : X.calm = true) : CallR X (.builtin "all") (rAll K) := h ▸ cr_all hc
theorem pi_listK {tg l : Expr} {tl : TE} (h : X.K = K) (hl : PE X l tl) : PI X tg l (iList K tl) := h ▸ pi_list hl
theorem pi_tupK {tg l : Expr} {tl : TE} (h : X.K = K) (hl : PE X l tl) : PI X tg l (iTup K tl) := h ▸ pi_tup hl
theorem pg_tupK {es : List Expr} {k : Nat} {t : TGs} {n : Nat} {pos : Pos} (hK : X.K = K) (hc : X.calm = true) (h : PGs X es t) (hn : (assignEach es X.env).length = n := by rfl) (hst : (assignEach es X.env).findIdx? (·.1) = none := by rfl) : PG X (.Tuple es k pos) (gTup K n t) := hK ▸ pg_tup hc h hn hst
end
/-! ### comprehensions -/
theorem given_eq {α : Type} (xs : List α) (d : α) (p : α → Bool) (v : α → V) : ∀ n, n ≤ xs.length → given n (fun i => p (xs.getD i d)) (fun i => v (xs.getD i d)) = ((xs.take n).filter p).map v
  | 0, _ => rfl
  | n + 1, h => by
    have hn : n < xs.length := h
    have e : xs.take (n + 1) = xs.take n ++ [xs.getD n d] := by
      rw [List.take_add_one, List.getElem?_eq_getElem hn, List.getD_eq_getElem?_getD, List.getElem?_eq_getElem hn]; rfl
    rw [e, List.filter_append, List.map_append, ← given_eq xs d p v n (by omega)]
    cases hp : p (xs.getD n d) with
    | true => rw [given_yes (f := fun i => p (xs.getD i d)) hp, List.filter_cons_of_pos hp]; rfl
    | false => rw [given_no (f := fun i => p (xs.getD i d)) hp, List.filter_cons_of_neg (by rw [hp]; exact Bool.false_ne_true)]; simp
theorem given_all {α : Type} (xs : List α) (d : α) (p : α → Bool) (v : α → V) : given xs.length (fun i => p (xs.getD i d)) (fun i => v (xs.getD i d)) = (xs.filter p).map v := by
  rw [given_eq xs d p v xs.length (Nat.le_refl _), List.take_length]
theorem getD_of {α : Type} {xs : List α} {i : Nat} {x d : α} (h : xs[i]? = some x) : xs.getD i d = x := by
  rw [List.getD_eq_getElem?_getD, h]; rfl
section
variable {K : PySem.W.Frag} {σ : L2.St} {H : Hp} {t : TT} {te tl : TE}
/-- over a tuple -/
theorem el_lcT {a : Addr} {xs : List V} {j : Nat} {vs : List Nat} (f : Nat → Bool) (v : Nat → V) (h : Ev tl σ H (.ref a)) (hx : SqT K H a xs) (hz : xs.length ≤ 40000) (hw : ∀ x, wipe ((wipe σ vs).set j (some x)) vs = wipe σ vs)
    (ht : ∀ (i : Nat) (x : V) H1, Ex H H1 → xs[i]? = some x → EvT t ((wipe σ vs).set j (some x)) H1 (f i)) (he : ∀ (i : Nat) (x : V) H1, Ex H H1 → xs[i]? = some x → f i = true → Ev te ((wipe σ vs).set j (some x)) H1 (v i)) :
    EvL (tLc (iTup K tl) (gName j) t te vs) σ H (given xs.length f v) := by
  intro H0 e Q q
  refine h H0 e _ fun H1 e1 => ⟨a, rfl, ⟨xs, ex_t (e.trans e1) hx⟩, fun Dl hD => lc_tup (xs := xs) (Cw H1 f v Dl) ⟨hD, Ex.new hD, upd_same⟩ (fun i H' _ p => ex_t ((e.trans e1).trans p.2.1) hx) (fun i x H' hi p => ?_) (fun H' p => q Dl H' (fresh_back e1 p.1) (e1.trans p.2.1) p.2.2)⟩
  refine ⟨hw x, cw_turn p ?_ (ht i x H1 (e.trans e1) hi) (fun hf => he i x H1 (e.trans e1) hi hf)⟩
  have := (List.getElem?_eq_some_iff.mp hi).1
  omega
/-- [one for one in persons if ..] -/
theorem el_filterL {a : Addr} {ns : List Nat} {j : Nat} {vs : List Nat} (p : Nat → Bool) (h : Ev tl σ H (.ref a)) (hx : SqL K H a (ns.map vN)) (hz : ns.length ≤ 1000) (hw : ∀ x, wipe ((wipe σ vs).set j (some x)) vs = wipe σ vs) (hj : ∀ x : V, ((wipe σ vs).set j (some x))[j]? = some (some x))
    (ht : ∀ (i : Nat) H1, Ex H H1 → i ∈ ns → EvT t ((wipe σ vs).set j (some (vN i))) H1 (p i)) : EvL (tLc (iList K tl) (gName j) t (tVar j) vs) σ H ((ns.filter p).map vN) := by
  have e := given_all ns 0 p vN
  rw [← e, ← List.length_map (as := ns) (f := vN)]
  refine el_lcL _ _ h hx (by rw [List.length_map]; omega) hw (fun i x H1 e1 hi => ?_) (fun i x H1 e1 hi _ => ?_)
  · rw [List.getElem?_map] at hi
    obtain ⟨y, hy, rfl⟩ := Option.map_eq_some_iff.mp hi
    rw [getD_of hy]
    exact ht y H1 e1 (List.mem_of_getElem? hy)
  · rw [List.getElem?_map] at hi
    obtain ⟨y, hy, rfl⟩ := Option.map_eq_some_iff.mp hi
    rw [getD_of hy]
    exact ev_var (hj _)
/-- [f(one) for one in persons], a list or a tuple -/
theorem el_mapL {a : Addr} {ns : List Nat} {j : Nat} {vs : List Nat} (v : Nat → V) (h : Ev tl σ H (.ref a)) (hx : SqL K H a (ns.map vN)) (hz : ns.length ≤ 1000) (hw : ∀ x, wipe ((wipe σ vs).set j (some x)) vs = wipe σ vs)
    (he : ∀ (i : Nat) H1, Ex H H1 → i ∈ ns → Ev te ((wipe σ vs).set j (some (vN i))) H1 (v i)) : EvL (tLc (iList K tl) (gName j) tYes te vs) σ H (ns.map v) := by
  have e := given_all ns 0 (fun _ => true) v
  rw [List.filter_eq_self.mpr (fun _ _ => rfl)] at e
  rw [← e, ← List.length_map (as := ns) (f := vN)]
  refine el_lcL _ _ h hx (by rw [List.length_map]; omega) hw (fun i x H1 e1 hi => fun H2 e2 Q q => q H2 (Ex.refl _)) (fun i x H1 e1 hi _ => ?_)
  rw [List.getElem?_map] at hi
  obtain ⟨y, hy, rfl⟩ := Option.map_eq_some_iff.mp hi
  rw [getD_of hy]
  exact he y H1 e1 (List.mem_of_getElem? hy)
theorem el_mapT {a : Addr} {ns : List Nat} {j : Nat} {vs : List Nat} (v : Nat → V) (h : Ev tl σ H (.ref a)) (hx : SqT K H a (ns.map vN)) (hz : ns.length ≤ 1000) (hw : ∀ x, wipe ((wipe σ vs).set j (some x)) vs = wipe σ vs)
    (he : ∀ (i : Nat) H1, Ex H H1 → i ∈ ns → Ev te ((wipe σ vs).set j (some (vN i))) H1 (v i)) : EvL (tLc (iTup K tl) (gName j) tYes te vs) σ H (ns.map v) := by
  have e := given_all ns 0 (fun _ => true) v
  rw [List.filter_eq_self.mpr (fun _ _ => rfl)] at e
  rw [← e, ← List.length_map (as := ns) (f := vN)]
  refine el_lcT _ _ h hx (by rw [List.length_map]; omega) hw (fun i x H1 e1 hi => fun H2 e2 Q q => q H2 (Ex.refl _)) (fun i x H1 e1 hi _ => ?_)
  rw [List.getElem?_map] at hi
  obtain ⟨y, hy, rfl⟩ := Option.map_eq_some_iff.mp hi
  rw [getD_of hy]
  exact he y H1 e1 (List.mem_of_getElem? hy)
theorem et_yes : EvT tYes σ H true := fun H2 e2 Q q => q H2 (Ex.refl _)
/-- a new list handed on as a call's only argument -/
theorem ev_cbL {r : List V → Hp → VK → Prop} {z : V} {xs : List V} (h : EvL te σ H xs) (hr : ∀ p H1, Ex H H1 → H1 p = some (.lst xs) → RC r [.ref p] H1 z) : Ev (tCB r (tCons te tNil)) σ H z := by
  intro H1 e1 Q q
  refine h H1 e1 _ fun p H2 hp e2 hx => ?_
  exact hr p H2 (e1.trans e2) hx H2 (Ex.refl _) Q fun H3 e3 => q H3 (e2.trans e3)
theorem rc_any {p : Addr} {bs : List Bool} (h : H p = some (.lst (bs.map V.bl))) : RC (rAny K) [.ref p] H (.bl (bs.any id)) := fun H1 e1 Q q => ⟨p, bs, rfl, SqL.of (e1 _ _ h), q H1 (Ex.refl _)⟩
theorem rc_all {p : Addr} {bs : List Bool} (h : H p = some (.lst (bs.map V.bl))) : RC (rAll K) [.ref p] H (.bl (bs.all id)) := fun H1 e1 Q q => ⟨p, bs, rfl, SqL.of (e1 _ _ h), q H1 (Ex.refl _)⟩
/-- any([f(one) for one in persons]) -/
theorem ev_anyL {a : Addr} {ns : List Nat} {j : Nat} {vs : List Nat} (f : Nat → Bool) (h : Ev tl σ H (.ref a)) (hx : SqL K H a (ns.map vN)) (hz : ns.length ≤ 1000) (hw : ∀ x, wipe ((wipe σ vs).set j (some x)) vs = wipe σ vs)
    (he : ∀ (i : Nat) H1, Ex H H1 → i ∈ ns → Ev te ((wipe σ vs).set j (some (vN i))) H1 (.bl (f i))) : Ev (tCB (rAny K) (tCons (tLc (iList K tl) (gName j) tYes te vs) tNil)) σ H (.bl (ns.any f)) := by
  have e : ns.any f = (ns.map f).any id := by rw [List.any_map]; rfl
  rw [e]
  refine ev_cbL (el_mapL (fun i => .bl (f i)) h hx hz hw he) fun p H1 e1 hp => rc_any ?_
  rw [List.map_map]; exact hp
theorem ev_anyT {a : Addr} {ns : List Nat} {j : Nat} {vs : List Nat} (f : Nat → Bool) (h : Ev tl σ H (.ref a)) (hx : SqT K H a (ns.map vN)) (hz : ns.length ≤ 1000) (hw : ∀ x, wipe ((wipe σ vs).set j (some x)) vs = wipe σ vs)
    (he : ∀ (i : Nat) H1, Ex H H1 → i ∈ ns → Ev te ((wipe σ vs).set j (some (vN i))) H1 (.bl (f i))) : Ev (tCB (rAny K) (tCons (tLc (iTup K tl) (gName j) tYes te vs) tNil)) σ H (.bl (ns.any f)) := by
  have e : ns.any f = (ns.map f).any id := by rw [List.any_map]; rfl
  rw [e]
  refine ev_cbL (el_mapT (fun i => .bl (f i)) h hx hz hw he) fun p H1 e1 hp => rc_any ?_
  rw [List.map_map]; exact hp
theorem ev_allL {a : Addr} {ns : List Nat} {j : Nat} {vs : List Nat} (f : Nat → Bool) (h : Ev tl σ H (.ref a)) (hx : SqL K H a (ns.map vN)) (hz : ns.length ≤ 1000) (hw : ∀ x, wipe ((wipe σ vs).set j (some x)) vs = wipe σ vs)
    (he : ∀ (i : Nat) H1, Ex H H1 → i ∈ ns → Ev te ((wipe σ vs).set j (some (vN i))) H1 (.bl (f i))) : Ev (tCB (rAll K) (tCons (tLc (iList K tl) (gName j) tYes te vs) tNil)) σ H (.bl (ns.all f)) := by
  have e : ns.all f = (ns.map f).all id := by rw [List.all_map]; rfl
  rw [e]
  refine ev_cbL (el_mapL (fun i => .bl (f i)) h hx hz hw he) fun p H1 e1 hp => rc_all ?_
  rw [List.map_map]; exact hp
theorem ev_allT {a : Addr} {ns : List Nat} {j : Nat} {vs : List Nat} (f : Nat → Bool) (h : Ev tl σ H (.ref a)) (hx : SqT K H a (ns.map vN)) (hz : ns.length ≤ 1000) (hw : ∀ x, wipe ((wipe σ vs).set j (some x)) vs = wipe σ vs)
    (he : ∀ (i : Nat) H1, Ex H H1 → i ∈ ns → Ev te ((wipe σ vs).set j (some (vN i))) H1 (.bl (f i))) : Ev (tCB (rAll K) (tCons (tLc (iTup K tl) (gName j) tYes te vs) tNil)) σ H (.bl (ns.all f)) := by
  have e : ns.all f = (ns.map f).all id := by rw [List.all_map]; rfl
  rw [e]
  refine ev_cbL (el_mapT (fun i => .bl (f i)) h hx hz hw he) fun p H1 e1 hp => rc_all ?_
  rw [List.map_map]; exact hp
/-- heights[one], part[one] -/
theorem ev_hts {i : Nat} {ta tb : TE} {u : V} {hs : List Int} (ha : Ev ta σ H u) (hb : Ev tb σ H (vN i)) (h : HtsAt H u hs) (hi : i < hs.length) : Ev (tOp (rIxT K) ta tb) σ H (.int (at0 hs i)) := by
  obtain ⟨a, rfl, hh⟩ := h
  exact ev_op ha hb (rv_ixT (SqT.of hh) (atI_nat (hts_get hi)))
theorem ev_part {i : Nat} {ta tb : TE} {u : V} {part : Part} (ha : Ev ta σ H u) (hb : Ev tb σ H (vN i)) (h : PartAt H u part) (hi : i < part.length) : Ev (tOp (rIxT K) ta tb) σ H (oV (pAt part i)) := by
  obtain ⟨a, rfl, hh⟩ := h
  exact ev_op ha hb (rv_ixT (SqT.of hh) (atI_nat (part_get hi)))
theorem ev_inL {i : Nat} {ta tb : TE} {p : Addr} {ns : List Nat} (ha : Ev ta σ H (vN i)) (hb : Ev tb σ H (.ref p)) (h : SqL K H p (ns.map vN)) : Ev (tOp (rIn K false) ta tb) σ H (.bl (decide (i ∈ ns))) := by
  have e := ev_op ha hb (rv_isL h rfl (flat_N ns))
  rw [inV_N] at e
  exact e
theorem ev_inT {i : Nat} {ta tb : TE} {p : Addr} {ns : List Nat} (ha : Ev ta σ H (vN i)) (hb : Ev tb σ H (.ref p)) (h : SqT K H p (ns.map vN)) : Ev (tOp (rIn K false) ta tb) σ H (.bl (decide (i ∈ ns))) := by
  have e := ev_op ha hb (rv_isT h rfl (flat_N ns))
  rw [inV_N] at e
  exact e
theorem ev_niL {i : Nat} {ta tb : TE} {p : Addr} {ns : List Nat} (ha : Ev ta σ H (vN i)) (hb : Ev tb σ H (.ref p)) (h : SqL K H p (ns.map vN)) : Ev (tOp (rIn K true) ta tb) σ H (.bl (!decide (i ∈ ns))) := by
  have e := ev_op ha hb (rv_niL h rfl (flat_N ns))
  rw [inV_N] at e
  exact e
theorem ev_niT {i : Nat} {ta tb : TE} {p : Addr} {ns : List Nat} (ha : Ev ta σ H (vN i)) (hb : Ev tb σ H (.ref p)) (h : SqT K H p (ns.map vN)) : Ev (tOp (rIn K true) ta tb) σ H (.bl (!decide (i ∈ ns))) := by
  have e := ev_op ha hb (rv_niT h rfl (flat_N ns))
  rw [inV_N] at e
  exact e
theorem ev_eqI {i j : Int} {ta tb : TE} (ha : Ev ta σ H (.int i)) (hb : Ev tb σ H (.int j)) : Ev (tOp rEq ta tb) σ H (.bl (decide (i = j))) := by
  have e := ev_op ha hb (rv_eq (H := H) (x := .int i) (y := .int j) rfl)
  rw [show decide (V.int i = V.int j) = decide (i = j) by rw [dec_int]; exact (Bool.beq_eq_decide_eq i j)] at e
  exact e
theorem ev_neI {i j : Int} {ta tb : TE} (ha : Ev ta σ H (.int i)) (hb : Ev tb σ H (.int j)) : Ev (tOp rNe ta tb) σ H (.bl (!decide (i = j))) := by
  have e := ev_op ha hb (rv_ne (H := H) (x := .int i) (y := .int j) rfl)
  rw [show decide (V.int i = V.int j) = decide (i = j) by rw [dec_int]; exact (Bool.beq_eq_decide_eq i j)] at e
  exact e
end
/-! ### sorted persons -/
theorem perm_cast {ns : List Int} {found : List Nat} (h : ns.Perm (found.map fun i : Nat => (i : Int))) : ∃ l : List Nat, l.Perm found ∧ ns = l.map fun i : Nat => (i : Int) := by
  refine ⟨ns.map Int.toNat, ?_, ?_⟩
  · have := h.map Int.toNat
    rw [List.map_map] at this
    have e : found.map (Int.toNat ∘ fun i : Nat => (i : Int)) = found := by
      rw [show (Int.toNat ∘ fun i : Nat => (i : Int)) = id from funext fun i => Int.toNat_natCast i, List.map_id]
    rw [e] at this
    exact this
  · rw [List.map_map]
    have : ∀ x ∈ ns, (((fun i : Nat => (i : Int)) ∘ Int.toNat) x) = x := fun x hx => by
      obtain ⟨i, _, rfl⟩ := List.mem_map.mp (h.mem_iff.mp hx)
      show ((Int.toNat (i : Int) : Nat) : Int) = i
      rw [Int.toNat_natCast]
    rw [List.map_congr_left this, List.map_id']
end Hv
end
section
set_option Elab.async false
set_option linter.all false
set_option maxRecDepth 100000
set_option maxHeartbeats 4000000
namespace Hv
open PySem PySem.Spec PyProof.Rows L2 Evl
section
variable {P : Program} {w : World} {K : PySem.W.Frag} {mg : Str → Option Value} {base : Heap} {f : Addr} {fd : FuncData}
/-! ### is_int -/
theorem sc_is_int : FnScope ["value"] ["value"] (defScope (topS 10)) := ⟨rfl, rfl, rfl, by decide +kernel, rfl, by decide +kernel, by decide +kernel⟩
def spIsInt : Sp := fun vs H Q _ => ∃ i : Int, vs = [.int i] ∧ Q (.bl true) H
theorem ok_is_int (nb : NoB mg) (F : Fun K "is_int" "is_int" (topS 10) f fd) (g : mg "is_int" = some (.ref f)) : Has P w K mg base 1 "is_int" ["value"] spIsInt := by
  refine .mk' F g (F.binds fun _ _ _ _ _ _ us hl => match us, hl with | [_], _ => rfl) (F.ok sc_is_int (fun vs H Q E h => ?_) (fun cdv A outer s H vs Q E hr h => ?_))
  · obtain ⟨i, rfl, _⟩ := h
    rfl
  · obtain ⟨i, rfl, q⟩ := h
    refine ⟨_, (pss_one (ps_ret (pe_and (pe_callB call_isi (by rfl) nb.isinstance_ (by decide +kernel) (pa_cons (pv 0) (pa_cons (pe_bltn (v := .ty "int") (by rfl) nb.int_ (by decide +kernel) rfl) pa_nil))) (pe_one (pe_not (pe_callB call_isi (by rfl) nb.isinstance_ (by decide +kernel) (pa_cons (pv 0) (pa_cons (pe_bltn (v := .ty "bool") (by rfl) nb.bool_ (by decide +kernel) rfl) pa_nil)))))))), ?_⟩
    refine ⟨.int i, rfl, ⟨_, _, _, _, _, rfl, .ty "int", .base (.int i), kit_ty (by decide +kernel), ⟨true, rfl, ?_⟩⟩⟩
    refine ⟨.int i, rfl, ⟨_, _, _, _, _, rfl, .ty "bool", .base (.int i), kit_ty (by decide +kernel), ⟨false, rfl, q⟩⟩⟩
/-! ### is_from -/
theorem sc_is_from : FnScope ["value", "least", "most"] ["value", "least", "most"] (defScope (topS 11)) := ⟨rfl, rfl, rfl, by decide +kernel, rfl, by decide +kernel, by decide +kernel⟩
def spIsFrom : Sp := fun vs H Q _ => ∃ i a b : Int, vs = [.int i, .int a, .int b] ∧ Q (.bl (decide (a ≤ i ∧ i ≤ b))) H
theorem ok_is_from (nb : NoB mg) (c_is_int : Has P w K mg base 1 "is_int" ["value"] spIsInt) (F : Fun K "is_from" "is_from" (topS 11) f fd) (g : mg "is_from" = some (.ref f)) : Has P w K mg base 2 "is_from" ["value", "least", "most"] spIsFrom := by
  refine .mk' F g (F.binds fun _ _ _ _ _ _ us hl => match us, hl with | [_, _, _], _ => rfl) (F.ok sc_is_from (fun vs H Q E h => ?_) (fun cdv A outer s H vs Q E hr h => ?_))
  · obtain ⟨i, a, b, rfl, _⟩ := h
    rfl
  · obtain ⟨i, a, b, rfl, q⟩ := h
    refine ⟨_, (pss_one (ps_ret (pe_and (pe_has c_is_int (hr.mono (by decide)) (pa_cons (pv 0) pa_nil)) (pe_one (pe_chain op_le op_le (pv 1) (pv 0) (pv 2)))))), ?_⟩
    refine ⟨.int i, rfl, i, rfl, true, rfl, .int a, rfl, .int i, rfl, _, _, rfl, rfl, _, rfl, ?_⟩
    by_cases h1 : a ≤ i
    · rw [decide_eq_true h1]
      refine ⟨.int b, rfl, _, _, rfl, rfl, ?_⟩
      have e : decide (a ≤ i ∧ i ≤ b) = decide (i ≤ b) := by simp [h1]
      rw [e] at q
      exact q
    · rw [decide_eq_false h1]
      have e : decide (a ≤ i ∧ i ≤ b) = false := by simp [h1]
      rw [e] at q
      exact q
/-! ### is_height -/
theorem sc_is_height : FnScope ["value"] ["value"] (defScope (topS 12)) := ⟨rfl, rfl, rfl, by decide +kernel, rfl, by decide +kernel, by decide +kernel⟩
def spIsHeight : Sp := fun vs H Q _ => ∃ i : Int, vs = [.int i] ∧ Q (.bl (decide (-1000 ≤ i ∧ i ≤ 1000))) H
theorem ok_is_height {tk : Tok} (nb : NoB mg) (mMOST_HEIGHT : mg "MOST_HEIGHT" = some (.int 1000 tk)) (c_is_from : Has P w K mg base 2 "is_from" ["value", "least", "most"] spIsFrom) (F : Fun K "is_height" "is_height" (topS 12) f fd) (g : mg "is_height" = some (.ref f)) :
    Has P w K mg base 3 "is_height" ["value"] spIsHeight := by
  refine .mk' F g (F.binds fun _ _ _ _ _ _ us hl => match us, hl with | [_], _ => rfl) (F.ok sc_is_height (fun vs H Q E h => ?_) (fun cdv A outer s H vs Q E hr h => ?_))
  · obtain ⟨i, rfl, _⟩ := h
    rfl
  · obtain ⟨i, rfl, q⟩ := h
    refine ⟨_, (pss_one (ps_ret (pe_has c_is_from (hr.mono (by decide)) (pa_cons (pv 0) (pa_cons (pe_un un_neg (pe_glob (v := .int 1000) rfl mMOST_HEIGHT ⟨_, rfl⟩)) (pa_cons (pe_glob (v := .int 1000) rfl mMOST_HEIGHT ⟨_, rfl⟩) pa_nil)))))), ?_⟩
    exact ⟨.int i, rfl, 1000, rfl, i, -1000, 1000, rfl, q⟩
/-! ### is_tie -/
theorem sc_is_tie : FnScope ["value", "many"] ["value", "many"] (defScope (topS 13)) := ⟨rfl, rfl, rfl, by decide +kernel, rfl, by decide +kernel, by decide +kernel⟩
def spIsTie : Sp := fun vs H Q _ => ∃ (p : Addr) (a b n : Nat), vs = [.ref p, vN n] ∧ H p = some (.tup [vN a, vN b]) ∧ a < b ∧ b < n ∧ Q (.bl true) H
theorem ok_is_tie (nb : NoB mg) (c_is_from : Has P w K mg base 2 "is_from" ["value", "least", "most"] spIsFrom) (F : Fun K "is_tie" "is_tie" (topS 13) f fd) (g : mg "is_tie" = some (.ref f)) : Has P w K mg base 3 "is_tie" ["value", "many"] spIsTie := by
  refine .mk' F g (F.binds fun _ _ _ _ _ _ us hl => match us, hl with | [_, _], _ => rfl) (F.ok sc_is_tie (fun vs H Q E h => ?_) (fun cdv A outer s H vs Q E hr h => ?_))
  · obtain ⟨p, a, b, n, rfl, _⟩ := h
    rfl
  · obtain ⟨p, a, b, n, rfl, hp, hab, hbn, q⟩ := h
    refine ⟨_, (pss_cons (ps_if (PW.pt (pw_or (pt_not (pt_val (pe_callB call_isi (by rfl) nb.isinstance_ (by decide +kernel) (pa_cons (pv 0) (pa_cons (pe_bltn (v := .ty "tuple") (by rfl) nb.tuple_ (by decide +kernel) rfl) pa_nil))))) (pw_or1 (pt_cmpR op_ne (pe_callB call_len_seq (by rfl) nb.len_ (by decide +kernel) (pa_cons (pv 0) pa_nil)) pe_int (nomark _))))) (pss_one (ps_ret pe_bl)) pss_nil)
      (pss_one (ps_ret (pe_and (pe_has c_is_from (hr.mono (by decide)) (pa_cons (pe_ix ix_tup (pv 0) pe_int (fun _ _ => rfl)) (pa_cons pe_int (pa_cons (pe_op op_sub (pv 1) pe_int) pa_nil)))) (pe_and (pe_has c_is_from (hr.mono (by decide)) (pa_cons (pe_ix ix_tup (pv 0) pe_int (fun _ _ => rfl)) (pa_cons pe_int (pa_cons (pe_op op_sub (pv 1) pe_int) pa_nil)))) (pe_one (pe_cmpR op_lt (pe_ix ix_tup (pv 0) pe_int (fun _ _ => rfl)) (pe_ix ix_tup (pv 0) pe_int (fun _ _ => rfl)) (nomark _)))))))), ?_⟩
    have hT : SqT K H p [vN a, vN b] := SqT.of hp
    refine ⟨.ref p, rfl, ⟨_, _, _, _, _, rfl, .ty "tuple", .base (.tup hp), kit_ty (by decide +kernel), ⟨true, rfl, ?_⟩⟩⟩
    refine ⟨.ref p, rfl, p, _, rfl, .inr hT, rfl, false, rfl, ?_⟩
    refine ⟨.ref p, rfl, p, _, 0, vN a, rfl, rfl, hT, atI_nat (j := 0) rfl, vN n, rfl, _, 1, rfl, rfl, a, 0, n - 1, rfl, _, rfl, ?_⟩
    rw [decide_eq_true (show (0 : Int) ≤ a ∧ (a : Int) ≤ n - 1 by omega)]
    refine ⟨.ref p, rfl, p, _, 1, vN b, rfl, rfl, hT, atI_nat (j := 1) rfl, vN n, rfl, _, 1, rfl, rfl, b, 0, n - 1, rfl, _, rfl, ?_⟩
    rw [decide_eq_true (show (0 : Int) ≤ b ∧ (b : Int) ≤ n - 1 by omega)]
    refine ⟨.ref p, rfl, p, _, 0, vN a, rfl, rfl, hT, atI_nat (j := 0) rfl, .ref p, rfl, p, _, 1, vN b, rfl, rfl, hT, atI_nat (j := 1) rfl, _, _, rfl, rfl, ?_⟩
    show Q (.bl (decide ((a : Int) < (b : Int)))) H
    rw [decide_eq_true (show (a : Int) < b by omega)]
    exact q
/-! ### need_web -/
theorem lex_le_no {a b c d : Nat} (h : a < c ∨ (a = c ∧ b < d)) : Ob.lexAt (fun j => decide (([(c : Int), (d : Int)] : List Int).getD j 0 = ([(a : Int), (b : Int)] : List Int).getD j 0)) (fun j => decide (([(c : Int), (d : Int)] : List Int).getD j 0 ≤ ([(a : Int), (b : Int)] : List Int).getD j 0)) (decide ((2 : Nat) ≤ 2)) 0 2 = false := by
  rw [Ob.lexAt_succ, Ob.lexAt_succ, Ob.lexAt_zero]
  rcases h with h | ⟨h1, h2⟩
  · have e : decide (([(c : Int), (d : Int)] : List Int).getD 0 0 = ([(a : Int), (b : Int)] : List Int).getD 0 0) = false := decide_eq_false (by show ¬ (c : Int) = a; omega)
    rw [e, if_neg Bool.false_ne_true]
    exact decide_eq_false (by show ¬ (c : Int) ≤ a; omega)
  · have e : decide (([(c : Int), (d : Int)] : List Int).getD 0 0 = ([(a : Int), (b : Int)] : List Int).getD 0 0) = true := decide_eq_true (by show (c : Int) = a; omega)
    have e2 : decide (([(c : Int), (d : Int)] : List Int).getD 1 0 = ([(a : Int), (b : Int)] : List Int).getD 1 0) = false := decide_eq_false (by show ¬ (d : Int) = b; omega)
    rw [e, if_pos rfl, show (0 + 1) = 1 from rfl, e2, if_neg Bool.false_ne_true]
    exact decide_eq_false (by show ¬ (d : Int) ≤ b; omega)
theorem sc_need_web : FnScope ["value", "many", "ties", "index", "tie"] ["value"] (defScope (topS 14)) := ⟨rfl, rfl, rfl, by decide +kernel, rfl, by decide +kernel, by decide +kernel⟩
def spNeedWeb : Sp := fun vs H Q _ => ∃ (v : V) (n : Nat) (T : Ties), vs = [v] ∧ WebAt H v n T ∧ WebOk n T ∧ RetV .non H Q
theorem ok_need_web {tk : Tok} (nb : NoB mg) (mMOST_PERSONS : mg "MOST_PERSONS" = some (.int 8 tk)) (c_is_from : Has P w K mg base 2 "is_from" ["value", "least", "most"] spIsFrom) (c_is_tie : Has P w K mg base 3 "is_tie" ["value", "many"] spIsTie)
    (F : Fun K "need_web" "need_web" (topS 14) f fd) (g : mg "need_web" = some (.ref f)) : Has P w K mg base 4 "need_web" ["value"] spNeedWeb := by
  refine .mk' F g (F.binds fun _ _ _ _ _ _ us hl => match us, hl with | [_], _ => rfl) (F.ok sc_need_web (fun vs H Q E h => ?_) (fun cdv A outer s H vs Q E hr h => ?_))
  · obtain ⟨v, n, T, rfl, _⟩ := h
    rfl
  · obtain ⟨v, n, T, rfl, ⟨a, b, ps, rfl, ha, hb, hps⟩, W, q⟩ := h
    refine ⟨_, (pss_cons (ps_if (PW.pt (pw_or (pt_not (pt_val (pe_callB call_isi (by rfl) nb.isinstance_ (by decide +kernel) (pa_cons (pv 0) (pa_cons (pe_bltn (v := .ty "tuple") (by rfl) nb.tuple_ (by decide +kernel) rfl) pa_nil))))) (pw_or1 (pt_cmpR op_ne (pe_callB call_len_seq (by rfl) nb.len_ (by decide +kernel) (pa_cons (pv 0) pa_nil)) pe_int (nomark _))))) (pss_one ps_never) pss_nil)
      (pss_cons (ps_asg (pv 0) (pg_tup rfl (pgs_cons (pg_name (i := 1) sc_need_web.nd rfl (Or.inl rfl)) (pgs_cons (pg_name (i := 2) sc_need_web.nd rfl (Or.inl rfl)) pgs_nil))))
      (pss_cons (ps_if (PW.pt (pw_or (pt_not (pt_val (pe_has c_is_from (hr.mono (by decide)) (pa_cons (pv 1) (pa_cons pe_int (pa_cons (pe_glob (v := .int 8) rfl mMOST_PERSONS ⟨_, rfl⟩) pa_nil)))))) (pw_or1 (pt_not (pt_val (pe_callB call_isi (by rfl) nb.isinstance_ (by decide +kernel) (pa_cons (pv 2) (pa_cons (pe_bltn (v := .ty "tuple") (by rfl) nb.tuple_ (by decide +kernel) rfl) pa_nil)))))))) (pss_one ps_never) pss_nil)
      (pss_one (ps_for PassesOwn.never rfl (pi_enumT (by rfl) nb.enumerate_ (pa_cons (pv 2) pa_nil)) (pg_tup rfl (pgs_cons (pg_name (i := 3) sc_need_web.nd rfl (Or.inl rfl)) (pgs_cons (pg_name (i := 4) sc_need_web.nd rfl (Or.inl rfl)) pgs_nil)))
        (pss_one (ps_if (PW.pt (pw_or (pt_not (pt_val (pe_has c_is_tie (hr.mono (by decide)) (pa_cons (pv 4) (pa_cons (pv 1) pa_nil))))) (pw_or1 (PW.pt (pw_and (pt_cmpR op_gt (pv 3) pe_int (nomark _)) (pw_and1 (pt_cmpR (op_leT hr.units0) (pv 4) (pe_ix ix_tup (pv 2) (pe_op op_sub (pv 3) pe_int) (fun _ _ => rfl)) (nomark _)))))))) (pss_one ps_never) pss_nil))))))), ?_⟩
    have hA : SqT K H a [vN n, .ref b] := SqT.of ha
    have hB : SqT K H b (ps.map V.ref) := SqT.of hb
    have hlen : ps.length = T.length := Paired.length hps
    -- not a pair: no
    refine ⟨.ref a, rfl, ⟨_, _, _, _, _, rfl, .ty "tuple", .base (.tup ha), kit_ty (by decide +kernel), ⟨true, rfl, ?_⟩⟩⟩
    refine ⟨.ref a, rfl, a, _, rfl, .inr hA, rfl, false, rfl, ?_⟩
    -- many, ties = value
    refine ⟨.ref a, rfl, a, _, rfl, hA, rfl, vN n, [.ref b], rfl, .ref b, [], rfl, rfl, ?_⟩
    -- not is_from(..) or not isinstance(..): no
    refine ⟨vN n, rfl, n, 1, 8, rfl, true, ?_, ?_⟩
    · rw [decide_eq_true (show (1 : Int) ≤ n ∧ (n : Int) ≤ 8 by have := W.pos; have := W.few; omega)]
    refine ⟨.ref b, rfl, ⟨_, _, _, _, _, rfl, .ty "tuple", .base (.tup hb), kit_ty (by decide +kernel), ⟨true, rfl, ?_⟩⟩⟩
    -- the loop
    refine ⟨.ref b, rfl, b, ps.map V.ref, rfl, hB, for_enumT (xs := ps.map V.ref) (fun i σ H' => Ex H H' ∧ ∃ y3 y4, σ = [some (.ref a), some (vN n), some (.ref b), y3, y4]) ⟨Ex.refl H, none, none, rfl⟩ (fun i σ H' _ h => sq1 h.1 hb) (fun i x T σ H' hx hP hT => ?_) (fun σ H' hP => q H' hP.1)⟩
    obtain ⟨e1, y3, y4, rfl⟩ := hP
    rw [List.getElem?_map] at hx
    obtain ⟨p, hp, rfl⟩ := Option.map_eq_some_iff.mp hx
    obtain ⟨t, ht, htp⟩ := paired_getL hps hp
    have e2 := e1.trans (ex_new (o := .tup [.int (i : Nat), .ref p]) hT)
    have hB2 := sq1 (K := K) e2 hb
    have htp2 := e2 _ _ htp
    refine ⟨T, _, rfl, SqT.of upd_same, rfl, vN i, [.ref p], rfl, .ref p, [], rfl, rfl, ?_⟩
    -- is_tie(tie, many)
    have tok := W.tie t (List.mem_of_getElem? ht)
    refine ⟨.ref p, rfl, vN n, rfl, p, t.1, t.2, n, rfl, htp2, tok.1, tok.2, true, rfl, ?_⟩
    refine ⟨vN i, rfl, _, _, rfl, rfl, decide ((0 : Int) < i), rfl, ?_⟩
    by_cases hi : 0 < i
    · rw [decide_eq_true (show (0 : Int) < i by omega)]
      have hi1 : i - 1 < ps.length := by
        have := (List.getElem?_eq_some_iff.mp hp).1
        omega
      obtain ⟨t0, ht0, htp0⟩ := paired_getL hps (List.getElem?_eq_getElem hi1)
      have lt : pairLt t0 t := by
        obtain ⟨h1, h1'⟩ := List.getElem?_eq_some_iff.mp ht0
        obtain ⟨h2, h2'⟩ := List.getElem?_eq_some_iff.mp ht
        have := List.pairwise_iff_getElem.mp W.srt (i - 1) i h1 h2 (by omega)
        rw [h1', h2'] at this
        exact this
      refine ⟨.ref p, rfl, .ref b, rfl, vN i, rfl, _, 1, rfl, rfl, b, _, (i : Int) - 1, .ref ps[i - 1], rfl, rfl, hB2, ?_, ?_⟩
      · rw [show ((i : Int) - 1) = ((i - 1 : Nat) : Int) by omega]
        exact atI_nat (by rw [List.getElem?_map, List.getElem?_eq_getElem hi1]; rfl)
      refine ⟨p, ps[i - 1], [(t.1 : Int), (t.2 : Int)], [(t0.1 : Int), (t0.2 : Int)], rfl, rfl, SqT.of htp2, SqT.of (e2 _ _ htp0), false, congrArg V.bl (lex_le_no lt), ?_⟩
      exact ⟨e2, _, _, rfl⟩
    · rw [decide_eq_false (show ¬ (0 : Int) < i by omega)]
      exact ⟨e2, _, _, rfl⟩
/-! ### need_heights -/
theorem sc_need_heights : FnScope ["web", "value", "index", "height"] ["web", "value"] (defScope (topS 15)) := ⟨rfl, rfl, rfl, by decide +kernel, rfl, by decide +kernel, by decide +kernel⟩
def spNeedHeights : Sp := fun vs H Q _ => ∃ (v u : V) (n : Nat) (T : Ties) (hs : List Int), vs = [v, u] ∧ WebAt H v n T ∧ HtsAt H u hs ∧ hs.length = n ∧ (∀ x ∈ hs, -1000 ≤ x ∧ x ≤ 1000) ∧ RetV .non H Q
theorem ok_need_heights (nb : NoB mg) (c_is_height : Has P w K mg base 3 "is_height" ["value"] spIsHeight) (F : Fun K "need_heights" "need_heights" (topS 15) f fd) (g : mg "need_heights" = some (.ref f)) : Has P w K mg base 4 "need_heights" ["web", "value"] spNeedHeights := by
  refine .mk' F g (F.binds fun _ _ _ _ _ _ us hl => match us, hl with | [_, _], _ => rfl) (F.ok sc_need_heights (fun vs H Q E h => ?_) (fun cdv A outer s H vs Q E hr h => ?_))
  · obtain ⟨v, u, n, T, hs, rfl, _⟩ := h
    rfl
  · obtain ⟨v, u, n, T, hs, rfl, ⟨a, b, ps, rfl, ha, hb, hps⟩, ⟨c, rfl, hc⟩, hl, hh, q⟩ := h
    refine ⟨_, (pss_cons (ps_if (PW.pt (pw_or (pt_not (pt_val (pe_callB call_isi (by rfl) nb.isinstance_ (by decide +kernel) (pa_cons (pv 1) (pa_cons (pe_bltn (v := .ty "tuple") (by rfl) nb.tuple_ (by decide +kernel) rfl) pa_nil))))) (pw_or1 (pt_cmpR op_ne (pe_callB call_len_seq (by rfl) nb.len_ (by decide +kernel) (pa_cons (pv 1) pa_nil)) (pe_ix ix_tup (pv 0) pe_int (fun _ _ => rfl)) (nomark _))))) (pss_one ps_never) pss_nil)
      (pss_one (ps_for PassesOwn.never rfl (pi_enumT (by rfl) nb.enumerate_ (pa_cons (pv 1) pa_nil)) (pg_tup rfl (pgs_cons (pg_name (i := 2) sc_need_heights.nd rfl (Or.inl rfl)) (pgs_cons (pg_name (i := 3) sc_need_heights.nd rfl (Or.inl rfl)) pgs_nil)))
        (pss_one (ps_if (pt_not (pt_val (pe_has c_is_height (hr.mono (by decide)) (pa_cons (pv 3) pa_nil)))) (pss_one ps_never) pss_nil))))), ?_⟩
    refine ⟨.ref c, rfl, ⟨_, _, _, _, _, rfl, .ty "tuple", .base (.tup hc), kit_ty (by decide +kernel), ⟨true, rfl, ?_⟩⟩⟩
    refine ⟨.ref c, rfl, c, _, rfl, .inr (SqT.of hc), .ref a, rfl, a, _, 0, vN n, rfl, rfl, SqT.of ha, atI_nat (j := 0) rfl, rfl, false, ?_, ?_⟩
    · rw [List.length_map, hl]
      rw [decide_eq_true rfl]
      rfl
    refine ⟨.ref c, rfl, c, _, rfl, SqT.of hc, for_enumT (xs := hs.map V.int) (fun i σ H' => Ex H H' ∧ ∃ y3 y4, σ = [some (.ref a), some (.ref c), y3, y4]) ⟨Ex.refl H, none, none, rfl⟩ (fun i σ H' _ h => sq1 h.1 hc) (fun i x T σ H' hx hP hT => ?_) (fun σ H' hP => q H' hP.1)⟩
    obtain ⟨e1, y3, y4, rfl⟩ := hP
    rw [List.getElem?_map] at hx
    obtain ⟨z, hz, rfl⟩ := Option.map_eq_some_iff.mp hx
    have hzz := hh z (List.mem_of_getElem? hz)
    refine ⟨T, _, rfl, SqT.of upd_same, rfl, vN i, [.int z], rfl, .int z, [], rfl, rfl, ?_⟩
    refine ⟨.int z, rfl, z, rfl, true, ?_, ?_⟩
    · rw [decide_eq_true hzz]
    · exact ⟨e1.trans (ex_new hT), _, _, rfl⟩
/-! ### need_start, need_part, need_half -/
theorem sc_need_start : FnScope ["web", "heights"] ["web", "heights"] (defScope (topS 29)) := ⟨rfl, rfl, rfl, by decide +kernel, rfl, by decide +kernel, by decide +kernel⟩
def spNeedStart : Sp := fun vs H Q _ => ∃ (v u : V) (n : Nat) (T : Ties) (hs : List Int), vs = [v, u] ∧ WebAt H v n T ∧ WebOk n T ∧ HtsAt H u hs ∧ hs.length = n ∧ (∀ x ∈ hs, -1000 ≤ x ∧ x ≤ 1000) ∧ RetV .non H Q
theorem ok_need_start (c_need_web : Has P w K mg base 4 "need_web" ["value"] spNeedWeb) (c_need_heights : Has P w K mg base 4 "need_heights" ["web", "value"] spNeedHeights) (F : Fun K "need_start" "need_start" (topS 29) f fd) (g : mg "need_start" = some (.ref f)) : Has P w K mg base 5 "need_start" ["web", "heights"] spNeedStart := by
  refine .mk' F g (F.binds fun _ _ _ _ _ _ us hl => match us, hl with | [_, _], _ => rfl) (F.ok sc_need_start (fun vs H Q E h => ?_) (fun cdv A outer s H vs Q E hr h => ?_))
  · obtain ⟨v, u, n, T, hs, rfl, _⟩ := h
    rfl
  · obtain ⟨v, u, n, T, hs, rfl, hw, W, hh, hl, hb, q⟩ := h
    refine ⟨_, (pss_cons (ps_expr (pe_has c_need_web (hr.mono (by decide)) (pa_cons (pv 0) pa_nil)))
      (pss_one (ps_expr (pe_has c_need_heights (hr.mono (by decide)) (pa_cons (pv 0) (pa_cons (pv 1) pa_nil)))))), ?_⟩
    refine ⟨v, rfl, v, n, T, rfl, hw, W, fun H1 e1 => ?_⟩
    exact ⟨v, rfl, u, rfl, v, u, n, T, hs, rfl, hw.ex (.of e1), hh.ex (.of e1), hl, hb, fun H2 e2 => q H2 (e1.trans e2)⟩
theorem sc_need_part : FnScope ["web", "value", "index", "height"] ["web", "value"] (defScope (topS 31)) := ⟨rfl, rfl, rfl, by decide +kernel, rfl, by decide +kernel, by decide +kernel⟩
def spNeedPart : Sp := fun vs H Q _ => ∃ (v u : V) (n : Nat) (T : Ties) (part : Part), vs = [v, u] ∧ WebAt H v n T ∧ PartAt H u part ∧ part.length = n ∧ (∀ x, some x ∈ part → -1000 ≤ x ∧ x ≤ 1000) ∧ RetV .non H Q
theorem ok_need_part (nb : NoB mg) (c_is_height : Has P w K mg base 3 "is_height" ["value"] spIsHeight) (F : Fun K "need_part" "need_part" (topS 31) f fd) (g : mg "need_part" = some (.ref f)) : Has P w K mg base 4 "need_part" ["web", "value"] spNeedPart := by
  refine .mk' F g (F.binds fun _ _ _ _ _ _ us hl => match us, hl with | [_, _], _ => rfl) (F.ok sc_need_part (fun vs H Q E h => ?_) (fun cdv A outer s H vs Q E hr h => ?_))
  · obtain ⟨v, u, n, T, part, rfl, _⟩ := h
    rfl
  · obtain ⟨v, u, n, T, part, rfl, ⟨a, b, ps, rfl, ha, hb, hps⟩, ⟨c, rfl, hc⟩, hl, hh, q⟩ := h
    refine ⟨_, (pss_cons (ps_if (PW.pt (pw_or (pt_not (pt_val (pe_callB call_isi (by rfl) nb.isinstance_ (by decide +kernel) (pa_cons (pv 1) (pa_cons (pe_bltn (v := .ty "tuple") (by rfl) nb.tuple_ (by decide +kernel) rfl) pa_nil))))) (pw_or1 (pt_cmpR op_ne (pe_callB call_len_seq (by rfl) nb.len_ (by decide +kernel) (pa_cons (pv 1) pa_nil)) (pe_ix ix_tup (pv 0) pe_int (fun _ _ => rfl)) (nomark _))))) (pss_one ps_never) pss_nil)
      (pss_one (ps_for PassesOwn.never rfl (pi_enumT (by rfl) nb.enumerate_ (pa_cons (pv 1) pa_nil)) (pg_tup rfl (pgs_cons (pg_name (i := 2) sc_need_part.nd rfl (Or.inl rfl)) (pgs_cons (pg_name (i := 3) sc_need_part.nd rfl (Or.inl rfl)) pgs_nil)))
        (pss_one (ps_if (PW.pt (pw_and (pt_cmpR op_notN (pv 3) pe_non (nomark _)) (pw_and1 (pt_not (pt_val (pe_has c_is_height (hr.mono (by decide)) (pa_cons (pv 3) pa_nil))))))) (pss_one ps_never) pss_nil))))), ?_⟩
    refine ⟨.ref c, rfl, ⟨_, _, _, _, _, rfl, .ty "tuple", .base (.tup hc), kit_ty (by decide +kernel), ⟨true, rfl, ?_⟩⟩⟩
    refine ⟨.ref c, rfl, c, _, rfl, .inr (SqT.of hc), .ref a, rfl, a, _, 0, vN n, rfl, rfl, SqT.of ha, atI_nat (j := 0) rfl, rfl, false, ?_, ?_⟩
    · rw [List.length_map, hl]
      rw [decide_eq_true rfl]
      rfl
    refine ⟨.ref c, rfl, c, _, rfl, SqT.of hc, for_enumT (xs := part.map oV) (fun i σ H' => Ex H H' ∧ ∃ y3 y4, σ = [some (.ref a), some (.ref c), y3, y4]) ⟨Ex.refl H, none, none, rfl⟩ (fun i σ H' _ h => sq1 h.1 hc) (fun i x T σ H' hx hP hT => ?_) (fun σ H' hP => q H' hP.1)⟩
    obtain ⟨e1, y3, y4, rfl⟩ := hP
    rw [List.getElem?_map] at hx
    obtain ⟨z, hz, rfl⟩ := Option.map_eq_some_iff.mp hx
    refine ⟨T, _, rfl, SqT.of upd_same, rfl, vN i, [oV z], rfl, oV z, [], rfl, rfl, ?_⟩
    cases z with
    | none => exact ⟨.non, rfl, rfl, false, rfl, e1.trans (ex_new hT), _, _, rfl⟩
    | some z =>
      have hzz := hh z (List.mem_of_getElem? hz)
      refine ⟨.int z, rfl, rfl, true, rfl, .int z, rfl, z, rfl, true, ?_, ?_⟩
      · rw [decide_eq_true hzz]
      · exact ⟨e1.trans (ex_new hT), _, _, rfl⟩
/-- all that the half functions ask of their arguments -/
structure Args3 (H : Hp) (n : Nat) (T : Ties) (hs : List Int) (part : Part) (v u p : V) : Prop where
  web : WebAt H v n T
  ok : WebOk n T
  hts : HtsAt H u hs
  hl : hs.length = n
  hb : ∀ x ∈ hs, -1000 ≤ x ∧ x ≤ 1000
  prt : PartAt H p part
  pl : part.length = n
  pb : ∀ x, some x ∈ part → -1000 ≤ x ∧ x ≤ 1000
theorem Args3.ex {H H' : Hp} {n : Nat} {T : Ties} {hs : List Int} {part : Part} {v u p : V} (e : XT H H') (h : Args3 H n T hs part v u p) : Args3 H' n T hs part v u p := { h with web := h.web.ex e, hts := h.hts.ex e, prt := h.prt.ex e }
theorem sc_need_half : FnScope ["web", "heights", "part"] ["web", "heights", "part"] (defScope (topS 32)) := ⟨rfl, rfl, rfl, by decide +kernel, rfl, by decide +kernel, by decide +kernel⟩
def spNeedHalf : Sp := fun vs H Q _ => ∃ (v u p : V) (n : Nat) (T : Ties) (hs : List Int) (part : Part), vs = [v, u, p] ∧ Args3 H n T hs part v u p ∧ RetV .non H Q
theorem ok_need_half (c_need_start : Has P w K mg base 5 "need_start" ["web", "heights"] spNeedStart) (c_need_part : Has P w K mg base 4 "need_part" ["web", "value"] spNeedPart) (F : Fun K "need_half" "need_half" (topS 32) f fd) (g : mg "need_half" = some (.ref f)) : Has P w K mg base 6 "need_half" ["web", "heights", "part"] spNeedHalf := by
  refine .mk' F g (F.binds fun _ _ _ _ _ _ us hl => match us, hl with | [_, _, _], _ => rfl) (F.ok sc_need_half (fun vs H Q E h => ?_) (fun cdv A outer s H vs Q E hr h => ?_))
  · obtain ⟨v, u, p, n, T, hs, part, rfl, _⟩ := h
    rfl
  · obtain ⟨v, u, p, n, T, hs, part, rfl, A3, q⟩ := h
    refine ⟨_, (pss_cons (ps_expr (pe_has c_need_start (hr.mono (by decide)) (pa_cons (pv 0) (pa_cons (pv 1) pa_nil))))
      (pss_one (ps_expr (pe_has c_need_part (hr.mono (by decide)) (pa_cons (pv 0) (pa_cons (pv 2) pa_nil)))))), ?_⟩
    refine ⟨v, rfl, u, rfl, v, u, n, T, hs, rfl, A3.web, A3.ok, A3.hts, A3.hl, A3.hb, fun H1 e1 => ?_⟩
    exact ⟨v, rfl, p, rfl, v, p, n, T, part, rfl, A3.web.ex (.of e1), A3.prt.ex (.of e1), A3.pl, A3.pb, fun H2 e2 => q H2 (e1.trans e2)⟩
end
end Hv
end
section
set_option Elab.async false
set_option linter.all false
set_option maxRecDepth 100000
set_option maxHeartbeats 4000000
namespace Hv
open PySem PySem.Spec PyProof.Rows L2 Evl
/-- a new list of persons of which R holds | a new tuple of these persons -/
def RetNs (R : List Nat → Prop) (H : Hp) (Q : VK) : Prop := ∀ (p : Addr) (l : List Nat) H2, H p = none → Ex H H2 → H2 p = some (.lst (l.map vN)) → R l → Q (.ref p) H2
def RetTN (l : List Nat) (H : Hp) (Q : VK) : Prop := ∀ (p : Addr) H2, H p = none → Ex H H2 → H2 p = some (.tup (l.map vN)) → Q (.ref p) H2
theorem list_end {α : Type} : ∀ {l : List α}, l ≠ [] → ∃ l' x, l = l' ++ [x]
  | l, h => ⟨l.dropLast, l.getLast h, (List.dropLast_concat_getLast h).symm⟩
theorem take_next {α : Type} {l : List α} {i : Nat} {x : α} (h : l[i]? = some x) : l.take (i + 1) = l.take i ++ [x] := by
  rw [List.take_add_one, h]; rfl
theorem mem_take {α : Type} {l : List α} {i : Nat} {x y : α} (h : l[i]? = some x) : y ∈ l.take (i + 1) ↔ y ∈ l.take i ∨ y = x := by
  rw [take_next h, List.mem_append, List.mem_singleton]
/-- two new lists -/
theorem q_parLL {σ : L2.St} {H : Hp} {ta tb : TE} {xs ys : List V} {i j : Nat} {D : Ends} {tz : TS} (ha : EvL ta σ H xs) (hb : EvL tb σ H ys)
    (k : ∀ p q H1, H p = none → H q = none → p ≠ q → Ex H H1 → H1 p = some (.lst xs) → H1 q = some (.lst ys) → tz D ((σ.set i (some (.ref p))).set j (some (.ref q))) H1) : tSeq (tPar i j (tCons ta (tCons tb tNil))) tz D σ H := by
  refine ha H (Ex.refl H) _ fun p H1 hp e1 h1 => ?_
  refine hb H1 e1 _ fun q H2 hq e2 h2 => ?_
  refine ⟨_, _, rfl, k p q H2 hp (fresh_back e1 hq) (fun z => ?_) (e1.trans e2) (e2 _ _ h1) h2⟩
  rw [← z, h1] at hq; cases hq
/-- xs != [] -/
theorem ev_neE {K : PySem.W.Frag} {σ : L2.St} {H : Hp} {ta tb : TE} {p : Addr} {ns : List Nat} (ha : Ev ta σ H (.ref p)) (hp : SqL K H p (ns.map vN)) (hb : EvL tb σ H []) : Ev (tOp (rNeD K) ta tb) σ H (.bl (!ns.isEmpty)) := by
  refine ev_opL ha hb fun q H1 hq e1 => fun H2 e2 Q k => ?_
  refine ne_nil (ex_l (e1.trans e2) hp) (dpAll_N ns) (small_N ns) (SqL.of (e2 _ _ hq)) ?_
  rw [isEmpty_map]
  exact k H2 (Ex.refl _)
theorem ev_eqE {K : PySem.W.Frag} {σ : L2.St} {H : Hp} {ta tb : TE} {p : Addr} {ns : List Nat} (ha : Ev ta σ H (.ref p)) (hp : SqL K H p (ns.map vN)) (hb : EvL tb σ H []) : Ev (tOp (rEqD K) ta tb) σ H (.bl ns.isEmpty) := by
  refine ev_opL ha hb fun q H1 hq e1 => fun H2 e2 Q k => ?_
  refine eq_nil (ex_l (e1.trans e2) hp) (dpAll_N ns) (small_N ns) (SqL.of (e2 _ _ hq)) ?_
  rw [isEmpty_map]
  exact k H2 (Ex.refl _)
theorem paired_imp' {α β : Type} {F G : α → β → Prop} {l : List α} {m : List β} (p : Paired F l m) (h : ∀ a b, F a b → G a b) : Paired G l m := paired_imp h p
section
variable {P : Program} {w : World} {K : PySem.W.Frag} {mg : Str → Option Value} {base : Heap} {f : Addr} {fd : FuncData}
/-! ### tied_to -/
theorem sc_tied_to : FnScope ["web", "person", "found", "one", "other"] ["web", "person"] (defScope (topS 16)) := ⟨rfl, rfl, rfl, by decide +kernel, rfl, by decide +kernel, by decide +kernel⟩
def spTied : Sp := fun vs H Q _ => ∃ (v : V) (n : Nat) (T : Ties) (p : Nat), vs = [v, vN p] ∧ WebAt H v n T ∧ WebOk n T ∧ RetNs (fun l => (∀ q, q ∈ l ↔ Adj T p q) ∧ l.length ≤ 100) H Q
theorem ok_tied_to (nb : NoB mg) (F : Fun K "tied_to" "tied_to" (topS 16) f fd) (g : mg "tied_to" = some (.ref f)) : Has P w K mg base 1 "tied_to" ["web", "person"] spTied := by
  refine .mk' F g (F.binds fun _ _ _ _ _ _ us hl => match us, hl with | [_, _], _ => rfl) (F.ok sc_tied_to (fun vs H Q E h => ?_) (fun cdv A outer s H vs Q E hr h => ?_))
  · obtain ⟨v, n, T, p, rfl, _⟩ := h
    rfl
  · obtain ⟨v, n, T, p, rfl, ⟨a, b, ps, rfl, ha, hb, hps⟩, W, q⟩ := h
    refine ⟨_, (pss_cons (ps_set (i := 2) sc_tied_to.nd rfl (Or.inl rfl) (pe_lst pa_nil))
      (pss_cons (ps_for PassesOwn.never rfl (pi_tup (pe_ix ix_tup (pv 0) pe_int (fun _ _ => rfl))) (pg_tup (n := 2) rfl (pgs_cons (pg_name (i := 3) sc_tied_to.nd rfl (Or.inl rfl)) (pgs_cons (pg_name (i := 4) sc_tied_to.nd rfl (Or.inl rfl)) pgs_nil)))
        (pss_one (ps_if (pt_cmpR op_in_seq (pv 1) (pe_tup (pa_cons (pv 3) (pa_cons (pv 4) pa_nil))) (by with_unfolding_all rfl)) (pss_one (ps_expr (pe_bm PySem.F.plainAttrs_list PySem.F.slot_list_append PySem.F.type_list_append mt_append (pv 2) (pa_cons (pe_op op_sub (pe_op op_add (pv 3) (pv 4)) (pv 1)) pa_nil)))) pss_nil)))
      (pss_one (ps_ret (pe_callB cr_sortedI (by rfl) nb.sorted_ (by decide +kernel) (pa_cons (pv 2) pa_nil)))))), ?_⟩
    have hlen : ps.length = T.length := Paired.length hps
    refine q_asgL (el_lst ea_nil (by decide)) fun F H1 hF e1 hl => ?_
    refine q_forT (ev_op (ev_var rfl) ev_c (rv_ixT (SqT.of (e1 _ _ ha)) (atI_nat (j := 1) rfl))) (SqT.of (e1 _ _ hb))
      (fun i σ H' => Ex H H' ∧ (∃ y3 y4, σ = [some (.ref a), some (vN p), some (.ref F), y3, y4]) ∧ ∃ l : List Nat, H' F = some (.lst (l.map vN)) ∧ l.length ≤ i ∧ ∀ q, q ∈ l ↔ Adj (T.take i) p q)
      (fun H2 e2 => ⟨e1.trans e2, ⟨_, _, rfl⟩, [], e2 _ _ hl, Nat.zero_le _, fun q => by simp [Adj]⟩) (fun i σ H' _ h => SqT.of (h.1 _ _ hb)) (fun i x σ H' hx h => ?_) (fun σ H' h => ?_)
    · obtain ⟨e2, ⟨y3, y4, rfl⟩, l, hlF, hll, hm⟩ := h
      rw [List.getElem?_map] at hx
      obtain ⟨pt, hpt, rfl⟩ := Option.map_eq_some_iff.mp hx
      obtain ⟨t, ht, htp⟩ := paired_getL hps hpt
      have hsh := W.short
      have hiT : i < T.length := (List.getElem?_eq_some_iff.mp ht).1
      have htie := W.tie t (List.mem_of_getElem? ht)
      refine ⟨pt, _, rfl, SqT.of (e2 _ _ htp), rfl, vN t.1, [vN t.2], rfl, vN t.2, [], rfl, rfl, ?_⟩
      have e0 := ev_inU (K := K) (ta := tVar 1) (σ := [some (.ref a), some (vN p), some (.ref F), some (vN t.1), some (vN t.2)]) (H := H') (x := vN p) (ev_var rfl) (eu_tup (ea_cons (ev_var (i := 3) rfl) (ea_cons (ev_var (i := 4) rfl) ea_nil)) (by show 2 ≤ 100000; decide)) rfl rfl
      rw [show inV (vN p) [vN t.1, vN t.2] = decide (p ∈ [t.1, t.2]) from inV_N (ns := [t.1, t.2])] at e0
      refine s_when (et_B e0) (fun hb' H2 e3 => ?_) (fun hb' H2 e3 => ?_)
      · have hpm : p = t.1 ∨ p = t.2 := by simpa using of_decide_eq_true hb'
        refine s_app (e3 _ _ hlF) (ev_var rfl) (ev_op (ev_op (ev_var rfl) (ev_var rfl) rv_I0) (ev_var rfl) rv_I0) (by rw [List.length_map]; omega) fun H3 e4 => ⟨((e2.trans e3).trans e4).mut hF, ⟨_, _, rfl⟩, l ++ [t.1 + t.2 - p], ?_, ?_, fun q => ?_⟩
        · rw [upd_same, List.map_append]
          show some (HO.lst (List.map vN l ++ [V.int ((t.1 : Int) + t.2 - p)])) = _
          rw [show ((t.1 : Int) + t.2 - p) = ((t.1 + t.2 - p : Nat) : Int) by omega]
          rfl
        · rw [List.length_append]; simpa using hll
        · rw [List.mem_append, List.mem_singleton, hm]
          unfold Adj
          rw [mem_take ht, mem_take ht]
          obtain ⟨t1, t2⟩ := t
          simp only [Prod.mk.injEq]
          simp only at htie hpm
          constructor
          · rintro ((h | h) | h)
            · exact .inl (.inl h)
            · exact .inr (.inl h)
            · rcases hpm with z | z
              · exact .inl (.inr ⟨z, by omega⟩)
              · exact .inr (.inr ⟨by omega, z⟩)
          · rintro ((h | ⟨h, h'⟩) | (h | ⟨h, h'⟩))
            · exact .inl (.inl h)
            · exact .inr (by omega)
            · exact .inl (.inr h)
            · exact .inr (by omega)
      · have hpm : ¬ (p = t.1 ∨ p = t.2) := by simpa using of_decide_eq_false hb'
        refine ⟨e2.trans e3, ⟨_, _, rfl⟩, l, e3 _ _ hlF, by omega, fun q => ?_⟩
        rw [hm]
        unfold Adj
        rw [mem_take ht, mem_take ht]
        obtain ⟨t1, t2⟩ := t
        simp only [Prod.mk.injEq]
        simp only at hpm
        constructor
        · rintro (h | h)
          · exact .inl (.inl h)
          · exact .inr (.inl h)
        · rintro ((h | ⟨h, h'⟩) | (h | ⟨h, h'⟩))
          · exact .inl h
          · exact absurd (.inl h) hpm
          · exact .inr h
          · exact absurd (.inr h') hpm
    · obtain ⟨e2, ⟨y3, y4, rfl⟩, l, hlF, hll, hm⟩ := h
      refine ⟨.ref F, rfl, F, l.map (fun i : Nat => (i : Int)), rfl, SqL.of (by rw [← ints_N]; exact hlF), fun ns' p' hp _ hn => ?_⟩
      obtain ⟨l', hl', rfl⟩ := perm_cast hp
      refine q p' l' _ (fresh_back e2 hn) (e2.trans (Ex.new hn)) (by rw [upd_same, ints_N]) ⟨fun q => ?_, ?_⟩
      · rw [hl'.mem_iff, hm, List.take_of_length_le (by rw [List.length_map]; omega)]
      · rw [hl'.length_eq]
        rw [List.length_map] at hll
        have := W.short
        omega
/-! ### hanging -/
theorem sc_hanging : FnScope ["web", "person", "lot", "found", "edge", "here", "other"] ["web", "person", "lot"] (defScope (topS 17)) := ⟨rfl, rfl, rfl, by decide +kernel, rfl, by decide +kernel, by decide +kernel⟩
def spHanging : Sp := fun vs H Q _ => ∃ (v : V) (n : Nat) (T : Ties) (p : Nat) (L : Addr) (lot : List Nat), vs = [v, vN p, .ref L] ∧ WebAt H v n T ∧ WebOk n T ∧ p < n ∧ H L = some (.lst (lot.map vN)) ∧ RetTN (hangL T n lot p) H Q
theorem ok_hanging (nb : NoB mg) (c_tied_to : Has P w K mg base 1 "tied_to" ["web", "person"] spTied) (F : Fun K "hanging" "hanging" (topS 17) f fd) (g : mg "hanging" = some (.ref f)) : Has P w K mg base 2 "hanging" ["web", "person", "lot"] spHanging := by
  refine .mk' F g (F.binds fun _ _ _ _ _ _ us hl => match us, hl with | [_, _, _], _ => rfl) (F.ok sc_hanging (fun vs H Q E h => ?_) (fun cdv A outer s H vs Q E hr h => ?_))
  · obtain ⟨v, n, T, p, L, lot, rfl, _⟩ := h
    rfl
  · obtain ⟨v, n, T, p, L, lot, rfl, hw, W, hp, hL, q⟩ := h
    refine ⟨_, (pss_cons (ps_par (i := 3) (j := 4) rfl sc_hanging.nd rfl rfl (by decide) rfl rfl (pa_cons (pe_lst (pa_cons (pv 1) pa_nil)) (pa_cons (pe_lst (pa_cons (pv 1) pa_nil)) pa_nil)) (by rfl))
      (pss_cons (ps_while PassesOwn.never (pt_cmpR (op_neD hr.units) (pv 4) (pe_lst pa_nil) (nomark _)) (pss_cons (ps_set (i := 5) sc_hanging.nd rfl (Or.inl rfl) (pe_bm0 PySem.F.plainAttrs_list PySem.F.slot_list_pop PySem.F.type_list_pop mt_pop (pv 4)))
      (pss_one (ps_for PassesOwn.never rfl (pi_list (pe_has c_tied_to (hr.mono (by decide)) (pa_cons (pv 0) (pa_cons (pv 5) pa_nil)))) (pg_name (i := 6) sc_hanging.nd rfl (Or.inl rfl))
        (pss_one (ps_if (PW.pt (pw_and (pt_cmpR op_in_seq (pv 6) (pv 2) (by with_unfolding_all rfl)) (pw_and1 (pt_cmpR op_notIn_seq (pv 6) (pv 3) (by with_unfolding_all rfl))))) (pss_cons (ps_expr (pe_bm PySem.F.plainAttrs_list PySem.F.slot_list_append PySem.F.type_list_append mt_append (pv 3) (pa_cons (pv 6) pa_nil)))
      (pss_one (ps_expr (pe_bm PySem.F.plainAttrs_list PySem.F.slot_list_append PySem.F.type_list_append mt_append (pv 4) (pa_cons (pv 6) pa_nil))))) pss_nil))))))
      (pss_one (ps_ret (pe_callTy call_tuple_of (by rfl) nb.tuple_ (by decide +kernel) (pa_cons (pe_callB cr_sortedI (by rfl) nb.sorted_ (by decide +kernel) (pa_cons (pv 3) pa_nil)) pa_nil)))))), ?_⟩
    refine q_parLL (el_lst (ea_cons (ev_var rfl) ea_nil) (by show 1 ≤ 100000; decide)) (el_lst (ea_cons (ev_var rfl) ea_nil) (by show 1 ≤ 100000; decide)) fun FA EA H1 hFA hEA hne e0 hf0 he0 => ?_
    have fewF : ∀ {found : List Nat}, found.Nodup → (∀ q ∈ found, Conn T (· ∈ lot) p q) → found.length ≤ n := fun nd pr => by
      have := nodup_sub_len nd (m := List.range n) fun q hq => List.mem_range.mpr ((pr q hq).lt W hp)
      rwa [List.length_range] at this
    have hn5 := W.few
    refine q_while (fun m σ H' => Ex H H' ∧ (∃ y5 y6, σ = [some v, some (vN p), some (.ref L), some (.ref FA), some (.ref EA), y5, y6]) ∧ ∃ found edge : List Nat, H' FA = some (.lst (found.map vN)) ∧ H' EA = some (.lst (edge.map vN)) ∧ Dfs (hR T lot) (Conn T (· ∈ lot) p) found edge ∧ p ∈ found ∧ edge.length ≤ found.length ∧ m = 2 * (n - found.length) + edge.length)
      (2 * (n - 1) + 1) ⟨e0, ⟨_, _, rfl⟩, [p], [p], hf0, he0, .start (.refl p), by simp, by simp, rfl⟩ ?_
    rintro m σ H' ⟨e1, ⟨y5, y6, rfl⟩, found, edge, hf, he, D, hpf, hel, rfl⟩
    refine ⟨!edge.isEmpty, et_test (ev_neE (ev_var rfl) (SqL.of he) (el_lst ea_nil (by decide))), fun hb H2 e2 => ?_, fun hb H2 e2 => ?_⟩
    · obtain ⟨edge, x, rfl⟩ := list_end (l := edge) (fun z => by rw [z] at hb; cases hb)
      have hx := D.pr x (D.sub x (List.mem_append_right _ List.mem_cons_self))
      have hfl := fewF D.nd D.pr
      refine ⟨fun σ' H' => ∃ m', m' < 2 * (n - found.length) + (edge ++ [x]).length ∧ Ex H H' ∧ (∃ y5 y6, σ' = [some v, some (vN p), some (.ref L), some (.ref FA), some (.ref EA), y5, y6]) ∧ ∃ found edge : List Nat, H' FA = some (.lst (found.map vN)) ∧ H' EA = some (.lst (edge.map vN)) ∧ Dfs (hR T lot) (Conn T (· ∈ lot) p) found edge ∧ p ∈ found ∧ edge.length ≤ found.length ∧ m' = 2 * (n - found.length) + edge.length, fun _ _ h => h, ?_⟩
      -- here = edge.pop()
      refine ⟨.ref EA, rfl, .inl ⟨rfl, _, SqL.of (e2 _ _ he)⟩, EA, _, vN x, rfl, rfl, e2 _ _ he, ?_, ?_⟩
      · rw [List.map_append]; simp
      rw [show (List.map vN (edge ++ [x])).dropLast = edge.map vN by rw [List.map_append]; simp]
      -- for other in tied_to(web, here)
      have e3 : Ex H (upd H2 EA (.lst (edge.map vN))) := (e1.trans e2).mut hEA
      refine ⟨v, rfl, vN x, rfl, v, n, T, x, rfl, hw.ex (.of e3), W, fun TP l H3 hTP e4 hl hRl => ⟨TP, rfl, ⟨_, SqL.of hl⟩, ?_⟩⟩
      have hEA3 : H3 EA = some (.lst (edge.map vN)) := e4 _ _ upd_same
      have hFA3 : H3 FA = some (.lst (found.map vN)) := e4 _ _ (by rw [upd_ne hne]; exact e2 _ _ hf)
      have hTP0 : H TP = none := fresh_back e3 hTP
      have hTF : TP ≠ FA := fun z => by rw [z, upd_ne hne, e2 _ _ hf] at hTP; cases hTP
      have hTE : TP ≠ EA := fun z => by rw [z, upd_same] at hTP; cases hTP
      refine for_list (xs := l.map vN) (fun i σ' H' => Ex H H' ∧ H' TP = some (.lst (l.map vN)) ∧ (∃ y5 y6, σ' = [some v, some (vN p), some (.ref L), some (.ref FA), some (.ref EA), y5, y6]) ∧ ∃ f2 edge2 : List Nat, H' FA = some (.lst (f2.map vN)) ∧ H' EA = some (.lst (edge2.map vN)) ∧ DfsIn (hR T lot) (Conn T (· ∈ lot) p) x (· ∈ l.take i) f2 edge2 ∧ p ∈ f2 ∧ found.length ≤ f2.length ∧ edge2.length + found.length = edge.length + f2.length)
        ⟨e3.trans e4, hl, ⟨_, _, rfl⟩, found, edge, hFA3, hEA3, D.pop.imp (fun y h => by simp at h), hpf, Nat.le_refl _, rfl⟩ (fun i σ' H' _ h => SqL.of h.2.1) (fun i z σ' H' hz h => ?_) (fun σ' H' h => ?_)
      · obtain ⟨e5, hTP5, ⟨y5, y6, rfl⟩, f2, edge2, hf2, he2, D2, hp2, hle, heq⟩ := h
        rw [List.getElem?_map] at hz
        obtain ⟨y, hy, rfl⟩ := Option.map_eq_some_iff.mp hz
        have hyA : Adj T x y := (hRl.1 y).mp (List.mem_of_getElem? hy)
        have hfl2 := fewF D2.nd D2.pr
        rw [List.length_append, List.length_singleton] at hel
        refine s_when (et_and (et_test (ev_inL (ev_var rfl) (ev_var rfl) (SqL.of (e5 _ _ hL)))) (fun _ => et_test (ev_niL (ev_var rfl) (ev_var rfl) (SqL.of hf2)))) (fun hc H6 e6 => ?_) (fun hc H6 e6 => ?_)
        · simp only [Bool.and_eq_true, decide_eq_true_eq, Bool.not_eq_true', decide_eq_false_iff_not] at hc
          refine q_app (e6 _ _ hf2) (ev_var rfl) (ev_var rfl) (by rw [List.length_map]; omega) fun H7 e7 => ?_
          have hE7 : (upd H7 FA (.lst (f2.map vN ++ [vN y]))) EA = some (.lst (edge2.map vN)) := by rw [upd_ne (Ne.symm hne)]; exact e7 _ _ (e6 _ _ he2)
          refine s_app hE7 (ev_var rfl) (ev_var rfl) (by rw [List.length_map]; omega) fun H8 e8 => ?_
          have cn : Conn T (· ∈ lot) p y := .step hx hyA hc.1
          refine ⟨(((((e5.trans e6).trans e7).mut hFA).trans e8).mut hEA), ?_, ⟨_, _, rfl⟩, f2 ++ [y], edge2 ++ [y], ?_, ?_, (D2.add hc.2 cn).imp (fun z hz => (mem_take hy).mp hz), List.mem_append_left _ hp2, ?_, ?_⟩
          · rw [upd_ne hTE]; exact e8 _ _ (by rw [upd_ne hTF]; exact e7 _ _ (e6 _ _ hTP5))
          · rw [upd_ne hne, List.map_append]; exact e8 _ _ upd_same
          · rw [upd_same, List.map_append]; rfl
          · rw [List.length_append]; omega
          · rw [List.length_append, List.length_append]; omega
        · refine ⟨e5.trans e6, e6 _ _ hTP5, ⟨_, _, rfl⟩, f2, edge2, e6 _ _ hf2, e6 _ _ he2, (D2.skip (y := y) fun hr => ?_).imp (fun z hz => (mem_take hy).mp hz), hp2, hle, heq⟩
          by_cases h2 : y ∈ f2
          · exact h2
          · have h1 := hr.2
            simp [h1, h2] at hc
      · obtain ⟨e5, hTP5, ⟨y5, y6, rfl⟩, f2, edge2, hf2, he2, D2, hp2, hle, heq⟩ := h
        have hfl2 := fewF D2.nd D2.pr
        rw [List.length_append, List.length_singleton] at hel
        have hll := hRl.2
        refine ⟨2 * (n - f2.length) + edge2.length, ?_, e5, ⟨_, _, rfl⟩, f2, edge2, hf2, he2, D2.done (fun y hr => ?_), hp2, by omega, rfl⟩
        · rw [List.length_append]; simp only [List.length_singleton]; omega
        · rw [List.take_of_length_le (by rw [List.length_map]; exact Nat.le_refl _)]
          exact (hRl.1 y).mpr hr.1
    · have he0 : edge = [] := by
        cases edge with
        | nil => rfl
        | cons a b => cases hb
      subst he0
      refine ⟨.ref FA, rfl, FA, found.map (fun i : Nat => (i : Int)), rfl, SqL.of (by rw [← ints_N]; exact e2 _ _ hf), fun ns' p' hpm hps hn => ?_⟩
      have e9 : Ex H (upd H2 p' (.lst (ns'.map V.int))) := (e1.trans e2).trans (Ex.new hn)
      refine ⟨p', _, rfl, .inl ⟨SqL.of upd_same, fun p2 hn2 => q p2 _ (fresh_back e9 hn2) (e9.trans (Ex.new hn2)) ?_⟩⟩
      rw [upd_same, hang_sorted_eq W hp D.nd (fun q => hang_end D hpf q) hpm hps, ints_N]
/-! ### parts_of, everybody -/
theorem sc_parts_of : FnScope ["web", "lot", "found", "left", "part", "one"] ["web", "lot"] (defScope (topS 18)) := ⟨rfl, rfl, rfl, by decide +kernel, rfl, by decide +kernel, by decide +kernel⟩
/-- a new tuple of new tuples of persons -/
def RetTT (ls : List (List Nat)) (H : Hp) (Q : VK) : Prop := ∀ (p : Addr) (ps : List Addr) H2, Ex H H2 → H2 p = some (.tup (ps.map V.ref)) → TupsN H2 ps ls → Q (.ref p) H2
def spParts : Sp := fun vs H Q _ => ∃ (v : V) (n : Nat) (T : Ties) (L : Addr) (lot : List Nat), vs = [v, .ref L] ∧ WebAt H v n T ∧ WebOk n T ∧ H L = some (.lst (lot.map vN)) ∧ (∀ i ∈ lot, i < n) ∧ lot.length ≤ 1000 ∧ RetTT (partsL T n lot) H Q
theorem ok_parts_of (nb : NoB mg) (c_hanging : Has P w K mg base 2 "hanging" ["web", "person", "lot"] spHanging) (F : Fun K "parts_of" "parts_of" (topS 18) f fd) (g : mg "parts_of" = some (.ref f)) : Has P w K mg base 3 "parts_of" ["web", "lot"] spParts := by
  refine .mk' F g (F.binds fun _ _ _ _ _ _ us hl => match us, hl with | [_, _], _ => rfl) (F.ok sc_parts_of (fun vs H Q E h => ?_) (fun cdv A outer s H vs Q E hr h => ?_))
  · obtain ⟨v, n, T, L, lot, rfl, _⟩ := h
    rfl
  · obtain ⟨v, n, T, L, lot, rfl, hw, W, hL, hln, hlz, q⟩ := h
    refine ⟨_, (pss_cons (ps_par (i := 2) (j := 3) rfl sc_parts_of.nd rfl rfl (by decide) rfl rfl (pa_cons (pe_lst pa_nil) (pa_cons (pe_callTy call_list_of (by rfl) nb.list_ (by decide +kernel) (pa_cons (pv 1) pa_nil)) pa_nil)) (by rfl))
      (pss_cons (ps_while PassesOwn.never (pt_cmpR (op_neD hr.units) (pv 3) (pe_lst pa_nil) (nomark _)) (pss_cons (ps_set (i := 4) sc_parts_of.nd rfl (Or.inr rfl) (pe_has c_hanging (hr.mono (by decide)) (pa_cons (pv 0) (pa_cons (pe_ix ix_list (pv 3) pe_int (fun _ _ => rfl)) (pa_cons (pv 3) pa_nil)))))
      (pss_cons (ps_expr (pe_bm PySem.F.plainAttrs_list PySem.F.slot_list_append PySem.F.type_list_append mt_append (pv 2) (pa_cons (pv 4) pa_nil)))
      (pss_one (ps_setLc (i := 3) (own := [("one", 5)]) (g := (gName 5)) rfl sc_parts_of.nd rfl rfl (sw_true rfl rfl rfl (by decide +kernel)) (pi_list (pv 3)) (blkOk_by (N := ["web", "lot", "found", "left", "part", "one"]) (sc := defScope (topS 18)) (by decide +kernel)) (fun _ _ _ _ _ => (pg_name (i := 5) sc_parts_of.nd rfl (Or.inl rfl))) (fun _ _ _ _ _ => (pts_one (pt_cmpR (op_niK (K := K) rfl) (pv 5) (pv 4) (by with_unfolding_all rfl)))) (fun _ _ _ _ _ => (pv 5)))))))
      (pss_one (ps_ret (pe_callTy call_tuple_of (by rfl) nb.tuple_ (by decide +kernel) (pa_cons (pv 2) pa_nil)))))), ?_⟩
    refine q_parLL (el_lst ea_nil (by decide)) (el_list (ev_var rfl) (SqL.of hL)) fun FA LA H1 hFA hLA hne e0 hf0 hl0 => ?_
    refine q_while (fun m σ H' => Ex H H' ∧ ∃ (LA : Addr) (left : List Nat) (ps : List Addr) (done : List (List Nat)), (∃ y4 y5, σ = [some v, some (.ref L), some (.ref FA), some (.ref LA), y4, y5]) ∧ H' FA = some (.lst (ps.map V.ref)) ∧ H' LA = some (.lst (left.map vN)) ∧ H LA = none ∧ LA ≠ FA ∧ TupsN H' ps done ∧ ClosedIn T lot left ∧ left.length + done.length ≤ lot.length ∧ done ++ partsF T n lot lot.length left = partsL T n lot ∧ m = left.length)
      lot.length ⟨e0, LA, lot, [], [], ⟨_, _, rfl⟩, hf0, hl0, hLA, Ne.symm hne, .nil, closed_all lot, by simp, rfl, rfl⟩ ?_
    rintro m σ H' ⟨e1, LA, left, ps, done, ⟨y4, y5, rfl⟩, hf, hl, hLA, hLF, hps, C, hlen, heq, rfl⟩
    have hn : ∀ i ∈ left, i < n := fun i hi => hln i (C.1 i hi)
    refine ⟨!left.isEmpty, et_test (ev_neE (ev_var rfl) (SqL.of hl) (el_lst ea_nil (by decide))), fun hb H2 e2 => ?_, fun hb H2 e2 => ?_⟩
    · cases left with
      | nil => cases hb
      | cons x left =>
        have e3 := e1.trans e2
        refine ⟨fun σ' H' => ∃ m', m' < (x :: left).length ∧ Ex H H' ∧ ∃ (LA : Addr) (left : List Nat) (ps : List Addr) (done : List (List Nat)), (∃ y4 y5, σ' = [some v, some (.ref L), some (.ref FA), some (.ref LA), y4, y5]) ∧ H' FA = some (.lst (ps.map V.ref)) ∧ H' LA = some (.lst (left.map vN)) ∧ H LA = none ∧ LA ≠ FA ∧ TupsN H' ps done ∧ ClosedIn T lot left ∧ left.length + done.length ≤ lot.length ∧ done ++ partsF T n lot lot.length left = partsL T n lot ∧ m' = left.length, fun _ _ h => h, ?_⟩
        refine ⟨v, rfl, .ref LA, rfl, LA, _, 0, vN x, rfl, rfl, SqL.of (e2 _ _ hl), atI_nat (j := 0) rfl, .ref LA, rfl, v, n, T, x, LA, x :: left, rfl, hw.ex (.of e3), W, hn x List.mem_cons_self, e2 _ _ hl, fun TP H3 hTP e4 ht => ?_⟩
        have e5 := e3.trans e4
        have hfl := left_less (T := T) (lot := lot) (left := left) (hn x List.mem_cons_self)
        have hcl := closed_hang (n := n) C List.mem_cons_self
        have dl : ps.length = done.length := Paired.length hps
        rw [List.length_cons] at hlen
        refine q_app (xs := ps.map V.ref) (e4 _ _ (e2 _ _ hf)) (ev_var rfl) (ev_var rfl) (by rw [List.length_map]; omega) fun H6 e6 => ?_
        have e7 : Ex H (upd H6 FA (.lst (ps.map V.ref ++ [.ref TP]))) := (e5.trans e6).mut hFA
        have hTF : TP ≠ FA := fun z => by rw [z, e2 _ _ hf] at hTP; cases hTP
        have hl7 : (upd H6 FA (.lst (ps.map V.ref ++ [.ref TP]))) LA = some (.lst ((x :: left).map vN)) := by rw [upd_ne hLF]; exact e6 _ _ (e4 _ _ (e2 _ _ hl))
        have ht7 : (upd H6 FA (.lst (ps.map V.ref ++ [.ref TP]))) TP = some (.tup ((hangL T n (x :: left) x).map vN)) := by rw [upd_ne hTF]; exact e6 _ _ ht
        refine s_asgL (el_filterL (fun i => !decide (i ∈ hangL T n (x :: left) x)) (ev_var rfl) (SqL.of hl7) (by rw [List.length_cons]; omega) (fun _ => rfl) (fun _ => rfl) fun i H8 e8 _ => et_test (ev_niT (ev_var rfl) (ev_var rfl) (SqT.of (e8 _ _ ht7)))) fun LB H9 hLB e9 hlb => ?_
        have hLB0 := fresh_back e7 hLB
        refine ⟨((x :: left).filter fun i => !decide (i ∈ hangL T n lot x)).length, Nat.lt_succ_of_le hfl, e7.trans e9, LB, (x :: left).filter fun i => !decide (i ∈ hangL T n lot x), ps ++ [TP], done ++ [hangL T n lot x], ⟨_, _, rfl⟩, ?_, ?_, hLB0, ?_, ?_, closed_next hln C List.mem_cons_self, ?_, ?_, rfl⟩
        · rw [List.map_append]; exact e9 _ _ upd_same
        · rw [← hcl]; exact hlb
        · intro z; rw [z, upd_same] at hLB; cases hLB
        · refine Paired.snoc (paired_imp' hps fun b l hb => ?_) ?_
          · have hbF : b ≠ FA := fun z => by rw [z, hf] at hb; cases hb
            exact e9 _ _ (by rw [upd_ne hbF]; exact e6 _ _ (e4 _ _ (e2 _ _ hb)))
          · rw [← hcl]; exact e9 _ _ ht7
        · rw [List.length_append]; simp only [List.length_singleton]; omega
        · rw [List.append_assoc, ← heq, partsF_step hn (by rw [List.length_cons]; omega)]; rfl
    · have hl0 : left = [] := by
        cases left with
        | nil => rfl
        | cons a b => cases hb
      subst hl0
      rw [partsF_nil, List.append_nil] at heq
      refine ⟨.ref FA, rfl, FA, _, rfl, .inl ⟨SqL.of (e2 _ _ hf), fun p2 hn2 => q p2 ps _ ((e1.trans e2).trans (Ex.new hn2)) upd_same ?_⟩⟩
      rw [← heq]
      exact hps.ex (.of (e2.trans (Ex.new hn2)))
theorem sc_everybody : FnScope ["web"] ["web"] (defScope (topS 19)) := ⟨rfl, rfl, rfl, by decide +kernel, rfl, by decide +kernel, by decide +kernel⟩
def spEvery : Sp := fun vs H Q _ => ∃ (v : V) (n : Nat) (T : Ties), vs = [v] ∧ WebAt H v n T ∧ n ≤ 1000 ∧ RetTN (List.range n) H Q
theorem ok_everybody (nb : NoB mg) (F : Fun K "everybody" "everybody" (topS 19) f fd) (g : mg "everybody" = some (.ref f)) : Has P w K mg base 1 "everybody" ["web"] spEvery := by
  refine .mk' F g (F.binds fun _ _ _ _ _ _ us hl => match us, hl with | [_], _ => rfl) (F.ok sc_everybody (fun vs H Q E h => ?_) (fun cdv A outer s H vs Q E hr h => ?_))
  · obtain ⟨v, n, T, rfl, _⟩ := h
    rfl
  · obtain ⟨v, n, T, rfl, ⟨a, b, ps, rfl, ha, hb, hps⟩, hn, q⟩ := h
    refine ⟨_, (pss_one (ps_ret (pe_tupRg rfl (by rfl) nb.tuple_ (prg_1 (by rfl) nb.range_ (pe_ix ix_tup (pv 0) pe_int (fun _ _ => rfl)))))), ?_⟩
    refine ⟨.ref a, rfl, a, _, 0, vN n, rfl, rfl, SqT.of ha, atI_nat (j := 0) rfl, n, rfl, ⟨by decide, by decide, by omega, by omega, by omega⟩, fun p hp => q p _ hp (Ex.new hp) ?_⟩
    rw [upd_same]
    unfold rgV
    rw [show ((n : Int) - 0).toNat = n by omega]
    refine congrArg (fun z => some (HO.tup z)) (List.map_congr_left fun i _ => ?_)
    show V.int (0 + (i : Int)) = _
    rw [Int.zero_add]
end
end Hv
end
section
set_option Elab.async false
set_option linter.all false
set_option maxRecDepth 100000
set_option maxHeartbeats 4000000
/-! The walk's words, 3: comprehensions that change something; slices, stars. -/
namespace Hv
open PySem PySem.Spec PyProof.Rows L2 Evl
/-- all but S stays -/
def ExP (S : Addr → Prop) (H H' : Hp) : Prop := ∀ b o, ¬ S b → H b = some o → H' b = some o
abbrev noS : Addr → Prop := fun _ => False
theorem ExP.refl {S : Addr → Prop} (H : Hp) : ExP S H H := fun _ _ _ h => h
theorem ExP.trans {S : Addr → Prop} {H H1 H2 : Hp} (a : ExP S H H1) (b : ExP S H1 H2) : ExP S H H2 := fun c o n h => b c o n (a c o n h)
theorem ExP.of {S : Addr → Prop} {H H' : Hp} (e : Ex H H') : ExP S H H' := fun b o _ h => e b o h
theorem ExP.ex {H H' : Hp} (e : ExP noS H H') : Ex H H' := fun b o h => e b o (fun z => z) h
theorem xt_updL {H : Hp} {D : Addr} {l' : List V} (h : H D = none ∨ ∃ l, H D = some (.lst l)) : XT H (upd H D (.lst l')) := fun b xs hb => by
  rw [upd_ne (fun z => by rw [z] at hb; rcases h with h | ⟨l, h⟩ <;> rw [hb] at h <;> cases h)]
  exact hb
theorem ex_updD {S : Addr → Prop} {H1 H : Hp} {D : Addr} {o : HO} (e : ExP S H1 H) (h : H1 D = none) : ExP S H1 (upd H D o) := fun b u n hb => by
  rw [upd_ne (fun z => by rw [z, h] at hb; cases hb)]
  exact e b u n hb
/-- a comprehension, by its block -/
theorem lcG {J : It} {n : Nat} {G : Hp → Prop} {Y : Nat → Hp → V → Hp → Prop} (w : Walk J n G Y) {g : TG} {t : TT} {te : TE} {vs : List Nat} {σ : L2.St} {H1 : Hp} {Qd : Addr → Hp → Prop} (S : Addr → Prop) (hS : ∀ b, S b → H1 b ≠ none) (hn : n ≤ 40000) (Pv : Nat → List V → Hp → Prop)
    (h0 : Pv 0 [] H1) (hG : ∀ i acc H, i ≤ n → ExP S H1 H → Pv i acc H → G H)
    (stab : ∀ i acc H D l', H1 D = none → (H D = none ∨ ∃ l, H D = some (.lst l)) → Pv i acc H → Pv i acc (upd H D (.lst l')))
    (hs : ∀ i x acc H H' (Post : V → Hp → Prop) (Skip : Hp → Prop), i < n → ExP S H1 H → Pv i acc H → Y i H x H' → (∀ y H4, ExP S H H4 → Pv (i + 1) (acc ++ [y]) H4 → Post y H4) → (∀ H3, ExP S H H3 → Pv (i + 1) acc H3 → Skip H3) →
      g x (wipe σ vs) H' fun σ2 H2 => wipe σ2 vs = wipe σ vs ∧ t σ2 H2 fun b H3 => if b = true then te σ2 H3 Post else Skip H3)
    (hd : ∀ D acc H, H1 D = none → ExP S H1 H → H D = some (.lst acc) → acc.length ≤ n → Pv n acc H → Qd D H) :
    ∀ D, H1 D = none → ∃ W : Nat → Nat → Hp → Prop, (∃ m, W 0 m (upd H1 D (.lst []))) ∧ ∀ i m H, W i m H →
      (J.stop i H ∧ Qd D H) ∨ (J.go i H ∧ ∃ Nx : Hp → Prop, (∀ H', Nx H' → ∃ m', m' < m ∧ W (i + 1) m' H') ∧ ∀ x H', J.yld i H x H' → g x (wipe σ vs) H' fun σ2 H2 => wipe σ2 vs = wipe σ vs ∧ t σ2 H2 fun b H3 =>
        if b = true then te σ2 H3 fun y H4 => ∃ acc, H4 D = some (.lst acc) ∧ acc.length < sizeLine ∧ Nx (upd H4 D (.lst (acc ++ [y]))) else Nx H3) := by
  intro D hD
  have nS : ¬ S D := fun z => hS D z hD
  refine lc_it w (fun i H => ∃ acc, H D = some (.lst acc) ∧ ExP S H1 H ∧ acc.length ≤ i ∧ Pv i acc H) ⟨[], upd_same, ex_updD (ExP.refl _) hD, Nat.le_refl _, stab 0 [] H1 D [] hD (.inl hD) h0⟩ (fun i H hi h => ?_) (fun i x H H' hi h y => ?_) (fun H h => ?_)
  · obtain ⟨acc, h1, h2, h3, h4⟩ := h
    exact hG i acc H hi h2 h4
  · obtain ⟨acc, h1, h2, h3, h4⟩ := h
    have sz := sizeLine_eq
    refine hs i x acc H H' _ _ hi h2 h4 y (fun z H4 e p => ?_) (fun H3 e p => ?_)
    · have hD4 := e D _ nS h1
      refine ⟨acc, hD4, by omega, acc ++ [z], upd_same, ex_updD (h2.trans e) hD, ?_, stab _ _ _ _ _ hD (.inr ⟨_, hD4⟩) p⟩
      rw [List.length_append]; simp only [List.length_singleton]; omega
    · exact ⟨acc, e D _ nS h1, h2.trans e, by omega, p⟩
  · obtain ⟨acc, h1, h2, h3, h4⟩ := h
    exact hd D acc H hD h2 h1 h3 h4
theorem walk_zipT {K : PySem.W.Frag} {a b : Addr} {xs ys : List V} {n : Nat} (hn : n = min xs.length ys.length) : Walk (RZ.ItzT K a b) n (fun H => SqT K H a xs ∧ SqT K H b ys) (YPair (fun i => xs[i]?) (fun i => ys[i]?)) := by
  subst hn
  refine ⟨fun i _ hi q => ?_, fun _ q => ⟨xs, ys, q.1, q.2, by omega⟩, fun i H v H' _ q y => ?_⟩
  · have h1 : i < xs.length := by omega
    have h2 : i < ys.length := by omega
    exact ⟨xs, ys, xs[i], ys[i], q.1, q.2, by simp [h1], by simp [h2]⟩
  · obtain ⟨T, x, z, h1, h2, h3, h4, h5⟩ := y
    exact ⟨T, x, z, h1, h2, h3, h4 xs q.1, h5 ys q.2⟩
section
variable {K : PySem.W.Frag} {σ : L2.St} {H : Hp} {ta tb te tx : TE} {t : TA}
/-- over a new tuple -/
theorem el_lcNT {tt : TT} {tl : TE} {xs : List V} {j : Nat} {vs : List Nat} (f : Nat → Bool) (v : Nat → V) (h : EvU tl σ H xs) (hz : xs.length ≤ 40000) (hw : ∀ x, wipe ((wipe σ vs).set j (some x)) vs = wipe σ vs)
    (ht : ∀ (i : Nat) (x : V) H1, Ex H H1 → xs[i]? = some x → EvT tt ((wipe σ vs).set j (some x)) H1 (f i)) (he : ∀ (i : Nat) (x : V) H1, Ex H H1 → xs[i]? = some x → f i = true → Ev te ((wipe σ vs).set j (some x)) H1 (v i)) :
    EvL (tLc (iTup K tl) (gName j) tt te vs) σ H (given xs.length f v) := by
  intro H0 e Q q
  refine h H0 e _ fun a H1 ha e1 hx => ⟨a, rfl, ⟨xs, SqT.of hx⟩, fun Dl hD => lc_tup (xs := xs) (Cw H1 f v Dl) ⟨hD, Ex.new hD, upd_same⟩ (fun i H' _ p => SqT.of (p.2.1 _ _ hx)) (fun i x H' hi p => ?_) (fun H' p => q Dl H' (fresh_back e1 p.1) (e1.trans p.2.1) p.2.2)⟩
  refine ⟨hw x, cw_turn p ?_ (ht i x H1 (e.trans e1) hi) (fun hf => he i x H1 (e.trans e1) hi hf)⟩
  have := (List.getElem?_eq_some_iff.mp hi).1
  omega
theorem ev_anyNT {tl : TE} {ns : List Nat} {j : Nat} {vs : List Nat} (f : Nat → Bool) (h : EvU tl σ H (ns.map vN)) (hz : ns.length ≤ 1000) (hw : ∀ x, wipe ((wipe σ vs).set j (some x)) vs = wipe σ vs)
    (he : ∀ (i : Nat) H1, Ex H H1 → i ∈ ns → Ev te ((wipe σ vs).set j (some (vN i))) H1 (.bl (f i))) : Ev (tCB (rAny K) (tCons (tLc (iTup K tl) (gName j) tYes te vs) tNil)) σ H (.bl (ns.any f)) := by
  have e : ns.any f = (ns.map f).any id := by rw [List.any_map]; rfl
  have e' := given_all ns 0 (fun _ => true) (fun i => V.bl (f i))
  rw [List.filter_eq_self.mpr (fun _ _ => rfl)] at e'
  rw [e]
  refine ev_cbL (xs := ns.map fun i => V.bl (f i)) ?_ fun p H1 e1 hp => rc_any ?_
  · rw [← e', ← List.length_map (as := ns) (f := vN)]
    refine el_lcNT _ _ h (by rw [List.length_map]; omega) hw (fun i x H1 e1 hi => fun H2 e2 Q q => q H2 (Ex.refl _)) (fun i x H1 e1 hi _ => ?_)
    rw [List.getElem?_map] at hi
    obtain ⟨y, hy, rfl⟩ := Option.map_eq_some_iff.mp hi
    rw [getD_of hy]
    exact he y H1 e1 (List.mem_of_getElem? hy)
  · rw [List.map_map]; exact hp
theorem ev_lenT {p : Addr} {xs : List V} {n : Nat} (ha : Ev ta σ H (.ref p)) (h : SqT K H p xs) (hn : xs.length = n) : Ev (tCB (rLenS K) (tCons ta tNil)) σ H (.int (n : Int)) := by
  subst hn
  exact ev_cb (ea_cons ha ea_nil) fun H1 e1 Q q => ⟨p, xs, rfl, .inr (ex_t e1 h), q H1 (Ex.refl _)⟩
theorem ev_lenL {p : Addr} {xs : List V} {n : Nat} (ha : Ev ta σ H (.ref p)) (h : SqL K H p xs) (hn : xs.length = n) : Ev (tCB (rLenS K) (tCons ta tNil)) σ H (.int (n : Int)) := by
  subst hn
  exact ev_cb (ea_cons ha ea_nil) fun H1 e1 Q q => ⟨p, xs, rfl, .inl (ex_l e1 h), q H1 (Ex.refl _)⟩
theorem eu_ifT {tt : TT} {xs : List V} {b : Bool} (h : EvT tt σ H b) (h1 : b = true → EvU ta σ H xs) (h2 : b = false → EvU tb σ H xs) : EvU (tIf tt ta tb) σ H xs := fun H1 e1 Q q => h H1 e1 _ fun H2 e2 => by
  refine if_d (fun hb => ?_) (fun hb => ?_)
  · exact h1 hb H2 (e1.trans e2) Q fun p H3 hp e3 hx => q p H3 (fresh_back e2 hp) (e2.trans e3) hx
  · exact h2 hb H2 (e1.trans e2) Q fun p H3 hp e3 hx => q p H3 (fresh_back e2 hp) (e2.trans e3) hx
def SpU (sp : Sp) (vs : List V) (H : Hp) (xs : List V) : Prop := ∀ H1, Ex H H1 → ∀ Q : VK, (∀ p H2, H1 p = none → Ex H1 H2 → H2 p = some (.tup xs) → Q (.ref p) H2) → ∀ E : XK, sp vs H1 Q E
theorem eu_call {sp : Sp} {vs xs : List V} {E : XK} (h : EvA t σ H vs) (hs : SpU sp vs H xs) : EvU (tCall sp [] E t) σ H xs := fun H1 e1 Q q => h H1 e1 _ fun H2 e2 => by
  show sp (vs ++ []) H2 Q E
  rw [List.append_nil]
  exact hs H2 (e1.trans e2) Q (fun p H3 hp e3 hx => q p H3 (fresh_back e2 hp) (e2.trans e3) hx) E
theorem el_callL {sp : Sp} {vs xs : List V} {E : XK} (h : EvA t σ H vs) (hs : SpL sp vs H xs) : EvL (tCall sp [] E t) σ H xs := fun H1 e1 Q q => h H1 e1 _ fun H2 e2 => by
  show sp (vs ++ []) H2 Q E
  rw [List.append_nil]
  exact hs H2 (e1.trans e2) Q (fun p H3 hp e3 hx => q p H3 (fresh_back e2 hp) (e2.trans e3) hx) E
/-- *xs -/
theorem ea_star {p : Addr} {xs ys : List V} (h : Ev te σ H (.ref p)) (hp : SqT K H p xs ∨ SqL K H p xs) (ht : EvA t σ H ys) : EvA (StX.tStar K te t) σ H (xs ++ ys) := fun H1 e1 Q q => h H1 e1 _ fun H2 e2 =>
  ⟨p, xs, rfl, hp.imp (ex_t (e1.trans e2)) (ex_l (e1.trans e2)), ht H2 (e1.trans e2) _ fun H3 e3 => q H3 (e2.trans e3)⟩
theorem ea_starU {xs ys : List V} (h : EvU te σ H xs) (ht : EvA t σ H ys) : EvA (StX.tStar K te t) σ H (xs ++ ys) := fun H1 e1 Q q => h H1 e1 _ fun p H2 hp e2 hx =>
  ⟨p, xs, rfl, .inl (SqT.of hx), ht H2 (e1.trans e2) _ fun H3 e3 => q H3 (e2.trans e3)⟩
/-- a true slice of a tuple -/
theorem eu_slA {tl th : TO} {a : Addr} {xs : List V} {lo hi : Option Int} (h : Ev te σ H (.ref a)) (h1 : EvO tl σ H lo) (h2 : EvO th σ H hi) (hs : SqT K H a xs) (hc : ¬ (HT.sIx xs.length 0 lo = 0 ∧ HT.sIx xs.length xs.length hi = xs.length)) :
    EvU (tSl (rSlA K) te tl th) σ H (cutV xs lo hi) := fun H1 e1 Q q => h H1 e1 _ fun H2 e2 => h1 H2 (e1.trans e2) _ fun H3 e3 => h2 H3 ((e1.trans e2).trans e3) _ fun H4 e4 =>
  ⟨a, xs, rfl, ex_t (((e1.trans e2).trans e3).trans e4) hs, fun z => absurd z hc, fun _ p hp => q p _ (fresh_back ((e2.trans e3).trans e4) hp) (((e2.trans e3).trans e4).trans (Ex.new hp)) upd_same⟩
end
theorem cut_lo {xs : List V} {p : Nat} (hp : p < xs.length) : cutV xs none (some (p : Int)) = xs.take p ∧ ¬ (HT.sIx xs.length 0 none = 0 ∧ HT.sIx xs.length xs.length (some (p : Int)) = xs.length) := by
  have e : HT.sIx xs.length xs.length (some (p : Int)) = p := by
    show (if (p : Int) < 0 then ((p : Int) + (xs.length : Int)).toNat else min (p : Int).toNat xs.length) = p
    rw [if_neg (by omega)]; omega
  have e0 : HT.sIx xs.length 0 none = 0 := rfl
  unfold cutV
  rw [e, e0]
  exact ⟨by simp, by omega⟩
theorem cut_hi {xs : List V} {p : Nat} (hp : p < xs.length) : cutV xs (some ((p : Int) + 1)) none = xs.drop (p + 1) ∧ ¬ (HT.sIx xs.length 0 (some ((p : Int) + 1)) = 0 ∧ HT.sIx xs.length xs.length none = xs.length) := by
  have e : HT.sIx xs.length 0 (some ((p : Int) + 1)) = p + 1 := by
    show (if ((p : Int) + 1) < 0 then (((p : Int) + 1) + (xs.length : Int)).toNat else min ((p : Int) + 1).toNat xs.length) = p + 1
    rw [if_neg (by omega)]; omega
  have e0 : HT.sIx xs.length xs.length none = xs.length := rfl
  unfold cutV
  rw [e, e0]
  exact ⟨by rw [List.take_of_length_le]; rw [List.length_drop]; exact Nat.le_refl _, by omega⟩
theorem set_cut {α : Type} : ∀ {xs : List α} {p : Nat} {v : α}, p < xs.length → xs.take p ++ v :: xs.drop (p + 1) = xs.set p v
  | _ :: _, 0, _, _ => rfl
  | x :: xs, p + 1, v, h => by
    have := set_cut (xs := xs) (p := p) (v := v) (by simpa using h)
    simp only [List.take_succ_cons, List.drop_succ_cons, List.set_cons_succ, List.cons_append]
    rw [this]
end Hv
end
section
set_option Elab.async false
set_option linter.all false
set_option maxRecDepth 100000
set_option maxHeartbeats 4000000
namespace Hv
open PySem PySem.Spec PyProof.Rows L2 Evl
def RetTI (l : List Int) (H : Hp) (Q : VK) : Prop := ∀ (p : Addr) H2, H p = none → Ex H H2 → H2 p = some (.tup (l.map V.int)) → Q (.ref p) H2
/-- a new tuple of pairs -/
def RetPairs (R : Ties → Prop) (H : Hp) (Q : VK) : Prop := ∀ (p : Addr) (ps : List Addr) (M : Ties) H2, H p = none → Ex H H2 → H2 p = some (.tup (ps.map V.ref)) → PairsAt H2 ps M → R M → Q (.ref p) H2
theorem paired_append {α β : Type} {F : α → β → Prop} : ∀ {l l' : List α} {m m' : List β}, Paired F l m → Paired F l' m' → Paired F (l ++ l') (m ++ m')
  | _, _, _, _, .nil, h => h
  | _, _, _, _, .cons a t, h => .cons a (paired_append t h)
theorem pairs_len {H : Hp} {ps : List Addr} {T : Ties} (h : PairsAt H ps T) : ps.length = T.length := Paired.length h
theorem PairsAt.snoc {H : Hp} {ps : List Addr} {T : Ties} {p : Addr} {a b : Nat} (h : PairsAt H ps T) (hp : H p = some (.tup [vN a, vN b])) : PairsAt H (ps ++ [p]) (T ++ [(a, b)]) := Paired.snoc h hp
section
variable {P : Program} {w : World} {K : PySem.W.Frag} {mg : Str → Option Value} {base : Heap} {f : Addr} {fd : FuncData}
/-! ### joins -/
theorem sc_joins : FnScope ["web", "some", "source", "lot", "person", "one"] ["web", "some", "source"] (defScope (topS 22)) := ⟨rfl, rfl, rfl, by decide +kernel, rfl, by decide +kernel, by decide +kernel⟩
def spJoins : Sp := fun vs H Q _ => ∃ (v : V) (n : Nat) (T : Ties) (S R : Addr) (L src : List Nat), vs = [v, .ref S, .ref R] ∧ WebAt H v n T ∧ WebOk n T ∧ H S = some (.tup (L.map vN)) ∧ H R = some (.lst (src.map vN)) ∧ (∀ i ∈ L, i < n) ∧ L.length ≤ 1000 ∧ src.length ≤ 1000 ∧
  RetV (.bl (L.all fun i => (hangL T n (L ++ src) i).any fun s => decide (s ∈ src))) H Q
theorem ok_joins (nb : NoB mg) (c_hanging : Has P w K mg base 2 "hanging" ["web", "person", "lot"] spHanging) (F : Fun K "joins" "joins" (topS 22) f fd) (g : mg "joins" = some (.ref f)) : Has P w K mg base 3 "joins" ["web", "some", "source"] spJoins := by
  refine .mk' F g (F.binds fun _ _ _ _ _ _ us hl => match us, hl with | [_, _, _], _ => rfl) (F.ok sc_joins (fun vs H Q E h => ?_) (fun cdv A outer s H vs Q E hr h => ?_))
  · obtain ⟨v, n, T, S, R, L, src, rfl, _⟩ := h
    rfl
  · obtain ⟨v, n, T, S, R, L, src, rfl, hw, W, hS, hR, hln, hlz, hsz, q⟩ := h
    refine ⟨_, (pss_cons (ps_set (i := 3) sc_joins.nd rfl (Or.inr rfl) (pe_lst (StX.pa_star (pv 1) (StX.pa_star (pv 2) pa_nil))))
      (pss_one (ps_ret (pe_callB (cr_all rfl) (by rfl) nb.all_ (by decide +kernel) (pa_cons (pe_lc (own := [("person", 4)]) (g := (gName 4)) (tt := tYes) rfl sc_joins.nd (pi_tup (pv 1)) (blkOk_by (N := ["web", "some", "source", "lot", "person", "one"]) (sc := defScope (topS 22)) (by decide +kernel)) (fun _ _ _ _ _ => (pg_name (i := 4) sc_joins.nd rfl (Or.inl rfl))) (fun _ _ _ _ _ => pts_nil) (fun _ _ _ _ _ => (pe_callB (cr_anyK (K := K) rfl rfl) (by rfl) nb.any_ (by decide +kernel) (pa_cons (pe_lc (own := [("one", 5)]) (g := (gName 5)) (tt := tYes) rfl sc_joins.nd (pi_tupK (K := K) rfl (pe_has c_hanging (hr.mono (by decide)) (pa_cons (pv 0) (pa_cons (pv 4) (pa_cons (pv 3) pa_nil))))) (blkOk_by (by kernel_rfl)) (fun _ _ _ _ _ => (pg_name (i := 5) sc_joins.nd rfl (Or.inl rfl))) (fun _ _ _ _ _ => pts_nil) (fun _ _ _ _ _ => (pe_cmpR (op_inK (K := K) rfl) (pv 5) (pv 2) (by with_unfolding_all rfl)))) pa_nil)))) pa_nil))))), ?_⟩
    refine q_asgL (el_lst (ea_star (ev_var rfl) (.inl (SqT.of hS)) (ea_star (ev_var rfl) (.inr (SqL.of hR)) ea_nil)) (by rw [List.append_nil, List.length_append, List.length_map, List.length_map]; omega)) fun G H1 hG e1 hg => ?_
    rw [List.append_nil, ← List.map_append] at hg
    refine s_ret (ev_allT (fun i => (hangL T n (L ++ src) i).any fun s => decide (s ∈ src)) (ev_var rfl) (SqT.of (e1 _ _ hS)) hlz (fun _ => rfl) fun i H2 e2 hi => ?_) fun H2 e2 => q H2 (e1.trans e2)
    have hn5 := W.few
    refine ev_anyNT (fun s => decide (s ∈ src)) (eu_call (ea_cons (ev_var rfl) (ea_cons (ev_var rfl) (ea_cons (ev_var rfl) ea_nil))) fun H3 e3 Q' q' E' => ⟨v, n, T, i, G, L ++ src, rfl, hw.ex (.of ((e1.trans e2).trans e3)), W, hln i hi, e3 _ _ (e2 _ _ hg), q'⟩) (by have := hangL_len (T := T) (n := n) (lot := L ++ src) (p := i); omega) (fun _ => rfl) fun s H3 e3 hs => ?_
    exact ev_inL (ev_var rfl) (ev_var rfl) (SqL.of (e3 _ _ (e2 _ _ (e1 _ _ hR))))
/-! ### next_of -/
theorem sc_next_of : FnScope ["web", "heights", "found", "person", "one"] ["web", "heights"] (defScope (topS 24)) := ⟨rfl, rfl, rfl, by decide +kernel, rfl, by decide +kernel, by decide +kernel⟩
def spNext : Sp := fun vs H Q _ => ∃ (v u : V) (n : Nat) (T : Ties) (gs : List Int), vs = [v, u] ∧ WebAt H v n T ∧ WebOk n T ∧ HtsAt H u gs ∧ gs.length = n ∧ RetPairs (fun M => ∀ a b, (a, b) ∈ M ↔ Adj T a b ∧ a < n ∧ at0 gs b < at0 gs a) H Q
theorem ok_next_of (nb : NoB mg) (c_everybody : Has P w K mg base 1 "everybody" ["web"] spEvery) (c_tied_to : Has P w K mg base 1 "tied_to" ["web", "person"] spTied) (F : Fun K "next_of" "next_of" (topS 24) f fd) (g : mg "next_of" = some (.ref f)) : Has P w K mg base 2 "next_of" ["web", "heights"] spNext := by
  refine .mk' F g (F.binds fun _ _ _ _ _ _ us hl => match us, hl with | [_, _], _ => rfl) (F.ok sc_next_of (fun vs H Q E h => ?_) (fun cdv A outer s H vs Q E hr h => ?_))
  · obtain ⟨v, u, n, T, gs, rfl, _⟩ := h
    rfl
  · obtain ⟨v, u, n, T, gs, rfl, hw, W, ⟨c, rfl, hc⟩, hl, q⟩ := h
    refine ⟨_, (pss_cons (ps_set (i := 2) sc_next_of.nd rfl (Or.inl rfl) (pe_lst pa_nil))
      (pss_cons (ps_for PassesOwn.never rfl (pi_tup (pe_has c_everybody (hr.mono (by decide)) (pa_cons (pv 0) pa_nil))) (pg_name (i := 3) sc_next_of.nd rfl (Or.inr rfl))
        (pss_one (ps_expr (pe_bm PySem.F.plainAttrs_list PySem.F.slot_list_extend PySem.F.type_list_extend mt_extend (pv 2) (pa_cons (pe_lc (own := [("one", 4)]) (g := (gName 4)) rfl sc_next_of.nd (pi_list (pe_has c_tied_to (hr.mono (by decide)) (pa_cons (pv 0) (pa_cons (pv 3) pa_nil)))) (blkOk_by (N := ["web", "heights", "found", "person", "one"]) (sc := defScope (topS 24)) (by decide +kernel)) (fun _ _ _ _ _ => (pg_name (i := 4) sc_next_of.nd rfl (Or.inl rfl))) (fun _ _ _ _ _ => (pts_one (pt_cmpR op_lt (pe_ix (ix_tupK (K := K) rfl) (pv 1) (pv 4) (fun _ _ => rfl)) (pe_ix (ix_tupK (K := K) rfl) (pv 1) (pv 3) (fun _ _ => rfl)) (nomark _)))) (fun _ _ _ _ _ => (pe_tup (pa_cons (pv 3) (pa_cons (pv 4) pa_nil))))) pa_nil)))))
      (pss_one (ps_ret (pe_callTy call_tuple_of (by rfl) nb.tuple_ (by decide +kernel) (pa_cons (pv 2) pa_nil)))))), ?_⟩
    have hn5 := W.few
    refine q_asgL (el_lst ea_nil (by decide)) fun F H1 hF e1 hf => ?_
    refine ⟨v, rfl, v, n, T, rfl, hw.ex (.of e1), by omega, fun TP H2 hTP e2 ht => ⟨TP, rfl, ⟨_, SqT.of ht⟩, ?_⟩⟩
    have hTP0 := fresh_back e1 hTP
    have hTF : TP ≠ F := fun z => by rw [z, hf] at hTP; cases hTP
    refine for_tup (xs := (List.range n).map vN) (fun i σ H' => Ex H H' ∧ H' TP = some (.tup ((List.range n).map vN)) ∧ (∃ y3 y4, σ = [some v, some (.ref c), some (.ref F), y3, y4]) ∧ ∃ ps M, H' F = some (.lst (ps.map V.ref)) ∧ PairsAt H' ps M ∧ M.length ≤ 100 * i ∧ ∀ a b, (a, b) ∈ M ↔ Adj T a b ∧ a < i ∧ at0 gs b < at0 gs a)
      ⟨e1.trans e2, ht, ⟨_, _, rfl⟩, [], [], e2 _ _ hf, .nil, by simp, fun a b => by simp⟩ (fun i σ H' _ h => SqT.of h.2.1) (fun i z σ H' hz h => ?_) (fun σ H' h => ?_)
    · obtain ⟨e3, hT3, ⟨y3, y4, rfl⟩, ps, M, hf3, hps, hM, hm⟩ := h
      rw [List.getElem?_map] at hz
      obtain ⟨y, hy, rfl⟩ := Option.map_eq_some_iff.mp hz
      obtain ⟨hin, hyi⟩ := List.getElem?_eq_some_iff.mp hy
      rw [List.getElem_range] at hyi
      subst hyi
      rw [List.length_range] at hin
      refine ⟨.ref F, rfl, .inl ⟨rfl, _, SqL.of hf3⟩, ?_⟩
      refine ⟨v, rfl, vN i, rfl, v, n, T, i, rfl, hw.ex (.of e3), W, fun LP l H4 hLP e4 hlp hR => ⟨LP, rfl, ⟨_, SqL.of hlp⟩, ?_⟩⟩
      have hLF : LP ≠ F := fun z => by rw [z, hf3] at hLP; cases hLP
      have hRl := hR.2
      refine lcG (walk_list (xs := l.map vN)) noS (fun _ h => h.elim) (by rw [List.length_map]; omega) (fun k acc H' => ∃ qs N, acc = qs.map V.ref ∧ PairsAt H' qs N ∧ N.length ≤ k ∧ ∀ a b, (a, b) ∈ N ↔ a = i ∧ b ∈ l.take k ∧ at0 gs b < at0 gs i) ⟨[], [], rfl, .nil, by simp, fun a b => by simp⟩ (fun k acc H' _ e _ => SqL.of (e _ _ (fun z => z) hlp)) (fun k acc H' D l' hD hl' h => ?_) (fun k x acc H5 H' Post Skip hk e5 h y hp hsk => ?_) (fun D acc H5 hD e5 hacc hal h => ?_)
      · obtain ⟨qs, N, h1, h2, h3, h4⟩ := h
        exact ⟨qs, N, h1, h2.ex (xt_updL hl'), h3, h4⟩
      · obtain ⟨rfl, hx⟩ := y
        obtain ⟨qs, N, rfl, hqs, hNk, hN⟩ := h
        rw [List.getElem?_map] at hx
        obtain ⟨j, hj, rfl⟩ := Option.map_eq_some_iff.mp hx
        have hA : Adj T i j := (hR.1 j).mp (List.mem_of_getElem? hj)
        have hj2 := (W.adj hA).2.1
        refine ⟨rfl, ?_⟩
        have ec : Ex H H' := (e3.trans e4).trans e5.ex
        refine et_test (b := decide (at0 gs j < at0 gs i)) (ev_op (ev_hts (ev_var rfl) (ev_var rfl) ⟨c, rfl, ec _ _ hc⟩ (by omega)) (ev_hts (ev_var rfl) (ev_var rfl) ⟨c, rfl, ec _ _ hc⟩ (by omega)) rv_I0) H' (Ex.refl _) _ fun H6 e6 => ?_
        refine if_d (fun hb => ?_) (fun hb => ?_)
        · have hlt := of_decide_eq_true hb
          refine eu_tup (ea_cons (ev_var rfl) (ea_cons (ev_var rfl) ea_nil)) (by show 2 ≤ 100000; decide) H6 (Ex.refl _) _ fun p H7 hp7 e7 hx7 => ?_
          refine hp _ _ (.of (e6.trans e7)) ⟨qs ++ [p], N ++ [(i, j)], by rw [List.map_append]; rfl, (hqs.ex (.of (e6.trans e7))).snoc hx7, by rw [List.length_append]; simpa using hNk, fun a b => ?_⟩
          rw [List.mem_append, List.mem_singleton, hN, mem_take hj, Prod.mk.injEq]
          constructor
          · rintro (⟨h1, h2, h3⟩ | ⟨h1, h2⟩)
            · exact ⟨h1, .inl h2, h3⟩
            · subst h2; exact ⟨h1, .inr rfl, hlt⟩
          · rintro ⟨h1, h2 | h2, h3⟩
            · exact .inl ⟨h1, h2, h3⟩
            · exact .inr ⟨h1, h2⟩
        · have hlt := of_decide_eq_false hb
          refine hsk _ (.of e6) ⟨qs, N, rfl, hqs.ex (.of e6), by omega, fun a b => ?_⟩
          rw [hN, mem_take hj]
          constructor
          · rintro ⟨h1, h2, h3⟩; exact ⟨h1, .inl h2, h3⟩
          · rintro ⟨h1, h2 | h2, h3⟩
            · exact ⟨h1, h2, h3⟩
            · subst h2; exact absurd h3 hlt
      · obtain ⟨qs, N, rfl, hqs, hNk, hN⟩ := h
        have hDF : D ≠ F := fun z => by rw [z, e4 _ _ hf3] at hD; cases hD
        have hTF5 : H5 F = some (.lst (ps.map V.ref)) := e5 _ _ (fun z => z) (e4 _ _ hf3)
        rw [List.length_map] at hNk hN
        rw [List.take_of_length_le (Nat.le_refl _)] at hN
        have hql := pairs_len hqs
        have hpl := pairs_len hps
        have sz := sizeLine_eq
        refine ⟨F, D, _, _, rfl, rfl, hTF5, hacc, by rw [List.length_map, List.length_map]; omega, ?_⟩
        have xt : XT H5 (upd H5 F (.lst (ps.map V.ref ++ qs.map V.ref))) := xt_updL (.inr ⟨_, hTF5⟩)
        refine ⟨((e3.trans e4).trans e5.ex).mut hF, xt _ _ (e5 _ _ (fun z => z) (e4 _ _ hT3)), ⟨_, _, rfl⟩, ps ++ qs, M ++ N, by rw [upd_same, List.map_append], ?_, by rw [List.length_append]; omega, fun a b => ?_⟩
        · exact paired_append ((hps.ex (.of (e4.trans e5.ex))).ex xt) (hqs.ex xt)
        · rw [List.mem_append, hm, hN]
          constructor
          · rintro (⟨h1, h2, h3⟩ | ⟨h1, h2, h3⟩)
            · exact ⟨h1, by omega, h3⟩
            · subst h1; exact ⟨(hR.1 b).mp h2, by omega, h3⟩
          · rintro ⟨h1, h2, h3⟩
            by_cases e : a = i
            · subst e; exact .inr ⟨rfl, (hR.1 b).mpr h1, h3⟩
            · exact .inl ⟨h1, by omega, h3⟩
    · obtain ⟨e3, hT3, ⟨y3, y4, rfl⟩, ps, M, hf3, hps, hM, hm⟩ := h
      refine ⟨.ref F, rfl, F, _, rfl, .inl ⟨SqL.of hf3, fun p2 hn2 => q p2 ps M _ (fresh_back e3 hn2) (e3.trans (Ex.new hn2)) upd_same (hps.ex (.of (Ex.new hn2))) fun a b => ?_⟩⟩
      rw [hm, List.length_map, List.length_range]
/-! ### after -/
theorem sc_after : FnScope ["heights", "person", "other"] ["heights", "person", "other"] (defScope (topS 25)) := ⟨rfl, rfl, rfl, by decide +kernel, rfl, by decide +kernel, by decide +kernel⟩
def spAfter : Sp := fun vs H Q _ => ∃ (u : V) (p q : Nat) (gs : List Int), vs = [u, vN p, vN q] ∧ HtsAt H u gs ∧ p < gs.length ∧ q < gs.length ∧ gs.length ≤ 1000 ∧ RetTI (gs.set p (at0 gs q)) H Q
theorem ok_after (F : Fun K "after" "after" (topS 25) f fd) (g : mg "after" = some (.ref f)) : Has P w K mg base 1 "after" ["heights", "person", "other"] spAfter := by
  refine .mk' F g (F.binds fun _ _ _ _ _ _ us hl => match us, hl with | [_, _, _], _ => rfl) (F.ok sc_after (fun vs H Q E h => ?_) (fun cdv A outer s H vs Q E hr h => ?_))
  · obtain ⟨u, p, o, gs, rfl, _⟩ := h
    rfl
  · obtain ⟨u, p, o, gs, rfl, ⟨c, rfl, hc⟩, hp, ho, hz, q⟩ := h
    refine ⟨_, (pss_one (ps_ret (pe_tup (StX.pa_star (pe_slice sl_tupA (pv 0) po_none (po_some (pv 1))) (pa_cons (pe_ix ix_tup (pv 0) (pv 2) (fun _ _ => rfl)) (StX.pa_star (pe_slice sl_tupA (pv 0) (po_some (pe_op op_add (pv 1) pe_int)) po_none) pa_nil)))))), ?_⟩
    have hpl : p < (gs.map V.int).length := by rw [List.length_map]; exact hp
    obtain ⟨c1, n1⟩ := cut_lo hpl
    obtain ⟨c2, n2⟩ := cut_hi hpl
    refine s_retU (xs := (gs.set p (at0 gs o)).map V.int) ?_ fun P2 H2 hP e2 h2 => q P2 H2 hP e2 h2
    refine (?_ : EvU _ _ H _)
    have e : List.map V.int (gs.set p (at0 gs o)) = cutV (gs.map V.int) none (some (p : Int)) ++ V.int (at0 gs o) :: (cutV (gs.map V.int) (some ((p : Int) + 1)) none ++ []) := by
      rw [c1, c2, List.append_nil, List.map_set, set_cut hpl]
    rw [e]
    refine eu_tup (ea_starU (eu_slA (ev_var rfl) eo_none (eo_some (ev_var rfl)) (SqT.of hc) n1) (ea_cons (ev_hts (ev_var rfl) (ev_var rfl) ⟨c, rfl, hc⟩ ho) (ea_starU (eu_slA (ev_var rfl) (eo_some (ev_op (ev_var rfl) ev_c rv_I0)) eo_none (SqT.of hc) n2) ea_nil))) ?_
    rw [← e, List.length_map, List.length_set]; omega
/-! ### open_half -/
theorem sc_open_half : FnScope ["heights", "part", "height", "found", "one"] ["heights", "part", "height"] (defScope (topS 33)) := ⟨rfl, rfl, rfl, by decide +kernel, rfl, by decide +kernel, by decide +kernel⟩
theorem ev_isN {te : TE} {σ : L2.St} {H : Hp} {o : Option Int} (h : Ev te σ H (oV o)) : Ev (tOp (fun x y H Q => y = .non ∧ Q (.bl (decide (x = .non))) H) te (tC .non)) σ H (.bl o.isNone) := by
  have e := ev_op (z := .bl o.isNone) h (ev_c (v := .non)) (rv_val (r := fun x y H Q => y = .non ∧ Q (.bl (decide (x = .non))) H) fun H1 e1 Q q => ⟨rfl, by cases o <;> exact q⟩)
  exact e
theorem ev_notN {te : TE} {σ : L2.St} {H : Hp} {o : Option Int} (h : Ev te σ H (oV o)) : Ev (tOp (fun x y H Q => y = .non ∧ Q (.bl (!decide (x = .non))) H) te (tC .non)) σ H (.bl o.isSome) := by
  have e := ev_op (z := .bl o.isSome) h (ev_c (v := .non)) (rv_val (r := fun x y H Q => y = .non ∧ Q (.bl (!decide (x = .non))) H) fun H1 e1 Q q => ⟨rfl, by cases o <;> exact q⟩)
  exact e
theorem openB_eq {h : List Int} {part : Part} {v : Int} {i : Nat} : openB h part v i = (decide (v ≤ at0 h i) && ((pAt part i).isNone || (match pAt part i with | none => false | some u => decide (u ≤ v)))) := by
  unfold openB
  cases pAt part i <;> rfl
def spOpen : Sp := fun vs H Q _ => ∃ (u p : V) (x : Int) (hs : List Int) (part : Part), vs = [u, p, .int x] ∧ HtsAt H u hs ∧ PartAt H p part ∧ part.length = hs.length ∧ hs.length ≤ 1000 ∧ RetL ((openL hs.length hs part x).map vN) H Q
theorem ok_open_half (nb : NoB mg) (F : Fun K "open_half" "open_half" (topS 33) f fd) (g : mg "open_half" = some (.ref f)) : Has P w K mg base 1 "open_half" ["heights", "part", "height"] spOpen := by
  refine .mk' F g (F.binds fun _ _ _ _ _ _ us hl => match us, hl with | [_, _, _], _ => rfl) (F.ok sc_open_half (fun vs H Q E h => ?_) (fun cdv A outer s H vs Q E hr h => ?_))
  · obtain ⟨u, p, x, hs, part, rfl, _⟩ := h
    rfl
  · obtain ⟨u, p, x, hs, part, rfl, ⟨c, rfl, hc⟩, ⟨d, rfl, hd⟩, hpl, hz, q⟩ := h
    refine ⟨_, (pss_cons (ps_set (i := 3) sc_open_half.nd rfl (Or.inl rfl) (pe_lst pa_nil))
      (pss_cons (ps_for PassesOwn.never rfl (pi_range1 (by rfl) nb.range_ (pa_cons (pe_callB call_len_seq (by rfl) nb.len_ (by decide +kernel) (pa_cons (pv 0) pa_nil)) pa_nil)) (pg_name (i := 4) sc_open_half.nd rfl (Or.inl rfl))
        (pss_one (ps_if (PW.pt (pw_and (pt_cmpR op_ge (pe_ix ix_tup (pv 0) (pv 4) (fun _ _ => rfl)) (pv 2) (nomark _)) (pw_and1 (PW.pt (pw_or (pt_cmpR op_isN (pe_ix ix_tup (pv 1) (pv 4) (fun _ _ => rfl)) pe_non (nomark _)) (pw_or1 (pt_cmpR op_le (pe_ix ix_tup (pv 1) (pv 4) (fun _ _ => rfl)) (pv 2) (nomark _)))))))) (pss_one (ps_expr (pe_bm PySem.F.plainAttrs_list PySem.F.slot_list_append PySem.F.type_list_append mt_append (pv 3) (pa_cons (pv 4) pa_nil)))) pss_nil)))
      (pss_one (ps_ret (pv 3))))), ?_⟩
    refine q_asgL (el_lst ea_nil (by decide)) fun F H1 hF e1 hf => ?_
    refine q_forR1 (n := (hs.length : Int)) (ea_cons (ev_lenT (ev_var rfl) (SqT.of (e1 _ _ hc)) (by rw [List.length_map])) ea_nil) ⟨by omega, by omega⟩ (fun i σ H' => Ex H H' ∧ (∃ y4, σ = [some (.ref c), some (.ref d), some (.int x), some (.ref F), y4]) ∧ H' F = some (.lst (((List.range i).filter (openB hs part x)).map vN)))
      (fun H2 e2 => ⟨e1.trans e2, ⟨_, rfl⟩, e2 _ _ hf⟩) (fun i σ H' hi h => ?_) (fun σ H' h => ?_)
    · obtain ⟨e2, ⟨y4, rfl⟩, hf2⟩ := h
      have hi' : i < hs.length := by omega
      have hcc := e2 _ _ hc
      have hdd := e2 _ _ hd
      have rs : (List.range (i + 1)).filter (openB hs part x) = (List.range i).filter (openB hs part x) ++ if openB hs part x i = true then [i] else [] := by
        rw [List.range_succ, List.filter_append]
        congr 1
        by_cases hb : openB hs part x i = true
        · rw [if_pos hb, List.filter_cons_of_pos hb]; rfl
        · rw [if_neg hb, List.filter_cons_of_neg hb]; rfl
      refine s_when (b := openB hs part x i) ?_ (fun hb H3 e3 => ?_) (fun hb H3 e3 => ?_)
      · rw [openB_eq]
        refine et_and (et_test (ev_op (ev_hts (ev_var rfl) (ev_var rfl) ⟨c, rfl, hcc⟩ hi') (ev_var rfl) rv_I0)) fun _ => et_or (et_test (ev_isN (ev_part (ev_var rfl) (ev_var rfl) ⟨d, rfl, hdd⟩ (by omega)))) fun hn => et_test ?_
        have hp := ev_part (K := K) (ta := tVar 1) (tb := tVar 4) (σ := [some (.ref c), some (.ref d), some (.int x), some (.ref F), some (.int (i : Int))]) (H := H') (i := i) (ev_var rfl) (ev_var rfl) ⟨d, rfl, hdd⟩ (by omega)
        cases e : pAt part i with
        | none => rw [e] at hn; cases hn
        | some u =>
          rw [e] at hp
          exact ev_op hp (ev_var rfl) rv_I0
      · have hle : ((List.range i).filter (openB hs part x)).length ≤ i := by
          have := List.length_filter_le (openB hs part x) (List.range i)
          rwa [List.length_range] at this
        refine s_app (e3 _ _ hf2) (ev_var rfl) (ev_var rfl) (by rw [List.length_map]; omega) fun H4 e4 => ⟨((e2.trans e3).trans e4).mut hF, ⟨_, rfl⟩, ?_⟩
        rw [upd_same, rs, if_pos hb, List.map_append]; rfl
      · refine ⟨e2.trans e3, ⟨_, rfl⟩, ?_⟩
        rw [rs, if_neg (by rw [hb]; exact Bool.false_ne_true), List.append_nil]
        exact e3 _ _ hf2
    · obtain ⟨e2, ⟨y4, rfl⟩, hf2⟩ := h
      rw [Int.toNat_natCast] at hf2
      exact ⟨.ref F, rfl, q F H' hF e2 hf2⟩
end
end Hv
end
section
set_option Elab.async false
set_option linter.all false
set_option maxRecDepth 100000
set_option maxHeartbeats 4000000
namespace Hv
open PySem PySem.Spec PyProof.Rows L2 Evl
/-! ### sorted lists of tuples; dicts with tuple keys -/
theorem leB_total (a b : List Int) : (leB a b || leB b a) = true := by
  unfold leB
  rcases List.le_total a b with h | h
  · rw [decide_eq_true h]; rfl
  · rw [decide_eq_true h, Bool.or_true]
theorem leB_trans (a b c : List Int) (h1 : leB a b = true) (h2 : leB b c = true) : leB a c = true := decide_eq_true (List.le_trans (of_decide_eq_true h1) (of_decide_eq_true h2))
theorem sort_outs {l : List (List Int)} (nd : l.Nodup) : (l.mergeSort leB).Pairwise (· < ·) ∧ ∀ g, g ∈ l.mergeSort leB ↔ g ∈ l := by
  refine ⟨?_, fun g => (List.mergeSort_perm l leB).mem_iff⟩
  have h1 := List.pairwise_mergeSort leB_trans leB_total l
  have h2 : (l.mergeSort leB).Nodup := (List.mergeSort_perm l leB).nodup_iff.mpr nd
  refine (h1.and h2).imp fun {a b} ⟨h, hne⟩ => ?_
  have hle : a ≤ b := of_decide_eq_true h
  by_cases z : a < b
  · exact z
  · exact absurd (List.le_antisymm hle (List.not_lt.mp z)) hne
theorem outs_ext {l m : List (List Int)} (hl : l.Pairwise (· < ·)) (hm : m.Pairwise (· < ·)) (h : ∀ x, x ∈ l ↔ x ∈ m) : l = m :=
  sorted_ext (fun x => List.lt_irrefl x) (fun x y h1 h2 => List.lt_irrefl x (List.lt_trans h1 h2)) hl hm h
def OutsOk (T : Ties) (h : List Int) (outs : List (List Int)) : Prop := outs.Pairwise (· < ·) ∧ ∀ g, g ∈ outs ↔ Reach T h g
theorem OutsOk.uniq {T : Ties} {h : List Int} {a b : List (List Int)} (ha : OutsOk T h a) (hb : OutsOk T h b) : a = b := outs_ext ha.1 hb.1 fun x => (ha.2 x).trans (hb.2 x).symm
theorem inl_inj {a b : List Int} (h : a.map (Sum.inl : Int → Key) = b.map Sum.inl) : a = b := by
  have := congrArg (List.map fun k : Key => match k with | .inl i => i | .inr _ => 0) h
  rw [List.map_map, List.map_map] at this
  have e : ((fun k : Key => match k with | .inl i => i | .inr _ => 0) ∘ (Sum.inl : Int → Key)) = id := rfl
  rw [e, List.map_id, List.map_id] at this
  exact this
abbrev kvI (kvs : List (List Int × V)) : List (List Key × V) := kvs.map fun kv => (kv.1.map Sum.inl, kv.2)
theorem kvI_val {kvs : List (List Int × V)} {k : List Int} : (valV (kvI kvs) (k.map Sum.inl)).isSome = decide (k ∈ kvs.map (·.1)) := by
  induction kvs with
  | nil => rfl
  | cons p kvs ih =>
    rw [kvI, List.map_cons]
    by_cases e : p.1 = k
    · rw [valV_pos (by rw [e])]
      simp [e]
    · rw [valV_neg (fun z => e (inl_inj z))]
      rw [ih]
      have : ¬ k = p.1 := fun z => e z.symm
      simp [this]
theorem kvI_put {kvs : List (List Int × V)} {k : List Int} {v : V} (h : k ∉ kvs.map (·.1)) : putK (kvI kvs) (k.map Sum.inl) v = kvI (kvs ++ [(k, v)]) := by
  rw [putK_new]
  · unfold kvI; rw [List.map_append]; rfl
  · have := kvI_val (kvs := kvs) (k := k)
    rw [decide_eq_false h] at this
    cases e : valV (kvI kvs) (k.map Sum.inl) with
    | none => rfl
    | some x => rw [e] at this; cases this
/-- xs != [], a list of tuples of ints -/
theorem ev_neT {K : PySem.W.Frag} {σ : L2.St} {H : Hp} {ta tb : TE} {p : Addr} {es : List Addr} {bs : List (List Int)} (ha : Ev ta σ H (.ref p)) (hp : SqL K H p (es.map V.ref)) (hi : ITup H es bs) (hb : EvL tb σ H []) : Ev (tOp (rNeD K) ta tb) σ H (.bl (!bs.isEmpty)) := by
  refine ev_opL ha hb fun q H1 hq e1 => fun H2 e2 Q k => ?_
  have hl : es.length = bs.length := Paired.length hi
  refine ne_nil (ex_l (e1.trans e2) hp) (dpAll_T (hi.ex (.of (e1.trans e2)))) (small_T bs) (SqL.of (e2 _ _ hq)) ?_
  have e : (es.map V.ref).isEmpty = bs.isEmpty := by cases es <;> cases bs <;> simp_all
  rw [e]
  exact k H2 (Ex.refl _)
def RetOuts (R : List (List Int) → Prop) (H : Hp) (Q : VK) : Prop := ∀ (p : Addr) (ps : List Addr) (outs : List (List Int)) H2, H p = none → Ex H H2 → H2 p = some (.lst (ps.map V.ref)) → ITup H2 ps outs → R outs → Q (.ref p) H2
theorem paired_snoc {α β : Type} {F : α → β → Prop} : ∀ {l : List α} {m : List β} {x : β}, Paired F l (m ++ [x]) → ∃ l0 a, l = l0 ++ [a] ∧ Paired F l0 m ∧ F a x
  | _, [], _, .cons a .nil => ⟨[], _, rfl, .nil, a⟩
  | _, _ :: m, _, .cons a t => by
    obtain ⟨l0, b, rfl, h1, h2⟩ := paired_snoc t
    exact ⟨_ :: l0, b, rfl, .cons a h1, h2⟩
theorem hts_ne {n : Nat} {T : Ties} {h g : List Int} (W : WebOk n T) (hl : h.length = n) (r : Reach T h g) : g ≠ [] := fun z => by
  obtain ⟨k, r⟩ := r
  have := r.len
  have := W.pos
  rw [z] at *
  simp at *
  omega
theorem Reach.len {T : Ties} {h g : List Int} (r : Reach T h g) : g.length = h.length := by
  obtain ⟨k, r⟩ := r
  exact r.len
section
variable {P : Program} {w : World} {K : PySem.W.Frag} {mg : Str → Option Value} {base : Heap} {f : Addr} {fd : FuncData}
/-! ### all_of -/
theorem sc_all_of : FnScope ["web", "heights", "known", "edge", "now", "person", "other", "told"] ["web", "heights"] (defScope (topS 28)) := ⟨rfl, rfl, rfl, by decide +kernel, rfl, by decide +kernel, by decide +kernel⟩
def spAll : Sp := fun vs H Q _ => ∃ (v u : V) (n : Nat) (T : Ties) (h : List Int), vs = [v, u] ∧ WebAt H v n T ∧ WebOk n T ∧ HtsAt H u h ∧ h.length = n ∧ RetOuts (OutsOk T h) H Q
theorem ok_all_of {tk : Tok} (nb : NoB mg) (mMOST_OUTCOMES : mg "MOST_OUTCOMES" = some (.int 5000 tk)) (c_next_of : Has P w K mg base 2 "next_of" ["web", "heights"] spNext) (c_after : Has P w K mg base 1 "after" ["heights", "person", "other"] spAfter) (F : Fun K "all_of" "all_of" (topS 28) f fd) (g : mg "all_of" = some (.ref f)) : Has P w K mg base 3 "all_of" ["web", "heights"] spAll := by
  refine .mk' F g (F.binds fun _ _ _ _ _ _ us hl => match us, hl with | [_, _], _ => rfl) (F.ok sc_all_of (fun vs H Q E h => ?_) (fun cdv A outer s H vs Q E hr h => ?_))
  · obtain ⟨v, u, n, T, h, rfl, _⟩ := h
    rfl
  · obtain ⟨v, u, n, T, h, rfl, hw, W, ⟨c, rfl, hc⟩, hl, q⟩ := h
    have hu := hu_of hr
    refine ⟨_, (pss_cons (ps_par (i := 2) (j := 3) rfl sc_all_of.nd rfl rfl (by decide) rfl rfl (pa_cons (pe_dispT hu (pv 1) pe_bl) (pa_cons (pe_lst (pa_cons (pv 1) pa_nil)) pa_nil)) (by rfl))
      (pss_cons (ps_while PassesOwn.never (pt_cmpR (op_neD hr.units) (pv 3) (pe_lst pa_nil) (nomark _)) (pss_cons (ps_set (i := 4) sc_all_of.nd rfl (Or.inl rfl) (pe_bm0 PySem.F.plainAttrs_list PySem.F.slot_list_pop PySem.F.type_list_pop mt_pop (pv 3)))
      (pss_cons (ps_for PassesOwn.never rfl (pi_tup (pe_has c_next_of (hr.mono (by decide)) (pa_cons (pv 0) (pa_cons (pv 4) pa_nil)))) (pg_tup (n := 2) rfl (pgs_cons (pg_name (i := 5) sc_all_of.nd rfl (Or.inl rfl)) (pgs_cons (pg_name (i := 6) sc_all_of.nd rfl (Or.inl rfl)) pgs_nil)))
        (pss_cons (ps_set (i := 7) sc_all_of.nd rfl (Or.inl rfl) (pe_has c_after (hr.mono (by decide)) (pa_cons (pv 4) (pa_cons (pv 5) (pa_cons (pv 6) pa_nil)))))
      (pss_one (ps_if (pt_cmp (pc_dnotin hu (pv 7) (pv 2)) rfl) (pss_cons (ps_dput hu (pv 2) (pv 7) pe_bl rfl)
      (pss_one (ps_expr (pe_bm PySem.F.plainAttrs_list PySem.F.slot_list_append PySem.F.type_list_append mt_append (pv 3) (pa_cons (pv 7) pa_nil))))) pss_nil))))
      (pss_one (ps_if (pt_cmpR op_gt (pe_callB call_len_dT (by rfl) nb.len_ (by decide +kernel) (pa_cons (pv 2) pa_nil)) (pe_glob (v := .int 5000) rfl mMOST_OUTCOMES ⟨_, rfl⟩) (nomark _)) (pss_one ps_never) pss_nil)))))
      (pss_one (ps_ret (pe_callB (cr_sortDT rfl hr.units) (by rfl) nb.sorted_ (by decide +kernel) (pa_cons (pv 2) pa_nil)))))), ?_⟩
    have hn5 := W.few
    -- known, edge = {heights: True}, [heights]
    intro KA hKA
    refine ⟨.ref c, rfl, upd_same, c, h.map Sum.inl, rfl, ?_, ?_⟩
    · rw [upd_ne (fun z => by rw [z, hKA] at hc; cases hc), hc, kV_ints]
    have e0 : Ex H (upd (upd H KA (.dT [])) KA (.dT [(h.map Sum.inl, .bl true)])) := ((Ex.refl H).mut hKA).mut hKA
    refine el_lst (ea_cons (ev_var (v := .ref c) rfl) ea_nil) (by show 1 ≤ 100000; decide) _ (Ex.refl _) _ fun EA H1 hEA e1 he1 => ?_
    have hk1 := e1 _ _ upd_same
    have hEA0 := fresh_back e0 hEA
    have hne : KA ≠ EA := fun z => by rw [← z, upd_same] at hEA; cases hEA
    refine ⟨_, _, rfl, ?_⟩
    have fewF : ∀ {found : List (List Int)}, found.Nodup → (∀ g ∈ found, Reach T h g) → found.length ≤ 3125 := fun nd pr => reach_few (by omega) nd pr
    refine q_while (fun m σ H' => Ex H H' ∧ (∃ y4 y5 y6 y7, σ = [some v, some (.ref c), some (.ref KA), some (.ref EA), y4, y5, y6, y7]) ∧ ∃ (kvs : List (List Int × V)) (es : List Addr) (edge : List (List Int)), H' KA = some (.dT (kvI kvs)) ∧ H' EA = some (.lst (es.map V.ref)) ∧ ITup H' es edge ∧ Dfs (Mv T) (Reach T h) (kvs.map (·.1)) edge ∧ h ∈ kvs.map (·.1) ∧ edge.length ≤ kvs.length ∧ m = 2 * (3125 - kvs.length) + edge.length)
      (2 * 3124 + 1) ⟨e0.trans e1, ⟨_, _, _, _, rfl⟩, [(h, .bl true)], [c], [h], hk1, he1, .cons ((e0.trans e1) _ _ hc) .nil, .start ⟨0, .zero⟩, by simp, by simp, rfl⟩ ?_
    rintro m σ H' ⟨e2, ⟨y4, y5, y6, y7, rfl⟩, kvs, es, edge, hk, he, hi, D, hp, hel, rfl⟩
    refine ⟨!edge.isEmpty, et_test (ev_neT (ev_var rfl) (SqL.of he) hi (el_lst ea_nil (by decide))), fun hb H2 e3 => ?_, fun hb H2 e3 => ?_⟩
    · obtain ⟨edge, x, rfl⟩ := list_end (l := edge) (fun z => by rw [z] at hb; cases hb)
      obtain ⟨es, xa, rfl, hi0, hxa⟩ := paired_snoc hi
      have hx := D.pr x (D.sub x (List.mem_append_right _ List.mem_cons_self))
      have hxl := hx.len
      have hfl := fewF D.nd D.pr
      rw [List.length_map] at hfl
      rw [List.length_append, List.length_singleton] at hel
      refine ⟨fun σ' H' => ∃ m', m' < 2 * (3125 - kvs.length) + (edge ++ [x]).length ∧ Ex H H' ∧ (∃ y4 y5 y6 y7, σ' = [some v, some (.ref c), some (.ref KA), some (.ref EA), y4, y5, y6, y7]) ∧ ∃ (kvs : List (List Int × V)) (es : List Addr) (edge : List (List Int)), H' KA = some (.dT (kvI kvs)) ∧ H' EA = some (.lst (es.map V.ref)) ∧ ITup H' es edge ∧ Dfs (Mv T) (Reach T h) (kvs.map (·.1)) edge ∧ h ∈ kvs.map (·.1) ∧ edge.length ≤ kvs.length ∧ m' = 2 * (3125 - kvs.length) + edge.length, fun _ _ h => h, ?_⟩
      -- now = edge.pop()
      refine ⟨.ref EA, rfl, .inl ⟨rfl, _, SqL.of (e3 _ _ he)⟩, EA, _, .ref xa, rfl, rfl, e3 _ _ he, ?_, ?_⟩
      · rw [List.map_append]; simp
      rw [show (List.map V.ref (es ++ [xa])).dropLast = es.map V.ref by rw [List.map_append]; simp]
      have e4 : Ex H (upd H2 EA (.lst (es.map V.ref))) := (e2.trans e3).mut hEA0
      have xt4 : XT H2 (upd H2 EA (.lst (es.map V.ref))) := xt_updL (.inr ⟨_, e3 _ _ he⟩)
      have hxa4 : (upd H2 EA (.lst (es.map V.ref))) xa = some (.tup (x.map V.int)) := xt4 _ _ (e3 _ _ hxa)
      -- for person, other in next_of(web, now)
      refine ⟨v, rfl, .ref xa, rfl, v, .ref xa, n, T, x, rfl, hw.ex (.of e4), W, ⟨xa, rfl, hxa4⟩, hxl.trans hl, fun TP ps M H3 hTP e5 ht hps hM => ⟨TP, rfl, ⟨_, SqT.of ht⟩, ?_⟩⟩
      have hML : M.length = ps.length := (pairs_len hps).symm
      have hEA3 : H3 EA = some (.lst (es.map V.ref)) := e5 _ _ upd_same
      have hKA3 : H3 KA = some (.dT (kvI kvs)) := e5 _ _ (by rw [upd_ne hne]; exact e3 _ _ hk)
      have hTPK : TP ≠ KA := fun z => by rw [z, upd_ne hne, e3 _ _ hk] at hTP; cases hTP
      have hTPE : TP ≠ EA := fun z => by rw [z, upd_same] at hTP; cases hTP
      refine for_tup (xs := ps.map V.ref) (fun i σ' H' => Ex H H' ∧ XT H3 H' ∧ (∃ y5 y6 y7, σ' = [some v, some (.ref c), some (.ref KA), some (.ref EA), some (.ref xa), y5, y6, y7]) ∧ ∃ (kvs2 : List (List Int × V)) (es2 : List Addr) (edge2 : List (List Int)), H' KA = some (.dT (kvI kvs2)) ∧ H' EA = some (.lst (es2.map V.ref)) ∧ ITup H' es2 edge2 ∧ DfsIn (Mv T) (Reach T h) x (fun g => ∃ t ∈ M.take i, g = x.set t.1 (at0 x t.2)) (kvs2.map (·.1)) edge2 ∧ h ∈ kvs2.map (·.1) ∧ kvs.length ≤ kvs2.length ∧ edge2.length + kvs.length = edge.length + kvs2.length)
        ⟨e4.trans e5, fun _ _ z => z, ⟨_, _, _, rfl⟩, kvs, es, edge, hKA3, hEA3, ITup.ex (fun b xs z => e5 _ _ (xt4 b xs (e3 _ _ z))) hi0, D.pop.imp (fun y h => by obtain ⟨t, ht, _⟩ := h; simp at ht), hp, Nat.le_refl _, rfl⟩ (fun i σ' H' _ h => SqT.of (h.2.1 _ _ ht)) (fun i z σ' H' hz h => ?_) (fun σ' H' h => ?_)
      · obtain ⟨e6, xt6, ⟨y5, y6, y7, rfl⟩, kvs2, es2, edge2, hk6, he6, hi6, D2, hp2, hle, heq⟩ := h
        rw [List.getElem?_map] at hz
        obtain ⟨pa, hpa, rfl⟩ := Option.map_eq_some_iff.mp hz
        obtain ⟨t, ht', htp⟩ := paired_getL hps hpa
        have hA := (hM t.1 t.2).mp (List.mem_of_getElem? ht')
        have htb := (W.adj hA.1).2.1
        have hfl2 := fewF D2.nd D2.pr
        rw [List.length_map] at hfl2
        refine ⟨pa, _, rfl, SqT.of (xt6 _ _ htp), rfl, vN t.1, [vN t.2], rfl, vN t.2, [], rfl, rfl, ?_⟩
        have hxa6 := xt6 _ _ (e5 _ _ hxa4)
        -- told = after(now, person, other)
        refine ⟨.ref xa, rfl, vN t.1, rfl, vN t.2, rfl, .ref xa, t.1, t.2, x, rfl, ⟨xa, rfl, hxa6⟩, by omega, by omega, by omega, fun TA H7 hTA e7 hta => ?_⟩
        have mv : Mv T x (x.set t.1 (at0 x t.2)) := ⟨t.1, t.2, hA.1, by omega, by omega, hA.2.2, rfl⟩
        have nxC : ∀ g, (∃ t' ∈ M.take (i + 1), g = x.set t'.1 (at0 x t'.2)) → (∃ t' ∈ M.take i, g = x.set t'.1 (at0 x t'.2)) ∨ g = x.set t.1 (at0 x t.2) := by
          rintro g ⟨t', h1, h2⟩
          rcases (mem_take ht').mp h1 with h1 | h1
          · exact .inl ⟨t', h1, h2⟩
          · subst h1; exact .inr h2
        have hkk : H7 TA = some (.tup (((x.set t.1 (at0 x t.2)).map Sum.inl).map kV)) := by rw [kV_ints]; exact hta
        -- if told not in known
        refine ⟨.ref TA, rfl, .ref KA, rfl, KA, _, rfl, DGet.t (e7 _ _ hk6) hkk, ?_⟩
        rw [kvI_val]
        refine ⟨_, rfl, ?_⟩
        refine if_d (fun hb2 => ?_) (fun hb2 => ?_)
        · have hno : x.set t.1 (at0 x t.2) ∉ kvs2.map (·.1) := by simpa using hb2
          have sz := sizeLine_eq
          refine ⟨.ref KA, rfl, .ref TA, rfl, KA, _, rfl, DPut.t (e7 _ _ hk6) hkk (by rw [List.length_map]; omega), ?_⟩
          rw [kvI_put hno]
          have hTAK : TA ≠ KA := fun z => by rw [z, hk6] at hTA; cases hTA
          have hTAE : TA ≠ EA := fun z => by rw [z, he6] at hTA; cases hTA
          have xt8 : ∀ o, XT H7 (upd H7 KA o) := fun o b xs hb => by rw [upd_ne (fun z => by rw [z, e7 _ _ hk6] at hb; cases hb)]; exact hb
          have e8 : Ex H (upd H7 KA (.dT (kvI (kvs2 ++ [(x.set t.1 (at0 x t.2), .bl true)])))) := (e6.trans e7).mut hKA
          have he8 : (upd H7 KA (.dT (kvI (kvs2 ++ [(x.set t.1 (at0 x t.2), .bl true)])))) EA = some (.lst (es2.map V.ref)) := by rw [upd_ne (Ne.symm hne)]; exact e7 _ _ he6
          refine s_app he8 (ev_var rfl) (ev_var rfl) (by rw [List.length_map, show es2.length = edge2.length from Paired.length hi6]; omega) fun H9 e9 => ?_
          have xt9 : XT H9 (upd H9 EA (.lst (es2.map V.ref ++ [.ref TA]))) := xt_updL (.inr ⟨_, e9 _ _ he8⟩)
          have xtA : XT H7 (upd H9 EA (.lst (es2.map V.ref ++ [.ref TA]))) := fun b xs hb => xt9 _ _ (e9 _ _ (xt8 _ b xs hb))
          refine ⟨(e8.trans e9).mut hEA0, fun b xs hb => xtA _ _ (e7 _ _ (xt6 _ _ hb)), ⟨_, _, _, rfl⟩, kvs2 ++ [(x.set t.1 (at0 x t.2), .bl true)], es2 ++ [TA], edge2 ++ [x.set t.1 (at0 x t.2)], ?_, ?_, ?_, ?_, ?_, ?_, ?_⟩
          · rw [upd_ne hne]; exact e9 _ _ upd_same
          · rw [upd_same, List.map_append]; rfl
          · exact Paired.snoc ((hi6.ex (.of e7)).ex xtA) (xtA _ _ hta)
          · rw [List.map_append]
            exact (D2.add hno ((D2.pr x D2.at_).step mv)).imp nxC
          · rw [List.map_append]; exact List.mem_append_left _ hp2
          · rw [List.length_append]; omega
          · rw [List.length_append, List.length_append]; simp only [List.length_singleton]; omega
        · have hyes : x.set t.1 (at0 x t.2) ∈ kvs2.map (·.1) := by simpa using hb2
          exact ⟨e6.trans e7, fun b xs hb => e7 _ _ (xt6 _ _ hb), ⟨_, _, _, rfl⟩, kvs2, es2, edge2, e7 _ _ hk6, e7 _ _ he6, hi6.ex (.of e7), (D2.skip (y := x.set t.1 (at0 x t.2)) fun _ => hyes).imp nxC, hp2, hle, heq⟩
      · obtain ⟨e6, xt6, ⟨y5, y6, y7, rfl⟩, kvs2, es2, edge2, hk6, he6, hi6, D2, hp2, hle, heq⟩ := h
        have hfl2 := fewF D2.nd D2.pr
        rw [List.length_map] at hfl2
        -- if len(known) > MOST_OUTCOMES: no
        refine ⟨.ref KA, rfl, KA, _, rfl, hk6, _, _, rfl, rfl, _, rfl, if_f (decide_eq_false ?_) ?_⟩
        · rw [List.length_map]; omega
        refine ⟨2 * (3125 - kvs2.length) + edge2.length, ?_, e6, ⟨_, _, _, _, rfl⟩, kvs2, es2, edge2, hk6, he6, hi6, D2.done (fun y hr => ?_), hp2, by omega, rfl⟩
        · rw [List.length_append]; simp only [List.length_singleton]; omega
        · rw [List.length_map, ← hML, List.take_length]
          obtain ⟨a, b, h1, h2, h3, h4, h5⟩ := hr
          exact ⟨(a, b), (hM a b).mpr ⟨h1, by omega, h4⟩, h5⟩
    · have he0 : edge = [] := by
        cases edge with
        | nil => rfl
        | cons a b => cases hb
      subst he0
      have hO : OutsOk T h ((kvs.map (·.1)).mergeSort leB) := ⟨(sort_outs D.nd).1, fun g => ((sort_outs D.nd).2 g).trans (all_end D hp g)⟩
      refine ⟨.ref KA, rfl, KA, kvs, rfl, .inl (e3 _ _ hk), fun kv hkv => hts_ne W hl (D.pr _ (List.mem_map.mpr ⟨kv, hkv, rfl⟩)), fun ps' p' hps hp' => ?_⟩
      have e9 := (e2.trans e3).trans (Ex.new (o := .lst (ps'.map V.ref)) hp')
      exact q p' ps' _ _ (fresh_back (e2.trans e3) hp') e9 upd_same (hps.ex (.of (Ex.new hp'))) hO
end
end Hv
end
section
set_option Elab.async false
set_option linter.all false
set_option maxRecDepth 100000
set_option maxHeartbeats 4000000
namespace Hv
open PySem PySem.Spec PyProof.Rows L2 Evl
/-! ### plain -/
def matchOne (x : Int) : Option Int → Bool
  | none => true
  | some u => decide (x = u)
def matchB (g : List Int) (part : Part) : Bool := (List.range g.length).all fun i => matchOne (at0 g i) (pAt part i)
theorem matchB_iff {g : List Int} {part : Part} : matchB g part = true ↔ Match g.length part g := by
  unfold matchB Match
  rw [List.all_eq_true]
  constructor
  · intro h i hi u hu
    have := h i (List.mem_range.mpr hi)
    rw [hu] at this
    exact of_decide_eq_true this
  · intro h i hi
    cases e : pAt part i with
    | none => rfl
    | some u => exact decide_eq_true (h i (List.mem_range.mp hi) u e)
noncomputable def pieceL (T : Ties) (n : Nat) (h : List Int) (part : Part) (x : Int) (p : Nat) : List Nat := if p ∈ openL n h part x then hangL T n (openL n h part x) p else []
theorem hang_any {T : Ties} {n : Nat} {h : List Int} {part : Part} {x : Int} {p : Nat} (hp : p ∈ openL n h part x) : ((hangL T n (openL n h part x) p).any fun i => decide (at0 h i = x)) = true ↔ Src T n h part x p := by
  rw [List.any_eq_true]
  have mo : ∀ i, i ∈ openL n h part x ↔ OpenH n h part x i := fun i => mem_openL
  constructor
  · rintro ⟨s, hs, e⟩
    exact ⟨mem_openL.mp hp, s, (mem_hangL.mp hs).2.mono fun i hi => (mo i).mp hi, of_decide_eq_true e⟩
  · rintro ⟨o, s, hs, e⟩
    exact ⟨s, mem_hangL.mpr ⟨(hs.inside o).1, hs.mono fun i hi => (mo i).mpr hi⟩, decide_eq_true e⟩
theorem piece_any {T : Ties} {n : Nat} {h : List Int} {part : Part} {x : Int} {p : Nat} : ((pieceL T n h part x p).any fun i => decide (at0 h i = x)) = true ↔ Src T n h part x p := by
  unfold pieceL
  by_cases hp : p ∈ openL n h part x
  · rw [if_pos hp]; exact hang_any hp
  · rw [if_neg hp]
    refine ⟨fun z => by simp at z, fun z => absurd (mem_openL.mpr z.1) hp⟩
theorem piece_lt {T : Ties} {n : Nat} {h : List Int} {part : Part} {x : Int} {p : Nat} : ∀ i ∈ pieceL T n h part x p, i < n := fun i hi => by
  unfold pieceL at hi
  split at hi
  · exact (mem_hangL.mp hi).1
  · simp at hi
theorem piece_len {T : Ties} {n : Nat} {h : List Int} {part : Part} {x : Int} {p : Nat} : (pieceL T n h part x p).length ≤ n := by
  unfold pieceL
  split
  · exact hangL_len
  · simp
theorem openL_len {n : Nat} {h : List Int} {part : Part} {x : Int} : (openL n h part x).length ≤ n := by
  have := List.length_filter_le (openB h part x) (List.range n)
  rwa [List.length_range] at this
/-- the first of whom nothing comes -/
def FirstBad (T : Ties) (n : Nat) (h : List Int) (part : Part) (p : Nat) (x : Int) : Prop := p < n ∧ pAt part p = some x ∧ ¬ Src T n h part x p ∧ ∀ q, q < p → ∀ y, pAt part q = some y → Src T n h part y q
theorem FirstBad.free {T : Ties} {n : Nat} {h : List Int} {part : Part} {p : Nat} {x : Int} (b : FirstBad T n h part p x) : ¬ Free T n h part := fun F => b.2.2.1 (F p b.1 x b.2.1)
theorem yes_do {te : TE} {σ : L2.St} {H : Hp} {Post : VK} {Skip : Hp → Prop} (h : te σ H Post) : tYes σ H (fun b H3 => if b = true then te σ H3 Post else Skip H3) := by
  show (if true = true then te σ H Post else Skip H)
  rw [if_pos rfl]; exact h
theorem rd_ret {te : TE} {D : Ends} {σ : L2.St} {H : Hp} (h : te σ H D.rt) : tRet te D σ H := h
theorem rd_cb1 {r : List V → Hp → VK → Prop} {te : TE} {σ : L2.St} {H : Hp} {Q : VK} (h : te σ H fun x H1 => r [x] H1 Q) : tCB r (tCons te tNil) σ H Q := h
section
variable {P : Program} {w : World} {K : PySem.W.Frag} {mg : Str → Option Value} {base : Heap} {f : Addr} {fd : FuncData}
/-! ### told_of -/
theorem sc_told_of : FnScope ["part", "height"] ["part"] (defScope (topS 39)) := ⟨rfl, rfl, rfl, by decide +kernel, rfl, by decide +kernel, by decide +kernel⟩
def RetTold (part : Part) (H : Hp) (Q : VK) : Prop := ∀ (p : Addr) (told : List Int) H2, H p = none → Ex H H2 → H2 p = some (.lst (told.map V.int)) → told.Pairwise (· < ·) → (∀ x, x ∈ told ↔ some x ∈ part) → told.length ≤ part.length → Q (.ref p) H2
def spTold : Sp := fun vs H Q _ => ∃ (p : V) (part : Part), vs = [p] ∧ PartAt H p part ∧ part.length ≤ 60 ∧ RetTold part H Q
def toldI (part : Part) : List Int := (part.filter Option.isSome).map fun o => o.getD 0
theorem toldI_V (part : Part) : (part.filter Option.isSome).map oV = (toldI part).map V.int := by
  unfold toldI
  rw [List.map_map]
  refine List.map_congr_left fun o ho => ?_
  cases o with
  | none => simp at ho
  | some x => rfl
theorem mem_toldI {part : Part} {x : Int} : x ∈ toldI part ↔ some x ∈ part := by
  unfold toldI
  rw [List.mem_map]
  constructor
  · rintro ⟨o, ho, rfl⟩
    obtain ⟨h1, h2⟩ := List.mem_filter.mp ho
    cases o with
    | none => cases h2
    | some y => exact h1
  · intro h
    exact ⟨some x, List.mem_filter.mpr ⟨h, rfl⟩, rfl⟩
theorem toldI_len {part : Part} : (toldI part).length ≤ part.length := by
  unfold toldI
  rw [List.length_map]
  exact List.length_filter_le _ _
theorem ok_told_of (nb : NoB mg) (F : Fun K "told_of" "told_of" (topS 39) f fd) (g : mg "told_of" = some (.ref f)) : Has P w K mg base 1 "told_of" ["part"] spTold := by
  refine .mk' F g (F.binds fun _ _ _ _ _ _ us hl => match us, hl with | [_], _ => rfl) (F.ok sc_told_of (fun vs H Q E h => ?_) (fun cdv A outer s H vs Q E hr h => ?_))
  · obtain ⟨p, part, rfl, _⟩ := h
    rfl
  · obtain ⟨p, part, rfl, ⟨d, rfl, hd⟩, hz, q⟩ := h
    refine ⟨_, (pss_one (ps_ret (pe_callB (cr_sortedSet rfl) (by rfl) nb.sorted_ (by decide +kernel) (pa_cons (pe_callTy (cr_setI rfl) (by rfl) nb.set_ (by decide +kernel) (pa_cons (pe_lc (own := [("height", 1)]) (g := (gName 1)) rfl sc_told_of.nd (pi_tup (pv 0)) (blkOk_by (N := ["part", "height"]) (sc := defScope (topS 39)) (by decide +kernel)) (fun _ _ _ _ _ => (pg_name (i := 1) sc_told_of.nd rfl (Or.inl rfl))) (fun _ _ _ _ _ => (pts_one (pt_cmpR op_notN (pv 1) pe_non (nomark _)))) (fun _ _ _ _ _ => (pv 1))) pa_nil)) pa_nil)))), ?_⟩
    have e' := given_all part none Option.isSome oV
    have key : EvL (tLc (iTup K (tVar 0)) (gName 1) (tTest (tOp (fun x y H Q => y = .non ∧ Q (.bl (!decide (x = .non))) H) (tVar 1) (tC .non))) (tVar 1) [1]) [some (.ref d), none] H ((toldI part).map V.int) := by
      rw [← toldI_V, ← e', ← List.length_map (as := part) (f := oV)]
      refine el_lcT (vs := [1]) _ _ (ev_var rfl) (SqT.of hd) (by rw [List.length_map]; omega) (fun _ => rfl) (fun i x H1 e1 hi => ?_) (fun i x H1 e1 hi _ => ?_)
      · rw [List.getElem?_map] at hi
        obtain ⟨o, ho, rfl⟩ := Option.map_eq_some_iff.mp hi
        rw [getD_of ho]
        exact et_test (ev_notN (ev_var rfl))
      · rw [List.getElem?_map] at hi
        obtain ⟨o, ho, rfl⟩ := Option.map_eq_some_iff.mp hi
        rw [getD_of ho]
        exact ev_var rfl
    refine rd_ret (rd_cb1 (rd_cb1 (key H (Ex.refl _) _ fun L H1 hL e1 hx => ?_)))
    refine ⟨L, toldI part, rfl, .inr (SqL.of hx), by have := toldI_len (part := part); omega, fun S k hS hk => ?_⟩
    have tl := toldI_len (part := part)
    refine ⟨S, _, k, rfl, upd_same, by omega, fun ns p' hns hmem hlen hp' => ?_⟩
    have e2 : Ex H (upd (upd H1 S (SetO w S (fun j => decide (j ∈ toldI part)) k)) p' (.lst (ns.map V.int))) := (e1.trans (Ex.new hS)).trans (Ex.new hp')
    refine q p' ns _ (fresh_back (e1.trans (Ex.new hS)) hp') e2 upd_same hns (fun x => ?_) (by omega)
    rw [hmem, decide_eq_true_eq]
    exact mem_toldI
/-! ### matches -/
theorem sc_matches : FnScope ["told", "part", "height", "wish"] ["told", "part"] (defScope (topS 40)) := ⟨rfl, rfl, rfl, by decide +kernel, rfl, by decide +kernel, by decide +kernel⟩
def spMatches : Sp := fun vs H Q _ => ∃ (u p : V) (g : List Int) (part : Part), vs = [u, p] ∧ HtsAt H u g ∧ PartAt H p part ∧ part.length = g.length ∧ g.length ≤ 1000 ∧ RetV (.bl (matchB g part)) H Q
theorem ok_matches (nb : NoB mg) (F : Fun K "matches" "matches" (topS 40) f fd) (g : mg "matches" = some (.ref f)) : Has P w K mg base 1 "matches" ["told", "part"] spMatches := by
  refine .mk' F g (F.binds fun _ _ _ _ _ _ us hl => match us, hl with | [_, _], _ => rfl) (F.ok sc_matches (fun vs H Q E h => ?_) (fun cdv A outer s H vs Q E hr h => ?_))
  · obtain ⟨u, p, gs, part, rfl, _⟩ := h
    rfl
  · obtain ⟨u, p, gs, part, rfl, ⟨c, rfl, hc⟩, ⟨d, rfl, hd⟩, hpl, hz, q⟩ := h
    refine ⟨_, (pss_one (ps_ret (pe_callB (cr_all rfl) (by rfl) nb.all_ (by decide +kernel) (pa_cons (pe_lc (own := [("height", 2), ("wish", 3)]) (g := _) (tt := tYes) rfl sc_matches.nd (RZ.pi_zipA (by rfl) nb.zip_ (pa_cons (pv 0) (pa_cons (pv 1) pa_nil))) (blkOk_by (N := ["told", "part", "height", "wish"]) (sc := defScope (topS 40)) (by decide +kernel)) (fun _ _ _ _ _ => (pg_tupK (K := K) (n := 2) rfl rfl (pgs_cons (pg_name (i := 2) sc_matches.nd rfl (Or.inl rfl)) (pgs_cons (pg_name (i := 3) sc_matches.nd rfl (Or.inl rfl)) pgs_nil)))) (fun _ _ _ _ _ => pts_nil) (fun _ _ _ _ _ => (pe_or (pe_cmpR op_isN (pv 3) pe_non (nomark _)) (pe_one (pe_cmpR op_eq (pv 2) (pv 3) (nomark _)))))) pa_nil)))), ?_⟩
    refine ⟨.ref c, rfl, .ref d, rfl, c, d, _, _, rfl, .inr ⟨SqT.of hc, SqT.of hd, ?_⟩⟩
    refine lcG (walk_zipT (n := gs.length) (by rw [List.length_map, List.length_map]; omega)) noS (fun _ h => h.elim) (by omega) (fun i acc H' => acc = ((List.range i).map fun j => matchOne (at0 gs j) (pAt part j)).map V.bl) rfl (fun i acc H' _ e _ => ⟨SqT.of (e _ _ (fun z => z) hc), SqT.of (e _ _ (fun z => z) hd)⟩) (fun _ _ _ _ _ _ _ h => h) (fun i x acc H3 H' Post Skip hi e3 h y hp hsk => ?_) (fun D acc H3 hD e3 hacc hal h => ?_)
    · obtain ⟨TT, x1, y1, rfl, hT, rfl, h1, h2⟩ := y
      subst h
      replace h1 : (gs.map V.int)[i]? = some x1 := h1
      replace h2 : (part.map oV)[i]? = some y1 := h2
      rw [hts_get hi] at h1
      rw [part_get (by omega)] at h2
      cases h1; cases h2
      refine ⟨TT, _, rfl, SqT.of upd_same, rfl, .int (at0 gs i), [oV (pAt part i)], rfl, oV (pAt part i), [], rfl, rfl, ?_⟩
      refine ⟨rfl, ?_⟩
      have eT : ExP noS H3 (upd H3 TT (.tup [.int (at0 gs i), oV (pAt part i)])) := .of (Ex.new hT)
      refine yes_do (ev_orV (a := (pAt part i).isNone) (b := matchOne (at0 gs i) (pAt part i)) (ev_isN (ev_var rfl)) (fun hn => ?_) _ (Ex.refl _) _ fun H4 e4 => ?_)
      · cases e : pAt part i with
        | none => rw [e] at hn; cases hn
        | some u => exact ev_eqI (ev_var rfl) (ev_var rfl)
      · refine hp _ _ (eT.trans (.of e4)) ?_
        have e : ((pAt part i).isNone || matchOne (at0 gs i) (pAt part i)) = matchOne (at0 gs i) (pAt part i) := by cases pAt part i <;> rfl
        rw [e, List.range_succ, List.map_append, List.map_append]
        rfl
    · subst h
      refine ⟨D, _, rfl, SqL.of hacc, ?_⟩
      have e2 : ((List.range gs.length).map fun j => matchOne (at0 gs j) (pAt part j)).all id = matchB gs part := by rw [List.all_map]; rfl
      rw [e2]
      exact q _ e3.ex
/-! ### half_blocked_of -/
theorem sc_half_blocked_of : FnScope ["web", "heights", "part", "person", "height", "some", "piece", "one"] ["web", "heights", "part"] (defScope (topS 34)) := ⟨rfl, rfl, rfl, by decide +kernel, rfl, by decide +kernel, by decide +kernel⟩
def RetBlk (T : Ties) (n : Nat) (h : List Int) (part : Part) (H : Hp) (Q : VK) : Prop :=
  (Free T n h part → RetV .non H Q) ∧ ∀ p x, FirstBad T n h part p x → ∀ (R S : Addr) H2, Ex H H2 → H2 R = some (.tup [vN p, .ref S]) → H2 S = some (.tup ((pieceL T n h part x p).map vN)) → Q (.ref R) H2
def spBlkOf : Sp := fun vs H Q _ => ∃ (v u p : V) (n : Nat) (T : Ties) (hs : List Int) (part : Part), vs = [v, u, p] ∧ Args3 H n T hs part v u p ∧ RetBlk T n hs part H Q
theorem openEq {n : Nat} {hs : List Int} {part : Part} {x : Int} (hl : hs.length = n) : openL hs.length hs part x = openL n hs part x := by rw [hl]
theorem ok_half_blocked_of (nb : NoB mg) (c_everybody : Has P w K mg base 1 "everybody" ["web"] spEvery) (c_open_half : Has P w K mg base 1 "open_half" ["heights", "part", "height"] spOpen) (c_hanging : Has P w K mg base 2 "hanging" ["web", "person", "lot"] spHanging)
    (F : Fun K "half_blocked_of" "half_blocked_of" (topS 34) f fd) (g : mg "half_blocked_of" = some (.ref f)) : Has P w K mg base 3 "half_blocked_of" ["web", "heights", "part"] spBlkOf := by
  refine .mk' F g (F.binds fun _ _ _ _ _ _ us hl => match us, hl with | [_, _, _], _ => rfl) (F.ok sc_half_blocked_of (fun vs H Q E h => ?_) (fun cdv A outer s H vs Q E hr h => ?_))
  · obtain ⟨v, u, p, n, T, hs, part, rfl, _⟩ := h
    rfl
  · obtain ⟨v, u, p, n, T, hs, part, rfl, A3, q⟩ := h
    obtain ⟨c, rfl, hc⟩ := A3.hts
    obtain ⟨d, rfl, hd⟩ := A3.prt
    refine ⟨_, (pss_cons (ps_for PassesOwn.never rfl (pi_tup (pe_has c_everybody (hr.mono (by decide)) (pa_cons (pv 0) pa_nil))) (pg_name (i := 3) sc_half_blocked_of.nd rfl (Or.inl rfl))
        (pss_cons (ps_set (i := 4) sc_half_blocked_of.nd rfl (Or.inr rfl) (pe_ix ix_tup (pv 2) (pv 3) (fun _ _ => rfl)))
      (pss_one (ps_if (pt_cmpR op_notN (pv 4) pe_non (nomark _)) (pss_cons (ps_set (i := 5) sc_half_blocked_of.nd rfl (Or.inl rfl) (pe_has c_open_half (hr.mono (by decide)) (pa_cons (pv 1) (pa_cons (pv 2) (pa_cons (pv 4) pa_nil)))))
      (pss_cons (ps_set (i := 6) sc_half_blocked_of.nd rfl (Or.inl rfl) (pe_ifExp (pt_cmpR op_in_seq (pv 3) (pv 5) (by with_unfolding_all rfl)) (pe_has c_hanging (hr.mono (by decide)) (pa_cons (pv 0) (pa_cons (pv 3) (pa_cons (pv 5) pa_nil)))) (pe_tup pa_nil)))
      (pss_one (ps_if (pt_not (pt_val (pe_callB (cr_any rfl) (by rfl) nb.any_ (by decide +kernel) (pa_cons (pe_lc (own := [("one", 7)]) (g := (gName 7)) (tt := tYes) rfl sc_half_blocked_of.nd (pi_tup (pv 6)) (blkOk_by (N := ["web", "heights", "part", "person", "height", "some", "piece", "one"]) (sc := defScope (topS 34)) (by decide +kernel)) (fun _ _ _ _ _ => (pg_name (i := 7) sc_half_blocked_of.nd rfl (Or.inl rfl))) (fun _ _ _ _ _ => pts_nil) (fun _ _ _ _ _ => (pe_cmpR op_eq (pe_ix (ix_tupK (K := K) rfl) (pv 1) (pv 7) (fun _ _ => rfl)) (pv 4) (nomark _)))) pa_nil)))) (pss_one (ps_ret (pe_tup (pa_cons (pv 3) (pa_cons (pv 6) pa_nil))))) pss_nil)))) pss_nil))))
      (pss_one (ps_ret pe_non))), ?_⟩
    have hn5 := A3.ok.few
    refine ⟨v, rfl, v, n, T, rfl, A3.web, by omega, fun TP H2 hTP e2 ht => ⟨TP, rfl, ⟨_, SqT.of ht⟩, ?_⟩⟩
    refine for_tup (xs := (List.range n).map vN) (fun i σ H' => Ex H H' ∧ H' TP = some (.tup ((List.range n).map vN)) ∧ (∃ y3 y4 y5 y6 y7, σ = [some v, some (.ref c), some (.ref d), y3, y4, y5, y6, y7]) ∧ ∀ j, j < i → ∀ y, pAt part j = some y → Src T n hs part y j)
      ⟨e2, ht, ⟨_, _, _, _, _, rfl⟩, fun j hj => absurd hj (Nat.not_lt_zero j)⟩ (fun i σ H' _ h => SqT.of h.2.1) (fun i z σ H' hz h => ?_) (fun σ H' h => ?_)
    · obtain ⟨e3, ht3, ⟨y3, y4, y5, y6, y7, rfl⟩, hok⟩ := h
      rw [List.getElem?_map] at hz
      obtain ⟨y, hy, rfl⟩ := Option.map_eq_some_iff.mp hz
      obtain ⟨hin, hyi⟩ := List.getElem?_eq_some_iff.mp hy
      rw [List.getElem_range] at hyi
      subst hyi
      rw [List.length_range] at hin
      have hpl := A3.pl
      have hhl := A3.hl
      refine q_asg (ev_part (ev_var rfl) (ev_var rfl) ⟨d, rfl, e3 _ _ hd⟩ (by omega)) fun H4 e4 => ?_
      refine s_when (et_test (ev_notN (ev_var rfl))) (fun hb H5 e5 => ?_) (fun hb H5 e5 => ?_)
      · cases ep : pAt part i with
        | none => rw [ep] at hb; cases hb
        | some x =>
        have e6 := (e3.trans e4).trans e5
        -- some = open_half(..)
        refine ⟨.ref c, rfl, .ref d, rfl, .int x, rfl, .ref c, .ref d, x, hs, part, rfl, ⟨c, rfl, e6 _ _ hc⟩, ⟨d, rfl, e6 _ _ hd⟩, by omega, by omega, fun L H7 hL e7 hl => ?_⟩
        rw [openEq hhl] at hl
        have eA := e6.trans e7
        have ht7 : H7 TP = some (.tup ((List.range n).map vN)) := e7 _ _ (e5 _ _ (e4 _ _ ht3))
        -- piece
        refine q_asgU (xs := (pieceL T n hs part x i).map vN) (eu_ifT (b := decide (i ∈ openL n hs part x)) (et_test (ev_inL (ev_var rfl) (ev_var rfl) (SqL.of hl))) (fun hb2 => ?_) (fun hb2 => ?_)) fun S H8 hS e8 hs8 => ?_
        · have hi := of_decide_eq_true hb2
          unfold pieceL
          rw [if_pos hi]
          exact eu_call (ea_cons (ev_var rfl) (ea_cons (ev_var rfl) (ea_cons (ev_var rfl) ea_nil))) fun H9 e9 Q' q' E' => ⟨v, n, T, i, L, openL n hs part x, rfl, A3.web.ex (.of (eA.trans e9)), A3.ok, hin, e9 _ _ hl, q'⟩
        · have hi := of_decide_eq_false hb2
          unfold pieceL
          rw [if_neg hi]
          exact eu_tup ea_nil (by show 0 ≤ 100000; decide)
        -- if not any(..)
        have pl := piece_len (T := T) (n := n) (h := hs) (part := part) (x := x) (p := i)
        refine s_when (et_not (et_test (ev_anyT (fun j => decide (at0 hs j = x)) (ev_var rfl) (SqT.of hs8) (by omega) (fun _ => rfl) fun j H9 e9 hj => ?_))) (fun hb3 H9 e9 => ?_) (fun hb3 H9 e9 => ?_)
        · have hj2 := piece_lt j hj
          exact ev_eqI (ev_hts (ev_var rfl) (ev_var rfl) ⟨c, rfl, e9 _ _ (e8 _ _ (eA _ _ hc))⟩ (by omega)) (ev_var rfl)
        · have nsrc : ¬ Src T n hs part x i := fun z => by
            rw [piece_any.mpr z] at hb3; cases hb3
          refine s_retU (eu_tup (ea_cons (ev_var rfl) (ea_cons (ev_var rfl) ea_nil)) (by show 2 ≤ 100000; decide)) fun R HR hR eR hR2 => ?_
          exact q.2 i x ⟨hin, ep, nsrc, hok⟩ R S HR (((eA.trans e8).trans e9).trans eR) hR2 (eR _ _ (e9 _ _ hs8))
        · have src : Src T n hs part x i := piece_any.mp (by simpa using hb3)
          refine ⟨(eA.trans e8).trans e9, e9 _ _ (e8 _ _ ht7), ⟨_, _, _, _, _, rfl⟩, fun j hj y2 hy2 => ?_⟩
          by_cases e : j = i
          · subst e; rw [ep] at hy2; cases hy2; exact src
          · exact hok j (by omega) y2 hy2
      · refine ⟨(e3.trans e4).trans e5, e5 _ _ (e4 _ _ ht3), ⟨_, _, _, _, _, rfl⟩, fun j hj y2 hy2 => ?_⟩
        by_cases e : j = i
        · subst e; rw [hy2] at hb; cases hb
        · exact hok j (by omega) y2 hy2
    · obtain ⟨e3, ht3, ⟨y3, y4, y5, y6, y7, rfl⟩, hok⟩ := h
      rw [List.length_map, List.length_range] at hok
      exact q.1 (fun p hp v hv => hok p hp v hv) H' e3
/-! ### half_comes, half_blocked -/
theorem sc_half_comes : FnScope ["web", "heights", "part"] ["web", "heights", "part"] (defScope (topS 35)) := ⟨rfl, rfl, rfl, by decide +kernel, rfl, by decide +kernel, by decide +kernel⟩
def spComes : Sp := fun vs H Q _ => ∃ (v u p : V) (n : Nat) (T : Ties) (hs : List Int) (part : Part), vs = [v, u, p] ∧ Args3 H n T hs part v u p ∧ ∀ b : Bool, (b = true ↔ Free T n hs part) → RetV (.bl b) H Q
open Classical in
theorem ok_half_comes (nb : NoB mg) (c_need_half : Has P w K mg base 6 "need_half" ["web", "heights", "part"] spNeedHalf) (c_half_blocked_of : Has P w K mg base 3 "half_blocked_of" ["web", "heights", "part"] spBlkOf)
    (F : Fun K "half_comes" "half_comes" (topS 35) f fd) (g : mg "half_comes" = some (.ref f)) : Has P w K mg base 7 "half_comes" ["web", "heights", "part"] spComes := by
  refine .mk' F g (F.binds fun _ _ _ _ _ _ us hl => match us, hl with | [_, _, _], _ => rfl) (F.ok sc_half_comes (fun vs H Q E h => ?_) (fun cdv A outer s H vs Q E hr h => ?_))
  · obtain ⟨v, u, p, n, T, hs, part, rfl, _⟩ := h
    rfl
  · obtain ⟨v, u, p, n, T, hs, part, rfl, A3, q⟩ := h
    refine ⟨_, (pss_cons (ps_expr (pe_has c_need_half (hr.mono (by decide)) (pa_cons (pv 0) (pa_cons (pv 1) (pa_cons (pv 2) pa_nil)))))
      (pss_one (ps_ret (pe_cmpR op_isN (pe_has c_half_blocked_of (hr.mono (by decide)) (pa_cons (pv 0) (pa_cons (pv 1) (pa_cons (pv 2) pa_nil)))) pe_non (nomark _))))), ?_⟩
    refine ⟨v, rfl, u, rfl, p, rfl, v, u, p, n, T, hs, part, rfl, A3, fun H1 e1 => ?_⟩
    refine ⟨v, rfl, u, rfl, p, rfl, v, u, p, n, T, hs, part, rfl, A3.ex (.of e1), ⟨fun Fr H2 e2 => ?_, fun p' x b R S H2 e2 hR hS => ?_⟩⟩
    · exact ⟨rfl, q true (by simp [Fr]) H2 (e1.trans e2)⟩
    · exact ⟨rfl, q false (by simp [b.free]) H2 (e1.trans e2)⟩
theorem sc_half_blocked : FnScope ["web", "heights", "part"] ["web", "heights", "part"] (defScope (topS 36)) := ⟨rfl, rfl, rfl, by decide +kernel, rfl, by decide +kernel, by decide +kernel⟩
theorem ok_half_blocked (nb : NoB mg) (c_need_half : Has P w K mg base 6 "need_half" ["web", "heights", "part"] spNeedHalf) (c_half_blocked_of : Has P w K mg base 3 "half_blocked_of" ["web", "heights", "part"] spBlkOf)
    (F : Fun K "half_blocked" "half_blocked" (topS 36) f fd) (g : mg "half_blocked" = some (.ref f)) : Has P w K mg base 7 "half_blocked" ["web", "heights", "part"] spBlkOf := by
  refine .mk' F g (F.binds fun _ _ _ _ _ _ us hl => match us, hl with | [_, _, _], _ => rfl) (F.ok sc_half_blocked (fun vs H Q E h => ?_) (fun cdv A outer s H vs Q E hr h => ?_))
  · obtain ⟨v, u, p, n, T, hs, part, rfl, _⟩ := h
    rfl
  · obtain ⟨v, u, p, n, T, hs, part, rfl, A3, q⟩ := h
    refine ⟨_, (pss_cons (ps_expr (pe_has c_need_half (hr.mono (by decide)) (pa_cons (pv 0) (pa_cons (pv 1) (pa_cons (pv 2) pa_nil)))))
      (pss_one (ps_ret (pe_has c_half_blocked_of (hr.mono (by decide)) (pa_cons (pv 0) (pa_cons (pv 1) (pa_cons (pv 2) pa_nil))))))), ?_⟩
    refine ⟨v, rfl, u, rfl, p, rfl, v, u, p, n, T, hs, part, rfl, A3, fun H1 e1 => ?_⟩
    exact ⟨v, rfl, u, rfl, p, rfl, v, u, p, n, T, hs, part, rfl, A3.ex (.of e1), ⟨fun Fr H2 e2 => q.1 Fr H2 (e1.trans e2), fun p' x b R S H2 e2 hR hS => q.2 p' x b R S H2 (e1.trans e2) hR hS⟩⟩
/-! ### half_outcomes, half_count -/
theorem sc_half_outcomes : FnScope ["web", "heights", "part", "told"] ["web", "heights", "part"] (defScope (topS 41)) := ⟨rfl, rfl, rfl, by decide +kernel, rfl, by decide +kernel, by decide +kernel⟩
def spOutcomes : Sp := fun vs H Q _ => ∃ (v u p : V) (n : Nat) (T : Ties) (hs : List Int) (part : Part), vs = [v, u, p] ∧ Args3 H n T hs part v u p ∧ RetOuts (fun l => ∃ outs, OutsOk T hs outs ∧ l = outs.filter fun g => matchB g part) H Q
theorem lc_match {te : TE} {σ : L2.St} {H : Hp} {Qd : Addr → Hp → Prop} {L : Addr} {ps : List Addr} {outs : List (List Int)} {part : Part} {d : Addr} {n : Nat} (hL : H L = some (.lst (ps.map V.ref))) (hps : ITup H ps outs) (hd : H d = some (.tup (part.map oV))) (hpl : part.length = n) (hn : n ≤ 1000) (hg : ∀ g ∈ outs, g.length = n) (hz : outs.length ≤ 40000) (v : Addr → V)
    (h3 : σ[2]? = some (some (.ref d))) (h4 : ∀ x : V, (σ.set 3 none).set 3 (some x) = σ.set 3 (some x)) (h5 : σ.length = 4) (he : ∀ (a : Addr) H1, Ev te (σ.set 3 (some (.ref a))) H1 (v a))
    (k : ∀ D qs H2, H D = none → Ex H H2 → H2 D = some (.lst (qs.map v)) → ITup H2 qs (outs.filter fun g => matchB g part) → Qd D H2) :
    ∀ D, H D = none → ∃ W : Nat → Nat → Hp → Prop, (∃ m, W 0 m (upd H D (.lst []))) ∧ ∀ i m H, W i m H →
      ((Itl K L).stop i H ∧ Qd D H) ∨ ((Itl K L).go i H ∧ ∃ Nx : Hp → Prop, (∀ H', Nx H' → ∃ m', m' < m ∧ W (i + 1) m' H') ∧ ∀ x H', (Itl K L).yld i H x H' → (gName 3) x (wipe σ [3]) H' fun σ2 H2 => wipe σ2 [3] = wipe σ [3] ∧ (tB (tCall spMatches [] E0 (tCons (tVar 3) (tCons (tVar 2) tNil)))) σ2 H2 fun b H3 =>
        if b = true then te σ2 H3 fun y H4 => ∃ acc, H4 D = some (.lst acc) ∧ acc.length < sizeLine ∧ Nx (upd H4 D (.lst (acc ++ [y]))) else Nx H3) := by
  have hpo : ps.length = outs.length := Paired.length hps
  refine lcG (walk_list (xs := ps.map V.ref)) noS (fun _ h => h.elim) (by rw [List.length_map]; omega) (fun i acc H' => ∃ qs, acc = qs.map v ∧ ITup H' qs ((outs.take i).filter fun g => matchB g part)) ⟨[], rfl, .nil⟩ (fun i acc H' _ e _ => SqL.of (e _ _ (fun z => z) hL)) (fun i acc H' D l' hD hl' h => ?_) (fun i x acc H3 H' Post Skip hi e3 h y hp hsk => ?_) (fun D acc H3 hD e3 hacc hal h => ?_)
  · obtain ⟨qs, h1, h2⟩ := h
    exact ⟨qs, h1, h2.ex (xt_updL hl')⟩
  · obtain ⟨rfl, hx⟩ := y
    obtain ⟨qs, rfl, hqs⟩ := h
    rw [List.getElem?_map] at hx
    obtain ⟨a, ha, rfl⟩ := Option.map_eq_some_iff.mp hx
    obtain ⟨gg, hgg, hga⟩ := paired_getL hps ha
    have hgl := hg gg (List.mem_of_getElem? hgg)
    have ft : (outs.take (i + 1)).filter (fun g => matchB g part) = (outs.take i).filter (fun g => matchB g part) ++ if matchB gg part = true then [gg] else [] := by
      rw [take_next hgg, List.filter_append]
      congr 1
      by_cases hb : matchB gg part = true
      · rw [if_pos hb]; simp [hb]
      · rw [if_neg hb]; simp [hb]
    refine ⟨by show ((σ.set 3 none).set 3 _).set 3 none = σ.set 3 none; rw [List.set_set, List.set_set], ?_⟩
    show tB _ ((σ.set 3 none).set 3 _) _ _
    rw [h4]
    refine et_B (b := matchB gg part) (ev_callV (ea_cons (ev_var (v := .ref a) (by rw [List.getElem?_set_self (by omega)])) (ea_cons (ev_var (v := .ref d) (by rw [List.getElem?_set_ne (by decide)]; exact h3)) ea_nil)) fun H4 e4 Q' q' E' => ?_) _ (Ex.refl _) _ fun H4 e4 => ?_
    · exact ⟨.ref a, .ref d, gg, part, rfl, ⟨a, rfl, e4 _ _ (e3 _ _ (fun z => z) hga)⟩, ⟨d, rfl, e4 _ _ (e3 _ _ (fun z => z) hd)⟩, by omega, by omega, q'⟩
    · refine if_d (fun hb => ?_) (fun hb => ?_)
      · show te ((σ.set 3 none).set 3 (some (.ref a))) H4 Post
        rw [h4]
        refine he a H4 H4 (Ex.refl _) _ fun H5 e5 => hp _ _ (.of (e4.trans e5)) ⟨qs ++ [a], by rw [List.map_append]; rfl, ?_⟩
        rw [ft, if_pos hb]
        exact Paired.snoc (hqs.ex (.of (e4.trans e5))) (e5 _ _ (e4 _ _ (e3 _ _ (fun z => z) hga)))
      · refine hsk _ (.of e4) ⟨qs, rfl, ?_⟩
        rw [ft, if_neg (by rw [hb]; exact Bool.false_ne_true), List.append_nil]
        exact hqs.ex (.of e4)
  · obtain ⟨qs, rfl, hqs⟩ := h
    rw [List.length_map, hpo, List.take_length] at hqs
    exact k D qs H3 hD e3.ex hacc hqs
theorem OutsOk.few {T : Ties} {h : List Int} {outs : List (List Int)} (O : OutsOk T h outs) (hn : h.length ≤ 5) : outs.length ≤ 3125 :=
  reach_few hn (O.1.imp fun {a b} hab z => by subst z; exact List.lt_irrefl a hab) fun g hg => (O.2 g).mp hg
theorem ok_half_outcomes (nb : NoB mg) (c_need_half : Has P w K mg base 6 "need_half" ["web", "heights", "part"] spNeedHalf) (c_all_of : Has P w K mg base 3 "all_of" ["web", "heights"] spAll) (c_matches : Has P w K mg base 1 "matches" ["told", "part"] spMatches)
    (F : Fun K "half_outcomes" "half_outcomes" (topS 41) f fd) (g : mg "half_outcomes" = some (.ref f)) : Has P w K mg base 7 "half_outcomes" ["web", "heights", "part"] spOutcomes := by
  refine .mk' F g (F.binds fun _ _ _ _ _ _ us hl => match us, hl with | [_, _, _], _ => rfl) (F.ok sc_half_outcomes (fun vs H Q E h => ?_) (fun cdv A outer s H vs Q E hr h => ?_))
  · obtain ⟨v, u, p, n, T, hs, part, rfl, _⟩ := h
    rfl
  · obtain ⟨v, u, p, n, T, hs, part, rfl, A3, q⟩ := h
    refine ⟨_, (pss_cons (ps_expr (pe_has c_need_half (hr.mono (by decide)) (pa_cons (pv 0) (pa_cons (pv 1) (pa_cons (pv 2) pa_nil)))))
      (pss_one (ps_ret (pe_lc (own := [("told", 3)]) (g := (gName 3)) rfl sc_half_outcomes.nd (pi_list (pe_has c_all_of (hr.mono (by decide)) (pa_cons (pv 0) (pa_cons (pv 1) pa_nil)))) (blkOk_by (N := ["web", "heights", "part", "told"]) (sc := defScope (topS 41)) (by decide +kernel)) (fun _ _ _ _ _ => (pg_name (i := 3) sc_half_outcomes.nd rfl (Or.inl rfl))) (fun _ _ _ _ _ => (pts_one (pt_val (pe_has c_matches (hr.mono (by decide)) (pa_cons (pv 3) (pa_cons (pv 2) pa_nil)))))) (fun _ _ _ _ _ => (pv 3)))))), ?_⟩
    obtain ⟨d, rfl, hd⟩ := A3.prt
    have hn5 := A3.ok.few
    refine ⟨v, rfl, u, rfl, .ref d, rfl, v, u, .ref d, n, T, hs, part, rfl, A3, fun H1 e1 => ?_⟩
    refine ⟨v, rfl, u, rfl, v, u, n, T, hs, rfl, A3.web.ex (.of e1), A3.ok, A3.hts.ex (.of e1), A3.hl, fun L ps outs H2 hL e2 hl hps hO => ⟨L, rfl, ⟨_, SqL.of hl⟩, ?_⟩⟩
    have few := hO.few (by rw [A3.hl]; omega)
    refine lc_match (σ := [some v, some u, some (.ref d), none]) hl hps (e2 _ _ (e1 _ _ hd)) A3.pl (by omega) (fun g hg => ((hO.2 g).mp hg).len.trans A3.hl) (by omega) V.ref rfl (fun _ => rfl) rfl (fun a H3 => ev_var rfl) fun D qs H3 hD e3 hD3 hqs => ?_
    exact q D qs _ H3 (fresh_back (e1.trans e2) hD) ((e1.trans e2).trans e3) hD3 hqs ⟨outs, hO, rfl⟩
theorem sc_half_count : FnScope ["web", "heights", "part", "told"] ["web", "heights", "part"] (defScope (topS 42)) := ⟨rfl, rfl, rfl, by decide +kernel, rfl, by decide +kernel, by decide +kernel⟩
def spCount : Sp := fun vs H Q _ => ∃ (v u p : V) (n : Nat) (T : Ties) (hs : List Int) (part : Part), vs = [v, u, p] ∧ Args3 H n T hs part v u p ∧ ∀ outs, OutsOk T hs outs → RetV (vN (outs.filter fun g => matchB g part).length) H Q
theorem ok_half_count (nb : NoB mg) (c_need_half : Has P w K mg base 6 "need_half" ["web", "heights", "part"] spNeedHalf) (c_all_of : Has P w K mg base 3 "all_of" ["web", "heights"] spAll) (c_matches : Has P w K mg base 1 "matches" ["told", "part"] spMatches)
    (F : Fun K "half_count" "half_count" (topS 42) f fd) (g : mg "half_count" = some (.ref f)) : Has P w K mg base 7 "half_count" ["web", "heights", "part"] spCount := by
  refine .mk' F g (F.binds fun _ _ _ _ _ _ us hl => match us, hl with | [_, _, _], _ => rfl) (F.ok sc_half_count (fun vs H Q E h => ?_) (fun cdv A outer s H vs Q E hr h => ?_))
  · obtain ⟨v, u, p, n, T, hs, part, rfl, _⟩ := h
    rfl
  · obtain ⟨v, u, p, n, T, hs, part, rfl, A3, q⟩ := h
    refine ⟨_, (pss_cons (ps_expr (pe_has c_need_half (hr.mono (by decide)) (pa_cons (pv 0) (pa_cons (pv 1) (pa_cons (pv 2) pa_nil)))))
      (pss_one (ps_ret (pe_callB call_len_seq (by rfl) nb.len_ (by decide +kernel) (pa_cons (pe_lc (own := [("told", 3)]) (g := (gName 3)) rfl sc_half_count.nd (pi_list (pe_has c_all_of (hr.mono (by decide)) (pa_cons (pv 0) (pa_cons (pv 1) pa_nil)))) (blkOk_by (N := ["web", "heights", "part", "told"]) (sc := defScope (topS 42)) (by decide +kernel)) (fun _ _ _ _ _ => (pg_name (i := 3) sc_half_count.nd rfl (Or.inl rfl))) (fun _ _ _ _ _ => (pts_one (pt_val (pe_has c_matches (hr.mono (by decide)) (pa_cons (pv 3) (pa_cons (pv 2) pa_nil)))))) (fun _ _ _ _ _ => pe_int)) pa_nil))))), ?_⟩
    obtain ⟨d, rfl, hd⟩ := A3.prt
    have hn5 := A3.ok.few
    refine ⟨v, rfl, u, rfl, .ref d, rfl, v, u, .ref d, n, T, hs, part, rfl, A3, fun H1 e1 => ?_⟩
    refine ⟨v, rfl, u, rfl, v, u, n, T, hs, rfl, A3.web.ex (.of e1), A3.ok, A3.hts.ex (.of e1), A3.hl, fun L ps outs H2 hL e2 hl hps hO => ⟨L, rfl, ⟨_, SqL.of hl⟩, ?_⟩⟩
    have few := hO.few (by rw [A3.hl]; omega)
    refine lc_match (σ := [some v, some u, some (.ref d), none]) hl hps (e2 _ _ (e1 _ _ hd)) A3.pl (by omega) (fun g hg => ((hO.2 g).mp hg).len.trans A3.hl) (by omega) (fun _ => .int 1) rfl (fun _ => rfl) rfl (fun a H3 => ev_c) fun D qs H3 hD e3 hD3 hqs => ?_
    refine ⟨D, _, rfl, .inl (SqL.of hD3), ?_⟩
    rw [List.length_map, show qs.length = _ from Paired.length hqs]
    exact q outs hO H3 ((e1.trans e2).trans e3)
/-! ### half_pieces -/
theorem sc_half_pieces : FnScope ["web", "heights", "part", "height"] ["web", "heights", "part", "height"] (defScope (topS 44)) := ⟨rfl, rfl, rfl, by decide +kernel, rfl, by decide +kernel, by decide +kernel⟩
def spPieces : Sp := fun vs H Q _ => ∃ (v u p : V) (x : Int) (n : Nat) (T : Ties) (hs : List Int) (part : Part), vs = [v, u, p, .int x] ∧ Args3 H n T hs part v u p ∧ -1000 ≤ x ∧ x ≤ 1000 ∧ RetTT (partsL T n (openL n hs part x)) H Q
theorem ok_half_pieces (nb : NoB mg) (c_need_half : Has P w K mg base 6 "need_half" ["web", "heights", "part"] spNeedHalf) (c_is_height : Has P w K mg base 3 "is_height" ["value"] spIsHeight) (c_open_half : Has P w K mg base 1 "open_half" ["heights", "part", "height"] spOpen) (c_parts_of : Has P w K mg base 3 "parts_of" ["web", "lot"] spParts)
    (F : Fun K "half_pieces" "half_pieces" (topS 44) f fd) (g : mg "half_pieces" = some (.ref f)) : Has P w K mg base 7 "half_pieces" ["web", "heights", "part", "height"] spPieces := by
  refine .mk' F g (F.binds fun _ _ _ _ _ _ us hl => match us, hl with | [_, _, _, _], _ => rfl) (F.ok sc_half_pieces (fun vs H Q E h => ?_) (fun cdv A outer s H vs Q E hr h => ?_))
  · obtain ⟨v, u, p, x, n, T, hs, part, rfl, _⟩ := h
    rfl
  · obtain ⟨v, u, p, x, n, T, hs, part, rfl, A3, hx1, hx2, q⟩ := h
    refine ⟨_, (pss_cons (ps_expr (pe_has c_need_half (hr.mono (by decide)) (pa_cons (pv 0) (pa_cons (pv 1) (pa_cons (pv 2) pa_nil)))))
      (pss_cons (ps_if (pt_not (pt_val (pe_has c_is_height (hr.mono (by decide)) (pa_cons (pv 3) pa_nil)))) (pss_one ps_never) pss_nil)
      (pss_one (ps_ret (pe_has c_parts_of (hr.mono (by decide)) (pa_cons (pv 0) (pa_cons (pe_has c_open_half (hr.mono (by decide)) (pa_cons (pv 1) (pa_cons (pv 2) (pa_cons (pv 3) pa_nil)))) pa_nil))))))), ?_⟩
    have hn5 := A3.ok.few
    have hhl := A3.hl
    have hpl := A3.pl
    refine ⟨v, rfl, u, rfl, p, rfl, v, u, p, n, T, hs, part, rfl, A3, fun H1 e1 => ?_⟩
    refine ⟨.int x, rfl, x, rfl, true, ?_, ?_⟩
    · rw [decide_eq_true ⟨hx1, hx2⟩]
    refine ⟨v, rfl, u, rfl, p, rfl, .int x, rfl, u, p, x, hs, part, rfl, A3.hts.ex (.of e1), A3.prt.ex (.of e1), by omega, by omega, fun L H2 hL e2 hl => ?_⟩
    rw [openEq hhl] at hl
    have ol := openL_len (n := n) (h := hs) (part := part) (x := x)
    exact ⟨v, n, T, L, openL n hs part x, rfl, A3.web.ex (.of (e1.trans e2)), A3.ok, hl, fun i hi => (mem_openL.mp hi).1, by omega, fun R ps H3 e3 => q R ps H3 ((e1.trans e2).trans e3)⟩
/-! ### half_least -/
theorem sc_half_least : FnScope ["web", "heights", "part", "found", "person", "height", "some", "one"] ["web", "heights", "part"] (defScope (topS 43)) := ⟨rfl, rfl, rfl, by decide +kernel, rfl, by decide +kernel, by decide +kernel⟩
def spLeast : Sp := fun vs H Q _ => ∃ (v u p : V) (n : Nat) (T : Ties) (hs : List Int) (part : Part), vs = [v, u, p] ∧ Args3 H n T hs part v u p ∧ (¬ Free T n hs part → RetV .non H Q) ∧ (Free T n hs part → ∀ m, Least T n hs part m → RetTI m H Q)
open Classical in
theorem ok_half_least (nb : NoB mg) (c_need_half : Has P w K mg base 6 "need_half" ["web", "heights", "part"] spNeedHalf) (c_half_blocked_of : Has P w K mg base 3 "half_blocked_of" ["web", "heights", "part"] spBlkOf)
    (c_everybody : Has P w K mg base 1 "everybody" ["web"] spEvery) (c_open_half : Has P w K mg base 1 "open_half" ["heights", "part", "height"] spOpen) (c_hanging : Has P w K mg base 2 "hanging" ["web", "person", "lot"] spHanging)
    (F : Fun K "half_least" "half_least" (topS 43) f fd) (g : mg "half_least" = some (.ref f)) : Has P w K mg base 7 "half_least" ["web", "heights", "part"] spLeast := by
  refine .mk' F g (F.binds fun _ _ _ _ _ _ us hl => match us, hl with | [_, _, _], _ => rfl) (F.ok sc_half_least (fun vs H Q E h => ?_) (fun cdv A outer s H vs Q E hr h => ?_))
  · obtain ⟨v, u, p, n, T, hs, part, rfl, _⟩ := h
    rfl
  · obtain ⟨v, u, p, n, T, hs, part, rfl, A3, q⟩ := h
    refine ⟨_, (pss_cons (ps_expr (pe_has c_need_half (hr.mono (by decide)) (pa_cons (pv 0) (pa_cons (pv 1) (pa_cons (pv 2) pa_nil)))))
      (pss_cons (ps_if (pt_cmpR op_notN (pe_has c_half_blocked_of (hr.mono (by decide)) (pa_cons (pv 0) (pa_cons (pv 1) (pa_cons (pv 2) pa_nil)))) pe_non (nomark _)) (pss_one (ps_ret pe_non)) pss_nil)
      (pss_cons (ps_set (i := 3) sc_half_least.nd rfl (Or.inl rfl) (pe_lst pa_nil))
      (pss_cons (ps_for PassesOwn.never rfl (pi_tup (pe_has c_everybody (hr.mono (by decide)) (pa_cons (pv 0) pa_nil))) (pg_name (i := 4) sc_half_least.nd rfl (Or.inl rfl))
        (pss_one (ps_for PassesOwn.never rfl (pi_list (pe_callB (cr_sortedSet rfl) (by rfl) nb.sorted_ (by decide +kernel) (pa_cons (pe_callTy (cr_setI rfl) (by rfl) nb.set_ (by decide +kernel) (pa_cons (pv 1) pa_nil)) pa_nil))) (pg_name (i := 5) sc_half_least.nd rfl (Or.inr rfl))
        (pss_cons (ps_set (i := 6) sc_half_least.nd rfl (Or.inl rfl) (pe_has c_open_half (hr.mono (by decide)) (pa_cons (pv 1) (pa_cons (pv 2) (pa_cons (pv 5) pa_nil)))))
      (pss_one (ps_if (PW.pt (pw_and (pt_cmpR op_in_seq (pv 4) (pv 6) (by with_unfolding_all rfl)) (pw_and1 (PW.pt (pw_or (pt_cmpR op_isN (pe_ix ix_tup (pv 2) (pv 4) (fun _ _ => rfl)) pe_non (nomark _)) (pw_or1 (pt_cmpR op_eq (pe_ix ix_tup (pv 2) (pv 4) (fun _ _ => rfl)) (pv 5) (nomark _)))))))) (pss_one (ps_if (pt_val (pe_callB (cr_any rfl) (by rfl) nb.any_ (by decide +kernel) (pa_cons (pe_lc (own := [("one", 7)]) (g := (gName 7)) (tt := tYes) rfl sc_half_least.nd (pi_tup (pe_has c_hanging (hr.mono (by decide)) (pa_cons (pv 0) (pa_cons (pv 4) (pa_cons (pv 6) pa_nil))))) (blkOk_by (N := ["web", "heights", "part", "found", "person", "height", "some", "one"]) (sc := defScope (topS 43)) (by decide +kernel)) (fun _ _ _ _ _ => (pg_name (i := 7) sc_half_least.nd rfl (Or.inl rfl))) (fun _ _ _ _ _ => pts_nil) (fun _ _ _ _ _ => (pe_cmpR op_eq (pe_ix (ix_tupK (K := K) rfl) (pv 1) (pv 7) (fun _ _ => rfl)) (pv 5) (nomark _)))) pa_nil))) (pss_cons (ps_expr (pe_bm PySem.F.plainAttrs_list PySem.F.slot_list_append PySem.F.type_list_append mt_append (pv 3) (pa_cons (pv 5) pa_nil)))
      (pss_one ps_break)) pss_nil)) pss_nil))))))
      (pss_one (ps_ret (pe_callTy call_tuple_of (by rfl) nb.tuple_ (by decide +kernel) (pa_cons (pv 3) pa_nil)))))))), ?_⟩
    obtain ⟨c, rfl, hc⟩ := A3.hts
    obtain ⟨d, rfl, hd⟩ := A3.prt
    have hn5 := A3.ok.few
    have hhl := A3.hl
    have hpl := A3.pl
    refine ⟨v, rfl, .ref c, rfl, .ref d, rfl, v, .ref c, .ref d, n, T, hs, part, rfl, A3, fun H1 e1 => ?_⟩
    refine ⟨v, rfl, .ref c, rfl, .ref d, rfl, v, .ref c, .ref d, n, T, hs, part, rfl, A3.ex (.of e1), ⟨fun Fr H2 e2 => ⟨rfl, _, rfl, if_f rfl ?_⟩, fun p' x b R S H2 e2 hR hS => ⟨rfl, _, rfl, if_t rfl (q.1 b.free H2 (e1.trans e2))⟩⟩⟩
    have e02 := e1.trans e2
    refine q_asgL (el_lst ea_nil (by decide)) fun G H3 hG e3 hg => ?_
    have e03 := e02.trans e3
    have hG0 := fresh_back e02 hG
    refine ⟨v, rfl, v, n, T, rfl, A3.web.ex (.of e03), by omega, fun TP H4 hTP e4 ht => ⟨TP, rfl, ⟨_, SqT.of ht⟩, ?_⟩⟩
    have hTG : TP ≠ G := fun z => by rw [z, hg] at hTP; cases hTP
    refine for_tup (xs := (List.range n).map vN) (fun i σ H' => Ex H H' ∧ H' TP = some (.tup ((List.range n).map vN)) ∧ (∃ y4 y5 y6 y7, σ = [some v, some (.ref c), some (.ref d), some (.ref G), y4, y5, y6, y7]) ∧ ∃ l : List Int, H' G = some (.lst (l.map V.int)) ∧ l.length = i ∧ ∀ j, j < i → Cand T n hs part (at0 l j) j ∧ ∀ x, Cand T n hs part x j → at0 l j ≤ x)
      ⟨e03.trans e4, ht, ⟨_, _, _, _, rfl⟩, [], e4 _ _ hg, rfl, fun j hj => absurd hj (Nat.not_lt_zero j)⟩ (fun i σ H' _ h => SqT.of h.2.1) (fun i z σ H' hz h => ?_) (fun σ H' h => ?_)
    · obtain ⟨e5, ht5, ⟨y4, y5, y6, y7, rfl⟩, l, hl5, hll, hok⟩ := h
      rw [List.getElem?_map] at hz
      obtain ⟨y, hy, rfl⟩ := Option.map_eq_some_iff.mp hz
      obtain ⟨hin, hyi⟩ := List.getElem?_eq_some_iff.mp hy
      rw [List.getElem_range] at hyi
      subst hyi
      rw [List.length_range] at hin
      -- for height in sorted(set(heights))
      refine ⟨.ref c, rfl, c, hs, rfl, .inl (SqT.of (e5 _ _ hc)), by omega, fun S k hS hk => ⟨S, _, k, rfl, upd_same, by omega, fun ns LP hns hmem hlen hLP => ⟨LP, rfl, ⟨_, SqL.of upd_same⟩, ?_⟩⟩⟩
      have e6 : Ex H' (upd (upd H' S (SetO w S (fun j => decide (j ∈ hs)) k)) LP (.lst (ns.map V.int))) := (Ex.new hS).trans (Ex.new hLP)
      have hLG : LP ≠ G := fun z => by rw [z, upd_ne (fun z' => by rw [← z', hl5] at hS; cases hS), hl5] at hLP; cases hLP
      refine for_list (xs := ns.map V.int) (fun k2 σ H' => Ex H H' ∧ H' TP = some (.tup ((List.range n).map vN)) ∧ H' LP = some (.lst (ns.map V.int)) ∧ (∃ y5 y6 y7, σ = [some v, some (.ref c), some (.ref d), some (.ref G), some (vN i), y5, y6, y7]) ∧ H' G = some (.lst (l.map V.int)) ∧ ∀ x ∈ ns.take k2, ¬ Cand T n hs part x i)
        ⟨e5.trans e6, e6 _ _ ht5, upd_same, ⟨_, _, _, rfl⟩, e6 _ _ hl5, fun x hx => by simp at hx⟩ (fun _ _ _ _ h => SqL.of h.2.2.1) (fun k2 z σ H7 hz h => ?_) (fun σ H7 h => ?_)
      · obtain ⟨e7, ht7, hLP7, ⟨y5, y6, y7, rfl⟩, hl7, hno⟩ := h
        rw [List.getElem?_map] at hz
        obtain ⟨x, hx, rfl⟩ := Option.map_eq_some_iff.mp hz
        -- some = open_half(..)
        refine ⟨.ref c, rfl, .ref d, rfl, .int x, rfl, .ref c, .ref d, x, hs, part, rfl, ⟨c, rfl, e7 _ _ hc⟩, ⟨d, rfl, e7 _ _ hd⟩, by omega, by omega, fun L H8 hL e8 hl => ?_⟩
        rw [openEq hhl] at hl
        have eA := e7.trans e8
        have nx : ∀ (H9 : Hp), Ex H8 H9 → ¬ Cand T n hs part x i → Ex H H9 ∧ H9 TP = some (.tup ((List.range n).map vN)) ∧ H9 LP = some (.lst (ns.map V.int)) ∧ H9 G = some (.lst (l.map V.int)) ∧ ∀ x ∈ ns.take (k2 + 1), ¬ Cand T n hs part x i := fun H9 e9 nc =>
          ⟨eA.trans e9, e9 _ _ (e8 _ _ ht7), e9 _ _ (e8 _ _ hLP7), e9 _ _ (e8 _ _ hl7), fun z hz => by
            rcases (mem_take hx).mp hz with h | h
            · exact hno z h
            · subst h; exact nc⟩
        refine s_when (b := decide (i ∈ openL n hs part x) && ((pAt part i).isNone || (match pAt part i with | none => false | some u => decide (u = x)))) (et_and (et_test (ev_inL (ev_var rfl) (ev_var rfl) (SqL.of hl))) fun _ => et_or (et_test (ev_isN (ev_part (ev_var rfl) (ev_var rfl) ⟨d, rfl, eA _ _ hd⟩ (by omega)))) fun hn => et_test ?_) (fun hb H9 e9 => ?_) (fun hb H9 e9 => ?_)
        · have hp := ev_part (K := K) (ta := tVar 2) (tb := tVar 4) (σ := [some v, some (.ref c), some (.ref d), some (.ref G), some (vN i), some (.int x), some (.ref L), y7]) (H := H8) (i := i) (ev_var rfl) (ev_var rfl) ⟨d, rfl, eA _ _ hd⟩ (by omega)
          cases e : pAt part i with
          | none => rw [e] at hn; cases hn
          | some u =>
            rw [e] at hp
            exact ev_eqI hp (ev_var rfl)
        · obtain ⟨hb1, hb2⟩ := Bool.and_eq_true_iff.mp hb
          have hio := of_decide_eq_true hb1
          have hpp : pAt part i = none ∨ pAt part i = some x := by
            cases e : pAt part i with
            | none => exact .inl rfl
            | some u => rw [e] at hb2; exact .inr (by rw [of_decide_eq_true (p := u = x) (by simpa using hb2)])
          have e09 := eA.trans e9
          refine s_when (et_B (ev_anyNT (fun j => decide (at0 hs j = x)) (eu_call (ea_cons (ev_var rfl) (ea_cons (ev_var rfl) (ea_cons (ev_var rfl) ea_nil))) fun H10 e10 Q' q' E' => ⟨v, n, T, i, L, openL n hs part x, rfl, A3.web.ex (.of (e09.trans e10)), A3.ok, hin, e10 _ _ (e9 _ _ hl), q'⟩) (by have := hangL_len (T := T) (n := n) (lot := openL n hs part x) (p := i); omega) (fun _ => rfl) fun j H10 e10 hj => ?_)) (fun hb3 H10 e10 => ?_) (fun hb3 H10 e10 => ?_)
          · have hj2 := (mem_hangL.mp hj).1
            exact ev_eqI (ev_hts (ev_var rfl) (ev_var rfl) ⟨c, rfl, e10 _ _ (e09 _ _ hc)⟩ (by omega)) (ev_var rfl)
          · have cd : Cand T n hs part x i := ⟨(hang_any hio).mp hb3, hpp⟩
            have eB := e09.trans e10
            have hl10 : H10 G = some (.lst (l.map V.int)) := e10 _ _ (e9 _ _ (e8 _ _ hl7))
            refine q_app hl10 (ev_var rfl) (ev_var rfl) (by rw [List.length_map]; omega) fun H11 e11 => ?_
            refine ⟨(eB.trans e11).mut hG0, ?_, ⟨_, _, _, _, rfl⟩, l ++ [x], by rw [upd_same, List.map_append]; rfl, by rw [List.length_append]; simp [hll], fun j hj => ?_⟩
            · rw [upd_ne hTG]; exact e11 _ _ (e10 _ _ (e9 _ _ (e8 _ _ ht7)))
            · by_cases e : j = i
              · subst e
                have ea : at0 (l ++ [x]) j = x := by
                  unfold at0
                  rw [List.getD_eq_getElem?_getD, ← hll, List.getElem?_concat_length]; rfl
                rw [ea]
                refine ⟨cd, fun y cy => ?_⟩
                have hyn : y ∈ ns := (hmem y).mpr (decide_eq_true (cand_mem A3.ok hhl cy))
                obtain ⟨m, hm⟩ := List.getElem?_of_mem hyn
                by_cases hmk : m < k2
                · exact absurd cy (hno y (List.mem_iff_getElem?.mpr ⟨m, by rw [List.getElem?_take, if_pos hmk]; exact hm⟩))
                · by_cases hmk2 : m = k2
                  · subst hmk2; rw [hx] at hm; cases hm; exact Int.le_refl _
                  · obtain ⟨h1, h1'⟩ := List.getElem?_eq_some_iff.mp hx
                    obtain ⟨h2, h2'⟩ := List.getElem?_eq_some_iff.mp hm
                    have := List.pairwise_iff_getElem.mp hns k2 m h1 h2 (by omega)
                    rw [h1', h2'] at this
                    omega
              · have ea : at0 (l ++ [x]) j = at0 l j := by
                  unfold at0
                  rw [List.getD_eq_getElem?_getD, List.getD_eq_getElem?_getD, List.getElem?_append_left (by omega)]
                rw [ea]
                exact hok j (by omega)
          · have nc : ¬ Cand T n hs part x i := fun z => by
              rw [(hang_any hio).mpr z.1] at hb3; cases hb3
            obtain ⟨g1, g2, g3, g4, g5⟩ := nx H10 (e9.trans e10) nc
            exact ⟨g1, g2, g3, ⟨_, _, _, rfl⟩, g4, g5⟩
        · have nc : ¬ Cand T n hs part x i := fun z => by
            have h1 : decide (i ∈ openL n hs part x) = true := decide_eq_true (mem_openL.mpr z.1.1)
            rw [h1] at hb
            rcases z.2 with h2 | h2
            · rw [h2] at hb; cases hb
            · rw [h2] at hb; simp at hb
          obtain ⟨g1, g2, g3, g4, g5⟩ := nx H9 e9 nc
          exact ⟨g1, g2, g3, ⟨_, _, _, rfl⟩, g4, g5⟩
      · obtain ⟨e7, ht7, hLP7, ⟨y5, y6, y7, rfl⟩, hl7, hno⟩ := h
        obtain ⟨x, cx⟩ := cand_some Fr hin
        rw [List.length_map, List.take_length] at hno
        exact absurd cx (hno x ((hmem x).mpr (decide_eq_true (cand_mem A3.ok hhl cx))))
    · obtain ⟨e5, ht5, ⟨y4, y5, y6, y7, rfl⟩, l, hl5, hll, hok⟩ := h
      rw [List.length_map, List.length_range] at hll hok
      have hM : Least T n hs part l := ⟨hll, fun p hp => (hok p hp).1, fun p hp x cx => (hok p hp).2 x cx⟩
      exact ⟨.ref G, rfl, G, _, rfl, .inl ⟨SqL.of hl5, fun p2 hn2 => q.2 Fr l hM p2 _ (fresh_back e5 hn2) (e5.trans (Ex.new hn2)) upd_same⟩⟩
end
end Hv
end
section
set_option Elab.async false
set_option linter.all false
set_option maxRecDepth 100000
set_option maxHeartbeats 4000000
/-! The walk's words, 4: comprehensions by any frame; a def whose code object is known. -/
namespace Hv
open PySem PySem.Spec PyProof.Rows L2 Evl
/-- a comprehension, by its block -/
theorem lcF {J : It} {n : Nat} {G : Hp → Prop} {Y : Nat → Hp → V → Hp → Prop} (w : Walk J n G Y) {g : TG} {t : TT} {te : TE} {vs : List Nat} {σ : L2.St} {H1 : Hp} {Qd : Addr → Hp → Prop} (Fr : Hp → Hp → Prop) (fr0 : Fr H1 H1) (frT : ∀ A B C, Fr A B → Fr B C → Fr A C) (frL : ∀ A B D l, H1 D = none → Fr A B → A D = some (.lst l) → B D = some (.lst l)) (frU : ∀ A D o, Fr H1 A → H1 D = none → Fr H1 (upd A D o)) (hn : n ≤ 40000) (Pv : Nat → List V → Hp → Prop)
    (h0 : Pv 0 [] H1) (hG : ∀ i acc H, i ≤ n → Fr H1 H → Pv i acc H → G H)
    (stab : ∀ i acc H D l', H1 D = none → (H D = none ∨ ∃ l, H D = some (.lst l)) → Pv i acc H → Pv i acc (upd H D (.lst l')))
    (hs : ∀ i x acc H H' (Post : V → Hp → Prop) (Skip : Hp → Prop), i < n → Fr H1 H → Pv i acc H → Y i H x H' → (∀ y H4, Fr H H4 → Pv (i + 1) (acc ++ [y]) H4 → Post y H4) → (∀ H3, Fr H H3 → Pv (i + 1) acc H3 → Skip H3) →
      g x (wipe σ vs) H' fun σ2 H2 => wipe σ2 vs = wipe σ vs ∧ t σ2 H2 fun b H3 => if b = true then te σ2 H3 Post else Skip H3)
    (hd : ∀ D acc H, H1 D = none → Fr H1 H → H D = some (.lst acc) → acc.length ≤ n → Pv n acc H → Qd D H) :
    ∀ D, H1 D = none → ∃ W : Nat → Nat → Hp → Prop, (∃ m, W 0 m (upd H1 D (.lst []))) ∧ ∀ i m H, W i m H →
      (J.stop i H ∧ Qd D H) ∨ (J.go i H ∧ ∃ Nx : Hp → Prop, (∀ H', Nx H' → ∃ m', m' < m ∧ W (i + 1) m' H') ∧ ∀ x H', J.yld i H x H' → g x (wipe σ vs) H' fun σ2 H2 => wipe σ2 vs = wipe σ vs ∧ t σ2 H2 fun b H3 =>
        if b = true then te σ2 H3 fun y H4 => ∃ acc, H4 D = some (.lst acc) ∧ acc.length < sizeLine ∧ Nx (upd H4 D (.lst (acc ++ [y]))) else Nx H3) := by
  intro D hD
  refine lc_it w (fun i H => ∃ acc, H D = some (.lst acc) ∧ Fr H1 H ∧ acc.length ≤ i ∧ Pv i acc H) ⟨[], upd_same, frU _ _ _ fr0 hD, Nat.le_refl _, stab 0 [] H1 D [] hD (.inl hD) h0⟩ (fun i H hi h => ?_) (fun i x H H' hi h y => ?_) (fun H h => ?_)
  · obtain ⟨acc, h1, h2, h3, h4⟩ := h
    exact hG i acc H hi h2 h4
  · obtain ⟨acc, h1, h2, h3, h4⟩ := h
    have sz := sizeLine_eq
    refine hs i x acc H H' _ _ hi h2 h4 y (fun z H4 e p => ?_) (fun H3 e p => ?_)
    · have hD4 := frL _ _ _ _ hD e h1
      refine ⟨acc, hD4, by omega, acc ++ [z], upd_same, frU _ _ _ (frT _ _ _ h2 e) hD, ?_, stab _ _ _ _ _ hD (.inr ⟨_, hD4⟩) p⟩
      rw [List.length_append]; simp only [List.length_singleton]; omega
    · exact ⟨acc, frL _ _ _ _ hD e h1, frT _ _ _ h2 e, by omega, p⟩
  · obtain ⟨acc, h1, h2, h3, h4⟩ := h
    exact hd D acc H hD h2 h1 h3 h4

/-- a def whose code object is known -/
structure FunC (K : PySem.W.Frag) (x : Str) (st : Stmt) (f : Addr) (fd : FuncData) (cdv : Value) : Prop where
  ex : ∃ (oc : Value) (od : Option Addr) (kV doc pm : Value) (an : Option Addr) (ct : Value) (osl : Array (Option Value)),
    fd = PySem.W.fnOf x x (defArgs st) (defBody st) (defScope st) .none kV doc pm an cdv ct ∧ K.lookup f = some ⟨oc, od, .func fd, osl⟩ ∧ PySem.W.codeIn K cdv x = true
  kp : PySem.W.keepIn K (.ref f) = true
section
variable {P : Program} {w : World} {K : PySem.W.Frag} {mg : Str → Option Value} {base : Heap}
theorem FunC.fn {x : Str} {st : Stmt} {f : Addr} {fd : FuncData} {cdv : Value} (F : FunC K x st f fd cdv) : Fun K x x st f fd := by
  obtain ⟨oc, od, kV, doc, pm, an, ct, osl, h1, h2, h3⟩ := F.ex
  exact ⟨⟨oc, od, kV, doc, pm, an, cdv, ct, osl, h1, h2, h3⟩, F.kp⟩
theorem FunC.ok {x : Str} {st : Stmt} {f : Addr} {fd : FuncData} {cdv : Value} {N ps : List Str} {k : Nat} {sp : Sp} (F : FunC K x st f fd cdv) (S : FnScope N ps (defScope st)) (len : ∀ vs H Q E, sp vs H Q E → vs.length = ps.length)
    (hbody : ∀ (A : Around) (outer : List Env) (s : Shared) (H : Hp) (vs : List V) (Q : VK) (E : XK), Room k (A.deeper (envOfC x (defScope st) s.heap.objs.size f cdv)) → sp vs H Q E →
      ∃ t, PSs (cxOf CX0 P w K mg base N x (defScope st) f cdv A outer s H E).nox (defBody st) t ∧ t { nx := fun _ H' => Q .non H', rt := Q } (start N vs) H) : FnOk P w K mg base CX0 (k + 1) f fd ps sp := by
  obtain ⟨oc, od, kV, doc, pm, an, ct, osl, rfl, lk, hcd⟩ := F.ex
  refine fn_of lk hcd S len fun A outer s H vs Q E hr hsp => ?_
  obtain ⟨t, h, q⟩ := hbody A outer s H vs Q E hr hsp
  exact ⟨t, h.nox, q⟩
theorem funC_mk {x : Str} {st : Stmt} {f : Addr} {oc : Value} {od an : Option Addr} {osl : Array (Option Value)} {kV doc pm cdv ct : Value} (l : K.lookup f = some ⟨oc, od, .func (PySem.W.fnOf x x (defArgs st) (defBody st) (defScope st) .none kV doc pm an cdv ct), osl⟩)
    (c : PySem.W.codeIn K cdv x = true) (k : PySem.W.keepIn K (.ref f) = true) : FunC K x st f (PySem.W.fnOf x x (defArgs st) (defBody st) (defScope st) .none kV doc pm an cdv ct) cdv := ⟨⟨oc, od, kV, doc, pm, an, ct, osl, rfl, l, c⟩, k⟩
end
/-- the frame of ExtN -/
theorem extN_L {A B : Hp} {D : Addr} {l : List V} (e : LamX.ExtN A B) (h : A D = some (.lst l)) : B D = some (.lst l) := e _ _ h fun _ z => nomatch z
theorem extN_upd {H1 A : Hp} {D : Addr} {o : HO} (e : LamX.ExtN H1 A) (h : H1 D = none) : LamX.ExtN H1 (upd A D o) := fun b u hb n => by
  rw [upd_ne (fun z => by rw [z, h] at hb; cases hb)]
  exact e b u hb n
theorem extN_of {H H' : Hp} (e : Ex H H') : LamX.ExtN H H' := fun b o h _ => e b o h
/-- the table of lots_of's code object -/
abbrev lamQ : Str := ((Str.ofString "lots_of") ++ ".<locals>.") ++ "<lambda>"
abbrev lamT (P : Addr) : List (Addr × Str) := [(P, lamQ)]
end Hv
end
section
set_option Elab.async false
set_option linter.all false
set_option maxRecDepth 100000
set_option maxHeartbeats 4000000
namespace Hv
open PySem PySem.Spec PyProof.Rows L2 Evl
theorem lots_ok {xs : List Nat} {bs : List (List Int)} (h : bs = ((subsL xs).map fun l => l.map fun i : Nat => (i : Int)).mergeSort keyLe) : LotsOk xs (bs.map fun b => b.map Int.toNat) ∧ ∀ b ∈ bs, b = (b.map Int.toNat).map fun i : Nat => (i : Int) := by
  have mem : ∀ b, b ∈ bs ↔ ∃ l : List Nat, l.Sublist xs ∧ b = l.map fun i : Nat => (i : Int) := fun b => by
    rw [h, (List.mergeSort_perm _ _).mem_iff, List.mem_map]
    constructor
    · rintro ⟨l, hl, rfl⟩; exact ⟨l, mem_subsL.mp hl, rfl⟩
    · rintro ⟨l, hl, rfl⟩; exact ⟨l, mem_subsL.mpr hl, rfl⟩
  have back : ∀ l : List Nat, (l.map fun i : Nat => (i : Int)).map Int.toNat = l := fun l => by
    rw [List.map_map, show (Int.toNat ∘ fun i : Nat => (i : Int)) = id from funext fun i => Int.toNat_natCast i, List.map_id]
  refine ⟨⟨fun L => ?_, ?_⟩, fun b hb => ?_⟩
  · rw [List.mem_map]
    constructor
    · rintro ⟨b, hb, rfl⟩
      obtain ⟨l, hl, rfl⟩ := (mem b).mp hb
      rw [back]; exact hl
    · intro hL
      exact ⟨_, (mem _).mpr ⟨L, hL, rfl⟩, back L⟩
  · rw [List.pairwise_map]
    have := key_sorted ((subsL xs).map fun l => l.map fun i : Nat => (i : Int))
    rw [← h] at this
    exact this.imp fun {a b} q => by rw [List.length_map, List.length_map]; exact q
  · obtain ⟨l, _, rfl⟩ := (mem b).mp hb
    rw [back]
theorem tupsN_of {H : Hp} : ∀ {ps : List Addr} {bs : List (List Int)}, ITup H ps bs → (∀ b ∈ bs, b = (b.map Int.toNat).map fun i : Nat => (i : Int)) → TupsN H ps (bs.map fun b => b.map Int.toNat)
  | _, _, .nil, _ => .nil
  | _, _, .cons (a := p) (b := b) h t, q => .cons (by
      show H p = some (.tup ((b.map Int.toNat).map vN))
      rw [ints_N, ← q b List.mem_cons_self]; exact h) (tupsN_of t fun b hb => q b (List.mem_cons_of_mem _ hb))
/-! plain words of half_need -/
def needB (T : Ties) (n : Nat) (h : List Int) (part : Part) (v : Int) (L : List Nat) : Prop :=
  (((dueL n h part v).all fun i => decide (i ∈ L)) && (L.all fun i => (hangL T n (L ++ srcL n h part v) i).any fun s => decide (s ∈ srcL n h part v))) = true
theorem needB_iff {T : Ties} {n : Nat} {h : List Int} {part : Part} {v : Int} {L : List Nat} (hs : L.Sublist (freeL n h part v)) : needB T n h part v L ↔ NeedOk T n h part v L := by
  unfold needB
  rw [Bool.and_eq_true, List.all_eq_true, List.all_eq_true]
  constructor
  · rintro ⟨h1, h2⟩
    refine { nd := freeL_nodup.sublist hs, fr := fun i hi => hs.subset hi, due := fun i hi => of_decide_eq_true (h1 i hi), join := fun i hi => ?_ }
    obtain ⟨s, hs1, hs2⟩ := List.any_eq_true.mp (h2 i hi)
    exact ⟨s, (mem_hangL.mp hs1).2, of_decide_eq_true hs2⟩
  · intro N
    refine ⟨fun i hi => decide_eq_true (N.due i hi), fun i hi => List.any_eq_true.mpr ?_⟩
    obtain ⟨s, hs1, hs2⟩ := N.join i hi
    exact ⟨s, mem_hangL.mpr ⟨(mem_srcL.mp hs2).1.1, hs1⟩, decide_eq_true hs2⟩
theorem rd_nx {f : L2.St → Hp → Prop} {r : VK} {b c : L2.St → Hp → Prop} {σ : L2.St} {H : Hp} (h : f σ H) : Ends.nx { nx := f, rt := r, bk := b, ct := c } σ H := h
/-- what is left of a for when the iterator is J -/
def forB (g : TG) (tb : TS) (D : Ends) (σ : L2.St) : It → Hp → Prop := fun J H1 => tFor (fun _ _ R => R J H1) g tb D σ H1
theorem rd_forC1 {K : PySem.W.Frag} {sp : Sp} {E : XK} {te : TE} {g : TG} {tb : TS} {D : Ends} {σ : L2.St} {H : Hp} (h : te σ H fun x H1 => sp [x] H1 (fun y H2 => ∃ a, y = .ref a ∧ (∃ xs, SqL K H2 a xs) ∧ forB g tb D σ (Itl K a) H2) E) :
    tFor (iList K (tCall sp [] E (tCons te tNil))) g tb D σ H := h
theorem rd_name {i : Nat} {v : V} {σ : L2.St} {H : Hp} {Q : L2.St → Hp → Prop} (h : Q (σ.set i (some v)) H) : gName i v σ H Q := h
theorem tabs_updL {T : List (Addr × Str)} {H : Hp} {D : Addr} {l' : List V} (t : LamX.Tabs T H) (h : H D = none ∨ ∃ l, H D = some (.lst l)) : LamX.Tabs T (upd H D (.lst l')) := fun p hp => by
  obtain ⟨ps, h1, h2, h3⟩ := t p hp
  refine ⟨ps, ?_, h2, fun pos cv hc => ?_⟩
  · rw [upd_ne (fun z => by rw [← z] at h; rcases h with h | ⟨l, h⟩ <;> rw [h1] at h <;> cases h)]; exact h1
  · obtain ⟨c, e1, e2⟩ := h3 pos cv hc
    refine ⟨c, e1, ?_⟩
    rw [upd_ne (fun z => by rw [← z] at h; rcases h with h | ⟨l, h⟩ <;> rw [e2] at h <;> cases h)]; exact e2
section
variable {P : Program} {w : World} {K : PySem.W.Frag} {mg : Str → Option Value} {base : Heap} {f : Addr} {fd : FuncData}
/-! ### lots_of -/
theorem sc_lots_of : FnScope ["some", "found", "person", "lot"] ["some"] (defScope (topS 20)) := ⟨rfl, rfl, rfl, by decide +kernel, rfl, by decide +kernel, by decide +kernel⟩
def RetLots (Pt : Addr) (xs : List Nat) (H : Hp) (Q : VK) : Prop := ∀ (p : Addr) (ps : List Addr) (ls : List (List Nat)) H2, LamX.ExtN H H2 → LamX.Tabs (lamT Pt) H2 → H2 p = some (.lst (ps.map V.ref)) → TupsN H2 ps ls → LotsOk xs ls → Q (.ref p) H2
def spLots (Pt : Addr) : Sp := fun vs H Q _ => ∃ (S : Addr) (xs : List Nat), vs = [.ref S] ∧ H S = some (.lst (xs.map vN)) ∧ xs.length ≤ 5 ∧ LamX.Tabs (lamT Pt) H ∧ RetLots Pt xs H Q
theorem ok_lots_of {c Pt : Addr} (nb : NoB mg) (TB : LamX.TabB base mg c Pt) (F : FunC K "lots_of" (topS 20) f fd (.ref c)) (g : mg "lots_of" = some (.ref f)) : Has P w K mg base 2 "lots_of" ["some"] (spLots Pt) := by
  refine .mk' F.fn g (F.fn.binds fun _ _ _ _ _ _ us hl => match us, hl with | [_], _ => rfl) (F.ok sc_lots_of (fun vs H Q E h => ?_) (fun A outer s H vs Q E hr h => ?_))
  · obtain ⟨S, xs, rfl, _⟩ := h
    rfl
  · obtain ⟨S, xs, rfl, hS, hz, hT, q⟩ := h
    refine ⟨_, (pss_cons (ps_set (i := 1) sc_lots_of.nd rfl (Or.inl rfl) (pe_lst (pa_cons (pe_tup pa_nil) pa_nil)))
      (pss_cons (ps_for PassesOwn.never rfl (pi_list (pv 0)) (pg_name (i := 2) sc_lots_of.nd rfl (Or.inr rfl))
        (pss_one (ps_set (i := 1) sc_lots_of.nd rfl (Or.inl rfl) (pe_op op_cat (pv 1) (pe_lc (own := [("lot", 3)]) (g := (gName 3)) (tt := tYes) rfl sc_lots_of.nd (pi_list (pv 1)) (blkOk_by (N := ["some", "found", "person", "lot"]) (sc := defScope (topS 20)) (by decide +kernel)) (fun _ _ _ _ _ => (pg_name (i := 3) sc_lots_of.nd rfl (Or.inl rfl))) (fun _ _ _ _ _ => pts_nil) (fun _ _ _ _ _ => (pe_tup (pa_starK (K := K) rfl (pv 3) (pa_cons (pv 2) pa_nil)))))))))
      (pss_one (ps_ret (pe_sortLam (T := lamT Pt) (by rfl) nb.sorted_ nb.len_ (pa_cons (pv 1) pa_nil) TB (by rfl) (List.mem_singleton.mpr (by rfl)) (fun p hp _ => by rw [List.mem_singleton.mp hp]; rfl) hr.depth hr.units))))), ?_⟩
    have sz := sizeLine_eq
    -- found = [()]
    refine ⟨by show 0 ≤ sizeLine; omega, fun T0 hT0 => ⟨by show 1 ≤ sizeLine; omega, fun F0 hF0 => ?_⟩⟩
    have h1 : (upd H T0 (.tup [])) T0 = some (.tup []) := upd_same
    have e2 : Ex H (upd (upd H T0 (.tup [])) F0 (.lst [.ref T0])) := (Ex.new hT0).trans (Ex.new hF0)
    have pw : ∀ k, k ≤ xs.length → (subsL (xs.take k)).length ≤ 32 := fun k hk => by
      rw [subsL_len, List.length_take]
      have : min k xs.length ≤ 5 := by omega
      calc 2 ^ min k xs.length ≤ 2 ^ 5 := Nat.pow_le_pow_right (by omega) this
        _ = 32 := rfl
    refine q_forLn (ev_var rfl) (SqL.of (e2 _ _ hS)) (fun i σ H' => Ex H H' ∧ ∃ (F : Addr) (ps : List Addr), (∃ y2 y3, σ = [some (.ref S), some (.ref F), y2, y3]) ∧ H' F = some (.lst (ps.map V.ref)) ∧ TupsN H' ps (subsL (xs.take i)))
      (fun H2 e3 => ⟨e2.trans e3, F0, [T0], ⟨_, _, rfl⟩, e3 _ _ upd_same, .cons (e3 _ _ (by rw [upd_ne (fun z => by rw [← z, upd_same] at hF0; cases hF0)]; exact h1)) .nil⟩) (fun i σ H' _ h => SqL.of (h.1 _ _ hS)) (fun i x σ H' hx h => ?_) (fun σ H' h => ?_)
    · obtain ⟨e3, F, ps, ⟨y2, y3, rfl⟩, hF, hps⟩ := h
      rw [List.getElem?_map] at hx
      obtain ⟨per, hper, rfl⟩ := Option.map_eq_some_iff.mp hx
      have hix : i < xs.length := (List.getElem?_eq_some_iff.mp hper).1
      have hpl : ps.length = (subsL (xs.take i)).length := Paired.length hps
      have hp32 := pw i (by omega)
      -- found + [(*lot, person) for lot in found]
      refine ⟨.ref F, rfl, .ref F, rfl, F, rfl, ⟨_, SqL.of hF⟩, ?_⟩
      refine lcG (walk_list (xs := ps.map V.ref)) noS (fun _ h => h.elim) (by rw [List.length_map]; omega) (fun k acc H' => ∃ qs, acc = qs.map V.ref ∧ TupsN H' qs (((subsL (xs.take i)).take k).map (· ++ [per]))) ⟨[], rfl, .nil⟩ (fun k acc H' _ e _ => SqL.of (e _ _ (fun z => z) hF)) (fun k acc H' D l' hD hl' h => ?_) (fun k x acc H5 H'' Post Skip hk e5 h y hp hsk => ?_) (fun D acc H5 hD e5 hacc hal h => ?_)
      · obtain ⟨qs, h1, h2⟩ := h
        exact ⟨qs, h1, h2.ex (xt_updL hl')⟩
      · obtain ⟨rfl, hx⟩ := y
        obtain ⟨qs, rfl, hqs⟩ := h
        rw [List.getElem?_map] at hx
        obtain ⟨a, ha, rfl⟩ := Option.map_eq_some_iff.mp hx
        obtain ⟨l, hl, hla⟩ := paired_getL hps ha
        refine ⟨rfl, yes_do ?_⟩
        have hll : l.length ≤ 1000 := by
          have := (mem_subsL.mp (List.mem_of_getElem? hl)).length_le
          rw [List.length_take] at this
          omega
        refine eu_tup (ea_star (ev_var rfl) (.inl (SqT.of (e5 _ _ (fun z => z) hla))) (ea_cons (ev_var rfl) ea_nil)) (by rw [List.length_append, List.length_map]; show l.length + 1 ≤ 100000; omega) _ (Ex.refl _) _ fun p H6 hp6 e6 h6 => hp _ _ (.of e6) ⟨qs ++ [p], by rw [List.map_append]; rfl, ?_⟩
        rw [take_next hl, List.map_append]
        refine Paired.snoc (hqs.ex (.of e6)) ?_
        rw [h6, List.map_append]; rfl
      · obtain ⟨qs, rfl, hqs⟩ := h
        rw [List.length_map, hpl, List.take_length] at hqs
        have hql : qs.length = (subsL (xs.take i)).length := by rw [Paired.length hqs, List.length_map]
        have hF5 := e5 _ _ (fun z => z) hF
        refine ⟨F, D, _, _, rfl, rfl, hF5, hacc, by rw [List.length_map, List.length_map]; omega, fun N hN => ?_⟩
        have e6 : Ex H' (upd H5 N (.lst (ps.map V.ref ++ qs.map V.ref))) := e5.ex.trans (Ex.new hN)
        refine ⟨e3.trans e6, N, ps ++ qs, ⟨_, _, rfl⟩, by rw [upd_same, List.map_append], ?_⟩
        rw [take_next hper, subsL_snoc]
        exact paired_append (hps.ex (.of e6)) (hqs.ex (.of (Ex.new hN)))
    · obtain ⟨e3, F, ps, ⟨y2, y3, rfl⟩, hF, hps⟩ := h
      rw [List.length_map, List.take_length] at hps
      refine ⟨.ref F, rfl, F, ps, _, rfl, hF, hps.itup, hT.ext e3, fun H2 ps' p' eN hT2 hp' hps' => ?_⟩
      obtain ⟨O, hb⟩ := lots_ok (xs := xs) rfl
      have e4 : Ex H2 (upd H2 p' (.lst (ps'.map V.ref))) := Ex.new hp'
      exact q p' ps' _ _ ((extN_of e3).trans (eN.trans (extN_of e4))) (hT2.ext e4) upd_same ((tupsN_of hps' hb).ex (.of e4)) O
/-! ### half_need -/
theorem sc_half_need : FnScope ["web", "heights", "part", "height", "some", "source", "due", "lot", "one"] ["web", "heights", "part", "height"] (defScope (topS 37)) := ⟨rfl, rfl, rfl, by decide +kernel, rfl, by decide +kernel, by decide +kernel⟩
def RetNeed (Pt : Addr) (T : Ties) (n : Nat) (hs : List Int) (part : Part) (x : Int) (H : Hp) (Q : VK) : Prop := ∀ (R : Addr) (L : List Nat) H2, LamX.ExtN H H2 → LamX.Tabs (lamT Pt) H2 → H2 R = some (.tup (L.map vN)) → NeedMin T n hs part x L → Q (.ref R) H2
def spNeed (Pt : Addr) : Sp := fun vs H Q _ => ∃ (v u p : V) (x : Int) (n : Nat) (T : Ties) (hs : List Int) (part : Part), vs = [v, u, p, .int x] ∧ Args3 H n T hs part v u p ∧ LamX.Tabs (lamT Pt) H ∧ Free T n hs part ∧ RetNeed Pt T n hs part x H Q
theorem ev_partEq {K : PySem.W.Frag} {σ : L2.St} {H : Hp} {ta tb : TE} {o : Option Int} {x : Int} (ha : Ev ta σ H (oV o)) (hb : Ev tb σ H (.int x)) : Ev (tOp rEq ta tb) σ H (.bl (decide (o = some x))) := by
  cases o with
  | none => exact ev_is (ev_op ha hb (rv_eq (x := .non) (y := .int x) rfl)) (by simp)
  | some u => exact ev_is (ev_eqI ha hb) (by simp)
theorem ok_half_need {Pt : Addr} (nb : NoB mg) (c_open_half : Has P w K mg base 1 "open_half" ["heights", "part", "height"] spOpen) (c_lots_of : Has P w K mg base 2 "lots_of" ["some"] (spLots Pt)) (c_joins : Has P w K mg base 3 "joins" ["web", "some", "source"] spJoins)
    (F : Fun K "half_need" "half_need" (topS 37) f fd) (g : mg "half_need" = some (.ref f)) : Has P w K mg base 4 "half_need" ["web", "heights", "part", "height"] (spNeed Pt) := by
  refine .mk' F g (F.binds fun _ _ _ _ _ _ us hl => match us, hl with | [_, _, _, _], _ => rfl) (F.ok sc_half_need (fun vs H Q E h => ?_) (fun cdv A outer s H vs Q E hr h => ?_))
  · obtain ⟨v, u, p, x, n, T, hs, part, rfl, _⟩ := h
    rfl
  · obtain ⟨v, u, p, x, n, T, hs, part, rfl, A3, hT, Fr, q⟩ := h
    obtain ⟨c, rfl, hc⟩ := A3.hts
    obtain ⟨d, rfl, hd⟩ := A3.prt
    refine ⟨_, (pss_cons (ps_set (i := 4) sc_half_need.nd rfl (Or.inl rfl) (pe_has c_open_half (hr.mono (by first | decide | exact Nat.le_refl _)) (pa_cons (pv 1) (pa_cons (pv 2) (pa_cons (pv 3) pa_nil)))))
      (pss_cons (ps_setLc (i := 5) (own := [("one", 8)]) (g := (gName 8)) rfl sc_half_need.nd rfl rfl (sw_true rfl rfl rfl (by decide +kernel)) (pi_list (pv 4)) (blkOk_by (N := ["web", "heights", "part", "height", "some", "source", "due", "lot", "one"]) (sc := defScope (topS 37)) (by decide +kernel)) (fun _ _ _ _ _ => (pg_name (i := 8) sc_half_need.nd rfl (Or.inl rfl))) (fun _ _ _ _ _ => (pts_one (pt_cmpR op_eq (pe_ix (ix_tupK (K := K) rfl) (pv 1) (pv 8) (fun _ _ => rfl)) (pv 3) (nomark _)))) (fun _ _ _ _ _ => (pv 8)))
      (pss_cons (ps_setLc (i := 6) (own := [("one", 8)]) (g := (gName 8)) rfl sc_half_need.nd rfl rfl (sw_true rfl rfl rfl (by decide +kernel)) (pi_list (pv 4)) (blkOk_by (N := ["web", "heights", "part", "height", "some", "source", "due", "lot", "one"]) (sc := defScope (topS 37)) (by decide +kernel)) (fun _ _ _ _ _ => (pg_name (i := 8) sc_half_need.nd rfl (Or.inl rfl))) (fun _ _ _ _ _ => (pts_one (PW.pt (pw_and (pt_cmpR op_eq (pe_ix (ix_tupK (K := K) rfl) (pv 2) (pv 8) (fun _ _ => rfl)) (pv 3) (nomark _)) (pw_and1 (pt_cmpR op_ne (pe_ix (ix_tupK (K := K) rfl) (pv 1) (pv 8) (fun _ _ => rfl)) (pv 3) (nomark _))))))) (fun _ _ _ _ _ => (pv 8)))
      (pss_cons (ps_if (pt_cmpR (op_eqD hr.units) (pv 6) (pe_lst pa_nil) (nomark _)) (pss_one (ps_ret (pe_tup pa_nil))) pss_nil)
      (pss_cons (ps_for PassesOwn.never rfl (pi_list (pe_has c_lots_of (hr.mono (by first | decide | exact Nat.le_refl _)) (pa_cons (pe_lc (own := [("one", 8)]) (g := (gName 8)) rfl sc_half_need.nd (pi_list (pv 4)) (blkOk_by (N := ["web", "heights", "part", "height", "some", "source", "due", "lot", "one"]) (sc := defScope (topS 37)) (by decide +kernel)) (fun _ _ _ _ _ => (pg_name (i := 8) sc_half_need.nd rfl (Or.inl rfl))) (fun _ _ _ _ _ => (pts_one (pt_cmpR op_ne (pe_ix (ix_tupK (K := K) rfl) (pv 1) (pv 8) (fun _ _ => rfl)) (pv 3) (nomark _)))) (fun _ _ _ _ _ => (pv 8))) pa_nil))) (pg_name (i := 7) sc_half_need.nd rfl (Or.inr rfl))
        (pss_one (ps_if (PW.pt (pw_and (pt_val (pe_callB (cr_all rfl) (by rfl) nb.all_ (by decide +kernel) (pa_cons (pe_lc (own := [("one", 8)]) (g := (gName 8)) (tt := tYes) rfl sc_half_need.nd (pi_list (pv 6)) (blkOk_by (N := ["web", "heights", "part", "height", "some", "source", "due", "lot", "one"]) (sc := defScope (topS 37)) (by decide +kernel)) (fun _ _ _ _ _ => (pg_name (i := 8) sc_half_need.nd rfl (Or.inl rfl))) (fun _ _ _ _ _ => pts_nil) (fun _ _ _ _ _ => (pe_cmpR (op_inK (K := K) rfl) (pv 8) (pv 7) (by with_unfolding_all rfl)))) pa_nil))) (pw_and1 (pt_val (pe_has c_joins (hr.mono (by first | decide | exact Nat.le_refl _)) (pa_cons (pv 0) (pa_cons (pv 7) (pa_cons (pv 5) pa_nil)))))))) (pss_one (ps_ret (pv 7))) pss_nil)))
      (pss_one (ps_ret pe_non))))))), ?_⟩
    have hn5 := A3.ok.few
    have hhl := A3.hl
    have hpl := A3.pl
    have ol := openL_len (n := n) (h := hs) (part := part) (x := x)
    have fl : (freeL n hs part x).length ≤ n := Nat.le_trans (List.length_filter_le _ _) ol
    have sl : (srcL n hs part x).length ≤ n := Nat.le_trans (List.length_filter_le _ _) ol
    have dl : (dueL n hs part x).length ≤ n := Nat.le_trans (List.length_filter_le _ _) ol
    refine ⟨.ref c, rfl, .ref d, rfl, .int x, rfl, .ref c, .ref d, x, hs, part, rfl, ⟨c, rfl, hc⟩, ⟨d, rfl, hd⟩, by omega, by omega, fun L0 H1 hL0 e1 hl0 => ?_⟩
    rw [openEq hhl] at hl0
    have ilt : ∀ i ∈ openL n hs part x, i < n := fun i hi => (mem_openL.mp hi).1
    -- source
    refine rd_name (rd_nx (q_asgL (xs := (srcL n hs part x).map vN) ?_ fun SR H2 hSR e2 hsr => ?_))
    · exact el_filterL (fun i => decide (at0 hs i = x)) (ev_var rfl) (SqL.of hl0) (by omega) (fun _ => rfl) (fun _ => rfl) fun i H2 e2 hi => et_test (ev_eqI (ev_hts (ev_var rfl) (ev_var rfl) ⟨c, rfl, e2 _ _ (e1 _ _ hc)⟩ (by have := ilt i hi; omega)) (ev_var rfl))
    -- due
    refine q_asgL (xs := (dueL n hs part x).map vN) ?_ fun DU H3 hDU e3 hdu => ?_
    · exact el_filterL (fun i => decide (pAt part i = some x) && !decide (at0 hs i = x)) (ev_var rfl) (SqL.of (e2 _ _ hl0)) (by omega) (fun _ => rfl) (fun _ => rfl) fun i H3 e3 hi => et_and (et_test (ev_partEq (K := K) (ev_part (ev_var rfl) (ev_var rfl) ⟨d, rfl, e3 _ _ (e2 _ _ (e1 _ _ hd))⟩ (by have := ilt i hi; omega)) (ev_var rfl))) fun _ => et_test (ev_neI (ev_hts (ev_var rfl) (ev_var rfl) ⟨c, rfl, e3 _ _ (e2 _ _ (e1 _ _ hc))⟩ (by have := ilt i hi; omega)) (ev_var rfl))
    have e03 := (e1.trans e2).trans e3
    -- if due == []: return ()
    refine q_when (et_test (ev_eqE (ns := dueL n hs part x) (ev_var rfl) (SqL.of hdu) (el_lst ea_nil (by decide)))) (fun hb H4 e4 => ?_) (fun hb H4 e4 => ?_)
    · refine s_retU (eu_tup ea_nil (by show 0 ≤ 100000; decide)) fun R H5 hR e5 h5 => ?_
      have he : dueL n hs part x = [] := List.isEmpty_iff.mp hb
      refine q R [] H5 (extN_of ((e03.trans e4).trans e5)) (hT.ext ((e03.trans e4).trans e5)) h5 ⟨{ nd := List.nodup_nil, fr := fun i hi => by simp at hi, due := fun i hi => by rw [he] at hi; exact hi, join := fun i hi => by simp at hi }, fun _ _ _ => Nat.zero_le _⟩
    · have e04 := e03.trans e4
      -- for lot in lots_of(..)
      have key : EvL (tLc (iList K (tVar 4)) (gName 8) (tTest (tOp rNe (tOp (rIxT K) (tVar 1) (tVar 8)) (tVar 3))) (tVar 8) [8]) [some v, some (.ref c), some (.ref d), some (.int x), some (.ref L0), some (.ref SR), some (.ref DU), none, none] H4 ((freeL n hs part x).map vN) :=
        el_filterL (vs := [8]) (fun i => !decide (at0 hs i = x)) (ev_var rfl) (SqL.of (e4 _ _ (e3 _ _ (e2 _ _ hl0)))) (by omega) (fun _ => rfl) (fun _ => rfl) (fun i H5 e5 hi => et_test (ev_neI (ev_hts (ev_var rfl) (ev_var rfl) ⟨c, rfl, e5 _ _ (e04 _ _ hc)⟩ (by have := ilt i hi; omega)) (ev_var rfl)))
      refine rd_forC1 (key H4 (Ex.refl _) _ fun FL H5 hFL e5 hfl => ?_)
      have e05 := e04.trans e5
      refine ⟨FL, freeL n hs part x, rfl, hfl, by omega, hT.ext e05, fun TP ps ls H6 eN hT6 hTP hps O => ⟨TP, rfl, ⟨_, SqL.of hTP⟩, ?_⟩⟩
      have eN6 : LamX.ExtN H H6 := (extN_of e05).trans eN
      have A6 := A3.ex (.ofN eN6)
      have hsr6 : H6 SR = some (.lst ((srcL n hs part x).map vN)) := extN_L eN (e5 _ _ (e4 _ _ (e3 _ _ hsr)))
      have hdu6 : H6 DU = some (.lst ((dueL n hs part x).map vN)) := extN_L eN (e5 _ _ (e4 _ _ hdu))
      refine for_list (xs := ps.map V.ref) (fun i σ H' => Ex H6 H' ∧ (∃ y7 y8, σ = [some v, some (.ref c), some (.ref d), some (.int x), some (.ref L0), some (.ref SR), some (.ref DU), y7, y8]) ∧ ∀ j L', j < i → ls[j]? = some L' → ¬ NeedOk T n hs part x L')
        ⟨Ex.refl _, ⟨_, _, rfl⟩, fun j L' hj => absurd hj (Nat.not_lt_zero j)⟩ (fun i σ H' _ h => SqL.of (h.1 _ _ hTP)) (fun i z σ H' hz h => ?_) (fun σ H' h => ?_)
      · obtain ⟨e7, ⟨y7, y8, rfl⟩, hno⟩ := h
        rw [List.getElem?_map] at hz
        obtain ⟨a, ha, rfl⟩ := Option.map_eq_some_iff.mp hz
        obtain ⟨L, hL, hLa⟩ := paired_getL hps ha
        have hLs := (O.mem L).mp (List.mem_of_getElem? hL)
        have hLl := hLs.length_le
        have nb' := needB_iff (T := T) hLs
        unfold needB at nb'
        refine s_when (et_and (et_B (ev_allL (fun i => decide (i ∈ L)) (ev_var rfl) (SqL.of (e7 _ _ hdu6)) (by omega) (fun _ => rfl) fun j H8 e8 hj => ev_inT (ev_var rfl) (ev_var rfl) (SqT.of (e8 _ _ (e7 _ _ hLa))))) fun _ => et_B (ev_callV (ea_cons (ev_var rfl) (ea_cons (ev_var rfl) (ea_cons (ev_var rfl) ea_nil))) fun H8 e8 Q' q' E' => ⟨v, n, T, a, SR, L, srcL n hs part x, rfl, A6.web.ex (.of (e7.trans e8)), A3.ok, e8 _ _ (e7 _ _ hLa), e8 _ _ (e7 _ _ hsr6), fun i hi => (mem_freeL.mp (hLs.subset hi)).1.1, by omega, by omega, q'⟩)) (fun hb H8 e8 => ?_) (fun hb H8 e8 => ?_)
        · have NO := nb'.mp hb
          refine ⟨.ref a, rfl, q a L H8 (eN6.trans (extN_of (e7.trans e8))) (hT6.ext (e7.trans e8)) (e8 _ _ (e7 _ _ hLa)) ⟨NO, fun L' hs' hN' => lots_first O hL hno hs' hN'⟩⟩
        · refine ⟨e7.trans e8, ⟨_, _, rfl⟩, fun j L' hj hjL => ?_⟩
          by_cases e : j = i
          · subst e; rw [hL] at hjL; cases hjL
            intro NO
            rw [nb'.mpr NO] at hb; cases hb
          · exact hno j L' (by omega) hjL
      · obtain ⟨e7, ⟨y7, y8, rfl⟩, hno⟩ := h
        obtain ⟨L, hLs, hLN⟩ := need_there Fr x
        obtain ⟨j, hj⟩ := List.getElem?_of_mem ((O.mem L).mpr hLs)
        have hjl : j < ls.length := (List.getElem?_eq_some_iff.mp hj).1
        rw [List.length_map, show ps.length = ls.length from Paired.length hps] at hno
        exact absurd hLN (hno j L hjl hj)
/-! ### half_fewest -/
theorem sc_half_fewest : FnScope ["web", "heights", "part", "height"] ["web", "heights", "part"] (defScope (topS 38)) := ⟨rfl, rfl, rfl, by decide +kernel, rfl, by decide +kernel, by decide +kernel⟩
def FewOk (T : Ties) (n : Nat) (hs : List Int) (part : Part) (m : Nat) : Prop := ∃ (told : List Int) (Lf : Int → List Nat), told.Pairwise (· < ·) ∧ (∀ x, x ∈ told ↔ some x ∈ part) ∧ (∀ x ∈ told, NeedMin T n hs part x (Lf x)) ∧ m = (told.map fun v => (Lf v).length).sum
def spFewest (Pt : Addr) : Sp := fun vs H Q _ => ∃ (v u p : V) (n : Nat) (T : Ties) (hs : List Int) (part : Part), vs = [v, u, p] ∧ Args3 H n T hs part v u p ∧ LamX.Tabs (lamT Pt) H ∧
  (¬ Free T n hs part → ∀ H2, LamX.ExtN H H2 → LamX.Tabs (lamT Pt) H2 → Q .non H2) ∧ (Free T n hs part → ∀ m H2, FewOk T n hs part m → LamX.ExtN H H2 → LamX.Tabs (lamT Pt) H2 → Q (vN m) H2)
theorem ok_half_fewest {Pt : Addr} (nb : NoB mg) (c_need_half : Has P w K mg base 6 "need_half" ["web", "heights", "part"] spNeedHalf) (c_half_blocked_of : Has P w K mg base 3 "half_blocked_of" ["web", "heights", "part"] spBlkOf)
    (c_told_of : Has P w K mg base 1 "told_of" ["part"] spTold) (c_half_need : Has P w K mg base 4 "half_need" ["web", "heights", "part", "height"] (spNeed Pt))
    (F : Fun K "half_fewest" "half_fewest" (topS 38) f fd) (g : mg "half_fewest" = some (.ref f)) : Has P w K mg base 7 "half_fewest" ["web", "heights", "part"] (spFewest Pt) := by
  refine .mk' F g (F.binds fun _ _ _ _ _ _ us hl => match us, hl with | [_, _, _], _ => rfl) (F.ok sc_half_fewest (fun vs H Q E h => ?_) (fun cdv A outer s H vs Q E hr h => ?_))
  · obtain ⟨v, u, p, n, T, hs, part, rfl, _⟩ := h
    rfl
  · obtain ⟨v, u, p, n, T, hs, part, rfl, A3, hT, q⟩ := h
    refine ⟨_, (pss_cons (ps_expr (pe_has c_need_half (hr.mono (by first | decide | exact Nat.le_refl _)) (pa_cons (pv 0) (pa_cons (pv 1) (pa_cons (pv 2) pa_nil)))))
      (pss_cons (ps_if (pt_cmpR op_notN (pe_has c_half_blocked_of (hr.mono (by first | decide | exact Nat.le_refl _)) (pa_cons (pv 0) (pa_cons (pv 1) (pa_cons (pv 2) pa_nil)))) pe_non (nomark _)) (pss_one (ps_ret pe_non)) pss_nil)
      (pss_one (ps_ret (pe_callB (cr_sum rfl) (by rfl) nb.sum_ (by decide +kernel) (pa_cons (pe_lc (own := [("height", 3)]) (g := (gName 3)) (tt := tYes) rfl sc_half_fewest.nd (pi_list (pe_has c_told_of (hr.mono (by first | decide | exact Nat.le_refl _)) (pa_cons (pv 2) pa_nil))) (blkOk_by (N := ["web", "heights", "part", "height"]) (sc := defScope (topS 38)) (by decide +kernel)) (fun _ _ _ _ _ => (pg_name (i := 3) sc_half_fewest.nd rfl (Or.inl rfl))) (fun _ _ _ _ _ => pts_nil) (fun _ _ _ _ _ => (pe_callB (call_len_seqK (K := K) rfl) (by rfl) nb.len_ (by decide +kernel) (pa_cons (pe_has c_half_need (hr.mono (by first | decide | exact Nat.le_refl _)) (pa_cons (pv 0) (pa_cons (pv 1) (pa_cons (pv 2) (pa_cons (pv 3) pa_nil))))) pa_nil)))) pa_nil)))))), ?_⟩
    have hn5 := A3.ok.few
    have hpl := A3.pl
    refine ⟨v, rfl, u, rfl, p, rfl, v, u, p, n, T, hs, part, rfl, A3, fun H1 e1 => ?_⟩
    refine ⟨v, rfl, u, rfl, p, rfl, v, u, p, n, T, hs, part, rfl, A3.ex (.of e1), ⟨fun Fr H2 e2 => ⟨rfl, _, rfl, if_f rfl ?_⟩, fun p' x b R S H2 e2 hR hS => ⟨rfl, _, rfl, if_t rfl (q.1 b.free H2 (extN_of (e1.trans e2)) (hT.ext (e1.trans e2)))⟩⟩⟩
    have e02 := e1.trans e2
    refine ⟨p, rfl, p, part, rfl, A3.prt.ex (.of e02), by omega, fun LP told H3 hLP e3 hl hsrt hmem htl => ⟨LP, rfl, ⟨_, SqL.of hl⟩, ?_⟩⟩
    have e03 := e02.trans e3
    refine lcF (walk_list (xs := told.map V.int)) LamX.ExtN (LamX.ExtN.refl _) (fun A B C a b => a.trans b) (fun A B D l _ e h => extN_L e h) (fun A D o e h => extN_upd e h) (by rw [List.length_map]; omega)
      (fun k acc H' => LamX.Tabs (lamT Pt) H' ∧ ∃ Lf : Int → List Nat, acc = ((told.take k).map fun x => ((Lf x).length : Int)).map V.int ∧ ∀ x ∈ told.take k, NeedMin T n hs part x (Lf x))
      ⟨hT.ext e03, fun _ => [], rfl, fun x hx => by simp at hx⟩ (fun k acc H' _ e _ => SqL.of (extN_L e hl)) (fun k acc H' D l' hD hl' h => ?_) (fun k x acc H5 H'' Post Skip hk e5 h y hp hsk => ?_) (fun D acc H5 hD e5 hacc hal h => ?_)
    · obtain ⟨h1, h2⟩ := h
      exact ⟨tabs_updL h1 hl', h2⟩
    · obtain ⟨rfl, hx⟩ := y
      obtain ⟨hT5, Lf, rfl, hLf⟩ := h
      rw [List.getElem?_map] at hx
      obtain ⟨x, hxx, rfl⟩ := Option.map_eq_some_iff.mp hx
      refine ⟨rfl, yes_do ?_⟩
      have eN5 : LamX.ExtN H H'' := (extN_of e03).trans e5
      refine ⟨v, rfl, u, rfl, p, rfl, .int x, rfl, v, u, p, x, n, T, hs, part, rfl, A3.ex (.ofN eN5), hT5, Fr, fun R L H6 eN hT6 hR hN => ?_⟩
      refine ⟨R, _, rfl, .inr (SqT.of hR), ?_⟩
      rw [List.length_map]
      have hnx : x ∉ told.take k := fun hxt => by
        obtain ⟨m, hm⟩ := List.getElem?_of_mem hxt
        have hmk : m < k := by
          have := (List.getElem?_eq_some_iff.mp hm).1
          rw [List.length_take] at this; omega
        rw [List.getElem?_take, if_pos hmk] at hm
        obtain ⟨h1, h1'⟩ := List.getElem?_eq_some_iff.mp hm
        obtain ⟨h2, h2'⟩ := List.getElem?_eq_some_iff.mp hxx
        have := List.pairwise_iff_getElem.mp hsrt m k h1 h2 hmk
        rw [h1', h2'] at this
        omega
      refine hp _ _ eN ⟨hT6, fun y => if y = x then L else Lf y, ?_, fun y hy => ?_⟩
      · rw [take_next hxx, List.map_append, List.map_append]
        congr 1
        · refine congrArg (List.map V.int) (List.map_congr_left fun y hy => ?_)
          have hne : ¬ y = x := fun z => hnx (by rw [z] at hy; exact hy)
          show ((Lf y).length : Int) = ((if y = x then L else Lf y).length : Int)
          rw [if_neg hne]
        · simp
      · rcases (mem_take hxx).mp hy with h | h
        · have hne : ¬ y = x := fun z => hnx (by rw [z] at h; exact h)
          show NeedMin T n hs part y (if y = x then L else Lf y)
          rw [if_neg hne]; exact hLf y h
        · show NeedMin T n hs part y (if y = x then L else Lf y)
          rw [if_pos h, h]; exact hN
    · obtain ⟨hT5, Lf, rfl, hLf⟩ := h
      rw [List.length_map, List.take_length] at hLf hacc
      refine ⟨D, _, rfl, SqL.of hacc, ?_⟩
      have es : (told.map fun x => ((Lf x).length : Int)).sum = (((told.map fun x => (Lf x).length).sum : Nat) : Int) := by
        clear hLf hacc hal hsrt hmem htl hl
        induction told with
        | nil => rfl
        | cons y t ih => rw [List.map_cons, List.map_cons, List.sum_cons, List.sum_cons, ih]; omega
      rw [es]
      exact q.2 Fr _ H5 ⟨told, Lf, hsrt, hmem, hLf, rfl⟩ ((extN_of e03).trans e5) hT5
end
end Hv
end
section
set_option Elab.async false
set_option linter.all false
set_option maxRecDepth 100000
set_option maxHeartbeats 4000000
namespace Hv
open PySem PySem.Spec PyProof.Rows L2 Evl
/-! ### the law's row of numbers -/
/-- a list that stands in the written part -/
def KL (K : PySem.W.Frag) (a : Addr) (xs : List V) : Prop := ∀ H : Hp, SqL K H a xs
def RowIs (K : PySem.W.Frag) (H : Hp) (a sc : Addr) (i s c : Int) (xs : List Int) : Prop := H a = some (.lst [.ref sc, .int i, .int s, .int c]) ∧ 0 ≤ i ∧ 0 ≤ s ∧ s < 2147483647 ∧ SqL K H sc (xs.map V.int) ∧ (sc ≠ a ∨ KL K sc (xs.map V.int))
def RowAt (K : PySem.W.Frag) (sc : Addr) (xs : List Int) (H : Hp) (a : Addr) : Prop := ∃ i s c, RowIs K H a sc i s c xs
abbrev RowX (a : Addr) : Hp → Hp → Prop := ExP fun b => b = a
theorem sqL_exP {K : PySem.W.Frag} {S : Addr → Prop} {H H' : Hp} {a : Addr} {xs : List V} (e : ExP S H H') (n : ¬ S a) (h : SqL K H a xs) : SqL K H' a xs := by
  rcases h with h | h
  · rcases h with h | ⟨o, h⟩
    · exact .inl (.inl (e _ _ n h))
    · exact .inl (.inr ⟨o, e _ _ n h⟩)
  · exact .inr h
theorem RowIs.ex {K : PySem.W.Frag} {H H' : Hp} {a sc : Addr} {i s c : Int} {xs : List Int} (h : RowIs K H a sc i s c xs) (e : Ex H H') : RowIs K H' a sc i s c xs := ⟨e _ _ h.1, h.2.1, h.2.2.1, h.2.2.2.1, ex_l e h.2.2.2.2.1, h.2.2.2.2.2⟩
theorem RowAt.ex {K : PySem.W.Frag} {sc : Addr} {xs : List Int} {H H' : Hp} {a : Addr} (h : RowAt K sc xs H a) (e : Ex H H') : RowAt K sc xs H' a := by
  obtain ⟨i, s, c, r⟩ := h
  exact ⟨i, s, c, r.ex e⟩
theorem rowX_upd {H : Hp} {a : Addr} {o : HO} : RowX a H (upd H a o) := fun b u n hb => by rw [upd_ne n]; exact hb
theorem RowIs.upd {K : PySem.W.Frag} {H : Hp} {a sc : Addr} {i s c i' s' c' : Int} {xs : List Int} (h : RowIs K H a sc i s c xs) (h1 : 0 ≤ i') (h2 : 0 ≤ s') (h3 : s' < 2147483647) : RowIs K (upd H a (.lst [.ref sc, .int i', .int s', .int c'])) a sc i' s' c' xs :=
  ⟨upd_same, h1, h2, h3, h.2.2.2.2.2.elim (fun z => sqL_exP (rowX_upd (a := a)) z h.2.2.2.2.1) (fun z => z _), h.2.2.2.2.2⟩
theorem XT.ofRow {K : PySem.W.Frag} {sc : Addr} {ys : List Int} {H H' : Hp} {a : Addr} (r : RowAt K sc ys H a) (e : RowX a H H') : XT H H' := fun b xs hb => e _ _ (fun z => by
  obtain ⟨i, s, c, r⟩ := r
  rw [z, r.1] at hb; cases hb) hb
theorem ev_int1 {te : TE} {σ : L2.St} {H : Hp} {i : Int} (h : Ev te σ H (.int i)) : Ev (tCB (fun xs H Q => (∃ i, xs = [.int i] ∧ Q (.int i) H) ∨ ∃ k, xs = [.bl k] ∧ Q (.int (if k then 1 else 0)) H) (tCons te tNil)) σ H (.int i) :=
  ev_cb (ea_cons h ea_nil) fun H1 e1 Q q => .inl ⟨i, rfl, q H1 (Ex.refl _)⟩
theorem ev_row {K : PySem.W.Frag} {σ : L2.St} {H : Hp} {ta tb : TE} {a : Addr} {xs : List V} {j : Nat} {v : V} (ha : Ev ta σ H (.ref a)) (hb : Ev tb σ H (.int (j : Int))) (h : SqL K H a xs) (hv : xs[j]? = some v) : Ev (tOp (rIxL K) ta tb) σ H v := ev_op ha hb (rv_ixL h (atI_nat hv))
section
variable {P : Program} {w : World} {K : PySem.W.Frag} {mg : Str → Option Value} {base : Heap} {f : Addr} {fd : FuncData}
/-! ### _law_taken -/
theorem sc_law_taken : FnScope ["_law_row", "_law_many", "_law_found", "_law_cell"] ["_law_row", "_law_many"] (defScope (topS 46)) := ⟨rfl, rfl, rfl, by decide +kernel, rfl, by decide +kernel, by decide +kernel⟩
def RetRow (K : PySem.W.Frag) (sc : Addr) (xs : List Int) (a : Addr) (m : Int) (H : Hp) (Q : VK) : Prop := ∀ (r : Nat) H2, (r : Int) < m → RowX a H H2 → RowAt K sc xs H2 a → Q (vN r) H2
def spTaken (K : PySem.W.Frag) : Sp := fun vs H Q _ => ∃ (a : Addr) (m : Int) (sc : Addr) (xs : List Int), vs = [.ref a, .int m] ∧ 1 ≤ m ∧ m < 1000 ∧ RowAt K sc xs H a ∧ RetRow K sc xs a m H Q
theorem mod_nat {x m : Int} (h : 1 ≤ m) : ∃ r : Nat, (r : Int) = x % m ∧ (r : Int) < m := by
  have h1 := Int.emod_nonneg x (b := m) (by omega)
  have h2 := Int.emod_lt_of_pos x (b := m) (by omega)
  exact ⟨(x % m).toNat, by omega, by omega⟩
theorem ok_law_taken (nb : NoB mg) (F : Fun K "_law_taken" "_law_taken" (topS 46) f fd) (g : mg "_law_taken" = some (.ref f)) : Has P w K mg base 1 "_law_taken" ["_law_row", "_law_many"] (spTaken K) := by
  refine .mk' F g (F.binds fun _ _ _ _ _ _ us hl => match us, hl with | [_, _], _ => rfl) (F.ok sc_law_taken (fun vs H Q E h => ?_) (fun cdv A outer s H vs Q E hr h => ?_))
  · obtain ⟨a, m, sc, xs, rfl, _⟩ := h
    rfl
  · obtain ⟨a, m, sc, xs, rfl, hm1, hm2, ⟨i, s, c, R⟩, q⟩ := h
    refine ⟨_, (pss_cons (ps_if (pt_cmpR op_gt (pe_ix ix_list (pv 0) pe_int (fun _ _ => rfl)) pe_int (nomark _)) (pss_cons (ps_set (i := 2) sc_law_taken.nd rfl (Or.inl rfl) (pe_op op_mod (pe_callTy call_int1 (by rfl) nb.int_ (by decide +kernel) (pa_cons (pe_ix ix_list (pv 0) pe_int (fun _ _ => rfl)) pa_nil)) (pv 1)))
      (pss_cons (ps_asg (pe_op op_fdiv (pe_ix ix_list (pv 0) pe_int (fun _ _ => rfl)) (pv 1)) (pg_sub (pv 0) pe_int set_list))
      (pss_one (ps_ret (pv 2))))) pss_nil)
      (pss_cons (ps_asg (pe_op op_add (pe_ix ix_list (pv 0) pe_int (fun _ _ => rfl)) pe_int) (pg_sub (pv 0) pe_int set_list))
      (pss_cons (ps_if (pt_cmpR op_gt (pe_ix ix_list (pv 0) pe_int (fun _ _ => rfl)) (pe_callB call_len_seq (by rfl) nb.len_ (by decide +kernel) (pa_cons (pe_ix ix_list (pv 0) pe_int (fun _ _ => rfl)) pa_nil)) (nomark _)) (pss_cons (ps_asg (pe_op op_mod (pe_callTy call_int1 (by rfl) nb.int_ (by decide +kernel) (pa_cons (pe_op op_add (pe_op op_mul (pe_ix ix_list (pv 0) pe_int (fun _ _ => rfl)) pe_int) pe_int) pa_nil)) pe_int) (pg_sub (pv 0) pe_int set_list))
      (pss_one (ps_ret (pe_op op_mod (pe_callTy call_int1 (by rfl) nb.int_ (by decide +kernel) (pa_cons (pe_op op_fdiv (pe_ix ix_list (pv 0) pe_int (fun _ _ => rfl)) pe_int) pa_nil)) (pv 1))))) pss_nil)
      (pss_cons (ps_set (i := 3) sc_law_taken.nd rfl (Or.inl rfl) (pe_ix ix_list (pe_ix ix_list (pv 0) pe_int (fun _ _ => rfl)) (pe_op op_sub (pe_ix ix_list (pv 0) pe_int (fun _ _ => rfl)) pe_int) (fun _ _ => rfl)))
      (pss_cons (ps_asg (pe_op op_mod (pe_callTy call_int1 (by rfl) nb.int_ (by decide +kernel) (pa_cons (pe_op op_add (pe_op op_add (pe_op op_mul (pe_ix ix_list (pv 0) pe_int (fun _ _ => rfl)) pe_int) (pv 3)) pe_int) pa_nil)) pe_int) (pg_sub (pv 0) pe_int set_list))
      (pss_cons (ps_if (pt_cmpR op_ge (pv 3) (pe_op op_pow pe_int pe_int) (nomark _)) (pss_one (ps_asg (pe_op op_fdiv (pv 3) (pv 1)) (pg_sub (pv 0) pe_int set_list))) pss_nil)
      (pss_one (ps_ret (pe_op op_mod (pe_callTy call_int1 (by rfl) nb.int_ (by decide +kernel) (pa_cons (pv 3) pa_nil)) (pv 1)))))))))), ?_⟩
    have ev3 : ∀ {H' : Hp} {i s c : Int} {σ' : L2.St} (R : RowIs K H' a sc i s c xs) (h0 : σ'[0]? = some (some (.ref a))), Ev (tOp (rIxL K) (tVar 0) (tC (.int 3))) σ' H' (.int c) := fun R h0 => ev_row (j := 3) (ev_var h0) ev_c (SqL.of R.1) rfl
    have ev2 : ∀ {H' : Hp} {i s c : Int} {σ' : L2.St} (R : RowIs K H' a sc i s c xs) (h0 : σ'[0]? = some (some (.ref a))), Ev (tOp (rIxL K) (tVar 0) (tC (.int 2))) σ' H' (.int s) := fun R h0 => ev_row (j := 2) (ev_var h0) ev_c (SqL.of R.1) rfl
    have ev1 : ∀ {H' : Hp} {i s c : Int} {σ' : L2.St} (R : RowIs K H' a sc i s c xs) (h0 : σ'[0]? = some (some (.ref a))), Ev (tOp (rIxL K) (tVar 0) (tC (.int 1))) σ' H' (.int i) := fun R h0 => ev_row (j := 1) (ev_var h0) ev_c (SqL.of R.1) rfl
    have ev0 : ∀ {H' : Hp} {i s c : Int} {σ' : L2.St} (R : RowIs K H' a sc i s c xs) (h0 : σ'[0]? = some (some (.ref a))), Ev (tOp (rIxL K) (tVar 0) (tC (.int 0))) σ' H' (.ref sc) := fun R h0 => ev_row (j := 0) (ev_var h0) ev_c (SqL.of R.1) rfl
    refine q_when (et_test (ev_op (ev3 R rfl) ev_c rv_I0)) (fun hb H1 e1 => ?_) (fun hb H1 e1 => ?_)
    · obtain ⟨r, hr1, hr2⟩ := mod_nat (x := c) hm1
      refine q_asg (v := vN r) (ev_is (ev_op (ev_int1 (ev3 (R.ex e1) rfl)) (ev_var (v := .int m) rfl) (rv_I (show (0 : Int) < m by omega))) (by rw [show vN r = V.int (r : Int) from rfl, hr1])) fun H2 e2 => ?_
      refine q_setL (j := 3) ((R.ex e1).ex e2).1 (ev_op (ev3 ((R.ex e1).ex e2) rfl) (ev_var (v := .int m) rfl) (rv_I (show CDiv c m from ⟨by omega, by omega⟩))) (ev_var rfl) ev_c (by simp) fun H3 e3 => ?_
      have R3 := (((R.ex e1).ex e2).ex e3).upd (i' := i) (s' := s) (c' := c / m) R.2.1 R.2.2.1 R.2.2.2.1
      exact s_ret (ev_var rfl) fun H4 e4 => q r H4 hr2 ((ExP.of ((e1.trans e2).trans e3)).trans (rowX_upd.trans (.of e4))) ⟨i, s, c / m, R3.ex e4⟩
    · refine q_setL (j := 1) (R.ex e1).1 (ev_op (ev1 (R.ex e1) rfl) ev_c rv_I0) (ev_var rfl) ev_c (by simp) fun H2 e2 => ?_
      have hi := R.2.1
      have R2 := ((R.ex e1).ex e2).upd (i' := i + 1) (s' := s) (c' := c) (by omega) R.2.2.1 R.2.2.2.1
      have x2 : RowX a H (upd H2 a (.lst [.ref sc, .int (i + 1), .int s, .int c])) := (ExP.of (e1.trans e2)).trans rowX_upd
      have hs0 := R.2.2.1
      have hs1 := R.2.2.2.1
      refine q_when (et_test (ev_op (ev1 R2 rfl) (ev_lenL (n := xs.length) (ev0 R2 rfl) R2.2.2.2.2.1 (by rw [List.length_map])) rv_I0)) (fun hb2 H3 e3 => ?_) (fun hb2 H3 e3 => ?_)
      · have hz := Int.emod_nonneg (s * 48271 + 11) (b := 2147483647) (by decide)
        have hz2 := Int.emod_lt_of_pos (s * 48271 + 11) (b := 2147483647) (by decide)
        refine q_setL (j := 2) (R2.ex e3).1 (ev_op (ev_int1 (ev_op (ev_op (ev2 (R2.ex e3) rfl) ev_c (rv_I (show CMul s 48271 by first | exact ⟨by omega, by omega⟩ | (unfold CMul; omega)))) ev_c rv_I0)) ev_c (rv_I (show (0 : Int) < 2147483647 by decide))) (ev_var rfl) ev_c (by simp) fun H4 e4 => ?_
        have R4 := ((R2.ex e3).ex e4).upd (i' := i + 1) (s' := (s * 48271 + 11) % 2147483647) (c' := c) (by omega) hz hz2
        obtain ⟨r, hr1, hr2⟩ := mod_nat (x := (s * 48271 + 11) % 2147483647 / 7) hm1
        refine s_ret (v := vN r) (ev_is (ev_op (ev_int1 (ev_op (ev2 R4 rfl) ev_c (rv_I (show CDiv _ 7 from ⟨by decide, by decide⟩)))) (ev_var (v := .int m) rfl) (rv_I (show (0 : Int) < m by omega))) (by rw [show vN r = V.int (r : Int) from rfl, hr1])) fun H5 e5 => ?_
        exact q r H5 hr2 (x2.trans ((ExP.of (e3.trans e4)).trans (rowX_upd.trans (.of e5)))) ⟨_, _, _, R4.ex e5⟩
      · have hlt : i + 1 ≤ xs.length := by simpa using of_decide_eq_false hb2
        have hix : i.toNat < xs.length := by omega
        refine q_asg (v := .int xs[i.toNat]) (ev_op (ev0 (R2.ex e3) rfl) (ev_op (ev1 (R2.ex e3) rfl) ev_c rv_I0) (rv_ixL (R2.ex e3).2.2.2.2.1 ?_)) fun H4 e4 => ?_
        · rw [show (i + 1 - 1 : Int) = ((i.toNat : Nat) : Int) by omega]
          exact atI_nat (by rw [List.getElem?_map, List.getElem?_eq_getElem hix]; rfl)
        have hz := Int.emod_nonneg (s * 48271 + xs[i.toNat] + 11) (b := 2147483647) (by decide)
        have hz2 := Int.emod_lt_of_pos (s * 48271 + xs[i.toNat] + 11) (b := 2147483647) (by decide)
        have R3 := (R2.ex e3).ex e4
        refine q_setL (j := 2) R3.1 (ev_op (ev_int1 (ev_op (ev_op (ev_op (ev2 R3 rfl) ev_c (rv_I (show CMul s 48271 by first | exact ⟨by omega, by omega⟩ | (unfold CMul; omega)))) (ev_var rfl) rv_I0) ev_c rv_I0)) ev_c (rv_I (show (0 : Int) < 2147483647 by decide))) (ev_var rfl) ev_c (by simp) fun H5 e5 => ?_
        have R5 := (R3.ex e5).upd (i' := i + 1) (s' := (s * 48271 + xs[i.toNat] + 11) % 2147483647) (c' := c) (by omega) hz hz2
        have x5 := x2.trans ((ExP.of ((e3.trans e4).trans e5)).trans (rowX_upd (a := a) (o := .lst [.ref sc, .int (i + 1), .int ((s * 48271 + xs[i.toNat] + 11) % 2147483647), .int c])))
        obtain ⟨r, hr1, hr2⟩ := mod_nat (x := xs[i.toNat]) hm1
        refine q_when (et_test (ev_op (ev_var rfl) (ev_op ev_c ev_c (rv_I (show CPow 10 18 by first | decide | exact ⟨by decide, by decide, by decide⟩))) rv_I0)) (fun hb3 H6 e6 => ?_) (fun hb3 H6 e6 => ?_)
        · refine s_setL (j := 3) (R5.ex e6).1 (ev_op (ev_var rfl) (ev_var (v := .int m) rfl) (rv_I (show CDiv _ m from ⟨by omega, by omega⟩))) (ev_var rfl) ev_c (by simp) fun H7 e7 => ?_
          have R7 := ((R5.ex e6).ex e7).upd (i' := i + 1) (s' := (s * 48271 + xs[i.toNat] + 11) % 2147483647) (c' := xs[i.toNat] / m) (by omega) hz hz2
          refine rd_nx (s_ret (v := vN r) (ev_is (ev_op (ev_int1 (ev_var rfl)) (ev_var (v := .int m) rfl) (rv_I (show (0 : Int) < m by omega))) (by rw [show vN r = V.int (r : Int) from rfl, hr1])) fun H8 e8 => ?_)
          exact q r H8 hr2 (x5.trans ((ExP.of (e6.trans e7)).trans (rowX_upd.trans (.of e8)))) ⟨_, _, _, R7.ex e8⟩
        · refine s_ret (v := vN r) (ev_is (ev_op (ev_int1 (ev_var rfl)) (ev_var (v := .int m) rfl) (rv_I (show (0 : Int) < m by omega))) (by rw [show vN r = V.int (r : Int) from rfl, hr1])) fun H8 e8 => ?_
          exact q r H8 hr2 (x5.trans (.of (e6.trans e8))) ⟨_, _, _, (R5.ex e6).ex e8⟩
end
end Hv
end
section
set_option Elab.async false
set_option linter.all false
set_option maxRecDepth 100000
set_option maxHeartbeats 4000000
namespace Hv
open PySem PySem.Spec PyProof.Rows L2 Evl
theorem ix_seqK {X : Cx} {K : PySem.W.Frag} (h : X.K = K) : IxR X (rIx K) := h ▸ ix_seq
theorem rv_ixSL {K : PySem.W.Frag} {H : Hp} {p : Addr} {xs : List V} {i : Int} {v : V} (h : SqL K H p xs) (ha : atI xs i = some v) : RV (rIx K) (.ref p) (.int i) H v := fun H1 e1 Q q => .inl (rv_ixL h ha H1 e1 Q q)
theorem rv_ixST {K : PySem.W.Frag} {H : Hp} {p : Addr} {xs : List V} {i : Int} {v : V} (h : SqT K H p xs) (ha : atI xs i = some v) : RV (rIx K) (.ref p) (.int i) H v := fun H1 e1 Q q => .inr (.inl (rv_ixT h ha H1 e1 Q q))
section
variable {P : Program} {w : World} {K : PySem.W.Frag} {mg : Str → Option Value} {base : Heap} {f : Addr} {fd : FuncData}
/-! ### _law_pick -/
theorem sc_law_pick : FnScope ["_law_row", "_law_things"] ["_law_row", "_law_things"] (defScope (topS 47)) := ⟨rfl, rfl, rfl, by decide +kernel, rfl, by decide +kernel, by decide +kernel⟩
def spPick (K : PySem.W.Frag) : Sp := fun vs H Q _ => ∃ (a t : Addr) (xs : List V) (sc : Addr) (sx : List Int), vs = [.ref a, .ref t] ∧ RowAt K sc sx H a ∧ t ≠ a ∧ (H t = some (.lst xs) ∨ H t = some (.tup xs)) ∧ 1 ≤ xs.length ∧ xs.length < 1000 ∧ ∀ (r : Nat) v H2, xs[r]? = some v → RowX a H H2 → RowAt K sc sx H2 a → Q v H2
theorem ok_law_pick (nb : NoB mg) (c_law_taken : Has P w K mg base 1 "_law_taken" ["_law_row", "_law_many"] (spTaken K)) (F : Fun K "_law_pick" "_law_pick" (topS 47) f fd) (g : mg "_law_pick" = some (.ref f)) : Has P w K mg base 2 "_law_pick" ["_law_row", "_law_things"] (spPick K) := by
  refine .mk' F g (F.binds fun _ _ _ _ _ _ us hl => match us, hl with | [_, _], _ => rfl) (F.ok sc_law_pick (fun vs H Q E h => ?_) (fun cdv A outer s H vs Q E hr h => ?_))
  · obtain ⟨a, t, xs, sc, sx, rfl, _⟩ := h
    rfl
  · obtain ⟨a, t, xs, sc, sx, rfl, R, hta, hx, h1, h2, q⟩ := h
    refine ⟨_, (pss_one (ps_ret (pe_ix ix_seq (pv 1) (pe_has c_law_taken (hr.mono (by first | decide | exact Nat.le_refl _)) (pa_cons (pv 0) (pa_cons (pe_callB call_len_seq (by rfl) nb.len_ (by decide +kernel) (pa_cons (pv 1) pa_nil)) pa_nil))) (fun _ _ => rfl)))), ?_⟩
    refine ⟨.ref t, rfl, .ref a, rfl, .ref t, rfl, t, xs, rfl, hx.imp (fun z => SqL.of z) (fun z => SqT.of z), a, (xs.length : Int), sc, sx, rfl, by omega, by omega, R, fun r H2 hr2 x2 R2 => ?_⟩
    have hrl : r < xs.length := by omega
    rcases hx with hx | hx
    · exact .inl ⟨t, xs, r, xs[r], rfl, rfl, SqL.of (x2 _ _ hta hx), atI_nat (List.getElem?_eq_getElem hrl), q r _ H2 (List.getElem?_eq_getElem hrl) x2 R2⟩
    · exact .inr (.inl ⟨t, xs, r, xs[r], rfl, rfl, SqT.of (x2 _ _ hta hx), atI_nat (List.getElem?_eq_getElem hrl), q r _ H2 (List.getElem?_eq_getElem hrl) x2 R2⟩)
/-! ### _law_is -/
theorem sc_law_is : FnScope ["_law_found", "_law_due"] ["_law_found", "_law_due"] (defScope (topS 49)) := ⟨rfl, rfl, rfl, by decide +kernel, rfl, by decide +kernel, by decide +kernel⟩
def spIs : Sp := fun vs H Q _ => ∃ x : Bool, vs = [.bl x, .bl x] ∧ Q (.bl true) H
theorem ok_law_is (nb : NoB mg) (F : Fun K "_law_is" "_law_is" (topS 49) f fd) (g : mg "_law_is" = some (.ref f)) : Has P w K mg base 1 "_law_is" ["_law_found", "_law_due"] spIs := by
  refine .mk' F g (F.binds fun _ _ _ _ _ _ us hl => match us, hl with | [_, _], _ => rfl) (F.ok sc_law_is (fun vs H Q E h => ?_) (fun cdv A outer s H vs Q E hr h => ?_))
  · obtain ⟨x, rfl, _⟩ := h
    rfl
  · obtain ⟨x, rfl, q⟩ := h
    refine ⟨_, (pss_one (ps_ret (pe_and (pe_callB call_isi (by rfl) nb.isinstance_ (by decide +kernel) (pa_cons (pv 0) (pa_cons (pe_bltn (v := .ty "bool") (by rfl) nb.bool_ (by decide +kernel) rfl) pa_nil))) (pe_one (pe_cmpR op_eq (pv 0) (pv 1) (nomark _)))))), ?_⟩
    refine ⟨.bl x, rfl, ⟨_, _, _, _, _, rfl, .ty "bool", .base (.bl x), kit_ty (by decide +kernel), ⟨true, rfl, ?_⟩⟩⟩
    refine ⟨.bl x, rfl, .bl x, rfl, rfl, ?_⟩
    rw [decide_eq_true rfl]
    exact q
/-! ### _law_alike -/
def DV (H : Hp) : Nat → V → PyData → Prop
  | _, v, .int i => v = .int i
  | _, v, .none => v = .non
  | j + 1, v, .list ds => ∃ (p : Addr) (xs : List V), v = .ref p ∧ H p = some (.lst xs) ∧ ds.length ≤ 40000 ∧ Paired (DV H j) xs ds
  | j + 1, v, .tuple ds => ∃ (p : Addr) (xs : List V), v = .ref p ∧ H p = some (.tup xs) ∧ ds.length ≤ 40000 ∧ Paired (DV H j) xs ds
  | _, _, _ => False
theorem DV.ex {H H' : Hp} (e : Ex H H') : ∀ {j : Nat} {v : V} {d : PyData}, DV H j v d → DV H' j v d
  | 0, v, d, h => by cases d <;> (unfold DV at h ⊢; exact h)
  | j + 1, v, d, h => by
    cases d <;> unfold DV at h ⊢
    case list => obtain ⟨p, xs, h1, h2, h3, h4⟩ := h; exact ⟨p, xs, h1, e _ _ h2, h3, paired_imp (fun _ _ q => DV.ex e q) h4⟩
    case tuple => obtain ⟨p, xs, h1, h2, h3, h4⟩ := h; exact ⟨p, xs, h1, e _ _ h2, h3, paired_imp (fun _ _ q => DV.ex e q) h4⟩
    all_goals exact h
theorem dv_int {H : Hp} {j : Nat} {i : Int} : DV H j (.int i) (.int i) := by cases j <;> (unfold DV; rfl)
theorem dv_non {H : Hp} {j : Nat} : DV H j .non .none := by cases j <;> (unfold DV; rfl)
theorem dv_lst {H : Hp} {j : Nat} {p : Addr} {xs : List V} {ds : List PyData} (h : H p = some (.lst xs)) (hl : ds.length ≤ 40000) (hp : Paired (DV H j) xs ds) : DV H (j + 1) (.ref p) (.list ds) := by unfold DV; exact ⟨p, xs, rfl, h, hl, hp⟩
theorem dv_tup {H : Hp} {j : Nat} {p : Addr} {xs : List V} {ds : List PyData} (h : H p = some (.tup xs)) (hl : ds.length ≤ 40000) (hp : Paired (DV H j) xs ds) : DV H (j + 1) (.ref p) (.tuple ds) := by unfold DV; exact ⟨p, xs, rfl, h, hl, hp⟩
def spAlike : Nat → Sp
  | 0 => fun _ _ _ _ => False
  | j + 1 => fun vs H Q _ => ∃ (x y : V) (d : PyData), vs = [x, y] ∧ DV H j x d ∧ DV H j y d ∧ RetV (.bl true) H Q
theorem sc_law_alike : FnScope ["_law_found", "_law_due", "_law_k"] ["_law_found", "_law_due"] (defScope (topS 48)) := ⟨rfl, rfl, rfl, by decide +kernel, rfl, by decide +kernel, by decide +kernel⟩
theorem tt_cls : Paired ClsV [V.ty "tuple", V.ty "list"] [Value.type "tuple", Value.type "list"] := .cons (.ty _) (.cons (.ty _) .nil)
theorem isi_tup {K : PySem.W.Frag} : PySem.W.kitAny K (.type "tuple") [Value.type "tuple", Value.type "list"] = some true := kitAny_cons (b := true) (kit_ty (by decide +kernel)) (fun z => nomatch z) (fun _ => rfl)
theorem isi_lst {K : PySem.W.Frag} : PySem.W.kitAny K (.type "list") [Value.type "tuple", Value.type "list"] = some true := kitAny_cons (b := false) (kit_ty (by decide +kernel)) (fun _ => kitAny_cons (b := true) (kit_ty (by decide +kernel)) (fun z => nomatch z) (fun _ => rfl)) (fun z => nomatch z)
theorem isi_int {K : PySem.W.Frag} : PySem.W.kitAny K (.type "int") [Value.type "tuple", Value.type "list"] = some false := kitAny_cons (b := false) (kit_ty (by decide +kernel)) (fun _ => kitAny_cons (b := false) (kit_ty (by decide +kernel)) (fun _ => kitAny_nil) (fun z => nomatch z)) (fun z => nomatch z)
theorem isi_non {K : PySem.W.Frag} : PySem.W.kitAny K (.type "NoneType") [Value.type "tuple", Value.type "list"] = some false := kitAny_cons (b := false) (kit_ty (by decide +kernel)) (fun _ => kitAny_cons (b := false) (kit_ty (by decide +kernel)) (fun _ => kitAny_nil) (fun z => nomatch z)) (fun z => nomatch z)
/-- isinstance(x, (tuple, list)) -/
theorem ev_isiT {σ : L2.St} {H : Hp} {ta : TE} {x : V} {t : Value} {b : Bool} (h : Ev ta σ H x) (ty : ∀ H', Ex H H' → TyX K H' x t) (k : PySem.W.kitAny K t [Value.type "tuple", Value.type "list"] = some b) :
    Ev (tCB (rIsiT K) (tCons ta (tCons (tTup (tCons (tC (.ty "tuple")) (tCons (tC (.ty "list")) tNil))) tNil))) σ H (.bl b) := fun H1 e1 Q q => by
  refine h H1 e1 _ fun H2 e2 => ?_
  refine eu_tup (ea_cons ev_c (ea_cons ev_c ea_nil)) (by show 2 ≤ 100000; decide) H2 (Ex.refl _) _ fun p H3 hp e3 h3 => ?_
  exact ⟨x, p, _, t, _, b, rfl, h3, tt_cls, ty H3 ((e1.trans e2).trans e3), k, q H3 (e2.trans e3)⟩
theorem ev_isi {σ : L2.St} {H : Hp} {ta : TE} {x : V} {t c : String} {b : Bool} (h : Ev ta σ H x) (ty : ∀ H', Ex H H' → TyX K H' x (.type t)) (k : kitB t c = some b) :
    Ev (tCB (rIsi K) (tCons ta (tCons (tC (.ty c)) tNil))) σ H (.bl b) := fun H1 e1 Q q => by
  refine h H1 e1 _ fun H2 e2 => ?_
  exact ⟨x, .ty c, .type t, _, b, rfl, .ty c, ty H2 (e1.trans e2), kit_ty k, q H2 e2⟩
theorem ev_neB {σ : L2.St} {H : Hp} {ta tb : TE} {x y : Bool} (ha : Ev ta σ H (.bl x)) (hb : Ev tb σ H (.bl y)) : Ev (tOp rNe ta tb) σ H (.bl (!decide (x = y))) := by
  have e := ev_op ha hb (rv_ne (H := H) (x := .bl x) (y := .bl y) rfl)
  rw [show decide (V.bl x = V.bl y) = decide (x = y) by cases x <;> cases y <;> rfl] at e
  exact e
theorem ev_eqB {σ : L2.St} {H : Hp} {ta tb : TE} {x y : Bool} (ha : Ev ta σ H (.bl x)) (hb : Ev tb σ H (.bl y)) : Ev (tOp rEq ta tb) σ H (.bl (decide (x = y))) := by
  have e := ev_op ha hb (rv_eq (H := H) (x := .bl x) (y := .bl y) rfl)
  rw [show decide (V.bl x = V.bl y) = decide (x = y) by cases x <;> cases y <;> rfl] at e
  exact e
/-- the part where both are lists, or both are tuples -/
theorem given_none (n : Nat) (v : Nat → V) : given n (fun _ => false) v = [] := by
  unfold given
  rw [List.filter_eq_nil_iff.mpr (fun _ _ => by simp)]
  rfl
theorem alike_seq (nb : NoB mg) {j : Nat} {x y : Addr} {xs ys : List V} {ds : List PyData} {H H0 : Hp} {b : Bool} {D : Ends} (hb : b = true ∧ H0 x = some (.lst xs) ∧ H0 y = some (.lst ys) ∨ b = false ∧ H0 x = some (.tup xs) ∧ H0 y = some (.tup ys)) (hz : ds.length ≤ 40000) (px : Paired (DV H0 j) xs ds) (py : Paired (DV H0 j) ys ds)
    (e : Ex H0 H) (q : RetV (.bl true) H D.rt) {σ : L2.St} (hσ : σ = [some (.ref x), some (.ref y), none]) :
    tSeq (tIfS (tOr (tNot (tB (tCB (rIsiT K) (tCons (tVar 0) (tCons (tTup (tCons (tC (.ty "tuple")) (tCons (tC (.ty "list")) tNil))) tNil))))) (tTest (tOp rNe (tCB (rIsi K) (tCons (tVar 0) (tCons (tC (.ty "list")) tNil))) (tCB (rIsi K) (tCons (tVar 1) (tCons (tC (.ty "list")) tNil)))))) (tRet (tC (.bl false))) tNext)
      (tSeq (tIfS (tTest (tOp rNe (tCB (rLenS K) (tCons (tVar 0) tNil)) (tCB (rLenS K) (tCons (tVar 1) tNil)))) (tRet (tC (.bl false))) tNext)
        (tRet (tOp (rEqD K) (tLc (iRng1 (tCons (tCB (rLenS K) (tCons (tVar 1) tNil)) tNil)) (gName 2) (tNot (tB (tCall (spAlike (j + 1)) [] E0 (tCons (tOp (rIx K) (tVar 0) (tVar 2)) (tCons (tOp (rIx K) (tVar 1) (tVar 2)) tNil))))) (tVar 2) [2]) (tLst tNil)))) D σ H := by
  subst hσ
  have lx : xs.length = ds.length := Paired.length px
  have ly : ys.length = ds.length := Paired.length py
  have tyx : ∀ H', Ex H H' → TyX K H' (.ref x) (.type (if b = true then "list" else "tuple")) := fun H' e' => by
    rcases hb with ⟨rfl, h1, h2⟩ | ⟨rfl, h1, h2⟩
    · exact .base (.lst ((e.trans e') _ _ h1))
    · exact .base (.tup ((e.trans e') _ _ h1))
  have tyy : ∀ H', Ex H H' → TyX K H' (.ref y) (.type (if b = true then "list" else "tuple")) := fun H' e' => by
    rcases hb with ⟨rfl, h1, h2⟩ | ⟨rfl, h1, h2⟩
    · exact .base (.lst ((e.trans e') _ _ h2))
    · exact .base (.tup ((e.trans e') _ _ h2))
  have anyOk : PySem.W.kitAny K (.type (if b = true then "list" else "tuple")) [Value.type "tuple", Value.type "list"] = some true := by
    cases b
    · exact isi_tup
    · exact isi_lst
  have isL : kitB (if b = true then "list" else "tuple") "list" = some b := by cases b <;> decide +kernel
  have sqx : ∀ H', Ex H H' → SqL K H' x xs ∨ SqT K H' x xs := fun H' e' => hb.imp (fun z => SqL.of ((e.trans e') _ _ z.2.1)) (fun z => SqT.of ((e.trans e') _ _ z.2.1))
  have sqy : ∀ H', Ex H H' → SqL K H' y ys ∨ SqT K H' y ys := fun H' e' => hb.imp (fun z => SqL.of ((e.trans e') _ _ z.2.2)) (fun z => SqT.of ((e.trans e') _ _ z.2.2))
  have lenx : ∀ H' (σ : L2.St), Ex H H' → σ[0]? = some (some (.ref x)) → Ev (tCB (rLenS K) (tCons (tVar 0) tNil)) σ H' (.int (ds.length : Int)) := fun H' σ e' h0 => ev_cb (ea_cons (ev_var h0) ea_nil) fun H1 e1 Q q => ⟨x, xs, rfl, sqx H1 (e'.trans e1), by rw [lx]; exact q H1 (Ex.refl _)⟩
  have leny : ∀ H' (σ : L2.St), Ex H H' → σ[1]? = some (some (.ref y)) → Ev (tCB (rLenS K) (tCons (tVar 1) tNil)) σ H' (.int (ds.length : Int)) := fun H' σ e' h0 => ev_cb (ea_cons (ev_var h0) ea_nil) fun H1 e1 Q q => ⟨y, ys, rfl, sqy H1 (e'.trans e1), by rw [ly]; exact q H1 (Ex.refl _)⟩
  refine q_when (b := false) (et_is (et_or (a := false) (b := false) (et_is (et_not (et_B (ev_isiT (ev_var rfl) tyx anyOk))) rfl) fun _ => et_is (et_test (ev_neB (ev_isi (ev_var rfl) tyx isL) (ev_isi (ev_var rfl) tyy isL))) (by simp)) rfl) (fun z => nomatch z) fun _ H1 e1 => ?_
  refine q_when (b := false) (et_is (et_test (ev_neI (lenx H1 _ e1 rfl) (leny H1 _ e1 rfl))) (by simp)) (fun z => nomatch z) fun _ H2 e2 => ?_
  have key : EvL (tLc (iRng1 (tCons (tCB (rLenS K) (tCons (tVar 1) tNil)) tNil)) (gName 2) (tNot (tB (tCall (spAlike (j + 1)) [] E0 (tCons (tOp (rIx K) (tVar 0) (tVar 2)) (tCons (tOp (rIx K) (tVar 1) (tVar 2)) tNil))))) (tVar 2) [2]) [some (.ref x), some (.ref y), none] H2 (given (ds.length : Int).toNat (fun _ => false) fun i => .int (i : Int)) := by
    refine el_lcR1 (vs := [2]) _ _ (ea_cons (leny H2 _ (e1.trans e2) rfl) ea_nil) ⟨by omega, by omega⟩ (fun _ => rfl) (fun i H3 e3 hi => et_is (et_not (et_B (b := true) (ev_callV (vs := [xs.getD i .non, ys.getD i .non]) (ea_cons (ev_op (ev_var rfl) (ev_var rfl) ?_) (ea_cons (ev_op (ev_var rfl) (ev_var rfl) ?_) ea_nil)) fun H4 e4 Q' q' E' => ?_))) rfl) (fun i H3 e3 hi hf => nomatch hf)
    · have hix : i < xs.length := by omega
      have ha : atI xs (i : Int) = some (xs.getD i .non) := atI_nat (by rw [List.getD_eq_getElem?_getD, List.getElem?_eq_getElem hix]; rfl)
      rcases sqx H3 ((e1.trans e2).trans e3) with h | h
      · exact rv_ixSL h ha
      · exact rv_ixST h ha
    · have hix : i < ys.length := by omega
      have ha : atI ys (i : Int) = some (ys.getD i .non) := atI_nat (by rw [List.getD_eq_getElem?_getD, List.getElem?_eq_getElem hix]; rfl)
      rcases sqy H3 ((e1.trans e2).trans e3) with h | h
      · exact rv_ixSL h ha
      · exact rv_ixST h ha
    · have hid : i < ds.length := by omega
      obtain ⟨x1, hx1, hd1⟩ := paired_get px (List.getElem?_eq_getElem hid)
      obtain ⟨y1, hy1, hd2⟩ := paired_get py (List.getElem?_eq_getElem hid)
      rw [getD_of hx1, getD_of hy1]
      have e' := e.trans (((e1.trans e2).trans e3).trans e4)
      exact ⟨x1, y1, ds[i], rfl, hd1.ex e', hd2.ex e', q'⟩
  rw [given_none] at key
  refine s_ret (ev_opLL key (el_lst ea_nil (by decide)) fun p r H3 hp hr2 e3 => fun H4 e4 Q' q' => ?_) fun H3 e3 => q H3 ((e1.trans e2).trans e3)
  exact eq_nil (SqL.of (e4 _ _ hp)) .nil (fun _ h => by simp at h) (SqL.of (e4 _ _ hr2)) (q' H4 (Ex.refl _))
theorem ok_law_alike1 (nb : NoB mg) {j : Nat} (c_law_alike : Has P w K mg base j "_law_alike" ["_law_found", "_law_due"] (spAlike j)) (F : Fun K "_law_alike" "_law_alike" (topS 48) f fd) (g : mg "_law_alike" = some (.ref f)) : Has P w K mg base (j + 1) "_law_alike" ["_law_found", "_law_due"] (spAlike (j + 1)) := by
  refine .mk' F g (F.binds fun _ _ _ _ _ _ us hl => match us, hl with | [_, _], _ => rfl) (F.ok sc_law_alike (fun vs H Q E h => ?_) (fun cdv A outer s H vs Q E hr h => ?_))
  · obtain ⟨x, y, d, rfl, _⟩ := h
    rfl
  · obtain ⟨x, y, d, rfl, hx, hy, q⟩ := h
    refine ⟨_, (pss_cons (ps_if (pt_val (pe_callB call_isiT (by rfl) nb.isinstance_ (by decide +kernel) (pa_cons (pv 1) (pa_cons (pe_tup (pa_cons (pe_bltn (v := .ty "tuple") (by rfl) nb.tuple_ (by decide +kernel) rfl) (pa_cons (pe_bltn (v := .ty "list") (by rfl) nb.list_ (by decide +kernel) rfl) pa_nil))) pa_nil)))) (pss_cons (ps_if (PW.pt (pw_or (pt_not (pt_val (pe_callB call_isiT (by rfl) nb.isinstance_ (by decide +kernel) (pa_cons (pv 0) (pa_cons (pe_tup (pa_cons (pe_bltn (v := .ty "tuple") (by rfl) nb.tuple_ (by decide +kernel) rfl) (pa_cons (pe_bltn (v := .ty "list") (by rfl) nb.list_ (by decide +kernel) rfl) pa_nil))) pa_nil))))) (pw_or1 (pt_cmpR op_ne (pe_callB call_isi (by rfl) nb.isinstance_ (by decide +kernel) (pa_cons (pv 0) (pa_cons (pe_bltn (v := .ty "list") (by rfl) nb.list_ (by decide +kernel) rfl) pa_nil))) (pe_callB call_isi (by rfl) nb.isinstance_ (by decide +kernel) (pa_cons (pv 1) (pa_cons (pe_bltn (v := .ty "list") (by rfl) nb.list_ (by decide +kernel) rfl) pa_nil))) (nomark _))))) (pss_one (ps_ret pe_bl)) pss_nil)
      (pss_cons (ps_if (pt_cmpR op_ne (pe_callB call_len_seq (by rfl) nb.len_ (by decide +kernel) (pa_cons (pv 0) pa_nil)) (pe_callB call_len_seq (by rfl) nb.len_ (by decide +kernel) (pa_cons (pv 1) pa_nil)) (nomark _)) (pss_one (ps_ret pe_bl)) pss_nil)
      (pss_one (ps_ret (pe_cmpR (op_eqD hr.units) (pe_lc (own := [("_law_k", 2)]) (g := (gName 2)) rfl sc_law_alike.nd (pi_range1 (by rfl) nb.range_ (pa_cons (pe_callB call_len_seq (by rfl) nb.len_ (by decide +kernel) (pa_cons (pv 1) pa_nil)) pa_nil)) (blkOk_by (N := ["_law_found", "_law_due", "_law_k"]) (sc := defScope (topS 48)) (by decide +kernel)) (fun _ _ _ _ _ => (pg_name (i := 2) sc_law_alike.nd rfl (Or.inl rfl))) (fun _ _ _ _ _ => (pts_one (pt_not (pt_val (pe_has c_law_alike (hr.mono (by first | decide | exact Nat.le_refl _)) (pa_cons (pe_ix (ix_seqK (K := K) rfl) (pv 0) (pv 2) (fun _ _ => rfl)) (pa_cons (pe_ix (ix_seqK (K := K) rfl) (pv 1) (pv 2) (fun _ _ => rfl)) pa_nil))))))) (fun _ _ _ _ _ => (pv 2))) (pe_lst pa_nil) (nomark _)))))) pss_nil)
      (pss_cons (ps_if (PW.pt (pw_or (pt_cmpR op_isN (pv 1) pe_non (nomark _)) (pw_or1 (pt_val (pe_callB call_isi (by rfl) nb.isinstance_ (by decide +kernel) (pa_cons (pv 1) (pa_cons (pe_bltn (v := .ty "str") (by rfl) nb.str_ (by decide +kernel) rfl) pa_nil))))))) (pss_one (ps_ret (pe_and (pe_cmpR op_eq (pv 0) (pv 1) (nomark _)) (pe_one (pe_cmpR op_eq (pe_callB call_isi (by rfl) nb.isinstance_ (by decide +kernel) (pa_cons (pv 0) (pa_cons (pe_bltn (v := .ty "str") (by rfl) nb.str_ (by decide +kernel) rfl) pa_nil))) (pe_callB call_isi (by rfl) nb.isinstance_ (by decide +kernel) (pa_cons (pv 1) (pa_cons (pe_bltn (v := .ty "str") (by rfl) nb.str_ (by decide +kernel) rfl) pa_nil))) (nomark _)))))) pss_nil)
      (pss_one (ps_ret (pe_and (pe_callB call_isi (by rfl) nb.isinstance_ (by decide +kernel) (pa_cons (pv 0) (pa_cons (pe_bltn (v := .ty "int") (by rfl) nb.int_ (by decide +kernel) rfl) pa_nil))) (pe_and (pe_cmpR op_eq (pe_callB call_isi (by rfl) nb.isinstance_ (by decide +kernel) (pa_cons (pv 0) (pa_cons (pe_bltn (v := .ty "bool") (by rfl) nb.bool_ (by decide +kernel) rfl) pa_nil))) (pe_callB call_isi (by rfl) nb.isinstance_ (by decide +kernel) (pa_cons (pv 1) (pa_cons (pe_bltn (v := .ty "bool") (by rfl) nb.bool_ (by decide +kernel) rfl) pa_nil))) (nomark _)) (pe_one (pe_cmpR op_eq (pv 0) (pv 1) (nomark _))))))))), ?_⟩
    cases d with
    | int i =>
      have hx' : x = .int i := by cases j <;> (unfold DV at hx; exact hx)
      have hy' : y = .int i := by cases j <;> (unfold DV at hy; exact hy)
      subst hx' hy'
      refine q_when (b := false) (et_B (ev_isiT (ev_var rfl) (fun _ _ => .base (.int i)) isi_int)) (fun z => nomatch z) fun _ H1 e1 => ?_
      refine q_when (b := false) (et_is (et_or (a := false) (b := false) (et_is (et_test (ev_isN (o := some i) (ev_var rfl))) rfl) fun _ => et_B (ev_isi (t := "int") (ev_var rfl) (fun _ _ => .base (.int i)) (by decide +kernel))) rfl) (fun z => nomatch z) fun _ H2 e2 => ?_
      refine s_ret (v := .bl true) (ev_is (ev_andV (a := true) (b := true) (ev_isi (t := "int") (ev_var rfl) (fun _ _ => .base (.int i)) (by decide +kernel)) fun _ => ev_is (ev_andV (a := true) (b := true) (ev_is (ev_eqB (ev_isi (t := "int") (b := false) (ev_var rfl) (fun _ _ => .base (.int i)) (by decide +kernel)) (ev_isi (t := "int") (b := false) (ev_var rfl) (fun _ _ => .base (.int i)) (by decide +kernel))) rfl) fun _ => ev_is (ev_eqI (ev_var rfl) (ev_var rfl)) (by simp)) rfl) rfl) fun H3 e3 => q H3 ((e1.trans e2).trans e3)
    | none =>
      have hx' : x = .non := by cases j <;> (unfold DV at hx; exact hx)
      have hy' : y = .non := by cases j <;> (unfold DV at hy; exact hy)
      subst hx' hy'
      refine q_when (b := false) (et_B (ev_isiT (ev_var rfl) (fun _ _ => .base .non) isi_non)) (fun z => nomatch z) fun _ H1 e1 => ?_
      refine q_when (b := true) (et_is (et_or (a := true) (b := true) (et_is (et_test (ev_isN (o := none) (ev_var rfl))) rfl) fun z => nomatch z) rfl) (fun _ H2 e2 => ?_) (fun z => nomatch z)
      refine s_ret (v := .bl true) (ev_is (ev_andV (a := true) (b := true) (ev_is (ev_op (ev_var (v := .non) rfl) (ev_var (v := .non) rfl) (rv_eq rfl)) (by simp)) fun _ => ev_is (ev_eqB (ev_isi (t := "NoneType") (b := false) (ev_var rfl) (fun _ _ => .base .non) (by decide +kernel)) (ev_isi (t := "NoneType") (b := false) (ev_var rfl) (fun _ _ => .base .non) (by decide +kernel))) rfl) rfl) fun H3 e3 => q H3 ((e1.trans e2).trans e3)
    | list ds =>
      cases j with
      | zero => unfold DV at hx; exact hx.elim
      | succ j =>
        unfold DV at hx hy
        obtain ⟨p, xs, rfl, hp, hz, px⟩ := hx
        obtain ⟨r, ys, rfl, hr2, _, py⟩ := hy
        refine q_when (b := true) (et_B (ev_isiT (ev_var rfl) (fun H' e' => .base (.lst (e' _ _ hr2))) isi_lst)) (fun _ H1 e1 => ?_) (fun z => nomatch z)
        exact alike_seq nb (b := true) (.inl ⟨rfl, hp, hr2⟩) hz px py e1 (fun H2 e2 => q H2 (e1.trans e2)) rfl
    | tuple ds =>
      cases j with
      | zero => unfold DV at hx; exact hx.elim
      | succ j =>
        unfold DV at hx hy
        obtain ⟨p, xs, rfl, hp, hz, px⟩ := hx
        obtain ⟨r, ys, rfl, hr2, _, py⟩ := hy
        refine q_when (b := true) (et_B (ev_isiT (ev_var rfl) (fun H' e' => .base (.tup (e' _ _ hr2))) isi_tup)) (fun _ H1 e1 => ?_) (fun z => nomatch z)
        exact alike_seq nb (b := false) (.inr ⟨rfl, hp, hr2⟩) hz px py e1 (fun H2 e2 => q H2 (e1.trans e2)) rfl
    | bool _ => cases j <;> (unfold DV at hx; exact hx.elim)
    | str _ => cases j <;> (unfold DV at hx; exact hx.elim)
    | dict _ => cases j <;> (unfold DV at hx; exact hx.elim)
theorem ok_law_alike (nb : NoB mg) (F : Fun K "_law_alike" "_law_alike" (topS 48) f fd) (g : mg "_law_alike" = some (.ref f)) : ∀ j, Has P w K mg base j "_law_alike" ["_law_found", "_law_due"] (spAlike j)
  | 0 => .mk' F g (F.binds fun _ _ _ _ _ _ us hl => match us, hl with | [_, _], _ => rfl) ⟨fun _ _ _ _ h => h.elim, fun _ _ _ _ _ _ _ _ _ _ _ _ _ h => h.elim⟩
  | j + 1 => ok_law_alike1 nb (ok_law_alike nb F g j) F g
end
end Hv
end
section
set_option Elab.async false
set_option linter.all false
set_option maxRecDepth 100000
set_option maxHeartbeats 4000000
namespace Hv
open PySem PySem.Spec PyProof.Rows L2 Evl
/-- to some tuple, new or not -/
def EvW (te : TE) (σ : L2.St) (H : Hp) (xs : List V) : Prop := ∀ H1, Ex H H1 → ∀ Q : VK, (∀ p H2, Ex H1 H2 → H2 p = some (.tup xs) → Q (.ref p) H2) → te σ H1 Q
theorem EvW.of {te : TE} {σ : L2.St} {H : Hp} {xs : List V} (h : EvU te σ H xs) : EvW te σ H xs := fun H1 e1 Q q => h H1 e1 Q fun p H2 _ e2 hx => q p H2 e2 hx
theorem EvW.ofEv {te : TE} {σ : L2.St} {H : Hp} {xs : List V} {a : Addr} (h : Ev te σ H (.ref a)) (ha : H a = some (.tup xs)) : EvW te σ H xs := fun H1 e1 Q q => h H1 e1 Q fun H2 e2 => q a H2 e2 (e2 _ _ (e1 _ _ ha))
theorem ew_catA {K : PySem.W.Frag} {ta tb : TE} {σ : L2.St} {H : Hp} {xs ys : List V} (ha : EvW ta σ H xs) (hb : EvW tb σ H ys) (hz : xs.length + ys.length ≤ 10000) : EvW (tOp (rCatA K) ta tb) σ H (xs ++ ys) := fun H1 e1 Q q => by
  have sz := sizeLine_eq
  refine ha H1 e1 _ fun a H2 e2 h2 => hb H2 (e1.trans e2) _ fun b H3 e3 h3 => ?_
  refine ⟨a, b, xs, ys, rfl, rfl, SqT.of (e3 _ _ h2), SqT.of h3, by omega, fun z => ?_, fun _ z => ?_, fun _ _ p hp => ?_⟩
  · subst z; exact q b H3 (e2.trans e3) h3
  · subst z; rw [List.append_nil] at q; exact q a H3 (e2.trans e3) (e3 _ _ h2)
  · exact q p _ ((e2.trans e3).trans (Ex.new hp)) upd_same
theorem s_retW {te : TE} {σ : L2.St} {H : Hp} {xs : List V} {D : Ends} (h : EvW te σ H xs) (k : ∀ p H1, Ex H H1 → H1 p = some (.tup xs) → D.rt (.ref p) H1) : tRet te D σ H := h H (Ex.refl H) _ fun p H1 e hx => k p H1 e hx
/-- [(person, one) for one in l if heights[one] < heights[person]] -/
theorem lc_pairs {K : PySem.W.Frag} {σ : L2.St} {H : Hp} {Qd : Addr → Hp → Prop} {LP c : Addr} {l : List Nat} {i : Nat} {gs : List Int} (hlp : H LP = some (.lst (l.map vN))) (hll : l.length ≤ 100) (hc : H c = some (.tup (gs.map V.int))) (hlt : ∀ j ∈ l, j < gs.length) (hi : i < gs.length)
    (h1 : σ[1]? = some (some (.ref c))) (h3 : σ[3]? = some (some (vN i))) (h4 : ∀ x : V, (σ.set 4 none).set 4 (some x) = σ.set 4 (some x)) (h5 : σ.length = 5)
    (k : ∀ D qs N H2, H D = none → Ex H H2 → H2 D = some (.lst (qs.map V.ref)) → PairsAt H2 qs N → N.length ≤ l.length → (∀ a b, (a, b) ∈ N ↔ a = i ∧ b ∈ l ∧ at0 gs b < at0 gs i) → Qd D H2) :
    ∀ D, H D = none → ∃ W : Nat → Nat → Hp → Prop, (∃ m, W 0 m (upd H D (.lst []))) ∧ ∀ i m H, W i m H →
      ((Itl K LP).stop i H ∧ Qd D H) ∨ ((Itl K LP).go i H ∧ ∃ Nx : Hp → Prop, (∀ H', Nx H' → ∃ m', m' < m ∧ W (i + 1) m' H') ∧ ∀ x H', (Itl K LP).yld i H x H' → (gName 4) x (wipe σ [4]) H' fun σ2 H2 => wipe σ2 [4] = wipe σ [4] ∧ (tTest (tOp (rI0 fun i j => .bl (decide (i < j))) (tOp (rIxT K) (tVar 1) (tVar 4)) (tOp (rIxT K) (tVar 1) (tVar 3)))) σ2 H2 fun b H3 =>
        if b = true then (tTup (tCons (tVar 3) (tCons (tVar 4) tNil))) σ2 H3 fun y H4 => ∃ acc, H4 D = some (.lst acc) ∧ acc.length < sizeLine ∧ Nx (upd H4 D (.lst (acc ++ [y]))) else Nx H3) := by
  refine lcG (walk_list (xs := l.map vN)) noS (fun _ h => h.elim) (by rw [List.length_map]; omega) (fun k acc H' => ∃ qs N, acc = qs.map V.ref ∧ PairsAt H' qs N ∧ N.length ≤ k ∧ ∀ a b, (a, b) ∈ N ↔ a = i ∧ b ∈ l.take k ∧ at0 gs b < at0 gs i) ⟨[], [], rfl, .nil, by simp, fun a b => by simp⟩ (fun k acc H' _ e _ => SqL.of (e _ _ (fun z => z) hlp)) (fun k acc H' D l' hD hl' h => ?_) (fun k x acc H5 H' Post Skip hk e5 h y hp hsk => ?_) (fun D acc H5 hD e5 hacc hal h => ?_)
  · obtain ⟨qs, N, h1, h2, h3, h4⟩ := h
    exact ⟨qs, N, h1, h2.ex (xt_updL hl'), h3, h4⟩
  · obtain ⟨rfl, hx⟩ := y
    obtain ⟨qs, N, rfl, hqs, hNk, hN⟩ := h
    rw [List.getElem?_map] at hx
    obtain ⟨j, hj, rfl⟩ := Option.map_eq_some_iff.mp hx
    have hj2 := hlt j (List.mem_of_getElem? hj)
    refine ⟨by show ((σ.set 4 none).set 4 _).set 4 none = σ.set 4 none; rw [List.set_set, List.set_set], ?_⟩
    show tTest _ ((σ.set 4 none).set 4 _) _ _
    rw [h4]
    have ec : Ex H H' := e5.ex
    have s1 : (σ.set 4 (some (vN j)))[1]? = some (some (.ref c)) := by rw [List.getElem?_set_ne (by decide)]; exact h1
    have s3 : (σ.set 4 (some (vN j)))[3]? = some (some (vN i)) := by rw [List.getElem?_set_ne (by decide)]; exact h3
    have s4 : (σ.set 4 (some (vN j)))[4]? = some (some (vN j)) := by rw [List.getElem?_set_self (by omega)]
    refine et_test (b := decide (at0 gs j < at0 gs i)) (ev_op (ev_hts (ev_var s1) (ev_var s4) ⟨c, rfl, ec _ _ hc⟩ hj2) (ev_hts (ev_var s1) (ev_var s3) ⟨c, rfl, ec _ _ hc⟩ hi) rv_I0) H' (Ex.refl _) _ fun H6 e6 => ?_
    refine if_d (fun hb => ?_) (fun hb => ?_)
    · have hlt := of_decide_eq_true hb
      show tTup _ ((σ.set 4 none).set 4 (some (vN j))) _ _
      rw [h4]
      refine eu_tup (ea_cons (ev_var s3) (ea_cons (ev_var s4) ea_nil)) (by show 2 ≤ 100000; decide) H6 (Ex.refl _) _ fun p H7 hp7 e7 hx7 => ?_
      refine hp _ _ (.of (e6.trans e7)) ⟨qs ++ [p], N ++ [(i, j)], by rw [List.map_append]; rfl, (hqs.ex (.of (e6.trans e7))).snoc hx7, by rw [List.length_append]; simpa using hNk, fun a b => ?_⟩
      rw [List.mem_append, List.mem_singleton, hN, mem_take hj, Prod.mk.injEq]
      constructor
      · rintro (⟨h1, h2, h3⟩ | ⟨h1, h2⟩)
        · exact ⟨h1, .inl h2, h3⟩
        · subst h2; exact ⟨h1, .inr rfl, hlt⟩
      · rintro ⟨h1, h2 | h2, h3⟩
        · exact .inl ⟨h1, h2, h3⟩
        · exact .inr ⟨h1, h2⟩
    · have hlt := of_decide_eq_false hb
      refine hsk _ (.of e6) ⟨qs, N, rfl, hqs.ex (.of e6), by omega, fun a b => ?_⟩
      rw [hN, mem_take hj]
      constructor
      · rintro ⟨h1, h2, h3⟩; exact ⟨h1, .inl h2, h3⟩
      · rintro ⟨h1, h2 | h2, h3⟩
        · exact ⟨h1, h2, h3⟩
        · subst h2; exact absurd h3 hlt
  · obtain ⟨qs, N, rfl, hqs, hNk, hN⟩ := h
    rw [List.length_map] at hNk hN
    rw [List.take_of_length_le (Nat.le_refl _)] at hN
    exact k D qs N H5 hD e5.ex hacc hqs hNk hN
section
variable {P : Program} {w : World} {K : PySem.W.Frag} {mg : Str → Option Value} {base : Heap} {f : Addr} {fd : FuncData}
/-! ### _law_ties -/
theorem sc_law_ties : FnScope ["_law_web_here", "_law_person", "_law_one", "_law_other"] ["_law_web_here", "_law_person"] (defScope (topS 52)) := ⟨rfl, rfl, rfl, by decide +kernel, rfl, by decide +kernel, by decide +kernel⟩
theorem ok_law_ties (nb : NoB mg) (F : Fun K "_law_ties" "_law_ties" (topS 52) f fd) (g : mg "_law_ties" = some (.ref f)) : Has P w K mg base 1 "_law_ties" ["_law_web_here", "_law_person"] spTied := by
  refine .mk' F g (F.binds fun _ _ _ _ _ _ us hl => match us, hl with | [_, _], _ => rfl) (F.ok sc_law_ties (fun vs H Q E h => ?_) (fun cdv A outer s H vs Q E hr h => ?_))
  · obtain ⟨v, n, T, p, rfl, _⟩ := h
    rfl
  · obtain ⟨v, n, T, p, rfl, ⟨a, b, ps, rfl, ha, hb, hps⟩, W, q⟩ := h
    refine ⟨_, (pss_one (ps_ret (pe_callB cr_sortedI (by rfl) nb.sorted_ (by decide +kernel) (pa_cons (pe_lc (own := [("_law_one", 2), ("_law_other", 3)]) (g := _) rfl sc_law_ties.nd (pi_tup (pe_ix ix_tup (pv 0) pe_int (fun _ _ => rfl))) (blkOk_by (N := ["_law_web_here", "_law_person", "_law_one", "_law_other"]) (sc := defScope (topS 52)) (by decide +kernel)) (fun _ _ _ _ _ => (pg_tupK (K := K) (n := 2) rfl rfl (pgs_cons (pg_name (i := 2) sc_law_ties.nd rfl (Or.inl rfl)) (pgs_cons (pg_name (i := 3) sc_law_ties.nd rfl (Or.inl rfl)) pgs_nil)))) (fun _ _ _ _ _ => (pts_one (pt_cmpR (op_inK (K := K) rfl) (pv 1) (pe_tup (pa_cons (pv 2) (pa_cons (pv 3) pa_nil))) (by with_unfolding_all rfl)))) (fun _ _ _ _ _ => (pe_op op_sub (pe_op op_add (pv 2) (pv 3)) (pv 1)))) pa_nil)))), ?_⟩
    have hlen : ps.length = T.length := Paired.length hps
    have hsh := W.short
    refine ⟨.ref a, rfl, a, _, 1, .ref b, rfl, rfl, SqT.of ha, atI_nat (j := 1) rfl, b, rfl, ⟨_, SqT.of hb⟩, ?_⟩
    refine lcG (walk_tup (xs := ps.map V.ref)) noS (fun _ h => h.elim) (by rw [List.length_map]; omega) (fun i acc H' => ∃ l : List Nat, acc = l.map vN ∧ l.length ≤ i ∧ ∀ q, q ∈ l ↔ Adj (T.take i) p q) ⟨[], rfl, Nat.zero_le _, fun q => by simp [Adj]⟩ (fun i acc H' _ e _ => SqT.of (e _ _ (fun z => z) hb)) (fun _ _ _ _ _ _ _ h => h) (fun i x acc H5 H' Post Skip hi e5 h y hp hsk => ?_) (fun D acc H5 hD e5 hacc hal h => ?_)
    · obtain ⟨rfl, hx⟩ := y
      obtain ⟨l, rfl, hll, hm⟩ := h
      rw [List.getElem?_map] at hx
      obtain ⟨pt, hpt, rfl⟩ := Option.map_eq_some_iff.mp hx
      obtain ⟨t, ht, htp⟩ := paired_getL hps hpt
      have htie := W.tie t (List.mem_of_getElem? ht)
      refine ⟨pt, _, rfl, SqT.of (e5 _ _ (fun z => z) htp), rfl, vN t.1, [vN t.2], rfl, vN t.2, [], rfl, rfl, ?_⟩
      refine ⟨rfl, ?_⟩
      have e0 := ev_inU (K := K) (ta := tVar 1) (σ := [some (.ref a), some (vN p), some (vN t.1), some (vN t.2)]) (H := H') (x := vN p) (ev_var rfl) (eu_tup (ea_cons (ev_var (i := 2) rfl) (ea_cons (ev_var (i := 3) rfl) ea_nil)) (by show 2 ≤ 100000; decide)) rfl rfl
      rw [show inV (vN p) [vN t.1, vN t.2] = decide (p ∈ [t.1, t.2]) from inV_N (ns := [t.1, t.2])] at e0
      refine et_test e0 H' (Ex.refl _) _ fun H6 e6 => if_d (fun hb' => ?_) (fun hb' => ?_)
      · have hpm : p = t.1 ∨ p = t.2 := by simpa using of_decide_eq_true hb'
        refine ev_op (x := .int ((t.1 : Int) + t.2)) (y := vN p) (z := .int ((t.1 : Int) + t.2 - p)) (ev_op (ev_var (v := vN t.1) rfl) (ev_var (v := vN t.2) rfl) rv_I0) (ev_var rfl) rv_I0 H6 (Ex.refl _) _ fun H7 e7 => ?_
        refine hp _ _ (.of (e6.trans e7)) ⟨l ++ [t.1 + t.2 - p], ?_, ?_, fun q => ?_⟩
        · rw [List.map_append, show ((t.1 : Int) + t.2 - p) = ((t.1 + t.2 - p : Nat) : Int) by omega]
          rfl
        · rw [List.length_append]; simpa using hll
        · rw [List.mem_append, List.mem_singleton, hm]
          unfold Adj
          rw [mem_take ht, mem_take ht]
          obtain ⟨t1, t2⟩ := t
          simp only [Prod.mk.injEq]
          simp only at htie hpm
          constructor
          · rintro ((h | h) | h)
            · exact .inl (.inl h)
            · exact .inr (.inl h)
            · rcases hpm with z | z
              · exact .inl (.inr ⟨z, by omega⟩)
              · exact .inr (.inr ⟨by omega, z⟩)
          · rintro ((h | ⟨h, h'⟩) | (h | ⟨h, h'⟩))
            · exact .inl (.inl h)
            · exact .inr (by omega)
            · exact .inl (.inr h)
            · exact .inr (by omega)
      · have hpm : ¬ (p = t.1 ∨ p = t.2) := by simpa using of_decide_eq_false hb'
        refine hsk _ (.of e6) ⟨l, rfl, by omega, fun q => ?_⟩
        rw [hm]
        unfold Adj
        rw [mem_take ht, mem_take ht]
        obtain ⟨t1, t2⟩ := t
        simp only [Prod.mk.injEq]
        simp only at hpm
        constructor
        · rintro (h | h)
          · exact .inl (.inl h)
          · exact .inr (.inl h)
        · rintro ((h | ⟨h, h'⟩) | (h | ⟨h, h'⟩))
          · exact .inl h
          · exact absurd (.inl h) hpm
          · exact .inr h
          · exact absurd (.inr h') hpm
    · obtain ⟨l, rfl, hll, hm⟩ := h
      refine ⟨D, l.map (fun i : Nat => (i : Int)), rfl, SqL.of (by rw [← ints_N]; exact hacc), fun ns' p' hp _ hn => ?_⟩
      obtain ⟨l', hl', rfl⟩ := perm_cast hp
      refine q p' l' _ (fresh_back e5.ex hn) (e5.ex.trans (Ex.new hn)) (by rw [upd_same, ints_N]) ⟨fun q => ?_, ?_⟩
      · rw [hl'.mem_iff, hm, List.take_of_length_le (by rw [List.length_map]; omega)]
      · rw [hl'.length_eq]
        rw [List.length_map] at hll
        omega
/-! ### _law_stoops -/
theorem sc_law_stoops : FnScope ["_law_web_here", "_law_heights_here", "_law_found", "_law_person", "_law_one"] ["_law_web_here", "_law_heights_here"] (defScope (topS 54)) := ⟨rfl, rfl, rfl, by decide +kernel, rfl, by decide +kernel, by decide +kernel⟩
def RetPairsL (R : Ties → Prop) (H : Hp) (Q : VK) : Prop := ∀ (p : Addr) (ps : List Addr) (M : Ties) H2, H p = none → Ex H H2 → H2 p = some (.lst (ps.map V.ref)) → PairsAt H2 ps M → R M → Q (.ref p) H2
def spStoops : Sp := fun vs H Q _ => ∃ (v u : V) (n : Nat) (T : Ties) (gs : List Int), vs = [v, u] ∧ WebAt H v n T ∧ WebOk n T ∧ HtsAt H u gs ∧ gs.length = n ∧ RetPairsL (fun M => (∀ a b, (a, b) ∈ M ↔ Adj T a b ∧ a < n ∧ at0 gs b < at0 gs a) ∧ M.length ≤ 500) H Q
theorem ok_law_stoops (nb : NoB mg) (c_law_ties : Has P w K mg base 1 "_law_ties" ["_law_web_here", "_law_person"] spTied) (F : Fun K "_law_stoops" "_law_stoops" (topS 54) f fd) (g : mg "_law_stoops" = some (.ref f)) : Has P w K mg base 2 "_law_stoops" ["_law_web_here", "_law_heights_here"] spStoops := by
  refine .mk' F g (F.binds fun _ _ _ _ _ _ us hl => match us, hl with | [_, _], _ => rfl) (F.ok sc_law_stoops (fun vs H Q E h => ?_) (fun cdv A outer s H vs Q E hr h => ?_))
  · obtain ⟨v, u, n, T, gs, rfl, _⟩ := h
    rfl
  · obtain ⟨v, u, n, T, gs, rfl, hw, W, ⟨c, rfl, hc⟩, hl, q⟩ := h
    obtain ⟨a, b, tps, rfl, ha, hb, htps⟩ := id hw
    refine ⟨_, (pss_cons (ps_set (i := 2) sc_law_stoops.nd rfl (Or.inl rfl) (pe_lst pa_nil))
      (pss_cons (ps_for PassesOwn.never rfl (pi_range1 (by rfl) nb.range_ (pa_cons (pe_ix ix_tup (pv 0) pe_int (fun _ _ => rfl)) pa_nil)) (pg_name (i := 3) sc_law_stoops.nd rfl (Or.inr rfl))
        (pss_one (ps_set (i := 2) sc_law_stoops.nd rfl (Or.inl rfl) (pe_op op_cat (pv 2) (pe_lc (own := [("_law_one", 4)]) (g := (gName 4)) rfl sc_law_stoops.nd (pi_list (pe_has c_law_ties (hr.mono (by first | decide | exact Nat.le_refl _)) (pa_cons (pv 0) (pa_cons (pv 3) pa_nil)))) (blkOk_by (N := ["_law_web_here", "_law_heights_here", "_law_found", "_law_person", "_law_one"]) (sc := defScope (topS 54)) (by decide +kernel)) (fun _ _ _ _ _ => (pg_name (i := 4) sc_law_stoops.nd rfl (Or.inl rfl))) (fun _ _ _ _ _ => (pts_one (pt_cmpR op_lt (pe_ix (ix_tupK (K := K) rfl) (pv 1) (pv 4) (fun _ _ => rfl)) (pe_ix (ix_tupK (K := K) rfl) (pv 1) (pv 3) (fun _ _ => rfl)) (nomark _)))) (fun _ _ _ _ _ => (pe_tup (pa_cons (pv 3) (pa_cons (pv 4) pa_nil)))))))))
      (pss_one (ps_ret (pv 2))))), ?_⟩
    have hn5 := W.few
    have sz := sizeLine_eq
    refine q_asgL (el_lst ea_nil (by decide)) fun F0 H1 hF0 e1 hf0 => ?_
    refine q_forR1 (n := (n : Int)) (ea_cons (ev_op (ev_var rfl) ev_c (rv_ixT (SqT.of (e1 _ _ ha)) (atI_nat (j := 0) rfl))) ea_nil) ⟨by omega, by omega⟩
      (fun i σ H' => Ex H H' ∧ ∃ (F : Addr) (ps : List Addr) (M : Ties), (∃ y3 y4, σ = [some (.ref a), some (.ref c), some (.ref F), y3, y4]) ∧ H F = none ∧ H' F = some (.lst (ps.map V.ref)) ∧ PairsAt H' ps M ∧ M.length ≤ 100 * i ∧ ∀ a b, (a, b) ∈ M ↔ Adj T a b ∧ a < i ∧ at0 gs b < at0 gs a)
      (fun H2 e2 => ⟨e1.trans e2, F0, [], [], ⟨_, _, rfl⟩, hF0, e2 _ _ hf0, .nil, by simp, fun a b => by simp⟩) (fun i σ H' hi h => ?_) (fun σ H' h => ?_)
    · obtain ⟨e3, F, ps, M, ⟨y3, y4, rfl⟩, hF, hf3, hps, hM, hm⟩ := h
      have hin : i < n := by omega
      refine ⟨.ref F, rfl, .ref a, rfl, vN i, rfl, .ref a, n, T, i, rfl, hw.ex (.of e3), W, fun LP l H4 hLP e4 hlp hR => ⟨LP, rfl, ⟨_, SqL.of hlp⟩, ?_⟩⟩
      have hRl := hR.2
      refine lc_pairs (σ := [some (.ref a), some (.ref c), some (.ref F), some (vN i), y4]) (i := i) (gs := gs) hlp hRl (e4 _ _ (e3 _ _ hc)) (fun j hj => by have := (W.adj ((hR.1 j).mp hj)).2.1; omega) (by omega) rfl rfl (fun _ => rfl) rfl fun D qs N H5 hD e5 hD5 hqs hNl hN => ?_
      have hF5 := e5 _ _ (e4 _ _ hf3)
      have hql := pairs_len hqs
      have hpl := pairs_len hps
      refine ⟨F, D, _, _, rfl, rfl, hF5, hD5, by rw [List.length_map, List.length_map]; omega, fun N2 hN2 => ?_⟩
      have e6 : Ex H' (upd H5 N2 (.lst (ps.map V.ref ++ qs.map V.ref))) := (e4.trans e5).trans (Ex.new hN2)
      refine ⟨e3.trans e6, N2, ps ++ qs, M ++ N, ⟨_, _, rfl⟩, fresh_back ((e3.trans e4).trans e5) hN2, by rw [upd_same, List.map_append], ?_, by rw [List.length_append]; omega, fun a b => ?_⟩
      · exact paired_append (hps.ex (.of e6)) (hqs.ex (.of (Ex.new hN2)))
      · rw [List.mem_append, hm, hN]
        constructor
        · rintro (⟨h1, h2, h3⟩ | ⟨h1, h2, h3⟩)
          · exact ⟨h1, by omega, h3⟩
          · subst h1; exact ⟨(hR.1 b).mp h2, by omega, h3⟩
        · rintro ⟨h1, h2, h3⟩
          by_cases e : a = i
          · subst e; exact .inr ⟨rfl, (hR.1 b).mpr h1, h3⟩
          · exact .inl ⟨h1, by omega, h3⟩
    · obtain ⟨e3, F, ps, M, ⟨y3, y4, rfl⟩, hF, hf3, hps, hM, hm⟩ := h
      rw [Int.toNat_natCast] at hm hM
      exact ⟨.ref F, rfl, q F ps M H' hF e3 hf3 hps ⟨hm, by omega⟩⟩
/-! ### _law_after -/
theorem sc_law_after : FnScope ["_law_heights_here", "_law_pair"] ["_law_heights_here", "_law_pair"] (defScope (topS 55)) := ⟨rfl, rfl, rfl, by decide +kernel, rfl, by decide +kernel, by decide +kernel⟩
def spLAfter : Sp := fun vs H Q _ => ∃ (u : V) (pr : Addr) (p q : Nat) (gs : List Int), vs = [u, .ref pr] ∧ HtsAt H u gs ∧ H pr = some (.tup [vN p, vN q]) ∧ p < gs.length ∧ q < gs.length ∧ gs.length ≤ 1000 ∧ ∀ (R : Addr) H2, Ex H H2 → H2 R = some (.tup ((gs.set p (at0 gs q)).map V.int)) → Q (.ref R) H2
theorem ok_law_after (F : Fun K "_law_after" "_law_after" (topS 55) f fd) (g : mg "_law_after" = some (.ref f)) : Has P w K mg base 1 "_law_after" ["_law_heights_here", "_law_pair"] spLAfter := by
  refine .mk' F g (F.binds fun _ _ _ _ _ _ us hl => match us, hl with | [_, _], _ => rfl) (F.ok sc_law_after (fun vs H Q E h => ?_) (fun cdv A outer s H vs Q E hr h => ?_))
  · obtain ⟨u, pr, p, o, gs, rfl, _⟩ := h
    rfl
  · obtain ⟨u, pr, p, o, gs, rfl, ⟨c, rfl, hc⟩, hpr, hp, ho, hz, q⟩ := h
    refine ⟨_, (pss_one (ps_ret (pe_op op_catA (pe_op op_catA (pe_slice sl_tupA (pv 0) po_none (po_some (pe_ix ix_tup (pv 1) pe_int (fun _ _ => rfl)))) (pe_tup (pa_cons (pe_ix ix_tup (pv 0) (pe_ix ix_tup (pv 1) pe_int (fun _ _ => rfl)) (fun _ _ => rfl)) pa_nil))) (pe_slice sl_tupA (pv 0) (po_some (pe_op op_add (pe_ix ix_tup (pv 1) pe_int (fun _ _ => rfl)) pe_int)) po_none)))), ?_⟩
    have hpl : p < (gs.map V.int).length := by rw [List.length_map]; exact hp
    obtain ⟨c1, n1⟩ := cut_lo hpl
    obtain ⟨c2, n2⟩ := cut_hi hpl
    refine s_retW (xs := (gs.set p (at0 gs o)).map V.int) ?_ fun P2 H2 e2 h2 => q P2 H2 e2 h2
    have e : List.map V.int (gs.set p (at0 gs o)) = (cutV (gs.map V.int) none (some (p : Int)) ++ [V.int (at0 gs o)]) ++ cutV (gs.map V.int) (some ((p : Int) + 1)) none := by
      rw [c1, c2, List.map_set, ← set_cut hpl, List.append_assoc]; rfl
    have evp : Ev (tOp (rIxT K) (tVar 1) (tC (.int 0))) [some (.ref c), some (.ref pr)] H (vN p) := ev_op (ev_var rfl) ev_c (rv_ixT (SqT.of hpr) (atI_nat (j := 0) rfl))
    have evo : Ev (tOp (rIxT K) (tVar 1) (tC (.int 1))) [some (.ref c), some (.ref pr)] H (vN o) := ev_op (ev_var rfl) ev_c (rv_ixT (SqT.of hpr) (atI_nat (j := 1) rfl))
    have l1 : (cutV (gs.map V.int) none (some (p : Int))).length ≤ 1000 := Nat.le_trans (cutV_length _ _ _) (by rw [List.length_map]; omega)
    have l2 : (cutV (gs.map V.int) (some ((p : Int) + 1)) none).length ≤ 1000 := Nat.le_trans (cutV_length _ _ _) (by rw [List.length_map]; omega)
    rw [e]
    exact ew_catA (ew_catA (.of (eu_slA (ev_var rfl) eo_none (eo_some evp) (SqT.of hc) n1)) (.of (eu_tup (ea_cons (ev_hts (ev_var rfl) evo ⟨c, rfl, hc⟩ ho) ea_nil) (by show 1 ≤ 100000; decide))) (by show _ + 1 ≤ 10000; omega)) (.of (eu_slA (ev_var rfl) (eo_some (ev_op evp ev_c rv_I0)) eo_none (SqT.of hc) n2)) (by rw [List.length_append]; show _ + 1 + _ ≤ 10000; omega)
/-! ### _law_steps -/
theorem sc_law_steps : FnScope ["_law_web_here", "_law_heights_here", "_law_found", "_law_edge", "_law_steps_here", "_law_later", "_law_now", "_law_pair", "_law_told"] ["_law_web_here", "_law_heights_here"] (defScope (topS 56)) := ⟨rfl, rfl, rfl, by decide +kernel, rfl, by decide +kernel, by decide +kernel⟩
abbrev kvS (kvs : List (List Int × Nat)) : List (List Int × V) := kvs.map fun kv => (kv.1, vN kv.2)
theorem kvS_keys (kvs : List (List Int × Nat)) : (kvS kvs).map (·.1) = kvs.map (·.1) := by rw [List.map_map]; rfl
def spSteps : Sp := fun vs H Q _ => ∃ (v u : V) (n : Nat) (T : Ties) (h : List Int), vs = [v, u] ∧ WebAt H v n T ∧ WebOk n T ∧ HtsAt H u h ∧ h.length = n ∧ ∀ (D : Addr) (kvs : List (List Int × Nat)) H2, H D = none → Ex H H2 → H2 D = some (.dT (kvI (kvS kvs))) → Known T h kvs → Q (.ref D) H2
theorem ok_law_steps (nb : NoB mg) (c_law_stoops : Has P w K mg base 2 "_law_stoops" ["_law_web_here", "_law_heights_here"] spStoops) (c_law_after : Has P w K mg base 1 "_law_after" ["_law_heights_here", "_law_pair"] spLAfter)
    (F : Fun K "_law_steps" "_law_steps" (topS 56) f fd) (g : mg "_law_steps" = some (.ref f)) : Has P w K mg base 3 "_law_steps" ["_law_web_here", "_law_heights_here"] spSteps := by
  refine .mk' F g (F.binds fun _ _ _ _ _ _ us hl => match us, hl with | [_, _], _ => rfl) (F.ok sc_law_steps (fun vs H Q E h => ?_) (fun cdv A outer s H vs Q E hr h => ?_))
  · obtain ⟨v, u, n, T, h, rfl, _⟩ := h
    rfl
  · obtain ⟨v, u, n, T, h, rfl, hw, W, ⟨c, rfl, hc⟩, hl, q⟩ := h
    have hu := hu_of hr
    refine ⟨_, (pss_cons (ps_par3 (i := 2) (j := 3) (l := 4) rfl sc_law_steps.nd rfl rfl rfl (by decide) (by decide) (by decide) rfl rfl rfl (pa_cons (pe_dispT hu (pv 1) pe_int) (pa_cons (pe_lst (pa_cons (pv 1) pa_nil)) (pa_cons pe_int pa_nil))) (by rfl))
      (pss_cons (ps_while PassesOwn.never (pt_cmpR (op_neD hr.units) (pv 3) (pe_lst pa_nil) (nomark _)) (pss_cons (ps_par (i := 5) (j := 4) rfl sc_law_steps.nd rfl rfl (by decide) rfl rfl (pa_cons (pe_lst pa_nil) (pa_cons (pe_op op_add (pv 4) pe_int) pa_nil)) (by rfl))
      (pss_cons (ps_for PassesOwn.never rfl (pi_list (pv 3)) (pg_name (i := 6) sc_law_steps.nd rfl (Or.inl rfl))
        (pss_one (ps_for PassesOwn.never rfl (pi_list (pe_has c_law_stoops (hr.mono (by first | decide | exact Nat.le_refl _)) (pa_cons (pv 0) (pa_cons (pv 6) pa_nil)))) (pg_name (i := 7) sc_law_steps.nd rfl (Or.inl rfl))
        (pss_cons (ps_set (i := 8) sc_law_steps.nd rfl (Or.inl rfl) (pe_has c_law_after (hr.mono (by first | decide | exact Nat.le_refl _)) (pa_cons (pv 6) (pa_cons (pv 7) pa_nil))))
      (pss_one (ps_if (pt_cmp (pc_dnotin hu (pv 8) (pv 2)) rfl) (pss_cons (ps_dput hu (pv 2) (pv 8) (pv 4) rfl)
      (pss_one (ps_expr (pe_bm PySem.F.plainAttrs_list PySem.F.slot_list_append PySem.F.type_list_append mt_append (pv 5) (pa_cons (pv 8) pa_nil))))) pss_nil))))))
      (pss_one (ps_set (i := 3) sc_law_steps.nd rfl (Or.inl rfl) (pv 5))))))
      (pss_one (ps_ret (pv 2))))), ?_⟩
    have hn5 := W.few
    intro KA hKA
    refine ⟨.ref c, rfl, upd_same, c, h.map Sum.inl, rfl, ?_, ?_⟩
    · rw [upd_ne (fun z => by rw [z, hKA] at hc; cases hc), hc, kV_ints]
    have e0 : Ex H (upd (upd H KA (.dT [])) KA (.dT [(h.map Sum.inl, .int 0)])) := ((Ex.refl H).mut hKA).mut hKA
    refine el_lst (ea_cons (ev_var (v := .ref c) rfl) ea_nil) (by show 1 ≤ 100000; decide) _ (Ex.refl _) _ fun EA0 H1 hEA0 e1 he1 => ?_
    have hk1 := e1 _ _ upd_same
    refine ⟨_, _, _, rfl, ?_⟩
    have hne0 : KA ≠ EA0 := fun z => by rw [← z, upd_same] at hEA0; cases hEA0
    refine q_while (fun m σ H' => Ex H H' ∧ ∃ (EA : Addr) (kvs : List (List Int × Nat)) (es : List Addr) (edge : List (List Int)) (dd : Nat), (∃ y5 y6 y7 y8, σ = [some v, some (.ref c), some (.ref KA), some (.ref EA), some (vN dd), y5, y6, y7, y8]) ∧ KA ≠ EA ∧ H' KA = some (.dT (kvI (kvS kvs))) ∧ H' EA = some (.lst (es.map V.ref)) ∧ ITup H' es edge ∧ Bfs T h dd kvs edge ∧ edge.length ≤ kvs.length ∧ m = 2 * (3125 - kvs.length) + edge.length)
      (2 * 3124 + 1) ⟨e0.trans e1, EA0, [(h, 0)], [c], [h], 0, ⟨_, _, _, _, rfl⟩, hne0, hk1, he1, .cons ((e0.trans e1) _ _ hc) .nil, .start, by simp, rfl⟩ ?_
    rintro m σ H' ⟨e2, EA, kvs, es, edge, dd, ⟨y5, y6, y7, y8, rfl⟩, hne, hk, he, hi, B, hel, rfl⟩
    have hfl := B.few (by omega)
    refine ⟨!edge.isEmpty, et_test (ev_neT (ev_var rfl) (SqL.of he) hi (el_lst ea_nil (by decide))), fun hb H2 e3 => ?_, fun hb H2 e3 => ?_⟩
    · refine ⟨fun σ' H' => ∃ m', m' < 2 * (3125 - kvs.length) + edge.length ∧ Ex H H' ∧ ∃ (EA : Addr) (kvs : List (List Int × Nat)) (es : List Addr) (edge : List (List Int)) (dd : Nat), (∃ y5 y6 y7 y8, σ' = [some v, some (.ref c), some (.ref KA), some (.ref EA), some (vN dd), y5, y6, y7, y8]) ∧ KA ≠ EA ∧ H' KA = some (.dT (kvI (kvS kvs))) ∧ H' EA = some (.lst (es.map V.ref)) ∧ ITup H' es edge ∧ Bfs T h dd kvs edge ∧ edge.length ≤ kvs.length ∧ m' = 2 * (3125 - kvs.length) + edge.length, fun _ _ h => h, ?_⟩
      have hepos : 0 < edge.length := by
        cases edge with
        | nil => cases hb
        | cons a b => simp
      -- later, steps = [], steps + 1
      have e23 := e2.trans e3
      refine ⟨by show 0 ≤ sizeLine; decide, fun LA hLA => ⟨vN dd, rfl, _, _, rfl, rfl, _, _, rfl, ?_⟩⟩
      obtain ⟨H3, hH3⟩ : ∃ H3, H3 = upd H2 LA (.lst []) := ⟨_, rfl⟩
      rw [← hH3]
      have e4 : Ex H2 H3 := by rw [hH3]; exact Ex.new hLA
      have hla : H3 LA = some (.lst []) := by rw [hH3]; exact upd_same
      have hLA0 := fresh_back e23 hLA
      have hKL : KA ≠ LA := fun z => by rw [← z, e3 _ _ hk] at hLA; cases hLA
      have hEL : EA ≠ LA := fun z => by rw [← z, e3 _ _ he] at hLA; cases hLA
      have e24 := e23.trans e4
      -- for now in edge
      refine q_forLn (ev_var rfl) (SqL.of (e4 _ _ (e3 _ _ he))) (fun i σ' H' => Ex H H' ∧ XT H3 H' ∧ H' EA = some (.lst (es.map V.ref)) ∧ (∃ y6 y7 y8, σ' = [some v, some (.ref c), some (.ref KA), some (.ref EA), some (vN (dd + 1)), some (.ref LA), y6, y7, y8]) ∧ ∃ (kvs2 : List (List Int × Nat)) (ls : List Addr) (later : List (List Int)), H' KA = some (.dT (kvI (kvS kvs2))) ∧ H' LA = some (.lst (ls.map V.ref)) ∧ ITup H' ls later ∧ BfsIn T h dd edge (fun g => ∃ now ∈ edge.take i, Mv T now g) kvs2 later ∧ kvs.length + later.length = kvs2.length)
        (fun H4 e5 => ⟨e24.trans e5, .of e5, e5 _ _ (e4 _ _ (e3 _ _ he)), ⟨_, _, _, by rw [show vN (dd + 1) = V.int ((dd : Int) + 1) from rfl]; rfl⟩, kvs, [], [], e5 _ _ (e4 _ _ (e3 _ _ hk)), e5 _ _ hla, .nil, B.next.imp (fun g hg => by obtain ⟨now, h1, _⟩ := hg; simp at h1), by simp⟩) (fun i σ' H' _ h => SqL.of h.2.2.1) (fun i z σ' H' hz h => ?_) (fun σ' H' h => ?_)
      · obtain ⟨e5, xt5, he5, ⟨y6, y7, y8, rfl⟩, kvs2, ls, later, hk5, hl5, hi5, B2, hkl⟩ := h
        rw [List.getElem?_map] at hz
        obtain ⟨xa, hxa, rfl⟩ := Option.map_eq_some_iff.mp hz
        obtain ⟨x, hx, hxt⟩ := paired_getL hi hxa
        have hxe : x ∈ edge := List.mem_of_getElem? hx
        have hxr : Reach T h x := ⟨dd, (B.ok x dd ((B.edge x).mp hxe)).1⟩
        have hxl := hxr.len
        have hxa5 := xt5 _ _ (e4 _ _ (e3 _ _ hxt))
        -- for pair in stoops(web, now)
        refine ⟨v, rfl, .ref xa, rfl, v, .ref xa, n, T, x, rfl, hw.ex (.of e5), W, ⟨xa, rfl, hxa5⟩, hxl.trans hl, fun TP ps M H6 hTP e6 ht hps hM => ⟨TP, rfl, ⟨_, SqL.of ht⟩, ?_⟩⟩
        have hML : M.length = ps.length := (pairs_len hps).symm
        have hTPK : TP ≠ KA := fun z => by rw [z, hk5] at hTP; cases hTP
        have hTPL : TP ≠ LA := fun z => by rw [z, hl5] at hTP; cases hTP
        refine for_list (xs := ps.map V.ref) (fun k σ' H' => Ex H H' ∧ XT H6 H' ∧ H' TP = some (.lst (ps.map V.ref)) ∧ H' EA = some (.lst (es.map V.ref)) ∧ (∃ y7 y8, σ' = [some v, some (.ref c), some (.ref KA), some (.ref EA), some (vN (dd + 1)), some (.ref LA), some (.ref xa), y7, y8]) ∧ ∃ (kvs2 : List (List Int × Nat)) (ls : List Addr) (later : List (List Int)), H' KA = some (.dT (kvI (kvS kvs2))) ∧ H' LA = some (.lst (ls.map V.ref)) ∧ ITup H' ls later ∧ BfsIn T h dd edge (fun g => (∃ now ∈ edge.take i, Mv T now g) ∨ ∃ t ∈ M.take k, g = x.set t.1 (at0 x t.2)) kvs2 later ∧ kvs.length + later.length = kvs2.length)
          ⟨e5.trans e6, fun _ _ z => z, ht, e6 _ _ he5, ⟨_, _, rfl⟩, kvs2, ls, later, e6 _ _ hk5, e6 _ _ hl5, hi5.ex (.of e6), B2.imp (fun g hg => by
            rcases hg with hg | ⟨t, ht, _⟩
            · exact hg
            · simp at ht), hkl⟩ (fun _ _ _ _ h => SqL.of h.2.2.1) (fun k z σ' H' hz h => ?_) (fun σ' H' h => ?_)
        · obtain ⟨e7, xt7, ht7, he7, ⟨y7, y8, rfl⟩, kvs3, ls3, later3, hk7, hl7, hi7, B3, hkl3⟩ := h
          rw [List.getElem?_map] at hz
          obtain ⟨pa, hpa, rfl⟩ := Option.map_eq_some_iff.mp hz
          obtain ⟨t, ht', htp⟩ := paired_getL hps hpa
          have hA := (hM.1 t.1 t.2).mp (List.mem_of_getElem? ht')
          have htb := (W.adj hA.1).2.1
          have hfl3 := B3.few (by omega)
          -- told = after(now, pair)
          refine ⟨.ref xa, rfl, .ref pa, rfl, .ref xa, pa, t.1, t.2, x, rfl, ⟨xa, rfl, xt7 _ _ (e6 _ _ hxa5)⟩, xt7 _ _ htp, by omega, by omega, by omega, fun TA H8 e8 hta => ?_⟩
          have mv : Mv T x (x.set t.1 (at0 x t.2)) := ⟨t.1, t.2, hA.1, by omega, by omega, hA.2.2, rfl⟩
          have nxC : ∀ g, ((∃ now ∈ edge.take i, Mv T now g) ∨ ∃ t' ∈ M.take (k + 1), g = x.set t'.1 (at0 x t'.2)) → ((∃ now ∈ edge.take i, Mv T now g) ∨ ∃ t' ∈ M.take k, g = x.set t'.1 (at0 x t'.2)) ∨ g = x.set t.1 (at0 x t.2) := by
            rintro g (h1 | ⟨t', h1, h2⟩)
            · exact .inl (.inl h1)
            · rcases (mem_take ht').mp h1 with h1 | h1
              · exact .inl (.inr ⟨t', h1, h2⟩)
              · subst h1; exact .inr h2
          have hkk : H8 TA = some (.tup (((x.set t.1 (at0 x t.2)).map Sum.inl).map kV)) := by rw [kV_ints]; exact hta
          refine ⟨.ref TA, rfl, .ref KA, rfl, KA, _, rfl, DGet.t (e8 _ _ hk7) hkk, ?_⟩
          rw [kvI_val, kvS_keys]
          refine ⟨_, rfl, ?_⟩
          refine if_d (fun hb2 => ?_) (fun hb2 => ?_)
          · have hno : x.set t.1 (at0 x t.2) ∉ kvs3.map (·.1) := by simpa using hb2
            have sz := sizeLine_eq
            refine ⟨vN (dd + 1), rfl, .ref KA, rfl, .ref TA, rfl, KA, _, rfl, DPut.t (e8 _ _ hk7) hkk (by rw [List.length_map, List.length_map]; omega), ?_⟩
            rw [kvI_put (by rw [kvS_keys]; exact hno)]
            have hTAK : TA ≠ KA := fun z => by rw [z, e8 _ _ hk7] at hta; cases hta
            have xt9 : ∀ o, XT H8 (upd H8 KA o) := fun o b xs hb => by rw [upd_ne (fun z => by rw [z, e8 _ _ hk7] at hb; cases hb)]; exact hb
            have e9 : Ex H (upd H8 KA (.dT (kvI (kvS kvs3 ++ [(x.set t.1 (at0 x t.2), vN (dd + 1))])))) := (e7.trans e8).mut hKA
            have hl9 : (upd H8 KA (.dT (kvI (kvS kvs3 ++ [(x.set t.1 (at0 x t.2), vN (dd + 1))])))) LA = some (.lst (ls3.map V.ref)) := by rw [upd_ne (Ne.symm hKL)]; exact e8 _ _ hl7
            refine s_app hl9 (ev_var rfl) (ev_var rfl) (by rw [List.length_map, show ls3.length = later3.length from Paired.length hi7]; omega) fun H10 e10 => ?_
            have xt10 : XT H10 (upd H10 LA (.lst (ls3.map V.ref ++ [.ref TA]))) := xt_updL (.inr ⟨_, e10 _ _ hl9⟩)
            have xtA : XT H8 (upd H10 LA (.lst (ls3.map V.ref ++ [.ref TA]))) := fun b xs hb => xt10 _ _ (e10 _ _ (xt9 _ b xs hb))
            refine ⟨(e9.trans e10).mut hLA0, fun b xs hb => xtA _ _ (e8 _ _ (xt7 _ _ hb)), ?_, ?_, ⟨_, _, rfl⟩, kvs3 ++ [(x.set t.1 (at0 x t.2), dd + 1)], ls3 ++ [TA], later3 ++ [x.set t.1 (at0 x t.2)], ?_, ?_, ?_, (B3.add hxe mv hno).imp nxC, ?_⟩
            · rw [upd_ne hTPL]; exact e10 _ _ (by rw [upd_ne hTPK]; exact e8 _ _ ht7)
            · rw [upd_ne hEL]; exact e10 _ _ (by rw [upd_ne (Ne.symm hne)]; exact e8 _ _ he7)
            · rw [upd_ne hKL]
              rw [e10 KA _ upd_same]
              unfold kvS
              rw [List.map_append]; rfl
            · rw [upd_same, List.map_append]; rfl
            · exact Paired.snoc ((hi7.ex (.of e8)).ex xtA) (xtA _ _ hta)
            · rw [List.length_append, List.length_append]; simp only [List.length_singleton]; omega
          · have hyes : x.set t.1 (at0 x t.2) ∈ kvs3.map (·.1) := by simpa using hb2
            exact ⟨e7.trans e8, fun b xs hb => e8 _ _ (xt7 _ _ hb), e8 _ _ ht7, e8 _ _ he7, ⟨_, _, rfl⟩, kvs3, ls3, later3, e8 _ _ hk7, e8 _ _ hl7, hi7.ex (.of e8), (B3.skip hyes).imp nxC, hkl3⟩
        · obtain ⟨e7, xt7, ht7, he7, ⟨y7, y8, rfl⟩, kvs3, ls3, later3, hk7, hl7, hi7, B3, hkl3⟩ := h
          refine ⟨e7, fun b xs hb => xt7 _ _ (e6 _ _ (xt5 _ _ hb)), he7, ⟨_, _, _, rfl⟩, kvs3, ls3, later3, hk7, hl7, hi7, B3.imp (fun g hg => ?_), hkl3⟩
          obtain ⟨now, h1, h2⟩ := hg
          rcases (mem_take hx).mp h1 with h1 | h1
          · exact .inl ⟨now, h1, h2⟩
          · subst h1
            obtain ⟨a, b, m1, m2, m3, m4, m5⟩ := h2
            refine .inr ⟨(a, b), ?_, m5⟩
            rw [List.length_map, ← hML, List.take_length]
            exact (hM.1 a b).mpr ⟨m1, by omega, m4⟩
      · obtain ⟨e5, xt5, he5, ⟨y6, y7, y8, rfl⟩, kvs2, ls, later, hk5, hl5, hi5, B2, hkl⟩ := h
        have hfl2 := B2.few (by omega)
        refine s_asg (ev_var rfl) fun H6 e6 => ?_
        refine ⟨2 * (3125 - kvs2.length) + later.length, by omega, e5.trans e6, LA, kvs2, ls, later, dd + 1, ⟨_, _, _, _, rfl⟩, hKL, e6 _ _ hk5, e6 _ _ hl5, hi5.ex (.of e6), B2.done (fun now hnow g mv => ?_), by omega, rfl⟩
        rw [List.length_map, show es.length = edge.length from Paired.length hi, List.take_length]
        exact ⟨now, hnow, mv⟩
    · have he0 : edge = [] := by
        cases edge with
        | nil => rfl
        | cons a b => cases hb
      subst he0
      exact ⟨.ref KA, rfl, q KA kvs H2 hKA (e2.trans e3) (e3 _ _ hk) B.known⟩
end
end Hv
end
section
set_option Elab.async false
set_option linter.all false
set_option maxRecDepth 100000
set_option maxHeartbeats 4000000
namespace Hv
open PySem PySem.Spec PyProof.Rows L2 Evl
/-! ### frames with the row -/
theorem RowAt.ne {K : PySem.W.Frag} {sc : Addr} {sx : List Int} {H : Hp} {a b : Addr} {xs : List V} (r : RowAt K sc sx H a) (h : H b = some (.tup xs)) : b ≠ a := fun z => by
  obtain ⟨i, s, c, r⟩ := r
  rw [z, r.1] at h; cases h
theorem RowAt.no {K : PySem.W.Frag} {sc : Addr} {sx : List Int} {H : Hp} {a : Addr} (r : RowAt K sc sx H a) : H a ≠ none := fun z => by
  obtain ⟨i, s, c, r⟩ := r
  rw [r.1] at z; cases z
theorem RowAt.off {K : PySem.W.Frag} {sc : Addr} {sx : List Int} {H : Hp} {a D : Addr} (r : RowAt K sc sx H a) (h : H D = none) : D ≠ a := fun z => by rw [z] at h; exact r.no h
/-- a row stays a row when an object changes that was not there -/
theorem RowAt.upd0 {K : PySem.W.Frag} {sc : Addr} {sx : List Int} {H0 H : Hp} {a D : Addr} {o : HO} (r0 : RowAt K sc sx H0 a) (r : RowAt K sc sx H a) (hD : H0 D = none) : RowAt K sc sx (upd H D o) a := by
  obtain ⟨i0, s0, c0, r0'⟩ := id r0
  obtain ⟨i, s, c, r⟩ := r
  refine ⟨i, s, c, by rw [upd_ne (Ne.symm (r0.off hD))]; exact r.1, r.2.1, r.2.2.1, r.2.2.2.1, ?_, r.2.2.2.2.2⟩
  rcases r0'.2.2.2.2.1 with h0 | h0
  · have hsc : sc ≠ D := fun z => by
      rw [z] at h0
      rcases h0 with h0 | ⟨o, h0⟩ <;> rw [hD] at h0 <;> cases h0
    rcases r.2.2.2.2.1 with h | h
    · rcases h with h | ⟨o', h⟩
      · exact .inl (.inl (by rw [upd_ne hsc]; exact h))
      · exact .inl (.inr ⟨o', by rw [upd_ne hsc]; exact h⟩)
    · exact .inr h
  · exact .inr h0
theorem rowX_tup {H H' : Hp} {a b : Addr} {K : PySem.W.Frag} {sc : Addr} {sx : List Int} {xs : List V} (r : RowAt K sc sx H a) (e : RowX a H H') (h : H b = some (.tup xs)) : H' b = some (.tup xs) := e _ _ (r.ne h) h
theorem rd_nameE {i : Nat} {v v' : V} {σ : L2.St} {H : Hp} {Q : L2.St → Hp → Prop} (e : v = v') (h : Q (σ.set i (some v')) H) : gName i v σ H Q := by rw [e]; exact h
theorem rd_forIf {tt : TT} {ta tb : TE} {g : TG} {tbd : TS} {D : Ends} {σ : L2.St} {H : Hp} {b : Bool} (Pk : Nat → Hp → Prop) (ht : EvT tt σ H b) (hk : ∀ (k : Nat) H2, Pk k H2 → forB g tbd D σ (Itr 0 k) H2)
    (h : ∀ H1, Ex H H1 → ∀ Q : VK, (∀ (k : Nat) H2, k ≤ 1000 → Pk k H2 → Q (.int (k : Int)) H2) → if b = true then ta σ H1 Q else tb σ H1 Q) : tFor (iRng1 (tCons (tIf tt ta tb) tNil)) g tbd D σ H := by
  refine ht H (Ex.refl H) _ fun H1 e1 => ?_
  refine h H1 e1 _ fun k H2 hkk hp => ⟨(k : Int), rfl, by omega, by omega, ?_⟩
  rw [Int.toNat_natCast]
  exact hk k H2 hp
/-- a dict of ties -/
def pairI (t : Nat × Nat) : List Int := [(t.1 : Int), (t.2 : Int)]
theorem pairI_inj {s t : Nat × Nat} (h : pairI s = pairI t) : s = t := by
  obtain ⟨a, b⟩ := s; obtain ⟨c, d⟩ := t
  unfold pairI at h
  simp only [List.cons.injEq] at h
  have h1 := h.1
  have h2 := h.2.1
  exact Prod.ext (by simp only; omega) (by simp only; omega)
abbrev kvP (M : Ties) : List (List Int × V) := M.map fun t => (pairI t, .bl true)
theorem kvP_keys (M : Ties) : (kvP M).map (·.1) = M.map pairI := by rw [List.map_map]; rfl
theorem mem_pairI {M : Ties} {t : Nat × Nat} : pairI t ∈ M.map pairI ↔ t ∈ M := by
  rw [List.mem_map]
  constructor
  · rintro ⟨s, hs, e⟩; rw [← pairI_inj e]; exact hs
  · intro h; exact ⟨t, h, rfl⟩
theorem kvP_put {M : Ties} (t : Nat × Nat) : putK (kvI (kvP M)) ((pairI t).map Sum.inl) (.bl true) = kvI (kvP (if t ∈ M then M else M ++ [t])) := by
  by_cases h : t ∈ M
  · rw [if_pos h]
    have hs : (valV (kvI (kvP M)) ((pairI t).map Sum.inl)).isSome = true := by rw [kvI_val, kvP_keys]; exact decide_eq_true (mem_pairI.mpr h)
    unfold putK
    rw [if_pos (by rw [valV_any]; exact hs)]
    refine (List.map_congr_left fun kv hkv => ?_).trans (List.map_id _)
    show _ = kv
    split
    · obtain ⟨kv', hkv', rfl⟩ := List.mem_map.mp hkv
      obtain ⟨t', _, rfl⟩ := List.mem_map.mp hkv'
      rfl
    · rfl
  · rw [if_neg h, kvI_put (by rw [kvP_keys]; exact fun z => h (mem_pairI.mp z))]
    unfold kvP
    rw [List.map_append]; rfl
theorem web_sort {M : Ties} (nd : M.Nodup) : ∃ T : Ties, (M.map pairI).mergeSort leB = T.map pairI ∧ T.Pairwise pairLt ∧ (∀ t, t ∈ T ↔ t ∈ M) ∧ T.length = M.length := by
  have nd' : (M.map pairI).Nodup := List.pairwise_map.mpr (nd.imp fun h q => h (pairI_inj q))
  obtain ⟨s1, s2⟩ := sort_outs nd'
  have hp := List.mergeSort_perm (M.map pairI) leB
  obtain ⟨T, hT⟩ : ∃ T : Ties, (M.map pairI).mergeSort leB = T.map pairI := by
    have key : ∀ l : List (List Int), (∀ g ∈ l, ∃ t : Nat × Nat, g = pairI t) → ∃ T : Ties, l = T.map pairI := by
      intro l
      induction l with
      | nil => exact fun _ => ⟨[], rfl⟩
      | cons g l ih =>
        intro h
        obtain ⟨t, rfl⟩ := h g List.mem_cons_self
        obtain ⟨T, rfl⟩ := ih fun g hg => h g (List.mem_cons_of_mem _ hg)
        exact ⟨t :: T, rfl⟩
    refine key _ fun g hg => ?_
    obtain ⟨t, _, e⟩ := List.mem_map.mp ((s2 g).mp hg)
    exact ⟨t, e.symm⟩
  refine ⟨T, hT, ?_, fun t => ?_, ?_⟩
  · rw [hT, List.pairwise_map] at s1
    refine s1.imp fun {a b} h => ?_
    obtain ⟨a1, a2⟩ := a; obtain ⟨b1, b2⟩ := b
    unfold pairI at h
    unfold pairLt
    simp only at h ⊢
    rw [List.cons_lt_cons_iff, List.cons_lt_cons_iff] at h
    rcases h with h | ⟨h1, h | ⟨h2, h3⟩⟩
    · exact .inl (by omega)
    · exact .inr ⟨by omega, by omega⟩
    · exact absurd h3 (List.lt_irrefl _)
  · rw [← mem_pairI, ← hT, s2, mem_pairI]
  · have := hp.length_eq
    rw [hT, List.length_map, List.length_map] at this
    exact this
theorem pairsAt_of {H : Hp} : ∀ {ps : List Addr} {T : Ties}, ITup H ps (T.map pairI) → PairsAt H ps T
  | [], [], .nil => .nil
  | _ :: _, _ :: _, .cons h t => .cons h (pairsAt_of t)
theorem isKeys_itup {H : Hp} : ∀ {kvs : List (List Int × V)} {bs : List Addr}, L2.IsKeys H (kvI kvs) bs → ITup H bs (kvs.map (·.1))
  | [], _, .nil => .nil
  | _ :: _, _, .cons h t => .cons (by rw [← kV_ints]; exact h) (isKeys_itup t)
theorem ev_neP {K : PySem.W.Frag} {σ : L2.St} {H : Hp} {ta tb : TE} {p : Addr} {ps : List Addr} {M : Ties} (ha : Ev ta σ H (.ref p)) (hp : SqL K H p (ps.map V.ref)) (hi : PairsAt H ps M) (hb : EvL tb σ H []) : Ev (tOp (rNeD K) ta tb) σ H (.bl (!M.isEmpty)) := by
  have e := ev_neT ha hp hi.itup hb
  rw [isEmpty_map] at e
  exact e
section
variable {P : Program} {w : World} {K : PySem.W.Frag} {mg : Str → Option Value} {base : Heap} {f : Addr} {fd : FuncData}
/-! ### _law_heights -/
theorem sc_law_heights : FnScope ["_law_row", "_law_many", "_law_high", "_law_one"] ["_law_row", "_law_many", "_law_high"] (defScope (topS 51)) := ⟨rfl, rfl, rfl, by decide +kernel, rfl, by decide +kernel, by decide +kernel⟩
def spHeights (K : PySem.W.Frag) : Sp := fun vs H Q _ => ∃ (a : Addr) (m : Nat) (b : Int) (sc : Addr) (sx : List Int), vs = [.ref a, vN m, .int b] ∧ m ≤ 100 ∧ 1 ≤ b ∧ b ≤ 900 ∧ RowAt K sc sx H a ∧
  ∀ (p : Addr) (gs : List Int) H2, gs.length = m → (∀ x ∈ gs, -1000 ≤ x ∧ x ≤ 1000) → RowX a H H2 → RowAt K sc sx H2 a → H2 p = some (.tup (gs.map V.int)) → Q (.ref p) H2
theorem ok_law_heights (nb : NoB mg) (c_law_taken : Has P w K mg base 1 "_law_taken" ["_law_row", "_law_many"] (spTaken K)) (F : Fun K "_law_heights" "_law_heights" (topS 51) f fd) (g : mg "_law_heights" = some (.ref f)) : Has P w K mg base 2 "_law_heights" ["_law_row", "_law_many", "_law_high"] (spHeights K) := by
  refine .mk' F g (F.binds fun _ _ _ _ _ _ us hl => match us, hl with | [_, _, _], _ => rfl) (F.ok sc_law_heights (fun vs H Q E h => ?_) (fun cdv A outer s H vs Q E hr h => ?_))
  · obtain ⟨a, m, b, sc, sx, rfl, _⟩ := h
    rfl
  · obtain ⟨a, m, b, sc, sx, rfl, hm, hb1, hb2, R, q⟩ := h
    refine ⟨_, (pss_one (ps_ret (pe_callTy call_tuple_of (by rfl) nb.tuple_ (by decide +kernel) (pa_cons (pe_lc (own := [("_law_one", 3)]) (g := (gName 3)) (tt := tYes) rfl sc_law_heights.nd (pi_range1 (by rfl) nb.range_ (pa_cons (pv 1) pa_nil)) (blkOk_by (N := ["_law_row", "_law_many", "_law_high", "_law_one"]) (sc := defScope (topS 51)) (by decide +kernel)) (fun _ _ _ _ _ => (pg_name (i := 3) sc_law_heights.nd rfl (Or.inl rfl))) (fun _ _ _ _ _ => pts_nil) (fun _ _ _ _ _ => (pe_op op_sub (pe_has c_law_taken (hr.mono (by first | decide | exact Nat.le_refl _)) (pa_cons (pv 0) (pa_cons (pv 2) pa_nil))) (pe_op op_fdiv (pv 2) pe_int)))) pa_nil)))), ?_⟩
    refine ⟨vN m, rfl, (m : Int), rfl, by omega, by omega, ?_⟩
    rw [Int.toNat_natCast]
    refine lcG (walk_range (lo := 0) (n := m)) (fun z => z = a) (fun z hz => by rw [hz]; exact R.no) (by omega) (fun i acc H' => RowAt K sc sx H' a ∧ ∃ gs : List Int, acc = gs.map V.int ∧ gs.length = i ∧ ∀ x ∈ gs, -1000 ≤ x ∧ x ≤ 1000) ⟨R, [], rfl, rfl, fun x hx => by simp at hx⟩ (fun _ _ _ _ _ _ => trivial) (fun i acc H' D l' hD hl' h => ⟨R.upd0 h.1 hD, h.2⟩) (fun i x acc H3 H' Post Skip hi e3 h y hp hsk => ?_) (fun D acc H3 hD e3 hacc hal h => ?_)
    · obtain ⟨rfl, rfl⟩ := y
      obtain ⟨R3, gs, rfl, hgl, hgs⟩ := h
      refine ⟨rfl, yes_do ?_⟩
      refine ⟨.ref a, rfl, .int b, rfl, a, b, sc, sx, rfl, hb1, by omega, R3, fun r H4 hr4 x4 R4 => ?_⟩
      refine ⟨.int b, rfl, b, 3, rfl, rfl, ⟨by decide, by decide⟩, _, _, rfl, rfl, ?_⟩
      refine hp _ _ x4 ⟨R4, gs ++ [(r : Int) - b / 3], by rw [List.map_append]; rfl, by rw [List.length_append]; simp [hgl], fun x hx => ?_⟩
      rcases List.mem_append.mp hx with hx | hx
      · exact hgs x hx
      · rw [List.mem_singleton] at hx
        omega
    · obtain ⟨R3, gs, rfl, hgl, hgs⟩ := h
      refine ⟨D, _, rfl, .inl ⟨SqL.of hacc, fun p hp => ?_⟩⟩
      have hp0 : H p = none := by
        cases e : H p with
        | none => rfl
        | some o =>
          by_cases z : p = a
          · rw [z] at hp; exact absurd hp R3.no
          · rw [e3 p o z e] at hp; cases hp
      exact q p gs _ hgl hgs (ex_updD e3 hp0) (R.upd0 R3 hp0) upd_same
/-! ### _law_web -/
theorem sc_law_web : FnScope ["_law_row", "_law_most", "_law_more", "_law_many", "_law_ties_here", "_law_person", "_law_turn", "_law_one"] ["_law_row", "_law_most", "_law_more"] (defScope (topS 50)) := ⟨rfl, rfl, rfl, by decide +kernel, rfl, by decide +kernel, by decide +kernel⟩
def spWeb (K : PySem.W.Frag) : Sp := fun vs H Q _ => ∃ (a : Addr) (most more : Nat) (sc : Addr) (sx : List Int), vs = [.ref a, vN most, vN more] ∧ 1 ≤ most ∧ most ≤ 5 ∧ more ≤ 50 ∧ RowAt K sc sx H a ∧
  ∀ (v : V) (n : Nat) (T : Ties) H2, WebAt H2 v n T → WebOk n T → RowX a H H2 → RowAt K sc sx H2 a → Q v H2
theorem fresh_X {S : Addr → Prop} {H H' : Hp} {p : Addr} (e : ExP S H H') (h : H' p = none) (n : ¬ S p) : H p = none := by
  cases e' : H p with
  | none => rfl
  | some o => rw [e p o n e'] at h; cases h
theorem ok_law_web (nb : NoB mg) (c_law_taken : Has P w K mg base 1 "_law_taken" ["_law_row", "_law_many"] (spTaken K)) (F : Fun K "_law_web" "_law_web" (topS 50) f fd) (g : mg "_law_web" = some (.ref f)) : Has P w K mg base 2 "_law_web" ["_law_row", "_law_most", "_law_more"] (spWeb K) := by
  refine .mk' F g (F.binds fun _ _ _ _ _ _ us hl => match us, hl with | [_, _, _], _ => rfl) (F.ok sc_law_web (fun vs H Q E h => ?_) (fun cdv A outer s H vs Q E hr h => ?_))
  · obtain ⟨a, most, more, sc, sx, rfl, _⟩ := h
    rfl
  · obtain ⟨a, most, more, sc, sx, rfl, hm1, hm2, hm3, R, q⟩ := h
    have hu := hu_of hr
    refine ⟨_, (pss_cons (ps_set (i := 3) sc_law_web.nd rfl (Or.inl rfl) (pe_op op_add pe_int (pe_has c_law_taken (hr.mono (by first | decide | exact Nat.le_refl _)) (pa_cons (pv 0) (pa_cons (pv 1) pa_nil)))))
      (pss_cons (ps_set (i := 4) sc_law_web.nd rfl (Or.inl rfl) pe_dnewT)
      (pss_cons (ps_for PassesOwn.never rfl (pi_range2 (by rfl) nb.range_ (pa_cons pe_int (pa_cons (pv 3) pa_nil))) (pg_name (i := 5) sc_law_web.nd rfl (Or.inl rfl))
        (pss_one (ps_if (pt_cmpR op_gt (pe_has c_law_taken (hr.mono (by first | decide | exact Nat.le_refl _)) (pa_cons (pv 0) (pa_cons pe_int pa_nil))) pe_int (nomark _)) (pss_one (ps_dput hu (pv 4) (pe_tup (pa_cons (pe_has c_law_taken (hr.mono (by first | decide | exact Nat.le_refl _)) (pa_cons (pv 0) (pa_cons (pv 5) pa_nil))) (pa_cons (pv 5) pa_nil))) pe_bl rfl)) pss_nil)))
      (pss_cons (ps_for PassesOwn.never rfl (pi_range1 (by rfl) nb.range_ (pa_cons (pe_ifExp (pt_cmpR op_gt (pv 3) pe_int (nomark _)) (pe_has c_law_taken (hr.mono (by first | decide | exact Nat.le_refl _)) (pa_cons (pv 0) (pa_cons (pe_op op_add (pv 2) pe_int) pa_nil))) pe_int) pa_nil)) (pg_name (i := 6) sc_law_web.nd rfl (Or.inl rfl))
        (pss_cons (ps_set (i := 7) sc_law_web.nd rfl (Or.inl rfl) (pe_has c_law_taken (hr.mono (by first | decide | exact Nat.le_refl _)) (pa_cons (pv 0) (pa_cons (pe_op op_sub (pv 3) pe_int) pa_nil))))
      (pss_one (ps_dput hu (pv 4) (pe_tup (pa_cons (pv 7) (pa_cons (pe_op op_add (pe_op op_add (pv 7) pe_int) (pe_has c_law_taken (hr.mono (by first | decide | exact Nat.le_refl _)) (pa_cons (pv 0) (pa_cons (pe_op op_sub (pe_op op_sub (pv 3) pe_int) (pv 7)) pa_nil)))) pa_nil))) pe_bl rfl))))
      (pss_one (ps_ret (pe_tup (pa_cons (pv 3) (pa_cons (pe_callTy call_tuple_of (by rfl) nb.tuple_ (by decide +kernel) (pa_cons (pe_callB (cr_sortTI hr.units) (by rfl) nb.sorted_ (by decide +kernel) (pa_cons (pe_callTy (call_list_dT rfl) (by rfl) nb.list_ (by decide +kernel) (pa_cons (pv 4) pa_nil)) pa_nil)) pa_nil)) pa_nil))))))))), ?_⟩
    have sz := sizeLine_eq
    refine ⟨.ref a, rfl, vN most, rfl, a, (most : Int), sc, sx, rfl, by omega, by omega, R, fun r H1 hr1 x1 R1 => ⟨_, _, rfl, rfl, ?_⟩⟩
    obtain ⟨n, hn⟩ : ∃ n : Nat, n = r + 1 := ⟨_, rfl⟩
    have hnV : V.int (1 + (r : Int)) = vN n := by rw [hn, show (1 + (r : Int)) = ((r + 1 : Nat) : Int) by omega]
    have hn1 : 1 ≤ n := by omega
    have hn5 : n ≤ 5 := by omega
    -- ties = {}
    refine rd_nameE hnV (rd_nx (fun KA hKA => ?_))
    have hKAa : KA ≠ a := R1.off hKA
    have hKA0 : H KA = none := fresh_X x1 hKA hKAa
    have R2 : RowAt K sc sx (upd H1 KA (.dT [])) a := R1.upd0 R1 hKA
    have x2 : RowX a H (upd H1 KA (.dT [])) := ex_updD x1 hKA0
    -- one more tie
    have put : ∀ {H' : Hp} {M : Ties} {p o : Nat} {j : Nat} (KP : Addr), RowX a H H' → RowAt K sc sx H' a → H' KA = some (.dT (kvI (kvP M))) → M.Nodup → (∀ t ∈ M, t.1 < t.2 ∧ t.2 < n) → M.length ≤ j → j ≤ 90 → p < o → o < n → H' KP = none →
        ∃ H4, DPut (upd H' KP (.tup [vN p, vN o])) KA (.ref KP) (.bl true) H4 ∧ RowX a H H4 ∧ RowAt K sc sx H4 a ∧ ∃ M' : Ties, H4 KA = some (.dT (kvI (kvP M'))) ∧ M'.Nodup ∧ (∀ t ∈ M', t.1 < t.2 ∧ t.2 < n) ∧ M'.length ≤ j + 1 := by
      intro H' M p o j KP x' R' hk nd ht hj hj2 hpo hon hKP
      have hKPa := R'.off hKP
      have hKP0 := fresh_X x' hKP hKPa
      have hKK : KA ≠ KP := fun z => by rw [z, hKP] at hk; cases hk
      have hk' : (upd H' KP (.tup [vN p, vN o])) KA = some (.dT (kvI (kvP M))) := by rw [upd_ne hKK]; exact hk
      refine ⟨_, DPut.t (k := (pairI (p, o)).map Sum.inl) hk' (by rw [kV_ints]; exact upd_same) (by rw [List.length_map, List.length_map]; omega), ?_, ?_, (if (p, o) ∈ M then M else M ++ [(p, o)]), ?_, ?_, ?_, ?_⟩
      · exact ex_updD (ex_updD x' hKP0) hKA0
      · exact R.upd0 (R.upd0 R' hKP0) hKA0
      · rw [upd_same, kvP_put]
      · split
        · exact nd
        · rename_i hno
          rw [List.nodup_append]
          exact ⟨nd, List.nodup_cons.mpr ⟨by simp, List.nodup_nil⟩, fun x hx y hy e => by rw [List.mem_singleton] at hy; subst hy; subst e; exact hno hx⟩
      · split
        · exact ht
        · intro t h
          rcases List.mem_append.mp h with h | h
          · exact ht t h
          · rw [List.mem_singleton] at h; subst h; exact ⟨hpo, hon⟩
      · split
        · omega
        · rw [List.length_append]; simp only [List.length_singleton]; omega
    -- for person in range(1, many)
    refine rd_name (rd_nx (q_forR2 (lo := 1) (n := (n : Int)) (ea_cons ev_c (ea_cons (ev_var rfl) ea_nil)) ⟨by omega, by omega, by omega, by omega⟩
      (fun i σ H' => RowX a H H' ∧ RowAt K sc sx H' a ∧ (∃ y5 y6 y7, σ = [some (.ref a), some (vN most), some (vN more), some (vN n), some (.ref KA), y5, y6, y7]) ∧ ∃ M : Ties, H' KA = some (.dT (kvI (kvP M))) ∧ M.Nodup ∧ (∀ t ∈ M, t.1 < t.2 ∧ t.2 < n) ∧ M.length ≤ i)
      (fun H3 e3 => ⟨x2.trans (.of e3), R2.ex e3, ⟨_, _, _, rfl⟩, [], e3 _ _ upd_same, List.nodup_nil, fun t h => by simp at h, Nat.le_refl _⟩) (fun i σ H' hi h => ?_) (fun σ H' h => ?_)))
    · obtain ⟨x3, R3, ⟨y5, y6, y7, rfl⟩, M, hk, nd, ht, hMl⟩ := h
      refine ⟨.ref a, rfl, a, 7, sc, sx, rfl, by decide, by decide, R3, fun r4 H4 hr4 x4 R4 => ⟨_, _, rfl, rfl, _, rfl, if_d (fun hb => ?_) (fun hb => ?_)⟩⟩
      · have hk4 : H4 KA = some (.dT (kvI (kvP M))) := x4 _ _ hKAa hk
        refine ⟨.ref KA, rfl, .ref a, rfl, .int (1 + (i : Int)), rfl, a, 1 + (i : Int), sc, sx, rfl, by omega, by omega, R4, fun r5 H5 hr5 x5 R5 => ⟨.int (1 + (i : Int)), rfl, by show 2 ≤ sizeLine; omega, fun KP hKP => ?_⟩⟩
        have hk5 : H5 KA = some (.dT (kvI (kvP M))) := x5 _ _ hKAa hk4
        have e1 : V.int (1 + (i : Int)) = vN (i + 1) := by rw [show (1 + (i : Int)) = ((i + 1 : Nat) : Int) by omega]
        obtain ⟨H6, hput, x6, R6, M', g1, g2, g3, g4⟩ := put (p := r5) (o := i + 1) (j := i) KP ((x3.trans x4).trans x5) R5 hk5 nd ht hMl (by omega) (by omega) (by omega) hKP
        rw [← e1] at hput
        exact ⟨KA, H6, rfl, hput, x6, R6, ⟨_, _, _, rfl⟩, M', g1, g2, g3, g4⟩
      · exact ⟨x3.trans x4, R4, ⟨_, _, _, rfl⟩, M, x4 _ _ hKAa hk, nd, ht, by omega⟩
    obtain ⟨x3, R3, ⟨y5, y6, y7, rfl⟩, M, hk, nd, ht, hMl⟩ := h
    have hMl' : M.length ≤ 5 := by omega
    -- the end
    have fin : ∀ (σ : L2.St) (H' : Hp), (RowX a H H' ∧ RowAt K sc sx H' a ∧ (∃ y5 y6 y7, σ = [some (.ref a), some (vN most), some (vN more), some (vN n), some (.ref KA), y5, y6, y7]) ∧ ∃ M : Ties, H' KA = some (.dT (kvI (kvP M))) ∧ M.Nodup ∧ (∀ t ∈ M, t.1 < t.2 ∧ t.2 < n) ∧ M.length ≤ 100) →
        tRet (tTup (tCons (tVar 3) (tCons (tCB (fun xs H Q => ∃ p ys, xs = [.ref p] ∧ ((SqL K H p ys ∧ ∀ l, H l = none → Q (.ref l) (upd H l (.tup ys))) ∨ (SqT K H p ys ∧ Q (.ref p) H))) (tCons (tCB (rSortTI K) (tCons (tCB (fun xs H Q => ∃ d kvs, xs = [V.ref d] ∧ Rd H d (.dT kvs) ∧ ∀ p bs, H p = none → L2.IsKeys H kvs bs → Q (.ref p) (upd H p (.lst (bs.map V.ref)))) (tCons (tVar 4) tNil)) tNil)) tNil)) tNil))) { nx := fun _ H' => Q .non H', rt := Q } σ H' := by
      rintro σ H' ⟨x4, R4, ⟨y5, y6, y7, rfl⟩, M, hk, nd, ht, hMl⟩
      refine ⟨vN n, rfl, .ref KA, rfl, KA, _, rfl, .inl hk, fun LP bs hLP hbs => ?_⟩
      have hLP0 := fresh_X x4 hLP (R4.off hLP)
      have x5 : RowX a H (upd H' LP (.lst (bs.map V.ref))) := ex_updD x4 hLP0
      have R5 := R.upd0 R4 hLP0 (o := .lst (bs.map V.ref))
      have hT5 : ITup (upd H' LP (.lst (bs.map V.ref))) bs (M.map pairI) := by
        rw [← kvP_keys]
        exact ITup.ex (.of (Ex.new hLP)) (isKeys_itup hbs)
      refine ⟨LP, bs, M.map pairI, rfl, SqL.of upd_same, hT5, fun b hb => by obtain ⟨t, _, rfl⟩ := List.mem_map.mp hb; simp [pairI], fun ps' SP hps' hSP => ?_⟩
      obtain ⟨T, hT1, hT2, hT3, hT4⟩ := web_sort nd
      rw [hT1] at hps'
      have hSP0 := fresh_X x5 hSP (R5.off hSP)
      have x6 := ex_updD x5 hSP0 (o := .lst (ps'.map V.ref))
      have R6 := R.upd0 R5 hSP0 (o := .lst (ps'.map V.ref))
      refine ⟨SP, _, rfl, .inl ⟨SqL.of upd_same, fun TP hTP => ⟨by show 2 ≤ sizeLine; omega, fun WP hWP => ?_⟩⟩⟩
      have hTP0 := fresh_X x6 hTP (R6.off hTP)
      have x7 := ex_updD x6 hTP0 (o := .tup (ps'.map V.ref))
      have R7 := R.upd0 R6 hTP0 (o := .tup (ps'.map V.ref))
      have hWP0 := fresh_X x7 hWP (R7.off hWP)
      have x8 := ex_updD x7 hWP0 (o := .tup [vN n, .ref TP])
      have R8 := R.upd0 R7 hWP0 (o := .tup [vN n, .ref TP])
      refine q (.ref WP) n T _ ⟨WP, TP, ps', rfl, upd_same, ?_, pairsAt_of (ITup.ex (.of (((Ex.new hSP).trans (Ex.new hTP)).trans (Ex.new hWP))) hps')⟩ { pos := hn1, few := hn5, tie := fun t h => ht t ((hT3 t).mp h), srt := hT2, short := by omega } x8 R8
      exact (Ex.new hWP) _ _ upd_same
    -- for turn in range(.. if many > 1 else 0)
    refine rd_forIf (b := decide (1 < n)) (fun k H2 => RowX a H H2 ∧ RowAt K sc sx H2 a ∧ H2 KA = some (.dT (kvI (kvP M))) ∧ k ≤ more ∧ (1 < n ∨ k = 0)) (et_is (et_test (ev_op (ev_var (v := vN n) rfl) ev_c rv_I0)) (by by_cases z : 1 < n <;> simp [z] <;> omega)) (fun k H2 hk2 => ?_) (fun H4 e4 Q' q' => ?_)
    · obtain ⟨x4, R4, hk4, hkm, hkn⟩ := hk2
      refine for_it (walk_range (lo := 0) (n := k)) (fun i σ H' => RowX a H H' ∧ RowAt K sc sx H' a ∧ (∃ y5 y6 y7, σ = [some (.ref a), some (vN most), some (vN more), some (vN n), some (.ref KA), y5, y6, y7]) ∧ ∃ M : Ties, H' KA = some (.dT (kvI (kvP M))) ∧ M.Nodup ∧ (∀ t ∈ M, t.1 < t.2 ∧ t.2 < n) ∧ M.length ≤ 5 + i)
        ⟨x4, R4, ⟨_, _, _, rfl⟩, M, hk4, nd, ht, by omega⟩ (fun _ _ _ _ _ => trivial) (fun i x σ H' H'' hi h y => ?_) (fun σ H' h => ?_)
      · obtain ⟨rfl, rfl⟩ := y
        obtain ⟨x5, R5, ⟨y5, y6, y7, rfl⟩, M5, hk5, nd5, ht5, hMl5⟩ := h
        have hn2 : 1 < n := by omega
        refine ⟨.ref a, rfl, vN n, rfl, _, _, rfl, rfl, a, (n : Int) - 1, sc, sx, rfl, by omega, by omega, R5, fun r6 H6 hr6 x6 R6 => ?_⟩
        refine ⟨.ref KA, rfl, vN r6, rfl, vN r6, rfl, _, _, rfl, rfl, .ref a, rfl, vN n, rfl, _, _, rfl, rfl, vN r6, rfl, _, _, rfl, rfl, a, (n : Int) - 1 - (r6 : Int), sc, sx, rfl, by omega, by omega, R6, fun r7 H7 hr7 x7 R7 => ⟨_, _, rfl, rfl, by show 2 ≤ sizeLine; omega, fun KP hKP => ?_⟩⟩
        have hk7 : H7 KA = some (.dT (kvI (kvP M5))) := x7 _ _ hKAa (x6 _ _ hKAa hk5)
        obtain ⟨H8, hput, x8, R8, M', g1, g2, g3, g4⟩ := put (p := r6) (o := r6 + 1 + r7) (j := 5 + i) KP ((x5.trans x6).trans x7) R7 hk7 nd5 ht5 hMl5 (by omega) (by omega) (by omega) hKP
        have e1 : V.int ((r6 : Int) + 1 + (r7 : Int)) = vN (r6 + 1 + r7) := by rw [show ((r6 : Int) + 1 + (r7 : Int)) = ((r6 + 1 + r7 : Nat) : Int) by omega]
        rw [← e1] at hput
        exact ⟨KA, H8, rfl, hput, x8, R8, ⟨_, _, _, rfl⟩, M', g1, g2, g3, by omega⟩
      · obtain ⟨x5, R5, hσ, M5, hk5, nd5, ht5, hMl5⟩ := h
        exact fin σ H' ⟨x5, R5, hσ, M5, hk5, nd5, ht5, by omega⟩
    · by_cases hn2 : 1 < n
      · rw [if_pos (by simpa using hn2)]
        refine ⟨.ref a, rfl, vN more, rfl, _, _, rfl, rfl, a, (more : Int) + 1, sc, sx, rfl, by omega, by omega, R3.ex e4, fun r5 H5 hr5 x5 R5 => ?_⟩
        exact q' r5 H5 (by omega) ⟨(x3.trans (.of e4)).trans x5, R5, x5 _ _ hKAa (e4 _ _ hk), by omega, .inl hn2⟩
      · rw [if_neg (by simpa using hn2)]
        exact q' 0 H4 (by omega) ⟨x3.trans (.of e4), R3.ex e4, e4 _ _ hk, by omega, .inr rfl⟩
end
end Hv
end
section
set_option Elab.async false
set_option linter.all false
set_option maxRecDepth 100000
set_option maxHeartbeats 4000000
namespace Hv
open PySem PySem.Spec PyProof.Rows L2 Evl
section
variable {P : Program} {w : World} {K : PySem.W.Frag} {mg : Str → Option Value} {base : Heap} {f : Addr} {fd : FuncData}
/-! ### _law_parts -/
theorem sc_law_parts : FnScope ["_law_web_here", "_law_lot", "_law_found", "_law_left", "_law_some", "_law_turn", "_law_one", "_law_other", "_law_person"] ["_law_web_here", "_law_lot"] (defScope (topS 53)) := ⟨rfl, rfl, rfl, by decide +kernel, rfl, by decide +kernel, by decide +kernel⟩
def spLParts : Sp := fun vs H Q _ => ∃ (v : V) (n : Nat) (T : Ties) (L : Addr) (lot : List Nat), vs = [v, .ref L] ∧ WebAt H v n T ∧ WebOk n T ∧ H L = some (.tup (lot.map vN)) ∧ (∀ i ∈ lot, i < n) ∧ lot.length ≤ 1000 ∧
  ∀ (p : Addr) (ps : List Addr) H2, H p = none → Ex H H2 → H2 p = some (.lst (ps.map V.ref)) → TupsN H2 ps (partsL T n lot) → Q (.ref p) H2
theorem ok_law_parts (nb : NoB mg) (F : Fun K "_law_parts" "_law_parts" (topS 53) f fd) (g : mg "_law_parts" = some (.ref f)) : Has P w K mg base 1 "_law_parts" ["_law_web_here", "_law_lot"] spLParts := by
  refine .mk' F g (F.binds fun _ _ _ _ _ _ us hl => match us, hl with | [_, _], _ => rfl) (F.ok sc_law_parts (fun vs H Q E h => ?_) (fun cdv A outer s H vs Q E hr h => ?_))
  · obtain ⟨v, n, T, L, lot, rfl, _⟩ := h
    rfl
  · obtain ⟨v, n, T, L, lot, rfl, hw, W, hL, hln, hlz, q⟩ := h
    obtain ⟨wa, wb, tps, rfl, hwa, hwb, htps⟩ := id hw
    refine ⟨_, (pss_cons (ps_par (i := 2) (j := 3) rfl sc_law_parts.nd rfl rfl (by decide) rfl rfl (pa_cons (pe_lst pa_nil) (pa_cons (pe_callTy call_list_of (by rfl) nb.list_ (by decide +kernel) (pa_cons (pv 1) pa_nil)) pa_nil)) (by rfl))
      (pss_cons (ps_while PassesOwn.never (pt_cmpR (op_neD hr.units) (pv 3) (pe_lst pa_nil) (nomark _)) (pss_cons (ps_set (i := 4) sc_law_parts.nd rfl (Or.inr rfl) (pe_lst (pa_cons (pe_ix ix_list (pv 3) pe_int (fun _ _ => rfl)) pa_nil)))
      (pss_cons (ps_for PassesOwn.never rfl (pi_range1 (by rfl) nb.range_ (pa_cons (pe_callB call_len_seq (by rfl) nb.len_ (by decide +kernel) (pa_cons (pv 3) pa_nil)) pa_nil)) (pg_name (i := 5) sc_law_parts.nd rfl (Or.inl rfl))
        (pss_one (ps_for PassesOwn.never rfl (pi_tup (pe_ix ix_tup (pv 0) pe_int (fun _ _ => rfl))) (pg_tup (n := 2) rfl (pgs_cons (pg_name (i := 6) sc_law_parts.nd rfl (Or.inl rfl)) (pgs_cons (pg_name (i := 7) sc_law_parts.nd rfl (Or.inl rfl)) pgs_nil)))
        (pss_one (ps_if (PW.pt (pw_and (pt_cmpR op_in_seq (pv 6) (pv 1) (by with_unfolding_all rfl)) (pw_and (pt_cmpR op_in_seq (pv 7) (pv 1) (by with_unfolding_all rfl)) (pw_and1 (pt_cmpR op_ne (pe_cmpR op_in_seq (pv 6) (pv 4) (by with_unfolding_all rfl)) (pe_cmpR op_in_seq (pv 7) (pv 4) (by with_unfolding_all rfl)) (nomark _)))))) (pss_one (ps_set (i := 4) sc_law_parts.nd rfl (Or.inr rfl) (pe_op op_cat (pv 4) (pe_lst (pa_cons (pe_ifExp (pt_cmpR op_in_seq (pv 6) (pv 4) (by with_unfolding_all rfl)) (pv 7) (pv 6)) pa_nil))))) pss_nil)))))
      (pss_cons (ps_expr (pe_bm PySem.F.plainAttrs_list PySem.F.slot_list_append PySem.F.type_list_append mt_append (pv 2) (pa_cons (pe_callTy call_tuple_of (by rfl) nb.tuple_ (by decide +kernel) (pa_cons (pe_callB cr_sortedI (by rfl) nb.sorted_ (by decide +kernel) (pa_cons (pv 4) pa_nil)) pa_nil)) pa_nil)))
      (pss_one (ps_setLc (i := 3) (own := [("_law_person", 8)]) (g := (gName 8)) rfl sc_law_parts.nd rfl rfl (sw_true rfl rfl rfl (by decide +kernel)) (pi_list (pv 3)) (blkOk_by (N := ["_law_web_here", "_law_lot", "_law_found", "_law_left", "_law_some", "_law_turn", "_law_one", "_law_other", "_law_person"]) (sc := defScope (topS 53)) (by decide +kernel)) (fun _ _ _ _ _ => (pg_name (i := 8) sc_law_parts.nd rfl (Or.inl rfl))) (fun _ _ _ _ _ => (pts_one (pt_cmpR (op_niK (K := K) rfl) (pv 8) (pv 4) (by with_unfolding_all rfl)))) (fun _ _ _ _ _ => (pv 8))))))))
      (pss_one (ps_ret (pv 2))))), ?_⟩
    have hn5 := W.few
    have sz := sizeLine_eq
    refine q_parLL (el_lst ea_nil (by decide)) (fun H1 e1 Q' q' => ⟨.ref L, rfl, L, _, rfl, .inr (SqT.of (e1 _ _ hL)), fun l hl => q' l _ hl (Ex.new hl) upd_same⟩) fun FA LA H1 hFA hLA hne e0 hf0 hl0 => ?_
    refine q_while (fun m σ H' => Ex H H' ∧ ∃ (LA : Addr) (left : List Nat) (ps : List Addr) (done : List (List Nat)), (∃ y4 y5 y6 y7 y8, σ = [some (.ref wa), some (.ref L), some (.ref FA), some (.ref LA), y4, y5, y6, y7, y8]) ∧ H' FA = some (.lst (ps.map V.ref)) ∧ H' LA = some (.lst (left.map vN)) ∧ H LA = none ∧ LA ≠ FA ∧ TupsN H' ps done ∧ ClosedIn T lot left ∧ left.length + done.length ≤ lot.length ∧ done ++ partsF T n lot lot.length left = partsL T n lot ∧ m = left.length)
      lot.length ⟨e0, LA, lot, [], [], ⟨_, _, _, _, _, rfl⟩, hf0, hl0, hLA, Ne.symm hne, .nil, closed_all lot, by simp, rfl, rfl⟩ ?_
    rintro m σ H' ⟨e1, LA, left, ps, done, ⟨y4, y5, y6, y7, y8, rfl⟩, hf, hl, hLA, hLF, hps, C, hlen, heq, rfl⟩
    have hn : ∀ i ∈ left, i < n := fun i hi => hln i (C.1 i hi)
    refine ⟨!left.isEmpty, et_test (ev_neE (ev_var rfl) (SqL.of hl) (el_lst ea_nil (by decide))), fun hb H2 e2 => ?_, fun hb H2 e2 => ?_⟩
    · cases left with
      | nil => cases hb
      | cons x left =>
        have e3 := e1.trans e2
        have hxl : x ∈ lot := C.1 x List.mem_cons_self
        have hxn := hn x List.mem_cons_self
        have dl : ps.length = done.length := Paired.length hps
        refine ⟨fun σ' H' => ∃ m', m' < (x :: left).length ∧ Ex H H' ∧ ∃ (LA : Addr) (left : List Nat) (ps : List Addr) (done : List (List Nat)), (∃ y4 y5 y6 y7 y8, σ' = [some (.ref wa), some (.ref L), some (.ref FA), some (.ref LA), y4, y5, y6, y7, y8]) ∧ H' FA = some (.lst (ps.map V.ref)) ∧ H' LA = some (.lst (left.map vN)) ∧ H LA = none ∧ LA ≠ FA ∧ TupsN H' ps done ∧ ClosedIn T lot left ∧ left.length + done.length ≤ lot.length ∧ done ++ partsF T n lot lot.length left = partsL T n lot ∧ m' = left.length, fun _ _ h => h, ?_⟩
        -- some = [left[0]]
        refine q_asgL (xs := [vN x]) (el_lst (ea_cons (ev_op (ev_var (v := .ref LA) rfl) ev_c (rv_ixL (SqL.of (e2 _ _ hl)) (atI_nat (j := 0) rfl))) ea_nil) (by show 1 ≤ 100000; decide)) fun S0 H3 hS0 e4 hs0 => ?_
        have few : ∀ {s : List Nat}, s.Nodup → (∀ y ∈ s, Conn T (· ∈ lot) x y) → s.length ≤ n := fun nd pr => by
          have := nodup_sub_len nd (m := List.range n) fun q hq => List.mem_range.mpr ((pr q hq).lt W hxn)
          rwa [List.length_range] at this
        -- the rounds
        refine q_forR1 (n := ((x :: left).length : Int)) (ea_cons (ev_lenL (ev_var rfl) (SqL.of (e4 _ _ (e2 _ _ hl))) (by rw [List.length_map])) ea_nil) ⟨by omega, by omega⟩
          (fun k σ' H' => Ex H3 H' ∧ ∃ (S : Addr) (s : List Nat), (∃ y5 y6 y7 y8, σ' = [some (.ref wa), some (.ref L), some (.ref FA), some (.ref LA), some (.ref S), y5, y6, y7, y8]) ∧ H' S = some (.lst (s.map vN)) ∧ Rnd T lot x k s)
          (fun H4 e5 => ⟨e5, S0, [x], ⟨_, _, _, _, rfl⟩, e5 _ _ hs0, .start⟩) (fun k σ' H' hk h => ?_) (fun σ' H' h => ?_)
        · obtain ⟨e5, S, s, ⟨y5, y6, y7, y8, rfl⟩, hS, R⟩ := h
          have e05 := (e3.trans e4).trans e5
          refine s_forT (ev_op (ev_var rfl) ev_c (rv_ixT (SqT.of (e05 _ _ hwa)) (atI_nat (j := 1) rfl))) (SqT.of (e05 _ _ hwb))
            (fun i σ' H' => Ex H3 H' ∧ ∃ (S : Addr) (s : List Nat), (∃ y5 y6 y7 y8, σ' = [some (.ref wa), some (.ref L), some (.ref FA), some (.ref LA), some (.ref S), y5, y6, y7, y8]) ∧ H' S = some (.lst (s.map vN)) ∧ RndIn T lot x k (T.take i) s)
            (fun H6 e6 => ⟨e5.trans e6, S, s, ⟨_, _, _, _, rfl⟩, e6 _ _ hS, R.begin⟩) (fun i σ' H' _ h => SqT.of (((e3.trans e4).trans h.1) _ _ hwb)) (fun i z σ' H' hz h => ?_) (fun σ' H' h => ?_)
          · obtain ⟨e6, S, s, ⟨y5, y6, y7, y8, rfl⟩, hS, R⟩ := h
            rw [List.getElem?_map] at hz
            obtain ⟨pt, hpt, rfl⟩ := Option.map_eq_some_iff.mp hz
            obtain ⟨t, ht, htp⟩ := paired_getL htps hpt
            have e06 := (e3.trans e4).trans e6
            have hsl := few R.nd R.pr
            refine ⟨pt, _, rfl, SqT.of (e06 _ _ htp), rfl, vN t.1, [vN t.2], rfl, vN t.2, [], rfl, rfl, ?_⟩
            refine s_when (b := decide (t.1 ∈ lot) && (decide (t.2 ∈ lot) && !decide (decide (t.1 ∈ s) = decide (t.2 ∈ s)))) (et_and (et_test (ev_inT (ev_var rfl) (ev_var rfl) (SqT.of (e06 _ _ hL)))) fun _ => et_and (et_test (ev_inT (ev_var rfl) (ev_var rfl) (SqT.of (e06 _ _ hL)))) fun _ => et_test (ev_neB (ev_inL (ev_var rfl) (ev_var rfl) (SqL.of hS)) (ev_inL (ev_var rfl) (ev_var rfl) (SqL.of hS)))) (fun hc H7 e7 => ?_) (fun hc H7 e7 => ?_)
            · simp only [Bool.and_eq_true, decide_eq_true_eq, Bool.not_eq_true', decide_eq_false_iff_not, decide_eq_decide] at hc
              obtain ⟨ha, hb2, hx2⟩ := hc
              obtain ⟨y, hy⟩ : ∃ y, y = if t.1 ∈ s then t.2 else t.1 := ⟨_, rfl⟩
              have hgrow : (t.1 ∈ s ∧ t.2 ∉ s ∧ y = t.2) ∨ (t.1 ∉ s ∧ t.2 ∈ s ∧ y = t.1) := by
                by_cases z : t.1 ∈ s
                · exact .inl ⟨z, fun z2 => hx2 ⟨fun _ => z2, fun _ => z⟩, by rw [hy, if_pos z]⟩
                · refine .inr ⟨z, ?_, by rw [hy, if_neg z]⟩
                  by_cases z2 : t.2 ∈ s
                  · exact z2
                  · exact absurd ⟨fun h => absurd h z, fun h => absurd h z2⟩ hx2
              have hif : Ev (tIf (tTest (tOp (rIn K false) (tVar 6) (tVar 4))) (tVar 7) (tVar 6)) [some (.ref wa), some (.ref L), some (.ref FA), some (.ref LA), some (.ref S), y5, some (vN t.1), some (vN t.2), y8] H7 (vN y) := by
                refine ev_if (b := decide (t.1 ∈ s)) (et_test (ev_inL (ev_var rfl) (ev_var rfl) (SqL.of (e7 _ _ hS)))) (fun z => ev_var ?_) (fun z => ev_var ?_)
                · rw [hy, if_pos (of_decide_eq_true z)]; rfl
                · rw [hy, if_neg (of_decide_eq_false z)]; rfl
              refine ⟨.ref S, rfl, ?_⟩
              refine el_lst (ea_cons hif ea_nil) (by show 1 ≤ 100000; decide) H7 (Ex.refl _) _ fun Y H8 hY e8 hYl => ?_
              refine ⟨S, Y, s.map vN, [vN y], rfl, rfl, e8 _ _ (e7 _ _ hS), hYl, by rw [List.length_map]; show _ + 1 ≤ _; omega, fun N hN => ?_⟩
              refine ⟨((e6.trans e7).trans e8).trans (Ex.new hN), N, s ++ [y], ⟨_, _, _, _, rfl⟩, by rw [upd_same, List.map_append]; rfl, ?_⟩
              rw [take_next ht]
              exact R.grow hxl (List.mem_of_getElem? ht) ha hb2 hgrow
            · refine ⟨e6.trans e7, S, s, ⟨_, _, _, _, rfl⟩, e7 _ _ hS, ?_⟩
              rw [take_next ht]
              refine R.pass fun z => ?_
              have h1 : decide (t.1 ∈ lot) = true := decide_eq_true z.1
              have h2 : decide (t.2 ∈ lot) = true := decide_eq_true z.2.1
              rw [h1, h2] at hc
              simp only [Bool.true_and, Bool.not_eq_false', decide_eq_true_eq, decide_eq_decide] at hc
              exact z.2.2 hc
          · obtain ⟨e6, S, s, hσ, hS, R⟩ := h
            rw [List.length_map, show tps.length = T.length from Paired.length htps, List.take_length] at R
            exact ⟨e6, S, s, hσ, hS, R.over hxl⟩
        · obtain ⟨e5, S, s, ⟨y5, y6, y7, y8, rfl⟩, hS, R⟩ := h
          rw [Int.toNat_natCast] at R
          have e05 := (e3.trans e4).trans e5
          have hwhole := R.whole C List.mem_cons_self
          have hsl := few R.nd R.pr
          -- found.append(tuple(sorted(some)))
          refine ⟨.ref FA, rfl, .inl ⟨rfl, _, SqL.of (e5 _ _ (e4 _ _ (e2 _ _ hf)))⟩, ?_⟩
          refine ⟨.ref S, rfl, S, s.map (fun i : Nat => (i : Int)), rfl, SqL.of (by rw [← ints_N]; exact hS), fun ns' SP hpm hsrt hSP => ?_⟩
          refine ⟨SP, _, rfl, .inl ⟨SqL.of upd_same, fun TP hTP => ?_⟩⟩
          have hns := hang_sorted_eq W hxn R.nd hwhole hpm hsrt
          have e6 : Ex H' (upd (upd H' SP (.lst (ns'.map V.int))) TP (.tup (ns'.map V.int))) := (Ex.new hSP).trans (Ex.new hTP)
          have hF6 := e6 _ _ (e5 _ _ (e4 _ _ (e2 _ _ hf)))
          have hTF : TP ≠ FA := fun z => by rw [← z, upd_same] at hF6; cases hF6
          have hT6 : (upd (upd H' SP (.lst (ns'.map V.int))) TP (.tup (ns'.map V.int))) TP = some (.tup ((hangL T n lot x).map vN)) := by rw [upd_same, hns, ints_N]
          have hS6 := e6 _ _ hS
          have hSF : S ≠ FA := fun z => by
            have h1 := hS
            rw [z, e5 _ _ (e4 _ _ (e2 _ _ hf))] at h1
            have := Option.some.inj h1
            have h2 : ps.map V.ref = s.map vN := HO.lst.inj this
            cases ps with
            | nil =>
              have := R.at_
              cases s with
              | nil => simp at this
              | cons a b => cases h2
            | cons a b =>
              cases s with
              | nil => cases h2
              | cons c d => cases (List.cons.inj h2).1
          have hLA6 := e6 _ _ (e5 _ _ (e4 _ _ (e2 _ _ hl)))
          generalize hH6 : upd (upd H' SP (.lst (ns'.map V.int))) TP (.tup (ns'.map V.int)) = H6 at e6 hF6 hT6 hS6 hLA6 ⊢
          have e06 := e05.trans e6
          have hfl := left_less (T := T) (lot := lot) (left := left) hxn
          rw [List.length_cons] at hlen
          refine ⟨FA, ps.map V.ref, .ref TP, rfl, rfl, hF6, by rw [List.length_map]; omega, ?_⟩
          have e7 : Ex H (upd H6 FA (.lst (ps.map V.ref ++ [.ref TP]))) := e06.mut hFA
          have hl7 : (upd H6 FA (.lst (ps.map V.ref ++ [.ref TP]))) LA = some (.lst ((x :: left).map vN)) := by rw [upd_ne hLF]; exact hLA6
          have ht7 : (upd H6 FA (.lst (ps.map V.ref ++ [.ref TP]))) TP = some (.tup ((hangL T n lot x).map vN)) := by rw [upd_ne hTF]; exact hT6
          have hs7 : (upd H6 FA (.lst (ps.map V.ref ++ [.ref TP]))) S = some (.lst (s.map vN)) := by rw [upd_ne hSF]; exact hS6
          have mem : ∀ i ∈ x :: left, decide (i ∈ s) = decide (i ∈ hangL T n lot x) := fun i hi => by
            have hi' := hn i hi
            by_cases z : i ∈ s
            · rw [decide_eq_true z, decide_eq_true (mem_hangL.mpr ⟨hi', (hwhole i).mp z⟩)]
            · rw [decide_eq_false z, decide_eq_false (fun z2 => z ((hwhole i).mpr (mem_hangL.mp z2).2))]
          have fe : ((x :: left).filter fun i => !decide (i ∈ s)) = (x :: left).filter fun i => !decide (i ∈ hangL T n lot x) := List.filter_congr fun i hi => by rw [mem i hi]
          refine rd_nx (s_asgL (xs := (((x :: left).filter fun i => !decide (i ∈ hangL T n lot x)).map vN)) ?_ fun LB H9 hLB e9 hlb => ?_)
          · rw [← fe]
            exact el_filterL (fun i => !decide (i ∈ s)) (ev_var rfl) (SqL.of hl7) (by rw [List.length_cons]; omega) (fun _ => rfl) (fun _ => rfl) fun i H8 e8 _ => et_test (ev_niL (ev_var rfl) (ev_var rfl) (SqL.of (e8 _ _ hs7)))
          have hLB0 := fresh_back e7 hLB
          refine ⟨((x :: left).filter fun i => !decide (i ∈ hangL T n lot x)).length, Nat.lt_succ_of_le hfl, e7.trans e9, LB, (x :: left).filter fun i => !decide (i ∈ hangL T n lot x), ps ++ [TP], done ++ [hangL T n lot x], ⟨_, _, _, _, _, rfl⟩, ?_, hlb, hLB0, ?_, ?_, closed_next hln C List.mem_cons_self, ?_, ?_, rfl⟩
          · rw [List.map_append]; exact e9 _ _ upd_same
          · intro z; rw [z, upd_same] at hLB; cases hLB
          · refine Paired.snoc (paired_imp' hps fun b l hb => ?_) (e9 _ _ ht7)
            have hbF : b ≠ FA := fun z => by rw [z, hf] at hb; cases hb
            exact e9 _ _ (by rw [upd_ne hbF]; exact e6 _ _ (e5 _ _ (e4 _ _ (e2 _ _ hb))))
          · rw [List.length_append]; simp only [List.length_singleton]; omega
          · rw [List.append_assoc, ← heq, partsF_step hn (by rw [List.length_cons]; omega)]; rfl
    · have hl0 : left = [] := by
        cases left with
        | nil => rfl
        | cons a b => cases hb
      subst hl0
      rw [partsF_nil, List.append_nil] at heq
      refine ⟨.ref FA, rfl, q FA ps H2 hFA (e1.trans e2) (e2 _ _ hf) ?_⟩
      rw [← heq]
      exact hps.ex (.of e2)
/-! ### _law_drawn -/
theorem sc_law_drawn : FnScope ["_law_row", "_law_web_here", "_law_heights_here", "_law_most", "_law_now", "_law_found", "_law_turn", "_law_some", "_law_pair"] ["_law_row", "_law_web_here", "_law_heights_here", "_law_most"] (defScope (topS 57)) := ⟨rfl, rfl, rfl, by decide +kernel, rfl, by decide +kernel, by decide +kernel⟩
def spDrawn (K : PySem.W.Frag) : Sp := fun vs H Q _ => ∃ (a : Addr) (v u : V) (m n : Nat) (T : Ties) (h : List Int) (sc : Addr) (sx : List Int), vs = [.ref a, v, u, vN m] ∧ WebAt H v n T ∧ WebOk n T ∧ HtsAt H u h ∧ h.length = n ∧ m ≤ 100 ∧ RowAt K sc sx H a ∧
  ∀ (p R : Addr) (fv : V) (g : List Int) H2, RowX a H H2 → RowAt K sc sx H2 a → H2 p = some (.tup [fv, .ref R]) → H2 R = some (.tup (g.map V.int)) → Reach T h g → Q (.ref p) H2
theorem ok_law_drawn (nb : NoB mg) (c_law_pick : Has P w K mg base 2 "_law_pick" ["_law_row", "_law_things"] (spPick K)) (c_law_stoops : Has P w K mg base 2 "_law_stoops" ["_law_web_here", "_law_heights_here"] spStoops) (c_law_after : Has P w K mg base 1 "_law_after" ["_law_heights_here", "_law_pair"] spLAfter)
    (F : Fun K "_law_drawn" "_law_drawn" (topS 57) f fd) (g : mg "_law_drawn" = some (.ref f)) : Has P w K mg base 3 "_law_drawn" ["_law_row", "_law_web_here", "_law_heights_here", "_law_most"] (spDrawn K) := by
  refine .mk' F g (F.binds fun _ _ _ _ _ _ us hl => match us, hl with | [_, _, _, _], _ => rfl) (F.ok sc_law_drawn (fun vs H Q E h => ?_) (fun cdv A outer s H vs Q E hr h => ?_))
  · obtain ⟨a, v, u, m, n, T, h, sc, sx, rfl, _⟩ := h
    rfl
  · obtain ⟨a, v, u, m, n, T, h, sc, sx, rfl, hw, W, ⟨c, rfl, hc⟩, hl, hm, R, q⟩ := h
    refine ⟨_, (pss_cons (ps_par (i := 4) (j := 5) rfl sc_law_drawn.nd rfl rfl (by decide) rfl rfl (pa_cons (pv 2) (pa_cons (pe_tup pa_nil) pa_nil)) (by rfl))
      (pss_cons (ps_for PassesOwn.never rfl (pi_range1 (by rfl) nb.range_ (pa_cons (pv 3) pa_nil)) (pg_name (i := 6) sc_law_drawn.nd rfl (Or.inl rfl))
        (pss_cons (ps_set (i := 7) sc_law_drawn.nd rfl (Or.inl rfl) (pe_has c_law_stoops (hr.mono (by first | decide | exact Nat.le_refl _)) (pa_cons (pv 1) (pa_cons (pv 4) pa_nil))))
      (pss_one (ps_if (pt_cmpR (op_neD hr.units) (pv 7) (pe_lst pa_nil) (nomark _)) (pss_cons (ps_set (i := 8) sc_law_drawn.nd rfl (Or.inl rfl) (pe_has c_law_pick (hr.mono (by first | decide | exact Nat.le_refl _)) (pa_cons (pv 0) (pa_cons (pv 7) pa_nil))))
      (pss_one (ps_par (i := 4) (j := 5) rfl sc_law_drawn.nd rfl rfl (by decide) rfl rfl (pa_cons (pe_has c_law_after (hr.mono (by first | decide | exact Nat.le_refl _)) (pa_cons (pv 4) (pa_cons (pv 8) pa_nil))) (pa_cons (pe_op op_catA (pv 5) (pe_tup (pa_cons (pv 8) pa_nil))) pa_nil)) (by rfl)))) pss_nil))))
      (pss_one (ps_ret (pe_tup (pa_cons (pv 5) (pa_cons (pv 4) pa_nil))))))), ?_⟩
    have hn5 := W.few
    have sz := sizeLine_eq
    -- now, found = heights, ()
    refine ⟨.ref c, rfl, by show 0 ≤ sizeLine; omega, fun F0 hF0 => ⟨_, _, rfl, ?_⟩⟩
    have R0 : RowAt K sc sx (upd H F0 (.tup [])) a := R.ex (Ex.new hF0)
    refine q_forR1 (n := (m : Int)) (ea_cons (ev_var (v := vN m) rfl) ea_nil) ⟨by omega, by omega⟩
      (fun i σ H' => RowX a H H' ∧ RowAt K sc sx H' a ∧ ∃ (N F : Addr) (g : List Int) (fs : List V), (∃ y6 y7 y8, σ = [some (.ref a), some v, some (.ref c), some (vN m), some (.ref N), some (.ref F), y6, y7, y8]) ∧ H' N = some (.tup (g.map V.int)) ∧ Reach T h g ∧ H' F = some (.tup fs) ∧ fs.length ≤ i)
      (fun H2 e2 => ⟨.of ((Ex.new hF0).trans e2), R0.ex e2, c, F0, h, [], ⟨_, _, _, rfl⟩, e2 _ _ ((Ex.new hF0) _ _ hc), ⟨0, .zero⟩, e2 _ _ upd_same, Nat.le_refl _⟩) (fun i σ H' hi h' => ?_) (fun σ H' h' => ?_)
    · obtain ⟨x3, R3, N, F, gg, fs, ⟨y6, y7, y8, rfl⟩, hN, hg, hF, hfs⟩ := h'
      have hgl := hg.len
      -- some = stoops(web, now)
      refine ⟨v, rfl, .ref N, rfl, v, .ref N, n, T, gg, rfl, hw.ex (XT.ofRow R x3), W, ⟨N, rfl, hN⟩, hgl.trans hl, fun LP ps M H4 hLP e4 hlp hps hM => ?_⟩
      have hLPa : LP ≠ a := R3.off hLP
      have hpl := pairs_len hps
      have R4 := R3.ex e4
      refine rd_name (rd_nx (s_when (et_test (ev_neP (ev_var rfl) (SqL.of hlp) hps (el_lst ea_nil (by decide)))) (fun hb H5 e5 => ?_) (fun hb H5 e5 => ?_)))
      · have hMp : 0 < M.length := by
          cases M with
          | nil => cases hb
          | cons a b => simp
        -- pair = pick(row, some)
        refine ⟨.ref a, rfl, .ref LP, rfl, a, LP, ps.map V.ref, sc, sx, rfl, R4.ex e5, hLPa, .inl (e5 _ _ hlp), by rw [List.length_map]; omega, by rw [List.length_map]; have := hM.2; omega, fun r vv H6 hr6 x6 R6 => ?_⟩
        rw [List.getElem?_map] at hr6
        obtain ⟨pa, hpa, rfl⟩ := Option.map_eq_some_iff.mp hr6
        obtain ⟨t, ht, htp⟩ := paired_getL hps hpa
        have hA := (hM.1 t.1 t.2).mp (List.mem_of_getElem? ht)
        have htb := (W.adj hA.1).2.1
        have xt6 : XT H4 H6 := XT.trans (.of e5) (XT.ofRow (R4.ex e5) x6)
        -- now, found = after(now, pair), found + (pair,)
        refine ⟨.ref N, rfl, .ref pa, rfl, .ref N, pa, t.1, t.2, gg, rfl, ⟨N, rfl, xt6 _ _ (e4 _ _ hN)⟩, xt6 _ _ htp, by omega, by omega, by omega, fun N2 H7 e7 hN2 => ?_⟩
        have hF7 : H7 F = some (.tup fs) := e7 _ _ (xt6 _ _ (e4 _ _ hF))
        have kk : EvW (tOp (rCatA K) (tVar 5) (tTup (tCons (tVar 8) tNil))) [some (.ref a), some v, some (.ref c), some (vN m), some (.ref N), some (.ref F), some (vN i), some (.ref LP), some (.ref pa)] H7 (fs ++ [.ref pa]) :=
          ew_catA (.ofEv (ev_var rfl) hF7) (.of (eu_tup (ea_cons (ev_var rfl) ea_nil) (by show 1 ≤ 100000; decide))) (by show _ + 1 ≤ 10000; omega)
        refine kk H7 (Ex.refl _) _ fun F2 H8 e8 hF8 => ⟨_, _, rfl, ?_⟩
        have mv : Mv T gg (gg.set t.1 (at0 gg t.2)) := ⟨t.1, t.2, hA.1, by omega, by omega, hA.2.2, rfl⟩
        refine ⟨(x3.trans (.of (e4.trans e5))).trans (x6.trans (.of (e7.trans e8))), R6.ex (e7.trans e8), N2, F2, _, _, ⟨_, _, _, rfl⟩, e8 _ _ hN2, hg.step mv, hF8, by rw [List.length_append]; show _ + 1 ≤ _; omega⟩
      · exact ⟨x3.trans (.of (e4.trans e5)), R4.ex e5, N, F, gg, fs, ⟨_, _, _, rfl⟩, e5 _ _ (e4 _ _ hN), hg, e5 _ _ (e4 _ _ hF), by omega⟩
    · obtain ⟨x3, R3, N, F, gg, fs, ⟨y6, y7, y8, rfl⟩, hN, hg, hF, hfs⟩ := h'
      refine ⟨.ref F, rfl, .ref N, rfl, by show 2 ≤ sizeLine; omega, fun WP hWP => ?_⟩
      exact q WP N (.ref F) gg _ (x3.trans (.of (Ex.new hWP))) (R3.ex (Ex.new hWP)) upd_same ((Ex.new hWP) _ _ hN) hg
/-! ### _law_goal -/
theorem sc_law_goal : FnScope ["_law_row", "_law_web_here", "_law_heights_here", "_law_one"] ["_law_row", "_law_web_here", "_law_heights_here"] (defScope (topS 58)) := ⟨rfl, rfl, rfl, by decide +kernel, rfl, by decide +kernel, by decide +kernel⟩
def spGoal (K : PySem.W.Frag) : Sp := fun vs H Q _ => ∃ (a : Addr) (v u : V) (n : Nat) (T : Ties) (h : List Int) (sc : Addr) (sx : List Int), vs = [.ref a, v, u] ∧ WebAt H v n T ∧ WebOk n T ∧ HtsAt H u h ∧ h.length = n ∧ RowAt K sc sx H a ∧
  ∀ (p : Addr) (g : List Int) H2, g.length = n → (∀ x ∈ g, x ∈ h) → RowX a H H2 → RowAt K sc sx H2 a → H2 p = some (.tup (g.map V.int)) → Q (.ref p) H2
theorem ok_law_goal (nb : NoB mg) (c_law_taken : Has P w K mg base 1 "_law_taken" ["_law_row", "_law_many"] (spTaken K)) (c_law_pick : Has P w K mg base 2 "_law_pick" ["_law_row", "_law_things"] (spPick K)) (c_law_drawn : Has P w K mg base 3 "_law_drawn" ["_law_row", "_law_web_here", "_law_heights_here", "_law_most"] (spDrawn K))
    (F : Fun K "_law_goal" "_law_goal" (topS 58) f fd) (g : mg "_law_goal" = some (.ref f)) : Has P w K mg base 4 "_law_goal" ["_law_row", "_law_web_here", "_law_heights_here"] (spGoal K) := by
  refine .mk' F g (F.binds fun _ _ _ _ _ _ us hl => match us, hl with | [_, _, _], _ => rfl) (F.ok sc_law_goal (fun vs H Q E h => ?_) (fun cdv A outer s H vs Q E hr h => ?_))
  · obtain ⟨a, v, u, n, T, h, sc, sx, rfl, _⟩ := h
    rfl
  · obtain ⟨a, v, u, n, T, h, sc, sx, rfl, hw, W, ⟨c, rfl, hc⟩, hl, R, q⟩ := h
    refine ⟨_, (pss_cons (ps_if (pt_cmpR op_gt (pe_has c_law_taken (hr.mono (by first | decide | exact Nat.le_refl _)) (pa_cons (pv 0) (pa_cons pe_int pa_nil))) pe_int (nomark _)) (pss_one (ps_ret (pe_ix ix_tup (pe_has c_law_drawn (hr.mono (by first | decide | exact Nat.le_refl _)) (pa_cons (pv 0) (pa_cons (pv 1) (pa_cons (pv 2) (pa_cons (pe_has c_law_taken (hr.mono (by first | decide | exact Nat.le_refl _)) (pa_cons (pv 0) (pa_cons pe_int pa_nil))) pa_nil))))) pe_int (fun _ _ => rfl)))) pss_nil)
      (pss_one (ps_ret (pe_callTy call_tuple_of (by rfl) nb.tuple_ (by decide +kernel) (pa_cons (pe_lc (own := [("_law_one", 3)]) (g := (gName 3)) (tt := tYes) rfl sc_law_goal.nd (pi_tup (pv 2)) (blkOk_by (N := ["_law_row", "_law_web_here", "_law_heights_here", "_law_one"]) (sc := defScope (topS 58)) (by decide +kernel)) (fun _ _ _ _ _ => (pg_name (i := 3) sc_law_goal.nd rfl (Or.inl rfl))) (fun _ _ _ _ _ => pts_nil) (fun _ _ _ _ _ => (pe_has c_law_pick (hr.mono (by first | decide | exact Nat.le_refl _)) (pa_cons (pv 0) (pa_cons (pv 2) pa_nil))))) pa_nil))))), ?_⟩
    have hn5 := W.few
    have hn1 := W.pos
    have sz := sizeLine_eq
    refine ⟨.ref a, rfl, a, 3, sc, sx, rfl, by decide, by decide, R, fun r1 H1 hr1 x1 R1 => ⟨_, _, rfl, rfl, _, rfl, if_d (fun hb => ?_) (fun hb => ?_)⟩⟩
    · refine ⟨.ref a, rfl, v, rfl, .ref c, rfl, .ref a, rfl, a, 9, sc, sx, rfl, by decide, by decide, R1, fun r2 H2 hr2 x2 R2 => ?_⟩
      have xt2 : XT H H2 := XT.ofRow R (x1.trans x2)
      refine ⟨a, v, .ref c, r2, n, T, h, sc, sx, rfl, hw.ex xt2, W, ⟨c, rfl, xt2 _ _ hc⟩, hl, by omega, R2, fun p RR fv gg H3 x3 R3 hp hRR hg => ?_⟩
      exact ⟨p, _, 1, .ref RR, rfl, rfl, SqT.of hp, atI_nat (j := 1) rfl, q RR gg H3 (hg.len.trans hl) (by obtain ⟨k, hk⟩ := hg; exact hk.mem) ((x1.trans x2).trans x3) R3 hRR⟩
    · refine ⟨.ref c, rfl, c, rfl, ⟨_, SqT.of (XT.ofRow R x1 _ _ hc)⟩, ?_⟩
      have hc1 := XT.ofRow R x1 _ _ hc
      refine lcG (walk_tup (xs := h.map V.int)) (fun z => z = a) (fun z hz => by rw [hz]; exact R1.no) (by rw [List.length_map]; omega) (fun i acc H' => RowAt K sc sx H' a ∧ ∃ gs : List Int, acc = gs.map V.int ∧ gs.length = i ∧ ∀ x ∈ gs, x ∈ h) ⟨R1, [], rfl, rfl, fun x hx => by simp at hx⟩ (fun i acc H' _ e _ => SqT.of (XT.ofRow R1 e _ _ hc1)) (fun i acc H' D l' hD hl' h => ⟨R1.upd0 h.1 hD, h.2⟩) (fun i x acc H3 H' Post Skip hi e3 h' y hp hsk => ?_) (fun D acc H3 hD e3 hacc hal h' => ?_)
      · obtain ⟨rfl, hx⟩ := y
        obtain ⟨R3, gs, rfl, hgl, hgs⟩ := h'
        refine ⟨rfl, yes_do ?_⟩
        have hc3 := XT.ofRow R1 e3 _ _ hc1
        refine ⟨.ref a, rfl, .ref c, rfl, a, c, h.map V.int, sc, sx, rfl, R3, R3.ne hc3, .inr hc3, by rw [List.length_map]; omega, by rw [List.length_map]; omega, fun r vv H4 hr4 x4 R4 => ?_⟩
        rw [List.getElem?_map] at hr4
        obtain ⟨z, hz, rfl⟩ := Option.map_eq_some_iff.mp hr4
        refine hp _ _ x4 ⟨R4, gs ++ [z], by rw [List.map_append]; rfl, by rw [List.length_append]; simp [hgl], fun y hy => ?_⟩
        rcases List.mem_append.mp hy with hy | hy
        · exact hgs y hy
        · rw [List.mem_singleton] at hy; subst hy; exact List.mem_of_getElem? hz
      · obtain ⟨R3, gs, rfl, hgl, hgs⟩ := h'
        refine ⟨D, _, rfl, .inl ⟨SqL.of hacc, fun p hp => ?_⟩⟩
        rw [List.length_map, hl] at hgl
        have hp1 := fresh_X e3 hp (R3.off hp)
        exact q p gs _ hgl hgs (x1.trans (ex_updD e3 hp1)) (R1.upd0 R3 hp1) upd_same
end
end Hv
end
section
set_option Elab.async false
set_option linter.all false
set_option maxRecDepth 100000
set_option maxHeartbeats 4000000
namespace Hv
open PySem PySem.Spec PyProof.Rows L2 Evl
/-! ### what the law knows all along -/
structure LF (K : PySem.W.Frag) (Pt S : Addr) (ns : List Int) (A SA n : Nat) (T : Ties) (hs : List Int) (part : Part) (wv : V) (hA pA : Addr) (qs : List Addr) (somes : List (List Int)) (H : Hp) : Prop where
  a3 : Args3 H n T hs part wv (.ref hA) (.ref pA)
  some : H SA = some (.lst (qs.map V.ref))
  outs : ITup H qs somes
  row : RowAt K S ns H A
  tabs : LamX.Tabs (lamT Pt) H
  sa : SA ≠ A
section
variable {K : PySem.W.Frag} {Pt S : Addr} {ns : List Int} {A SA n : Nat} {T : Ties} {hs : List Int} {part : Part} {wv : V} {hA pA : Addr} {qs : List Addr} {somes : List (List Int)} {H H' : Hp}
theorem LF.ex (F : LF K Pt S ns A SA n T hs part wv hA pA qs somes H) (e : Ex H H') : LF K Pt S ns A SA n T hs part wv hA pA qs somes H' :=
  { a3 := F.a3.ex (.of e), some := e _ _ F.some, outs := F.outs.ex (.of e), row := F.row.ex e, tabs := F.tabs.ext e, sa := F.sa }
theorem rowAt_exN {sc : Addr} {sx : List Int} {a : Addr} (r : RowAt K sc sx H a) (e : LamX.ExtN H H') : RowAt K sc sx H' a := by
  obtain ⟨i, s, c, r⟩ := r
  refine ⟨i, s, c, extN_L e r.1, r.2.1, r.2.2.1, r.2.2.2.1, ?_, r.2.2.2.2.2⟩
  rcases r.2.2.2.2.1 with h | h
  · rcases h with h | ⟨o, h⟩
    · exact .inl (.inl (extN_L e h))
    · exact .inl (.inr ⟨o, e _ _ h fun _ z => nomatch z⟩)
  · exact .inr h
theorem LF.exN (F : LF K Pt S ns A SA n T hs part wv hA pA qs somes H) (e : LamX.ExtN H H') (t : LamX.Tabs (lamT Pt) H') : LF K Pt S ns A SA n T hs part wv hA pA qs somes H' :=
  { a3 := F.a3.ex (.ofN e), some := extN_L e F.some, outs := F.outs.ex (.ofN e), row := rowAt_exN F.row e, tabs := t, sa := F.sa }
theorem tabs_row {Tb : List (Addr × Str)} {sc a : Addr} {sx : List Int} (t : LamX.Tabs Tb H) (r : RowAt K sc sx H a) (e : RowX a H H') : LamX.Tabs Tb H' := fun p hp => by
  obtain ⟨ps, h1, h2, h3⟩ := t p hp
  obtain ⟨i, s, c, r⟩ := r
  refine ⟨ps, e _ _ (fun z => by rw [z, r.1] at h1; cases h1) h1, h2, fun pos cv hc => ?_⟩
  obtain ⟨c', e1, e2⟩ := h3 pos cv hc
  exact ⟨c', e1, e _ _ (fun z => by rw [z, r.1] at e2; cases e2) e2⟩
theorem LF.exR (F : LF K Pt S ns A SA n T hs part wv hA pA qs somes H) (e : RowX A H H') (r : RowAt K S ns H' A) : LF K Pt S ns A SA n T hs part wv hA pA qs somes H' :=
  { a3 := F.a3.ex (XT.ofRow F.row e), some := e _ _ F.sa F.some, outs := F.outs.ex (XT.ofRow F.row e), row := r, tabs := tabs_row F.tabs F.row e, sa := F.sa }
end
theorem cr_minLK {X : Cx} {K : PySem.W.Frag} (h : X.K = K) (hc : X.calm = true) : CallR X (.builtin "min") (rMin K) := h ▸ cr_min hc
/-! ### readings -/
section
variable {K : PySem.W.Frag} {σ : L2.St} {H : Hp} {ta tb th tp tx tl te : TE}
theorem et_miss {i : Nat} {g : List Int} {part : Part} (hg : Ev th σ H (.int (at0 g i))) (hp : Ev tp σ H (oV (pAt part i))) :
    EvT (tAnd (tTest (tOp (fun x y H Q => y = .non ∧ Q (.bl (!decide (x = .non))) H) tp (tC .non))) (tTest (tOp rNe th tp))) σ H (!matchOne (at0 g i) (pAt part i)) := by
  refine et_is (et_and (a := (pAt part i).isSome) (b := !matchOne (at0 g i) (pAt part i)) (et_test (ev_notN hp)) fun hs => et_test ?_) (by cases pAt part i <;> rfl)
  cases e : pAt part i with
  | none => rw [e] at hs; cases hs
  | some u =>
    rw [e] at hp
    exact ev_neI hg hp
theorem et_openG {i : Nat} {x : Int} {hs : List Int} {part : Part} (hh : Ev th σ H (.int (at0 hs i))) (hp : Ev tp σ H (oV (pAt part i))) (hx : Ev tx σ H (.int x)) :
    EvT (tAnd (tTest (tOp (rI0 fun i j => .bl (decide (j ≤ i))) th tx)) (tOr (tTest (tOp (fun x y H Q => y = .non ∧ Q (.bl (decide (x = .non))) H) tp (tC .non))) (tTest (tOp (rI0 fun i j => .bl (decide (i ≤ j))) tp tx)))) σ H (openB hs part x i) := by
  rw [openB_eq]
  refine et_and (et_test (ev_op hh hx rv_I0)) fun _ => et_or (et_test (ev_isN hp)) fun hn => et_test ?_
  cases e : pAt part i with
  | none => rw [e] at hn; cases hn
  | some u =>
    rw [e] at hp
    exact ev_op hp hx rv_I0
theorem ev_minL {xs : List Int} {m : Int} (h : EvL tl σ H (xs.map V.int)) (hm : m ∈ xs) (hle : ∀ y ∈ xs, m ≤ y) : Ev (tCB (rMin K) (tCons tl tNil)) σ H (.int m) :=
  ev_cbL h fun p H1 e1 hp => fun H2 e2 Q q => ⟨p, xs, rfl, SqL.of (e2 _ _ hp), List.length_pos_of_mem hm, fun m' h1 h2 => by
    rw [show m' = m from Int.le_antisymm (h2 m hm) (hle m' h1)]; exact q H2 (Ex.refl _)⟩
theorem eu_tupL {xs : List V} (h : EvL tl σ H xs) : EvU (tCB (fun xs H Q => ∃ p ys, xs = [.ref p] ∧ ((SqL K H p ys ∧ ∀ l, H l = none → Q (.ref l) (upd H l (.tup ys))) ∨ (SqT K H p ys ∧ Q (.ref p) H))) (tCons tl tNil)) σ H xs :=
  fun H1 e1 Q q => h H1 e1 _ fun p H2 hp e2 hx => ⟨p, xs, rfl, .inl ⟨SqL.of hx, fun l hl => q l _ (fresh_back e2 hl) (e2.trans (Ex.new hl)) upd_same⟩⟩
theorem ev_dget {KA b : Addr} {v : V} (ha : Ev ta σ H (.ref KA)) (hb : Ev tb σ H (.ref b)) (h : ∀ H', Ex H H' → DGet H' KA (.ref b) (some v)) : Ev (tDGet ta tb) σ H v := fun H1 e1 Q q =>
  ha H1 e1 _ fun H2 e2 => hb H2 (e1.trans e2) _ fun H3 e3 => ⟨KA, v, rfl, h H3 ((e1.trans e2).trans e3), q H3 (e2.trans e3)⟩
theorem evP_ifT {tt : TT} {P : V → Hp → Prop} (h : EvT tt σ H true) (k : EvP ta σ H P) : EvP (tIf tt ta tb) σ H P := fun H1 e1 Q q => h H1 e1 _ fun H2 e2 => if_t rfl (k H2 (e1.trans e2) Q fun v H3 e3 p => q v H3 (e2.trans e3) p)
theorem evP_ifF {tt : TT} {P : V → Hp → Prop} (h : EvT tt σ H false) (k : EvP tb σ H P) : EvP (tIf tt ta tb) σ H P := fun H1 e1 Q q => h H1 e1 _ fun H2 e2 => if_f rfl (k H2 (e1.trans e2) Q fun v H3 e3 p => q v H3 (e2.trans e3) p)
theorem EvP.ofU {xs : List V} (h : EvU te σ H xs) : EvP te σ H (fun v H' => ∃ a, v = .ref a ∧ H' a = some (.tup xs)) := fun H1 e1 Q q => h H1 e1 Q fun p H2 _ e2 hx => q _ H2 e2 ⟨p, rfl, hx⟩
theorem ew_ifT {tt : TT} {xs : List V} (h : EvT tt σ H true) (k : EvW ta σ H xs) : EvW (tIf tt ta tb) σ H xs := fun H1 e1 Q q => h H1 e1 _ fun H2 e2 => if_t rfl (k H2 (e1.trans e2) Q fun p H3 e3 hx => q p H3 (e2.trans e3) hx)
theorem ew_ifF {tt : TT} {xs : List V} (h : EvT tt σ H false) (k : EvW tb σ H xs) : EvW (tIf tt ta tb) σ H xs := fun H1 e1 Q q => h H1 e1 _ fun H2 e2 => if_f rfl (k H2 (e1.trans e2) Q fun p H3 e3 hx => q p H3 (e2.trans e3) hx)
theorem q_asgW {i : Nat} {xs : List V} {D : Ends} {tz : TS} (h : EvW te σ H xs) (k : ∀ p H1, Ex H H1 → H1 p = some (.tup xs) → tz D (σ.set i (some (.ref p))) H1) : tSeq (tAsg te (gName i)) tz D σ H := h H (Ex.refl H) _ fun p H1 e hx => k p H1 e hx
theorem given_range (n : Nat) (f : Nat → Bool) (v : Nat → V) : given n f v = ((List.range n).filter f).map v := rfl
theorem el_filterT {tt : TT} {a : Addr} {ns : List Nat} {j : Nat} {vs : List Nat} (p : Nat → Bool) (h : Ev tl σ H (.ref a)) (hx : SqT K H a (ns.map vN)) (hz : ns.length ≤ 1000) (hw : ∀ x, wipe ((wipe σ vs).set j (some x)) vs = wipe σ vs) (hj : ∀ x : V, ((wipe σ vs).set j (some x))[j]? = some (some x))
    (ht : ∀ (i : Nat) H1, Ex H H1 → i ∈ ns → EvT tt ((wipe σ vs).set j (some (vN i))) H1 (p i)) : EvL (tLc (iTup K tl) (gName j) tt (tVar j) vs) σ H ((ns.filter p).map vN) := by
  have e := given_all ns 0 p vN
  rw [← e, ← List.length_map (as := ns) (f := vN)]
  refine el_lcT _ _ h hx (by rw [List.length_map]; omega) hw (fun i x H1 e1 hi => ?_) (fun i x H1 e1 hi _ => ?_)
  · rw [List.getElem?_map] at hi
    obtain ⟨y, hy, rfl⟩ := Option.map_eq_some_iff.mp hi
    rw [getD_of hy]
    exact ht y H1 e1 (List.mem_of_getElem? hy)
  · rw [List.getElem?_map] at hi
    obtain ⟨y, hy, rfl⟩ := Option.map_eq_some_iff.mp hi
    rw [getD_of hy]
    exact ev_var (hj _)
/-- [f(one) for one in xs], xs a list of known refs -/
theorem el_mapR {a : Addr} {xs : List V} {j : Nat} {vs : List Nat} {ys : List V} (h : Ev tl σ H (.ref a)) (hx : SqL K H a xs) (hz : xs.length ≤ 40000) (hl : ys.length = xs.length) (hw : ∀ x, wipe ((wipe σ vs).set j (some x)) vs = wipe σ vs)
    (he : ∀ (i : Nat) x y H1, Ex H H1 → xs[i]? = some x → ys[i]? = some y → Ev te ((wipe σ vs).set j (some x)) H1 y) : EvL (tLc (iList K tl) (gName j) tYes te vs) σ H ys := by
  have e : given xs.length (fun _ => true) (fun i => ys.getD i .non) = ys := by
    rw [given_range, List.filter_eq_self.mpr (fun _ _ => rfl), ← hl]
    refine List.ext_getElem (by rw [List.length_map, List.length_range]) fun i h1 h2 => ?_
    rw [List.getElem_map, List.getElem_range, List.getD_eq_getElem?_getD, List.getElem?_eq_getElem h2]; rfl
  rw [← e]
  refine el_lcL _ _ h hx hz hw (fun i x H1 e1 hi => et_yes) (fun i x H1 e1 hi _ => ?_)
  have hil : i < ys.length := by rw [hl]; exact (List.getElem?_eq_some_iff.mp hi).1
  have hy : ys[i]? = some ys[i] := List.getElem?_eq_getElem hil
  rw [getD_of hy]
  exact he i x _ H1 e1 hi hy
/-- xs == [] of a new list -/
theorem ev_eqNew {ns : List Nat} (ha : EvL ta σ H (ns.map vN)) (hb : EvL tb σ H []) : Ev (tOp (rEqD K) ta tb) σ H (.bl ns.isEmpty) := by
  refine ev_opLL ha hb fun p q H1 hp hq e1 => fun H2 e2 Q k => ?_
  refine eq_nil (SqL.of (e2 _ _ hp)) (dpAll_N ns) (small_N ns) (SqL.of (e2 _ _ hq)) ?_
  rw [isEmpty_map]
  exact k H2 (Ex.refl _)
end
theorem q_ifN {c : TT} {t tz : TS} {D : Ends} {σ : L2.St} {H : Hp} (Mid : Hp → Prop) (h : ∀ Q : Bool → Hp → Prop, (∀ H', Mid H' → Q false H') → c σ H Q) (k : ∀ H', Mid H' → tz D σ H') : tSeq (tIfS c t tNext) tz D σ H := h _ fun H' m => if_f rfl (k H' m)
theorem el_rngF {ta : TA} {tt : TT} {σ : L2.St} {H : Hp} {j n : Nat} {vs : List Nat} (f : Nat → Bool) (h : EvA ta σ H [vN n]) (hn : n ≤ 1000) (hw : ∀ x, wipe ((wipe σ vs).set j (some x)) vs = wipe σ vs) (hj : ∀ x : V, ((wipe σ vs).set j (some x))[j]? = some (some x))
    (ht : ∀ (i : Nat) H1, Ex H H1 → i < n → EvT tt ((wipe σ vs).set j (some (vN i))) H1 (f i)) : EvL (tLc (iRng1 ta) (gName j) tt (tVar j) vs) σ H (((List.range n).filter f).map vN) := by
  have e : ((List.range n).filter f).map vN = given ((n : Int)).toNat f (fun i => vN i) := by rw [Int.toNat_natCast]; rfl
  rw [e]
  exact el_lcR1 f (fun i => vN i) h ⟨by omega, by omega⟩ hw (fun i H1 e1 hi => ht i H1 e1 (by omega)) (fun i H1 e1 hi _ => ev_var (hj _))
theorem el_rngM {ta : TA} {te : TE} {σ : L2.St} {H : Hp} {j n : Nat} {vs : List Nat} (v : Nat → V) (h : EvA ta σ H [vN n]) (hn : n ≤ 1000) (hw : ∀ x, wipe ((wipe σ vs).set j (some x)) vs = wipe σ vs)
    (he : ∀ (i : Nat) H1, Ex H H1 → i < n → Ev te ((wipe σ vs).set j (some (vN i))) H1 (v i)) : EvL (tLc (iRng1 ta) (gName j) tYes te vs) σ H ((List.range n).map v) := by
  have e : (List.range n).map v = given ((n : Int)).toNat (fun _ => true) v := by
    rw [Int.toNat_natCast, given_range, List.filter_eq_self.mpr (fun _ _ => rfl)]
  rw [e]
  exact el_lcR1 (fun _ => true) v h ⟨by omega, by omega⟩ hw (fun i H1 e1 hi => et_yes) (fun i H1 e1 hi _ => he i H1 e1 (by omega))
theorem range_at0 {M : List Int} {n : Nat} (h : M.length = n) : (List.range n).map (fun i => V.int (at0 M i)) = M.map V.int := by
  subst h
  refine List.ext_getElem (by simp) fun i h1 h2 => ?_
  rw [List.getElem_map, List.getElem_range, List.getElem_map]
  unfold at0
  rw [List.getD_eq_getElem?_getD, List.getElem?_eq_getElem (by simpa using h2)]; rfl
theorem filter_not_empty {α : Type} (p : α → Bool) : ∀ l : List α, (l.filter fun i => !p i).isEmpty = l.all p
  | [] => rfl
  | x :: l => by
    cases h : p x with
    | true => rw [List.filter_cons_of_neg (by simp [h]), filter_not_empty p l, List.all_cons, h]; rfl
    | false => rw [List.filter_cons_of_pos (by simp [h]), List.all_cons, h]; rfl
theorem filter_any {α : Type} (p : α → Bool) : ∀ l : List α, (l.filter p).isEmpty = !l.any p
  | [] => rfl
  | x :: l => by
    cases h : p x with
    | true => rw [List.filter_cons_of_pos h, List.any_cons, h]; rfl
    | false => rw [List.filter_cons_of_neg (by simp [h]), filter_any p l, List.any_cons, h]; rfl
/-! ### plain -/
theorem kvS_val {kvs : List (List Int × Nat)} (nd : (kvs.map (·.1)).Nodup) {g : List Int} {k : Nat} (h : (g, k) ∈ kvs) : valV (kvI (kvS kvs)) (g.map Sum.inl) = some (vN k) := by
  induction kvs with
  | nil => simp at h
  | cons p kvs ih =>
    rw [kvS, List.map_cons, kvI, List.map_cons]
    rw [List.map_cons, List.nodup_cons] at nd
    rcases List.mem_cons.mp h with h | h
    · subst h
      exact valV_pos rfl
    · rw [valV_neg (fun z => nd.1 (by rw [inl_inj z]; exact List.mem_map.mpr ⟨_, h, rfl⟩))]
      exact ih nd.2 h
theorem min_there : ∀ l : List Nat, l ≠ [] → ∃ m ∈ l, ∀ y ∈ l, m ≤ y
  | [x], _ => ⟨x, List.mem_cons_self, fun y hy => by rw [List.mem_singleton.mp hy]; exact Nat.le_refl _⟩
  | x :: y :: l, _ => by
    obtain ⟨m, hm, h⟩ := min_there (y :: l) (by simp)
    by_cases c : x ≤ m
    · refine ⟨x, List.mem_cons_self, fun z hz => ?_⟩
      rcases List.mem_cons.mp hz with e | hz
      · rw [e]; exact Nat.le_refl _
      · exact Nat.le_trans c (h z hz)
    · refine ⟨m, List.mem_cons_of_mem _ hm, fun z hz => ?_⟩
      rcases List.mem_cons.mp hz with e | hz
      · rw [e]; omega
      · exact h z hz
theorem match_mem {T : Ties} {n : Nat} {hs : List Int} {part : Part} {outs : List (List Int)} (hl : hs.length = n) (O : OutsOk T hs outs) (g : List Int) : g ∈ (outs.filter fun g => matchB g part) ↔ Reach T hs g ∧ Match n part g := by
  rw [List.mem_filter, O.2]
  constructor
  · rintro ⟨r, m⟩
    refine ⟨r, ?_⟩
    have := matchB_iff.mp m
    rwa [r.len, hl] at this
  · rintro ⟨r, m⟩
    refine ⟨r, matchB_iff.mpr ?_⟩
    rwa [r.len, hl]
theorem somes_free {T : Ties} {n : Nat} {hs : List Int} {part : Part} {outs : List (List Int)} (W : WebOk n T) (hl : hs.length = n) (O : OutsOk T hs outs) : (outs.filter fun g => matchB g part) ≠ [] ↔ Free T n hs part := by
  rw [free_iff W hl]
  constructor
  · intro h
    obtain ⟨g, hg⟩ := List.exists_mem_of_ne_nil _ h
    exact ⟨g, (match_mem hl O g).mp hg⟩
  · rintro ⟨g, hg⟩ e
    have := (match_mem (part := part) hl O g).mpr hg
    rw [e] at this; simp at this
theorem least_uniq {T : Ties} {n : Nat} {hs m m' : List Int} {part : Part} (W : WebOk n T) (hl : hs.length = n) (F : Free T n hs part) (M : Least T n hs part m) (M' : Least T n hs part m') : m = m' := by
  obtain ⟨r, h⟩ := M.comes W hl F
  obtain ⟨r', h'⟩ := M'.comes W hl F
  refine at0_ext (M.len.trans M'.len.symm) fun i hi => ?_
  rw [M.len] at hi
  exact Int.le_antisymm (M.below W hl r' h' hi) (M'.below W hl r h hi)
/-- the fewest stoops of either program -/
theorem few_eq {T : Ties} {n m m0 : Nat} {hs : List Int} {part : Part} {kvs : List (List Int × Nat)} (W : WebOk n T) (hl : hs.length = n) (pl : part.length = n) (Fr : Free T n hs part) (KN : Known T hs kvs) (F : FewOk T n hs part m) {g0 : List Int} (h0 : (g0, m0) ∈ kvs) (hm0 : Match n part g0) (le : ∀ g k, (g, k) ∈ kvs → Match n part g → m0 ≤ k) : m = m0 := by
  obtain ⟨told, Lf, hp, hmem, hN, rfl⟩ := F
  have nd : told.Nodup := hp.imp fun h => by omega
  have up := fewest_up W hl Fr hp (fun i u hi hu => (hmem u).mpr (by
    unfold pAt at hu
    rw [List.getD_eq_getElem?_getD] at hu
    cases e : part[i]? with
    | none => rw [e] at hu; cases hu
    | some o => rw [e] at hu; have : o = some u := hu; rw [← this]; exact List.mem_of_getElem? e)) Lf (fun v hv => (hN v hv).1)
  obtain ⟨g, r, hm⟩ := up
  have low := fewest_low W hl (KN.ok g0 m0 h0).1 hm0 nd Lf (fun v hv => (hN v hv).2)
  obtain ⟨k, hk⟩ := KN.all g ⟨_, r⟩
  have h1 := (KN.ok g k hk).2 _ r
  have h2 := le g k hk hm
  omega
theorem firstBad_uniq {T : Ties} {n p q : Nat} {hs : List Int} {part : Part} {x y : Int} (h : FirstBad T n hs part p x) (h' : FirstBad T n hs part q y) : p = q ∧ x = y := by
  have e : p = q := by
    rcases Nat.lt_trichotomy p q with z | z | z
    · exact absurd (h'.2.2.2 p z x h.2.1) h.2.2.1
    · exact z
    · exact absurd (h.2.2.2 q z y h'.2.1) h'.2.2.1
  subst e
  refine ⟨rfl, ?_⟩
  have := h.2.1.symm.trans h'.2.1
  exact Option.some.inj this
/-! ### data to compare -/
theorem dvs_N {H : Hp} {j : Nat} : ∀ {ps : List Addr} {ls : List (List Nat)}, TupsN H ps ls → (∀ l ∈ ls, l.length ≤ 40000) → Paired (DV H (j + 1)) (ps.map V.ref) (ls.map fun l => tupD (l.map fun i : Nat => (i : Int)))
  | _, _, .nil, _ => .nil
  | _, _, .cons (b := l) h t, q => .cons (dv_tup h (by rw [List.length_map, List.length_map]; exact q l List.mem_cons_self) (dvs_M l)) (dvs_N t fun b hb => q b (List.mem_cons_of_mem _ hb))
where dvs_M {H : Hp} {j : Nat} : ∀ b : List Nat, Paired (DV H j) (b.map vN) ((b.map fun i : Nat => (i : Int)).map PyData.int)
  | [] => .nil
  | _ :: b => .cons dv_int (dvs_M b)
theorem dvs_T {H : Hp} {j : Nat} : ∀ {ps : List Addr} {bs : List (List Int)}, ITup H ps bs → (∀ b ∈ bs, b.length ≤ 40000) → Paired (DV H (j + 1)) (ps.map V.ref) (bs.map tupD)
  | _, _, .nil, _ => .nil
  | _, _, .cons (b := b) h t, q => .cons (dv_tup h (by rw [List.length_map]; exact q b List.mem_cons_self) (dvs_I b)) (dvs_T t fun b hb => q b (List.mem_cons_of_mem _ hb))
where dvs_I {H : Hp} {j : Nat} : ∀ b : List Int, Paired (DV H j) (b.map V.int) (b.map PyData.int)
  | [] => .nil
  | _ :: b => .cons dv_int (dvs_I b)
end Hv
end
section
set_option Elab.async false
set_option linter.all false
set_option maxRecDepth 100000
set_option maxHeartbeats 8000000
namespace Hv
open PySem PySem.Spec PyProof.Rows L2 Evl
section
variable {P : Program} {w : World} {K : PySem.W.Frag} {mg : Str → Option Value} {base : Heap} {f : Addr} {fd : FuncData}
/-- the defs that the law calls -/
structure Callees (P : Program) (w : World) (K : PySem.W.Frag) (mg : Str → Option Value) (base : Heap) (Pt : Addr) : Prop where
  taken : Has P w K mg base 1 "_law_taken" ["_law_row", "_law_many"] (spTaken K)
  web : Has P w K mg base 2 "_law_web" ["_law_row", "_law_most", "_law_more"] (spWeb K)
  heights : Has P w K mg base 2 "_law_heights" ["_law_row", "_law_many", "_law_high"] (spHeights K)
  goal : Has P w K mg base 4 "_law_goal" ["_law_row", "_law_web_here", "_law_heights_here"] (spGoal K)
  steps : Has P w K mg base 3 "_law_steps" ["_law_web_here", "_law_heights_here"] spSteps
  is : Has P w K mg base 1 "_law_is" ["_law_found", "_law_due"] spIs
  alike : Has P w K mg base 4 "_law_alike" ["_law_found", "_law_due"] (spAlike 4)
  parts : Has P w K mg base 1 "_law_parts" ["_law_web_here", "_law_lot"] spLParts
  comes : Has P w K mg base 7 "half_comes" ["web", "heights", "part"] spComes
  outcomes : Has P w K mg base 7 "half_outcomes" ["web", "heights", "part"] spOutcomes
  count : Has P w K mg base 7 "half_count" ["web", "heights", "part"] spCount
  fewest : Has P w K mg base 7 "half_fewest" ["web", "heights", "part"] (spFewest Pt)
  least : Has P w K mg base 7 "half_least" ["web", "heights", "part"] spLeast
  pieces : Has P w K mg base 7 "half_pieces" ["web", "heights", "part", "height"] spPieces
  blocked : Has P w K mg base 7 "half_blocked" ["web", "heights", "part"] spBlkOf
/-! ### law -/
theorem sc_law : FnScope ["_law_script", "_law_row", "_law_web_here", "_law_many", "_law_heights_here", "_law_goal_here", "_law_known", "_law_part", "_law_some", "_law_told", "_law_few", "_law_least", "_law_height", "_law_near", "_law_due", "_law_person", "_law_one", "_law_piece", "_law_at", "_law_lot"] ["_law_script"] (defScope (topS 59)) := ⟨rfl, rfl, rfl, by decide +kernel, rfl, by decide +kernel, by decide +kernel⟩
def spLaw (K : PySem.W.Frag) (Pt : Addr) : Sp := fun vs H Q _ => ∃ (S : Addr) (ns : List Int), vs = [.ref S] ∧ SqL K H S (ns.map V.int) ∧ LamX.Tabs (lamT Pt) H ∧ ∀ H2, Q (.bl true) H2
open Classical in
theorem ok_law {Pt : Addr} (nb : NoB mg) (C : Callees P w K mg base Pt) (F : Fun K "law" "law" (topS 59) f fd) : FnOk P w K mg base CX0 8 f fd ["_law_script"] (spLaw K Pt) := by
  have c_law_taken := C.taken
  have c_law_web := C.web
  have c_law_heights := C.heights
  have c_law_goal := C.goal
  have c_law_steps := C.steps
  have c_law_is := C.is
  have c_law_alike := C.alike
  have c_law_parts := C.parts
  have c_half_comes := C.comes
  have c_half_outcomes := C.outcomes
  have c_half_count := C.count
  have c_half_fewest := C.fewest
  have c_half_least := C.least
  have c_half_pieces := C.pieces
  have c_half_blocked := C.blocked
  refine (F.ok sc_law (fun vs H Q E h => ?_) (fun cdv A outer s H vs Q E hr h => ?_))
  · obtain ⟨S, ns, rfl, _⟩ := h
    rfl
  · obtain ⟨S, ns, rfl, hS, hT, q⟩ := h
    have hu := hu_of hr
    refine ⟨_, (pss_cons (ps_set (i := 1) sc_law.nd rfl (Or.inr rfl) (pe_lst (pa_cons (pv 0) (pa_cons pe_int (pa_cons pe_int (pa_cons pe_int pa_nil))))))
      (pss_cons (ps_set (i := 2) sc_law.nd rfl (Or.inl rfl) (pe_has c_law_web (hr.mono (by first | decide | exact Nat.le_refl _)) (pa_cons (pv 1) (pa_cons pe_int (pa_cons pe_int pa_nil)))))
      (pss_cons (ps_set (i := 3) sc_law.nd rfl (Or.inl rfl) (pe_ix ix_tup (pv 2) pe_int (fun _ _ => rfl)))
      (pss_cons (ps_set (i := 4) sc_law.nd rfl (Or.inr rfl) (pe_has c_law_heights (hr.mono (by first | decide | exact Nat.le_refl _)) (pa_cons (pv 1) (pa_cons (pv 3) (pa_cons pe_int pa_nil)))))
      (pss_cons (ps_asg (pe_tup (pa_cons (pe_has c_law_goal (hr.mono (by first | decide | exact Nat.le_refl _)) (pa_cons (pv 1) (pa_cons (pv 2) (pa_cons (pv 4) pa_nil)))) (pa_cons (pe_has c_law_steps (hr.mono (by first | decide | exact Nat.le_refl _)) (pa_cons (pv 2) (pa_cons (pv 4) pa_nil))) pa_nil))) (pg_tup (n := 2) rfl (pgs_cons (pg_name (i := 5) sc_law.nd rfl (Or.inl rfl)) (pgs_cons (pg_name (i := 6) sc_law.nd rfl (Or.inr rfl)) pgs_nil))))
      (pss_cons (ps_set (i := 7) sc_law.nd rfl (Or.inr rfl) (pe_callTy call_tuple_of (by rfl) nb.tuple_ (by decide +kernel) (pa_cons (pe_lc (own := [("_law_height", 12)]) (g := (gName 12)) (tt := tYes) rfl sc_law.nd (pi_tup (pv 5)) (blkOk_by (N := ["_law_script", "_law_row", "_law_web_here", "_law_many", "_law_heights_here", "_law_goal_here", "_law_known", "_law_part", "_law_some", "_law_told", "_law_few", "_law_least", "_law_height", "_law_near", "_law_due", "_law_person", "_law_one", "_law_piece", "_law_at", "_law_lot"]) (sc := defScope (topS 59)) (by decide +kernel)) (fun _ _ _ _ _ => (pg_name (i := 12) sc_law.nd rfl (Or.inl rfl))) (fun _ _ _ _ _ => pts_nil) (fun _ _ _ _ _ => (pe_ifExp (pt_cmpR op_eq (pe_has c_law_taken (hr.mono (by first | decide | exact Nat.le_refl _)) (pa_cons (pv 1) (pa_cons pe_int pa_nil))) pe_int (nomark _)) pe_non (pv 12)))) pa_nil)))
      (pss_cons (ps_set (i := 8) sc_law.nd rfl (Or.inr rfl) (pe_lst pa_nil))
      (pss_cons (ps_for PassesOwn.never rfl (pi_list (pe_callB (cr_sortTI hr.units) (by rfl) nb.sorted_ (by decide +kernel) (pa_cons (pe_callTy (call_list_dT rfl) (by rfl) nb.list_ (by decide +kernel) (pa_cons (pv 6) pa_nil)) pa_nil))) (pg_name (i := 9) sc_law.nd rfl (Or.inr rfl))
        (pss_one (ps_if (pt_cmpR (op_eqD hr.units) (pe_lc (own := [("_law_at", 18)]) (g := (gName 18)) rfl sc_law.nd (pi_range1 (by rfl) nb.range_ (pa_cons (pv 3) pa_nil)) (blkOk_by (N := ["_law_script", "_law_row", "_law_web_here", "_law_many", "_law_heights_here", "_law_goal_here", "_law_known", "_law_part", "_law_some", "_law_told", "_law_few", "_law_least", "_law_height", "_law_near", "_law_due", "_law_person", "_law_one", "_law_piece", "_law_at", "_law_lot"]) (sc := defScope (topS 59)) (by decide +kernel)) (fun _ _ _ _ _ => (pg_name (i := 18) sc_law.nd rfl (Or.inl rfl))) (fun _ _ _ _ _ => (pts_one (PW.pt (pw_and (pt_cmpR op_notN (pe_ix (ix_tupK (K := K) rfl) (pv 7) (pv 18) (fun _ _ => rfl)) pe_non (nomark _)) (pw_and1 (pt_cmpR op_ne (pe_ix (ix_tupK (K := K) rfl) (pv 9) (pv 18) (fun _ _ => rfl)) (pe_ix (ix_tupK (K := K) rfl) (pv 7) (pv 18) (fun _ _ => rfl)) (nomark _))))))) (fun _ _ _ _ _ => (pv 18))) (pe_lst pa_nil) (nomark _)) (pss_one (ps_expr (pe_bm PySem.F.plainAttrs_list PySem.F.slot_list_append PySem.F.type_list_append mt_append (pv 8) (pa_cons (pv 9) pa_nil)))) pss_nil)))
      (pss_cons (ps_if (pt_not (pt_val (pe_has c_law_is (hr.mono (by first | decide | exact Nat.le_refl _)) (pa_cons (pe_has c_half_comes (hr.mono (by first | decide | exact Nat.le_refl _)) (pa_cons (pv 2) (pa_cons (pv 4) (pa_cons (pv 7) pa_nil)))) (pa_cons (pe_cmpR (op_neD hr.units) (pv 8) (pe_lst pa_nil) (nomark _)) pa_nil))))) (pss_one (ps_ret pe_bl)) pss_nil)
      (pss_cons (ps_if (pt_not (pt_val (pe_has c_law_alike (hr.mono (by first | decide | exact Nat.le_refl _)) (pa_cons (pe_lst (pa_cons (pe_has c_half_outcomes (hr.mono (by first | decide | exact Nat.le_refl _)) (pa_cons (pv 2) (pa_cons (pv 4) (pa_cons (pv 7) pa_nil)))) (pa_cons (pe_has c_half_count (hr.mono (by first | decide | exact Nat.le_refl _)) (pa_cons (pv 2) (pa_cons (pv 4) (pa_cons (pv 7) pa_nil)))) pa_nil))) (pa_cons (pe_lst (pa_cons (pv 8) (pa_cons (pe_callB call_len_seq (by rfl) nb.len_ (by decide +kernel) (pa_cons (pv 8) pa_nil)) pa_nil))) pa_nil))))) (pss_one (ps_ret pe_bl)) pss_nil)
      (pss_cons (ps_set (i := 10) sc_law.nd rfl (Or.inl rfl) (pe_ifExp (pt_cmpR (op_neD hr.units) (pv 8) (pe_lst pa_nil) (nomark _)) (pe_callB (cr_min rfl) (by rfl) nb.min_ (by decide +kernel) (pa_cons (pe_lc (own := [("_law_told", 9)]) (g := (gName 9)) (tt := tYes) rfl sc_law.nd (pi_list (pv 8)) (blkOk_by (N := ["_law_script", "_law_row", "_law_web_here", "_law_many", "_law_heights_here", "_law_goal_here", "_law_known", "_law_part", "_law_some", "_law_told", "_law_few", "_law_least", "_law_height", "_law_near", "_law_due", "_law_person", "_law_one", "_law_piece", "_law_at", "_law_lot"]) (sc := defScope (topS 59)) (by decide +kernel)) (fun _ _ _ _ _ => (pg_name (i := 9) sc_law.nd rfl (Or.inl rfl))) (fun _ _ _ _ _ => pts_nil) (fun _ _ _ _ _ => (pe_dget hu (pv 6) (pv 9) (fun _ _ => rfl)))) pa_nil)) pe_non))
      (pss_cons (ps_set (i := 11) sc_law.nd rfl (Or.inl rfl) (pe_ifExp (pt_cmpR (op_neD hr.units) (pv 8) (pe_lst pa_nil) (nomark _)) (pe_callTy call_tuple_of (by rfl) nb.tuple_ (by decide +kernel) (pa_cons (pe_lc (own := [("_law_at", 18)]) (g := (gName 18)) (tt := tYes) rfl sc_law.nd (pi_range1 (by rfl) nb.range_ (pa_cons (pv 3) pa_nil)) (blkOk_by (N := ["_law_script", "_law_row", "_law_web_here", "_law_many", "_law_heights_here", "_law_goal_here", "_law_known", "_law_part", "_law_some", "_law_told", "_law_few", "_law_least", "_law_height", "_law_near", "_law_due", "_law_person", "_law_one", "_law_piece", "_law_at", "_law_lot"]) (sc := defScope (topS 59)) (by decide +kernel)) (fun _ _ _ _ _ => (pg_name (i := 18) sc_law.nd rfl (Or.inr rfl))) (fun _ _ _ _ _ => pts_nil) (fun _ _ _ _ _ => (pe_callB (cr_minLK (K := K) rfl rfl) (by rfl) nb.min_ (by decide +kernel) (pa_cons (pe_lc (own := [("_law_told", 9)]) (g := (gName 9)) (tt := tYes) rfl sc_law.nd (pi_listK (K := K) rfl (pv 8)) (blkOk_by (by kernel_rfl)) (fun _ _ _ _ _ => (pg_name (i := 9) sc_law.nd rfl (Or.inl rfl))) (fun _ _ _ _ _ => pts_nil) (fun _ _ _ _ _ => (pe_ix (ix_tupK (K := K) rfl) (pv 9) (pv 18) (fun _ _ => rfl)))) pa_nil)))) pa_nil)) pe_non))
      (pss_cons (ps_if (pt_not (pt_val (pe_has c_law_alike (hr.mono (by first | decide | exact Nat.le_refl _)) (pa_cons (pe_lst (pa_cons (pe_has c_half_fewest (hr.mono (by first | decide | exact Nat.le_refl _)) (pa_cons (pv 2) (pa_cons (pv 4) (pa_cons (pv 7) pa_nil)))) (pa_cons (pe_has c_half_least (hr.mono (by first | decide | exact Nat.le_refl _)) (pa_cons (pv 2) (pa_cons (pv 4) (pa_cons (pv 7) pa_nil)))) pa_nil))) (pa_cons (pe_lst (pa_cons (pv 10) (pa_cons (pv 11) pa_nil))) pa_nil))))) (pss_one (ps_ret pe_bl)) pss_nil)
      (pss_cons (ps_set (i := 12) sc_law.nd rfl (Or.inr rfl) (pe_op op_sub (pe_has c_law_taken (hr.mono (by first | decide | exact Nat.le_refl _)) (pa_cons (pv 1) (pa_cons pe_int pa_nil))) pe_int))
      (pss_cons (ps_setLc (i := 13) (own := [("_law_one", 16)]) (g := (gName 16)) rfl sc_law.nd rfl rfl (sw_true rfl rfl rfl (by decide +kernel)) (pi_range1 (by rfl) nb.range_ (pa_cons (pv 3) pa_nil)) (blkOk_by (N := ["_law_script", "_law_row", "_law_web_here", "_law_many", "_law_heights_here", "_law_goal_here", "_law_known", "_law_part", "_law_some", "_law_told", "_law_few", "_law_least", "_law_height", "_law_near", "_law_due", "_law_person", "_law_one", "_law_piece", "_law_at", "_law_lot"]) (sc := defScope (topS 59)) (by decide +kernel)) (fun _ _ _ _ _ => (pg_name (i := 16) sc_law.nd rfl (Or.inl rfl))) (fun _ _ _ _ _ => (pts_one (PW.pt (pw_and (pt_cmpR op_ge (pe_ix (ix_tupK (K := K) rfl) (pv 4) (pv 16) (fun _ _ => rfl)) (pv 12) (nomark _)) (pw_and1 (PW.pt (pw_or (pt_cmpR op_isN (pe_ix (ix_tupK (K := K) rfl) (pv 7) (pv 16) (fun _ _ => rfl)) pe_non (nomark _)) (pw_or1 (pt_cmpR op_le (pe_ix (ix_tupK (K := K) rfl) (pv 7) (pv 16) (fun _ _ => rfl)) (pv 12) (nomark _)))))))))) (fun _ _ _ _ _ => (pv 16)))
      (pss_cons (ps_if (pt_not (pt_val (pe_has c_law_alike (hr.mono (by first | decide | exact Nat.le_refl _)) (pa_cons (pe_has c_half_pieces (hr.mono (by first | decide | exact Nat.le_refl _)) (pa_cons (pv 2) (pa_cons (pv 4) (pa_cons (pv 7) (pa_cons (pv 12) pa_nil))))) (pa_cons (pe_callTy call_tuple_of (by rfl) nb.tuple_ (by decide +kernel) (pa_cons (pe_has c_law_parts (hr.mono (by first | decide | exact Nat.le_refl _)) (pa_cons (pv 2) (pa_cons (pe_callTy call_tuple_of (by rfl) nb.tuple_ (by decide +kernel) (pa_cons (pv 13) pa_nil)) pa_nil))) pa_nil)) pa_nil))))) (pss_one (ps_ret pe_bl)) pss_nil)
      (pss_cons (ps_set (i := 14) sc_law.nd rfl (Or.inl rfl) pe_non)
      (pss_cons (ps_for PassesOwn.never rfl (pi_range1 (by rfl) nb.range_ (pa_cons (pv 3) pa_nil)) (pg_name (i := 15) sc_law.nd rfl (Or.inr rfl))
        (pss_one (ps_if (PW.pt (pw_and (pt_cmpR op_notN (pe_ix ix_tup (pv 7) (pv 15) (fun _ _ => rfl)) pe_non (nomark _)) (pw_and1 (pt_cmpR op_isN (pv 14) pe_non (nomark _))))) (pss_cons (ps_set (i := 13) sc_law.nd rfl (Or.inl rfl) (pe_lst pa_nil))
      (pss_cons (ps_for PassesOwn.never rfl (pi_range1 (by rfl) nb.range_ (pa_cons (pv 3) pa_nil)) (pg_name (i := 16) sc_law.nd rfl (Or.inl rfl))
        (pss_one (ps_if (PW.pt (pw_and (pt_cmpR op_ge (pe_ix ix_tup (pv 4) (pv 16) (fun _ _ => rfl)) (pe_ix ix_tup (pv 7) (pv 15) (fun _ _ => rfl)) (nomark _)) (pw_and1 (PW.pt (pw_or (pt_cmpR op_isN (pe_ix ix_tup (pv 7) (pv 16) (fun _ _ => rfl)) pe_non (nomark _)) (pw_or1 (pt_cmpR op_le (pe_ix ix_tup (pv 7) (pv 16) (fun _ _ => rfl)) (pe_ix ix_tup (pv 7) (pv 15) (fun _ _ => rfl)) (nomark _)))))))) (pss_one (ps_expr (pe_bm PySem.F.plainAttrs_list PySem.F.slot_list_append PySem.F.type_list_append mt_append (pv 13) (pa_cons (pv 16) pa_nil)))) pss_nil)))
      (pss_cons (ps_setLc (i := 17) (own := [("_law_lot", 19)]) (g := (gName 19)) rfl sc_law.nd rfl rfl (sw_true rfl rfl rfl (by decide +kernel)) (pi_list (pe_has c_law_parts (hr.mono (by first | decide | exact Nat.le_refl _)) (pa_cons (pv 2) (pa_cons (pe_callTy call_tuple_of (by rfl) nb.tuple_ (by decide +kernel) (pa_cons (pv 13) pa_nil)) pa_nil)))) (blkOk_by (N := ["_law_script", "_law_row", "_law_web_here", "_law_many", "_law_heights_here", "_law_goal_here", "_law_known", "_law_part", "_law_some", "_law_told", "_law_few", "_law_least", "_law_height", "_law_near", "_law_due", "_law_person", "_law_one", "_law_piece", "_law_at", "_law_lot"]) (sc := defScope (topS 59)) (by decide +kernel)) (fun _ _ _ _ _ => (pg_name (i := 19) sc_law.nd rfl (Or.inl rfl))) (fun _ _ _ _ _ => (pts_one (pt_cmpR (op_inK (K := K) rfl) (pv 15) (pv 19) (by with_unfolding_all rfl)))) (fun _ _ _ _ _ => (pv 19)))
      (pss_cons (ps_set (i := 17) sc_law.nd rfl (Or.inl rfl) (pe_ifExp (pt_cmpR (op_neD hr.units) (pv 17) (pe_lst pa_nil) (nomark _)) (pe_ix ix_seq (pv 17) pe_int (fun _ _ => rfl)) (pe_tup pa_nil)))
      (pss_one (ps_if (pt_cmpR (op_eqD hr.units) (pe_lc (own := [("_law_one", 16)]) (g := (gName 16)) rfl sc_law.nd (pi_tup (pv 17)) (blkOk_by (N := ["_law_script", "_law_row", "_law_web_here", "_law_many", "_law_heights_here", "_law_goal_here", "_law_known", "_law_part", "_law_some", "_law_told", "_law_few", "_law_least", "_law_height", "_law_near", "_law_due", "_law_person", "_law_one", "_law_piece", "_law_at", "_law_lot"]) (sc := defScope (topS 59)) (by decide +kernel)) (fun _ _ _ _ _ => (pg_name (i := 16) sc_law.nd rfl (Or.inl rfl))) (fun _ _ _ _ _ => (pts_one (pt_cmpR op_eq (pe_ix (ix_tupK (K := K) rfl) (pv 4) (pv 16) (fun _ _ => rfl)) (pe_ix (ix_tupK (K := K) rfl) (pv 7) (pv 15) (fun _ _ => rfl)) (nomark _)))) (fun _ _ _ _ _ => (pv 16))) (pe_lst pa_nil) (nomark _)) (pss_one (ps_set (i := 14) sc_law.nd rfl (Or.inl rfl) (pe_tup (pa_cons (pv 15) (pa_cons (pv 17) pa_nil))))) pss_nil)))))) pss_nil)))
      (pss_one (ps_ret (pe_and (pe_has c_law_alike (hr.mono (by first | decide | exact Nat.le_refl _)) (pa_cons (pe_has c_half_blocked (hr.mono (by first | decide | exact Nat.le_refl _)) (pa_cons (pv 2) (pa_cons (pv 4) (pa_cons (pv 7) pa_nil)))) (pa_cons (pv 14) pa_nil))) (pe_one (pe_cmpR op_eq (pe_cmpR op_isN (pv 14) pe_non (nomark _)) (pe_cmpR (op_neD hr.units) (pv 8) (pe_lst pa_nil) (nomark _)) (nomark _)))))))))))))))))))))))), ?_⟩
    have sz := sizeLine_eq
    -- row
    refine q_asgL (xs := [.ref S, .int 0, .int 4942, .int 0]) (el_lst (ea_cons (ev_var rfl) (ea_cons ev_c (ea_cons ev_c (ea_cons ev_c ea_nil)))) (by show 4 ≤ 100000; decide)) fun A H1 hA e1 ha => ?_
    have R1 : RowAt K S ns H1 A := ⟨0, 4942, 0, ha, by decide, by decide, by decide, ex_l e1 hS, by
      rcases hS with h | h
      · refine .inl fun z => ?_
        rw [z] at h
        rcases h with h | ⟨o, h⟩ <;> rw [hA] at h <;> cases h
      · exact .inr fun _ => .inr h⟩
    have T1 := hT.ext e1
    -- web
    refine ⟨.ref A, rfl, A, 5, 3, S, ns, rfl, by decide, by decide, by decide, R1, fun wv n T H2 hw W x2 R2 => rd_name (rd_nx ?_)⟩
    have T2 := tabs_row T1 R1 x2
    have hn5 := W.few
    have hn1 := W.pos
    obtain ⟨wa, wb, wps, hwv, hwa, hwb, hwps⟩ := id hw
    -- many
    refine q_asg (v := vN n) (ev_op (ev_var (v := .ref wa) (by rw [hwv]; rfl)) ev_c (rv_ixT (SqT.of hwa) (atI_nat (j := 0) rfl))) fun H3 e3 => ?_
    -- heights
    refine ⟨.ref A, rfl, vN n, rfl, A, n, 5, S, ns, rfl, by omega, by decide, by decide, R2.ex e3, fun hA' hs H4 hl hb x4 R4 hh4 => rd_name (rd_nx ?_)⟩
    have T4 := tabs_row (T2.ext e3) (R2.ex e3) x4
    have hw4 : WebAt H4 wv n T := (hw.ex (.of e3)).ex (XT.ofRow (R2.ex e3) x4)
    -- goal, known
    refine ⟨.ref A, rfl, wv, rfl, .ref hA', rfl, A, wv, .ref hA', n, T, hs, S, ns, rfl, hw4, W, ⟨hA', rfl, hh4⟩, hl, R4, fun gA gs H5 hgl hgm x5 R5 hg5 => ?_⟩
    have xt5 := XT.ofRow R4 x5
    refine ⟨wv, rfl, .ref hA', rfl, wv, .ref hA', n, T, hs, rfl, hw4.ex xt5, W, ⟨hA', rfl, xt5 _ _ hh4⟩, hl, fun KA kvs H6 hKA e6 hk KN => ⟨by show 2 ≤ sizeLine; omega, fun TP hTP => ⟨TP, _, rfl, SqT.of upd_same, rfl, .ref gA, [.ref KA], rfl, .ref KA, [], rfl, rfl, rd_nx ?_⟩⟩⟩
    have eTP := Ex.new (o := .tup [.ref gA, .ref KA]) hTP
    generalize hH7 : upd H6 TP (.tup [.ref gA, .ref KA]) = H7 at eTP ⊢
    have R7 := (R5.ex e6).ex eTP
    have T7 := (((tabs_row T4 R4 x5).ext e6).ext eTP)
    have xt7 : XT H4 H7 := fun b xs h => eTP _ _ (e6 _ _ (xt5 b xs h))
    have hw7 := hw4.ex xt7
    have hh7 := xt7 _ _ hh4
    have hk7 := eTP _ _ hk
    have hg7 := eTP _ _ (e6 _ _ hg5)
    have hKAA : KA ≠ A := R5.off hKA
    have kfew := KN.few (by omega)
    -- part
    refine ⟨.ref gA, rfl, gA, rfl, ⟨_, SqT.of hg7⟩, ?_⟩
    refine lcG (walk_tup (xs := gs.map V.int)) (fun z => z = A) (fun z hz => by rw [hz]; exact R7.no) (by rw [List.length_map]; omega) (fun i acc H' => RowAt K S ns H' A ∧ ∃ pl : Part, acc = pl.map oV ∧ pl.length = i ∧ ∀ x, some x ∈ pl → x ∈ hs) ⟨R7, [], rfl, rfl, fun x hx => by simp at hx⟩ (fun i acc H' _ e _ => SqT.of (XT.ofRow R7 e _ _ hg7)) (fun i acc H' D l' hD hl' h => ⟨R7.upd0 h.1 hD, h.2⟩) (fun i x acc H3 H' Post Skip hi e3 h y hp hsk => ?_) (fun D acc H8 hD x8 hacc hal h => ?_)
    · obtain ⟨rfl, hx⟩ := y
      obtain ⟨R3, pl, rfl, hpl, hpm⟩ := h
      rw [List.getElem?_map] at hx
      obtain ⟨z, hz, rfl⟩ := Option.map_eq_some_iff.mp hx
      refine ⟨rfl, yes_do ?_⟩
      refine ⟨.ref A, rfl, A, 2, S, ns, rfl, by decide, by decide, R3, fun r H4 hr4 x4 R4 => ⟨rfl, _, rfl, if_d (fun hb => ?_) (fun hb => ?_)⟩⟩
      · exact hp _ _ x4 ⟨R4, pl ++ [none], by rw [List.map_append]; rfl, by rw [List.length_append]; simp [hpl], fun x hx => by
          rcases List.mem_append.mp hx with hx | hx
          · exact hpm x hx
          · simp at hx⟩
      · refine ⟨_, rfl, hp _ _ x4 ⟨R4, pl ++ [some z], by rw [List.map_append]; rfl, by rw [List.length_append]; simp [hpl], fun x hx => ?_⟩⟩
        rcases List.mem_append.mp hx with hx | hx
        · exact hpm x hx
        · rw [List.mem_singleton] at hx
          rw [Option.some.inj hx]
          exact hgm z (List.mem_of_getElem? hz)
    obtain ⟨R8, part, rfl, hpl, hpm⟩ := h
    rw [List.length_map, hgl] at hpl
    refine ⟨D, _, rfl, .inl ⟨SqL.of hacc, fun pA hpA => rd_name (rd_nx ?_)⟩⟩
    have xt8 := XT.ofRow R7 x8
    have ePA := Ex.new (o := .tup (part.map oV)) hpA
    have hprt : (upd H8 pA (.tup (part.map oV))) pA = some (.tup (part.map oV)) := upd_same
    generalize hH9 : upd H8 pA (.tup (part.map oV)) = H9 at ePA hprt ⊢
    have R9 := R8.ex ePA
    have T9 := (tabs_row T7 R7 x8).ext ePA
    have xt9 : XT H7 H9 := fun b xs h => ePA _ _ (xt8 b xs h)
    have hk9 : H9 KA = some (.dT (kvI (kvS kvs))) := ePA _ _ (x8 _ _ hKAA hk7)
    have A9 : Args3 H9 n T hs part wv (.ref hA') (.ref pA) := { web := hw7.ex xt9, ok := W, hts := ⟨hA', rfl, xt9 _ _ hh7⟩, hl := hl, hb := hb, prt := ⟨pA, rfl, hprt⟩, pl := hpl, pb := fun x hx => hb x (hpm x hx) }
    -- some = []
    refine q_asgL (el_lst ea_nil (by decide)) fun SA H10 hSA e10 hsa => ?_
    have hSAA : SA ≠ A := R9.off hSA
    -- for told in sorted(list(known))
    refine ⟨.ref KA, rfl, KA, _, rfl, .inl (e10 _ _ hk9), fun LP bs hLP hbs => ⟨LP, bs, kvs.map (·.1), rfl, SqL.of upd_same, ?_, fun b hb => hts_ne W hl ((KN.mem b).mp hb), fun ps' SP hps hSP => ⟨SP, rfl, ⟨_, SqL.of upd_same⟩, ?_⟩⟩⟩
    · rw [← kvS_keys]
      exact ITup.ex (.of (Ex.new hLP)) (isKeys_itup hbs)
    have O : OutsOk T hs ((kvs.map (·.1)).mergeSort leB) := ⟨(sort_outs KN.nd).1, fun g => ((sort_outs KN.nd).2 g).trans (KN.mem g)⟩
    generalize hOuts : (kvs.map (·.1)).mergeSort leB = outs at hps O
    have ofew := O.few (by omega)
    have e11 : Ex H10 (upd (upd H10 LP (.lst (bs.map V.ref))) SP (.lst (ps'.map V.ref))) := (Ex.new hLP).trans (Ex.new hSP)
    have hps11 : ITup (upd (upd H10 LP (.lst (bs.map V.ref))) SP (.lst (ps'.map V.ref))) ps' outs := ITup.ex (.of (Ex.new hSP)) hps
    have hsp11 : (upd (upd H10 LP (.lst (bs.map V.ref))) SP (.lst (ps'.map V.ref))) SP = some (.lst (ps'.map V.ref)) := upd_same
    generalize hH11 : upd (upd H10 LP (.lst (bs.map V.ref))) SP (.lst (ps'.map V.ref)) = H11 at e11 hps11 hsp11 ⊢
    have hSASP : SP ≠ SA := fun z => by rw [← hH11] at hsp11; rw [z] at hSP; rw [(Ex.new hLP) _ _ hsa] at hSP; cases hSP
    refine for_list (xs := ps'.map V.ref) (fun i σ H' => Ex H9 H' ∧ XT H11 H' ∧ H' SP = some (.lst (ps'.map V.ref)) ∧ (∃ y9, σ = [some (.ref S), some (.ref A), some wv, some (vN n), some (.ref hA'), some (.ref gA), some (.ref KA), some (.ref pA), some (.ref SA), y9, none, none, none, none, none, none, none, none, none, none]) ∧ ∃ qs, H' SA = some (.lst (qs.map V.ref)) ∧ ITup H' qs ((outs.take i).filter fun g => matchB g part))
      ⟨e10.trans e11, fun _ _ z => z, hsp11, ⟨_, rfl⟩, [], e11 _ _ hsa, .nil⟩ (fun i σ H' _ h => SqL.of h.2.2.1) (fun i z σ H' hz h => ?_) (fun σ H12 h => ?_)
    · obtain ⟨e12, xt12, hsp12, ⟨y9, rfl⟩, qs, hsa12, hqs⟩ := h
      rw [List.getElem?_map] at hz
      obtain ⟨xa, hxa, rfl⟩ := Option.map_eq_some_iff.mp hz
      obtain ⟨gg, hgg, hga⟩ := paired_getL hps11 hxa
      have hggl := ((O.2 gg).mp (List.mem_of_getElem? hgg)).len.trans hl
      have hga12 := xt12 _ _ hga
      have hp12 := e12 _ _ hprt
      have hil := (List.getElem?_eq_some_iff.mp hgg).1
      have ft : (outs.take (i + 1)).filter (fun g => matchB g part) = (outs.take i).filter (fun g => matchB g part) ++ if matchB gg part = true then [gg] else [] := by
        rw [take_next hgg, List.filter_append]
        congr 1
        by_cases hb : matchB gg part = true
        · rw [if_pos hb]; simp [hb]
        · rw [if_neg hb]; simp [hb]
      have emp : ((List.range n).filter fun i => !matchOne (at0 gg i) (pAt part i)).isEmpty = matchB gg part := by
        rw [filter_not_empty (fun i => matchOne (at0 gg i) (pAt part i))]
        unfold matchB
        rw [hggl]
      refine s_when (b := matchB gg part) (et_test (ev_is (ev_eqNew (el_rngF (fun i => !matchOne (at0 gg i) (pAt part i)) (ea_cons (ev_var (v := vN n) rfl) ea_nil) (by omega) (fun _ => rfl) (fun _ => rfl) fun i H13 e13 hi => et_miss (ev_hts (ev_var rfl) (ev_var rfl) ⟨xa, rfl, e13 _ _ hga12⟩ (by omega)) (ev_part (ev_var rfl) (ev_var rfl) ⟨pA, rfl, e13 _ _ hp12⟩ (by omega))) (el_lst ea_nil (by decide))) (by rw [emp]))) (fun hb H13 e13 => ?_) (fun hb H13 e13 => ?_)
      · have hql : qs.length ≤ 40000 := by
          rw [show qs.length = _ from Paired.length hqs]
          have h1 := List.length_filter_le (fun g => matchB g part) (outs.take i)
          rw [List.length_take] at h1
          omega
        refine s_app (e13 _ _ hsa12) (ev_var rfl) (ev_var rfl) (by rw [List.length_map]; omega) fun H14 e14 => ?_
        have xt14 : XT H14 (upd H14 SA (.lst (qs.map V.ref ++ [.ref xa]))) := xt_updL (.inr ⟨_, e14 _ _ (e13 _ _ hsa12)⟩)
        refine ⟨((e12.trans e13).trans e14).mut hSA, fun b xs hb => xt14 _ _ (e14 _ _ (e13 _ _ (xt12 _ _ hb))), ?_, ⟨_, rfl⟩, qs ++ [xa], by rw [upd_same, List.map_append]; rfl, ?_⟩
        · rw [upd_ne hSASP]; exact e14 _ _ (e13 _ _ hsp12)
        · rw [ft, if_pos hb]
          exact Paired.snoc (ITup.ex (fun b xs hb => xt14 _ _ (e14 _ _ (e13 _ _ hb))) hqs) (xt14 _ _ (e14 _ _ (e13 _ _ hga12)))
      · refine ⟨e12.trans e13, fun b xs hb => e13 _ _ (xt12 _ _ hb), e13 _ _ hsp12, ⟨_, rfl⟩, qs, e13 _ _ hsa12, ?_⟩
        rw [ft, if_neg (by rw [hb]; exact Bool.false_ne_true), List.append_nil]
        exact ITup.ex (.of e13) hqs
    obtain ⟨e12, xt12, hsp12, ⟨y9, rfl⟩, qs, hsa12, hqs⟩ := h
    rw [List.length_map, show ps'.length = outs.length from Paired.length hps11, List.take_length] at hqs
    have sf := somes_free (part := part) W hl O
    have mm := fun g => match_mem (part := part) hl O g
    have OO : ∃ o2, OutsOk T hs o2 ∧ (outs.filter fun g => matchB g part) = o2.filter fun g => matchB g part := ⟨outs, O, rfl⟩
    have sfew : (outs.filter fun g => matchB g part).length ≤ 3125 := Nat.le_trans (List.length_filter_le _ _) ofew
    have slen : ∀ g ∈ (outs.filter fun g => matchB g part), g.length = n := fun g hg => (((mm g).mp hg).1.len).trans hl
    have F12 : LF K Pt S ns A SA n T hs part wv hA' pA qs (outs.filter fun g => matchB g part) H12 := { a3 := A9.ex (.of e12), some := hsa12, outs := hqs, row := R9.ex e12, tabs := T9.ext e12, sa := hSAA }
    have hk12 := e12 _ _ hk9
    generalize hSo : (outs.filter fun g => matchB g part) = somes at hqs sf mm sfew slen F12 OO
    clear hsa12 hqs
    -- half_comes
    refine rd_nx (q_ifN (fun H' => Ex H12 H') (fun Q' q' => ?_) (fun H13 e13 => ?_))
    · refine ⟨wv, rfl, .ref hA', rfl, .ref pA, rfl, wv, .ref hA', .ref pA, n, T, hs, part, rfl, F12.a3, fun b hbF H13 e13 => ?_⟩
      refine ev_neT (K := K) (ev_var (i := 8) rfl) (SqL.of (e13 _ _ F12.some)) (F12.outs.ex (.of e13)) (el_lst ea_nil (by decide)) H13 (Ex.refl _) _ fun H14 e14 => ?_
      have hbs : (!somes.isEmpty) = b := by
        cases hso : somes with
        | nil =>
          cases b with
          | false => rfl
          | true => exact absurd hso (sf.mpr (hbF.mp rfl))
        | cons x l =>
          have : b = true := hbF.mpr (sf.mp (by rw [hso]; simp))
          rw [this]; rfl
      rw [hbs]
      exact ⟨b, rfl, true, rfl, q' _ (e13.trans e14)⟩
    have F13 := F12.ex e13
    have hk13 := e13 _ _ hk12
    -- outcomes, count
    refine q_ifN (fun H' => Ex H13 H') (fun Q' q' => ?_) (fun H14 e14 => ?_)
    · refine ⟨wv, rfl, .ref hA', rfl, .ref pA, rfl, wv, .ref hA', .ref pA, n, T, hs, part, rfl, F13.a3, fun OP ops ol H14 hOP e14 hop hops hO => ?_⟩
      obtain ⟨o2, hO2, rfl⟩ := hO
      obtain ⟨o3, hO3, e3o⟩ := OO
      have hol : (o2.filter fun g => matchB g part) = somes := by rw [hO2.uniq hO3, ← e3o]
      refine ⟨wv, rfl, .ref hA', rfl, .ref pA, rfl, wv, .ref hA', .ref pA, n, T, hs, part, rfl, F13.a3.ex (.of e14), fun o4 hO4 H15 e15 => ⟨by show 2 ≤ sizeLine; omega, fun LP hLP => ?_⟩⟩
      have hol4 : (o4.filter fun g => matchB g part) = somes := by rw [hO4.uniq hO3, ← e3o]
      rw [hol4]
      rw [hol] at hops
      have e1L := Ex.new (o := .lst [.ref OP, vN somes.length]) hLP
      have hlp : (upd H15 LP (.lst [.ref OP, vN somes.length])) LP = some (.lst [.ref OP, vN somes.length]) := upd_same
      generalize hH16 : upd H15 LP (.lst [.ref OP, vN somes.length]) = H16 at e1L hlp ⊢
      have e16 := (e14.trans e15).trans e1L
      have F16 := F13.ex e16
      refine ⟨.ref SA, rfl, .ref SA, rfl, SA, qs.map V.ref, rfl, .inl (SqL.of F16.some), ⟨by show 2 ≤ sizeLine; omega, fun LQ hLQ => ?_⟩⟩
      have e2L := Ex.new (o := .lst [.ref SA, .int ((qs.map V.ref).length : Int)]) hLQ
      have hlq : (upd H16 LQ (.lst [.ref SA, .int ((qs.map V.ref).length : Int)])) LQ = some (.lst [.ref SA, .int ((qs.map V.ref).length : Int)]) := upd_same
      generalize hH17 : upd H16 LQ (.lst [.ref SA, .int ((qs.map V.ref).length : Int)]) = H17 at e2L hlq ⊢
      have F17 := F16.ex e2L
      have hqsl : (qs.map V.ref).length = somes.length := by rw [List.length_map]; exact Paired.length F17.outs
      rw [hqsl] at hlq
      have hop17 := e2L _ _ (e1L _ _ (e15 _ _ hop))
      have hops17 : ITup H17 ops somes := ITup.ex (.of ((e15.trans e1L).trans e2L)) hops
      have dl : ∀ b ∈ somes, b.length ≤ 40000 := fun b hb => by rw [slen b hb]; omega
      have ds1 : (somes.map tupD).length ≤ 40000 := by rw [List.length_map]; omega
      refine ⟨.ref LP, .ref LQ, .list [.list (somes.map tupD), .int (somes.length : Int)], rfl, dv_lst (e2L _ _ hlp) (by show 2 ≤ 40000; decide) (.cons (dv_lst hop17 ds1 (dvs_T hops17 dl)) (.cons dv_int .nil)), dv_lst hlq (by show 2 ≤ 40000; decide) (.cons (dv_lst F17.some ds1 (dvs_T F17.outs dl)) (.cons dv_int .nil)), fun H18 e18 => ⟨true, rfl, q' _ ((e16.trans e2L).trans e18)⟩⟩
    have F14 := F13.ex e14
    have hk14 := e14 _ _ hk13
    have some14 : Ev (tOp (rNeD K) (tVar 8) (tLst tNil)) [some (.ref S), some (.ref A), some wv, some (vN n), some (.ref hA'), some (.ref gA), some (.ref KA), some (.ref pA), some (.ref SA), y9, none, none, none, none, none, none, none, none, none, none] H14 (.bl (!somes.isEmpty)) :=
      ev_neT (ev_var rfl) (SqL.of F14.some) F14.outs (el_lst ea_nil (by decide))
    have bT : Free T n hs part → (!somes.isEmpty) = true := fun Fr => by
      cases hso : somes with
      | nil => exact absurd hso (sf.mpr Fr)
      | cons x l => rfl
    have bF : ¬ Free T n hs part → (!somes.isEmpty) = false := fun nF => by
      cases hso : somes with
      | nil => rfl
      | cons x l => exact absurd (sf.mp (by rw [hso]; simp)) nF
    -- few
    refine q_asgP (P := fun v _ => (¬ Free T n hs part → v = .non) ∧ (Free T n hs part → ∃ (m0 : Nat) (g0 : List Int), v = vN m0 ∧ (g0, m0) ∈ kvs ∧ Match n part g0 ∧ ∀ g k, (g, k) ∈ kvs → Match n part g → m0 ≤ k)) ?_ fun fv H15 e15 hfv => ?_
    · by_cases Fr : Free T n hs part
      · obtain ⟨kOf, hkOf⟩ : ∃ kOf : List Int → Nat, ∀ g ∈ somes, (g, kOf g) ∈ kvs := by
          refine ⟨fun g => if h : ∃ k, (g, k) ∈ kvs then h.choose else 0, fun g hg => ?_⟩
          have h : ∃ k, (g, k) ∈ kvs := KN.all g ((mm g).mp hg).1
          show (g, if h : ∃ k, (g, k) ∈ kvs then h.choose else 0) ∈ kvs
          rw [dif_pos h]
          exact h.choose_spec
        obtain ⟨m0, hm0, hle⟩ := min_there (somes.map kOf) (by
          intro z
          have := List.map_eq_nil_iff.mp z
          exact sf.mpr Fr this)
        obtain ⟨g0, hg0, rfl⟩ := List.mem_map.mp hm0
        have hql : (qs.map V.ref).length = somes.length := by rw [List.length_map]; exact Paired.length F14.outs
        refine evP_ifT (et_test (ev_is some14 (by rw [bT Fr]))) (EvP.of_ev (v := vN (kOf g0)) (ev_minL (xs := somes.map fun g => (kOf g : Int)) (m := (kOf g0 : Int)) ?_ (List.mem_map.mpr ⟨g0, hg0, rfl⟩) (fun y hy => ?_)) (fun H' e' => ⟨fun nF => absurd Fr nF, fun _ => ⟨kOf g0, g0, rfl, hkOf g0 hg0, ((mm g0).mp hg0).2, fun g k hk hmt => ?_⟩⟩))
        · rw [List.map_map]
          refine el_mapR (ev_var (v := .ref SA) rfl) (SqL.of F14.some) (by omega) (by rw [List.length_map, hql]) (fun _ => rfl) fun i x y H' e' hx hy => ?_
          rw [List.getElem?_map] at hx hy
          obtain ⟨b, hb', rfl⟩ := Option.map_eq_some_iff.mp hx
          obtain ⟨gg, hgg, rfl⟩ := Option.map_eq_some_iff.mp hy
          obtain ⟨b2, hb2, hbt⟩ := paired_get F14.outs hgg
          rw [hb'] at hb2
          cases hb2
          refine ev_dget (ev_var rfl) (ev_var rfl) fun H'' e'' => ?_
          have hv := kvS_val KN.nd (hkOf gg (List.mem_of_getElem? hgg))
          have dg := DGet.t (H := H'') (a := KA) (b := b) (k := gg.map Sum.inl) ((e'.trans e'') _ _ hk14) (by rw [kV_ints]; exact (e'.trans e'') _ _ hbt)
          rw [hv] at dg
          exact dg
        · obtain ⟨g', hg', rfl⟩ := List.mem_map.mp hy
          have := hle _ (List.mem_map.mpr ⟨g', hg', rfl⟩)
          omega
        · have hr := (KN.ok g k hk).1
          have hgs := (mm g).mpr ⟨⟨k, hr⟩, hmt⟩
          have h1 := hle _ (List.mem_map.mpr ⟨g, hgs, rfl⟩)
          have h2 := (KN.ok g (kOf g) (hkOf g hgs)).2 k hr
          omega
      · exact evP_ifF (et_test (ev_is some14 (by rw [bF Fr]))) (EvP.of_ev ev_c (fun H' e' => ⟨fun _ => rfl, fun Fr' => absurd Fr' Fr⟩))
    have F15 := F14.ex e15
    have some15 : Ev (tOp (rNeD K) (tVar 8) (tLst tNil)) [some (.ref S), some (.ref A), some wv, some (vN n), some (.ref hA'), some (.ref gA), some (.ref KA), some (.ref pA), some (.ref SA), y9, some fv, none, none, none, none, none, none, none, none, none] H15 (.bl (!somes.isEmpty)) :=
      ev_neT (ev_var rfl) (SqL.of F15.some) F15.outs (el_lst ea_nil (by decide))
    -- least
    refine q_asgP (P := fun v H' => (¬ Free T n hs part → v = .non) ∧ (Free T n hs part → ∃ (M : List Int) (lA : Addr), Least T n hs part M ∧ v = .ref lA ∧ H' lA = some (.tup (M.map V.int)))) ?_ fun lv H16 e16 hlv => ?_
    · by_cases Fr : Free T n hs part
      · obtain ⟨M, hM⟩ := least_there W hl Fr
        have hMs := (mm M).mpr (hM.comes W hl Fr)
        have hql : (qs.map V.ref).length = somes.length := by rw [List.length_map]; exact Paired.length F15.outs
        refine evP_ifT (et_test (ev_is some15 (by rw [bT Fr]))) (EvP.imp (EvP.ofU (xs := M.map V.int) (eu_tupL ?_)) fun v H' e' hv => ⟨fun nF => absurd Fr nF, fun _ => let ⟨a, h1, h2⟩ := hv; ⟨M, a, hM, h1, h2⟩⟩)
        rw [← range_at0 hM.len]
        refine el_rngM (fun i => V.int (at0 M i)) (ea_cons (ev_var (v := vN n) rfl) ea_nil) (by omega) (fun _ => rfl) fun i H' e' hi => ?_
        refine ev_minL (xs := somes.map fun g => at0 g i) (m := at0 M i) ?_ (List.mem_map.mpr ⟨M, hMs, rfl⟩) (fun y hy => ?_)
        · rw [List.map_map]
          refine el_mapR (ev_var (v := .ref SA) rfl) (SqL.of (e' _ _ F15.some)) (by omega) (by rw [List.length_map, hql]) (fun _ => rfl) fun j x y H'' e'' hx hy => ?_
          rw [List.getElem?_map] at hx hy
          obtain ⟨b, hb', rfl⟩ := Option.map_eq_some_iff.mp hx
          obtain ⟨gg, hgg, rfl⟩ := Option.map_eq_some_iff.mp hy
          obtain ⟨b2, hb2, hbt⟩ := paired_get F15.outs hgg
          rw [hb'] at hb2
          cases hb2
          exact ev_hts (ev_var rfl) (ev_var rfl) ⟨b, rfl, e'' _ _ (e' _ _ hbt)⟩ (by rw [slen gg (List.mem_of_getElem? hgg)]; exact hi)
        · obtain ⟨g', hg', rfl⟩ := List.mem_map.mp hy
          obtain ⟨h1, h2⟩ := (mm g').mp hg'
          exact hM.below W hl h1 h2 hi
      · exact evP_ifF (et_test (ev_is some15 (by rw [bF Fr]))) (EvP.of_ev ev_c (fun H' e' => ⟨fun _ => rfl, fun Fr' => absurd Fr' Fr⟩))
    have F16 := F15.ex e16
    -- fewest, least
    refine q_ifN (fun H' => LF K Pt S ns A SA n T hs part wv hA' pA qs somes H') (fun Q' q' => ?_) (fun H17 F17 => ?_)
    · refine ⟨wv, rfl, .ref hA', rfl, .ref pA, rfl, wv, .ref hA', .ref pA, n, T, hs, part, rfl, F16.a3, F16.tabs, fun nF H17 eN tb => ?_, fun Fr m H17 fo eN tb => ?_⟩
      · have G17 := F16.exN eN tb
        refine ⟨wv, rfl, .ref hA', rfl, .ref pA, rfl, wv, .ref hA', .ref pA, n, T, hs, part, rfl, G17.a3, fun _ H18 e18 => ?_, fun Fr => absurd Fr nF⟩
        refine ⟨by show 2 ≤ sizeLine; omega, fun LP hLP => ?_⟩
        have e1L := Ex.new (o := .lst [.non, .non]) hLP
        refine ⟨fv, rfl, lv, rfl, by show 2 ≤ sizeLine; omega, fun LQ hLQ => ?_⟩
        have e2L := Ex.new (o := .lst [fv, lv]) hLQ
        have hf1 := hfv.1 nF
        have hl1 := hlv.1 nF
        subst hf1 hl1
        refine ⟨.ref LP, .ref LQ, .list [.none, .none], rfl, dv_lst (e2L _ _ upd_same) (by show 2 ≤ 40000; decide) (.cons dv_non (.cons dv_non .nil)), dv_lst upd_same (by show 2 ≤ 40000; decide) ?_, fun H19 e19 => ⟨true, rfl, q' _ (G17.ex (((e18.trans e1L).trans e2L).trans e19))⟩⟩
        exact .cons dv_non (.cons dv_non .nil)
      · have G17 := F16.exN eN tb
        refine ⟨wv, rfl, .ref hA', rfl, .ref pA, rfl, wv, .ref hA', .ref pA, n, T, hs, part, rfl, G17.a3, fun nF => absurd Fr nF, fun _ M' hM' mA H18 hmA e18 hm18 => ?_⟩
        refine ⟨by show 2 ≤ sizeLine; omega, fun LP hLP => ?_⟩
        have e1L := Ex.new (o := .lst [vN m, .ref mA]) hLP
        refine ⟨fv, rfl, lv, rfl, by show 2 ≤ sizeLine; omega, fun LQ hLQ => ?_⟩
        have e2L := Ex.new (o := .lst [fv, lv]) hLQ
        obtain ⟨m0, g0, hf1, hf2, hf3, hf4⟩ := hfv.2 Fr
        obtain ⟨M, lA, hl1, hl2, hl3⟩ := hlv.2 Fr
        have em : m = m0 := few_eq W hl hpl Fr KN fo hf2 hf3 hf4
        have eM : M' = M := least_uniq W hl Fr hM' hl1
        subst hf1 hl2
        subst em eM
        have hlA : H17 lA = some (.tup (M'.map V.int)) := eN _ _ hl3 fun _ z => nomatch z
        have hMl : (M'.map PyData.int).length ≤ 40000 := by rw [List.length_map, hM'.len]; omega
        refine ⟨.ref LP, .ref LQ, .list [.int (m : Int), .tuple (M'.map PyData.int)], rfl, dv_lst (e2L _ _ upd_same) (by show 2 ≤ 40000; decide) (.cons dv_int (.cons (dv_tup (e2L _ _ (e1L _ _ hm18)) hMl (dvs_T.dvs_I M')) .nil)), dv_lst upd_same (by show 2 ≤ 40000; decide) ?_, fun H19 e19 => ⟨true, rfl, q' _ (G17.ex (((e18.trans e1L).trans e2L).trans e19))⟩⟩
        exact .cons dv_int (.cons (dv_tup (e2L _ _ (e1L _ _ (e18 _ _ hlA))) hMl (dvs_T.dvs_I M')) .nil)
    -- height
    refine ⟨.ref A, rfl, A, 5, S, ns, rfl, by decide, by decide, F17.row, fun r H18 hr18 x18 R18 => ⟨_, _, rfl, rfl, rd_name (rd_nx ?_)⟩⟩
    have F18 := F17.exR x18 R18
    obtain ⟨x, hx⟩ : ∃ x : Int, x = (r : Int) - 1 := ⟨_, rfl⟩
    have hhA18 := F18.a3.hts
    obtain ⟨hh1, hh2, hhc⟩ := hhA18
    cases hh2
    have hpA18 := F18.a3.prt
    obtain ⟨pp1, pp2, hpc⟩ := hpA18
    cases pp2
    have ol := openL_len (n := n) (h := hs) (part := part) (x := x)
    -- near
    refine q_asgL (xs := (openL n hs part x).map vN) ?_ fun NA H19 hNA e19 hna => ?_
    · exact el_rngF (openB hs part x) (ea_cons (ev_var (v := vN n) rfl) ea_nil) (by omega) (fun _ => rfl) (fun _ => rfl) fun i H' e' hi => et_openG (ev_hts (ev_var rfl) (ev_var rfl) ⟨hA', rfl, e' _ _ hhc⟩ (by omega)) (ev_part (ev_var rfl) (ev_var rfl) ⟨pA, rfl, e' _ _ hpc⟩ (by omega)) (ev_var (v := .int x) (by rw [hx]; rfl))
    have F19 := F18.ex e19
    -- pieces
    have hxb : -1000 ≤ x ∧ x ≤ 1000 := by omega
    have olt : ∀ i ∈ openL n hs part x, i < n := fun i hi => (mem_openL.mp hi).1
    refine q_ifN (fun H' => Ex H19 H') (fun Q' q' => ?_) (fun H20 e20 => ?_)
    · refine ⟨wv, rfl, .ref hA', rfl, .ref pA, rfl, .int x, by rw [hx]; rfl, wv, .ref hA', .ref pA, x, n, T, hs, part, rfl, F19.a3, hxb.1, hxb.2, fun PP pps H20 e20 hpp hptt => ?_⟩
      have F20 := F19.ex e20
      refine ⟨wv, rfl, .ref NA, rfl, NA, _, rfl, .inl ⟨SqL.of (e20 _ _ hna), fun TL hTL => ?_⟩⟩
      have eTL := Ex.new (o := .tup ((openL n hs part x).map vN)) hTL
      refine ⟨wv, n, T, TL, openL n hs part x, rfl, F20.a3.web.ex (.of eTL), W, upd_same, olt, by omega, fun LP lps H21 hLP e21 hlp hltt => ?_⟩
      refine ⟨LP, _, rfl, .inl ⟨SqL.of hlp, fun TP hTP => ?_⟩⟩
      have eTP := Ex.new (o := .tup (lps.map V.ref)) hTP
      have pl1 := partsL_len (T := T) olt
      have pl2 : ∀ l ∈ partsL T n (openL n hs part x), l.length ≤ 40000 := fun l hl' => by
        obtain ⟨y, _, rfl⟩ := (partsF_mem (T := T) olt _ _ (Nat.le_refl _) (closed_all _)).1 l hl'
        have := hangL_len (T := T) (n := n) (lot := openL n hs part x) (p := y)
        omega
      have pl3 : ((partsL T n (openL n hs part x)).map fun l => tupD (l.map fun i : Nat => (i : Int))).length ≤ 40000 := by rw [List.length_map]; omega
      exact ⟨.ref PP, .ref TP, .tuple ((partsL T n (openL n hs part x)).map fun l => tupD (l.map fun i : Nat => (i : Int))), rfl, dv_tup (eTP _ _ (e21 _ _ (eTL _ _ hpp))) pl3 (dvs_N (hptt.ex (.of ((eTL.trans e21).trans eTP))) pl2), dv_tup upd_same pl3 (dvs_N (hltt.ex (.of eTP)) pl2), fun H22 e22 => ⟨true, rfl, q' _ (((e20.trans eTL).trans (e21.trans eTP)).trans e22)⟩⟩
    have F20 := F19.ex e20
    have hhc20 := e20 _ _ (e19 _ _ hhc)
    have hpc20 := e20 _ _ (e19 _ _ hpc)
    -- due = None
    refine q_asg (v := .non) ev_c fun H21 e21 => ?_
    have F21 := F20.ex e21
    -- for person in range(many)
    refine q_forR1 (n := (n : Int)) (ea_cons (ev_var (v := vN n) rfl) ea_nil) ⟨by omega, by omega⟩
      (fun i σ H' => Ex H21 H' ∧ ∃ dv : V, (∃ y13 y15 y16 y17, σ = [some (.ref S), some (.ref A), some wv, some (vN n), some (.ref hA'), some (.ref gA), some (.ref KA), some (.ref pA), some (.ref SA), y9, some fv, some lv, some (.int x), y13, some dv, y15, y16, y17, none, none]) ∧
        ((dv = .non ∧ ∀ j, j < i → ∀ y, pAt part j = some y → Src T n hs part y j) ∨ ∃ (p : Nat) (y : Int) (D S2 : Addr), p < i ∧ FirstBad T n hs part p y ∧ dv = .ref D ∧ H' D = some (.tup [vN p, .ref S2]) ∧ H' S2 = some (.tup ((pieceL T n hs part y p).map vN))))
      (fun H' e' => ⟨e', .non, ⟨_, _, _, _, by rw [hx]; rfl⟩, .inl ⟨rfl, fun j hj => absurd hj (Nat.not_lt_zero j)⟩⟩) (fun i σ H' hi h => ?_) (fun σ H' h => ?_)
    · obtain ⟨e22, dv, ⟨y13, y15, y16, y17, rfl⟩, hdv⟩ := h
      have hin : i < n := by omega
      have F22 := F21.ex e22
      have hh22 := e22 _ _ (e21 _ _ hhc20)
      have hp22 := e22 _ _ (e21 _ _ hpc20)
      refine s_when (b := (pAt part i).isSome && decide (dv = .non)) (et_and (et_test (ev_notN (ev_part (ev_var rfl) (ev_var rfl) ⟨pA, rfl, hp22⟩ (by omega)))) fun _ => et_test (ev_op (ev_var (v := dv) rfl) (ev_c (v := .non)) (rv_val (r := fun x y H Q => y = .non ∧ Q (.bl (decide (x = .non))) H) fun H1 e1 Q q => ⟨rfl, q⟩))) (fun hb H23 e23 => ?_) (fun hb H23 e23 => ?_)
      · obtain ⟨hb1, hb2⟩ := Bool.and_eq_true_iff.mp hb
        have hdn := of_decide_eq_true hb2
        have hok : ∀ j, j < i → ∀ y, pAt part j = some y → Src T n hs part y j := by
          rcases hdv with ⟨_, h⟩ | ⟨p, y, D, S2, _, _, h, _⟩
          · exact h
          · rw [hdn] at h; cases h
        cases ep : pAt part i with
        | none => rw [ep] at hb1; cases hb1
        | some y =>
        have evy : ∀ (σ : L2.St) (H' : Hp), Ex H23 H' → σ[7]? = some (some (.ref pA)) → σ[15]? = some (some (vN i)) → Ev (tOp (rIxT K) (tVar 7) (tVar 15)) σ H' (.int y) := fun σ H' e' s1 s2 => by
          have := ev_part (K := K) (ev_var s1) (ev_var s2) (i := i) ⟨pA, rfl, e' _ _ (e23 _ _ hp22)⟩ (by omega)
          rw [ep] at this
          exact this
        -- near = []
        refine q_asgL (el_lst ea_nil (by decide)) fun NB H24 hNB e24 hnb => ?_
        have e2324 := e23.trans e24
        refine q_forR1 (n := (n : Int)) (ea_cons (ev_var (v := vN n) rfl) ea_nil) ⟨by omega, by omega⟩ (fun k σ H' => Ex H23 H' ∧ (∃ y16, σ = [some (.ref S), some (.ref A), some wv, some (vN n), some (.ref hA'), some (.ref gA), some (.ref KA), some (.ref pA), some (.ref SA), y9, some fv, some lv, some (.int x), some (.ref NB), some dv, some (vN i), y16, y17, none, none]) ∧ H' NB = some (.lst (((List.range k).filter (openB hs part y)).map vN)))
          (fun H' e' => ⟨e24.trans e', ⟨_, rfl⟩, e' _ _ hnb⟩) (fun k σ H' hk h => ?_) (fun σ H25 h => ?_)
        · obtain ⟨e25, ⟨y16, rfl⟩, hnb25⟩ := h
          have hkn : k < n := by omega
          have hh25 := e25 _ _ (e23 _ _ hh22)
          have hp25 := e25 _ _ (e23 _ _ hp22)
          have rs : (List.range (k + 1)).filter (openB hs part y) = (List.range k).filter (openB hs part y) ++ if openB hs part y k = true then [k] else [] := by
            rw [List.range_succ, List.filter_append]
            congr 1
            by_cases hb : openB hs part y k = true
            · rw [if_pos hb, List.filter_cons_of_pos hb]; rfl
            · rw [if_neg hb, List.filter_cons_of_neg hb]; rfl
          refine s_when (b := openB hs part y k) (et_openG (ev_hts (ev_var rfl) (ev_var rfl) ⟨hA', rfl, hh25⟩ (by omega)) (ev_part (ev_var rfl) (ev_var rfl) ⟨pA, rfl, hp25⟩ (by omega)) (evy _ _ e25 rfl rfl)) (fun hb H26 e26 => ?_) (fun hb H26 e26 => ?_)
          · have hle : ((List.range k).filter (openB hs part y)).length ≤ k := by
              have := List.length_filter_le (openB hs part y) (List.range k)
              rwa [List.length_range] at this
            refine s_app (e26 _ _ hnb25) (ev_var rfl) (ev_var rfl) (by rw [List.length_map]; omega) fun H27 e27 => ⟨((e25.trans e26).trans e27).mut hNB, ⟨_, rfl⟩, ?_⟩
            rw [upd_same, rs, if_pos hb, List.map_append]; rfl
          · refine ⟨e25.trans e26, ⟨_, rfl⟩, ?_⟩
            rw [rs, if_neg (by rw [hb]; exact Bool.false_ne_true), List.append_nil]
            exact e26 _ _ hnb25
        obtain ⟨e25, ⟨y16, rfl⟩, hnb25⟩ := h
        rw [Int.toNat_natCast] at hnb25
        have hnbo : H25 NB = some (.lst ((openL n hs part y).map vN)) := hnb25
        have e225 := (e22.trans e23).trans e25
        have F25 := F21.ex e225
        have oly := openL_len (n := n) (h := hs) (part := part) (x := y)
        have olty : ∀ j ∈ openL n hs part y, j < n := fun j hj => (mem_openL.mp hj).1
        -- piece = [lot for lot in parts(web, tuple(near)) if person in lot]
        refine ⟨wv, rfl, .ref NB, rfl, NB, _, rfl, .inl ⟨SqL.of hnbo, fun TL hTL => ?_⟩⟩
        have eTL := Ex.new (o := .tup ((openL n hs part y).map vN)) hTL
        refine ⟨wv, n, T, TL, openL n hs part y, rfl, F25.a3.web.ex (.of eTL), W, upd_same, olty, by omega, fun LP lps H26 hLP e26 hlp hltt => ⟨LP, rfl, ⟨_, SqL.of hlp⟩, ?_⟩⟩
        have pl1 := partsL_len (T := T) olty
        have lpl : lps.length = (partsL T n (openL n hs part y)).length := Paired.length hltt
        refine lcG (walk_list (xs := lps.map V.ref)) noS (fun _ h => h.elim) (by rw [List.length_map]; omega) (fun k acc H' => ∃ rs, acc = rs.map V.ref ∧ TupsN H' rs (((partsL T n (openL n hs part y)).take k).filter fun Pp => decide (i ∈ Pp))) ⟨[], rfl, .nil⟩ (fun k acc H' _ e _ => SqL.of (e _ _ (fun z => z) hlp)) (fun k acc H' D l' hD hl' h => ?_) (fun k z acc H5 H' Post Skip hk e5 h y' hp' hsk => ?_) (fun D acc H27 hD e27 hacc hal h => ?_)
        · obtain ⟨rs, h1, h2⟩ := h
          exact ⟨rs, h1, h2.ex (xt_updL hl')⟩
        · obtain ⟨rfl, hz⟩ := y'
          obtain ⟨rs, rfl, hrs⟩ := h
          rw [List.getElem?_map] at hz
          obtain ⟨a, ha, rfl⟩ := Option.map_eq_some_iff.mp hz
          obtain ⟨l, hl1, hla⟩ := paired_getL hltt ha
          have ft : (((partsL T n (openL n hs part y)).take (k + 1)).filter fun Pp => decide (i ∈ Pp)) = (((partsL T n (openL n hs part y)).take k).filter fun Pp => decide (i ∈ Pp)) ++ if decide (i ∈ l) = true then [l] else [] := by
            rw [take_next hl1, List.filter_append]
            congr 1
            by_cases hb : decide (i ∈ l) = true
            · rw [if_pos hb]; simp [of_decide_eq_true hb]
            · rw [if_neg hb]; simp [show ¬ i ∈ l from fun z => hb (decide_eq_true z)]
          refine ⟨rfl, ?_⟩
          refine et_test (ev_inT (i := i) (ns := l) (ev_var rfl) (ev_var (v := .ref a) rfl) (SqT.of (e5 _ _ (fun z => z) hla))) _ (Ex.refl _) _ fun H6 e6 => if_d (fun hb => ?_) (fun hb => ?_)
          · refine ⟨.ref a, rfl, hp' _ _ (.of e6) ⟨rs ++ [a], by rw [List.map_append]; rfl, ?_⟩⟩
            rw [ft, if_pos hb]
            exact Paired.snoc (hrs.ex (.of e6)) (e6 _ _ (e5 _ _ (fun z => z) hla))
          · refine hsk _ (.of e6) ⟨rs, rfl, ?_⟩
            rw [ft, if_neg (by rw [hb]; exact Bool.false_ne_true), List.append_nil]
            exact hrs.ex (.of e6)
        obtain ⟨rs, rfl, hrs⟩ := h
        rw [List.length_map, lpl, List.take_length] at hrs
        obtain ⟨po1, po2⟩ := parts_of_one (T := T) olty i
        have e2527 : Ex H25 H27 := (eTL.trans e26).trans e27.ex
        refine rd_name (rd_nx ?_)
        have neR : ∀ (σ : L2.St) (H' : Hp), Ex H27 H' → σ[17]? = some (some (.ref D)) → Ev (tOp (rNeD K) (tVar 17) (tLst tNil)) σ H' (.bl (!((partsL T n (openL n hs part y)).filter fun Pp => decide (i ∈ Pp)).isEmpty)) := fun σ H' e' s1 => by
          have := ev_neT (K := K) (tb := tLst tNil) (ev_var s1) (SqL.of (e' _ _ hacc)) (ITup.ex (.of e') hrs.itup) (el_lst ea_nil (by decide))
          rw [isEmpty_map] at this
          exact this
        -- piece = piece[0] if piece != [] else ()
        refine q_asgW (xs := (pieceL T n hs part y i).map vN) ?_ fun PL H28 e28 hpl28 => ?_
        · by_cases hio : i ∈ openL n hs part y
          · have h0 := po2 hio
            have hne : (!((partsL T n (openL n hs part y)).filter fun Pp => decide (i ∈ Pp)).isEmpty) = true := by
              cases e : ((partsL T n (openL n hs part y)).filter fun Pp => decide (i ∈ Pp)) with
              | nil => rw [e] at h0; cases h0
              | cons a b => rfl
            obtain ⟨a0, ha0, hta⟩ := paired_get hrs h0
            refine ew_ifT (et_test (ev_is (neR _ _ (Ex.refl _) rfl) (by rw [hne]))) ?_
            unfold pieceL
            rw [if_pos hio]
            refine EvW.ofEv (a := a0) (ev_op (ev_var (v := .ref D) rfl) ev_c (rv_ixSL (SqL.of hacc) (atI_nat (j := 0) (by rw [List.getElem?_map, ha0]; rfl)))) hta
          · have h0 := po1 hio
            refine ew_ifF (et_test (ev_is (neR _ _ (Ex.refl _) rfl) (by rw [h0]; rfl))) ?_
            unfold pieceL
            rw [if_neg hio]
            exact .of (eu_tup ea_nil (by show 0 ≤ 100000; decide))
        -- if nobody of it: due = (person, piece)
        have pll := piece_len (T := T) (n := n) (h := hs) (part := part) (x := y) (p := i)
        have e2328 := (e25.trans e2527).trans e28
        have e2228 := e22.trans (e23.trans e2328)
        have hh28 := e2328 _ _ (e23 _ _ hh22)
        refine s_when (b := !((pieceL T n hs part y i).any fun j => decide (at0 hs j = y))) (et_test (ev_is (ev_eqNew (el_filterT (fun j => decide (at0 hs j = y)) (ev_var (v := .ref PL) rfl) (SqT.of hpl28) (by omega) (fun _ => rfl) (fun _ => rfl) fun j H29 e29 hj => et_test (ev_eqI (ev_hts (ev_var rfl) (ev_var rfl) ⟨hA', rfl, e29 _ _ hh28⟩ (by have := piece_lt j hj; omega)) (evy _ _ (e2328.trans e29) rfl rfl))) (el_lst ea_nil (by decide))) (by rw [filter_any]))) (fun hb3 H29 e29 => ?_) (fun hb3 H29 e29 => ?_)
        · have nsrc : ¬ Src T n hs part y i := fun z => by
            rw [piece_any.mpr z] at hb3; cases hb3
          refine s_asgU (eu_tup (ea_cons (ev_var rfl) (ea_cons (ev_var rfl) ea_nil)) (by show 2 ≤ 100000; decide)) fun DD H30 hDD e30 hdd => ?_
          exact ⟨(e2228.trans e29).trans e30, .ref DD, ⟨_, _, _, _, rfl⟩, .inr ⟨i, y, DD, PL, Nat.lt_succ_self i, ⟨hin, ep, nsrc, hok⟩, rfl, hdd, e30 _ _ (e29 _ _ hpl28)⟩⟩
        · have src : Src T n hs part y i := piece_any.mp (by simpa using hb3)
          refine ⟨e2228.trans e29, dv, ⟨_, _, _, _, rfl⟩, .inl ⟨hdn, fun j hj y2 hy2 => ?_⟩⟩
          by_cases e : j = i
          · subst e; rw [ep] at hy2; cases hy2; exact src
          · exact hok j (by omega) y2 hy2
      · refine ⟨e22.trans e23, dv, ⟨_, _, _, _, rfl⟩, ?_⟩
        rcases hdv with ⟨h1, h2⟩ | ⟨p, y, D, S2, h1, h2, h3, h4, h5⟩
        · refine .inl ⟨h1, fun j hj y2 hy2 => ?_⟩
          by_cases e : j = i
          · subst e
            rw [hy2, decide_eq_true h1] at hb; cases hb
          · exact h2 j (by omega) y2 hy2
        · exact .inr ⟨p, y, D, S2, by omega, h2, h3, e23 _ _ h4, e23 _ _ h5⟩
    · obtain ⟨e22, dv, ⟨y13, y15, y16, y17, rfl⟩, hdv⟩ := h
      rw [Int.toNat_natCast] at hdv
      have F22 := F21.ex e22
      -- the last: alike(half_blocked(..), due) and (due is None) == (some != [])
      have last : ∀ b : Bool, (b = true ↔ Free T n hs part) → (dv = .non ↔ b = true) → ∀ H23, Ex H' H23 → Ev (tOp rEq (tOp (fun x y H Q => y = .non ∧ Q (.bl (decide (x = .non))) H) (tVar 14) (tC .non)) (tOp (rNeD K) (tVar 8) (tLst tNil))) [some (.ref S), some (.ref A), some wv, some (vN n), some (.ref hA'), some (.ref gA), some (.ref KA), some (.ref pA), some (.ref SA), y9, some fv, some lv, some (.int x), y13, some dv, y15, y16, y17, none, none] H23 (.bl true) := by
        intro b hbF hdb H23 e23
        have F23 := F22.ex e23
        have h1 : decide (dv = .non) = b := by
          cases b with
          | true => exact decide_eq_true (hdb.mpr rfl)
          | false => exact decide_eq_false fun z => nomatch hdb.mp z
        have h2 : (!somes.isEmpty) = b := by
          cases b with
          | true => exact bT (hbF.mp rfl)
          | false => exact bF fun z => nomatch hbF.mpr z
        refine ev_is (ev_eqB (x := b) (y := b) (ev_op (ev_var (v := dv) rfl) (ev_c (v := .non)) (rv_val (r := fun x y H Q => y = .non ∧ Q (.bl (decide (x = .non))) H) fun H1 e1 Q q => ⟨rfl, by rw [h1]; exact q⟩)) (ev_is (ev_neT (ev_var rfl) (SqL.of F23.some) F23.outs (el_lst ea_nil (by decide))) (by rw [h2]))) (by simp)
      rcases hdv with ⟨rfl, hok⟩ | ⟨p, y, DD, S2, hpn, hbad, rfl, hD, hS2⟩
      · have Fr : Free T n hs part := fun p hp v hv => hok p hp v hv
        refine ⟨wv, rfl, .ref hA', rfl, .ref pA, rfl, wv, .ref hA', .ref pA, n, T, hs, part, rfl, F22.a3, fun _ H23 e23 => ?_, fun p' x' hb' => absurd Fr hb'.free⟩
        refine ⟨.non, rfl, .non, .non, .none, rfl, dv_non, dv_non, fun H24 e24 => ⟨true, rfl, ?_⟩⟩
        exact last true ⟨fun _ => Fr, fun _ => rfl⟩ ⟨fun _ => rfl, fun _ => rfl⟩ H24 (e23.trans e24) H24 (Ex.refl _) _ fun H25 _ => q H25
      · refine ⟨wv, rfl, .ref hA', rfl, .ref pA, rfl, wv, .ref hA', .ref pA, n, T, hs, part, rfl, F22.a3, fun Fr => absurd Fr hbad.free, fun p' x' hb' RR SS H23 e23 hRR hSS => ?_⟩
        obtain ⟨ep, ex⟩ := firstBad_uniq hb' hbad
        subst ep ex
        have pll := piece_len (T := T) (n := n) (h := hs) (part := part) (x := x') (p := p')
        have pl : ((((pieceL T n hs part x' p').map fun i : Nat => (i : Int)).map PyData.int)).length ≤ 40000 := by rw [List.length_map, List.length_map]; omega
        refine ⟨.ref DD, rfl, .ref RR, .ref DD, .tuple [.int (p' : Int), tupD ((pieceL T n hs part x' p').map fun i : Nat => (i : Int))], rfl, dv_tup hRR (by show 2 ≤ 40000; decide) (.cons dv_int (.cons (dv_tup hSS pl (dvs_N.dvs_M _)) .nil)), dv_tup (e23 _ _ hD) (by show 2 ≤ 40000; decide) (.cons dv_int (.cons (dv_tup (e23 _ _ hS2) pl (dvs_N.dvs_M _)) .nil)), fun H24 e24 => ⟨true, rfl, ?_⟩⟩
        exact last false ⟨fun z => (nomatch z), fun z => absurd z hbad.free⟩ ⟨fun z => (nomatch z), fun z => (nomatch z)⟩ H24 (e23.trans e24) H24 (Ex.refl _) _ fun H25 _ => q H25
end
end Hv
end
set_option Elab.async false
set_option linter.all false
set_option maxRecDepth 100000
set_option maxHeartbeats 8000000
namespace Hv
open PySem PySem.Spec PyProof.Rows L2 Evl
theorem all_mk {l : PySem.W.OpenLaw} {w : World} {K : PySem.W.Frag} {h : Heap} {mg : Str → Option Value} {fa c Pt : Addr} {f0 f1 f2 f3 f4 f5 f6 f7 f8 f9 f10 f11 f12 f13 f14 f15 f16 f17 f18 f19 f20 f21 f22 f23 f24 f25 f26 f27 f28 f29 f30 f31 f32 f33 f34 f35 f36 f37 f38 f39 f40 f41 f42 f43 : Addr} (X : K.In h) (G : h.Ns mainGlobals mg) (hfa : mg "law" = some (.ref fa)) (hT : h.get? Pt = some { cls := .none, data := .fields #[] })
    {od0 an0 : Option Addr} {sl0 : Array (Option Value)} {oc0 kV0 dc0 pm0 cd0 ct0 : Value}
    (a0 : PySem.W.nsIn K mainGlobals "is_int" = some (some (.ref f0)))
    (l0 : K.lookup f0 = some ⟨oc0, od0, .func (PySem.W.fnOf "is_int" "is_int" (defArgs (topS 10)) (defBody (topS 10)) (defScope (topS 10)) .none kV0 dc0 pm0 an0 cd0 ct0), sl0⟩)
    (c0 : PySem.W.codeIn K cd0 "is_int" = true) (k0 : PySem.W.keepIn K (.ref f0) = true)
    {od1 an1 : Option Addr} {sl1 : Array (Option Value)} {oc1 kV1 dc1 pm1 cd1 ct1 : Value}
    (a1 : PySem.W.nsIn K mainGlobals "is_from" = some (some (.ref f1)))
    (l1 : K.lookup f1 = some ⟨oc1, od1, .func (PySem.W.fnOf "is_from" "is_from" (defArgs (topS 11)) (defBody (topS 11)) (defScope (topS 11)) .none kV1 dc1 pm1 an1 cd1 ct1), sl1⟩)
    (c1 : PySem.W.codeIn K cd1 "is_from" = true) (k1 : PySem.W.keepIn K (.ref f1) = true)
    {od2 an2 : Option Addr} {sl2 : Array (Option Value)} {oc2 kV2 dc2 pm2 cd2 ct2 : Value}
    (a2 : PySem.W.nsIn K mainGlobals "is_height" = some (some (.ref f2)))
    (l2 : K.lookup f2 = some ⟨oc2, od2, .func (PySem.W.fnOf "is_height" "is_height" (defArgs (topS 12)) (defBody (topS 12)) (defScope (topS 12)) .none kV2 dc2 pm2 an2 cd2 ct2), sl2⟩)
    (c2 : PySem.W.codeIn K cd2 "is_height" = true) (k2 : PySem.W.keepIn K (.ref f2) = true)
    {od3 an3 : Option Addr} {sl3 : Array (Option Value)} {oc3 kV3 dc3 pm3 cd3 ct3 : Value}
    (a3 : PySem.W.nsIn K mainGlobals "is_tie" = some (some (.ref f3)))
    (l3 : K.lookup f3 = some ⟨oc3, od3, .func (PySem.W.fnOf "is_tie" "is_tie" (defArgs (topS 13)) (defBody (topS 13)) (defScope (topS 13)) .none kV3 dc3 pm3 an3 cd3 ct3), sl3⟩)
    (c3 : PySem.W.codeIn K cd3 "is_tie" = true) (k3 : PySem.W.keepIn K (.ref f3) = true)
    {od4 an4 : Option Addr} {sl4 : Array (Option Value)} {oc4 kV4 dc4 pm4 cd4 ct4 : Value}
    (a4 : PySem.W.nsIn K mainGlobals "need_web" = some (some (.ref f4)))
    (l4 : K.lookup f4 = some ⟨oc4, od4, .func (PySem.W.fnOf "need_web" "need_web" (defArgs (topS 14)) (defBody (topS 14)) (defScope (topS 14)) .none kV4 dc4 pm4 an4 cd4 ct4), sl4⟩)
    (c4 : PySem.W.codeIn K cd4 "need_web" = true) (k4 : PySem.W.keepIn K (.ref f4) = true)
    {od5 an5 : Option Addr} {sl5 : Array (Option Value)} {oc5 kV5 dc5 pm5 cd5 ct5 : Value}
    (a5 : PySem.W.nsIn K mainGlobals "need_heights" = some (some (.ref f5)))
    (l5 : K.lookup f5 = some ⟨oc5, od5, .func (PySem.W.fnOf "need_heights" "need_heights" (defArgs (topS 15)) (defBody (topS 15)) (defScope (topS 15)) .none kV5 dc5 pm5 an5 cd5 ct5), sl5⟩)
    (c5 : PySem.W.codeIn K cd5 "need_heights" = true) (k5 : PySem.W.keepIn K (.ref f5) = true)
    {od6 an6 : Option Addr} {sl6 : Array (Option Value)} {oc6 kV6 dc6 pm6 cd6 ct6 : Value}
    (a6 : PySem.W.nsIn K mainGlobals "need_start" = some (some (.ref f6)))
    (l6 : K.lookup f6 = some ⟨oc6, od6, .func (PySem.W.fnOf "need_start" "need_start" (defArgs (topS 29)) (defBody (topS 29)) (defScope (topS 29)) .none kV6 dc6 pm6 an6 cd6 ct6), sl6⟩)
    (c6 : PySem.W.codeIn K cd6 "need_start" = true) (k6 : PySem.W.keepIn K (.ref f6) = true)
    {od7 an7 : Option Addr} {sl7 : Array (Option Value)} {oc7 kV7 dc7 pm7 cd7 ct7 : Value}
    (a7 : PySem.W.nsIn K mainGlobals "need_part" = some (some (.ref f7)))
    (l7 : K.lookup f7 = some ⟨oc7, od7, .func (PySem.W.fnOf "need_part" "need_part" (defArgs (topS 31)) (defBody (topS 31)) (defScope (topS 31)) .none kV7 dc7 pm7 an7 cd7 ct7), sl7⟩)
    (c7 : PySem.W.codeIn K cd7 "need_part" = true) (k7 : PySem.W.keepIn K (.ref f7) = true)
    {od8 an8 : Option Addr} {sl8 : Array (Option Value)} {oc8 kV8 dc8 pm8 cd8 ct8 : Value}
    (a8 : PySem.W.nsIn K mainGlobals "need_half" = some (some (.ref f8)))
    (l8 : K.lookup f8 = some ⟨oc8, od8, .func (PySem.W.fnOf "need_half" "need_half" (defArgs (topS 32)) (defBody (topS 32)) (defScope (topS 32)) .none kV8 dc8 pm8 an8 cd8 ct8), sl8⟩)
    (c8 : PySem.W.codeIn K cd8 "need_half" = true) (k8 : PySem.W.keepIn K (.ref f8) = true)
    {od9 an9 : Option Addr} {sl9 : Array (Option Value)} {oc9 kV9 dc9 pm9 cd9 ct9 : Value}
    (a9 : PySem.W.nsIn K mainGlobals "tied_to" = some (some (.ref f9)))
    (l9 : K.lookup f9 = some ⟨oc9, od9, .func (PySem.W.fnOf "tied_to" "tied_to" (defArgs (topS 16)) (defBody (topS 16)) (defScope (topS 16)) .none kV9 dc9 pm9 an9 cd9 ct9), sl9⟩)
    (c9 : PySem.W.codeIn K cd9 "tied_to" = true) (k9 : PySem.W.keepIn K (.ref f9) = true)
    {od10 an10 : Option Addr} {sl10 : Array (Option Value)} {oc10 kV10 dc10 pm10 cd10 ct10 : Value}
    (a10 : PySem.W.nsIn K mainGlobals "hanging" = some (some (.ref f10)))
    (l10 : K.lookup f10 = some ⟨oc10, od10, .func (PySem.W.fnOf "hanging" "hanging" (defArgs (topS 17)) (defBody (topS 17)) (defScope (topS 17)) .none kV10 dc10 pm10 an10 cd10 ct10), sl10⟩)
    (c10 : PySem.W.codeIn K cd10 "hanging" = true) (k10 : PySem.W.keepIn K (.ref f10) = true)
    {od11 an11 : Option Addr} {sl11 : Array (Option Value)} {oc11 kV11 dc11 pm11 cd11 ct11 : Value}
    (a11 : PySem.W.nsIn K mainGlobals "parts_of" = some (some (.ref f11)))
    (l11 : K.lookup f11 = some ⟨oc11, od11, .func (PySem.W.fnOf "parts_of" "parts_of" (defArgs (topS 18)) (defBody (topS 18)) (defScope (topS 18)) .none kV11 dc11 pm11 an11 cd11 ct11), sl11⟩)
    (c11 : PySem.W.codeIn K cd11 "parts_of" = true) (k11 : PySem.W.keepIn K (.ref f11) = true)
    {od12 an12 : Option Addr} {sl12 : Array (Option Value)} {oc12 kV12 dc12 pm12 cd12 ct12 : Value}
    (a12 : PySem.W.nsIn K mainGlobals "everybody" = some (some (.ref f12)))
    (l12 : K.lookup f12 = some ⟨oc12, od12, .func (PySem.W.fnOf "everybody" "everybody" (defArgs (topS 19)) (defBody (topS 19)) (defScope (topS 19)) .none kV12 dc12 pm12 an12 cd12 ct12), sl12⟩)
    (c12 : PySem.W.codeIn K cd12 "everybody" = true) (k12 : PySem.W.keepIn K (.ref f12) = true)
    {od13 an13 : Option Addr} {sl13 : Array (Option Value)} {oc13 kV13 dc13 pm13 cd13 ct13 : Value}
    (a13 : PySem.W.nsIn K mainGlobals "joins" = some (some (.ref f13)))
    (l13 : K.lookup f13 = some ⟨oc13, od13, .func (PySem.W.fnOf "joins" "joins" (defArgs (topS 22)) (defBody (topS 22)) (defScope (topS 22)) .none kV13 dc13 pm13 an13 cd13 ct13), sl13⟩)
    (c13 : PySem.W.codeIn K cd13 "joins" = true) (k13 : PySem.W.keepIn K (.ref f13) = true)
    {od14 an14 : Option Addr} {sl14 : Array (Option Value)} {oc14 kV14 dc14 pm14 cd14 ct14 : Value}
    (a14 : PySem.W.nsIn K mainGlobals "next_of" = some (some (.ref f14)))
    (l14 : K.lookup f14 = some ⟨oc14, od14, .func (PySem.W.fnOf "next_of" "next_of" (defArgs (topS 24)) (defBody (topS 24)) (defScope (topS 24)) .none kV14 dc14 pm14 an14 cd14 ct14), sl14⟩)
    (c14 : PySem.W.codeIn K cd14 "next_of" = true) (k14 : PySem.W.keepIn K (.ref f14) = true)
    {od15 an15 : Option Addr} {sl15 : Array (Option Value)} {oc15 kV15 dc15 pm15 cd15 ct15 : Value}
    (a15 : PySem.W.nsIn K mainGlobals "after" = some (some (.ref f15)))
    (l15 : K.lookup f15 = some ⟨oc15, od15, .func (PySem.W.fnOf "after" "after" (defArgs (topS 25)) (defBody (topS 25)) (defScope (topS 25)) .none kV15 dc15 pm15 an15 cd15 ct15), sl15⟩)
    (c15 : PySem.W.codeIn K cd15 "after" = true) (k15 : PySem.W.keepIn K (.ref f15) = true)
    {od16 an16 : Option Addr} {sl16 : Array (Option Value)} {oc16 kV16 dc16 pm16 cd16 ct16 : Value}
    (a16 : PySem.W.nsIn K mainGlobals "open_half" = some (some (.ref f16)))
    (l16 : K.lookup f16 = some ⟨oc16, od16, .func (PySem.W.fnOf "open_half" "open_half" (defArgs (topS 33)) (defBody (topS 33)) (defScope (topS 33)) .none kV16 dc16 pm16 an16 cd16 ct16), sl16⟩)
    (c16 : PySem.W.codeIn K cd16 "open_half" = true) (k16 : PySem.W.keepIn K (.ref f16) = true)
    {od17 an17 : Option Addr} {sl17 : Array (Option Value)} {oc17 kV17 dc17 pm17 cd17 ct17 : Value}
    (a17 : PySem.W.nsIn K mainGlobals "all_of" = some (some (.ref f17)))
    (l17 : K.lookup f17 = some ⟨oc17, od17, .func (PySem.W.fnOf "all_of" "all_of" (defArgs (topS 28)) (defBody (topS 28)) (defScope (topS 28)) .none kV17 dc17 pm17 an17 cd17 ct17), sl17⟩)
    (c17 : PySem.W.codeIn K cd17 "all_of" = true) (k17 : PySem.W.keepIn K (.ref f17) = true)
    {od18 an18 : Option Addr} {sl18 : Array (Option Value)} {oc18 kV18 dc18 pm18 cd18 ct18 : Value}
    (a18 : PySem.W.nsIn K mainGlobals "told_of" = some (some (.ref f18)))
    (l18 : K.lookup f18 = some ⟨oc18, od18, .func (PySem.W.fnOf "told_of" "told_of" (defArgs (topS 39)) (defBody (topS 39)) (defScope (topS 39)) .none kV18 dc18 pm18 an18 cd18 ct18), sl18⟩)
    (c18 : PySem.W.codeIn K cd18 "told_of" = true) (k18 : PySem.W.keepIn K (.ref f18) = true)
    {od19 an19 : Option Addr} {sl19 : Array (Option Value)} {oc19 kV19 dc19 pm19 cd19 ct19 : Value}
    (a19 : PySem.W.nsIn K mainGlobals "matches" = some (some (.ref f19)))
    (l19 : K.lookup f19 = some ⟨oc19, od19, .func (PySem.W.fnOf "matches" "matches" (defArgs (topS 40)) (defBody (topS 40)) (defScope (topS 40)) .none kV19 dc19 pm19 an19 cd19 ct19), sl19⟩)
    (c19 : PySem.W.codeIn K cd19 "matches" = true) (k19 : PySem.W.keepIn K (.ref f19) = true)
    {od20 an20 : Option Addr} {sl20 : Array (Option Value)} {oc20 kV20 dc20 pm20 cd20 ct20 : Value}
    (a20 : PySem.W.nsIn K mainGlobals "half_blocked_of" = some (some (.ref f20)))
    (l20 : K.lookup f20 = some ⟨oc20, od20, .func (PySem.W.fnOf "half_blocked_of" "half_blocked_of" (defArgs (topS 34)) (defBody (topS 34)) (defScope (topS 34)) .none kV20 dc20 pm20 an20 cd20 ct20), sl20⟩)
    (c20 : PySem.W.codeIn K cd20 "half_blocked_of" = true) (k20 : PySem.W.keepIn K (.ref f20) = true)
    {od21 an21 : Option Addr} {sl21 : Array (Option Value)} {oc21 kV21 dc21 pm21 cd21 ct21 : Value}
    (a21 : PySem.W.nsIn K mainGlobals "half_comes" = some (some (.ref f21)))
    (l21 : K.lookup f21 = some ⟨oc21, od21, .func (PySem.W.fnOf "half_comes" "half_comes" (defArgs (topS 35)) (defBody (topS 35)) (defScope (topS 35)) .none kV21 dc21 pm21 an21 cd21 ct21), sl21⟩)
    (c21 : PySem.W.codeIn K cd21 "half_comes" = true) (k21 : PySem.W.keepIn K (.ref f21) = true)
    {od22 an22 : Option Addr} {sl22 : Array (Option Value)} {oc22 kV22 dc22 pm22 cd22 ct22 : Value}
    (a22 : PySem.W.nsIn K mainGlobals "half_blocked" = some (some (.ref f22)))
    (l22 : K.lookup f22 = some ⟨oc22, od22, .func (PySem.W.fnOf "half_blocked" "half_blocked" (defArgs (topS 36)) (defBody (topS 36)) (defScope (topS 36)) .none kV22 dc22 pm22 an22 cd22 ct22), sl22⟩)
    (c22 : PySem.W.codeIn K cd22 "half_blocked" = true) (k22 : PySem.W.keepIn K (.ref f22) = true)
    {od23 an23 : Option Addr} {sl23 : Array (Option Value)} {oc23 kV23 dc23 pm23 cd23 ct23 : Value}
    (a23 : PySem.W.nsIn K mainGlobals "half_outcomes" = some (some (.ref f23)))
    (l23 : K.lookup f23 = some ⟨oc23, od23, .func (PySem.W.fnOf "half_outcomes" "half_outcomes" (defArgs (topS 41)) (defBody (topS 41)) (defScope (topS 41)) .none kV23 dc23 pm23 an23 cd23 ct23), sl23⟩)
    (c23 : PySem.W.codeIn K cd23 "half_outcomes" = true) (k23 : PySem.W.keepIn K (.ref f23) = true)
    {od24 an24 : Option Addr} {sl24 : Array (Option Value)} {oc24 kV24 dc24 pm24 cd24 ct24 : Value}
    (a24 : PySem.W.nsIn K mainGlobals "half_count" = some (some (.ref f24)))
    (l24 : K.lookup f24 = some ⟨oc24, od24, .func (PySem.W.fnOf "half_count" "half_count" (defArgs (topS 42)) (defBody (topS 42)) (defScope (topS 42)) .none kV24 dc24 pm24 an24 cd24 ct24), sl24⟩)
    (c24 : PySem.W.codeIn K cd24 "half_count" = true) (k24 : PySem.W.keepIn K (.ref f24) = true)
    {od25 an25 : Option Addr} {sl25 : Array (Option Value)} {oc25 kV25 dc25 pm25 cd25 ct25 : Value}
    (a25 : PySem.W.nsIn K mainGlobals "half_pieces" = some (some (.ref f25)))
    (l25 : K.lookup f25 = some ⟨oc25, od25, .func (PySem.W.fnOf "half_pieces" "half_pieces" (defArgs (topS 44)) (defBody (topS 44)) (defScope (topS 44)) .none kV25 dc25 pm25 an25 cd25 ct25), sl25⟩)
    (c25 : PySem.W.codeIn K cd25 "half_pieces" = true) (k25 : PySem.W.keepIn K (.ref f25) = true)
    {od26 an26 : Option Addr} {sl26 : Array (Option Value)} {oc26 kV26 dc26 pm26 cd26 ct26 : Value}
    (a26 : PySem.W.nsIn K mainGlobals "half_least" = some (some (.ref f26)))
    (l26 : K.lookup f26 = some ⟨oc26, od26, .func (PySem.W.fnOf "half_least" "half_least" (defArgs (topS 43)) (defBody (topS 43)) (defScope (topS 43)) .none kV26 dc26 pm26 an26 cd26 ct26), sl26⟩)
    (c26 : PySem.W.codeIn K cd26 "half_least" = true) (k26 : PySem.W.keepIn K (.ref f26) = true)
    {od27 an27 : Option Addr} {sl27 : Array (Option Value)} {oc27 kV27 dc27 pm27 ct27 : Value}
    (a27 : PySem.W.nsIn K mainGlobals "lots_of" = some (some (.ref f27)))
    (l27 : K.lookup f27 = some ⟨oc27, od27, .func (PySem.W.fnOf "lots_of" "lots_of" (defArgs (topS 20)) (defBody (topS 20)) (defScope (topS 20)) .none kV27 dc27 pm27 an27 (.ref c) ct27), sl27⟩)
    (c27 : PySem.W.codeIn K (.ref c) "lots_of" = true) (k27 : PySem.W.keepIn K (.ref f27) = true)
    {od28 an28 : Option Addr} {sl28 : Array (Option Value)} {oc28 kV28 dc28 pm28 cd28 ct28 : Value}
    (a28 : PySem.W.nsIn K mainGlobals "half_need" = some (some (.ref f28)))
    (l28 : K.lookup f28 = some ⟨oc28, od28, .func (PySem.W.fnOf "half_need" "half_need" (defArgs (topS 37)) (defBody (topS 37)) (defScope (topS 37)) .none kV28 dc28 pm28 an28 cd28 ct28), sl28⟩)
    (c28 : PySem.W.codeIn K cd28 "half_need" = true) (k28 : PySem.W.keepIn K (.ref f28) = true)
    {od29 an29 : Option Addr} {sl29 : Array (Option Value)} {oc29 kV29 dc29 pm29 cd29 ct29 : Value}
    (a29 : PySem.W.nsIn K mainGlobals "half_fewest" = some (some (.ref f29)))
    (l29 : K.lookup f29 = some ⟨oc29, od29, .func (PySem.W.fnOf "half_fewest" "half_fewest" (defArgs (topS 38)) (defBody (topS 38)) (defScope (topS 38)) .none kV29 dc29 pm29 an29 cd29 ct29), sl29⟩)
    (c29 : PySem.W.codeIn K cd29 "half_fewest" = true) (k29 : PySem.W.keepIn K (.ref f29) = true)
    {od30 an30 : Option Addr} {sl30 : Array (Option Value)} {oc30 kV30 dc30 pm30 cd30 ct30 : Value}
    (a30 : PySem.W.nsIn K mainGlobals "_law_taken" = some (some (.ref f30)))
    (l30 : K.lookup f30 = some ⟨oc30, od30, .func (PySem.W.fnOf "_law_taken" "_law_taken" (defArgs (topS 46)) (defBody (topS 46)) (defScope (topS 46)) .none kV30 dc30 pm30 an30 cd30 ct30), sl30⟩)
    (c30 : PySem.W.codeIn K cd30 "_law_taken" = true) (k30 : PySem.W.keepIn K (.ref f30) = true)
    {od31 an31 : Option Addr} {sl31 : Array (Option Value)} {oc31 kV31 dc31 pm31 cd31 ct31 : Value}
    (a31 : PySem.W.nsIn K mainGlobals "_law_pick" = some (some (.ref f31)))
    (l31 : K.lookup f31 = some ⟨oc31, od31, .func (PySem.W.fnOf "_law_pick" "_law_pick" (defArgs (topS 47)) (defBody (topS 47)) (defScope (topS 47)) .none kV31 dc31 pm31 an31 cd31 ct31), sl31⟩)
    (c31 : PySem.W.codeIn K cd31 "_law_pick" = true) (k31 : PySem.W.keepIn K (.ref f31) = true)
    {od32 an32 : Option Addr} {sl32 : Array (Option Value)} {oc32 kV32 dc32 pm32 cd32 ct32 : Value}
    (a32 : PySem.W.nsIn K mainGlobals "_law_is" = some (some (.ref f32)))
    (l32 : K.lookup f32 = some ⟨oc32, od32, .func (PySem.W.fnOf "_law_is" "_law_is" (defArgs (topS 49)) (defBody (topS 49)) (defScope (topS 49)) .none kV32 dc32 pm32 an32 cd32 ct32), sl32⟩)
    (c32 : PySem.W.codeIn K cd32 "_law_is" = true) (k32 : PySem.W.keepIn K (.ref f32) = true)
    {od33 an33 : Option Addr} {sl33 : Array (Option Value)} {oc33 kV33 dc33 pm33 cd33 ct33 : Value}
    (a33 : PySem.W.nsIn K mainGlobals "_law_alike" = some (some (.ref f33)))
    (l33 : K.lookup f33 = some ⟨oc33, od33, .func (PySem.W.fnOf "_law_alike" "_law_alike" (defArgs (topS 48)) (defBody (topS 48)) (defScope (topS 48)) .none kV33 dc33 pm33 an33 cd33 ct33), sl33⟩)
    (c33 : PySem.W.codeIn K cd33 "_law_alike" = true) (k33 : PySem.W.keepIn K (.ref f33) = true)
    {od34 an34 : Option Addr} {sl34 : Array (Option Value)} {oc34 kV34 dc34 pm34 cd34 ct34 : Value}
    (a34 : PySem.W.nsIn K mainGlobals "_law_heights" = some (some (.ref f34)))
    (l34 : K.lookup f34 = some ⟨oc34, od34, .func (PySem.W.fnOf "_law_heights" "_law_heights" (defArgs (topS 51)) (defBody (topS 51)) (defScope (topS 51)) .none kV34 dc34 pm34 an34 cd34 ct34), sl34⟩)
    (c34 : PySem.W.codeIn K cd34 "_law_heights" = true) (k34 : PySem.W.keepIn K (.ref f34) = true)
    {od35 an35 : Option Addr} {sl35 : Array (Option Value)} {oc35 kV35 dc35 pm35 cd35 ct35 : Value}
    (a35 : PySem.W.nsIn K mainGlobals "_law_web" = some (some (.ref f35)))
    (l35 : K.lookup f35 = some ⟨oc35, od35, .func (PySem.W.fnOf "_law_web" "_law_web" (defArgs (topS 50)) (defBody (topS 50)) (defScope (topS 50)) .none kV35 dc35 pm35 an35 cd35 ct35), sl35⟩)
    (c35 : PySem.W.codeIn K cd35 "_law_web" = true) (k35 : PySem.W.keepIn K (.ref f35) = true)
    {od36 an36 : Option Addr} {sl36 : Array (Option Value)} {oc36 kV36 dc36 pm36 cd36 ct36 : Value}
    (a36 : PySem.W.nsIn K mainGlobals "_law_ties" = some (some (.ref f36)))
    (l36 : K.lookup f36 = some ⟨oc36, od36, .func (PySem.W.fnOf "_law_ties" "_law_ties" (defArgs (topS 52)) (defBody (topS 52)) (defScope (topS 52)) .none kV36 dc36 pm36 an36 cd36 ct36), sl36⟩)
    (c36 : PySem.W.codeIn K cd36 "_law_ties" = true) (k36 : PySem.W.keepIn K (.ref f36) = true)
    {od37 an37 : Option Addr} {sl37 : Array (Option Value)} {oc37 kV37 dc37 pm37 cd37 ct37 : Value}
    (a37 : PySem.W.nsIn K mainGlobals "_law_stoops" = some (some (.ref f37)))
    (l37 : K.lookup f37 = some ⟨oc37, od37, .func (PySem.W.fnOf "_law_stoops" "_law_stoops" (defArgs (topS 54)) (defBody (topS 54)) (defScope (topS 54)) .none kV37 dc37 pm37 an37 cd37 ct37), sl37⟩)
    (c37 : PySem.W.codeIn K cd37 "_law_stoops" = true) (k37 : PySem.W.keepIn K (.ref f37) = true)
    {od38 an38 : Option Addr} {sl38 : Array (Option Value)} {oc38 kV38 dc38 pm38 cd38 ct38 : Value}
    (a38 : PySem.W.nsIn K mainGlobals "_law_after" = some (some (.ref f38)))
    (l38 : K.lookup f38 = some ⟨oc38, od38, .func (PySem.W.fnOf "_law_after" "_law_after" (defArgs (topS 55)) (defBody (topS 55)) (defScope (topS 55)) .none kV38 dc38 pm38 an38 cd38 ct38), sl38⟩)
    (c38 : PySem.W.codeIn K cd38 "_law_after" = true) (k38 : PySem.W.keepIn K (.ref f38) = true)
    {od39 an39 : Option Addr} {sl39 : Array (Option Value)} {oc39 kV39 dc39 pm39 cd39 ct39 : Value}
    (a39 : PySem.W.nsIn K mainGlobals "_law_steps" = some (some (.ref f39)))
    (l39 : K.lookup f39 = some ⟨oc39, od39, .func (PySem.W.fnOf "_law_steps" "_law_steps" (defArgs (topS 56)) (defBody (topS 56)) (defScope (topS 56)) .none kV39 dc39 pm39 an39 cd39 ct39), sl39⟩)
    (c39 : PySem.W.codeIn K cd39 "_law_steps" = true) (k39 : PySem.W.keepIn K (.ref f39) = true)
    {od40 an40 : Option Addr} {sl40 : Array (Option Value)} {oc40 kV40 dc40 pm40 cd40 ct40 : Value}
    (a40 : PySem.W.nsIn K mainGlobals "_law_parts" = some (some (.ref f40)))
    (l40 : K.lookup f40 = some ⟨oc40, od40, .func (PySem.W.fnOf "_law_parts" "_law_parts" (defArgs (topS 53)) (defBody (topS 53)) (defScope (topS 53)) .none kV40 dc40 pm40 an40 cd40 ct40), sl40⟩)
    (c40 : PySem.W.codeIn K cd40 "_law_parts" = true) (k40 : PySem.W.keepIn K (.ref f40) = true)
    {od41 an41 : Option Addr} {sl41 : Array (Option Value)} {oc41 kV41 dc41 pm41 cd41 ct41 : Value}
    (a41 : PySem.W.nsIn K mainGlobals "_law_drawn" = some (some (.ref f41)))
    (l41 : K.lookup f41 = some ⟨oc41, od41, .func (PySem.W.fnOf "_law_drawn" "_law_drawn" (defArgs (topS 57)) (defBody (topS 57)) (defScope (topS 57)) .none kV41 dc41 pm41 an41 cd41 ct41), sl41⟩)
    (c41 : PySem.W.codeIn K cd41 "_law_drawn" = true) (k41 : PySem.W.keepIn K (.ref f41) = true)
    {od42 an42 : Option Addr} {sl42 : Array (Option Value)} {oc42 kV42 dc42 pm42 cd42 ct42 : Value}
    (a42 : PySem.W.nsIn K mainGlobals "_law_goal" = some (some (.ref f42)))
    (l42 : K.lookup f42 = some ⟨oc42, od42, .func (PySem.W.fnOf "_law_goal" "_law_goal" (defArgs (topS 58)) (defBody (topS 58)) (defScope (topS 58)) .none kV42 dc42 pm42 an42 cd42 ct42), sl42⟩)
    (c42 : PySem.W.codeIn K cd42 "_law_goal" = true) (k42 : PySem.W.keepIn K (.ref f42) = true)
    {od43 an43 : Option Addr} {sl43 : Array (Option Value)} {oc43 kV43 dc43 pm43 cd43 ct43 : Value}
    (a43 : PySem.W.nsIn K mainGlobals "law" = some (some (.ref f43)))
    (l43 : K.lookup f43 = some ⟨oc43, od43, .func (PySem.W.fnOf "law" "law" (defArgs (topS 59)) (defBody (topS 59)) (defScope (topS 59)) .none kV43 dc43 pm43 an43 cd43 ct43), sl43⟩)
    (c43 : PySem.W.codeIn K cd43 "law" = true) (k43 : PySem.W.keepIn K (.ref f43) = true)
    {tp th to : Tok} (m1 : PySem.W.nsIn K mainGlobals "MOST_PERSONS" = some (some (.int 8 tp))) (m2 : PySem.W.nsIn K mainGlobals "MOST_HEIGHT" = some (some (.int 1000 th))) (m3 : PySem.W.nsIn K mainGlobals "MOST_OUTCOMES" = some (some (.int 5000 to)))
    (z_len : PySem.W.nsIn K mainGlobals "len" = some none)
    (z_range : PySem.W.nsIn K mainGlobals "range" = some none)
    (z_sorted : PySem.W.nsIn K mainGlobals "sorted" = some none)
    (z_tuple : PySem.W.nsIn K mainGlobals "tuple" = some none)
    (z_list : PySem.W.nsIn K mainGlobals "list" = some none)
    (z_int : PySem.W.nsIn K mainGlobals "int" = some none)
    (z_bool : PySem.W.nsIn K mainGlobals "bool" = some none)
    (z_str : PySem.W.nsIn K mainGlobals "str" = some none)
    (z_isinstance : PySem.W.nsIn K mainGlobals "isinstance" = some none)
    (z_any : PySem.W.nsIn K mainGlobals "any" = some none)
    (z_all : PySem.W.nsIn K mainGlobals "all" = some none)
    (z_sum : PySem.W.nsIn K mainGlobals "sum" = some none)
    (z_set : PySem.W.nsIn K mainGlobals "set" = some none)
    (z_zip : PySem.W.nsIn K mainGlobals "zip" = some none)
    (z_enumerate : PySem.W.nsIn K mainGlobals "enumerate" = some none)
    (z_min : PySem.W.nsIn K mainGlobals "min" = some none)
    (hcd : PySem.W.codeHdIn K c Pt = true) (nT : K.lookup Pt = none) : LamX.LawAtS l w K L2.CX0 8 63 "_law_script" mg fa h := by
  have e := hfa.symm.trans (PySem.W.mg_of X G a43)
  cases e
  have nb : NoB mg := { len_ := PySem.W.mg_none_of X G z_len, range_ := PySem.W.mg_none_of X G z_range, sorted_ := PySem.W.mg_none_of X G z_sorted, tuple_ := PySem.W.mg_none_of X G z_tuple, list_ := PySem.W.mg_none_of X G z_list, int_ := PySem.W.mg_none_of X G z_int, bool_ := PySem.W.mg_none_of X G z_bool, str_ := PySem.W.mg_none_of X G z_str, isinstance_ := PySem.W.mg_none_of X G z_isinstance, any_ := PySem.W.mg_none_of X G z_any, all_ := PySem.W.mg_none_of X G z_all, sum_ := PySem.W.mg_none_of X G z_sum, set_ := PySem.W.mg_none_of X G z_set, zip_ := PySem.W.mg_none_of X G z_zip, enumerate_ := PySem.W.mg_none_of X G z_enumerate, min_ := PySem.W.mg_none_of X G z_min }
  have F0 := fun_mk (st := topS 10) l0 c0 k0
  have F1 := fun_mk (st := topS 11) l1 c1 k1
  have F2 := fun_mk (st := topS 12) l2 c2 k2
  have F3 := fun_mk (st := topS 13) l3 c3 k3
  have F4 := fun_mk (st := topS 14) l4 c4 k4
  have F5 := fun_mk (st := topS 15) l5 c5 k5
  have F6 := fun_mk (st := topS 29) l6 c6 k6
  have F7 := fun_mk (st := topS 31) l7 c7 k7
  have F8 := fun_mk (st := topS 32) l8 c8 k8
  have F9 := fun_mk (st := topS 16) l9 c9 k9
  have F10 := fun_mk (st := topS 17) l10 c10 k10
  have F11 := fun_mk (st := topS 18) l11 c11 k11
  have F12 := fun_mk (st := topS 19) l12 c12 k12
  have F13 := fun_mk (st := topS 22) l13 c13 k13
  have F14 := fun_mk (st := topS 24) l14 c14 k14
  have F15 := fun_mk (st := topS 25) l15 c15 k15
  have F16 := fun_mk (st := topS 33) l16 c16 k16
  have F17 := fun_mk (st := topS 28) l17 c17 k17
  have F18 := fun_mk (st := topS 39) l18 c18 k18
  have F19 := fun_mk (st := topS 40) l19 c19 k19
  have F20 := fun_mk (st := topS 34) l20 c20 k20
  have F21 := fun_mk (st := topS 35) l21 c21 k21
  have F22 := fun_mk (st := topS 36) l22 c22 k22
  have F23 := fun_mk (st := topS 41) l23 c23 k23
  have F24 := fun_mk (st := topS 42) l24 c24 k24
  have F25 := fun_mk (st := topS 44) l25 c25 k25
  have F26 := fun_mk (st := topS 43) l26 c26 k26
  have F27 := funC_mk (st := topS 20) l27 c27 k27
  have F28 := fun_mk (st := topS 37) l28 c28 k28
  have F29 := fun_mk (st := topS 38) l29 c29 k29
  have F30 := fun_mk (st := topS 46) l30 c30 k30
  have F31 := fun_mk (st := topS 47) l31 c31 k31
  have F32 := fun_mk (st := topS 49) l32 c32 k32
  have F33 := fun_mk (st := topS 48) l33 c33 k33
  have F34 := fun_mk (st := topS 51) l34 c34 k34
  have F35 := fun_mk (st := topS 50) l35 c35 k35
  have F36 := fun_mk (st := topS 52) l36 c36 k36
  have F37 := fun_mk (st := topS 54) l37 c37 k37
  have F38 := fun_mk (st := topS 55) l38 c38 k38
  have F39 := fun_mk (st := topS 56) l39 c39 k39
  have F40 := fun_mk (st := topS 53) l40 c40 k40
  have F41 := fun_mk (st := topS 57) l41 c41 k41
  have F42 := fun_mk (st := topS 58) l42 c42 k42
  have F43 := fun_mk (st := topS 59) l43 c43 k43
  refine ⟨PySem.W.fnOf "law" "law" (defArgs (topS 59)) (defBody (topS 59)) (defScope (topS 59)) .none kV43 dc43 pm43 an43 cd43 ct43, [(c, Pt)], spLaw K Pt, fun p hp => ?_, fun p hp => ?_, fun p hp => ?_, fun s v => .of_eq rfl, fun H a ns hl hb hp hS => ⟨a, ns, rfl, hS, fun p hq => ?_, fun _ => rfl⟩, fun base KX NX TBs => ?_⟩
  · rw [List.mem_singleton.mp hp]; exact hT
  · rw [List.mem_singleton.mp hp]; exact nT
  · rw [List.mem_singleton.mp hp]; exact PySem.W.codeHd_of_K X hcd
  · rw [List.mem_singleton.mp hq]; exact LamX.TabS.nil (hp (c, Pt) List.mem_cons_self)
  · have TB := TBs (c, Pt) List.mem_cons_self
    have mMOST_PERSONS := PySem.W.mg_of X G m1
    have mMOST_HEIGHT := PySem.W.mg_of X G m2
    have mMOST_OUTCOMES := PySem.W.mg_of X G m3
    have c_is_int := ok_is_int (P := l.prog) (w := w) (base := base) nb F0 (PySem.W.mg_of X G a0)
    have c_is_from := ok_is_from (P := l.prog) (w := w) (base := base) nb c_is_int F1 (PySem.W.mg_of X G a1)
    have c_is_height := ok_is_height (P := l.prog) (w := w) (base := base) nb mMOST_HEIGHT c_is_from F2 (PySem.W.mg_of X G a2)
    have c_is_tie := ok_is_tie (P := l.prog) (w := w) (base := base) nb c_is_from F3 (PySem.W.mg_of X G a3)
    have c_need_web := ok_need_web (P := l.prog) (w := w) (base := base) nb mMOST_PERSONS c_is_from c_is_tie F4 (PySem.W.mg_of X G a4)
    have c_need_heights := ok_need_heights (P := l.prog) (w := w) (base := base) nb c_is_height F5 (PySem.W.mg_of X G a5)
    have c_need_start := ok_need_start (P := l.prog) (w := w) (base := base) c_need_web c_need_heights F6 (PySem.W.mg_of X G a6)
    have c_need_part := ok_need_part (P := l.prog) (w := w) (base := base) nb c_is_height F7 (PySem.W.mg_of X G a7)
    have c_need_half := ok_need_half (P := l.prog) (w := w) (base := base) c_need_start c_need_part F8 (PySem.W.mg_of X G a8)
    have c_tied_to := ok_tied_to (P := l.prog) (w := w) (base := base) nb F9 (PySem.W.mg_of X G a9)
    have c_hanging := ok_hanging (P := l.prog) (w := w) (base := base) nb c_tied_to F10 (PySem.W.mg_of X G a10)
    have c_parts_of := ok_parts_of (P := l.prog) (w := w) (base := base) nb c_hanging F11 (PySem.W.mg_of X G a11)
    have c_everybody := ok_everybody (P := l.prog) (w := w) (base := base) nb F12 (PySem.W.mg_of X G a12)
    have c_joins := ok_joins (P := l.prog) (w := w) (base := base) nb c_hanging F13 (PySem.W.mg_of X G a13)
    have c_next_of := ok_next_of (P := l.prog) (w := w) (base := base) nb c_everybody c_tied_to F14 (PySem.W.mg_of X G a14)
    have c_after := ok_after (P := l.prog) (w := w) (base := base) F15 (PySem.W.mg_of X G a15)
    have c_open_half := ok_open_half (P := l.prog) (w := w) (base := base) nb F16 (PySem.W.mg_of X G a16)
    have c_all_of := ok_all_of (P := l.prog) (w := w) (base := base) nb mMOST_OUTCOMES c_next_of c_after F17 (PySem.W.mg_of X G a17)
    have c_told_of := ok_told_of (P := l.prog) (w := w) (base := base) nb F18 (PySem.W.mg_of X G a18)
    have c_matches := ok_matches (P := l.prog) (w := w) (base := base) nb F19 (PySem.W.mg_of X G a19)
    have c_half_blocked_of := ok_half_blocked_of (P := l.prog) (w := w) (base := base) nb c_everybody c_open_half c_hanging F20 (PySem.W.mg_of X G a20)
    have c_half_comes := ok_half_comes (P := l.prog) (w := w) (base := base) nb c_need_half c_half_blocked_of F21 (PySem.W.mg_of X G a21)
    have c_half_blocked := ok_half_blocked (P := l.prog) (w := w) (base := base) nb c_need_half c_half_blocked_of F22 (PySem.W.mg_of X G a22)
    have c_half_outcomes := ok_half_outcomes (P := l.prog) (w := w) (base := base) nb c_need_half c_all_of c_matches F23 (PySem.W.mg_of X G a23)
    have c_half_count := ok_half_count (P := l.prog) (w := w) (base := base) nb c_need_half c_all_of c_matches F24 (PySem.W.mg_of X G a24)
    have c_half_pieces := ok_half_pieces (P := l.prog) (w := w) (base := base) nb c_need_half c_is_height c_open_half c_parts_of F25 (PySem.W.mg_of X G a25)
    have c_half_least := ok_half_least (P := l.prog) (w := w) (base := base) nb c_need_half c_half_blocked_of c_everybody c_open_half c_hanging F26 (PySem.W.mg_of X G a26)
    have c_lots_of := ok_lots_of (P := l.prog) (w := w) (base := base) nb TB F27 (PySem.W.mg_of X G a27)
    have c_half_need := ok_half_need (P := l.prog) (w := w) (base := base) nb c_open_half c_lots_of c_joins F28 (PySem.W.mg_of X G a28)
    have c_half_fewest := ok_half_fewest (P := l.prog) (w := w) (base := base) nb c_need_half c_half_blocked_of c_told_of c_half_need F29 (PySem.W.mg_of X G a29)
    have c_law_taken := ok_law_taken (P := l.prog) (w := w) (base := base) nb F30 (PySem.W.mg_of X G a30)
    have c_law_pick := ok_law_pick (P := l.prog) (w := w) (base := base) nb c_law_taken F31 (PySem.W.mg_of X G a31)
    have c_law_is := ok_law_is (P := l.prog) (w := w) (base := base) nb F32 (PySem.W.mg_of X G a32)
    have c_law_alike := ok_law_alike (P := l.prog) (w := w) (base := base) nb F33 (PySem.W.mg_of X G a33) 4
    have c_law_heights := ok_law_heights (P := l.prog) (w := w) (base := base) nb c_law_taken F34 (PySem.W.mg_of X G a34)
    have c_law_web := ok_law_web (P := l.prog) (w := w) (base := base) nb c_law_taken F35 (PySem.W.mg_of X G a35)
    have c_law_ties := ok_law_ties (P := l.prog) (w := w) (base := base) nb F36 (PySem.W.mg_of X G a36)
    have c_law_stoops := ok_law_stoops (P := l.prog) (w := w) (base := base) nb c_law_ties F37 (PySem.W.mg_of X G a37)
    have c_law_after := ok_law_after (P := l.prog) (w := w) (base := base) F38 (PySem.W.mg_of X G a38)
    have c_law_steps := ok_law_steps (P := l.prog) (w := w) (base := base) nb c_law_stoops c_law_after F39 (PySem.W.mg_of X G a39)
    have c_law_parts := ok_law_parts (P := l.prog) (w := w) (base := base) nb F40 (PySem.W.mg_of X G a40)
    have c_law_drawn := ok_law_drawn (P := l.prog) (w := w) (base := base) nb c_law_pick c_law_stoops c_law_after F41 (PySem.W.mg_of X G a41)
    have c_law_goal := ok_law_goal (P := l.prog) (w := w) (base := base) nb c_law_taken c_law_pick c_law_drawn F42 (PySem.W.mg_of X G a42)
    exact ok_law (P := l.prog) (w := w) (base := base) nb { taken := c_law_taken, web := c_law_web, heights := c_law_heights, goal := c_law_goal, steps := c_law_steps, is := c_law_is, alike := c_law_alike, parts := c_law_parts, comes := c_half_comes, outcomes := c_half_outcomes, count := c_half_count, fewest := c_half_fewest, least := c_half_least, pieces := c_half_pieces, blocked := c_half_blocked } F43
end Hv
open PySem PySem.W PyProof.Rows
set_option maxHeartbeats 0 in
theorem PySem.Challenge.cw_stoopers_k42_whole_halves_holds : PySem.Challenge.rw_stoopers_k42_whole_halves.Holds := by
  w_on; o_law; k_head; (case hw => w_witness2)
  k_fill
  refine LamX.walk_ofTs (l := PySem.Challenge.rw_stoopers_k42_whole_halves) (n := 63) (k := 8) (x := "_law_script") (CX := fun _ => L2.CX0) rfl (by decide) rfl ⟨rfl, by decide, by decide⟩ (fun w h Y => PySem.W.km_in_of Y) ?F (fun _ _ _ _ _ h => h)
  case F =>
    intro w mg fa h Y KX G hmg
    have hT := PySem.W.km_tabs_of Y 193 (by simp)
    refine' Hv.all_mk KX G hmg hT ?a0 ?l0 ?c0 ?k0 ?a1 ?l1 ?c1 ?k1 ?a2 ?l2 ?c2 ?k2 ?a3 ?l3 ?c3 ?k3 ?a4 ?l4 ?c4 ?k4 ?a5 ?l5 ?c5 ?k5 ?a6 ?l6 ?c6 ?k6 ?a7 ?l7 ?c7 ?k7 ?a8 ?l8 ?c8 ?k8 ?a9 ?l9 ?c9 ?k9 ?a10 ?l10 ?c10 ?k10 ?a11 ?l11 ?c11 ?k11 ?a12 ?l12 ?c12 ?k12 ?a13 ?l13 ?c13 ?k13 ?a14 ?l14 ?c14 ?k14 ?a15 ?l15 ?c15 ?k15 ?a16 ?l16 ?c16 ?k16 ?a17 ?l17 ?c17 ?k17 ?a18 ?l18 ?c18 ?k18 ?a19 ?l19 ?c19 ?k19 ?a20 ?l20 ?c20 ?k20 ?a21 ?l21 ?c21 ?k21 ?a22 ?l22 ?c22 ?k22 ?a23 ?l23 ?c23 ?k23 ?a24 ?l24 ?c24 ?k24 ?a25 ?l25 ?c25 ?k25 ?a26 ?l26 ?c26 ?k26 ?a27 ?l27 ?c27 ?k27 ?a28 ?l28 ?c28 ?k28 ?a29 ?l29 ?c29 ?k29 ?a30 ?l30 ?c30 ?k30 ?a31 ?l31 ?c31 ?k31 ?a32 ?l32 ?c32 ?k32 ?a33 ?l33 ?c33 ?k33 ?a34 ?l34 ?c34 ?k34 ?a35 ?l35 ?c35 ?k35 ?a36 ?l36 ?c36 ?k36 ?a37 ?l37 ?c37 ?k37 ?a38 ?l38 ?c38 ?k38 ?a39 ?l39 ?c39 ?k39 ?a40 ?l40 ?c40 ?k40 ?a41 ?l41 ?c41 ?k41 ?a42 ?l42 ?c42 ?k42 ?a43 ?l43 ?c43 ?k43 ?m1 ?m2 ?m3 ?z_len ?z_range ?z_sorted ?z_tuple ?z_list ?z_int ?z_bool ?z_str ?z_isinstance ?z_any ?z_all ?z_sum ?z_set ?z_zip ?z_enumerate ?z_min ?hcd ?nT
    (case a0 => k_is)
    (case l0 => k_is)
    (case c0 => k_is)
    (case k0 => k_is)
    (case a1 => k_is)
    (case l1 => k_is)
    (case c1 => k_is)
    (case k1 => k_is)
    (case a2 => k_is)
    (case l2 => k_is)
    (case c2 => k_is)
    (case k2 => k_is)
    (case a3 => k_is)
    (case l3 => k_is)
    (case c3 => k_is)
    (case k3 => k_is)
    (case a4 => k_is)
    (case l4 => k_is)
    (case c4 => k_is)
    (case k4 => k_is)
    (case a5 => k_is)
    (case l5 => k_is)
    (case c5 => k_is)
    (case k5 => k_is)
    (case a6 => k_is)
    (case l6 => k_is)
    (case c6 => k_is)
    (case k6 => k_is)
    (case a7 => k_is)
    (case l7 => k_is)
    (case c7 => k_is)
    (case k7 => k_is)
    (case a8 => k_is)
    (case l8 => k_is)
    (case c8 => k_is)
    (case k8 => k_is)
    (case a9 => k_is)
    (case l9 => k_is)
    (case c9 => k_is)
    (case k9 => k_is)
    (case a10 => k_is)
    (case l10 => k_is)
    (case c10 => k_is)
    (case k10 => k_is)
    (case a11 => k_is)
    (case l11 => k_is)
    (case c11 => k_is)
    (case k11 => k_is)
    (case a12 => k_is)
    (case l12 => k_is)
    (case c12 => k_is)
    (case k12 => k_is)
    (case a13 => k_is)
    (case l13 => k_is)
    (case c13 => k_is)
    (case k13 => k_is)
    (case a14 => k_is)
    (case l14 => k_is)
    (case c14 => k_is)
    (case k14 => k_is)
    (case a15 => k_is)
    (case l15 => k_is)
    (case c15 => k_is)
    (case k15 => k_is)
    (case a16 => k_is)
    (case l16 => k_is)
    (case c16 => k_is)
    (case k16 => k_is)
    (case a17 => k_is)
    (case l17 => k_is)
    (case c17 => k_is)
    (case k17 => k_is)
    (case a18 => k_is)
    (case l18 => k_is)
    (case c18 => k_is)
    (case k18 => k_is)
    (case a19 => k_is)
    (case l19 => k_is)
    (case c19 => k_is)
    (case k19 => k_is)
    (case a20 => k_is)
    (case l20 => k_is)
    (case c20 => k_is)
    (case k20 => k_is)
    (case a21 => k_is)
    (case l21 => k_is)
    (case c21 => k_is)
    (case k21 => k_is)
    (case a22 => k_is)
    (case l22 => k_is)
    (case c22 => k_is)
    (case k22 => k_is)
    (case a23 => k_is)
    (case l23 => k_is)
    (case c23 => k_is)
    (case k23 => k_is)
    (case a24 => k_is)
    (case l24 => k_is)
    (case c24 => k_is)
    (case k24 => k_is)
    (case a25 => k_is)
    (case l25 => k_is)
    (case c25 => k_is)
    (case k25 => k_is)
    (case a26 => k_is)
    (case l26 => k_is)
    (case c26 => k_is)
    (case k26 => k_is)
    (case a27 => k_is)
    (case l27 => k_is)
    (case c27 => k_is)
    (case k27 => k_is)
    (case a28 => k_is)
    (case l28 => k_is)
    (case c28 => k_is)
    (case k28 => k_is)
    (case a29 => k_is)
    (case l29 => k_is)
    (case c29 => k_is)
    (case k29 => k_is)
    (case a30 => k_is)
    (case l30 => k_is)
    (case c30 => k_is)
    (case k30 => k_is)
    (case a31 => k_is)
    (case l31 => k_is)
    (case c31 => k_is)
    (case k31 => k_is)
    (case a32 => k_is)
    (case l32 => k_is)
    (case c32 => k_is)
    (case k32 => k_is)
    (case a33 => k_is)
    (case l33 => k_is)
    (case c33 => k_is)
    (case k33 => k_is)
    (case a34 => k_is)
    (case l34 => k_is)
    (case c34 => k_is)
    (case k34 => k_is)
    (case a35 => k_is)
    (case l35 => k_is)
    (case c35 => k_is)
    (case k35 => k_is)
    (case a36 => k_is)
    (case l36 => k_is)
    (case c36 => k_is)
    (case k36 => k_is)
    (case a37 => k_is)
    (case l37 => k_is)
    (case c37 => k_is)
    (case k37 => k_is)
    (case a38 => k_is)
    (case l38 => k_is)
    (case c38 => k_is)
    (case k38 => k_is)
    (case a39 => k_is)
    (case l39 => k_is)
    (case c39 => k_is)
    (case k39 => k_is)
    (case a40 => k_is)
    (case l40 => k_is)
    (case c40 => k_is)
    (case k40 => k_is)
    (case a41 => k_is)
    (case l41 => k_is)
    (case c41 => k_is)
    (case k41 => k_is)
    (case a42 => k_is)
    (case l42 => k_is)
    (case c42 => k_is)
    (case k42 => k_is)
    (case a43 => k_is)
    (case l43 => k_is)
    (case c43 => k_is)
    (case k43 => k_is)
    (case m1 => k_is)
    (case m2 => k_is)
    (case m3 => k_is)
    (case z_len => k_is)
    (case z_range => k_is)
    (case z_sorted => k_is)
    (case z_tuple => k_is)
    (case z_list => k_is)
    (case z_int => k_is)
    (case z_bool => k_is)
    (case z_str => k_is)
    (case z_isinstance => k_is)
    (case z_any => k_is)
    (case z_all => k_is)
    (case z_sum => k_is)
    (case z_set => k_is)
    (case z_zip => k_is)
    (case z_enumerate => k_is)
    (case z_min => k_is)
    (case hcd => kernel_rfl)
    (case nT => first | kernel_rfl | rfl | decide)
