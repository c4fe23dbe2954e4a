import PyProof.Rows.All
import Wide.All
import OpenK.AllK
import Wide.FinOn
import KE.KStateDown
import Lean
import HandS.ForMost
import HandS.IsInst
import HandS.Deep
import HandS.Evl
import HandS.Walk
import HandS.Style
import HandS.Steps
import HandS.Flow
import KE.KTupSum
import KE.GoesEnum
import HandS.Words
import PySem.Challenge.RW_keylanes_k58_whole_changes
import HandS.Defaults
import HandS.Base
import HandS.Call
import HandS.Ends
import HandS.More
import HandS.WordsExc
import HandS.Head0
import HandS.Head1
import HandS.Head2
import HandS.HeadEnd
import HandS.HeadHook1
import HandS.HeadHook2
set_option Elab.async false
set_option linter.all false
set_option maxRecDepth 100000
set_option maxHeartbeats 4000000
/-! The plain law: words, regions, rows, flips, levels. No program in sight. -/
namespace KM
abbrev Wd := List Bool
abbrev Spn := Nat × Nat
abbrev Rg := List (Nat × Nat)

def aft (s : Spn) (b : Bool) : Spn := if b = true then (s.1 + 1, s.2) else (s.1, s.2 + 1)
def opn (R : Rg) (s : Spn) : Bool := match R[s.1]? with
  | some c => decide (c.1 ≤ s.2) && decide (s.2 ≤ c.2)
  | none => false
def path (R : Rg) : Spn → Wd → Bool
  | _, [] => true
  | s, b :: w => opn R (aft s b) && path R (aft s b) w
def fin (s : Spn) (w : Wd) : Spn := w.foldl aft s
structure Reg (R : Rg) : Prop where
  pos : 1 ≤ R.length
  len : R.length ≤ 5
  lo0 : ∀ c, R[0]? = some c → c.1 = 0
  col : ∀ (i : Nat) c, R[i]? = some c → c.1 ≤ c.2 ∧ c.2 ≤ 4
  fit : ∀ (i : Nat) c d, R[i]? = some c → R[i + 1]? = some d → c.1 ≤ d.1 ∧ d.1 ≤ c.2 ∧ c.2 ≤ d.2
def hiOf (R : Rg) : Nat := (R[R.length - 1]?.getD (0, 0)).2
def en (R : Rg) : Spn := (R.length - 1, hiOf R)
def isPlay (R : Rg) (w : Wd) : Bool := path R (0, 0) w && decide (fin (0, 0) w = en R)

theorem opn_iff {R : Rg} {s : Spn} : opn R s = true ↔ ∃ c, R[s.1]? = some c ∧ c.1 ≤ s.2 ∧ s.2 ≤ c.2 := by
  unfold opn
  split
  · rename_i c h
    simp only [h, Bool.and_eq_true, decide_eq_true_eq, Option.some.injEq]
    constructor
    · intro q; exact ⟨c, rfl, q⟩
    · rintro ⟨d, rfl, q⟩; exact q
  · rename_i h
    simp [h]
theorem aft_t (s : Spn) : aft s true = (s.1 + 1, s.2) := rfl
theorem aft_f (s : Spn) : aft s false = (s.1, s.2 + 1) := rfl
theorem aft_comm (s : Spn) (a b : Bool) : aft (aft s a) b = aft (aft s b) a := by
  cases a <;> cases b <;> rfl
theorem aft_sum (s : Spn) (a : Bool) : (aft s a).1 + (aft s a).2 = s.1 + s.2 + 1 := by
  cases a
  · show s.1 + (s.2 + 1) = s.1 + s.2 + 1; omega
  · show s.1 + 1 + s.2 = s.1 + s.2 + 1; omega
theorem fin_nil (s : Spn) : fin s [] = s := rfl
theorem fin_cons (s : Spn) (b : Bool) (w : Wd) : fin s (b :: w) = fin (aft s b) w := rfl
theorem fin_append (s : Spn) (u v : Wd) : fin s (u ++ v) = fin (fin s u) v := by
  unfold fin; rw [List.foldl_append]
theorem fin_sum : ∀ (w : Wd) (s : Spn), (fin s w).1 + (fin s w).2 = s.1 + s.2 + w.length
  | [], s => rfl
  | b :: w, s => by
    rw [fin_cons, fin_sum w, aft_sum, List.length_cons]; omega
theorem path_append {R : Rg} : ∀ (u v : Wd) (s : Spn), path R s (u ++ v) = (path R s u && path R (fin s u) v)
  | [], v, s => by simp [path, fin_nil]
  | b :: u, v, s => by
    simp only [List.cons_append, path, fin_cons]
    rw [path_append u v, Bool.and_assoc]
theorem path_opn {R : Rg} : ∀ (w : Wd) (s : Spn), opn R s = true → path R s w = true → opn R (fin s w) = true
  | [], s, h, _ => h
  | b :: w, s, _, p => by
    simp only [path, Bool.and_eq_true] at p
    rw [fin_cons]
    exact path_opn w _ p.1 p.2
section
variable {R : Rg} (hR : Reg R)
include hR
theorem hi_mono : ∀ (j i : Nat) c d, i ≤ j → R[i]? = some c → R[j]? = some d → c.2 ≤ d.2
  | 0, i, c, d, h, e1, e2 => by
    have e : i = 0 := by omega
    subst e; rw [e1] at e2; cases e2; exact Nat.le_refl _
  | j + 1, i, c, d, h, e1, e2 => by
    by_cases hi : i = j + 1
    · subst hi; rw [e1] at e2; cases e2; exact Nat.le_refl _
    · have hj : j < R.length := by
        have := (List.getElem?_eq_some_iff.mp e2).1; omega
      have e3 : R[j]? = some R[j] := List.getElem?_eq_getElem hj
      exact Nat.le_trans (hi_mono j i c _ (by omega) e1 e3) (hR.fit j _ _ e3 e2).2.2
theorem last_at : ∃ c, R[R.length - 1]? = some c ∧ c.2 = hiOf R := by
  have h : R.length - 1 < R.length := by have := hR.pos; omega
  refine ⟨R[R.length - 1], List.getElem?_eq_getElem h, ?_⟩
  unfold hiOf; rw [List.getElem?_eq_getElem h]; rfl
theorem opn0 : opn R (0, 0) = true := by
  have h : 0 < R.length := hR.pos
  have e : R[0]? = some R[0] := List.getElem?_eq_getElem h
  exact opn_iff.mpr ⟨_, e, by rw [hR.lo0 _ e]; exact Nat.le_refl _, Nat.zero_le _⟩
theorem opn_le {s : Spn} (h : opn R s = true) : s.1 ≤ (en R).1 ∧ s.2 ≤ (en R).2 := by
  obtain ⟨c, e, h1, h2⟩ := opn_iff.mp h
  have hl := (List.getElem?_eq_some_iff.mp e).1
  obtain ⟨d, ed, hd⟩ := last_at hR
  have h3 : s.1 ≤ R.length - 1 := by omega
  refine ⟨h3, ?_⟩
  show s.2 ≤ hiOf R
  rw [← hd]
  exact Nat.le_trans h2 (hi_mono hR _ _ _ _ h3 e ed)
theorem opn_en : opn R (en R) = true := by
  obtain ⟨d, ed, hd⟩ := last_at hR
  exact opn_iff.mpr ⟨d, ed, by show d.1 ≤ hiOf R; rw [← hd]; exact (hR.col _ _ ed).1, by show hiOf R ≤ d.2; rw [hd]; exact Nat.le_refl _⟩
theorem fin_en {s : Spn} (h : opn R s = true) (e : s.1 + s.2 = (en R).1 + (en R).2) : s = en R := by
  obtain ⟨h1, h2⟩ := opn_le hR h
  exact Prod.ext (by omega) (by omega)
theorem play_iff (w : Wd) : isPlay R w = true ↔ path R (0, 0) w = true ∧ w.length = (en R).1 + (en R).2 := by
  unfold isPlay
  rw [Bool.and_eq_true, decide_eq_true_eq]
  constructor
  · rintro ⟨p, e⟩
    refine ⟨p, ?_⟩
    have := fin_sum w (0, 0)
    rw [e] at this
    omega
  · rintro ⟨p, e⟩
    refine ⟨p, fin_en hR (path_opn w _ (opn0 hR) p) ?_⟩
    rw [fin_sum, e]; omega
/-- from an open span that is not the end there is an open step -/
theorem opn_step {s : Spn} (h : opn R s = true) (hn : s.1 + s.2 < (en R).1 + (en R).2) : ∃ b, opn R (aft s b) = true := by
  obtain ⟨c, e, h1, h2⟩ := opn_iff.mp h
  by_cases hy : s.2 < c.2
  · exact ⟨false, opn_iff.mpr ⟨c, e, by show c.1 ≤ s.2 + 1; omega, hy⟩⟩
  · have hl := (List.getElem?_eq_some_iff.mp e).1
    obtain ⟨l1, l2⟩ := opn_le hR h
    by_cases hx : s.1 < R.length - 1
    · have hx1 : s.1 + 1 < R.length := by omega
      have e' : R[s.1 + 1]? = some R[s.1 + 1] := List.getElem?_eq_getElem hx1
      obtain ⟨f1, f2, f3⟩ := hR.fit _ _ _ e e'
      exact ⟨true, opn_iff.mpr ⟨_, e', by show _ ≤ s.2; omega, by show s.2 ≤ _; omega⟩⟩
    · exfalso
      have ex : s.1 = R.length - 1 := by omega
      obtain ⟨d, ed, hd⟩ := last_at hR
      rw [ex, ed] at e; cases e
      have e1 : (en R).1 = R.length - 1 := rfl
      have e2 : (en R).2 = hiOf R := rfl
      omega
end

/-! ### levels: all words of a length, as the law lists them -/
def nxts (R : Rg) (ws : Wd × Spn) : List (Wd × Spn) := ([true, false].filter fun b => opn R (aft ws.2 b)).map fun b => (ws.1 ++ [b], aft ws.2 b)
def lv (R : Rg) : Nat → List (Wd × Spn)
  | 0 => [([], (0, 0))]
  | t + 1 => (lv R t).flatMap (nxts R)
def every (R : Rg) : List Wd := (lv R ((en R).1 + (en R).2)).map Prod.fst
theorem path_snoc {R : Rg} (w : Wd) (b : Bool) (s : Spn) : path R s (w ++ [b]) = (path R s w && opn R (aft (fin s w) b)) := by
  rw [path_append]; simp [path]
theorem fin_snoc (w : Wd) (b : Bool) (s : Spn) : fin s (w ++ [b]) = aft (fin s w) b := by rw [fin_append]; rfl
theorem mem_lv {R : Rg} : ∀ (t : Nat) (w : Wd) (s : Spn), (w, s) ∈ lv R t ↔ w.length = t ∧ path R (0, 0) w = true ∧ s = fin (0, 0) w
  | 0, w, s => by
    simp only [lv, List.mem_singleton, Prod.mk.injEq]
    constructor
    · rintro ⟨rfl, rfl⟩; exact ⟨rfl, rfl, rfl⟩
    · rintro ⟨h, _, h2⟩
      have e : w = [] := List.length_eq_zero_iff.mp h
      subst e; exact ⟨rfl, h2⟩
  | t + 1, w, s => by
    simp only [lv, List.mem_flatMap, nxts, List.mem_map, List.mem_filter]
    constructor
    · rintro ⟨⟨w0, s0⟩, h0, b, ⟨_, hb⟩, e⟩
      obtain ⟨h1, h2, h3⟩ := (mem_lv t w0 s0).mp h0
      simp only [Prod.mk.injEq] at e hb
      obtain ⟨rfl, rfl⟩ := e
      subst h3
      refine ⟨by rw [List.length_append, h1]; rfl, ?_, (fin_snoc _ _ _).symm⟩
      rw [path_snoc, h2, hb]; rfl
    · rintro ⟨h1, h2, h3⟩
      obtain ⟨w0, b, rfl⟩ : ∃ w0 b, w = w0 ++ [b] := ⟨w.dropLast, w.getLast (by intro e; subst e; simp at h1), (List.dropLast_concat_getLast _).symm⟩
      rw [path_snoc, Bool.and_eq_true] at h2
      refine ⟨(w0, fin (0, 0) w0), (mem_lv t _ _).mpr ⟨by simpa using h1, h2.1, rfl⟩, b, ⟨by cases b <;> simp, h2.2⟩, ?_⟩
      rw [h3, fin_snoc]
theorem lv_len {R : Rg} : ∀ t, (lv R t).length ≤ 2 ^ t
  | 0 => Nat.le_refl _
  | t + 1 => by
    have ih := lv_len (R := R) t
    have key : ∀ l : List (Wd × Spn), (l.flatMap (nxts R)).length ≤ 2 * l.length := by
      intro l
      induction l with
      | nil => simp
      | cons a l ihl =>
        rw [List.flatMap_cons, List.length_append, List.length_cons]
        have h2 : (nxts R a).length ≤ 2 := by
          unfold nxts; rw [List.length_map]
          exact Nat.le_trans (List.length_filter_le _ _) (Nat.le_refl 2)
        omega
    show ((lv R t).flatMap (nxts R)).length ≤ 2 ^ (t + 1)
    have := key (lv R t)
    rw [Nat.pow_succ]; omega
theorem nodup_nx (R : Rg) (a : Wd × Spn) : ((nxts R a).map Prod.fst).Nodup := by
  unfold nxts
  rw [List.map_map]
  have h : ([true, false].filter fun b => opn R (aft a.2 b)).Nodup := List.Pairwise.filter _ (by decide : [true, false].Nodup)
  refine List.Pairwise.map _ ?_ h
  intro x y hxy e
  simp only [Function.comp] at e
  have := List.append_cancel_left e
  exact hxy (by simpa using this)
theorem lv_nodup (R : Rg) : ∀ t, ((lv R t).map Prod.fst).Nodup
  | 0 => by simp [lv]
  | t + 1 => by
    have ih := lv_nodup R t
    show (((lv R t).flatMap (nxts R)).map Prod.fst).Nodup
    rw [List.map_flatMap]
    generalize lv R t = l at ih
    induction l with
    | nil => simp
    | cons a l ihl =>
      rw [List.map_cons, List.nodup_cons] at ih
      rw [List.flatMap_cons, List.nodup_append]
      refine ⟨nodup_nx R a, ihl ih.2, ?_⟩
      intro x hx y hy e
      subst e
      obtain ⟨p, hp, e1⟩ := List.mem_map.mp hx
      obtain ⟨c, hc, hy2⟩ := List.mem_flatMap.mp hy
      obtain ⟨p2, hp2, e2⟩ := List.mem_map.mp hy2
      unfold nxts at hp hp2
      obtain ⟨b, _, eb⟩ := List.mem_map.mp hp
      obtain ⟨b2, _, eb2⟩ := List.mem_map.mp hp2
      have e3 : a.1 ++ [b] = c.1 ++ [b2] := by rw [← show p.1 = a.1 ++ [b] by rw [← eb], ← show p2.1 = c.1 ++ [b2] by rw [← eb2], e1, e2]
      have e4 : a.1 = c.1 := by
        have := congrArg List.dropLast e3
        simpa using this
      exact ih.1 (by rw [e4]; exact List.mem_map.mpr ⟨c, hc, rfl⟩)
theorem every_nodup (R : Rg) : (every R).Nodup := lv_nodup R _
section
variable {R : Rg} (hR : Reg R)
include hR
theorem lv_some : ∀ t, t ≤ (en R).1 + (en R).2 → ∃ p, p ∈ lv R t
  | 0, _ => ⟨_, List.mem_singleton.mpr rfl⟩
  | t + 1, h => by
    obtain ⟨⟨w, s⟩, hp⟩ := lv_some t (by omega)
    obtain ⟨h1, h2, rfl⟩ := (mem_lv t w s).mp hp
    obtain ⟨b, hb⟩ := opn_step hR (path_opn w _ (opn0 hR) h2) (by rw [fin_sum, h1]; omega)
    exact ⟨_, List.mem_flatMap.mpr ⟨_, hp, List.mem_map.mpr ⟨b, List.mem_filter.mpr ⟨by cases b <;> simp, hb⟩, rfl⟩⟩⟩
theorem mem_every (w : Wd) : w ∈ every R ↔ isPlay R w = true := by
  rw [play_iff hR]
  unfold every
  rw [List.mem_map]
  constructor
  · rintro ⟨⟨w', s⟩, h, rfl⟩
    obtain ⟨h1, h2, _⟩ := (mem_lv _ _ _).mp h
    exact ⟨h2, h1⟩
  · rintro ⟨h1, h2⟩
    exact ⟨(w, _), (mem_lv _ _ _).mpr ⟨h2, h1, rfl⟩, rfl⟩
theorem every_some : 1 ≤ (every R).length := by
  obtain ⟨p, hp⟩ := lv_some hR _ (Nat.le_refl _)
  unfold every
  rw [List.length_map]
  exact List.length_pos_of_mem hp
theorem en_le : (en R).1 ≤ 4 ∧ (en R).2 ≤ 4 := by
  obtain ⟨d, ed, hd⟩ := last_at hR
  have := hR.len
  have h2 := (hR.col _ _ ed).2
  exact ⟨by show R.length - 1 ≤ 4; omega, by show hiOf R ≤ 4; omega⟩
theorem lv_le {t : Nat} (h : t ≤ (en R).1 + (en R).2) : (lv R t).length ≤ 256 := by
  have := en_le hR
  exact Nat.le_trans (lv_len t) (Nat.le_trans (Nat.pow_le_pow_right (by decide) (show t ≤ 8 by omega)) (by decide))
theorem every_le : (every R).length ≤ 256 := by
  unfold every; rw [List.length_map]; exact lv_le hR (Nat.le_refl _)
theorem every_len {w : Wd} (h : w ∈ every R) : w.length ≤ 8 := by
  have := ((play_iff hR w).mp ((mem_every hR w).mp h)).2
  have := en_le hR
  omega
end

/-! ### swaps -/
def gb (w : Wd) (i : Nat) : Bool := w.getD i true
def swp (w : Wd) (i : Nat) : Wd := w.take i ++ gb w (i + 1) :: gb w i :: w.drop (i + 2)
theorem cut_at (w : Wd) (i : Nat) (h : i + 1 < w.length) : w = w.take i ++ gb w i :: gb w (i + 1) :: w.drop (i + 2) := by
  have e1 : w.drop i = gb w i :: w.drop (i + 1) := by
    rw [List.drop_eq_getElem_cons (by omega)]; unfold gb; rw [List.getD_eq_getElem?_getD, List.getElem?_eq_getElem (by omega)]; rfl
  have e2 : w.drop (i + 1) = gb w (i + 1) :: w.drop (i + 2) := by
    rw [List.drop_eq_getElem_cons (by omega)]; unfold gb; rw [List.getD_eq_getElem?_getD, List.getElem?_eq_getElem (by omega)]; rfl
  conv => lhs; rw [← List.take_append_drop i w, e1, e2]
theorem swp_at (u v : Wd) (a b : Bool) : swp (u ++ a :: b :: v) u.length = u ++ b :: a :: v := by
  unfold swp gb
  rw [List.take_left']
  · have h1 : (u ++ a :: b :: v).getD (u.length + 1) true = b := by
      rw [List.getD_eq_getElem?_getD, List.getElem?_append_right (by omega)]; simp
    have h2 : (u ++ a :: b :: v).getD u.length true = a := by
      rw [List.getD_eq_getElem?_getD, List.getElem?_append_right (by omega)]; simp
    have h3 : (u ++ a :: b :: v).drop (u.length + 2) = v := by
      rw [List.drop_append]; simp
    rw [h1, h2, h3]
  · rfl
theorem swp_ne (w : Wd) (i : Nat) (h : i + 1 < w.length) : swp w i ≠ w ↔ gb w i ≠ gb w (i + 1) := by
  constructor
  · intro hn e
    apply hn
    conv => rhs; rw [cut_at w i h]
    unfold swp; rw [e]
  · intro hn e
    apply hn
    have e2 : w.take i ++ gb w (i + 1) :: gb w i :: w.drop (i + 2) = w.take i ++ gb w i :: gb w (i + 1) :: w.drop (i + 2) := by
      rw [← cut_at w i h]; exact e
    have := List.append_cancel_left e2
    injection this with e3 _
    exact e3.symm
theorem swp_len (w : Wd) (i : Nat) (h : i + 1 < w.length) : (swp w i).length = w.length := by
  conv => rhs; rw [cut_at w i h]
  unfold swp
  simp only [List.length_append, List.length_cons]
theorem swp_swp (w : Wd) (i : Nat) (h : i + 1 < w.length) : swp (swp w i) i = w := by
  have hl : (w.take i).length = i := by rw [List.length_take]; omega
  have := swp_at (w.take i) (w.drop (i + 2)) (gb w (i + 1)) (gb w i)
  rw [hl, ← cut_at w i h] at this
  exact this
def near (R : Rg) (w : Wd) : List Wd := ((List.range (w.length - 1)).filter fun i => decide (swp w i ≠ w) && isPlay R (swp w i)).map (swp w)
/-- what the program asks of a place -/
def fcond (R : Rg) (w : Wd) (i : Nat) : Bool := decide (gb w i ≠ gb w (i + 1)) && opn R (aft (fin (0, 0) (w.take i)) (gb w (i + 1)))
theorem fin_swp (u v : Wd) (a b : Bool) (s : Spn) : fin s (u ++ b :: a :: v) = fin s (u ++ a :: b :: v) := by
  rw [fin_append, fin_append, fin_cons, fin_cons, fin_cons, fin_cons, aft_comm]
theorem play_swp {R : Rg} (u v : Wd) (a b : Bool) (h : isPlay R (u ++ a :: b :: v) = true) : isPlay R (u ++ b :: a :: v) = opn R (aft (fin (0, 0) u) b) := by
  unfold isPlay at h ⊢
  rw [fin_swp]
  rw [Bool.and_eq_true] at h
  rw [h.2, Bool.and_true]
  have hp := h.1
  rw [path_append] at hp ⊢
  simp only [path, Bool.and_eq_true] at hp ⊢
  rw [aft_comm _ b a]
  obtain ⟨h1, h2, h3, h4⟩ := hp
  rw [h1, h3, h4]
  simp
theorem flip_cond {R : Rg} (w : Wd) (i : Nat) (hi : i < w.length - 1) (h : isPlay R w = true) : fcond R w i = (decide (swp w i ≠ w) && isPlay R (swp w i)) := by
  have hi2 : i + 1 < w.length := by omega
  unfold fcond
  have e : decide (gb w i ≠ gb w (i + 1)) = decide (swp w i ≠ w) := by rw [decide_eq_decide]; exact (swp_ne w i hi2).symm
  rw [e]
  congr 1
  unfold swp
  rw [play_swp]
  rw [← cut_at w i hi2]; exact h
theorem flips_near {R : Rg} (w : Wd) (h : isPlay R w = true) : ((List.range (w.length - 1)).filter (fcond R w)).map (swp w) = near R w := by
  unfold near
  congr 1
  apply List.filter_congr
  intro i hi
  exact flip_cond w i (List.mem_range.mp hi) h
theorem mem_near {R : Rg} {w w' : Wd} : w' ∈ near R w ↔ ∃ i, i + 1 < w.length ∧ swp w i ≠ w ∧ isPlay R (swp w i) = true ∧ w' = swp w i := by
  unfold near
  rw [List.mem_map]
  constructor
  · rintro ⟨i, h, rfl⟩
    rw [List.mem_filter, List.mem_range, Bool.and_eq_true, decide_eq_true_eq] at h
    exact ⟨i, by omega, h.2.1, h.2.2, rfl⟩
  · rintro ⟨i, h1, h2, h3, rfl⟩
    refine ⟨i, ?_, rfl⟩
    rw [List.mem_filter, List.mem_range, Bool.and_eq_true, decide_eq_true_eq]
    exact ⟨by omega, h2, h3⟩
theorem near_play {R : Rg} {w w' : Wd} (h : w' ∈ near R w) : isPlay R w' = true := by
  obtain ⟨i, _, _, h3, rfl⟩ := mem_near.mp h
  exact h3
theorem near_symm {R : Rg} {w w' : Wd} (hw : isPlay R w = true) (h : w' ∈ near R w) : w ∈ near R w' := by
  obtain ⟨i, h1, h2, h3, rfl⟩ := mem_near.mp h
  refine mem_near.mpr ⟨i, by rw [swp_len w i h1]; exact h1, ?_, ?_, (swp_swp w i h1).symm⟩
  · rw [swp_swp w i h1]; exact fun e => h2 e.symm
  · rw [swp_swp w i h1]; exact hw
theorem near_parts {R : Rg} {w w' : Wd} (h : w' ∈ near R w) : ∃ u v a, w = u ++ a :: (!a) :: v ∧ w' = u ++ (!a) :: a :: v := by
  obtain ⟨i, h1, h2, h3, rfl⟩ := mem_near.mp h
  have hn := (swp_ne w i h1).mp h2
  have e : gb w (i + 1) = !gb w i := by
    generalize gb w i = x at hn
    generalize gb w (i + 1) = y at hn
    cases x <;> cases y <;> simp_all
  refine ⟨w.take i, w.drop (i + 2), gb w i, ?_, ?_⟩
  · rw [← e]; exact cut_at w i h1
  · unfold swp; rw [e]
theorem near_mk {R : Rg} {u v : Wd} {a : Bool} (h : isPlay R (u ++ (!a) :: a :: v) = true) : u ++ (!a) :: a :: v ∈ near R (u ++ a :: (!a) :: v) := by
  have e := swp_at u v a (!a)
  refine mem_near.mpr ⟨u.length, by simp, ?_, by rw [e]; exact h, e.symm⟩
  rw [e]
  intro q
  have := List.append_cancel_left q
  injection this with q1 _
  cases a <;> cases q1
theorem near_len {R : Rg} (w : Wd) : (near R w).length ≤ w.length := by
  unfold near
  rw [List.length_map]
  exact Nat.le_trans (List.length_filter_le _ _) (by rw [List.length_range]; omega)
end KM
set_option maxHeartbeats 4000000
namespace KM
/-! ### rows and their distance -/
def rows : Nat → Wd → List Nat
  | _, [] => []
  | h, true :: w => h :: rows h w
  | h, false :: w => rows (h + 1) w
def ad (a b : Nat) : Nat := (a - b) + (b - a)
def ds (A B : List Nat) : Nat := ((A.zip B).map fun p => ad p.1 p.2).sum
theorem ad_self (a : Nat) : ad a a = 0 := by unfold ad; omega
theorem ad_comm (a b : Nat) : ad a b = ad b a := by unfold ad; omega
theorem ds_cons (a b : Nat) (A B : List Nat) : ds (a :: A) (b :: B) = ad a b + ds A B := by
  unfold ds; rw [List.zip_cons_cons, List.map_cons, List.sum_cons]
theorem ds_self : ∀ A : List Nat, ds A A = 0
  | [] => rfl
  | a :: A => by rw [ds_cons, ad_self, ds_self A]
theorem ds_comm : ∀ A B : List Nat, ds A B = ds B A
  | [], [] => rfl
  | [], _ :: _ => rfl
  | _ :: _, [] => rfl
  | a :: A, b :: B => by rw [ds_cons, ds_cons, ad_comm, ds_comm A B]
theorem fin_le : ∀ (w : Wd) (s : Spn), s.1 ≤ (fin s w).1 ∧ s.2 ≤ (fin s w).2
  | [], s => ⟨Nat.le_refl _, Nat.le_refl _⟩
  | true :: w, s => by
    have := fin_le w (aft s true)
    rw [fin_cons]
    rw [aft_t] at this ⊢
    exact ⟨by omega, this.2⟩
  | false :: w, s => by
    have := fin_le w (aft s false)
    rw [fin_cons]
    rw [aft_f] at this ⊢
    exact ⟨this.1, by omega⟩
theorem rows_len : ∀ (w : Wd) (s : Spn) (h : Nat), (rows h w).length + s.1 = (fin s w).1
  | [], s, h => by show 0 + s.1 = s.1; omega
  | true :: w, s, h => by
    have := rows_len w (aft s true) h
    rw [fin_cons, ← this, aft_t]
    show (rows h w).length + 1 + s.1 = (rows h w).length + (s.1 + 1)
    omega
  | false :: w, s, h => by
    have := rows_len w (aft s false) (h + 1)
    rw [fin_cons, ← this, aft_f]
    rfl
/-- the heights behind a word's start -/
def hts : Nat → Wd → Nat
  | h, [] => h
  | h, true :: w => hts h w
  | h, false :: w => hts (h + 1) w
theorem rows_append : ∀ (u v : Wd) (h : Nat), rows h (u ++ v) = rows h u ++ rows (hts h u) v
  | [], v, h => rfl
  | true :: u, v, h => by
    show h :: rows h (u ++ v) = h :: rows h u ++ rows (hts h u) v
    rw [rows_append u v h]; rfl
  | false :: u, v, h => rows_append u v (h + 1)
theorem rows_ge : ∀ (w : Wd) (h : Nat), ∀ x ∈ rows h w, h ≤ x
  | [], h, x, hx => by cases hx
  | true :: w, h, x, hx => by
    rcases List.mem_cons.mp hx with rfl | hx
    · exact Nat.le_refl _
    · exact rows_ge w h x hx
  | false :: w, h, x, hx => Nat.le_trans (Nat.le_succ h) (rows_ge w (h + 1) x hx)
/-- one row changed by one -/
theorem ds_one : ∀ (A B C : List Nat) (r : Nat), A.length < C.length → ds (A ++ (r + 1) :: B) C = ds (A ++ r :: B) C + 1 ∨ ds (A ++ r :: B) C = ds (A ++ (r + 1) :: B) C + 1
  | _, _, [], _, h => by simp at h
  | [], B, c :: C, r, _ => by
    show ds ((r + 1) :: B) (c :: C) = ds (r :: B) (c :: C) + 1 ∨ ds (r :: B) (c :: C) = ds ((r + 1) :: B) (c :: C) + 1
    rw [ds_cons, ds_cons]
    unfold ad
    by_cases h : c ≤ r
    · left; omega
    · right; omega
  | a :: A, B, c :: C, r, h => by
    have ih := ds_one A B C r (by simpa using h)
    rw [List.cons_append, List.cons_append, ds_cons, ds_cons]
    omega
/-- raised below, lowered above: nearer -/
theorem ds_up : ∀ (A B C : List Nat) (r c : Nat), C[A.length]? = some c → r < c → ds (A ++ r :: B) C = ds (A ++ (r + 1) :: B) C + 1
  | _, _, [], _, _, h, _ => by simp at h
  | [], B, x :: C, r, c, h, hc => by
    have e : x = c := Option.some.inj h
    subst e
    show ds (r :: B) (x :: C) = ds ((r + 1) :: B) (x :: C) + 1
    rw [ds_cons, ds_cons]; unfold ad; omega
  | a :: A, B, x :: C, r, c, h, hc => by
    have ih := ds_up A B C r c (by simpa using h) hc
    rw [List.cons_append, List.cons_append, ds_cons, ds_cons]; omega
theorem ds_down : ∀ (A B C : List Nat) (r c : Nat), C[A.length]? = some c → c ≤ r → ds (A ++ (r + 1) :: B) C = ds (A ++ r :: B) C + 1
  | _, _, [], _, _, h, _ => by simp at h
  | [], B, x :: C, r, c, h, hc => by
    have e : x = c := Option.some.inj h
    subst e
    show ds ((r + 1) :: B) (x :: C) = ds (r :: B) (x :: C) + 1
    rw [ds_cons, ds_cons]; unfold ad; omega
  | a :: A, B, x :: C, r, c, h, hc => by
    have ih := ds_down A B C r c (by simpa using h) hc
    rw [List.cons_append, List.cons_append, ds_cons, ds_cons]; omega
def dw (w o : Wd) : Nat := ds (rows 0 w) (rows 0 o)
theorem rows_play {R : Rg} {w : Wd} (h : isPlay R w = true) : (rows 0 w).length = (en R).1 := by
  unfold isPlay at h
  rw [Bool.and_eq_true, decide_eq_true_eq] at h
  have := rows_len w (0, 0) 0
  rw [h.2] at this
  exact this
theorem rows_len_eq (u : Wd) (x y : Wd) (h : Nat) (e : (rows (hts h u) x).length = (rows (hts h u) y).length) : (rows h (u ++ x)).length = (rows h (u ++ y)).length := by
  rw [rows_append, rows_append, List.length_append, List.length_append, e]
theorem near_ds {R : Rg} {w w' o : Wd} (hw : isPlay R w = true) (ho : isPlay R o = true) (h : w' ∈ near R w) : dw w' o = dw w o + 1 ∨ dw w o = dw w' o + 1 := by
  obtain ⟨u, v, a, rfl, rfl⟩ := near_parts h
  have hl := rows_play hw
  have hlo := rows_play ho
  unfold dw
  cases a with
  | true =>
    show ds (rows 0 (u ++ false :: true :: v)) (rows 0 o) = ds (rows 0 (u ++ true :: false :: v)) (rows 0 o) + 1 ∨ ds (rows 0 (u ++ true :: false :: v)) (rows 0 o) = ds (rows 0 (u ++ false :: true :: v)) (rows 0 o) + 1
    have e1 : rows 0 (u ++ true :: false :: v) = rows 0 u ++ hts 0 u :: rows (hts 0 u + 1) v := rows_append u _ 0
    have e2 : rows 0 (u ++ false :: true :: v) = rows 0 u ++ (hts 0 u + 1) :: rows (hts 0 u + 1) v := rows_append u _ 0
    have hlen : (rows 0 u).length < (rows 0 o).length := by
      have h1 : (rows 0 (u ++ true :: (!true) :: v)).length = (rows 0 u ++ hts 0 u :: rows (hts 0 u + 1) v).length := by rw [← e1]; rfl
      rw [List.length_append, List.length_cons] at h1
      omega
    rw [e1, e2]
    exact ds_one _ _ _ _ hlen
  | false =>
    show ds (rows 0 (u ++ true :: false :: v)) (rows 0 o) = ds (rows 0 (u ++ false :: true :: v)) (rows 0 o) + 1 ∨ ds (rows 0 (u ++ false :: true :: v)) (rows 0 o) = ds (rows 0 (u ++ true :: false :: v)) (rows 0 o) + 1
    have e1 : rows 0 (u ++ true :: false :: v) = rows 0 u ++ hts 0 u :: rows (hts 0 u + 1) v := rows_append u _ 0
    have e2 : rows 0 (u ++ false :: true :: v) = rows 0 u ++ (hts 0 u + 1) :: rows (hts 0 u + 1) v := rows_append u _ 0
    have hlen : (rows 0 u).length < (rows 0 o).length := by
      have h1 : (rows 0 (u ++ false :: (!false) :: v)).length = (rows 0 u ++ (hts 0 u + 1) :: rows (hts 0 u + 1) v).length := by rw [← e2]; rfl
      rw [List.length_append, List.length_cons] at h1
      omega
    rw [e1, e2]
    exact (ds_one _ _ _ _ hlen).symm

/-! ### the nearer flip -/
/-- a column is reached -/
theorem reach {R : Rg} : ∀ (w : Wd) (s : Spn) (j : Nat), opn R s = true → path R s w = true → s.1 + j ≤ (fin s w).1 → ∃ y, s.2 ≤ y ∧ opn R (s.1 + j, y) = true
  | w, s, 0, h, _, _ => ⟨s.2, Nat.le_refl _, h⟩
  | [], s, j + 1, h, _, hj => by
    exfalso
    have : (fin s []).1 = s.1 := rfl
    omega
  | true :: w, s, j + 1, h, hp, hj => by
    simp only [path, Bool.and_eq_true] at hp
    rw [fin_cons] at hj
    obtain ⟨y, h1, h2⟩ := reach w (aft s true) j hp.1 hp.2 (by rw [aft_t] at hj ⊢; show s.1 + 1 + j ≤ _; omega)
    rw [aft_t] at h1 h2
    exact ⟨y, h1, by rw [show s.1 + (j + 1) = s.1 + 1 + j by omega]; exact h2⟩
  | false :: w, s, j + 1, h, hp, hj => by
    simp only [path, Bool.and_eq_true] at hp
    rw [fin_cons] at hj
    obtain ⟨y, h1, h2⟩ := reach w (aft s false) (j + 1) hp.1 hp.2 (by rw [aft_f] at hj ⊢; exact hj)
    rw [aft_f] at h1 h2
    exact ⟨y, by omega, h2⟩
theorem between {R : Rg} {x a b c : Nat} (h1 : opn R (x, a) = true) (h2 : opn R (x, c) = true) (hab : a ≤ b) (hbc : b ≤ c) : opn R (x, b) = true := by
  obtain ⟨k, e, p, q⟩ := opn_iff.mp h1
  obtain ⟨k', e', p', q'⟩ := opn_iff.mp h2
  have e1 : R[x]? = some k := e
  have e2 : R[x]? = some k' := e'
  rw [e1] at e2; cases e2
  exact opn_iff.mpr ⟨k, e1, Nat.le_trans p hab, Nat.le_trans hbc q'⟩
/-- a word that does not end before its first other sign -/
theorem run_of (a : Bool) : ∀ w : Wd, (!a) ∈ w → ∃ j v, w = List.replicate j a ++ (!a) :: v
  | [], h => by cases h
  | b :: w, h => by
    by_cases e : b = a
    · subst e
      have h' : (!b) ∈ w := by
        rcases List.mem_cons.mp h with q | q
        · cases b <;> cases q
        · exact q
      obtain ⟨j, v, rfl⟩ := run_of b w h'
      exact ⟨j + 1, v, rfl⟩
    · refine ⟨0, w, ?_⟩
      have : b = !a := by cases a <;> cases b <;> simp_all
      rw [this]; rfl
theorem fin_repT : ∀ (j : Nat) (s : Spn), fin s (List.replicate j true) = (s.1 + j, s.2)
  | 0, s => rfl
  | j + 1, s => by
    rw [List.replicate_succ, fin_cons, fin_repT j, aft_t]
    exact Prod.ext (by show s.1 + 1 + j = s.1 + (j + 1); omega) rfl
theorem fin_repF : ∀ (j : Nat) (s : Spn), fin s (List.replicate j false) = (s.1, s.2 + j)
  | 0, s => rfl
  | j + 1, s => by
    rw [List.replicate_succ, fin_cons, fin_repF j, aft_f]
    exact Prod.ext rfl (by show s.2 + 1 + j = s.2 + (j + 1); omega)
theorem rows_repT : ∀ (j h : Nat), rows h (List.replicate j true) = List.replicate j h
  | 0, h => rfl
  | j + 1, h => by rw [List.replicate_succ, List.replicate_succ]; show h :: rows h _ = _; rw [rows_repT j]
theorem rows_repF : ∀ (j h : Nat), rows h (List.replicate j false) = []
  | 0, h => rfl
  | j + 1, h => by rw [List.replicate_succ]; exact rows_repF j (h + 1)
theorem hts_repT : ∀ (j h : Nat), hts h (List.replicate j true) = h
  | 0, h => rfl
  | j + 1, h => by rw [List.replicate_succ]; exact hts_repT j h
theorem hts_repF : ∀ (j h : Nat), hts h (List.replicate j false) = h + j
  | 0, h => rfl
  | j + 1, h => by rw [List.replicate_succ]; show hts (h + 1) _ = _; rw [hts_repF j]; omega
theorem all_same {a : Bool} : ∀ {w : Wd}, (!a) ∉ w → w = List.replicate w.length a
  | [], _ => rfl
  | b :: w, h => by
    simp only [List.mem_cons, not_or] at h
    have e : b = a := by cases a <;> cases b <;> simp_all
    rw [e, List.length_cons, List.replicate_succ, ← all_same h.2]
/-- where two ways part there is a nearer flip; from s at height h -/
theorem closer {R : Rg} : ∀ (w o : Wd) (s : Spn) (h : Nat), opn R s = true → path R s w = true → path R s o = true → fin s w = fin s o → w ≠ o →
    ∃ u v a, w = u ++ a :: (!a) :: v ∧ opn R (aft (fin s u) (!a)) = true ∧ ds (rows h w) (rows h o) = ds (rows h (u ++ (!a) :: a :: v)) (rows h o) + 1
  | [], [], s, h, _, _, _, _, hn => absurd rfl hn
  | [], b :: o, s, h, _, _, _, he, _ => by
    exfalso
    have h1 := fin_sum (b :: o) s
    have h2 := fin_sum [] s
    rw [← he, h2] at h1
    simp at h1
  | b :: w, [], s, h, _, _, _, he, _ => by
    exfalso
    have h1 := fin_sum (b :: w) s
    have h2 := fin_sum [] s
    rw [he, h2] at h1
    simp at h1
  | true :: w, true :: o, s, h, hs, hp, hq, he, hn => by
    simp only [path, Bool.and_eq_true] at hp hq
    obtain ⟨u, v, a, e, ho, hd⟩ := closer w o (aft s true) h hp.1 hp.2 hq.2 he (fun q => hn (by rw [q]))
    refine ⟨true :: u, v, a, by rw [e]; rfl, ho, ?_⟩
    show ds (h :: rows h w) (h :: rows h o) = ds (h :: rows h (u ++ (!a) :: a :: v)) (h :: rows h o) + 1
    rw [ds_cons, ds_cons, hd]; omega
  | false :: w, false :: o, s, h, hs, hp, hq, he, hn => by
    simp only [path, Bool.and_eq_true] at hp hq
    obtain ⟨u, v, a, e, ho, hd⟩ := closer w o (aft s false) (h + 1) hp.1 hp.2 hq.2 he (fun q => hn (by rw [q]))
    exact ⟨false :: u, v, a, by rw [e]; rfl, ho, hd⟩
  | true :: w, false :: o, s, h, hs, hp, hq, he, hn => by
    simp only [path, Bool.and_eq_true] at hp hq
    -- w = L^(j+1) R v
    have hex : (!true) ∈ w := by
      apply Classical.byContradiction
      intro hno
      have e := all_same hno
      have h1 : (fin s (true :: w)).2 = s.2 := by rw [fin_cons, e, fin_repT, aft_t]
      have h2 := (fin_le o (aft s false)).2
      rw [← fin_cons, ← he, h1, aft_f] at h2
      have : s.2 + 1 ≤ s.2 := h2
      omega
    obtain ⟨j, v, rfl⟩ := run_of true w hex
    refine ⟨List.replicate j true, v, true, ?_, ?_, ?_⟩
    · show true :: (List.replicate j true ++ false :: v) = List.replicate j true ++ true :: false :: v
      rw [show true :: (List.replicate j true ++ false :: v) = (true :: List.replicate j true) ++ false :: v from rfl, ← List.replicate_succ, List.replicate_succ', List.append_assoc]; rfl
    · show opn R (aft (fin s (List.replicate j true)) false) = true
      rw [fin_repT, aft_f]
      show opn R (s.1 + j, s.2 + 1) = true
      -- on w the column s.1 + j at s.2; on o above
      have hw : opn R (s.1 + j, s.2) = true := by
        have hpp : path R s (List.replicate j true ++ (true :: false :: v)) = true := by
          have : List.replicate j true ++ (true :: false :: v) = true :: (List.replicate j true ++ (!true) :: v) := by
            rw [show true :: (List.replicate j true ++ (!true) :: v) = (true :: List.replicate j true) ++ false :: v from rfl, ← List.replicate_succ, List.replicate_succ', List.append_assoc]; rfl
          rw [this]
          simp only [path, Bool.and_eq_true]
          exact hp
        rw [path_append, Bool.and_eq_true] at hpp
        have := path_opn _ s hs hpp.1
        rw [fin_repT] at this
        exact this
      have hfin : s.1 + j ≤ (fin (aft s false) o).1 := by
        rw [← fin_cons, ← he, fin_cons, fin_append, fin_repT, aft_t]
        have h2 : s.1 + 1 + j ≤ (fin (s.1 + 1 + j, s.2) ((!true) :: v)).1 := (fin_le ((!true) :: v) (s.1 + 1 + j, s.2)).1
        exact Nat.le_trans (by omega) h2
      obtain ⟨y, hy, hoy⟩ := reach o (aft s false) j hq.1 hq.2 (by rw [aft_f] at hfin ⊢; exact hfin)
      rw [aft_f] at hy hoy
      exact between hw hoy (Nat.le_succ _) hy
    · have e1 : rows h (true :: (List.replicate j true ++ (!true) :: v)) = List.replicate j h ++ h :: rows (h + 1) v := by
        show h :: rows h (List.replicate j true ++ false :: v) = _
        rw [rows_append, rows_repT, hts_repT]
        show h :: (List.replicate j h ++ rows (h + 1) v) = _
        rw [← List.cons_append, ← List.replicate_succ, List.replicate_succ', List.append_assoc]; rfl
      have e2 : rows h (List.replicate j true ++ (!true) :: true :: v) = List.replicate j h ++ (h + 1) :: rows (h + 1) v := by
        rw [rows_append, rows_repT, hts_repT]; rfl
      rw [e1, e2]
      show ds (List.replicate j h ++ h :: rows (h + 1) v) (rows (h + 1) o) = ds (List.replicate j h ++ (h + 1) :: rows (h + 1) v) (rows (h + 1) o) + 1
      have hlen : j < (rows (h + 1) o).length := by
        have h1 := rows_len o (aft s false) (h + 1)
        rw [← fin_cons, ← he, fin_cons, fin_append, fin_repT, aft_t, aft_f] at h1
        have h2 := (fin_le ((!true) :: v) (s.1 + 1 + j, s.2)).1
        have h3 : (rows (h + 1) o).length + s.1 = (fin (s.1 + 1 + j, s.2) ((!true) :: v)).1 := h1
        have h4 : s.1 + 1 + j ≤ (fin (s.1 + 1 + j, s.2) ((!true) :: v)).1 := h2
        omega
      refine ds_up _ _ _ _ _ (by rw [List.length_replicate]; exact List.getElem?_eq_getElem hlen) ?_
      exact rows_ge o (h + 1) _ (List.getElem_mem hlen)
  | false :: w, true :: o, s, h, hs, hp, hq, he, hn => by
    simp only [path, Bool.and_eq_true] at hp hq
    -- w = R^(j+1) L v
    have hex : (!false) ∈ w := by
      apply Classical.byContradiction
      intro hno
      have e := all_same hno
      have h1 : (fin s (false :: w)).1 = s.1 := by rw [fin_cons, e, fin_repF, aft_f]
      have h2 := (fin_le o (aft s true)).1
      rw [← fin_cons, ← he, h1, aft_t] at h2
      have : s.1 + 1 ≤ s.1 := h2
      omega
    obtain ⟨j, v, rfl⟩ := run_of false w hex
    have erep : false :: (List.replicate j false ++ (!false) :: v) = List.replicate j false ++ false :: true :: v := by
      rw [show false :: (List.replicate j false ++ (!false) :: v) = (false :: List.replicate j false) ++ true :: v from rfl, ← List.replicate_succ, List.replicate_succ', List.append_assoc]; rfl
    refine ⟨List.replicate j false, v, false, erep, ?_, ?_⟩
    · show opn R (aft (fin s (List.replicate j false)) true) = true
      rw [fin_repF, aft_t]
      show opn R (s.1 + 1, s.2 + j) = true
      have hw : opn R (s.1 + 1, s.2 + (j + 1)) = true := by
        have hpp : path R s (List.replicate (j + 1) false ++ (true :: v)) = true := by
          have : List.replicate (j + 1) false ++ (true :: v) = false :: (List.replicate j false ++ (!false) :: v) := by
            rw [List.replicate_succ]; rfl
          rw [this]
          simp only [path, Bool.and_eq_true]
          exact hp
        rw [path_append, Bool.and_eq_true, fin_repF] at hpp
        have h2 := hpp.2
        simp only [path, Bool.and_eq_true] at h2
        exact h2.1
      exact between (show opn R (s.1 + 1, s.2) = true from hq.1) hw (Nat.le_add_right _ _) (by omega)
    · rw [erep]
      have e1 : rows h (List.replicate j false ++ false :: true :: v) = (h + j + 1) :: rows (h + j + 1) v := by
        rw [rows_append, rows_repF, hts_repF]; rfl
      have e2 : rows h (List.replicate j false ++ (!false) :: false :: v) = (h + j) :: rows (h + j + 1) v := by
        rw [rows_append, rows_repF, hts_repF]; rfl
      rw [e1, e2]
      exact ds_down [] _ _ (h + j) h rfl (by omega)
theorem near_closer {R : Rg} (hR : Reg R) {w o : Wd} (hw : isPlay R w = true) (ho : isPlay R o = true) (hn : w ≠ o) : ∃ w', w' ∈ near R w ∧ dw w o = dw w' o + 1 := by
  have hw0 := hw
  unfold isPlay at hw ho
  rw [Bool.and_eq_true, decide_eq_true_eq] at hw ho
  obtain ⟨u, v, a, e, hop, hd⟩ := closer w o (0, 0) 0 (opn0 hR) hw.1 ho.1 (by rw [hw.2, ho.2]) hn
  refine ⟨u ++ (!a) :: a :: v, ?_, hd⟩
  rw [e]
  refine near_mk ?_
  rw [play_swp u v a (!a) (by rw [← e]; exact hw0)]
  exact hop
end KM
set_option maxHeartbeats 4000000
namespace KM
/-! ### bounds -/
theorem rows_le : ∀ (w : Wd) (h : Nat), ∀ x ∈ rows h w, x ≤ hts h w
  | [], h, x, hx => by cases hx
  | true :: w, h, x, hx => by
    rcases List.mem_cons.mp hx with rfl | hx
    · have : ∀ (w : Wd) (h : Nat), h ≤ hts h w := by
        intro w
        induction w with
        | nil => intro h; exact Nat.le_refl _
        | cons b w ih =>
          intro h
          cases b
          · exact Nat.le_trans (Nat.le_succ h) (ih (h + 1))
          · exact ih h
      exact this w x
    · exact rows_le w h x hx
  | false :: w, h, x, hx => rows_le w (h + 1) x hx
theorem hts_fin : ∀ (w : Wd) (s : Spn), hts s.2 w = (fin s w).2
  | [], s => rfl
  | true :: w, s => hts_fin w (aft s true)
  | false :: w, s => hts_fin w (aft s false)
theorem ds_bound (m : Nat) : ∀ A B : List Nat, (∀ x ∈ A, x ≤ m) → (∀ x ∈ B, x ≤ m) → ds A B ≤ A.length * m
  | [], _, _, _ => by show 0 ≤ _; exact Nat.zero_le _
  | a :: A, [], _, _ => by show 0 ≤ _; exact Nat.zero_le _
  | a :: A, b :: B, ha, hb => by
    have ih := ds_bound m A B (fun x hx => ha x (List.mem_cons_of_mem _ hx)) (fun x hx => hb x (List.mem_cons_of_mem _ hx))
    have h1 := ha a (List.mem_cons_self ..)
    have h2 := hb b (List.mem_cons_self ..)
    rw [ds_cons, List.length_cons, Nat.succ_mul]
    unfold ad; omega
theorem dw_le {R : Rg} (hR : Reg R) {w o : Wd} (hw : isPlay R w = true) (ho : isPlay R o = true) : dw w o ≤ 16 := by
  have hl := rows_play hw
  have he := en_le hR
  have hts4 : ∀ u : Wd, isPlay R u = true → ∀ x ∈ rows 0 u, x ≤ 4 := fun u hu x hx => by
    have h1 := rows_le u 0 x hx
    have h2 : hts 0 u = (fin (0, 0) u).2 := hts_fin u (0, 0)
    unfold isPlay at hu
    rw [Bool.and_eq_true, decide_eq_true_eq] at hu
    rw [hu.2] at h2
    omega
  have := ds_bound 4 (rows 0 w) (rows 0 o) (hts4 w hw) (hts4 o ho)
  rw [hl] at this
  unfold dw
  omega
theorem dw_zero {R : Rg} (hR : Reg R) {w o : Wd} (hw : isPlay R w = true) (ho : isPlay R o = true) (h : dw w o = 0) : w = o := by
  apply Classical.byContradiction
  intro hn
  obtain ⟨w', _, h2⟩ := near_closer hR hw ho hn
  omega
theorem dw_self (w : Wd) : dw w w = 0 := ds_self _
theorem dw_comm (u w : Wd) : dw u w = dw w u := ds_comm _ _
/-! ### a way of flips -/
structure Fw (R : Rg) (one other : Wd) (fs : List Wd) (last : Wd) : Prop where
  head : fs[0]? = some one
  lst : ∃ us, fs = us ++ [last]
  play : isPlay R last = true
  chain : ∀ (i : Nat) f g, fs[i]? = some f → fs[i + 1]? = some g → g ∈ near R f
  len : fs.length + dw last other = dw one other + 1
theorem Fw.start {R : Rg} {one other : Wd} (h : isPlay R one = true) : Fw R one other [one] one where
  head := rfl
  lst := ⟨[], rfl⟩
  play := h
  chain := fun i f g h1 h2 => by simp at h2
  len := by rw [List.length_singleton]; omega
theorem Fw.snoc {R : Rg} {one other last w : Wd} {fs : List Wd} (F : Fw R one other fs last) (h : w ∈ near R last) (hd : dw last other = dw w other + 1) : Fw R one other (fs ++ [w]) w where
  head := by
    have := (List.getElem?_eq_some_iff.mp F.head).1
    rw [List.getElem?_append_left this]; exact F.head
  lst := ⟨fs, rfl⟩
  play := near_play h
  chain := fun i f g h1 h2 => by
    have hl := (List.getElem?_eq_some_iff.mp h2).1
    rw [List.length_append, List.length_singleton] at hl
    by_cases hi : i + 1 < fs.length
    · rw [List.getElem?_append_left (by omega)] at h1
      rw [List.getElem?_append_left hi] at h2
      exact F.chain i f g h1 h2
    · have e : i + 1 = fs.length := by omega
      rw [e, List.getElem?_append_right (Nat.le_refl _)] at h2
      simp at h2
      subst h2
      rw [List.getElem?_append_left (by omega)] at h1
      obtain ⟨us, hus⟩ := F.lst
      rw [hus] at h1 e
      rw [List.length_append, List.length_singleton] at e
      have : i = us.length := by omega
      rw [this, List.getElem?_append_right (Nat.le_refl _)] at h1
      simp at h1
      rw [← h1]; exact h
  len := by
    have := F.len
    rw [List.length_append, List.length_singleton]; omega
/-! ### levels of distance: the search by breadth -/
abbrev Far := List (Wd × Nat)
def look (f : Far) (w : Wd) : Option Nat := (f.find? fun p => decide (p.1 = w)).map (·.2)
theorem look_mem {f : Far} {w : Wd} {n : Nat} (h : look f w = some n) : (w, n) ∈ f := by
  unfold look at h
  cases q : f.find? fun p => decide (p.1 = w) with
  | none => rw [q] at h; cases h
  | some p =>
    rw [q] at h
    have h1 := List.find?_some q
    have h2 := List.mem_of_find?_eq_some q
    have h3 : p.2 = n := Option.some.inj h
    have h4 : p.1 = w := of_decide_eq_true h1
    rw [← h3, ← h4]; exact h2
theorem look_none {f : Far} {w : Wd} (h : look f w = none) : ∀ p ∈ f, p.1 ≠ w := by
  intro p hp e
  unfold look at h
  cases q : f.find? fun p => decide (p.1 = w) with
  | none => exact (List.find?_eq_none.mp q p hp) (decide_eq_true e)
  | some p => rw [q] at h; cases h
theorem look_some {f : Far} {w : Wd} {n : Nat} (h : (w, n) ∈ f) : ∃ m, look f w = some m := by
  cases q : look f w with
  | some m => exact ⟨m, rfl⟩
  | none => exact absurd rfl (look_none q _ h)
/-- the state within a level: f what was found, l what was found at this level; P: the (word, neighbour) pairs gone through -/
structure Lev (R : Rg) (one : Wd) (k : Nat) (rim : List Wd) (f : Far) (l : List Wd) (P : Wd → Wd → Prop) : Prop where
  nd : (f.map Prod.fst).Nodup
  all : ∀ w, isPlay R w = true → dw w one ≤ k → ∃ n, (w, n) ∈ f
  val : ∀ w n, (w, n) ∈ f → isPlay R w = true ∧ n = dw w one ∧ (n ≤ k ∨ (n = k + 1 ∧ w ∈ l))
  lev : ∀ w ∈ l, isPlay R w = true ∧ dw w one = k + 1
  rim1 : ∀ w ∈ rim, isPlay R w = true ∧ dw w one = k
  rim2 : ∀ w, isPlay R w = true → dw w one = k → w ∈ rim
  done : ∀ w w', P w w' → ∃ n, (w', n) ∈ f
theorem Lev.start {R : Rg} (hR : Reg R) {one : Wd} (h : isPlay R one = true) : Lev R one 0 [one] [(one, 0)] [] (fun _ _ => False) where
  nd := by simp
  all := fun w hw hd => ⟨0, by rw [dw_zero hR hw h (by omega)]; exact List.mem_singleton.mpr rfl⟩
  val := fun w n hm => by
    have e := List.mem_singleton.mp hm
    cases e
    exact ⟨h, (dw_self one).symm, .inl (Nat.le_refl _)⟩
  lev := fun w hw => by cases hw
  rim1 := fun w hw => by
    rw [List.mem_singleton.mp hw]; exact ⟨h, dw_self one⟩
  rim2 := fun w hw hd => List.mem_singleton.mpr (dw_zero hR hw h hd)
  done := fun _ _ h => h.elim
theorem Lev.value {R : Rg} {one : Wd} {k : Nat} {rim l : List Wd} {f : Far} {P : Wd → Wd → Prop} (V : Lev R one k rim f l P) {w : Wd} (hw : w ∈ rim) : look f w = some k := by
  obtain ⟨h1, h2⟩ := V.rim1 w hw
  obtain ⟨n, hn⟩ := V.all w h1 (by omega)
  obtain ⟨m, hm⟩ := look_some hn
  obtain ⟨_, e, _⟩ := V.val w m (look_mem hm)
  rw [hm, e, h2]
theorem Lev.pass {R : Rg} {one : Wd} {k : Nat} {rim l : List Wd} {f : Far} {P P' : Wd → Wd → Prop} (V : Lev R one k rim f l P) {w w' : Wd} {n : Nat} (h : look f w' = some n) (hP : ∀ x y, P' x y → P x y ∨ (x = w ∧ y = w')) : Lev R one k rim f l P' :=
  ⟨V.nd, V.all, V.val, V.lev, V.rim1, V.rim2, fun x y hxy => by
      rcases hP x y hxy with q | ⟨_, rfl⟩
      · exact V.done x y q
      · exact ⟨n, look_mem h⟩⟩
theorem Lev.add {R : Rg} {one : Wd} {k : Nat} {rim l : List Wd} {f : Far} {P P' : Wd → Wd → Prop} (V : Lev R one k rim f l P) (h1 : isPlay R one = true) {w w' : Wd} (hw : w ∈ rim) (hn : w' ∈ near R w) (h : look f w' = none) (hP : ∀ x y, P' x y → P x y ∨ (x = w ∧ y = w')) :
    Lev R one k rim (f ++ [(w', k + 1)]) (l ++ [w']) P' := by
  obtain ⟨hwp, hwd⟩ := V.rim1 w hw
  have hp := near_play hn
  have hno := look_none h
  have hd : dw w' one = k + 1 := by
    rcases near_ds hwp h1 hn with q | q
    · omega
    · exfalso
      obtain ⟨n, hm⟩ := V.all w' hp (by omega)
      exact hno _ hm rfl
  refine ⟨?_, fun x hx hxd => ?_, fun x n hm => ?_, fun x hx => ?_, V.rim1, V.rim2, fun x y hxy => ?_⟩
  · rw [List.map_append, List.nodup_append]
    refine ⟨V.nd, by simp, fun a ha b hb e => ?_⟩
    obtain ⟨p, hp1, rfl⟩ := List.mem_map.mp ha
    simp at hb
    exact hno p hp1 (by rw [e, hb])
  · obtain ⟨n, hm⟩ := V.all x hx hxd
    exact ⟨n, List.mem_append_left _ hm⟩
  · rcases List.mem_append.mp hm with q | q
    · obtain ⟨a, b, c⟩ := V.val x n q
      refine ⟨a, b, ?_⟩
      rcases c with c | ⟨c1, c2⟩
      · exact .inl c
      · exact .inr ⟨c1, List.mem_append_left _ c2⟩
    · have e := List.mem_singleton.mp q
      cases e
      exact ⟨hp, hd.symm, .inr ⟨rfl, List.mem_append_right _ (List.mem_singleton.mpr rfl)⟩⟩
  · rcases List.mem_append.mp hx with q | q
    · exact V.lev x q
    · rw [List.mem_singleton.mp q]; exact ⟨hp, hd⟩
  · rcases hP x y hxy with q | ⟨_, rfl⟩
    · obtain ⟨n, hm⟩ := V.done x y q
      exact ⟨n, List.mem_append_left _ hm⟩
    · exact ⟨k + 1, List.mem_append_right _ (List.mem_singleton.mpr rfl)⟩
/-- the level is gone through -/
theorem Lev.next {R : Rg} (hR : Reg R) {one : Wd} {k : Nat} {rim l : List Wd} {f : Far} {P : Wd → Wd → Prop} (V : Lev R one k rim f l P) (h1 : isPlay R one = true) (hP : ∀ w ∈ rim, ∀ w' ∈ near R w, P w w') : Lev R one (k + 1) l f [] (fun _ _ => False) := by
  have key : ∀ w, isPlay R w = true → dw w one = k + 1 → (∃ n, (w, n) ∈ f) ∧ w ∈ l := fun w hw hd => by
    have hne : w ≠ one := fun e => by rw [e, dw_self] at hd; omega
    obtain ⟨w', hn, hd'⟩ := near_closer hR hw h1 hne
    have hw' := near_play hn
    have hr := V.rim2 w' hw' (by omega)
    obtain ⟨n, hm⟩ := V.done w' w (hP w' hr w (near_symm hw hn))
    refine ⟨⟨n, hm⟩, ?_⟩
    obtain ⟨_, e, c⟩ := V.val w n hm
    rcases c with c | ⟨_, c⟩
    · omega
    · exact c
  refine ⟨V.nd, fun w hw hd => ?_, fun w n hm => ?_, fun w hw => (by cases hw), fun w hw => V.lev w hw, fun w hw hd => (key w hw hd).2, fun _ _ h => h.elim⟩
  · by_cases h : dw w one ≤ k
    · exact V.all w hw h
    · exact (key w hw (by omega)).1
  · obtain ⟨a, b, c⟩ := V.val w n hm
    refine ⟨a, b, .inl ?_⟩
    rcases c with c | ⟨c, _⟩
    · omega
    · omega
theorem len_sub {α : Type} [DecidableEq α] : ∀ (l l' : List α), l.Nodup → (∀ x ∈ l, x ∈ l') → l.length ≤ l'.length
  | [], _, _, _ => Nat.zero_le _
  | a :: t, l', hn, hs => by
    rw [List.nodup_cons] at hn
    have ha := hs a (List.mem_cons_self ..)
    have ih := len_sub t (l'.erase a) hn.2 fun x hx => by
      refine (List.mem_erase_of_ne ?_).mpr (hs x (List.mem_cons_of_mem _ hx))
      intro e; subst e; exact hn.1 hx
    rw [List.length_erase_of_mem ha] at ih
    have := List.length_pos_of_mem ha
    rw [List.length_cons]; omega
/-- an empty rim: all is found -/
theorem Lev.full {R : Rg} (hR : Reg R) {one : Wd} {k : Nat} {f : Far} {P : Wd → Wd → Prop} (V : Lev R one k [] f [] P) (h1 : isPlay R one = true) : (∀ w, isPlay R w = true → look f w = some (dw w one)) ∧ f.length = (every R).length := by
  have none_ge : ∀ m w, isPlay R w = true → dw w one = k + m → False := by
    intro m
    induction m with
    | zero =>
      intro w hw hd
      have := V.rim2 w hw hd
      cases this
    | succ m ih =>
      intro w hw hd
      have hne : w ≠ one := fun e => by rw [e, dw_self] at hd; omega
      obtain ⟨w', hn, hd'⟩ := near_closer hR hw h1 hne
      exact ih w' (near_play hn) (by omega)
  have hall : ∀ w, isPlay R w = true → ∃ n, (w, n) ∈ f := fun w hw => by
    by_cases h : dw w one ≤ k
    · exact V.all w hw h
    · exact (none_ge (dw w one - k) w hw (by omega)).elim
  refine ⟨fun w hw => ?_, ?_⟩
  · obtain ⟨n, hm⟩ := hall w hw
    obtain ⟨m, hl⟩ := look_some hm
    obtain ⟨_, e, _⟩ := V.val w m (look_mem hl)
    rw [hl, e]
  · rw [← List.length_map (f := Prod.fst)]
    apply Nat.le_antisymm
    · refine len_sub _ _ V.nd fun w hw => ?_
      obtain ⟨p, hp, rfl⟩ := List.mem_map.mp hw
      exact (mem_every hR _).mpr (V.val p.1 p.2 hp).1
    · refine len_sub _ _ (every_nodup R) fun w hw => ?_
      obtain ⟨n, hm⟩ := hall w ((mem_every hR w).mp hw)
      exact List.mem_map.mpr ⟨_, hm, rfl⟩
end KM
set_option maxHeartbeats 4000000
namespace KM
/-! ### the spans of a region, column by column -/
def colSp (R : Rg) (x : Nat) : List Spn := match R[x]? with
  | some c => (List.range (c.2 + 1 - c.1)).map fun i => (x, c.1 + i)
  | none => []
def spTo (R : Rg) (n : Nat) : List Spn := (List.range n).flatMap (colSp R)
def spansL (R : Rg) : List Spn := spTo R R.length
theorem spTo_succ (R : Rg) (n : Nat) : spTo R (n + 1) = spTo R n ++ colSp R n := by
  unfold spTo; rw [List.range_succ, List.flatMap_append]; simp
theorem mem_colSp {R : Rg} {x : Nat} {s : Spn} : s ∈ colSp R x ↔ s.1 = x ∧ opn R s = true := by
  unfold colSp
  cases h : R[x]? with
  | none =>
    constructor
    · intro q; cases q
    · rintro ⟨rfl, q⟩
      obtain ⟨c, e, _⟩ := opn_iff.mp q
      rw [h] at e; cases e
  | some c =>
    simp only [List.mem_map, List.mem_range]
    constructor
    · rintro ⟨i, hi, rfl⟩
      exact ⟨rfl, opn_iff.mpr ⟨c, h, by show c.1 ≤ c.1 + i; omega, by show c.1 + i ≤ c.2; omega⟩⟩
    · rintro ⟨rfl, q⟩
      obtain ⟨d, e, h1, h2⟩ := opn_iff.mp q
      rw [h] at e; cases e
      exact ⟨s.2 - c.1, by omega, Prod.ext rfl (by show c.1 + (s.2 - c.1) = s.2; omega)⟩
theorem mem_spansL {R : Rg} {s : Spn} : s ∈ spansL R ↔ opn R s = true := by
  unfold spansL spTo
  rw [List.mem_flatMap]
  constructor
  · rintro ⟨x, _, h⟩
    exact (mem_colSp.mp h).2
  · intro h
    obtain ⟨c, e, _⟩ := opn_iff.mp h
    exact ⟨s.1, List.mem_range.mpr (List.getElem?_eq_some_iff.mp e).1, mem_colSp.mpr ⟨rfl, h⟩⟩
theorem colSp_len {R : Rg} (hR : Reg R) (x : Nat) : (colSp R x).length ≤ 5 := by
  unfold colSp
  cases h : R[x]? with
  | none => show 0 ≤ 5; omega
  | some c =>
    have := hR.col x c h
    show ((List.range (c.2 + 1 - c.1)).map _).length ≤ 5
    rw [List.length_map, List.length_range]; omega
theorem spTo_len {R : Rg} (hR : Reg R) : ∀ n, (spTo R n).length ≤ 5 * n
  | 0 => Nat.le_refl _
  | n + 1 => by
    have h1 := spTo_len hR n
    have h2 := colSp_len hR n
    rw [spTo_succ, List.length_append]; omega
theorem spansL_len {R : Rg} (hR : Reg R) : (spansL R).length ≤ 25 := by
  have := spTo_len hR R.length
  have := hR.len
  unfold spansL; omega
theorem spansL_last {R : Rg} (hR : Reg R) : ∃ us, spansL R = us ++ [en R] := by
  obtain ⟨c, hc, hh⟩ := last_at hR
  have hp := hR.pos
  have col := (hR.col _ c hc).1
  obtain ⟨k, hk⟩ : ∃ k, c.2 = c.1 + k := ⟨c.2 - c.1, by omega⟩
  refine ⟨spTo R (R.length - 1) ++ (List.range k).map fun i => (R.length - 1, c.1 + i), ?_⟩
  have e : R.length = R.length - 1 + 1 := by omega
  unfold spansL
  conv => lhs; rw [e]
  rw [spTo_succ, List.append_assoc]
  congr 1
  unfold colSp
  rw [hc]
  show (List.range (c.2 + 1 - c.1)).map _ = _
  rw [show c.2 + 1 - c.1 = k + 1 by omega, List.range_succ, List.map_append]
  congr 1
  show [(R.length - 1, c.1 + k)] = [(R.length - 1, hiOf R)]
  rw [← hh, hk]
/-! ### a bound of the number of ways -/
def bnRow (prev : Nat → Nat) : Nat → Nat
  | 0 => 1
  | b + 1 => prev (b + 1) + bnRow prev b
def Bn : Nat → Nat → Nat
  | 0 => fun _ => 1
  | a + 1 => bnRow (Bn a)
theorem Bn_small : ∀ a, a ≤ 4 → ∀ b, b ≤ 4 → Bn a b ≤ 120 := by decide
theorem Bn_step (a b v1 v2 : Nat) (hn : ¬ (a = 0 ∧ b = 0)) (h1 : v1 ≤ if a = 0 then 0 else Bn (a - 1) b) (h2 : v2 ≤ if b = 0 then 0 else Bn a (b - 1)) : v1 + v2 ≤ Bn a b := by
  cases a with
  | zero =>
    cases b with
    | zero => exact absurd ⟨rfl, rfl⟩ hn
    | succ b =>
      simp only [if_true] at h1
      rw [if_neg (by omega)] at h2
      show v1 + v2 ≤ 1
      have : Bn 0 (b + 1 - 1) = 1 := rfl
      omega
  | succ a =>
    cases b with
    | zero =>
      simp only [if_true] at h2
      rw [if_neg (by omega)] at h1
      have : Bn (a + 1 - 1) 0 = 1 := by cases a <;> rfl
      show v1 + v2 ≤ 1
      omega
    | succ b =>
      rw [if_neg (by omega)] at h1 h2
      show v1 + v2 ≤ Bn a (b + 1) + Bn (a + 1) b
      have e1 : a + 1 - 1 = a := by omega
      have e2 : b + 1 - 1 = b := by omega
      rw [e1] at h1
      rw [e2] at h2
      omega
theorem Bn_pos (a b : Nat) : 1 ≤ Bn a b := by
  induction a generalizing b with
  | zero => exact Nat.le_refl _
  | succ a ih =>
    induction b with
    | zero => exact Nat.le_refl _
    | succ b ihb => show 1 ≤ Bn a (b + 1) + Bn (a + 1) b; omega
end KM
set_option maxHeartbeats 4000000
namespace KL
open PySem PySem.Spec PyProof.Rows L2

/-! ### enumerate over a tuple, over a text -/
theorem meets_enum1 {v : Value} {o : Obj} {H : Heap → Prop} (B : Begins v o H) :
    Meets (Builtin.«enumerate.__new__» ⟨[.type "enumerate", v], []⟩) (fun _ R s => H s.heap ∧
      R (.ok (.ret (.ref (s.heap.push o).objs.size))) { s with heap := (s.heap.push o).push { cls := .type "enumerate", data := .fields #[.none, .bool false, .ref s.heap.objs.size, rawInt 0, .none, .none] } }) :=
  .of_wp fun pr wo _ _ st0 hh => by
    rcases st0 with ⟨m0, gl, dn, nt, out⟩
    rcases hh with ⟨hb, hr⟩
    have _sb := sub_enumerate
    have iter0 : ∀ {A2 : Around} {E2 Q2 : Value → Shared → Prop}, Q2 (.ref m0.objs.size) ⟨m0.push o, gl, dn, nt, out⟩ → wpAny (model pr wo) A2 (pyIter v) Q2 E2 ⟨m0, gl, dn, nt, out⟩ := fun z => B.iter pr wo _ _ ⟨m0, gl, dn, nt, out⟩ _ hb z
    wp_walk using iter0
    apply wpAny_stack_any; intro k; apply wpAny_pure
    split
    · rename_i cl _ _ _ _ _
      generalize (cl == Value.type "enumerate") = same
      cases same <;> (wp_walk using iter0; exact ⟨_, rfl, hr⟩)
    · wp_walk using iter0
      exact ⟨_, rfl, hr⟩
theorem enum1_begins {pr : Program} {wo : World} {A : Around} {E Q : Value → Shared → Prop} {s : Shared} {v : Value} {o : Obj} {H : Heap → Prop} (B : Begins v o H) (begin_ : H s.heap)
    (k : ∀ m, IsEnum m (s.heap.objs.size + 1) s.heap.objs.size 0 .none → m.get? s.heap.objs.size = some o → m.objs.size = s.heap.objs.size + 2 → (∀ c ob, s.heap.get? c = some ob → m.get? c = some ob) → Q (.ref (s.heap.objs.size + 1)) { s with heap := m }) : wpAny (model pr wo) A (call (.type "enumerate") [v]) Q E s := by
  let eo : Obj := { cls := .type "enumerate", data := .fields #[.none, .bool false, .ref s.heap.objs.size, rawInt 0, .none, .none] }
  have size1 : (s.heap.push o).objs.size = s.heap.objs.size + 1 := Heap.size_push _ _
  have isE : IsEnum ((s.heap.push o).push eo) (s.heap.objs.size + 1) s.heap.objs.size 0 .none := by
    have z := Heap.get?_push_size (s.heap.push o) (o := eo) rfl
    rw [size1] at z
    exact z
  refine callType_new F.called_enumerate (by decide) (F.typeCall_enumerate_1 _) (F.newCall_enumerate_1 _) (fun ob => F.args_object_init_2 ob _)
    F.entry_enumerate_new (meets_enum1 B) ⟨begin_, ?_⟩
  show _ ∧ _
  rw [size1]
  exact ⟨⟨_, isE, rfl⟩, k _ isE (Heap.get?_push_of_some _ (Heap.get?_push_size _ B.free))
    (by rw [Heap.size_push, size1]) fun c ob z => Heap.get?_push_of_some _ (Heap.get?_push_of_some _ z)⟩
/-- what a turn of enumerate yields: a new pair of the place and f of it -/
def ItE (n : Nat) (G : Hp → Prop) (f : Nat → Option V) : It :=
  ⟨fun i H => G H ∧ i < n, fun i H v H' => ∃ T x, v = .ref T ∧ H T = none ∧ f i = some x ∧ H' = upd H T (.tup [.int (i : Nat), x]), fun i H => G H ∧ i = n⟩
/-- an iterator within enumerate, by what it draws -/
theorem turn_enumD {P : Program} {w : World} {K : PySem.W.Frag} {elts : List Expr} {kk : Nat} {tpos : Pos} {n : Nat} {G : Hp → Prop} {f : Nat → Option V} (e it : Addr) (hne : e ≠ it) (Tn : Nat → Heap → Prop)
    (live : ∀ i h, Tn i h → ∃ o, h.get? it = some o ∧ ∀ v, o.data ≠ .cell v)
    (keep : ∀ i h h', Tn i h → (∀ o, h.get? it = some o → h'.get? it = some o) → Tn i h')
    (D : ∀ (X : Cx) (pins : List (Addr × Obj)) (σ : L2.St) (H : Hp) (s : Shared), X.prog = P → X.w = w → X.K = K → X.calm = true → Inv X pins σ H s → G H → ∃ (fp0 : List Addr) (Pp : Nat → Value → Prop) (Sd : Nat → Heap → Prop), e ∉ fp0 ∧ (∀ i v, Pp i v → ∃ x, f i = some x ∧ RelV x v) ∧ Draws P w X.A.in1 it fp0 n Pp Sd ∧ (∀ i, Tn i s.heap → Sd i s.heap) ∧ ∀ i h, Sd i h → Tn i h) :
    Turn P w K (.Tuple elts kk tpos) (ItE n G f) [e, it] e (fun i h => (∃ old, IsEnum h e it ((i : Nat) : Int) old) ∧ Tn i h) where
  mem := by simp
  obj := fun j m st c hc => by
    rcases st with ⟨⟨last, isE⟩, tn⟩
    rcases (show c = e ∨ c = it by simpa using hc) with rfl | rfl
    · exact ⟨_, isE, fun _ z => nomatch z⟩
    · exact live _ _ tn
  keep := fun j m m' st same => ⟨⟨st.1.choose, same e (by simp) _ st.1.choose_spec⟩, keep _ _ _ st.2 fun ob z => same it (by simp) ob z⟩
  item := by
    intro Y eP eW eK calm j pins τ s G0 E0 inv free st hg
    rcases st with ⟨⟨last, isE⟩, tn⟩
    rcases hg with ⟨stands, hj⟩
    rcases D Y pins s G0 τ eP eW eK calm inv stands with ⟨own, Pp, Sd, off, val, draws, up, down⟩
    subst eP eW eK
    have ltE : e < τ.heap.objs.size := Heap.lt_size isE
    have ltI : it < τ.heap.objs.size := let ⟨_, z, _⟩ := live _ _ tn; Heap.lt_size z
    refine wpAny_pyNext_enum_itemD draws isE (up j tn) hj hne off fun x m1 tk px old1 sd1 tup1 size1 same1 => ?_
    rcases val j x px with ⟨y, fy, ry⟩
    refine ⟨_, rfl, wpAny_letOwnedTupleGo_enum (s := { τ with heap := m1, toks := tk + 1 }) old1 fun m2 isE2 still => ?_⟩
    let pair : HO := .tup [.int (j : Nat), y]
    have tup2 := (still.2 _ (Nat.ne_of_gt ltE)).trans tup1
    have laid : ObjOk Y.prog Y.w (upd G0 τ.heap.objs.size pair) m2 τ.heap.objs.size pair := ⟨by show 2 ≤ sizeLine; decide, [.int j tk, x], .cons ⟨_, rfl⟩ (.cons ry .nil), ⟨_, tup2, rfl, _, rfl⟩⟩
    have inv2 : Inv Y pins s (upd G0 τ.heap.objs.size pair) { τ with heap := m2, toks := tk + 1 } := inv.turnedNew (ch := [e, it])
      (fun c ob off2 z => (still.2 c (fun y => off2 (by simp [y]))).trans (same1 c ob (fun y => off2 (by simp [y])) (fun y => off2 (by simp [y])) z)) free (Nat.le_refl _) laid
    refine ⟨.ref τ.heap.objs.size, _, inv2, rfl, ⟨_, y, rfl, inv.hok.fresh (Nat.le_refl _), fy, rfl⟩, ⟨⟨x, ?_⟩, keep _ _ _ (down _ _ sd1) fun ob z => (still.2 it (Ne.symm hne)).trans z⟩, fun c hc => ?_⟩
    · show IsEnum m2 e it (((j + 1 : Nat) : Int)) _
      rw [Int.natCast_add]; exact isE2
    · have small : c < τ.heap.objs.size := by
        rcases (show c = e ∨ c = it by simpa using hc) with rfl | rfl <;> assumption
      exact (upd_ne (Nat.ne_of_lt small)).trans (free c hc).1
  done := by
    intro Y eP eW eK calm j pins τ s G0 E0 inv free st hg
    rcases st with ⟨⟨last, isE⟩, tn⟩
    rcases hg with ⟨stands, rfl⟩
    rcases D Y pins s G0 τ eP eW eK calm inv stands with ⟨own, Pp, Sd, off, val, draws, up, down⟩
    subst eP eW eK
    have fi := free it (by simp)
    refine wpAny_pyNext_enum_endD draws isE (up _ tn) fun m1 same => ⟨rfl, ?_⟩
    exact inv.turned (t' := τ.toks) (fun c ob hc z => same c ob hc z) fi.1 fi.2.1 fi.2.2.2.1 fi.2.2.2.2.1 fi.2.2.2.2.2
  self := fun _ _ _ _ _ st k => wpAny_pyIter_enum st.1.choose_spec k
/-! the two sources -/
theorem turn_enumT {P : Program} {w : World} {K : PySem.W.Frag} {elts : List Expr} {kk : Nat} {tpos : Pos} {xs : List V} (a e it : Addr) (hne : e ≠ it) (hae : a ≠ e) (hai : a ≠ it) :
    Turn P w K (.Tuple elts kk tpos) (ItE xs.length (fun H => SqT K H a xs) (fun i => xs[i]?)) [e, it] e (fun i h => (∃ old, IsEnum h e it ((i : Nat) : Int) old) ∧ h.IsTupleIter it a i) :=
  turn_enumD e it hne _ (fun i h ⟨o, ho, hc, hd⟩ => ⟨o, ho, fun v q => by rw [hd] at q; cases q⟩) (fun i h h' st k => st.at fun o q => k o q) fun X pins σ H s hP hw hK hc I hG => by
    subst hP hw hK
    rcases I.tuple hG with ⟨its, rv, ⟨ob, e1, e2, e3⟩, _⟩
    have hit : s.heap.IsTuple a its.toArray := ⟨ob, e1, e2, e3⟩
    have hl : xs.length = its.toArray.size := by rw [rv.length]; simp
    rw [hl]
    refine ⟨_, _, _, ?_, ?_, Draws.tuple (prog := X.prog) (w := X.w) (A := X.A.in1) (I.ok.hd hc) it a hai its.toArray, fun i q => ⟨q, hit⟩, fun i h q => q.1⟩
    · simp [hne, Ne.symm hae]
    · intro i v hv
      cases q : xs[i]? with
      | none =>
        have := rv.none_of q
        simp at hv
        rw [this] at hv; cases hv
      | some x =>
        obtain ⟨u, hu, ru⟩ := rv.get q
        simp only [List.getElem?_toArray, hu, Option.some.injEq] at hv
        exact ⟨x, rfl, hv ▸ ru⟩
theorem turn_enumS {P : Program} {w : World} {K : PySem.W.Frag} {elts : List Expr} {kk : Nat} {tpos : Pos} {z : Str} {t : Tok} (e it : Addr) (hne : e ≠ it) :
    Turn P w K (.Tuple elts kk tpos) (ItE z.cps.size (fun _ => True) (fun i => z.cps[i]?.map fun c => V.str ⟨#[c]⟩)) [e, it] e (fun i h => (∃ old, IsEnum h e it ((i : Nat) : Int) old) ∧ h.IsStrIter it (strIterType z) z t i) :=
  turn_enumD e it hne _ (fun i h ⟨o, ho, hc, hd⟩ => ⟨o, ho, fun v q => by rw [hd] at q; cases q⟩) (fun i h h' st k => let ⟨o, ho, r⟩ := st; ⟨o, k o ho, r⟩) fun X pins σ H s hP hw hK hc I hG => by
    subst hP hw hK
    refine ⟨_, _, _, ?_, ?_, Draws.text (prog := X.prog) (w := X.w) (A := X.A.in1) (I.ok.hd hc) it z t, fun i q => q, fun i h q => q⟩
    · simp [hne]
    · rintro i v ⟨c, u, hc, rfl⟩
      exact ⟨V.str ⟨#[c]⟩, by rw [hc]; rfl, (show RelV (V.str ⟨#[c]⟩) (.str ⟨#[c]⟩ u) from ⟨u, rfl⟩)⟩
def iEnT (K : PySem.W.Frag) (ta : TA) : TI := fun σ H R => ta σ H fun vs H1 => ∃ a xs, vs = [.ref a] ∧ SqT K H1 a xs ∧ R (ItE xs.length (fun H => SqT K H a xs) (fun i => xs[i]?)) H1
def iEnS (ta : TA) : TI := fun σ H R => ta σ H fun vs H1 => ∃ z, vs = [.str z] ∧ R (ItE z.cps.size (fun _ => True) (fun i => z.cps[i]?.map fun c => V.str ⟨#[c]⟩)) H1
theorem fp_two {X : Cx} {pins : List (Addr × Obj)} {σ : L2.St} {H : Hp} {s : Shared} (I : Inv X pins σ H s) (b : Addr) (hb : b ∈ [s.heap.objs.size + 1, s.heap.objs.size]) : H b = none ∧ s.heap.objs.size ≤ b := by
  have at_least : s.heap.objs.size ≤ b := by
    rcases List.mem_cons.mp hb with h1 | h1
    · rw [h1]; exact Nat.le_succ _
    · rw [List.mem_singleton.mp h1]; exact Nat.le_refl _
  exact ⟨I.hok.fresh at_least, at_least⟩
theorem pi_enumT {X : Cx} {e : Expr} {ta : TA} {p pos tpos : Pos} {elts : List Expr} {kk : Nat} (hg : Gl X "enumerate") (hm : X.mg "enumerate" = none) (ha : PA X [e] ta) (hs : starEach [e] X.env = [(false, eval e X.env)] := by rfl) :
    PI X (.Tuple elts kk tpos) (.Call (.Name "enumerate" p) [e] [] pos) (iEnT X.K ta) := ⟨fun pins s σ H R I h => Call_ (ld_blt I hg hm boot_enumerate (PyProof.Rows.callWith_type1 (thn (ha.run pos pins s σ H _ I h) fun us τ ⟨vs, H1, J, args, there⟩ => by
  rcases there with ⟨a, xs, rfl, hq, q⟩
  rw [Vals.ref1 args]
  rcases J.tuple hq with ⟨its, rv, held, _⟩
  have la : a < τ.heap.objs.size := held.lt
  rcases held with ⟨ob, e1, e2, e3⟩
  refine enum1_begins (begins_tuple a its.toArray) ⟨ob, e1, e2, e3⟩ fun m isE src _ same => wpAny_pyIter_enum isE ?_
  exact ⟨τ.heap.objs.size + 1, [τ.heap.objs.size + 1, τ.heap.objs.size], _, _, H1, rfl, J.kept (t' := τ.toks) same,
    turn_enumT a (τ.heap.objs.size + 1) τ.heap.objs.size (Nat.succ_ne_self _) (Nat.ne_of_lt (Nat.lt_succ_of_lt la)) (Nat.ne_of_lt la),
    ⟨⟨.none, isE⟩, ⟨_, src, rfl, rfl⟩⟩, fun b hb => J.fpOk (fp_two J b hb).2 (fp_two J b hb).1, q⟩) hs rfl))⟩
theorem pi_enumS {X : Cx} {e : Expr} {ta : TA} {p pos tpos : Pos} {elts : List Expr} {kk : Nat} (hg : Gl X "enumerate") (hm : X.mg "enumerate" = none) (ha : PA X [e] ta) (hs : starEach [e] X.env = [(false, eval e X.env)] := by rfl) :
    PI X (.Tuple elts kk tpos) (.Call (.Name "enumerate" p) [e] [] pos) (iEnS ta) := ⟨fun pins s σ H R I h => Call_ (ld_blt I hg hm boot_enumerate (PyProof.Rows.callWith_type1 (thn (ha.run pos pins s σ H _ I h) fun us τ ⟨vs, H1, J, args, there⟩ => by
  rcases there with ⟨z, rfl, q⟩
  cases args with
  | cons one rest =>
    cases rest
    rcases one with ⟨t, rfl⟩
    refine enum1_begins (begins_text z t) trivial fun m isE src _ same => wpAny_pyIter_enum isE ?_
    exact ⟨τ.heap.objs.size + 1, [τ.heap.objs.size + 1, τ.heap.objs.size], _, _, H1, rfl, J.kept (t' := τ.toks) same,
      turn_enumS (t := t) (τ.heap.objs.size + 1) τ.heap.objs.size (Nat.succ_ne_self _),
      ⟨⟨.none, isE⟩, ⟨_, src, rfl, rfl⟩⟩, fun b hb => J.fpOk (fp_two J b hb).2 (fp_two J b hb).1, q⟩) hs rfl))⟩
theorem walk_enE {n : Nat} {G : Hp → Prop} {f : Nat → Option V} : Walk (ItE n G f) n G (fun i H v H' => ∃ T x, v = .ref T ∧ H T = none ∧ f i = some x ∧ H' = upd H T (.tup [.int (i : Nat), x])) :=
  ⟨fun i H hi h => ⟨h, hi⟩, fun H h => ⟨h, rfl⟩, fun i H x H' hi h y => y⟩
/-! ### sum of a tuple of ints, a text turned round -/
section
variable {X : Cx}
def rSumT (K : PySem.W.Frag) : List V → Hp → VK → Prop := fun vs H Q => ∃ (a : Addr) (ns : List Int), vs = [V.ref a] ∧ SqT K H a (ns.map V.int) ∧ Q (.int ns.sum) H
theorem cr_sumT (hc : X.calm = true) : CallR X (.builtin "sum") (rSumT X.K) := by
  intro pins s σ H vs us Q inv rel want
  rcases want with ⟨a, ns, rfl, stands, q⟩
  rcases inv.tuple stands with ⟨its, rv, ⟨ob, o1, o2, o3⟩, _⟩
  rw [Vals.ref1 rel]
  rcases rv.ints.allInts.items with ⟨xs, same0⟩
  have nums : numsOf (intItems xs).toList = ns := same0 ▸ rv.ints.numsOf
  rw [nums_intItems] at nums
  have held : s.heap.IsTuple a (intItems xs) := same0 ▸ ⟨ob, o1, o2, o3⟩
  refine PySem.W.ktm_sumG (inv.ok.hd hc) held fun m tk t' same => ?_
  rw [PySem.preSum_eq, List.take_of_length_le (by simp), nums]
  exact ⟨.int _, H, inv.kept same, ⟨_, rfl⟩, q⟩
def revS (z : Str) : Str := ⟨z.cps.toList.reverse.toArray⟩
theorem revS_pick (z : Str) : (⟨((Builtin.Str.strSliceIndices none none (-1) z.length).filterMap (z.cps[·]?)).toArray⟩ : Str) = revS z := by
  unfold revS
  congr 2
  rw [picked_rev, filterMap_get, List.map_map]
  · apply List.ext_getElem
    · simp [Str.length]
    · intro i h1 h2
      simp [Str.length] at h1 h2
      simp [List.getElem_reverse, Array.getD, Str.length]
      rw [dif_pos (by omega)]
  · intro i hi
    rcases List.mem_map.mp hi with ⟨k, hk, rfl⟩
    have hk' : k < z.length := List.mem_range.mp hk
    show z.length - 1 - k < z.length
    omega
def tRevS (te : TE) : TE := fun σ H Q => te σ H fun x H1 => ∃ z, x = .str z ∧ z.length ≤ sizeLine ∧ Q (.str (revS z)) H1
theorem pe_revS {e : Expr} {te : TE} {k : Nat} {p1 p2 p3 pos : Pos} (he : PE X e te) : PE X (.Subscript e (.Slice none none (some (.UnaryOp .USub (.Constant (.int 1) k p1) p2)) p3) pos) (tRevS te) := by
  have minus1 : PO X (some (.UnaryOp .USub (.Constant (.int 1) k p1) p2)) (tPart (tUn (rU fun i => .int (-i)) (tC (.int 1)))) :=
    po_some (pe_un un_neg pe_int)
  constructor
  intro pins s σ H Q inv want
  refine Subscript_ (thn (he.run pins s σ H _ inv want) fun v τ ⟨x, Ha, Ia, ra, qa⟩ => ?_)
  rcases qa with ⟨z, rfl, hz, q⟩
  rcases ra with ⟨t, rfl⟩
  refine wpAny_Slice (thn (po_none.run pins τ σ Ha (fun oo Hz => oo = none ∧ Hz = Ha) Ia ⟨rfl, rfl⟩) fun vl τ1 ⟨_, _, Ib, pl, hl, hH⟩ => ?_)
  subst hl hH
  refine thn (po_none.run pins τ1 σ _ (fun oo Hz => oo = none ∧ Hz = _) Ib ⟨rfl, rfl⟩) fun vu τ2 ⟨_, _, Ic, pu, hu, hH⟩ => ?_
  subst hu hH
  refine thn (minus1.run pins τ2 σ _ (fun oo Hz => oo = some (-1) ∧ Hz = _) Ic ⟨1, rfl, -1, rfl, rfl, rfl⟩) fun vs τ3 ⟨_, Hd, Id, ps, ho, hH⟩ => ?_
  subst ho hH
  have cutter := Heap.IsSliceOf.new τ3.heap vl vu vs
  have Ie := Id.kept (h' := τ3.heap.push { cls := .type "slice", data := .fields #[vl, vu, vs] }) (t' := τ3.toks) fun _ _ => Heap.get?_push_of_some _
  rcases IsPart.raw pl with ⟨l0, rfl, el⟩
  rcases IsPart.raw pu with ⟨u0, rfl, eu⟩
  rcases IsPart.raw ps with ⟨t0, rfl, et⟩
  show wpAny (model X.prog X.w) X.A (subscriptTail e (.Slice none none (some (.UnaryOp .USub (.Constant (.int 1) k p1) p2)) p3) (.str z t) (.ref τ3.heap.objs.size)) (EP X pins σ Q) X.xe _
  refine tail_any (ops := [.str z t, .ref τ3.heap.objs.size]) (typeIs_str _ _ _) F.slot_str_getitem.lookup ?_ (by with_unfolding_all rfl)
  refine wpAny_getItem_str_slice (l := l0) (u := u0) (st := t0) cutter (by rw [et]; rfl) ?_
  unfold sliceMade slicePicked
  rw [el, eu, et]
  show Made.post (if (((-1 : Int) == 1) && _) = true then _ else Made.str ⟨((Builtin.Str.strSliceIndices none none (-1) z.length).filterMap (z.cps[·]?)).toArray⟩) (EP X pins σ Q) _
  rw [if_neg (by simp), revS_pick]
  refine ⟨?_, .str _, _, Ie.tok _, ⟨_, rfl⟩, q⟩
  show (revS z).cps.size ≤ sizeLine
  unfold revS
  rw [List.size_toArray, List.length_reverse, Array.length_toList]
  exact hz
/-- a op1 b op2 c op3 d -/
def tChain3 (r r' r2 : R2) (ta tb tc td : TE) : TE := fun σ H Q => ta σ H fun x H1 => tb σ H1 fun y H2 => r x y H2 fun z H3 => ∃ k, z = .bl k ∧
  (if k = true then tc σ H3 fun w' H4 => r' y w' H4 fun z2 H5 => ∃ k2, z2 = .bl k2 ∧ (if k2 = true then td σ H5 fun w2 H6 => r2 w' w2 H6 Q else Q (.bl false) H5) else Q (.bl false) H3)
theorem pe_chain3 {a b c d : Expr} {ta tb tc td : TE} {pos : Pos} {op op' op2 : CmpOp} {r r' r2 : R2} (ho : OpR X (compareOp op) r) (ho' : OpR X (compareOp op') r') (ho2 : OpR X (compareOp op2) r2) (ha : PE X a ta) (hb : PE X b tb) (hc : PE X c tc) (hd : PE X d td)
    (hm : lastMarks [op, op', op2] [b, c, d] = false := by with_unfolding_all rfl) : PE X (.Compare a [op, op', op2] [b, c, d] pos) (tChain3 r r' r2 ta tb tc td) := by
  constructor
  intro pins s σ H Q inv want
  apply Compare_chain _ hm
  refine thn (ha.run pins s σ H _ inv want) fun va τ1 ⟨xa, H1, I1, ra, q1⟩ => chain_link ?_
  refine thn (hb.run pins τ1 σ H1 _ I1 q1) fun vb τ2 ⟨xb, H2, I2, rb, q2⟩ => ?_
  refine thn (ho pins τ2 σ H2 xa xb va vb _ I2 ra rb q2) fun w1 τ3 ⟨_, H3, I3, r1, b1, h1, q3⟩ => ?_
  subst h1
  cases r1
  apply wpAny_truthy_bool
  cases b1 with
  | false => exact ite_ff ⟨V.bl false, H3, I3, rfl, q3⟩
  | true =>
    refine ite_tt (chain_link ?_)
    refine thn (hc.run pins τ3 σ H3 _ I3 q3) fun vc τ4 ⟨xc, H4, I4, rc, q4⟩ => ?_
    refine thn (ho' pins τ4 σ H4 xb xc vb vc _ I4 rb rc q4) fun w2 τ5 ⟨_, H5, I5, r2, b2, h2, q5⟩ => ?_
    subst h2
    cases r2
    apply wpAny_truthy_bool
    cases b2 with
    | false => exact ite_ff ⟨V.bl false, H5, I5, rfl, q5⟩
    | true => exact ite_tt (chain_last (thn (hd.run pins τ5 σ H5 _ I5 q5) fun vd τ6 ⟨xd, H6, I6, rd, q6⟩ => ho2 pins τ6 σ H6 xc xd vc vd Q I6 rc rd q6))
end
end KL
set_option maxHeartbeats 4000000
namespace L2
open PySem Evl

/-! ### data under growing heaps -/
section
variable {K : PySem.W.Frag} {H H' : Hp}
mutual
theorem Dp.mono (e : Ex H H') : ∀ {d : PyData} {v : V}, Dp K H v d → Dp K H' v d
  | .none, _, h => by cases h; exact .non
  | .bool _, _, h => by cases h; exact .bl _
  | .int _, _, h => by cases h; exact .int _
  | .str _, _, h => by cases h; exact .str _
  | .list ds, _, h => by
    cases h with
    | lst hs ha => exact .lst (ex_l e hs) (DpAll.mono e ha)
  | .tuple ds, _, h => by
    cases h with
    | tup hs ha => exact .tup (ex_t e hs) (DpAll.mono e ha)
  | .dict _, _, h => by cases h
theorem DpAll.mono (e : Ex H H') : ∀ {ds : List PyData} {vs : List V}, DpAll K H vs ds → DpAll K H' vs ds
  | [], _, h => by cases h; exact .nil
  | d :: ds, _, h => by
    cases h with
    | cons h1 h2 => exact .cons (Dp.mono e h1) (DpAll.mono e h2)
end
/-- tuples stay -/
def Ti (H H' : Hp) : Prop := ∀ a xs, Rd H a (.tup xs) → Rd H' a (.tup xs)
theorem Ti.refl (H : Hp) : Ti H H := fun _ _ h => h
theorem Ti.trans {H1 H2 H3 : Hp} (a : Ti H1 H2) (b : Ti H2 H3) : Ti H1 H3 := fun x ys h => b x ys (a x ys h)
theorem Ti.ex (e : Ex H H') : Ti H H' := fun a xs h => ex_rd e h
def NoTup : Option HO → Prop
  | some (.tup _) => False
  | some (.frz _ _) => False
  | _ => True
theorem Ti.upd {l : Addr} {o : HO} (h : NoTup (H l)) : Ti H (upd H l o) := fun a xs r => by
  have ne : a ≠ l := fun e => by
    subst e
    rcases r with r | ⟨q, r⟩
    · rw [r] at h; exact h
    · rw [r] at h; exact h
  rcases r with r | ⟨q, r⟩
  · exact .inl (by rw [upd_ne ne]; exact r)
  · exact .inr ⟨q, by rw [upd_ne ne]; exact r⟩
mutual
def imm : PyData → Bool
  | .none => true
  | .bool _ => true
  | .int _ => true
  | .str _ => true
  | .list _ => false
  | .tuple ds => immA ds
  | .dict _ => false
def immA : List PyData → Bool
  | [] => true
  | d :: ds => imm d && immA ds
end
mutual
theorem Dp.ti (e : Ti H H') : ∀ {d : PyData} {v : V}, imm d = true → Dp K H v d → Dp K H' v d
  | .none, _, _, h => by cases h; exact .non
  | .bool _, _, _, h => by cases h; exact .bl _
  | .int _, _, _, h => by cases h; exact .int _
  | .str _, _, _, h => by cases h; exact .str _
  | .list ds, _, i, h => by cases i
  | .tuple ds, _, i, h => by
    cases h with
    | tup hs ha =>
      refine .tup ?_ (DpAll.ti e i ha)
      rcases hs with hs | hs
      · exact .inl (e _ _ hs)
      · exact .inr hs
  | .dict _, _, _, h => by cases h
theorem DpAll.ti (e : Ti H H') : ∀ {ds : List PyData} {vs : List V}, immA ds = true → DpAll K H vs ds → DpAll K H' vs ds
  | [], _, _, h => by cases h; exact .nil
  | d :: ds, _, i, h => by
    have i' : (imm d && immA ds) = true := i
    rw [Bool.and_eq_true] at i'
    cases h with
    | cons h1 h2 => exact .cons (Dp.ti e i'.1 h1) (DpAll.ti e i'.2 h2)
end
theorem immA_all : ∀ {ds : List PyData}, (∀ d ∈ ds, imm d = true) → immA ds = true
  | [], _ => rfl
  | d :: ds, h => by
    show (imm d && immA ds) = true
    rw [h d (List.mem_cons_self ..), immA_all fun x hx => h x (List.mem_cons_of_mem _ hx)]; rfl
theorem immA_map {α : Type} {f : α → PyData} (h : ∀ a, imm (f a) = true) (l : List α) : immA (l.map f) = true :=
  immA_all fun d hd => by
    obtain ⟨a, _, rfl⟩ := List.mem_map.mp hd
    exact h a
theorem DpAll.length : ∀ {ds : List PyData} {vs : List V}, DpAll K H vs ds → vs.length = ds.length
  | [], _, h => by cases h; rfl
  | d :: ds, _, h => by
    cases h with
    | cons h1 h2 => rw [List.length_cons, List.length_cons, DpAll.length h2]
theorem DpAll.get : ∀ {ds : List PyData} {vs : List V} {i : Nat} {v : V}, DpAll K H vs ds → vs[i]? = some v → ∃ d, ds[i]? = some d ∧ Dp K H v d
  | [], _, i, v, h, e => by cases h; simp at e
  | d :: ds, _, 0, v, h, e => by
    cases h with
    | cons h1 h2 => simp at e; subst e; exact ⟨d, rfl, h1⟩
  | d :: ds, _, i + 1, v, h, e => by
    cases h with
    | cons h1 h2 => simp at e; simpa using DpAll.get h2 e
theorem DpAll.getD : ∀ {ds : List PyData} {vs : List V} {i : Nat} {d : PyData}, DpAll K H vs ds → ds[i]? = some d → ∃ v, vs[i]? = some v ∧ Dp K H v d
  | [], _, i, v, h, e => by simp at e
  | d :: ds, _, 0, v, h, e => by
    cases h with
    | cons h1 h2 => simp at e; subst e; exact ⟨_, rfl, h1⟩
  | d :: ds, _, i + 1, v, h, e => by
    cases h with
    | cons h1 h2 => simp at e; simpa using DpAll.getD h2 e
theorem DpAll.snoc : ∀ {ds : List PyData} {vs : List V} {v : V} {d : PyData}, DpAll K H vs ds → Dp K H v d → DpAll K H (vs ++ [v]) (ds ++ [d])
  | [], _, v, d, h, e => by cases h; exact .cons e .nil
  | x :: ds, _, v, d, h, e => by
    cases h with
    | cons h1 h2 => exact .cons h1 (DpAll.snoc h2 e)
theorem DpAll.append : ∀ {ds es : List PyData} {vs ws : List V}, DpAll K H vs ds → DpAll K H ws es → DpAll K H (vs ++ ws) (ds ++ es)
  | [], _, _, _, h, e => by cases h; exact e
  | x :: ds, _, _, _, h, e => by
    cases h with
    | cons h1 h2 => exact .cons h1 (DpAll.append h2 e)
theorem Dp.tupI {v : V} {ds : List PyData} (h : Dp K H v (.tuple ds)) : ∃ a xs, v = .ref a ∧ SqT K H a xs ∧ DpAll K H xs ds := by
  cases h with
  | tup hs ha => exact ⟨_, _, rfl, hs, ha⟩
theorem Dp.lstI {v : V} {ds : List PyData} (h : Dp K H v (.list ds)) : ∃ a xs, v = .ref a ∧ SqL K H a xs ∧ DpAll K H xs ds := by
  cases h with
  | lst hs ha => exact ⟨_, _, rfl, hs, ha⟩
theorem Dp.intI {v : V} {i : Int} (h : Dp K H v (.int i)) : v = .int i := by cases h; rfl
theorem Dp.strI {v : V} {z : Str} (h : Dp K H v (.str z)) : v = .str z := by cases h; rfl
theorem Dp.blI {v : V} {b : Bool} (h : Dp K H v (.bool b)) : v = .bl b := by cases h; rfl
theorem Dp.nonI {v : V} (h : Dp K H v .none) : v = .non := by cases h; rfl
theorem DpAll.ints : ∀ {ns : List Int} {vs : List V}, DpAll K H vs (ns.map PyData.int) → vs = ns.map V.int
  | [], _, h => by cases h; rfl
  | n :: ns, _, h => by
    cases h with
    | cons h1 h2 => rw [h1.intI, DpAll.ints h2]; rfl
theorem DpAll.strs : ∀ {ns : List Str} {vs : List V}, DpAll K H vs (ns.map PyData.str) → vs = ns.map V.str
  | [], _, h => by cases h; rfl
  | n :: ns, _, h => by
    cases h with
    | cons h1 h2 => rw [h1.strI, DpAll.strs h2]; rfl
theorem dpAll_ints : ∀ (ns : List Int), DpAll K H (ns.map V.int) (ns.map PyData.int)
  | [] => .nil
  | n :: ns => .cons (.int n) (dpAll_ints ns)
theorem dpAll_strs : ∀ (ns : List Str), DpAll K H (ns.map V.str) (ns.map PyData.str)
  | [] => .nil
  | n :: ns => .cons (.str n) (dpAll_strs ns)
end
end L2
namespace KL
open PySem L2 Evl
/-! ### what evaluates to what data -/
def EvD (K : PySem.W.Frag) (te : TE) (σ : L2.St) (H : Hp) (d : PyData) : Prop := ∀ H1, Ex H H1 → ∀ Q : VK, (∀ v H2, Ex H1 H2 → Dp K H2 v d → Q v H2) → te σ H1 Q
/-- a tracked list -/
def DL (K : PySem.W.Frag) (H : Hp) (v : V) (ds : List PyData) : Prop := ∃ l xs, v = .ref l ∧ H l = some (.lst xs) ∧ DpAll K H xs ds
/-- a new tracked list -/
def EvDL (K : PySem.W.Frag) (te : TE) (σ : L2.St) (H : Hp) (ds : List PyData) : Prop := ∀ H1, Ex H H1 → ∀ Q : VK, (∀ p xs H2, H1 p = none → Ex H1 H2 → H2 p = some (.lst xs) → DpAll K H2 xs ds → Q (.ref p) H2) → te σ H1 Q
def EvDA (K : PySem.W.Frag) (ta : TA) (σ : L2.St) (H : Hp) (ds : List PyData) : Prop := ∀ H1, Ex H H1 → ∀ Q : List V → Hp → Prop, (∀ vs H2, Ex H1 H2 → DpAll K H2 vs ds → Q vs H2) → ta σ H1 Q
section
variable {K : PySem.W.Frag} {σ : L2.St} {H H' : Hp} {ta tb tc te : TE} {t u : TT} {x y z v : V} {r : R2} {d da db dc : PyData}
theorem EvD.mono (e : Ex H H') (h : EvD K te σ H d) : EvD K te σ H' d := fun H1 a Q q => h H1 (e.trans a) Q q
theorem EvDL.mono {ds : List PyData} (e : Ex H H') (h : EvDL K te σ H ds) : EvDL K te σ H' ds := fun H1 a Q q => h H1 (e.trans a) Q q
theorem EvDL.l {ds : List PyData} (h : EvDL K te σ H ds) : EvD K te σ H (.list ds) := fun H1 a Q q => h H1 a Q fun p xs H2 _ e hp hd => q _ H2 e (.lst (sq_of hp) hd)
theorem d_ev (h : Ev te σ H v) (hd : ∀ H1, Ex H H1 → Dp K H1 v d) : EvD K te σ H d := fun H1 a Q q => h H1 a Q fun H2 e => q v H2 e (hd H2 (a.trans e))
theorem d_evI {i : Int} (h : Ev te σ H (.int i)) : EvD K te σ H (.int i) := d_ev h fun _ _ => .int i
theorem d_evS {i : Str} (h : Ev te σ H (.str i)) : EvD K te σ H (.str i) := d_ev h fun _ _ => .str i
theorem d_evB {i : Bool} (h : Ev te σ H (.bl i)) : EvD K te σ H (.bool i) := d_ev h fun _ _ => .bl i
theorem EvD.i {i : Int} (h : EvD K te σ H (.int i)) : Ev te σ H (.int i) := fun H1 a Q q => h H1 a Q fun v H2 e hd => by rw [hd.intI]; exact q H2 e
theorem EvD.s {i : Str} (h : EvD K te σ H (.str i)) : Ev te σ H (.str i) := fun H1 a Q q => h H1 a Q fun v H2 e hd => by rw [hd.strI]; exact q H2 e
theorem EvD.b {i : Bool} (h : EvD K te σ H (.bool i)) : Ev te σ H (.bl i) := fun H1 a Q q => h H1 a Q fun v H2 e hd => by rw [hd.blI]; exact q H2 e
theorem EvD.to (h : EvD K te σ H d) (e : d = da) : EvD K te σ H da := e ▸ h
theorem d_var {i : Nat} (h : σ[i]? = some (some v)) (hd : Dp K H v d) : EvD K (tVar i) σ H d := fun H1 a Q q => ⟨v, h, q v H1 (Ex.refl H1) (Dp.mono a hd)⟩
theorem d_int {i : Int} : EvD K (tC (.int i)) σ H (.int i) := d_evI ev_c
theorem d_str {i : Str} : EvD K (tC (.str i)) σ H (.str i) := d_evS ev_c
theorem d_bl {i : Bool} : EvD K (tC (.bl i)) σ H (.bool i) := d_evB ev_c
theorem d_non : EvD K (tC .non) σ H .none := d_ev ev_c fun _ _ => .non
/-- a two-place operation by values -/
def R2D (K : PySem.W.Frag) (H : Hp) (r : R2) (da db d : PyData) : Prop := ∀ x y H1, Ex H H1 → Dp K H1 x da → Dp K H1 y db → ∀ Q : VK, (∀ v H2, Ex H1 H2 → Dp K H2 v d → Q v H2) → r x y H1 Q
theorem d_op (ha : EvD K ta σ H da) (hb : EvD K tb σ H db) (hr : R2D K H r da db d) : EvD K (tOp r ta tb) σ H d := fun H1 e Q q =>
  ha H1 e _ fun x H2 e2 hx => hb H2 (e.trans e2) _ fun y H3 e3 hy => hr x y H3 ((e.trans e2).trans e3) (Dp.mono e3 hx) hy Q fun v H4 e4 hv => q v H4 ((e2.trans e3).trans e4) hv
theorem R2D.mono (e : Ex H H') (h : R2D K H r da db d) : R2D K H' r da db d := fun x y H1 a => h x y H1 (e.trans a)
theorem r_I0 {g : Int → Int → V} {i j : Int} (hg : ∀ H1, Dp K H1 (g i j) d) : R2D K H (rI0 g) (.int i) (.int j) d := fun x y H1 a hx hy Q q => by
  rw [hx.intI, hy.intI]; exact ⟨i, j, rfl, rfl, q _ H1 (Ex.refl H1) (hg H1)⟩
theorem r_I {C : Int → Int → Prop} {g : Int → Int → V} {i j : Int} (hc : C i j) (hg : ∀ H1, Dp K H1 (g i j) d) : R2D K H (rI C g) (.int i) (.int j) d := fun x y H1 a hx hy Q q => by
  rw [hx.intI, hy.intI]; exact ⟨i, j, rfl, rfl, hc, q _ H1 (Ex.refl H1) (hg H1)⟩
theorem d_add {i j : Int} (ha : EvD K ta σ H (.int i)) (hb : EvD K tb σ H (.int j)) : EvD K (tOp (rI0 fun i j => .int (i + j)) ta tb) σ H (.int (i + j)) := d_op ha hb (r_I0 fun _ => .int _)
theorem d_sub {i j : Int} (ha : EvD K ta σ H (.int i)) (hb : EvD K tb σ H (.int j)) : EvD K (tOp (rI0 fun i j => .int (i - j)) ta tb) σ H (.int (i - j)) := d_op ha hb (r_I0 fun _ => .int _)
theorem d_lt {i j : Int} (ha : EvD K ta σ H (.int i)) (hb : EvD K tb σ H (.int j)) : EvD K (tOp (rI0 fun i j => .bl (decide (i < j))) ta tb) σ H (.bool (decide (i < j))) := d_op ha hb (r_I0 fun _ => .bl _)
theorem d_le {i j : Int} (ha : EvD K ta σ H (.int i)) (hb : EvD K tb σ H (.int j)) : EvD K (tOp (rI0 fun i j => .bl (decide (i ≤ j))) ta tb) σ H (.bool (decide (i ≤ j))) := d_op ha hb (r_I0 fun _ => .bl _)
theorem d_gt {i j : Int} (ha : EvD K ta σ H (.int i)) (hb : EvD K tb σ H (.int j)) : EvD K (tOp (rI0 fun i j => .bl (decide (j < i))) ta tb) σ H (.bool (decide (j < i))) := d_op ha hb (r_I0 fun _ => .bl _)
theorem d_ge {i j : Int} (ha : EvD K ta σ H (.int i)) (hb : EvD K tb σ H (.int j)) : EvD K (tOp (rI0 fun i j => .bl (decide (j ≤ i))) ta tb) σ H (.bool (decide (j ≤ i))) := d_op ha hb (r_I0 fun _ => .bl _)
theorem d_neg {i : Int} (ha : EvD K ta σ H (.int i)) : EvD K (tUn (rU fun i => .int (-i)) ta) σ H (.int (-i)) := d_evI (ev_un ha.i ru_neg)
theorem r_eqI {i j : Int} : R2D K H rEq (.int i) (.int j) (.bool (decide (i = j))) := fun x y H1 a hx hy Q q => by
  rw [hx.intI, hy.intI]
  refine ⟨rfl, q _ H1 (Ex.refl H1) ?_⟩
  rw [dec_int, show (i == j) = decide (i = j) from Bool.beq_eq_decide_eq _ _]; exact .bl _
theorem r_neI {i j : Int} : R2D K H rNe (.int i) (.int j) (.bool (!decide (i = j))) := fun x y H1 a hx hy Q q => by
  rw [hx.intI, hy.intI]
  refine ⟨rfl, q _ H1 (Ex.refl H1) ?_⟩
  rw [dec_int, show (i == j) = decide (i = j) from Bool.beq_eq_decide_eq _ _]; exact .bl _
theorem dec_strV {i j : Str} : decide (V.str i = V.str j) = decide (i = j) := by
  by_cases h : i = j
  · subst h; simp
  · rw [decide_eq_false h]; exact decide_eq_false fun q => h (V.str.inj q)
theorem dec_blV {i j : Bool} : decide (V.bl i = V.bl j) = decide (i = j) := by
  cases i <;> cases j <;> rfl
theorem r_eqS {i j : Str} : R2D K H rEq (.str i) (.str j) (.bool (decide (i = j))) := fun x y H1 a hx hy Q q => by
  rw [hx.strI, hy.strI]
  refine ⟨rfl, q _ H1 (Ex.refl H1) ?_⟩
  rw [dec_strV]; exact .bl _
theorem r_neS {i j : Str} : R2D K H rNe (.str i) (.str j) (.bool (!decide (i = j))) := fun x y H1 a hx hy Q q => by
  rw [hx.strI, hy.strI]
  refine ⟨rfl, q _ H1 (Ex.refl H1) ?_⟩
  rw [dec_strV]; exact .bl _
theorem r_eqB {i j : Bool} : R2D K H rEq (.bool i) (.bool j) (.bool (decide (i = j))) := fun x y H1 a hx hy Q q => by
  rw [hx.blI, hy.blI]
  refine ⟨rfl, q _ H1 (Ex.refl H1) ?_⟩
  rw [dec_blV]; exact .bl _
theorem r_neB {i j : Bool} : R2D K H rNe (.bool i) (.bool j) (.bool (!decide (i = j))) := fun x y H1 a hx hy Q q => by
  rw [hx.blI, hy.blI]
  refine ⟨rfl, q _ H1 (Ex.refl H1) ?_⟩
  rw [dec_blV]; exact .bl _
theorem r_eqD (sa : SeqAt.shaped da = true) (sb : SeqAt.shaped db = true) : R2D K H (rEqD K) da db (.bool (PyData.eqv da db)) := fun x y H1 a hx hy Q q =>
  ⟨da, db, hx, hy, sa, sb, q _ H1 (Ex.refl H1) (.bl _)⟩
theorem r_neD (sa : SeqAt.shaped da = true) (sb : SeqAt.shaped db = true) : R2D K H (rNeD K) da db (.bool (!PyData.eqv da db)) := fun x y H1 a hx hy Q q =>
  ⟨da, db, hx, hy, sa, sb, q _ H1 (Ex.refl H1) (.bl _)⟩
theorem r_inD {ds : List PyData} (sa : SeqAt.shaped da = true) (sb : SeqAt.shaped (.list ds) = true) : R2D K H (rInD K) da (.list ds) (.bool (ds.any fun z => PyData.eqv z da)) := fun x y H1 a hx hy Q q =>
  ⟨da, ds, hx, hy, sa, sb, q _ H1 (Ex.refl H1) (.bl _)⟩
theorem atI_map {α : Type} {xs : List V} {ds : List PyData} {i : Int} {d : PyData} (hl : DpAll K H xs ds) (h : atI ds i = some d) : ∃ v, atI xs i = some v ∧ Dp K H v d := by
  unfold atI at h ⊢
  rw [hl.length]
  cases q : ixN ds.length i with
  | none => rw [q] at h; cases h
  | some j =>
    rw [q] at h
    obtain ⟨v, h1, h2⟩ := hl.getD (show ds[j]? = some d from h)
    exact ⟨v, h1, h2⟩
theorem r_ixT {ds : List PyData} {i : Int} (h : atI ds i = some d) : R2D K H (rIxT K) (.tuple ds) (.int i) d := fun x y H1 a hx hy Q q => by
  obtain ⟨p, xs, rfl, hs, ha⟩ := hx.tupI
  obtain ⟨v, h1, h2⟩ := atI_map (α := Unit) ha h
  rw [hy.intI]
  exact ⟨p, xs, i, v, rfl, rfl, hs, h1, q v H1 (Ex.refl H1) h2⟩
theorem r_ixL {ds : List PyData} {i : Int} (h : atI ds i = some d) : R2D K H (rIxL K) (.list ds) (.int i) d := fun x y H1 a hx hy Q q => by
  obtain ⟨p, xs, rfl, hs, ha⟩ := hx.lstI
  obtain ⟨v, h1, h2⟩ := atI_map (α := Unit) ha h
  rw [hy.intI]
  exact ⟨p, xs, i, v, rfl, rfl, hs, h1, q v H1 (Ex.refl H1) h2⟩
theorem r_ixS {z : Str} {i : Int} {c : Nat} (hz : z.length ≤ 100000) (h : atI z.cps.toList i = some c) : R2D K H rIxS (.str z) (.int i) (.str ⟨#[c]⟩) := fun x y H1 a hx hy Q q => by
  rw [hx.strI, hy.intI]
  exact ⟨z, i, c, rfl, rfl, sz_of hz, h, q _ H1 (Ex.refl H1) (.str _)⟩
def rAddT : R2 := fun x y H Q => ∃ i j, x = .str i ∧ y = .str j ∧ i.length + j.length ≤ sizeLine ∧ Q (.str (i ++ j)) H
theorem op_addT {X : Cx} : OpR X (binaryOp .Add) rAddT := op_add_str
theorem r_addT {i j : Str} (h : i.length + j.length ≤ 100000) : R2D K H rAddT (.str i) (.str j) (.str (i ++ j)) := fun x y H1 a hx hy Q q => by
  rw [hx.strI, hy.strI]
  exact ⟨i, j, rfl, rfl, sz_of h, q _ H1 (Ex.refl H1) (.str _)⟩
theorem r_inS {c : Nat} {z : Str} : R2D K H rInS (.str ⟨#[c]⟩) (.str z) (.bool (decide (c ∈ z.cps.toList))) := fun x y H1 a hx hy Q q => by
  rw [hx.strI, hy.strI]; exact ⟨c, z, rfl, rfl, q _ H1 (Ex.refl H1) (.bl _)⟩
theorem r_notInS {c : Nat} {z : Str} : R2D K H rNotInS (.str ⟨#[c]⟩) (.str z) (.bool (!decide (c ∈ z.cps.toList))) := fun x y H1 a hx hy Q q => by
  rw [hx.strI, hy.strI]; exact ⟨c, z, rfl, rfl, q _ H1 (Ex.refl H1) (.bl _)⟩
theorem eqV_str {s u : Str} : eqV (.str s) (.str u) = decide (s = u) := by
  unfold eqV
  by_cases h : s = u
  · subst h; simp
  · simp [h]
theorem inV_strs {s : Str} (ss : List Str) : inV (.str s) (ss.map V.str) = decide (s ∈ ss) := by
  unfold inV
  rw [Bool.eq_iff_iff, List.any_eq_true, decide_eq_true_eq]
  constructor
  · rintro ⟨y, hy, e⟩
    obtain ⟨z, hz, rfl⟩ := List.mem_map.mp hy
    rw [eqV_str, decide_eq_true_eq] at e
    rw [← e]; exact hz
  · intro h
    exact ⟨.str s, List.mem_map.mpr ⟨s, h, rfl⟩, by rw [eqV_str]; exact decide_eq_true rfl⟩
theorem flat_strs (ss : List Str) : (ss.map V.str).all flatV = true := by
  rw [List.all_eq_true]; intro x hx
  obtain ⟨z, _, rfl⟩ := List.mem_map.mp hx; rfl
theorem r_inL {s : Str} {ss : List Str} : R2D K H (rIn K false) (.str s) (.list (ss.map .str)) (.bool (decide (s ∈ ss))) := fun x y H1 a hx hy Q q => by
  obtain ⟨p, xs, rfl, hs, ha⟩ := hy.lstI
  rw [ha.strs] at hs
  rw [hx.strI]
  refine ⟨p, _, rfl, .inl hs, rfl, flat_strs ss, ?_⟩
  rw [if_neg Bool.false_ne_true, inV_strs]
  exact q _ H1 (Ex.refl H1) (.bl _)
theorem r_notInL {s : Str} {ss : List Str} : R2D K H (rIn K true) (.str s) (.list (ss.map .str)) (.bool (!decide (s ∈ ss))) := fun x y H1 a hx hy Q q => by
  obtain ⟨p, xs, rfl, hs, ha⟩ := hy.lstI
  rw [ha.strs] at hs
  rw [hx.strI]
  refine ⟨p, _, rfl, .inl hs, rfl, flat_strs ss, ?_⟩
  rw [if_pos rfl, inV_strs]
  exact q _ H1 (Ex.refl H1) (.bl _)
theorem r_inT {s : Str} {ss : List Str} : R2D K H (rIn K false) (.str s) (.tuple (ss.map .str)) (.bool (decide (s ∈ ss))) := fun x y H1 a hx hy Q q => by
  obtain ⟨p, xs, rfl, hs, ha⟩ := hy.tupI
  rw [ha.strs] at hs
  rw [hx.strI]
  refine ⟨p, _, rfl, .inr hs, rfl, flat_strs ss, ?_⟩
  rw [if_neg Bool.false_ne_true, inV_strs]
  exact q _ H1 (Ex.refl H1) (.bl _)
/-! chains, and, or, if -/
theorem d_chain {r' : R2} {b c : Bool} (ha : EvD K ta σ H da) (hb : EvD K tb σ H db) (hr : R2D K H r da db (.bool b)) (hc : b = true → EvD K tc σ H dc) (hr' : b = true → R2D K H r' db dc (.bool c)) : EvD K (tChain r r' ta tb tc) σ H (.bool (b && c)) := fun H1 e Q q =>
  ha H1 e _ fun x H2 e2 hx => hb H2 (e.trans e2) _ fun y H3 e3 hy => hr x y H3 ((e.trans e2).trans e3) (Dp.mono e3 hx) hy _ fun v H4 e4 hv => ⟨b, hv.blI, by
    cases b with
    | true =>
      rw [if_pos rfl]
      refine hc rfl H4 (((e.trans e2).trans e3).trans e4) _ fun w H5 e5 hw => ?_
      exact hr' rfl y w H5 ((((e.trans e2).trans e3).trans e4).trans e5) (Dp.mono e5 (Dp.mono e4 hy)) hw Q fun v2 H6 e6 hv2 => q v2 H6 ((((e2.trans e3).trans e4).trans e5).trans e6) hv2
    | false =>
      rw [if_neg Bool.false_ne_true]
      exact q _ H4 ((e2.trans e3).trans e4) (.bl _)⟩
theorem d_andV {a b : Bool} (h1 : EvD K ta σ H (.bool a)) (h2 : a = true → EvD K tb σ H (.bool b)) : EvD K (tAndV ta tb) σ H (.bool (a && b)) := d_evB (ev_andV h1.b fun q => (h2 q).b)
theorem d_if {b : Bool} (h : EvT t σ H b) (h1 : b = true → EvD K ta σ H d) (h2 : b = false → EvD K tb σ H d) : EvD K (tIf t ta tb) σ H d := fun H1 e Q q => h H1 e _ fun H2 e2 => by
  cases b with
  | true =>
    show ta σ H2 Q
    exact h1 rfl H2 (e.trans e2) Q fun v H3 e3 hv => q v H3 (e2.trans e3) hv
  | false =>
    show tb σ H2 Q
    exact h2 rfl H2 (e.trans e2) Q fun v H3 e3 hv => q v H3 (e2.trans e3) hv
theorem t_test {b : Bool} (h : EvD K te σ H (.bool b)) : EvT (tTest te) σ H b := et_test h.b
theorem t_B {b : Bool} (h : EvD K te σ H (.bool b)) : EvT (tB te) σ H b := et_B h.b
/-! arguments, tuples, lists, calls -/
theorem da_nil : EvDA K tNil σ H [] := fun H1 _ _ q => q [] H1 (Ex.refl H1) .nil
theorem da_cons {tr : TA} {ds : List PyData} (h : EvD K ta σ H d) (hr : EvDA K tr σ H ds) : EvDA K (tCons ta tr) σ H (d :: ds) := fun H1 e _ q =>
  h H1 e _ fun x H2 e2 hx => hr H2 (e.trans e2) _ fun xs H3 e3 hxs => q _ H3 (e2.trans e3) (.cons (Dp.mono e3 hx) hxs)
theorem da_1 (h : EvD K ta σ H da) : EvDA K (tCons ta tNil) σ H [da] := da_cons h da_nil
theorem da_2 (h : EvD K ta σ H da) (h2 : EvD K tb σ H db) : EvDA K (tCons ta (tCons tb tNil)) σ H [da, db] := da_cons h (da_1 h2)
theorem da_3 (h : EvD K ta σ H da) (h2 : EvD K tb σ H db) (h3 : EvD K tc σ H dc) : EvDA K (tCons ta (tCons tb (tCons tc tNil))) σ H [da, db, dc] := da_cons h (da_2 h2 h3)
theorem d_tup {tr : TA} {ds : List PyData} (h : EvDA K tr σ H ds) (hl : ds.length ≤ 100000) : EvD K (tTup tr) σ H (.tuple ds) := fun H1 e _ q =>
  h H1 e _ fun vs H2 e2 hv => ⟨sz_of (by rw [hv.length]; exact hl), fun p hp => q _ _ (e2.trans (Ex.new hp)) (.tup (st_of upd_same) (hv.mono (Ex.new hp)))⟩
theorem dl_lst {tr : TA} {ds : List PyData} (h : EvDA K tr σ H ds) (hl : ds.length ≤ 100000) : EvDL K (tLst tr) σ H ds := fun H1 e _ q =>
  h H1 e _ fun vs H2 e2 hv => ⟨sz_of (by rw [hv.length]; exact hl), fun p hp => q p vs _ (fresh_back e2 hp) (e2.trans (Ex.new hp)) upd_same (hv.mono (Ex.new hp))⟩
theorem d_cb {r : List V → Hp → VK → Prop} {tr : TA} {ds : List PyData} (h : EvDA K tr σ H ds) (hr : ∀ vs H1, Ex H H1 → DpAll K H1 vs ds → ∀ Q : VK, (∀ v H2, Ex H1 H2 → Dp K H2 v d → Q v H2) → r vs H1 Q) : EvD K (tCB r tr) σ H d := fun H1 e Q q =>
  h H1 e _ fun vs H2 e2 hv => hr vs H2 (e.trans e2) hv Q fun v H3 e3 h3 => q v H3 (e2.trans e3) h3
/-- the promise of a def that reads data and hands back data -/
def Pr (K : PySem.W.Frag) (R : List PyData → PyData → Prop) : Sp := fun vs H Q _ => ∃ ds d, DpAll K H vs ds ∧ R ds d ∧ ∀ v H', Ex H H' → Dp K H' v d → Q v H'
theorem d_call {R : List PyData → PyData → Prop} {tr : TA} {ds : List PyData} {E : XK} (h : EvDA K tr σ H ds) (hR : R ds d) : EvD K (tCall (Pr K R) [] E tr) σ H d := fun H1 e Q q =>
  h H1 e _ fun vs H2 e2 hv => ⟨ds, d, by rw [List.append_nil]; exact hv, hR, fun v H3 e3 h3 => q v H3 (e2.trans e3) h3⟩
theorem _root_.L2.DpAll.one {vs : List V} (h : DpAll K H vs [da]) : ∃ x, vs = [x] ∧ Dp K H x da := by
  cases h with
  | cons h1 h2 => cases h2; exact ⟨_, rfl, h1⟩
theorem _root_.L2.DpAll.two {vs : List V} (h : DpAll K H vs [da, db]) : ∃ x y, vs = [x, y] ∧ Dp K H x da ∧ Dp K H y db := by
  cases h with
  | cons h1 h2 =>
    obtain ⟨y, rfl, h3⟩ := h2.one
    exact ⟨_, y, rfl, h1, h3⟩
theorem _root_.L2.DpAll.three {vs : List V} (h : DpAll K H vs [da, db, dc]) : ∃ x y z, vs = [x, y, z] ∧ Dp K H x da ∧ Dp K H y db ∧ Dp K H z dc := by
  cases h with
  | cons h1 h2 =>
    obtain ⟨y, z, rfl, h3⟩ := h2.two
    exact ⟨_, y, z, rfl, h1, h3⟩
/-! len, abs, sum, min, int -/
theorem d_lenL {ds : List PyData} (h : EvD K ta σ H (.list ds)) : EvD K (tCB (rLenS K) (tCons ta tNil)) σ H (.int (ds.length : Int)) := d_cb (da_1 h) fun vs H1 e hv Q q => by
  obtain ⟨x, rfl, hx⟩ := hv.one
  obtain ⟨a, xs, rfl, hs, ha⟩ := hx.lstI
  refine ⟨a, xs, rfl, .inl hs, q _ H1 (Ex.refl H1) ?_⟩
  rw [ha.length]; exact .int _
theorem d_lenT {ds : List PyData} (h : EvD K ta σ H (.tuple ds)) : EvD K (tCB (rLenS K) (tCons ta tNil)) σ H (.int (ds.length : Int)) := d_cb (da_1 h) fun vs H1 e hv Q q => by
  obtain ⟨x, rfl, hx⟩ := hv.one
  obtain ⟨a, xs, rfl, hs, ha⟩ := hx.tupI
  refine ⟨a, xs, rfl, .inr hs, q _ H1 (Ex.refl H1) ?_⟩
  rw [ha.length]; exact .int _
def rLenT : List V → Hp → VK → Prop := fun xs H Q => ∃ z, xs = [.str z] ∧ z.length ≤ sizeLine ∧ Q (.int z.length) H
theorem call_lenT {X : Cx} : CallR X (.builtin "len") rLenT := call_len_str
theorem call_lenS {X : Cx} : CallR X (.builtin "len") (rLenS X.K) := call_len_seq
theorem d_lenS {z : Str} (hz : z.length ≤ 100000) (h : EvD K ta σ H (.str z)) : EvD K (tCB rLenT (tCons ta tNil)) σ H (.int (z.length : Int)) := d_cb (da_1 h) fun vs H1 e hv Q q => by
  obtain ⟨x, rfl, hx⟩ := hv.one
  rw [hx.strI]
  exact ⟨z, rfl, sz_of hz, q _ H1 (Ex.refl H1) (.int _)⟩
def rAbs : List V → Hp → VK → Prop := fun xs H Q => ∃ i, xs = [.int i] ∧ Q (.int (if i < 0 then -i else i)) H
theorem call_absI {X : Cx} : CallR X (.builtin "abs") rAbs := call_abs
theorem d_abs {i : Int} (h : EvD K ta σ H (.int i)) : EvD K (tCB rAbs (tCons ta tNil)) σ H (.int (if i < 0 then -i else i)) := d_cb (da_1 h) fun vs H1 e hv Q q => by
  obtain ⟨x, rfl, hx⟩ := hv.one
  rw [hx.intI]
  exact ⟨i, rfl, q _ H1 (Ex.refl H1) (.int _)⟩
theorem d_sumL {ns : List Int} (h : EvD K ta σ H (.list (ns.map .int))) : EvD K (tCB (rSum K) (tCons ta tNil)) σ H (.int ns.sum) := d_cb (da_1 h) fun vs H1 e hv Q q => by
  obtain ⟨x, rfl, hx⟩ := hv.one
  obtain ⟨a, xs, rfl, hs, ha⟩ := hx.lstI
  rw [ha.ints] at hs
  exact ⟨a, ns, rfl, hs, q _ H1 (Ex.refl H1) (.int _)⟩
theorem d_sumT {ns : List Int} (h : EvD K ta σ H (.tuple (ns.map .int))) : EvD K (tCB (rSumT K) (tCons ta tNil)) σ H (.int ns.sum) := d_cb (da_1 h) fun vs H1 e hv Q q => by
  obtain ⟨x, rfl, hx⟩ := hv.one
  obtain ⟨a, xs, rfl, hs, ha⟩ := hx.tupI
  rw [ha.ints] at hs
  exact ⟨a, ns, rfl, hs, q _ H1 (Ex.refl H1) (.int _)⟩
def rMin2 : List V → Hp → VK → Prop := fun xs H Q => ∃ i j, xs = [.int i, .int j] ∧ Q (.int (if j < i then j else i)) H
theorem call_min2I {X : Cx} (hc : X.calm = true) : CallR X (.builtin "min") rMin2 := call_min2 hc
theorem d_min {i j : Int} (h : EvD K ta σ H (.int i)) (h2 : EvD K tb σ H (.int j)) : EvD K (tCB rMin2 (tCons ta (tCons tb tNil))) σ H (.int (if j < i then j else i)) := d_cb (da_2 h h2) fun vs H1 e hv Q q => by
  obtain ⟨x, y, rfl, hx, hy⟩ := hv.two
  rw [hx.intI, hy.intI]
  exact ⟨i, j, rfl, q _ H1 (Ex.refl H1) (.int _)⟩
def rInt1 : List V → Hp → VK → Prop := fun xs H Q => (∃ i, xs = [.int i] ∧ Q (.int i) H) ∨ ∃ k, xs = [.bl k] ∧ Q (.int (if k then 1 else 0)) H
theorem call_int1I {X : Cx} : CallR X (.type "int") rInt1 := call_int1
theorem d_intc {i : Int} (h : EvD K ta σ H (.int i)) : EvD K (tCB rInt1 (tCons ta tNil)) σ H (.int i) := d_cb (da_1 h) fun vs H1 e hv Q q => by
  obtain ⟨x, rfl, hx⟩ := hv.one
  rw [hx.intI]
  exact .inl ⟨i, rfl, q _ H1 (Ex.refl H1) (.int _)⟩
/-! texts cut -/
theorem d_part {i : Int} (h : EvD K te σ H (.int i)) : EvO (tPart te) σ H (some i) := eo_some h.i
theorem d_cutS {tl th : TO} {z : Str} {lo hi : Option Int} (hz : z.length ≤ 100000) (h : EvD K te σ H (.str z)) (h1 : EvO tl σ H lo) (h2 : EvO th σ H hi) : EvD K (tSl rSlS te tl th) σ H (.str (cutS z lo hi)) := fun H1 e Q q =>
  h H1 e _ fun v Ha ea hv => h1 Ha (e.trans ea) _ fun Hb eb => h2 Hb ((e.trans ea).trans eb) _ fun Hc ec => by
    rw [hv.strI]
    exact ⟨z, rfl, sz_of hz, q _ Hc ((ea.trans eb).trans ec) (.str _)⟩
theorem d_revS {z : Str} (hz : z.length ≤ 100000) (h : EvD K te σ H (.str z)) : EvD K (tRevS te) σ H (.str (revS z)) := fun H1 e Q q =>
  h H1 e _ fun v H2 e2 hv => by rw [hv.strI]; exact ⟨z, rfl, sz_of hz, q _ H2 e2 (.str _)⟩
end
end KL
set_option maxHeartbeats 4000000
namespace KL
open PySem L2 Evl
/-- J walks over data, while G stands -/
def WkD (K : PySem.W.Frag) (J : It) (G : Hp → Prop) (ds : List PyData) : Prop := Walk J ds.length G (fun i H x H' => Ex H H' ∧ ∃ d, ds[i]? = some d ∧ Dp K H' x d)
def EvI (K : PySem.W.Frag) (wi : TI) (σ : L2.St) (H : Hp) (ds : List PyData) : Prop := ∀ H1, Ex H H1 → ∀ R : It → Hp → Prop, (∀ J H2, Ex H1 H2 → WkD K J (Ex H2) ds → R J H2) → wi σ H1 R
section
variable {K : PySem.W.Frag} {σ : L2.St} {H H' : Hp} {ta tb tc te tl : TE} {t u tt : TT} {x y z v : V} {d da db dc : PyData} {wi : TI}
theorem EvI.mono {ds : List PyData} (e : Ex H H') (h : EvI K wi σ H ds) : EvI K wi σ H' ds := fun H1 a R q => h H1 (e.trans a) R q
theorem EvI.to {ds es : List PyData} (h : EvI K wi σ H ds) (e : ds = es) : EvI K wi σ H es := e ▸ h
theorem wk_list {a : Addr} {xs : List V} {ds : List PyData} (G : Hp → Prop) (hl : xs.length = ds.length) (hG : ∀ H, G H → SqL K H a xs) (hd : ∀ H, G H → DpAll K H xs ds) : WkD K (Itl K a) G ds := by
  unfold WkD
  rw [← hl]
  exact (walk_list (K := K) (a := a) (xs := xs)).mono hG fun i H x H' hi g y => by
    obtain ⟨rfl, hx⟩ := y
    obtain ⟨d, h1, h2⟩ := (hd _ g).get hx
    exact ⟨Ex.refl _, d, h1, h2⟩
theorem iv_list {ds : List PyData} (h : EvD K tl σ H (.list ds)) : EvI K (iList K tl) σ H ds := fun H1 e R q =>
  h H1 e _ fun v H2 e2 hv => by
    obtain ⟨a, xs, rfl, hs, ha⟩ := hv.lstI
    exact ⟨a, rfl, ⟨xs, hs⟩, q _ H2 e2 (wk_list _ ha.length (fun H3 e3 => ex_l e3 hs) fun H3 e3 => ha.mono e3)⟩
theorem iv_rng1 {ta : TA} {n : Int} (h : EvDA K ta σ H [.int n]) (hn : -100000 ≤ n ∧ n ≤ 100000) : EvI K (iRng1 ta) σ H ((List.range n.toNat).map fun (i : Nat) => PyData.int (i : Int)) := fun H1 e R q =>
  h H1 e _ fun vs H2 e2 hv => by
    obtain ⟨x, rfl, hx⟩ := hv.one
    rw [hx.intI]
    refine ⟨n, rfl, by omega, by omega, q _ H2 e2 ?_⟩
    unfold WkD
    rw [List.length_map, List.length_range]
    exact (walk_range (lo := 0) (n := n.toNat)).mono (fun _ _ => trivial) fun i H x H' hi g y => by
      obtain ⟨rfl, rfl⟩ := y
      refine ⟨Ex.refl _, .int (i : Int), ?_, ?_⟩
      · rw [List.getElem?_map, List.getElem?_range hi]; rfl
      · show Dp K _ (V.int (0 + (i : Int))) (.int (i : Int))
        rw [Int.zero_add]; exact .int _
theorem iv_rng2 {ta : TA} {lo n : Int} (h : EvDA K ta σ H [.int lo, .int n]) (hn : -100000 ≤ lo ∧ lo ≤ 100000 ∧ -100000 ≤ n ∧ n ≤ 100000) : EvI K (iRng2 ta) σ H ((List.range (n - lo).toNat).map fun (i : Nat) => PyData.int (lo + (i : Int))) := fun H1 e R q =>
  h H1 e _ fun vs H2 e2 hv => by
    obtain ⟨x, y, rfl, hx, hy⟩ := hv.two
    rw [hx.intI, hy.intI]
    refine ⟨lo, n, rfl, ⟨by omega, by omega, by omega, by omega⟩, q _ H2 e2 ?_⟩
    unfold WkD
    rw [List.length_map, List.length_range]
    exact (walk_range (lo := lo) (n := (n - lo).toNat)).mono (fun _ _ => trivial) fun i H x H' hi g y => by
      obtain ⟨rfl, rfl⟩ := y
      exact ⟨Ex.refl _, .int (lo + (i : Int)), by rw [List.getElem?_map, List.getElem?_range hi]; rfl, .int _⟩
def sgn (c : Nat) : PyData := .str ⟨#[c]⟩
theorem wk_str {z : Str} (G : Hp → Prop) : WkD K (Its z) G (z.cps.toList.map sgn) := by
  unfold WkD
  rw [List.length_map, Array.length_toList]
  exact (walk_str (z := z)).mono (fun _ _ => trivial) fun i H x H' hi g y => by
    obtain ⟨rfl, c, hc, rfl⟩ := y
    exact ⟨Ex.refl _, sgn c, by rw [List.getElem?_map, Array.getElem?_toList, hc]; rfl, .str _⟩
theorem iv_str {z : Str} (h : EvD K te σ H (.str z)) : EvI K (iStr te) σ H (z.cps.toList.map sgn) := fun H1 e R q =>
  h H1 e _ fun v H2 e2 hv => ⟨z, hv.strI, q _ H2 e2 (wk_str _)⟩
def prD2 (p : PyData × PyData) : PyData := .tuple [p.1, p.2]
theorem iv_zip {ta : TA} {as bs : List PyData} (h : EvDA K ta σ H [.list as, .list bs]) : EvI K (iZip K ta) σ H ((as.zip bs).map prD2) := fun H1 e R q =>
  h H1 e _ fun vs H2 e2 hv => by
    obtain ⟨x, y, rfl, hx, hy⟩ := hv.two
    obtain ⟨a, xs, rfl, hs, ha⟩ := hx.lstI
    obtain ⟨b, ys, rfl, ht, hb⟩ := hy.lstI
    refine ⟨a, b, xs, ys, rfl, hs, ht, q _ H2 e2 ?_⟩
    unfold WkD
    have hn : ((as.zip bs).map prD2).length = min xs.length ys.length := by rw [List.length_map, List.length_zip, ha.length, hb.length]
    rw [hn]
    refine (walk_zip (K := K) (a := a) (b := b) rfl).mono (fun H3 e3 => ⟨ex_l e3 hs, ex_l e3 ht⟩) fun i H x H' hi g y => ?_
    obtain ⟨T, x1, y1, rfl, hT, rfl, h1, h2⟩ := y
    obtain ⟨d1, hd1, e1⟩ := ha.get h1
    obtain ⟨d2, hd2, e2'⟩ := hb.get h2
    refine ⟨Ex.new hT, .tuple [d1, d2], ?_, .tup (st_of upd_same) (.cons (e1.mono (g.trans (Ex.new hT))) (.cons (e2'.mono (g.trans (Ex.new hT))) .nil))⟩
    rw [List.getElem?_map, show (as.zip bs)[i]? = some (d1, d2) from List.getElem?_zip_eq_some.mpr ⟨hd1, hd2⟩]; rfl
def enD (ds : List PyData) : List PyData := (List.range ds.length).map fun (i : Nat) => PyData.tuple [.int (i : Int), ds[i]?.getD .none]
theorem wk_en {n : Nat} {G : Hp → Prop} {f : Nat → Option V} {ds : List PyData} (hl : n = ds.length) (hf : ∀ (i : Nat) x H, G H → f i = some x → ∃ d, ds[i]? = some d ∧ Dp K H x d) : WkD K (ItE n G f) G (enD ds) := by
  unfold WkD
  have hn : (enD ds).length = n := by unfold enD; rw [List.length_map, List.length_range, hl]
  rw [hn]
  refine (walk_enE (n := n) (G := G) (f := f)).mono (fun _ h => h) fun i H x H' hi g y => ?_
  obtain ⟨T, x1, rfl, hT, h1, rfl⟩ := y
  obtain ⟨d, hd, e1⟩ := hf i x1 H g h1
  refine ⟨Ex.new hT, .tuple [.int (i : Int), d], ?_, .tup (st_of upd_same) (.cons (.int _) (.cons (e1.mono (Ex.new hT)) .nil))⟩
  unfold enD
  rw [List.getElem?_map, List.getElem?_range (by omega), Option.map_some, hd]; rfl
theorem WkD.weak {J : It} {G G' : Hp → Prop} {ds : List PyData} (w : WkD K J G ds) (h : ∀ H, G' H → G H) : WkD K J G' ds := Walk.mono w h fun i H x H' _ _ y => y
theorem iv_enT {ta : TA} {ds : List PyData} (h : EvDA K ta σ H [.tuple ds]) : EvI K (iEnT K ta) σ H (enD ds) := fun H1 e R q =>
  h H1 e _ fun vs H2 e2 hv => by
    obtain ⟨x, rfl, hx⟩ := hv.one
    obtain ⟨a, xs, rfl, hs, ha⟩ := hx.tupI
    refine ⟨a, xs, rfl, hs, q _ H2 e2 ?_⟩
    have w : Walk (ItE xs.length (fun H => SqT K H a xs) (fun i => xs[i]?)) xs.length (fun H => SqT K H a xs) _ := walk_enE
    unfold WkD
    have hn : (enD ds).length = xs.length := by unfold enD; rw [List.length_map, List.length_range, ha.length]
    rw [hn]
    refine w.mono (fun H3 e3 => ex_t e3 hs) fun i H x H' hi g y => ?_
    obtain ⟨T, x1, rfl, hT, h1, rfl⟩ := y
    obtain ⟨d, hd, e1⟩ := (ha.mono g).get h1
    refine ⟨Ex.new hT, .tuple [.int (i : Int), d], ?_, .tup (st_of upd_same) (.cons (.int _) (.cons (e1.mono (Ex.new hT)) .nil))⟩
    unfold enD
    rw [List.getElem?_map, List.getElem?_range (by rw [← ha.length]; exact hi), Option.map_some, hd]; rfl
theorem iv_enS {ta : TA} {z : Str} (h : EvDA K ta σ H [.str z]) : EvI K (iEnS ta) σ H (enD (z.cps.toList.map sgn)) := fun H1 e R q =>
  h H1 e _ fun vs H2 e2 hv => by
    obtain ⟨x, rfl, hx⟩ := hv.one
    rw [hx.strI]
    refine ⟨z, rfl, q _ H2 e2 (WkD.weak (wk_en (by rw [List.length_map, Array.length_toList]) fun i x H _ hf => ?_) fun _ _ => trivial)⟩
    cases q1 : z.cps[i]? with
    | none => rw [q1] at hf; cases hf
    | some c =>
      rw [q1] at hf
      have e' : V.str ⟨#[c]⟩ = x := Option.some.inj hf
      exact ⟨sgn c, by rw [List.getElem?_map, Array.getElem?_toList, q1]; rfl, by rw [← e']; exact .str _⟩

/-- a pair's two names -/
theorem g_pair {i j : Nat} {Q : L2.St → Hp → Prop} (h : Dp K H v (.tuple [da, db])) (k : ∀ x y, Dp K H x da → Dp K H y db → Q ((σ.set i (some x)).set j (some y)) H) : gTup K 2 (gCons (gName i) (gCons (gName j) gNil)) v σ H Q := by
  obtain ⟨a, xs, rfl, hs, ha⟩ := h.tupI
  obtain ⟨x, y, rfl, hx, hy⟩ := ha.two
  exact ⟨a, [x, y], rfl, hs, rfl, x, [y], rfl, y, [], rfl, rfl, k x y hx hy⟩

/-! ### comprehensions -/
section
variable {α : Type}
theorem filter_take {p : α → Bool} {as : List α} {i : Nat} {a : α} (h : as[i]? = some a) : (as.take (i + 1)).filter p = if p a = true then (as.take i).filter p ++ [a] else (as.take i).filter p := by
  rw [List.take_add_one, h, List.filter_append]
  show _ ++ List.filter p [a] = _
  cases q : p a with
  | true => rw [List.filter_cons, if_pos q, if_pos rfl]; rfl
  | false => rw [List.filter_cons, if_neg (by rw [q]; exact Bool.false_ne_true), if_neg Bool.false_ne_true]; simp
/-- the comprehension's word -/
def Lw (K : PySem.W.Frag) (H2 : Hp) (D : Addr) (as : List α) (p : α → Bool) (e : α → PyData) (i : Nat) (H' : Hp) : Prop := H2 D = none ∧ Ex H2 H' ∧ ∃ xs, H' D = some (.lst xs) ∧ DpAll K H' xs (((as.take i).filter p).map e)
theorem lw_turn {H2 H' H'' : Hp} {D : Addr} {as : List α} {p : α → Bool} {e : α → PyData} {i : Nat} {a : α} {σ2 : L2.St} (w : Lw K H2 D as p e i H') (ex : Ex H' H'') (ha : as[i]? = some a) (hz : as.length ≤ 100000) (hi : ∀ a ∈ as, p a = true → imm (e a) = true)
    (ht : EvT tt σ2 H'' (p a)) (he : p a = true → EvD K te σ2 H'' (e a)) :
    tt σ2 H'' fun b H3 => if b = true then te σ2 H3 fun y H4 => ∃ acc, H4 D = some (.lst acc) ∧ acc.length < sizeLine ∧ Lw K H2 D as p e (i + 1) (upd H4 D (.lst (acc ++ [y]))) else Lw K H2 D as p e (i + 1) H3 := by
  obtain ⟨hD, e2, xs, hx, hd⟩ := w
  refine ht H'' (Ex.refl _) _ fun H3 e3 => ?_
  have hlen : i < as.length := (List.getElem?_eq_some_iff.mp ha).1
  cases q : p a with
  | true =>
    rw [if_pos rfl]
    refine he q H3 e3 _ fun v H4 e4 hv => ?_
    have ex4 : Ex H' H4 := (ex.trans e3).trans e4
    have h4 := ex4 D _ hx
    have him : immA (((as.take i).filter p).map e) = true := immA_all fun d hd' => by
      obtain ⟨b, hb, rfl⟩ := List.mem_map.mp hd'
      obtain ⟨hb1, hb2⟩ := List.mem_filter.mp hb
      exact hi b (List.mem_of_mem_take hb1) hb2
    have htup : NoTup (H4 D) := by rw [h4]; trivial
    refine ⟨xs, h4, ?_, hD, ?_, _, upd_same, ?_⟩
    · have h5 := hd.length
      rw [List.length_map] at h5
      have h6 := List.length_filter_le p (as.take i)
      rw [List.length_take] at h6
      exact sz_lt (by omega)
    · exact Ex.mut (e2.trans ex4) hD
    · rw [filter_take ha, if_pos q, List.map_append]
      exact DpAll.snoc (DpAll.ti (Ti.upd htup) him (hd.mono ex4)) (Dp.ti (Ti.upd htup) (hi a (List.mem_of_getElem? ha) q) hv)
  | false =>
    rw [if_neg Bool.false_ne_true]
    refine ⟨hD, e2.trans (ex.trans e3), xs, (ex.trans e3) D _ hx, ?_⟩
    rw [filter_take ha, if_neg (by rw [q]; exact Bool.false_ne_true)]
    exact hd.mono (ex.trans e3)
theorem d_lcN {j : Nat} {vs : List Nat} (as : List α) (td : α → PyData) (p : α → Bool) (e : α → PyData) (hI : EvI K wi σ H (as.map td)) (hz : as.length ≤ 100000) (hw : ∀ x, wipe ((wipe σ vs).set j (some x)) vs = wipe σ vs) (hi : ∀ a ∈ as, p a = true → imm (e a) = true)
    (ht : ∀ a ∈ as, ∀ x H1, Ex H H1 → Dp K H1 x (td a) → EvT tt ((wipe σ vs).set j (some x)) H1 (p a))
    (he : ∀ a ∈ as, p a = true → ∀ x H1, Ex H H1 → Dp K H1 x (td a) → EvD K te ((wipe σ vs).set j (some x)) H1 (e a)) : EvDL K (tLc wi (gName j) tt te vs) σ H ((as.filter p).map e) := fun H1 e1 Q q =>
  hI H1 e1 _ fun J H2 e2 w D hD => lc_it w (Lw K H2 D as p e) ⟨hD, Ex.new hD, [], upd_same, .nil⟩ (fun i H' _ lw => lw.2.1) (fun i x H' H'' hlt lw y => by
    obtain ⟨ex, d, hd, hx⟩ := y
    rw [List.getElem?_map] at hd
    cases ha : as[i]? with
    | none => rw [ha] at hd; cases hd
    | some a =>
      rw [ha] at hd
      have ed : td a = d := Option.some.inj hd
      rw [← ed] at hx
      have hm := List.mem_of_getElem? ha
      have exx : Ex H H'' := (e1.trans e2).trans (lw.2.1.trans ex)
      exact ⟨hw x, lw_turn lw ex ha hz hi (ht a hm x H'' exx hx) fun hp => he a hm hp x H'' exx hx⟩) fun H' lw => by
    obtain ⟨hD', ex, xs, hx, hd⟩ := lw
    have el : (as.map td).length = as.length := List.length_map ..
    rw [el, List.take_length] at hd
    exact q D xs H' (fresh_back e2 hD') (e2.trans ex) hx hd
theorem d_lcP {j k : Nat} {vs : List Nat} (as : List α) (t1 t2 : α → PyData) (p : α → Bool) (e : α → PyData) (hI : EvI K wi σ H (as.map fun a => .tuple [t1 a, t2 a])) (hz : as.length ≤ 100000) (hw : ∀ x y, wipe (((wipe σ vs).set j (some x)).set k (some y)) vs = wipe σ vs) (hi : ∀ a ∈ as, p a = true → imm (e a) = true)
    (ht : ∀ a ∈ as, ∀ x y H1, Ex H H1 → Dp K H1 x (t1 a) → Dp K H1 y (t2 a) → EvT tt (((wipe σ vs).set j (some x)).set k (some y)) H1 (p a))
    (he : ∀ a ∈ as, p a = true → ∀ x y H1, Ex H H1 → Dp K H1 x (t1 a) → Dp K H1 y (t2 a) → EvD K te (((wipe σ vs).set j (some x)).set k (some y)) H1 (e a)) : EvDL K (tLc wi (gTup K 2 (gCons (gName j) (gCons (gName k) gNil))) tt te vs) σ H ((as.filter p).map e) := fun H1 e1 Q q =>
  hI H1 e1 _ fun J H2 e2 w D hD => lc_it w (Lw K H2 D as p e) ⟨hD, Ex.new hD, [], upd_same, .nil⟩ (fun i H' _ lw => lw.2.1) (fun i x H' H'' hlt lw y => by
    obtain ⟨ex, d, hd, hx⟩ := y
    rw [List.getElem?_map] at hd
    cases ha : as[i]? with
    | none => rw [ha] at hd; cases hd
    | some a =>
      rw [ha] at hd
      have ed : PyData.tuple [t1 a, t2 a] = d := Option.some.inj hd
      rw [← ed] at hx
      have hm := List.mem_of_getElem? ha
      have exx : Ex H H'' := (e1.trans e2).trans (lw.2.1.trans ex)
      refine g_pair hx fun x1 y1 h1 h2 => ⟨hw x1 y1, lw_turn lw ex ha hz hi (ht a hm x1 y1 H'' exx h1 h2) fun hp => he a hm hp x1 y1 H'' exx h1 h2⟩) fun H' lw => by
    obtain ⟨hD', ex, xs, hx, hd⟩ := lw
    have el : (as.map fun a => PyData.tuple [t1 a, t2 a]).length = as.length := List.length_map ..
    rw [el, List.take_length] at hd
    exact q D xs H' (fresh_back e2 hD') (e2.trans ex) hx hd
theorem et_yes : EvT tYes σ H true := fun H1 _ Q q => q H1 (Ex.refl H1)
theorem dl_cat {as bs : List PyData} (hi : ∀ H1, Ex H H1 → ∀ Q : VK, (∀ v H2, Ex H1 H2 → DL K H2 v as → Q v H2) → ta σ H1 Q) (hb : EvDL K tb σ H bs) (hz : as.length + bs.length ≤ 100000) : EvDL K (tOp rCat ta tb) σ H (as ++ bs) := fun H1 e Q q =>
  hi H1 e _ fun v H2 e2 hv => hb H2 (e.trans e2) _ fun p ys H3 hp e3 h3 hd => by
    obtain ⟨l, xs, rfl, hl, ha⟩ := hv
    refine ⟨l, p, xs, ys, rfl, rfl, e3 l _ hl, h3, sz_of (by rw [ha.length, hd.length]; exact hz), fun r hr => ?_⟩
    exact q r (xs ++ ys) _ (fresh_back e2 (fresh_back e3 hr)) ((e2.trans e3).trans (Ex.new hr)) upd_same (DpAll.append ((ha.mono e3).mono (Ex.new hr)) (hd.mono (Ex.new hr)))
theorem DL.mono {as : List PyData} (e : Ex H H') (h : DL K H v as) : DL K H' v as := by
  obtain ⟨l, xs, rfl, hl, ha⟩ := h
  exact ⟨l, xs, rfl, e l _ hl, ha.mono e⟩
theorem DL.dp {as : List PyData} (h : DL K H v as) : Dp K H v (.list as) := by
  obtain ⟨l, xs, rfl, hl, ha⟩ := h
  exact .lst (sq_of hl) ha
end
end
end KL
set_option maxHeartbeats 4000000
namespace KL
open PySem PySem.Spec PyProof.Rows L2
def topS (i : Nat) : Stmt := PySem.Challenge.pw_keylanes_k58_whole_changes.main.body.getD i (.Pass ⟨0, 0, 0, 0⟩)
abbrev s_is_int : Stmt := topS 6
abbrev s_is_in : Stmt := topS 7
abbrev s_is_column : Stmt := topS 9
abbrev s_fits_behind : Stmt := topS 10
abbrev s_need_region : Stmt := topS 11
abbrev s_end_of : Stmt := topS 12
abbrev s_is_open : Stmt := topS 13
abbrev s_after : Stmt := topS 15
abbrev s_spans_on : Stmt := topS 16
abbrev s_need_play : Stmt := topS 17
abbrev s_rows_on : Stmt := topS 19
abbrev s_need_plays : Stmt := topS 20
abbrev s_flips_of : Stmt := topS 21
abbrev s_flips : Stmt := topS 22
abbrev s_flip_distance : Stmt := topS 23
abbrev s_flip_way : Stmt := topS 24
abbrev s_law_taken : Stmt := topS 26
abbrev s_law_pick : Stmt := topS 27
abbrev s_law_alike : Stmt := topS 28
abbrev s_law_after : Stmt := topS 29
abbrev s_law_region : Stmt := topS 30
abbrev s_law_spans : Stmt := topS 31
abbrev s_law_plays : Stmt := topS 32
abbrev s_law_count : Stmt := topS 33
abbrev s_law_few : Stmt := topS 34
abbrev s_law : Stmt := topS 35
end KL
set_option maxHeartbeats 4000000
namespace KL
open PySem PySem.Spec PyProof.Rows L2 Evl
structure Tx (mg : Str → Option Value) : Prop where
  m_len : mg "len" = none
  m_range : mg "range" = none
  m_isinstance : mg "isinstance" = none
  m_enumerate : mg "enumerate" = none
  m_sorted : mg "sorted" = none
  m_sum : mg "sum" = none
  m_abs : mg "abs" = none
  m_zip : mg "zip" = none
  m_int : mg "int" = none
  m_bool : mg "bool" = none
  m_str : mg "str" = none
  m_list : mg "list" = none
  m_tuple : mg "tuple" = none
  m_min : mg "min" = none
  rooms : ∃ t, mg "MOST_ROOMS" = some (.int 60 t)
/-- a def that may be called by its name -/
def Cal (P : Program) (w : World) (K : PySem.W.Frag) (mg : Str → Option Value) (base : Heap) (k : Nat) (x : Str) (ps : List Str) (sp : Sp) : Prop :=
  ∃ f fd, FnOk P w K mg base CX0 k f fd ps sp ∧ mg x = some (.ref f) ∧ PySem.W.keepIn K (.ref f) = true ∧ Binds K fd ps []
/-- a def as the head leaves it -/
def Df (K : PySem.W.Frag) (mg : Str → Option Value) (x : Str) (st : Stmt) (ps : List Str) : Prop :=
  ∃ f fd, FunD K x x (defArgs st) (defBody st) (defScope st) [] [] f fd ∧ mg x = some (.ref f) ∧ Binds K fd ps []
theorem pe_cal {X : Cx} {k : Nat} {x : Str} {ps : List Str} {sp : Sp} {e : Expr} {es : List Expr} {t : TA} {p pos : Pos} (C : Cal X.prog X.w X.K X.mg X.base k x ps sp) (hr : Room k X.A) (hg : Gl X x) (ha : PA X (e :: es) t)
    (hdb : (x == ("__debug__" : Str)) = false := by decide) (he : starEach (e :: es) X.env = (false, eval e X.env) :: starEach es X.env := by rfl) (hpl : (backTo pos (starEach es X.env)).any (·.1) = false := by rfl) : PE X (.Call (.Name x p) (e :: es) [] pos) (tCall sp [] E0 t) := by
  obtain ⟨f, fd, F, hm, hk, hb⟩ := C
  exact pe_call F hr hg hm hk hb .nil pass0 ha hdb he hpl
theorem Cal.imp {P : Program} {w : World} {K : PySem.W.Frag} {mg : Str → Option Value} {base : Heap} {k : Nat} {x : Str} {ps : List Str} {sp sp' : Sp} (C : Cal P w K mg base k x ps sp) (h : ∀ vs H Q E, sp' vs H Q E → sp vs H Q E) : Cal P w K mg base k x ps sp' := by
  obtain ⟨f, fd, F, hm, hk, hb⟩ := C
  exact ⟨f, fd, F.imp h, hm, hk, hb⟩
theorem Df.ok {P : Program} {w : World} {K : PySem.W.Frag} {mg : Str → Option Value} {base : Heap} {k : Nat} {x : Str} {st : Stmt} {ps N : List Str} {sp : Sp} {t : TS} (D : Df K mg x st ps) (S : FnScope N ps (defScope st)) (len : ∀ vs H Q E, sp vs H Q E → vs.length = ps.length)
    (dv : ∀ (f : Addr) (cdv : Value) (A : Around) (outer : List Env) (s : Shared) (H : Hp) (E : XK), Room k (A.deeper (envOfC x (defScope st) s.heap.objs.size f cdv)) → PSs (cxOf CX0 P w K mg base N x (defScope st) f cdv A outer s H E).nox (defBody st) t)
    (rd : ∀ vs H Q E, sp vs H Q E → t { nx := fun _ H' => Q .non H', rt := Q } (start N vs) H) : Cal P w K mg base (k + 1) x ps sp := by
  obtain ⟨f, fd, F, hm, hb⟩ := D
  exact ⟨f, fd, F.ok S len fun cdv A outer s H vs Q E hr h => ⟨t, PSs.nox (dv f cdv A outer s H E hr), rd vs H Q E h⟩, hm, F.kp, hb⟩
theorem hu65 {A : Around} {k : Nat} (hr : Room k A) : A.units + 65 < cLine := by have := hr.un; omega
def rTupOf (K : PySem.W.Frag) : List V → Hp → VK → Prop := fun xs H Q => ∃ p ys, xs = [.ref p] ∧ ((SqL K H p ys ∧ ∀ l, H l = none → Q (.ref l) (upd H l (.tup ys))) ∨ (SqT K H p ys ∧ Q (.ref p) H))
def rLenDk : List V → Hp → VK → Prop := fun xs H Q => ∃ a kvs, xs = [V.ref a] ∧ H a = some (.dK kvs) ∧ Q (.int kvs.length) H
theorem call_lenDk {X : Cx} : CallR X (.builtin "len") rLenDk := call_lenD
theorem call_tupOf {X : Cx} : CallR X (.type "tuple") (rTupOf X.K) := call_tuple_of
section
variable {P : Program} {w : World} {K : PySem.W.Frag} {mg : Str → Option Value} {base : Heap}

theorem sc_is_int : FnScope ["value"] ["value"] (defScope s_is_int) := ⟨rfl, rfl, rfl, by decide +kernel, rfl, by decide +kernel, by decide +kernel⟩
abbrev N_is_int : List Str := ["value"]
abbrev P_is_int : List Str := ["value"]
theorem sc_is_in : FnScope ["value", "least", "most"] ["value", "least", "most"] (defScope s_is_in) := ⟨rfl, rfl, rfl, by decide +kernel, rfl, by decide +kernel, by decide +kernel⟩
abbrev N_is_in : List Str := ["value", "least", "most"]
abbrev P_is_in : List Str := ["value", "least", "most"]
theorem sc_is_column : FnScope ["value"] ["value"] (defScope s_is_column) := ⟨rfl, rfl, rfl, by decide +kernel, rfl, by decide +kernel, by decide +kernel⟩
abbrev N_is_column : List Str := ["value"]
abbrev P_is_column : List Str := ["value"]
theorem sc_fits_behind : FnScope ["one", "other"] ["one", "other"] (defScope s_fits_behind) := ⟨rfl, rfl, rfl, by decide +kernel, rfl, by decide +kernel, by decide +kernel⟩
abbrev N_fits_behind : List Str := ["one", "other"]
abbrev P_fits_behind : List Str := ["one", "other"]
theorem sc_need_region : FnScope ["value", "index", "column"] ["value"] (defScope s_need_region) := ⟨rfl, rfl, rfl, by decide +kernel, rfl, by decide +kernel, by decide +kernel⟩
abbrev N_need_region : List Str := ["value", "index", "column"]
abbrev P_need_region : List Str := ["value"]
theorem sc_end_of : FnScope ["region"] ["region"] (defScope s_end_of) := ⟨rfl, rfl, rfl, by decide +kernel, rfl, by decide +kernel, by decide +kernel⟩
abbrev N_end_of : List Str := ["region"]
abbrev P_end_of : List Str := ["region"]
theorem sc_is_open : FnScope ["region", "span"] ["region", "span"] (defScope s_is_open) := ⟨rfl, rfl, rfl, by decide +kernel, rfl, by decide +kernel, by decide +kernel⟩
abbrev N_is_open : List Str := ["region", "span"]
abbrev P_is_open : List Str := ["region", "span"]
theorem sc_after : FnScope ["span", "sign"] ["span", "sign"] (defScope s_after) := ⟨rfl, rfl, rfl, by decide +kernel, rfl, by decide +kernel, by decide +kernel⟩
abbrev N_after : List Str := ["span", "sign"]
abbrev P_after : List Str := ["span", "sign"]
theorem sc_spans_on : FnScope ["word", "found", "sign"] ["word"] (defScope s_spans_on) := ⟨rfl, rfl, rfl, by decide +kernel, rfl, by decide +kernel, by decide +kernel⟩
abbrev N_spans_on : List Str := ["word", "found", "sign"]
abbrev P_spans_on : List Str := ["word"]
theorem sc_need_play : FnScope ["region", "word", "span", "place", "sign"] ["region", "word"] (defScope s_need_play) := ⟨rfl, rfl, rfl, by decide +kernel, rfl, by decide +kernel, by decide +kernel⟩
abbrev N_need_play : List Str := ["region", "word", "span", "place", "sign"]
abbrev P_need_play : List Str := ["region", "word"]
theorem sc_rows_on : FnScope ["word", "found", "height", "sign"] ["word"] (defScope s_rows_on) := ⟨rfl, rfl, rfl, by decide +kernel, rfl, by decide +kernel, by decide +kernel⟩
abbrev N_rows_on : List Str := ["word", "found", "height", "sign"]
abbrev P_rows_on : List Str := ["word"]
theorem sc_need_plays : FnScope ["region", "one", "other"] ["region", "one", "other"] (defScope s_need_plays) := ⟨rfl, rfl, rfl, by decide +kernel, rfl, by decide +kernel, by decide +kernel⟩
abbrev N_need_plays : List Str := ["region", "one", "other"]
abbrev P_need_plays : List Str := ["region", "one", "other"]
theorem sc_flips_of : FnScope ["region", "word", "told", "found", "place", "pair"] ["region", "word"] (defScope s_flips_of) := ⟨rfl, rfl, rfl, by decide +kernel, rfl, by decide +kernel, by decide +kernel⟩
abbrev N_flips_of : List Str := ["region", "word", "told", "found", "place", "pair"]
abbrev P_flips_of : List Str := ["region", "word"]
theorem sc_flips : FnScope ["region", "word"] ["region", "word"] (defScope s_flips) := ⟨rfl, rfl, rfl, by decide +kernel, rfl, by decide +kernel, by decide +kernel⟩
abbrev N_flips : List Str := ["region", "word"]
abbrev P_flips : List Str := ["region", "word"]
theorem sc_flip_distance : FnScope ["region", "one", "other", "a", "b"] ["region", "one", "other"] (defScope s_flip_distance) := ⟨rfl, rfl, rfl, by decide +kernel, rfl, by decide +kernel, by decide +kernel⟩
abbrev N_flip_distance : List Str := ["region", "one", "other", "a", "b"]
abbrev P_flip_distance : List Str := ["region", "one", "other"]
theorem sc_flip_way : FnScope ["region", "one", "other", "found", "goal", "far", "word", "a", "b"] ["region", "one", "other"] (defScope s_flip_way) := ⟨rfl, rfl, rfl, by decide +kernel, rfl, by decide +kernel, by decide +kernel⟩
abbrev N_flip_way : List Str := ["region", "one", "other", "found", "goal", "far", "word", "a", "b"]
abbrev P_flip_way : List Str := ["region", "one", "other"]
theorem sc_law_taken : FnScope ["_law_row", "_law_many", "_law_found", "_law_cell"] ["_law_row", "_law_many"] (defScope s_law_taken) := ⟨rfl, rfl, rfl, by decide +kernel, rfl, by decide +kernel, by decide +kernel⟩
abbrev N_law_taken : List Str := ["_law_row", "_law_many", "_law_found", "_law_cell"]
abbrev P_law_taken : List Str := ["_law_row", "_law_many"]
theorem sc_law_pick : FnScope ["_law_row", "_law_things"] ["_law_row", "_law_things"] (defScope s_law_pick) := ⟨rfl, rfl, rfl, by decide +kernel, rfl, by decide +kernel, by decide +kernel⟩
abbrev N_law_pick : List Str := ["_law_row", "_law_things"]
abbrev P_law_pick : List Str := ["_law_row", "_law_things"]
theorem sc_law_alike : FnScope ["_law_found", "_law_due", "_law_k"] ["_law_found", "_law_due"] (defScope s_law_alike) := ⟨rfl, rfl, rfl, by decide +kernel, rfl, by decide +kernel, by decide +kernel⟩
abbrev N_law_alike : List Str := ["_law_found", "_law_due", "_law_k"]
abbrev P_law_alike : List Str := ["_law_found", "_law_due"]
theorem sc_law_after : FnScope ["_law_span", "_law_sign"] ["_law_span", "_law_sign"] (defScope s_law_after) := ⟨rfl, rfl, rfl, by decide +kernel, rfl, by decide +kernel, by decide +kernel⟩
abbrev N_law_after : List Str := ["_law_span", "_law_sign"]
abbrev P_law_after : List Str := ["_law_span", "_law_sign"]
theorem sc_law_region : FnScope ["_law_row", "_law_wide", "_law_high", "_law_columns", "_law_low", "_law_top", "_law_kind", "_law_x"] ["_law_row", "_law_wide", "_law_high"] (defScope s_law_region) := ⟨rfl, rfl, rfl, by decide +kernel, rfl, by decide +kernel, by decide +kernel⟩
abbrev N_law_region : List Str := ["_law_row", "_law_wide", "_law_high", "_law_columns", "_law_low", "_law_top", "_law_kind", "_law_x"]
abbrev P_law_region : List Str := ["_law_row", "_law_wide", "_law_high"]
theorem sc_law_spans : FnScope ["_law_shape", "_law_found", "_law_x", "_law_y"] ["_law_shape"] (defScope s_law_spans) := ⟨rfl, rfl, rfl, by decide +kernel, rfl, by decide +kernel, by decide +kernel⟩
abbrev N_law_spans : List Str := ["_law_shape", "_law_found", "_law_x", "_law_y"]
abbrev P_law_spans : List Str := ["_law_shape"]
theorem sc_law_plays : FnScope ["_law_shape", "_law_some", "_law_found", "_law_turn", "_law_longer", "_law_word", "_law_span", "_law_sign"] ["_law_shape"] (defScope s_law_plays) := ⟨rfl, rfl, rfl, by decide +kernel, rfl, by decide +kernel, by decide +kernel⟩
abbrev N_law_plays : List Str := ["_law_shape", "_law_some", "_law_found", "_law_turn", "_law_longer", "_law_word", "_law_span", "_law_sign"]
abbrev P_law_plays : List Str := ["_law_shape"]
theorem sc_law_count : FnScope ["_law_shape", "_law_found", "_law_x", "_law_y"] ["_law_shape"] (defScope s_law_count) := ⟨rfl, rfl, rfl, by decide +kernel, rfl, by decide +kernel, by decide +kernel⟩
abbrev N_law_count : List Str := ["_law_shape", "_law_found", "_law_x", "_law_y"]
abbrev P_law_count : List Str := ["_law_shape"]
theorem sc_law_few : FnScope ["_law_row", "_law_most", "_law_shape"] ["_law_row", "_law_most"] (defScope s_law_few) := ⟨rfl, rfl, rfl, by decide +kernel, rfl, by decide +kernel, by decide +kernel⟩
abbrev N_law_few : List Str := ["_law_row", "_law_most", "_law_shape"]
abbrev P_law_few : List Str := ["_law_row", "_law_most"]
theorem sc_law : FnScope ["_law_script", "_law_row", "_law_region_here", "_law_every", "_law_near", "_law_word", "_law_at", "_law_told", "_law_one", "_law_other", "_law_far", "_law_rim", "_law_later", "_law_there", "_law_found", "_law_first", "_law_second"] ["_law_script"] (defScope s_law) := ⟨rfl, rfl, rfl, by decide +kernel, rfl, by decide +kernel, by decide +kernel⟩
abbrev N_law : List Str := ["_law_script", "_law_row", "_law_region_here", "_law_every", "_law_near", "_law_word", "_law_at", "_law_told", "_law_one", "_law_other", "_law_far", "_law_rim", "_law_later", "_law_there", "_law_found", "_law_first", "_law_second"]
abbrev P_law : List Str := ["_law_script"]
def t_is_int (K : PySem.W.Frag) : TS :=
  (tRet (tAndV (tCB (rIsi K) (tCons (tVar 0) (tCons (tC (.ty "int")) tNil))) (tNotV (tCB (rIsi K) (tCons (tVar 0) (tCons (tC (.ty "bool")) tNil))))))
theorem dv_is_int {f : Addr} {cdv : Value} {A : Around} {outer : List Env} {s : Shared} {H : Hp} {E : XK} {k : Nat} (hr : Room k (A.deeper (envOfC "is_int" (defScope s_is_int) s.heap.objs.size f cdv))) (X : Tx mg) :
    PSs (cxOf CX0 P w K mg base N_is_int "is_int" (defScope s_is_int) f cdv A outer s H E).nox (defBody s_is_int) (t_is_int K) := by
  exact (pss_one (ps_ret (pe_and (pe_callB call_isi (by rfl) X.m_isinstance boot_isinstance (pa_cons (pv 0) (pa_cons (pe_bltn (v := .ty "int") (by rfl) X.m_int boot_int rfl) pa_nil))) (pe_one (pe_not (pe_callB call_isi (by rfl) X.m_isinstance boot_isinstance (pa_cons (pv 0) (pa_cons (pe_bltn (v := .ty "bool") (by rfl) X.m_bool boot_bool rfl) pa_nil))))))))
def t_is_in (K : PySem.W.Frag) (spis_int : Sp) : TS :=
  (tRet (tAndV (tCall spis_int [] E0 (tCons (tVar 0) tNil)) (tChain (rI0 fun i j => .bl (decide (i ≤ j))) (rI0 fun i j => .bl (decide (i ≤ j))) (tVar 1) (tVar 0) (tVar 2))))
theorem dv_is_in {f : Addr} {cdv : Value} {A : Around} {outer : List Env} {s : Shared} {H : Hp} {E : XK} {k : Nat} (hr : Room k (A.deeper (envOfC "is_in" (defScope s_is_in) s.heap.objs.size f cdv))) (X : Tx mg) {kis_int : Nat} {spis_int : Sp} (Cis_int : Cal P w K mg base kis_int "is_int" P_is_int spis_int) (his_int : kis_int ≤ k) :
    PSs (cxOf CX0 P w K mg base N_is_in "is_in" (defScope s_is_in) f cdv A outer s H E).nox (defBody s_is_in) (t_is_in K spis_int) := by
  exact (pss_one (ps_ret (pe_and (pe_cal Cis_int (hr.mono his_int) (by rfl) (pa_cons (pv 0) pa_nil)) (pe_one (pe_chain op_le op_le (pv 1) (pv 0) (pv 2))))))
def t_is_column (K : PySem.W.Frag) (spis_in : Sp) : TS :=
  (tSeq (tIfS (tOr (tNot (tB (tCB (rIsi K) (tCons (tVar 0) (tCons (tC (.ty "tuple")) tNil))))) (tTest (tOp rNe (tCB (rLenS K) (tCons (tVar 0) tNil)) (tC (.int 2))))) (tRet (tC (.bl false))) tNext)
  (tRet (tAndV (tCall spis_in [] E0 (tCons (tOp (rIxT K) (tVar 0) (tC (.int 0))) (tCons (tC (.int 0)) (tCons (tOp (rI0 fun i j => .int (i - j)) (tC (.int 60)) (tC (.int 1))) tNil)))) (tCall spis_in [] E0 (tCons (tOp (rIxT K) (tVar 0) (tC (.int 1))) (tCons (tOp (rIxT K) (tVar 0) (tC (.int 0))) (tCons (tOp (rI0 fun i j => .int (i - j)) (tC (.int 60)) (tC (.int 1))) tNil)))))))
theorem dv_is_column {f : Addr} {cdv : Value} {A : Around} {outer : List Env} {s : Shared} {H : Hp} {E : XK} {k : Nat} (hr : Room k (A.deeper (envOfC "is_column" (defScope s_is_column) s.heap.objs.size f cdv))) (X : Tx mg) {kis_in : Nat} {spis_in : Sp} (Cis_in : Cal P w K mg base kis_in "is_in" P_is_in spis_in) (his_in : kis_in ≤ k) :
    PSs (cxOf CX0 P w K mg base N_is_column "is_column" (defScope s_is_column) f cdv A outer s H E).nox (defBody s_is_column) (t_is_column K spis_in) := by
  obtain ⟨tk, hrooms⟩ := X.rooms
  exact (pss_cons (ps_if (PW.pt (pw_or (pt_not (pt_val (pe_callB call_isi (by rfl) X.m_isinstance boot_isinstance (pa_cons (pv 0) (pa_cons (pe_bltn (v := .ty "tuple") (by rfl) X.m_tuple boot_tuple rfl) pa_nil))))) (pw_or1 (pt_cmpR op_ne (pe_callB call_lenS (by rfl) X.m_len boot_len (pa_cons (pv 0) pa_nil)) pe_int (nomark _))))) (pss_one (ps_ret pe_bl)) pss_nil)
  (pss_one (ps_ret (pe_and (pe_cal Cis_in (hr.mono his_in) (by rfl) (pa_cons (pe_ix ix_tup (pv 0) pe_int (fun _ _ => rfl)) (pa_cons pe_int (pa_cons (pe_op op_sub (pe_glob (by rfl) hrooms ⟨_, rfl⟩) pe_int) pa_nil)))) (pe_one (pe_cal Cis_in (hr.mono his_in) (by rfl) (pa_cons (pe_ix ix_tup (pv 0) pe_int (fun _ _ => rfl)) (pa_cons (pe_ix ix_tup (pv 0) pe_int (fun _ _ => rfl)) (pa_cons (pe_op op_sub (pe_glob (by rfl) hrooms ⟨_, rfl⟩) pe_int) pa_nil)))))))))
def t_fits_behind (K : PySem.W.Frag) : TS :=
  (tRet (tChain3 (rI0 fun i j => .bl (decide (i ≤ j))) (rI0 fun i j => .bl (decide (i ≤ j))) (rI0 fun i j => .bl (decide (i ≤ j))) (tOp (rIxT K) (tVar 0) (tC (.int 0))) (tOp (rIxT K) (tVar 1) (tC (.int 0))) (tOp (rIxT K) (tVar 0) (tC (.int 1))) (tOp (rIxT K) (tVar 1) (tC (.int 1)))))
theorem dv_fits_behind {f : Addr} {cdv : Value} {A : Around} {outer : List Env} {s : Shared} {H : Hp} {E : XK} {k : Nat} (hr : Room k (A.deeper (envOfC "fits_behind" (defScope s_fits_behind) s.heap.objs.size f cdv))) (X : Tx mg) :
    PSs (cxOf CX0 P w K mg base N_fits_behind "fits_behind" (defScope s_fits_behind) f cdv A outer s H E).nox (defBody s_fits_behind) (t_fits_behind K) := by
  exact (pss_one (ps_ret (pe_chain3 op_le op_le op_le (pe_ix ix_tup (pv 0) pe_int (fun _ _ => rfl)) (pe_ix ix_tup (pv 1) pe_int (fun _ _ => rfl)) (pe_ix ix_tup (pv 0) pe_int (fun _ _ => rfl)) (pe_ix ix_tup (pv 1) pe_int (fun _ _ => rfl)))))
def t_need_region (K : PySem.W.Frag) (spis_column : Sp) (spfits_behind : Sp) : TS :=
  (tSeq (tIfS (tOr (tNot (tB (tCB (rIsi K) (tCons (tVar 0) (tCons (tC (.ty "tuple")) tNil))))) (tNot (tTest (tChain (rI0 fun i j => .bl (decide (i ≤ j))) (rI0 fun i j => .bl (decide (i ≤ j))) (tC (.int 1)) (tCB (rLenS K) (tCons (tVar 0) tNil)) (tC (.int 60)))))) tNever tNext)
  (tFor (iEnT K (tCons (tVar 0) tNil)) (gTup K 2 (gCons (gName 1) (gCons (gName 2) gNil)))
    (tSeq (tIfS (tNot (tB (tCall spis_column [] E0 (tCons (tVar 2) tNil)))) tNever tNext)
  (tIfS (tOr (tAnd (tTest (tOp rEq (tVar 1) (tC (.int 0)))) (tTest (tOp rNe (tOp (rIxT K) (tVar 2) (tC (.int 0))) (tC (.int 0))))) (tAnd (tTest (tOp (rI0 fun i j => .bl (decide (j < i))) (tVar 1) (tC (.int 0)))) (tNot (tB (tCall spfits_behind [] E0 (tCons (tOp (rIxT K) (tVar 0) (tOp (rI0 fun i j => .int (i - j)) (tVar 1) (tC (.int 1)))) (tCons (tVar 2) tNil))))))) tNever tNext))))
theorem dv_need_region {f : Addr} {cdv : Value} {A : Around} {outer : List Env} {s : Shared} {H : Hp} {E : XK} {k : Nat} (hr : Room k (A.deeper (envOfC "need_region" (defScope s_need_region) s.heap.objs.size f cdv))) (X : Tx mg) {kis_column : Nat} {spis_column : Sp} (Cis_column : Cal P w K mg base kis_column "is_column" P_is_column spis_column) (his_column : kis_column ≤ k) {kfits_behind : Nat} {spfits_behind : Sp} (Cfits_behind : Cal P w K mg base kfits_behind "fits_behind" P_fits_behind spfits_behind) (hfits_behind : kfits_behind ≤ k) :
    PSs (cxOf CX0 P w K mg base N_need_region "need_region" (defScope s_need_region) f cdv A outer s H E).nox (defBody s_need_region) (t_need_region K spis_column spfits_behind) := by
  obtain ⟨tk, hrooms⟩ := X.rooms
  exact (pss_cons (ps_if (PW.pt (pw_or (pt_not (pt_val (pe_callB call_isi (by rfl) X.m_isinstance boot_isinstance (pa_cons (pv 0) (pa_cons (pe_bltn (v := .ty "tuple") (by rfl) X.m_tuple boot_tuple rfl) pa_nil))))) (pw_or1 (pt_not (pt_chain op_le op_le pe_int (pe_callB call_lenS (by rfl) X.m_len boot_len (pa_cons (pv 0) pa_nil)) (pe_glob (by rfl) hrooms ⟨_, rfl⟩)))))) (pss_one ps_never) pss_nil)
  (pss_one (ps_for PassesOwn.never rfl (pi_enumT (by rfl) X.m_enumerate (pa_cons (pv 0) pa_nil)) (pg_tup rfl (pgs_cons (pg_name (i := 1) sc_need_region.nd rfl (Or.inl rfl)) (pgs_cons (pg_name (i := 2) sc_need_region.nd rfl (Or.inl rfl)) pgs_nil)))
    (pss_cons (ps_if (pt_not (pt_val (pe_cal Cis_column (hr.mono his_column) (by rfl) (pa_cons (pv 2) pa_nil)))) (pss_one ps_never) pss_nil)
  (pss_one (ps_if (PW.pt (pw_or (PW.pt (pw_and (pt_cmpR op_eq (pv 1) pe_int (nomark _)) (pw_and1 (pt_cmpR op_ne (pe_ix ix_tup (pv 2) pe_int (fun _ _ => rfl)) pe_int (nomark _))))) (pw_or1 (PW.pt (pw_and (pt_cmpR op_gt (pv 1) pe_int (nomark _)) (pw_and1 (pt_not (pt_val (pe_cal Cfits_behind (hr.mono hfits_behind) (by rfl) (pa_cons (pe_ix ix_tup (pv 0) (pe_op op_sub (pv 1) pe_int) (fun _ _ => rfl)) (pa_cons (pv 2) pa_nil))))))))))) (pss_one ps_never) pss_nil))))))
def t_end_of (K : PySem.W.Frag) : TS :=
  (tRet (tTup (tCons (tOp (rI0 fun i j => .int (i - j)) (tCB (rLenS K) (tCons (tVar 0) tNil)) (tC (.int 1))) (tCons (tOp (rIxT K) (tOp (rIxT K) (tVar 0) (tUn (rU fun i => .int (-i)) (tC (.int 1)))) (tC (.int 1))) tNil))))
theorem dv_end_of {f : Addr} {cdv : Value} {A : Around} {outer : List Env} {s : Shared} {H : Hp} {E : XK} {k : Nat} (hr : Room k (A.deeper (envOfC "end_of" (defScope s_end_of) s.heap.objs.size f cdv))) (X : Tx mg) :
    PSs (cxOf CX0 P w K mg base N_end_of "end_of" (defScope s_end_of) f cdv A outer s H E).nox (defBody s_end_of) (t_end_of K) := by
  exact (pss_one (ps_ret (pe_tup (pa_cons (pe_op op_sub (pe_callB call_lenS (by rfl) X.m_len boot_len (pa_cons (pv 0) pa_nil)) pe_int) (pa_cons (pe_ix ix_tup (pe_ix ix_tup (pv 0) (pe_un un_neg pe_int) (fun _ _ => rfl)) pe_int (fun _ _ => rfl)) pa_nil)))))
def t_is_open (K : PySem.W.Frag) : TS :=
  (tRet (tAndV (tChain (rI0 fun i j => .bl (decide (i ≤ j))) (rI0 fun i j => .bl (decide (i < j))) (tC (.int 0)) (tOp (rIxT K) (tVar 1) (tC (.int 0))) (tCB (rLenS K) (tCons (tVar 0) tNil))) (tChain (rI0 fun i j => .bl (decide (i ≤ j))) (rI0 fun i j => .bl (decide (i ≤ j))) (tOp (rIxT K) (tOp (rIxT K) (tVar 0) (tOp (rIxT K) (tVar 1) (tC (.int 0)))) (tC (.int 0))) (tOp (rIxT K) (tVar 1) (tC (.int 1))) (tOp (rIxT K) (tOp (rIxT K) (tVar 0) (tOp (rIxT K) (tVar 1) (tC (.int 0)))) (tC (.int 1))))))
theorem dv_is_open {f : Addr} {cdv : Value} {A : Around} {outer : List Env} {s : Shared} {H : Hp} {E : XK} {k : Nat} (hr : Room k (A.deeper (envOfC "is_open" (defScope s_is_open) s.heap.objs.size f cdv))) (X : Tx mg) :
    PSs (cxOf CX0 P w K mg base N_is_open "is_open" (defScope s_is_open) f cdv A outer s H E).nox (defBody s_is_open) (t_is_open K) := by
  exact (pss_one (ps_ret (pe_and (pe_chain op_le op_lt pe_int (pe_ix ix_tup (pv 1) pe_int (fun _ _ => rfl)) (pe_callB call_lenS (by rfl) X.m_len boot_len (pa_cons (pv 0) pa_nil))) (pe_one (pe_chain op_le op_le (pe_ix ix_tup (pe_ix ix_tup (pv 0) (pe_ix ix_tup (pv 1) pe_int (fun _ _ => rfl)) (fun _ _ => rfl)) pe_int (fun _ _ => rfl)) (pe_ix ix_tup (pv 1) pe_int (fun _ _ => rfl)) (pe_ix ix_tup (pe_ix ix_tup (pv 0) (pe_ix ix_tup (pv 1) pe_int (fun _ _ => rfl)) (fun _ _ => rfl)) pe_int (fun _ _ => rfl)))))))
def t_after (K : PySem.W.Frag) : TS :=
  (tRet (tIf (tTest (tOp rEq (tVar 1) (tC (.str "L")))) (tTup (tCons (tOp (rI0 fun i j => .int (i + j)) (tOp (rIxT K) (tVar 0) (tC (.int 0))) (tC (.int 1))) (tCons (tOp (rIxT K) (tVar 0) (tC (.int 1))) tNil))) (tTup (tCons (tOp (rIxT K) (tVar 0) (tC (.int 0))) (tCons (tOp (rI0 fun i j => .int (i + j)) (tOp (rIxT K) (tVar 0) (tC (.int 1))) (tC (.int 1))) tNil)))))
theorem dv_after {f : Addr} {cdv : Value} {A : Around} {outer : List Env} {s : Shared} {H : Hp} {E : XK} {k : Nat} (hr : Room k (A.deeper (envOfC "after" (defScope s_after) s.heap.objs.size f cdv))) (X : Tx mg) :
    PSs (cxOf CX0 P w K mg base N_after "after" (defScope s_after) f cdv A outer s H E).nox (defBody s_after) (t_after K) := by
  exact (pss_one (ps_ret (pe_ifExp (pt_cmpR op_eq (pv 1) pe_str (nomark _)) (pe_tup (pa_cons (pe_op op_add (pe_ix ix_tup (pv 0) pe_int (fun _ _ => rfl)) pe_int) (pa_cons (pe_ix ix_tup (pv 0) pe_int (fun _ _ => rfl)) pa_nil))) (pe_tup (pa_cons (pe_ix ix_tup (pv 0) pe_int (fun _ _ => rfl)) (pa_cons (pe_op op_add (pe_ix ix_tup (pv 0) pe_int (fun _ _ => rfl)) pe_int) pa_nil))))))
def t_spans_on (K : PySem.W.Frag) (spafter : Sp) : TS :=
  (tSeq (tAsg (tLst (tCons (tTup (tCons (tC (.int 0)) (tCons (tC (.int 0)) tNil))) tNil)) (gName 1))
  (tSeq (tFor (iStr (tVar 0)) (gName 2)
    (tDrop (tBM K "list" rAppend (tVar 1) (tCons (tCall spafter [] E0 (tCons (tOp (rIxL K) (tVar 1) (tUn (rU fun i => .int (-i)) (tC (.int 1)))) (tCons (tVar 2) tNil))) tNil))))
  (tRet (tVar 1))))
theorem dv_spans_on {f : Addr} {cdv : Value} {A : Around} {outer : List Env} {s : Shared} {H : Hp} {E : XK} {k : Nat} (hr : Room k (A.deeper (envOfC "spans_on" (defScope s_spans_on) s.heap.objs.size f cdv))) (X : Tx mg) {kafter : Nat} {spafter : Sp} (Cafter : Cal P w K mg base kafter "after" P_after spafter) (hafter : kafter ≤ k) :
    PSs (cxOf CX0 P w K mg base N_spans_on "spans_on" (defScope s_spans_on) f cdv A outer s H E).nox (defBody s_spans_on) (t_spans_on K spafter) := by
  exact (pss_cons (ps_set (i := 1) sc_spans_on.nd rfl (Or.inl rfl) (pe_lst (pa_cons (pe_tup (pa_cons pe_int (pa_cons pe_int pa_nil))) pa_nil)))
  (pss_cons (ps_for PassesOwn.never rfl (pi_str (pv 0)) (pg_name (i := 2) sc_spans_on.nd rfl (Or.inl rfl))
    (pss_one (ps_expr (pe_bm PySem.F.plainAttrs_list PySem.F.slot_list_append PySem.F.type_list_append mt_append (pv 1) (pa_cons (pe_cal Cafter (hr.mono hafter) (by rfl) (pa_cons (pe_ix ix_list (pv 1) (pe_un un_neg pe_int) (fun _ _ => rfl)) (pa_cons (pv 2) pa_nil))) pa_nil)))))
  (pss_one (ps_ret (pv 1)))))
def t_need_play (K : PySem.W.Frag) (spis_open : Sp) (spafter : Sp) (spend_of : Sp) : TS :=
  (tSeq (tIfS (tNot (tB (tCB (rIsi K) (tCons (tVar 1) (tCons (tC (.ty "str")) tNil))))) tNever tNext)
  (tSeq (tAsg (tTup (tCons (tC (.int 0)) (tCons (tC (.int 0)) tNil))) (gName 2))
  (tSeq (tFor (iEnS (tCons (tVar 1) tNil)) (gTup K 2 (gCons (gName 3) (gCons (gName 4) gNil)))
    (tSeq (tIfS (tOr (tTest (tOp rNotInS (tVar 4) (tC (.str "LR")))) (tNot (tB (tCall spis_open [] E0 (tCons (tVar 0) (tCons (tCall spafter [] E0 (tCons (tVar 2) (tCons (tVar 4) tNil))) tNil)))))) tNever tNext)
  (tAsg (tCall spafter [] E0 (tCons (tVar 2) (tCons (tVar 4) tNil))) (gName 2))))
  (tIfS (tTest (tOp (rNeD K) (tVar 2) (tCall spend_of [] E0 (tCons (tVar 0) tNil)))) tNever tNext))))
theorem dv_need_play {f : Addr} {cdv : Value} {A : Around} {outer : List Env} {s : Shared} {H : Hp} {E : XK} {k : Nat} (hr : Room k (A.deeper (envOfC "need_play" (defScope s_need_play) s.heap.objs.size f cdv))) (X : Tx mg) {kis_open : Nat} {spis_open : Sp} (Cis_open : Cal P w K mg base kis_open "is_open" P_is_open spis_open) (his_open : kis_open ≤ k) {kafter : Nat} {spafter : Sp} (Cafter : Cal P w K mg base kafter "after" P_after spafter) (hafter : kafter ≤ k) {kend_of : Nat} {spend_of : Sp} (Cend_of : Cal P w K mg base kend_of "end_of" P_end_of spend_of) (hend_of : kend_of ≤ k) :
    PSs (cxOf CX0 P w K mg base N_need_play "need_play" (defScope s_need_play) f cdv A outer s H E).nox (defBody s_need_play) (t_need_play K spis_open spafter spend_of) := by
  exact (pss_cons (ps_if (pt_not (pt_val (pe_callB call_isi (by rfl) X.m_isinstance boot_isinstance (pa_cons (pv 1) (pa_cons (pe_bltn (v := .ty "str") (by rfl) X.m_str boot_str rfl) pa_nil))))) (pss_one ps_never) pss_nil)
  (pss_cons (ps_set (i := 2) sc_need_play.nd rfl (Or.inl rfl) (pe_tup (pa_cons pe_int (pa_cons pe_int pa_nil))))
  (pss_cons (ps_for PassesOwn.never rfl (pi_enumS (by rfl) X.m_enumerate (pa_cons (pv 1) pa_nil)) (pg_tup rfl (pgs_cons (pg_name (i := 3) sc_need_play.nd rfl (Or.inl rfl)) (pgs_cons (pg_name (i := 4) sc_need_play.nd rfl (Or.inl rfl)) pgs_nil)))
    (pss_cons (ps_if (PW.pt (pw_or (pt_cmpR op_notInS (pv 4) pe_str (by rfl)) (pw_or1 (pt_not (pt_val (pe_cal Cis_open (hr.mono his_open) (by rfl) (pa_cons (pv 0) (pa_cons (pe_cal Cafter (hr.mono hafter) (by rfl) (pa_cons (pv 2) (pa_cons (pv 4) pa_nil))) pa_nil)))))))) (pss_one ps_never) pss_nil)
  (pss_one (ps_set (i := 2) sc_need_play.nd rfl (Or.inl rfl) (pe_cal Cafter (hr.mono hafter) (by rfl) (pa_cons (pv 2) (pa_cons (pv 4) pa_nil)))))))
  (pss_one (ps_if (pt_cmpR (op_neD hr.units) (pv 2) (pe_cal Cend_of (hr.mono hend_of) (by rfl) (pa_cons (pv 0) pa_nil)) (nomark _)) (pss_one ps_never) pss_nil)))))
def t_rows_on (K : PySem.W.Frag) : TS :=
  (tSeq (tPar 1 2 (tCons (tLst tNil) (tCons (tC (.int 0)) tNil)))
  (tSeq (tFor (iStr (tVar 0)) (gName 3)
    (tIfS (tTest (tOp rEq (tVar 3) (tC (.str "L")))) (tDrop (tBM K "list" rAppend (tVar 1) (tCons (tVar 2) tNil))) (tAug 2 (tC (.int 1)) (ipI fun i j => i + j))))
  (tRet (tVar 1))))
theorem dv_rows_on {f : Addr} {cdv : Value} {A : Around} {outer : List Env} {s : Shared} {H : Hp} {E : XK} {k : Nat} (hr : Room k (A.deeper (envOfC "rows_on" (defScope s_rows_on) s.heap.objs.size f cdv))) (X : Tx mg) :
    PSs (cxOf CX0 P w K mg base N_rows_on "rows_on" (defScope s_rows_on) f cdv A outer s H E).nox (defBody s_rows_on) (t_rows_on K) := by
  exact (pss_cons (ps_par (i := 1) (j := 2) rfl sc_rows_on.nd rfl rfl (by decide) rfl rfl (pa_cons (pe_lst pa_nil) (pa_cons pe_int pa_nil)) (by rfl))
  (pss_cons (ps_for PassesOwn.never rfl (pi_str (pv 0)) (pg_name (i := 3) sc_rows_on.nd rfl (Or.inl rfl))
    (pss_one (ps_if (pt_cmpR op_eq (pv 3) pe_str (nomark _)) (pss_one (ps_expr (pe_bm PySem.F.plainAttrs_list PySem.F.slot_list_append PySem.F.type_list_append mt_append (pv 1) (pa_cons (pv 2) pa_nil)))) (pss_one (ps_aug (i := 2) sc_rows_on.nd rfl (Or.inl rfl) pe_int ip_add)))))
  (pss_one (ps_ret (pv 1)))))
def t_need_plays (K : PySem.W.Frag) (spneed_region : Sp) (spneed_play : Sp) : TS :=
  (tSeq (tDrop (tCall spneed_region [] E0 (tCons (tVar 0) tNil)))
  (tSeq (tDrop (tCall spneed_play [] E0 (tCons (tVar 0) (tCons (tVar 1) tNil))))
  (tDrop (tCall spneed_play [] E0 (tCons (tVar 0) (tCons (tVar 2) tNil))))))
theorem dv_need_plays {f : Addr} {cdv : Value} {A : Around} {outer : List Env} {s : Shared} {H : Hp} {E : XK} {k : Nat} (hr : Room k (A.deeper (envOfC "need_plays" (defScope s_need_plays) s.heap.objs.size f cdv))) (X : Tx mg) {kneed_region : Nat} {spneed_region : Sp} (Cneed_region : Cal P w K mg base kneed_region "need_region" P_need_region spneed_region) (hneed_region : kneed_region ≤ k) {kneed_play : Nat} {spneed_play : Sp} (Cneed_play : Cal P w K mg base kneed_play "need_play" P_need_play spneed_play) (hneed_play : kneed_play ≤ k) :
    PSs (cxOf CX0 P w K mg base N_need_plays "need_plays" (defScope s_need_plays) f cdv A outer s H E).nox (defBody s_need_plays) (t_need_plays K spneed_region spneed_play) := by
  exact (pss_cons (ps_expr (pe_cal Cneed_region (hr.mono hneed_region) (by rfl) (pa_cons (pv 0) pa_nil)))
  (pss_cons (ps_expr (pe_cal Cneed_play (hr.mono hneed_play) (by rfl) (pa_cons (pv 0) (pa_cons (pv 1) pa_nil))))
  (pss_one (ps_expr (pe_cal Cneed_play (hr.mono hneed_play) (by rfl) (pa_cons (pv 0) (pa_cons (pv 2) pa_nil)))))))
def t_flips_of (K : PySem.W.Frag) (spspans_on : Sp) (spis_open : Sp) (spafter : Sp) : TS :=
  (tSeq (tPar 2 3 (tCons (tCall spspans_on [] E0 (tCons (tVar 1) tNil)) (tCons (tLst tNil) tNil)))
  (tSeq (tFor (iRng1 (tCons (tOp (rI0 fun i j => .int (i - j)) (tCB rLenT (tCons (tVar 1) tNil)) (tC (.int 1))) tNil)) (gName 4)
    (tSeq (tAsg (tSl rSlS (tVar 1) (tPart (tVar 4)) (tPart (tOp (rI0 fun i j => .int (i + j)) (tVar 4) (tC (.int 2))))) (gName 5))
  (tIfS (tAnd (tTest (tOp (rIn K false) (tVar 5) (tTup (tCons (tC (.str "LR")) (tCons (tC (.str "RL")) tNil))))) (tB (tCall spis_open [] E0 (tCons (tVar 0) (tCons (tCall spafter [] E0 (tCons (tOp (rIxL K) (tVar 2) (tVar 4)) (tCons (tOp rIxS (tVar 5) (tC (.int 1))) tNil))) tNil))))) (tDrop (tBM K "list" rAppend (tVar 3) (tCons (tOp rAddT (tOp rAddT (tSl rSlS (tVar 1) tNoPart (tPart (tVar 4))) (tRevS (tVar 5))) (tSl rSlS (tVar 1) (tPart (tOp (rI0 fun i j => .int (i + j)) (tVar 4) (tC (.int 2)))) tNoPart)) tNil))) tNext)))
  (tRet (tCB (rSortedS K) (tCons (tVar 3) tNil)))))
theorem dv_flips_of {f : Addr} {cdv : Value} {A : Around} {outer : List Env} {s : Shared} {H : Hp} {E : XK} {k : Nat} (hr : Room k (A.deeper (envOfC "flips_of" (defScope s_flips_of) s.heap.objs.size f cdv))) (X : Tx mg) {kspans_on : Nat} {spspans_on : Sp} (Cspans_on : Cal P w K mg base kspans_on "spans_on" P_spans_on spspans_on) (hspans_on : kspans_on ≤ k) {kis_open : Nat} {spis_open : Sp} (Cis_open : Cal P w K mg base kis_open "is_open" P_is_open spis_open) (his_open : kis_open ≤ k) {kafter : Nat} {spafter : Sp} (Cafter : Cal P w K mg base kafter "after" P_after spafter) (hafter : kafter ≤ k) :
    PSs (cxOf CX0 P w K mg base N_flips_of "flips_of" (defScope s_flips_of) f cdv A outer s H E).nox (defBody s_flips_of) (t_flips_of K spspans_on spis_open spafter) := by
  exact (pss_cons (ps_par (i := 2) (j := 3) rfl sc_flips_of.nd rfl rfl (by decide) rfl rfl (pa_cons (pe_cal Cspans_on (hr.mono hspans_on) (by rfl) (pa_cons (pv 1) pa_nil)) (pa_cons (pe_lst pa_nil) pa_nil)) (by rfl))
  (pss_cons (ps_for PassesOwn.never rfl (pi_range1 (by rfl) X.m_range (pa_cons (pe_op op_sub (pe_callB call_lenT (by rfl) X.m_len boot_len (pa_cons (pv 1) pa_nil)) pe_int) pa_nil)) (pg_name (i := 4) sc_flips_of.nd rfl (Or.inl rfl))
    (pss_cons (ps_set (i := 5) sc_flips_of.nd rfl (Or.inl rfl) (pe_slice sl_str (pv 1) (po_some (pv 4)) (po_some (pe_op op_add (pv 4) pe_int))))
  (pss_one (ps_if (PW.pt (pw_and (pt_cmpR op_in_seq (pv 5) (pe_tup (pa_cons pe_str (pa_cons pe_str pa_nil))) (by rfl)) (pw_and1 (pt_val (pe_cal Cis_open (hr.mono his_open) (by rfl) (pa_cons (pv 0) (pa_cons (pe_cal Cafter (hr.mono hafter) (by rfl) (pa_cons (pe_ix ix_list (pv 2) (pv 4) (fun _ _ => rfl)) (pa_cons (pe_ix ix_str (pv 5) pe_int (fun _ _ => rfl)) pa_nil))) pa_nil))))))) (pss_one (ps_expr (pe_bm PySem.F.plainAttrs_list PySem.F.slot_list_append PySem.F.type_list_append mt_append (pv 3) (pa_cons (pe_op op_addT (pe_op op_addT (pe_slice sl_str (pv 1) po_none (po_some (pv 4))) (pe_revS (pv 5))) (pe_slice sl_str (pv 1) (po_some (pe_op op_add (pv 4) pe_int)) po_none)) pa_nil)))) pss_nil))))
  (pss_one (ps_ret (pe_callB cr_sortedS (by rfl) X.m_sorted boot_sorted (pa_cons (pv 3) pa_nil))))))
def t_flips (K : PySem.W.Frag) (spneed_region : Sp) (spneed_play : Sp) (spflips_of : Sp) : TS :=
  (tSeq (tDrop (tCall spneed_region [] E0 (tCons (tVar 0) tNil)))
  (tSeq (tDrop (tCall spneed_play [] E0 (tCons (tVar 0) (tCons (tVar 1) tNil))))
  (tRet (tCall spflips_of [] E0 (tCons (tVar 0) (tCons (tVar 1) tNil))))))
theorem dv_flips {f : Addr} {cdv : Value} {A : Around} {outer : List Env} {s : Shared} {H : Hp} {E : XK} {k : Nat} (hr : Room k (A.deeper (envOfC "flips" (defScope s_flips) s.heap.objs.size f cdv))) (X : Tx mg) {kneed_region : Nat} {spneed_region : Sp} (Cneed_region : Cal P w K mg base kneed_region "need_region" P_need_region spneed_region) (hneed_region : kneed_region ≤ k) {kneed_play : Nat} {spneed_play : Sp} (Cneed_play : Cal P w K mg base kneed_play "need_play" P_need_play spneed_play) (hneed_play : kneed_play ≤ k) {kflips_of : Nat} {spflips_of : Sp} (Cflips_of : Cal P w K mg base kflips_of "flips_of" P_flips_of spflips_of) (hflips_of : kflips_of ≤ k) :
    PSs (cxOf CX0 P w K mg base N_flips "flips" (defScope s_flips) f cdv A outer s H E).nox (defBody s_flips) (t_flips K spneed_region spneed_play spflips_of) := by
  exact (pss_cons (ps_expr (pe_cal Cneed_region (hr.mono hneed_region) (by rfl) (pa_cons (pv 0) pa_nil)))
  (pss_cons (ps_expr (pe_cal Cneed_play (hr.mono hneed_play) (by rfl) (pa_cons (pv 0) (pa_cons (pv 1) pa_nil))))
  (pss_one (ps_ret (pe_cal Cflips_of (hr.mono hflips_of) (by rfl) (pa_cons (pv 0) (pa_cons (pv 1) pa_nil)))))))
def t_flip_distance (K : PySem.W.Frag) (spneed_plays : Sp) (sprows_on : Sp) : TS :=
  (tSeq (tDrop (tCall spneed_plays [] E0 (tCons (tVar 0) (tCons (tVar 1) (tCons (tVar 2) tNil)))))
  (tRet (tCB (rSum K) (tCons (tLc (iZip K (tCons (tCall sprows_on [] E0 (tCons (tVar 1) tNil)) (tCons (tCall sprows_on [] E0 (tCons (tVar 2) tNil)) tNil))) (gTup K 2 (gCons (gName 3) (gCons (gName 4) gNil))) tYes (tCB rAbs (tCons (tOp (rI0 fun i j => .int (i - j)) (tVar 3) (tVar 4)) tNil)) [3, 4]) tNil))))
theorem dv_flip_distance {f : Addr} {cdv : Value} {A : Around} {outer : List Env} {s : Shared} {H : Hp} {E : XK} {k : Nat} (hr : Room k (A.deeper (envOfC "flip_distance" (defScope s_flip_distance) s.heap.objs.size f cdv))) (X : Tx mg) {kneed_plays : Nat} {spneed_plays : Sp} (Cneed_plays : Cal P w K mg base kneed_plays "need_plays" P_need_plays spneed_plays) (hneed_plays : kneed_plays ≤ k) {krows_on : Nat} {sprows_on : Sp} (Crows_on : Cal P w K mg base krows_on "rows_on" P_rows_on sprows_on) (hrows_on : krows_on ≤ k) :
    PSs (cxOf CX0 P w K mg base N_flip_distance "flip_distance" (defScope s_flip_distance) f cdv A outer s H E).nox (defBody s_flip_distance) (t_flip_distance K spneed_plays sprows_on) := by
  exact (pss_cons (ps_expr (pe_cal Cneed_plays (hr.mono hneed_plays) (by rfl) (pa_cons (pv 0) (pa_cons (pv 1) (pa_cons (pv 2) pa_nil)))))
  (pss_one (ps_ret (pe_callB (cr_sum rfl) (by rfl) X.m_sum boot_sum (pa_cons (pe_lc (own := [("a", 3), ("b", 4)]) (g := (gTup K 2 (gCons (gName 3) (gCons (gName 4) gNil)))) (tt := tYes) (by rfl) sc_flip_distance.nd (pi_zip (by rfl) X.m_zip (pa_cons (pe_cal Crows_on (hr.mono hrows_on) (by rfl) (pa_cons (pv 1) pa_nil)) (pa_cons (pe_cal Crows_on (hr.mono hrows_on) (by rfl) (pa_cons (pv 2) pa_nil)) pa_nil))) (blkOk_by (own := [("a", 3), ("b", 4)]) (N := ["region", "one", "other", "a", "b"]) (sc := defScope s_flip_distance) (by decide +kernel)) (fun _ _ _ _ _ => (pg_tup rfl (pgs_cons (pg_name (i := 3) sc_flip_distance.nd rfl (Or.inl rfl)) (pgs_cons (pg_name (i := 4) sc_flip_distance.nd rfl (Or.inl rfl)) pgs_nil)))) (fun _ _ _ _ _ => pts_nil) (fun _ _ _ _ _ => (pe_callB call_absI (by rfl) X.m_abs boot_abs (pa_cons (pe_op op_sub (pv 3) (pv 4)) pa_nil)))) pa_nil)))))
def t_flip_way (K : PySem.W.Frag) (spneed_plays : Sp) (sprows_on : Sp) (spflips_of : Sp) : TS :=
  (tSeq (tDrop (tCall spneed_plays [] E0 (tCons (tVar 0) (tCons (tVar 1) (tCons (tVar 2) tNil)))))
  (tSeq (tPar 3 4 (tCons (tLst (tCons (tVar 1) tNil)) (tCons (tCall sprows_on [] E0 (tCons (tVar 2) tNil)) tNil)))
  (tSeq (tWhile (tTest (tOp rNe (tOp (rIxL K) (tVar 3) (tUn (rU fun i => .int (-i)) (tC (.int 1)))) (tVar 2)))
    (tSeq (tAsg (tCB (rSum K) (tCons (tLc (iZip K (tCons (tCall sprows_on [] E0 (tCons (tOp (rIxL K) (tVar 3) (tUn (rU fun i => .int (-i)) (tC (.int 1)))) tNil)) (tCons (tVar 4) tNil))) (gTup K 2 (gCons (gName 7) (gCons (gName 8) gNil))) tYes (tCB rAbs (tCons (tOp (rI0 fun i j => .int (i - j)) (tVar 7) (tVar 8)) tNil)) [7, 8]) tNil)) (gName 5))
  (tFor (iList K (tCall spflips_of [] E0 (tCons (tVar 0) (tCons (tOp (rIxL K) (tVar 3) (tUn (rU fun i => .int (-i)) (tC (.int 1)))) tNil)))) (gName 6)
    (tIfS (tTest (tOp (rI0 fun i j => .bl (decide (i < j))) (tCB (rSum K) (tCons (tLc (iZip K (tCons (tCall sprows_on [] E0 (tCons (tVar 6) tNil)) (tCons (tVar 4) tNil))) (gTup K 2 (gCons (gName 7) (gCons (gName 8) gNil))) tYes (tCB rAbs (tCons (tOp (rI0 fun i j => .int (i - j)) (tVar 7) (tVar 8)) tNil)) [7, 8]) tNil)) (tVar 5))) (tSeq (tDrop (tBM K "list" rAppend (tVar 3) (tCons (tVar 6) tNil)))
  tBreak) tNext))))
  (tRet (tVar 3)))))
theorem dv_flip_way {f : Addr} {cdv : Value} {A : Around} {outer : List Env} {s : Shared} {H : Hp} {E : XK} {k : Nat} (hr : Room k (A.deeper (envOfC "flip_way" (defScope s_flip_way) s.heap.objs.size f cdv))) (X : Tx mg) {kneed_plays : Nat} {spneed_plays : Sp} (Cneed_plays : Cal P w K mg base kneed_plays "need_plays" P_need_plays spneed_plays) (hneed_plays : kneed_plays ≤ k) {krows_on : Nat} {sprows_on : Sp} (Crows_on : Cal P w K mg base krows_on "rows_on" P_rows_on sprows_on) (hrows_on : krows_on ≤ k) {kflips_of : Nat} {spflips_of : Sp} (Cflips_of : Cal P w K mg base kflips_of "flips_of" P_flips_of spflips_of) (hflips_of : kflips_of ≤ k) :
    PSs (cxOf CX0 P w K mg base N_flip_way "flip_way" (defScope s_flip_way) f cdv A outer s H E).nox (defBody s_flip_way) (t_flip_way K spneed_plays sprows_on spflips_of) := by
  exact (pss_cons (ps_expr (pe_cal Cneed_plays (hr.mono hneed_plays) (by rfl) (pa_cons (pv 0) (pa_cons (pv 1) (pa_cons (pv 2) pa_nil)))))
  (pss_cons (ps_par (i := 3) (j := 4) rfl sc_flip_way.nd rfl rfl (by decide) rfl rfl (pa_cons (pe_lst (pa_cons (pv 1) pa_nil)) (pa_cons (pe_cal Crows_on (hr.mono hrows_on) (by rfl) (pa_cons (pv 2) pa_nil)) pa_nil)) (by rfl))
  (pss_cons (ps_while PassesOwn.never (pt_cmpR op_ne (pe_ix ix_list (pv 3) (pe_un un_neg pe_int) (fun _ _ => rfl)) (pv 2) (nomark _))
    (pss_cons (ps_set (i := 5) sc_flip_way.nd rfl (Or.inl rfl) (pe_callB (cr_sum rfl) (by rfl) X.m_sum boot_sum (pa_cons (pe_lc (own := [("a", 7), ("b", 8)]) (g := (gTup K 2 (gCons (gName 7) (gCons (gName 8) gNil)))) (tt := tYes) (by rfl) sc_flip_way.nd (pi_zip (by rfl) X.m_zip (pa_cons (pe_cal Crows_on (hr.mono hrows_on) (by rfl) (pa_cons (pe_ix ix_list (pv 3) (pe_un un_neg pe_int) (fun _ _ => rfl)) pa_nil)) (pa_cons (pv 4) pa_nil))) (blkOk_by (own := [("a", 7), ("b", 8)]) (N := ["region", "one", "other", "found", "goal", "far", "word", "a", "b"]) (sc := defScope s_flip_way) (by decide +kernel)) (fun _ _ _ _ _ => (pg_tup rfl (pgs_cons (pg_name (i := 7) sc_flip_way.nd rfl (Or.inl rfl)) (pgs_cons (pg_name (i := 8) sc_flip_way.nd rfl (Or.inl rfl)) pgs_nil)))) (fun _ _ _ _ _ => pts_nil) (fun _ _ _ _ _ => (pe_callB call_absI (by rfl) X.m_abs boot_abs (pa_cons (pe_op op_sub (pv 7) (pv 8)) pa_nil)))) pa_nil)))
  (pss_one (ps_for PassesOwn.never rfl (pi_list (pe_cal Cflips_of (hr.mono hflips_of) (by rfl) (pa_cons (pv 0) (pa_cons (pe_ix ix_list (pv 3) (pe_un un_neg pe_int) (fun _ _ => rfl)) pa_nil)))) (pg_name (i := 6) sc_flip_way.nd rfl (Or.inl rfl))
    (pss_one (ps_if (pt_cmpR op_lt (pe_callB (cr_sum rfl) (by rfl) X.m_sum boot_sum (pa_cons (pe_lc (own := [("a", 7), ("b", 8)]) (g := (gTup K 2 (gCons (gName 7) (gCons (gName 8) gNil)))) (tt := tYes) (by rfl) sc_flip_way.nd (pi_zip (by rfl) X.m_zip (pa_cons (pe_cal Crows_on (hr.mono hrows_on) (by rfl) (pa_cons (pv 6) pa_nil)) (pa_cons (pv 4) pa_nil))) (blkOk_by (own := [("a", 7), ("b", 8)]) (N := ["region", "one", "other", "found", "goal", "far", "word", "a", "b"]) (sc := defScope s_flip_way) (by decide +kernel)) (fun _ _ _ _ _ => (pg_tup rfl (pgs_cons (pg_name (i := 7) sc_flip_way.nd rfl (Or.inl rfl)) (pgs_cons (pg_name (i := 8) sc_flip_way.nd rfl (Or.inl rfl)) pgs_nil)))) (fun _ _ _ _ _ => pts_nil) (fun _ _ _ _ _ => (pe_callB call_absI (by rfl) X.m_abs boot_abs (pa_cons (pe_op op_sub (pv 7) (pv 8)) pa_nil)))) pa_nil)) (pv 5) (nomark _)) (pss_cons (ps_expr (pe_bm PySem.F.plainAttrs_list PySem.F.slot_list_append PySem.F.type_list_append mt_append (pv 3) (pa_cons (pv 6) pa_nil)))
  (pss_one ps_break)) pss_nil))))))
  (pss_one (ps_ret (pv 3))))))
def t_law_taken (K : PySem.W.Frag) : TS :=
  (tSeq (tIfS (tTest (tOp (rI0 fun i j => .bl (decide (j < i))) (tOp (rIxL K) (tVar 0) (tC (.int 3))) (tC (.int 0)))) (tSeq (tAsg (tOp (rI (fun _ j => 0 < j) fun i j => .int (i % j)) (tCB rInt1 (tCons (tOp (rIxL K) (tVar 0) (tC (.int 3))) tNil)) (tVar 1)) (gName 2))
  (tSeq (tAsg (tOp (rI CDiv fun i j => .int (i / j)) (tOp (rIxL K) (tVar 0) (tC (.int 3))) (tVar 1)) (gSub (tVar 0) (tC (.int 3)) rSetL))
  (tRet (tVar 2)))) tNext)
  (tSeq (tAsg (tOp (rI0 fun i j => .int (i + j)) (tOp (rIxL K) (tVar 0) (tC (.int 1))) (tC (.int 1))) (gSub (tVar 0) (tC (.int 1)) rSetL))
  (tSeq (tIfS (tTest (tOp (rI0 fun i j => .bl (decide (j < i))) (tOp (rIxL K) (tVar 0) (tC (.int 1))) (tCB (rLenS K) (tCons (tOp (rIxL K) (tVar 0) (tC (.int 0))) tNil)))) (tSeq (tAsg (tOp (rI (fun _ j => 0 < j) fun i j => .int (i % j)) (tCB rInt1 (tCons (tOp (rI0 fun i j => .int (i + j)) (tOp (rI CMul fun i j => .int (i * j)) (tOp (rIxL K) (tVar 0) (tC (.int 2))) (tC (.int 48271))) (tC (.int 11))) tNil)) (tC (.int 2147483647))) (gSub (tVar 0) (tC (.int 2)) rSetL))
  (tRet (tOp (rI (fun _ j => 0 < j) fun i j => .int (i % j)) (tCB rInt1 (tCons (tOp (rI CDiv fun i j => .int (i / j)) (tOp (rIxL K) (tVar 0) (tC (.int 2))) (tC (.int 7))) tNil)) (tVar 1)))) tNext)
  (tSeq (tAsg (tOp (rIxL K) (tOp (rIxL K) (tVar 0) (tC (.int 0))) (tOp (rI0 fun i j => .int (i - j)) (tOp (rIxL K) (tVar 0) (tC (.int 1))) (tC (.int 1)))) (gName 3))
  (tSeq (tAsg (tOp (rI (fun _ j => 0 < j) fun i j => .int (i % j)) (tCB rInt1 (tCons (tOp (rI0 fun i j => .int (i + j)) (tOp (rI0 fun i j => .int (i + j)) (tOp (rI CMul fun i j => .int (i * j)) (tOp (rIxL K) (tVar 0) (tC (.int 2))) (tC (.int 48271))) (tVar 3)) (tC (.int 11))) tNil)) (tC (.int 2147483647))) (gSub (tVar 0) (tC (.int 2)) rSetL))
  (tSeq (tIfS (tTest (tOp (rI0 fun i j => .bl (decide (j ≤ i))) (tVar 3) (tOp (rI CPow fun i j => .int (i ^ j.toNat)) (tC (.int 10)) (tC (.int 18))))) (tAsg (tOp (rI CDiv fun i j => .int (i / j)) (tVar 3) (tVar 1)) (gSub (tVar 0) (tC (.int 3)) rSetL)) tNext)
  (tRet (tOp (rI (fun _ j => 0 < j) fun i j => .int (i % j)) (tCB rInt1 (tCons (tVar 3) tNil)) (tVar 1)))))))))
theorem dv_law_taken {f : Addr} {cdv : Value} {A : Around} {outer : List Env} {s : Shared} {H : Hp} {E : XK} {k : Nat} (hr : Room k (A.deeper (envOfC "_law_taken" (defScope s_law_taken) s.heap.objs.size f cdv))) (X : Tx mg) :
    PSs (cxOf CX0 P w K mg base N_law_taken "_law_taken" (defScope s_law_taken) f cdv A outer s H E).nox (defBody s_law_taken) (t_law_taken K) := by
  exact (pss_cons (ps_if (pt_cmpR op_gt (pe_ix ix_list (pv 0) pe_int (fun _ _ => rfl)) pe_int (nomark _)) (pss_cons (ps_set (i := 2) sc_law_taken.nd rfl (Or.inl rfl) (pe_op op_mod (pe_callTy call_int1I (by rfl) X.m_int boot_int (pa_cons (pe_ix ix_list (pv 0) pe_int (fun _ _ => rfl)) pa_nil)) (pv 1)))
  (pss_cons (ps_asg (pe_op op_fdiv (pe_ix ix_list (pv 0) pe_int (fun _ _ => rfl)) (pv 1)) (pg_sub (pv 0) pe_int set_list))
  (pss_one (ps_ret (pv 2))))) pss_nil)
  (pss_cons (ps_asg (pe_op op_add (pe_ix ix_list (pv 0) pe_int (fun _ _ => rfl)) pe_int) (pg_sub (pv 0) pe_int set_list))
  (pss_cons (ps_if (pt_cmpR op_gt (pe_ix ix_list (pv 0) pe_int (fun _ _ => rfl)) (pe_callB call_lenS (by rfl) X.m_len boot_len (pa_cons (pe_ix ix_list (pv 0) pe_int (fun _ _ => rfl)) pa_nil)) (nomark _)) (pss_cons (ps_asg (pe_op op_mod (pe_callTy call_int1I (by rfl) X.m_int boot_int (pa_cons (pe_op op_add (pe_op op_mul (pe_ix ix_list (pv 0) pe_int (fun _ _ => rfl)) pe_int) pe_int) pa_nil)) pe_int) (pg_sub (pv 0) pe_int set_list))
  (pss_one (ps_ret (pe_op op_mod (pe_callTy call_int1I (by rfl) X.m_int boot_int (pa_cons (pe_op op_fdiv (pe_ix ix_list (pv 0) pe_int (fun _ _ => rfl)) pe_int) pa_nil)) (pv 1))))) pss_nil)
  (pss_cons (ps_set (i := 3) sc_law_taken.nd rfl (Or.inl rfl) (pe_ix ix_list (pe_ix ix_list (pv 0) pe_int (fun _ _ => rfl)) (pe_op op_sub (pe_ix ix_list (pv 0) pe_int (fun _ _ => rfl)) pe_int) (fun _ _ => rfl)))
  (pss_cons (ps_asg (pe_op op_mod (pe_callTy call_int1I (by rfl) X.m_int boot_int (pa_cons (pe_op op_add (pe_op op_add (pe_op op_mul (pe_ix ix_list (pv 0) pe_int (fun _ _ => rfl)) pe_int) (pv 3)) pe_int) pa_nil)) pe_int) (pg_sub (pv 0) pe_int set_list))
  (pss_cons (ps_if (pt_cmpR op_ge (pv 3) (pe_op op_pow pe_int pe_int) (nomark _)) (pss_one (ps_asg (pe_op op_fdiv (pv 3) (pv 1)) (pg_sub (pv 0) pe_int set_list))) pss_nil)
  (pss_one (ps_ret (pe_op op_mod (pe_callTy call_int1I (by rfl) X.m_int boot_int (pa_cons (pv 3) pa_nil)) (pv 1))))))))))
def t_law_pick (K : PySem.W.Frag) (sp_law_taken : Sp) : TS :=
  (tRet (tOp (rIxL K) (tVar 1) (tCall sp_law_taken [] E0 (tCons (tVar 0) (tCons (tCB (rLenS K) (tCons (tVar 1) tNil)) tNil)))))
theorem dv_law_pick {f : Addr} {cdv : Value} {A : Around} {outer : List Env} {s : Shared} {H : Hp} {E : XK} {k : Nat} (hr : Room k (A.deeper (envOfC "_law_pick" (defScope s_law_pick) s.heap.objs.size f cdv))) (X : Tx mg) {k_law_taken : Nat} {sp_law_taken : Sp} (C_law_taken : Cal P w K mg base k_law_taken "_law_taken" P_law_taken sp_law_taken) (h_law_taken : k_law_taken ≤ k) :
    PSs (cxOf CX0 P w K mg base N_law_pick "_law_pick" (defScope s_law_pick) f cdv A outer s H E).nox (defBody s_law_pick) (t_law_pick K sp_law_taken) := by
  exact (pss_one (ps_ret (pe_ix ix_list (pv 1) (pe_cal C_law_taken (hr.mono h_law_taken) (by rfl) (pa_cons (pv 0) (pa_cons (pe_callB call_lenS (by rfl) X.m_len boot_len (pa_cons (pv 1) pa_nil)) pa_nil))) (fun _ _ => rfl))))
def t_law_alike (K : PySem.W.Frag) (sp_law_alike : Sp) : TS :=
  (tSeq (tIfS (tB (tCB (rIsiT K) (tCons (tVar 1) (tCons (tTup (tCons (tC (.ty "tuple")) (tCons (tC (.ty "list")) tNil))) tNil)))) (tSeq (tIfS (tOr (tNot (tB (tCB (rIsiT K) (tCons (tVar 0) (tCons (tTup (tCons (tC (.ty "tuple")) (tCons (tC (.ty "list")) tNil))) tNil))))) (tTest (tOp rNe (tCB (rIsi K) (tCons (tVar 0) (tCons (tC (.ty "list")) tNil))) (tCB (rIsi K) (tCons (tVar 1) (tCons (tC (.ty "list")) tNil)))))) (tRet (tC (.bl false))) tNext)
  (tSeq (tIfS (tTest (tOp rNe (tCB (rLenS K) (tCons (tVar 0) tNil)) (tCB (rLenS K) (tCons (tVar 1) tNil)))) (tRet (tC (.bl false))) tNext)
  (tRet (tOp (rEqD K) (tLc (iRng1 (tCons (tCB (rLenS K) (tCons (tVar 1) tNil)) tNil)) (gName 2) (tNot (tB (tCall sp_law_alike [] E0 (tCons (tOp (rIxL K) (tVar 0) (tVar 2)) (tCons (tOp (rIxL K) (tVar 1) (tVar 2)) tNil))))) (tVar 2) [2]) (tLst tNil))))) tNext)
  (tSeq (tIfS (tOr (tTest (tOp rIsN (tVar 1) (tC .non))) (tB (tCB (rIsi K) (tCons (tVar 1) (tCons (tC (.ty "str")) tNil))))) (tRet (tAndV (tOp (rEqD K) (tVar 0) (tVar 1)) (tOp rEq (tCB (rIsi K) (tCons (tVar 0) (tCons (tC (.ty "str")) tNil))) (tCB (rIsi K) (tCons (tVar 1) (tCons (tC (.ty "str")) tNil)))))) tNext)
  (tRet (tAndV (tCB (rIsi K) (tCons (tVar 0) (tCons (tC (.ty "int")) tNil))) (tAndV (tOp rEq (tCB (rIsi K) (tCons (tVar 0) (tCons (tC (.ty "bool")) tNil))) (tCB (rIsi K) (tCons (tVar 1) (tCons (tC (.ty "bool")) tNil)))) (tOp (rEqD K) (tVar 0) (tVar 1)))))))
theorem dv_law_alike {f : Addr} {cdv : Value} {A : Around} {outer : List Env} {s : Shared} {H : Hp} {E : XK} {k : Nat} (hr : Room k (A.deeper (envOfC "_law_alike" (defScope s_law_alike) s.heap.objs.size f cdv))) (X : Tx mg) {k_law_alike : Nat} {sp_law_alike : Sp} (C_law_alike : Cal P w K mg base k_law_alike "_law_alike" P_law_alike sp_law_alike) (h_law_alike : k_law_alike ≤ k) :
    PSs (cxOf CX0 P w K mg base N_law_alike "_law_alike" (defScope s_law_alike) f cdv A outer s H E).nox (defBody s_law_alike) (t_law_alike K sp_law_alike) := by
  exact (pss_cons (ps_if (pt_val (pe_callB call_isiT (by rfl) X.m_isinstance boot_isinstance (pa_cons (pv 1) (pa_cons (pe_tup (pa_cons (pe_bltn (v := .ty "tuple") (by rfl) X.m_tuple boot_tuple rfl) (pa_cons (pe_bltn (v := .ty "list") (by rfl) X.m_list boot_list rfl) pa_nil))) pa_nil)))) (pss_cons (ps_if (PW.pt (pw_or (pt_not (pt_val (pe_callB call_isiT (by rfl) X.m_isinstance boot_isinstance (pa_cons (pv 0) (pa_cons (pe_tup (pa_cons (pe_bltn (v := .ty "tuple") (by rfl) X.m_tuple boot_tuple rfl) (pa_cons (pe_bltn (v := .ty "list") (by rfl) X.m_list boot_list rfl) pa_nil))) pa_nil))))) (pw_or1 (pt_cmpR op_ne (pe_callB call_isi (by rfl) X.m_isinstance boot_isinstance (pa_cons (pv 0) (pa_cons (pe_bltn (v := .ty "list") (by rfl) X.m_list boot_list rfl) pa_nil))) (pe_callB call_isi (by rfl) X.m_isinstance boot_isinstance (pa_cons (pv 1) (pa_cons (pe_bltn (v := .ty "list") (by rfl) X.m_list boot_list rfl) pa_nil))) (nomark _))))) (pss_one (ps_ret pe_bl)) pss_nil)
  (pss_cons (ps_if (pt_cmpR op_ne (pe_callB call_lenS (by rfl) X.m_len boot_len (pa_cons (pv 0) pa_nil)) (pe_callB call_lenS (by rfl) X.m_len boot_len (pa_cons (pv 1) pa_nil)) (nomark _)) (pss_one (ps_ret pe_bl)) pss_nil)
  (pss_one (ps_ret (pe_cmpR (op_eqD hr.units) (pe_lc (own := [("_law_k", 2)]) (g := (gName 2)) (tt := (tNot (tB (tCall sp_law_alike [] E0 (tCons (tOp (rIxL K) (tVar 0) (tVar 2)) (tCons (tOp (rIxL K) (tVar 1) (tVar 2)) tNil)))))) (by rfl) sc_law_alike.nd (pi_range1 (by rfl) X.m_range (pa_cons (pe_callB call_lenS (by rfl) X.m_len boot_len (pa_cons (pv 1) pa_nil)) pa_nil)) (blkOk_by (own := [("_law_k", 2)]) (N := ["_law_found", "_law_due", "_law_k"]) (sc := defScope s_law_alike) (by decide +kernel)) (fun _ _ _ _ _ => (pg_name (i := 2) sc_law_alike.nd rfl (Or.inl rfl))) (fun _ _ _ _ _ => (pts_one (pt_not (pt_val (pe_cal C_law_alike (hr.mono h_law_alike) (by rfl) (pa_cons (pe_ix ix_list (pv 0) (pv 2) (fun _ _ => rfl)) (pa_cons (pe_ix ix_list (pv 1) (pv 2) (fun _ _ => rfl)) pa_nil))))))) (fun _ _ _ _ _ => (pv 2))) (pe_lst pa_nil) (nomark _)))))) pss_nil)
  (pss_cons (ps_if (PW.pt (pw_or (pt_cmpR op_isN1 (pv 1) pe_non (nomark _)) (pw_or1 (pt_val (pe_callB call_isi (by rfl) X.m_isinstance boot_isinstance (pa_cons (pv 1) (pa_cons (pe_bltn (v := .ty "str") (by rfl) X.m_str boot_str rfl) pa_nil))))))) (pss_one (ps_ret (pe_and (pe_cmpR (op_eqD hr.units) (pv 0) (pv 1) (nomark _)) (pe_one (pe_cmpR op_eq (pe_callB call_isi (by rfl) X.m_isinstance boot_isinstance (pa_cons (pv 0) (pa_cons (pe_bltn (v := .ty "str") (by rfl) X.m_str boot_str rfl) pa_nil))) (pe_callB call_isi (by rfl) X.m_isinstance boot_isinstance (pa_cons (pv 1) (pa_cons (pe_bltn (v := .ty "str") (by rfl) X.m_str boot_str rfl) pa_nil))) (nomark _)))))) pss_nil)
  (pss_one (ps_ret (pe_and (pe_callB call_isi (by rfl) X.m_isinstance boot_isinstance (pa_cons (pv 0) (pa_cons (pe_bltn (v := .ty "int") (by rfl) X.m_int boot_int rfl) pa_nil))) (pe_and (pe_cmpR op_eq (pe_callB call_isi (by rfl) X.m_isinstance boot_isinstance (pa_cons (pv 0) (pa_cons (pe_bltn (v := .ty "bool") (by rfl) X.m_bool boot_bool rfl) pa_nil))) (pe_callB call_isi (by rfl) X.m_isinstance boot_isinstance (pa_cons (pv 1) (pa_cons (pe_bltn (v := .ty "bool") (by rfl) X.m_bool boot_bool rfl) pa_nil))) (nomark _)) (pe_one (pe_cmpR (op_eqD hr.units) (pv 0) (pv 1) (nomark _)))))))))
def t_law_after (K : PySem.W.Frag) : TS :=
  (tRet (tIf (tTest (tOp rEq (tVar 1) (tC (.str "L")))) (tTup (tCons (tOp (rI0 fun i j => .int (i + j)) (tOp (rIxT K) (tVar 0) (tC (.int 0))) (tC (.int 1))) (tCons (tOp (rIxT K) (tVar 0) (tC (.int 1))) tNil))) (tTup (tCons (tOp (rIxT K) (tVar 0) (tC (.int 0))) (tCons (tOp (rI0 fun i j => .int (i + j)) (tOp (rIxT K) (tVar 0) (tC (.int 1))) (tC (.int 1))) tNil)))))
theorem dv_law_after {f : Addr} {cdv : Value} {A : Around} {outer : List Env} {s : Shared} {H : Hp} {E : XK} {k : Nat} (hr : Room k (A.deeper (envOfC "_law_after" (defScope s_law_after) s.heap.objs.size f cdv))) (X : Tx mg) :
    PSs (cxOf CX0 P w K mg base N_law_after "_law_after" (defScope s_law_after) f cdv A outer s H E).nox (defBody s_law_after) (t_law_after K) := by
  exact (pss_one (ps_ret (pe_ifExp (pt_cmpR op_eq (pv 1) pe_str (nomark _)) (pe_tup (pa_cons (pe_op op_add (pe_ix ix_tup (pv 0) pe_int (fun _ _ => rfl)) pe_int) (pa_cons (pe_ix ix_tup (pv 0) pe_int (fun _ _ => rfl)) pa_nil))) (pe_tup (pa_cons (pe_ix ix_tup (pv 0) pe_int (fun _ _ => rfl)) (pa_cons (pe_op op_add (pe_ix ix_tup (pv 0) pe_int (fun _ _ => rfl)) pe_int) pa_nil))))))
def t_law_region (K : PySem.W.Frag) (sp_law_taken : Sp) : TS :=
  (tSeq (tPar3 3 4 5 (tCons (tLst tNil) (tCons (tC (.int 0)) (tCons (tCall sp_law_taken [] E0 (tCons (tVar 0) (tCons (tOp (rI0 fun i j => .int (i + j)) (tVar 2) (tC (.int 1))) tNil))) tNil))))
  (tSeq (tAsg (tCall sp_law_taken [] E0 (tCons (tVar 0) (tCons (tC (.int 4)) tNil))) (gName 6))
  (tSeq (tFor (iRng1 (tCons (tOp (rI0 fun i j => .int (i + j)) (tC (.int 1)) (tCall sp_law_taken [] E0 (tCons (tVar 0) (tCons (tOp (rI0 fun i j => .int (i + j)) (tVar 1) (tC (.int 1))) tNil)))) tNil)) (gName 7)
    (tSeq (tIfS (tTest (tOp (rI0 fun i j => .bl (decide (j < i))) (tVar 7) (tC (.int 0)))) (tSeq (tAsg (tIf (tTest (tOp (rI0 fun i j => .bl (decide (j < i))) (tVar 6) (tC (.int 0)))) (tOp (rI0 fun i j => .int (i + j)) (tVar 4) (tCall sp_law_taken [] E0 (tCons (tVar 0) (tCons (tOp (rI0 fun i j => .int (i + j)) (tOp (rI0 fun i j => .int (i - j)) (tVar 5) (tVar 4)) (tC (.int 1))) tNil)))) (tVar 4)) (gName 4))
  (tAsg (tIf (tTest (tOp rNe (tVar 6) (tC (.int 1)))) (tOp (rI0 fun i j => .int (i + j)) (tVar 5) (tCall sp_law_taken [] E0 (tCons (tVar 0) (tCons (tOp (rI0 fun i j => .int (i + j)) (tOp (rI0 fun i j => .int (i - j)) (tVar 2) (tVar 5)) (tC (.int 1))) tNil)))) (tCB rMin2 (tCons (tVar 2) (tCons (tOp (rI0 fun i j => .int (i + j)) (tVar 5) (tC (.int 1))) tNil)))) (gName 5))) tNext)
  (tDrop (tBM K "list" rAppend (tVar 3) (tCons (tTup (tCons (tVar 4) (tCons (tVar 5) tNil))) tNil)))))
  (tRet (tCB (rTupOf K) (tCons (tVar 3) tNil))))))
theorem dv_law_region {f : Addr} {cdv : Value} {A : Around} {outer : List Env} {s : Shared} {H : Hp} {E : XK} {k : Nat} (hr : Room k (A.deeper (envOfC "_law_region" (defScope s_law_region) s.heap.objs.size f cdv))) (X : Tx mg) {k_law_taken : Nat} {sp_law_taken : Sp} (C_law_taken : Cal P w K mg base k_law_taken "_law_taken" P_law_taken sp_law_taken) (h_law_taken : k_law_taken ≤ k) :
    PSs (cxOf CX0 P w K mg base N_law_region "_law_region" (defScope s_law_region) f cdv A outer s H E).nox (defBody s_law_region) (t_law_region K sp_law_taken) := by
  exact (pss_cons (ps_par3 (i := 3) (j := 4) (l := 5) rfl sc_law_region.nd rfl rfl rfl (by decide) (by decide) (by decide) rfl rfl rfl (pa_cons (pe_lst pa_nil) (pa_cons pe_int (pa_cons (pe_cal C_law_taken (hr.mono h_law_taken) (by rfl) (pa_cons (pv 0) (pa_cons (pe_op op_add (pv 2) pe_int) pa_nil))) pa_nil))) (by rfl))
  (pss_cons (ps_set (i := 6) sc_law_region.nd rfl (Or.inl rfl) (pe_cal C_law_taken (hr.mono h_law_taken) (by rfl) (pa_cons (pv 0) (pa_cons pe_int pa_nil))))
  (pss_cons (ps_for PassesOwn.never rfl (pi_range1 (by rfl) X.m_range (pa_cons (pe_op op_add pe_int (pe_cal C_law_taken (hr.mono h_law_taken) (by rfl) (pa_cons (pv 0) (pa_cons (pe_op op_add (pv 1) pe_int) pa_nil)))) pa_nil)) (pg_name (i := 7) sc_law_region.nd rfl (Or.inl rfl))
    (pss_cons (ps_if (pt_cmpR op_gt (pv 7) pe_int (nomark _)) (pss_cons (ps_set (i := 4) sc_law_region.nd rfl (Or.inl rfl) (pe_ifExp (pt_cmpR op_gt (pv 6) pe_int (nomark _)) (pe_op op_add (pv 4) (pe_cal C_law_taken (hr.mono h_law_taken) (by rfl) (pa_cons (pv 0) (pa_cons (pe_op op_add (pe_op op_sub (pv 5) (pv 4)) pe_int) pa_nil)))) (pv 4)))
  (pss_one (ps_set (i := 5) sc_law_region.nd rfl (Or.inl rfl) (pe_ifExp (pt_cmpR op_ne (pv 6) pe_int (nomark _)) (pe_op op_add (pv 5) (pe_cal C_law_taken (hr.mono h_law_taken) (by rfl) (pa_cons (pv 0) (pa_cons (pe_op op_add (pe_op op_sub (pv 2) (pv 5)) pe_int) pa_nil)))) (pe_callB (call_min2I rfl) (by rfl) X.m_min boot_min (pa_cons (pv 2) (pa_cons (pe_op op_add (pv 5) pe_int) pa_nil))))))) pss_nil)
  (pss_one (ps_expr (pe_bm PySem.F.plainAttrs_list PySem.F.slot_list_append PySem.F.type_list_append mt_append (pv 3) (pa_cons (pe_tup (pa_cons (pv 4) (pa_cons (pv 5) pa_nil))) pa_nil))))))
  (pss_one (ps_ret (pe_callTy call_tupOf (by rfl) X.m_tuple boot_tuple (pa_cons (pv 3) pa_nil)))))))
def t_law_spans (K : PySem.W.Frag) : TS :=
  (tSeq (tAsg (tLst tNil) (gName 1))
  (tSeq (tFor (iRng1 (tCons (tCB (rLenS K) (tCons (tVar 0) tNil)) tNil)) (gName 2)
    (tAsg (tOp rCat (tVar 1) (tLc (iRng2 (tCons (tOp (rIxT K) (tOp (rIxT K) (tVar 0) (tVar 2)) (tC (.int 0))) (tCons (tOp (rI0 fun i j => .int (i + j)) (tOp (rIxT K) (tOp (rIxT K) (tVar 0) (tVar 2)) (tC (.int 1))) (tC (.int 1))) tNil))) (gName 3) tYes (tTup (tCons (tVar 2) (tCons (tVar 3) tNil))) [3])) (gName 1)))
  (tRet (tVar 1))))
theorem dv_law_spans {f : Addr} {cdv : Value} {A : Around} {outer : List Env} {s : Shared} {H : Hp} {E : XK} {k : Nat} (hr : Room k (A.deeper (envOfC "_law_spans" (defScope s_law_spans) s.heap.objs.size f cdv))) (X : Tx mg) :
    PSs (cxOf CX0 P w K mg base N_law_spans "_law_spans" (defScope s_law_spans) f cdv A outer s H E).nox (defBody s_law_spans) (t_law_spans K) := by
  exact (pss_cons (ps_set (i := 1) sc_law_spans.nd rfl (Or.inl rfl) (pe_lst pa_nil))
  (pss_cons (ps_for PassesOwn.never rfl (pi_range1 (by rfl) X.m_range (pa_cons (pe_callB call_lenS (by rfl) X.m_len boot_len (pa_cons (pv 0) pa_nil)) pa_nil)) (pg_name (i := 2) sc_law_spans.nd rfl (Or.inr rfl))
    (pss_one (ps_set (i := 1) sc_law_spans.nd rfl (Or.inl rfl) (pe_op op_cat (pv 1) (pe_lc (own := [("_law_y", 3)]) (g := (gName 3)) (tt := tYes) (by rfl) sc_law_spans.nd (pi_range2 (by rfl) X.m_range (pa_cons (pe_ix ix_tup (pe_ix ix_tup (pv 0) (pv 2) (fun _ _ => rfl)) pe_int (fun _ _ => rfl)) (pa_cons (pe_op op_add (pe_ix ix_tup (pe_ix ix_tup (pv 0) (pv 2) (fun _ _ => rfl)) pe_int (fun _ _ => rfl)) pe_int) pa_nil))) (blkOk_by (own := [("_law_y", 3)]) (N := ["_law_shape", "_law_found", "_law_x", "_law_y"]) (sc := defScope s_law_spans) (by decide +kernel)) (fun _ _ _ _ _ => (pg_name (i := 3) sc_law_spans.nd rfl (Or.inl rfl))) (fun _ _ _ _ _ => pts_nil) (fun _ _ _ _ _ => (pe_tup (pa_cons (pv 2) (pa_cons (pv 3) pa_nil)))))))))
  (pss_one (ps_ret (pv 1)))))
def t_law_plays (K : PySem.W.Frag) (sp_law_spans : Sp) (sp_law_after : Sp) : TS :=
  (tSeq (tAsg (tTup (tCons (tCall sp_law_spans [] E0 (tCons (tVar 0) tNil)) (tCons (tLst (tCons (tTup (tCons (tC (.str "")) (tCons (tTup (tCons (tC (.int 0)) (tCons (tC (.int 0)) tNil))) tNil))) tNil)) tNil))) (gTup K 2 (gCons (gName 1) (gCons (gName 2) gNil))))
  (tSeq (tFor (iRng1 (tCons (tCB (rSumT K) (tCons (tOp (rIxL K) (tVar 1) (tUn (rU fun i => .int (-i)) (tC (.int 1)))) tNil)) tNil)) (gName 3)
    (tSeq (tAsg (tLst tNil) (gName 4))
  (tSeq (tFor (iList K (tVar 2)) (gTup K 2 (gCons (gName 5) (gCons (gName 6) gNil)))
    (tAsg (tOp rCat (tVar 4) (tLc (iStr (tC (.str "LR"))) (gName 7) (tTest (tOp (rInD K) (tCall sp_law_after [] E0 (tCons (tVar 6) (tCons (tVar 7) tNil))) (tVar 1))) (tTup (tCons (tOp rAddT (tVar 5) (tVar 7)) (tCons (tCall sp_law_after [] E0 (tCons (tVar 6) (tCons (tVar 7) tNil))) tNil))) [7])) (gName 4)))
  (tAsg (tVar 4) (gName 2)))))
  (tRet (tLc (iList K (tVar 2)) (gTup K 2 (gCons (gName 5) (gCons (gName 6) gNil))) tYes (tVar 5) [5, 6]))))
theorem dv_law_plays {f : Addr} {cdv : Value} {A : Around} {outer : List Env} {s : Shared} {H : Hp} {E : XK} {k : Nat} (hr : Room k (A.deeper (envOfC "_law_plays" (defScope s_law_plays) s.heap.objs.size f cdv))) (X : Tx mg) {k_law_spans : Nat} {sp_law_spans : Sp} (C_law_spans : Cal P w K mg base k_law_spans "_law_spans" P_law_spans sp_law_spans) (h_law_spans : k_law_spans ≤ k) {k_law_after : Nat} {sp_law_after : Sp} (C_law_after : Cal P w K mg base k_law_after "_law_after" P_law_after sp_law_after) (h_law_after : k_law_after ≤ k) :
    PSs (cxOf CX0 P w K mg base N_law_plays "_law_plays" (defScope s_law_plays) f cdv A outer s H E).nox (defBody s_law_plays) (t_law_plays K sp_law_spans sp_law_after) := by
  exact (pss_cons (ps_asg (pe_tup (pa_cons (pe_cal C_law_spans (hr.mono h_law_spans) (by rfl) (pa_cons (pv 0) pa_nil)) (pa_cons (pe_lst (pa_cons (pe_tup (pa_cons pe_str (pa_cons (pe_tup (pa_cons pe_int (pa_cons pe_int pa_nil))) pa_nil))) pa_nil)) pa_nil))) (pg_tup rfl (pgs_cons (pg_name (i := 1) sc_law_plays.nd rfl (Or.inr rfl)) (pgs_cons (pg_name (i := 2) sc_law_plays.nd rfl (Or.inl rfl)) pgs_nil))))
  (pss_cons (ps_for PassesOwn.never rfl (pi_range1 (by rfl) X.m_range (pa_cons (pe_callB (cr_sumT rfl) (by rfl) X.m_sum boot_sum (pa_cons (pe_ix ix_list (pv 1) (pe_un un_neg pe_int) (fun _ _ => rfl)) pa_nil)) pa_nil)) (pg_name (i := 3) sc_law_plays.nd rfl (Or.inl rfl))
    (pss_cons (ps_set (i := 4) sc_law_plays.nd rfl (Or.inl rfl) (pe_lst pa_nil))
  (pss_cons (ps_for PassesOwn.never rfl (pi_list (pv 2)) (pg_tup rfl (pgs_cons (pg_name (i := 5) sc_law_plays.nd rfl (Or.inr rfl)) (pgs_cons (pg_name (i := 6) sc_law_plays.nd rfl (Or.inr rfl)) pgs_nil)))
    (pss_one (ps_set (i := 4) sc_law_plays.nd rfl (Or.inl rfl) (pe_op op_cat (pv 4) (pe_lc (own := [("_law_sign", 7)]) (g := (gName 7)) (tt := (tTest (tOp (rInD K) (tCall sp_law_after [] E0 (tCons (tVar 6) (tCons (tVar 7) tNil))) (tVar 1)))) (by rfl) sc_law_plays.nd (pi_str pe_str) (blkOk_by (own := [("_law_sign", 7)]) (N := ["_law_shape", "_law_some", "_law_found", "_law_turn", "_law_longer", "_law_word", "_law_span", "_law_sign"]) (sc := defScope s_law_plays) (by decide +kernel)) (fun _ _ _ _ _ => (pg_name (i := 7) sc_law_plays.nd rfl (Or.inl rfl))) (fun _ _ _ _ _ => (pts_one (pt_cmpR (op_inD (hu65 hr)) (pe_cal C_law_after (hr.mono h_law_after) (by rfl) (pa_cons (pv 6) (pa_cons (pv 7) pa_nil))) (pv 1) (by rfl)))) (fun _ _ _ _ _ => (pe_tup (pa_cons (pe_op op_addT (pv 5) (pv 7)) (pa_cons (pe_cal C_law_after (hr.mono h_law_after) (by rfl) (pa_cons (pv 6) (pa_cons (pv 7) pa_nil))) pa_nil)))))))))
  (pss_one (ps_set (i := 2) sc_law_plays.nd rfl (Or.inl rfl) (pv 4))))))
  (pss_one (ps_ret (pe_lc (own := [("_law_word", 5), ("_law_span", 6)]) (g := (gTup K 2 (gCons (gName 5) (gCons (gName 6) gNil)))) (tt := tYes) (by rfl) sc_law_plays.nd (pi_list (pv 2)) (blkOk_by (own := [("_law_word", 5), ("_law_span", 6)]) (N := ["_law_shape", "_law_some", "_law_found", "_law_turn", "_law_longer", "_law_word", "_law_span", "_law_sign"]) (sc := defScope s_law_plays) (by decide +kernel)) (fun _ _ _ _ _ => (pg_tup rfl (pgs_cons (pg_name (i := 5) sc_law_plays.nd rfl (Or.inl rfl)) (pgs_cons (pg_name (i := 6) sc_law_plays.nd rfl (Or.inl rfl)) pgs_nil)))) (fun _ _ _ _ _ => pts_nil) (fun _ _ _ _ _ => (pv 5)))))))
def t_law_count (K : PySem.W.Frag) (sp_law_spans : Sp) : TS :=
  (tSeq (tAsg tDNewT (gName 1))
  (tSeq (tFor (iList K (tCall sp_law_spans [] E0 (tCons (tVar 0) tNil))) (gTup K 2 (gCons (gName 2) (gCons (gName 3) gNil)))
    (sDPut (tVar 1) (tTup (tCons (tVar 2) (tCons (tVar 3) tNil))) (tIf (tTest (tOp (rEqD K) (tTup (tCons (tVar 2) (tCons (tVar 3) tNil))) (tTup (tCons (tC (.int 0)) (tCons (tC (.int 0)) tNil))))) (tC (.int 1)) (tOp (rI0 fun i j => .int (i + j)) (tDGet2 (tVar 1) (tTup (tCons (tOp (rI0 fun i j => .int (i - j)) (tVar 2) (tC (.int 1))) (tCons (tVar 3) tNil))) (tC (.int 0))) (tDGet2 (tVar 1) (tTup (tCons (tVar 2) (tCons (tOp (rI0 fun i j => .int (i - j)) (tVar 3) (tC (.int 1))) tNil))) (tC (.int 0)))))))
  (tRet (tDGet (tVar 1) (tTup (tCons (tOp (rI0 fun i j => .int (i - j)) (tCB (rLenS K) (tCons (tVar 0) tNil)) (tC (.int 1))) (tCons (tOp (rIxT K) (tOp (rIxT K) (tVar 0) (tUn (rU fun i => .int (-i)) (tC (.int 1)))) (tC (.int 1))) tNil)))))))
theorem dv_law_count {f : Addr} {cdv : Value} {A : Around} {outer : List Env} {s : Shared} {H : Hp} {E : XK} {k : Nat} (hr : Room k (A.deeper (envOfC "_law_count" (defScope s_law_count) s.heap.objs.size f cdv))) (X : Tx mg) {k_law_spans : Nat} {sp_law_spans : Sp} (C_law_spans : Cal P w K mg base k_law_spans "_law_spans" P_law_spans sp_law_spans) (h_law_spans : k_law_spans ≤ k) :
    PSs (cxOf CX0 P w K mg base N_law_count "_law_count" (defScope s_law_count) f cdv A outer s H E).nox (defBody s_law_count) (t_law_count K sp_law_spans) := by
  exact (pss_cons (ps_set (i := 1) sc_law_count.nd rfl (Or.inl rfl) pe_dnewT)
  (pss_cons (ps_for PassesOwn.never rfl (pi_list (pe_cal C_law_spans (hr.mono h_law_spans) (by rfl) (pa_cons (pv 0) pa_nil))) (pg_tup rfl (pgs_cons (pg_name (i := 2) sc_law_count.nd rfl (Or.inl rfl)) (pgs_cons (pg_name (i := 3) sc_law_count.nd rfl (Or.inl rfl)) pgs_nil)))
    (pss_one (ps_dput (hu_of hr) (pv 1) (pe_tup (pa_cons (pv 2) (pa_cons (pv 3) pa_nil))) (pe_ifExp (pt_cmpR (op_eqD hr.units) (pe_tup (pa_cons (pv 2) (pa_cons (pv 3) pa_nil))) (pe_tup (pa_cons pe_int (pa_cons pe_int pa_nil))) (nomark _)) pe_int (pe_op op_add (pe_dget2 (hu_of hr) (pv 1) (pe_tup (pa_cons (pe_op op_sub (pv 2) pe_int) (pa_cons (pv 3) pa_nil))) pe_int ⟨by rfl, by rfl, by rfl, by rfl⟩) (pe_dget2 (hu_of hr) (pv 1) (pe_tup (pa_cons (pv 2) (pa_cons (pe_op op_sub (pv 3) pe_int) pa_nil))) pe_int ⟨by rfl, by rfl, by rfl, by rfl⟩))) rfl)))
  (pss_one (ps_ret (pe_dget (hu_of hr) (pv 1) (pe_tup (pa_cons (pe_op op_sub (pe_callB call_lenS (by rfl) X.m_len boot_len (pa_cons (pv 0) pa_nil)) pe_int) (pa_cons (pe_ix ix_tup (pe_ix ix_tup (pv 0) (pe_un un_neg pe_int) (fun _ _ => rfl)) pe_int (fun _ _ => rfl)) pa_nil))) (fun _ _ => rfl))))))
def t_law_few (K : PySem.W.Frag) (sp_law_region : Sp) (sp_law_count : Sp) : TS :=
  (tWhile (tB (tC (.bl true)))
    (tSeq (tAsg (tCall sp_law_region [] E0 (tCons (tVar 0) (tCons (tC (.int 4)) (tCons (tC (.int 4)) tNil)))) (gName 2))
  (tSeq (tIfS (tTest (tOp (rI0 fun i j => .bl (decide (i ≤ j))) (tCall sp_law_count [] E0 (tCons (tVar 2) tNil)) (tVar 1))) (tRet (tVar 2)) tNext)
  (tAsg (tOp (rI0 fun i j => .int (i + j)) (tVar 1) (tC (.int 10))) (gName 1)))))
theorem dv_law_few {f : Addr} {cdv : Value} {A : Around} {outer : List Env} {s : Shared} {H : Hp} {E : XK} {k : Nat} (hr : Room k (A.deeper (envOfC "_law_few" (defScope s_law_few) s.heap.objs.size f cdv))) (X : Tx mg) {k_law_region : Nat} {sp_law_region : Sp} (C_law_region : Cal P w K mg base k_law_region "_law_region" P_law_region sp_law_region) (h_law_region : k_law_region ≤ k) {k_law_count : Nat} {sp_law_count : Sp} (C_law_count : Cal P w K mg base k_law_count "_law_count" P_law_count sp_law_count) (h_law_count : k_law_count ≤ k) :
    PSs (cxOf CX0 P w K mg base N_law_few "_law_few" (defScope s_law_few) f cdv A outer s H E).nox (defBody s_law_few) (t_law_few K sp_law_region sp_law_count) := by
  exact (pss_one (ps_while PassesOwn.never (pt_val pe_bl)
    (pss_cons (ps_set (i := 2) sc_law_few.nd rfl (Or.inl rfl) (pe_cal C_law_region (hr.mono h_law_region) (by rfl) (pa_cons (pv 0) (pa_cons pe_int (pa_cons pe_int pa_nil)))))
  (pss_cons (ps_if (pt_cmpR op_le (pe_cal C_law_count (hr.mono h_law_count) (by rfl) (pa_cons (pv 2) pa_nil)) (pv 1) (nomark _)) (pss_one (ps_ret (pv 2))) pss_nil)
  (pss_one (ps_set (i := 1) sc_law_few.nd rfl (Or.inl rfl) (pe_op op_add (pv 1) pe_int)))))))
def t_law (K : PySem.W.Frag) (sp_law_few : Sp) (sp_law_plays : Sp) (sp_law_pick : Sp) (sp_law_alike : Sp) (spflips : Sp) (spflip_distance : Sp) (spflip_way : Sp) : TS :=
  (tSeq (tAsg (tLst (tCons (tVar 0) (tCons (tC (.int 0)) (tCons (tC (.int 4758)) (tCons (tC (.int 0)) tNil))))) (gName 1))
  (tSeq (tAsg (tCall sp_law_few [] E0 (tCons (tVar 1) (tCons (tC (.int 120)) tNil))) (gName 2))
  (tSeq (tAsg (tCall sp_law_plays [] E0 (tCons (tVar 2) tNil)) (gName 3))
  (tSeq (tAsg tDNewK (gName 4))
  (tSeq (tFor (iList K (tVar 3)) (gName 5)
    (tSeq (sDPut (tVar 4) (tVar 5) (tLst tNil))
  (tFor (iRng1 (tCons (tOp (rI0 fun i j => .int (i - j)) (tCB rLenT (tCons (tVar 5) tNil)) (tC (.int 1))) tNil)) (gName 6)
    (tSeq (tAsg (tOp rAddT (tOp rAddT (tOp rAddT (tSl rSlS (tVar 5) tNoPart (tPart (tVar 6))) (tOp rIxS (tVar 5) (tOp (rI0 fun i j => .int (i + j)) (tVar 6) (tC (.int 1))))) (tOp rIxS (tVar 5) (tVar 6))) (tSl rSlS (tVar 5) (tPart (tOp (rI0 fun i j => .int (i + j)) (tVar 6) (tC (.int 2)))) tNoPart)) (gName 7))
  (tIfS (tAnd (tTest (tOp rNe (tVar 7) (tVar 5))) (tTest (tOp (rIn K false) (tVar 7) (tVar 3)))) (tDrop (tBM K "list" rAppend (tDGet (tVar 4) (tVar 5)) (tCons (tVar 7) tNil))) tNext)))))
  (tSeq (tPar 8 9 (tCons (tCall sp_law_pick [] E0 (tCons (tVar 1) (tCons (tVar 3) tNil))) (tCons (tCall sp_law_pick [] E0 (tCons (tVar 1) (tCons (tVar 3) tNil))) tNil)))
  (tSeq (tIfS (tNot (tB (tCall sp_law_alike [] E0 (tCons (tCall spflips [] E0 (tCons (tVar 2) (tCons (tVar 8) tNil))) (tCons (tCB (rSortedS K) (tCons (tDGet (tVar 4) (tVar 8)) tNil)) tNil))))) (tRet (tC (.bl false))) tNext)
  (tSeq (tPar 10 11 (tCons (tDisp [((tVar 8), (tC (.int 0)))]) (tCons (tLst (tCons (tVar 8) tNil)) tNil)))
  (tSeq (tWhile (tTest (tOp (rNeD K) (tVar 11) (tLst tNil)))
    (tSeq (tAsg (tLst tNil) (gName 12))
  (tSeq (tFor (iList K (tVar 11)) (gName 5)
    (tFor (iList K (tDGet (tVar 4) (tVar 5))) (gName 13)
    (tIfS (tB (tDNotIn (tVar 13) (tVar 10))) (tSeq (sDPut (tVar 10) (tVar 13) (tOp (rI0 fun i j => .int (i + j)) (tDGet (tVar 10) (tVar 5)) (tC (.int 1))))
  (tDrop (tBM K "list" rAppend (tVar 12) (tCons (tVar 13) tNil)))) tNext)))
  (tAsg (tVar 12) (gName 11)))))
  (tSeq (tIfS (tOr (tTest (tOp rNe (tCB rLenDk (tCons (tVar 10) tNil)) (tCB (rLenS K) (tCons (tVar 3) tNil)))) (tNot (tB (tCall sp_law_alike [] E0 (tCons (tCall spflip_distance [] E0 (tCons (tVar 2) (tCons (tVar 8) (tCons (tVar 9) tNil)))) (tCons (tDGet (tVar 10) (tVar 9)) tNil)))))) (tRet (tC (.bl false))) tNext)
  (tSeq (tAsg (tCall spflip_way [] E0 (tCons (tVar 2) (tCons (tVar 8) (tCons (tVar 9) tNil)))) (gName 14))
  (tSeq (tIfS (tOr (tNot (tB (tCB (rIsi K) (tCons (tVar 14) (tCons (tC (.ty "list")) tNil))))) (tOr (tTest (tOp rNe (tOp (rIxL K) (tVar 14) (tC (.int 0))) (tVar 8))) (tOr (tTest (tOp rNe (tOp (rIxL K) (tVar 14) (tUn (rU fun i => .int (-i)) (tC (.int 1)))) (tVar 9))) (tTest (tOp rNe (tCB (rLenS K) (tCons (tVar 14) tNil)) (tOp (rI0 fun i j => .int (i + j)) (tDGet (tVar 10) (tVar 9)) (tC (.int 1)))))))) (tRet (tC (.bl false))) tNext)
  (tRet (tOp (rEqD K) (tLc (iZip K (tCons (tVar 14) (tCons (tSl (rSlL K) (tVar 14) (tPart (tC (.int 1))) tNoPart) tNil))) (gTup K 2 (gCons (gName 15) (gCons (gName 16) gNil))) (tTest (tOp (rIn K true) (tVar 16) (tDGet (tVar 4) (tVar 15)))) (tC (.int 1)) [15, 16]) (tLst tNil)))))))))))))))
theorem dv_law {f : Addr} {cdv : Value} {A : Around} {outer : List Env} {s : Shared} {H : Hp} {E : XK} {k : Nat} (hr : Room k (A.deeper (envOfC "law" (defScope s_law) s.heap.objs.size f cdv))) (X : Tx mg) {k_law_few : Nat} {sp_law_few : Sp} (C_law_few : Cal P w K mg base k_law_few "_law_few" P_law_few sp_law_few) (h_law_few : k_law_few ≤ k) {k_law_plays : Nat} {sp_law_plays : Sp} (C_law_plays : Cal P w K mg base k_law_plays "_law_plays" P_law_plays sp_law_plays) (h_law_plays : k_law_plays ≤ k) {k_law_pick : Nat} {sp_law_pick : Sp} (C_law_pick : Cal P w K mg base k_law_pick "_law_pick" P_law_pick sp_law_pick) (h_law_pick : k_law_pick ≤ k) {k_law_alike : Nat} {sp_law_alike : Sp} (C_law_alike : Cal P w K mg base k_law_alike "_law_alike" P_law_alike sp_law_alike) (h_law_alike : k_law_alike ≤ k) {kflips : Nat} {spflips : Sp} (Cflips : Cal P w K mg base kflips "flips" P_flips spflips) (hflips : kflips ≤ k) {kflip_distance : Nat} {spflip_distance : Sp} (Cflip_distance : Cal P w K mg base kflip_distance "flip_distance" P_flip_distance spflip_distance) (hflip_distance : kflip_distance ≤ k) {kflip_way : Nat} {spflip_way : Sp} (Cflip_way : Cal P w K mg base kflip_way "flip_way" P_flip_way spflip_way) (hflip_way : kflip_way ≤ k) :
    PSs (cxOf CX0 P w K mg base N_law "law" (defScope s_law) f cdv A outer s H E).nox (defBody s_law) (t_law K sp_law_few sp_law_plays sp_law_pick sp_law_alike spflips spflip_distance spflip_way) := by
  exact (pss_cons (ps_set (i := 1) sc_law.nd rfl (Or.inl rfl) (pe_lst (pa_cons (pv 0) (pa_cons pe_int (pa_cons pe_int (pa_cons pe_int pa_nil))))))
  (pss_cons (ps_set (i := 2) sc_law.nd rfl (Or.inl rfl) (pe_cal C_law_few (hr.mono h_law_few) (by rfl) (pa_cons (pv 1) (pa_cons pe_int pa_nil))))
  (pss_cons (ps_set (i := 3) sc_law.nd rfl (Or.inl rfl) (pe_cal C_law_plays (hr.mono h_law_plays) (by rfl) (pa_cons (pv 2) pa_nil)))
  (pss_cons (ps_set (i := 4) sc_law.nd rfl (Or.inr rfl) pe_dnewK)
  (pss_cons (ps_for PassesOwn.never rfl (pi_list (pv 3)) (pg_name (i := 5) sc_law.nd rfl (Or.inl rfl))
    (pss_cons (ps_dput (hu_of hr) (pv 4) (pv 5) (pe_lst pa_nil) rfl)
  (pss_one (ps_for PassesOwn.never rfl (pi_range1 (by rfl) X.m_range (pa_cons (pe_op op_sub (pe_callB call_lenT (by rfl) X.m_len boot_len (pa_cons (pv 5) pa_nil)) pe_int) pa_nil)) (pg_name (i := 6) sc_law.nd rfl (Or.inl rfl))
    (pss_cons (ps_set (i := 7) sc_law.nd rfl (Or.inl rfl) (pe_op op_addT (pe_op op_addT (pe_op op_addT (pe_slice sl_str (pv 5) po_none (po_some (pv 6))) (pe_ix ix_str (pv 5) (pe_op op_add (pv 6) pe_int) (fun _ _ => rfl))) (pe_ix ix_str (pv 5) (pv 6) (fun _ _ => rfl))) (pe_slice sl_str (pv 5) (po_some (pe_op op_add (pv 6) pe_int)) po_none)))
  (pss_one (ps_if (PW.pt (pw_and (pt_cmpR op_ne (pv 7) (pv 5) (nomark _)) (pw_and1 (pt_cmpR op_in_seq (pv 7) (pv 3) (by rfl))))) (pss_one (ps_expr (pe_bm PySem.F.plainAttrs_list PySem.F.slot_list_append PySem.F.type_list_append mt_append (pe_dget (hu_of hr) (pv 4) (pv 5) (fun _ _ => rfl)) (pa_cons (pv 7) pa_nil)))) pss_nil)))))))
  (pss_cons (ps_par (i := 8) (j := 9) rfl sc_law.nd rfl rfl (by decide) rfl rfl (pa_cons (pe_cal C_law_pick (hr.mono h_law_pick) (by rfl) (pa_cons (pv 1) (pa_cons (pv 3) pa_nil))) (pa_cons (pe_cal C_law_pick (hr.mono h_law_pick) (by rfl) (pa_cons (pv 1) (pa_cons (pv 3) pa_nil))) pa_nil)) (by rfl))
  (pss_cons (ps_if (pt_not (pt_val (pe_cal C_law_alike (hr.mono h_law_alike) (by rfl) (pa_cons (pe_cal Cflips (hr.mono hflips) (by rfl) (pa_cons (pv 2) (pa_cons (pv 8) pa_nil))) (pa_cons (pe_callB cr_sortedS (by rfl) X.m_sorted boot_sorted (pa_cons (pe_dget (hu_of hr) (pv 4) (pv 8) (fun _ _ => rfl)) pa_nil)) pa_nil))))) (pss_one (ps_ret pe_bl)) pss_nil)
  (pss_cons (ps_par (i := 10) (j := 11) rfl sc_law.nd rfl rfl (by decide) rfl rfl (pa_cons (pe_disp (pps_cons (pv 8) pe_int pps_nil) (by rfl) (by rfl) (fun z => by cases z) (by decide)) (pa_cons (pe_lst (pa_cons (pv 8) pa_nil)) pa_nil)) (by rfl))
  (pss_cons (ps_while PassesOwn.never (pt_cmpR (op_neD hr.units) (pv 11) (pe_lst pa_nil) (nomark _))
    (pss_cons (ps_set (i := 12) sc_law.nd rfl (Or.inl rfl) (pe_lst pa_nil))
  (pss_cons (ps_for PassesOwn.never rfl (pi_list (pv 11)) (pg_name (i := 5) sc_law.nd rfl (Or.inl rfl))
    (pss_one (ps_for PassesOwn.never rfl (pi_list (pe_dget (hu_of hr) (pv 4) (pv 5) (fun _ _ => rfl))) (pg_name (i := 13) sc_law.nd rfl (Or.inl rfl))
    (pss_one (ps_if (pt_cmp (pc_dnotin (hu_of hr) (pv 13) (pv 10)) (by rfl)) (pss_cons (ps_dput (hu_of hr) (pv 10) (pv 13) (pe_op op_add (pe_dget (hu_of hr) (pv 10) (pv 5) (fun _ _ => rfl)) pe_int) rfl)
  (pss_one (ps_expr (pe_bm PySem.F.plainAttrs_list PySem.F.slot_list_append PySem.F.type_list_append mt_append (pv 12) (pa_cons (pv 13) pa_nil))))) pss_nil)))))
  (pss_one (ps_set (i := 11) sc_law.nd rfl (Or.inl rfl) (pv 12))))))
  (pss_cons (ps_if (PW.pt (pw_or (pt_cmpR op_ne (pe_callB call_lenDk (by rfl) X.m_len boot_len (pa_cons (pv 10) pa_nil)) (pe_callB call_lenS (by rfl) X.m_len boot_len (pa_cons (pv 3) pa_nil)) (nomark _)) (pw_or1 (pt_not (pt_val (pe_cal C_law_alike (hr.mono h_law_alike) (by rfl) (pa_cons (pe_cal Cflip_distance (hr.mono hflip_distance) (by rfl) (pa_cons (pv 2) (pa_cons (pv 8) (pa_cons (pv 9) pa_nil)))) (pa_cons (pe_dget (hu_of hr) (pv 10) (pv 9) (fun _ _ => rfl)) pa_nil)))))))) (pss_one (ps_ret pe_bl)) pss_nil)
  (pss_cons (ps_set (i := 14) sc_law.nd rfl (Or.inl rfl) (pe_cal Cflip_way (hr.mono hflip_way) (by rfl) (pa_cons (pv 2) (pa_cons (pv 8) (pa_cons (pv 9) pa_nil)))))
  (pss_cons (ps_if (PW.pt (pw_or (pt_not (pt_val (pe_callB call_isi (by rfl) X.m_isinstance boot_isinstance (pa_cons (pv 14) (pa_cons (pe_bltn (v := .ty "list") (by rfl) X.m_list boot_list rfl) pa_nil))))) (pw_or (pt_cmpR op_ne (pe_ix ix_list (pv 14) pe_int (fun _ _ => rfl)) (pv 8) (nomark _)) (pw_or (pt_cmpR op_ne (pe_ix ix_list (pv 14) (pe_un un_neg pe_int) (fun _ _ => rfl)) (pv 9) (nomark _)) (pw_or1 (pt_cmpR op_ne (pe_callB call_lenS (by rfl) X.m_len boot_len (pa_cons (pv 14) pa_nil)) (pe_op op_add (pe_dget (hu_of hr) (pv 10) (pv 9) (fun _ _ => rfl)) pe_int) (nomark _))))))) (pss_one (ps_ret pe_bl)) pss_nil)
  (pss_one (ps_ret (pe_cmpR (op_eqD hr.units) (pe_lc (own := [("_law_first", 15), ("_law_second", 16)]) (g := (gTup K 2 (gCons (gName 15) (gCons (gName 16) gNil)))) (tt := (tTest (tOp (rIn K true) (tVar 16) (tDGet (tVar 4) (tVar 15))))) (by rfl) sc_law.nd (pi_zip (by rfl) X.m_zip (pa_cons (pv 14) (pa_cons (pe_slice sl_list (pv 14) (po_some pe_int) po_none) pa_nil))) (blkOk_by (own := [("_law_first", 15), ("_law_second", 16)]) (N := ["_law_script", "_law_row", "_law_region_here", "_law_every", "_law_near", "_law_word", "_law_at", "_law_told", "_law_one", "_law_other", "_law_far", "_law_rim", "_law_later", "_law_there", "_law_found", "_law_first", "_law_second"]) (sc := defScope s_law) (by decide +kernel)) (fun _ _ _ _ _ => (pg_tup rfl (pgs_cons (pg_name (i := 15) sc_law.nd rfl (Or.inl rfl)) (pgs_cons (pg_name (i := 16) sc_law.nd rfl (Or.inl rfl)) pgs_nil)))) (fun _ _ _ _ _ => (pts_one (pt_cmpR op_notIn_seq (pv 16) (pe_dget (hu_of hr) (pv 4) (pv 15) (fun _ _ => rfl)) (by rfl)))) (fun _ _ _ _ _ => pe_int)) (pe_lst pa_nil) (nomark _))))))))))))))))
def t_law_alike0 (K : PySem.W.Frag) : TS :=
  (tSeq (tIfS (tB (tCB (rIsiT K) (tCons (tVar 1) (tCons (tTup (tCons (tC (.ty "tuple")) (tCons (tC (.ty "list")) tNil))) tNil)))) tNever tNext)
  (tSeq (tIfS (tOr (tTest (tOp rIsN (tVar 1) (tC .non))) (tB (tCB (rIsi K) (tCons (tVar 1) (tCons (tC (.ty "str")) tNil))))) (tRet (tAndV (tOp rEq (tVar 0) (tVar 1)) (tOp rEq (tCB (rIsi K) (tCons (tVar 0) (tCons (tC (.ty "str")) tNil))) (tCB (rIsi K) (tCons (tVar 1) (tCons (tC (.ty "str")) tNil)))))) tNext)
  (tRet (tAndV (tCB (rIsi K) (tCons (tVar 0) (tCons (tC (.ty "int")) tNil))) (tAndV (tOp rEq (tCB (rIsi K) (tCons (tVar 0) (tCons (tC (.ty "bool")) tNil))) (tCB (rIsi K) (tCons (tVar 1) (tCons (tC (.ty "bool")) tNil)))) (tOp rEq (tVar 0) (tVar 1)))))))
theorem dv_law_alike0 {f : Addr} {cdv : Value} {A : Around} {outer : List Env} {s : Shared} {H : Hp} {E : XK} {k : Nat} (hr : Room k (A.deeper (envOfC "_law_alike" (defScope s_law_alike) s.heap.objs.size f cdv))) (X : Tx mg) :
    PSs (cxOf CX0 P w K mg base N_law_alike "_law_alike" (defScope s_law_alike) f cdv A outer s H E).nox (defBody s_law_alike) (t_law_alike0 K) := by
  exact (pss_cons (ps_if (pt_val (pe_callB call_isiT (by rfl) X.m_isinstance boot_isinstance (pa_cons (pv 1) (pa_cons (pe_tup (pa_cons (pe_bltn (v := .ty "tuple") (by rfl) X.m_tuple boot_tuple rfl) (pa_cons (pe_bltn (v := .ty "list") (by rfl) X.m_list boot_list rfl) pa_nil))) pa_nil)))) pss_never pss_nil)
  (pss_cons (ps_if (PW.pt (pw_or (pt_cmpR op_isN1 (pv 1) pe_non (nomark _)) (pw_or1 (pt_val (pe_callB call_isi (by rfl) X.m_isinstance boot_isinstance (pa_cons (pv 1) (pa_cons (pe_bltn (v := .ty "str") (by rfl) X.m_str boot_str rfl) pa_nil))))))) (pss_one (ps_ret (pe_and (pe_cmpR op_eq (pv 0) (pv 1) (nomark _)) (pe_one (pe_cmpR op_eq (pe_callB call_isi (by rfl) X.m_isinstance boot_isinstance (pa_cons (pv 0) (pa_cons (pe_bltn (v := .ty "str") (by rfl) X.m_str boot_str rfl) pa_nil))) (pe_callB call_isi (by rfl) X.m_isinstance boot_isinstance (pa_cons (pv 1) (pa_cons (pe_bltn (v := .ty "str") (by rfl) X.m_str boot_str rfl) pa_nil))) (nomark _)))))) pss_nil)
  (pss_one (ps_ret (pe_and (pe_callB call_isi (by rfl) X.m_isinstance boot_isinstance (pa_cons (pv 0) (pa_cons (pe_bltn (v := .ty "int") (by rfl) X.m_int boot_int rfl) pa_nil))) (pe_and (pe_cmpR op_eq (pe_callB call_isi (by rfl) X.m_isinstance boot_isinstance (pa_cons (pv 0) (pa_cons (pe_bltn (v := .ty "bool") (by rfl) X.m_bool boot_bool rfl) pa_nil))) (pe_callB call_isi (by rfl) X.m_isinstance boot_isinstance (pa_cons (pv 1) (pa_cons (pe_bltn (v := .ty "bool") (by rfl) X.m_bool boot_bool rfl) pa_nil))) (nomark _)) (pe_one (pe_cmpR op_eq (pv 0) (pv 1) (nomark _)))))))))
end
end KL
set_option maxHeartbeats 4000000
namespace KL
open PySem L2 Evl KM
/-! ### the encodings -/
def cd (b : Bool) : Nat := if b = true then 76 else 82
def SW (w : Wd) : Str := ⟨(w.map cd).toArray⟩
def sgB (b : Bool) : Str := ⟨#[cd b]⟩
def inD (n : Nat) : PyData := .int (n : Int)
def spD (s : Spn) : PyData := .tuple [inD s.1, inD s.2]
def rgD (R : Rg) : PyData := .tuple (R.map spD)
def wdD (w : Wd) : PyData := .str (SW w)
theorem cd_inj {a b : Bool} (h : cd a = cd b) : a = b := by cases a <;> cases b <;> simp [cd] at h ⊢
theorem SW_inj {u v : Wd} (h : SW u = SW v) : u = v := by
  have h1 : (u.map cd).toArray = (v.map cd).toArray := congrArg Str.cps h
  have h2 : u.map cd = v.map cd := by simpa using h1
  exact (List.map_inj_right (fun x y e => cd_inj e)).mp h2
theorem SW_list (w : Wd) : (SW w).cps.toList = w.map cd := rfl
theorem SW_len (w : Wd) : (SW w).length = w.length := by show (w.map cd).toArray.size = _; simp
theorem SW_dec (u v : Wd) : decide (SW u = SW v) = decide (u = v) := by
  rw [decide_eq_decide]; exact ⟨SW_inj, fun h => by rw [h]⟩
theorem SW_append (u v : Wd) : SW u ++ SW v = SW (u ++ v) := by
  show (⟨(u.map cd).toArray ++ (v.map cd).toArray⟩ : Str) = ⟨((u ++ v).map cd).toArray⟩
  rw [List.map_append]; simp
theorem sgB_SW (b : Bool) : sgB b = SW [b] := rfl
theorem sgn_sgB (b : Bool) : sgn (cd b) = .str (sgB b) := rfl
theorem sgB_L (b : Bool) : decide (sgB b = ("L" : Str)) = b := by cases b <;> decide +kernel
theorem imm_spD (s : Spn) : imm (spD s) = true := rfl
theorem imm_inD (s : Nat) : imm (inD s) = true := rfl
theorem imm_wdD (s : Wd) : imm (wdD s) = true := rfl
theorem shp_sp (s : Spn) : SeqAt.shaped (spD s) = true := rfl
section
variable {K : PySem.W.Frag} {σ : L2.St} {H H' : Hp} {ta tb tc te tl : TE} {t u tt : TT} {x y z v : V} {d da db dc : PyData} {wi : TI} {D : Ends} {tu tw tz : TS}
/-! ### statements -/
theorem sr (h : EvD K te σ H d) (k : ∀ v H1, Ex H H1 → Dp K H1 v d → D.rt v H1) : tRet te D σ H := h H (Ex.refl H) _ k
theorem sa {i : Nat} (h : EvD K te σ H d) (k : ∀ v H1, Ex H H1 → Dp K H1 v d → D.nx (σ.set i (some v)) H1) : tAsg te (gName i) D σ H := h H (Ex.refl H) _ k
theorem qa {i : Nat} (h : EvD K te σ H d) (k : ∀ v H1, Ex H H1 → Dp K H1 v d → tz D (σ.set i (some v)) H1) : tSeq (tAsg te (gName i)) tz D σ H := h H (Ex.refl H) _ k
theorem qal {i : Nat} {ds : List PyData} (h : EvDL K te σ H ds) (k : ∀ p xs H1, H p = none → Ex H H1 → H1 p = some (.lst xs) → DpAll K H1 xs ds → tz D (σ.set i (some (.ref p))) H1) : tSeq (tAsg te (gName i)) tz D σ H := h H (Ex.refl H) _ fun p xs H1 hp e hx hd => k p xs H1 hp e hx hd
theorem qnv (h : EvT t σ H false) (k : ∀ H1, Ex H H1 → tz D σ H1) : tSeq (tIfS t tNever tNext) tz D σ H := h H (Ex.refl H) _ fun H1 e => k H1 e
theorem snv (h : EvT t σ H false) (k : ∀ H1, Ex H H1 → D.nx σ H1) : tIfS t tNever tNext D σ H := h H (Ex.refl H) _ fun H1 e => k H1 e
theorem qfl (h : EvT t σ H false) (k : ∀ H1, Ex H H1 → tz D σ H1) : tSeq (tIfS t tu tNext) tz D σ H := h H (Ex.refl H) _ fun H1 e => k H1 e
theorem qdr (h : EvD K te σ H d) (k : ∀ H1, Ex H H1 → tz D σ H1) : tSeq (tDrop te) tz D σ H := h H (Ex.refl H) _ fun v H1 e _ => k H1 e
theorem qpar {i j : Nat} {ta : TA} (h : EvDA K ta σ H [da, db]) (k : ∀ x y H1, Ex H H1 → Dp K H1 x da → Dp K H1 y db → tz D ((σ.set i (some x)).set j (some y)) H1) : tSeq (tPar i j ta) tz D σ H := h H (Ex.refl H) _ fun vs H1 e hv => by
  obtain ⟨x, y, rfl, hx, hy⟩ := hv.two
  exact ⟨x, y, rfl, k x y H1 e hx hy⟩
theorem qparL {i j : Nat} {ta tb : TE} {ds : List PyData} (h : EvDL K ta σ H ds) (h2 : EvD K tb σ H db) (k : ∀ l xs y H1, H l = none → Ex H H1 → H1 l = some (.lst xs) → DpAll K H1 xs ds → Dp K H1 y db → tz D ((σ.set i (some (.ref l))).set j (some y)) H1) : tSeq (tPar i j (tCons ta (tCons tb tNil))) tz D σ H :=
  h H (Ex.refl H) _ fun l xs H1 hl e1 hx hd => h2 H1 e1 _ fun y H2 e2 hy => ⟨.ref l, y, rfl, k l xs y H2 hl (e1.trans e2) (e2 l _ hx) (hd.mono e2) hy⟩
theorem qparR {i j : Nat} {ta tb : TE} {ds : List PyData} (h2 : EvD K ta σ H da) (h : EvDL K tb σ H ds) (k : ∀ x l xs H0 H1, Ex H H0 → Dp K H0 x da → H0 l = none → Ex H0 H1 → H1 l = some (.lst xs) → DpAll K H1 xs ds → tz D ((σ.set i (some x)).set j (some (.ref l))) H1) : tSeq (tPar i j (tCons ta (tCons tb tNil))) tz D σ H :=
  h2 H (Ex.refl H) _ fun x H1 e1 hx => h H1 e1 _ fun l xs H2 hl e2 hl2 hd => ⟨x, .ref l, rfl, k x l xs H1 H2 e1 hx hl e2 hl2 hd⟩
/-- the list at l -/
def LA (K : PySem.W.Frag) (H : Hp) (l : Addr) (ds : List PyData) : Prop := ∃ xs, H l = some (.lst xs) ∧ DpAll K H xs ds
def ExE (l : Addr) (H H1 : Hp) : Prop := ∀ b o, b ≠ l → H b = some o → H1 b = some o
theorem ExE.ex {l : Addr} {H0 : Hp} (e0 : Ex H0 H) (hl : H0 l = none) (e : ExE l H H') : Ex H0 H' := fun b o hb => e b o (ne_of_none hb hl) (e0 b o hb)
theorem ExE.upd {l : Addr} {o : HO} : ExE l H (upd H l o) := fun b o' hb h => by rw [upd_ne hb]; exact h
theorem Ex.exE {l : Addr} (e : Ex H H') : ExE l H H' := fun b o _ h => e b o h
theorem LA.dp {l : Addr} {ds : List PyData} (h : LA K H l ds) : Dp K H (.ref l) (.list ds) := by
  obtain ⟨xs, hx, hd⟩ := h
  exact .lst (sq_of hx) hd
theorem LA.mono {l : Addr} {ds : List PyData} (e : Ex H H') (h : LA K H l ds) : LA K H' l ds := by
  obtain ⟨xs, hx, hd⟩ := h
  exact ⟨xs, e l _ hx, hd.mono e⟩
theorem LA.dl {l : Addr} {ds : List PyData} (h : LA K H l ds) : DL K H (.ref l) ds := by
  obtain ⟨xs, hx, hd⟩ := h
  exact ⟨l, xs, rfl, hx, hd⟩
theorem s_appD {l : Addr} {ds : List PyData} (hl : LA K H l ds) (hi : immA ds = true) (hid : imm d = true) (ha : Ev ta σ H (.ref l)) (h : EvD K te σ H d) (hz : ds.length < 100000)
    (k : ∀ H1, ExE l H H1 → LA K H1 l (ds ++ [d]) → D.nx σ H1) : tDrop (tBM K "list" rAppend ta (tCons te tNil)) D σ H := ha H (Ex.refl H) _ fun H1 e1 => by
  obtain ⟨xs, hx, hd⟩ := hl
  refine ⟨Or.inl ⟨rfl, xs, sq_of (e1 l _ hx)⟩, h H1 e1 _ fun v H2 e2 hv => ⟨l, xs, v, rfl, rfl, e2 l _ (e1 l _ hx), sz_lt (by rw [hd.length]; exact hz), ?_⟩⟩
  have e3 := e1.trans e2
  have hn : NoTup (H2 l) := by rw [e3 l _ hx]; trivial
  refine k _ (fun b o hb h => by rw [upd_ne hb]; exact e3 b o h) ⟨_, upd_same, ?_⟩
  exact DpAll.snoc (DpAll.ti (Ti.upd hn) hi (hd.mono e3)) (Dp.ti (Ti.upd hn) hid hv)
/-! ### isinstance -/
def pty : PyData → String
  | .none => "NoneType"
  | .bool _ => "bool"
  | .int _ => "int"
  | .str _ => "str"
  | .list _ => "list"
  | .tuple _ => "tuple"
  | .dict _ => "dict"
theorem dp_ty (h : Dp K H v d) : TyX K H v (.type (pty d)) := by
  cases h with
  | non => exact .base .non
  | bl b => exact .base (.bl b)
  | int i => exact .base (.int i)
  | str x => exact .base (.str x)
  | lst hs _ =>
    rcases hs with (hs | ⟨o, hs⟩) | ⟨o, _, _, h1, h2, _⟩
    · exact .base (.lst hs)
    · exact .base (.frz hs)
    · exact .kList h1 h2
  | tup hs _ =>
    rcases hs with (hs | ⟨o, hs⟩) | ⟨o, _, _, h1, h2, _⟩
    · exact .base (.tup hs)
    · exact .fTuple hs
    · exact .kTuple h1 h2
theorem d_isi {n : String} {b : Bool} (h : EvD K te σ H d) (hk : kitB (pty d) n = some b) : EvD K (tCB (rIsi K) (tCons te (tCons (tC (.ty n)) tNil))) σ H (.bool b) := fun H1 e Q q =>
  h H1 e _ fun v H2 e2 hv => ⟨v, .ty n, _, _, b, rfl, .ty n, dp_ty hv, kit_ty hk, q _ H2 e2 (.bl b)⟩
theorem d_isi2 {n m : String} {b c : Bool} (h : EvD K te σ H d) (hk : kitB (pty d) n = some b) (hk2 : kitB (pty d) m = some c) : EvD K (tCB (rIsiT K) (tCons te (tCons (tTup (tCons (tC (.ty n)) (tCons (tC (.ty m)) tNil))) tNil))) σ H (.bool (b || c)) := fun H1 e Q q =>
  h H1 e _ fun v H2 e2 hv => ⟨by show 2 ≤ sizeLine; decide, fun p hp => ⟨v, p, [.ty n, .ty m], _, [.type n, .type m], b || c, rfl, upd_same, .cons (.ty n) (.cons (.ty m) .nil), dp_ty (hv.mono (Ex.new hp)),
    kitAny_cons (kit_ty hk) (fun hb => kitAny_cons (kit_ty hk2) (fun hc => by rw [hb, hc]; exact kitAny_nil) fun hc => by rw [hc]; cases b <;> rfl) (fun hb => by rw [hb]; rfl), q _ _ (e2.trans (Ex.new hp)) (.bl _)⟩⟩
theorem kII : kitB "int" "int" = some true := by decide +kernel
theorem kIB : kitB "int" "bool" = some false := by decide +kernel
theorem kTT : kitB "tuple" "tuple" = some true := by decide +kernel
theorem kSS : kitB "str" "str" = some true := by decide +kernel
theorem kLT : kitB "list" "tuple" = some false := by decide +kernel
theorem kLL : kitB "list" "list" = some true := by decide +kernel
theorem kST : kitB "str" "tuple" = some false := by decide +kernel
theorem kSL : kitB "str" "list" = some false := by decide +kernel
theorem kIT : kitB "int" "tuple" = some false := by decide +kernel
theorem kIL : kitB "int" "list" = some false := by decide +kernel
theorem kIS : kitB "int" "str" = some false := by decide +kernel
theorem r_leN {a b : Nat} : R2D K H (rI0 fun i j => .bl (decide (i ≤ j))) (inD a) (inD b) (.bool (decide (a ≤ b))) := by
  have e : decide ((a : Int) ≤ b) = decide (a ≤ b) := by rw [decide_eq_decide]; exact Int.ofNat_le
  rw [← e]; exact r_I0 fun _ => .bl _
theorem r_ltN {a b : Nat} : R2D K H (rI0 fun i j => .bl (decide (i < j))) (inD a) (inD b) (.bool (decide (a < b))) := by
  have e : decide ((a : Int) < b) = decide (a < b) := by rw [decide_eq_decide]; exact Int.ofNat_lt
  rw [← e]; exact r_I0 fun _ => .bl _
theorem d_zero : EvD K (tC (.int 0)) σ H (inD 0) := d_int
theorem d_one : EvD K (tC (.int 1)) σ H (inD 1) := d_int
/-! ### spans and regions read -/
theorem d_sp0 {s : Spn} (h : EvD K te σ H (spD s)) : EvD K (tOp (rIxT K) te (tC (.int 0))) σ H (inD s.1) := d_op h d_int (r_ixT (i := 0) (atI_nat (j := 0) rfl))
theorem d_sp1 {s : Spn} (h : EvD K te σ H (spD s)) : EvD K (tOp (rIxT K) te (tC (.int 1))) σ H (inD s.2) := d_op h d_int (r_ixT (i := 1) (atI_nat (j := 1) rfl))
theorem d_rgN {R : Rg} {i : Nat} {c : Nat × Nat} (h : EvD K te σ H (rgD R)) (hi : EvD K ta σ H (inD i)) (hc : R[i]? = some c) : EvD K (tOp (rIxT K) te ta) σ H (spD c) := d_op h hi (r_ixT (atI_nat (by rw [List.getElem?_map, hc]; rfl)))
theorem atI_last' {α : Type} (xs : List α) (h : xs ≠ []) : atI xs (-1) = some (xs.getLast h) := by
  conv => lhs; rw [← List.dropLast_concat_getLast h]
  exact atI_last _ _
theorem d_neg1 : EvD K (tUn (rU fun i => .int (-i)) (tC (.int 1))) σ H (.int (-1)) := d_neg d_int
theorem d_rgL {R : Rg} {c : Nat × Nat} (h : EvD K te σ H (rgD R)) (hc : R[R.length - 1]? = some c) : EvD K (tOp (rIxT K) te (tUn (rU fun i => .int (-i)) (tC (.int 1)))) σ H (spD c) := d_op h d_neg1 (r_ixT (by
  have hne : R ≠ [] := fun e => by subst e; cases hc
  have hne' : R.map spD ≠ [] := fun e => hne (List.map_eq_nil_iff.mp e)
  rw [atI_last' _ hne', List.getLast_map, List.getLast_eq_getElem]
  have h1 : R.length - 1 < R.length := by have := List.length_pos_iff.mpr hne; omega
  rw [List.getElem?_eq_getElem h1] at hc
  exact congrArg (fun z => some (spD z)) (Option.some.inj hc)))
theorem d_len_rg {R : Rg} (h : EvD K te σ H (rgD R)) : EvD K (tCB (rLenS K) (tCons te tNil)) σ H (inD R.length) := by
  have := d_lenT h
  rw [List.length_map] at this
  exact this
end
end KL
set_option maxHeartbeats 4000000
namespace KL
open PySem L2 Evl KM
section
variable {K : PySem.W.Frag}
abbrev Rd (K : PySem.W.Frag) (sp : Sp) (t : TS) (N : List Str) : Prop := ∀ vs H Q E, sp vs H Q E → t { nx := fun _ H' => Q .non H', rt := Q } (start N vs) H
/-! is_int, is_in -/
def R_is_int (ds : List PyData) (d : PyData) : Prop := ∃ i, ds = [.int i] ∧ d = .bool true
theorem rd_is_int : Rd K (Pr K R_is_int) (t_is_int K) N_is_int := by
  rintro vs H Q E ⟨ds, d, hD, ⟨i, rfl, rfl⟩, q⟩
  obtain ⟨x, rfl, hx⟩ := hD.one
  refine sr (d := .bool true) (d_evB (ev_is (ev_andV (a := true) (b := true) (d_isi (d_var rfl hx) kII).b fun _ => ev_notV (d_isi (n := "bool") (b := false) (d_var rfl hx) kIB).b) rfl)) q
def R_is_in (ds : List PyData) (d : PyData) : Prop := ∃ v a b : Int, ds = [.int v, .int a, .int b] ∧ d = .bool (decide (a ≤ v) && decide (v ≤ b))
theorem rd_is_in : Rd K (Pr K R_is_in) (t_is_in K (Pr K R_is_int)) N_is_in := by
  rintro vs H Q E ⟨ds, d, hD, ⟨v, a, b, rfl, rfl⟩, q⟩
  obtain ⟨x, y, z, rfl, hx, hy, hz⟩ := hD.three
  refine sr (d := .bool (true && (decide (a ≤ v) && decide (v ≤ b)))) (d_andV (d_call (da_1 (d_var rfl hx)) ⟨v, rfl, rfl⟩) fun _ => ?_) q
  exact d_chain (d_var rfl hy) (d_var rfl hx) (r_I0 fun _ => .bl _) (fun _ => d_var rfl hz) fun _ => r_I0 fun _ => .bl _
def R_is_column (ds : List PyData) (d : PyData) : Prop := ∃ c : Nat × Nat, c.1 ≤ c.2 ∧ c.2 ≤ 59 ∧ ds = [spD c] ∧ d = .bool true
theorem rd_is_column : Rd K (Pr K R_is_column) (t_is_column K (Pr K R_is_in)) N_is_column := by
  rintro vs H Q E ⟨ds, d, hD, ⟨c, h1, h2, rfl, rfl⟩, q⟩
  obtain ⟨x, rfl, hx⟩ := hD.one
  refine qfl ?_ fun H1 e1 => ?_
  · refine et_is (et_or (a := false) (b := false) (et_not (a := true) (t_B (d_isi (d_var rfl hx) kTT))) fun _ => t_test (K := K) ?_) rfl
    exact (d_op (d_lenT (d_var rfl hx)) d_int r_neI).to rfl
  · have hx1 := hx.mono e1
    have hs : EvD K (tVar 0) (start N_is_column [x]) H1 (spD c) := d_var rfl hx1
    have h60 : EvD K (tOp (rI0 fun i j => .int (i - j)) (tC (.int 60)) (tC (.int 1))) (start N_is_column [x]) H1 (.int 59) := (d_sub d_int d_int).to rfl
    refine sr (d := .bool true) ((d_andV (d_call (da_3 (d_sp0 hs) d_int h60) ⟨_, _, _, rfl, rfl⟩) fun _ => d_call (da_3 (d_sp1 hs) (d_sp0 hs) h60) ⟨_, _, _, rfl, rfl⟩).to ?_) fun v H2 e2 hv => q v H2 (e1.trans e2) hv
    congr 1
    simp only [Bool.and_eq_true, decide_eq_true_eq]
    omega
def R_fits_behind (ds : List PyData) (d : PyData) : Prop := ∃ c k : Nat × Nat, c.1 ≤ k.1 ∧ k.1 ≤ c.2 ∧ c.2 ≤ k.2 ∧ ds = [spD c, spD k] ∧ d = .bool true
theorem d_chain3 {σ : L2.St} {H : Hp} {ta tb tc td : TE} {a b c d : Int} (ha : EvD K ta σ H (.int a)) (hb : EvD K tb σ H (.int b)) (hc : EvD K tc σ H (.int c)) (hd : EvD K td σ H (.int d)) (h1 : a ≤ b) (h2 : b ≤ c) (h3 : c ≤ d) :
    EvD K (tChain3 (rI0 fun i j => .bl (decide (i ≤ j))) (rI0 fun i j => .bl (decide (i ≤ j))) (rI0 fun i j => .bl (decide (i ≤ j))) ta tb tc td) σ H (.bool true) := fun H1 e Q q =>
  ha H1 e _ fun v1 Ha ea va => hb Ha (e.trans ea) _ fun v2 Hb eb vb => by
    rw [va.intI, vb.intI]
    refine ⟨a, b, rfl, rfl, true, congrArg V.bl (decide_eq_true h1), ?_⟩
    rw [if_pos rfl]
    refine hc Hb ((e.trans ea).trans eb) _ fun v3 Hc ec vc => ?_
    rw [vc.intI]
    refine ⟨b, c, rfl, rfl, true, congrArg V.bl (decide_eq_true h2), ?_⟩
    rw [if_pos rfl]
    refine hd Hc (((e.trans ea).trans eb).trans ec) _ fun v4 Hd ed vd => ?_
    rw [vd.intI]
    refine ⟨c, d, rfl, rfl, ?_⟩
    show Q (V.bl (decide (c ≤ d))) Hd
    rw [decide_eq_true h3]
    exact q _ Hd (((ea.trans eb).trans ec).trans ed) (.bl true)
theorem rd_fits_behind : Rd K (Pr K R_fits_behind) (t_fits_behind K) N_fits_behind := by
  rintro vs H Q E ⟨ds, d, hD, ⟨c, k, h1, h2, h3, rfl, rfl⟩, q⟩
  obtain ⟨x, y, rfl, hx, hy⟩ := hD.two
  have hs : EvD K (tVar 0) (start N_fits_behind [x, y]) H (spD c) := d_var rfl hx
  have ht : EvD K (tVar 1) (start N_fits_behind [x, y]) H (spD k) := d_var rfl hy
  exact sr (d := .bool true) (d_chain3 (d_sp0 hs) (d_sp0 ht) (d_sp1 hs) (d_sp1 ht) (by omega) (by omega) (by omega)) q
/-! end_of, is_open, after -/
def R_end_of (ds : List PyData) (d : PyData) : Prop := ∃ R, Reg R ∧ ds = [rgD R] ∧ d = spD (en R)
theorem rd_end_of : Rd K (Pr K R_end_of) (t_end_of K) N_end_of := by
  rintro vs H Q E ⟨ds, d, hD, ⟨R, hR, rfl, rfl⟩, q⟩
  obtain ⟨x, rfl, hx⟩ := hD.one
  have hs : EvD K (tVar 0) (start N_end_of [x]) H (rgD R) := d_var rfl hx
  obtain ⟨c, hc, hh⟩ := last_at hR
  have h1 : EvD K (tOp (rI0 fun i j => .int (i - j)) (tCB (rLenS K) (tCons (tVar 0) tNil)) (tC (.int 1))) (start N_end_of [x]) H (inD (en R).1) := (d_sub (d_len_rg hs) d_int).to (by
    have := hR.pos
    show PyData.int ((R.length : Int) - 1) = PyData.int ((R.length - 1 : Nat) : Int)
    congr 1; omega)
  have h2 := d_sp1 (d_rgL hs hc)
  rw [hh] at h2
  exact sr (d_tup (da_2 h1 h2) (by show 2 ≤ 100000; decide)) q
def R_is_open (ds : List PyData) (d : PyData) : Prop := ∃ R s, Reg R ∧ ds = [rgD R, spD s] ∧ d = .bool (opn R s)
theorem rd_is_open : Rd K (Pr K R_is_open) (t_is_open K) N_is_open := by
  rintro vs H Q E ⟨ds, d, hD, ⟨R, s, hR, rfl, rfl⟩, q⟩
  obtain ⟨x, y, rfl, hx, hy⟩ := hD.two
  have hs : EvD K (tVar 0) (start N_is_open [x, y]) H (rgD R) := d_var rfl hx
  have ht : EvD K (tVar 1) (start N_is_open [x, y]) H (spD s) := d_var rfl hy
  have h1 := (d_chain (K := K) d_zero (d_sp0 ht) r_leN (fun _ => d_len_rg hs) fun _ => r_ltN).to (da := .bool (decide (s.1 < R.length))) (by simp)
  have hopn : opn R s = (decide (s.1 < R.length) && opn R s) := by
    by_cases h : s.1 < R.length
    · rw [decide_eq_true h]; rfl
    · rw [decide_eq_false h]
      unfold opn
      rw [List.getElem?_eq_none (by omega)]; rfl
  rw [hopn] at q
  refine sr (d_andV h1 fun hb => ?_) q
  have hlt : s.1 < R.length := by simpa using hb
  have hc : R[s.1]? = some R[s.1] := List.getElem?_eq_getElem hlt
  have hcol := d_rgN hs (d_sp0 ht) hc
  have h2 := d_chain (K := K) (d_sp0 hcol) (d_sp1 ht) r_leN (fun _ => d_sp1 hcol) fun _ => r_leN
  refine h2.to ?_
  unfold opn
  rw [hc]
def R_after (ds : List PyData) (d : PyData) : Prop := ∃ s b, ds = [spD s, .str (sgB b)] ∧ d = spD (aft s b)
theorem rd_after_gen {σ : L2.St} {D : Ends} {H : Hp} {x y : V} {s : Spn} {b : Bool} (h0 : σ[0]? = some (some x)) (h1 : σ[1]? = some (some y)) (hx : Dp K H x (spD s)) (hy : Dp K H y (.str (sgB b))) (q : ∀ v H', Ex H H' → Dp K H' v (spD (aft s b)) → D.rt v H') : t_after K D σ H := by
  have hs : EvD K (tVar 0) σ H (spD s) := d_var h0 hx
  have ht : EvD K (tVar 1) σ H (.str (sgB b)) := d_var h1 hy
  have hc := t_test (d_op ht (d_str (i := "L")) r_eqS)
  rw [sgB_L] at hc
  refine sr (d := spD (aft s b)) (d_if hc (fun hb => ?_) fun hb => ?_) q
  · subst hb
    exact (d_tup (da_2 (d_add (d_sp0 hs) d_int) (d_sp1 hs)) (by show 2 ≤ 100000; decide)).to rfl
  · subst hb
    exact (d_tup (da_2 (d_sp0 hs) (d_add (d_sp1 hs) d_int)) (by show 2 ≤ 100000; decide)).to rfl
theorem rd_after : Rd K (Pr K R_after) (t_after K) N_after := by
  rintro vs H Q E ⟨ds, d, hD, ⟨s, b, rfl, rfl⟩, q⟩
  obtain ⟨x, y, rfl, hx, hy⟩ := hD.two
  exact rd_after_gen rfl rfl hx hy q
theorem rd_law_after : Rd K (Pr K R_after) (t_law_after K) N_law_after := by
  rintro vs H Q E ⟨ds, d, hD, ⟨s, b, rfl, rfl⟩, q⟩
  obtain ⟨x, y, rfl, hx, hy⟩ := hD.two
  exact rd_after_gen (D := { nx := fun _ H' => Q .non H', rt := Q }) rfl rfl hx hy q
end
end KL
set_option maxHeartbeats 4000000
namespace KL
open PySem L2 Evl KM
section
variable {K : PySem.W.Frag}
def R_need_region (ds : List PyData) (d : PyData) : Prop := ∃ R, Reg R ∧ ds = [rgD R] ∧ d = .none
theorem r_eqN {H : Hp} {a b : Nat} : R2D K H rEq (inD a) (inD b) (.bool (decide (a = b))) := by
  have e : decide ((a : Int) = b) = decide (a = b) := by rw [decide_eq_decide]; exact Int.ofNat_inj
  rw [← e]; exact r_eqI
theorem r_neN {H : Hp} {a b : Nat} : R2D K H rNe (inD a) (inD b) (.bool (!decide (a = b))) := by
  have e : decide ((a : Int) = b) = decide (a = b) := by rw [decide_eq_decide]; exact Int.ofNat_inj
  rw [← e]; exact r_neI
theorem r_gtN {H : Hp} {a b : Nat} : R2D K H (rI0 fun i j => .bl (decide (j < i))) (inD a) (inD b) (.bool (decide (b < a))) := by
  have e : decide ((b : Int) < a) = decide (b < a) := by rw [decide_eq_decide]; exact Int.ofNat_lt
  rw [← e]; exact r_I0 fun _ => .bl _
theorem en_get {ds : List PyData} {i : Nat} {d : PyData} (h : (enD ds)[i]? = some d) : ∃ c, ds[i]? = some c ∧ d = .tuple [inD i, c] := by
  unfold enD at h
  rw [List.getElem?_map] at h
  cases q : (List.range ds.length)[i]? with
  | none => rw [q] at h; cases h
  | some j =>
    have hi : i < ds.length := by
      have := (List.getElem?_eq_some_iff.mp q).1
      rwa [List.length_range] at this
    rw [List.getElem?_range hi] at q
    cases q
    rw [List.getElem?_range hi] at h
    refine ⟨ds[i], List.getElem?_eq_getElem hi, ?_⟩
    have h' : PyData.tuple [.int (i : Int), ds[i]?.getD .none] = d := Option.some.inj h
    rw [List.getElem?_eq_getElem hi] at h'
    exact h'.symm
theorem map_get {α β : Type} {f : α → β} {l : List α} {i : Nat} {b : β} (h : (l.map f)[i]? = some b) : ∃ a, l[i]? = some a ∧ b = f a := by
  rw [List.getElem?_map] at h
  cases q : l[i]? with
  | none => rw [q] at h; cases h
  | some a => rw [q] at h; exact ⟨a, rfl, (Option.some.inj h).symm⟩
theorem rd_need_region : KL.Rd K (Pr K R_need_region) (t_need_region K (Pr K R_is_column) (Pr K R_fits_behind)) N_need_region := by
  rintro vs H Q E ⟨ds, d, hD, ⟨R, hR, rfl, rfl⟩, q⟩
  obtain ⟨x, rfl, hx⟩ := hD.one
  refine qnv ?_ fun H1 e1 => ?_
  · refine et_is (et_or (a := false) (b := false) (et_not (a := true) (t_B (d_isi (d_var rfl hx) kTT))) fun _ => et_not (a := true) (t_test (K := K) ?_)) rfl
    refine (d_chain (K := K) d_one (d_len_rg (d_var rfl hx)) r_leN (fun _ => (d_int : EvD K _ _ _ (inD 60))) fun _ => r_leN).to ?_
    have h1 := hR.pos
    have h2 := hR.len
    rw [decide_eq_true h1, decide_eq_true (show R.length ≤ 60 by omega)]; rfl
  · refine iv_enT (da_1 (d_var rfl (hx.mono e1))) H1 (Ex.refl _) _ fun J H2 e2 w => ?_
    refine for_it w (fun i σ' H' => (∃ a b, σ' = [some x, a, b]) ∧ Ex H2 H') ⟨⟨none, none, rfl⟩, Ex.refl _⟩ (fun i σ' H' _ p => p.2) ?_ ?_
    · rintro i x1 σ' H' H'' hlt ⟨⟨a, b, rfl⟩, eH⟩ ⟨ex, d, hd, hdp⟩
      obtain ⟨c', hc', rfl⟩ := en_get hd
      obtain ⟨c, hc, rfl⟩ := map_get hc'
      refine g_pair hdp fun xi xc hi hc1 => ?_
      have eX : Ex H H'' := ((e1.trans e2).trans eH).trans ex
      have col := hR.col i c hc
      refine qnv ?_ fun H3 e3 => snv ?_ fun H4 e4 => ⟨⟨_, _, rfl⟩, ((eH.trans ex).trans e3).trans e4⟩
      · exact et_not (a := true) (t_B (d_call (da_1 (d_var rfl hc1)) ⟨c, col.1, by omega, rfl, rfl⟩))
      · have v1 : EvD K (tVar 1) [some x, some xi, some xc] H3 (inD i) := d_var rfl (hi.mono e3)
        have v2 : EvD K (tVar 2) [some x, some xi, some xc] H3 (spD c) := d_var rfl (hc1.mono e3)
        have v0 : EvD K (tVar 0) [some x, some xi, some xc] H3 (rgD R) := d_var rfl (hx.mono (eX.trans e3))
        refine et_is (et_or (et_and (t_test (d_op v1 d_zero r_eqN)) fun _ => t_test (d_op (d_sp0 v2) d_zero r_neN)) fun _ => et_and (b := false) (t_test (d_op v1 d_zero r_gtN)) fun hpos => et_not (a := true) (t_B (K := K) ?_)) ?_
        · have hi0 : 0 < i := by simpa using hpos
          have hil : i < R.length := (List.getElem?_eq_some_iff.mp hc).1
          have hp : R[i - 1]? = some R[i - 1] := List.getElem?_eq_getElem (by omega)
          obtain ⟨f1, f2, f3⟩ := hR.fit (i - 1) _ c hp (by rw [show i - 1 + 1 = i by omega]; exact hc)
          have hidx : EvD K (tOp (rI0 fun i j => .int (i - j)) (tVar 1) (tC (.int 1))) [some x, some xi, some xc] H3 (inD (i - 1)) := (d_sub v1 d_int).to (by
            show PyData.int ((i : Int) - 1) = PyData.int ((i - 1 : Nat) : Int)
            congr 1; omega)
          exact d_call (da_2 (d_rgN v0 hidx hp) v2) ⟨_, c, f1, f2, f3, rfl, rfl⟩
        · by_cases h0 : i = 0
          · subst h0
            rw [hR.lo0 c hc]; rfl
          · rw [decide_eq_false h0]; simp
    · rintro σ' H' ⟨⟨a, b, rfl⟩, eH⟩
      exact q .non H' ((e1.trans e2).trans eH) .non
end
end KL
set_option maxHeartbeats 4000000
namespace KL
open PySem L2 Evl KM
section
variable {K : PySem.W.Frag} {σ : L2.St} {H H' : Hp} {ta tb tc te tl : TE}
/-! sources whose loop changes what stood -/
theorem i_str {z : Str} {R : It → Hp → Prop} (h : EvD K te σ H (.str z)) (k : ∀ H2, Ex H H2 → R (Its z) H2) : iStr te σ H R :=
  h H (Ex.refl H) _ fun v H2 e2 hv => ⟨z, hv.strI, k H2 e2⟩
theorem i_rng1 {ta : TA} {n : Int} {R : It → Hp → Prop} (h : EvDA K ta σ H [.int n]) (hn : -100000 ≤ n ∧ n ≤ 100000) (k : ∀ H2, Ex H H2 → R (Itr 0 n.toNat) H2) : iRng1 ta σ H R :=
  h H (Ex.refl H) _ fun vs H2 e2 hv => by
    obtain ⟨x, rfl, hx⟩ := hv.one
    rw [hx.intI]
    exact ⟨n, rfl, by omega, by omega, k H2 e2⟩
theorem i_list {ds : List PyData} {R : It → Hp → Prop} (h : EvD K tl σ H (.list ds)) (k : ∀ a xs H2, Ex H H2 → SqL K H2 a xs → DpAll K H2 xs ds → R (Itl K a) H2) : iList K tl σ H R :=
  h H (Ex.refl H) _ fun v H2 e2 hv => by
    obtain ⟨a, xs, rfl, hs, ha⟩ := hv.lstI
    exact ⟨a, rfl, ⟨xs, hs⟩, k a xs H2 e2 hs ha⟩
theorem wk_rng {n : Nat} (G : Hp → Prop) : WkD K (Itr 0 n) G ((List.range n).map inD) := by
  unfold WkD
  rw [List.length_map, List.length_range]
  exact (walk_range (lo := 0) (n := n)).mono (fun _ _ => trivial) fun i H x H' hi g y => by
    obtain ⟨rfl, rfl⟩ := y
    refine ⟨Ex.refl _, inD i, by rw [List.getElem?_map, List.getElem?_range hi]; rfl, ?_⟩
    show Dp K _ (V.int (0 + (i : Int))) (.int (i : Int))
    rw [Int.zero_add]; exact .int _
theorem SW_sgn (w : Wd) : (SW w).cps.toList.map sgn = w.map fun b => PyData.str (sgB b) := by
  rw [SW_list, List.map_map]; rfl
theorem wk_wd {w : Wd} (G : Hp → Prop) : WkD K (Its (SW w)) G (w.map fun b => PyData.str (sgB b)) := by
  have := wk_str (K := K) (z := SW w) G
  rw [SW_sgn] at this
  exact this
theorem take_snoc {α : Type} {l : List α} {i : Nat} {a : α} (h : l[i]? = some a) : l.take (i + 1) = l.take i ++ [a] := by
  rw [List.take_add_one, h]; rfl
theorem path_at {R : Rg} {w : Wd} {i : Nat} {b : Bool} {s : Spn} (h : path R s w = true) (e : w[i]? = some b) : opn R (aft (fin s (w.take i)) b) = true := by
  have h1 : w = w.take (i + 1) ++ w.drop (i + 1) := (List.take_append_drop _ _).symm
  rw [h1, path_append, take_snoc e, path_snoc, Bool.and_eq_true, Bool.and_eq_true] at h
  exact h.1.2
def spansOn (w : Wd) : List Spn := (List.range (w.length + 1)).map fun i => fin (0, 0) (w.take i)
def spansTo (w : Wd) (n : Nat) : List PyData := (List.range n).map fun i => spD (fin (0, 0) (w.take i))
theorem spansTo_succ (w : Wd) (n : Nat) : spansTo w (n + 1) = spansTo w n ++ [spD (fin (0, 0) (w.take n))] := by
  unfold spansTo; rw [List.range_succ, List.map_append]; rfl
theorem spansTo_len (w : Wd) (n : Nat) : (spansTo w n).length = n := by unfold spansTo; simp
theorem imm_spansTo (w : Wd) (n : Nat) : immA (spansTo w n) = true := immA_map (fun _ => rfl) _
def R_spans_on (ds : List PyData) (d : PyData) : Prop := ∃ w : Wd, w.length ≤ 100 ∧ ds = [wdD w] ∧ d = .list (spansTo w (w.length + 1))
theorem rd_spans_on : KL.Rd K (Pr K R_spans_on) (t_spans_on K (Pr K R_after)) N_spans_on := by
  rintro vs H Q E ⟨ds, d, hD, ⟨w, hw, rfl, rfl⟩, q⟩
  obtain ⟨x, rfl, hx⟩ := hD.one
  refine qal (K := K) (dl_lst (da_1 ((d_tup (da_2 d_int d_int) (by show 2 ≤ 100000; decide)).to (da := spD (0, 0)) rfl)) (by show 1 ≤ 100000; decide)) fun l xs H1 hl e1 h1 hd1 => ?_
  show tFor _ _ _ _ _ _
  refine i_str (d_var rfl (hx.mono e1)) fun H2 e2 => ?_
  refine for_it (wk_wd (K := K) (w := w) fun _ => True) (fun i σ' H' => (∃ a, σ' = [some x, some (.ref l), a]) ∧ Ex H H' ∧ LA K H' l (spansTo w (i + 1))) ⟨⟨none, rfl⟩, e1.trans e2, LA.mono e2 ⟨xs, h1, hd1⟩⟩ (fun _ _ _ _ _ => trivial) ?_ ?_
  · rintro i x1 σ' H' H'' hlt ⟨⟨a, rfl⟩, eH, hL⟩ ⟨ex, d, hd, hdp⟩
    obtain ⟨b, hb, rfl⟩ := map_get hd
    rw [List.length_map] at hlt
    have hL' := hL.mono ex
    have v1 : EvD K (tVar 1) [some x, some (.ref l), some x1] H'' (.list (spansTo w (i + 1))) := d_var rfl hL'.dp
    have hlast : atI (spansTo w (i + 1)) (-1) = some (spD (fin (0, 0) (w.take i))) := by rw [spansTo_succ]; exact atI_last _ _
    refine s_appD (σ := [some x, some (.ref l), some x1]) hL' (imm_spansTo _ _) (imm_spD _) (ev_var rfl) (d_call (da_2 (d_op v1 d_neg1 (r_ixL hlast)) (d_var rfl hdp)) ⟨_, b, rfl, rfl⟩) (by rw [spansTo_len]; omega) fun H3 e3 h3 => ?_
    refine ⟨⟨_, rfl⟩, ExE.ex (eH.trans ex) hl e3, ?_⟩
    rw [spansTo_succ, take_snoc hb, fin_snoc]
    exact h3
  · rintro σ' H' ⟨⟨a, rfl⟩, eH, hL⟩
    rw [List.length_map] at hL
    exact sr (d_var rfl hL.dp) fun v H3 e3 hv => q v H3 (eH.trans e3) hv
/-! rows_on -/
theorem rows_snocT (u : Wd) (h : Nat) : rows h (u ++ [true]) = rows h u ++ [hts h u] := by rw [rows_append]; rfl
theorem rows_snocF (u : Wd) (h : Nat) : rows h (u ++ [false]) = rows h u := by rw [rows_append]; show _ ++ [] = _; simp
theorem hts_append : ∀ (u v : Wd) (h : Nat), hts h (u ++ v) = hts (hts h u) v
  | [], _, _ => rfl
  | true :: u, v, h => hts_append u v h
  | false :: u, v, h => hts_append u v (h + 1)
theorem rows_lenle : ∀ (w : Wd) (h : Nat), (rows h w).length ≤ w.length
  | [], _ => Nat.le_refl _
  | true :: w, h => by show (rows h w).length + 1 ≤ w.length + 1; have := rows_lenle w h; omega
  | false :: w, h => by show (rows (h + 1) w).length ≤ w.length + 1; have := rows_lenle w (h + 1); omega
def R_rows_on (ds : List PyData) (d : PyData) : Prop := ∃ w : Wd, w.length ≤ 100 ∧ ds = [wdD w] ∧ d = .list ((rows 0 w).map inD)
theorem rd_rows_on : KL.Rd K (Pr K R_rows_on) (t_rows_on K) N_rows_on := by
  rintro vs H Q E ⟨ds, d, hD, ⟨w, hw, rfl, rfl⟩, q⟩
  obtain ⟨x, rfl, hx⟩ := hD.one
  -- found, height = [], 0
  refine qparL (K := K) (ds := []) (dl_lst da_nil (by show 0 ≤ 100000; decide)) (d_zero) fun l xs y H1 hl e1 h1 hd1 hy => ?_
  obtain rfl := hy.intI
  show tFor _ _ _ _ _ _
  refine i_str (K := K) (z := SW w) (d_var rfl (hx.mono e1)) fun H2 e2 => ?_
  refine for_it (wk_wd (K := K) (w := w) fun _ => True) (fun i σ' H' => (∃ a, σ' = [some x, some (.ref l), some (.int (hts 0 (w.take i) : Nat)), a]) ∧ Ex H H' ∧ LA K H' l ((rows 0 (w.take i)).map inD)) ⟨⟨none, rfl⟩, e1.trans e2, LA.mono e2 ⟨xs, h1, hd1⟩⟩ (fun _ _ _ _ _ => trivial) ?_ ?_
  · rintro i x1 σ' H' H'' hlt ⟨⟨a, rfl⟩, eH, hL⟩ ⟨ex, d, hd, hdp⟩
    obtain ⟨b, hb, rfl⟩ := map_get hd
    rw [List.length_map] at hlt
    have hL' := hL.mono ex
    have hc := t_test (d_op (d_var (σ := [some x, some (.ref l), some (.int (hts 0 (w.take i) : Nat)), some x1]) (i := 3) rfl hdp) (d_str (i := "L")) r_eqS)
    rw [sgB_L] at hc
    refine s_if hc (fun hb1 H3 e3 => ?_) fun hb1 H3 e3 => ?_
    · subst hb1
      refine s_appD (d := inD (hts 0 (w.take i))) (hL'.mono e3) (immA_map (fun _ => rfl) _) rfl (ev_var rfl) (d_var rfl (.int _)) (by
        rw [List.length_map]
        have := rows_lenle (w.take i) 0
        rw [List.length_take] at this
        omega) fun H4 e4 h4 => ?_
      refine ⟨⟨some x1, ?_⟩, ExE.ex ((eH.trans ex).trans e3) hl e4, ?_⟩
      · rw [take_snoc hb, hts_append]; rfl
      · rw [take_snoc hb, rows_snocT, List.map_append]; exact h4
    · subst hb1
      refine s_aug (f := fun i j => i + j) (a := (hts 0 (w.take i) : Nat)) (b := 1) rfl ev_c fun H4 e4 => ?_
      refine ⟨⟨some x1, ?_⟩, ((eH.trans ex).trans e3).trans e4, ?_⟩
      · rw [take_snoc hb, hts_append]; rfl
      · rw [take_snoc hb, rows_snocF]; exact (hL'.mono e3).mono e4
  · rintro σ' H' ⟨⟨a, rfl⟩, eH, hL⟩
    rw [List.length_map, List.take_length] at hL
    exact sr (d_var rfl hL.dp) fun v H3 e3 hv => q v H3 (eH.trans e3) hv
/-! need_play, need_plays -/
def R_need_play (ds : List PyData) (d : PyData) : Prop := ∃ R w, Reg R ∧ isPlay R w = true ∧ ds = [rgD R, wdD w] ∧ d = .none
theorem lay_sp (s : Spn) : (spD s).canLay0 = true := by simp [spD, inD, PyData.canLay0, PyData.canLayAll0]
theorem inLR (b : Bool) : decide (cd b ∈ ("LR" : Str).cps.toList) = true := by cases b <;> decide +kernel
theorem rd_need_play : KL.Rd K (Pr K R_need_play) (t_need_play K (Pr K R_is_open) (Pr K R_after) (Pr K R_end_of)) N_need_play := by
  rintro vs H Q E ⟨ds, d, hD, ⟨R, w, hR, hw, rfl, rfl⟩, q⟩
  obtain ⟨x, y, rfl, hx, hy⟩ := hD.two
  have hw' := hw
  unfold isPlay at hw'
  rw [Bool.and_eq_true, decide_eq_true_eq] at hw'
  refine qnv (et_not (a := true) (t_B (d_isi (d_var rfl hy) kSS))) fun H1 e1 => ?_
  refine qa ((d_tup (K := K) (da_2 d_int d_int) (by show 2 ≤ 100000; decide)).to (da := spD (0, 0)) rfl) fun v2 H2 e2 hv2 => ?_
  show tFor _ _ _ _ _ _
  have e12 := e1.trans e2
  refine iv_enS (K := K) (z := SW w) (da_1 (d_var rfl (hy.mono e12))) H2 (Ex.refl _) _ fun J H3 e3 wk => ?_
  rw [SW_sgn] at wk
  refine for_it wk (fun i σ' H' => (∃ v a b, σ' = [some x, some y, some v, a, b] ∧ Dp K H' v (spD (fin (0, 0) (w.take i)))) ∧ Ex H3 H') ⟨⟨v2, none, none, rfl, hv2.mono e3⟩, Ex.refl _⟩ (fun i σ' H' _ p => p.2) ?_ ?_
  · rintro i x1 σ' H' H'' hlt ⟨⟨v, a, b0, rfl, hv⟩, eH⟩ ⟨ex, d, hd, hdp⟩
    obtain ⟨c', hc', rfl⟩ := en_get hd
    obtain ⟨b, hb, rfl⟩ := map_get hc'
    refine g_pair hdp fun xi xc hi hc1 => ?_
    have eX : Ex H H'' := ((e12.trans e3).trans eH).trans ex
    have v0 : EvD K (tVar 0) [some x, some y, some v, some xi, some xc] H'' (rgD R) := d_var rfl (hx.mono eX)
    have v2' : EvD K (tVar 2) [some x, some y, some v, some xi, some xc] H'' (spD (fin (0, 0) (w.take i))) := d_var rfl (hv.mono ex)
    have v4 : EvD K (tVar 4) [some x, some y, some v, some xi, some xc] H'' (.str (sgB b)) := d_var rfl hc1
    have hc := t_test (d_op v4 (d_str (i := "LR")) (r_notInS (c := cd b)))
    rw [inLR] at hc
    have hop := t_B (d_call (E := E0) (R := R_is_open) (da_2 v0 (d_call (E := E0) (R := R_after) (da_2 v2' v4) ⟨_, b, rfl, rfl⟩)) ⟨R, _, hR, rfl, rfl⟩)
    rw [path_at hw'.1 hb] at hop
    refine qnv (et_is (et_or hc fun _ => et_not hop) rfl) fun H4 e4 => ?_
    refine sa (d_call (E := E0) (R := R_after) (da_2 (v2'.mono e4) (v4.mono e4)) ⟨_, b, rfl, rfl⟩) fun v5 H5 e5 hv5 => ?_
    refine ⟨⟨v5, _, _, rfl, ?_⟩, ((eH.trans ex).trans e4).trans e5⟩
    rw [take_snoc hb, fin_snoc]
    exact hv5
  · rintro σ' H' ⟨⟨v, a, b0, rfl, hv⟩, eH⟩
    have hlen : (enD (w.map fun b => PyData.str (sgB b))).length = w.length := by unfold enD; simp
    rw [hlen, List.take_length, hw'.2] at hv
    have eX : Ex H H' := (e12.trans e3).trans eH
    have hne := t_test (d_op (d_var (σ := [some x, some y, some v, a, b0]) (i := 2) rfl hv) (d_call (E := E0) (R := R_end_of) (da_1 (d_var (i := 0) rfl (hx.mono eX))) ⟨R, hR, rfl, rfl⟩) (r_neD (shp_sp _) (shp_sp _)))
    rw [SeqAt.eqv_refl _ (lay_sp _)] at hne
    exact snv hne fun H4 e4 => q .non H4 (eX.trans e4) .non
def R_need_plays (ds : List PyData) (d : PyData) : Prop := ∃ R u w, Reg R ∧ isPlay R u = true ∧ isPlay R w = true ∧ ds = [rgD R, wdD u, wdD w] ∧ d = .none
theorem rd_need_plays : KL.Rd K (Pr K R_need_plays) (t_need_plays K (Pr K R_need_region) (Pr K R_need_play)) N_need_plays := by
  rintro vs H Q E ⟨ds, d, hD, ⟨R, u, w, hR, hu, hw, rfl, rfl⟩, q⟩
  obtain ⟨x, y, z, rfl, hx, hy, hz⟩ := hD.three
  refine qdr (d_call (da_1 (d_var rfl hx)) ⟨R, hR, rfl, rfl⟩) fun H1 e1 => ?_
  refine qdr (d_call (da_2 (d_var rfl (hx.mono e1)) (d_var rfl (hy.mono e1))) ⟨R, u, hR, hu, rfl, rfl⟩) fun H2 e2 => ?_
  have e := e1.trans e2
  refine (d_call (K := K) (E := E0) (R := R_need_play) (da_2 (d_var (σ := start N_need_plays [x, y, z]) rfl (hx.mono e)) (d_var rfl (hz.mono e))) ⟨R, w, hR, hw, rfl, rfl⟩) H2 (Ex.refl _) _ fun v H3 e3 hv => ?_
  exact q .non H3 (e.trans e3) .non
end
end KL
set_option maxHeartbeats 4000000
namespace KL
open PySem L2 Evl KM
/-! ### answers of which more than one will do -/
def PrN (K : PySem.W.Frag) (P : List PyData → (PyData → Prop) → Prop) : Sp := fun vs H Q _ => ∃ ds S, DpAll K H vs ds ∧ P ds S ∧ ∀ d v H', S d → Ex H H' → Dp K H' v d → Q v H'
def EvS (K : PySem.W.Frag) (te : TE) (σ : L2.St) (H : Hp) (S : PyData → Prop) : Prop := ∀ H1, Ex H H1 → ∀ Q : VK, (∀ d v H2, S d → Ex H1 H2 → Dp K H2 v d → Q v H2) → te σ H1 Q
section
variable {K : PySem.W.Frag} {σ : L2.St} {H H' : Hp} {ta tb tc te tl : TE} {D : Ends} {tz : TS}
theorem e_call {P : List PyData → (PyData → Prop) → Prop} {tr : TA} {ds : List PyData} {E : XK} {S : PyData → Prop} (h : EvDA K tr σ H ds) (hR : P ds S) : EvS K (tCall (PrN K P) [] E tr) σ H S := fun H1 e Q q =>
  h H1 e _ fun vs H2 e2 hv => ⟨ds, S, by rw [List.append_nil]; exact hv, hR, fun d v H3 hd e3 h3 => q d v H3 hd (e2.trans e3) h3⟩
theorem srS {S : PyData → Prop} (h : EvS K te σ H S) (k : ∀ d v H1, S d → Ex H H1 → Dp K H1 v d → D.rt v H1) : tRet te D σ H := h H (Ex.refl H) _ k
/-! ### cuts of words -/
theorem cutW (w : Wd) (a b : Nat) : cutS (SW w) (some (a : Int)) (some (b : Int)) = SW ((w.drop (min a w.length)).take (min b w.length - min a w.length)) := by
  unfold cutS
  rw [HT.sIx_nat, HT.sIx_nat, SW_len, SW_list, ← List.map_drop, ← List.map_take] <;> rfl
theorem cutW0 (w : Wd) (b : Nat) : cutS (SW w) none (some (b : Int)) = SW (w.take b) := by
  unfold cutS
  rw [HT.sIx_none, HT.sIx_nat, SW_len, SW_list, List.drop_zero, Nat.sub_zero, ← List.map_take]
  show SW (w.take (min b w.length)) = _
  congr 1
  rw [List.take_eq_take_iff]; omega
theorem cutW1 (w : Wd) (a : Nat) : cutS (SW w) (some (a : Int)) none = SW (w.drop a) := by
  unfold cutS
  rw [HT.sIx_none, HT.sIx_nat, SW_len, SW_list, ← List.map_drop, ← List.map_take]
  show SW ((w.drop (min a w.length)).take (w.length - min a w.length)) = _
  congr 1
  by_cases h : a ≤ w.length
  · rw [Nat.min_eq_left h, List.take_of_length_le (by rw [List.length_drop]; exact Nat.le_refl _)]
  · rw [Nat.min_eq_right (by omega), Nat.sub_self, List.take_zero, List.drop_eq_nil_of_le (by omega)]
theorem drop2 (w : Wd) (i : Nat) (h : i + 1 < w.length) : (w.drop i).take 2 = [gb w i, gb w (i + 1)] := by
  have e := cut_at w i h
  have e2 : w.drop i = gb w i :: gb w (i + 1) :: w.drop (i + 2) := by
    conv => lhs; rw [e]
    rw [List.drop_append, List.length_take]
    have : i - min i w.length = 0 := by omega
    rw [this, List.drop_of_length_le (by rw [List.length_take]; omega)]; rfl
  rw [e2]; rfl
theorem pairW (w : Wd) (i : Nat) (h : i + 1 < w.length) : cutS (SW w) (some (i : Int)) (some ((i : Int) + 2)) = SW [gb w i, gb w (i + 1)] := by
  have e : ((i : Int) + 2) = ((i + 2 : Nat) : Int) := by omega
  rw [e, cutW, Nat.min_eq_left (by omega), Nat.min_eq_left (by omega), show i + 2 - i = 2 by omega, drop2 w i h]
theorem rev2 (a b : Bool) : revS (SW [a, b]) = SW [b, a] := rfl
theorem two_in (a b : Bool) : decide (SW [a, b] ∈ (["LR", "RL"] : List Str)) = decide (a ≠ b) := by cases a <;> cases b <;> decide +kernel
theorem sgB1 (a b : Bool) : atI (SW [a, b]).cps.toList 1 = some (cd b) := rfl
def SFl (R : Rg) (w : Wd) (d : PyData) : Prop := ∃ ys : List Str, ys.Perm ((near R w).map SW) ∧ PyProof.Rows.sortedS ys = true ∧ d = .list (ys.map .str)
def Q_flips_of (ds : List PyData) (S : PyData → Prop) : Prop := ∃ R w, Reg R ∧ isPlay R w = true ∧ ds = [rgD R, wdD w] ∧ S = SFl R w
theorem spansTo_at (w : Wd) (n i : Nat) (h : i < n) : (spansTo w n)[i]? = some (spD (fin (0, 0) (w.take i))) := by
  unfold spansTo
  rw [List.getElem?_map, List.getElem?_range h]; rfl
theorem swp_eq (w : Wd) (i : Nat) : swp w i = w.take i ++ [gb w (i + 1), gb w i] ++ w.drop (i + 2) := by
  unfold swp; rw [List.append_assoc]; rfl
def flD (R : Rg) (w : Wd) (n : Nat) : List PyData := ((List.range n).filter (fcond R w)).map fun j => wdD (swp w j)
theorem flD_succ (R : Rg) (w : Wd) (n : Nat) : flD R w (n + 1) = if fcond R w n = true then flD R w n ++ [wdD (swp w n)] else flD R w n := by
  unfold flD
  rw [List.range_succ, List.filter_append]
  cases q : fcond R w n with
  | true => rw [List.filter_cons, if_pos q, if_pos rfl, List.map_append]; rfl
  | false => rw [List.filter_cons, if_neg (by rw [q]; exact Bool.false_ne_true), if_neg Bool.false_ne_true]; simp
theorem flD_len (R : Rg) (w : Wd) (n : Nat) : (flD R w n).length ≤ n := by
  unfold flD
  rw [List.length_map]
  exact Nat.le_trans (List.length_filter_le _ _) (by rw [List.length_range]; exact Nat.le_refl _)
theorem wlen {R : Rg} (hR : Reg R) {w : Wd} (hw : isPlay R w = true) : w.length ≤ 8 := every_len hR ((mem_every hR w).mpr hw)
theorem sz_SW {w : Wd} (h : w.length ≤ 100) : (SW w).length ≤ 100000 := by rw [SW_len]; omega
theorem rd_flips_of : KL.Rd K (PrN K Q_flips_of) (t_flips_of K (Pr K R_spans_on) (Pr K R_is_open) (Pr K R_after)) N_flips_of := by
  rintro vs H Q E ⟨ds, S, hD, ⟨R, w, hR, hw, rfl, rfl⟩, q⟩
  obtain ⟨x, y, rfl, hx, hy⟩ := hD.two
  have hl8 := wlen hR hw
  refine qparR (K := K) (ds := []) (d_call (da_1 (d_var rfl hy)) ⟨w, by omega, rfl, rfl⟩) (dl_lst da_nil (by show 0 ≤ 100000; decide)) fun t l xs H0 H1 e0 ht hl e01 h1 hd1 => ?_
  have e1 := e0.trans e01
  show tFor _ _ _ _ _ _
  refine i_rng1 (K := K) (n := (w.length : Int) - 1) (da_1 ((d_sub (d_lenS (sz_SW (by omega)) (d_var rfl (hy.mono e1))) d_int).to (by rw [SW_len]))) (by omega) fun H2 e2 => ?_
  have hn : ((w.length : Int) - 1).toNat = w.length - 1 := by omega
  rw [hn]
  refine for_it (wk_rng (K := K) (n := w.length - 1) fun _ => True) (fun i σ' H' => (∃ a b, σ' = [some x, some y, some t, some (.ref l), a, b]) ∧ Ex H0 H' ∧ LA K H' l (flD R w i)) ⟨⟨none, none, rfl⟩, e01.trans e2, LA.mono e2 ⟨xs, h1, hd1⟩⟩ (fun _ _ _ _ _ => trivial) ?_ ?_
  · rintro i x1 σ' H' H'' hlt ⟨⟨a, b, rfl⟩, eH0, hL⟩ ⟨ex, d, hd, hdp⟩
    obtain ⟨i', hi', rfl⟩ := map_get hd
    rw [List.length_map, List.length_range] at hlt
    rw [List.getElem?_range hlt] at hi'
    cases hi'
    have hlt2 : i + 1 < w.length := by omega
    have eH := e0.trans eH0
    have eX := eH.trans ex
    have eX0 := eH0.trans ex
    have v1 : EvD K (tVar 1) [some x, some y, some t, some (.ref l), some x1, b] H'' (wdD w) := d_var rfl (hy.mono eX)
    have v4 : EvD K (tVar 4) [some x, some y, some t, some (.ref l), some x1, b] H'' (inD i) := d_var rfl hdp
    have hpair := d_cutS (sz_SW (w := w) (by omega)) v1 (d_part v4) (d_part (d_add v4 (d_int (i := 2))))
    rw [pairW w i hlt2] at hpair
    refine qa hpair fun pv H3 e3 hpv => ?_
    obtain rfl := hpv.strI
    have e3X := eX.trans e3
    let σ3 : L2.St := [some x, some y, some t, some (.ref l), some x1, some (.str (SW [gb w i, gb w (i + 1)]))]
    have u0 : EvD K (tVar 0) σ3 H3 (rgD R) := d_var rfl (hx.mono e3X)
    have u1 : EvD K (tVar 1) σ3 H3 (wdD w) := d_var rfl (hy.mono e3X)
    have u2 : EvD K (tVar 2) σ3 H3 (.list (spansTo w (w.length + 1))) := d_var rfl (ht.mono (eX0.trans e3))
    have u4 : EvD K (tVar 4) σ3 H3 (inD i) := d_var rfl (hdp.mono e3)
    have u5 : EvD K (tVar 5) σ3 H3 (.str (SW [gb w i, gb w (i + 1)])) := d_var rfl (.str _)
    have c1 := t_test (d_op u5 ((d_tup (da_2 (d_str (i := "LR")) (d_str (i := "RL"))) (by show 2 ≤ 100000; decide)).to (da := .tuple ((["LR", "RL"] : List Str).map .str)) rfl) r_inT)
    rw [two_in] at c1
    have c2 := t_B (d_call (E := E0) (R := R_is_open) (da_2 u0 (d_call (E := E0) (R := R_after) (da_2 (d_op u2 u4 (r_ixL (atI_nat (spansTo_at w (w.length + 1) i (by omega))))) (d_op u5 (d_int (i := 1)) (r_ixS (sz_SW (by show 2 ≤ 100; decide)) (sgB1 _ _)))) ⟨_, gb w (i + 1), rfl, rfl⟩)) ⟨R, _, hR, rfl, rfl⟩)
    have c3 := et_and c1 fun _ => c2
    have hc3 : EvT (tAnd _ _) σ3 H3 (fcond R w i) := c3
    have hLx := (hL.mono ex).mono e3
    refine s_if hc3 (fun hb H4 e4 => ?_) fun hb H4 e4 => ?_
    · have hz1 : (SW (w.take i)).length + (SW [gb w (i + 1), gb w i]).length ≤ 100000 := by rw [SW_len, SW_len, List.length_take]; show min i w.length + 2 ≤ _; omega
      have p1 := d_cutS (sz_SW (w := w) (by omega)) (u1.mono e4) eo_none (d_part (u4.mono e4))
      rw [cutW0] at p1
      have p2 := d_revS (sz_SW (w := [gb w i, gb w (i + 1)]) (by show 2 ≤ 100; decide)) (u5.mono e4)
      rw [rev2] at p2
      have p3 := d_cutS (sz_SW (w := w) (by omega)) (u1.mono e4) (d_part ((d_add (u4.mono e4) (d_int (i := 2))).to (da := .int ((i + 2 : Nat) : Int)) rfl)) eo_none
      rw [cutW1] at p3
      have p12 := d_op p1 p2 (r_addT hz1)
      rw [SW_append] at p12
      have hz2 : (SW (w.take i ++ [gb w (i + 1), gb w i])).length + (SW (w.drop (i + 2))).length ≤ 100000 := by
        rw [SW_len, SW_len, List.length_append, List.length_take, List.length_drop]; show min i w.length + 2 + (w.length - (i + 2)) ≤ _; omega
      have p123 := d_op p12 p3 (r_addT hz2)
      rw [SW_append, ← swp_eq] at p123
      refine s_appD (hLx.mono e4) (immA_map (fun _ => rfl) _) (imm_wdD _) (ev_var rfl) p123 (by have := flD_len R w i; omega) fun H5 e5 h5 => ?_
      refine ⟨⟨_, _, rfl⟩, ExE.ex ((eX0.trans e3).trans e4) hl e5, ?_⟩
      · rw [flD_succ, if_pos hb]; exact h5
    · refine ⟨⟨_, _, rfl⟩, (eX0.trans e3).trans e4, ?_⟩
      rw [flD_succ, if_neg (by rw [hb]; exact Bool.false_ne_true)]
      exact hLx.mono e4
  · rintro σ' H' ⟨⟨a, b, rfl⟩, eH0, hL⟩
    rw [List.length_map, List.length_range] at hL
    obtain ⟨xs2, hx2, hd2⟩ := hL
    have hxs : xs2 = ((near R w).map SW).map V.str := by
      have e : flD R w (w.length - 1) = ((near R w).map SW).map PyData.str := by
        rw [← flips_near w hw]; unfold flD; rw [List.map_map, List.map_map]; rfl
      rw [e] at hd2
      exact hd2.strs
    refine ⟨.ref l, rfl, l, (near R w).map SW, rfl, sq_of (by rw [hx2, hxs]), ?_, fun ys p hperm hsort hp => ?_⟩
    · rw [List.length_map]
      have := near_len (R := R) w
      omega
    · exact q _ _ _ ⟨ys, hperm, hsort, rfl⟩ ((e0.trans eH0).trans (Ex.new hp)) (.lst (sq_of upd_same) (dpAll_strs ys))
end
end KL
set_option maxHeartbeats 4000000
namespace KL
open PySem L2 Evl KM
section
variable {K : PySem.W.Frag} {σ : L2.St} {H H' : Hp} {ta tb tc te tl : TE} {D : Ends} {tz : TS}
def Q_flips (ds : List PyData) (S : PyData → Prop) : Prop := ∃ R w, Reg R ∧ isPlay R w = true ∧ ds = [rgD R, wdD w] ∧ S = SFl R w
theorem rd_flips : KL.Rd K (PrN K Q_flips) (t_flips K (Pr K R_need_region) (Pr K R_need_play) (PrN K Q_flips_of)) N_flips := by
  rintro vs H Q E ⟨ds, S, hD, ⟨R, w, hR, hw, rfl, rfl⟩, q⟩
  obtain ⟨x, y, rfl, hx, hy⟩ := hD.two
  refine qdr (d_call (da_1 (d_var rfl hx)) ⟨R, hR, rfl, rfl⟩) fun H1 e1 => ?_
  refine qdr (d_call (da_2 (d_var rfl (hx.mono e1)) (d_var rfl (hy.mono e1))) ⟨R, w, hR, hw, rfl, rfl⟩) fun H2 e2 => ?_
  have e := e1.trans e2
  exact srS (e_call (da_2 (d_var rfl (hx.mono e)) (d_var rfl (hy.mono e))) ⟨R, w, hR, hw, rfl, rfl⟩) fun d v H3 hd e3 hv => q d v H3 hd (e.trans e3) hv
/-! the distance -/
theorem zip_in (A B : List Nat) : ((A.map inD).zip (B.map inD)).map prD2 = (A.zip B).map fun p => PyData.tuple [inD p.1, inD p.2] := by
  rw [List.zip_map, List.map_map]; rfl
theorem abs_ad (a b : Nat) : (if ((a : Int) - (b : Int)) < 0 then -((a : Int) - (b : Int)) else (a : Int) - (b : Int)) = ((ad a b : Nat) : Int) := by
  unfold ad
  split <;> omega
theorem sum_ad (l : List (Nat × Nat)) : (l.map fun p => ((ad p.1 p.2 : Nat) : Int)).sum = (((l.map fun p => ad p.1 p.2).sum : Nat) : Int) := by
  induction l with
  | nil => rfl
  | cons a l ih => rw [List.map_cons, List.map_cons, List.sum_cons, List.sum_cons, ih]; omega
theorem d_dist {ta : TA} {i j : Nat} {A B : List Nat} (h : EvDA K ta σ H [.list (A.map inD), .list (B.map inD)]) (hz : A.length ≤ 1000) (hw : ∀ x y, wipe (((wipe σ [i, j]).set i (some x)).set j (some y)) [i, j] = wipe σ [i, j])
    (hi : ∀ x y, (((wipe σ [i, j]).set i (some x)).set j (some y))[i]? = some (some x)) (hj : ∀ x y, (((wipe σ [i, j]).set i (some x)).set j (some y))[j]? = some (some y)) :
    EvD K (tCB (rSum K) (tCons (tLc (iZip K ta) (gTup K 2 (gCons (gName i) (gCons (gName j) gNil))) tYes (tCB rAbs (tCons (tOp (rI0 fun i j => .int (i - j)) (tVar i) (tVar j)) tNil)) [i, j]) tNil)) σ H (inD (ds A B)) := by
  have hI : EvI K (iZip K ta) σ H ((A.zip B).map fun p => PyData.tuple [inD p.1, inD p.2]) := (iv_zip h).to (zip_in A B)
  have hl := d_lcP (K := K) (tt := tYes) (te := tCB rAbs (tCons (tOp (rI0 fun i j => .int (i - j)) (tVar i) (tVar j)) tNil)) (j := i) (k := j) (vs := [i, j]) (A.zip B) (fun p => inD p.1) (fun p => inD p.2) (fun _ => true) (fun p => .int ((ad p.1 p.2 : Nat) : Int)) hI (by rw [List.length_zip]; omega) hw (fun _ _ _ => rfl)
    (fun _ _ _ _ _ _ _ _ => et_yes) fun a _ _ x y H1 e hx hy => by
      have := d_abs (d_sub (d_var (hi x y) hx) (d_var (hj x y) hy))
      rw [abs_ad] at this
      exact this
  have e : ((A.zip B).filter fun _ => true).map (fun p => PyData.int ((ad p.1 p.2 : Nat) : Int)) = ((A.zip B).map fun p => ((ad p.1 p.2 : Nat) : Int)).map PyData.int := by
    rw [List.filter_eq_self.mpr (fun _ _ => rfl), List.map_map]; rfl
  rw [e] at hl
  have h2 := d_sumL hl.l
  rw [sum_ad] at h2
  exact h2
def R_flip_distance (ds : List PyData) (d : PyData) : Prop := ∃ R u w, Reg R ∧ isPlay R u = true ∧ isPlay R w = true ∧ ds = [rgD R, wdD u, wdD w] ∧ d = inD (dw u w)
theorem rows_small {R : Rg} (hR : Reg R) {w : Wd} (hw : isPlay R w = true) : (rows 0 w).length ≤ 1000 := by
  have := rows_lenle w 0
  have := wlen hR hw
  omega
theorem rd_flip_distance : KL.Rd K (Pr K R_flip_distance) (t_flip_distance K (Pr K R_need_plays) (Pr K R_rows_on)) N_flip_distance := by
  rintro vs H Q E ⟨ds, d, hD, ⟨R, u, w, hR, hu, hw, rfl, rfl⟩, q⟩
  obtain ⟨x, y, z, rfl, hx, hy, hz⟩ := hD.three
  refine qdr (d_call (da_3 (d_var rfl hx) (d_var rfl hy) (d_var rfl hz)) ⟨R, u, w, hR, hu, hw, rfl, rfl⟩) fun H1 e1 => ?_
  have l1 := wlen hR hu
  have l2 := wlen hR hw
  refine sr (d_dist (K := K) (A := rows 0 u) (B := rows 0 w) (da_2 (d_call (da_1 (d_var rfl (hy.mono e1))) ⟨u, by omega, rfl, rfl⟩) (d_call (da_1 (d_var rfl (hz.mono e1))) ⟨w, by omega, rfl, rfl⟩)) (rows_small hR hu) (fun _ _ => rfl) (fun _ _ => rfl) (fun _ _ => rfl)) fun v H2 e2 hv => q v H2 (e1.trans e2) hv
/-! flip_way -/
def SFw (R : Rg) (one other : Wd) (d : PyData) : Prop := ∃ fs, Fw R one other fs other ∧ d = .list (fs.map wdD)
def Q_flip_way (ds : List PyData) (S : PyData → Prop) : Prop := ∃ R u w, Reg R ∧ isPlay R u = true ∧ isPlay R w = true ∧ ds = [rgD R, wdD u, wdD w] ∧ S = SFw R u w
/-- a list of other contents than the one at l -/
theorem sq_keep {a l : Addr} {xs xs0 : List V} (h : SqL K H a xs) (hl : H l = some (.lst xs0)) (hne : xs ≠ xs0) (e : ExE l H H') : SqL K H' a xs := by
  rcases h with (h | ⟨o, h⟩) | h
  · have ne : a ≠ l := fun q => by subst q; rw [h] at hl; cases hl; exact hne rfl
    exact .inl (.inl (e a _ ne h))
  · have ne : a ≠ l := fun q => by subst q; rw [h] at hl; cases hl
    exact .inl (.inr ⟨o, e a _ ne h⟩)
  · exact .inr h
def goalV (w : Wd) : List V := (rows 0 w).map fun (n : Nat) => V.int (n : Int)
theorem goal_dp (w : Wd) : DpAll K H (goalV w) ((rows 0 w).map inD) := by
  have := dpAll_ints (K := K) (H := H) ((rows 0 w).map fun (n : Nat) => (n : Int))
  rw [List.map_map, List.map_map] at this
  exact this
theorem goal_vs {w : Wd} {vs : List V} (h : DpAll K H vs ((rows 0 w).map inD)) : vs = goalV w := by
  have e : (rows 0 w).map inD = ((rows 0 w).map fun (n : Nat) => (n : Int)).map PyData.int := by rw [List.map_map]; rfl
  rw [e] at h
  rw [h.ints, List.map_map]; rfl
theorem words_vs {fs : List Wd} {vs : List V} (h : DpAll K H vs (fs.map wdD)) : vs = fs.map fun w => V.str (SW w) := by
  have e : fs.map wdD = (fs.map SW).map PyData.str := by rw [List.map_map]; rfl
  rw [e] at h
  rw [h.strs, List.map_map]; rfl
theorem goal_ne (w : Wd) (u : Wd) (fs : List Wd) (us : List Wd) (h : fs = us ++ [u]) : goalV w ≠ fs.map fun w => V.str (SW w) := by
  intro e
  cases fs with
  | nil => cases us <;> cases h
  | cons f fs =>
    unfold goalV at e
    cases q : rows 0 w with
    | nil => rw [q] at e; cases e
    | cons a r => rw [q] at e; simp at e
theorem last_wd {fs us : List Wd} {u : Wd} (h : fs = us ++ [u]) : atI (fs.map wdD) (-1) = some (wdD u) := by
  rw [h, List.map_append]; exact atI_last _ _
theorem i_listS {S : PyData → Prop} {R : It → Hp → Prop} (h : EvS K tl σ H S) (k : ∀ d v H2, S d → Ex H H2 → Dp K H2 v d → ∃ a, v = .ref a ∧ (∃ xs, SqL K H2 a xs) ∧ R (Itl K a) H2) : iList K tl σ H R :=
  h H (Ex.refl H) _ fun d v H2 hd e2 hv => k d v H2 hd e2 hv
theorem perm_words {R : Rg} {u : Wd} {ys : List Str} (h : ys.Perm ((near R u).map SW)) {i : Nat} {y : Str} (hy : ys[i]? = some y) : ∃ w, w ∈ near R u ∧ y = SW w := by
  have := (h.mem_iff).mp (List.mem_of_getElem? hy)
  obtain ⟨w, hw, rfl⟩ := List.mem_map.mp this
  exact ⟨w, hw, rfl⟩
theorem rd_flip_way : KL.Rd K (PrN K Q_flip_way) (t_flip_way K (Pr K R_need_plays) (Pr K R_rows_on) (PrN K Q_flips_of)) N_flip_way := by
  rintro vs H Q E ⟨ds, S, hD, ⟨R, one, other, hR, h1, h2, rfl, rfl⟩, q⟩
  obtain ⟨x, y, z, rfl, hx, hy, hz⟩ := hD.three
  have l1 := wlen hR h1
  have l2 := wlen hR h2
  refine qdr (d_call (da_3 (d_var rfl hx) (d_var rfl hy) (d_var rfl hz)) ⟨R, one, other, hR, h1, h2, rfl, rfl⟩) fun H1 e1 => ?_
  refine qparL (K := K) (dl_lst (da_1 (d_var rfl (hy.mono e1))) (by show 1 ≤ 100000; decide)) (d_call (da_1 (d_var rfl (hz.mono e1))) ⟨other, by omega, rfl, rfl⟩) fun l xs g H2 hl e2 hlx hld hg => ?_
  have hl0 : H l = none := fresh_back e1 hl
  obtain ⟨ga, gxs, rfl, hgs, hgd⟩ := hg.lstI
  have hgx := goal_vs hgd
  subst hgx
  refine q_while (D := { nx := fun _ H' => Q .non H', rt := Q }) (fun m σ' H' => ∃ fs last, Fw R one other fs last ∧ m = dw last other ∧ (∃ a b, σ' = [some x, some y, some z, some (.ref l), some (.ref ga), a, b, none, none]) ∧ Ex H H' ∧ SqL K H' ga (goalV other) ∧ LA K H' l (fs.map wdD)) (dw one other)
    ⟨[one], one, Fw.start h1, rfl, ⟨none, none, rfl⟩, e1.trans e2, hgs, xs, hlx, hld⟩ ?_
  rintro m σ' H' ⟨fs, last, F, rfl, ⟨a, b, rfl⟩, eH, hG, hL⟩
  obtain ⟨us, hus⟩ := F.lst
  have hlast := F.play
  have vl : ∀ {b' a' : Option V} {H3 : Hp}, Ex H' H3 → EvD K (tOp (rIxL K) (tVar 3) (tUn (rU fun i => .int (-i)) (tC (.int 1)))) [some x, some y, some z, some (.ref l), some (.ref ga), a', b', none, none] H3 (wdD last) := fun e3 => d_op (d_var rfl ((hL.mono e3).dp)) d_neg1 (r_ixL (last_wd hus))
  have hlen : fs.length ≤ 100 := by
    have := F.len
    have := dw_le hR h1 h2
    omega
  refine ⟨_, t_test (d_op (vl (Ex.refl _)) (d_var (K := K) (d := wdD other) (i := 2) rfl (hz.mono eH)) r_neS), fun hb H3 e3 => ?_, fun hb H3 e3 => ?_⟩
  · -- one turn
    have hne : last ≠ other := fun e => by rw [e] at hb; simp at hb
    refine ⟨_, fun _ _ h => h, ?_⟩
    have e03 := eH.trans e3
    have goal : ∀ {a' b' : Option V} {H4 : Hp}, Ex H' H4 → EvD K (tVar 4) [some x, some y, some z, some (.ref l), some (.ref ga), a', b', none, none] H4 (.list ((rows 0 other).map inD)) := fun e4 => d_var rfl (.lst (ex_l e4 hG) (goal_dp other))
    refine qa (d_dist (K := K) (A := rows 0 last) (B := rows 0 other) (da_2 (d_call (da_1 (vl e3)) ⟨last, by have := wlen hR hlast; omega, rfl, rfl⟩) (goal e3)) (rows_small hR hlast) (fun _ _ => rfl) (fun _ _ => rfl) (fun _ _ => rfl)) fun fv H4 e4 hfv => ?_
    obtain rfl := hfv.intI
    have e34 := e3.trans e4
    have e04 := eH.trans e34
    show tFor _ _ _ _ _ _
    refine i_listS (K := K) (e_call (da_2 (d_var rfl (hx.mono e04)) (vl e34)) ⟨R, last, hR, hlast, rfl, rfl⟩) fun d v H5 hd e5 hv => ?_
    obtain ⟨ys, hperm, hsort, rfl⟩ := hd
    obtain ⟨ya, yxs, rfl, hys, hyd⟩ := hv.lstI
    have hyx := hyd.strs
    subst hyx
    refine ⟨ya, rfl, ⟨_, hys⟩, ?_⟩
    have wk := wk_list (K := K) (a := ya) (xs := ys.map V.str) (ds := ys.map PyData.str) (Ex H5) (by simp) (fun _ e => ex_l e hys) fun _ _ => dpAll_strs ys
    have e35 := e34.trans e5
    refine for_it wk (fun i σ' H' => (∃ w6, σ' = [some x, some y, some z, some (.ref l), some (.ref ga), some (.int (ds (rows 0 last) (rows 0 other) : Nat)), w6, none, none]) ∧ Ex H5 H' ∧ ∀ j w, j < i → ys[j]? = some (SW w) → ¬ dw w other < dw last other) ⟨⟨_, rfl⟩, Ex.refl _, fun j w h => absurd h (Nat.not_lt_zero _)⟩ (fun _ _ _ _ p => p.2.1) ?_ ?_
    · rintro i x1 σ6 H6 H7 hlt ⟨⟨w6, rfl⟩, e6, hno⟩ ⟨e7, d, hd, hdp⟩
      obtain ⟨y1, hy1, rfl⟩ := map_get hd
      obtain ⟨w, hw, rfl⟩ := perm_words hperm hy1
      have hwp := near_play hw
      have e57 := e6.trans e7
      have e37 := e35.trans e57
      have hd2 := d_dist (K := K) (σ := [some x, some y, some z, some (.ref l), some (.ref ga), some (.int (ds (rows 0 last) (rows 0 other) : Nat)), some x1, none, none]) (i := 7) (j := 8) (A := rows 0 w) (B := rows 0 other) (da_2 (d_call (E := E0) (R := R_rows_on) (da_1 (d_var (i := 6) rfl hdp)) ⟨w, by have := wlen hR hwp; omega, rfl, rfl⟩) (goal e37)) (rows_small hR hwp) (fun _ _ => rfl) (fun _ _ => rfl) (fun _ _ => rfl)
      have hc := t_test (d_op hd2 (d_var (i := 5) (d := inD (ds (rows 0 last) (rows 0 other))) rfl (.int _)) r_ltN)
      refine s_if hc (fun hb1 H8 e8 => ?_) fun hb1 H8 e8 => ?_
      · -- found.append(word); break
        have hlt1 : dw w other < dw last other := of_decide_eq_true hb1
        have hL8 := hL.mono (e37.trans e8)
        have hstep : dw last other = dw w other + 1 := by
          rcases near_ds hlast h2 hw with h | h
          · omega
          · exact h
        show tDrop _ _ _ _
        refine s_appD (d := wdD w) hL8 (immA_map (fun _ => rfl) _) (imm_wdD _) (ev_var rfl) (d_var rfl (hdp.mono e8)) (by rw [List.length_map]; omega) fun H9 e9 h9 => ?_
        refine ⟨dw w other, hlt1, fs ++ [w], w, F.snoc hw hstep, rfl, ⟨_, _, rfl⟩, ExE.ex (eH.trans (e37.trans e8)) hl0 e9, ?_, by rw [List.map_append]; exact h9⟩
        obtain ⟨xs8, hx8, hd8⟩ := hL8
        have hx8' := words_vs hd8
        subst hx8'
        exact sq_keep (ex_l (e37.trans e8) hG) hx8 (goal_ne other last fs us hus) e9
      · refine ⟨⟨_, rfl⟩, e57.trans e8, fun j w' hj hw' => ?_⟩
        by_cases hji : j < i
        · exact hno j w' hji hw'
        · have e : j = i := by omega
          subst e
          rw [hy1] at hw'
          have : w = w' := SW_inj (Option.some.inj hw')
          subst this
          exact of_decide_eq_false hb1
    · rintro σ6 H6 ⟨⟨w6, rfl⟩, e6, hno⟩
      exfalso
      obtain ⟨w, hw, hd⟩ := near_closer hR hlast h2 hne
      have hm : SW w ∈ ys := hperm.mem_iff.mpr (List.mem_map.mpr ⟨w, hw, rfl⟩)
      obtain ⟨j, hj, hjw⟩ := List.getElem_of_mem hm
      refine hno j w (by rw [List.length_map]; exact hj) (by rw [List.getElem?_eq_getElem hj, hjw]) (by omega)
  · -- found[-1] == other
    have heq : last = other := by
      have : SW last = SW other := by simpa using hb
      exact SW_inj this
    subst heq
    exact sr (d_var rfl ((hL.mono e3).dp)) fun v H4 e4 hv => q _ v H4 ⟨fs, F, rfl⟩ ((eH.trans e3).trans e4) hv
end
end KL
set_option maxHeartbeats 4000000
namespace KL
open PySem L2 Evl KM
section
variable {K : PySem.W.Frag} {σ : L2.St} {H H' : Hp} {ta tb tc te tl : TE} {D : Ends} {tz tu : TS} {t : TT}
theorem qtr (h : EvT t σ H true) (k : ∀ H1, Ex H H1 → tu { D with nx := tz D } σ H1) : tSeq (tIfS t tu tNext) tz D σ H := h H (Ex.refl H) _ fun H1 e => k H1 e
/-! ### alike -/
def R_alike0 (ds : List PyData) (d : PyData) : Prop := ((∃ s, ds = [.str s, .str s]) ∨ ∃ i, ds = [.int i, .int i]) ∧ d = .bool true
theorem r_isN {d : PyData} (h : d ≠ .none) : R2D K H rIsN d .none (.bool false) := fun x y H1 a hx hy Q q => by
  refine ⟨hy.nonI, ?_⟩
  have : x ≠ .non := fun e => by subst e; cases hx; exact h rfl
  rw [decide_eq_false this]
  exact q _ H1 (Ex.refl H1) (.bl _)
theorem rd_alike0 : KL.Rd K (Pr K R_alike0) (t_law_alike0 K) N_law_alike := by
  rintro vs H Q E ⟨ds, d, hD, ⟨⟨s, rfl⟩ | ⟨i, rfl⟩, rfl⟩, q⟩
  · obtain ⟨x, y, rfl, hx, hy⟩ := hD.two
    refine qnv (t_B (d_isi2 (b := false) (c := false) (d_var rfl hy) kST kSL)) fun H1 e1 => ?_
    have v0 : EvD K (tVar 0) (start N_law_alike [x, y]) H1 (.str s) := d_var rfl (hx.mono e1)
    have v1 : EvD K (tVar 1) (start N_law_alike [x, y]) H1 (.str s) := d_var rfl (hy.mono e1)
    refine qtr (et_is (et_or (a := false) (b := true) (t_test (d_op v1 d_non (r_isN (fun q => by cases q)))) fun _ => t_B (d_isi v1 kSS)) rfl) fun H2 e2 => ?_
    refine sr (d := .bool true) ((d_andV (d_op (v0.mono e2) (v1.mono e2) r_eqS) fun _ => d_op (d_isi (v0.mono e2) kSS) (d_isi (v1.mono e2) kSS) r_eqB).to (by simp)) fun v H3 e3 hv => q v H3 ((e1.trans e2).trans e3) hv
  · obtain ⟨x, y, rfl, hx, hy⟩ := hD.two
    refine qnv (t_B (d_isi2 (b := false) (c := false) (d_var rfl hy) kIT kIL)) fun H1 e1 => ?_
    have v0 : EvD K (tVar 0) (start N_law_alike [x, y]) H1 (.int i) := d_var rfl (hx.mono e1)
    have v1 : EvD K (tVar 1) (start N_law_alike [x, y]) H1 (.int i) := d_var rfl (hy.mono e1)
    refine qfl (et_is (et_or (a := false) (b := false) (t_test (d_op v1 d_non (r_isN (fun q => by cases q)))) fun _ => t_B (d_isi v1 kIS)) rfl) fun H2 e2 => ?_
    refine sr (d := .bool true) ((d_andV (d_isi (v0.mono e2) kII) fun _ => d_andV (d_op (d_isi (v0.mono e2) kIB) (d_isi (v1.mono e2) kIB) r_eqB) fun _ => d_op (v0.mono e2) (v1.mono e2) r_eqI).to (by simp)) fun v H3 e3 hv => q v H3 ((e1.trans e2).trans e3) hv
def R_alike1 (ds : List PyData) (d : PyData) : Prop := (∃ ss : List Str, ss.length ≤ 1000 ∧ ds = [.list (ss.map .str), .list (ss.map .str)]) ∧ d = .bool true
theorem shp_nil : SeqAt.shaped (.list []) = true := by decide +kernel
theorem rd_alike1 : KL.Rd K (Pr K R_alike1) (t_law_alike K (Pr K R_alike0)) N_law_alike := by
  rintro vs H Q E ⟨ds, d, hD, ⟨⟨ss, hz, rfl⟩, rfl⟩, q⟩
  obtain ⟨x, y, rfl, hx, hy⟩ := hD.two
  refine qtr (t_B (d_isi2 (b := false) (c := true) (d_var rfl hy) kLT kLL)) fun H1 e1 => ?_
  refine qfl (et_is (et_or (a := false) (b := false) (et_not (a := true) (t_B (d_isi2 (b := false) (c := true) (d_var rfl (hx.mono e1)) kLT kLL))) fun _ => t_test (K := K) ?_) rfl) fun H2 e2 => ?_
  · exact (d_op (d_isi (d_var rfl (hx.mono e1)) kLL) (d_isi (d_var rfl (hy.mono e1)) kLL) r_neB).to rfl
  have e12 := e1.trans e2
  refine qfl (et_is (t_test (d_op (d_lenL (d_var rfl (hx.mono e12))) (d_lenL (d_var rfl (hy.mono e12))) r_neI)) (by simp)) fun H3 e3 => ?_
  have e13 := e12.trans e3
  have hl := d_lenL (d_var (K := K) (σ := start N_law_alike [x, y]) (i := 1) rfl (hy.mono e13))
  rw [List.length_map] at hl
  have hI : EvI K (iRng1 (tCons (tCB (rLenS K) (tCons (tVar 1) tNil)) tNil)) (start N_law_alike [x, y]) H3 ((List.range ss.length).map inD) := (iv_rng1 (da_1 hl) (by omega)).to (by rw [Int.toNat_natCast]; rfl)
  have hc := d_lcN (K := K) (j := 2) (vs := [2]) (tt := tNot (tB (tCall (Pr K R_alike0) [] E0 (tCons (tOp (rIxL K) (tVar 0) (tVar 2)) (tCons (tOp (rIxL K) (tVar 1) (tVar 2)) tNil))))) (te := tVar 2) (List.range ss.length) inD (fun _ => false) inD hI (by rw [List.length_range]; omega) (fun _ => rfl) (fun _ _ h => (by cases h))
    (fun a ha z H4 e4 hz4 => by
      have hlt := List.mem_range.mp ha
      have hget : (ss.map PyData.str)[a]? = some (.str ss[a]) := by rw [List.getElem?_map, List.getElem?_eq_getElem hlt]; rfl
      exact et_not (a := true) (t_B (d_call (da_2 (d_op (d_var (i := 0) rfl (hx.mono (e13.trans e4))) (d_var (i := 2) rfl hz4) (r_ixL (atI_nat hget))) (d_op (d_var (i := 1) rfl (hy.mono (e13.trans e4))) (d_var (i := 2) rfl hz4) (r_ixL (atI_nat hget)))) ⟨.inl ⟨_, rfl⟩, rfl⟩)))
    fun _ _ h => (by cases h)
  have hnil : ((List.range ss.length).filter fun _ => false).map inD = [] := by
    rw [List.filter_eq_nil_iff.mpr (fun _ _ h => (by cases h))]; rfl
  rw [hnil] at hc
  refine sr (d := .bool true) ((d_op hc.l (dl_lst da_nil (by show 0 ≤ 100000; decide)).l (r_eqD shp_nil shp_nil)).to ?_) fun v H4 e4 hv => q v H4 (e13.trans e4) hv
  rw [SeqAt.eqv_refl _ (SeqAt.canLay_of_shaped shp_nil)]
/-! ### the law's spans -/
def R_law_spans (ds : List PyData) (d : PyData) : Prop := ∃ R, Reg R ∧ ds = [rgD R] ∧ d = .list ((spansL R).map spD)
theorem d_varL {i : Nat} {v : V} {ds : List PyData} (h : σ[i]? = some (some v)) (hd : DL K H v ds) : ∀ H1, Ex H H1 → ∀ Q : VK, (∀ v H2, Ex H1 H2 → DL K H2 v ds → Q v H2) → tVar i σ H1 Q := fun H1 e Q q => ⟨v, h, q v H1 (Ex.refl H1) (hd.mono e)⟩
theorem rd_law_spans : KL.Rd K (Pr K R_law_spans) (t_law_spans K) N_law_spans := by
  rintro vs H Q E ⟨ds, d, hD, ⟨R, hR, rfl, rfl⟩, q⟩
  obtain ⟨x, rfl, hx⟩ := hD.one
  refine qal (K := K) (ds := []) (dl_lst da_nil (by show 0 ≤ 100000; decide)) fun l xs H1 hl e1 h1 hd1 => ?_
  show tFor _ _ _ _ _ _
  have hlen := hR.len
  refine i_rng1 (K := K) (da_1 (d_len_rg (d_var rfl (hx.mono e1)))) (by omega) fun H2 e2 => ?_
  rw [Int.toNat_natCast]
  refine for_it (wk_rng (K := K) (n := R.length) (Ex H2)) (fun i σ' H' => (∃ v a, σ' = [some x, some v, a, none] ∧ DL K H' v ((spTo R i).map spD)) ∧ Ex H2 H') ⟨⟨.ref l, none, rfl, DL.mono e2 ⟨l, xs, rfl, h1, hd1⟩⟩, Ex.refl _⟩ (fun _ _ _ _ p => p.2) ?_ ?_
  · rintro i x1 σ' H' H'' hlt ⟨⟨v, a, rfl, hv⟩, eH⟩ ⟨ex, d, hd, hdp⟩
    obtain ⟨i', hi', rfl⟩ := map_get hd
    rw [List.length_map, List.length_range] at hlt
    rw [List.getElem?_range hlt] at hi'
    cases hi'
    have eX : Ex H H'' := ((e1.trans e2).trans eH).trans ex
    have hc : R[i]? = some R[i] := List.getElem?_eq_getElem hlt
    have col := hR.col i _ hc
    have v0 : EvD K (tVar 0) [some x, some v, some x1, none] H'' (rgD R) := d_var rfl (hx.mono eX)
    have v2 : EvD K (tVar 2) [some x, some v, some x1, none] H'' (inD i) := d_var rfl hdp
    have hcol := d_rgN v0 v2 hc
    have hI := iv_rng2 (da_2 (d_sp0 hcol) ((d_add (d_sp1 hcol) (d_int (i := 1))))) (by omega)
    have hn : ((R[i].2 : Int) + 1 - (R[i].1 : Int)).toNat = R[i].2 + 1 - R[i].1 := by omega
    rw [hn] at hI
    have hlc := d_lcN (K := K) (j := 3) (vs := [3]) (tt := tYes) (te := tTup (tCons (tVar 2) (tCons (tVar 3) tNil))) (List.range (R[i].2 + 1 - R[i].1)) (fun (j : Nat) => PyData.int ((R[i].1 : Int) + (j : Int))) (fun _ => true) (fun j => spD (i, R[i].1 + j)) hI (by rw [List.length_range]; omega) (fun _ => rfl) (fun _ _ _ => rfl) (fun _ _ _ _ _ _ => et_yes)
      fun j hj _ z H3 e3 hz => (d_tup (da_2 (d_var (i := 2) rfl (hdp.mono e3)) (d_var (i := 3) rfl hz)) (by show 2 ≤ 100000; decide)).to (by
        show PyData.tuple [inD i, .int ((R[i].1 : Int) + (j : Int))] = PyData.tuple [inD i, .int ((R[i].1 + j : Nat) : Int)]
        rw [Int.natCast_add])
    have hcs : ((List.range (R[i].2 + 1 - R[i].1)).filter fun _ => true).map (fun j => spD (i, R[i].1 + j)) = (colSp R i).map spD := by
      rw [List.filter_eq_self.mpr (fun _ _ => rfl)]
      unfold colSp
      rw [hc, List.map_map]; rfl
    rw [hcs] at hlc
    have hcat := dl_cat (K := K) (d_varL (σ := [some x, some v, some x1, none]) (i := 1) rfl (hv.mono ex)) hlc (by
      rw [List.length_map, List.length_map]
      have := spTo_len hR i
      have := colSp_len hR i
      omega)
    refine hcat H'' (Ex.refl _) _ fun p ys H3 hp e3 h3 hd3 => ?_
    refine ⟨⟨.ref p, some x1, rfl, p, ys, rfl, h3, ?_⟩, (eH.trans ex).trans e3⟩
    rw [spTo_succ, List.map_append]; exact hd3
  · rintro σ' H' ⟨⟨v, a, rfl, hv⟩, eH⟩
    rw [List.length_map, List.length_range] at hv
    exact sr (d_var rfl hv.dp) fun v H3 e3 hv => q v H3 (((e1.trans e2).trans eH).trans e3) hv
end
end KL
set_option maxHeartbeats 4000000
namespace KL
open PySem L2 Evl KM
section
variable {K : PySem.W.Frag} {σ : L2.St} {H H' : Hp} {ta tb tc te tl : TE} {D : Ends} {tz tu : TS} {t : TT}
theorem qpr {i j : Nat} {da db : PyData} (h : EvD K te σ H (.tuple [da, db])) (k : ∀ x y H1, Ex H H1 → Dp K H1 x da → Dp K H1 y db → tz D ((σ.set i (some x)).set j (some y)) H1) : tSeq (tAsg te (gTup K 2 (gCons (gName i) (gCons (gName j) gNil)))) tz D σ H := h H (Ex.refl H) _ fun v H1 e hv => g_pair hv fun x y hx hy => k x y H1 e hx hy
/-! ### the law's plays -/
def lvD (p : Wd × Spn) : PyData := .tuple [wdD p.1, spD p.2]
theorem spD_eqv (a b : Spn) : PyData.eqv (spD a) (spD b) = decide (a = b) := by
  have e : PyData.eqv (spD a) (spD b) = (((a.1 : Int) == (b.1 : Int)) && (((a.2 : Int) == (b.2 : Int)) && true)) := by simp only [spD, inD, PyData.eqv, PyData.eqvAll]
  rw [e, Bool.eq_iff_iff, Bool.and_eq_true, Bool.and_eq_true, decide_eq_true_eq, beq_iff_eq, beq_iff_eq]
  constructor
  · rintro ⟨h1, h2, _⟩
    exact Prod.ext (Int.ofNat_inj.mp h1) (Int.ofNat_inj.mp h2)
  · rintro rfl; exact ⟨rfl, rfl, rfl⟩
theorem spDs_lay : ∀ zs : List Spn, PyData.canLayAll0 (zs.map spD) = true
  | [] => by simp [PyData.canLayAll0]
  | z :: zs => by simp [PyData.canLayAll0, lay_sp z, spDs_lay zs]
theorem spD_depth (z : Spn) : (spD z).depth ≤ 2 := by simp [spD, inD, PyData.depth, PyData.depthAll]
theorem spDs_depth : ∀ zs : List Spn, PyData.depthAll (zs.map spD) ≤ 3
  | [] => by simp [PyData.depthAll]
  | z :: zs => by
    have h1 := spDs_depth zs
    have h2 := spD_depth z
    simp only [List.map_cons, PyData.depthAll]
    omega
theorem spDs_shaped (zs : List Spn) : SeqAt.shaped (.list (zs.map spD)) = true := by
  have h1 := spDs_depth zs
  have h2 : PyData.depth (.list (zs.map spD)) ≤ 64 := by
    simp only [PyData.depth]
    omega
  show (PyData.canLay0 (.list (zs.map spD)) && decide (PyData.depth (.list (zs.map spD)) ≤ 64)) = true
  rw [Bool.and_eq_true]
  exact ⟨by simp only [PyData.canLay0]; exact spDs_lay zs, decide_eq_true h2⟩
theorem any_span (R : Rg) (s : Spn) : ((spansL R).map spD).any (fun z => PyData.eqv z (spD s)) = opn R s := by
  rw [Bool.eq_iff_iff, List.any_eq_true]
  constructor
  · rintro ⟨z, hz, e⟩
    obtain ⟨a, ha, rfl⟩ := List.mem_map.mp hz
    rw [spD_eqv, decide_eq_true_eq] at e
    subst e
    exact mem_spansL.mp ha
  · intro h
    exact ⟨spD s, List.mem_map.mpr ⟨s, mem_spansL.mpr h, rfl⟩, by rw [spD_eqv]; exact decide_eq_true rfl⟩
def R_law_plays (ds : List PyData) (d : PyData) : Prop := ∃ R, Reg R ∧ ds = [rgD R] ∧ d = .list ((every R).map wdD)
theorem LR_sgn : ("LR" : Str).cps.toList.map sgn = [true, false].map fun b => PyData.str (sgB b) := by
  have e : ("LR" : Str).cps.toList = [76, 82] := by decide +kernel
  rw [e]; rfl
theorem nxts_len (R : Rg) (a : Wd × Spn) : (nxts R a).length ≤ 2 := by
  unfold nxts; rw [List.length_map]
  exact Nat.le_trans (List.length_filter_le _ _) (Nat.le_refl 2)
theorem fm_len (R : Rg) : ∀ l : List (Wd × Spn), (l.flatMap (nxts R)).length ≤ 2 * l.length
  | [] => Nat.le_refl _
  | a :: l => by
    have := fm_len R l
    have := nxts_len R a
    rw [List.flatMap_cons, List.length_append, List.length_cons]; omega
theorem rd_law_plays : KL.Rd K (Pr K R_law_plays) (t_law_plays K (Pr K R_law_spans) (Pr K R_after)) N_law_plays := by
  rintro vs H Q E ⟨ds, d, hD, ⟨R, hR, rfl, rfl⟩, q⟩
  obtain ⟨x, rfl, hx⟩ := hD.one
  have hen := en_le hR
  -- some, found
  have hone : EvD K (tLst (tCons (tTup (tCons (tC (.str "")) (tCons (tTup (tCons (tC (.int 0)) (tCons (tC (.int 0)) tNil))) tNil))) tNil)) (start N_law_plays [x]) H (.list ((lv R 0).map lvD)) :=
    (dl_lst (da_1 (d_tup (da_2 (d_str (i := "")) (d_tup (da_2 d_int d_int) (by show 2 ≤ 100000; decide))) (by show 2 ≤ 100000; decide))) (by show 1 ≤ 100000; decide)).l.to (by
      show PyData.list [.tuple [.str "", .tuple [.int 0, .int 0]]] = PyData.list [.tuple [.str (SW []), .tuple [.int 0, .int 0]]]
      congr)
  refine qpr (K := K) (d_tup (da_2 (d_call (E := E0) (R := R_law_spans) (da_1 (d_var (i := 0) rfl hx)) ⟨R, hR, rfl, rfl⟩) hone) (by show 2 ≤ 100000; decide)) fun s1 f H1 e1 hs1 hf => ?_
  show tFor _ _ _ _ _ _
  obtain ⟨us, hus⟩ := spansL_last hR
  have hlastS : atI ((spansL R).map spD) (-1) = some (spD (en R)) := by rw [hus, List.map_append]; exact atI_last _ _
  have hsum := d_sumT (K := K) (ns := [((en R).1 : Int), ((en R).2 : Int)]) ((d_op (d_var (σ := ((start N_law_plays [x]).set 1 (some s1)).set 2 (some f)) (i := 1) rfl hs1) d_neg1 (r_ixL hlastS)).to rfl)
  have es : ([((en R).1 : Int), ((en R).2 : Int)] : List Int).sum = (((en R).1 + (en R).2 : Nat) : Int) := by simp
  rw [es] at hsum
  refine i_rng1 (K := K) (da_1 hsum) (by omega) fun H2 e2 => ?_
  rw [Int.toNat_natCast]
  refine for_it (wk_rng (K := K) (n := (en R).1 + (en R).2) (Ex H2)) (fun i σ' H' => (∃ f a b c d, σ' = [some x, some s1, some f, a, b, c, d, none] ∧ Dp K H' f (.list ((lv R i).map lvD))) ∧ Ex H2 H') ⟨⟨f, none, none, none, none, rfl, hf.mono e2⟩, Ex.refl _⟩ (fun _ _ _ _ p => p.2) ?_ ?_
  · rintro i x1 σ' H' H'' hlt ⟨⟨f', a, b, c, d', rfl, hf'⟩, eH⟩ ⟨ex, d, hd, hdp⟩
    rw [List.length_map, List.length_range] at hlt
    have hlv := lv_le hR (show i ≤ (en R).1 + (en R).2 by omega)
    have eX : Ex H1 H'' := (e2.trans eH).trans ex
    refine qal (K := K) (ds := []) (dl_lst da_nil (by show 0 ≤ 100000; decide)) fun l xs H3 hl e3 h3 hd3 => ?_
    have e13 := eX.trans e3
    show tFor _ _ _ _ _ _
    refine iv_list (K := K) (d_var rfl ((hf'.mono ex).mono e3)) H3 (Ex.refl _) _ fun J H4 e4 wk => ?_
    refine for_it wk (fun j σ' H' => (∃ v c d, σ' = [some x, some s1, some f', some x1, some v, c, d, none] ∧ DL K H' v ((((lv R i).take j).flatMap (nxts R)).map lvD)) ∧ Ex H4 H') ⟨⟨.ref l, c, d', rfl, DL.mono e4 ⟨l, xs, rfl, h3, hd3⟩⟩, Ex.refl _⟩ (fun _ _ _ _ p => p.2) ?_ ?_
    · rintro j x2 σ5 H5 H6 hlt2 ⟨⟨v, c5, d5, rfl, hv⟩, e5⟩ ⟨e6, dd, hdd, hdp2⟩
      obtain ⟨⟨w, s⟩, hws, rfl⟩ := map_get hdd
      rw [List.length_map] at hlt2
      have hwl : w.length = i := ((mem_lv i w s).mp (List.mem_of_getElem? hws)).1
      refine g_pair hdp2 fun xw xs2 hw hs => ?_
      have e16 := e13.trans (e4.trans (e5.trans e6))
      let σ6 : L2.St := [some x, some s1, some f', some x1, some v, some xw, some xs2, none]
      have hI : EvI K (iStr (tC (.str "LR"))) σ6 H6 ([true, false].map fun b => PyData.str (sgB b)) := (iv_str d_str).to LR_sgn
      have haft : ∀ b z H7, Ex H6 H7 → Dp K H7 z (.str (sgB b)) → EvD K (tCall (Pr K R_after) [] E0 (tCons (tVar 6) (tCons (tVar 7) tNil))) ((wipe σ6 [7]).set 7 (some z)) H7 (spD (aft s b)) := fun b z H7 e7 hz => d_call (da_2 (d_var (i := 6) rfl (hs.mono e7)) (d_var (i := 7) rfl hz)) ⟨s, b, rfl, rfl⟩
      have hlc := d_lcN (K := K) (σ := σ6) (j := 7) (vs := [7]) (tt := tTest (tOp (rInD K) (tCall (Pr K R_after) [] E0 (tCons (tVar 6) (tCons (tVar 7) tNil))) (tVar 1))) (te := tTup (tCons (tOp rAddT (tVar 5) (tVar 7)) (tCons (tCall (Pr K R_after) [] E0 (tCons (tVar 6) (tCons (tVar 7) tNil))) tNil))) [true, false] (fun b => PyData.str (sgB b)) (fun b => opn R (aft s b)) (fun b => lvD (w ++ [b], aft s b)) hI (by show 2 ≤ 100000; decide) (fun _ => rfl) (fun _ _ _ => rfl)
        (fun b _ z H7 e7 hz => by
          have := t_test (d_op (haft b z H7 e7 hz) (d_var (i := 1) rfl (hs1.mono (e16.trans e7))) (r_inD (shp_sp _) (spDs_shaped _)))
          rw [any_span] at this
          exact this)
        fun b _ _ z H7 e7 hz => by
          have hadd := d_op (d_var (K := K) (σ := (wipe σ6 [7]).set 7 (some z)) (i := 5) rfl (hw.mono e7)) (d_var (i := 7) rfl hz) (r_addT (by rw [SW_len, sgB_SW, SW_len]; show w.length + 1 ≤ 100000; omega))
          rw [sgB_SW, SW_append] at hadd
          exact d_tup (da_2 hadd (haft b z H7 e7 hz)) (by show 2 ≤ 100000; decide)
      have hnx : ([true, false].filter fun b => opn R (aft s b)).map (fun b => lvD (w ++ [b], aft s b)) = (nxts R (w, s)).map lvD := by
        unfold nxts; rw [List.map_map]; rfl
      rw [hnx] at hlc
      have hcat := dl_cat (K := K) (d_varL (σ := σ6) (i := 4) rfl (hv.mono e6)) hlc (by
        rw [List.length_map, List.length_map]
        have h1 := fm_len R ((lv R i).take j)
        rw [List.length_take] at h1
        have := nxts_len R (w, s)
        omega)
      refine hcat H6 (Ex.refl _) _ fun p ys H7 hp e7 h7 hd7 => ?_
      refine ⟨⟨.ref p, some xw, some xs2, rfl, p, ys, rfl, h7, ?_⟩, (e5.trans e6).trans e7⟩
      rw [take_snoc hws, List.flatMap_append, List.map_append]
      simp only [List.flatMap_cons, List.flatMap_nil, List.append_nil]
      exact hd7
    · rintro σ5 H5 ⟨⟨v, c5, d5, rfl, hv⟩, e5⟩
      rw [List.length_map, List.take_length] at hv
      refine sa (d_var (i := 4) rfl hv.dp) fun v6 H6 e6 hv6 => ?_
      exact ⟨⟨v6, some x1, some v, c5, d5, rfl, hv6⟩, eH.trans (ex.trans (e3.trans (e4.trans (e5.trans e6))))⟩
  · rintro σ' H' ⟨⟨f', a, b, c, d', rfl, hf'⟩, eH⟩
    rw [List.length_map, List.length_range] at hf'
    have hz := lv_le hR (Nat.le_refl ((en R).1 + (en R).2))
    have hI : EvI K (iList K (tVar 2)) [some x, some s1, some f', a, b, c, d', none] H' ((lv R ((en R).1 + (en R).2)).map fun p => PyData.tuple [wdD p.1, spD p.2]) := iv_list (d_var rfl hf')
    have hlc := d_lcP (K := K) (j := 5) (k := 6) (vs := [5, 6]) (tt := tYes) (te := tVar 5) (lv R ((en R).1 + (en R).2)) (fun p => wdD p.1) (fun p => spD p.2) (fun _ => true) (fun p => wdD p.1) hI (by omega) (fun _ _ => rfl) (fun _ _ _ => rfl) (fun _ _ _ _ _ _ _ _ => et_yes) fun p _ _ z1 z2 H3 e3 h1 h2 => d_var (i := 5) rfl h1
    have he : ((lv R ((en R).1 + (en R).2)).filter fun _ => true).map (fun p => wdD p.1) = (every R).map wdD := by
      rw [List.filter_eq_self.mpr (fun _ _ => rfl)]
      unfold every; rw [List.map_map]; rfl
    rw [he] at hlc
    exact sr hlc.l fun v H3 e3 hv => q v H3 (((e1.trans e2).trans eH).trans e3) hv
end
end KL
set_option maxHeartbeats 4000000
namespace KL
open PySem L2 Evl KM
section
variable {K : PySem.W.Frag} {σ : L2.St} {H H' : Hp} {ta tb tc te tl tv : TE} {D : Ends} {tz tu : TS} {t : TT}
/-! ### the law's count: a dict keyed by spans -/
def ckey (a b : Nat) : List Key := [.inl (a : Int), .inl (b : Int)]
structure CntOk (R : Rg) (kvs : List (List Key × V)) (n : Nat) : Prop where
  len : kvs.length ≤ n
  val : ∀ k v, valV kvs k = some v → ∃ a b m : Nat, k = ckey a b ∧ v = .int (m : Int) ∧ m ≤ Bn a b
  has : ∀ (j : Nat) s, j < n → (spansL R)[j]? = some s → ∃ v, valV kvs (ckey s.1 s.2) = some v
theorem CntOk.nil (R : Rg) : CntOk R [] 0 := ⟨Nat.le_refl _, fun k v h => (by cases h), fun j s h => absurd h (Nat.not_lt_zero _)⟩
theorem ckey_inj {a b c d : Nat} (h : ckey a b = ckey c d) : a = c ∧ b = d := by
  unfold ckey at h
  injection h with h1 h2
  injection h2 with h2 _
  injection h1 with h1
  injection h2 with h2
  exact ⟨Int.ofNat_inj.mp h1, Int.ofNat_inj.mp h2⟩
theorem CntOk.put {R : Rg} {kvs : List (List Key × V)} {n : Nat} {s : Spn} {m : Nat} (C : CntOk R kvs n) (hs : (spansL R)[n]? = some s) (hm : m ≤ Bn s.1 s.2) : CntOk R (putK kvs (ckey s.1 s.2) (.int (m : Int))) (n + 1) := by
  refine ⟨Nat.le_trans (length_putK _ _ _) (Nat.succ_le_succ C.len), fun k v h => ?_, fun j s' hj hs' => ?_⟩
  · rw [valV_put] at h
    by_cases hk : k = ckey s.1 s.2
    · rw [if_pos hk] at h
      cases h
      exact ⟨s.1, s.2, m, hk, rfl, hm⟩
    · rw [if_neg hk] at h
      exact C.val k v h
  · rw [valV_put]
    by_cases hk : ckey s'.1 s'.2 = ckey s.1 s.2
    · exact ⟨_, by rw [if_pos hk]⟩
    · rw [if_neg hk]
      by_cases hjn : j < n
      · exact C.has j s' hjn hs'
      · have : j = n := by omega
        subst this
        rw [hs] at hs'; cases hs'
        exact absurd rfl hk
theorem CntOk.getL {R : Rg} {kvs : List (List Key × V)} {n : Nat} (C : CntOk R kvs n) (a b : Nat) : ∃ m : Nat, (valV kvs [.inl ((a : Int) - 1), .inl (b : Int)]).getD (.int 0) = .int (m : Int) ∧ m ≤ if a = 0 then 0 else Bn (a - 1) b := by
  cases q : valV kvs [.inl ((a : Int) - 1), .inl (b : Int)] with
  | none => exact ⟨0, rfl, Nat.zero_le _⟩
  | some v =>
    obtain ⟨c, d, m, hk, rfl, hm⟩ := C.val _ _ q
    have h1 : (a : Int) - 1 = (c : Int) := by
      unfold ckey at hk
      injection hk with h1 _
      injection h1
    have h2 : (b : Int) = (d : Int) := by
      unfold ckey at hk
      injection hk with _ h2
      injection h2 with h2 _
      injection h2
    refine ⟨m, rfl, ?_⟩
    rw [if_neg (by omega)]
    have e1 : a - 1 = c := by omega
    have e2 : b = d := by omega
    rw [e1, e2]; exact hm
theorem CntOk.getR {R : Rg} {kvs : List (List Key × V)} {n : Nat} (C : CntOk R kvs n) (a b : Nat) : ∃ m : Nat, (valV kvs [.inl (a : Int), .inl ((b : Int) - 1)]).getD (.int 0) = .int (m : Int) ∧ m ≤ if b = 0 then 0 else Bn a (b - 1) := by
  cases q : valV kvs [.inl (a : Int), .inl ((b : Int) - 1)] with
  | none => exact ⟨0, rfl, Nat.zero_le _⟩
  | some v =>
    obtain ⟨c, d, m, hk, rfl, hm⟩ := C.val _ _ q
    have h1 : (a : Int) = (c : Int) := by
      unfold ckey at hk
      injection hk with h1 _
      injection h1
    have h2 : (b : Int) - 1 = (d : Int) := by
      unfold ckey at hk
      injection hk with _ h2
      injection h2 with h2 _
      injection h2
    refine ⟨m, rfl, ?_⟩
    rw [if_neg (by omega)]
    have e1 : a = c := by omega
    have e2 : b - 1 = d := by omega
    rw [e1, e2]; exact hm
theorem d_get2T {p : Addr} {kvs : List (List Key × V)} {i : Nat} {a b n : Int} (hp : H p = some (.dT kvs)) (hσ : σ[i]? = some (some (.ref p))) (ha : Ev ta σ H (.int a)) (hb : Ev tb σ H (.int b)) (hv : (valV kvs [.inl a, .inl b]).getD (.int 0) = .int n) :
    EvD K (tDGet2 (tVar i) (tTup (tCons ta (tCons tb tNil))) (tC (.int 0))) σ H (.int n) := fun H1 e Q q => by
  refine ⟨.ref p, hσ, p, rfl, .inr ⟨kvs, .inl (e p _ hp)⟩, ha H1 e _ fun H2 e2 => hb H2 (e.trans e2) _ fun H3 e3 => ⟨by show 2 ≤ sizeLine; decide, fun c hc => ?_⟩⟩
  have hp3 : H3 p = some (.dT kvs) := e3 p _ (e2 p _ (e p _ hp))
  have hp4 : (upd H3 c (.tup [.int a, .int b])) p = some (.dT kvs) := Ex.new hc p _ hp3
  refine ⟨_, DGet.t (k := [.inl a, .inl b]) hp4 upd_same, ?_⟩
  rw [hv]
  exact q _ _ ((e2.trans e3).trans (Ex.new hc)) (.int n)
theorem sq_keepT {a p : Addr} {xs : List V} {kvs : List (List Key × V)} (h : SqL K H a xs) (hl : H p = some (.dT kvs)) (e : ExE p H H') : SqL K H' a xs := by
  rcases h with (h | ⟨o, h⟩) | h
  · have ne : a ≠ p := fun q => by subst q; rw [h] at hl; cases hl
    exact .inl (.inl (e a _ ne h))
  · have ne : a ≠ p := fun q => by subst q; rw [h] at hl; cases hl
    exact .inl (.inr ⟨o, e a _ ne h⟩)
  · exact .inr h
theorem s_dputT {p : Addr} {kvs : List (List Key × V)} {i : Nat} {a b n : Int} (hp : H p = some (.dT kvs)) (hσ : σ[i]? = some (some (.ref p))) (hv : Ev tv σ H (.int n)) (ha : Ev ta σ H (.int a)) (hb : Ev tb σ H (.int b)) (hz : kvs.length < 100000)
    (k : ∀ H4, ExE p H H4 → H4 p = some (.dT (putK kvs [.inl a, .inl b] (.int n))) → (∀ c xs, SqL K H c xs → SqL K H4 c xs) → Ti H H4 → D.nx σ H4) : sDPut (tVar i) (tTup (tCons ta (tCons tb tNil))) tv D σ H :=
  hv H (Ex.refl H) _ fun H1 e1 => ⟨.ref p, hσ, ha H1 e1 _ fun H2 e2 => hb H2 (e1.trans e2) _ fun H3 e3 => ⟨by show 2 ≤ sizeLine; decide, fun c hc => by
    have ex := (e1.trans e2).trans e3
    have ex4 : Ex H (upd H3 c (.tup [.int a, .int b])) := ex.trans (Ex.new hc)
    have hp4 := ex4 p _ hp
    have hn : NoTup ((upd H3 c (.tup [.int a, .int b])) p) := by rw [hp4]; trivial
    refine ⟨p, _, rfl, DPut.t (k := [.inl a, .inl b]) hp4 upd_same (sz_lt hz), k _ (fun x o hx h => by rw [upd_ne hx]; exact ex4 x o h) upd_same (fun d xs h => ?_) ((Ti.ex ex4).trans (Ti.upd hn))⟩
    exact sq_keepT (ex_l ex4 h) hp4 ExE.upd⟩⟩
def SCnt (d : PyData) : Prop := ∃ n : Nat, n ≤ 120 ∧ d = inD n
def Q_law_count (ds : List PyData) (S : PyData → Prop) : Prop := ∃ R, Reg R ∧ ds = [rgD R] ∧ S = SCnt
theorem qdnT {i : Nat} (k : ∀ p, H p = none → tz D (σ.set i (some (.ref p))) (upd H p (.dT []))) : tSeq (tAsg tDNewT (gName i)) tz D σ H := fun p hp => k p hp
theorem rd_law_count : KL.Rd K (PrN K Q_law_count) (t_law_count K (Pr K R_law_spans)) N_law_count := by
  rintro vs H Q E ⟨ds, S, hD, ⟨R, hR, rfl, rfl⟩, q⟩
  obtain ⟨x, rfl, hx⟩ := hD.one
  refine qdnT fun p hp => ?_
  have e1 : Ex H (upd H p (.dT [])) := Ex.new hp
  show tFor _ _ _ _ _ _
  refine i_list (K := K) (d_call (E := E0) (R := R_law_spans) (da_1 (d_var (i := 0) rfl (hx.mono e1))) ⟨R, hR, rfl, rfl⟩) fun ya yxs H2 e2 hys hyd => ?_
  have himm : immA ((spansL R).map spD) = true := immA_map (fun _ => rfl) _
  have wk := wk_list (K := K) (a := ya) (xs := yxs) (ds := (spansL R).map spD) (fun H' => SqL K H' ya yxs ∧ Ti H2 H') hyd.length (fun _ h => h.1) fun _ h => hyd.ti h.2 himm
  refine for_it wk (fun i σ' H' => (∃ a b, σ' = [some x, some (.ref p), a, b]) ∧ Ex H H' ∧ (∃ kvs, H' p = some (.dT kvs) ∧ CntOk R kvs i) ∧ SqL K H' ya yxs ∧ Ti H2 H') ⟨⟨none, none, rfl⟩, e1.trans e2, ⟨[], e2 p _ upd_same, CntOk.nil R⟩, hys, Ti.refl _⟩ (fun _ _ _ _ h => h.2.2.2) ?_ ?_
  · rintro i x1 σ' H' H'' hlt ⟨⟨a, b, rfl⟩, eH, ⟨kvs, hkv, C⟩, hsq, hti⟩ ⟨ex, d, hd, hdp⟩
    obtain ⟨s, hs, rfl⟩ := map_get hd
    rw [List.length_map] at hlt
    have hl25 := spansL_len hR
    refine g_pair hdp fun xa xb ha hb => ?_
    obtain rfl := ha.intI
    obtain rfl := hb.intI
    have hkv' := ex p _ hkv
    let σ5 : L2.St := [some x, some (.ref p), some (.int (s.1 : Int)), some (.int (s.2 : Int))]
    have v2 : Ev (tVar 2) σ5 H'' (.int (s.1 : Int)) := ev_var rfl
    have v3 : Ev (tVar 3) σ5 H'' (.int (s.2 : Int)) := ev_var rfl
    have w2 : EvD K (tVar 2) σ5 H'' (inD s.1) := d_evI v2
    have w3 : EvD K (tVar 3) σ5 H'' (inD s.2) := d_evI v3
    have hc := t_test (d_op (d_tup (da_2 w2 w3) (by show 2 ≤ 100000; decide)) ((d_tup (K := K) (da_2 d_int d_int) (by show 2 ≤ 100000; decide)).to (da := spD (0, 0)) rfl) (r_eqD (shp_sp s) (shp_sp (0, 0))))
    rw [show PyData.eqv (.tuple [inD s.1, inD s.2]) (spD (0, 0)) = decide (s = (0, 0)) from spD_eqv s (0, 0)] at hc
    obtain ⟨m1, hm1, hb1⟩ := C.getL s.1 s.2
    obtain ⟨m2, hm2, hb2⟩ := C.getR s.1 s.2
    have g1 := d_get2T (K := K) (i := 1) (ta := tOp (rI0 fun i j => .int (i - j)) (tVar 2) (tC (.int 1))) (tb := tVar 3) hkv' (σ := σ5) rfl (d_sub w2 d_int).i v3 hm1
    have g2 := d_get2T (K := K) (i := 1) (ta := tVar 2) (tb := tOp (rI0 fun i j => .int (i - j)) (tVar 3) (tC (.int 1))) hkv' (σ := σ5) rfl v2 (d_sub w3 d_int).i hm2
    have hval : ∃ m : Nat, m ≤ Bn s.1 s.2 ∧ EvD K (tIf (tTest (tOp (rEqD K) (tTup (tCons (tVar 2) (tCons (tVar 3) tNil))) (tTup (tCons (tC (.int 0)) (tCons (tC (.int 0)) tNil))))) (tC (.int 1)) (tOp (rI0 fun i j => .int (i + j)) (tDGet2 (tVar 1) (tTup (tCons (tOp (rI0 fun i j => .int (i - j)) (tVar 2) (tC (.int 1))) (tCons (tVar 3) tNil))) (tC (.int 0))) (tDGet2 (tVar 1) (tTup (tCons (tVar 2) (tCons (tOp (rI0 fun i j => .int (i - j)) (tVar 3) (tC (.int 1))) tNil))) (tC (.int 0))))) σ5 H'' (inD m) := by
      by_cases h0 : s = (0, 0)
      · exact ⟨1, Bn_pos _ _, d_if hc (fun _ => d_one) fun hf => by rw [decide_eq_true h0] at hf; cases hf⟩
      · exact ⟨m1 + m2, Bn_step _ _ _ _ (fun ⟨h1, h2⟩ => h0 (Prod.ext h1 h2)) hb1 hb2, d_if hc (fun hf => by rw [decide_eq_false h0] at hf; cases hf) fun _ => (d_add g1 g2).to rfl⟩
    obtain ⟨m, hm, hval⟩ := hval
    refine s_dputT (K := K) (n := (m : Int)) hkv' rfl hval.i v2 v3 (by have := C.len; omega) fun H4 e4 h4 hsq4 hti4 => ?_
    exact ⟨⟨_, _, rfl⟩, ExE.ex (eH.trans ex) hp e4, ⟨_, h4, C.put hs hm⟩, hsq4 _ _ (ex_l ex hsq), hti.trans ((Ti.ex ex).trans hti4)⟩
  · rintro σ' H' ⟨⟨a, b, rfl⟩, eH, ⟨kvs, hkv, C⟩, hsq, hti⟩
    rw [List.length_map] at C
    obtain ⟨us, hus⟩ := spansL_last hR
    have hlast : (spansL R)[us.length]? = some (en R) := by rw [hus, List.getElem?_append_right (Nat.le_refl _)]; simp
    obtain ⟨v, hv⟩ := C.has us.length (en R) (by rw [hus]; simp) hlast
    obtain ⟨c, d, m, hk, rfl, hm⟩ := C.val _ _ hv
    obtain ⟨rfl, rfl⟩ := ckey_inj hk
    have hen := en_le hR
    have hs : EvD K (tVar 0) [some x, some (.ref p), a, b] H' (rgD R) := d_var rfl (hx.mono eH)
    obtain ⟨cc, hcc, hh⟩ := last_at hR
    have h1 := ((d_sub (d_len_rg hs) d_int).to (da := inD (en R).1) (by
      have := hR.pos
      show PyData.int ((R.length : Int) - 1) = PyData.int ((R.length - 1 : Nat) : Int)
      congr 1; omega)).i
    have h2 := d_sp1 (d_rgL hs hcc)
    rw [hh] at h2
    refine ⟨.ref p, rfl, h1 H' (Ex.refl _) _ fun H3 e3 => h2.i H3 e3 _ fun H4 e4 => ⟨by show 2 ≤ sizeLine; decide, fun c hc => ?_⟩⟩
    have ex : Ex H' (upd H4 c (.tup [.int ((en R).1 : Int), .int ((hiOf R : Nat) : Int)])) := (e3.trans e4).trans (Ex.new hc)
    refine ⟨p, .int (m : Int), rfl, ?_, ?_⟩
    · rw [← hv]
      exact DGet.t (k := ckey (en R).1 (en R).2) (ex p _ hkv) upd_same
    · exact q (inD m) _ _ ⟨m, Nat.le_trans hm (Bn_small _ hen.1 _ hen.2), rfl⟩ (eH.trans ex) (.int _)
end
end KL
set_option maxHeartbeats 4000000
namespace KL
open PySem L2 Evl KM
section
variable {K : PySem.W.Frag} {σ : L2.St} {H H' : Hp} {ta tb tc te tl tv : TE} {D : Ends} {tz tu : TS} {t : TT}
/-! ### the row of draws -/
def rowV (s : Addr) (p q r : Int) : List V := [.ref s, .int p, .int q, .int r]
def Row (K : PySem.W.Frag) (H : Hp) (a s : Addr) (ns : List Int) : Prop := ∃ (p q r : Int), H a = some (.lst (rowV s p q r)) ∧ SqL K H s (ns.map V.int) ∧ ns.length ≤ 63 ∧ 0 ≤ p ∧ 0 ≤ r
theorem Row.mono {a s : Addr} {ns : List Int} (e : Ex H H') (h : Row K H a s ns) : Row K H' a s ns := by
  obtain ⟨p, q, r, h1, h2, h3, h4⟩ := h
  exact ⟨p, q, r, e a _ h1, ex_l e h2, h3, h4⟩
theorem ExE.trans {l : Addr} {H1 H2 H3 : Hp} (a : ExE l H1 H2) (b : ExE l H2 H3) : ExE l H1 H3 := fun x o hx h => b x o hx (a x o hx h)
theorem row_ne {s : Addr} {p q r : Int} (ns : List Int) : ns.map V.int ≠ rowV s p q r := by
  intro e
  cases ns with
  | nil => cases e
  | cons n ns => injection e with h _; cases h
theorem Row.upd {a s : Addr} {ns : List Int} {p q r p' q' r' : Int} (h1 : H a = some (.lst (rowV s p q r))) (h2 : SqL K H s (ns.map V.int)) (h3 : ns.length ≤ 63) (hp : 0 ≤ p') (hr : 0 ≤ r') : Row K (upd H a (.lst (rowV s p' q' r'))) a s ns :=
  ⟨p', q', r', upd_same, sq_keep h2 h1 (row_ne ns) ExE.upd, h3, hp, hr⟩
def spTaken (K : PySem.W.Frag) : Sp := fun vs H Q _ => ∃ (a s : Addr) (ns : List Int) (m : Int), vs = [.ref a, .int m] ∧ 0 < m ∧ m < 1000000 ∧ Row K H a s ns ∧ ∀ (t : Int) H', 0 ≤ t → t < m → ExE a H H' → Row K H' a s ns → Q (.int t) H'
theorem e_ix {a : Addr} {xs : List V} {i : Nat} {v : V} (ha : Ev ta σ H (.ref a)) (hl : H a = some (.lst xs)) (hx : xs[i]? = some v) : Ev (tOp (rIxL K) ta (tC (.int (i : Int)))) σ H v := ev_op ha ev_c (rv_ixL (sq_of hl) (atI_nat hx))
theorem e_mod {i m : Int} (h : Ev ta σ H (.int i)) (h2 : Ev tb σ H (.int m)) (hm : 0 < m) : Ev (tOp (rI (fun _ j => 0 < j) fun i j => .int (i % j)) ta tb) σ H (.int (i % m)) := ev_op h h2 (rv_I (C := fun _ j => 0 < j) (g := fun i j => .int (i % j)) hm)
theorem e_div {i m : Int} (h : Ev ta σ H (.int i)) (h2 : Ev tb σ H (.int m)) (hm : 0 < m ∧ m < 1000000) : Ev (tOp (rI CDiv fun i j => .int (i / j)) ta tb) σ H (.int (i / m)) := ev_op h h2 (rv_I (C := CDiv) (g := fun i j => .int (i / j)) ⟨hm.1, by omega⟩)
theorem e_add {i m : Int} (h : Ev ta σ H (.int i)) (h2 : Ev tb σ H (.int m)) : Ev (tOp (rI0 fun i j => .int (i + j)) ta tb) σ H (.int (i + m)) := ev_op h h2 rv_I0
theorem e_sub {i m : Int} (h : Ev ta σ H (.int i)) (h2 : Ev tb σ H (.int m)) : Ev (tOp (rI0 fun i j => .int (i - j)) ta tb) σ H (.int (i - m)) := ev_op h h2 rv_I0
theorem e_mulc {i : Int} (h : Ev ta σ H (.int i)) : Ev (tOp (rI CMul fun i j => .int (i * j)) ta (tC (.int 48271))) σ H (.int (i * 48271)) := ev_op h ev_c (rv_I (C := CMul) (g := fun i j => .int (i * j)) (.inr ⟨by decide, by decide⟩))
theorem e_int {i : Int} (h : Ev ta σ H (.int i)) : Ev (tCB rInt1 (tCons ta tNil)) σ H (.int i) := fun H1 e Q q => h H1 e _ fun H2 e2 => .inl ⟨i, rfl, q H2 e2⟩
theorem e_gt {i m : Int} (h : Ev ta σ H (.int i)) (h2 : Ev tb σ H (.int m)) : Ev (tOp (rI0 fun i j => .bl (decide (j < i))) ta tb) σ H (.bl (decide (m < i))) := ev_op h h2 (rv_I0 (g := fun i j => .bl (decide (j < i))))
theorem e_ge {i m : Int} (h : Ev ta σ H (.int i)) (h2 : Ev tb σ H (.int m)) : Ev (tOp (rI0 fun i j => .bl (decide (j ≤ i))) ta tb) σ H (.bl (decide (m ≤ i))) := ev_op h h2 (rv_I0 (g := fun i j => .bl (decide (j ≤ i))))
theorem rd_law_taken : KL.Rd K (spTaken K) (t_law_taken K) N_law_taken := by
  rintro vs H Q E ⟨a, s, ns, m, rfl, hm0, hm1, ⟨p, r2, r, ha, hs, hlen, hp, hr⟩, q⟩
  have v0 : ∀ {H1 : Hp} {a' b' : Option V}, Ev (tVar 0) [some (.ref a), some (.int m), a', b'] H1 (.ref a) := ev_var rfl
  have v1 : ∀ {H1 : Hp} {a' b' : Option V}, Ev (tVar 1) [some (.ref a), some (.int m), a', b'] H1 (.int m) := ev_var rfl
  have ex0 : ∀ {H1 : Hp} {x : HO}, Ex H H1 → ExE a H (upd H1 a x) := fun e => (Ex.exE e).trans ExE.upd
  refine q_when (σ := [some (.ref a), some (.int m), none, none]) (et_test (e_gt (e_ix (K := K) (i := 3) v0 ha rfl) ev_c)) (fun hb H1 e1 => ?_) fun hb H1 e1 => ?_
  · -- the rest of a great cell
    have ha1 := e1 a _ ha
    refine q_asg (e_mod (e_int (e_ix (K := K) (i := 3) v0 ha1 rfl)) v1 hm0) fun H2 e2 => ?_
    have ha2 := e2 a _ ha1
    have e12 := e1.trans e2
    refine q_setL (j := 3) ha2 (e_div (e_ix (K := K) (i := 3) (ev_var rfl) ha2 rfl) (ev_var rfl) ⟨hm0, hm1⟩) (ev_var rfl) ev_c (by show 3 < 4; decide) fun H3 e3 => ?_
    refine s_ret (ev_var (i := 2) rfl) fun H4 e4 => ?_
    have e13 := e12.trans e3
    refine q (r % m) H4 (Int.emod_nonneg _ (by omega)) (Int.emod_lt_of_pos _ hm0) (fun b o hb h => e4 b o (by rw [upd_ne hb]; exact e13 b o h)) (Row.mono e4 ?_)
    exact Row.upd (e3 a _ ha2) (ex_l e13 hs) hlen hp (Int.ediv_nonneg hr (by omega))
  · have ha1 := e1 a _ ha
    refine q_setL (j := 1) ha1 (e_add (e_ix (K := K) (i := 1) v0 ha1 rfl) ev_c) v0 ev_c (by show 1 < 4; decide) fun H2 e2 => ?_
    have e12 := e1.trans e2
    have hs2 : SqL K (upd H2 a (.lst (rowV s (p + 1) r2 r))) s (ns.map V.int) := sq_keep (ex_l e12 hs) (e2 a _ ha1) (row_ne ns) ExE.upd
    have ha2 : (upd H2 a (.lst (rowV s (p + 1) r2 r))) a = some (.lst (rowV s (p + 1) r2 r)) := upd_same
    have x2 : ExE a H (upd H2 a (.lst (rowV s (p + 1) r2 r))) := ex0 e12
    show tSeq _ _ _ _ (upd H2 a (.lst (rowV s (p + 1) r2 r)))
    generalize upd H2 a (.lst (rowV s (p + 1) r2 r)) = G at hs2 ha2 x2
    have hl := ev_len (K := K) (e_ix (K := K) (σ := [some (.ref a), some (.int m), none, none]) (i := 0) v0 ha2 rfl) hs2
    rw [List.length_map] at hl
    refine q_when (et_test (e_gt (e_ix (K := K) (i := 1) v0 ha2 rfl) hl)) (fun hb2 H3 e3 => ?_) fun hb2 H3 e3 => ?_
    · -- beyond the script
      have ha3 := e3 a _ ha2
      refine q_setL (j := 2) ha3 (e_mod (e_int (e_add (e_mulc (e_ix (K := K) (i := 2) v0 ha3 rfl)) ev_c)) ev_c (by decide)) v0 ev_c (by show 2 < 4; decide) fun H4 e4 => ?_
      have e34 := e3.trans e4
      have hs4 : SqL K (upd H4 a (.lst (rowV s (p + 1) ((r2 * 48271 + 11) % 2147483647) r))) s (ns.map V.int) := sq_keep (ex_l e34 hs2) (e4 a _ ha3) (row_ne ns) ExE.upd
      have ha4 : (upd H4 a (.lst (rowV s (p + 1) ((r2 * 48271 + 11) % 2147483647) r))) a = _ := upd_same
      have x4 : ExE a H (upd H4 a (.lst (rowV s (p + 1) ((r2 * 48271 + 11) % 2147483647) r))) := x2.trans ((Ex.exE e34).trans ExE.upd)
      show tRet _ _ _ (upd H4 a (.lst (rowV s (p + 1) ((r2 * 48271 + 11) % 2147483647) r)))
      generalize upd H4 a (.lst (rowV s (p + 1) ((r2 * 48271 + 11) % 2147483647) r)) = G4 at hs4 ha4 x4
      refine s_ret (e_mod (e_int (e_div (e_ix (K := K) (i := 2) v0 ha4 rfl) ev_c ⟨by decide, by decide⟩)) v1 hm0) fun H5 e5 => ?_
      refine q _ H5 (Int.emod_nonneg _ (by omega)) (Int.emod_lt_of_pos _ hm0) (x4.trans (Ex.exE e5)) (Row.mono e5 ⟨_, _, _, ha4, hs4, hlen, by omega, hr⟩)
    · -- the next cell
      have hle : p + 1 ≤ (ns.length : Int) := by
        have := of_decide_eq_false hb2
        omega
      have ha3 := e3 a _ ha2
      have hs3 := ex_l e3 hs2
      obtain ⟨j, hj⟩ : ∃ j : Nat, p = (j : Int) := ⟨p.toNat, by omega⟩
      have hjl : j < ns.length := by omega
      have hcell : atI (ns.map V.int) (p + 1 - 1) = some (.int ns[j]) := by
        rw [show p + 1 - 1 = (j : Int) by omega]
        exact atI_nat (by rw [List.getElem?_map, List.getElem?_eq_getElem hjl]; rfl)
      refine q_asg (ev_op (e_ix (K := K) (i := 0) v0 ha3 rfl) (e_sub (e_ix (K := K) (i := 1) v0 ha3 rfl) ev_c) (rv_ixL hs3 hcell)) fun H4 e4 => ?_
      have ha4 := e4 a _ ha3
      have v3 : ∀ {H1 : Hp}, Ev (tVar 3) [some (.ref a), some (.int m), none, some (.int ns[j])] H1 (.int ns[j]) := ev_var rfl
      refine q_setL (j := 2) ha4 (e_mod (e_int (e_add (e_add (e_mulc (e_ix (K := K) (i := 2) v0 ha4 rfl)) v3) ev_c)) ev_c (by decide)) v0 ev_c (by show 2 < 4; decide) fun H5 e5 => ?_
      have e35 := (e3.trans e4).trans e5
      have hs5 : SqL K (upd H5 a (.lst (rowV s (p + 1) ((r2 * 48271 + ns[j] + 11) % 2147483647) r))) s (ns.map V.int) := sq_keep (ex_l e35 hs2) (e5 a _ ha4) (row_ne ns) ExE.upd
      have ha5 : (upd H5 a (.lst (rowV s (p + 1) ((r2 * 48271 + ns[j] + 11) % 2147483647) r))) a = _ := upd_same
      have x5 : ExE a H (upd H5 a (.lst (rowV s (p + 1) ((r2 * 48271 + ns[j] + 11) % 2147483647) r))) := x2.trans ((Ex.exE e35).trans ExE.upd)
      show tSeq _ _ _ _ (upd H5 a (.lst (rowV s (p + 1) ((r2 * 48271 + ns[j] + 11) % 2147483647) r)))
      generalize upd H5 a (.lst (rowV s (p + 1) ((r2 * 48271 + ns[j] + 11) % 2147483647) r)) = G5 at hs5 ha5 x5
      have hpow : Ev (tOp (rI CPow fun i j => .int (i ^ j.toNat)) (tC (.int 10)) (tC (.int 18))) [some (.ref a), some (.int m), none, some (.int ns[j])] G5 (.int ((10 : Int) ^ (18 : Int).toNat)) := ev_op ev_c ev_c (rv_I (C := CPow) (g := fun i j => .int (i ^ j.toNat)) ⟨by decide, by decide, by decide⟩)
      refine q_when (et_test (e_ge v3 hpow)) (fun hb6 H6 e6 => ?_) fun hb6 H6 e6 => ?_
      · have hbig : (10 : Int) ^ (18 : Int).toNat ≤ ns[j] := of_decide_eq_true hb6
        have hpos : (0 : Int) ≤ (10 : Int) ^ (18 : Int).toNat := by decide
        have ha6 := e6 a _ ha5
        refine s_setL (j := 3) ha6 (e_div v3 v1 ⟨hm0, hm1⟩) v0 ev_c (by show 3 < 4; decide) fun H7 e7 => ?_
        refine s_ret (e_mod (e_int v3) v1 hm0) fun H8 e8 => ?_
        have e57 := e6.trans e7
        refine q _ H8 (Int.emod_nonneg _ (by omega)) (Int.emod_lt_of_pos _ hm0) ((x5.trans ((Ex.exE e57).trans ExE.upd)).trans (Ex.exE e8)) (Row.mono e8 ?_)
        exact Row.upd (e7 a _ ha6) (ex_l e57 hs5) hlen (by omega) (Int.ediv_nonneg (by omega) (by omega))
      · refine s_ret (e_mod (e_int v3) v1 hm0) fun H8 e8 => ?_
        refine q _ H8 (Int.emod_nonneg _ (by omega)) (Int.emod_lt_of_pos _ hm0) (x5.trans (Ex.exE (e6.trans e8))) (Row.mono (e6.trans e8) ⟨_, _, _, ha5, hs5, hlen, by omega, hr⟩)
end
end KL
set_option maxHeartbeats 4000000
namespace KL
open PySem L2 Evl KM
section
variable {K : PySem.W.Frag} {σ : L2.St} {H H' : Hp} {ta tb tc te tl tv : TE} {D : Ends} {tz tu : TS} {t : TT}
theorem c_taken {a s : Addr} {ns : List Int} {m : Int} {Q : VK} {E : XK} (h0 : Ev ta σ H (.ref a)) (h1 : Ev tb σ H (.int m)) (hm : 0 < m ∧ m < 1000000) (hR : Row K H a s ns) (k : ∀ (t : Int) H', 0 ≤ t → t < m → ExE a H H' → Row K H' a s ns → Q (.int t) H') : tCall (spTaken K) [] E (tCons ta (tCons tb tNil)) σ H Q :=
  h0 H (Ex.refl H) _ fun H1 e1 => h1 H1 e1 _ fun H2 e2 => ⟨a, s, ns, m, rfl, hm.1, hm.2, hR.mono (e1.trans e2), fun t H3 h0 hm e3 r3 => k t H3 h0 hm ((Ex.exE (e1.trans e2)).trans e3) r3⟩
theorem qpar3c {i j l : Nat} {u : V} (k : ∀ p xs H1, H p = none → Ex H H1 → H1 p = some (.lst xs) → DpAll K H1 xs [] → te σ H1 fun w H2 => ∃ u' v' w', [V.ref p, u, w] = [u', v', w'] ∧ tz D (((σ.set i (some u')).set j (some v')).set l (some w')) H2) : tSeq (tPar3 i j l (tCons (tLst tNil) (tCons (tC u) (tCons te tNil)))) tz D σ H :=
  ⟨Nat.zero_le _, fun p hp => k p [] (upd H p (.lst [])) hp (Ex.new hp) upd_same .nil⟩
theorem qasgc {i : Nat} (h : te σ H fun v H1 => tz D (σ.set i (some v)) H1) : tSeq (tAsg te (gName i)) tz D σ H := h
theorem sasgc {i : Nat} (h : te σ H fun v H1 => D.nx (σ.set i (some v)) H1) : tAsg te (gName i) D σ H := h
theorem i_rngc {a : Int} {R : It → Hp → Prop} (h : te σ H fun y H2 => ∃ i j, V.int a = .int i ∧ y = .int j ∧ ∃ jj, [V.int (i + j)] = [V.int jj] ∧ -(2 ^ 62) ≤ jj ∧ jj < 2 ^ 62 ∧ R (Itr 0 jj.toNat) H2) : iRng1 (tCons (tOp (rI0 fun i j => .int (i + j)) (tC (.int a)) te) tNil) σ H R := h
theorem c_if {b : Bool} {Q : VK} (h : EvT t σ H b) (h1 : b = true → ∀ H1, Ex H H1 → ta σ H1 Q) (h2 : b = false → ∀ H1, Ex H H1 → tb σ H1 Q) : tIf t ta tb σ H Q := h H (Ex.refl H) _ fun H1 e => by
  cases b with
  | true => rw [if_pos rfl]; exact h1 rfl H1 e
  | false => rw [if_neg Bool.false_ne_true]; exact h2 rfl H1 e
theorem c_addc {a : Int} {Q : VK} (h : Ev ta σ H (.int a)) (k : ∀ H1, Ex H H1 → te σ H1 fun y H2 => ∃ i j, V.int a = .int i ∧ y = .int j ∧ Q (.int (i + j)) H2) : tOp (rI0 fun i j => .int (i + j)) ta te σ H Q := h H (Ex.refl H) _ fun H1 e => k H1 e
/-! ### pick -/
def spPick (K : PySem.W.Frag) : Sp := fun vs H Q _ => ∃ (a s b : Addr) (ns : List Int) (ss : List Str), vs = [.ref a, .ref b] ∧ Row K H a s ns ∧ SqL K H b (ss.map V.str) ∧ 1 ≤ ss.length ∧ ss.length ≤ 1000 ∧ ∀ z H', z ∈ ss → ExE a H H' → Row K H' a s ns → Q (.str z) H'
theorem strs_row {s : Addr} {p q r : Int} (ss : List Str) : ss.map V.str ≠ rowV s p q r := by
  intro e
  cases ss with
  | nil => cases e
  | cons n ns => injection e with h _; cases h
theorem Row.sq {a b s : Addr} {ns : List Int} {xs : List V} (hR : Row K H a s ns) (h : SqL K H b xs) (hne : ∀ s p q r, xs ≠ rowV s p q r) (e : ExE a H H') : SqL K H' b xs := by
  obtain ⟨p, q, r, h1, _⟩ := hR
  exact sq_keep h h1 (hne s p q r) e
theorem rd_law_pick : KL.Rd K (spPick K) (t_law_pick K (spTaken K)) N_law_pick := by
  rintro vs H Q E ⟨a, s, b, ns, ss, rfl, hR, hb, h1, h2, q⟩
  have hlen := ev_len (K := K) (σ := start N_law_pick [.ref a, .ref b]) (ta := tVar 1) (ev_var rfl) hb
  rw [List.length_map] at hlen
  refine ⟨.ref b, rfl, ?_⟩
  refine c_taken (m := (ss.length : Int)) (ev_var (i := 0) rfl) hlen (by omega) hR fun t H1 ht0 htm e1 r1 => ?_
  obtain ⟨j, hj⟩ : ∃ j : Nat, t = (j : Int) := ⟨t.toNat, by omega⟩
  have hjl : j < ss.length := by omega
  have hsq := hR.sq hb (fun _ _ _ _ => strs_row ss) e1
  refine ⟨b, ss.map V.str, t, .str ss[j], rfl, rfl, hsq, ?_, q _ H1 (List.getElem_mem hjl) e1 r1⟩
  rw [hj]
  exact atI_nat (by rw [List.getElem?_map, List.getElem?_eq_getElem hjl]; rfl)
/-! ### region -/
structure Cols (cs : List (Nat × Nat)) (low top n : Nat) : Prop where
  len : cs.length = n
  le : low ≤ top ∧ top ≤ 4
  lo0 : ∀ c, cs[0]? = some c → c.1 = 0
  z : n = 0 → low = 0
  col : ∀ (i : Nat) c, cs[i]? = some c → c.1 ≤ c.2 ∧ c.2 ≤ 4
  fit : ∀ (i : Nat) c d, cs[i]? = some c → cs[i + 1]? = some d → c.1 ≤ d.1 ∧ d.1 ≤ c.2 ∧ c.2 ≤ d.2
  last : ∀ c, 0 < n → cs[n - 1]? = some c → c = (low, top)
theorem Cols.snoc {cs : List (Nat × Nat)} {low top n low' top' : Nat} (C : Cols cs low top n) (h1 : low ≤ low') (h2 : low' ≤ top) (h3 : top ≤ top') (h4 : top' ≤ 4) (h0 : n = 0 → low' = low) : Cols (cs ++ [(low', top')]) low' top' (n + 1) := by
  have hn := C.len
  have old : ∀ {i : Nat} {c : Nat × Nat}, (cs ++ [(low', top')])[i]? = some c → (i < n ∧ cs[i]? = some c) ∨ (i = n ∧ c = (low', top')) := fun {i c} h => by
    by_cases hi : i < n
    · rw [List.getElem?_append_left (by omega)] at h; exact .inl ⟨hi, h⟩
    · have hl := (List.getElem?_eq_some_iff.mp h).1
      rw [List.length_append, List.length_singleton] at hl
      have : i = n := by omega
      subst this
      rw [← hn, List.getElem?_append_right (Nat.le_refl _)] at h
      simp at h
      exact .inr ⟨rfl, h.symm⟩
  refine ⟨by rw [List.length_append, List.length_singleton, hn], ⟨by omega, h4⟩, fun c h => ?_, fun h => by omega, fun i c h => ?_, fun i c d hc hd => ?_, fun c _ h => ?_⟩
  · rcases old h with ⟨_, h⟩ | ⟨hi, rfl⟩
    · exact C.lo0 c h
    · show low' = 0
      rw [h0 hi.symm, C.z hi.symm]
  · rcases old h with ⟨_, h⟩ | ⟨_, rfl⟩
    · exact C.col i c h
    · exact ⟨by show low' ≤ top'; omega, h4⟩
  · rcases old hd with ⟨hi, hd⟩ | ⟨hi, rfl⟩
    · rcases old hc with ⟨_, hc⟩ | ⟨hi2, _⟩
      · exact C.fit i c d hc hd
      · omega
    · rcases old hc with ⟨_, hc⟩ | ⟨hi2, _⟩
      · have e := C.last c (by omega) (by rw [show n - 1 = i by omega]; exact hc)
        rw [e]
        exact ⟨h1, h2, h3⟩
      · omega
  · rcases old h with ⟨hi, _⟩ | ⟨_, h⟩
    · omega
    · exact h
theorem Cols.reg {cs : List (Nat × Nat)} {low top n : Nat} (C : Cols cs low top n) (h1 : 1 ≤ n) (h5 : n ≤ 5) : Reg cs := ⟨by rw [C.len]; exact h1, by rw [C.len]; exact h5, C.lo0, C.col, C.fit⟩
def spRegion (K : PySem.W.Frag) : Sp := fun vs H Q _ => ∃ (a s : Addr) (ns : List Int), vs = [.ref a, .int 4, .int 4] ∧ Row K H a s ns ∧ ∀ R v H', Reg R → ExE a H H' → Row K H' a s ns → Dp K H' v (rgD R) → Q v H'
theorem LA.keep {a l s : Addr} {ns : List Int} {ds : List PyData} (hR : Row K H a s ns) (h : LA K H l ds) (hne : l ≠ a) (hi : immA ds = true) (e : ExE a H H') : LA K H' l ds := by
  obtain ⟨xs, hx, hd⟩ := h
  refine ⟨xs, e l _ hne hx, hd.ti (fun b ys hr => ?_) hi⟩
  obtain ⟨p, q, r, h1, _⟩ := hR
  rcases hr with hr | ⟨o, hr⟩
  · exact .inl (e b _ (fun z => by subst z; rw [hr] at h1; cases h1) hr)
  · exact .inr ⟨o, e b _ (fun z => by subst z; rw [hr] at h1; cases h1) hr⟩
theorem rd_law_region : KL.Rd K (spRegion K) (t_law_region K (spTaken K)) N_law_region := by
  rintro vs H Q E ⟨a, s, ns, rfl, hR, q⟩
  have hRa : ∃ o, H a = some o := by obtain ⟨p, q, r, h1, _⟩ := hR; exact ⟨_, h1⟩
  -- columns, low, top = [], 0, taken(..)
  refine qpar3c (K := K) fun l xs H1 hl e1 hlx hld => ?_
  have hla : l ≠ a := fun e => by subst e; obtain ⟨o, ho⟩ := hRa; rw [ho] at hl; cases hl
  have hR1 := hR.mono e1
  refine c_taken (a := a) (m := 4 + 1) (ev_var (i := 0) rfl) (e_add (ev_var (i := 2) rfl) ev_c) (by decide) hR1 fun t H2 ht0 htm e2 hR2 => ?_
  refine ⟨_, _, _, rfl, ?_⟩
  have hL2 : LA K H2 l [] := LA.keep hR1 ⟨xs, hlx, hld⟩ hla rfl e2
  have x2 : ExE a H H2 := (Ex.exE e1).trans e2
  obtain ⟨tp, rfl⟩ : ∃ j : Nat, t = (j : Int) := ⟨t.toNat, by omega⟩
  -- kind
  refine qasgc ?_
  refine c_taken (a := a) (m := 4) (ev_var (i := 0) rfl) ev_c (by decide) hR2 fun kd H3 hk0 hkm e3 hR3 => ?_
  have hL3 := LA.keep hR2 hL2 hla rfl e3
  have x3 := x2.trans e3
  -- the columns
  show tFor _ _ _ _ _ _
  refine i_rngc ?_
  refine c_taken (a := a) (m := 4 + 1) (ev_var (i := 0) rfl) (e_add (ev_var (i := 1) rfl) ev_c) (by decide) hR3 fun w H4 hw0 hwm e4 hR4 => ?_
  have hL4 := LA.keep hR3 hL3 hla rfl e4
  have x4 := x3.trans e4
  refine ⟨1, w, rfl, rfl, 1 + w, rfl, by omega, by omega, ?_⟩
  obtain ⟨wn, hwn⟩ : ∃ j : Nat, (1 + w).toNat = j := ⟨_, rfl⟩
  rw [hwn]
  refine for_it (wk_rng (K := K) (n := wn) (fun _ => True)) (fun i σ' H' => (∃ low top cs a7, σ' = [some (.ref a), some (.int 4), some (.int 4), some (.ref l), some (.int ((low : Nat) : Int)), some (.int ((top : Nat) : Int)), some (.int kd), a7] ∧ Cols cs low top i ∧ LA K H' l (cs.map spD)) ∧ ExE a H H' ∧ Row K H' a s ns)
    ⟨⟨0, tp, [], none, rfl, ⟨rfl, ⟨Nat.zero_le _, by omega⟩, fun c h => (by cases h), fun _ => rfl, fun i c h => (by cases h), fun i c d h => (by cases h), fun c h => absurd h (Nat.not_lt_zero _)⟩, hL4⟩, x4, hR4⟩ (fun _ _ _ _ _ => trivial) ?_ ?_
  · rintro i x1 σ' H' H'' hlt ⟨⟨low, top, cs, a7, rfl, C, hL⟩, xH, hRH⟩ ⟨ex, d, hd, hdp⟩
    obtain ⟨i', hi', rfl⟩ := map_get hd
    rw [List.length_map, List.length_range] at hlt
    rw [List.getElem?_range hlt] at hi'
    cases hi'
    obtain rfl := hdp.intI
    have hR6 := hRH.mono ex
    have hL6 := hL.mono ex
    have x6 := xH.trans (Ex.exE ex)
    have hcs : cs.length = i := C.len
    have himm : immA (cs.map spD) = true := immA_map (fun _ => rfl) _
    -- what stands behind the if
    have fin : ∀ (low' top' : Nat) (H7 : Hp), ExE a H H7 → Row K H7 a s ns → LA K H7 l (cs.map spD) → Cols (cs ++ [(low', top')]) low' top' (i + 1) →
        (tDrop (tBM K "list" rAppend (tVar 3) (tCons (tTup (tCons (tVar 4) (tCons (tVar 5) tNil))) tNil))) { nx := fun σ' H' => (∃ low top cs a7, σ' = [some (.ref a), some (.int 4), some (.int 4), some (.ref l), some (.int ((low : Nat) : Int)), some (.int ((top : Nat) : Int)), some (.int kd), a7] ∧ Cols cs low top (i + 1) ∧ LA K H' l (cs.map spD)) ∧ ExE a H H' ∧ Row K H' a s ns, rt := Q }
          [some (.ref a), some (.int 4), some (.int 4), some (.ref l), some (.int ((low' : Nat) : Int)), some (.int ((top' : Nat) : Int)), some (.int kd), some (.int (i : Int))] H7 := fun low' top' H7 x7 hR7 hL7 C7 => by
      refine s_appD (K := K) (d := spD (low', top')) hL7 himm (imm_spD _) (ev_var rfl) ((d_tup (da_2 (d_evI (ev_var (i := 4) rfl)) (d_evI (ev_var (i := 5) rfl))) (by show 2 ≤ 100000; decide)).to rfl) (by rw [List.length_map, hcs]; omega) fun H8 e8 h8 => ?_
      refine ⟨⟨low', top', cs ++ [(low', top')], _, rfl, C7, by rw [List.map_append]; exact h8⟩, fun b o hb h => ?_, ?_⟩
      · exact e8 b o (fun z => by subst z; rw [hl] at h; cases h) (x7 b o hb h)
      · obtain ⟨p, q, r, h1, h2, h3, h4⟩ := hR7
        refine ⟨p, q, r, e8 a _ (Ne.symm hla) h1, ?_, h3, h4⟩
        obtain ⟨p0, q0, r0, g1, g2, _⟩ := hR
        refine sq_keep g2 g1 (row_ne ns) fun b o hb h => ?_
        exact e8 b o (fun z => by subst z; rw [hl] at h; cases h) (x7 b o hb h)
    have hle := C.le
    refine q_when (et_test (e_gt (ev_var (i := 7) rfl) ev_c)) (fun hb H7 e7 => ?_) fun hb H7 e7 => ?_
    · refine qasgc ?_
      have hR7 := hR6.mono e7
      have hL7 := hL6.mono e7
      have x7 := x6.trans (Ex.exE e7)
      -- low
      have second : ∀ (low' : Nat) (H8 : Hp), low ≤ low' → low' ≤ top → (i = 0 → low' = low) → ExE a H H8 → Row K H8 a s ns → LA K H8 l (cs.map spD) →
          (tAsg (tIf (tTest (tOp rNe (tVar 6) (tC (.int 1)))) (tOp (rI0 fun i j => .int (i + j)) (tVar 5) (tCall (spTaken K) [] E0 (tCons (tVar 0) (tCons (tOp (rI0 fun i j => .int (i + j)) (tOp (rI0 fun i j => .int (i - j)) (tVar 2) (tVar 5)) (tC (.int 1))) tNil)))) (tCB rMin2 (tCons (tVar 2) (tCons (tOp (rI0 fun i j => .int (i + j)) (tVar 5) (tC (.int 1))) tNil)))) (gName 5))
            { nx := (tDrop (tBM K "list" rAppend (tVar 3) (tCons (tTup (tCons (tVar 4) (tCons (tVar 5) tNil))) tNil))) { nx := fun σ' H' => (∃ low top cs a7, σ' = [some (.ref a), some (.int 4), some (.int 4), some (.ref l), some (.int ((low : Nat) : Int)), some (.int ((top : Nat) : Int)), some (.int kd), a7] ∧ Cols cs low top (i + 1) ∧ LA K H' l (cs.map spD)) ∧ ExE a H H' ∧ Row K H' a s ns, rt := Q }, rt := Q }
            [some (.ref a), some (.int 4), some (.int 4), some (.ref l), some (.int ((low' : Nat) : Int)), some (.int ((top : Nat) : Int)), some (.int kd), some (.int (i : Int))] H8 := fun low' H8 hl1 hl2 hz x8 hR8 hL8 => by
        refine sasgc ?_
        refine c_if (b := !decide (kd = 1)) (et_test (ev_is (ev_op (ev_var (i := 6) rfl) ev_c (rv_ne rfl)) (by rw [dec_int]; congr 2))) (fun hb9 H9 e9 => ?_) fun hb9 H9 e9 => ?_
        · refine c_addc (ev_var (i := 5) rfl) fun H10 e10 => ?_
          have e910 := e9.trans e10
          refine c_taken (a := a) (m := 4 - (top : Int) + 1) (ev_var (i := 0) rfl) (e_add (e_sub (ev_var (i := 2) rfl) (ev_var (i := 5) rfl)) ev_c) (by omega) (hR8.mono e910) fun t2 H11 ht0 htm e11 hR11 => ?_
          obtain ⟨tn, rfl⟩ : ∃ j : Nat, t2 = (j : Int) := ⟨t2.toNat, by omega⟩
          refine ⟨_, _, rfl, rfl, ?_⟩
          exact fin low' (top + tn) H11 ((x8.trans (Ex.exE e910)).trans e11) hR11 (LA.keep (hR8.mono e910) (hL8.mono e910) hla himm e11) (C.snoc hl1 hl2 (by omega) (by omega) hz)
        · have hmin := d_min (K := K) (d_evI (ev_var (σ := [some (.ref a), some (.int 4), some (.int 4), some (.ref l), some (.int ((low' : Nat) : Int)), some (.int ((top : Nat) : Int)), some (.int kd), some (.int (i : Int))]) (H := H9) (v := .int 4) (i := 2) rfl)) (d_evI (e_add (i := (top : Int)) (m := 1) (ev_var (i := 5) rfl) ev_c))
          obtain ⟨top', ht', hv⟩ : ∃ top' : Nat, (top ≤ top' ∧ top' ≤ 4) ∧ (if (top : Int) + 1 < 4 then (top : Int) + 1 else 4) = ((top' : Nat) : Int) := by
            by_cases h : (top : Int) + 1 < 4
            · exact ⟨top + 1, by omega, by rw [if_pos h]; omega⟩
            · exact ⟨4, by omega, by rw [if_neg h]; omega⟩
          rw [hv] at hmin
          refine hmin.i H9 (Ex.refl _) _ fun H10 e10 => ?_
          have e910 := e9.trans e10
          exact fin low' top' H10 (x8.trans (Ex.exE e910)) (hR8.mono e910) (hL8.mono e910) (C.snoc hl1 hl2 ht'.1 ht'.2 hz)
      have hi0 : 0 < (i : Int) := of_decide_eq_true hb
      refine c_if (et_test (e_gt (ev_var (i := 6) rfl) ev_c)) (fun hb8 H8 e8 => ?_) fun hb8 H8 e8 => ?_
      · refine c_addc (ev_var (i := 4) rfl) fun H9 e9 => ?_
        have e89 := e8.trans e9
        refine c_taken (a := a) (m := (top : Int) - (low : Int) + 1) (ev_var (i := 0) rfl) (e_add (e_sub (ev_var (i := 5) rfl) (ev_var (i := 4) rfl)) ev_c) (by omega) (hR7.mono e89) fun t2 H10 ht0 htm e10 hR10 => ?_
        obtain ⟨tn, rfl⟩ : ∃ j : Nat, t2 = (j : Int) := ⟨t2.toNat, by omega⟩
        refine ⟨_, _, rfl, rfl, ?_⟩
        exact second (low + tn) H10 (by omega) (by omega) (by omega) ((x7.trans (Ex.exE e89)).trans e10) hR10 (LA.keep (hR7.mono e89) (hL7.mono e89) hla himm e10)
      · refine ⟨.int (low : Int), rfl, ?_⟩
        exact second low H8 (Nat.le_refl _) hle.1 (fun _ => rfl) (x7.trans (Ex.exE e8)) (hR7.mono e8) (hL7.mono e8)
    · exact fin low top H7 (x6.trans (Ex.exE e7)) (hR6.mono e7) (hL6.mono e7) (C.snoc (Nat.le_refl _) hle.1 (Nat.le_refl _) hle.2 (fun _ => rfl))
  · rintro σ' H' ⟨⟨low, top, cs, a7, rfl, C, hL⟩, xH, hRH⟩
    rw [List.length_map, List.length_range] at C
    refine ⟨.ref l, rfl, ?_⟩
    obtain ⟨ys, hy, hyd⟩ := hL
    refine ⟨l, ys, rfl, .inl ⟨sq_of hy, fun p hp => ?_⟩⟩
    refine q cs (.ref p) _ (C.reg (by omega) (by omega)) (xH.trans (Ex.exE (Ex.new hp))) (hRH.mono (Ex.new hp)) (.tup (st_of upd_same) (hyd.mono (Ex.new hp)))
end
end KL
set_option maxHeartbeats 4000000
namespace KL
open PySem L2 Evl KM
/-! ### two sorted lists of the same texts are one -/
theorem rising_pw : ∀ (ss : List Str) (p : Str), PyProof.Rows.risingS p ss = true → (p :: ss).Pairwise fun a b => a.cps.toList ≤ b.cps.toList
  | [], p, _ => by simp
  | x :: r, p, h => by
    have h' : (!PySem.Spec.ltCps x.cps.toList p.cps.toList && PyProof.Rows.risingS x r) = true := h
    rw [Bool.and_eq_true, PyProof.Rows.ltCps_eq, Bool.not_eq_true', decide_eq_false_iff_not] at h'
    have ih := rising_pw r x h'.2
    have hle : p.cps.toList ≤ x.cps.toList := List.not_lt.mp h'.1
    rw [List.pairwise_cons]
    refine ⟨fun y hy => ?_, ih⟩
    rcases List.mem_cons.mp hy with e | hy
    · rw [e]; exact hle
    · rw [List.pairwise_cons] at ih
      exact List.le_trans hle (ih.1 y hy)
theorem sorted_pw {ss : List Str} (h : PyProof.Rows.sortedS ss = true) : ss.Pairwise fun a b => a.cps.toList ≤ b.cps.toList := by
  cases ss with
  | nil => exact .nil
  | cons p r => exact rising_pw r p h
theorem sorted_one {ys zs : List Str} (h : ys.Perm zs) (h1 : PyProof.Rows.sortedS ys = true) (h2 : PyProof.Rows.sortedS zs = true) : ys = zs :=
  List.Perm.eq_of_pairwise (fun a b _ _ h3 h4 => Str.ext' (Array.toList_inj.mp (List.le_antisymm h3 h4))) (sorted_pw h1) (sorted_pw h2) h
section
variable {K : PySem.W.Frag} {σ : L2.St} {H H' : Hp} {ta tb tc te tl tv : TE} {D : Ends} {tz tu : TS} {t : TT}
theorem shp_int (s : Int) : SeqAt.shaped (.int s) = true := by
  simp [SeqAt.shaped, PyData.canLay0, PyData.depth]
def R_alike (ds : List PyData) (d : PyData) : Prop := ((∃ i, ds = [.int i, .int i]) ∧ d = .bool true) ∨ R_alike1 ds d
theorem rd_alike : KL.Rd K (Pr K R_alike) (t_law_alike K (Pr K R_alike0)) N_law_alike := by
  rintro vs H Q E ⟨ds, d, hD, h | h, q⟩
  · obtain ⟨⟨i, rfl⟩, rfl⟩ := h
    obtain ⟨x, y, rfl, hx, hy⟩ := hD.two
    refine qfl (t_B (d_isi2 (b := false) (c := false) (d_var rfl hy) kIT kIL)) fun H1 e1 => ?_
    have v0 : EvD K (tVar 0) (start N_law_alike [x, y]) H1 (.int i) := d_var rfl (hx.mono e1)
    have v1 : EvD K (tVar 1) (start N_law_alike [x, y]) H1 (.int i) := d_var rfl (hy.mono e1)
    refine qfl (et_is (et_or (a := false) (b := false) (t_test (d_op v1 d_non (r_isN (fun q => by cases q)))) fun _ => t_B (d_isi v1 kIS)) rfl) fun H2 e2 => ?_
    refine sr (d := .bool true) ((d_andV (d_isi (v0.mono e2) kII) fun _ => d_andV (d_op (d_isi (v0.mono e2) kIB) (d_isi (v1.mono e2) kIB) r_eqB) fun _ => d_op (v0.mono e2) (v1.mono e2) (r_eqD (shp_int i) (shp_int i))).to ?_) fun v H3 e3 hv => q v H3 ((e1.trans e2).trans e3) hv
    rw [SeqAt.eqv_refl _ (SeqAt.canLay_of_shaped (shp_int i))]; rfl
  · exact rd_alike1 vs H Q E ⟨ds, d, hD, h, q⟩
/-! ### few -/
def spFew (K : PySem.W.Frag) : Sp := fun vs H Q _ => ∃ (a s : Addr) (ns : List Int), vs = [.ref a, .int 120] ∧ Row K H a s ns ∧ ∀ R v H', Reg R → ExE a H H' → Row K H' a s ns → Dp K H' v (rgD R) → Q v H'
theorem rd_law_few : KL.Rd K (spFew K) (t_law_few K (spRegion K) (PrN K Q_law_count)) N_law_few := by
  rintro vs H Q E ⟨a, s, ns, rfl, hR, q⟩
  refine s_while (fun m σ' H' => m = 0 ∧ σ' = start N_law_few [.ref a, .int 120] ∧ H' = H) 0 ⟨rfl, rfl, rfl⟩ ?_
  rintro m σ' H' ⟨rfl, rfl, rfl⟩
  refine ⟨true, et_B ev_c, fun _ H1 e1 => ⟨fun _ _ => False, fun _ _ h => h.elim, ?_⟩, fun h => (by cases h)⟩
  refine qasgc ?_
  refine ⟨.ref a, rfl, a, s, ns, rfl, hR.mono e1, fun R v H2 hReg x2 hR2 hv => ?_⟩
  have hcnt : EvS K (tCall (PrN K Q_law_count) [] E0 (tCons (tVar 2) tNil)) [some (.ref a), some (.int 120), some v] H2 SCnt := e_call (da_1 (d_var rfl hv)) ⟨R, hReg, rfl, rfl⟩
  have hc : EvT (tTest (tOp (rI0 fun i j => .bl (decide (i ≤ j))) (tCall (PrN K Q_law_count) [] E0 (tCons (tVar 2) tNil)) (tVar 1))) [some (.ref a), some (.int 120), some v] H2 true := fun H3 e3 Q2 q2 =>
    hcnt H3 e3 _ fun d w H4 hd e4 hw => by
      obtain ⟨n, hn, rfl⟩ := hd
      obtain rfl := hw.intI
      exact ⟨.int 120, rfl, (n : Int), 120, rfl, rfl, true, congrArg V.bl (decide_eq_true (by omega)), q2 H4 e4⟩
  refine qtr hc fun H3 e3 => ?_
  exact ⟨v, rfl, q R v H3 hReg (((Ex.exE e1).trans x2).trans (Ex.exE e3)) (hR2.mono e3) (hv.mono e3)⟩
end
end KL
set_option maxHeartbeats 4000000
namespace KL
open PySem L2 Evl KM
abbrev S17 (a0 a1 a2 a3 a4 a5 a6 a7 a8 a9 a10 a11 a12 a13 a14 : Option V) : L2.St := [a0, a1, a2, a3, a4, a5, a6, a7, a8, a9, a10, a11, a12, a13, a14, none, none]
def wV (w : Wd) : V := .str (SW w)
def wdK (w : Wd) : Key := .inr (SW w)
theorem wdK_inj {u w : Wd} (h : wdK u = wdK w) : u = w := SW_inj (Sum.inr.inj h)
theorem wds_str (l : List Wd) : l.map wdD = (l.map SW).map PyData.str := by rw [List.map_map]; rfl
theorem wds_vs (l : List Wd) : l.map wV = (l.map SW).map V.str := by rw [List.map_map]; rfl
theorem mem_SW {w : Wd} {l : List Wd} : SW w ∈ l.map SW ↔ w ∈ l := by
  rw [List.mem_map]
  exact ⟨fun ⟨u, hu, e⟩ => by rw [← SW_inj e]; exact hu, fun h => ⟨w, h, rfl⟩⟩
theorem wds_ne (l : List Wd) (s : Addr) (p q r : Int) : l.map wV ≠ rowV s p q r := by
  intro e
  cases l with
  | nil => cases e
  | cons n ns => injection e with h _; cases h
section
variable {K : PySem.W.Frag} {σ : L2.St} {H H' : Hp} {ta tb tc te tl tv ty : TE} {D : Ends} {tz tu : TS} {t : TT}
theorem wds_dp (l : List Wd) : DpAll K H (l.map wV) (l.map wdD) := by
  rw [wds_str, wds_vs]; exact dpAll_strs _
theorem ev_dget {i : Nat} {d : Addr} {kvs : List (Key × V)} {k : Key} {v : V} (hd : H d = some (.dK kvs)) (hi : σ[i]? = some (some (.ref d))) (hj : Ev ty σ H (kV k)) (hv : valV kvs k = some v) : Ev (tDGet (tVar i) ty) σ H v := fun H1 e Q q =>
  ⟨.ref d, hi, hj H1 e _ fun H2 e2 => ⟨d, v, rfl, by
    have := DGet.k (k := k) (e2 d _ (e d _ hd))
    rw [hv] at this
    exact this, q H2 e2⟩⟩
theorem ev_dnot {i : Nat} {d : Addr} {kvs : List (Key × V)} {k : Key} (hd : H d = some (.dK kvs)) (hi : σ[i]? = some (some (.ref d))) (hj : Ev ty σ H (kV k)) : Ev (tDNotIn ty (tVar i)) σ H (.bl (!(valV kvs k).isSome)) := fun H1 e Q q =>
  hj H1 e _ fun H2 e2 => ⟨.ref d, hi, d, _, rfl, DGet.k (k := k) (e2 d _ (e d _ hd)), q H2 e2⟩
theorem ev_lenDk {i : Nat} {d : Addr} {kvs : List (Key × V)} (hd : H d = some (.dK kvs)) (hi : σ[i]? = some (some (.ref d))) : Ev (tCB rLenDk (tCons (tVar i) tNil)) σ H (.int (kvs.length : Int)) := fun H1 e Q q =>
  ⟨.ref d, hi, d, kvs, rfl, e d _ hd, q H1 (Ex.refl H1)⟩
theorem q_dputL {i j : Nat} {d : Addr} {kvs : List (Key × V)} {k : Key} (hd : H d = some (.dK kvs)) (hi : σ[i]? = some (some (.ref d))) (hj : σ[j]? = some (some (kV k))) (hz : kvs.length < 100000) (q : ∀ c H2, H c = none → Ex H H2 → H2 c = some (.lst []) → tz D σ (upd H2 d (.dK (putK kvs k (.ref c))))) : tSeq (sDPut (tVar i) (tVar j) (tLst tNil)) tz D σ H := by
  unfold tSeq sDPut
  exact (el_lst (σ := σ) ea_nil (by show 0 ≤ 100000; decide)) H (Ex.refl _) _ fun c H2 hc e2 h2 => ⟨.ref d, hi, kV k, hj, d, _, rfl, DPut.k (e2 d _ hd) (sz_lt hz), q c H2 hc e2 h2⟩
/-! ### what the law holds: the region, every word, the dict of neighbours -/
structure LB (K : PySem.W.Frag) (R : Rg) (v : V) (ea d : Addr) (kvs : List (Key × V)) (H : Hp) : Prop where
  reg : Dp K H v (rgD R)
  ev : SqL K H ea ((every R).map wV)
  dict : H d = some (.dK kvs)
  near : ∀ w, isPlay R w = true → ∃ c, valV kvs (wdK w) = some (.ref c) ∧ H c = some (.lst ((near R w).map wV))
theorem LB.mono {R : Rg} {v : V} {ea d : Addr} {kvs : List (Key × V)} (B : LB K R v ea d kvs H) (e : Ex H H') : LB K R v ea d kvs H' :=
  ⟨B.reg.mono e, ex_l e B.ev, e d _ B.dict, fun w hw => by
    obtain ⟨c, h1, h2⟩ := B.near w hw
    exact ⟨c, h1, e c _ h2⟩⟩
theorem LB.keep {R : Rg} {v : V} {ea d r s : Addr} {ns : List Int} {kvs : List (Key × V)} (B : LB K R v ea d kvs H) (hR : Row K H r s ns) (e : ExE r H H') : LB K R v ea d kvs H' := by
  have hsq := hR.sq B.ev (wds_ne _) e
  obtain ⟨p, q, r1, h1, _⟩ := hR
  refine ⟨B.reg.ti (fun b ys hr => ?_) (immA_map (fun _ => rfl) _), hsq, e d _ (fun z => ?_) B.dict, fun w hw => ?_⟩
  · rcases hr with hr | ⟨o, hr⟩
    · exact .inl (e b _ (fun z => by subst z; rw [hr] at h1; cases h1) hr)
    · exact .inr ⟨o, e b _ (fun z => by subst z; rw [hr] at h1; cases h1) hr⟩
  · have := B.dict
    rw [z, h1] at this; cases this
  · obtain ⟨c, h2, h3⟩ := B.near w hw
    refine ⟨c, h2, e c _ (fun z => ?_) h3⟩
    rw [z, h1] at h3
    injection h3 with h3
    injection h3 with h3
    exact wds_ne _ s p q r1 h3.symm
/-! ### the neighbours of every word -/
def nearTo (R : Rg) (w : Wd) (n : Nat) : List Wd := ((List.range n).filter fun i => decide (swp w i ≠ w) && isPlay R (swp w i)).map (swp w)
theorem nearTo_succ (R : Rg) (w : Wd) (n : Nat) : nearTo R w (n + 1) = if (decide (swp w n ≠ w) && isPlay R (swp w n)) = true then nearTo R w n ++ [swp w n] else nearTo R w n := by
  unfold nearTo
  rw [List.range_succ, List.filter_append]
  cases q : (decide (swp w n ≠ w) && isPlay R (swp w n)) with
  | true => rw [List.filter_cons, if_pos q, if_pos rfl, List.map_append]; rfl
  | false => rw [List.filter_cons, if_neg (by rw [q]; exact Bool.false_ne_true), if_neg Bool.false_ne_true]; simp
theorem nearTo_len (R : Rg) (w : Wd) (n : Nat) : (nearTo R w n).length ≤ n := by
  unfold nearTo
  rw [List.length_map]
  exact Nat.le_trans (List.length_filter_le _ _) (by rw [List.length_range]; exact Nat.le_refl _)
theorem atW (w : Wd) (i : Nat) (h : i < w.length) : atI (SW w).cps.toList (i : Int) = some (cd (gb w i)) := by
  refine atI_nat ?_
  rw [SW_list, List.getElem?_map, List.getElem?_eq_getElem h]
  show some (cd w[i]) = some (cd (gb w i))
  unfold gb
  rw [List.getD_eq_getElem?_getD, List.getElem?_eq_getElem h]; rfl
/-- the word with two letters swapped, as the law reads it -/
theorem d_swp {w : Wd} {j : Nat} {i5 i6 : Nat} (hw : w.length ≤ 8) (hj : j + 1 < w.length) (u5 : EvD K (tVar i5) σ H (wdD w)) (u6 : EvD K (tVar i6) σ H (inD j)) :
    EvD K (tOp rAddT (tOp rAddT (tOp rAddT (tSl rSlS (tVar i5) tNoPart (tPart (tVar i6))) (tOp rIxS (tVar i5) (tOp (rI0 fun i j => .int (i + j)) (tVar i6) (tC (.int 1))))) (tOp rIxS (tVar i5) (tVar i6))) (tSl rSlS (tVar i5) (tPart (tOp (rI0 fun i j => .int (i + j)) (tVar i6) (tC (.int 2)))) tNoPart)) σ H (wdD (swp w j)) := by
  have hz : (SW w).length ≤ 100000 := sz_SW (by omega)
  have p1 := d_cutS hz u5 eo_none (d_part u6)
  rw [cutW0] at p1
  have p2 : EvD K _ σ H (.str (SW [gb w (j + 1)])) := d_op u5 ((d_add u6 (d_int (i := 1))).to (da := .int ((j + 1 : Nat) : Int)) rfl) (r_ixS hz (atW w (j + 1) hj))
  have p3 : EvD K _ σ H (.str (SW [gb w j])) := d_op u5 u6 (r_ixS hz (atW w j (by omega)))
  have p4 := d_cutS hz u5 (d_part ((d_add u6 (d_int (i := 2))).to (da := .int ((j + 2 : Nat) : Int)) rfl)) eo_none
  rw [cutW1] at p4
  have q1 := d_op p1 p2 (r_addT (by rw [SW_len, SW_len, List.length_take]; show min j w.length + 1 ≤ _; omega))
  rw [SW_append] at q1
  have q2 := d_op q1 p3 (r_addT (by rw [SW_len, SW_len, List.length_append, List.length_take]; show min j w.length + 1 + 1 ≤ _; omega))
  rw [SW_append] at q2
  have q3 := d_op q2 p4 (r_addT (by rw [SW_len, SW_len, List.length_append, List.length_append, List.length_take, List.length_drop]; show min j w.length + 1 + 1 + (w.length - (j + 2)) ≤ _; omega))
  rw [SW_append] at q3
  refine q3.to ?_
  unfold wdD swp
  rw [List.append_assoc, List.append_assoc]; rfl
theorem law_near {R : Rg} (hR : Reg R) {s r : Addr} {v : V} {ea d : Addr} (hv : Dp K H v (rgD R)) (hev : SqL K H ea ((every R).map wV)) (hd : H d = none)
    (k : ∀ kvs H' a5 a6 a7, Ex H H' → LB K R v ea d kvs H' → tz D (S17 (some (.ref s)) (some (.ref r)) (some v) (some (.ref ea)) (some (.ref d)) a5 a6 a7 none none none none none none none) H') :
    tSeq (tFor (iList K (tVar 3)) (gName 5)
    (tSeq (sDPut (tVar 4) (tVar 5) (tLst tNil))
  (tFor (iRng1 (tCons (tOp (rI0 fun i j => .int (i - j)) (tCB rLenT (tCons (tVar 5) tNil)) (tC (.int 1))) tNil)) (gName 6)
    (tSeq (tAsg (tOp rAddT (tOp rAddT (tOp rAddT (tSl rSlS (tVar 5) tNoPart (tPart (tVar 6))) (tOp rIxS (tVar 5) (tOp (rI0 fun i j => .int (i + j)) (tVar 6) (tC (.int 1))))) (tOp rIxS (tVar 5) (tVar 6))) (tSl rSlS (tVar 5) (tPart (tOp (rI0 fun i j => .int (i + j)) (tVar 6) (tC (.int 2)))) tNoPart)) (gName 7))
  (tIfS (tAnd (tTest (tOp rNe (tVar 7) (tVar 5))) (tTest (tOp (rIn K false) (tVar 7) (tVar 3)))) (tDrop (tBM K "list" rAppend (tDGet (tVar 4) (tVar 5)) (tCons (tVar 7) tNil))) tNext))))) tz D
      (S17 (some (.ref s)) (some (.ref r)) (some v) (some (.ref ea)) (some (.ref d)) none none none none none none none none none none) (upd H d (.dK [])) := by
  have e0 : Ex H (upd H d (.dK [])) := Ex.new hd
  refine q_forLn (K := K) (xs := (every R).map wV) (ev_var rfl) (ex_l e0 hev) (fun i σ' H' => (∃ a5 a6 a7, σ' = S17 (some (.ref s)) (some (.ref r)) (some v) (some (.ref ea)) (some (.ref d)) a5 a6 a7 none none none none none none none) ∧ Ex H H' ∧ ∃ kvs, H' d = some (.dK kvs) ∧ kvs.length ≤ i ∧ ∀ j w, j < i → (every R)[j]? = some w → ∃ c, valV kvs (wdK w) = some (.ref c) ∧ H' c = some (.lst ((near R w).map wV)))
    (fun H1 e1 => ⟨⟨none, none, none, rfl⟩, e0.trans e1, [], e1 d _ upd_same, Nat.le_refl _, fun j w h => absurd h (Nat.not_lt_zero _)⟩) (fun i σ' H' _ p => ex_l p.2.1 hev) ?_ ?_
  · rintro i x σ' H1 hx ⟨⟨a5, a6, a7, rfl⟩, eH, kvs, hkv, hlen, hall⟩
    obtain ⟨w, hwi, rfl⟩ := map_get hx
    have hilt : i < (every R).length := (List.getElem?_eq_some_iff.mp hwi).1
    have hle := every_le hR
    have hwp : isPlay R w = true := (mem_every hR w).mp (List.mem_of_getElem? hwi)
    have hw8 := wlen hR hwp
    refine q_dputL (k := wdK w) hkv rfl rfl (by omega) fun c H2 hc e2 h2 => ?_
    have hd2 := e2 d _ hkv
    have hcd : c ≠ d := fun z => by rw [z, hkv] at hc; cases hc
    have hB1 : (upd H2 d (.dK (putK kvs (wdK w) (.ref c)))) c = some (.lst ((nearTo R w 0).map wV)) := by rw [upd_ne hcd]; exact h2
    have hB2 : (upd H2 d (.dK (putK kvs (wdK w) (.ref c)))) d = some (.dK (putK kvs (wdK w) (.ref c))) := upd_same
    have eB : Ex H (upd H2 d (.dK (putK kvs (wdK w) (.ref c)))) := Ex.mut (eH.trans e2) hd
    have hold : ∀ j u, j < i → (every R)[j]? = some u → ∃ c', valV kvs (wdK u) = some (.ref c') ∧ c' ≠ c ∧ (upd H2 d (.dK (putK kvs (wdK w) (.ref c)))) c' = some (.lst ((near R u).map wV)) := fun j u hj hu => by
      obtain ⟨c', h3, h4⟩ := hall j u hj hu
      refine ⟨c', h3, fun z => (by rw [z, hc] at h4; cases h4), ?_⟩
      rw [upd_ne (fun z => by rw [z, hkv] at h4; cases h4)]
      exact e2 c' _ h4
    have hcH : H c = none := fresh_back eH hc
    show tFor _ _ _ _ _ (upd H2 d (.dK (putK kvs (wdK w) (.ref c))))
    generalize upd H2 d (.dK (putK kvs (wdK w) (.ref c))) = B at hB1 hB2 eB hold
    refine i_rng1 (K := K) (n := (w.length : Int) - 1) (da_1 ((d_sub (d_lenS (sz_SW (by omega)) (d_var (d := wdD w) rfl (.str _))) d_int).to (by rw [SW_len]))) (by omega) fun H6 e6 => ?_
    have hn : ((w.length : Int) - 1).toNat = w.length - 1 := by omega
    rw [hn]
    refine for_it (wk_rng (K := K) (n := w.length - 1) fun _ => True) (fun j σ' H' => (∃ a6 a7, σ' = S17 (some (.ref s)) (some (.ref r)) (some v) (some (.ref ea)) (some (.ref d)) (some (wV w)) a6 a7 none none none none none none none) ∧ ExE c H6 H' ∧ H' c = some (.lst ((nearTo R w j).map wV))) ⟨⟨a6, a7, rfl⟩, fun _ _ _ h => h, e6 c _ hB1⟩ (fun _ _ _ _ _ => trivial) ?_ ?_
    · rintro j x1 σ' H7 H8 hlt ⟨⟨b6, b7, rfl⟩, e7, h7⟩ ⟨e8, dd, hdd, hdp⟩
      obtain ⟨j', hj', rfl⟩ := map_get hdd
      rw [List.length_map, List.length_range] at hlt
      rw [List.getElem?_range hlt] at hj'
      cases hj'
      have eX : Ex H H8 := (ExE.ex (eB.trans e6) hcH e7).trans e8
      have hd8 : H8 d = some (.dK (putK kvs (wdK w) (.ref c))) := e8 d _ (e7 d _ (Ne.symm hcd) (e6 d _ hB2))
      refine qa (K := K) (d := wdD (swp w j)) (d_swp hw8 (by omega) (d_var (d := wdD w) rfl (.str _)) (d_var rfl hdp)) fun v7 H9 e9 hv7 => ?_
      obtain rfl := hv7.strI
      let σ9 : L2.St := S17 (some (.ref s)) (some (.ref r)) (some v) (some (.ref ea)) (some (.ref d)) (some (wV w)) (some x1) (some (wV (swp w j))) none none none none none none none
      have u3 : EvD K (tVar 3) σ9 H9 (.list (((every R).map SW).map .str)) := d_var rfl (.lst (ex_l (eX.trans e9) hev) (by rw [wds_vs]; exact dpAll_strs _))
      have u5 : EvD K (tVar 5) σ9 H9 (.str (SW w)) := d_var rfl (.str _)
      have u7 : EvD K (tVar 7) σ9 H9 (.str (SW (swp w j))) := d_var rfl (.str _)
      have hc9 := et_and (t_test (d_op u7 u5 r_neS)) fun _ => t_test (d_op u7 u3 r_inL)
      have hb : (!decide (SW (swp w j) = SW w) && decide (SW (swp w j) ∈ (every R).map SW)) = (decide (swp w j ≠ w) && isPlay R (swp w j)) := by
        rw [SW_dec, decide_not]
        congr 1
        rw [Bool.eq_iff_iff, decide_eq_true_eq, mem_SW, mem_every hR]
      rw [hb] at hc9
      have h9 : H9 c = some (.lst ((nearTo R w j).map wV)) := e9 c _ (e8 c _ h7)
      refine s_when hc9 (fun hb1 H10 e10 => ?_) fun hb1 H10 e10 => ?_
      · refine s_app (e10 c _ h9) (ev_dget (k := wdK w) (v := .ref c) (e10 d _ (e9 d _ hd8)) rfl (ev_var rfl) (by rw [valV_put, if_pos rfl])) (ev_var (v := wV (swp w j)) rfl) (by rw [List.length_map]; have := nearTo_len R w j; omega) fun H11 e11 => ?_
        refine ⟨⟨_, _, rfl⟩, fun b o hb h => ?_, ?_⟩
        · rw [upd_ne hb]
          exact e11 b o (e10 b o (e9 b o (e8 b o (e7 b o hb h))))
        · rw [upd_same, nearTo_succ, if_pos hb1, List.map_append]; rfl
      · refine ⟨⟨_, _, rfl⟩, fun b o hb h => e10 b o (e9 b o (e8 b o (e7 b o hb h))), ?_⟩
        rw [nearTo_succ, if_neg (by rw [hb1]; exact Bool.false_ne_true)]
        exact e10 c _ h9
    · rintro σ' H7 ⟨⟨b6, b7, rfl⟩, e7, h7⟩
      rw [List.length_map, List.length_range] at h7
      refine ⟨⟨_, _, _, rfl⟩, ExE.ex (eB.trans e6) hcH e7, _, e7 d _ (Ne.symm hcd) (e6 d _ hB2), Nat.le_trans (length_putK _ _ _) (Nat.succ_le_succ hlen), fun j u hj hu => ?_⟩
      rw [valV_put]
      by_cases hk : wdK u = wdK w
      · obtain rfl := wdK_inj hk
        exact ⟨c, by rw [if_pos rfl], h7⟩
      · rw [if_neg hk]
        have hji : j < i := by
          by_cases h : j = i
          · subst h
            rw [hwi] at hu; cases hu
            exact absurd rfl hk
          · omega
        obtain ⟨c', h3, h4, h5⟩ := hold j u hji hu
        exact ⟨c', h3, e7 c' _ h4 (e6 c' _ h5)⟩
  · rintro σ' H1 ⟨⟨a5, a6, a7, rfl⟩, eH, kvs, hkv, hlen, hall⟩
    refine k kvs H1 a5 a6 a7 eH ⟨hv.mono eH, ex_l eH hev, hkv, fun w hw => ?_⟩
    have hm := (mem_every hR w).mpr hw
    obtain ⟨j, hj, hjw⟩ := List.getElem_of_mem hm
    exact hall j w (by rw [List.length_map]; exact hj) (by rw [List.getElem?_eq_getElem hj, hjw])
end
end KL
set_option maxHeartbeats 4000000
namespace KL
open PySem L2 Evl KM
theorem strOk_SW (w : Wd) : PyData.strOk (SW w) = true := by
  unfold PyData.strOk
  rw [← Array.all_toList, SW_list, List.all_map, List.all_eq_true]
  intro b _
  cases b <;> decide
theorem wds_lay : ∀ l : List Wd, PyData.canLayAll0 (l.map wdD) = true
  | [] => by simp [PyData.canLayAll0]
  | w :: l => by
    have h : PyData.canLay0 (wdD w) = true := by
      show PyData.canLay0 (.str (SW w)) = true
      simp only [PyData.canLay0]; exact strOk_SW w
    simp [PyData.canLayAll0, h, wds_lay l]
theorem wd_depth (w : Wd) : (wdD w).depth ≤ 1 := by
  show PyData.depth (.str (SW w)) ≤ 1
  simp [PyData.depth]
theorem wds_depth : ∀ l : List Wd, PyData.depthAll (l.map wdD) ≤ 3
  | [] => by simp [PyData.depthAll]
  | w :: l => by
    have h1 := wds_depth l
    have h2 := wd_depth w
    simp only [List.map_cons, PyData.depthAll]
    omega
theorem wds_shaped (l : List Wd) : SeqAt.shaped (.list (l.map wdD)) = true := by
  have h1 := wds_depth l
  have h2 : PyData.depth (.list (l.map wdD)) ≤ 64 := by
    simp only [PyData.depth]
    omega
  show (PyData.canLay0 (.list (l.map wdD)) && decide (PyData.depth (.list (l.map wdD)) ≤ 64)) = true
  rw [Bool.and_eq_true]
  exact ⟨by simp only [PyData.canLay0]; exact wds_lay l, decide_eq_true h2⟩
theorem eqv_wnil (l : List Wd) : PyData.eqv (.list (l.map wdD)) (.list []) = decide (l = []) := by
  cases l with
  | nil =>
    rw [decide_eq_true rfl]
    exact SeqAt.eqv_refl _ (SeqAt.canLay_of_shaped shp_nil)
  | cons w l => simp [PyData.eqv, PyData.eqvAll]
/-! ### the dict of distances -/
def farV (f : Far) : List (Key × V) := f.map fun p => (wdK p.1, .int (p.2 : Int))
theorem farV_look : ∀ (f : Far) (w : Wd), valV (farV f) (wdK w) = (look f w).map fun (n : Nat) => V.int (n : Int)
  | [], _ => rfl
  | p :: f, w => by
    have ih := farV_look f w
    unfold look at ih ⊢
    show valV ((wdK p.1, V.int (p.2 : Int)) :: farV f) (wdK w) = _
    by_cases e : p.1 = w
    · rw [valV_pos (p := (wdK p.1, V.int (p.2 : Int))) (by rw [e]), List.find?_cons_of_pos (by simpa using e)]; rfl
    · rw [valV_neg (p := (wdK p.1, V.int (p.2 : Int))) (fun h => e (wdK_inj h)), ih, List.find?_cons_of_neg (by simpa using e)]
theorem farV_put (f : Far) (w : Wd) (n : Nat) (h : look f w = none) : putK (farV f) (wdK w) (.int (n : Int)) = farV (f ++ [(w, n)]) := by
  rw [putK_new _ (by rw [farV_look, h]; rfl)]
  unfold farV
  rw [List.map_append]; rfl
theorem Lev.weak {R : Rg} {one : Wd} {k : Nat} {rim l : List Wd} {f : Far} {P P' : Wd → Wd → Prop} (V : Lev R one k rim f l P) (h : ∀ x y, P' x y → P x y) : Lev R one k rim f l P' :=
  ⟨V.nd, V.all, V.val, V.lev, V.rim1, V.rim2, fun x y q => V.done x y (h x y q)⟩
theorem Lev.small {R : Rg} (hR : Reg R) {one : Wd} {k : Nat} {rim l : List Wd} {f : Far} {P : Wd → Wd → Prop} (V : Lev R one k rim f l P) : f.length ≤ 256 := by
  refine Nat.le_trans ?_ (every_le hR)
  rw [← List.length_map (f := Prod.fst)]
  refine len_sub _ _ V.nd fun w hw => ?_
  obtain ⟨p, hp, rfl⟩ := List.mem_map.mp hw
  exact (mem_every hR _).mpr (V.val p.1 p.2 hp).1
section
variable {K : PySem.W.Frag} {σ : L2.St} {H H' : Hp} {ta tb tc te tl tv ty : TE} {D : Ends} {tz tu : TS} {t : TT}
theorem q_dputI {i j : Nat} {d : Addr} {kvs : List (Key × V)} {k : Key} {v : V} (hd : H d = some (.dK kvs)) (hi : σ[i]? = some (some (.ref d))) (hj : σ[j]? = some (some (kV k))) (hz : kvs.length < 100000) (hv : Ev tv σ H v) (q : ∀ H2, Ex H H2 → tz D σ (upd H2 d (.dK (putK kvs k v)))) : tSeq (sDPut (tVar i) (tVar j) tv) tz D σ H := by
  unfold tSeq sDPut
  exact hv H (Ex.refl _) _ fun H2 e2 => ⟨.ref d, hi, kV k, hj, d, _, rfl, DPut.k (e2 d _ hd) (sz_lt hz), q H2 e2⟩
theorem law_far {R : Rg} (hR : Reg R) {s r : Addr} {v : V} {ea d : Addr} {kvs : List (Key × V)} {one : Wd} {a9 : Option V} {fd l : Addr} {HB : Hp} {a5 a6 a7 : Option V} (h1 : isPlay R one = true) (B : LB K R v ea d kvs HB) (hfd : HB fd = none) (e0 : Ex HB H) (hf0 : H fd = some (.dK (farV [(one, 0)]))) (hl0 : H l = some (.lst ([one].map wV)))
    (k : ∀ f H' a5 l12 l11 a13, Ex HB H' → H' fd = some (.dK (farV f)) → (∀ w, isPlay R w = true → look f w = some (dw w one)) → f.length = (every R).length →
      tz D (S17 (some (.ref s)) (some (.ref r)) (some v) (some (.ref ea)) (some (.ref d)) a5 a6 a7 (some (wV one)) a9 (some (.ref fd)) l11 l12 a13 none) H') :
    tSeq (tWhile (tTest (tOp (rNeD K) (tVar 11) (tLst tNil)))
    (tSeq (tAsg (tLst tNil) (gName 12))
  (tSeq (tFor (iList K (tVar 11)) (gName 5)
    (tFor (iList K (tDGet (tVar 4) (tVar 5))) (gName 13)
    (tIfS (tB (tDNotIn (tVar 13) (tVar 10))) (tSeq (sDPut (tVar 10) (tVar 13) (tOp (rI0 fun i j => .int (i + j)) (tDGet (tVar 10) (tVar 5)) (tC (.int 1))))
  (tDrop (tBM K "list" rAppend (tVar 12) (tCons (tVar 13) tNil)))) tNext)))
  (tAsg (tVar 12) (gName 11))))) tz D
      (S17 (some (.ref s)) (some (.ref r)) (some v) (some (.ref ea)) (some (.ref d)) a5 a6 a7 (some (wV one)) a9 (some (.ref fd)) (some (.ref l)) none none none) H := by
  let S : Option V → Addr → Option V → Option V → L2.St := fun a5 l a12 a13 => S17 (some (.ref s)) (some (.ref r)) (some v) (some (.ref ea)) (some (.ref d)) a5 a6 a7 (some (wV one)) a9 (some (.ref fd)) (some (.ref l)) a12 a13 none
  refine q_while (fun m σ' H' => ∃ kk rim f l a5 a12 a13, m + kk = 17 ∧ σ' = S a5 l a12 a13 ∧ Ex HB H' ∧ H' fd = some (.dK (farV f)) ∧ H' l = some (.lst (rim.map wV)) ∧ Lev R one kk rim f [] (fun _ _ => False)) 17
    ⟨0, [one], [(one, 0)], l, a5, none, none, rfl, rfl, e0, hf0, hl0, Lev.start hR h1⟩ ?_
  rintro m σ' H0 ⟨kk, rim, f, l, a5, a12, a13, hm, rfl, eB, hf, hl, V⟩
  have hc := t_test (d_op (d_var (K := K) (σ := S a5 l a12 a13) (i := 11) rfl (Dp.lst (sq_of hl) (wds_dp rim))) (dl_lst da_nil (by show 0 ≤ 100000; decide)).l (r_neD (wds_shaped rim) shp_nil))
  rw [eqv_wnil] at hc
  refine ⟨_, hc, fun hb H1 e1 => ⟨_, fun _ _ h => h, ?_⟩, fun hb H1 e1 => ?_⟩
  · -- one level
    have hne : rim ≠ [] := fun e => by rw [e] at hb; cases hb
    have hk : kk ≤ 16 := by
      cases rim with
      | nil => exact absurd rfl hne
      | cons w rest =>
        obtain ⟨hw, hd⟩ := V.rim1 w (List.mem_cons_self ..)
        have := dw_le hR hw h1
        omega
    have eB1 := eB.trans e1
    have hf1 := e1 fd _ hf
    have hl1 := e1 l _ hl
    refine q_asgL (el_lst ea_nil (by show 0 ≤ 100000; decide)) fun lt H2 hlt e2 h2 => ?_
    have hlfd : l ≠ fd := fun e => by rw [e, hf1] at hl1; cases hl1
    have hltfd : lt ≠ fd := fun e => by rw [e, hf1] at hlt; cases hlt
    have hltl : lt ≠ l := fun e => by rw [e, hl1] at hlt; cases hlt
    have toB : ∀ {H' : Hp}, ExE fd H1 H' → Ex HB H' := fun e => ExE.ex eB1 hfd e
    refine q_forLn (K := K) (xs := rim.map wV) (ev_var (v := .ref l) rfl) (sq_of (e2 l _ hl1)) (fun i σ' H' => ∃ a5 a13 f ll, σ' = S a5 l (some (.ref lt)) a13 ∧ ExE fd H1 H' ∧ H' fd = some (.dK (farV f)) ∧ H' lt = some (.lst (ll.map wV)) ∧ ll.length ≤ f.length ∧ Lev R one kk rim f ll (fun u u' => ∃ j, j < i ∧ rim[j]? = some u ∧ u' ∈ near R u))
      (fun H3 e3 => ⟨a5, a13, f, [], rfl, Ex.exE (e2.trans e3), e3 fd _ (e2 fd _ hf1), e3 lt _ h2, Nat.zero_le _, Lev.weak V fun x y ⟨j, hj, _⟩ => absurd hj (Nat.not_lt_zero _)⟩)
      (fun i σ' H' _ ⟨_, _, _, _, _, e, _⟩ => sq_of (e l _ hlfd hl1)) ?_ ?_
    · rintro i x σ' H3 hx ⟨b5, b13, f3, ll3, rfl, e3, hf3, hl3, hll3, V3⟩
      obtain ⟨w, hwi, rfl⟩ := map_get hx
      have hwr : w ∈ rim := List.mem_of_getElem? hwi
      obtain ⟨hwp, hwd⟩ := V.rim1 w hwr
      obtain ⟨c, hc1, hc2⟩ := B.near w hwp
      have hcB : ∀ {H' : Hp}, ExE fd H1 H' → H' c = some (.lst ((near R w).map wV)) ∧ H' d = some (.dK kvs) := fun e => ⟨toB e c _ hc2, toB e d _ B.dict⟩
      refine s_forLn (K := K) (a := c) (xs := (near R w).map wV) (ev_dget (k := wdK w) (hcB e3).2 rfl (ev_var rfl) hc1) (sq_of (hcB e3).1) (fun j σ' H' => ∃ a13 f ll, σ' = S (some (wV w)) l (some (.ref lt)) a13 ∧ ExE fd H1 H' ∧ H' fd = some (.dK (farV f)) ∧ H' lt = some (.lst (ll.map wV)) ∧ ll.length ≤ f.length ∧ Lev R one kk rim f ll (fun u u' => (∃ j, j < i ∧ rim[j]? = some u ∧ u' ∈ near R u) ∨ (u = w ∧ u' ∈ (near R w).take j)))
        (fun H4 e4 => ⟨b13, f3, ll3, rfl, fun b o hb h => e4 b o (e3 b o hb h), e4 fd _ hf3, e4 lt _ hl3, hll3, Lev.weak V3 fun x y h => by
          rcases h with h | ⟨_, h⟩
          · exact h
          · rw [List.take_zero] at h; cases h⟩)
        (fun j σ' H' _ ⟨_, _, _, _, e, _⟩ => sq_of (hcB e).1) ?_ ?_
      · rintro j x σ' H4 hx ⟨c13, f4, ll4, rfl, e4, hf4, hl4, hll4, V4⟩
        obtain ⟨w', hwj, rfl⟩ := map_get hx
        have hwn : w' ∈ near R w := List.mem_of_getElem? hwj
        have hP : ∀ x y, ((∃ j, j < i ∧ rim[j]? = some x ∧ y ∈ near R x) ∨ (x = w ∧ y ∈ (near R w).take (j + 1))) → ((∃ j, j < i ∧ rim[j]? = some x ∧ y ∈ near R x) ∨ (x = w ∧ y ∈ (near R w).take j)) ∨ (x = w ∧ y = w') := fun x y h => by
          rcases h with h | ⟨h1, h2⟩
          · exact .inl (.inl h)
          · rw [take_snoc hwj] at h2
            rcases List.mem_append.mp h2 with h2 | h2
            · exact .inl (.inr ⟨h1, h2⟩)
            · exact .inr ⟨h1, List.mem_singleton.mp h2⟩
        have hcn := et_B (ev_dnot (σ := S (some (wV w)) l (some (.ref lt)) (some (wV w'))) (k := wdK w') (i := 10) hf4 rfl (ev_var (i := 13) rfl))
        rw [farV_look] at hcn
        have hsm := Lev.small hR V4
        refine s_when hcn (fun hb1 H5 e5 => ?_) fun hb1 H5 e5 => ?_
        · have hno : look f4 w' = none := by
            cases q : look f4 w' with
            | none => rfl
            | some n => rw [q] at hb1; cases hb1
          have hval := Lev.value V4 hwr
          refine q_dputI (k := wdK w') (e5 fd _ hf4) rfl rfl (by unfold farV; rw [List.length_map]; omega) (e_add (i := (kk : Int)) (m := 1) (ev_dget (k := wdK w) (e5 fd _ hf4) rfl (ev_var (i := 5) rfl) (by rw [farV_look, hval]; rfl)) ev_c) fun H6 e6 => ?_
          have hput : putK (farV f4) (wdK w') (.int ((kk : Int) + 1)) = farV (f4 ++ [(w', kk + 1)]) := farV_put f4 w' (kk + 1) hno
          rw [hput]
          refine s_app (l := lt) (xs := ll4.map wV) (by rw [upd_ne hltfd]; exact e6 lt _ (e5 lt _ hl4)) (ev_var rfl) (ev_var (v := wV w') rfl) (by rw [List.length_map]; omega) fun H7 e7 => ?_
          refine ⟨_, f4 ++ [(w', kk + 1)], ll4 ++ [w'], rfl, fun b o hb h => ?_, ?_, ?_, ?_, Lev.add V4 h1 hwr hwn hno hP⟩
          · rw [upd_ne (fun z => by rw [z, hlt] at h; cases h)]
            exact e7 b o (by rw [upd_ne hb]; exact e6 b o (e5 b o (e4 b o hb h)))
          · rw [upd_ne (Ne.symm hltfd)]
            exact e7 fd _ upd_same
          · rw [upd_same, List.map_append]; rfl
          · rw [List.length_append, List.length_append]; exact Nat.succ_le_succ hll4
        · obtain ⟨n, hn⟩ : ∃ n, look f4 w' = some n := by
            cases q : look f4 w' with
            | some n => exact ⟨n, rfl⟩
            | none => rw [q] at hb1; cases hb1
          exact ⟨_, f4, ll4, rfl, fun b o hb h => e5 b o (e4 b o hb h), e5 fd _ hf4, e5 lt _ hl4, hll4, Lev.pass V4 hn hP⟩
      · rintro σ' H4 ⟨c13, f4, ll4, rfl, e4, hf4, hl4, hll4, V4⟩
        rw [List.length_map, List.take_length] at V4
        refine ⟨_, _, f4, ll4, rfl, e4, hf4, hl4, hll4, Lev.weak V4 fun x y ⟨j, hj, h2, h3⟩ => ?_⟩
        by_cases hji : j < i
        · exact .inl ⟨j, hji, h2, h3⟩
        · have : j = i := by omega
          subst this
          rw [hwi] at h2; cases h2
          exact .inr ⟨rfl, h3⟩
    · rintro σ' H3 ⟨b5, b13, f3, ll3, rfl, e3, hf3, hl3, hll3, V3⟩
      refine s_asg (ev_var (v := .ref lt) rfl) fun H4 e4 => ?_
      refine ⟨m - 1, by omega, kk + 1, ll3, f3, lt, b5, _, b13, by omega, rfl, (toB e3).trans e4, e4 fd _ hf3, e4 lt _ hl3, Lev.next hR V3 h1 fun w hw w' hw' => ?_⟩
      obtain ⟨j, hj, hjw⟩ := List.getElem_of_mem hw
      exact ⟨j, by rw [List.length_map]; exact hj, by rw [List.getElem?_eq_getElem hj, hjw], hw'⟩
  · have hrim : rim = [] := by simpa using hb
    subst hrim
    obtain ⟨g1, g2⟩ := Lev.full hR V h1
    exact k f H1 a5 a12 (some (.ref l)) a13 (eB.trans e1) (e1 fd _ hf) g1 g2
end
end KL
set_option maxHeartbeats 4000000
namespace KL
open PySem L2 Evl KM
theorem cut1V (l : List Wd) : cutV (l.map wV) (some (1 : Int)) none = (l.drop 1).map wV := by
  unfold cutV
  rw [show (some (1 : Int)) = some ((1 : Nat) : Int) from rfl, HT.sIx_nat, HT.sIx_none, List.length_map, ← List.map_drop, ← List.map_take]
  congr 1
  cases l with
  | nil => rfl
  | cons w l =>
    rw [List.length_cons, Nat.min_eq_left (by omega), List.drop_succ_cons, List.drop_zero, List.take_of_length_le (by omega)]
theorem Fw.plays {R : Rg} {one other last : Wd} {fs : List Wd} (F : Fw R one other fs last) (h1 : isPlay R one = true) : ∀ (i : Nat) f, fs[i]? = some f → isPlay R f = true
  | 0, f, h => by
    rw [F.head] at h; cases h; exact h1
  | i + 1, f, h => by
    have hl := (List.getElem?_eq_some_iff.mp h).1
    exact near_play (F.chain i _ f (List.getElem?_eq_getElem (by omega)) h)
theorem zip_near {R : Rg} {one other last : Wd} {fs : List Wd} (F : Fw R one other fs last) (h1 : isPlay R one = true) {p : Wd × Wd} (hp : p ∈ fs.zip (fs.drop 1)) : isPlay R p.1 = true ∧ p.2 ∈ near R p.1 := by
  obtain ⟨i, hi, e⟩ := List.getElem_of_mem hp
  have e2 : (fs.zip (fs.drop 1))[i]? = some (p.1, p.2) := by rw [List.getElem?_eq_getElem hi, e]
  obtain ⟨a, b⟩ := List.getElem?_zip_eq_some.mp e2
  rw [List.getElem?_drop, Nat.add_comm] at b
  exact ⟨Fw.plays F h1 i _ a, F.chain i _ _ a b⟩
section
variable {K : PySem.W.Frag} {σ : L2.St} {H H' : Hp} {ta tb tc te tl tv ty : TE} {D : Ends} {tz tu : TS} {t : TT}
theorem qaS {i : Nat} {S : PyData → Prop} (h : EvS K te σ H S) (k : ∀ d v H1, S d → Ex H H1 → Dp K H1 v d → tz D (σ.set i (some v)) H1) : tSeq (tAsg te (gName i)) tz D σ H := h H (Ex.refl H) _ k
theorem c_pick {a b s : Addr} {ns : List Int} {R : Rg} {Q : VK} {E : XK} (hR : Reg R) (h0 : Ev ta σ H (.ref a)) (h1 : Ev tb σ H (.ref b)) (hRow : Row K H a s ns) (hb : SqL K H b ((every R).map wV)) (k : ∀ w H', isPlay R w = true → ExE a H H' → Row K H' a s ns → Q (wV w) H') : tCall (spPick K) [] E (tCons ta (tCons tb tNil)) σ H Q :=
  h0 H (Ex.refl H) _ fun H1 e1 => h1 H1 e1 _ fun H2 e2 => ⟨a, s, b, ns, (every R).map SW, rfl, hRow.mono (e1.trans e2), by rw [← wds_vs]; exact ex_l (e1.trans e2) hb, by rw [List.length_map]; exact every_some hR, by rw [List.length_map]; have := every_le hR; omega, fun z H3 hz e3 r3 => by
    obtain ⟨w, hw, rfl⟩ := List.mem_map.mp hz
    exact k w H3 ((mem_every hR w).mp hw) ((Ex.exE (e1.trans e2)).trans e3) r3⟩
theorem qdnK {i : Nat} (k : ∀ p, H p = none → tz D (σ.set i (some (.ref p))) (upd H p (.dK []))) : tSeq (tAsg tDNewK (gName i)) tz D σ H := fun p hp => k p hp
theorem qparC {i j : Nat} (h : ta σ H fun v H1 => tb σ H1 fun w H2 => ∃ v' w', [v, w] = [v', w'] ∧ tz D ((σ.set i (some v')).set j (some w')) H2) : tSeq (tPar i j (tCons ta (tCons tb tNil))) tz D σ H := h
/-- the flips that the program gives are those that the law found -/
theorem flips_alike {R : Rg} (hR : Reg R) {one : Wd} {v : V} {ea d : Addr} {kvs : List (Key × V)} (h1 : isPlay R one = true) (B : LB K R v ea d kvs H) (v2 : EvD K (tVar 2) σ H (rgD R)) (v8 : EvD K (tVar 8) σ H (wdD one)) (h4 : σ[4]? = some (some (.ref d))) :
    EvD K (tCall (Pr K R_alike) [] E0 (tCons (tCall (PrN K Q_flips) [] E0 (tCons (tVar 2) (tCons (tVar 8) tNil))) (tCons (tCB (rSortedS K) (tCons (tDGet (tVar 4) (tVar 8)) tNil)) tNil))) σ H (.bool true) := fun H1 e Q q => by
  obtain ⟨c, hc1, hc2⟩ := B.near one h1
  have hget : Ev (tDGet (tVar 4) (tVar 8)) σ H (.ref c) := ev_dget (k := wdK one) B.dict h4 v8.s hc1
  have hfl : EvS K (tCall (PrN K Q_flips) [] E0 (tCons (tVar 2) (tCons (tVar 8) tNil))) σ H (SFl R one) := e_call (da_2 v2 v8) ⟨R, one, hR, h1, rfl, rfl⟩
  refine hfl H1 e _ fun df x H2 hdf e2 hx => ?_
  obtain ⟨ys, hp1, hs1, rfl⟩ := hdf
  refine hget H2 (e.trans e2) _ fun H3 e3 => ?_
  have e03 := (e.trans e2).trans e3
  have hlen := near_len (R := R) one
  have hw8 := wlen hR h1
  refine ⟨c, (near R one).map SW, rfl, sq_of (by rw [← wds_vs]; exact e03 c _ hc2), by rw [List.length_map]; omega, fun zs p hp2 hs2 hp => ?_⟩
  have hyz : ys = zs := sorted_one (hp1.trans hp2.symm) hs1 hs2
  subst hyz
  have hyl : ys.length ≤ 1000 := by
    rw [hp1.length_eq, List.length_map]; omega
  refine ⟨[.list (ys.map .str), .list (ys.map .str)], .bool true, ?_, .inr ⟨⟨ys, hyl, rfl⟩, rfl⟩, fun v4 H4 e4 hv4 => q v4 H4 (((e2.trans e3).trans (Ex.new hp)).trans e4) hv4⟩
  exact .cons ((hx.mono e3).mono (Ex.new hp)) (.cons (.lst (sq_of upd_same) (dpAll_strs ys)) .nil)
/-! ### the law -/
def spLaw (K : PySem.W.Frag) : Sp := fun vs H Q _ => ∃ (s : Addr) (ns : List Int), vs = [.ref s] ∧ SqL K H s (ns.map V.int) ∧ ns.length ≤ 63 ∧ ∀ H', Q (.bl true) H'
theorem rd_law : KL.Rd K (spLaw K) (t_law K (spFew K) (Pr K R_law_plays) (spPick K) (Pr K R_alike) (PrN K Q_flips) (Pr K R_flip_distance) (PrN K Q_flip_way)) N_law := by
  rintro vs H Q E ⟨s, ns, rfl, hs, hlen, q⟩
  -- the row of draws
  refine q_asgL (σ := start N_law [.ref s]) (el_lst (vs := rowV s 0 4758 0) (ea_cons (ev_var rfl) (ea_cons ev_c (ea_cons ev_c (ea_cons ev_c ea_nil)))) (by show 4 ≤ 100000; decide)) fun r H1 hr e1 h1r => ?_
  have hRow1 : Row K H1 r s ns := ⟨0, 4758, 0, h1r, ex_l e1 hs, hlen, by decide, by decide⟩
  -- the region
  refine qasgc ?_
  refine ⟨.ref r, rfl, r, s, ns, rfl, hRow1, fun R v H2 hR x2 hRow2 hv => ?_⟩
  -- every play
  refine qa (K := K) (d_call (E := E0) (R := R_law_plays) (da_1 (d_var (i := 2) rfl hv)) ⟨R, hR, rfl, rfl⟩) fun v3 H3 e3 hv3 => ?_
  obtain ⟨ea, exs, rfl, hea, hed⟩ := hv3.lstI
  have hexs : exs = (every R).map wV := words_vs hed
  subst hexs
  -- the neighbours
  refine qdnK fun d hd => ?_
  refine law_near hR (hv.mono e3) hea hd fun kvs H4 a5 a6 a7 e4 B4 => ?_
  have hRow4 := (hRow2.mono e3).mono e4
  -- one, other
  refine qparC ?_
  refine c_pick hR (ev_var (i := 1) rfl) (ev_var (i := 3) rfl) hRow4 B4.ev fun one H5 hone x5 hRow5 => ?_
  have B5 := B4.keep hRow4 x5
  refine c_pick hR (ev_var (i := 1) rfl) (ev_var (i := 3) rfl) hRow5 B5.ev fun other H6 hother x6 hRow6 => ?_
  have B6 := B5.keep hRow5 x6
  refine ⟨wV one, wV other, rfl, ?_⟩
  -- flips
  refine qfl (et_not (a := true) (t_B (flips_alike hR hone B6 (d_var rfl B6.reg) (d_var (d := wdD one) rfl (.str _)) rfl))) fun H7 e7 => ?_
  have B7 := B6.mono e7
  -- far, rim
  refine qparC ?_
  intro fd hfd
  refine ⟨wV one, rfl, upd_same, [(wdK one, .int 0)], rfl, (by show 1 ≤ 15; decide), ?_⟩
  refine (el_lst (vs := [wV one]) (ea_cons (ev_var (i := 8) rfl) ea_nil) (by show 1 ≤ 100000; decide)) _ (Ex.refl _) _ fun l H8 hl e8 h8 => ?_
  refine ⟨.ref fd, .ref l, rfl, ?_⟩
  have e78 : Ex H7 H8 := Ex.trans (Ex.mut (Ex.new hfd) hfd) e8
  refine law_far hR hone B7 hfd e78 (e8 fd _ upd_same) h8 fun f H9 b5 b12 b11 b13 e9 hf9 hlook hfl => ?_
  have B9 := B7.mono e9
  have hlo : look f other = some (dw other one) := hlook other hother
  -- distances
  have w2 : ∀ {H' : Hp} {x14 : Option V}, Ex H9 H' → EvD K (tVar 2) (S17 (some (.ref s)) (some (.ref r)) (some v) (some (.ref ea)) (some (.ref d)) b5 a6 a7 (some (wV one)) (some (wV other)) (some (.ref fd)) b11 b12 b13 x14) H' (rgD R) := fun e => d_var rfl (B9.reg.mono e)
  have w8 : ∀ {H' : Hp} {x14 : Option V}, EvD K (tVar 8) (S17 (some (.ref s)) (some (.ref r)) (some v) (some (.ref ea)) (some (.ref d)) b5 a6 a7 (some (wV one)) (some (wV other)) (some (.ref fd)) b11 b12 b13 x14) H' (wdD one) := d_var rfl (.str _)
  have w9 : ∀ {H' : Hp} {x14 : Option V}, EvD K (tVar 9) (S17 (some (.ref s)) (some (.ref r)) (some v) (some (.ref ea)) (some (.ref d)) b5 a6 a7 (some (wV one)) (some (wV other)) (some (.ref fd)) b11 b12 b13 x14) H' (wdD other) := d_var rfl (.str _)
  have wf : ∀ {H' : Hp} {x14 : Option V}, Ex H9 H' → Ev (tDGet (tVar 10) (tVar 9)) (S17 (some (.ref s)) (some (.ref r)) (some v) (some (.ref ea)) (some (.ref d)) b5 a6 a7 (some (wV one)) (some (wV other)) (some (.ref fd)) b11 b12 b13 x14) H' (.int ((dw other one : Nat) : Int)) := fun e => ev_dget (k := wdK other) (e fd _ hf9) rfl w9.s (by rw [farV_look, hlo]; rfl)
  have wl := ev_lenDk (σ := S17 (some (.ref s)) (some (.ref r)) (some v) (some (.ref ea)) (some (.ref d)) b5 a6 a7 (some (wV one)) (some (wV other)) (some (.ref fd)) b11 b12 b13 none) (i := 10) hf9 rfl
  have we := ev_len (K := K) (σ := S17 (some (.ref s)) (some (.ref r)) (some v) (some (.ref ea)) (some (.ref d)) b5 a6 a7 (some (wV one)) (some (wV other)) (some (.ref fd)) b11 b12 b13 none) (ta := tVar 3) (ev_var rfl) B9.ev
  have hcount : (farV f).length = ((every R).map wV).length := by
    unfold farV; rw [List.length_map, List.length_map]; exact hfl
  refine qfl (et_is (et_or (a := false) (b := false) (et_is (et_test (ev_op wl we (rv_ne rfl))) (by rw [hcount, decide_eq_true rfl]; rfl)) fun _ => et_not (a := true) (t_B (K := K) (d_call (E := E0) (R := R_alike) (da_2 (d_call (E := E0) (R := R_flip_distance) (da_3 (w2 (Ex.refl _)) w8 w9) ⟨R, one, other, hR, hone, hother, rfl, rfl⟩) (d_evI (wf (Ex.refl _)))) (.inl ⟨⟨_, by rw [dw_comm other one]; rfl⟩, rfl⟩)))) rfl) fun H10 e10 => ?_
  -- the way
  refine qaS (e_call (P := Q_flip_way) (da_3 (w2 e10) w8 w9) ⟨R, one, other, hR, hone, hother, rfl, rfl⟩) fun dd v14 H11 hdd e11 hv14 => ?_
  obtain ⟨fs, F, rfl⟩ := hdd
  have e911 := e10.trans e11
  obtain ⟨fa, fxs, rfl, hfa, hfd2⟩ := hv14.lstI
  have hfxs : fxs = fs.map wV := words_vs hfd2
  subst hfxs
  obtain ⟨us, hus⟩ := F.lst
  have hdl := dw_le hR hone hother
  have hflen := F.len
  rw [dw_self] at hflen
  have w14 : ∀ {H' : Hp}, Ex H11 H' → EvD K (tVar 14) (S17 (some (.ref s)) (some (.ref r)) (some v) (some (.ref ea)) (some (.ref d)) b5 a6 a7 (some (wV one)) (some (wV other)) (some (.ref fd)) b11 b12 b13 (some (.ref fa))) H' (.list (fs.map wdD)) := fun e => d_var rfl (.lst (ex_l e hfa) (wds_dp fs))
  have c1 := et_not (a := true) (t_B (d_isi (w14 (Ex.refl _)) kLL))
  have c2 := t_test (d_op (d_op (w14 (Ex.refl _)) (d_int (i := 0)) (r_ixL (d := wdD one) (atI_nat (j := 0) (by rw [List.getElem?_map, F.head]; rfl)))) w8 r_neS)
  have c3 := t_test (d_op (d_op (w14 (Ex.refl _)) d_neg1 (r_ixL (last_wd hus))) w9 r_neS)
  have c4 := t_test (d_op (d_lenL (w14 (Ex.refl _))) (d_add (d_evI (wf e911)) (d_int (i := 1))) r_neI)
  refine qfl (et_is (et_or (a := false) (b := false) c1 fun _ => et_or (a := false) (b := false) (et_is c2 (by rw [decide_eq_true rfl]; rfl)) fun _ => et_or (a := false) (b := false) (et_is c3 (by rw [decide_eq_true rfl]; rfl)) fun _ => et_is c4 (by
    rw [List.length_map, decide_eq_true (show ((fs.length : Nat) : Int) = ((dw other one : Nat) : Int) + 1 by rw [dw_comm other one]; omega)]; rfl)) rfl) fun H12 e12 => ?_
  -- each turn of the way is a flip
  have B12 := B9.mono (e911.trans e12)
  have hzip : EvI K (iZip K (tCons (tVar 14) (tCons (tSl (rSlL K) (tVar 14) (tPart (tC (.int 1))) tNoPart) tNil))) (S17 (some (.ref s)) (some (.ref r)) (some v) (some (.ref ea)) (some (.ref d)) b5 a6 a7 (some (wV one)) (some (wV other)) (some (.ref fd)) b11 b12 b13 (some (.ref fa))) H12 ((fs.zip (fs.drop 1)).map fun p => PyData.tuple [wdD p.1, wdD p.2]) := by
    have hcut : EvD K (tSl (rSlL K) (tVar 14) (tPart (tC (.int 1))) tNoPart) (S17 (some (.ref s)) (some (.ref r)) (some v) (some (.ref ea)) (some (.ref d)) b5 a6 a7 (some (wV one)) (some (wV other)) (some (.ref fd)) b11 b12 b13 (some (.ref fa))) H12 (.list ((fs.drop 1).map wdD)) := fun H13 e13 Q2 q2 =>
      (el_sl (K := K) (ev_var rfl) (eo_some (i := 1) ev_c) eo_none (ex_l e12 hfa)) H13 e13 _ fun p H14 hp e14 h14 => q2 _ H14 e14 (.lst (sq_of (by rw [h14, cut1V])) (wds_dp _))
    refine (iv_zip (da_2 (w14 e12) hcut)).to ?_
    rw [List.zip_map, List.map_map]; rfl
  have hlc := d_lcP (K := K) (j := 15) (k := 16) (vs := [15, 16]) (tt := tTest (tOp (rIn K true) (tVar 16) (tDGet (tVar 4) (tVar 15)))) (te := tC (.int 1)) (fs.zip (fs.drop 1)) (fun p => wdD p.1) (fun p => wdD p.2) (fun _ => false) (fun _ => .int 1) hzip (by rw [List.length_zip]; omega) (fun _ _ => rfl) (fun _ _ h => (by cases h))
    (fun p hp x y H13 e13 hx hy => by
      obtain ⟨hp1, hp2⟩ := zip_near F hone hp
      obtain ⟨c, hc1, hc2⟩ := B12.near p.1 hp1
      obtain rfl := hx.strI
      have hg := d_ev (K := K) (d := .list (((near R p.1).map SW).map .str)) (ev_dget (k := wdK p.1) (v := .ref c) (i := 4) (ty := tVar 15) (σ := (((wipe (S17 (some (.ref s)) (some (.ref r)) (some v) (some (.ref ea)) (some (.ref d)) b5 a6 a7 (some (wV one)) (some (wV other)) (some (.ref fd)) b11 b12 b13 (some (.ref fa))) [15, 16]).set 15 (some (.str (SW p.1)))).set 16 (some y))) (e13 d _ B12.dict) rfl (ev_var rfl) hc1) fun H14 e14 => .lst (sq_of (e14 c _ (e13 c _ hc2))) (by rw [wds_vs]; exact dpAll_strs _)
      have := t_test (d_op (d_var (i := 16) rfl hy) hg r_notInL)
      rw [decide_eq_true (mem_SW.mpr hp2)] at this
      exact this)
    fun _ _ h => (by cases h)
  have hnil : ((fs.zip (fs.drop 1)).filter fun _ => false).map (fun _ => PyData.int 1) = [] := by
    rw [List.filter_eq_nil_iff.mpr (fun _ _ h => (by cases h))]; rfl
  rw [hnil] at hlc
  refine sr (d := .bool true) ((d_op hlc.l (dl_lst da_nil (by show 0 ≤ 100000; decide)).l (r_eqD shp_nil shp_nil)).to (by rw [SeqAt.eqv_refl _ (SeqAt.canLay_of_shaped shp_nil)])) fun v15 H15 _ hv15 => ?_
  rw [hv15.blI]
  exact q H15
end
end KL
set_option maxHeartbeats 0
namespace KH
open PySem PySem.Spec PyProof.Rows L2
open KL
def d_is_int : He.DefD := ⟨("is_int", none), "is_int", "is_int", defArgs s_is_int, defBody s_is_int, defScope s_is_int, [], []⟩
def d_is_in : He.DefD := ⟨("is_in", none), "is_in", "is_in", defArgs s_is_in, defBody s_is_in, defScope s_is_in, [], []⟩
def d_is_column : He.DefD := ⟨("is_column", none), "is_column", "is_column", defArgs s_is_column, defBody s_is_column, defScope s_is_column, [], []⟩
def d_fits_behind : He.DefD := ⟨("fits_behind", none), "fits_behind", "fits_behind", defArgs s_fits_behind, defBody s_fits_behind, defScope s_fits_behind, [], []⟩
def d_need_region : He.DefD := ⟨("need_region", none), "need_region", "need_region", defArgs s_need_region, defBody s_need_region, defScope s_need_region, [], []⟩
def d_end_of : He.DefD := ⟨("end_of", none), "end_of", "end_of", defArgs s_end_of, defBody s_end_of, defScope s_end_of, [], []⟩
def d_is_open : He.DefD := ⟨("is_open", none), "is_open", "is_open", defArgs s_is_open, defBody s_is_open, defScope s_is_open, [], []⟩
def d_after : He.DefD := ⟨("after", none), "after", "after", defArgs s_after, defBody s_after, defScope s_after, [], []⟩
def d_spans_on : He.DefD := ⟨("spans_on", none), "spans_on", "spans_on", defArgs s_spans_on, defBody s_spans_on, defScope s_spans_on, [], []⟩
def d_need_play : He.DefD := ⟨("need_play", none), "need_play", "need_play", defArgs s_need_play, defBody s_need_play, defScope s_need_play, [], []⟩
def d_rows_on : He.DefD := ⟨("rows_on", none), "rows_on", "rows_on", defArgs s_rows_on, defBody s_rows_on, defScope s_rows_on, [], []⟩
def d_need_plays : He.DefD := ⟨("need_plays", none), "need_plays", "need_plays", defArgs s_need_plays, defBody s_need_plays, defScope s_need_plays, [], []⟩
def d_flips_of : He.DefD := ⟨("flips_of", none), "flips_of", "flips_of", defArgs s_flips_of, defBody s_flips_of, defScope s_flips_of, [], []⟩
def d_flips : He.DefD := ⟨("flips", none), "flips", "flips", defArgs s_flips, defBody s_flips, defScope s_flips, [], []⟩
def d_flip_distance : He.DefD := ⟨("flip_distance", none), "flip_distance", "flip_distance", defArgs s_flip_distance, defBody s_flip_distance, defScope s_flip_distance, [], []⟩
def d_flip_way : He.DefD := ⟨("flip_way", none), "flip_way", "flip_way", defArgs s_flip_way, defBody s_flip_way, defScope s_flip_way, [], []⟩
def d_law_taken : He.DefD := ⟨("_law_taken", none), "_law_taken", "_law_taken", defArgs s_law_taken, defBody s_law_taken, defScope s_law_taken, [], []⟩
def d_law_pick : He.DefD := ⟨("_law_pick", none), "_law_pick", "_law_pick", defArgs s_law_pick, defBody s_law_pick, defScope s_law_pick, [], []⟩
def d_law_alike : He.DefD := ⟨("_law_alike", none), "_law_alike", "_law_alike", defArgs s_law_alike, defBody s_law_alike, defScope s_law_alike, [], []⟩
def d_law_after : He.DefD := ⟨("_law_after", none), "_law_after", "_law_after", defArgs s_law_after, defBody s_law_after, defScope s_law_after, [], []⟩
def d_law_region : He.DefD := ⟨("_law_region", none), "_law_region", "_law_region", defArgs s_law_region, defBody s_law_region, defScope s_law_region, [], []⟩
def d_law_spans : He.DefD := ⟨("_law_spans", none), "_law_spans", "_law_spans", defArgs s_law_spans, defBody s_law_spans, defScope s_law_spans, [], []⟩
def d_law_plays : He.DefD := ⟨("_law_plays", none), "_law_plays", "_law_plays", defArgs s_law_plays, defBody s_law_plays, defScope s_law_plays, [], []⟩
def d_law_count : He.DefD := ⟨("_law_count", none), "_law_count", "_law_count", defArgs s_law_count, defBody s_law_count, defScope s_law_count, [], []⟩
def d_law_few : He.DefD := ⟨("_law_few", none), "_law_few", "_law_few", defArgs s_law_few, defBody s_law_few, defScope s_law_few, [], []⟩
def d_law : He.DefD := ⟨("law", none), "law", "law", defArgs s_law, defBody s_law, defScope s_law, [], []⟩
def fn : List He.DefD := [d_is_int, d_is_in, d_is_column, d_fits_behind, d_need_region, d_end_of, d_is_open, d_after, d_spans_on, d_need_play, d_rows_on, d_need_plays, d_flips_of, d_flips, d_flip_distance, d_flip_way, d_law_taken, d_law_pick, d_law_alike, d_law_after, d_law_region, d_law_spans, d_law_plays, d_law_count, d_law_few, d_law]
def fa : List He.Fa := [.glo "is_int", .glo "is_in", .glo "is_column", .glo "fits_behind", .glo "need_region", .glo "end_of", .glo "is_open", .glo "after", .glo "spans_on", .glo "need_play", .glo "rows_on", .glo "need_plays", .glo "flips_of", .glo "flips", .glo "flip_distance", .glo "flip_way", .glo "_law_taken", .glo "_law_pick", .glo "_law_alike", .glo "_law_after", .glo "_law_region", .glo "_law_spans", .glo "_law_plays", .glo "_law_count", .glo "_law_few", .glo "law", .free "len", .free "range", .free "isinstance", .free "enumerate", .free "sorted", .free "sum", .free "abs", .free "zip", .free "int", .free "bool", .free "str", .free "list", .free "tuple", .free "min", .int "MOST_ROOMS" 60]
def loose : List PySem.Str := ["LaneError", "BadRegion", "BadPlay", "MOST_ROOMS", "is_int", "is_in", "is_column", "fits_behind", "need_region", "end_of", "is_open", "after", "spans_on", "need_play", "rows_on", "need_plays", "flips_of", "flips", "flip_distance", "flip_way", "_law_taken", "_law_pick", "_law_alike", "_law_after", "_law_region", "_law_spans", "_law_plays", "_law_count", "_law_few"]
abbrev R : PySem.W.OpenRow := PySem.W.OpenLaw.row PySem.Challenge.rw_keylanes_k58_whole_changes
abbrev hk : PySem.W.Hook := He.hookD 4 fa fn
def ob (s : PySem.W.SharedT) : He.AlD := He.obsDG 4 fa fn (HandSHeadRun.getT s)
theorem ob_eq (s : PySem.W.SharedT) : ob s = hk.obs s.abs := He.obsDG_eq (HandSHeadRun.getT_eq s)
theorem run (w : World) : HandSHeadRun.RunEq R (PySem.W.view R.prog [35]) hk ob 3000 loose w := by
  intro os
  kernel_rfl
end KH
set_option maxHeartbeats 4000000
namespace KL
open PySem PySem.Spec PyProof.Rows L2 Evl KM
section
variable {K : PySem.W.Frag}
theorem len_Pr {R : List PyData → PyData → Prop} {n : Nat} (h : ∀ ds d, R ds d → ds.length = n) : ∀ vs H Q E, Pr K R vs H Q E → vs.length = n := by
  rintro vs H Q E ⟨ds, d, hD, hR, _⟩
  rw [hD.length, h ds d hR]
theorem len_PrN {R : List PyData → (PyData → Prop) → Prop} {n : Nat} (h : ∀ ds d, R ds d → ds.length = n) : ∀ vs H Q E, PrN K R vs H Q E → vs.length = n := by
  rintro vs H Q E ⟨ds, d, hD, hR, _⟩
  rw [hD.length, h ds d hR]
end
section
variable {P : Program} {w : World} {K : PySem.W.Frag} {mg : Str → Option Value} {base : Heap}
theorem ok_is_int {k : Nat} (D : Df K mg "is_int" s_is_int P_is_int) (X : Tx mg) : Cal P w K mg base (k + 1) "is_int" P_is_int (Pr K R_is_int) :=
  Df.ok D sc_is_int (len_Pr (by rintro ds d (⟨_, rfl, _⟩) <;> rfl)) (t := t_is_int K) (fun f cdv A outer s H E hr => dv_is_int hr X) rd_is_int
theorem ok_is_in {k : Nat} (D : Df K mg "is_in" s_is_in P_is_in) (X : Tx mg) {k_is_int : Nat} (C_is_int : Cal P w K mg base k_is_int "is_int" P_is_int (Pr K R_is_int)) (h_is_int : k_is_int ≤ k) : Cal P w K mg base (k + 1) "is_in" P_is_in (Pr K R_is_in) :=
  Df.ok D sc_is_in (len_Pr (by rintro ds d (⟨_, _, _, rfl, _⟩) <;> rfl)) (t := t_is_in K (Pr K R_is_int)) (fun f cdv A outer s H E hr => dv_is_in hr X C_is_int h_is_int) rd_is_in
theorem ok_is_column {k : Nat} (D : Df K mg "is_column" s_is_column P_is_column) (X : Tx mg) {k_is_in : Nat} (C_is_in : Cal P w K mg base k_is_in "is_in" P_is_in (Pr K R_is_in)) (h_is_in : k_is_in ≤ k) : Cal P w K mg base (k + 1) "is_column" P_is_column (Pr K R_is_column) :=
  Df.ok D sc_is_column (len_Pr (by rintro ds d (⟨_, _, _, rfl, _⟩) <;> rfl)) (t := t_is_column K (Pr K R_is_in)) (fun f cdv A outer s H E hr => dv_is_column hr X C_is_in h_is_in) rd_is_column
theorem ok_fits_behind {k : Nat} (D : Df K mg "fits_behind" s_fits_behind P_fits_behind) (X : Tx mg) : Cal P w K mg base (k + 1) "fits_behind" P_fits_behind (Pr K R_fits_behind) :=
  Df.ok D sc_fits_behind (len_Pr (by rintro ds d (⟨_, _, _, _, _, rfl, _⟩) <;> rfl)) (t := t_fits_behind K) (fun f cdv A outer s H E hr => dv_fits_behind hr X) rd_fits_behind
theorem ok_need_region {k : Nat} (D : Df K mg "need_region" s_need_region P_need_region) (X : Tx mg) {k_is_column : Nat} (C_is_column : Cal P w K mg base k_is_column "is_column" P_is_column (Pr K R_is_column)) (h_is_column : k_is_column ≤ k) {k_fits_behind : Nat} (C_fits_behind : Cal P w K mg base k_fits_behind "fits_behind" P_fits_behind (Pr K R_fits_behind)) (h_fits_behind : k_fits_behind ≤ k) : Cal P w K mg base (k + 1) "need_region" P_need_region (Pr K R_need_region) :=
  Df.ok D sc_need_region (len_Pr (by rintro ds d (⟨_, _, rfl, _⟩) <;> rfl)) (t := t_need_region K (Pr K R_is_column) (Pr K R_fits_behind)) (fun f cdv A outer s H E hr => dv_need_region hr X C_is_column h_is_column C_fits_behind h_fits_behind) rd_need_region
theorem ok_end_of {k : Nat} (D : Df K mg "end_of" s_end_of P_end_of) (X : Tx mg) : Cal P w K mg base (k + 1) "end_of" P_end_of (Pr K R_end_of) :=
  Df.ok D sc_end_of (len_Pr (by rintro ds d (⟨_, _, rfl, _⟩) <;> rfl)) (t := t_end_of K) (fun f cdv A outer s H E hr => dv_end_of hr X) rd_end_of
theorem ok_is_open {k : Nat} (D : Df K mg "is_open" s_is_open P_is_open) (X : Tx mg) : Cal P w K mg base (k + 1) "is_open" P_is_open (Pr K R_is_open) :=
  Df.ok D sc_is_open (len_Pr (by rintro ds d (⟨_, _, _, rfl, _⟩) <;> rfl)) (t := t_is_open K) (fun f cdv A outer s H E hr => dv_is_open hr X) rd_is_open
theorem ok_after {k : Nat} (D : Df K mg "after" s_after P_after) (X : Tx mg) : Cal P w K mg base (k + 1) "after" P_after (Pr K R_after) :=
  Df.ok D sc_after (len_Pr (by rintro ds d (⟨_, _, rfl, _⟩) <;> rfl)) (t := t_after K) (fun f cdv A outer s H E hr => dv_after hr X) rd_after
theorem ok_spans_on {k : Nat} (D : Df K mg "spans_on" s_spans_on P_spans_on) (X : Tx mg) {k_after : Nat} (C_after : Cal P w K mg base k_after "after" P_after (Pr K R_after)) (h_after : k_after ≤ k) : Cal P w K mg base (k + 1) "spans_on" P_spans_on (Pr K R_spans_on) :=
  Df.ok D sc_spans_on (len_Pr (by rintro ds d (⟨_, _, rfl, _⟩) <;> rfl)) (t := t_spans_on K (Pr K R_after)) (fun f cdv A outer s H E hr => dv_spans_on hr X C_after h_after) rd_spans_on
theorem ok_need_play {k : Nat} (D : Df K mg "need_play" s_need_play P_need_play) (X : Tx mg) {k_is_open : Nat} (C_is_open : Cal P w K mg base k_is_open "is_open" P_is_open (Pr K R_is_open)) (h_is_open : k_is_open ≤ k) {k_after : Nat} (C_after : Cal P w K mg base k_after "after" P_after (Pr K R_after)) (h_after : k_after ≤ k) {k_end_of : Nat} (C_end_of : Cal P w K mg base k_end_of "end_of" P_end_of (Pr K R_end_of)) (h_end_of : k_end_of ≤ k) : Cal P w K mg base (k + 1) "need_play" P_need_play (Pr K R_need_play) :=
  Df.ok D sc_need_play (len_Pr (by rintro ds d (⟨_, _, _, _, rfl, _⟩) <;> rfl)) (t := t_need_play K (Pr K R_is_open) (Pr K R_after) (Pr K R_end_of)) (fun f cdv A outer s H E hr => dv_need_play hr X C_is_open h_is_open C_after h_after C_end_of h_end_of) rd_need_play
theorem ok_rows_on {k : Nat} (D : Df K mg "rows_on" s_rows_on P_rows_on) (X : Tx mg) : Cal P w K mg base (k + 1) "rows_on" P_rows_on (Pr K R_rows_on) :=
  Df.ok D sc_rows_on (len_Pr (by rintro ds d (⟨_, _, rfl, _⟩) <;> rfl)) (t := t_rows_on K) (fun f cdv A outer s H E hr => dv_rows_on hr X) rd_rows_on
theorem ok_need_plays {k : Nat} (D : Df K mg "need_plays" s_need_plays P_need_plays) (X : Tx mg) {k_need_region : Nat} (C_need_region : Cal P w K mg base k_need_region "need_region" P_need_region (Pr K R_need_region)) (h_need_region : k_need_region ≤ k) {k_need_play : Nat} (C_need_play : Cal P w K mg base k_need_play "need_play" P_need_play (Pr K R_need_play)) (h_need_play : k_need_play ≤ k) : Cal P w K mg base (k + 1) "need_plays" P_need_plays (Pr K R_need_plays) :=
  Df.ok D sc_need_plays (len_Pr (by rintro ds d (⟨_, _, _, _, _, _, rfl, _⟩) <;> rfl)) (t := t_need_plays K (Pr K R_need_region) (Pr K R_need_play)) (fun f cdv A outer s H E hr => dv_need_plays hr X C_need_region h_need_region C_need_play h_need_play) rd_need_plays
theorem ok_flips_of {k : Nat} (D : Df K mg "flips_of" s_flips_of P_flips_of) (X : Tx mg) {k_spans_on : Nat} (C_spans_on : Cal P w K mg base k_spans_on "spans_on" P_spans_on (Pr K R_spans_on)) (h_spans_on : k_spans_on ≤ k) {k_is_open : Nat} (C_is_open : Cal P w K mg base k_is_open "is_open" P_is_open (Pr K R_is_open)) (h_is_open : k_is_open ≤ k) {k_after : Nat} (C_after : Cal P w K mg base k_after "after" P_after (Pr K R_after)) (h_after : k_after ≤ k) : Cal P w K mg base (k + 1) "flips_of" P_flips_of (PrN K Q_flips_of) :=
  Df.ok D sc_flips_of (len_PrN (by rintro ds d (⟨_, _, _, _, rfl, _⟩) <;> rfl)) (t := t_flips_of K (Pr K R_spans_on) (Pr K R_is_open) (Pr K R_after)) (fun f cdv A outer s H E hr => dv_flips_of hr X C_spans_on h_spans_on C_is_open h_is_open C_after h_after) rd_flips_of
theorem ok_flips {k : Nat} (D : Df K mg "flips" s_flips P_flips) (X : Tx mg) {k_need_region : Nat} (C_need_region : Cal P w K mg base k_need_region "need_region" P_need_region (Pr K R_need_region)) (h_need_region : k_need_region ≤ k) {k_need_play : Nat} (C_need_play : Cal P w K mg base k_need_play "need_play" P_need_play (Pr K R_need_play)) (h_need_play : k_need_play ≤ k) {k_flips_of : Nat} (C_flips_of : Cal P w K mg base k_flips_of "flips_of" P_flips_of (PrN K Q_flips_of)) (h_flips_of : k_flips_of ≤ k) : Cal P w K mg base (k + 1) "flips" P_flips (PrN K Q_flips) :=
  Df.ok D sc_flips (len_PrN (by rintro ds d (⟨_, _, _, _, rfl, _⟩) <;> rfl)) (t := t_flips K (Pr K R_need_region) (Pr K R_need_play) (PrN K Q_flips_of)) (fun f cdv A outer s H E hr => dv_flips hr X C_need_region h_need_region C_need_play h_need_play C_flips_of h_flips_of) rd_flips
theorem ok_flip_distance {k : Nat} (D : Df K mg "flip_distance" s_flip_distance P_flip_distance) (X : Tx mg) {k_need_plays : Nat} (C_need_plays : Cal P w K mg base k_need_plays "need_plays" P_need_plays (Pr K R_need_plays)) (h_need_plays : k_need_plays ≤ k) {k_rows_on : Nat} (C_rows_on : Cal P w K mg base k_rows_on "rows_on" P_rows_on (Pr K R_rows_on)) (h_rows_on : k_rows_on ≤ k) : Cal P w K mg base (k + 1) "flip_distance" P_flip_distance (Pr K R_flip_distance) :=
  Df.ok D sc_flip_distance (len_Pr (by rintro ds d (⟨_, _, _, _, _, _, rfl, _⟩) <;> rfl)) (t := t_flip_distance K (Pr K R_need_plays) (Pr K R_rows_on)) (fun f cdv A outer s H E hr => dv_flip_distance hr X C_need_plays h_need_plays C_rows_on h_rows_on) rd_flip_distance
theorem ok_flip_way {k : Nat} (D : Df K mg "flip_way" s_flip_way P_flip_way) (X : Tx mg) {k_need_plays : Nat} (C_need_plays : Cal P w K mg base k_need_plays "need_plays" P_need_plays (Pr K R_need_plays)) (h_need_plays : k_need_plays ≤ k) {k_rows_on : Nat} (C_rows_on : Cal P w K mg base k_rows_on "rows_on" P_rows_on (Pr K R_rows_on)) (h_rows_on : k_rows_on ≤ k) {k_flips_of : Nat} (C_flips_of : Cal P w K mg base k_flips_of "flips_of" P_flips_of (PrN K Q_flips_of)) (h_flips_of : k_flips_of ≤ k) : Cal P w K mg base (k + 1) "flip_way" P_flip_way (PrN K Q_flip_way) :=
  Df.ok D sc_flip_way (len_PrN (by rintro ds d (⟨_, _, _, _, _, _, rfl, _⟩) <;> rfl)) (t := t_flip_way K (Pr K R_need_plays) (Pr K R_rows_on) (PrN K Q_flips_of)) (fun f cdv A outer s H E hr => dv_flip_way hr X C_need_plays h_need_plays C_rows_on h_rows_on C_flips_of h_flips_of) rd_flip_way
theorem ok_law_taken {k : Nat} (D : Df K mg "_law_taken" s_law_taken P_law_taken) (X : Tx mg) : Cal P w K mg base (k + 1) "_law_taken" P_law_taken (spTaken K) :=
  Df.ok D sc_law_taken ((by rintro vs H Q E ⟨_, _, _, _, rfl, _⟩; rfl)) (t := t_law_taken K) (fun f cdv A outer s H E hr => dv_law_taken hr X) rd_law_taken
theorem ok_law_pick {k : Nat} (D : Df K mg "_law_pick" s_law_pick P_law_pick) (X : Tx mg) {k_law_taken : Nat} (C_law_taken : Cal P w K mg base k_law_taken "_law_taken" P_law_taken (spTaken K)) (h_law_taken : k_law_taken ≤ k) : Cal P w K mg base (k + 1) "_law_pick" P_law_pick (spPick K) :=
  Df.ok D sc_law_pick ((by rintro vs H Q E ⟨_, _, _, _, _, rfl, _⟩; rfl)) (t := t_law_pick K (spTaken K)) (fun f cdv A outer s H E hr => dv_law_pick hr X C_law_taken h_law_taken) rd_law_pick
theorem ok_law_alike0 {k : Nat} (D : Df K mg "_law_alike" s_law_alike P_law_alike) (X : Tx mg) : Cal P w K mg base (k + 1) "_law_alike" P_law_alike (Pr K R_alike0) :=
  Df.ok D sc_law_alike (len_Pr (by rintro ds d (⟨⟨_, rfl⟩ | ⟨_, rfl⟩, _⟩) <;> rfl)) (t := t_law_alike0 K) (fun f cdv A outer s H E hr => dv_law_alike0 hr X) rd_alike0
theorem ok_law_alike {k : Nat} (D : Df K mg "_law_alike" s_law_alike P_law_alike) (X : Tx mg) {k_law_alike0 : Nat} (C_law_alike0 : Cal P w K mg base k_law_alike0 "_law_alike" P_law_alike (Pr K R_alike0)) (h_law_alike0 : k_law_alike0 ≤ k) : Cal P w K mg base (k + 1) "_law_alike" P_law_alike (Pr K R_alike) :=
  Df.ok D sc_law_alike (len_Pr (by rintro ds d (⟨⟨_, rfl⟩, _⟩ | ⟨⟨_, _, rfl⟩, _⟩) <;> rfl)) (t := t_law_alike K (Pr K R_alike0)) (fun f cdv A outer s H E hr => dv_law_alike hr X C_law_alike0 h_law_alike0) rd_alike
theorem ok_law_after {k : Nat} (D : Df K mg "_law_after" s_law_after P_law_after) (X : Tx mg) : Cal P w K mg base (k + 1) "_law_after" P_law_after (Pr K R_after) :=
  Df.ok D sc_law_after (len_Pr (by rintro ds d (⟨_, _, rfl, _⟩) <;> rfl)) (t := t_law_after K) (fun f cdv A outer s H E hr => dv_law_after hr X) rd_law_after
theorem ok_law_region {k : Nat} (D : Df K mg "_law_region" s_law_region P_law_region) (X : Tx mg) {k_law_taken : Nat} (C_law_taken : Cal P w K mg base k_law_taken "_law_taken" P_law_taken (spTaken K)) (h_law_taken : k_law_taken ≤ k) : Cal P w K mg base (k + 1) "_law_region" P_law_region (spRegion K) :=
  Df.ok D sc_law_region ((by rintro vs H Q E ⟨_, _, _, rfl, _⟩; rfl)) (t := t_law_region K (spTaken K)) (fun f cdv A outer s H E hr => dv_law_region hr X C_law_taken h_law_taken) rd_law_region
theorem ok_law_spans {k : Nat} (D : Df K mg "_law_spans" s_law_spans P_law_spans) (X : Tx mg) : Cal P w K mg base (k + 1) "_law_spans" P_law_spans (Pr K R_law_spans) :=
  Df.ok D sc_law_spans (len_Pr (by rintro ds d (⟨_, _, rfl, _⟩) <;> rfl)) (t := t_law_spans K) (fun f cdv A outer s H E hr => dv_law_spans hr X) rd_law_spans
theorem ok_law_plays {k : Nat} (D : Df K mg "_law_plays" s_law_plays P_law_plays) (X : Tx mg) {k_law_spans : Nat} (C_law_spans : Cal P w K mg base k_law_spans "_law_spans" P_law_spans (Pr K R_law_spans)) (h_law_spans : k_law_spans ≤ k) {k_law_after : Nat} (C_law_after : Cal P w K mg base k_law_after "_law_after" P_law_after (Pr K R_after)) (h_law_after : k_law_after ≤ k) : Cal P w K mg base (k + 1) "_law_plays" P_law_plays (Pr K R_law_plays) :=
  Df.ok D sc_law_plays (len_Pr (by rintro ds d (⟨_, _, rfl, _⟩) <;> rfl)) (t := t_law_plays K (Pr K R_law_spans) (Pr K R_after)) (fun f cdv A outer s H E hr => dv_law_plays hr X C_law_spans h_law_spans C_law_after h_law_after) rd_law_plays
theorem ok_law_count {k : Nat} (D : Df K mg "_law_count" s_law_count P_law_count) (X : Tx mg) {k_law_spans : Nat} (C_law_spans : Cal P w K mg base k_law_spans "_law_spans" P_law_spans (Pr K R_law_spans)) (h_law_spans : k_law_spans ≤ k) : Cal P w K mg base (k + 1) "_law_count" P_law_count (PrN K Q_law_count) :=
  Df.ok D sc_law_count (len_PrN (by rintro ds d (⟨_, _, rfl, _⟩) <;> rfl)) (t := t_law_count K (Pr K R_law_spans)) (fun f cdv A outer s H E hr => dv_law_count hr X C_law_spans h_law_spans) rd_law_count
theorem ok_law_few {k : Nat} (D : Df K mg "_law_few" s_law_few P_law_few) (X : Tx mg) {k_law_region : Nat} (C_law_region : Cal P w K mg base k_law_region "_law_region" P_law_region (spRegion K)) (h_law_region : k_law_region ≤ k) {k_law_count : Nat} (C_law_count : Cal P w K mg base k_law_count "_law_count" P_law_count (PrN K Q_law_count)) (h_law_count : k_law_count ≤ k) : Cal P w K mg base (k + 1) "_law_few" P_law_few (spFew K) :=
  Df.ok D sc_law_few ((by rintro vs H Q E ⟨_, _, _, rfl, _⟩; rfl)) (t := t_law_few K (spRegion K) (PrN K Q_law_count)) (fun f cdv A outer s H E hr => dv_law_few hr X C_law_region h_law_region C_law_count h_law_count) rd_law_few
end
end KL
namespace KH
open PySem PySem.Spec PyProof.Rows L2 KL
variable {P : Program} {w : World} {K : PySem.W.Frag} {h : Heap} {mg : Str → Option Value}
section
variable (X : K.In h) (G : h.Ns mainGlobals mg) (c : He.SaysD fa fn K)
include X G c
theorem df_is_int : Df K mg "is_int" s_is_int P_is_int := by
  obtain ⟨fd, F⟩ := c.def_ 0 (d := d_is_int) rfl
  exact ⟨_, fd, F, He.glo_ok X G (c.fact 0 (f := .glo "is_int") rfl), F.bindsN fun _ _ _ _ _ _ us hl => match us, hl with | [_], _ => rfl⟩
theorem df_is_in : Df K mg "is_in" s_is_in P_is_in := by
  obtain ⟨fd, F⟩ := c.def_ 1 (d := d_is_in) rfl
  exact ⟨_, fd, F, He.glo_ok X G (c.fact 1 (f := .glo "is_in") rfl), F.bindsN fun _ _ _ _ _ _ us hl => match us, hl with | [_, _, _], _ => rfl⟩
theorem df_is_column : Df K mg "is_column" s_is_column P_is_column := by
  obtain ⟨fd, F⟩ := c.def_ 2 (d := d_is_column) rfl
  exact ⟨_, fd, F, He.glo_ok X G (c.fact 2 (f := .glo "is_column") rfl), F.bindsN fun _ _ _ _ _ _ us hl => match us, hl with | [_], _ => rfl⟩
theorem df_fits_behind : Df K mg "fits_behind" s_fits_behind P_fits_behind := by
  obtain ⟨fd, F⟩ := c.def_ 3 (d := d_fits_behind) rfl
  exact ⟨_, fd, F, He.glo_ok X G (c.fact 3 (f := .glo "fits_behind") rfl), F.bindsN fun _ _ _ _ _ _ us hl => match us, hl with | [_, _], _ => rfl⟩
theorem df_need_region : Df K mg "need_region" s_need_region P_need_region := by
  obtain ⟨fd, F⟩ := c.def_ 4 (d := d_need_region) rfl
  exact ⟨_, fd, F, He.glo_ok X G (c.fact 4 (f := .glo "need_region") rfl), F.bindsN fun _ _ _ _ _ _ us hl => match us, hl with | [_], _ => rfl⟩
theorem df_end_of : Df K mg "end_of" s_end_of P_end_of := by
  obtain ⟨fd, F⟩ := c.def_ 5 (d := d_end_of) rfl
  exact ⟨_, fd, F, He.glo_ok X G (c.fact 5 (f := .glo "end_of") rfl), F.bindsN fun _ _ _ _ _ _ us hl => match us, hl with | [_], _ => rfl⟩
theorem df_is_open : Df K mg "is_open" s_is_open P_is_open := by
  obtain ⟨fd, F⟩ := c.def_ 6 (d := d_is_open) rfl
  exact ⟨_, fd, F, He.glo_ok X G (c.fact 6 (f := .glo "is_open") rfl), F.bindsN fun _ _ _ _ _ _ us hl => match us, hl with | [_, _], _ => rfl⟩
theorem df_after : Df K mg "after" s_after P_after := by
  obtain ⟨fd, F⟩ := c.def_ 7 (d := d_after) rfl
  exact ⟨_, fd, F, He.glo_ok X G (c.fact 7 (f := .glo "after") rfl), F.bindsN fun _ _ _ _ _ _ us hl => match us, hl with | [_, _], _ => rfl⟩
theorem df_spans_on : Df K mg "spans_on" s_spans_on P_spans_on := by
  obtain ⟨fd, F⟩ := c.def_ 8 (d := d_spans_on) rfl
  exact ⟨_, fd, F, He.glo_ok X G (c.fact 8 (f := .glo "spans_on") rfl), F.bindsN fun _ _ _ _ _ _ us hl => match us, hl with | [_], _ => rfl⟩
theorem df_need_play : Df K mg "need_play" s_need_play P_need_play := by
  obtain ⟨fd, F⟩ := c.def_ 9 (d := d_need_play) rfl
  exact ⟨_, fd, F, He.glo_ok X G (c.fact 9 (f := .glo "need_play") rfl), F.bindsN fun _ _ _ _ _ _ us hl => match us, hl with | [_, _], _ => rfl⟩
theorem df_rows_on : Df K mg "rows_on" s_rows_on P_rows_on := by
  obtain ⟨fd, F⟩ := c.def_ 10 (d := d_rows_on) rfl
  exact ⟨_, fd, F, He.glo_ok X G (c.fact 10 (f := .glo "rows_on") rfl), F.bindsN fun _ _ _ _ _ _ us hl => match us, hl with | [_], _ => rfl⟩
theorem df_need_plays : Df K mg "need_plays" s_need_plays P_need_plays := by
  obtain ⟨fd, F⟩ := c.def_ 11 (d := d_need_plays) rfl
  exact ⟨_, fd, F, He.glo_ok X G (c.fact 11 (f := .glo "need_plays") rfl), F.bindsN fun _ _ _ _ _ _ us hl => match us, hl with | [_, _, _], _ => rfl⟩
theorem df_flips_of : Df K mg "flips_of" s_flips_of P_flips_of := by
  obtain ⟨fd, F⟩ := c.def_ 12 (d := d_flips_of) rfl
  exact ⟨_, fd, F, He.glo_ok X G (c.fact 12 (f := .glo "flips_of") rfl), F.bindsN fun _ _ _ _ _ _ us hl => match us, hl with | [_, _], _ => rfl⟩
theorem df_flips : Df K mg "flips" s_flips P_flips := by
  obtain ⟨fd, F⟩ := c.def_ 13 (d := d_flips) rfl
  exact ⟨_, fd, F, He.glo_ok X G (c.fact 13 (f := .glo "flips") rfl), F.bindsN fun _ _ _ _ _ _ us hl => match us, hl with | [_, _], _ => rfl⟩
theorem df_flip_distance : Df K mg "flip_distance" s_flip_distance P_flip_distance := by
  obtain ⟨fd, F⟩ := c.def_ 14 (d := d_flip_distance) rfl
  exact ⟨_, fd, F, He.glo_ok X G (c.fact 14 (f := .glo "flip_distance") rfl), F.bindsN fun _ _ _ _ _ _ us hl => match us, hl with | [_, _, _], _ => rfl⟩
theorem df_flip_way : Df K mg "flip_way" s_flip_way P_flip_way := by
  obtain ⟨fd, F⟩ := c.def_ 15 (d := d_flip_way) rfl
  exact ⟨_, fd, F, He.glo_ok X G (c.fact 15 (f := .glo "flip_way") rfl), F.bindsN fun _ _ _ _ _ _ us hl => match us, hl with | [_, _, _], _ => rfl⟩
theorem df_law_taken : Df K mg "_law_taken" s_law_taken P_law_taken := by
  obtain ⟨fd, F⟩ := c.def_ 16 (d := d_law_taken) rfl
  exact ⟨_, fd, F, He.glo_ok X G (c.fact 16 (f := .glo "_law_taken") rfl), F.bindsN fun _ _ _ _ _ _ us hl => match us, hl with | [_, _], _ => rfl⟩
theorem df_law_pick : Df K mg "_law_pick" s_law_pick P_law_pick := by
  obtain ⟨fd, F⟩ := c.def_ 17 (d := d_law_pick) rfl
  exact ⟨_, fd, F, He.glo_ok X G (c.fact 17 (f := .glo "_law_pick") rfl), F.bindsN fun _ _ _ _ _ _ us hl => match us, hl with | [_, _], _ => rfl⟩
theorem df_law_alike : Df K mg "_law_alike" s_law_alike P_law_alike := by
  obtain ⟨fd, F⟩ := c.def_ 18 (d := d_law_alike) rfl
  exact ⟨_, fd, F, He.glo_ok X G (c.fact 18 (f := .glo "_law_alike") rfl), F.bindsN fun _ _ _ _ _ _ us hl => match us, hl with | [_, _], _ => rfl⟩
theorem df_law_after : Df K mg "_law_after" s_law_after P_law_after := by
  obtain ⟨fd, F⟩ := c.def_ 19 (d := d_law_after) rfl
  exact ⟨_, fd, F, He.glo_ok X G (c.fact 19 (f := .glo "_law_after") rfl), F.bindsN fun _ _ _ _ _ _ us hl => match us, hl with | [_, _], _ => rfl⟩
theorem df_law_region : Df K mg "_law_region" s_law_region P_law_region := by
  obtain ⟨fd, F⟩ := c.def_ 20 (d := d_law_region) rfl
  exact ⟨_, fd, F, He.glo_ok X G (c.fact 20 (f := .glo "_law_region") rfl), F.bindsN fun _ _ _ _ _ _ us hl => match us, hl with | [_, _, _], _ => rfl⟩
theorem df_law_spans : Df K mg "_law_spans" s_law_spans P_law_spans := by
  obtain ⟨fd, F⟩ := c.def_ 21 (d := d_law_spans) rfl
  exact ⟨_, fd, F, He.glo_ok X G (c.fact 21 (f := .glo "_law_spans") rfl), F.bindsN fun _ _ _ _ _ _ us hl => match us, hl with | [_], _ => rfl⟩
theorem df_law_plays : Df K mg "_law_plays" s_law_plays P_law_plays := by
  obtain ⟨fd, F⟩ := c.def_ 22 (d := d_law_plays) rfl
  exact ⟨_, fd, F, He.glo_ok X G (c.fact 22 (f := .glo "_law_plays") rfl), F.bindsN fun _ _ _ _ _ _ us hl => match us, hl with | [_], _ => rfl⟩
theorem df_law_count : Df K mg "_law_count" s_law_count P_law_count := by
  obtain ⟨fd, F⟩ := c.def_ 23 (d := d_law_count) rfl
  exact ⟨_, fd, F, He.glo_ok X G (c.fact 23 (f := .glo "_law_count") rfl), F.bindsN fun _ _ _ _ _ _ us hl => match us, hl with | [_], _ => rfl⟩
theorem df_law_few : Df K mg "_law_few" s_law_few P_law_few := by
  obtain ⟨fd, F⟩ := c.def_ 24 (d := d_law_few) rfl
  exact ⟨_, fd, F, He.glo_ok X G (c.fact 24 (f := .glo "_law_few") rfl), F.bindsN fun _ _ _ _ _ _ us hl => match us, hl with | [_, _], _ => rfl⟩
theorem tx : Tx mg where
  m_len := He.free_ok X G (c.fact 26 (f := .free "len") rfl)
  m_range := He.free_ok X G (c.fact 27 (f := .free "range") rfl)
  m_isinstance := He.free_ok X G (c.fact 28 (f := .free "isinstance") rfl)
  m_enumerate := He.free_ok X G (c.fact 29 (f := .free "enumerate") rfl)
  m_sorted := He.free_ok X G (c.fact 30 (f := .free "sorted") rfl)
  m_sum := He.free_ok X G (c.fact 31 (f := .free "sum") rfl)
  m_abs := He.free_ok X G (c.fact 32 (f := .free "abs") rfl)
  m_zip := He.free_ok X G (c.fact 33 (f := .free "zip") rfl)
  m_int := He.free_ok X G (c.fact 34 (f := .free "int") rfl)
  m_bool := He.free_ok X G (c.fact 35 (f := .free "bool") rfl)
  m_str := He.free_ok X G (c.fact 36 (f := .free "str") rfl)
  m_list := He.free_ok X G (c.fact 37 (f := .free "list") rfl)
  m_tuple := He.free_ok X G (c.fact 38 (f := .free "tuple") rfl)
  m_min := He.free_ok X G (c.fact 39 (f := .free "min") rfl)
  rooms := He.int_ok X G (c.fact 40 (f := .int "MOST_ROOMS" 60) rfl)
end
theorem facts {f : Addr} (X : K.In h) (G : h.Ns mainGlobals mg) (hfa : mg ("law" : Str) = some (.ref f)) (c : He.SaysD fa fn K) :
    ∃ fd : FuncData, (∀ (s : Shared) (v : Value), BindsTo s fd ⟨[v], []⟩ [("_law_script", v)]) ∧ ∀ base : Heap, K.In base → base.Ns mainGlobals mg → FnOk P w K mg base CX0 7 f fd ["_law_script"] (spLaw K) := by
  obtain ⟨fd, F⟩ := c.def_ 25 (d := d_law) rfl
  have e := hfa.symm.trans (He.glo_ok X G (c.fact 25 (f := .glo "law") rfl))
  cases e
  have b := FunD.bindsA (ps := ["_law_script"]) F fun _ _ _ _ _ _ us hl => match us, hl with | [_], _ => rfl
  refine ⟨fd, fun s v => b s [v] rfl, fun base _ _ => ?_⟩
  have T := tx X G c
  have C_is_int : Cal P w K mg base 1 "is_int" P_is_int (Pr K R_is_int) := ok_is_int (k := 0) (df_is_int X G c) T
  have C_is_in : Cal P w K mg base 2 "is_in" P_is_in (Pr K R_is_in) := ok_is_in (k := 1) (df_is_in X G c) T C_is_int (by decide)
  have C_is_column : Cal P w K mg base 3 "is_column" P_is_column (Pr K R_is_column) := ok_is_column (k := 2) (df_is_column X G c) T C_is_in (by decide)
  have C_fits_behind : Cal P w K mg base 1 "fits_behind" P_fits_behind (Pr K R_fits_behind) := ok_fits_behind (k := 0) (df_fits_behind X G c) T
  have C_need_region : Cal P w K mg base 4 "need_region" P_need_region (Pr K R_need_region) := ok_need_region (k := 3) (df_need_region X G c) T C_is_column (by decide) C_fits_behind (by decide)
  have C_end_of : Cal P w K mg base 1 "end_of" P_end_of (Pr K R_end_of) := ok_end_of (k := 0) (df_end_of X G c) T
  have C_is_open : Cal P w K mg base 1 "is_open" P_is_open (Pr K R_is_open) := ok_is_open (k := 0) (df_is_open X G c) T
  have C_after : Cal P w K mg base 1 "after" P_after (Pr K R_after) := ok_after (k := 0) (df_after X G c) T
  have C_spans_on : Cal P w K mg base 2 "spans_on" P_spans_on (Pr K R_spans_on) := ok_spans_on (k := 1) (df_spans_on X G c) T C_after (by decide)
  have C_need_play : Cal P w K mg base 2 "need_play" P_need_play (Pr K R_need_play) := ok_need_play (k := 1) (df_need_play X G c) T C_is_open (by decide) C_after (by decide) C_end_of (by decide)
  have C_rows_on : Cal P w K mg base 1 "rows_on" P_rows_on (Pr K R_rows_on) := ok_rows_on (k := 0) (df_rows_on X G c) T
  have C_need_plays : Cal P w K mg base 5 "need_plays" P_need_plays (Pr K R_need_plays) := ok_need_plays (k := 4) (df_need_plays X G c) T C_need_region (by decide) C_need_play (by decide)
  have C_flips_of : Cal P w K mg base 3 "flips_of" P_flips_of (PrN K Q_flips_of) := ok_flips_of (k := 2) (df_flips_of X G c) T C_spans_on (by decide) C_is_open (by decide) C_after (by decide)
  have C_flips : Cal P w K mg base 5 "flips" P_flips (PrN K Q_flips) := ok_flips (k := 4) (df_flips X G c) T C_need_region (by decide) C_need_play (by decide) C_flips_of (by decide)
  have C_flip_distance : Cal P w K mg base 6 "flip_distance" P_flip_distance (Pr K R_flip_distance) := ok_flip_distance (k := 5) (df_flip_distance X G c) T C_need_plays (by decide) C_rows_on (by decide)
  have C_flip_way : Cal P w K mg base 6 "flip_way" P_flip_way (PrN K Q_flip_way) := ok_flip_way (k := 5) (df_flip_way X G c) T C_need_plays (by decide) C_rows_on (by decide) C_flips_of (by decide)
  have C_law_taken : Cal P w K mg base 1 "_law_taken" P_law_taken (spTaken K) := ok_law_taken (k := 0) (df_law_taken X G c) T
  have C_law_pick : Cal P w K mg base 2 "_law_pick" P_law_pick (spPick K) := ok_law_pick (k := 1) (df_law_pick X G c) T C_law_taken (by decide)
  have C_law_alike0 : Cal P w K mg base 1 "_law_alike" P_law_alike (Pr K R_alike0) := ok_law_alike0 (k := 0) (df_law_alike X G c) T
  have C_law_alike : Cal P w K mg base 2 "_law_alike" P_law_alike (Pr K R_alike) := ok_law_alike (k := 1) (df_law_alike X G c) T C_law_alike0 (by decide)
  have C_law_after : Cal P w K mg base 1 "_law_after" P_law_after (Pr K R_after) := ok_law_after (k := 0) (df_law_after X G c) T
  have C_law_region : Cal P w K mg base 2 "_law_region" P_law_region (spRegion K) := ok_law_region (k := 1) (df_law_region X G c) T C_law_taken (by decide)
  have C_law_spans : Cal P w K mg base 1 "_law_spans" P_law_spans (Pr K R_law_spans) := ok_law_spans (k := 0) (df_law_spans X G c) T
  have C_law_plays : Cal P w K mg base 2 "_law_plays" P_law_plays (Pr K R_law_plays) := ok_law_plays (k := 1) (df_law_plays X G c) T C_law_spans (by decide) C_law_after (by decide)
  have C_law_count : Cal P w K mg base 2 "_law_count" P_law_count (PrN K Q_law_count) := ok_law_count (k := 1) (df_law_count X G c) T C_law_spans (by decide)
  have C_law_few : Cal P w K mg base 3 "_law_few" P_law_few (spFew K) := ok_law_few (k := 2) (df_law_few X G c) T C_law_region (by decide) C_law_count (by decide)
  exact F.ok sc_law (by rintro vs H Q E ⟨_, _, rfl, _⟩; rfl) (fun cdv A outer s H vs Q E hr hsp => ⟨_, PSs.nox (dv_law hr T C_law_few (by decide) C_law_plays (by decide) C_law_pick (by decide) C_law_alike (by decide) C_flips (by decide) C_flip_distance (by decide) C_flip_way (by decide)), rd_law vs H Q E hsp⟩)
end KH
set_option maxHeartbeats 0
open PySem PySem.W PySem.Calls PyProof.Rows
theorem PySem.Challenge.cw_keylanes_k58_whole_changes_holds : PySem.Challenge.rw_keylanes_k58_whole_changes.Holds := by
  w_on; o_law
  refine HandSHeadRun.head_any (r := OpenLaw.row PySem.Challenge.rw_keylanes_k58_whole_changes) (q := view (OpenLaw.row PySem.Challenge.rw_keylanes_k58_whole_changes).prog [35]) (H := KH.hk) (ob := KH.ob) (M := 3000) (loose := KH.loose) (d := HandSHeadRun.topDef (OpenLaw.row PySem.Challenge.rw_keylanes_k58_whole_changes).prog 35) (kwd := []) KH.ob_eq
    (by kernel_rfl) (fun s => by kernel_rfl) KH.run (by kernel_rfl) (by kernel_rfl) (by kernel_rfl) (by rfl) (by first | assumption | decide +kernel) (by decide +kernel) ⟨rfl, rfl, rfl, rfl, rfl, by decide +kernel⟩ ?hw ?hc
  case hw => w_witness2
  case hc =>
    refine L2.walk_ofE (l := PySem.Challenge.rw_keylanes_k58_whole_changes) (n := 63) (k := 7) (x := "_law_script") (CX := L2.CX0) rfl (by decide) (by kernel_rfl) ⟨rfl, by decide, by decide⟩ ?F (fun _ _ _ _ z => z)
    intro w mg fa h Y G hmg0
    obtain ⟨K, KX, c⟩ := Y
    have hmg : mg ("law" : PySem.Str) = some (.ref fa) := by
      have e : (HandSHeadRun.topDef (OpenLaw.row PySem.Challenge.rw_keylanes_k58_whole_changes).prog 35).name = ("law" : PySem.Str) := by kernel_rfl
      rw [← e]
      exact hmg0
    obtain ⟨fd, hb, hF⟩ := KH.facts (P := (PySem.Challenge.rw_keylanes_k58_whole_changes).prog) (w := w) KX G hmg c
    exact ⟨K, fd, KL.spLaw K, KX, hb, fun H a ns hl _ hS => ⟨a, ns, rfl, hS, hl, fun _ => rfl⟩, hF⟩
