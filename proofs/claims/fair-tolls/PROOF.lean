import PyProof.Rows.All
import Wide.All
import OpenK.AllK
import Wide.FinOn
import HandS.ForMost
import HandS.Wide
import HandS.Gcd
import HandS.TupAny
import HandS.DictComp
import HandS.Defaults
import HandS.Style
import HandS.IsInst
import HandS.Property
import HandS.Zip
import HandS.Evl
import HandS.EndBits
import HandS.Ends
import PySem.Challenge.RW_anycompany_k78_whole_fair_tolls
set_option linter.all false
set_option Elab.async false
/-! plain mathematics: sums over a row, leave systems, the greedy order -/
namespace AC

/-- a row of moves against a vector -/
def dot (row : List (Nat × Rat)) (x : Nat → Rat) : Rat :=
  match row with
  | [] => 0
  | tp :: r => tp.2 * x tp.1 + dot r x

theorem dot_congr {row : List (Nat × Rat)} {x y : Nat → Rat} (h : ∀ tp ∈ row, x tp.1 = y tp.1) : dot row x = dot row y := by
  induction row with
  | nil => rfl
  | cons tp r ih =>
    have h1 := h tp (List.mem_cons_self ..)
    have h2 := ih fun q hq => h q (List.mem_cons_of_mem _ hq)
    simp only [dot, h1, h2]

theorem dot_add (row : List (Nat × Rat)) (x y : Nat → Rat) : dot row (fun t => x t + y t) = dot row x + dot row y := by
  induction row with
  | nil => simp only [dot]; grind
  | cons tp r ih => simp only [dot, ih]; grind

theorem dot_mul (row : List (Nat × Rat)) (c : Rat) (x : Nat → Rat) : dot row (fun t => c * x t) = c * dot row x := by
  induction row with
  | nil => simp only [dot]; grind
  | cons tp r ih => simp only [dot, ih]; grind

theorem dot_lin (row : List (Nat × Rat)) (x y : Nat → Rat) (m : Rat) : dot row (fun t => x t + y t * m) = dot row x + dot row y * m := by
  induction row with
  | nil => simp only [dot]; grind
  | cons tp r ih => simp only [dot, ih]; grind

theorem dot_sub (row : List (Nat × Rat)) (x y : Nat → Rat) : dot row (fun t => x t - y t) = dot row x - dot row y := by
  induction row with
  | nil => simp only [dot]; grind
  | cons tp r ih => simp only [dot, ih]; grind

theorem dot_le {row : List (Nat × Rat)} {x y : Nat → Rat} (hp : ∀ tp ∈ row, 0 < tp.2) (h : ∀ tp ∈ row, x tp.1 ≤ y tp.1) : dot row x ≤ dot row y := by
  induction row with
  | nil => exact Rat.le_refl
  | cons tp r ih =>
    have h1 := h tp (List.mem_cons_self ..)
    have p1 := hp tp (List.mem_cons_self ..)
    have h2 := ih (fun q hq => hp q (List.mem_cons_of_mem _ hq)) fun q hq => h q (List.mem_cons_of_mem _ hq)
    have h3 : tp.2 * x tp.1 ≤ tp.2 * y tp.1 := Rat.mul_le_mul_of_nonneg_left h1 (Rat.le_of_lt p1)
    simp only [dot]
    grind

/-- a game: rewards and rows of moves -/
structure Gm where
  rs : List Rat
  ms : List (List (Nat × Rat))

def Gm.n (g : Gm) : Nat := g.rs.length
def Gm.rew (g : Gm) (s : Nat) : Rat := g.rs.getD s 0
def Gm.row (g : Gm) (s : Nat) : List (Nat × Rat) := g.ms.getD s []

structure Gm.Ok (g : Gm) : Prop where
  some : 0 < g.n
  len : g.ms.length = g.n
  tgt : ∀ s, ∀ tp ∈ g.row s, tp.1 < g.n
  pos : ∀ s, ∀ tp ∈ g.row s, 0 < tp.2
  one : ∀ s, s < g.n → dot (g.row s) (fun _ => 1) = 1

structure Disc (b : Rat) : Prop where
  nn : 0 ≤ b
  lt : b < 1

theorem exists_max (S : List Nat) (h : Nat → Rat) (hS : S ≠ []) : ∃ s ∈ S, ∀ t ∈ S, h t ≤ h s := by
  induction S with
  | nil => exact absurd rfl hS
  | cons a r ih =>
    by_cases hr : r = []
    · subst hr
      exact ⟨a, List.mem_cons_self .., fun t ht => by
        rcases List.mem_cons.mp ht with e | e
        · rw [e]; exact Rat.le_refl
        · cases e⟩
    · obtain ⟨s, hs, hm⟩ := ih hr
      by_cases hc : h s ≤ h a
      · refine ⟨a, List.mem_cons_self .., fun t ht => ?_⟩
        rcases List.mem_cons.mp ht with e | e
        · rw [e]; exact Rat.le_refl
        · exact Rat.le_trans (hm t e) hc
      · refine ⟨s, List.mem_cons_of_mem _ hs, fun t ht => ?_⟩
        rcases List.mem_cons.mp ht with e | e
        · rw [e]; grind
        · exact hm t e

section
variable {g : Gm} {b : Rat} {S : List Nat}

theorem dot_one_le (ok : g.Ok) {s : Nat} (hs : s < g.n) {x : Nat → Rat} {M : Rat} (h : ∀ tp ∈ g.row s, x tp.1 ≤ M) : dot (g.row s) x ≤ M := by
  have h1 := dot_le (x := x) (y := fun _ => M * 1) (ok.pos s) (fun tp ht => by have := h tp ht; grind)
  rw [dot_mul, ok.one s hs] at h1
  grind

theorem dot_nn (ok : g.Ok) {s : Nat} {x : Nat → Rat} (h : ∀ tp ∈ g.row s, 0 ≤ x tp.1) : 0 ≤ dot (g.row s) x := by
  have h1 := dot_le (x := fun t => 0 * x t) (y := x) (ok.pos s) (fun tp ht => by have := h tp ht; grind)
  rw [dot_mul] at h1
  grind

/-- the comparison principle -/
theorem comp (ok : g.Ok) (hb : Disc b) (hS : ∀ s ∈ S, s < g.n) {h : Nat → Rat}
    (le : ∀ s ∈ S, h s ≤ b * dot (g.row s) (fun t => if t ∈ S then h t else 0)) : ∀ s ∈ S, h s ≤ 0 := by
  by_cases he : S = []
  · subst he; intro s hs; cases hs
  · obtain ⟨s, hs, hm⟩ := exists_max S h he
    have hle := le s hs
    suffices hz : h s ≤ 0 by
      intro t ht
      exact Rat.le_trans (hm t ht) hz
    apply Classical.byContradiction
    intro hc
    have hpos : 0 < h s := by grind
    have h1 : dot (g.row s) (fun t => if t ∈ S then h t else 0) ≤ h s := dot_one_le ok (hS s hs) fun tp _ => by
      by_cases ht : tp.1 ∈ S
      · rw [if_pos ht]; exact hm _ ht
      · rw [if_neg ht]; grind
    have h2 : b * dot (g.row s) (fun t => if t ∈ S then h t else 0) ≤ b * h s := Rat.mul_le_mul_of_nonneg_left h1 hb.nn
    have h3 : 0 < (1 - b) * h s := Rat.mul_pos (by have := hb.lt; grind) hpos
    grind

/-- the leave values of a set -/
structure Lv (g : Gm) (b : Rat) (S : List Nat) (X Y : Nat → Rat) : Prop where
  x : ∀ s ∈ S, X s = g.rew s + b * dot (g.row s) (fun t => if t ∈ S then X t else 0)
  y : ∀ s ∈ S, Y s = b * dot (g.row s) (fun t => if t ∈ S then Y t else 1)

theorem dot_sub_if (row : List (Nat × Rat)) (X X' : Nat → Rat) (c : Rat) : dot row (fun t => if t ∈ S then X t - X' t else 0) = dot row (fun t => if t ∈ S then X t else c) - dot row (fun t => if t ∈ S then X' t else c) := by
  rw [← dot_sub]
  refine dot_congr fun tp _ => ?_
  show (if tp.1 ∈ S then X tp.1 - X' tp.1 else 0) = (if tp.1 ∈ S then X tp.1 else c) - (if tp.1 ∈ S then X' tp.1 else c)
  by_cases h : tp.1 ∈ S
  · rw [if_pos h, if_pos h, if_pos h]
  · rw [if_neg h, if_neg h, if_neg h]; grind

theorem uniq (ok : g.Ok) (hb : Disc b) (hS : ∀ s ∈ S, s < g.n) {r : Nat → Rat} {c : Rat} {X X' : Nat → Rat}
    (h1 : ∀ s ∈ S, X s = r s + b * dot (g.row s) (fun t => if t ∈ S then X t else c))
    (h2 : ∀ s ∈ S, X' s = r s + b * dot (g.row s) (fun t => if t ∈ S then X' t else c)) : ∀ s ∈ S, X s = X' s := by
  have a := comp ok hb hS (h := fun t => X t - X' t) (fun s hs => by
    have e := dot_sub_if (S := S) (g.row s) X X' c
    have := h1 s hs; have := h2 s hs
    simp only [e]
    grind)
  have d := comp ok hb hS (h := fun t => X' t - X t) (fun s hs => by
    have e := dot_sub_if (S := S) (g.row s) X' X c
    have := h1 s hs; have := h2 s hs
    simp only [e]
    grind)
  intro s hs
  have := a s hs; have := d s hs
  grind


theorem ite_nn (Y : Nat → Rat) (h : ∀ s ∈ S, 0 ≤ Y s) (t : Nat) : 0 ≤ (if t ∈ S then Y t else (1 : Rat)) := by
  by_cases ht : t ∈ S
  · rw [if_pos ht]; exact h t ht
  · rw [if_neg ht]; grind
theorem ite_le1 (Y : Nat → Rat) (h : ∀ s ∈ S, Y s ≤ 1) (t : Nat) : (if t ∈ S then Y t else (1 : Rat)) ≤ 1 := by
  by_cases ht : t ∈ S
  · rw [if_pos ht]; exact h t ht
  · rw [if_neg ht]; grind

section
variable {X Y : Nat → Rat} (ok : g.Ok) (hb : Disc b) (hS : ∀ s ∈ S, s < g.n) (L : Lv g b S X Y)
include ok hb hS L
theorem y_nn : ∀ s ∈ S, 0 ≤ Y s := by
  have a := comp ok hb hS (h := fun t => - Y t) (fun s hs => by
    have e := L.y s hs
    have h1 : dot (g.row s) (fun t => if t ∈ S then - Y t else 0) ≥ - dot (g.row s) (fun t => if t ∈ S then Y t else 1) := by
      have h2 : dot (g.row s) (fun t => (-1) * (if t ∈ S then Y t else 1)) ≤ dot (g.row s) (fun t => if t ∈ S then - Y t else 0) := dot_le (ok.pos s) fun tp _ => by
        by_cases ht : tp.1 ∈ S
        · rw [if_pos ht, if_pos ht]; grind
        · rw [if_neg ht, if_neg ht]; grind
      rw [dot_mul] at h2
      grind
    have h3 := Rat.mul_le_mul_of_nonneg_left h1 hb.nn
    grind)
  intro s hs
  have := a s hs
  grind
theorem y_le1 : ∀ s ∈ S, Y s ≤ 1 := by
  have a := comp ok hb hS (h := fun t => Y t - 1) (fun s hs => by
    have e := L.y s hs
    have h2 : dot (g.row s) (fun t => (if t ∈ S then Y t else 1) - 1) ≤ dot (g.row s) (fun t => if t ∈ S then Y t - 1 else 0) := dot_le (ok.pos s) fun tp _ => by
        by_cases ht : tp.1 ∈ S
        · rw [if_pos ht, if_pos ht]; grind
        · rw [if_neg ht, if_neg ht]; grind
    rw [dot_sub, ok.one s (hS s hs)] at h2
    have h3 := Rat.mul_le_mul_of_nonneg_left h2 hb.nn
    have := hb.lt
    grind)
  intro s hs
  have := a s hs
  grind
end

/-- what one play and then the leave values earn, and their factor -/
def Ee (g : Gm) (b : Rat) (S : List Nat) (X : Nat → Rat) (s : Nat) : Rat := g.rew s + b * dot (g.row s) (fun t => if t ∈ S then X t else 0)
def Ff (g : Gm) (b : Rat) (S : List Nat) (Y : Nat → Rat) (s : Nat) : Rat := b * dot (g.row s) (fun t => if t ∈ S then Y t else 1)
def cand (g : Gm) (b : Rat) (S : List Nat) (X Y : Nat → Rat) (s : Nat) : Rat := Ee g b S X s / (1 - Ff g b S Y s)
/-- inside the leave values at the amount, outside the amount -/
def Gv (S : List Nat) (X Y : Nat → Rat) (m : Rat) (t : Nat) : Rat := if t ∈ S then X t + Y t * m else m
def play (g : Gm) (b : Rat) (s : Nat) (f : Nat → Rat) : Rat := g.rew s + b * dot (g.row s) f

theorem play_Gv (s : Nat) (X Y : Nat → Rat) (m : Rat) : play g b s (Gv S X Y m) = Ee g b S X s + Ff g b S Y s * m := by
  have e : dot (g.row s) (Gv S X Y m) = dot (g.row s) (fun t => (if t ∈ S then X t else 0) + (if t ∈ S then Y t else 1) * m) := dot_congr fun tp _ => by
    unfold Gv
    by_cases h : tp.1 ∈ S
    · rw [if_pos h, if_pos h, if_pos h]
    · rw [if_neg h, if_neg h, if_neg h]; grind
  unfold play Ee Ff
  rw [e, dot_lin]
  grind
theorem Gv_in {s : Nat} {X Y : Nat → Rat} {m : Rat} (h : s ∈ S) : Gv S X Y m s = X s + Y s * m := if_pos h
theorem Gv_out {s : Nat} {X Y : Nat → Rat} {m : Rat} (h : s ∉ S) : Gv S X Y m s = m := if_neg h

section
variable {X Y : Nat → Rat} (ok : g.Ok) (hb : Disc b) (hS : ∀ s ∈ S, s < g.n) (L : Lv g b S X Y)
include L
theorem Ee_in {s : Nat} (h : s ∈ S) : Ee g b S X s = X s := (L.x s h).symm
theorem Ff_in {s : Nat} (h : s ∈ S) : Ff g b S Y s = Y s := (L.y s h).symm
include ok hb hS
theorem Ff_nn {s : Nat} : 0 ≤ Ff g b S Y s := by
  have h1 := dot_nn (s := s) ok (x := fun t => if t ∈ S then Y t else 1) fun tp _ => ite_nn Y (y_nn ok hb hS L) tp.1
  unfold Ff
  exact Rat.mul_nonneg hb.nn h1
theorem Ff_le {s : Nat} (hs : s < g.n) : Ff g b S Y s ≤ b := by
  have h1 := dot_one_le (s := s) ok hs (x := fun t => if t ∈ S then Y t else 1) (M := 1) fun tp _ => ite_le1 Y (y_le1 ok hb hS L) tp.1
  have h2 := Rat.mul_le_mul_of_nonneg_left h1 hb.nn
  unfold Ff
  grind
theorem Ff_lt {s : Nat} (hs : s < g.n) : Ff g b S Y s < 1 := by
  have := Ff_le ok hb hS L hs
  have := hb.lt
  grind
theorem y_le : ∀ s ∈ S, Y s ≤ b := fun s hs => by
  rw [← Ff_in L hs]
  exact Ff_le ok hb hS L (hS s hs)
theorem cand_eq {s : Nat} (hs : s < g.n) : Ee g b S X s + Ff g b S Y s * cand g b S X Y s = cand g b S X Y s := by
  have h := Ff_lt ok hb hS L hs
  unfold cand
  have : (1 - Ff g b S Y s) ≠ 0 := by grind
  grind
theorem cand_le {s : Nat} (hs : s < g.n) {m : Rat} (h : cand g b S X Y s ≤ m) : Ee g b S X s + Ff g b S Y s * m ≤ m := by
  have e := cand_eq ok hb hS L hs
  have l := Ff_lt ok hb hS L hs
  have := Rat.mul_nonneg (show 0 ≤ 1 - Ff g b S Y s by grind) (show 0 ≤ m - cand g b S X Y s by grind)
  grind
theorem le_cand {s : Nat} (hs : s < g.n) {m : Rat} (h : Ee g b S X s + Ff g b S Y s * m ≤ m) : cand g b S X Y s ≤ m := by
  have e := cand_eq ok hb hS L hs
  have l := Ff_lt ok hb hS L hs
  apply Classical.byContradiction
  intro hc
  have := Rat.mul_pos (show 0 < 1 - Ff g b S Y s by grind) (show 0 < cand g b S X Y s - m by grind)
  grind
/-- more amount, not more above the amount -/
theorem above {s : Nat} (hs : s ∈ S) {m m' : Rat} (hm : m' ≤ m) (h : m ≤ X s + Y s * m) : m' ≤ X s + Y s * m' := by
  have l := y_le1 ok hb hS L s hs
  have := Rat.mul_nonneg (show 0 ≤ 1 - Y s by grind) (show 0 ≤ m - m' by grind)
  grind
end

/-- a state joins: at its candidate the two sets are worth the same -/
theorem join {X Y X' Y' : Nat → Rat} {S' : List Nat} (ok : g.Ok) (hb : Disc b) (hS : ∀ s ∈ S, s < g.n) (L : Lv g b S X Y) (L' : Lv g b S' X' Y')
    {z : Nat} (hz : z < g.n) (hS' : ∀ t, t ∈ S' ↔ t ∈ S ∨ t = z) (t : Nat) : Gv S' X' Y' (cand g b S X Y z) t = Gv S X Y (cand g b S X Y z) t := by
  have hn : ∀ s ∈ S', s < g.n := fun s hs => by
    rcases (hS' s).mp hs with h | h
    · exact hS s h
    · rw [h]; exact hz
  by_cases ht : t ∈ S'
  · have key := uniq ok hb hn (r := fun s => g.rew s) (c := cand g b S X Y z) (X := Gv S' X' Y' (cand g b S X Y z)) (X' := Gv S X Y (cand g b S X Y z)) (fun s hs => by
      have e : dot (g.row s) (fun t => if t ∈ S' then Gv S' X' Y' (cand g b S X Y z) t else cand g b S X Y z) = dot (g.row s) (Gv S' X' Y' (cand g b S X Y z)) := dot_congr fun tp _ => by
        by_cases h : tp.1 ∈ S'
        · rw [if_pos h]
        · rw [if_neg h, Gv_out h]
      simp only [e]
      have e2 := play_Gv (g := g) (b := b) (S := S') s X' Y' (cand g b S X Y z)
      unfold play at e2
      rw [e2, Gv_in hs, Ee_in L' hs, Ff_in L' hs]) (fun s hs => by
      have e : dot (g.row s) (fun t => if t ∈ S' then Gv S X Y (cand g b S X Y z) t else cand g b S X Y z) = dot (g.row s) (Gv S X Y (cand g b S X Y z)) := dot_congr fun tp _ => by
        by_cases h : tp.1 ∈ S'
        · rw [if_pos h]
        · rw [if_neg h, Gv_out fun q => h ((hS' _).mpr (.inl q))]
      simp only [e]
      have e2 := play_Gv (g := g) (b := b) (S := S) s X Y (cand g b S X Y z)
      unfold play at e2
      rw [e2]
      by_cases h : s ∈ S
      · rw [Gv_in h, Ee_in L h, Ff_in L h]
      · rw [Gv_out h]
        rcases (hS' s).mp hs with q | q
        · exact absurd q h
        · subst q
          exact (cand_eq ok hb hS L hz).symm)
    exact key t ht
  · rw [Gv_out ht, Gv_out fun q => ht ((hS' _).mpr (.inl q))]

/-- a greater set has no greater factors -/
theorem y_mono {X Y X' Y' : Nat → Rat} {S' : List Nat} (ok : g.Ok) (hb : Disc b) (hS : ∀ s ∈ S, s < g.n) (hn : ∀ s ∈ S', s < g.n) (L : Lv g b S X Y) (L' : Lv g b S' X' Y') (sub : ∀ s ∈ S, s ∈ S') {s : Nat} (hs : s ∈ S') : Y' s ≤ Ff g b S Y s ∧ (s ∈ S → Y' s ≤ Y s) := by
  have key := comp ok hb hn (h := fun t => Y' t - (if t ∈ S then Y t else 1)) (fun s hs => by
    have e := L'.y s hs
    have e1 : (if s ∈ S then Y s else 1) ≥ Ff g b S Y s := by
      by_cases h : s ∈ S
      · rw [if_pos h, Ff_in L h]; exact Rat.le_refl
      · rw [if_neg h]; have := Ff_lt ok hb hS L (hn s hs); grind
    have e2 : dot (g.row s) (fun t => if t ∈ S' then Y' t - (if t ∈ S then Y t else 1) else 0) = dot (g.row s) (fun t => if t ∈ S' then Y' t else 1) - dot (g.row s) (fun t => if t ∈ S then Y t else 1) := by
      rw [← dot_sub]
      refine dot_congr fun tp _ => ?_
      show (if tp.1 ∈ S' then Y' tp.1 - (if tp.1 ∈ S then Y tp.1 else 1) else 0) = (if tp.1 ∈ S' then Y' tp.1 else 1) - (if tp.1 ∈ S then Y tp.1 else 1)
      by_cases h : tp.1 ∈ S'
      · rw [if_pos h, if_pos h]
      · rw [if_neg h, if_neg h, if_neg fun q => h (sub _ q)]; grind
    simp only [e2]
    unfold Ff at e1
    grind)
  have all : ∀ t, (if t ∈ S' then Y' t else 1) ≤ (if t ∈ S then Y t else (1 : Rat)) := fun t => by
    by_cases h : t ∈ S'
    · have := key t h
      rw [if_pos h]
      grind
    · rw [if_neg h, if_neg fun q => h (sub _ q)]; exact Rat.le_refl
  have a1 : Y' s ≤ Ff g b S Y s := by
    rw [L'.y s hs]
    unfold Ff
    exact Rat.mul_le_mul_of_nonneg_left (dot_le (ok.pos s) fun tp _ => all tp.1) hb.nn
  exact ⟨a1, fun h => by rw [← Ff_in L h]; exact a1⟩

end
end AC

set_option linter.all false
set_option Elab.async false
/-! plain mathematics: the greedy order and the curve of a state -/
namespace AC

/-! ### counting -/
theorem nodup_sub_len : ∀ {l l' : List Nat}, l.Nodup → (∀ x ∈ l, x ∈ l') → l.length ≤ l'.length
  | [], _, _, _ => Nat.zero_le _
  | a :: r, l', hn, hs => by
    have ha : a ∈ l' := hs a (List.mem_cons_self ..)
    have h1 : r.length ≤ (l'.erase a).length := nodup_sub_len (List.nodup_cons.mp hn).2 fun x hx => by
      have hne : x ≠ a := fun e => (List.nodup_cons.mp hn).1 (e ▸ hx)
      exact (List.mem_erase_of_ne hne).mpr (hs x (List.mem_cons_of_mem _ hx))
    have h2 := List.length_erase_of_mem ha
    have h3 : 0 < l'.length := List.length_pos_of_mem ha
    show r.length + 1 ≤ l'.length
    omega

/-! ### the greatest candidate -/
def pickTo (f : Nat → Rat) (S : List Nat) : Nat → Option (Nat × Rat)
  | 0 => none
  | k + 1 => if k ∈ S then pickTo f S k else match pickTo f S k with
    | none => some (k, f k)
    | some p => if p.2 < f k then some (k, f k) else some p

theorem pickTo_none {f : Nat → Rat} {S : List Nat} : ∀ {k : Nat}, pickTo f S k = none → ∀ t, t < k → t ∈ S
  | 0, _, t, ht => absurd ht (Nat.not_lt_zero _)
  | k + 1, h, t, ht => by
    unfold pickTo at h
    by_cases hk : k ∈ S
    · rw [if_pos hk] at h
      by_cases e : t = k
      · rw [e]; exact hk
      · exact pickTo_none h t (by omega)
    · rw [if_neg hk] at h
      cases q : pickTo f S k with
      | none => rw [q] at h; cases h
      | some p =>
        rw [q] at h
        have h' : (if p.2 < f k then some (k, f k) else some p) = none := h
        by_cases c : p.2 < f k
        · rw [if_pos c] at h'; cases h'
        · rw [if_neg c] at h'; cases h'

theorem pickTo_some {f : Nat → Rat} {S : List Nat} : ∀ {k : Nat} {p : Nat × Rat}, pickTo f S k = some p → p.1 < k ∧ p.1 ∉ S ∧ p.2 = f p.1 ∧ ∀ t, t < k → t ∉ S → f t ≤ p.2
  | 0, _, h => by cases h
  | k + 1, p, h => by
    unfold pickTo at h
    by_cases hk : k ∈ S
    · rw [if_pos hk] at h
      obtain ⟨a, b, c, d⟩ := pickTo_some h
      refine ⟨by omega, b, c, fun t ht hS => ?_⟩
      by_cases e : t = k
      · subst e; exact absurd hk hS
      · exact d t (by omega) hS
    · rw [if_neg hk] at h
      cases q : pickTo f S k with
      | none =>
        rw [q] at h
        cases h
        refine ⟨by simp, hk, rfl, fun t ht hS => ?_⟩
        by_cases e : t = k
        · rw [e]; exact Rat.le_refl
        · exact absurd (pickTo_none q t (by omega)) hS
      | some p0 =>
        rw [q] at h
        obtain ⟨a, b, c, d⟩ := pickTo_some q
        have h' : (if p0.2 < f k then some (k, f k) else some p0) = some p := h
        by_cases cc : p0.2 < f k
        · rw [if_pos cc] at h'
          cases h'
          refine ⟨by simp, hk, rfl, fun t ht hS => ?_⟩
          by_cases e : t = k
          · rw [e]; exact Rat.le_refl
          · have := d t (by omega) hS
            show f t ≤ f k
            grind
        · rw [if_neg cc] at h'
          cases h'
          refine ⟨by omega, b, c, fun t ht hS => ?_⟩
          by_cases e : t = k
          · rw [e]; grind
          · exact d t (by omega) hS

/-- the states of a list, in ascending order -/
def srt (n : Nat) (l : List Nat) : List Nat := (List.range n).filter fun t => decide (t ∈ l)
theorem mem_srt {n : Nat} {l : List Nat} {t : Nat} : t ∈ srt n l ↔ t < n ∧ t ∈ l := by
  unfold srt
  rw [List.mem_filter, List.mem_range, decide_eq_true_iff]
theorem srt_nodup (n : Nat) (l : List Nat) : (srt n l).Nodup := List.Pairwise.filter _ List.nodup_range
theorem srt_lt {n : Nat} {l : List Nat} : ∀ t ∈ srt n l, t < n := fun _ h => (mem_srt.mp h).1

/-- leave values of every set -/
structure Fam (g : Gm) (b : Rat) (XS YS : List Nat → Nat → Rat) : Prop where
  ok : g.Ok
  disc : Disc b
  lv : ∀ S : List Nat, S.Nodup → (∀ s ∈ S, s < g.n) → Lv g b S (XS S) (YS S)

section
variable (g : Gm) (b : Rat) (XS YS : List Nat → Nat → Rat)
def nxt (S : List Nat) : Nat × Rat := (pickTo (cand g b S (XS S) (YS S)) S g.n).getD (0, 0)
def ordTo : Nat → List (Nat × Rat)
  | 0 => []
  | k + 1 => ordTo k ++ [nxt g b XS YS (srt g.n ((ordTo k).map (·.1)))]
def Ss (k : Nat) : List Nat := srt g.n ((ordTo g b XS YS k).map (·.1))
def pk (k : Nat) : Nat × Rat := nxt g b XS YS (Ss g b XS YS k)
end
section
variable {g : Gm} {b : Rat} {XS YS : List Nat → Nat → Rat}
theorem ordTo_succ (k : Nat) : ordTo g b XS YS (k + 1) = ordTo g b XS YS k ++ [pk g b XS YS k] := rfl
theorem ordTo_eq : ∀ k, ordTo g b XS YS k = (List.range k).map (pk g b XS YS)
  | 0 => rfl
  | k + 1 => by rw [ordTo_succ, ordTo_eq k, List.range_succ, List.map_append] <;> rfl
theorem ordTo_len (k : Nat) : (ordTo g b XS YS k).length = k := by rw [ordTo_eq, List.length_map, List.length_range]
theorem ordTo_get {k i : Nat} (h : i < k) : (ordTo g b XS YS k)[i]? = some (pk g b XS YS i) := by
  rw [ordTo_eq, List.getElem?_map, List.getElem?_range h] <;> rfl
theorem ordTo_take {k i : Nat} (h : i ≤ k) : (ordTo g b XS YS k).take i = ordTo g b XS YS i := by
  rw [ordTo_eq, ordTo_eq, ← List.map_take, List.take_range, Nat.min_eq_left h]
theorem mem_Ss {k t : Nat} : t ∈ Ss g b XS YS k ↔ t < g.n ∧ ∃ i, i < k ∧ (pk g b XS YS i).1 = t := by
  unfold Ss
  rw [mem_srt, ordTo_eq, List.map_map]
  refine and_congr Iff.rfl ?_
  rw [List.mem_map]
  exact ⟨fun ⟨i, hi, e⟩ => ⟨i, List.mem_range.mp hi, e⟩, fun ⟨i, hi, e⟩ => ⟨i, List.mem_range.mpr hi, e⟩⟩
theorem Ss_nodup (k : Nat) : (Ss g b XS YS k).Nodup := srt_nodup _ _
theorem Ss_lt {k : Nat} : ∀ t ∈ Ss g b XS YS k, t < g.n := srt_lt

theorem pk_spec {k : Nat} (hk : k < g.n) : (pk g b XS YS k).1 < g.n ∧ (pk g b XS YS k).1 ∉ Ss g b XS YS k ∧
    (pk g b XS YS k).2 = cand g b (Ss g b XS YS k) (XS (Ss g b XS YS k)) (YS (Ss g b XS YS k)) (pk g b XS YS k).1 ∧
    ∀ t, t < g.n → t ∉ Ss g b XS YS k → cand g b (Ss g b XS YS k) (XS (Ss g b XS YS k)) (YS (Ss g b XS YS k)) t ≤ (pk g b XS YS k).2 := by
  unfold pk nxt
  cases q : pickTo (cand g b (Ss g b XS YS k) (XS (Ss g b XS YS k)) (YS (Ss g b XS YS k))) (Ss g b XS YS k) g.n with
  | none =>
    have h := pickTo_none q
    have h1 : (List.range g.n).length ≤ ((ordTo g b XS YS k).map (·.1)).length := nodup_sub_len List.nodup_range fun x hx => (mem_srt.mp (h x (List.mem_range.mp hx))).2
    rw [List.length_range, List.length_map, ordTo_len] at h1
    omega
  | some p => exact pickTo_some q

theorem mem_Ss_succ {k : Nat} (hk : k < g.n) (t : Nat) : t ∈ Ss g b XS YS (k + 1) ↔ t ∈ Ss g b XS YS k ∨ t = (pk g b XS YS k).1 := by
  rw [mem_Ss, mem_Ss]
  constructor
  · rintro ⟨h, i, hi, e⟩
    by_cases c : i = k
    · right; rw [← e, c]
    · left; exact ⟨h, i, by omega, e⟩
  · rintro (⟨h, i, hi, e⟩ | e)
    · exact ⟨h, i, by omega, e⟩
    · exact ⟨e ▸ (pk_spec hk).1, k, by omega, e.symm⟩

theorem Ss_sub {i k : Nat} (h : i ≤ k) : ∀ t ∈ Ss g b XS YS i, t ∈ Ss g b XS YS k := fun t ht => by
  obtain ⟨a, j, hj, e⟩ := mem_Ss.mp ht
  exact mem_Ss.mpr ⟨a, j, by omega, e⟩

theorem fst_nodup : ∀ k, k ≤ g.n → ((ordTo g b XS YS k).map (·.1)).Nodup
  | 0, _ => List.nodup_nil
  | k + 1, h => by
    rw [ordTo_succ, List.map_append, List.nodup_append]
    refine ⟨fst_nodup k (by omega), by simp, fun a ha c hc e => ?_⟩
    have h1 := pk_spec (g := g) (b := b) (XS := XS) (YS := YS) (k := k) (by omega)
    simp only [List.map_cons, List.map_nil, List.mem_singleton] at hc
    subst hc
    subst e
    exact h1.2.1 (mem_srt.mpr ⟨h1.1, ha⟩)

theorem Ss_all {t : Nat} (ht : t < g.n) : t ∈ Ss g b XS YS g.n := by
  apply Classical.byContradiction
  intro hc
  have hn : (t :: (ordTo g b XS YS g.n).map (·.1)).Nodup := List.nodup_cons.mpr ⟨fun h => hc (mem_srt.mpr ⟨ht, h⟩), fst_nodup _ (Nat.le_refl _)⟩
  have h1 := nodup_sub_len (l' := List.range g.n) hn fun x hx => by
    rcases List.mem_cons.mp hx with e | e
    · rw [e]; exact List.mem_range.mpr ht
    · rw [ordTo_eq, List.map_map] at e
      obtain ⟨i, hi, e'⟩ := List.mem_map.mp e
      rw [← e']
      exact List.mem_range.mpr (pk_spec (List.mem_range.mp hi)).1
  rw [List.length_range, List.length_cons, List.length_map, ordTo_len] at h1
  omega

/-- inside after k steps, at the amount -/
def Gk (g : Gm) (b : Rat) (XS YS : List Nat → Nat → Rat) (k : Nat) (m : Rat) (t : Nat) : Rat := Gv (Ss g b XS YS k) (XS (Ss g b XS YS k)) (YS (Ss g b XS YS k)) m t
def ci (g : Gm) (b : Rat) (XS YS : List Nat → Nat → Rat) (k : Nat) : Rat := (pk g b XS YS k).2

variable (W : Fam g b XS YS)
include W
theorem Fam.l (k : Nat) : Lv g b (Ss g b XS YS k) (XS (Ss g b XS YS k)) (YS (Ss g b XS YS k)) := W.lv _ (Ss_nodup k) Ss_lt

theorem Gk_join {k : Nat} (hk : k < g.n) (t : Nat) : Gk g b XS YS (k + 1) (ci g b XS YS k) t = Gk g b XS YS k (ci g b XS YS k) t := by
  obtain ⟨h1, h2, h3, h4⟩ := pk_spec (g := g) (b := b) (XS := XS) (YS := YS) hk
  have := join W.ok W.disc Ss_lt (W.l k) (W.l (k + 1)) h1 (mem_Ss_succ hk) t
  unfold Gk ci
  rw [h3]
  exact this

theorem ci_succ {k : Nat} (hk : k + 1 < g.n) : ci g b XS YS (k + 1) ≤ ci g b XS YS k := by
  obtain ⟨h1, h2, h3, h4⟩ := pk_spec (g := g) (b := b) (XS := XS) (YS := YS) hk
  obtain ⟨k1, k2, k3, k4⟩ := pk_spec (g := g) (b := b) (XS := XS) (YS := YS) (k := k) (by omega)
  have hm := mem_Ss_succ (g := g) (b := b) (XS := XS) (YS := YS) (k := k) (by omega)
  have hout : (pk g b XS YS (k + 1)).1 ∉ Ss g b XS YS k := fun q => h2 ((hm _).mpr (.inl q))
  have a1 := cand_le W.ok W.disc Ss_lt (W.l k) h1 (k4 _ h1 hout)
  show (pk g b XS YS (k + 1)).2 ≤ ci g b XS YS k
  rw [h3]
  refine le_cand W.ok W.disc Ss_lt (W.l (k + 1)) h1 ?_
  rw [← play_Gv]
  rw [← play_Gv] at a1
  have e : play g b (pk g b XS YS (k + 1)).1 (Gk g b XS YS (k + 1) (ci g b XS YS k)) = play g b (pk g b XS YS (k + 1)).1 (Gk g b XS YS k (ci g b XS YS k)) := by
    unfold play
    rw [dot_congr fun tp _ => Gk_join W (k := k) (by omega) tp.1]
  show play g b (pk g b XS YS (k + 1)).1 (Gk g b XS YS (k + 1) (ci g b XS YS k)) ≤ ci g b XS YS k
  rw [e]
  exact a1

theorem ci_anti {i k : Nat} (h : i ≤ k) (hk : k < g.n) : ci g b XS YS k ≤ ci g b XS YS i := by
  induction k with
  | zero => rw [show i = 0 by omega]; exact Rat.le_refl
  | succ k ih =>
    by_cases e : i = k + 1
    · rw [e]; exact Rat.le_refl
    · exact Rat.le_trans (ci_succ W hk) (ih (by omega) (by omega))

theorem abv : ∀ (k : Nat), k ≤ g.n → ∀ m : Rat, (∀ i, i < k → m ≤ ci g b XS YS i) → ∀ s ∈ Ss g b XS YS k, m ≤ Gk g b XS YS k m s
  | 0, _, m, _, s, hs => by
    obtain ⟨_, i, hi, _⟩ := mem_Ss.mp hs
    exact absurd hi (Nat.not_lt_zero _)
  | k + 1, hk, m, hm, s, hs => by
    have h1 : ci g b XS YS k ≤ Gk g b XS YS (k + 1) (ci g b XS YS k) s := by
      rw [Gk_join W (by omega)]
      by_cases h : s ∈ Ss g b XS YS k
      · exact abv k (by omega) _ (fun i hi => ci_anti W (by omega) (by omega)) s h
      · unfold Gk
        rw [Gv_out h]
        exact Rat.le_refl
    unfold Gk at h1 ⊢
    rw [Gv_in hs] at h1 ⊢
    exact above W.ok W.disc Ss_lt (W.l (k + 1)) hs (hm k (by omega)) h1

/-- so many steps belong to the amount -/
structure Fits (g : Gm) (b : Rat) (XS YS : List Nat → Nat → Rat) (m : Rat) (k : Nat) : Prop where
  le : k ≤ g.n
  up : ∀ i, i < k → m ≤ ci g b XS YS i
  dn : k < g.n → ci g b XS YS k ≤ m

omit W in
theorem Gk_play_in {k : Nat} {m : Rat} {s : Nat} (W : Fam g b XS YS) (hs : s ∈ Ss g b XS YS k) : play g b s (Gk g b XS YS k m) = Gk g b XS YS k m s := by
  unfold Gk
  rw [play_Gv, Gv_in hs, Ee_in (W.l k) hs, Ff_in (W.l k) hs]

/-- the table of stopping: either the amount, or what playing on gives, whichever is greater -/
theorem optimal {m : Rat} {k : Nat} (F : Fits g b XS YS m k) {s : Nat} (hs : s < g.n) :
    (m ≤ play g b s (Gk g b XS YS k m) ∧ Gk g b XS YS k m s = play g b s (Gk g b XS YS k m)) ∨ (play g b s (Gk g b XS YS k m) ≤ m ∧ Gk g b XS YS k m s = m) := by
  by_cases h : s ∈ Ss g b XS YS k
  · left
    have e := Gk_play_in (m := m) W h
    rw [e]
    exact ⟨abv W k F.le m F.up s h, rfl⟩
  · right
    have hk : k < g.n := by
      rcases Nat.lt_or_ge k g.n with q | q
      · exact q
      · have : k = g.n := Nat.le_antisymm F.le q
        subst this
        exact absurd (Ss_all hs) h
    obtain ⟨h1, h2, h3, h4⟩ := pk_spec (g := g) (b := b) (XS := XS) (YS := YS) hk
    refine ⟨?_, Gv_out h⟩
    unfold Gk
    rw [play_Gv]
    exact cand_le W.ok W.disc Ss_lt (W.l k) hs (Rat.le_trans (h4 s hs h) (F.dn hk))

theorem Gk_same_step {m : Rat} {k d : Nat} (F : Fits g b XS YS m k) (F' : Fits g b XS YS m (k + d)) (t : Nat) : Gk g b XS YS (k + d) m t = Gk g b XS YS k m t := by
  induction d with
  | zero => rfl
  | succ d ih =>
    have hlt : k + d < g.n := by have := F'.le; omega
    have a1 : m ≤ ci g b XS YS (k + d) := F'.up (k + d) (by omega)
    have a2 : ci g b XS YS (k + d) ≤ m := Rat.le_trans (ci_anti W (i := k) (by omega) hlt) (F.dn (by omega))
    have e : m = ci g b XS YS (k + d) := by grind
    have F2 : Fits g b XS YS m (k + d) := ⟨by omega, fun i hi => F'.up i (by omega), fun _ => a2⟩
    have j := Gk_join W hlt t
    rw [← e] at j
    rw [← ih F2]
    exact j
theorem Gk_same {m : Rat} {k k' : Nat} (F : Fits g b XS YS m k) (F' : Fits g b XS YS m k') (t : Nat) : Gk g b XS YS k' m t = Gk g b XS YS k m t := by
  rcases Nat.le_total k k' with h | h
  · obtain ⟨d, rfl⟩ := Nat.exists_eq_add_of_le h
    exact Gk_same_step W F F' t
  · obtain ⟨d, rfl⟩ := Nat.exists_eq_add_of_le h
    exact (Gk_same_step W F' F t).symm

/-- how many indexes are greater -/
def cntTo (g : Gm) (b : Rat) (XS YS : List Nat → Nat → Rat) (m : Rat) : Nat → Nat
  | 0 => 0
  | k + 1 => if m < ci g b XS YS k then k + 1 else cntTo g b XS YS m k
omit W in
theorem cntTo_le (m : Rat) : ∀ k, cntTo g b XS YS m k ≤ k
  | 0 => Nat.le_refl _
  | k + 1 => by
    unfold cntTo
    by_cases h : m < ci g b XS YS k
    · rw [if_pos h]; exact Nat.le_refl _
    · rw [if_neg h]; have := cntTo_le m k; omega
theorem cntTo_up (m : Rat) : ∀ k, k ≤ g.n → ∀ i, i < cntTo g b XS YS m k → m < ci g b XS YS i
  | 0, _, i, h => absurd h (Nat.not_lt_zero _)
  | k + 1, hk, i, h => by
    unfold cntTo at h
    by_cases c : m < ci g b XS YS k
    · rw [if_pos c] at h
      have := ci_anti W (i := i) (k := k) (by omega) (by omega)
      grind
    · rw [if_neg c] at h
      exact cntTo_up m k (by omega) i h
omit W in
theorem cntTo_dn (m : Rat) : ∀ k i, i < k → cntTo g b XS YS m k ≤ i → ci g b XS YS i ≤ m
  | 0, i, h, _ => absurd h (Nat.not_lt_zero _)
  | k + 1, i, h, h2 => by
    unfold cntTo at h2
    by_cases c : m < ci g b XS YS k
    · rw [if_pos c] at h2; omega
    · rw [if_neg c] at h2
      by_cases e : i = k
      · rw [e]; grind
      · exact cntTo_dn m k i (by omega) h2
omit W in
def cnt (g : Gm) (b : Rat) (XS YS : List Nat → Nat → Rat) (m : Rat) : Nat := cntTo g b XS YS m g.n
theorem cnt_fits (m : Rat) : Fits g b XS YS m (cnt g b XS YS m) :=
  ⟨cntTo_le m _, fun i hi => by have := cntTo_up W m _ (Nat.le_refl _) i hi; grind, fun h => cntTo_dn m _ _ h (Nat.le_refl _)⟩
theorem cnt_mem {m : Rat} {i : Nat} (hi : i < g.n) : m < ci g b XS YS i ↔ i < cnt g b XS YS m :=
  ⟨fun h => by
    apply Classical.byContradiction
    intro c
    have := cntTo_dn (g := g) (b := b) (XS := XS) (YS := YS) m g.n i hi (by unfold cnt at c; omega)
    grind, fun h => cntTo_up W m _ (Nat.le_refl _) i h⟩
omit W in
/-- the best gain with a stop amount -/
def fval (g : Gm) (b : Rat) (XS YS : List Nat → Nat → Rat) (m : Rat) (s : Nat) : Rat := Gk g b XS YS (cnt g b XS YS m) m s
theorem fval_of {m : Rat} {k : Nat} (F : Fits g b XS YS m k) (s : Nat) : fval g b XS YS m s = Gk g b XS YS k m s := Gk_same W F (cnt_fits W m) s

end
end AC

set_option linter.all false
set_option Elab.async false
/-! plain mathematics: piecewise straight curves as lists of knots -/
namespace AC
abbrev Kn : Type := Rat × Rat
theorem share_bounds {a b : Rat} (hb : 0 < b) (h0 : 0 ≤ a) (h1 : a ≤ b) : 0 ≤ a / b ∧ a / b ≤ 1 ∧ a / b * b = a := by
  have e : a / b * b = a := by grind
  generalize a / b = s at e
  refine ⟨?_, ?_, e⟩
  · apply Classical.byContradiction
    intro c
    have := Rat.mul_pos (show 0 < -s by grind) hb
    grind
  · apply Classical.byContradiction
    intro c
    have := Rat.mul_pos (show 0 < s - 1 by grind) hb
    grind

def slp (p q : Kn) : Rat := (q.2 - p.2) / (q.1 - p.1)
/-- behind the knot p -/
def Gx (p : Kn) : List Kn → Rat → Rat
  | [], m => p.2 + (m - p.1)
  | q :: r, m => if m ≤ q.1 then p.2 + slp p q * (m - p.1) else Gx q r m
/-- with the slope be ahead of the first knot -/
def Fx (be : Rat) : List Kn → Rat → Rat
  | [], m => m
  | p :: r, m => if m ≤ p.1 then p.2 + be * (m - p.1) else Gx p r m

/-- points of a curve: ascending, slopes from be on not falling, below one, the last value its amount -/
def Good (be : Rat) : List Kn → Prop
  | [] => False
  | [p] => p.2 = p.1 ∧ be < 1
  | p :: q :: r => p.1 < q.1 ∧ be ≤ slp p q ∧ slp p q < 1 ∧ Good (slp p q) (q :: r)
/-- knots: slopes rising -/
def GoodS (be : Rat) : List Kn → Prop
  | [] => False
  | [p] => p.2 = p.1 ∧ be < 1
  | p :: q :: r => p.1 < q.1 ∧ be < slp p q ∧ slp p q < 1 ∧ GoodS (slp p q) (q :: r)

theorem GoodS.good {be : Rat} : ∀ {l : List Kn}, GoodS be l → Good be l
  | [], h => h.elim
  | [p], h => h
  | p :: q :: r, h => ⟨h.1, by have := h.2.1; grind, h.2.2.1, GoodS.good h.2.2.2⟩

theorem Gx_eq {p q : Kn} {r : List Kn} (h : p.1 < q.1) (m : Rat) : Gx p (q :: r) m = Fx (slp p q) (q :: r) m := by
  show (if m ≤ q.1 then p.2 + slp p q * (m - p.1) else Gx q r m) = (if m ≤ q.1 then q.2 + slp p q * (m - q.1) else Gx q r m)
  by_cases c : m ≤ q.1
  · rw [if_pos c, if_pos c]
    have hd : q.1 - p.1 ≠ 0 := by grind
    unfold slp
    grind
  · rw [if_neg c, if_neg c]
theorem Fx_at {be : Rat} {p : Kn} {r : List Kn} : Fx be (p :: r) p.1 = p.2 := by
  show (if p.1 ≤ p.1 then _ else _) = _
  rw [if_pos Rat.le_refl]
  grind
theorem Fx_left {be : Rat} {p : Kn} {r : List Kn} {m : Rat} (h : m ≤ p.1) : Fx be (p :: r) m = p.2 + be * (m - p.1) := if_pos h
/-- from the first knot on -/
theorem Fx_right {be : Rat} {p q : Kn} {r : List Kn} (h : p.1 < q.1) {m : Rat} (hm : p.1 ≤ m) : Fx be (p :: q :: r) m = Fx (slp p q) (q :: r) m := by
  by_cases c : m ≤ p.1
  · have e : m = p.1 := by grind
    subst e
    rw [Fx_at, ← Gx_eq h]
    show _ = (if p.1 ≤ q.1 then p.2 + slp p q * (p.1 - p.1) else Gx q r p.1)
    rw [if_pos (by grind)]
    grind
  · rw [← Gx_eq h]
    exact if_neg c
theorem slp_line {p q : Kn} (h : p.1 < q.1) : q.2 = p.2 + slp p q * (q.1 - p.1) := by
  have hd : q.1 - p.1 ≠ 0 := by grind
  unfold slp
  grind
theorem slp_of {p q : Kn} {s : Rat} (h : p.1 < q.1) (e : q.2 = p.2 + s * (q.1 - p.1)) : slp p q = s := by
  have hd : q.1 - p.1 ≠ 0 := by grind
  unfold slp
  grind

/-! ### straightened -/
def str (be : Rat) : List Kn → List Kn
  | [] => []
  | [p] => if be = 1 then [] else [p]
  | p :: q :: r => if be = slp p q then str (slp p q) (q :: r) else p :: str (slp p q) (q :: r)

theorem str_ok : ∀ {l : List Kn} {be : Rat}, Good be l → GoodS be (str be l) ∧ (∀ m, Fx be (str be l) m = Fx be l m) ∧ (∃ t r, str be l = t :: r ∧ ∀ p ∈ l.head?, p.1 ≤ t.1)
  | [], _, h => h.elim
  | [p], be, h => by
    have e : str be [p] = [p] := if_neg (by have := h.2; grind)
    rw [e]
    exact ⟨h, fun _ => rfl, p, [], rfl, fun q hq => by cases hq; exact Rat.le_refl⟩
  | p :: q :: r, be, h => by
    obtain ⟨h1, h2, h3, h4⟩ := h
    obtain ⟨a1, a2, t, r', e, a3⟩ := str_ok h4
    have hqt : q.1 ≤ t.1 := a3 q rfl
    by_cases c : be = slp p q
    · have e2 : str be (p :: q :: r) = str (slp p q) (q :: r) := if_pos c
      rw [e2]
      refine ⟨by rw [c]; exact a1, fun m => ?_, t, r', e, fun x hx => by cases hx; grind⟩
      rw [c, a2 m]
      by_cases hm : p.1 ≤ m
      · rw [Fx_right h1 hm]
      · have hm' : m ≤ p.1 := by grind
        rw [Fx_left (show m ≤ q.1 by grind), Fx_left hm']
        have := slp_line h1
        grind
    · have e2 : str be (p :: q :: r) = p :: str (slp p q) (q :: r) := if_neg c
      rw [e2, e]
      rw [e] at a1 a2
      have hpt : p.1 < t.1 := by grind
      have e3 : slp p t = slp p q := by
        have b1 := a2 p.1
        rw [Fx_left (show p.1 ≤ t.1 by grind), Fx_left (show p.1 ≤ q.1 by grind)] at b1
        have b2 := slp_line h1
        exact slp_of hpt (by grind)
      refine ⟨⟨hpt, by rw [e3]; grind, by rw [e3]; exact h3, by rw [e3]; exact a1⟩, fun m => ?_, p, t :: r', rfl, fun x hx => by cases hx; exact Rat.le_refl⟩
      by_cases hm : p.1 ≤ m
      · rw [Fx_right hpt hm, Fx_right h1 hm, e3, a2 m]
      · have hm' : m ≤ p.1 := by grind
        rw [Fx_left hm', Fx_left hm']

/-! ### the curve rises at most as its amount -/
theorem Fx_mono : ∀ {l : List Kn} {be : Rat}, Good be l → ∀ {m m' : Rat}, m ≤ m' → be * (m' - m) ≤ Fx be l m' - Fx be l m ∧ Fx be l m' - Fx be l m ≤ m' - m
  | [], _, h, _, _, _ => h.elim
  | [p], be, h, m, m', hm => by
    have h2 := h.2
    have z : ∀ x : Rat, 0 ≤ x → be * x ≤ x := fun x hx => by
      have := Rat.mul_nonneg (show 0 ≤ 1 - be by grind) hx
      grind
    have g : ∀ x : Rat, Fx be [p] x = if x ≤ p.1 then p.2 + be * (x - p.1) else p.2 + (x - p.1) := fun _ => rfl
    rw [g, g]
    by_cases c : m ≤ p.1
    · by_cases c' : m' ≤ p.1
      · rw [if_pos c, if_pos c']
        have := z (m' - m) (by grind)
        constructor <;> grind
      · rw [if_pos c, if_neg c']
        have a := z (p.1 - m) (by grind)
        have b := z (m' - p.1) (by grind)
        constructor <;> grind
    · rw [if_neg c, if_neg (show ¬ m' ≤ p.1 by grind)]
      have := z (m' - m) (by grind)
      constructor <;> grind
  | p :: q :: r, be, h, m, m', hm => by
    obtain ⟨h1, h2, h3, h4⟩ := h
    have ih := fun {x y : Rat} (hxy : x ≤ y) => Fx_mono (l := q :: r) (be := slp p q) h4 hxy
    have z1 : ∀ x : Rat, 0 ≤ x → be * x ≤ slp p q * x := fun x hx => by
      have := Rat.mul_nonneg (show 0 ≤ slp p q - be by grind) hx
      grind
    have z2 : ∀ x : Rat, 0 ≤ x → be * x ≤ x := fun x hx => by
      have := Rat.mul_nonneg (show 0 ≤ 1 - be by grind) hx
      grind
    by_cases c : m ≤ p.1
    · by_cases c' : m' ≤ p.1
      · rw [Fx_left c, Fx_left c']
        have := z2 (m' - m) (by grind)
        constructor <;> grind
      · have c2 : p.1 ≤ m' := by grind
        have e := Fx_right (be := be) (r := r) h1 c2
        have e0 := Fx_right (be := be) (r := r) h1 (m := p.1) Rat.le_refl
        rw [Fx_at] at e0
        have i := ih c2
        rw [Fx_left c, e]
        rw [← e0] at i
        have a := z2 (p.1 - m) (by grind)
        have b := z1 (m' - p.1) (by grind)
        constructor <;> grind
    · rw [Fx_right h1 (show p.1 ≤ m by grind), Fx_right h1 (show p.1 ≤ m' by grind)]
      have i := ih hm
      have b := z1 (m' - m) (by grind)
      constructor <;> grind

theorem Fx_strict : ∀ {l : List Kn} {be : Rat}, Good be l → ∀ {m m' : Rat}, m < m' → m < Fx be l m → Fx be l m' - Fx be l m < m' - m
  | [], _, h, _, _, _, _ => h.elim
  | [p], be, h, m, m', hm, hv => by
    have h2 := h.2
    have h1 := h.1
    have z : ∀ x : Rat, 0 < x → be * x < x := fun x hx => by
      have := Rat.mul_pos (show 0 < 1 - be by grind) hx
      grind
    have g : ∀ x : Rat, Fx be [p] x = if x ≤ p.1 then p.2 + be * (x - p.1) else p.2 + (x - p.1) := fun _ => rfl
    rw [g] at hv
    rw [g, g]
    by_cases c : m ≤ p.1
    · rw [if_pos c] at hv
      have c1 : m < p.1 := by
        apply Classical.byContradiction
        intro q
        have e : m = p.1 := by grind
        subst e
        grind
      by_cases c' : m' ≤ p.1
      · rw [if_pos c, if_pos c']
        have := z (m' - m) (by grind)
        grind
      · rw [if_pos c, if_neg c']
        have a := z (p.1 - m) (by grind)
        grind
    · rw [if_neg c] at hv
      grind
  | p :: q :: r, be, h, m, m', hm, hv => by
    obtain ⟨h1, h2, h3, h4⟩ := h
    have ih := fun {x y : Rat} (hxy : x < y) => Fx_strict (l := q :: r) (be := slp p q) h4 hxy
    have z2 : ∀ x : Rat, 0 < x → be * x < x := fun x hx => by
      have := Rat.mul_pos (show 0 < 1 - be by grind) hx
      grind
    by_cases c : m < p.1
    · by_cases c' : m' ≤ p.1
      · rw [Fx_left (m := m) (show m ≤ p.1 by grind), Fx_left (m := m') c']
        have := z2 (m' - m) (by grind)
        grind
      · have c2 : p.1 ≤ m' := by grind
        have i := (Fx_mono (l := p :: q :: r) (be := be) ⟨h1, h2, h3, h4⟩ c2).2
        rw [Fx_at] at i
        rw [Fx_left (show m ≤ p.1 by grind)]
        have a := z2 (p.1 - m) (by grind)
        grind
    · rw [Fx_right h1 (show p.1 ≤ m by grind)] at hv
      rw [Fx_right h1 (show p.1 ≤ m by grind), Fx_right h1 (show p.1 ≤ m' by grind)]
      exact ih hm hv

/-! ### places of a list of knots -/
def kA (l : List Kn) (k : Nat) : Rat := (l.getD k (0, 0)).1
def kV (l : List Kn) (k : Nat) : Rat := (l.getD k (0, 0)).2
theorem kA_zero {p : Kn} {r : List Kn} : kA (p :: r) 0 = p.1 := rfl
theorem kA_succ {p : Kn} {r : List Kn} {k : Nat} : kA (p :: r) (k + 1) = kA r k := rfl
theorem kV_zero {p : Kn} {r : List Kn} : kV (p :: r) 0 = p.2 := rfl
theorem kV_succ {p : Kn} {r : List Kn} {k : Nat} : kV (p :: r) (k + 1) = kV r k := rfl
/-- the slope from place k to the next -/
def kS (l : List Kn) (k : Nat) : Rat := (kV l (k + 1) - kV l k) / (kA l (k + 1) - kA l k)

theorem Good.asc : ∀ {l : List Kn} {be : Rat}, Good be l → ∀ k, k + 1 < l.length → kA l k < kA l (k + 1)
  | [], _, h, _, _ => h.elim
  | [p], _, _, k, hk => by simp at hk
  | p :: q :: r, be, h, 0, _ => h.1
  | p :: q :: r, be, h, k + 1, hk => Good.asc (l := q :: r) h.2.2.2 k (by simpa using hk)
theorem Good.last : ∀ {l : List Kn} {be : Rat}, Good be l → kV l (l.length - 1) = kA l (l.length - 1)
  | [], _, h => h.elim
  | [p], _, h => h.1
  | p :: q :: r, be, h => Good.last (l := q :: r) h.2.2.2
theorem Good.asc_le {l : List Kn} {be : Rat} (h : Good be l) {i k : Nat} (hik : i ≤ k) (hk : k < l.length) : kA l i ≤ kA l k := by
  induction k with
  | zero => rw [show i = 0 by omega]; exact Rat.le_refl
  | succ k ih =>
    by_cases e : i = k + 1
    · rw [e]; exact Rat.le_refl
    · have := ih (by omega) (by omega)
      have := h.asc k hk
      grind
theorem Good.asc_lt {l : List Kn} {be : Rat} (h : Good be l) {i k : Nat} (hik : i < k) (hk : k < l.length) : kA l i < kA l k := by
  obtain ⟨d, rfl⟩ : ∃ d, k = i + 1 + d := ⟨k - (i + 1), by omega⟩
  have a := h.asc i (by omega)
  have b := h.asc_le (i := i + 1) (k := i + 1 + d) (by omega) hk
  grind
theorem GoodS.slopes : ∀ {l : List Kn} {be : Rat}, GoodS be l → ∀ k, k + 1 < l.length → be < kS l k ∧ kS l k < 1
  | [], _, h, _, _ => h.elim
  | [p], _, _, k, hk => by simp at hk
  | p :: q :: r, be, h, 0, _ => ⟨h.2.1, h.2.2.1⟩
  | p :: q :: r, be, h, k + 1, hk => by
    have a : slp p q < kS (q :: r) k ∧ kS (q :: r) k < 1 := GoodS.slopes (l := q :: r) h.2.2.2 k (by simpa using hk)
    have e : kS (p :: q :: r) (k + 1) = kS (q :: r) k := rfl
    rw [e]
    exact ⟨by have := h.2.1; grind, a.2⟩
theorem GoodS.rise : ∀ {l : List Kn} {be : Rat}, GoodS be l → ∀ k, k + 2 < l.length → kS l k < kS l (k + 1)
  | [], _, h, _, _ => h.elim
  | [p], _, _, k, hk => by simp at hk
  | [p, q], _, _, k, hk => absurd hk (by show ¬ k + 2 < 2; omega)
  | p :: q :: u :: r, be, h, 0, _ => h.2.2.2.2.1
  | p :: q :: u :: r, be, h, k + 1, hk => GoodS.rise (l := q :: u :: r) h.2.2.2 k (by simpa using hk)

theorem Fx_first {l : List Kn} (hl : l ≠ []) {m : Rat} (h : m ≤ kA l 0) : Fx 0 l m = kV l 0 := by
  cases l with
  | nil => exact absurd rfl hl
  | cons p r =>
    rw [Fx_left (p := p) h]
    show p.2 + 0 * (m - p.1) = p.2
    grind
theorem Fx_mid : ∀ {l : List Kn} {be : Rat}, Good be l → ∀ {k : Nat} {m : Rat}, k + 1 < l.length → kA l k ≤ m → m ≤ kA l (k + 1) → Fx be l m = kV l k + kS l k * (m - kA l k)
  | [], _, h, _, _, _, _, _ => h.elim
  | [p], _, _, k, _, hk, _, _ => by simp at hk
  | p :: q :: r, be, h, 0, m, _, h1, h2 => by
    rw [Fx_right h.1 h1, Fx_left (p := q) h2]
    have := slp_line h.1
    show q.2 + slp p q * (m - q.1) = p.2 + slp p q * (m - p.1)
    grind
  | p :: q :: r, be, h, k + 1, m, hk, h1, h2 => by
    have hk' : k + 1 < (q :: r).length := by simpa using hk
    have a : p.1 ≤ m := by
      have := h.1
      have b := Good.asc_le (l := q :: r) h.2.2.2 (i := 0) (k := k) (by omega) (by omega)
      have c : kA (q :: r) k ≤ m := h1
      have d : kA (q :: r) 0 = q.1 := rfl
      grind
    rw [Fx_right h.1 a]
    exact Fx_mid (l := q :: r) h.2.2.2 hk' h1 h2
theorem Fx_last : ∀ {l : List Kn} {be : Rat}, Good be l → ∀ {m : Rat}, kA l (l.length - 1) ≤ m → Fx be l m = m
  | [], _, h, _, _ => h.elim
  | [p], be, h, m, hm => by
    have hm' : p.1 ≤ m := hm
    have e := h.1
    show (if m ≤ p.1 then p.2 + be * (m - p.1) else p.2 + (m - p.1)) = m
    by_cases c : m ≤ p.1
    · rw [if_pos c]; have : m = p.1 := by grind
      subst this; grind
    · rw [if_neg c]; grind
  | p :: q :: r, be, h, m, hm => by
    have hm' : kA (q :: r) ((q :: r).length - 1) ≤ m := hm
    have b := Good.asc_le (l := q :: r) h.2.2.2 (i := 0) (k := (q :: r).length - 1) (by omega) (by simp)
    have d : kA (q :: r) 0 = q.1 := rfl
    have := h.1
    rw [Fx_right h.1 (show p.1 ≤ m by grind)]
    exact Fx_last h.2.2.2 hm'
theorem Fx_knot {l : List Kn} {be : Rat} (h : Good be l) {k : Nat} (hk : k < l.length) : Fx be l (kA l k) = kV l k := by
  by_cases e : k + 1 < l.length
  · rw [Fx_mid h e Rat.le_refl (by have := h.asc k e; grind)]
    grind
  · have e' : k = l.length - 1 := by omega
    subst e'
    rw [Fx_last h Rat.le_refl]
    exact h.last.symm
theorem Good.ne {l : List Kn} {be : Rat} (h : Good be l) : l ≠ [] := by
  intro e; subst e; exact h

/-! ### the excess -/
def exc (l : List Kn) (m : Rat) : Rat := Fx 0 l m - m
theorem exc_anti {l : List Kn} (h : Good 0 l) {m m' : Rat} (hm : m ≤ m') : exc l m' ≤ exc l m := by
  have := (Fx_mono h hm).2
  unfold exc
  grind
theorem exc_nn {l : List Kn} (h : Good 0 l) (m : Rat) : 0 ≤ exc l m := by
  by_cases c : kA l (l.length - 1) ≤ m
  · unfold exc
    rw [Fx_last h c]
    grind
  · have a := exc_anti h (m := m) (m' := kA l (l.length - 1)) (by grind)
    have b : exc l (kA l (l.length - 1)) = 0 := by
      unfold exc
      rw [Fx_last h Rat.le_refl]
      grind
    grind
theorem exc_strict {l : List Kn} (h : Good 0 l) {m m' : Rat} (hm : m < m') (hp : 0 < exc l m) : exc l m' < exc l m := by
  have := Fx_strict h hm (by unfold exc at hp; grind)
  unfold exc
  grind
/-- the excess at the k-th knot -/
def kE (l : List Kn) (k : Nat) : Rat := kV l k - kA l k
theorem exc_knot {l : List Kn} (h : Good 0 l) {k : Nat} (hk : k < l.length) : exc l (kA l k) = kE l k := by
  unfold exc kE
  rw [Fx_knot h hk]
theorem kE_nn {l : List Kn} (h : Good 0 l) {k : Nat} (hk : k < l.length) : 0 ≤ kE l k := by
  rw [← exc_knot h hk]
  exact exc_nn h _
theorem kE_last {l : List Kn} (h : Good 0 l) : kE l (l.length - 1) = 0 := by
  unfold kE
  rw [h.last]
  grind
theorem kE_desc {l : List Kn} (h : GoodS 0 l) {k : Nat} (hk : k + 1 < l.length) : kE l (k + 1) < kE l k := by
  have a := h.slopes k hk
  have b := h.good.asc k hk
  have hd : kA l (k + 1) - kA l k ≠ 0 := by grind
  have e : kV l (k + 1) - kV l k = kS l k * (kA l (k + 1) - kA l k) := by unfold kS; grind
  have := Rat.mul_pos (show 0 < 1 - kS l k by grind) (show 0 < kA l (k + 1) - kA l k by grind)
  unfold kE
  grind
theorem kE_pos {l : List Kn} (h : GoodS 0 l) {k : Nat} (hk : k + 1 < l.length) : 0 < kE l k := by
  have := kE_desc h hk
  have := kE_nn h.good hk
  grind

/-- the amount at which the curve has the excess -/
def amt (l : List Kn) (x : Rat) : Nat → Rat
  | 0 => kV l 0 - x
  | k + 1 => if kE l k < x then amt l x k else kA l (k + 1) - (x - kE l (k + 1)) / (kE l k - kE l (k + 1)) * (kA l (k + 1) - kA l k)
theorem amt_ok {l : List Kn} (h : GoodS 0 l) {x : Rat} : ∀ k, k < l.length → kE l k ≤ x → exc l (amt l x k) = x
  | 0, hk, hx => by
    show exc l (kV l 0 - x) = x
    unfold exc
    rw [Fx_first h.good.ne (by unfold kE at hx; grind)]
    grind
  | k + 1, hk, hx => by
    unfold amt
    by_cases c : kE l k < x
    · rw [if_pos c]
      exact amt_ok h k (by omega) (by grind)
    · rw [if_neg c]
      have d := kE_desc h hk
      have b := h.good.asc k hk
      have hd : kE l k - kE l (k + 1) ≠ 0 := by grind
      have hd2 : kA l (k + 1) - kA l k ≠ 0 := by grind
      obtain ⟨s0, s1, s2⟩ := share_bounds (a := x - kE l (k + 1)) (b := kE l k - kE l (k + 1)) (by grind) (by grind) (by grind)
      generalize hs : (x - kE l (k + 1)) / (kE l k - kE l (k + 1)) = sh at s0 s1 s2
      have hs' := s2
      have m1 := Rat.mul_nonneg s0 (show 0 ≤ kA l (k + 1) - kA l k by grind)
      have m2 := Rat.mul_nonneg (show 0 ≤ 1 - sh by grind) (show 0 ≤ kA l (k + 1) - kA l k by grind)
      unfold exc
      rw [Fx_mid h.good hk (by grind) (by grind)]
      have e : kV l (k + 1) - kV l k = kS l k * (kA l (k + 1) - kA l k) := by unfold kS; grind
      unfold kE at hs'
      grind
/-- .. of the whole curve -/
def amount (l : List Kn) (x : Rat) : Rat := amt l x (l.length - 1)
theorem amount_ok {l : List Kn} (h : GoodS 0 l) {x : Rat} (hx : 0 ≤ x) : exc l (amount l x) = x :=
  amt_ok h _ (by have := List.length_pos_iff.mpr h.good.ne; omega) (by rw [kE_last h.good]; exact hx)
theorem amount_knot {l : List Kn} (h : GoodS 0 l) {k : Nat} (hk : k < l.length) : amount l (kE l k) = kA l k := by
  have e := amount_ok h (kE_nn h.good hk)
  by_cases c : k + 1 < l.length
  · have hp := kE_pos h c
    have e2 := exc_knot h.good hk
    rcases Std.lt_trichotomy (amount l (kE l k)) (kA l k) with q | q | q
    · have := exc_strict h.good q (by grind)
      grind
    · exact q
    · have := exc_strict h.good q (by grind)
      grind
  · have e' : k = l.length - 1 := by omega
    subst e'
    rw [kE_last h.good]
    unfold amount
    cases hl : l.length - 1 with
    | zero =>
      have z := h.good.last
      rw [hl] at z
      show kV l 0 - 0 = kA l 0
      grind
    | succ j =>
      have z := kE_last h.good
      rw [hl] at z
      have := kE_pos h (k := j) (by omega)
      unfold amt
      rw [if_neg (by grind), z]
      grind

end AC

set_option linter.all false
set_option Elab.async false
/-! plain mathematics: the points of a state's curve; tolls -/
namespace AC
section
variable (g : Gm) (b : Rat) (XS YS : List Nat → Nat → Rat)
/-- what the program writes at step k for state s -/
def ptOf (k : Nat) (s : Nat) : Kn := (ci g b XS YS k, Gk g b XS YS (k + 1) (ci g b XS YS k) s)
def keep (k : Nat) : Bool := decide (¬ (k + 1 < g.n ∧ ci g b XS YS (k + 1) = ci g b XS YS k))
def pts (s : Nat) : Nat → List Kn
  | 0 => []
  | k + 1 => (if keep g b XS YS k = true ∧ s ∈ Ss g b XS YS (k + 1) then [ptOf g b XS YS k s] else []) ++ pts s k
end
section
variable {g : Gm} {b : Rat} {XS YS : List Nat → Nat → Rat}
theorem pts_out {s : Nat} : ∀ k, s ∉ Ss g b XS YS k → pts g b XS YS s k = []
  | 0, _ => rfl
  | k + 1, h => by
    unfold pts
    rw [if_neg fun q => h q.2, pts_out k fun q => h (Ss_sub (Nat.le_succ k) _ q)] <;> rfl
theorem pts_skip {s : Nat} {k d : Nat} (h : ∀ i, k ≤ i → i < k + d → keep g b XS YS i = false) : pts g b XS YS s (k + d) = pts g b XS YS s k := by
  induction d with
  | zero => rfl
  | succ d ih =>
    show (if keep g b XS YS (k + d) = true ∧ s ∈ Ss g b XS YS (k + d + 1) then [ptOf g b XS YS (k + d) s] else []) ++ pts g b XS YS s (k + d) = _
    rw [if_neg (fun q => by rw [h (k + d) (by omega) (by omega)] at q; cases q.1), ih fun i h1 h2 => h i h1 (by omega)] <;> rfl
/-- where the run of equal indexes begins -/
theorem runs (f : Nat → Rat) : ∀ k, ∃ j, j ≤ k ∧ (∀ i, j ≤ i → i ≤ k → f i = f k) ∧ (j = 0 ∨ f (j - 1) ≠ f k)
  | 0 => ⟨0, Nat.le_refl _, fun i _ h => by rw [show i = 0 by omega], .inl rfl⟩
  | k + 1 => by
    by_cases e : f k = f (k + 1)
    · obtain ⟨j, h1, h2, h3⟩ := runs f k
      refine ⟨j, by omega, fun i a c => ?_, ?_⟩
      · by_cases q : i = k + 1
        · rw [q]
        · rw [h2 i a (by omega), e]
      · rcases h3 with h | h
        · exact .inl h
        · exact .inr (by rw [← e]; exact h)
    · refine ⟨k + 1, Nat.le_refl _, fun i a c => by rw [show i = k + 1 by omega], .inr ?_⟩
      rw [show k + 1 - 1 = k by omega]
      exact e

variable (W : Fam g b XS YS)
include W
theorem Fits.last {k : Nat} (hk : k < g.n) {m : Rat} (h1 : m ≤ ci g b XS YS k) (h2 : k + 1 < g.n → ci g b XS YS (k + 1) ≤ m) : Fits g b XS YS m (k + 1) :=
  ⟨by omega, fun i hi => Rat.le_trans h1 (ci_anti W (by omega) hk), h2⟩

theorem pts_ok {s j : Nat} (hj : j < g.n) (hs : (pk g b XS YS j).1 = s) : ∀ k, j < k → k ≤ g.n → (k < g.n → ci g b XS YS k < ci g b XS YS (k - 1)) →
    ∃ p r, pts g b XS YS s k = p :: r ∧ p.1 = ci g b XS YS (k - 1) ∧ p.2 = Gk g b XS YS k (ci g b XS YS (k - 1)) s ∧ Good (YS (Ss g b XS YS k) s) (p :: r) ∧
      ∀ m, (k < g.n → ci g b XS YS k ≤ m) → Fx (YS (Ss g b XS YS k) s) (p :: r) m = fval g b XS YS m s := by
  intro k
  induction k using Nat.strongRecOn with
  | ind k ih =>
    intro hjk hkn hbd
    obtain ⟨k0, rfl⟩ : ∃ k0, k = k0 + 1 := ⟨k - 1, by omega⟩
    simp only [Nat.add_sub_cancel] at hbd ⊢
    have hmem : ∀ i, i < g.n → (s ∈ Ss g b XS YS (i + 1) ↔ j < i + 1) := fun i hi => by
      rw [mem_Ss]
      constructor
      · rintro ⟨_, u, hu, e⟩
        apply Classical.byContradiction
        intro c
        -- s is chosen at j alone
        have h2 := (pk_spec (g := g) (b := b) (XS := XS) (YS := YS) hj).2.1
        rw [hs] at h2
        exact h2 (mem_Ss.mpr ⟨by rw [← hs]; exact (pk_spec hj).1, u, by omega, e⟩)
      · intro h
        exact ⟨by rw [← hs]; exact (pk_spec hj).1, j, h, hs⟩
    have hin : s ∈ Ss g b XS YS (k0 + 1) := (hmem k0 (by omega)).mpr hjk
    have hkeep : keep g b XS YS k0 = true := by
      unfold keep
      rw [decide_eq_true_iff]
      rintro ⟨a, e⟩
      have := hbd a
      grind
    obtain ⟨k', hk', run, hb0⟩ := runs (ci g b XS YS) k0
    have hP : pts g b XS YS s k0 = pts g b XS YS s k' := by
      obtain ⟨d, rfl⟩ := Nat.exists_eq_add_of_le hk'
      refine pts_skip fun i h1 h2 => ?_
      unfold keep
      rw [decide_eq_false_iff_not, Classical.not_not]
      refine ⟨by omega, ?_⟩
      rw [run (i + 1) (by omega) (by omega), run i h1 (by omega)]
    have hL : pts g b XS YS s (k0 + 1) = ptOf g b XS YS k0 s :: pts g b XS YS s k' := by
      show (if keep g b XS YS k0 = true ∧ s ∈ Ss g b XS YS (k0 + 1) then [ptOf g b XS YS k0 s] else []) ++ pts g b XS YS s k0 = _
      rw [if_pos ⟨hkeep, hin⟩, hP] <;> rfl
    have Fk : Fits g b XS YS (ci g b XS YS k0) (k0 + 1) := Fits.last W (by omega) Rat.le_refl fun h => by have := hbd h; grind
    have hlow : 0 < k' → ci g b XS YS k0 < ci g b XS YS (k' - 1) := fun h => by
      have a := ci_anti W (i := k' - 1) (k := k0) (by omega) (by omega)
      rcases hb0 with q | q
      · omega
      · grind
    have Fk' : Fits g b XS YS (ci g b XS YS k0) k' := ⟨by omega, fun i hi => ci_anti W (by omega) (by omega), fun _ => by rw [run k' (Nat.le_refl _) hk']; exact Rat.le_refl⟩
    have yl : YS (Ss g b XS YS (k0 + 1)) s < 1 := by
      have := y_le W.ok W.disc Ss_lt (W.l (k0 + 1)) s hin
      have := W.disc.lt
      grind
    have line : ∀ m, (ptOf g b XS YS k0 s).2 + YS (Ss g b XS YS (k0 + 1)) s * (m - (ptOf g b XS YS k0 s).1) = Gk g b XS YS (k0 + 1) m s := fun m => by
      show Gk g b XS YS (k0 + 1) (ci g b XS YS k0) s + _ * (m - ci g b XS YS k0) = _
      unfold Gk
      rw [Gv_in hin, Gv_in hin]
      grind
    have left : ∀ m, (k0 + 1 < g.n → ci g b XS YS (k0 + 1) ≤ m) → m ≤ ci g b XS YS k0 → Gk g b XS YS (k0 + 1) m s = fval g b XS YS m s := fun m h1 h2 =>
      (fval_of W (Fits.last W (by omega) h2 h1) s).symm
    rw [hL]
    refine ⟨_, _, rfl, rfl, rfl, ?_⟩
    by_cases hs' : j < k'
    · obtain ⟨q, r, e, q1, q2, q3, q4⟩ := ih k' (by omega) hs' (by omega) (fun h => by rw [run k' (Nat.le_refl _) hk']; exact hlow (by omega))
      have hin' : s ∈ Ss g b XS YS k' := by
        obtain ⟨i, rfl⟩ : ∃ i, k' = i + 1 := ⟨k' - 1, by omega⟩
        exact (hmem i (by omega)).mpr hs'
      have hpq : (ptOf g b XS YS k0 s).1 < q.1 := by rw [q1]; exact hlow (by omega)
      have hsl : slp (ptOf g b XS YS k0 s) q = YS (Ss g b XS YS k') s := by
        refine slp_of hpq ?_
        rw [q2, q1]
        show _ = Gk g b XS YS (k0 + 1) (ci g b XS YS k0) s + _ * (ci g b XS YS (k' - 1) - ci g b XS YS k0)
        rw [Gk_same W Fk' Fk]
        unfold Gk
        rw [Gv_in hin', Gv_in hin']
        grind
      have ym := (y_mono W.ok W.disc Ss_lt Ss_lt (W.l k') (W.l (k0 + 1)) (Ss_sub (by omega)) hin).2 hin'
      have yl' : YS (Ss g b XS YS k') s < 1 := by
        have := y_le W.ok W.disc Ss_lt (W.l k') s hin'
        have := W.disc.lt
        grind
      rw [e]
      refine ⟨⟨hpq, by rw [hsl]; exact ym, by rw [hsl]; exact yl', by rw [hsl]; exact q3⟩, fun m hm => ?_⟩
      by_cases c : m ≤ (ptOf g b XS YS k0 s).1
      · rw [Fx_left c, line]
        exact left m hm c
      · rw [Fx_right hpq (by grind), hsl]
        refine q4 m fun h => ?_
        rw [run k' (Nat.le_refl _) hk']
        have : (ptOf g b XS YS k0 s).1 = ci g b XS YS k0 := rfl
        grind
    · have hout : s ∉ Ss g b XS YS k' := fun h => by
        by_cases z : k' = 0
        · subst z
          obtain ⟨_, u, hu, _⟩ := mem_Ss.mp h
          exact absurd hu (Nat.not_lt_zero _)
        · obtain ⟨i, rfl⟩ : ∃ i, k' = i + 1 := ⟨k' - 1, by omega⟩
          exact hs' ((hmem i (by omega)).mp h)
      rw [pts_out k' hout]
      have e0 : (ptOf g b XS YS k0 s).2 = (ptOf g b XS YS k0 s).1 := by
        show Gk g b XS YS (k0 + 1) (ci g b XS YS k0) s = ci g b XS YS k0
        rw [Gk_same W Fk' Fk]
        exact Gv_out hout
      refine ⟨⟨e0, yl⟩, fun m hm => ?_⟩
      by_cases c : m ≤ (ptOf g b XS YS k0 s).1
      · rw [Fx_left c, line]
        exact left m hm c
      · have c' : ci g b XS YS k0 < m := by
          have : (ptOf g b XS YS k0 s).1 = ci g b XS YS k0 := rfl
          grind
        have e1 : Fx (YS (Ss g b XS YS (k0 + 1)) s) [ptOf g b XS YS k0 s] m = (ptOf g b XS YS k0 s).2 + (m - (ptOf g b XS YS k0 s).1) := if_neg c
        rw [e1]
        have e2 : fval g b XS YS m s = m := by
          refine Gv_out fun h => hout ?_
          obtain ⟨h1, u, hu, e⟩ := mem_Ss.mp h
          have := (cnt_mem W (m := m) (i := u) (by have := (cnt_fits W m).le; omega)).mpr hu
          refine mem_Ss.mpr ⟨h1, u, ?_, e⟩
          apply Classical.byContradiction
          intro z
          by_cases zz : u ≤ k0
          · have := run u (by omega) zz
            grind
          · have := ci_anti W (i := k0) (k := u) (by omega) (by have := (cnt_fits W m).le; omega)
            grind
        rw [e2]
        grind

/-- all states inside: nothing is left to the amount -/
theorem y_all {s : Nat} (hs : s < g.n) : YS (Ss g b XS YS g.n) s = 0 := by
  have key := uniq W.ok W.disc (Ss_lt (g := g) (b := b) (XS := XS) (YS := YS) (k := g.n)) (r := fun _ => 0) (c := 1) (X := YS (Ss g b XS YS g.n)) (X' := fun _ => 0) (fun t ht => by
    have := (W.l g.n).y t ht
    grind) (fun t ht => by
    have e : dot (g.row t) (fun u => if u ∈ Ss g b XS YS g.n then (0 : Rat) else 1) = dot (g.row t) (fun _ => 0 * 1) := dot_congr fun tp htp => by
      rw [if_pos (Ss_all (W.ok.tgt t tp htp))]
      grind
    have e2 := dot_mul (g.row t) 0 (fun _ => 1)
    simp only [e, e2]
    grind)
  exact key s (Ss_all hs)
omit W in
/-- the knots of a state's curve -/
def knots (g : Gm) (b : Rat) (XS YS : List Nat → Nat → Rat) (s : Nat) : List Kn := str 0 (pts g b XS YS s g.n)
theorem pts_good {s : Nat} (hs : s < g.n) : Good 0 (pts g b XS YS s g.n) ∧ ∀ m, Fx 0 (pts g b XS YS s g.n) m = fval g b XS YS m s := by
  obtain ⟨_, j, hj, e⟩ := mem_Ss.mp (Ss_all (g := g) (b := b) (XS := XS) (YS := YS) hs)
  obtain ⟨p, r, h1, h2, h3, h4, h5⟩ := pts_ok W hj e g.n hj (Nat.le_refl _) (fun h => absurd h (Nat.lt_irrefl _))
  rw [y_all W hs] at h4 h5
  rw [h1]
  exact ⟨h4, fun m => h5 m fun h => absurd h (Nat.lt_irrefl _)⟩
theorem knots_good {s : Nat} (hs : s < g.n) : GoodS 0 (knots g b XS YS s) := (str_ok (pts_good W hs).1).1
theorem knots_val {s : Nat} (hs : s < g.n) (m : Rat) : Fx 0 (knots g b XS YS s) m = fval g b XS YS m s := by
  unfold knots
  rw [(str_ok (pts_good W hs).1).2.1 m]
  exact (pts_good W hs).2 m
end

/-! ### tolls -/
/-- how far the first curve is ahead at the excess -/
def ahead (l l' : List Kn) (x : Rat) : Rat := amount l x - amount l' x
/-- the least lead at own knots -/
structure Least (l l' : List Kn) (c : Rat) : Prop where
  fst : ∀ k, k < l.length → c ≤ ahead l l' (kE l k)
  snd : ∀ k, k < l'.length → c ≤ ahead l l' (kE l' k)
  at_ : (∃ k, k < l.length ∧ c = ahead l l' (kE l k)) ∨ (∃ k, k < l'.length ∧ c = ahead l l' (kE l' k))
section
variable {l l' : List Kn} {c : Rat} (h : GoodS 0 l) (h' : GoodS 0 l') (L : Least l l' c)
include h h' L
/-- at a knot of the second curve -/
theorem never_snd {k : Nat} (hk : k < l'.length) : Fx 0 l' (kA l' k) ≤ Fx 0 l (kA l' k + c) - c := by
  have a := L.snd k hk
  unfold ahead at a
  rw [amount_knot h' hk] at a
  have e1 := amount_ok h (kE_nn h'.good hk)
  have e2 := exc_anti h.good (m := kA l' k + c) (m' := amount l (kE l' k)) (by grind)
  have e3 := exc_knot h'.good hk
  unfold exc at e1 e2 e3
  grind
/-- at a knot of the first curve -/
theorem never_fst {k : Nat} (hk : k < l.length) : Fx 0 l' (kA l k - c) ≤ Fx 0 l (kA l k - c + c) - c := by
  have a := L.fst k hk
  unfold ahead at a
  rw [amount_knot h hk] at a
  have e1 := amount_ok h' (kE_nn h.good hk)
  have e2 := exc_anti h'.good (m := amount l' (kE l k)) (m' := kA l k - c) (by grind)
  have e3 := exc_knot h.good hk
  have e4 : kA l k - c + c = kA l k := by grind
  rw [e4]
  unfold exc at e1 e2 e3
  grind
/-- it is met -/
theorem tight : kA l (l.length - 1) - c = kA l' (l'.length - 1) ∨ (∃ k, k < l'.length ∧ Fx 0 l (kA l' k + c) - c = Fx 0 l' (kA l' k) ∧ kA l' k < Fx 0 l' (kA l' k)) ∨
    (∃ k, k < l.length ∧ Fx 0 l (kA l k - c + c) - c = Fx 0 l' (kA l k - c) ∧ kA l k - c < Fx 0 l' (kA l k - c)) := by
  have p := List.length_pos_iff.mpr h.good.ne
  have p' := List.length_pos_iff.mpr h'.good.ne
  have top : amount l 0 = kA l (l.length - 1) := by have := amount_knot h (k := l.length - 1) (by omega); rw [kE_last h.good] at this; exact this
  have top' : amount l' 0 = kA l' (l'.length - 1) := by have := amount_knot h' (k := l'.length - 1) (by omega); rw [kE_last h'.good] at this; exact this
  rcases L.at_ with ⟨k, hk, e⟩ | ⟨k, hk, e⟩
  · unfold ahead at e
    by_cases z : kE l k = 0
    · left
      rw [z, top, top'] at e
      grind
    · right; right
      refine ⟨k, hk, ?_⟩
      rw [amount_knot h hk] at e
      have e1 := amount_ok h' (kE_nn h.good hk)
      have e3 := exc_knot h.good hk
      have e4 : kA l k - c + c = kA l k := by grind
      have e5 : amount l' (kE l k) = kA l k - c := by grind
      have nn := kE_nn h.good hk
      rw [e5] at e1
      rw [e4]
      unfold exc at e1 e3
      constructor <;> grind
  · unfold ahead at e
    by_cases z : kE l' k = 0
    · left
      rw [z, top, top'] at e
      grind
    · right; left
      refine ⟨k, hk, ?_⟩
      rw [amount_knot h' hk] at e
      have e1 := amount_ok h (kE_nn h'.good hk)
      have e3 := exc_knot h'.good hk
      have e5 : amount l (kE l' k) = kA l' k + c := by grind
      have nn := kE_nn h'.good hk
      rw [e5] at e1
      unfold exc at e1 e3
      constructor <;> grind
/-- a greater lead is too much, at a knot of the second curve or of the shifted first one -/
theorem too_much {d : Rat} (hd : c < d) : (∃ k, k < l'.length ∧ Fx 0 l (kA l' k + d) - d < Fx 0 l' (kA l' k)) ∨ (∃ k, k < l.length ∧ Fx 0 l (kA l k - d + d) - d < Fx 0 l' (kA l k - d)) := by
  have p := List.length_pos_iff.mpr h.good.ne
  have p' := List.length_pos_iff.mpr h'.good.ne
  have key : ∀ k, k < l.length → amount l' (kE l k) = kA l k - c → Fx 0 l (kA l k - d + d) - d < Fx 0 l' (kA l k - d) := fun k hk e5 => by
    have e1 := amount_ok h' (kE_nn h.good hk)
    have e3 := exc_knot h.good hk
    have e4 : kA l k - d + d = kA l k := by grind
    rw [e4]
    rw [e5] at e1
    have nn := kE_nn h.good hk
    have lt : exc l' (kA l k - c) < exc l' (kA l k - d) := by
      by_cases q : 0 < exc l' (kA l k - d)
      · exact exc_strict h'.good (by grind) q
      · -- the excess there would be zero: then so is kE l k, and the amount is the last knot's
        exfalso
        have a1 := exc_nn h'.good (kA l k - d)
        have a2 := exc_anti h'.good (m := kA l k - d) (m' := kA l k - c) (by grind)
        have z : kE l k = 0 := by grind
        rw [z] at e5
        have top' : amount l' 0 = kA l' (l'.length - 1) := by have := amount_knot h' (k := l'.length - 1) (by omega); rw [kE_last h'.good] at this; exact this
        rw [top'] at e5
        -- left of the last knot the excess is greater than zero
        have lt : kA l k - d < kA l' (l'.length - 1) := by grind
        have pos : 0 < exc l' (kA l k - d) := by
          by_cases one : l'.length = 1
          · unfold exc
            have f0 := Fx_first h'.good.ne (m := kA l k - d) (by rw [one] at lt; exact (show _ ≤ kA l' 0 by have : (1 : Nat) - 1 = 0 := rfl; rw [this] at lt; grind))
            have f1 := h'.good.last
            rw [one] at f1 lt
            have : (1 : Nat) - 1 = 0 := rfl
            rw [this] at f1 lt
            grind
          · -- between the last two knots, or further left
            have g1 := kE_pos h' (k := l'.length - 2) (by omega)
            by_cases w : kA l k - d ≤ kA l' (l'.length - 2)
            · have := exc_anti h'.good w
              rw [exc_knot h'.good (by omega)] at this
              grind
            · have hk2 : l'.length - 2 + 1 < l'.length := by omega
              have sl := h'.slopes (l'.length - 2) hk2
              have md := Fx_mid h'.good hk2 (m := kA l k - d) (by grind) (by rw [show l'.length - 2 + 1 = l'.length - 1 by omega]; grind)
              have la := h'.good.last
              have as := h'.good.asc (l'.length - 2) hk2
              rw [show l'.length - 2 + 1 = l'.length - 1 by omega] at as
              have ee : kV l' (l'.length - 1) - kV l' (l'.length - 2) = kS l' (l'.length - 2) * (kA l' (l'.length - 1) - kA l' (l'.length - 2)) := by
                unfold kS
                rw [show l'.length - 2 + 1 = l'.length - 1 by omega]
                grind
              have mm := Rat.mul_pos (show 0 < 1 - kS l' (l'.length - 2) by grind) (show 0 < kA l' (l'.length - 1) - (kA l k - d) by grind)
              unfold exc
              rw [md]
              grind
        exact q pos
    unfold exc at e1 e3 lt
    grind
  rcases L.at_ with ⟨k, hk, e⟩ | ⟨k, hk, e⟩
  · right
    refine ⟨k, hk, key k hk ?_⟩
    unfold ahead at e
    rw [amount_knot h hk] at e
    grind
  · unfold ahead at e
    rw [amount_knot h' hk] at e
    have e1 := amount_ok h (kE_nn h'.good hk)
    have e3 := exc_knot h'.good hk
    have e5 : amount l (kE l' k) = kA l' k + c := by grind
    by_cases z : kE l' k = 0
    · right
      have top : amount l 0 = kA l (l.length - 1) := by have := amount_knot h (k := l.length - 1) (by omega); rw [kE_last h.good] at this; exact this
      have zk : k = l'.length - 1 := by
        apply Classical.byContradiction
        intro q
        have := kE_pos h' (k := k) (by omega)
        grind
      refine ⟨l.length - 1, by omega, key _ (by omega) ?_⟩
      rw [z, top] at e5
      rw [kE_last h.good]
      have top' : amount l' 0 = kA l' (l'.length - 1) := by have := amount_knot h' (k := l'.length - 1) (by omega); rw [kE_last h'.good] at this; exact this
      rw [top', ← zk]
      grind
    · left
      refine ⟨k, hk, ?_⟩
      have nn := kE_nn h'.good hk
      rw [e5] at e1
      have := exc_strict h.good (m := kA l' k + c) (m' := kA l' k + d) (by grind) (by grind)
      unfold exc at e1 e3 this
      grind
end
end AC

set_option linter.all false
set_option Elab.async false
/-! plain mathematics: a game with a toll -/
namespace AC
/-! ### two families of one game -/
section
variable {g : Gm} {b : Rat} {XS YS XS' YS' : List Nat → Nat → Rat} (W : Fam g b XS YS) (W' : Fam g b XS' YS')
include W W'
theorem fam_eq {S : List Nat} (hn : S.Nodup) (hS : ∀ s ∈ S, s < g.n) : ∀ s ∈ S, XS S s = XS' S s ∧ YS S s = YS' S s := fun s hs =>
  ⟨uniq W.ok W.disc hS (r := g.rew) (c := 0) (W.lv S hn hS).x (W'.lv S hn hS).x s hs,
   uniq W.ok W.disc hS (r := fun _ => 0) (c := 1) (fun t ht => by have := (W.lv S hn hS).y t ht; grind) (fun t ht => by have := (W'.lv S hn hS).y t ht; grind) s hs⟩
theorem fam_cand {S : List Nat} (hn : S.Nodup) (hS : ∀ s ∈ S, s < g.n) (s : Nat) : cand g b S (XS S) (YS S) s = cand g b S (XS' S) (YS' S) s := by
  have e := fam_eq W W' hn hS
  have e1 : Ee g b S (XS S) s = Ee g b S (XS' S) s := by
    unfold Ee
    rw [dot_congr (x := fun t => if t ∈ S then XS S t else 0) (y := fun t => if t ∈ S then XS' S t else 0) fun tp _ => by
      by_cases h : tp.1 ∈ S
      · rw [if_pos h, if_pos h, (e _ h).1]
      · rw [if_neg h, if_neg h]]
  have e2 : Ff g b S (YS S) s = Ff g b S (YS' S) s := by
    unfold Ff
    rw [dot_congr (x := fun t => if t ∈ S then YS S t else 1) (y := fun t => if t ∈ S then YS' S t else 1) fun tp _ => by
      by_cases h : tp.1 ∈ S
      · rw [if_pos h, if_pos h, (e _ h).2]
      · rw [if_neg h, if_neg h]]
  unfold cand
  rw [e1, e2]
theorem fam_ord : ∀ k, ordTo g b XS YS k = ordTo g b XS' YS' k
  | 0 => rfl
  | k + 1 => by
    rw [ordTo_succ, ordTo_succ, fam_ord k]
    unfold pk Ss nxt
    rw [fam_ord k]
    have e : cand g b (srt g.n ((ordTo g b XS' YS' k).map (·.1))) (XS (srt g.n ((ordTo g b XS' YS' k).map (·.1)))) (YS (srt g.n ((ordTo g b XS' YS' k).map (·.1)))) =
      cand g b (srt g.n ((ordTo g b XS' YS' k).map (·.1))) (XS' (srt g.n ((ordTo g b XS' YS' k).map (·.1)))) (YS' (srt g.n ((ordTo g b XS' YS' k).map (·.1)))) := funext fun s => fam_cand W W' (srt_nodup _ _) srt_lt s
    rw [e]
theorem fam_Ss (k : Nat) : Ss g b XS YS k = Ss g b XS' YS' k := by unfold Ss; rw [fam_ord W W']
theorem fam_pk (k : Nat) : pk g b XS YS k = pk g b XS' YS' k := by
  have h := congrArg (fun l => l[k]?) (fam_ord W W' (k + 1))
  have h1 : (ordTo g b XS YS (k + 1))[k]? = some (pk g b XS YS k) := ordTo_get (by omega)
  have h2 : (ordTo g b XS' YS' (k + 1))[k]? = some (pk g b XS' YS' k) := ordTo_get (by omega)
  have h' : (ordTo g b XS YS (k + 1))[k]? = (ordTo g b XS' YS' (k + 1))[k]? := h
  rw [h1, h2] at h'
  exact Option.some.inj h'
theorem fam_ci (k : Nat) : ci g b XS YS k = ci g b XS' YS' k := by unfold ci; rw [fam_pk W W']
theorem fam_Gk (k : Nat) (m : Rat) (t : Nat) : Gk g b XS YS k m t = Gk g b XS' YS' k m t := by
  unfold Gk Gv
  rw [fam_Ss W W' k]
  by_cases h : t ∈ Ss g b XS' YS' k
  · rw [if_pos h, if_pos h]
    have e := fam_eq W W' (Ss_nodup k) Ss_lt t h
    rw [e.1, e.2]
  · rw [if_neg h, if_neg h]
theorem fam_pts (s : Nat) : ∀ k, pts g b XS YS s k = pts g b XS' YS' s k
  | 0 => rfl
  | k + 1 => by
    unfold pts keep ptOf
    rw [fam_pts s k, fam_ci W W' k, fam_ci W W' (k + 1), fam_Ss W W' (k + 1), fam_Gk W W']
theorem fam_knots (s : Nat) : knots g b XS YS s = knots g b XS' YS' s := by unfold knots; rw [fam_pts W W']
end

/-! ### the toll -/
def tollG (g : Gm) (t : Rat) : Gm := ⟨g.rs.map (· - t), g.ms⟩
theorem tollG_n (g : Gm) (t : Rat) : (tollG g t).n = g.n := List.length_map ..
theorem tollG_row (g : Gm) (t : Rat) (s : Nat) : (tollG g t).row s = g.row s := rfl
theorem tollG_rew {g : Gm} {t : Rat} {s : Nat} (h : s < g.n) : (tollG g t).rew s = g.rew s - t := by
  unfold Gm.rew tollG
  show (g.rs.map (· - t)).getD s 0 = g.rs.getD s 0 - t
  have h' : s < g.rs.length := h
  rw [List.getD_eq_getElem?_getD, List.getD_eq_getElem?_getD, List.getElem?_map, List.getElem?_eq_getElem h']
  rfl
theorem tollG_ok {g : Gm} {t : Rat} (ok : g.Ok) : (tollG g t).Ok where
  some := by rw [tollG_n]; exact ok.some
  len := by rw [tollG_n]; exact ok.len
  tgt := fun s tp h => by rw [tollG_n]; exact ok.tgt s tp h
  pos := ok.pos
  one := fun s h => by rw [tollG_n] at h; exact ok.one s h

/-- a knot moved down and to the left -/
def sh (c : Rat) (p : Kn) : Kn := (p.1 - c, p.2 - c)
theorem slp_sh (c : Rat) (p q : Kn) : slp (sh c p) (sh c q) = slp p q := by
  unfold slp sh
  rw [show q.2 - c - (p.2 - c) = q.2 - p.2 by grind, show q.1 - c - (p.1 - c) = q.1 - p.1 by grind]
theorem str_sh (c : Rat) : ∀ (be : Rat) (l : List Kn), str be (l.map (sh c)) = (str be l).map (sh c)
  | _, [] => rfl
  | be, [p] => by
    show (if be = 1 then [] else [sh c p]) = (if be = 1 then [] else [p]).map (sh c)
    by_cases h : be = 1
    · rw [if_pos h, if_pos h] <;> rfl
    · rw [if_neg h, if_neg h] <;> rfl
  | be, p :: q :: r => by
    show (if be = slp (sh c p) (sh c q) then str (slp (sh c p) (sh c q)) ((q :: r).map (sh c)) else sh c p :: str (slp (sh c p) (sh c q)) ((q :: r).map (sh c))) = (if be = slp p q then str (slp p q) (q :: r) else p :: str (slp p q) (q :: r)).map (sh c)
    rw [slp_sh, str_sh c _ (q :: r)]
    by_cases h : be = slp p q
    · rw [if_pos h, if_pos h]
    · rw [if_neg h, if_neg h] <;> rfl
theorem Gx_sh (c : Rat) : ∀ (l : List Kn) (p : Kn) (m : Rat), Gx (sh c p) (l.map (sh c)) m = Gx p l (m + c) - c
  | [], p, m => by
    show p.2 - c + (m - (p.1 - c)) = p.2 + (m + c - p.1) - c
    grind
  | q :: r, p, m => by
    show (if m ≤ q.1 - c then p.2 - c + slp (sh c p) (sh c q) * (m - (p.1 - c)) else Gx (sh c q) (r.map (sh c)) m) = (if m + c ≤ q.1 then p.2 + slp p q * (m + c - p.1) else Gx q r (m + c)) - c
    rw [slp_sh, Gx_sh c r q m]
    by_cases h : m + c ≤ q.1
    · rw [if_pos h, if_pos (by grind)]; grind
    · rw [if_neg h, if_neg (by grind)]
theorem Fx_sh (c : Rat) {l : List Kn} (hl : l ≠ []) (be m : Rat) : Fx be (l.map (sh c)) m = Fx be l (m + c) - c := by
  cases l with
  | nil => exact absurd rfl hl
  | cons p r =>
    show (if m ≤ p.1 - c then p.2 - c + be * (m - (p.1 - c)) else Gx (sh c p) (r.map (sh c)) m) = (if m + c ≤ p.1 then p.2 + be * (m + c - p.1) else Gx p r (m + c)) - c
    rw [Gx_sh]
    by_cases h : m + c ≤ p.1
    · rw [if_pos h, if_pos (by grind)]; grind
    · rw [if_neg h, if_neg (by grind)]
theorem kA_sh {c : Rat} {l : List Kn} {k : Nat} (h : k < l.length) : kA (l.map (sh c)) k = kA l k - c := by
  unfold kA
  rw [List.getD_eq_getElem?_getD, List.getD_eq_getElem?_getD, List.getElem?_map, List.getElem?_eq_getElem h] <;> rfl
theorem kV_sh {c : Rat} {l : List Kn} {k : Nat} (h : k < l.length) : kV (l.map (sh c)) k = kV l k - c := by
  unfold kV
  rw [List.getD_eq_getElem?_getD, List.getD_eq_getElem?_getD, List.getElem?_map, List.getElem?_eq_getElem h] <;> rfl
theorem kE_sh {c : Rat} {l : List Kn} {k : Nat} (h : k < l.length) : kE (l.map (sh c)) k = kE l k := by
  unfold kE
  rw [kA_sh h, kV_sh h]
  grind
theorem amt_sh {c : Rat} {l : List Kn} (x : Rat) : ∀ k, k < l.length → amt (l.map (sh c)) x k = amt l x k - c
  | 0, h => by
    show kV (l.map (sh c)) 0 - x = kV l 0 - x - c
    rw [kV_sh h]
    grind
  | k + 1, h => by
    unfold amt
    rw [kE_sh (show k < l.length by omega), kE_sh h, kA_sh h, kA_sh (show k < l.length by omega), amt_sh x k (by omega)]
    by_cases q : kE l k < x
    · rw [if_pos q, if_pos q]
    · rw [if_neg q, if_neg q]
      rw [show kA l (k + 1) - c - (kA l k - c) = kA l (k + 1) - kA l k by grind]
      grind
theorem amount_sh {c : Rat} {l : List Kn} (hl : l ≠ []) (x : Rat) : amount (l.map (sh c)) x = amount l x - c := by
  unfold amount
  rw [List.length_map, amt_sh x _ (by have := List.length_pos_iff.mpr hl; omega)]
theorem ahead_sh {c : Rat} {l : List Kn} (hl : l ≠ []) (l' : List Kn) (x : Rat) : ahead (l.map (sh c)) l' x = ahead l l' x - c := by
  unfold ahead
  rw [amount_sh hl]
  grind

section
variable {g : Gm} {b : Rat} {XS YS : List Nat → Nat → Rat} (W : Fam g b XS YS) {t c : Rat} (hc : t = c * (1 - b))
include W hc
/-- the family of the game with the toll, by the old one -/
theorem fam_toll : Fam (tollG g t) b (fun S s => XS S s - c * (1 - YS S s)) YS := by
  refine ⟨tollG_ok W.ok, W.disc, fun S hn hS => ?_⟩
  have hS' : ∀ s ∈ S, s < g.n := fun s hs => by have := hS s hs; rw [tollG_n] at this; exact this
  have L := W.lv S hn hS'
  refine ⟨fun s hs => ?_, L.y⟩
  rw [tollG_rew (hS' s hs), tollG_row]
  have e1 := L.x s hs
  have e2 := L.y s hs
  have e3 : dot (g.row s) (fun u => if u ∈ S then XS S u - c * (1 - YS S u) else 0) = dot (g.row s) (fun u => (if u ∈ S then XS S u else 0) - c * (1 - (if u ∈ S then YS S u else 1))) := dot_congr fun tp _ => by
    by_cases h : tp.1 ∈ S
    · rw [if_pos h, if_pos h, if_pos h]
    · rw [if_neg h, if_neg h, if_neg h]; grind
  have e4 : dot (g.row s) (fun u => (if u ∈ S then XS S u else 0) - c * (1 - (if u ∈ S then YS S u else 1))) = dot (g.row s) (fun u => if u ∈ S then XS S u else 0) - c * (1 - dot (g.row s) (fun u => if u ∈ S then YS S u else 1)) := by
    rw [dot_sub, dot_mul, dot_sub, W.ok.one s (hS' s hs)]
  simp only [e3, e4]
  grind
theorem toll_cand {S : List Nat} (hn : S.Nodup) (hS : ∀ s ∈ S, s < g.n) {s : Nat} (hs : s < g.n) :
    cand (tollG g t) b S (fun s => XS S s - c * (1 - YS S s)) (YS S) s = cand g b S (XS S) (YS S) s - c := by
  have L := W.lv S hn hS
  have l := Ff_lt W.ok W.disc hS L hs
  have eF : Ff (tollG g t) b S (YS S) s = Ff g b S (YS S) s := rfl
  have eE : Ee (tollG g t) b S (fun s => XS S s - c * (1 - YS S s)) s = Ee g b S (XS S) s - c * (1 - Ff g b S (YS S) s) := by
    unfold Ee Ff
    rw [tollG_rew hs, tollG_row]
    have e3 : dot (g.row s) (fun u => if u ∈ S then XS S u - c * (1 - YS S u) else 0) = dot (g.row s) (fun u => (if u ∈ S then XS S u else 0) - c * (1 - (if u ∈ S then YS S u else 1))) := dot_congr fun tp _ => by
      by_cases h : tp.1 ∈ S
      · rw [if_pos h, if_pos h, if_pos h]
      · rw [if_neg h, if_neg h, if_neg h]; grind
    have e4 : dot (g.row s) (fun u => (if u ∈ S then XS S u else 0) - c * (1 - (if u ∈ S then YS S u else 1))) = dot (g.row s) (fun u => if u ∈ S then XS S u else 0) - c * (1 - dot (g.row s) (fun u => if u ∈ S then YS S u else 1)) := by
      rw [dot_sub, dot_mul, dot_sub, W.ok.one s hs]
    rw [e3, e4]
    grind
  unfold cand
  rw [eE, eF]
  have : 1 - Ff g b S (YS S) s ≠ 0 := by grind
  grind
omit W hc in
theorem pickTo_sh {f f' : Nat → Rat} {S : List Nat} {c : Rat} : ∀ {k : Nat}, (∀ s, s < k → f' s = f s - c) → pickTo f' S k = (pickTo f S k).map fun p => (p.1, p.2 - c)
  | 0, _ => rfl
  | k + 1, h => by
    unfold pickTo
    rw [pickTo_sh (k := k) fun s hs => h s (by omega)]
    by_cases hk : k ∈ S
    · rw [if_pos hk, if_pos hk]
    · rw [if_neg hk, if_neg hk]
      cases pickTo f S k with
      | none => show some (k, f' k) = some (k, f k - c); rw [h k (by omega)]
      | some p =>
        show (if p.2 - c < f' k then some (k, f' k) else some (p.1, p.2 - c)) = (if p.2 < f k then some (k, f k) else some p).map fun p => (p.1, p.2 - c)
        rw [h k (by omega)]
        by_cases q : p.2 < f k
        · rw [if_pos q, if_pos (by grind)] <;> rfl
        · rw [if_neg q, if_neg (by grind)] <;> rfl
/-- the order is the same, each index is less by c -/
theorem toll_ord : ∀ k, k ≤ g.n → ordTo (tollG g t) b (fun S s => XS S s - c * (1 - YS S s)) YS k = (ordTo g b XS YS k).map fun p => (p.1, p.2 - c)
  | 0, _ => rfl
  | k + 1, hk => by
    have ih := toll_ord k (by omega)
    have eS : Ss (tollG g t) b (fun S s => XS S s - c * (1 - YS S s)) YS k = Ss g b XS YS k := by
      unfold Ss
      rw [ih, tollG_n, List.map_map]
      rfl
    rw [ordTo_succ, ordTo_succ, ih, List.map_append]
    congr 1
    show [pk _ _ _ _ k] = [((pk g b XS YS k).1, (pk g b XS YS k).2 - c)]
    congr 1
    have e1 := pickTo_sh (c := c) (S := Ss g b XS YS k) (k := g.n) (f := cand g b (Ss g b XS YS k) (XS (Ss g b XS YS k)) (YS (Ss g b XS YS k)))
      (f' := cand (tollG g t) b (Ss g b XS YS k) (fun s => XS (Ss g b XS YS k) s - c * (1 - YS (Ss g b XS YS k) s)) (YS (Ss g b XS YS k))) (fun s hs => toll_cand W hc (Ss_nodup k) Ss_lt hs)
    unfold pk
    rw [eS]
    unfold nxt
    rw [tollG_n, e1]
    cases q : pickTo (cand g b (Ss g b XS YS k) (XS (Ss g b XS YS k)) (YS (Ss g b XS YS k))) (Ss g b XS YS k) g.n with
    | none =>
      have h := pickTo_none q
      have h1 : (List.range g.n).length ≤ ((ordTo g b XS YS k).map (·.1)).length := nodup_sub_len List.nodup_range fun x hx => (mem_srt.mp (h x (List.mem_range.mp hx))).2
      rw [List.length_range, List.length_map, ordTo_len] at h1
      omega
    | some p => rfl
theorem toll_Ss {k : Nat} (hk : k ≤ g.n) : Ss (tollG g t) b (fun S s => XS S s - c * (1 - YS S s)) YS k = Ss g b XS YS k := by
  unfold Ss
  rw [toll_ord W hc k hk, tollG_n, List.map_map]
  rfl
theorem toll_ci {k : Nat} (hk : k < g.n) : ci (tollG g t) b (fun S s => XS S s - c * (1 - YS S s)) YS k = ci g b XS YS k - c := by
  have h1 : (ordTo (tollG g t) b (fun S s => XS S s - c * (1 - YS S s)) YS (k + 1))[k]? = some (pk _ _ _ _ k) := ordTo_get (by omega)
  have h2 : (ordTo g b XS YS (k + 1))[k]? = some (pk g b XS YS k) := ordTo_get (by omega)
  rw [toll_ord W hc (k + 1) (by omega), List.getElem?_map, h2] at h1
  have h3 := Option.some.inj h1
  unfold ci
  rw [← h3]
theorem toll_Gk {k : Nat} (hk : k ≤ g.n) (m : Rat) (s : Nat) : Gk (tollG g t) b (fun S s => XS S s - c * (1 - YS S s)) YS k (m - c) s = Gk g b XS YS k m s - c := by
  unfold Gk Gv
  rw [toll_Ss W hc hk]
  by_cases h : s ∈ Ss g b XS YS k
  · rw [if_pos h, if_pos h]; grind
  · rw [if_neg h, if_neg h]
theorem toll_pts (s : Nat) : ∀ k, k ≤ g.n → pts (tollG g t) b (fun S s => XS S s - c * (1 - YS S s)) YS s k = (pts g b XS YS s k).map (sh c)
  | 0, _ => rfl
  | k + 1, hk => by
    have ek : keep (tollG g t) b (fun S s => XS S s - c * (1 - YS S s)) YS k = keep g b XS YS k := by
      unfold keep
      rw [tollG_n]
      refine decide_eq_decide.mpr (not_congr (and_congr_right fun q => ?_))
      rw [toll_ci W hc (k := k + 1) q, toll_ci W hc (k := k) (by omega)]
      exact ⟨fun e => by grind, fun e => by rw [e]⟩
    have ep : ptOf (tollG g t) b (fun S s => XS S s - c * (1 - YS S s)) YS k s = sh c (ptOf g b XS YS k s) := by
      unfold ptOf sh
      rw [toll_ci W hc (k := k) (by omega), toll_Gk W hc hk]
    unfold pts
    rw [toll_pts s k (by omega), ek, ep, toll_Ss W hc hk, List.map_append]
    congr 1
    by_cases h : keep g b XS YS k = true ∧ s ∈ Ss g b XS YS (k + 1)
    · rw [if_pos h, if_pos h] <;> rfl
    · rw [if_neg h, if_neg h] <;> rfl
theorem toll_knots (s : Nat) : knots (tollG g t) b (fun S s => XS S s - c * (1 - YS S s)) YS s = (knots g b XS YS s).map (sh c) := by
  unfold knots
  rw [tollG_n, toll_pts W hc s _ (Nat.le_refl _), str_sh]
/-- .. whatever family tells the game with the toll -/
theorem toll_knots' {XS' YS' : List Nat → Nat → Rat} (W' : Fam (tollG g t) b XS' YS') (s : Nat) : knots (tollG g t) b XS' YS' s = (knots g b XS YS s).map (sh c) := by
  rw [fam_knots W' (fam_toll W hc), toll_knots W hc]
end
end AC

set_option linter.all false
set_option Elab.async false
/-! plain mathematics: sizes of ratios; the ratio of two ints -/
namespace AC
/-- both integers below 2 ^ k -/
def Sz (k : Nat) (x : Rat) : Prop := x.num.natAbs < 2 ^ k ∧ x.den < 2 ^ k
/-- D times x is whole -/
def Dn (D : Nat) (x : Rat) : Prop := ∃ z : Int, (D : Rat) * x = (z : Rat)

theorem rat_mul_den (x : Rat) : x * (x.den : Rat) = (x.num : Rat) := by
  have h : x = (x.num : Rat) / (x.den : Rat) := by
    rw [← Rat.mkRat_eq_div, Rat.mkRat_self]
  have hd : (x.den : Rat) ≠ 0 := by
    have := x.den_nz
    intro e
    exact this (by exact_mod_cast e)
  grind

theorem of_Dn {D : Nat} {x : Rat} {z : Int} (hD : 0 < D) (h : (D : Rat) * x = (z : Rat)) : x.den ∣ D ∧ x.num.natAbs ≤ z.natAbs := by
  have e : (D : Int) * x.num = z * (x.den : Int) := by
    have h1 := rat_mul_den x
    have h2 : ((D : Int) * x.num : Int) = ((z * (x.den : Int) : Int)) := by
      have : (((D : Int) * x.num : Int) : Rat) = ((z * (x.den : Int) : Int) : Rat) := by
        rw [Rat.intCast_mul, Rat.intCast_mul]
        have a : ((D : Int) : Rat) = (D : Rat) := rfl
        have b : ((x.den : Int) : Rat) = (x.den : Rat) := rfl
        rw [a, b, ← h1, ← h]
        grind
      exact Rat.intCast_inj.mp this
    exact h2
  have e2 : D * x.num.natAbs = z.natAbs * x.den := by
    have := congrArg Int.natAbs e
    rw [Int.natAbs_mul, Int.natAbs_mul] at this
    simpa using this
  have dv : x.den ∣ D := by
    have hc : Nat.Coprime x.den x.num.natAbs := x.reduced.symm
    exact hc.dvd_of_dvd_mul_right ⟨z.natAbs, by rw [e2]; exact Nat.mul_comm _ _⟩
  refine ⟨dv, ?_⟩
  obtain ⟨q, rfl⟩ := dv
  have hd : 0 < x.den := Nat.pos_of_ne_zero x.den_nz
  have hq : 0 < q := by
    rcases Nat.eq_zero_or_pos q with r | r
    · rw [r] at hD; omega
    · exact r
  have e3 : q * x.num.natAbs = z.natAbs := by
    have : x.den * (q * x.num.natAbs) = x.den * z.natAbs := by rw [← Nat.mul_assoc, e2, Nat.mul_comm]
    exact Nat.eq_of_mul_eq_mul_left hd this
  rw [← e3]
  exact Nat.le_mul_of_pos_left _ hq

theorem Sz.mono {j k : Nat} {x : Rat} (h : Sz j x) (hk : j ≤ k) : Sz k x :=
  ⟨Nat.lt_of_lt_of_le h.1 (Nat.pow_le_pow_right (by decide) hk), Nat.lt_of_lt_of_le h.2 (Nat.pow_le_pow_right (by decide) hk)⟩
theorem lt_pow_add {a b j k : Nat} (ha : a < 2 ^ j) (hb : b < 2 ^ k) : a * b < 2 ^ (j + k) := by
  rw [Nat.pow_add]
  exact Nat.mul_lt_mul'' ha hb
theorem Sz.of {D : Nat} {x : Rat} {z : Int} {k : Nat} (hD : 0 < D) (h : (D : Rat) * x = (z : Rat)) (h1 : D < 2 ^ k) (h2 : z.natAbs < 2 ^ k) : Sz k x := by
  obtain ⟨a, b⟩ := of_Dn hD h
  exact ⟨Nat.lt_of_le_of_lt b h2, Nat.lt_of_le_of_lt (Nat.le_of_dvd hD a) h1⟩
theorem den_pos (x : Rat) : 0 < x.den := Nat.pos_of_ne_zero x.den_nz
theorem Sz.add {j k : Nat} {x y : Rat} (hx : Sz j x) (hy : Sz k y) : Sz (j + k + 1) (x + y) := by
  refine Sz.of (D := x.den * y.den) (z := x.num * y.den + y.num * x.den) (Nat.mul_pos (den_pos x) (den_pos y)) ?_ ?_ ?_
  · have h1 := rat_mul_den x
    have h2 := rat_mul_den y
    rw [Rat.intCast_add, Rat.intCast_mul, Rat.intCast_mul]
    have a : (((x.den : Nat) : Int) : Rat) = (x.den : Rat) := rfl
    have b : (((y.den : Nat) : Int) : Rat) = (y.den : Rat) := rfl
    rw [a, b, ← h1, ← h2, Rat.natCast_mul]
    grind
  · have := lt_pow_add hx.2 hy.2
    exact Nat.lt_of_lt_of_le this (Nat.pow_le_pow_right (by decide) (by omega))
  · have a := lt_pow_add hx.1 hy.2
    have b := lt_pow_add hy.1 hx.2
    have c : (x.num * (y.den : Int)).natAbs = x.num.natAbs * y.den := by rw [Int.natAbs_mul]; simp
    have d : (y.num * (x.den : Int)).natAbs = y.num.natAbs * x.den := by rw [Int.natAbs_mul]; simp
    have e := Int.natAbs_add_le (x.num * (y.den : Int)) (y.num * (x.den : Int))
    rw [c, d] at e
    have f : 2 ^ (j + k + 1) = 2 ^ (j + k) + 2 ^ (j + k) := by rw [Nat.pow_succ]; omega
    rw [Nat.add_comm k j] at b
    omega
theorem Sz.neg {k : Nat} {x : Rat} (hx : Sz k x) : Sz k (-x) := ⟨by rw [Rat.neg_num, Int.natAbs_neg]; exact hx.1, by rw [Rat.neg_den]; exact hx.2⟩
theorem Sz.sub {j k : Nat} {x y : Rat} (hx : Sz j x) (hy : Sz k y) : Sz (j + k + 1) (x - y) := by
  rw [Rat.sub_eq_add_neg]
  exact hx.add hy.neg
theorem Sz.mul {j k : Nat} {x y : Rat} (hx : Sz j x) (hy : Sz k y) : Sz (j + k) (x * y) := by
  refine Sz.of (D := x.den * y.den) (z := x.num * y.num) (Nat.mul_pos (den_pos x) (den_pos y)) ?_ (lt_pow_add hx.2 hy.2) ?_
  · have h1 := rat_mul_den x
    have h2 := rat_mul_den y
    rw [Rat.intCast_mul, ← h1, ← h2, Rat.natCast_mul]
    grind
  · rw [Int.natAbs_mul]
    exact lt_pow_add hx.1 hy.1
theorem Sz.div {j k : Nat} {x y : Rat} (hx : Sz j x) (hy : Sz k y) (h0 : y ≠ 0) : Sz (j + k) (x / y) := by
  have hn : y.num ≠ 0 := fun e => h0 (by
    have := rat_mul_den y
    rw [e] at this
    have hd : (y.den : Rat) ≠ 0 := fun q => y.den_nz (by exact_mod_cast q)
    have z : ((0 : Int) : Rat) = 0 := rfl
    rw [z] at this
    rcases Rat.mul_eq_zero.mp this with q | q
    · exact q
    · exact absurd q hd)
  have e : (x.den : Rat) * (y.num : Rat) * (x / y) = (x.num : Rat) * (y.den : Rat) := by
    have h1 := rat_mul_den x
    have h2 := rat_mul_den y
    rw [← h1, ← h2]
    grind
  refine Sz.of (D := x.den * y.num.natAbs) (z := y.num.sign * (x.num * y.den)) (Nat.mul_pos (den_pos x) (Int.natAbs_pos.mpr hn)) ?_ (lt_pow_add hx.2 hy.1) ?_
  · rw [Rat.natCast_mul, Rat.intCast_mul, Rat.intCast_mul]
    have a : (((y.den : Nat) : Int) : Rat) = (y.den : Rat) := rfl
    rw [a, ← e]
    have s : ((y.num.natAbs : Nat) : Rat) = (y.num.sign : Rat) * (y.num : Rat) := by
      rw [← Rat.intCast_mul, Int.sign_mul_self] <;> rfl
    rw [s]
    grind
  · rw [Int.natAbs_mul, Int.natAbs_mul]
    have s : y.num.sign.natAbs = 1 := Int.natAbs_sign_of_ne_zero hn
    rw [s, Nat.one_mul]
    have := lt_pow_add hx.1 hy.2
    simpa using this
theorem Sz.int {k : Nat} {i : Int} (h : i.natAbs < 2 ^ k) (h1 : 0 < k) : Sz k (i : Rat) := ⟨by rw [Rat.num_intCast]; exact h, by rw [Rat.den_intCast]; exact Nat.one_lt_two_pow (by omega)⟩
theorem Sz.zero : Sz 1 (0 : Rat) := ⟨by decide, by decide⟩
theorem Sz.one : Sz 1 (1 : Rat) := ⟨by decide, by decide⟩

/-! ### whole multiples -/
theorem Dn.mul_left {D E : Nat} {x : Rat} (h : Dn D x) : Dn (E * D) x := by
  obtain ⟨z, e⟩ := h
  exact ⟨(E : Int) * z, by rw [Rat.natCast_mul, Rat.intCast_mul]; show (E : Rat) * D * x = (E : Rat) * z; grind⟩
theorem Dn.mul_right {D E : Nat} {x : Rat} (h : Dn D x) : Dn (D * E) x := by rw [Nat.mul_comm]; exact h.mul_left
theorem Dn.add {D : Nat} {x y : Rat} (h : Dn D x) (k : Dn D y) : Dn D (x + y) := by
  obtain ⟨z, e⟩ := h
  obtain ⟨u, f⟩ := k
  exact ⟨z + u, by rw [Rat.intCast_add]; grind⟩
theorem Dn.sub {D : Nat} {x y : Rat} (h : Dn D x) (k : Dn D y) : Dn D (x - y) := by
  obtain ⟨z, e⟩ := h
  obtain ⟨u, f⟩ := k
  exact ⟨z - u, by rw [Rat.intCast_sub]; grind⟩
theorem Dn.mul {D E : Nat} {x y : Rat} (h : Dn D x) (k : Dn E y) : Dn (D * E) (x * y) := by
  obtain ⟨z, e⟩ := h
  obtain ⟨u, f⟩ := k
  exact ⟨z * u, by rw [Rat.natCast_mul, Rat.intCast_mul]; grind⟩
theorem Dn.zero (D : Nat) : Dn D 0 := ⟨0, by show (D : Rat) * 0 = 0; grind⟩
theorem Dn.one (D : Nat) : Dn D 1 := ⟨D, by show (D : Rat) * 1 = (D : Rat); grind⟩
theorem Dn.self (x : Rat) : Dn x.den x := ⟨x.num, by rw [← rat_mul_den]; grind⟩
/-- size from a denominator and a magnitude -/
theorem Sz.ofDn {D M : Nat} {x : Rat} {k : Nat} (hD : 0 < D) (h : Dn D x) (h1 : x ≤ (M : Rat)) (h2 : -(M : Rat) ≤ x) (hM : 0 < M) (hk : D * M < 2 ^ k) : Sz k x := by
  obtain ⟨z, e⟩ := h
  refine Sz.of hD e (Nat.lt_of_le_of_lt (Nat.le_mul_of_pos_right _ hM) hk) (Nat.lt_of_le_of_lt ?_ hk)
  have hD' : (0 : Rat) ≤ (D : Rat) := by exact_mod_cast Nat.zero_le D
  have a : (z : Rat) ≤ ((D * M : Nat) : Rat) := by
    rw [← e, Rat.natCast_mul]
    exact Rat.mul_le_mul_of_nonneg_left h1 hD'
  have b : -(((D * M : Nat) : Rat)) ≤ (z : Rat) := by
    rw [← e, Rat.natCast_mul]
    have := Rat.mul_le_mul_of_nonneg_left h2 hD'
    grind
  have a' : z ≤ ((D * M : Nat) : Int) := by exact_mod_cast a
  have b' : -(((D * M : Nat) : Int)) ≤ z := by
    have c : ((-(((D * M : Nat) : Int)) : Int) : Rat) ≤ (z : Rat) := by
      rw [Rat.intCast_neg]
      exact b
    exact Rat.intCast_le_intCast.mp c
  omega
end AC

set_option linter.all false
set_option Elab.async false
/-! plain mathematics: the elimination of linear.solve -/
namespace AC
/-! ### sums -/
def sm : Nat → (Nat → Rat) → Rat
  | 0, _ => 0
  | n + 1, f => sm n f + f n
theorem sm_congr {f h : Nat → Rat} : ∀ {n : Nat}, (∀ i, i < n → f i = h i) → sm n f = sm n h
  | 0, _ => rfl
  | n + 1, e => by show sm n f + f n = sm n h + h n; rw [sm_congr fun i hi => e i (by omega), e n (by omega)]
theorem sm_zero : ∀ {n : Nat} {f : Nat → Rat}, (∀ i, i < n → f i = 0) → sm n f = 0
  | 0, _, _ => rfl
  | n + 1, f, e => by show sm n f + f n = 0; rw [sm_zero fun i hi => e i (by omega), e n (by omega)]; grind
theorem sm_sub (f h : Nat → Rat) : ∀ n, sm n (fun i => f i - h i) = sm n f - sm n h
  | 0 => by show (0 : Rat) = 0 - 0; grind
  | n + 1 => by show sm n (fun i => f i - h i) + (f n - h n) = sm n f + f n - (sm n h + h n); rw [sm_sub f h n]; grind
theorem sm_mul (c : Rat) (f : Nat → Rat) : ∀ n, sm n (fun i => c * f i) = c * sm n f
  | 0 => by show (0 : Rat) = c * 0; grind
  | n + 1 => by show sm n (fun i => c * f i) + c * f n = c * (sm n f + f n); rw [sm_mul c f n]; grind
theorem sm_mul' (c : Rat) (f : Nat → Rat) (n : Nat) : sm n (fun i => f i * c) = sm n f * c := by
  rw [sm_congr (h := fun i => c * f i) fun i _ => by grind, sm_mul]
  grind
theorem sm_add (f h : Nat → Rat) : ∀ n, sm n (fun i => f i + h i) = sm n f + sm n h
  | 0 => by show (0 : Rat) = 0 + 0; grind
  | n + 1 => by show sm n (fun i => f i + h i) + (f n + h n) = sm n f + f n + (sm n h + h n); rw [sm_add f h n]; grind
theorem sm_swap (f : Nat → Nat → Rat) (n : Nat) : ∀ k, sm n (fun c => sm k (fun t => f t c)) = sm k (fun t => sm n (fun c => f t c))
  | 0 => sm_zero fun _ _ => rfl
  | k + 1 => by
    show sm n (fun c => sm k (fun t => f t c) + f k c) = sm k (fun t => sm n (fun c => f t c)) + sm n (fun c => f k c)
    rw [sm_add, sm_swap f n k]
theorem sm_nn {f : Nat → Rat} : ∀ {n : Nat}, (∀ i, i < n → 0 ≤ f i) → 0 ≤ sm n f
  | 0, _ => Rat.le_refl
  | n + 1, h => by
    have := sm_nn (n := n) fun i hi => h i (by omega)
    have := h n (by omega)
    show 0 ≤ sm n f + f n
    grind
/-- all but one place are not greater than zero -/
theorem sm_le_at {f : Nat → Rat} {k : Nat} : ∀ {n : Nat}, k < n → (∀ i, i < n → i ≠ k → f i ≤ 0) → sm n f ≤ f k
  | n + 1, hk, h => by
    show sm n f + f n ≤ f k
    by_cases e : k = n
    · have : sm n f ≤ 0 := by
        have := sm_nn (n := n) (f := fun i => -f i) fun i hi => by have := h i (by omega) (by omega); grind
        have e2 : sm n (fun i => -f i) = -sm n f := by
          rw [sm_congr (h := fun i => (-1) * f i) fun i _ => by grind, sm_mul]
          grind
        rw [e2] at this
        grind
      rw [e]
      grind
    · have := sm_le_at (n := n) (by omega) fun i hi => h i (by omega)
      have := h n (by omega) (by omega)
      grind
theorem sm_delta {f : Nat → Rat} {k : Nat} : ∀ {n : Nat}, sm n (fun i => f i * (if i = k then 1 else 0)) = if k < n then f k else 0
  | 0 => by rw [if_neg (by omega)] <;> rfl
  | n + 1 => by
    show sm n (fun i => f i * (if i = k then 1 else 0)) + f n * (if n = k then 1 else 0) = _
    rw [sm_delta (n := n)]
    by_cases e : n = k
    · subst e; rw [if_pos rfl, if_neg (by omega), if_pos (by omega)]; grind
    · rw [if_neg e]
      by_cases q : k < n
      · rw [if_pos q, if_pos (by omega)]; grind
      · rw [if_neg q, if_neg (by omega)]; grind

/-! ### rows -/
def en (r : List Rat) (j : Nat) : Rat := r.getD j 0
def rowAt (R : List (List Rat)) (i : Nat) : List Rat := R.getD i []
/-- linear.without, in value -/
def wo (row other : List Rat) (c : Nat) : List Rat := List.zipWith (fun a b => a - en row c * b) row other
theorem wo_len {row other : List Rat} {W : Nat} (h : row.length = W) (h' : other.length = W) (c : Nat) : (wo row other c).length = W := by
  unfold wo
  rw [List.length_zipWith, h, h', Nat.min_self]
theorem en_ge {r : List Rat} {j : Nat} (h : r.length ≤ j) : en r j = 0 := by
  unfold en
  rw [List.getD_eq_getElem?_getD, List.getElem?_eq_none h] <;> rfl
theorem en_wo {row other : List Rat} (h : row.length = other.length) (c j : Nat) : en (wo row other c) j = en row j - en row c * en other j := by
  by_cases hj : j < row.length
  · unfold wo
    have h2 : j < other.length := by omega
    have e : ∀ l : List Rat, ∀ (q : j < l.length), en l j = l[j] := fun l q => by
      unfold en
      rw [List.getD_eq_getElem?_getD, List.getElem?_eq_getElem q] <;> rfl
    rw [e _ (by rw [List.length_zipWith]; omega), List.getElem_zipWith, e row hj, e other h2]
  · rw [en_ge (show (wo row other c).length ≤ j by rw [wo_len rfl h.symm]; omega), en_ge (show row.length ≤ j by omega), en_ge (show other.length ≤ j by omega)]
    grind
/-- a row less its multiples of the first i rows -/
def elimTo (R : List (List Rat)) (a : List Rat) : Nat → List Rat
  | 0 => a
  | i + 1 => wo (elimTo R a i) (rowAt R i) i
def norm (row : List Rat) (k : Nat) : List Rat := row.map fun x => x / en row k
/-- the rows behind one more row -/
def stepR (R : List (List Rat)) (a : List Rat) : List (List Rat) :=
  R.map (fun o => wo o (norm (elimTo R a R.length) R.length) R.length) ++ [norm (elimTo R a R.length) R.length]
def gj (A : List (List Rat)) : Nat → List (List Rat)
  | 0 => []
  | k + 1 => stepR (gj A k) (rowAt A k)
theorem stepR_len (R : List (List Rat)) (a : List Rat) : (stepR R a).length = R.length + 1 := by
  unfold stepR
  rw [List.length_append, List.length_map] <;> rfl
theorem gj_len (A : List (List Rat)) : ∀ k, (gj A k).length = k
  | 0 => rfl
  | k + 1 => by show (stepR (gj A k) (rowAt A k)).length = _; rw [stepR_len, gj_len A k]
theorem en_norm (row : List Rat) (k j : Nat) : en (norm row k) j = en row j / en row k := by
  unfold norm
  by_cases h : j < row.length
  · have e : en (row.map fun x => x / en row k) j = row[j] / en row k := by
      show (row.map fun x => x / en row k).getD j 0 = _
      rw [List.getD_eq_getElem?_getD, List.getElem?_map, List.getElem?_eq_getElem h] <;> rfl
    rw [e]
    have e2 : en row j = row[j] := by
      unfold en
      rw [List.getD_eq_getElem?_getD, List.getElem?_eq_getElem h] <;> rfl
    rw [e2]
  · rw [en_ge (show (row.map fun x => x / en row k).length ≤ j by rw [List.length_map]; omega), en_ge (show row.length ≤ j by omega)]
    rw [Rat.div_def]
    grind
theorem rowAt_lt {R : List (List Rat)} {f : List Rat → List Rat} {x : List Rat} {i : Nat} (h : i < R.length) : rowAt (R.map f ++ [x]) i = f (rowAt R i) := by
  unfold rowAt
  rw [List.getD_eq_getElem?_getD, List.getD_eq_getElem?_getD, List.getElem?_append_left (by rw [List.length_map]; exact h), List.getElem?_map, List.getElem?_eq_getElem h] <;> rfl
theorem rowAt_last {R : List (List Rat)} {f : List Rat → List Rat} {x : List Rat} : rowAt (R.map f ++ [x]) R.length = x := by
  unfold rowAt
  rw [List.getD_eq_getElem?_getD, List.getElem?_append_right (by rw [List.length_map]; exact Nat.le_refl _), List.length_map, Nat.sub_self] <;> rfl

/-- what the given rows are: a dominant diagonal -/
structure Dom (n W : Nat) (A : List (List Rat)) : Prop where
  wide : n ≤ W
  len : ∀ j, j < n → (rowAt A j).length = W
  dia : ∀ j, j < n → en (rowAt A j) j ≤ 1
  neg : ∀ j, j < n → ∀ c, c < n → c ≠ j → en (rowAt A j) c ≤ 0
  sum : ∀ j, j < n → 0 < sm n (en (rowAt A j))
/-- what the reduced rows are -/
structure Red (n W : Nat) (A R : List (List Rat)) (k : Nat) : Prop where
  cnt : R.length = k
  len : ∀ i, i < k → (rowAt R i).length = W
  idn : ∀ i, i < k → ∀ j, j < k → en (rowAt R i) j = if i = j then 1 else 0
  neg : ∀ i, i < k → ∀ j, k ≤ j → j < n → en (rowAt R i) j ≤ 0
  sum : ∀ i, i < k → 0 < sm n (en (rowAt R i))
  span : ∀ j, j < k → ∀ c, en (rowAt A j) c = sm k (fun i => en (rowAt A j) i * en (rowAt R i) c)

section
variable {n W k : Nat} {A R : List (List Rat)} (D : Dom n W A) (I : Red n W A R k) (hk : k < n)
include D I hk
theorem elim_len : ∀ i, i ≤ k → (elimTo R (rowAt A k) i).length = W
  | 0, _ => D.len k hk
  | i + 1, h => wo_len (elim_len i (by omega)) (I.len i (by omega)) i
theorem elim_en : ∀ i, i ≤ k → ∀ c, en (elimTo R (rowAt A k) i) c = en (rowAt A k) c - sm i (fun t => en (rowAt A k) t * en (rowAt R t) c)
  | 0, _, c => by show en (rowAt A k) c = en (rowAt A k) c - 0; grind
  | i + 1, h, c => by
    have e1 := en_wo (row := elimTo R (rowAt A k) i) (other := rowAt R i) (by rw [elim_len D I hk i (by omega), I.len i (by omega)]) i c
    show en (wo (elimTo R (rowAt A k) i) (rowAt R i) i) c = _
    rw [e1, elim_en i (by omega) c, elim_en i (by omega) i]
    have e2 : sm i (fun t => en (rowAt A k) t * en (rowAt R t) i) = 0 := sm_zero fun t ht => by
      rw [I.idn t (by omega) i (by omega), if_neg (by omega)]
      grind
    rw [e2]
    show _ = en (rowAt A k) c - (sm i (fun t => en (rowAt A k) t * en (rowAt R t) c) + en (rowAt A k) i * en (rowAt R i) c)
    grind
theorem cur_zero {c : Nat} (hc : c < k) : en (elimTo R (rowAt A k) k) c = 0 := by
  rw [elim_en D I hk k (Nat.le_refl _)]
  have e : sm k (fun t => en (rowAt A k) t * en (rowAt R t) c) = sm k (fun t => en (rowAt A k) t * (if t = c then 1 else 0)) := sm_congr fun t ht => by rw [I.idn t ht c hc]
  rw [e, sm_delta, if_pos hc]
  grind
theorem prod_nn {t c : Nat} (ht : t < k) (hc : k ≤ c) (hn : c < n) : 0 ≤ en (rowAt A k) t * en (rowAt R t) c := by
  have a := D.neg k hk t (by omega) (by omega)
  have b := I.neg t ht c hc hn
  have := Rat.mul_nonneg (show 0 ≤ -en (rowAt A k) t by grind) (show 0 ≤ -en (rowAt R t) c by grind)
  grind
theorem cur_neg {c : Nat} (hc : k < c) (hn : c < n) : en (elimTo R (rowAt A k) k) c ≤ 0 := by
  rw [elim_en D I hk k (Nat.le_refl _)]
  have a := D.neg k hk c hn (by omega)
  have b := sm_nn (n := k) (f := fun t => en (rowAt A k) t * en (rowAt R t) c) fun t ht => prod_nn D I hk ht (by omega) hn
  grind
theorem cur_sum : 0 < sm n (en (elimTo R (rowAt A k) k)) := by
  have e : sm n (en (elimTo R (rowAt A k) k)) = sm n (en (rowAt A k)) - sm k (fun t => en (rowAt A k) t * sm n (en (rowAt R t))) := by
    rw [sm_congr fun c _ => elim_en D I hk k (Nat.le_refl _) c, sm_sub, sm_swap]
    congr 1
    exact sm_congr fun t _ => sm_mul _ _ _
  rw [e]
  have a := D.sum k hk
  have b := sm_nn (n := k) (f := fun t => -(en (rowAt A k) t * sm n (en (rowAt R t)))) fun t ht => by
    have := Rat.mul_nonneg (show 0 ≤ -en (rowAt A k) t by have := D.neg k hk t (by omega) (by omega); grind) (show 0 ≤ sm n (en (rowAt R t)) by have := I.sum t ht; grind)
    grind
  have c : sm k (fun t => -(en (rowAt A k) t * sm n (en (rowAt R t)))) = -sm k (fun t => en (rowAt A k) t * sm n (en (rowAt R t))) := by
    rw [sm_congr (h := fun t => (-1) * (en (rowAt A k) t * sm n (en (rowAt R t)))) fun t _ => by grind, sm_mul]
    grind
  rw [c] at b
  grind
theorem piv_pos : 0 < en (elimTo R (rowAt A k) k) k := by
  have a := cur_sum D I hk
  have b := sm_le_at (n := n) (k := k) (f := en (elimTo R (rowAt A k) k)) hk fun i hi hne => by
    by_cases c : i < k
    · rw [cur_zero D I hk c]; exact Rat.le_refl
    · exact cur_neg D I hk (by omega) hi
  grind
theorem piv_le : en (elimTo R (rowAt A k) k) k ≤ 1 := by
  rw [elim_en D I hk k (Nat.le_refl _)]
  have a := D.dia k hk
  have b := sm_nn (n := k) (f := fun t => en (rowAt A k) t * en (rowAt R t) k) fun t ht => prod_nn D I hk ht (Nat.le_refl _) hk
  grind
/-- one more row -/
theorem red_step : Red n W A (stepR R (rowAt A k)) (k + 1) := by
  have hR := I.cnt
  have pp := piv_pos D I hk
  have hl := elim_len D I hk k (Nat.le_refl _)
  have nl : (norm (elimTo R (rowAt A k) k) k).length = W := by unfold norm; rw [List.length_map, hl]
  have lo : ∀ i, i < k → rowAt (stepR R (rowAt A k)) i = wo (rowAt R i) (norm (elimTo R (rowAt A k) k) k) k := fun i hi => by
    unfold stepR
    rw [rowAt_lt (show i < R.length by omega), hR]
  have la : rowAt (stepR R (rowAt A k)) k = norm (elimTo R (rowAt A k) k) k := by
    have := rowAt_last (R := R) (f := fun o => wo o (norm (elimTo R (rowAt A k) R.length) R.length) R.length) (x := norm (elimTo R (rowAt A k) R.length) R.length)
    unfold stepR
    rw [hR] at this ⊢
    exact this
  have elo : ∀ i, i < k → ∀ c, en (rowAt (stepR R (rowAt A k)) i) c = en (rowAt R i) c - en (rowAt R i) k * (en (elimTo R (rowAt A k) k) c / en (elimTo R (rowAt A k) k) k) := fun i hi c => by
    rw [lo i hi, en_wo (by rw [I.len i hi, nl]), en_norm]
  have ela : ∀ c, en (rowAt (stepR R (rowAt A k)) k) c = en (elimTo R (rowAt A k) k) c / en (elimTo R (rowAt A k) k) k := fun c => by rw [la, en_norm]
  generalize hp : en (elimTo R (rowAt A k) k) k = p at pp elo ela
  have dz : ∀ x : Rat, x / p * p = x := fun x => by grind
  have dn : ∀ x : Rat, x ≤ 0 → x / p ≤ 0 := fun x hx => by
    have i := Rat.inv_pos.mpr pp
    rw [Rat.div_def]
    have := Rat.mul_nonneg (show 0 ≤ -x by grind) (show 0 ≤ p⁻¹ by grind)
    grind
  have dp : ∀ x : Rat, 0 < x → 0 < x / p := fun x hx => by
    rw [Rat.div_def]
    exact Rat.mul_pos hx (Rat.inv_pos.mpr pp)
  have zd : (0 : Rat) / p = 0 := by rw [Rat.div_def]; grind
  have pd : p / p = 1 := by grind
  refine ⟨by rw [stepR_len, hR], fun i hi => ?_, fun i hi j hj => ?_, fun i hi j hj hn => ?_, fun i hi => ?_, fun j hj c => ?_⟩
  · by_cases q : i < k
    · rw [lo i q]; exact wo_len (I.len i q) nl k
    · rw [show i = k by omega, la]; exact nl
  · by_cases q : i < k
    · rw [elo i q]
      by_cases r : j < k
      · rw [cur_zero D I hk r, zd, I.idn i q j r]
        grind
      · have : j = k := by omega
        subst this
        rw [hp, pd, if_neg (by omega)]
        grind
    · have : i = k := by omega
      subst this
      rw [ela]
      by_cases r : j < i
      · rw [cur_zero D I hk r, zd, if_neg (by omega)]
      · have : j = i := by omega
        subst this
        rw [hp, pd, if_pos rfl]
  · have a := dn _ (cur_neg D I hk (c := j) (by omega) hn)
    by_cases q : i < k
    · rw [elo i q]
      have b := I.neg i q j (by omega) hn
      have c := I.neg i q k (Nat.le_refl _) hk
      have := Rat.mul_nonneg (show 0 ≤ -en (rowAt R i) k by grind) (show 0 ≤ -(en (elimTo R (rowAt A k) k) j / p) by grind)
      grind
    · rw [show i = k by omega, ela]
      exact a
  · have s := cur_sum D I hk
    have a : sm n (fun c => en (elimTo R (rowAt A k) k) c / p) = sm n (en (elimTo R (rowAt A k) k)) / p := by
      rw [Rat.div_def, ← sm_mul']
      exact sm_congr fun c _ => Rat.div_def _ _
    have a' := dp _ s
    rw [← a] at a'
    by_cases q : i < k
    · rw [sm_congr fun c _ => elo i q c, sm_sub, sm_mul]
      have b := I.sum i q
      have c := I.neg i q k (Nat.le_refl _) hk
      have := Rat.mul_nonneg (show 0 ≤ -en (rowAt R i) k by grind) (show 0 ≤ sm n (fun c => en (elimTo R (rowAt A k) k) c / p) by grind)
      have b' : 0 < sm n (fun c => en (rowAt R i) c) := b
      grind
    · rw [show i = k by omega, sm_congr fun c _ => ela c]
      exact a'
  · show _ = sm k (fun i => en (rowAt A j) i * en (rowAt (stepR R (rowAt A k)) i) c) + en (rowAt A j) k * en (rowAt (stepR R (rowAt A k)) k) c
    rw [ela]
    have e1 : sm k (fun i => en (rowAt A j) i * en (rowAt (stepR R (rowAt A k)) i) c) = sm k (fun i => en (rowAt A j) i * en (rowAt R i) c) - sm k (fun i => en (rowAt A j) i * en (rowAt R i) k) * (en (elimTo R (rowAt A k) k) c / p) := by
      rw [← sm_mul', ← sm_sub]
      exact sm_congr fun i hi => by rw [elo i hi]; grind
    rw [e1]
    by_cases q : j < k
    · have a := I.span j q c
      have b := I.span j q k
      rw [← a, ← b]
      grind
    · have : j = k := by omega
      subst this
      have a := elim_en D I hk j (Nat.le_refl _) c
      have b := elim_en D I hk j (Nat.le_refl _) j
      rw [hp] at b
      have dd := dz (en (elimTo R (rowAt A j) j) c)
      generalize en (elimTo R (rowAt A j) j) c / p = w at dd
      grind
end
theorem red_all {n W : Nat} {A : List (List Rat)} (D : Dom n W A) : ∀ k, k ≤ n → Red n W A (gj A k) k
  | 0, _ => ⟨rfl, fun i h => absurd h (Nat.not_lt_zero _), fun i h => absurd h (Nat.not_lt_zero _), fun i h => absurd h (Nat.not_lt_zero _), fun i h => absurd h (Nat.not_lt_zero _), fun i h => absurd h (Nat.not_lt_zero _)⟩
  | k + 1, h => red_step D (red_all D k (by omega)) (by omega)

/-! ### sizes -/
structure Bnd (n : Nat) (A : List (List Rat)) (Dl Ro : Nat → Nat) (D0 : Nat) : Prop where
  d0 : 0 < D0
  dl : ∀ c, c < n → Dl c = 1
  dlp : ∀ c, 0 < Dl c
  rop : ∀ c, 0 < Ro c
  ex : ∀ j, j < n → ∃ d, 0 < d ∧ d ≤ D0 ∧ ∀ c, Dn (d * Dl c) (en (rowAt A j) c)
  hi : ∀ j, j < n → ∀ c, en (rowAt A j) c ≤ (Ro c : Rat)
  lo : ∀ j, j < n → ∀ c, -(Ro c : Rat) ≤ en (rowAt A j) c
structure BR (R : List (List Rat)) (Dl Ro : Nat → Nat) (k E M : Nat) : Prop where
  ep : 0 < E
  mp : 0 < M
  dn : ∀ i, i < k → ∀ c, Dn (E * Dl c) (en (rowAt R i) c)
  hi : ∀ i, i < k → ∀ c, en (rowAt R i) c ≤ (M : Rat) * Ro c
  lo : ∀ i, i < k → ∀ c, -((M : Rat) * Ro c) ≤ en (rowAt R i) c

theorem nat_cast_nn (n : Nat) : (0 : Rat) ≤ (n : Rat) := by exact_mod_cast Nat.zero_le n
theorem one_le_cast {n : Nat} (h : 0 < n) : (1 : Rat) ≤ (n : Rat) := by exact_mod_cast h
theorem cast_le {a b : Nat} (h : a ≤ b) : (a : Rat) ≤ (b : Rat) := by exact_mod_cast h

section
variable {n W k D0 E M : Nat} {A R : List (List Rat)} {Dl Ro : Nat → Nat} (D : Dom n W A) (I : Red n W A R k) (hk : k < n) (B : Bnd n A Dl Ro D0) (C : BR R Dl Ro k E M)
include D I hk B C
theorem off_ge {t : Nat} (ht : t < n) (hne : t ≠ k) : -1 ≤ en (rowAt A k) t := by
  have a := D.sum k hk
  have d := D.dia k hk
  have b := D.neg k hk
  -- the sum without t is at most the diagonal
  have key : sm n (en (rowAt A k)) ≤ en (rowAt A k) k + en (rowAt A k) t := by
    have e : sm n (en (rowAt A k)) = sm n (fun c => if c = t then 0 else en (rowAt A k) c) + en (rowAt A k) t := by
      have e1 : sm n (fun c => en (rowAt A k) c * (if c = t then 1 else 0)) = en (rowAt A k) t := by rw [sm_delta, if_pos ht]
      rw [← e1, ← sm_add]
      refine sm_congr fun c _ => ?_
      by_cases q : c = t
      · rw [if_pos q, if_pos q]; grind
      · rw [if_neg q, if_neg q]; grind
    have f := sm_le_at (n := n) (k := k) (f := fun c => if c = t then 0 else en (rowAt A k) c) hk fun i hi hik => by
      by_cases q : i = t
      · rw [if_pos q]; exact Rat.le_refl
      · rw [if_neg q]; exact b i hi hik
    have f' : sm n (fun c => if c = t then 0 else en (rowAt A k) c) ≤ en (rowAt A k) k := by
      have : (if k = t then (0 : Rat) else en (rowAt A k) k) = en (rowAt A k) k := if_neg (fun q => hne q.symm)
      rw [← this]
      exact f
    grind
  grind
theorem red_ge {i : Nat} (hi : i < k) : -1 ≤ en (rowAt R i) k := by
  have a := I.sum i hi
  have key : sm n (en (rowAt R i)) ≤ en (rowAt R i) i + en (rowAt R i) k := by
    have e : sm n (en (rowAt R i)) = sm n (fun c => if c = k then 0 else en (rowAt R i) c) + en (rowAt R i) k := by
      have e1 : sm n (fun c => en (rowAt R i) c * (if c = k then 1 else 0)) = en (rowAt R i) k := by rw [sm_delta, if_pos hk]
      rw [← e1, ← sm_add]
      refine sm_congr fun c _ => ?_
      by_cases q : c = k
      · rw [if_pos q, if_pos q]; grind
      · rw [if_neg q, if_neg q]; grind
    have f := sm_le_at (n := n) (k := i) (f := fun c => if c = k then 0 else en (rowAt R i) c) (by omega) fun j hj hji => by
      by_cases q : j = k
      · rw [if_pos q]; exact Rat.le_refl
      · rw [if_neg q]
        by_cases r : j < k
        · rw [I.idn i hi j r, if_neg (by omega)]; exact Rat.le_refl
        · exact I.neg i hi j (by omega) hj
    have f' : sm n (fun c => if c = k then 0 else en (rowAt R i) c) ≤ en (rowAt R i) i := by
      have : (if i = k then (0 : Rat) else en (rowAt R i) i) = en (rowAt R i) i := if_neg (by omega)
      rw [← this]
      exact f
    grind
  have e := I.idn i hi i hi
  rw [if_pos rfl] at e
  grind
/-- the partly reduced row -/
theorem elim_bnd : ∃ d, 0 < d ∧ d ≤ D0 ∧ ∀ i, i ≤ k → ∀ c, Dn (d * E * Dl c) (en (elimTo R (rowAt A k) i) c) ∧ en (elimTo R (rowAt A k) i) c ≤ ((1 + i * M : Nat) : Rat) * Ro c ∧ -(((1 + i * M : Nat) : Rat) * Ro c) ≤ en (elimTo R (rowAt A k) i) c := by
  obtain ⟨d, hd, hd2, hdn⟩ := B.ex k hk
  refine ⟨d, hd, hd2, fun i => ?_⟩
  induction i with
  | zero =>
    intro _ c
    have hi := B.hi k hk c
    have lo := B.lo k hk c
    refine ⟨?_, ?_, ?_⟩
    · rw [Nat.mul_right_comm]; exact (hdn c).mul_right
    · show en (rowAt A k) c ≤ ((1 + 0 * M : Nat) : Rat) * Ro c
      rw [Nat.zero_mul]
      show en (rowAt A k) c ≤ (1 : Rat) * Ro c
      grind
    · show -(((1 + 0 * M : Nat) : Rat) * Ro c) ≤ en (rowAt A k) c
      rw [Nat.zero_mul]
      show -((1 : Rat) * Ro c) ≤ en (rowAt A k) c
      grind
  | succ i ih =>
    intro hik c
    obtain ⟨a1, a2, a3⟩ := ih (by omega) c
    have e1 : en (elimTo R (rowAt A k) (i + 1)) c = en (elimTo R (rowAt A k) i) c - en (rowAt A k) i * en (rowAt R i) c := by
      rw [elim_en D I hk (i + 1) hik, elim_en D I hk i (by omega)]
      show en (rowAt A k) c - (sm i (fun t => en (rowAt A k) t * en (rowAt R t) c) + en (rowAt A k) i * en (rowAt R i) c) = _
      grind
    have f1 : en (rowAt A k) i ≤ 0 := D.neg k hk i (by omega) (by omega)
    have f2 : -1 ≤ en (rowAt A k) i := off_ge D I hk B C (by omega) (by omega)
    have g1 := C.hi i (by omega) c
    have g2 := C.lo i (by omega) c
    have dd : Dn (d * E * Dl c) (en (rowAt A k) i * en (rowAt R i) c) := by
      have := (hdn i).mul (C.dn i (by omega) c)
      rw [B.dl i (by omega), Nat.mul_one, ← Nat.mul_assoc] at this
      exact this
    have ec : ((1 + (i + 1) * M : Nat) : Rat) = ((1 + i * M : Nat) : Rat) + (M : Rat) := by
      rw [← Rat.natCast_add]
      congr 1
      rw [Nat.succ_mul]; omega
    have m1 := Rat.mul_nonneg (show 0 ≤ -en (rowAt A k) i by grind) (show 0 ≤ (M : Rat) * Ro c - en (rowAt R i) c by grind)
    have m2 := Rat.mul_nonneg (show 0 ≤ -en (rowAt A k) i by grind) (show 0 ≤ en (rowAt R i) c + (M : Rat) * Ro c by grind)
    have m3 := Rat.mul_nonneg (show 0 ≤ 1 + en (rowAt A k) i by grind) (show 0 ≤ (M : Rat) * Ro c from Rat.mul_nonneg (nat_cast_nn M) (nat_cast_nn (Ro c)))
    rw [e1, ec]
    refine ⟨a1.sub dd, ?_, ?_⟩
    · grind
    · grind
theorem step_bnd : ∃ E' M', BR (stepR R (rowAt A k)) Dl Ro (k + 1) E' M' ∧ E' ≤ E * (D0 * E) ∧ M' ≤ M + (1 + k * M) * (D0 * E) := by
  obtain ⟨d, hd, hd2, hb⟩ := elim_bnd D I hk B C
  have pp := piv_pos D I hk
  have pl := piv_le D I hk
  have hR := I.cnt
  have hl := elim_len D I hk k (Nat.le_refl _)
  have nl : (norm (elimTo R (rowAt A k) k) k).length = W := by unfold norm; rw [List.length_map, hl]
  have lo : ∀ i, i < k → rowAt (stepR R (rowAt A k)) i = wo (rowAt R i) (norm (elimTo R (rowAt A k) k) k) k := fun i hi => by
    unfold stepR
    rw [rowAt_lt (show i < R.length by omega), hR]
  have la : rowAt (stepR R (rowAt A k)) k = norm (elimTo R (rowAt A k) k) k := by
    have := rowAt_last (R := R) (f := fun o => wo o (norm (elimTo R (rowAt A k) R.length) R.length) R.length) (x := norm (elimTo R (rowAt A k) R.length) R.length)
    unfold stepR
    rw [hR] at this ⊢
    exact this
  have elo : ∀ i, i < k → ∀ c, en (rowAt (stepR R (rowAt A k)) i) c = en (rowAt R i) c - en (rowAt R i) k * (en (elimTo R (rowAt A k) k) c / en (elimTo R (rowAt A k) k) k) := fun i hi c => by
    rw [lo i hi, en_wo (by rw [I.len i hi, nl]), en_norm]
  have ela : ∀ c, en (rowAt (stepR R (rowAt A k)) k) c = en (elimTo R (rowAt A k) k) c / en (elimTo R (rowAt A k) k) k := fun c => by rw [la, en_norm]
  -- the pivot as a whole number over d * E
  obtain ⟨z, hz⟩ := (hb k (Nat.le_refl _) k).1
  rw [B.dl k hk, Nat.mul_one] at hz
  have hb' := hb k (Nat.le_refl _)
  generalize hp : en (elimTo R (rowAt A k) k) k = p at pp pl elo ela hz
  have hdE : 0 < d * E := Nat.mul_pos hd C.ep
  have cdE : (0 : Rat) < ((d * E : Nat) : Rat) := by exact_mod_cast hdE
  have zp : (0 : Rat) < (z : Rat) := by rw [← hz]; exact Rat.mul_pos cdE pp
  have zle : (z : Rat) ≤ ((d * E : Nat) : Rat) := by
    rw [← hz]
    have := Rat.mul_le_mul_of_nonneg_left pl (show (0 : Rat) ≤ ((d * E : Nat) : Rat) by grind)
    grind
  have zp' : 0 < z := by exact_mod_cast zp
  obtain ⟨N, rfl⟩ : ∃ N : Nat, z = (N : Int) := ⟨z.toNat, by omega⟩
  have hN : 0 < N := by omega
  have hNle : N ≤ d * E := by exact_mod_cast zle
  have cN : (((N : Nat) : Int) : Rat) = (N : Rat) := rfl
  rw [cN] at hz zp zle
  have hN1 : (1 : Rat) ≤ (N : Rat) := one_le_cast hN
  -- the new row
  have nrow : ∀ c, Dn (N * Dl c) (en (elimTo R (rowAt A k) k) c / p) ∧ en (elimTo R (rowAt A k) k) c / p ≤ (((1 + k * M) * (d * E) : Nat) : Rat) * Ro c ∧ -((((1 + k * M) * (d * E) : Nat) : Rat) * Ro c) ≤ en (elimTo R (rowAt A k) k) c / p := fun c => by
    obtain ⟨a1, a2, a3⟩ := hb' c
    obtain ⟨u, hu⟩ := a1
    have w0 : en (elimTo R (rowAt A k) k) c / p * p = en (elimTo R (rowAt A k) k) c := by grind
    generalize en (elimTo R (rowAt A k) k) c / p = w at w0
    refine ⟨⟨u, ?_⟩, ?_, ?_⟩
    · rw [← hu, ← w0, Rat.natCast_mul, Rat.natCast_mul, ← hz]
      grind
    · -- w = cur * (dE) / N <= cur bound * dE
      have s : (N : Rat) * w = ((d * E : Nat) : Rat) * en (elimTo R (rowAt A k) k) c := by rw [← w0, ← hz]; grind
      rw [Rat.natCast_mul]
      apply Classical.byContradiction
      intro q
      have r0 := nat_cast_nn (Ro c)
      have b1 := Rat.mul_le_mul_of_nonneg_left a2 (show (0 : Rat) ≤ ((d * E : Nat) : Rat) by grind)
      have b2 : 0 ≤ ((1 + k * M : Nat) : Rat) * ((d * E : Nat) : Rat) * (Ro c : Rat) := Rat.mul_nonneg (Rat.mul_nonneg (nat_cast_nn _) (nat_cast_nn _)) r0
      have b3 := Rat.mul_nonneg (show 0 ≤ (N : Rat) - 1 by grind) (show 0 ≤ w by grind)
      grind
    · have s : (N : Rat) * w = ((d * E : Nat) : Rat) * en (elimTo R (rowAt A k) k) c := by rw [← w0, ← hz]; grind
      rw [Rat.natCast_mul]
      apply Classical.byContradiction
      intro q
      have r0 := nat_cast_nn (Ro c)
      have b1 := Rat.mul_le_mul_of_nonneg_left a3 (show (0 : Rat) ≤ ((d * E : Nat) : Rat) by grind)
      have b2 : 0 ≤ ((1 + k * M : Nat) : Rat) * ((d * E : Nat) : Rat) * (Ro c : Rat) := Rat.mul_nonneg (Rat.mul_nonneg (nat_cast_nn _) (nat_cast_nn _)) r0
      have b3 := Rat.mul_nonneg (show 0 ≤ (N : Rat) - 1 by grind) (show 0 ≤ -w by grind)
      grind
  have hle : d * E ≤ D0 * E := Nat.mul_le_mul_right _ hd2
  refine ⟨E * N, M + (1 + k * M) * (d * E), ⟨Nat.mul_pos C.ep hN, Nat.lt_of_lt_of_le C.mp (Nat.le_add_right _ _), fun i hi c => ?_, fun i hi c => ?_, fun i hi c => ?_⟩, Nat.mul_le_mul_left _ (Nat.le_trans hNle hle), Nat.add_le_add_left (Nat.mul_le_mul_left _ hle) _⟩
  · obtain ⟨x1, x2, x3⟩ := nrow c
    by_cases q : i < k
    · rw [elo i q]
      have y1 := C.dn i q c
      have y2 := C.dn i q k
      rw [B.dl k hk, Nat.mul_one] at y2
      have z1 : Dn (E * N * Dl c) (en (rowAt R i) c) := by rw [Nat.mul_right_comm]; exact y1.mul_right
      have z2 := y2.mul x1
      rw [← Nat.mul_assoc] at z2
      exact z1.sub z2
    · rw [show i = k by omega, ela, Nat.mul_assoc]
      exact x1.mul_left
  · obtain ⟨x1, x2, x3⟩ := nrow c
    have r0 := nat_cast_nn (Ro c)
    rw [Rat.natCast_add]
    by_cases q : i < k
    · rw [elo i q]
      have y1 := C.hi i q c
      have f1 := I.neg i q k (Nat.le_refl _) hk
      have f2 := red_ge D I hk B C q
      have b2 : 0 ≤ (((1 + k * M) * (d * E) : Nat) : Rat) * (Ro c : Rat) := Rat.mul_nonneg (nat_cast_nn _) r0
      have m1 := Rat.mul_nonneg (show 0 ≤ -en (rowAt R i) k by grind) (show 0 ≤ (((1 + k * M) * (d * E) : Nat) : Rat) * (Ro c : Rat) - en (elimTo R (rowAt A k) k) c / p by grind)
      have m3 := Rat.mul_nonneg (show 0 ≤ 1 + en (rowAt R i) k by grind) b2
      grind
    · rw [show i = k by omega, ela]
      have b2 : 0 ≤ (M : Rat) * (Ro c : Rat) := Rat.mul_nonneg (nat_cast_nn _) r0
      grind
  · obtain ⟨x1, x2, x3⟩ := nrow c
    have r0 := nat_cast_nn (Ro c)
    rw [Rat.natCast_add]
    by_cases q : i < k
    · rw [elo i q]
      have y1 := C.lo i q c
      have f1 := I.neg i q k (Nat.le_refl _) hk
      have f2 := red_ge D I hk B C q
      have b2 : 0 ≤ (((1 + k * M) * (d * E) : Nat) : Rat) * (Ro c : Rat) := Rat.mul_nonneg (nat_cast_nn _) r0
      have m1 := Rat.mul_nonneg (show 0 ≤ -en (rowAt R i) k by grind) (show 0 ≤ (((1 + k * M) * (d * E) : Nat) : Rat) * (Ro c : Rat) + en (elimTo R (rowAt A k) k) c / p by grind)
      have m3 := Rat.mul_nonneg (show 0 ≤ 1 + en (rowAt R i) k by grind) b2
      grind
    · rw [show i = k by omega, ela]
      have b2 : 0 ≤ (M : Rat) * (Ro c : Rat) := Rat.mul_nonneg (nat_cast_nn _) r0
      grind
end
end AC

set_option linter.all false
set_option Elab.async false
/-! plain mathematics: sizes of the elimination up to four rows; the system of a set of states -/
namespace AC
/-! ### sizes of all rows -/
def eB : Nat → Nat
  | 0 => 0
  | k + 1 => 2 * eB k + 7
def mB : Nat → Nat
  | 0 => 0
  | k + 1 => mB k + eB k + 10
theorem pow_le {a b : Nat} (h : a ≤ b) : 2 ^ a ≤ 2 ^ b := Nat.pow_le_pow_right (by decide) h
theorem br_all {n W : Nat} {A : List (List Rat)} {Dl Ro : Nat → Nat} {D0 : Nat} (D : Dom n W A) (B : Bnd n A Dl Ro D0) (hD : D0 ≤ 2 ^ 7) (h4 : n ≤ 4) :
    ∀ k, k ≤ n → ∃ E M, BR (gj A k) Dl Ro k E M ∧ E ≤ 2 ^ eB k ∧ M ≤ 2 ^ mB k
  | 0, _ => ⟨1, 1, ⟨by decide, by decide, fun i h => absurd h (Nat.not_lt_zero _), fun i h => absurd h (Nat.not_lt_zero _), fun i h => absurd h (Nat.not_lt_zero _)⟩, by decide, by decide⟩
  | k + 1, h => by
    obtain ⟨E, M, C, hE, hM⟩ := br_all D B hD h4 k (by omega)
    obtain ⟨E', M', C', hE', hM'⟩ := step_bnd D (red_all D k (by omega)) (by omega) B C
    refine ⟨E', M', C', Nat.le_trans hE' ?_, Nat.le_trans hM' ?_⟩
    · have a : E * (D0 * E) ≤ 2 ^ eB k * (2 ^ 7 * 2 ^ eB k) := Nat.mul_le_mul hE (Nat.mul_le_mul hD hE)
      rw [← Nat.pow_add, ← Nat.pow_add] at a
      exact Nat.le_trans a (pow_le (by show eB k + (7 + eB k) ≤ 2 * eB k + 7; omega))
    · have dE : D0 * E ≤ 2 ^ 7 * 2 ^ eB k := Nat.mul_le_mul hD hE
      have p1 : 1 ≤ 2 ^ mB k := Nat.one_le_two_pow
      have kM : 1 + k * M ≤ 4 * 2 ^ mB k := by
        have : k * M ≤ 3 * 2 ^ mB k := Nat.mul_le_mul (by omega) hM
        omega
      have a : (1 + k * M) * (D0 * E) ≤ 4 * 2 ^ mB k * (2 ^ 7 * 2 ^ eB k) := Nat.mul_le_mul kM dE
      have b : 4 * 2 ^ mB k * (2 ^ 7 * 2 ^ eB k) = 2 ^ (mB k + eB k + 9) := by
        rw [show (4 : Nat) = 2 ^ 2 from rfl, ← Nat.pow_add, ← Nat.pow_add, ← Nat.pow_add]
        congr 1
        omega
      have c : 2 ^ mB k ≤ 2 ^ (mB k + eB k + 9) := pow_le (by omega)
      have d : 2 ^ (mB k + eB k + 10) = 2 ^ (mB k + eB k + 9) + 2 ^ (mB k + eB k + 9) := by rw [Nat.pow_succ]; omega
      show M + (1 + k * M) * (D0 * E) ≤ 2 ^ (mB k + eB k + 10)
      omega
theorem eB_mono {i k : Nat} (h : i ≤ k) : eB i ≤ eB k := by
  induction k with
  | zero => rw [show i = 0 by omega]; exact Nat.le_refl _
  | succ k ih =>
    by_cases e : i = k + 1
    · rw [e]; exact Nat.le_refl _
    · have := ih (by omega)
      show eB i ≤ 2 * eB k + 7
      omega
theorem mB_mono {i k : Nat} (h : i ≤ k) : mB i ≤ mB k := by
  induction k with
  | zero => rw [show i = 0 by omega]; exact Nat.le_refl _
  | succ k ih =>
    by_cases e : i = k + 1
    · rw [e]; exact Nat.le_refl _
    · have := ih (by omega)
      show mB i ≤ mB k + eB k + 10
      omega
/-- every entry on the way is below 2 ^ Q -/
structure SolSz (A : List (List Rat)) (n Q : Nat) : Prop where
  rows : ∀ k, k ≤ n → ∀ i, i < k → ∀ c, Sz Q (en (rowAt (gj A k) i) c)
  elim : ∀ k, k < n → ∀ i, i ≤ k → ∀ c, Sz Q (en (elimTo (gj A k) (rowAt A k) i) c)
theorem sz_all {n W : Nat} {A : List (List Rat)} {Dl Ro : Nat → Nat} {D0 de rh : Nat} (D : Dom n W A) (B : Bnd n A Dl Ro D0) (hD : D0 ≤ 2 ^ 7) (h4 : n ≤ 4) (hdl : ∀ c, Dl c < 2 ^ de) (hro : ∀ c, Ro c < 2 ^ rh) :
    SolSz A n (230 + de + rh) where
  rows := fun k hk i hi c => by
    obtain ⟨E, M, C, hE, hM⟩ := br_all D B hD h4 k hk
    have e4 : eB k ≤ 105 := eB_mono (k := 4) (by omega)
    have m4 : mB k ≤ 122 := Nat.le_trans (mB_mono (k := 4) (by omega)) (by decide)
    have hE' := Nat.le_trans hE (pow_le e4)
    have hM' := Nat.le_trans hM (pow_le m4)
    refine Sz.ofDn (D := E * Dl c) (M := M * Ro c) (Nat.mul_pos C.ep (B.dlp c)) (C.dn i hi c) (by rw [Rat.natCast_mul]; exact C.hi i hi c) (by rw [Rat.natCast_mul]; exact C.lo i hi c) (Nat.mul_pos C.mp (B.rop c)) ?_
    have a : E * Dl c < 2 ^ (106 + de) := lt_pow_add (Nat.lt_of_le_of_lt hE' (by decide)) (hdl c)
    have b : M * Ro c < 2 ^ (123 + rh) := lt_pow_add (Nat.lt_of_le_of_lt hM' (by decide)) (hro c)
    exact Nat.lt_of_lt_of_le (lt_pow_add a b) (pow_le (by omega))
  elim := fun k hk i hi c => by
    obtain ⟨E, M, C, hE, hM⟩ := br_all D B hD h4 k (by omega)
    obtain ⟨d, hd, hd2, hb⟩ := elim_bnd D (red_all D k (by omega)) hk B C
    obtain ⟨a1, a2, a3⟩ := hb i hi c
    have e4 : eB k ≤ 49 := eB_mono (k := 3) (by omega)
    have m4 : mB k ≤ 60 := Nat.le_trans (mB_mono (k := 3) (by omega)) (by decide)
    have hE' := Nat.le_trans hE (pow_le e4)
    have hM' := Nat.le_trans hM (pow_le m4)
    refine Sz.ofDn (D := d * E * Dl c) (M := (1 + i * M) * Ro c) (Nat.mul_pos (Nat.mul_pos hd C.ep) (B.dlp c)) a1 (by rw [Rat.natCast_mul]; exact a2) (by rw [Rat.natCast_mul]; exact a3) (Nat.mul_pos (by omega) (B.rop c)) ?_
    have x : d * E < 2 ^ 60 := by
      have : d * E ≤ 2 ^ 7 * 2 ^ 49 := Nat.mul_le_mul (Nat.le_trans hd2 hD) hE'
      exact Nat.lt_of_le_of_lt this (by decide)
    have y : 1 + i * M < 2 ^ 64 := by
      have : i * M ≤ 4 * 2 ^ 60 := Nat.mul_le_mul (by omega) hM'
      have z : 4 * 2 ^ 60 + 1 < 2 ^ 64 := by decide
      omega
    have a := lt_pow_add x (hdl c)
    have b := lt_pow_add y (hro c)
    exact Nat.lt_of_lt_of_le (lt_pow_add a b) (pow_le (by omega))

/-! ### the rows of a set of states -/
def lvStep (b : Rat) (S : List Nat) (acc : List Rat × Rat) (tp : Nat × Rat) : List Rat × Rat :=
  if tp.1 ∈ S then (acc.1.set (S.idxOf tp.1) (en acc.1 (S.idxOf tp.1) - b * tp.2), acc.2) else (acc.1, acc.2 + b * tp.2)
def lvRow (g : Gm) (b : Rat) (S : List Nat) (i s : Nat) : List Rat × Rat := (g.row s).foldl (lvStep b S) ((List.replicate S.length 0).set i 1, 0)
/-- the unit row -/
def unit (n i : Nat) : List Rat := (List.range n).map fun k => if k = i then 1 else 0
def augOf (M : List Rat) (R : List Rat) (n i : Nat) : List Rat := M ++ R ++ unit n i
def lvAug (g : Gm) (b : Rat) (S : List Nat) (i s : Nat) : List Rat := augOf (lvRow g b S i s).1 [g.rew s, (lvRow g b S i s).2] S.length i
def lvA (g : Gm) (b : Rat) (S : List Nat) : List (List Rat) := S.zipIdx.map fun p => lvAug g b S p.2 p.1
theorem lvA_at {g : Gm} {b : Rat} {S : List Nat} {i : Nat} (h : i < S.length) : rowAt (lvA g b S) i = lvAug g b S i S[i] := by
  unfold rowAt lvA
  rw [List.getD_eq_getElem?_getD, List.getElem?_map, List.getElem?_zipIdx, List.getElem?_eq_getElem h]
  show lvAug g b S (0 + i) S[i] = _
  rw [Nat.zero_add]
theorem en_set {l : List Rat} {i j : Nat} {x : Rat} (h : i < l.length) : en (l.set i x) j = if i = j then x else en l j := by
  unfold en
  rw [List.getD_eq_getElem?_getD, List.getElem?_set]
  by_cases e : i = j
  · rw [if_pos e, if_pos e, if_pos h] <;> rfl
  · rw [if_neg e, if_neg e, ← List.getD_eq_getElem?_getD]
theorem en_append_left {l r : List Rat} {j : Nat} (h : j < l.length) : en (l ++ r) j = en l j := by
  unfold en
  rw [List.getD_eq_getElem?_getD, List.getD_eq_getElem?_getD, List.getElem?_append_left h]
theorem en_append_right {l r : List Rat} {j : Nat} (h : l.length ≤ j) : en (l ++ r) j = en r (j - l.length) := by
  unfold en
  rw [List.getD_eq_getElem?_getD, List.getD_eq_getElem?_getD, List.getElem?_append_right h]

section
variable {g : Gm} {b : Rat} {S : List Nat}
theorem fold_len (row : List (Nat × Rat)) : ∀ acc : List Rat × Rat, (row.foldl (lvStep b S) acc).1.length = acc.1.length := by
  induction row with
  | nil => exact fun _ => rfl
  | cons tp r ih =>
    intro acc
    rw [List.foldl_cons, ih]
    unfold lvStep
    by_cases h : tp.1 ∈ S
    · rw [if_pos h]; exact List.length_set
    · rw [if_neg h]
theorem fold_en (row : List (Nat × Rat)) : ∀ acc : List Rat × Rat, acc.1.length = S.length → ∀ j, j < S.length →
    en (row.foldl (lvStep b S) acc).1 j = en acc.1 j - b * dot row (fun t => if t ∈ S ∧ S.idxOf t = j then 1 else 0) := by
  induction row with
  | nil => intro acc _ j _; show en acc.1 j = en acc.1 j - b * 0; grind
  | cons tp r ih =>
    intro acc hl j hj
    have hl' : (lvStep b S acc tp).1.length = S.length := by
      unfold lvStep
      by_cases h : tp.1 ∈ S
      · rw [if_pos h]; show (acc.1.set _ _).length = _; rw [List.length_set, hl]
      · rw [if_neg h]; exact hl
    rw [List.foldl_cons, ih _ hl' j hj]
    have e : en (lvStep b S acc tp).1 j = en acc.1 j - b * (tp.2 * (if tp.1 ∈ S ∧ S.idxOf tp.1 = j then 1 else 0)) := by
      unfold lvStep
      by_cases h : tp.1 ∈ S
      · rw [if_pos h]
        show en (acc.1.set (S.idxOf tp.1) (en acc.1 (S.idxOf tp.1) - b * tp.2)) j = _
        rw [en_set (by rw [hl]; exact List.idxOf_lt_length_iff.mpr h)]
        by_cases q : S.idxOf tp.1 = j
        · rw [if_pos q, if_pos ⟨h, q⟩, q]; grind
        · rw [if_neg q, if_neg fun z => q z.2]; grind
      · rw [if_neg h, if_neg fun z => h z.1]; grind
    rw [e]
    show _ = en acc.1 j - b * (tp.2 * (if tp.1 ∈ S ∧ S.idxOf tp.1 = j then 1 else 0) + dot r (fun t => if t ∈ S ∧ S.idxOf t = j then 1 else 0))
    grind
theorem fold_out (row : List (Nat × Rat)) : ∀ acc : List Rat × Rat, (row.foldl (lvStep b S) acc).2 = acc.2 + b * dot row (fun t => if t ∈ S then 0 else 1) := by
  induction row with
  | nil => intro acc; show acc.2 = acc.2 + b * 0; grind
  | cons tp r ih =>
    intro acc
    rw [List.foldl_cons, ih]
    have e : (lvStep b S acc tp).2 = acc.2 + b * (tp.2 * (if tp.1 ∈ S then 0 else 1)) := by
      unfold lvStep
      by_cases h : tp.1 ∈ S
      · rw [if_pos h, if_pos h]; grind
      · rw [if_neg h, if_neg h]
        show acc.2 + b * tp.2 = _
        grind
    rw [e]
    show _ = acc.2 + b * (tp.2 * (if tp.1 ∈ S then 0 else 1) + dot r (fun t => if t ∈ S then 0 else 1))
    grind
theorem lvRow_len (i s : Nat) : (lvRow g b S i s).1.length = S.length := by
  unfold lvRow
  rw [fold_len, List.length_set, List.length_replicate]
theorem lvAug_len (i s : Nat) : (lvAug g b S i s).length = 2 * S.length + 2 := by
  unfold lvAug augOf unit
  rw [List.length_append, List.length_append, lvRow_len, List.length_map, List.length_range]
  show S.length + 2 + S.length = _
  omega
theorem en_rep (n j : Nat) : en (List.replicate n 0) j = 0 := by
  unfold en
  rw [List.getD_eq_getElem?_getD, List.getElem?_replicate]
  by_cases h : j < n
  · rw [if_pos h] <;> rfl
  · rw [if_neg h] <;> rfl
theorem lvAug_mat {i s j : Nat} (hi : i < S.length) (hj : j < S.length) : en (lvAug g b S i s) j = (if i = j then 1 else 0) - b * dot (g.row s) (fun t => if t ∈ S ∧ S.idxOf t = j then 1 else 0) := by
  unfold lvAug augOf
  rw [List.append_assoc, en_append_left (by rw [lvRow_len]; exact hj)]
  unfold lvRow
  rw [fold_en _ _ (by rw [List.length_set, List.length_replicate]) j hj, en_set (by rw [List.length_replicate]; exact hi), en_rep]
theorem lvAug_rew (i s : Nat) : en (lvAug g b S i s) S.length = g.rew s := by
  unfold lvAug augOf
  rw [List.append_assoc, en_append_right (by rw [lvRow_len]; exact Nat.le_refl _), lvRow_len, Nat.sub_self] <;> rfl
theorem lvAug_out (i s : Nat) : en (lvAug g b S i s) (S.length + 1) = b * dot (g.row s) (fun t => if t ∈ S then 0 else 1) := by
  unfold lvAug augOf
  rw [List.append_assoc, en_append_right (by rw [lvRow_len]; omega), lvRow_len, show S.length + 1 - S.length = 1 by omega]
  show (lvRow g b S i s).2 = _
  unfold lvRow
  rw [fold_out]
  grind
theorem en_unit (n i k : Nat) : en (unit n i) k = if k < n ∧ k = i then 1 else 0 := by
  unfold en unit
  rw [List.getD_eq_getElem?_getD, List.getElem?_map]
  by_cases h : k < n
  · rw [List.getElem?_range h]
    show (if k = i then (1 : Rat) else 0) = _
    by_cases e : k = i
    · rw [if_pos e, if_pos ⟨h, e⟩]
    · rw [if_neg e, if_neg fun z => e z.2]
  · rw [List.getElem?_eq_none (by rw [List.length_range]; omega), if_neg fun z => h z.1] <;> rfl
theorem lvAug_unit {i s c : Nat} (hc : S.length + 2 ≤ c) : en (lvAug g b S i s) c = 0 ∨ en (lvAug g b S i s) c = 1 := by
  unfold lvAug augOf
  have hl : ((lvRow g b S i s).1 ++ [g.rew s, (lvRow g b S i s).2]).length = S.length + 2 := by rw [List.length_append, lvRow_len] <;> rfl
  rw [en_append_right (by rw [hl]; exact hc), en_unit]
  by_cases h : c - ((lvRow g b S i s).1 ++ [g.rew s, (lvRow g b S i s).2]).length < S.length ∧ c - ((lvRow g b S i s).1 ++ [g.rew s, (lvRow g b S i s).2]).length = i
  · rw [if_pos h]; exact .inr rfl
  · rw [if_neg h]; exact .inl rfl

variable (ok : g.Ok) (hb : Disc b) (hn : S.Nodup) (hS : ∀ s ∈ S, s < g.n)
include ok
theorem ind_nn (s : Nat) (P : Nat → Prop) [DecidablePred P] : 0 ≤ dot (g.row s) (fun t => if P t then 1 else 0) := dot_nn ok fun tp _ => by
  by_cases h : P tp.1
  · rw [if_pos h]; decide
  · rw [if_neg h]; exact Rat.le_refl
theorem ind_le {s : Nat} (hs : s < g.n) (P : Nat → Prop) [DecidablePred P] : dot (g.row s) (fun t => if P t then 1 else 0) ≤ 1 := dot_one_le ok hs fun tp _ => by
  by_cases h : P tp.1
  · rw [if_pos h]; exact Rat.le_refl
  · rw [if_neg h]; decide
omit ok in
theorem idx_at {s i : Nat} (hn : S.Nodup) (hi : i < S.length) (e : S[i] = s) : s ∈ S ∧ S.idxOf s = i := by
  subst e
  exact ⟨List.getElem_mem hi, List.Nodup.idxOf_getElem hn i hi⟩
omit ok in
/-- a row against the values by place -/
theorem sm_ind (f : Nat → Rat) (row : List (Nat × Rat)) : sm S.length (fun i => dot row (fun t => if t ∈ S ∧ S.idxOf t = i then 1 else 0) * f i) = dot row (fun t => if t ∈ S then f (S.idxOf t) else 0) := by
  induction row with
  | nil => exact sm_zero fun i _ => by show (0 : Rat) * f i = 0; grind
  | cons tp r ih =>
    have e1 : ∀ i, dot (tp :: r) (fun t => if t ∈ S ∧ S.idxOf t = i then (1 : Rat) else 0) = tp.2 * (if tp.1 ∈ S ∧ S.idxOf tp.1 = i then 1 else 0) + dot r (fun t => if t ∈ S ∧ S.idxOf t = i then 1 else 0) := fun i => rfl
    rw [sm_congr (h := fun i => (tp.2 * f i) * (if tp.1 ∈ S ∧ S.idxOf tp.1 = i then 1 else 0) + dot r (fun t => if t ∈ S ∧ S.idxOf t = i then 1 else 0) * f i) fun i _ => by rw [e1]; grind, sm_add, ih]
    show _ = tp.2 * (if tp.1 ∈ S then f (S.idxOf tp.1) else 0) + dot r (fun t => if t ∈ S then f (S.idxOf t) else 0)
    congr 1
    by_cases h : tp.1 ∈ S
    · rw [if_pos h]
      have e2 : ∀ i, (if tp.1 ∈ S ∧ S.idxOf tp.1 = i then (1 : Rat) else 0) = if i = S.idxOf tp.1 then 1 else 0 := fun i => by
        by_cases q : i = S.idxOf tp.1
        · rw [if_pos q, if_pos ⟨h, q.symm⟩]
        · rw [if_neg q, if_neg fun z => q z.2.symm]
      rw [sm_congr (h := fun i => (tp.2 * f i) * (if i = S.idxOf tp.1 then 1 else 0)) fun i _ => by rw [e2], sm_delta, if_pos (List.idxOf_lt_length_iff.mpr h)]
    · rw [if_neg h]
      rw [sm_zero fun i _ => by rw [if_neg fun z => h z.1]; grind]
      grind
include hb hn hS
theorem lv_dom : Dom S.length (2 * S.length + 2) (lvA g b S) where
  wide := by omega
  len := fun j hj => by rw [lvA_at hj, lvAug_len]
  dia := fun j hj => by
    rw [lvA_at hj, lvAug_mat hj hj, if_pos rfl]
    have a := ind_nn (s := S[j]) ok (fun t => t ∈ S ∧ S.idxOf t = j)
    have := Rat.mul_nonneg hb.nn a
    grind
  neg := fun j hj c hc hne => by
    rw [lvA_at hj, lvAug_mat hj hc, if_neg fun z => hne z.symm]
    have a := ind_nn (s := S[j]) ok (fun t => t ∈ S ∧ S.idxOf t = c)
    have := Rat.mul_nonneg hb.nn a
    grind
  sum := fun j hj => by
    have e : sm S.length (en (rowAt (lvA g b S) j)) = 1 - b * dot (g.row S[j]) (fun t => if t ∈ S then 1 else 0) := by
      rw [lvA_at hj, sm_congr (h := fun i => 1 * (if i = j then 1 else 0) - b * (dot (g.row S[j]) (fun t => if t ∈ S ∧ S.idxOf t = i then 1 else 0) * 1)) fun i hi => by
        rw [lvAug_mat hj hi]
        by_cases q : j = i
        · rw [if_pos q, if_pos q.symm]; grind
        · rw [if_neg q, if_neg fun z => q z.symm]; grind, sm_sub, sm_mul, sm_mul, sm_congr (h := fun i => (1 : Rat) * (if i = j then 1 else 0)) (fun i _ => by grind), sm_ind (fun _ => 1), sm_delta (f := fun _ => 1), if_pos hj]
      grind
    rw [e]
    have a := ind_le ok (hS _ (List.getElem_mem hj)) (fun t => t ∈ S)
    have := Rat.mul_le_mul_of_nonneg_left a hb.nn
    have := hb.lt
    grind

omit ok hb hn hS in
def lvX (g : Gm) (b : Rat) (S : List Nat) (s : Nat) : Rat := en (rowAt (gj (lvA g b S) S.length) (S.idxOf s)) S.length
omit ok hb hn hS in
def lvY (g : Gm) (b : Rat) (S : List Nat) (s : Nat) : Rat := en (rowAt (gj (lvA g b S) S.length) (S.idxOf s)) (S.length + 1)
theorem lv_sol {c : Nat} {s : Nat} (hs : s ∈ S) : en (lvAug g b S (S.idxOf s) s) c = en (rowAt (gj (lvA g b S) S.length) (S.idxOf s)) c - b * dot (g.row s) (fun t => if t ∈ S then en (rowAt (gj (lvA g b S) S.length) (S.idxOf t)) c else 0) := by
  have hi : S.idxOf s < S.length := List.idxOf_lt_length_iff.mpr hs
  have e0 : S[S.idxOf s] = s := List.getElem_idxOf hi
  have R := red_all (lv_dom ok hb hn hS) S.length (Nat.le_refl _)
  have h := R.span (S.idxOf s) hi c
  rw [lvA_at hi, e0] at h
  rw [h, sm_congr (h := fun i => en (rowAt (gj (lvA g b S) S.length) i) c * (if i = S.idxOf s then 1 else 0) - b * (dot (g.row s) (fun t => if t ∈ S ∧ S.idxOf t = i then 1 else 0) * en (rowAt (gj (lvA g b S) S.length) i) c)) fun i hi' => by
    rw [lvAug_mat hi hi']
    by_cases q : S.idxOf s = i
    · rw [if_pos q, if_pos q.symm]; grind
    · rw [if_neg q, if_neg fun z => q z.symm]; grind, sm_sub, sm_mul, sm_ind (fun i => en (rowAt (gj (lvA g b S) S.length) i) c), sm_delta, if_pos hi]
theorem lv_ok : Lv g b S (lvX g b S) (lvY g b S) where
  x := fun s hs => by
    have h := lv_sol ok hb hn hS (c := S.length) hs
    rw [lvAug_rew] at h
    unfold lvX
    grind
  y := fun s hs => by
    have h := lv_sol ok hb hn hS (c := S.length + 1) hs
    rw [lvAug_out] at h
    have e : dot (g.row s) (fun t => if t ∈ S then lvY g b S t else 1) = dot (g.row s) (fun t => (if t ∈ S then lvY g b S t else 0) + (if t ∈ S then 0 else 1)) := dot_congr fun tp _ => by
      by_cases q : tp.1 ∈ S
      · rw [if_pos q, if_pos q, if_pos q]; grind
      · rw [if_neg q, if_neg q, if_neg q]; grind
    rw [e, dot_add]
    unfold lvY
    grind
end
/-- the program's family -/
theorem fam_lv {g : Gm} {b : Rat} (ok : g.Ok) (hb : Disc b) : Fam g b (lvX g b) (lvY g b) := ⟨ok, hb, fun _ hn hS => lv_ok ok hb hn hS⟩

/-! ### sizes of a game -/
structure GB (g : Gm) (b : Rat) (de rh : Nat) : Prop where
  n4 : g.n ≤ 4
  row4 : ∀ s, (g.row s).length ≤ 4
  prob : ∀ s, s < g.n → ∃ d : Nat, 0 < d ∧ d ≤ 12 ∧ ∀ tp ∈ g.row s, Dn d tp.2
  bd : b.den ≤ 10
  rew : ∃ d : Nat, 0 < d ∧ d < 2 ^ de ∧ ∀ s, s < g.n → Dn d (g.rew s)
  mag : ∃ m : Nat, 0 < m ∧ m < 2 ^ rh ∧ ∀ s, s < g.n → g.rew s ≤ (m : Rat) ∧ -(m : Rat) ≤ g.rew s
theorem dn_dot {d : Nat} {row : List (Nat × Rat)} (h : ∀ tp ∈ row, Dn d tp.2) (P : Nat → Prop) [DecidablePred P] : Dn d (dot row (fun t => if P t then 1 else 0)) := by
  induction row with
  | nil => exact Dn.zero d
  | cons tp r ih =>
    refine Dn.add ?_ (ih fun q hq => h q (List.mem_cons_of_mem _ hq))
    have a := h tp (List.mem_cons_self ..)
    show Dn d (tp.2 * (if P tp.1 then 1 else 0))
    by_cases q : P tp.1
    · rw [if_pos q, show tp.2 * 1 = tp.2 by grind]; exact a
    · rw [if_neg q, show tp.2 * 0 = 0 by grind]; exact Dn.zero d
theorem lv_bnd {g : Gm} {b : Rat} {S : List Nat} {de rh : Nat} (ok : g.Ok) (hb : Disc b) (hn : S.Nodup) (hS : ∀ s ∈ S, s < g.n) (G : GB g b de rh) :
    ∃ Dl Ro : Nat → Nat, Bnd S.length (lvA g b S) Dl Ro 120 ∧ (∀ c, Dl c < 2 ^ (de + 1)) ∧ ∀ c, Ro c < 2 ^ (rh + 1) := by
  obtain ⟨dr, hdr, hdr2, hrew⟩ := G.rew
  obtain ⟨m, hm, hm2, hmag⟩ := G.mag
  have p2 : ∀ k, 1 < 2 ^ (k + 1) := fun k => Nat.one_lt_two_pow (by omega)
  have up : ∀ k, 2 ^ k ≤ 2 ^ (k + 1) := fun k => pow_le (by omega)
  have c1 : ((1 : Nat) : Rat) = 1 := rfl
  refine ⟨fun c => if c = S.length then dr else 1, fun c => if c = S.length then m else 1, ⟨by decide, fun c hc => if_neg (by omega), fun c => ?_, fun c => ?_, fun j hj => ?_, fun j hj c => ?_, fun j hj c => ?_⟩, fun c => ?_, fun c => ?_⟩
  · by_cases q : c = S.length
    · rw [if_pos q]; exact hdr
    · rw [if_neg q]; decide
  · by_cases q : c = S.length
    · rw [if_pos q]; exact hm
    · rw [if_neg q]; decide
  · have hs := hS _ (List.getElem_mem hj)
    obtain ⟨d, hd, hd2, hp⟩ := G.prob S[j] hs
    refine ⟨b.den * d, Nat.mul_pos (den_pos b) hd, Nat.le_trans (Nat.mul_le_mul G.bd hd2) (by decide), fun c => ?_⟩
    rw [lvA_at hj]
    by_cases q : c = S.length
    · rw [if_pos q, q, lvAug_rew]
      exact (hrew _ hs).mul_left
    · rw [if_neg q, Nat.mul_one]
      by_cases r : c < S.length
      · rw [lvAug_mat hj r]
        refine Dn.sub ?_ ((Dn.self b).mul (dn_dot hp _))
        by_cases z : j = c
        · rw [if_pos z]; exact Dn.one _
        · rw [if_neg z]; exact Dn.zero _
      · by_cases w : c = S.length + 1
        · rw [w, lvAug_out]
          have e : dot (g.row S[j]) (fun t => if t ∈ S then 0 else 1) = dot (g.row S[j]) (fun t => if ¬ t ∈ S then 1 else 0) := dot_congr fun tp _ => by
            by_cases z : tp.1 ∈ S
            · rw [if_pos z, if_neg (fun y => y z)]
            · rw [if_neg z, if_pos z]
          rw [e]
          exact (Dn.self b).mul (dn_dot hp _)
        · rcases lvAug_unit (g := g) (b := b) (S := S) (i := j) (s := S[j]) (c := c) (by omega) with z | z
          · rw [z]; exact Dn.zero _
          · rw [z]; exact Dn.one _
  · have hs := hS _ (List.getElem_mem hj)
    rw [lvA_at hj]
    by_cases q : c = S.length
    · rw [if_pos q, q, lvAug_rew]
      exact (hmag _ hs).1
    · rw [if_neg q, c1]
      by_cases r : c < S.length
      · rw [lvAug_mat hj r]
        have a := Rat.mul_nonneg hb.nn (ind_nn (s := S[j]) ok (fun t => t ∈ S ∧ S.idxOf t = c))
        by_cases z : j = c
        · rw [if_pos z]; grind
        · rw [if_neg z]; grind
      · by_cases w : c = S.length + 1
        · rw [w, lvAug_out]
          have a : dot (g.row S[j]) (fun t => if t ∈ S then 0 else 1) ≤ 1 := dot_one_le ok hs fun tp _ => by
            by_cases z : tp.1 ∈ S
            · rw [if_pos z]; decide
            · rw [if_neg z]; exact Rat.le_refl
          have := Rat.mul_le_mul_of_nonneg_left a hb.nn
          have := hb.lt
          grind
        · rcases lvAug_unit (g := g) (b := b) (S := S) (i := j) (s := S[j]) (c := c) (by omega) with z | z
          · rw [z]; decide
          · rw [z]; exact Rat.le_refl
  · have hs := hS _ (List.getElem_mem hj)
    rw [lvA_at hj]
    by_cases q : c = S.length
    · rw [if_pos q, q, lvAug_rew]
      exact (hmag _ hs).2
    · rw [if_neg q, c1]
      by_cases r : c < S.length
      · rw [lvAug_mat hj r]
        have a := Rat.mul_le_mul_of_nonneg_left (ind_le ok hs (fun t => t ∈ S ∧ S.idxOf t = c)) hb.nn
        have := hb.lt
        by_cases z : j = c
        · rw [if_pos z]; grind
        · rw [if_neg z]; grind
      · by_cases w : c = S.length + 1
        · rw [w, lvAug_out]
          have a : 0 ≤ dot (g.row S[j]) (fun t => if t ∈ S then 0 else 1) := dot_nn ok fun tp _ => by
            by_cases z : tp.1 ∈ S
            · rw [if_pos z]; exact Rat.le_refl
            · rw [if_neg z]; decide
          have := Rat.mul_nonneg hb.nn a
          grind
        · rcases lvAug_unit (g := g) (b := b) (S := S) (i := j) (s := S[j]) (c := c) (by omega) with z | z
          · rw [z]; decide
          · rw [z]; decide
  · show (if c = S.length then dr else 1) < _
    by_cases q : c = S.length
    · rw [if_pos q]; exact Nat.lt_of_lt_of_le hdr2 (up de)
    · rw [if_neg q]; exact p2 de
  · show (if c = S.length then m else 1) < _
    by_cases q : c = S.length
    · rw [if_pos q]; exact Nat.lt_of_lt_of_le hm2 (up rh)
    · rw [if_neg q]; exact p2 rh
theorem lv_sz {g : Gm} {b : Rat} {S : List Nat} {de rh : Nat} (ok : g.Ok) (hb : Disc b) (hn : S.Nodup) (hS : ∀ s ∈ S, s < g.n) (G : GB g b de rh) : SolSz (lvA g b S) S.length (232 + de + rh) := by
  obtain ⟨Dl, Ro, B, h1, h2⟩ := lv_bnd ok hb hn hS G
  have h4 : S.length ≤ 4 := by
    have := nodup_sub_len (l' := List.range g.n) hn fun x hx => List.mem_range.mpr (hS x hx)
    rw [List.length_range] at this
    exact Nat.le_trans this G.n4
  have := sz_all (lv_dom ok hb hn hS) B (by decide) h4 h1 h2
  rw [show 230 + (de + 1) + (rh + 1) = 232 + de + rh by omega] at this
  exact this
end AC

set_option Elab.async false
set_option linter.all false
set_option maxRecDepth 100000
/-! the walk's own layer: immutable data, symbolic slots -/
namespace AW
open PySem PySem.Spec PyProof.Rows L2
abbrev Frg := PySem.W.Frag
/-- data that is never changed; cur: a curve with its knots; dic: a dict with int keys -/
inductive Dat where
  | non | bl (b : Bool) | int (i : Int) | str (s : Str) | tup (ds : List Dat) | cur (k : Dat) | dic (ks : List Int) (ds : List Dat)

def Ex (H H' : Hp) : Prop := ∀ a o, H a = some o → H' a = some o
theorem Ex.refl (H : Hp) : Ex H H := fun _ _ h => h
theorem Ex.trans {H H1 H2 : Hp} (a : Ex H H1) (b : Ex H1 H2) : Ex H H2 := fun x o h => b x o (a x o h)
theorem Ex.new {H : Hp} {p : Addr} {o : HO} (h : H p = none) : Ex H (upd H p o) := fun a u e => by
  rw [upd_ne (ne_of_none e h)]
  exact e
theorem Ex.mut {H H' : Hp} {p : Addr} {o : HO} (e : Ex H H') (h : H p = none) : Ex H (upd H' p o) := fun a u ha => by
  rw [upd_ne (ne_of_none ha h)]
  exact e a u ha
theorem Ex.back {H H' : Hp} {p : Addr} (e : Ex H H') (h : H' p = none) : H p = none := by
  cases h1 : H p with
  | none => rfl
  | some o => rw [e p o h1] at h; cases h
/-- all but lists stays -/
def Kp (H H' : Hp) : Prop := ∀ a o, H a = some o → (∀ xs, o ≠ .lst xs) → H' a = some o
theorem Kp.refl (H : Hp) : Kp H H := fun _ _ h _ => h
theorem Kp.trans {H H1 H2 : Hp} (a : Kp H H1) (b : Kp H1 H2) : Kp H H2 := fun x o h n => b x o (a x o h n) n
theorem Ex.kp {H H' : Hp} (e : Ex H H') : Kp H H' := fun a o h _ => e a o h
theorem Kp.upd {H : Hp} {l : Addr} {xs ys : List V} (h : H l = some (.lst xs)) : Kp H (upd H l (.lst ys)) := fun a o e n => by
  rw [upd_ne (fun q => by subst q; rw [h] at e; exact n xs (Option.some.inj e).symm)]
  exact e

section
variable (K : Frg) (C : Addr)
mutual
inductive Im (H : Hp) : V → Dat → Prop
  | non : Im H .non .non
  | bl (b : Bool) : Im H (.bl b) (.bl b)
  | int (i : Int) : Im H (.int i) (.int i)
  | str (x : Str) : Im H (.str x) (.str x)
  | tup {a : Addr} {xs : List V} {ds : List Dat} : SqT K H a xs → ImA H xs ds → Im H (.ref a) (.tup ds)
  | cur {a dx : Addr} {v : V} {d : Dat} : H a = some (.ins C dx [("knots", v)]) → Im H v d → Im H (.ref a) (.cur d)
  | dic {a : Addr} {ks : List Int} {vs : List V} {ds : List Dat} : H a = some (.dK (List.zipWith (fun k v => (Sum.inl k, v)) ks vs)) → ks.length = vs.length → ImA H vs ds → Im H (.ref a) (.dic ks ds)
inductive ImA (H : Hp) : List V → List Dat → Prop
  | nil : ImA H [] []
  | cons {v : V} {vs : List V} {d : Dat} {ds : List Dat} : Im H v d → ImA H vs ds → ImA H (v :: vs) (d :: ds)
end
end
section
variable {K : Frg} {C : Addr} {H H' : Hp}
theorem Kp.rd {a : Addr} {xs : List V} (e : Kp H H') (h : Rd H a (.tup xs)) : Rd H' a (.tup xs) := by
  rcases h with h | ⟨o, h⟩
  · exact .inl (e a _ h fun _ q => nomatch q)
  · exact .inr ⟨o, e a _ h fun _ q => nomatch q⟩
theorem Kp.sqT {a : Addr} {xs : List V} (e : Kp H H') (h : SqT K H a xs) : SqT K H' a xs := by
  rcases h with h | h
  · exact .inl (e.rd h)
  · exact .inr h
theorem Ex.sqL {a : Addr} {xs : List V} (e : Ex H H') (h : SqL K H a xs) : SqL K H' a xs := by
  rcases h with (h | ⟨o, h⟩) | h
  · exact .inl (.inl (e _ _ h))
  · exact .inl (.inr ⟨o, e _ _ h⟩)
  · exact .inr h
theorem Ex.sqT {a : Addr} {xs : List V} (e : Ex H H') (h : SqT K H a xs) : SqT K H' a xs := e.kp.sqT h
mutual
theorem Im.kp (e : Kp H H') : ∀ {v : V} {d : Dat}, Im K C H v d → Im K C H' v d
  | _, _, .non => .non
  | _, _, .bl b => .bl b
  | _, _, .int i => .int i
  | _, _, .str x => .str x
  | _, _, .tup h a => .tup (e.sqT h) (ImA.kp e a)
  | _, _, .cur h a => .cur (e _ _ h fun _ q => nomatch q) (Im.kp e a)
  | _, _, .dic h l a => .dic (e _ _ h fun _ q => nomatch q) l (ImA.kp e a)
theorem ImA.kp (e : Kp H H') : ∀ {vs : List V} {ds : List Dat}, ImA K C H vs ds → ImA K C H' vs ds
  | _, _, .nil => .nil
  | _, _, .cons h t => .cons (Im.kp e h) (ImA.kp e t)
end
theorem Im.ex (e : Ex H H') {v : V} {d : Dat} (h : Im K C H v d) : Im K C H' v d := h.kp e.kp
theorem ImA.ex (e : Ex H H') {vs : List V} {ds : List Dat} (h : ImA K C H vs ds) : ImA K C H' vs ds := h.kp e.kp
theorem ImA.len : ∀ {vs : List V} {ds : List Dat}, ImA K C H vs ds → vs.length = ds.length
  | _, _, .nil => rfl
  | _, _, .cons _ t => by rw [List.length_cons, List.length_cons, ImA.len t]
theorem ImA.get : ∀ {vs : List V} {ds : List Dat} {i : Nat} {d : Dat}, ImA K C H vs ds → ds[i]? = some d → ∃ v, vs[i]? = some v ∧ Im K C H v d
  | _, _, _, _, .nil, e => by simp at e
  | _, _, 0, _, .cons h _, e => by simp at e; subst e; exact ⟨_, rfl, h⟩
  | _, _, i + 1, d, .cons _ t, e => by
    obtain ⟨v, h1, h2⟩ := ImA.get (i := i) (d := d) t (by simpa using e)
    exact ⟨v, by simpa using h1, h2⟩
theorem ImA.getV : ∀ {vs : List V} {ds : List Dat} {i : Nat} {v : V}, ImA K C H vs ds → vs[i]? = some v → ∃ d, ds[i]? = some d ∧ Im K C H v d
  | _, _, _, _, .nil, e => by simp at e
  | _, _, 0, _, .cons h _, e => by simp at e; subst e; exact ⟨_, rfl, h⟩
  | _, _, i + 1, v, .cons _ t, e => by
    obtain ⟨d, h1, h2⟩ := ImA.getV (i := i) (v := v) t (by simpa using e)
    exact ⟨d, by simpa using h1, h2⟩
theorem ImA.append : ∀ {vs ws : List V} {ds es : List Dat}, ImA K C H vs ds → ImA K C H ws es → ImA K C H (vs ++ ws) (ds ++ es)
  | _, _, _, _, .nil, s => s
  | _, _, _, _, .cons r t, s => .cons r (ImA.append t s)
theorem ImA.take : ∀ {vs : List V} {ds : List Dat} (n : Nat), ImA K C H vs ds → ImA K C H (vs.take n) (ds.take n)
  | _, _, 0, _ => .nil
  | _, _, _ + 1, .nil => .nil
  | _, _, n + 1, .cons r t => .cons r (ImA.take n t)
theorem ImA.drop : ∀ {vs : List V} {ds : List Dat} (n : Nat), ImA K C H vs ds → ImA K C H (vs.drop n) (ds.drop n)
  | _, _, 0, r => r
  | _, _, _ + 1, .nil => .nil
  | _, _, n + 1, .cons _ t => ImA.drop n t
theorem ImA.set {v : V} {d : Dat} (r : Im K C H v d) : ∀ {vs : List V} {ds : List Dat} (i : Nat), ImA K C H vs ds → ImA K C H (vs.set i v) (ds.set i d)
  | _, _, _, .nil => .nil
  | _, _, 0, .cons _ t => .cons r t
  | _, _, i + 1, .cons q t => .cons q (ImA.set r i t)
theorem ImA.rep {v : V} {d : Dat} (r : Im K C H v d) : ∀ n, ImA K C H (List.replicate n v) (List.replicate n d)
  | 0 => .nil
  | n + 1 => .cons r (ImA.rep r n)
theorem ImA.reverse {vs : List V} {ds : List Dat} (h : ImA K C H vs ds) : ImA K C H vs.reverse ds.reverse := by
  induction vs generalizing ds with
  | nil => cases h; exact .nil
  | cons v r ih =>
    cases h with
    | cons a b =>
      rw [List.reverse_cons, List.reverse_cons]
      exact (ih b).append (.cons a .nil)
theorem ImA.ints : ∀ {vs : List V} {ns : List Int}, ImA K C H vs (ns.map Dat.int) → vs = ns.map V.int
  | _, [], h => by cases h; rfl
  | _, n :: ns, h => by
    cases h with
    | cons a b => cases a; rw [ImA.ints b] <;> rfl
theorem ImA.of_ints : ∀ ns : List Int, ImA K C H (ns.map V.int) (ns.map Dat.int)
  | [] => .nil
  | n :: ns => .cons (.int n) (ImA.of_ints ns)
end

/-! ### slots -/
inductive Sd where
  | any
  | dat (d : Dat)
  | own (a : Addr) (ds : List Dat)
  | lst (ds : List Dat)

/-- the heap at the def's entry, and the part of the heap that is to stay -/
structure Bs where
  h0 : Hp
  hq : Hp
section
variable (K : Frg) (C : Addr)
def SdOk (B : Bs) (H : Hp) (x : Option (Option V)) : Sd → Prop
  | .any => True
  | .dat d => ∃ v, x = some (some v) ∧ Im K C H v d
  | .own a ds => x = some (some (.ref a)) ∧ ∃ vs, H a = some (.lst vs) ∧ ImA K C H vs ds
  | .lst ds => ∃ a vs, x = some (some (.ref a)) ∧ SqL K B.h0 a vs ∧ ImA K C B.h0 vs ds
structure EnvOk (B : Bs) (H : Hp) (σ : L2.St) (r : List Sd) : Prop where
  ex0 : Ex B.h0 B.hq
  exq : Ex B.hq H
  len : σ.length = r.length
  at_ : ∀ (i : Nat) (sd : Sd), r[i]? = some sd → SdOk K C B H σ[i]? sd
  nd : ∀ (i j : Nat) (a : Addr) (ds es : List Dat), r[i]? = some (.own a ds) → r[j]? = some (.own a es) → i = j
  fr : ∀ (i : Nat) (a : Addr) (ds : List Dat), r[i]? = some (.own a ds) → B.hq a = none
end
section
variable {K : Frg} {C : Addr} {B : Bs} {H H' : Hp} {σ : L2.St} {r : List Sd}
theorem EnvOk.ex (E : EnvOk K C B H σ r) : Ex B.h0 H := E.ex0.trans E.exq
theorem SdOk.ex {x : Option (Option V)} {sd : Sd} (e : Ex H H') (h : SdOk K C B H x sd) : SdOk K C B H' x sd := by
  cases sd with
  | any => trivial
  | dat d => obtain ⟨v, h1, h2⟩ := h; exact ⟨v, h1, h2.ex e⟩
  | own a ds => obtain ⟨h1, vs, h2, h3⟩ := h; exact ⟨h1, vs, e _ _ h2, h3.ex e⟩
  | lst ds => exact h
theorem EnvOk.mono (E : EnvOk K C B H σ r) (e : Ex H H') : EnvOk K C B H' σ r :=
  ⟨E.ex0, E.exq.trans e, E.len, fun i sd h => (E.at_ i sd h).ex e, E.nd, E.fr⟩
theorem get_set_sd {i j : Nat} {x sd : Sd} (h : (r.set i x)[j]? = some sd) : (i = j ∧ sd = x) ∨ (i ≠ j ∧ r[j]? = some sd) := by
  rw [List.getElem?_set] at h
  by_cases e : i = j
  · left
    rw [if_pos e] at h
    by_cases q : i < r.length
    · rw [if_pos q] at h; exact ⟨e, (Option.some.inj h).symm⟩
    · rw [if_neg q] at h; cases h
  · right
    rw [if_neg e] at h
    exact ⟨e, h⟩
/-- a slot gets a value that is no list of the def's own -/
theorem EnvOk.set (E : EnvOk K C B H σ r) {i : Nat} {v : V} {sd : Sd} (hi : i < r.length) (h : SdOk K C B H (some (some v)) sd) (hn : ∀ a ds, sd ≠ .own a ds) : EnvOk K C B H (σ.set i (some v)) (r.set i sd) := by
  refine ⟨E.ex0, E.exq, by rw [List.length_set, List.length_set, E.len], fun j sd' hj => ?_, fun j k a ds es hj hk => ?_, fun j a ds hj => ?_⟩
  · rcases get_set_sd hj with ⟨rfl, rfl⟩ | ⟨q, hj⟩
    · rw [List.getElem?_set_self (by rw [E.len]; exact hi)]; exact h
    · rw [List.getElem?_set_ne q]; exact E.at_ j sd' hj
  · rcases get_set_sd hj with ⟨_, e⟩ | ⟨_, hj⟩
    · exact absurd e.symm (hn _ _)
    · rcases get_set_sd hk with ⟨_, e⟩ | ⟨_, hk⟩
      · exact absurd e.symm (hn _ _)
      · exact E.nd j k a ds es hj hk
  · rcases get_set_sd hj with ⟨_, e⟩ | ⟨_, hj⟩
    · exact absurd e.symm (hn _ _)
    · exact E.fr j a ds hj
/-- a slot gets a new list -/
theorem EnvOk.setOwn (E : EnvOk K C B H σ r) {i : Nat} {p : Addr} {vs : List V} {ds : List Dat} (hi : i < r.length) (hp : H p = none) (e : Ex H H') (h : H' p = some (.lst vs)) (hd : ImA K C H' vs ds) : EnvOk K C B H' (σ.set i (some (.ref p))) (r.set i (.own p ds)) := by
  have E' := E.mono e
  have no : ∀ (j : Nat) (es : List Dat), r[j]? ≠ some (Sd.own p es) := fun j es q => by
    obtain ⟨_, vs, z, _⟩ := E.at_ j _ q
    rw [hp] at z
    cases z
  refine ⟨E'.ex0, E'.exq, by rw [List.length_set, List.length_set, E.len], fun j sd' hj => ?_, fun j k a es fs hj hk => ?_, fun j a es hj => ?_⟩
  · rcases get_set_sd hj with ⟨rfl, rfl⟩ | ⟨q, hj⟩
    · rw [List.getElem?_set_self (by rw [E.len]; exact hi)]; exact ⟨rfl, vs, h, hd⟩
    · rw [List.getElem?_set_ne q]; exact E'.at_ j sd' hj
  · rcases get_set_sd hj with ⟨rfl, e1⟩ | ⟨q1, hj⟩
    · rcases get_set_sd hk with ⟨rfl, e2⟩ | ⟨q2, hk⟩
      · rfl
      · cases e1; exact absurd hk (no _ _)
    · rcases get_set_sd hk with ⟨rfl, e2⟩ | ⟨q2, hk⟩
      · cases e2; exact absurd hj (no _ _)
      · exact E.nd j k a es fs hj hk
  · rcases get_set_sd hj with ⟨_, e1⟩ | ⟨_, hj⟩
    · cases e1
      exact E.exq.back hp
    · exact E.fr j a es hj
/-- an own list is changed -/
theorem EnvOk.mut (E : EnvOk K C B H σ r) {i : Nat} {a : Addr} {ds es : List Dat} {vs : List V} (hi : r[i]? = some (.own a ds)) (hd : ImA K C H vs es) : EnvOk K C B (upd H a (.lst vs)) σ (r.set i (.own a es)) := by
  obtain ⟨hx, us, hu, _⟩ := E.at_ i _ hi
  have hfr := E.fr i a ds hi
  have kp : Kp H (upd H a (.lst vs)) := Kp.upd hu
  refine ⟨E.ex0, E.exq.mut hfr, by rw [List.length_set, E.len], fun j sd hj => ?_, fun j k b fs gs hj hk => ?_, fun j b fs hj => ?_⟩
  · rcases get_set_sd hj with ⟨rfl, rfl⟩ | ⟨q, hj'⟩
    · exact ⟨hx, vs, upd_same, hd.kp kp⟩
    · have h := E.at_ j sd hj'
      cases sd with
      | any => trivial
      | dat d => obtain ⟨v, h1, h2⟩ := h; exact ⟨v, h1, h2.kp kp⟩
      | own b fs =>
        obtain ⟨h1, ws, h2, h3⟩ := h
        have ne : b ≠ a := fun e => by subst e; exact q (E.nd i j b _ _ hi hj')
        exact ⟨h1, ws, by rw [upd_ne ne]; exact h2, h3.kp kp⟩
      | lst fs => exact h
  · rcases get_set_sd hj with ⟨rfl, e1⟩ | ⟨q1, hj⟩
    · rcases get_set_sd hk with ⟨rfl, e2⟩ | ⟨q2, hk⟩
      · rfl
      · cases e1; exact E.nd _ _ _ _ _ hi hk
    · rcases get_set_sd hk with ⟨rfl, e2⟩ | ⟨q2, hk⟩
      · cases e2; exact E.nd _ _ _ _ _ hj hi
      · exact E.nd j k b fs gs hj hk
  · rcases get_set_sd hj with ⟨_, e1⟩ | ⟨_, hj⟩
    · cases e1; exact hfr
    · exact E.fr j b fs hj

/-- the part that stays, while a loop runs: all but the def's own lists -/
noncomputable def hold (H : Hp) (r : List Sd) : Hp := fun a => open Classical in if (∃ (i : Nat) (ds : List Dat), r[i]? = some (Sd.own a ds)) then none else H a
theorem hold_none {i : Nat} {a : Addr} {ds : List Dat} (h : r[i]? = some (.own a ds)) : hold H r a = none := if_pos ⟨i, ds, h⟩
theorem hold_some {a : Addr} (h : ¬ ∃ (i : Nat) (ds : List Dat), r[i]? = some (Sd.own a ds)) : hold H r a = H a := if_neg h
theorem hold_ex : Ex (hold H r) H := fun a o h => by
  by_cases c : ∃ (i : Nat) (ds : List Dat), r[i]? = some (Sd.own a ds)
  · obtain ⟨i, ds, c⟩ := c
    rw [hold_none c] at h
    cases h
  · rw [hold_some c] at h
    exact h
theorem EnvOk.hold (E : EnvOk K C B H σ r) : EnvOk K C ⟨B.h0, hold H r⟩ H σ r ∧ Ex B.hq (AW.hold H r) := by
  have e : Ex B.hq (AW.hold H r) := fun a o h => by
    rw [hold_some fun ⟨i, ds, c⟩ => by rw [E.fr i a ds c] at h; cases h]
    exact E.exq a o h
  exact ⟨⟨E.ex0.trans e, hold_ex, E.len, E.at_, E.nd, fun i a ds h => hold_none h⟩, e⟩
theorem EnvOk.back {Hq : Hp} (e0 : Ex B.h0 B.hq) (e : Ex B.hq Hq) (E : EnvOk K C ⟨B.h0, Hq⟩ H σ r) : EnvOk K C B H σ r :=
  ⟨e0, e.trans E.exq, E.len, E.at_, E.nd, fun i a ds h => e.back (E.fr i a ds h)⟩
end
end AW

set_option Elab.async false
set_option linter.all false
set_option maxRecDepth 100000
/-! the walk's own layer: readings over symbolic slots -/
namespace AW
open PySem PySem.Spec PyProof.Rows L2
/-- an argument, a result: data or a list of data -/
inductive Ar where
  | dat (d : Dat)
  | lst (ds : List Dat)
section
variable (K : Frg) (C : Addr)
def ArOk (H : Hp) (v : V) : Ar → Prop
  | .dat d => Im K C H v d
  | .lst ds => ∃ a vs, v = .ref a ∧ SqL K H a vs ∧ ImA K C H vs ds
inductive ArsOk (H : Hp) : List V → List Ar → Prop
  | nil : ArsOk H [] []
  | cons {v : V} {vs : List V} {d : Ar} {ds : List Ar} : ArOk K C H v d → ArsOk H vs ds → ArsOk H (v :: vs) (d :: ds)
def EvR (te : TE) (r : List Sd) (P : Hp → V → Hp → Prop) : Prop := ∀ (H0 : Bs) (H : Hp) (σ : L2.St), EnvOk K C H0 H σ r → ∀ Q : VK, (∀ v H', Ex H H' → P H v H' → Q v H') → te σ H Q
abbrev EvD (te : TE) (r : List Sd) (d : Dat) : Prop := EvR K C te r fun _ v H' => Im K C H' v d
abbrev EvN (te : TE) (r : List Sd) (ds : List Dat) : Prop := EvR K C te r fun H v H' => ∃ p vs, v = .ref p ∧ H p = none ∧ H' p = some (.lst vs) ∧ ImA K C H' vs ds
abbrev EvM (te : TE) (r : List Sd) (ds : List Dat) : Prop := EvR K C te r fun _ v H' => ∃ p vs, v = .ref p ∧ H' p = some (.lst vs) ∧ ImA K C H' vs ds
abbrev EvL (te : TE) (r : List Sd) (ds : List Dat) : Prop := EvR K C te r fun _ v H' => ArOk K C H' v (.lst ds)
def EvTt (tt : TT) (r : List Sd) (b : Bool) : Prop := ∀ (H0 : Bs) (H : Hp) (σ : L2.St), EnvOk K C H0 H σ r → ∀ Q : Bool → Hp → Prop, (∀ H', Ex H H' → Q b H') → tt σ H Q
def EvAs (ta : TA) (r : List Sd) (ds : List Ar) : Prop := ∀ (H0 : Bs) (H : Hp) (σ : L2.St), EnvOk K C H0 H σ r → ∀ Q : List V → Hp → Prop, (∀ vs H', Ex H H' → ArsOk K C H' vs ds → Q vs H') → ta σ H Q
end
section
variable {K : Frg} {C : Addr} {r : List Sd}
theorem ArOk.ex {H H' : Hp} (e : Ex H H') {v : V} : ∀ {a : Ar}, ArOk K C H v a → ArOk K C H' v a
  | .dat d, h => Im.ex e h
  | .lst ds, h => by obtain ⟨a, vs, h1, h2, h3⟩ := h; exact ⟨a, vs, h1, e.sqL h2, h3.ex e⟩
theorem ArsOk.ex {H H' : Hp} (e : Ex H H') : ∀ {vs : List V} {ds : List Ar}, ArsOk K C H vs ds → ArsOk K C H' vs ds
  | _, _, .nil => .nil
  | _, _, .cons h t => .cons (h.ex e) (t.ex e)
theorem ArsOk.len {H : Hp} : ∀ {vs : List V} {ds : List Ar}, ArsOk K C H vs ds → vs.length = ds.length
  | _, _, .nil => rfl
  | _, _, .cons _ t => by rw [List.length_cons, List.length_cons, t.len]
theorem ArsOk.dats {H : Hp} : ∀ {vs : List V} {ds : List Dat}, ArsOk K C H vs (ds.map Ar.dat) → ImA K C H vs ds
  | [], [], _ => .nil
  | _ :: _, [], h => by cases h
  | [], _ :: _, h => by cases h
  | v :: vs, d :: ds, h => by cases h with | cons a b => exact .cons a b.dats

/-! ### expressions -/
theorem el_of_n {te : TE} {ds : List Dat} (h : EvN K C te r ds) : EvL K C te r ds := fun H0 H σ E Q q => h H0 H σ E Q fun v H' e ⟨p, vs, h1, _, h3, h4⟩ => q v H' e ⟨p, vs, h1, .inl (.inl h3), h4⟩
theorem em_of_n {te : TE} {ds : List Dat} (h : EvN K C te r ds) : EvM K C te r ds := fun H0 H σ E Q q => h H0 H σ E Q fun v H' e ⟨p, vs, h1, _, h3, h4⟩ => q v H' e ⟨p, vs, h1, h3, h4⟩
theorem el_of_m {te : TE} {ds : List Dat} (h : EvM K C te r ds) : EvL K C te r ds := fun H0 H σ E Q q => h H0 H σ E Q fun v H' e ⟨p, vs, h1, h3, h4⟩ => q v H' e ⟨p, vs, h1, .inl (.inl h3), h4⟩
theorem ed_var {i : Nat} {d : Dat} (h : r[i]? = some (.dat d)) : EvD K C (tVar i) r d := fun H0 H σ E Q q => by
  obtain ⟨v, h1, h2⟩ := E.at_ i _ h
  exact ⟨v, h1, q v H (Ex.refl H) h2⟩
theorem em_var {i : Nat} {a : Addr} {ds : List Dat} (h : r[i]? = some (.own a ds)) : EvM K C (tVar i) r ds := fun H0 H σ E Q q => by
  obtain ⟨h1, vs, h2, h3⟩ := E.at_ i _ h
  exact ⟨_, h1, q _ H (Ex.refl H) ⟨a, vs, rfl, h2, h3⟩⟩
theorem el_var {i : Nat} {ds : List Dat} (h : r[i]? = some (.lst ds)) : EvL K C (tVar i) r ds := fun H0 H σ E Q q => by
  obtain ⟨a, vs, h1, h2, h3⟩ := E.at_ i _ h
  exact ⟨_, h1, q _ H (Ex.refl H) ⟨a, vs, rfl, E.ex.sqL h2, h3.ex E.ex⟩⟩
theorem el_own {i : Nat} {a : Addr} {ds : List Dat} (h : r[i]? = some (.own a ds)) : EvL K C (tVar i) r ds := el_of_m (em_var h)
theorem ed_c {v : V} {d : Dat} (h : ∀ H, Im K C H v d) : EvD K C (tC v) r d := fun H0 H σ E Q q => q v H (Ex.refl H) (h H)
theorem ed_int {i : Int} : EvD K C (tC (.int i)) r (.int i) := ed_c fun _ => .int i
theorem ed_bl {b : Bool} : EvD K C (tC (.bl b)) r (.bl b) := ed_c fun _ => .bl b
theorem ed_non : EvD K C (tC .non) r .non := ed_c fun _ => .non
theorem ed_str {x : Str} : EvD K C (tC (.str x)) r (.str x) := ed_c fun _ => .str x
theorem ed_is {te : TE} {d e : Dat} (h : EvD K C te r d) (q : d = e) : EvD K C te r e := q ▸ h
theorem en_is {te : TE} {d e : List Dat} (h : EvN K C te r d) (q : d = e) : EvN K C te r e := q ▸ h
theorem et_is {tt : TT} {d e : Bool} (h : EvTt K C tt r d) (q : d = e) : EvTt K C tt r e := q ▸ h

/-- two operands, both data -/
theorem ed_op {rr : R2} {ta tb : TE} {d e z : Dat} (ha : EvD K C ta r d) (hb : EvD K C tb r e) (hr : ∀ H x y, Im K C H x d → Im K C H y e → ∀ Q : VK, (∀ v H', Ex H H' → Im K C H' v z → Q v H') → rr x y H Q) : EvD K C (tOp rr ta tb) r z := fun H0 H σ E Q q =>
  ha H0 H σ E _ fun x H1 e1 hx => hb H0 H1 σ (E.mono e1) _ fun y H2 e2 hy => hr H2 x y (hx.ex e2) hy Q fun v H3 e3 hv => q v H3 ((e1.trans e2).trans e3) hv
theorem im_int {H : Hp} {x : V} {i : Int} (h : Im K C H x (.int i)) : x = .int i := by cases h; rfl
theorem im_bl {H : Hp} {x : V} {b : Bool} (h : Im K C H x (.bl b)) : x = .bl b := by cases h; rfl
theorem im_non {H : Hp} {x : V} (h : Im K C H x .non) : x = .non := by cases h; rfl
theorem im_tup {H : Hp} {x : V} {ds : List Dat} (h : Im K C H x (.tup ds)) : ∃ a xs, x = .ref a ∧ SqT K H a xs ∧ ImA K C H xs ds := by cases h with | tup h1 h2 => exact ⟨_, _, rfl, h1, h2⟩
theorem ed_i {f : Int → Int → Int} {ta tb : TE} {i j : Int} (ha : EvD K C ta r (.int i)) (hb : EvD K C tb r (.int j)) : EvD K C (tOp (rI0 fun i j => .int (f i j)) ta tb) r (.int (f i j)) :=
  ed_op ha hb fun H x y hx hy Q q => ⟨i, j, im_int hx, im_int hy, q _ H (Ex.refl H) (.int _)⟩
theorem ed_b {f : Int → Int → Bool} {ta tb : TE} {i j : Int} (ha : EvD K C ta r (.int i)) (hb : EvD K C tb r (.int j)) : EvD K C (tOp (rI0 fun i j => .bl (f i j)) ta tb) r (.bl (f i j)) :=
  ed_op ha hb fun H x y hx hy Q q => ⟨i, j, im_int hx, im_int hy, q _ H (Ex.refl H) (.bl _)⟩
theorem ed_ic {c : Int → Int → Prop} {f : Int → Int → Int} {ta tb : TE} {i j : Int} (ha : EvD K C ta r (.int i)) (hb : EvD K C tb r (.int j)) (hc : c i j) : EvD K C (tOp (rI c fun i j => .int (f i j)) ta tb) r (.int (f i j)) :=
  ed_op ha hb fun H x y hx hy Q q => ⟨i, j, im_int hx, im_int hy, hc, q _ H (Ex.refl H) (.int _)⟩
theorem ed_u {f : Int → Int} {ta : TE} {i : Int} (ha : EvD K C ta r (.int i)) : EvD K C (tUn (rU fun i => .int (f i)) ta) r (.int (f i)) := fun H0 H σ E Q q =>
  ha H0 H σ E _ fun x H1 e1 hx => ⟨i, im_int hx, q _ H1 e1 (.int _)⟩
theorem dec_int (i j : Int) : decide (V.int i = V.int j) = decide (i = j) := decide_eq_decide.mpr ⟨fun h => V.int.inj h, fun h => by rw [h]⟩
/-- == and != of whole numbers -/
theorem ed_eqI {ta tb : TE} {i j : Int} (ha : EvD K C ta r (.int i)) (hb : EvD K C tb r (.int j)) : EvD K C (tOp rEq ta tb) r (.bl (decide (i = j))) :=
  ed_op ha hb fun H x y hx hy Q q => by
    rw [im_int hx, im_int hy]
    refine ⟨rfl, ?_⟩
    rw [dec_int]
    exact q _ H (Ex.refl H) (.bl _)
theorem ed_neI {ta tb : TE} {i j : Int} (ha : EvD K C ta r (.int i)) (hb : EvD K C tb r (.int j)) : EvD K C (tOp rNe ta tb) r (.bl (!decide (i = j))) :=
  ed_op ha hb fun H x y hx hy Q q => by
    rw [im_int hx, im_int hy]
    refine ⟨rfl, ?_⟩
    rw [dec_int]
    exact q _ H (Ex.refl H) (.bl _)
/-- x is None -/
def isNon : Dat → Bool
  | .non => true
  | _ => false
theorem im_isN {H : Hp} {x : V} {d : Dat} (h : Im K C H x d) : decide (x = .non) = isNon d := by cases h <;> rfl
theorem ed_isN {ta tb : TE} {d : Dat} (ha : EvD K C ta r d) (hb : EvD K C tb r .non) : EvD K C (tOp (fun x y H Q => y = .non ∧ Q (.bl (decide (x = .non))) H) ta tb) r (.bl (isNon d)) :=
  ed_op ha hb fun H x y hx hy Q q => by
    refine ⟨im_non hy, ?_⟩
    rw [im_isN hx]
    exact q _ H (Ex.refl H) (.bl _)
theorem ed_notN {ta tb : TE} {d : Dat} (ha : EvD K C ta r d) (hb : EvD K C tb r .non) : EvD K C (tOp (fun x y H Q => y = .non ∧ Q (.bl (!decide (x = .non))) H) ta tb) r (.bl (!isNon d)) :=
  ed_op ha hb fun H x y hx hy Q q => by
    refine ⟨im_non hy, ?_⟩
    rw [im_isN hx]
    exact q _ H (Ex.refl H) (.bl _)
/-- t[i] -/
theorem atI_im {H : Hp} {vs : List V} {ds : List Dat} {i : Int} {d : Dat} (h : ImA K C H vs ds) (e : atI ds i = some d) : ∃ v, atI vs i = some v ∧ Im K C H v d := by
  unfold atI at e ⊢
  rw [h.len]
  cases q : ixN ds.length i with
  | none => rw [q] at e; cases e
  | some j => rw [q] at e; exact h.get (i := j) e
theorem ed_ixT {ta tb : TE} {ds : List Dat} {i : Int} {d : Dat} (ha : EvD K C ta r (.tup ds)) (hb : EvD K C tb r (.int i)) (h : atI ds i = some d) : EvD K C (tOp (rIxT K) ta tb) r d :=
  ed_op ha hb fun H x y hx hy Q q => by
    obtain ⟨a, xs, rfl, h1, h2⟩ := im_tup hx
    obtain ⟨v, h3, h4⟩ := atI_im h2 h
    exact ⟨a, xs, i, v, rfl, im_int hy, h1, h3, q v H (Ex.refl H) h4⟩
theorem ed_ixL {ta tb : TE} {ds : List Dat} {i : Int} {d : Dat} (ha : EvL K C ta r ds) (hb : EvD K C tb r (.int i)) (h : atI ds i = some d) : EvD K C (tOp (rIxL K) ta tb) r d := fun H0 H σ E Q q =>
  ha H0 H σ E _ fun x H1 e1 hx => hb H0 H1 σ (E.mono e1) _ fun y H2 e2 hy => by
    obtain ⟨a, xs, rfl, h1, h2⟩ := ArOk.ex (a := .lst ds) e2 hx
    obtain ⟨v, h3, h4⟩ := atI_im h2 h
    exact ⟨a, xs, i, v, rfl, im_int hy, h1, h3, q v H2 (e1.trans e2) h4⟩
theorem atI_get {ds : List Dat} {k : Nat} {d : Dat} (h : ds[k]? = some d) : atI ds (k : Int) = some d := by
  have hk : k < ds.length := by
    rcases Nat.lt_or_ge k ds.length with q | q
    · exact q
    · rw [List.getElem?_eq_none q] at h; cases h
  unfold atI
  rw [show ixN ds.length (k : Int) = some k by
    unfold ixN
    rw [if_pos (by omega), if_pos (by omega)]
    rfl]
  exact h

/-! ### arguments -/
theorem ea_nil : EvAs K C tNil r [] := fun H0 H σ E Q q => q [] H (Ex.refl H) .nil
theorem ea_d {te : TE} {ta : TA} {d : Dat} {ds : List Ar} (h : EvD K C te r d) (t : EvAs K C ta r ds) : EvAs K C (tCons te ta) r (.dat d :: ds) := fun H0 H σ E Q q =>
  h H0 H σ E _ fun x H1 e1 hx => t H0 H1 σ (E.mono e1) _ fun vs H2 e2 hv => q _ H2 (e1.trans e2) (.cons (Im.ex e2 hx) hv)
theorem ea_l {te : TE} {ta : TA} {d : List Dat} {ds : List Ar} (h : EvL K C te r d) (t : EvAs K C ta r ds) : EvAs K C (tCons te ta) r (.lst d :: ds) := fun H0 H σ E Q q =>
  h H0 H σ E _ fun x H1 e1 hx => t H0 H1 σ (E.mono e1) _ fun vs H2 e2 hv => q _ H2 (e1.trans e2) (.cons (ArOk.ex (a := .lst d) e2 hx) hv)
theorem sz_ok {n : Nat} (h : n ≤ 1000) : n ≤ sizeLine := Nat.le_trans h (by decide)
theorem sz_lt {n : Nat} (h : n < 1000) : n < sizeLine := Nat.lt_of_lt_of_le h (by decide)
theorem ed_tup {ta : TA} {ds : List Dat} (h : EvAs K C ta r (ds.map Ar.dat)) (hl : ds.length ≤ 1000) : EvD K C (tTup ta) r (.tup ds) := fun H0 H σ E Q q =>
  h H0 H σ E _ fun vs H1 e1 hv => ⟨by rw [hv.len, List.length_map]; exact sz_ok hl, fun p hp => q _ _ (e1.trans (Ex.new hp)) (.tup (.inl (.inl upd_same)) (hv.dats.ex (Ex.new hp)))⟩
theorem ed_t0 : EvD K C (tTup tNil) r (.tup []) := ed_tup (ds := []) ea_nil (Nat.zero_le _)
theorem ed_t1 {ta : TE} {d : Dat} (h : EvD K C ta r d) : EvD K C (tTup (tCons ta tNil)) r (.tup [d]) := ed_tup (ds := [d]) (ea_d h ea_nil) (by show 1 ≤ 1000; decide)
theorem ed_t2 {ta tb : TE} {d e : Dat} (h : EvD K C ta r d) (k : EvD K C tb r e) : EvD K C (tTup (tCons ta (tCons tb tNil))) r (.tup [d, e]) := ed_tup (ds := [d, e]) (ea_d h (ea_d k ea_nil)) (by show 2 ≤ 1000; decide)
theorem ed_t3 {ta tb tc : TE} {d e f : Dat} (h : EvD K C ta r d) (k : EvD K C tb r e) (l : EvD K C tc r f) : EvD K C (tTup (tCons ta (tCons tb (tCons tc tNil)))) r (.tup [d, e, f]) := ed_tup (ds := [d, e, f]) (ea_d h (ea_d k (ea_d l ea_nil))) (by show 3 ≤ 1000; decide)
theorem en_lst {ta : TA} {ds : List Dat} (h : EvAs K C ta r (ds.map Ar.dat)) (hl : ds.length ≤ 1000) : EvN K C (tLst ta) r ds := fun H0 H σ E Q q =>
  h H0 H σ E _ fun vs H1 e1 hv => ⟨by rw [hv.len, List.length_map]; exact sz_ok hl, fun p hp => q _ _ (e1.trans (Ex.new hp)) ⟨p, vs, rfl, e1.back hp, upd_same, hv.dats.ex (Ex.new hp)⟩⟩
theorem en_l0 : EvN K C (tLst tNil) r [] := en_lst (ds := []) ea_nil (Nat.zero_le _)
theorem en_l1 {ta : TE} {d : Dat} (h : EvD K C ta r d) : EvN K C (tLst (tCons ta tNil)) r [d] := en_lst (ds := [d]) (ea_d h ea_nil) (by show 1 ≤ 1000; decide)

/-! ### promises -/
/-- what a def hands back: data or a new list -/
def Hands (K : Frg) (C : Addr) (H : Hp) (Q : VK) : Ar → Prop
  | .dat d => ∀ v H', Ex H H' → Im K C H' v d → Q v H'
  | .lst ds => ∀ p vs H', H p = none → Ex H H' → H' p = some (.lst vs) → ImA K C H' vs ds → Q (.ref p) H'
def spR (K : Frg) (C : Addr) (R : List Ar → Ar → Prop) : Sp := fun vs H Q _ => ∃ as z, ArsOk K C H vs as ∧ R as z ∧ Hands K C H Q z
theorem ed_call {R : List Ar → Ar → Prop} {ta : TA} {as : List Ar} {d : Dat} {E0 : XK} (h : EvAs K C ta r as) (hR : R as (.dat d)) : EvD K C (tCall (spR K C R) [] E0 ta) r d := fun H0 H σ E Q q =>
  h H0 H σ E _ fun vs H1 e1 hv => by
    show spR K C R (vs ++ []) H1 Q E0
    rw [List.append_nil]
    exact ⟨as, _, hv, hR, fun v H2 e2 h2 => q v H2 (e1.trans e2) h2⟩
theorem en_call {R : List Ar → Ar → Prop} {ta : TA} {as : List Ar} {ds : List Dat} {E0 : XK} (h : EvAs K C ta r as) (hR : R as (.lst ds)) : EvN K C (tCall (spR K C R) [] E0 ta) r ds := fun H0 H σ E Q q =>
  h H0 H σ E _ fun vs H1 e1 hv => by
    show spR K C R (vs ++ []) H1 Q E0
    rw [List.append_nil]
    exact ⟨as, _, hv, hR, fun p ws H2 hp e2 h2 h3 => q _ H2 (e1.trans e2) ⟨p, ws, rfl, e1.back hp, h2, h3⟩⟩

/-! ### tests -/
theorem tt_test {te : TE} {b : Bool} (h : EvD K C te r (.bl b)) : EvTt K C (tTest te) r b := fun H0 H σ E Q q => h H0 H σ E _ fun v H1 e1 hv => ⟨b, im_bl hv, q H1 e1⟩
theorem tt_B {te : TE} {b : Bool} (h : EvD K C te r (.bl b)) : EvTt K C (tB te) r b := fun H0 H σ E Q q => h H0 H σ E _ fun v H1 e1 hv => ⟨b, im_bl hv, q H1 e1⟩
theorem tt_not {t : TT} {b : Bool} (h : EvTt K C t r b) : EvTt K C (tNot t) r (!b) := fun H0 H σ E Q q => h H0 H σ E _ fun H1 e1 => q H1 e1
theorem tt_and {t u : TT} {a b : Bool} (h : EvTt K C t r a) (k : a = true → EvTt K C u r b) : EvTt K C (tAnd t u) r (a && b) := fun H0 H σ E Q q => h H0 H σ E _ fun H1 e1 => by
  cases a with
  | true => exact k rfl H0 H1 σ (E.mono e1) Q fun H2 e2 => q H2 (e1.trans e2)
  | false => exact q H1 e1
theorem tt_or {t u : TT} {a b : Bool} (h : EvTt K C t r a) (k : a = false → EvTt K C u r b) : EvTt K C (tOr t u) r (a || b) := fun H0 H σ E Q q => h H0 H σ E _ fun H1 e1 => by
  cases a with
  | true => exact q H1 e1
  | false => exact k rfl H0 H1 σ (E.mono e1) Q fun H2 e2 => q H2 (e1.trans e2)
theorem ed_andV {ta tb : TE} {a b : Bool} (h : EvD K C ta r (.bl a)) (k : a = true → EvD K C tb r (.bl b)) : EvD K C (tAndV ta tb) r (.bl (a && b)) := fun H0 H σ E Q q => h H0 H σ E _ fun v H1 e1 hv => ⟨a, im_bl hv, by
  cases a with
  | true => exact k rfl H0 H1 σ (E.mono e1) Q fun v H2 e2 => q v H2 (e1.trans e2)
  | false => exact q _ H1 e1 (.bl _)⟩
theorem ed_notV {ta : TE} {a : Bool} (h : EvD K C ta r (.bl a)) : EvD K C (tNotV ta) r (.bl (!a)) := fun H0 H σ E Q q => h H0 H σ E _ fun v H1 e1 hv => ⟨a, im_bl hv, q _ H1 e1 (.bl _)⟩

/-! ### built-ins -/
/-- one argument that is data -/
theorem cb_d {rr : List V → Hp → VK → Prop} {te : TE} {d z : Dat} (h : EvD K C te r d) (hr : ∀ H x, Im K C H x d → ∀ Q : VK, (∀ v H', Ex H H' → Im K C H' v z → Q v H') → rr [x] H Q) : EvD K C (tCB rr (tCons te tNil)) r z := fun H0 H σ E Q q =>
  h H0 H σ E _ fun x H1 e1 hx => hr H1 x hx Q fun v H2 e2 hv => q v H2 (e1.trans e2) hv
def rLenS (K : Frg) : List V → Hp → VK → Prop := fun xs H Q => ∃ p ys, xs = [.ref p] ∧ (SqL K H p ys ∨ SqT K H p ys) ∧ Q (.int ys.length) H
theorem ed_lenT {te : TE} {ds : List Dat} (h : EvD K C te r (.tup ds)) : EvD K C (tCB (rLenS K) (tCons te tNil)) r (.int (ds.length : Int)) := cb_d h fun H x hx Q q => by
  obtain ⟨a, xs, rfl, h1, h2⟩ := im_tup hx
  refine ⟨a, xs, rfl, .inr h1, ?_⟩
  rw [h2.len]
  exact q _ H (Ex.refl H) (.int _)
theorem ed_lenL {te : TE} {ds : List Dat} (h : EvL K C te r ds) : EvD K C (tCB (rLenS K) (tCons te tNil)) r (.int (ds.length : Int)) := fun H0 H σ E Q q =>
  h H0 H σ E _ fun x H1 e1 hx => by
    obtain ⟨a, xs, rfl, h1, h2⟩ := hx
    refine ⟨a, xs, rfl, .inl h1, ?_⟩
    rw [h2.len]
    exact q _ H1 e1 (.int _)
def rTupOf (K : Frg) : List V → Hp → VK → Prop := fun xs H Q => ∃ p ys, xs = [.ref p] ∧ ((SqL K H p ys ∧ ∀ l, H l = none → Q (.ref l) (upd H l (.tup ys))) ∨ (SqT K H p ys ∧ Q (.ref p) H))
theorem ed_tupL {te : TE} {ds : List Dat} (h : EvL K C te r ds) : EvD K C (tCB (rTupOf K) (tCons te tNil)) r (.tup ds) := fun H0 H σ E Q q =>
  h H0 H σ E _ fun x H1 e1 hx => by
    obtain ⟨a, xs, rfl, h1, h2⟩ := hx
    exact ⟨a, xs, rfl, .inl ⟨h1, fun l hl => q _ _ (e1.trans (Ex.new hl)) (.tup (.inl (.inl upd_same)) (h2.ex (Ex.new hl)))⟩⟩
theorem ed_tupT {te : TE} {ds : List Dat} (h : EvD K C te r (.tup ds)) : EvD K C (tCB (rTupOf K) (tCons te tNil)) r (.tup ds) := cb_d h fun H x hx Q q => by
  obtain ⟨a, xs, rfl, h1, h2⟩ := im_tup hx
  exact ⟨a, xs, rfl, .inr ⟨h1, q _ H (Ex.refl H) (.tup h1 h2)⟩⟩
def rLstOf (K : Frg) : List V → Hp → VK → Prop := fun xs H Q => ∃ p ys, xs = [.ref p] ∧ (SqL K H p ys ∨ SqT K H p ys) ∧ ∀ l, H l = none → Q (.ref l) (upd H l (.lst ys))
theorem en_listT {te : TE} {ds : List Dat} (h : EvD K C te r (.tup ds)) : EvN K C (tCB (rLstOf K) (tCons te tNil)) r ds := fun H0 H σ E Q q =>
  h H0 H σ E _ fun x H1 e1 hx => by
    obtain ⟨a, xs, rfl, h1, h2⟩ := im_tup hx
    exact ⟨a, xs, rfl, .inr h1, fun l hl => q _ _ (e1.trans (Ex.new hl)) ⟨l, xs, rfl, e1.back hl, upd_same, h2.ex (Ex.new hl)⟩⟩
def rInt1 : List V → Hp → VK → Prop := fun xs H Q => (∃ i, xs = [.int i] ∧ Q (.int i) H) ∨ ∃ k, xs = [.bl k] ∧ Q (.int (if k then 1 else 0)) H
theorem ed_intI {te : TE} {i : Int} (h : EvD K C te r (.int i)) : EvD K C (tCB rInt1 (tCons te tNil)) r (.int i) := cb_d h fun H x hx Q q => .inl ⟨i, by rw [im_int hx], q _ H (Ex.refl H) (.int _)⟩
theorem ed_intB {te : TE} {b : Bool} (h : EvD K C te r (.bl b)) : EvD K C (tCB rInt1 (tCons te tNil)) r (.int (if b then 1 else 0)) := cb_d h fun H x hx Q q => .inr ⟨b, by rw [im_bl hx], q _ H (Ex.refl H) (.int _)⟩
def rAbs1 : List V → Hp → VK → Prop := fun xs H Q => ∃ i, xs = [.int i] ∧ Q (.int (if i < 0 then -i else i)) H
theorem ed_abs {te : TE} {i : Int} (h : EvD K C te r (.int i)) : EvD K C (tCB rAbs1 (tCons te tNil)) r (.int (i.natAbs : Int)) := cb_d h fun H x hx Q q => ⟨i, by rw [im_int hx], by
  rw [show (if i < 0 then -i else i) = (i.natAbs : Int) by split <;> omega]
  exact q _ H (Ex.refl H) (.int _)⟩
theorem ed_gcd {ta tb : TE} {i j : Int} (ha : EvD K C ta r (.int i)) (hb : EvD K C tb r (.int j)) : EvD K C (tCB rGcd (tCons ta (tCons tb tNil))) r (.int ((Nat.gcd i.natAbs j.natAbs : Nat) : Int)) := fun H0 H σ E Q q =>
  ha H0 H σ E _ fun x H1 e1 hx => hb H0 H1 σ (E.mono e1) _ fun y H2 e2 hy => ⟨i, j, by rw [im_int hx, im_int hy], q _ H2 (e1.trans e2) (.int _)⟩
theorem ed_sum {te : TE} {ns : List Int} (h : EvL K C te r (ns.map Dat.int)) : EvD K C (tCB (rSum K) (tCons te tNil)) r (.int ns.sum) := fun H0 H σ E Q q =>
  h H0 H σ E _ fun x H1 e1 hx => by
    obtain ⟨a, xs, rfl, h1, h2⟩ := hx
    have e := h2.ints
    subst e
    exact ⟨a, ns, rfl, h1, q _ H1 e1 (.int _)⟩
theorem en_sortL {te : TE} {ns ms : List Int} (h : EvL K C te r (ns.map Dat.int)) (hl : ns.length < 64) (hs : ∀ ns' : List Int, ns'.Perm ns → ns'.Pairwise (· ≤ ·) → ns' = ms) : EvN K C (tCB (rSorted K) (tCons te tNil)) r (ms.map Dat.int) := fun H0 H σ E Q q =>
  h H0 H σ E _ fun x H1 e1 hx => by
    obtain ⟨a, xs, rfl, h1, h2⟩ := hx
    have e := h2.ints
    subst e
    refine ⟨a, ns, rfl, h1, hl, fun ns' p hp ho hn => ?_⟩
    have e2 := hs ns' hp ho
    subst e2
    exact q _ _ (e1.trans (Ex.new hn)) ⟨p, _, rfl, e1.back hn, upd_same, .of_ints _⟩

/-! ### lists and tuples -/
theorem en_cat {ta tb : TE} {ds es : List Dat} (ha : EvM K C ta r ds) (hb : EvM K C tb r es) (hl : ds.length + es.length ≤ 1000) : EvN K C (tOp rCat ta tb) r (ds ++ es) := fun H0 H σ E Q q =>
  ha H0 H σ E _ fun x H1 e1 ⟨a, xs, hx, h1, h2⟩ => hb H0 H1 σ (E.mono e1) _ fun y H2 e2 ⟨b, ys, hy, k1, k2⟩ => by
    subst hx hy
    exact ⟨a, b, xs, ys, rfl, rfl, e2 _ _ h1, k1, by rw [h2.len, k2.len]; exact sz_ok hl, fun p hp => q _ _ ((e1.trans e2).trans (Ex.new hp)) ⟨p, _, rfl, (e1.trans e2).back hp, upd_same, ((h2.ex e2).append k2).ex (Ex.new hp)⟩⟩
theorem flat_rep {α : Type} (x : α) (n : Nat) : (List.replicate n [x]).flatten = List.replicate n x := by
  induction n with
  | zero => rfl
  | succ n ih => rw [List.replicate_succ, List.flatten_cons, ih, List.replicate_succ] <;> rfl
/-- [x] * n -/
theorem en_rep {ta tb : TE} {d : Dat} {n : Nat} (ha : EvM K C ta r [d]) (hb : EvD K C tb r (.int (n : Int))) (hl : n ≤ 1000) : EvN K C (tOp rRep ta tb) r (List.replicate n d) := fun H0 H σ E Q q =>
  ha H0 H σ E _ fun x H1 e1 ⟨a, xs, hx, h1, h2⟩ => hb H0 H1 σ (E.mono e1) _ fun y H2 e2 hy => by
    subst hx
    cases h2 with
    | cons g1 g2 =>
      cases g2
      refine ⟨a, n, _, rfl, im_int hy, e2 _ _ h1, by omega, by omega, ?_, fun p hp => q _ _ ((e1.trans e2).trans (Ex.new hp)) ⟨p, _, rfl, (e1.trans e2).back hp, upd_same, ?_⟩⟩
      · show 1 * ((n : Int)).toNat ≤ sizeLine
        rw [Nat.one_mul]
        exact sz_ok (by omega)
      · rw [Int.toNat_natCast, flat_rep]
        exact (ImA.rep ((g1.ex e2).ex (Ex.new hp)) n)
theorem ed_catT {ta tb : TE} {ds es : List Dat} (ha : EvD K C ta r (.tup ds)) (hb : EvD K C tb r (.tup es)) (hl : ds.length + es.length ≤ 1000) : EvD K C (tOp (rCatA K) ta tb) r (.tup (ds ++ es)) :=
  ed_op ha hb fun H x y hx hy Q q => by
    obtain ⟨a, xs, rfl, h1, h2⟩ := im_tup hx
    obtain ⟨b, ys, rfl, k1, k2⟩ := im_tup hy
    refine ⟨a, b, xs, ys, rfl, rfl, h1, k1, by rw [h2.len, k2.len]; exact sz_ok hl, fun e => ?_, fun _ e => ?_, fun _ _ p hp => ?_⟩
    · subst e
      cases h2
      exact q _ H (Ex.refl H) (.tup k1 k2)
    · subst e
      cases k2
      refine q _ H (Ex.refl H) ?_
      rw [List.append_nil]
      exact .tup h1 h2
    · exact q _ _ (Ex.new hp) (.tup (.inl (.inl upd_same)) ((h2.append k2).ex (Ex.new hp)))
/-- the part of a slice that is an int -/
def EvO (K : Frg) (C : Addr) (to : TO) (r : List Sd) (o : Option Int) : Prop := ∀ (H0 : Bs) (H : Hp) (σ : L2.St), EnvOk K C H0 H σ r → ∀ Q : Option Int → Hp → Prop, (∀ H', Ex H H' → Q o H') → to σ H Q
theorem eo_none : EvO K C tNoPart r none := fun H0 H σ E Q q => q H (Ex.refl H)
theorem eo_some {te : TE} {i : Int} (h : EvD K C te r (.int i)) : EvO K C (tPart te) r (some i) := fun H0 H σ E Q q => h H0 H σ E _ fun v H1 e1 hv => ⟨i, im_int hv, q H1 e1⟩
def cutD (ds : List Dat) (lo hi : Option Int) : List Dat := (ds.drop (HT.sIx ds.length 0 lo)).take (HT.sIx ds.length ds.length hi - HT.sIx ds.length 0 lo)
theorem cut_im {H : Hp} {vs : List V} {ds : List Dat} (h : ImA K C H vs ds) (lo hi : Option Int) : ImA K C H (cutV vs lo hi) (cutD ds lo hi) := by
  unfold cutV cutD
  rw [h.len]
  exact (h.drop _).take _
theorem ed_slT {te : TE} {tl th : TO} {ds : List Dat} {lo hi : Option Int} (h : EvD K C te r (.tup ds)) (hl : EvO K C tl r lo) (hh : EvO K C th r hi) : EvD K C (tSl (rSlA K) te tl th) r (.tup (cutD ds lo hi)) := fun H0 H σ E Q q =>
  h H0 H σ E _ fun x H1 e1 hx => hl H0 H1 σ (E.mono e1) _ fun H2 e2 => hh H0 H2 σ ((E.mono e1).mono e2) _ fun H3 e3 => by
    obtain ⟨a, xs, rfl, h1, h2⟩ := im_tup (Im.ex (e2.trans e3) hx)
    have e := (e1.trans e2).trans e3
    refine ⟨a, xs, rfl, h1, fun w => ?_, fun _ p hp => q _ _ (e.trans (Ex.new hp)) (.tup (.inl (.inl upd_same)) ((cut_im h2 lo hi).ex (Ex.new hp)))⟩
    refine q _ H3 e ?_
    have ec : cutD ds lo hi = ds := by
      unfold cutD
      rw [← h2.len, w.1, w.2, List.drop_zero, h2.len, Nat.sub_zero, List.take_length]
    rw [ec]
    exact .tup h1 h2
theorem en_slL {te : TE} {tl th : TO} {ds : List Dat} {lo hi : Option Int} (h : EvL K C te r ds) (hl : EvO K C tl r lo) (hh : EvO K C th r hi) : EvN K C (tSl (rSlL K) te tl th) r (cutD ds lo hi) := fun H0 H σ E Q q =>
  h H0 H σ E _ fun x H1 e1 hx => hl H0 H1 σ (E.mono e1) _ fun H2 e2 => hh H0 H2 σ ((E.mono e1).mono e2) _ fun H3 e3 => by
    obtain ⟨a, xs, rfl, h1, h2⟩ := ArOk.ex (a := .lst ds) (e2.trans e3) hx
    have e := (e1.trans e2).trans e3
    exact ⟨a, xs, rfl, h1, fun p hp => q _ _ (e.trans (Ex.new hp)) ⟨p, _, rfl, e.back hp, upd_same, (cut_im h2 lo hi).ex (Ex.new hp)⟩⟩
end
end AW

set_option Elab.async false
set_option linter.all false
set_option maxRecDepth 100000
/-! the walk's own layer: statements, loops, comprehensions, defs -/
namespace AW
open PySem PySem.Spec PyProof.Rows L2
structure Post where
  nx : List Sd → Prop
  bk : List Sd → Prop
  ct : List Sd → Prop
  rt : Ar → Prop
section
variable (K : Frg) (C : Addr)
structure DOk (H0 : Bs) (D : Ends) (P : Post) : Prop where
  nx : ∀ r H σ, P.nx r → EnvOk K C H0 H σ r → D.nx σ H
  bk : ∀ r H σ, P.bk r → EnvOk K C H0 H σ r → D.bk σ H
  ct : ∀ r H σ, P.ct r → EnvOk K C H0 H σ r → D.ct σ H
  rd : ∀ d v H, P.rt (.dat d) → Ex H0.h0 H → Im K C H v d → D.rt v H
  rl : ∀ ds p vs H, P.rt (.lst ds) → Ex H0.h0 H → H0.h0 p = none → H p = some (.lst vs) → ImA K C H vs ds → D.rt (.ref p) H
def StD (ts : TS) (r : List Sd) (P : Post) : Prop := ∀ (H0 : Bs) (H : Hp) (σ : L2.St) (D : Ends), EnvOk K C H0 H σ r → DOk K C H0 D P → ts D σ H
end
section
variable {K : Frg} {C : Addr} {r : List Sd} {P : Post}
theorem st_seq {t u : TS} (h : StD K C t r { P with nx := fun r' => StD K C u r' P }) : StD K C (tSeq t u) r P := fun H0 H σ D E O =>
  h H0 H σ { D with nx := u D } E ⟨fun r' H' σ' q E' => q H0 H' σ' D E' O, O.bk, O.ct, O.rd, O.rl⟩
/-- a word between a statement and the rest -/
theorem st_cut {t u : TS} (M : List Sd → Prop) (h : StD K C t r { P with nx := M }) (k : ∀ r', M r' → StD K C u r' P) : StD K C (tSeq t u) r P := fun H0 H σ D E O =>
  h H0 H σ { D with nx := u D } E ⟨fun r' H' σ' q E' => k r' q H0 H' σ' D E' O, O.bk, O.ct, O.rd, O.rl⟩
theorem st_next (h : P.nx r) : StD K C tNext r P := fun H0 H σ D E O => O.nx r H σ h E
theorem st_cont (h : P.ct r) : StD K C tCont r P := fun H0 H σ D E O => O.ct r H σ h E
theorem st_asg {te : TE} {i : Nat} {d : Dat} (h : EvD K C te r d) (hi : i < r.length) (k : P.nx (r.set i (.dat d))) : StD K C (tAsg te (gName i)) r P := fun H0 H σ D E O =>
  h H0 H σ E _ fun v H1 e1 hv => O.nx _ _ _ k ((E.mono e1).set (sd := .dat d) hi ⟨v, rfl, hv⟩ fun _ _ q => nomatch q)
theorem st_asgN {te : TE} {i : Nat} {ds : List Dat} (h : EvN K C te r ds) (hi : i < r.length) (k : ∀ a, P.nx (r.set i (.own a ds))) : StD K C (tAsg te (gName i)) r P := fun H0 H σ D E O =>
  h H0 H σ E _ fun v H1 e1 ⟨p, vs, hv, hp, h1, h2⟩ => by
    subst hv
    exact O.nx _ _ _ (k p) (E.setOwn hi hp e1 h1 h2)
theorem st_if {c : TT} {t u : TS} {b : Bool} (h : EvTt K C c r b) (h1 : b = true → StD K C t r P) (h2 : b = false → StD K C u r P) : StD K C (tIfS c t u) r P := fun H0 H σ D E O =>
  h H0 H σ E _ fun H1 e1 => by
    cases b with
    | true => exact h1 rfl H0 H1 σ D (E.mono e1) O
    | false => exact h2 rfl H0 H1 σ D (E.mono e1) O
theorem st_ret {te : TE} {d : Dat} (h : EvD K C te r d) (k : P.rt (.dat d)) : StD K C (tRet te) r P := fun H0 H σ D E O =>
  h H0 H σ E _ fun v H1 e1 hv => O.rd d v H1 k (E.ex.trans e1) hv
theorem st_retN {te : TE} {ds : List Dat} (h : EvN K C te r ds) (k : P.rt (.lst ds)) : StD K C (tRet te) r P := fun H0 H σ D E O =>
  h H0 H σ E _ fun v H1 e1 ⟨p, vs, hv, hp, h1, h2⟩ => by
    subst hv
    exact O.rl ds p vs H1 k (E.ex.trans e1) (E.ex.back hp) h1 h2
theorem st_retO {i : Nat} {a : Addr} {ds : List Dat} (h : r[i]? = some (.own a ds)) (k : P.rt (.lst ds)) : StD K C (tRet (tVar i)) r P := fun H0 H σ D E O => by
  obtain ⟨h1, vs, h2, h3⟩ := E.at_ i _ h
  exact ⟨_, h1, O.rl ds a vs H k E.ex (E.ex0.back (E.fr i a ds h)) h2 h3⟩
theorem st_never {t : TS} (h : False) : StD K C t r P := h.elim
/-- a, b = e: e a pair -/
theorem st_asg2 {te : TE} {i j : Nat} {d e : Dat} (h : EvD K C te r (.tup [d, e])) (hi : i < r.length) (hj : j < r.length) (k : P.nx ((r.set i (.dat d)).set j (.dat e))) : StD K C (tAsg te (gTup K 2 (gCons (gName i) (gCons (gName j) gNil)))) r P := fun H0 H σ D E O =>
  h H0 H σ E _ fun v H1 e1 hv => by
    obtain ⟨a, xs, rfl, h1, h2⟩ := im_tup hv
    cases h2 with
    | cons g1 g2 =>
      cases g2 with
      | cons g3 g4 =>
        cases g4
        refine ⟨a, _, rfl, h1, rfl, _, _, rfl, _, _, rfl, rfl, ?_⟩
        exact O.nx _ _ _ k (((E.mono e1).set (sd := .dat d) hi ⟨_, rfl, g1⟩ fun _ _ q => nomatch q).set (by rw [List.length_set]; exact hj) (sd := .dat e) ⟨_, rfl, g3⟩ fun _ _ q => nomatch q)
/-- xs.append(e) -/
theorem st_app {te : TE} {i : Nat} {a : Addr} {ds : List Dat} {d : Dat} (hi : r[i]? = some (.own a ds)) (h : EvD K C te r d) (hl : ds.length < 1000) (k : P.nx (r.set i (.own a (ds ++ [d])))) : StD K C (tDrop (tBM K "list" rAppend (tVar i) (tCons te tNil))) r P := fun H0 H σ D E O => by
  obtain ⟨h1, vs, h2, h3⟩ := E.at_ i _ hi
  refine ⟨_, h1, .inl ⟨rfl, vs, .inl (.inl h2)⟩, h H0 H σ E _ fun v H1 e1 hv => ⟨a, vs, v, rfl, rfl, e1 _ _ h2, by rw [h3.len]; exact sz_lt hl, ?_⟩⟩
  exact O.nx _ _ _ k ((E.mono e1).mut hi ((h3.ex e1).append (.cons hv .nil)))
/-- xs[k] = e -/
theorem st_setI {te tk : TE} {i n : Nat} {a : Addr} {ds : List Dat} {d : Dat} (hi : r[i]? = some (.own a ds)) (h : EvD K C te r d) (hk : EvD K C tk r (.int (n : Int))) (hn : n < ds.length) (k : P.nx (r.set i (.own a (ds.set n d)))) : StD K C (tAsg te (gSub (tVar i) tk rSetL)) r P := fun H0 H σ D E O =>
  h H0 H σ E _ fun v H1 e1 hv => by
    obtain ⟨h1, vs, h2, h3⟩ := E.at_ i _ hi
    refine ⟨_, h1, hk H0 H1 σ (E.mono e1) _ fun y H2 e2 hy => ⟨a, vs, n, n, rfl, im_int hy, (e1.trans e2) _ _ h2, ?_, ?_⟩⟩
    · unfold ixN
      rw [if_pos (by omega), if_pos (by rw [h3.len]; omega)]
      rfl
    · exact O.nx _ _ _ k (((E.mono e1).mono e2).mut hi (ImA.set (hv.ex e2) n (h3.ex (e1.trans e2))))
/-- x op= e -/
theorem st_aug {te : TE} {i : Nat} {f : Int → Int → Int} {a b : Int} (hi : r[i]? = some (.dat (.int a))) (h : EvD K C te r (.int b)) (k : P.nx (r.set i (.dat (.int (f a b))))) : StD K C (tAug i te (ipI f)) r P := fun H0 H σ D E O => by
  obtain ⟨v, h1, h2⟩ := E.at_ i _ hi
  have hl : i < r.length := by
    rcases Nat.lt_or_ge i r.length with q | q
    · exact q
    · rw [List.getElem?_eq_none q] at hi; cases hi
  refine ⟨v, h1, h H0 H σ E _ fun y H1 e1 hy => ⟨a, b, im_int h2, im_int hy, ?_⟩⟩
  exact O.nx _ _ _ k ((E.mono e1).set (sd := .dat (.int (f a b))) hl ⟨_, rfl, .int _⟩ fun _ _ q => nomatch q)
theorem st_mono {P' : Post} {t : TS} (h : StD K C t r P) (n : ∀ r, P.nx r → P'.nx r) (b : ∀ r, P.bk r → P'.bk r) (c : ∀ r, P.ct r → P'.ct r) (q : ∀ z, P.rt z → P'.rt z) : StD K C t r P' := fun H0 H σ D E O =>
  h H0 H σ D E ⟨fun r H σ x => O.nx r H σ (n r x), fun r H σ x => O.bk r H σ (b r x), fun r H σ x => O.ct r H σ (c r x), fun d v H x => O.rd d v H (q _ x), fun ds p vs H x => O.rl ds p vs H (q _ x)⟩

/-! ### loops -/
/-- what a turn's item does to the slots -/
def Tg (K : Frg) (C : Addr) (g : TG) (d : Dat) (f : List Sd → List Sd) (n : Nat) : Prop := ∀ (H0 : Bs) (H : Hp) (σ : L2.St) (r : List Sd) (v : V), n ≤ r.length → EnvOk K C H0 H σ r → Im K C H v d → ∀ Q : L2.St → Hp → Prop, (∀ σ', EnvOk K C H0 H σ' (f r) → Q σ' H) → g v σ H Q
theorem tg_name {d : Dat} (i : Nat) : Tg K C (gName i) d (fun r => r.set i (.dat d)) (i + 1) := fun H0 H σ r v hn E hv Q q => q _ (E.set (sd := .dat d) hn ⟨v, rfl, hv⟩ fun _ _ z => nomatch z)
theorem tg_pair {d e : Dat} (i j n : Nat) (hi : i < n) (hj : j < n) : Tg K C (gTup K 2 (gCons (gName i) (gCons (gName j) gNil))) (.tup [d, e]) (fun r => (r.set i (.dat d)).set j (.dat e)) n := fun H0 H σ r v hn E hv Q q => by
  obtain ⟨a, xs, rfl, h1, h2⟩ := im_tup hv
  cases h2 with
  | cons g1 g2 =>
    cases g2 with
    | cons g3 g4 =>
      cases g4
      refine ⟨a, _, rfl, h1, rfl, _, _, rfl, _, _, rfl, rfl, ?_⟩
      exact q _ ((E.set (sd := .dat d) (by omega) ⟨_, rfl, g1⟩ fun _ _ z => nomatch z).set (by rw [List.length_set]; omega) (sd := .dat e) ⟨_, rfl, g3⟩ fun _ _ z => nomatch z)
section
variable {g : TG} {tb : TS} {tl : TE} {ds : List Dat} (Iv : Nat → List Sd → Prop) (f : Dat → List Sd → List Sd) (n : Nat)
theorem DOk.turn {H0 : Bs} {Hq : Hp} {D : Ends} (e0 : Ex H0.h0 H0.hq) (e : Ex H0.hq Hq) (O : DOk K C H0 D P) (i : Nat) (W : L2.St → Hp → Prop) (hW : ∀ r' H' σ', Iv (i + 1) r' → EnvOk K C ⟨H0.h0, Hq⟩ H' σ' r' → W σ' H') :
    DOk K C ⟨H0.h0, Hq⟩ { D with nx := W, ct := W, bk := D.nx } { P with nx := Iv (i + 1), ct := Iv (i + 1), bk := P.nx } :=
  ⟨hW, fun r' H' σ' q E' => O.nx r' H' σ' q (E'.back e0 e), hW, O.rd, O.rl⟩
/-- for target in t: t a tuple -/
theorem st_forT (hl : EvD K C tl r (.tup ds)) (h0 : Iv 0 r) (hn : ∀ i r', Iv i r' → n ≤ r'.length) (hg : ∀ (i : Nat) (d : Dat), ds[i]? = some d → Tg K C g d (f d) n)
    (hs : ∀ (i : Nat) (d : Dat) r', ds[i]? = some d → Iv i r' → StD K C tb (f d r') { P with nx := Iv (i + 1), ct := Iv (i + 1), bk := P.nx }) (hd : ∀ r', Iv ds.length r' → P.nx r') : StD K C (tFor (iTup K tl) g tb) r P := fun H0 H σ D E O =>
  hl H0 H σ E _ fun v H1 e1 hv => by
    obtain ⟨a, xs, rfl, h1, h2⟩ := im_tup hv
    obtain ⟨E1, eq⟩ := (E.mono e1).hold
    have kp : ∀ {H' σ' r'}, EnvOk K C ⟨H0.h0, hold H1 r⟩ H' σ' r' → SqT K H' a xs := fun E' => by
      have : SqT K (hold H1 r) a xs := by
        rcases h1 with (q | ⟨o, q⟩) | q
        · refine .inl (.inl ?_)
          rw [hold_some fun ⟨i, es, c⟩ => by obtain ⟨_, vs, z, _⟩ := E1.at_ i _ c; rw [z] at q; cases q]
          exact q
        · refine .inl (.inr ⟨o, ?_⟩)
          rw [hold_some fun ⟨i, es, c⟩ => by obtain ⟨_, vs, z, _⟩ := E1.at_ i _ c; rw [z] at q; cases q]
          exact q
        · exact .inr q
      exact E'.exq.sqT this
    have im : ∀ {H' σ' r' x d}, EnvOk K C ⟨H0.h0, hold H1 r⟩ H' σ' r' → Im K C H1 x d → Im K C H' x d := fun {H' σ' r' x d} E' hx => by
      refine hx.kp fun b o q nl => E'.exq b o ?_
      show hold H1 r b = some o
      rw [hold_some fun ⟨i, es, c⟩ => by obtain ⟨_, vs, z, _⟩ := E1.at_ i _ c; rw [z] at q; exact nl _ (Option.some.inj q).symm]
      exact q
    refine ⟨a, rfl, ⟨xs, h1⟩, for_tup (xs := xs) (fun i σ' H' => ∃ r', Iv i r' ∧ EnvOk K C ⟨H0.h0, hold H1 r⟩ H' σ' r') ⟨r, h0, E1⟩ (fun i σ' H' _ ⟨r', _, E'⟩ => kp E') (fun i x σ' H' hx ⟨r', p, E'⟩ => ?_) (fun σ' H' ⟨r', p, E'⟩ => ?_)⟩
    · obtain ⟨d, hd1, hd2⟩ := h2.getV hx
      exact hg i d hd1 _ H' σ' r' x (hn i r' p) E' (im E' hd2) _ fun σ2 E2 => hs i d r' hd1 p _ H' σ2 _ E2 (O.turn Iv E.ex0 eq i _ fun r2 H2 σ3 q E3 => ⟨r2, q, E3⟩)
    · rw [h2.len] at p
      exact O.nx r' H' σ' (hd r' p) (E'.back E.ex0 eq)
/-- for target in l: l a new list -/
theorem st_forN (hl : EvN K C tl r ds) (h0 : Iv 0 r) (hn : ∀ i r', Iv i r' → n ≤ r'.length) (hg : ∀ (i : Nat) (d : Dat), ds[i]? = some d → Tg K C g d (f d) n)
    (hs : ∀ (i : Nat) (d : Dat) r', ds[i]? = some d → Iv i r' → StD K C tb (f d r') { P with nx := Iv (i + 1), ct := Iv (i + 1), bk := P.nx }) (hd : ∀ r', Iv ds.length r' → P.nx r') : StD K C (tFor (iList K tl) g tb) r P := fun H0 H σ D E O =>
  hl H0 H σ E _ fun v H1 e1 ⟨a, xs, hv, hp, h1, h2⟩ => by
    subst hv
    obtain ⟨E1, eq⟩ := (E.mono e1).hold
    have ho : hold H1 r a = some (.lst xs) := by
      rw [hold_some fun ⟨i, es, c⟩ => by obtain ⟨_, vs, z, _⟩ := E.at_ i _ c; rw [hp] at z; cases z]
      exact h1
    have im : ∀ {H' σ' r' x d}, EnvOk K C ⟨H0.h0, hold H1 r⟩ H' σ' r' → Im K C H1 x d → Im K C H' x d := fun {H' σ' r' x d} E' hx => by
      refine hx.kp fun b o q nl => E'.exq b o ?_
      show hold H1 r b = some o
      rw [hold_some fun ⟨i, es, c⟩ => by obtain ⟨_, vs, z, _⟩ := E1.at_ i _ c; rw [z] at q; exact nl _ (Option.some.inj q).symm]
      exact q
    refine ⟨a, rfl, ⟨xs, .inl (.inl h1)⟩, for_list (xs := xs) (fun i σ' H' => ∃ r', Iv i r' ∧ EnvOk K C ⟨H0.h0, hold H1 r⟩ H' σ' r') ⟨r, h0, E1⟩ (fun i σ' H' _ ⟨r', _, E'⟩ => .inl (.inl (E'.exq _ _ ho))) (fun i x σ' H' hx ⟨r', p, E'⟩ => ?_) (fun σ' H' ⟨r', p, E'⟩ => ?_)⟩
    · obtain ⟨d, hd1, hd2⟩ := h2.getV hx
      exact hg i d hd1 _ H' σ' r' x (hn i r' p) E' (im E' hd2) _ fun σ2 E2 => hs i d r' hd1 p _ H' σ2 _ E2 (O.turn Iv E.ex0 eq i _ fun r2 H2 σ3 q E3 => ⟨r2, q, E3⟩)
    · rw [h2.len] at p
      exact O.nx r' H' σ' (hd r' p) (E'.back E.ex0 eq)
/-- for x in xs: xs an own list that the loop leaves alone -/
theorem st_forO {k : Nat} {a : Addr} (hk : r[k]? = some (.own a ds)) (h0 : Iv 0 r) (hn : ∀ i r', Iv i r' → n ≤ r'.length) (hkk : ∀ i r', Iv i r' → i ≤ ds.length → r'[k]? = some (.own a ds)) (hg : ∀ (i : Nat) (d : Dat), ds[i]? = some d → Tg K C g d (f d) n)
    (hs : ∀ (i : Nat) (d : Dat) r', ds[i]? = some d → Iv i r' → StD K C tb (f d r') { P with nx := Iv (i + 1), ct := Iv (i + 1), bk := P.nx }) (hd : ∀ r', Iv ds.length r' → P.nx r') : StD K C (tFor (iList K (tVar k)) g tb) r P := fun H0 H σ D E O => by
  obtain ⟨hx, vs, h1, h2⟩ := E.at_ k _ hk
  have l0 : ∀ {H' σ' r'} (i : Nat), i ≤ ds.length → Iv i r' → EnvOk K C H0 H' σ' r' → ∃ ws, H' a = some (.lst ws) ∧ ImA K C H' ws ds := fun {H' σ' r'} i hi p E' => (E'.at_ k _ (hkk i r' p hi)).2
  have hlen := h2.len
  refine ⟨_, hx, a, rfl, ⟨vs, .inl (.inl h1)⟩, fun i m σ' H' => m = ds.length - i ∧ i ≤ ds.length ∧ ∃ r', Iv i r' ∧ EnvOk K C H0 H' σ' r', ⟨_, rfl, Nat.zero_le _, r, h0, E⟩, ?_⟩
  rintro i m σ' H' ⟨rfl, hi, r', p, E'⟩
  obtain ⟨ws, q1, q2⟩ := l0 i hi p E'
  by_cases hlt : i < ds.length
  · have hw : i < ws.length := by rw [q2.len]; exact hlt
    refine .inr ⟨⟨ws, ws[i], .inl (.inl q1), List.getElem?_eq_getElem hw⟩, fun σ2 H2 => ∃ r2, Iv (i + 1) r2 ∧ EnvOk K C H0 H2 σ2 r2, fun σ2 H2 ⟨r2, p2, E2⟩ => ⟨_, by omega, rfl, hlt, r2, p2, E2⟩, fun x H2 hy => ?_⟩
    obtain ⟨rfl, fy⟩ := hy
    have ex : ws[i]? = some x := fy ws (.inl (.inl q1))
    obtain ⟨d, hd1, hd2⟩ := q2.getV ex
    exact hg i d hd1 _ H2 σ' r' x (hn i r' p) E' hd2 _ fun σ2 E2 => hs i d r' hd1 p _ H2 σ2 _ E2 ⟨fun r2 H3 σ3 q E3 => ⟨r2, q, E3⟩, O.nx, fun r2 H3 σ3 q E3 => ⟨r2, q, E3⟩, O.rd, O.rl⟩
  · have : i = ds.length := by omega
    subst this
    exact .inl ⟨⟨ws, .inl (.inl q1), by rw [q2.len]; exact Nat.le_refl _⟩, O.nx r' H' σ' (hd r' p) E'⟩
/-- for k in range(n) -/
theorem st_forR {ta : TA} {j : Nat} {N : Nat} (hl : EvAs K C ta r [.dat (.int (N : Int))]) (hN : N ≤ 1000) (h0 : Iv 0 r) (hn : ∀ i r', Iv i r' → j < r'.length)
    (hs : ∀ (i : Nat) r', i < N → Iv i r' → StD K C tb (r'.set j (.dat (.int (i : Int)))) { P with nx := Iv (i + 1), ct := Iv (i + 1), bk := P.nx }) (hd : ∀ r', Iv N r' → P.nx r') : StD K C (tFor (iRng1 ta) (gName j) tb) r P := fun H0 H σ D E O =>
  hl H0 H σ E _ fun vs H1 e1 hv => by
    cases hv with
    | cons g1 g2 =>
      cases g2
      have g1' := im_int g1
      subst g1'
      refine ⟨N, rfl, by omega, by omega, for_range (lo := 0) (n := ((N : Int)).toNat) (fun i σ' H' => ∃ r', Iv i r' ∧ EnvOk K C H0 H' σ' r') ⟨r, h0, E.mono e1⟩ (fun i σ' H' hi ⟨r', p, E'⟩ => ?_) (fun σ' H' ⟨r', p, E'⟩ => ?_)⟩
      · have e0 : (0 : Int) + (i : Int) = (i : Int) := Int.zero_add _
        rw [e0]
        exact hs i r' (by omega) p H0 H' _ _ (E'.set (sd := .dat (.int (i : Int))) (hn i r' p) ⟨_, rfl, .int _⟩ fun _ _ z => nomatch z) ⟨fun r2 H3 σ3 q E3 => ⟨r2, q, E3⟩, O.nx, fun r2 H3 σ3 q E3 => ⟨r2, q, E3⟩, O.rd, O.rl⟩
      · rw [Int.toNat_natCast] at p
        exact O.nx r' H' σ' (hd r' p) E'
/-- for k in range(1, n) -/
theorem st_forR2 {ta : TA} {j : Nat} {N lo : Nat} (hl : EvAs K C ta r [.dat (.int (lo : Int)), .dat (.int (N : Int))]) (hN : N ≤ 1000) (hlo : lo ≤ N) (h0 : Iv lo r) (hn : ∀ i r', Iv i r' → j < r'.length)
    (hs : ∀ (i : Nat) r', lo ≤ i → i < N → Iv i r' → StD K C tb (r'.set j (.dat (.int (i : Int)))) { P with nx := Iv (i + 1), ct := Iv (i + 1), bk := P.nx }) (hd : ∀ r', Iv N r' → P.nx r') : StD K C (tFor (iRng2 ta) (gName j) tb) r P := fun H0 H σ D E O =>
  hl H0 H σ E _ fun vs H1 e1 hv => by
    cases hv with
    | cons g1 g2 =>
      cases g2 with
      | cons g3 g4 =>
        cases g4
        have g1' := im_int g1
        have g3' := im_int g3
        subst g1' g3'
        refine ⟨lo, N, rfl, ⟨by omega, by omega, by omega, by omega⟩, for_range (lo := lo) (n := ((N : Int) - lo).toNat) (fun i σ' H' => ∃ r', Iv (lo + i) r' ∧ EnvOk K C H0 H' σ' r') ⟨r, h0, E.mono e1⟩ (fun i σ' H' hi ⟨r', p, E'⟩ => ?_) (fun σ' H' ⟨r', p, E'⟩ => ?_)⟩
        · have e0 : (lo : Int) + (i : Int) = ((lo + i : Nat) : Int) := by omega
          rw [e0]
          exact hs (lo + i) r' (by omega) (by omega) p H0 H' _ _ (E'.set (sd := .dat (.int ((lo + i : Nat) : Int))) (hn _ r' p) ⟨_, rfl, .int _⟩ fun _ _ z => nomatch z) ⟨fun r2 H3 σ3 q E3 => ⟨r2, q, E3⟩, O.nx, fun r2 H3 σ3 q E3 => ⟨r2, q, E3⟩, O.rd, O.rl⟩
        · rw [show lo + ((N : Int) - lo).toNat = N by omega] at p
          exact O.nx r' H' σ' (hd r' p) E'
/-- for k in range(n - 1, m, -1): k = hi - i at turn i -/
theorem st_forC {ta : TA} {j : Nat} {N : Nat} {hi lo : Int} (hl : EvAs K C ta r [.dat (.int hi), .dat (.int lo), .dat (.int (-1))]) (hN : N ≤ 1000) (hh : -1 ≤ lo ∧ lo ≤ 1000) (he : hi = lo + (N : Int) ∨ (hi ≤ lo ∧ -1000 ≤ hi ∧ N = 0)) (h0 : Iv 0 r) (hn : ∀ i r', Iv i r' → j < r'.length)
    (hs : ∀ (i : Nat) r', i < N → Iv i r' → StD K C tb (r'.set j (.dat (.int (hi - (i : Int))))) { P with nx := Iv (i + 1), ct := Iv (i + 1), bk := P.nx }) (hd : ∀ r', Iv N r' → P.nx r') : StD K C (tFor (iRng3 ta) (gName j) tb) r P := fun H0 H σ D E O =>
  hl H0 H σ E _ fun vs H1 e1 hv => by
    cases hv with
    | cons g1 g2 =>
      cases g2 with
      | cons g3 g4 =>
        cases g4 with
        | cons g5 g6 =>
          cases g6
          have g1' := im_int g1
          have g3' := im_int g3
          have g5' := im_int g5
          subst g1' g3' g5'
          refine ⟨hi, lo, -1, N, rfl, ?_, for_rangeC (lo := hi) (c := -1) (n := N) (fun i σ' H' => ∃ r', Iv i r' ∧ EnvOk K C H0 H' σ' r') ⟨r, h0, E.mono e1⟩ (fun i σ' H' hi' ⟨r', p, E'⟩ => ?_) (fun σ' H' ⟨r', p, E'⟩ => ?_)⟩
          · have hz : (hi - lo).toNat = N := by omega
            have := RgC.neg (i := hi) (j := lo) (by omega) (by omega) (by omega) (by omega)
            rw [hz] at this
            exact this
          · have hlt : i < N := hi'
            have e0 : hi + ((i : Nat) : Int) * -1 = hi - (i : Int) := by omega
            rw [e0]
            exact hs i r' hi' p H0 H' _ _ (E'.set (sd := .dat (.int (hi - (i : Int)))) (hn i r' p) ⟨_, rfl, .int _⟩ fun _ _ z => nomatch z) ⟨fun r2 H3 σ3 q E3 => ⟨r2, q, E3⟩, O.nx, fun r2 H3 σ3 q E3 => ⟨r2, q, E3⟩, O.rd, O.rl⟩
          · exact O.nx r' H' σ' (hd r' p) E'
/-- while -/
theorem st_while {tc : TT} (W : Nat → List Sd → Prop) (m0 : Nat) (h0 : W m0 r)
    (hs : ∀ m r', W m r' → ∃ b, EvTt K C tc r' b ∧ (b = true → StD K C tb r' { P with nx := fun r2 => ∃ m', m' < m ∧ W m' r2, ct := fun r2 => ∃ m', m' < m ∧ W m' r2, bk := P.nx }) ∧ (b = false → P.nx r')) : StD K C (tWhile tc tb) r P := fun H0 H σ D E O =>
  ⟨fun m σ' H' => ∃ r', W m r' ∧ EnvOk K C H0 H' σ' r', ⟨m0, r, h0, E⟩, fun m σ' H' ⟨r', p, E'⟩ => by
    obtain ⟨b, hb, h1, h2⟩ := hs m r' p
    refine hb H0 H' σ' E' _ fun H1 e1 => ?_
    cases b with
    | true =>
      show ∃ N, _
      exact ⟨fun σ2 H2 => ∃ m', m' < m ∧ ∃ r2, W m' r2 ∧ EnvOk K C H0 H2 σ2 r2, fun σ2 H2 ⟨m', l, r2, w, E2⟩ => ⟨m', l, r2, w, E2⟩, h1 rfl H0 H1 σ' _ (E'.mono e1) ⟨fun r2 H2 σ2 ⟨m', l, w⟩ E2 => ⟨m', l, r2, w, E2⟩, O.nx, fun r2 H2 σ2 ⟨m', l, w⟩ E2 => ⟨m', l, r2, w, E2⟩, O.rd, O.rl⟩⟩
    | false => exact O.nx r' H1 σ' (h2 rfl) (E'.mono e1)⟩
end
end
end AW

set_option Elab.async false
set_option linter.all false
set_option maxRecDepth 100000
/-! the walk's own layer: comprehensions, dicts, curves, defs -/
namespace AW
open PySem PySem.Spec PyProof.Rows L2
section
variable {K : Frg} {C : Addr} {r : List Sd} {P : Post}
/-! ### list comprehensions -/
def CTg (K : Frg) (C : Addr) (g : TG) (vs : List Nat) (d : Dat) (f : List Sd → List Sd) (n : Nat) : Prop := ∀ (B : Bs) (H : Hp) (σ : L2.St) (r : List Sd) (v : V), n ≤ r.length → EnvOk K C B H σ r → Im K C H v d → ∀ Q : L2.St → Hp → Prop, (∀ σ2, wipe σ2 vs = wipe σ vs → EnvOk K C B H σ2 (f r) → Q σ2 H) → g v (wipe σ vs) H Q
theorem ctg_name {d : Dat} (i : Nat) : CTg K C (gName i) [i] d (fun r => r.set i (.dat d)) (i + 1) := fun B H σ r v hn E hv Q q => by
  have e : (wipe σ [i]).set i (some v) = σ.set i (some v) := by
    show (σ.set i none).set i (some v) = _
    rw [List.set_set]
  show Q ((wipe σ [i]).set i (some v)) H
  rw [e]
  refine q _ ?_ (E.set (sd := .dat d) hn ⟨v, rfl, hv⟩ fun _ _ z => nomatch z)
  show (σ.set i (some v)).set i none = σ.set i none
  rw [List.set_set]
theorem set4 {α : Type} (l : List α) (j i : Nat) (h : i ≠ j) (a b x y : α) : ((((l.set j a).set i b).set i x).set j y) = (l.set i x).set j y := by
  rw [List.set_set, List.set_comm _ _ h, List.set_set]
  exact List.set_comm _ _ h.symm
theorem ctg_pair {d e : Dat} (i j n : Nat) (hi : i < n) (hj : j < n) (h : i ≠ j) : CTg K C (gTup K 2 (gCons (gName i) (gCons (gName j) gNil))) [i, j] (.tup [d, e]) (fun r => (r.set i (.dat d)).set j (.dat e)) n := fun B H σ r v hn E hv Q q => by
  obtain ⟨a, xs, rfl, h1, h2⟩ := im_tup hv
  cases h2 with
  | cons g1 g2 =>
    cases g2 with
    | cons g3 g4 =>
      cases g4
      refine ⟨a, _, rfl, h1, rfl, _, _, rfl, _, _, rfl, rfl, ?_⟩
      have e1 : ∀ x y : V, ((wipe σ [i, j]).set i (some x)).set j (some y) = (σ.set i (some x)).set j (some y) := fun x y => set4 σ j i h none none x y
      rw [e1]
      refine q _ ?_ ((E.set (sd := .dat d) (by omega) ⟨_, rfl, g1⟩ fun _ _ z => nomatch z).set (sd := .dat e) (by rw [List.length_set]; omega) ⟨_, rfl, g3⟩ fun _ _ z => nomatch z)
      have e2 : ∀ x y : V, ((((σ.set i (some x)).set j (some y)).set j none).set i none) = (σ.set j none).set i none := fun x y => by
        rw [List.set_set, List.set_comm _ _ h, List.set_set]
      exact e2 _ _

structure Acc (K : Frg) (C : Addr) (H1 : Hp) (Dl : Addr) (es : List Dat) (H' : Hp) : Prop where
  fr : H1 Dl = none
  ex : Ex H1 H'
  at_ : ∃ acc, H' Dl = some (.lst acc) ∧ ImA K C H' acc es
theorem Acc.start {H1 : Hp} {Dl : Addr} (h : H1 Dl = none) : Acc K C H1 Dl [] (upd H1 Dl (.lst [])) := ⟨h, Ex.new h, [], upd_same, .nil⟩
/-- one turn: the test, then the element -/
theorem acc_turn {H1 H' : Hp} {Dl : Addr} {es : List Dat} {B : Bs} {σ2 : L2.St} {r2 : List Sd} {tt : TT} {te : TE} {b : Bool} {z : Dat} {N : Hp → Prop} (A : Acc K C H1 Dl es H') (hz : es.length < 1000) (E : EnvOk K C B H' σ2 r2) (ht : EvTt K C tt r2 b) (he : b = true → EvD K C te r2 z)
    (hN : ∀ H3, Acc K C H1 Dl (if b = true then es ++ [z] else es) H3 → N H3) :
    tt σ2 H' fun c H3 => if c = true then te σ2 H3 fun y H4 => ∃ acc, H4 Dl = some (.lst acc) ∧ acc.length < sizeLine ∧ N (upd H4 Dl (.lst (acc ++ [y]))) else N H3 :=
  ht B H' σ2 E _ fun H3 e3 => by
    obtain ⟨acc, a1, a2⟩ := A.at_
    cases b with
    | true =>
      refine he rfl B H3 σ2 (E.mono e3) _ fun y H4 e4 hy => ⟨acc, (e3.trans e4) _ _ a1, by rw [a2.len]; exact sz_lt hz, hN _ ?_⟩
      have kp : Kp H4 (upd H4 Dl (.lst (acc ++ [y]))) := Kp.upd ((e3.trans e4) _ _ a1)
      exact ⟨A.fr, ((A.ex.trans e3).trans e4).mut A.fr, acc ++ [y], upd_same, ((a2.ex (e3.trans e4)).append (.cons hy .nil)).kp kp⟩
    | false => exact hN H3 ⟨A.fr, A.ex.trans e3, acc, e3 _ _ a1, a2.ex e3⟩
theorem Acc.new {H H1 : Hp} {Dl : Addr} {es : List Dat} {H' : Hp} (A : Acc K C H1 Dl es H') (e : Ex H H1) : ∃ p vs, V.ref Dl = .ref p ∧ H p = none ∧ H' p = some (.lst vs) ∧ ImA K C H' vs es := by
  obtain ⟨acc, a1, a2⟩ := A.at_
  exact ⟨Dl, acc, rfl, e.back A.fr, a1, a2⟩
/-- what a comprehension gives from the first i items -/
def lcTo (ds : List Dat) (p : Dat → Bool) (h : Dat → Dat) (i : Nat) : List Dat := ((ds.take i).filter p).map h
theorem lcTo_len (ds : List Dat) (p : Dat → Bool) (h : Dat → Dat) (i : Nat) : (lcTo ds p h i).length ≤ ds.length := by
  unfold lcTo
  rw [List.length_map]
  exact Nat.le_trans (List.length_filter_le ..) (by rw [List.length_take]; exact Nat.min_le_right ..)
theorem lcTo_succ {ds : List Dat} {p : Dat → Bool} {h : Dat → Dat} {i : Nat} {d : Dat} (e : ds[i]? = some d) : lcTo ds p h (i + 1) = if p d = true then lcTo ds p h i ++ [h d] else lcTo ds p h i := by
  unfold lcTo
  rw [List.take_add_one, e, List.filter_append, List.map_append]
  show _ ++ (([d] : List Dat).filter p).map h = _
  by_cases q : p d = true
  · rw [if_pos q, List.filter_cons, if_pos q] <;> rfl
  · rw [if_neg q, List.filter_cons, if_neg q]
    show _ ++ [] = _
    rw [List.append_nil]
theorem lcTo_all (ds : List Dat) (p : Dat → Bool) (h : Dat → Dat) : lcTo ds p h ds.length = (ds.filter p).map h := by unfold lcTo; rw [List.take_length]
theorem lcTo_zero (ds : List Dat) (p : Dat → Bool) (h : Dat → Dat) : lcTo ds p h 0 = [] := rfl
section
variable {g : TG} {tt : TT} {te tl : TE} {vs : List Nat} {ds : List Dat} (p : Dat → Bool) (h : Dat → Dat) (f : Dat → List Sd → List Sd) (n : Nat)
theorem en_lcT (hl : EvD K C tl r (.tup ds)) (hz : ds.length < 1000) (hn : n ≤ r.length) (hg : ∀ (i : Nat) (d : Dat), ds[i]? = some d → CTg K C g vs d (f d) n)
    (ht : ∀ (i : Nat) (d : Dat), ds[i]? = some d → EvTt K C tt (f d r) (p d)) (he : ∀ (i : Nat) (d : Dat), ds[i]? = some d → p d = true → EvD K C te (f d r) (h d)) : EvN K C (tLc (iTup K tl) g tt te vs) r ((ds.filter p).map h) := fun B H σ E Q q =>
  hl B H σ E _ fun v H1 e1 hv => by
    obtain ⟨a, xs, rfl, h1, h2⟩ := im_tup hv
    refine ⟨a, rfl, ⟨xs, h1⟩, fun Dl hD => lc_tup (xs := xs) (fun i H' => Acc K C H1 Dl (lcTo ds p h i) H') (Acc.start hD) (fun i H' _ A => A.ex.sqT h1) (fun i x H' hx A => ?_) (fun H' A => ?_)⟩
    · obtain ⟨d, hd1, hd2⟩ := h2.getV hx
      refine hg i d hd1 B H' σ r x hn ((E.mono e1).mono A.ex) (hd2.ex A.ex) _ fun σ2 w E2 => ⟨w, acc_turn A (Nat.lt_of_le_of_lt (lcTo_len ..) hz) E2 (ht i d hd1) (he i d hd1) fun H3 A3 => ?_⟩
      show Acc K C H1 Dl (lcTo ds p h (i + 1)) H3
      rw [lcTo_succ hd1]
      exact A3
    · rw [h2.len, lcTo_all] at A
      exact q _ H' (e1.trans A.ex) (A.new e1)
theorem en_lcL (hl : EvL K C tl r ds) (hz : ds.length < 1000) (hn : n ≤ r.length) (hg : ∀ (i : Nat) (d : Dat), ds[i]? = some d → CTg K C g vs d (f d) n)
    (ht : ∀ (i : Nat) (d : Dat), ds[i]? = some d → EvTt K C tt (f d r) (p d)) (he : ∀ (i : Nat) (d : Dat), ds[i]? = some d → p d = true → EvD K C te (f d r) (h d)) : EvN K C (tLc (iList K tl) g tt te vs) r ((ds.filter p).map h) := fun B H σ E Q q =>
  hl B H σ E _ fun v H1 e1 hv => by
    obtain ⟨a, xs, rfl, h1, h2⟩ := hv
    refine ⟨a, rfl, ⟨xs, h1⟩, fun Dl hD => lc_list (xs := xs) (fun i H' => Acc K C H1 Dl (lcTo ds p h i) H') (Acc.start hD) (fun i H' _ A => A.ex.sqL h1) (fun i x H' hx A => ?_) (fun H' A => ?_)⟩
    · obtain ⟨d, hd1, hd2⟩ := h2.getV hx
      refine hg i d hd1 B H' σ r x hn ((E.mono e1).mono A.ex) (hd2.ex A.ex) _ fun σ2 w E2 => ⟨w, acc_turn A (Nat.lt_of_le_of_lt (lcTo_len ..) hz) E2 (ht i d hd1) (he i d hd1) fun H3 A3 => ?_⟩
      show Acc K C H1 Dl (lcTo ds p h (i + 1)) H3
      rw [lcTo_succ hd1]
      exact A3
    · rw [h2.len, lcTo_all] at A
      exact q _ H' (e1.trans A.ex) (A.new e1)
end
def rngD (N : Nat) : List Dat := (List.range N).map fun (i : Nat) => Dat.int (i : Int)
theorem rngD_get {N i : Nat} (h : i < N) : (rngD N)[i]? = some (.int (i : Int)) := by
  unfold rngD
  rw [List.getElem?_map, List.getElem?_range h] <;> rfl
theorem rngD_len (N : Nat) : (rngD N).length = N := by unfold rngD; rw [List.length_map, List.length_range]
/-- over range(N), with a test -/
theorem en_lcR {ta : TA} {tt : TT} {te : TE} {j N : Nat} (p : Dat → Bool) (h : Dat → Dat) (hl : EvAs K C ta r [.dat (.int (N : Int))]) (hz : N < 1000) (hj : j < r.length)
    (ht : ∀ i : Nat, i < N → EvTt K C tt (r.set j (.dat (.int (i : Int)))) (p (.int (i : Int)))) (he : ∀ i : Nat, i < N → p (.int (i : Int)) = true → EvD K C te (r.set j (.dat (.int (i : Int)))) (h (.int (i : Int)))) :
    EvN K C (tLc (iRng1 ta) (gName j) tt te [j]) r (((rngD N).filter p).map h) := fun B H σ E Q q =>
  hl B H σ E _ fun vs H1 e1 hv => by
    cases hv with
    | cons g1 g2 =>
      cases g2
      have g1' := im_int g1
      subst g1'
      refine ⟨N, rfl, by omega, by omega, fun Dl hD => lc_range (lo := 0) (n := ((N : Int)).toNat) (fun i H' => Acc K C H1 Dl (lcTo (rngD N) p h i) H') (Acc.start hD) (fun i H' hi A => ?_) (fun H' A => ?_)⟩
      · have e0 : (0 : Int) + (i : Int) = (i : Int) := Int.zero_add _
        rw [e0]
        refine ctg_name (K := K) (C := C) (d := .int (i : Int)) j B H' σ r (.int (i : Int)) hj ((E.mono e1).mono A.ex) (.int _) _ fun σ2 w E2 => ⟨w, acc_turn A (Nat.lt_of_le_of_lt (lcTo_len ..) (by rw [rngD_len]; exact hz)) E2 (ht i (by omega)) (he i (by omega)) fun H3 A3 => ?_⟩
        show Acc K C H1 Dl (lcTo (rngD N) p h (i + 1)) H3
        rw [lcTo_succ (rngD_get (by omega))]
        exact A3
      · have eN : (N : Int).toNat = (rngD N).length := by rw [rngD_len]; omega
        rw [eN, lcTo_all] at A
        exact q _ H' (e1.trans A.ex) (A.new e1)
theorem tt_yes : EvTt K C tYes r true := fun B H σ E Q q => q H (Ex.refl H)
theorem filter_yes (ds : List Dat) : ds.filter (fun _ => true) = ds := List.filter_eq_self.mpr fun _ _ => rfl
/-- over range(N), without a test -/
theorem en_lcR0 {ta : TA} {te : TE} {j N : Nat} (h : Nat → Dat) (hl : EvAs K C ta r [.dat (.int (N : Int))]) (hz : N < 1000) (hj : j < r.length)
    (he : ∀ i : Nat, i < N → EvD K C te (r.set j (.dat (.int (i : Int)))) (h i)) : EvN K C (tLc (iRng1 ta) (gName j) tYes te [j]) r ((List.range N).map h) := by
  have a := en_lcR (te := te) (fun _ => true) (fun d => match d with | .int k => h k.toNat | _ => .non) hl hz hj (fun i _ => tt_yes) (fun i hi _ => by
    show EvD K C te _ (h ((i : Int)).toNat)
    rw [Int.toNat_natCast]
    exact he i hi)
  rw [filter_yes] at a
  unfold rngD at a
  rw [List.map_map] at a
  refine en_is a (List.map_congr_left fun i _ => ?_)
  show h ((i : Int)).toNat = h i
  rw [Int.toNat_natCast]
/-- over a tuple by one name, without a test -/
theorem en_lcT0 {te tl : TE} {j : Nat} {ds : List Dat} (h : Dat → Dat) (hl : EvD K C tl r (.tup ds)) (hz : ds.length < 1000) (hj : j < r.length) (he : ∀ (i : Nat) (d : Dat), ds[i]? = some d → EvD K C te (r.set j (.dat d)) (h d)) : EvN K C (tLc (iTup K tl) (gName j) tYes te [j]) r (ds.map h) := by
  have a := en_lcT (te := te) (tt := tYes) (fun _ => true) h (fun d r => r.set j (.dat d)) (j + 1) hl hz hj (fun i d _ => ctg_name j) (fun i d _ => tt_yes) (fun i d hd _ => he i d hd)
  rw [filter_yes] at a
  exact a
theorem en_lcL0 {te tl : TE} {j : Nat} {ds : List Dat} (h : Dat → Dat) (hl : EvL K C tl r ds) (hz : ds.length < 1000) (hj : j < r.length) (he : ∀ (i : Nat) (d : Dat), ds[i]? = some d → EvD K C te (r.set j (.dat d)) (h d)) : EvN K C (tLc (iList K tl) (gName j) tYes te [j]) r (ds.map h) := by
  have a := en_lcL (te := te) (tt := tYes) (fun _ => true) h (fun d r => r.set j (.dat d)) (j + 1) hl hz hj (fun i d _ => ctg_name j) (fun i d _ => tt_yes) (fun i d hd _ => he i d hd)
  rw [filter_yes] at a
  exact a

/-! ### dicts -/
abbrev zipD (ks : List Int) (vs : List V) : List (Key × V) := List.zipWith (fun k v => ((Sum.inl k : Key), v)) ks vs
theorem valV_zip (n : Int) : ∀ {ks : List Int} {vs : List V}, ks.length = vs.length → valV (zipD ks vs) (Sum.inl n) = if n ∈ ks then vs[ks.idxOf n]? else none
  | [], [], _ => by rw [if_neg (by simp)]; rfl
  | [], _ :: _, h => by simp at h
  | _ :: _, [], h => by simp at h
  | k :: ks, v :: vs, h => by
    show valV ((Sum.inl k, v) :: zipD ks vs) (Sum.inl n) = _
    by_cases e : k = n
    · subst e
      rw [valV_pos rfl, if_pos (List.mem_cons_self ..), List.idxOf_cons_self] <;> rfl
    · rw [valV_neg (fun q => e (Sum.inl.inj q)), valV_zip n (by simpa using h)]
      have e2 : (k :: ks).idxOf n = ks.idxOf n + 1 := by rw [List.idxOf_cons, show (k == n) = false from by simpa using e] <;> rfl
      by_cases m : n ∈ ks
      · rw [if_pos m, if_pos (List.mem_cons_of_mem _ m), e2] <;> rfl
      · rw [if_neg m, if_neg fun q => by rcases List.mem_cons.mp q with z | z; exact e z.symm; exact m z]
/-- what stands under the key -/
def lookD (ks : List Int) (ds : List Dat) (n : Int) : Option Dat := if n ∈ ks then ds[ks.idxOf n]? else none
theorem im_dic {H : Hp} {x : V} {ks : List Int} {ds : List Dat} (h : Im K C H x (.dic ks ds)) : ∃ a vs, x = .ref a ∧ H a = some (.dK (zipD ks vs)) ∧ ks.length = vs.length ∧ ImA K C H vs ds := by cases h with | dic h1 h2 h3 => exact ⟨_, _, rfl, h1, h2, h3⟩
theorem look_im {H : Hp} {ks : List Int} {vs : List V} {ds : List Dat} (hl : ks.length = vs.length) (h : ImA K C H vs ds) (n : Int) : (∃ v d, valV (zipD ks vs) (Sum.inl n) = some v ∧ lookD ks ds n = some d ∧ Im K C H v d) ∨ (valV (zipD ks vs) (Sum.inl n) = none ∧ lookD ks ds n = none) := by
  rw [valV_zip n hl]
  unfold lookD
  by_cases m : n ∈ ks
  · rw [if_pos m, if_pos m]
    left
    have hi : ks.idxOf n < ks.length := List.idxOf_lt_length_iff.mpr m
    have hv : ks.idxOf n < vs.length := by omega
    obtain ⟨d, h1, h2⟩ := h.getV (List.getElem?_eq_getElem hv)
    exact ⟨_, d, List.getElem?_eq_getElem hv, h1, h2⟩
  · rw [if_neg m, if_neg m]
    exact .inr ⟨rfl, rfl⟩
theorem ed_dget {td ty : TE} {ks : List Int} {ds : List Dat} {n : Int} {d : Dat} (hd : EvD K C td r (.dic ks ds)) (hn : EvD K C ty r (.int n)) (e : lookD ks ds n = some d) : EvD K C (tDGet td ty) r d := fun B H σ E Q q =>
  hd B H σ E _ fun x H1 e1 hx => hn B H1 σ (E.mono e1) _ fun y H2 e2 hy => by
    obtain ⟨a, vs, rfl, h1, h2, h3⟩ := im_dic (Im.ex e2 hx)
    rcases look_im h2 h3 n with ⟨v, d', k1, k2, k3⟩ | ⟨_, k2⟩
    · rw [e] at k2
      cases k2
      rw [im_int hy]
      refine ⟨a, v, rfl, ?_, q v H2 (e1.trans e2) k3⟩
      rw [← k1]
      exact DGet.k (k := Sum.inl n) h1
    · rw [e] at k2; cases k2
theorem ed_din {td ty : TE} {ks : List Int} {ds : List Dat} {n : Int} (hn : EvD K C ty r (.int n)) (hd : EvD K C td r (.dic ks ds)) (hl : ks.length = ds.length) : EvD K C (tDIn ty td) r (.bl (decide (n ∈ ks))) := fun B H σ E Q q =>
  hn B H σ E _ fun y H1 e1 hy => hd B H1 σ (E.mono e1) _ fun x H2 e2 hx => by
    obtain ⟨a, vs, rfl, h1, h2, h3⟩ := im_dic hx
    rw [im_int hy]
    refine ⟨a, valV (zipD ks vs) (Sum.inl n), rfl, DGet.k (k := Sum.inl n) h1, ?_⟩
    have : (valV (zipD ks vs) (Sum.inl n)).isSome = decide (n ∈ ks) := by
      rw [valV_zip n h2]
      by_cases m : n ∈ ks
      · rw [if_pos m, decide_eq_true m, List.getElem?_eq_getElem (by have := List.idxOf_lt_length_iff.mpr m; omega)] <;> rfl
      · rw [if_neg m, decide_eq_false m] <;> rfl
    rw [this]
    exact q _ H2 (e1.trans e2) (.bl _)
theorem ed_dget2 {td ty tx : TE} {ks : List Int} {ds : List Dat} {n : Int} {z : Dat} (hd : EvD K C td r (.dic ks ds)) (hn : EvD K C ty r (.int n)) (hz : EvD K C tx r z) : EvD K C (tDGet2 td ty tx) r ((lookD ks ds n).getD z) := fun B H σ E Q q =>
  hd B H σ E _ fun x H1 e1 hx => by
    obtain ⟨a, vs, rfl, h1, h2, h3⟩ := im_dic hx
    refine ⟨a, rfl, .inl ⟨_, .inl h1⟩, hn B H1 σ (E.mono e1) _ fun y H2 e2 hy => hz B H2 σ ((E.mono e1).mono e2) _ fun w H3 e3 hw => ?_⟩
    rw [im_int hy]
    refine ⟨valV (zipD ks vs) (Sum.inl n), DGet.k (k := Sum.inl n) ((e2.trans e3) _ _ h1), ?_⟩
    rcases look_im h2 (h3.ex (e2.trans e3)) n with ⟨v, d', k1, k2, k3⟩ | ⟨k1, k2⟩
    · rw [k1]
      rw [k2] at q
      exact q v H3 ((e1.trans e2).trans e3) k3
    · rw [k1]
      rw [k2] at q
      exact q w H3 ((e1.trans e2).trans e3) hw
mutual
def noDic : Dat → Bool
  | .tup ds => noDicA ds
  | .cur k => noDic k
  | .dic _ _ => false
  | _ => true
def noDicA : List Dat → Bool
  | [] => true
  | d :: ds => noDic d && noDicA ds
end
mutual
theorem Im.keepD {H H' : Hp} (e : ∀ a o, H a = some o → (∀ kvs, o ≠ .dK kvs) → H' a = some o) : ∀ {v : V} {d : Dat}, noDic d = true → Im K C H v d → Im K C H' v d
  | _, _, _, .non => .non
  | _, _, _, .bl b => .bl b
  | _, _, _, .int i => .int i
  | _, _, _, .str x => .str x
  | _, _, n, .tup h a => .tup (by
      rcases h with (h | ⟨o, h⟩) | h
      · exact .inl (.inl (e _ _ h fun _ q => nomatch q))
      · exact .inl (.inr ⟨o, e _ _ h fun _ q => nomatch q⟩)
      · exact .inr h) (ImA.keepD e n a)
  | _, _, n, .cur h a => .cur (e _ _ h fun _ q => nomatch q) (Im.keepD e n a)
  | _, _, n, .dic _ _ _ => nomatch n
theorem ImA.keepD {H H' : Hp} (e : ∀ a o, H a = some o → (∀ kvs, o ≠ .dK kvs) → H' a = some o) : ∀ {vs : List V} {ds : List Dat}, noDicA ds = true → ImA K C H vs ds → ImA K C H' vs ds
  | _, _, _, .nil => .nil
  | _, _, n, .cons h t => .cons (Im.keepD e (Bool.and_eq_true_iff.mp n).1 h) (ImA.keepD e (Bool.and_eq_true_iff.mp n).2 t)
end
theorem noDicA_append : ∀ {ds es : List Dat}, noDicA ds = true → noDicA es = true → noDicA (ds ++ es) = true
  | [], _, _, h => h
  | d :: ds, es, h, k => by
    obtain ⟨a, b⟩ := Bool.and_eq_true_iff.mp h
    exact Bool.and_eq_true_iff.mpr ⟨a, noDicA_append b k⟩
theorem noDicA_take : ∀ {ds : List Dat} (n : Nat), noDicA ds = true → noDicA (ds.take n) = true
  | _, 0, _ => rfl
  | [], _ + 1, _ => rfl
  | d :: ds, n + 1, h => by
    obtain ⟨a, b⟩ := Bool.and_eq_true_iff.mp h
    exact Bool.and_eq_true_iff.mpr ⟨a, noDicA_take n b⟩
theorem noDicA_get : ∀ {ds : List Dat} {i : Nat} {d : Dat}, noDicA ds = true → ds[i]? = some d → noDic d = true
  | [], _, _, _, e => by simp at e
  | d :: ds, 0, _, h, e => by simp at e; subst e; exact (Bool.and_eq_true_iff.mp h).1
  | d :: ds, i + 1, x, h, e => noDicA_get (Bool.and_eq_true_iff.mp h).2 (by simpa using e)
theorem zip_snoc {ks : List Int} {vs : List V} (h : ks.length = vs.length) (k : Int) (v : V) : zipD (ks ++ [k]) (vs ++ [v]) = zipD ks vs ++ [(Sum.inl k, v)] := by
  unfold zipD
  rw [List.zipWith_append h] <;> rfl
/-- {k: v for j in range(N)}: the keys unlike -/
theorem ed_dcR {ta : TA} {tk tv : TE} {j N : Nat} {ks : List Int} {ds : List Dat} (hl : EvAs K C ta r [.dat (.int (N : Int))]) (hz : N < 1000) (hj : j < r.length) (hks : ks.length = N) (hds : ds.length = N) (hn : ks.Nodup) (nd : noDicA ds = true)
    (hk : ∀ (i : Nat) (k : Int), ks[i]? = some k → EvD K C tk (r.set j (.dat (.int (i : Int)))) (.int k)) (hv : ∀ (i : Nat) (d : Dat), ds[i]? = some d → EvD K C tv (r.set j (.dat (.int (i : Int)))) d) :
    EvD K C (tDc (iRng1 ta) (gName j) tYes tk tv [j]) r (.dic ks ds) := fun B H σ E Q q =>
  hl B H σ E _ fun vs H1 e1 hv0 => by
    cases hv0 with
    | cons g1 g2 =>
      cases g2
      have g1' := im_int g1
      subst g1'
      refine ⟨N, rfl, by omega, by omega, fun Dl hD => ⟨fun i m H' => m = N - i ∧ i ≤ N ∧ H1 Dl = none ∧ Ex H1 H' ∧ ∃ us, H' Dl = some (.dK (zipD (ks.take i) us)) ∧ us.length = i ∧ ImA K C H' us (ds.take i), ⟨_, rfl, Nat.zero_le _, hD, Ex.new hD, [], upd_same, rfl, .nil⟩, ?_⟩⟩
      rintro i m H' ⟨rfl, hi, hf, hex, us, hu, hul, hua⟩
      by_cases hlt : i < N
      · refine .inr ⟨by show i < ((N : Int)).toNat; omega, fun H2 => i + 1 ≤ N ∧ H1 Dl = none ∧ Ex H1 H2 ∧ ∃ us, H2 Dl = some (.dK (zipD (ks.take (i + 1)) us)) ∧ us.length = i + 1 ∧ ImA K C H2 us (ds.take (i + 1)), fun H2 h2 => ⟨_, by omega, rfl, h2⟩, fun x H2 hy => ?_⟩
        obtain ⟨rfl, rfl⟩ := hy
        have e0 : (0 : Int) + (i : Int) = (i : Int) := Int.zero_add _
        rw [e0]
        have hk' : i < ks.length := by omega
        have hd' : i < ds.length := by omega
        refine ctg_name (K := K) (C := C) (d := .int (i : Int)) j B H2 σ r (.int (i : Int)) hj ((E.mono e1).mono hex) (.int _) _ fun σ2 w E2 => ⟨w, ?_⟩
        refine hk i ks[i] (List.getElem?_eq_getElem hk') B H2 σ2 E2 _ fun y H3 e3 hy => hv i ds[i] (List.getElem?_eq_getElem hd') B H3 σ2 (E2.mono e3) _ fun z H4 e4 hz4 => ⟨_, Sum.inl ks[i], im_int hy, (e3.trans e4) _ _ hu, ?_, ?_⟩
        · show (List.zipWith _ _ _).length < sizeLine
          rw [List.length_zipWith, hul]
          exact sz_lt (Nat.lt_of_le_of_lt (Nat.min_le_right ..) (by omega))
        · have lk : (ks.take i).length = us.length := by rw [List.length_take, hul]; omega
          have nm : ks[i] ∉ ks.take i := fun m => by
            obtain ⟨j', hj', e⟩ := List.getElem_of_mem m
            rw [List.length_take] at hj'
            rw [List.getElem_take] at e
            have a1 := List.Nodup.idxOf_getElem hn j' (by omega)
            have a2 := List.Nodup.idxOf_getElem hn i hk'
            rw [e, a2] at a1
            omega
          have pn : putK (zipD (ks.take i) us) (Sum.inl ks[i]) z = zipD (ks.take (i + 1)) (us ++ [z]) := by
            rw [putK_new z (by rw [valV_zip _ lk, if_neg nm]), List.take_add_one, List.getElem?_eq_getElem hk']
            exact (zip_snoc lk _ _).symm
          rw [pn]
          have kd : ∀ a o, H4 a = some o → (∀ kvs, o ≠ .dK kvs) → (upd H4 Dl (.dK (zipD (ks.take (i + 1)) (us ++ [z])))) a = some o := fun a o h4 n4 => by
            rw [upd_ne fun e => by subst e; rw [(e3.trans e4) _ _ hu] at h4; exact n4 _ (Option.some.inj h4).symm]
            exact h4
          refine ⟨by omega, hf, ((hex.trans e3).trans e4).mut hf, us ++ [z], upd_same, by rw [List.length_append, hul] <;> rfl, ?_⟩
          have td : ds.take (i + 1) = ds.take i ++ [ds[i]] := by rw [List.take_add_one, List.getElem?_eq_getElem hd'] <;> rfl
          rw [td]
          have nt := noDicA_take i nd
          exact ((hua.ex (e3.trans e4)).keepD kd nt).append (.cons (hz4.keepD kd (noDicA_get nd (List.getElem?_eq_getElem hd'))) .nil)
      · have eN : i = N := by omega
        subst eN
        refine .inl ⟨by show ((i : Int)).toNat ≤ i; omega, q _ H' (e1.trans hex) ?_⟩
        rw [List.take_of_length_le (by omega)] at hu hua
        exact .dic hu (by omega) hua

/-! ### curves -/
theorem ed_knots {ta : TE} {d : Dat} (h : EvD K C ta r (.cur d)) (c : Cls K C) (n : NoAttr K C "knots") : EvD K C (tFld K ta "knots") r d := fun B H σ E Q q =>
  h B H σ E _ fun x H1 e1 hx => by
    cases hx with
    | cur h1 h2 => exact ⟨_, C, _, _, _, rfl, h1, c, n, rfl, q _ H1 e1 h2⟩
end

/-! ### defs -/
def sdOf : Ar → Sd
  | .dat d => .dat d
  | .lst ds => .lst ds
def startS (N : List Str) (as : List Ar) : List Sd := as.map sdOf ++ List.replicate (N.length - as.length) .any
section
variable {P : Program} {w : World} {K : Frg} {C : Addr} {mg : Str → Option Value} {base : Heap}
theorem ArsOk.get {H : Hp} : ∀ {vs : List V} {as : List Ar} {i : Nat} {z : Ar}, ArsOk K C H vs as → as[i]? = some z → ∃ v, vs[i]? = some v ∧ ArOk K C H v z
  | _, _, _, _, .nil, e => by simp at e
  | _, _, 0, _, .cons h _, e => by simp at e; subst e; exact ⟨_, rfl, h⟩
  | _, _, i + 1, z, .cons _ t, e => by
    obtain ⟨v, h1, h2⟩ := ArsOk.get (i := i) (z := z) t (by simpa using e)
    exact ⟨v, by simpa using h1, h2⟩
theorem env_start {H : Hp} {vs : List V} {as : List Ar} (N : List Str) (h : ArsOk K C H vs as) : EnvOk K C ⟨H, H⟩ H (L2.start N vs) (startS N as) := by
  have hl := h.len
  have no : ∀ (i : Nat) (a : Addr) (ds : List Dat), (startS N as)[i]? ≠ some (Sd.own a ds) := fun i a ds e => by
    have m := List.mem_of_getElem? e
    unfold startS at m
    rcases List.mem_append.mp m with m | m
    · obtain ⟨z, _, hz⟩ := List.mem_map.mp m
      cases z <;> cases hz
    · have := (List.mem_replicate.mp m).2
      cases this
  refine ⟨Ex.refl H, Ex.refl H, ?_, fun i sd hi => ?_, fun i j a ds es hi _ => absurd hi (no i a ds), fun i a ds hi => absurd hi (no i a ds)⟩
  · unfold L2.start startS
    rw [List.length_append, List.length_append, List.length_map, List.length_map, List.length_replicate, List.length_replicate, hl]
  · unfold startS at hi
    by_cases hlt : i < as.length
    · rw [List.getElem?_append_left (by rw [List.length_map]; exact hlt), List.getElem?_map, List.getElem?_eq_getElem hlt] at hi
      have e : sdOf as[i] = sd := Option.some.inj hi
      obtain ⟨v, h1, h2⟩ := h.get (List.getElem?_eq_getElem hlt)
      have e2 : (L2.start N vs)[i]? = some (some v) := by
        unfold L2.start
        rw [List.getElem?_append_left (by rw [List.length_map]; omega), List.getElem?_map, h1] <;> rfl
      rw [e2, ← e]
      cases hz : as[i] with
      | dat d => rw [hz] at h2; exact ⟨v, rfl, h2⟩
      | lst ds => rw [hz] at h2; obtain ⟨a, us, rfl, k1, k2⟩ := h2; exact ⟨a, us, rfl, k1, k2⟩
    · rw [List.getElem?_append_right (by rw [List.length_map]; omega)] at hi
      have m := List.mem_of_getElem? hi
      rw [(List.mem_replicate.mp m).2]
      trivial
/-- what a body has to do -/
abbrev BodyOk (K : Frg) (C : Addr) (t : TS) (N : List Str) (as : List Ar) (z : Ar) : Prop := StD K C t (startS N as) ⟨fun _ => z = .dat .non, fun _ => False, fun _ => False, fun y => y = z⟩
theorem fn_ok {x qual : Str} {st : Stmt} {f : Addr} {fd : FuncData} {N ps : List Str} {k : Nat} {R : List Ar → Ar → Prop} (F : Fun K x qual st f fd) (S : FnScope N ps (defScope st)) (hlen : ∀ as z, R as z → as.length = ps.length)
    (h : ∀ (cdv : Value) (A : Around) (outer : List Env) (s : Shared) (H : Hp) (Q : VK) (E : XK), Room k (A.deeper (envOfC qual (defScope st) s.heap.objs.size f cdv)) → ∀ as z, R as z →
      ∃ t, PSs (cxOf CX0 P w K mg base N qual (defScope st) f cdv A outer s H E).nox (defBody st) t ∧ BodyOk K C t N as z) : FnOk P w K mg base CX0 (k + 1) f fd ps (spR K C R) := by
  refine F.ok S (fun vs H Q E hs => ?_) (fun cdv A outer s H vs Q E hr hs => ?_)
  · obtain ⟨as, z, h1, h2, _⟩ := hs
    rw [h1.len]
    exact hlen as z h2
  · obtain ⟨as, z, h1, h2, h3⟩ := hs
    obtain ⟨t, q1, q2⟩ := h cdv A outer s H Q E hr as z h2
    refine ⟨t, q1, q2 ⟨H, H⟩ H _ _ (env_start N h1) ⟨fun r' H' σ' e E' => ?_, fun _ _ _ z => z.elim, fun _ _ _ z => z.elim, fun d v H' e ex im => ?_, fun ds p us H' e ex hp hu him => ?_⟩⟩
    · subst e
      exact h3 .non H' E'.ex .non
    · subst e
      exact h3 v H' ex im
    · subst e
      exact h3 p us H' hp ex hu him
end
end AW

set_option Elab.async false
set_option linter.all false
set_option maxRecDepth 100000
/-! the walk's own layer: great numbers, names of the module, ratios as data -/
namespace AW
open PySem PySem.Spec PyProof.Rows L2 AC
/-! ### operators on great numbers -/
def MulB (i j : Int) : Prop := ∃ a b : Nat, a + b ≤ 100000000 ∧ i.natAbs < 2 ^ a ∧ j.natAbs < 2 ^ b
theorem log2_le {n a : Nat} (h : n < 2 ^ a) : n.log2 ≤ a := by
  by_cases h0 : n = 0
  · subst h0
    exact Nat.zero_le _
  · exact Nat.le_of_lt ((Nat.log2_lt h0).mpr h)
theorem MulB.ok {i j : Int} (h : MulB i j) : IntMulOk i j := by
  obtain ⟨p, q, hpq, hi, hj⟩ := h
  have b : ∀ x : Int, Builtin.Int.intBits x ≤ x.natAbs.log2 + 1 := fun x => by
    unfold Builtin.Int.intBits
    split <;> omega
  have h1 := b i
  have h2 := b j
  have g1 := log2_le hi
  have g2 := log2_le hj
  have e : bitsLine = 134217728 := by decide
  unfold IntMulOk
  intro z
  rw [Bool.and_eq_true] at z
  have z2 := z.2
  unfold Builtin.Int.intTooBig at z2
  have z3 := of_decide_eq_true z2
  rw [e] at z3
  omega
theorem op_mulB {X : Cx} : OpR X (binaryOp .Mult) (rI MulB fun i j => .int (i * j)) := fun pins s σ H x y v u Q I rx ry h => by
  obtain ⟨i, j, rfl, rfl, hc, q⟩ := h
  obtain ⟨t, rfl⟩ := rx
  obtain ⟨t', rfl⟩ := ry
  exact mul_int ⟨.int _, H, I.tok _, ⟨_, rfl⟩, q⟩ hc.ok
/-- what a division of great numbers asks of the heap beneath -/
structure Seer (base : Heap) : Prop where
  statics : ∃ mc, base.Ns cStatics mc ∧ mc "sys.audit-hooks" = none ∧ mc "sys.dict" = none
  mods : ∃ mm, base.Ns sysModules mm ∧ mm "_pylong" = none
  main : ∃ mg bm ob, base.Ns mainGlobals mg ∧ mg "__builtins__" = some (.ref bm) ∧ base.get? bm = some ob ∧ ob.cls = .type "module" ∧ ob.dict = some builtinsNs
theorem pylong_room {X : Cx} {pins : List (Addr × Obj)} {σ : L2.St} {H : Hp} {s : Shared} {env : Env} {l : List Env} (I : Inv X pins σ H s) (S : Seer X.base) (ht : X.prog.given.tree = none) (hd : X.A.depth + 100 < recursionLimit)
    (hs : X.stack = env :: l) (h1 : env.scope.isGenerator = false) (h2 : env.scope.isCoroutine = false) (h3 : env.builtins = builtinsNs) (h4 : env.globals = mainGlobals) : PySem.PylongRoom (model X.prog X.w) X.A s := by
  have N : X.base.NoSeer := ⟨S.statics, S.mods, I.ok.mod.blt, S.main⟩
  refine PySem.PylongRoom.of I.nolimit hd (PySem.SeerAt.of (env := env) (l := l) (PySem.Heap.NoSeer.keeps N I.bk) ht ?_ h1 h2 h3 h4)
  rw [I.ok.frames, hs]
theorem op_fdivP {X : Cx} {env : Env} {l : List Env} (S : Seer X.base) (ht : X.prog.given.tree = none) (hd : X.A.depth + 100 < recursionLimit)
    (hs : X.stack = env :: l) (h1 : env.scope.isGenerator = false) (h2 : env.scope.isCoroutine = false) (h3 : env.builtins = builtinsNs) (h4 : env.globals = mainGlobals) : OpR X (binaryOp .FloorDiv) (rI (fun _ j => j ≠ 0) fun i j => .int (i.fdiv j)) := fun pins s σ H x y v u Q I rx ry h => by
  obtain ⟨i, j, rfl, rfl, hc, q⟩ := h
  obtain ⟨t, rfl⟩ := rx
  obtain ⟨t', rfl⟩ := ry
  exact floordiv_int hc ⟨.int _, H, I.tok _, ⟨_, rfl⟩, q⟩ (.inr (pylong_room I S ht hd hs h1 h2 h3 h4))

/-! ### names of the module -/
structure Blt (mg : Str → Option Value) : Prop where
  len : mg "len" = none
  tuple : mg "tuple" = none
  list : mg "list" = none
  range : mg "range" = none
  zip : mg "zip" = none
  sorted : mg "sorted" = none
  int : mg "int" = none
  abs : mg "abs" = none
  sum : mg "sum" = none
  isinstance : mg "isinstance" = none
  bool : mg "bool" = none
theorem b_tuple : bootBuiltins "tuple" = some (.type "tuple") := by decide +kernel
theorem b_list : bootBuiltins "list" = some (.type "list") := by decide +kernel
theorem b_int : bootBuiltins "int" = some (.type "int") := by decide +kernel
theorem b_bool : bootBuiltins "bool" = some (.type "bool") := by decide +kernel
theorem b_abs : bootBuiltins "abs" = some (.builtin "abs") := by decide +kernel
theorem b_sum : bootBuiltins "sum" = some (.builtin "sum") := by decide +kernel
theorem b_sorted : bootBuiltins "sorted" = some (.builtin "sorted") := by decide +kernel
theorem b_isinstance : bootBuiltins "isinstance" = some (.builtin "isinstance") := by decide +kernel
section
variable {X : Cx}
theorem cr_len : CallR X (.builtin "len") (rLenS X.K) := call_len_seq
theorem cr_tup : CallR X (.type "tuple") (rTupOf X.K) := call_tuple_of
theorem cr_lst : CallR X (.type "list") (rLstOf X.K) := call_list_of
theorem cr_int : CallR X (.type "int") rInt1 := call_int1
theorem cr_abs : CallR X (.builtin "abs") rAbs1 := call_abs
variable {e : Expr} {es : List Expr} {t : TA} {p pos : Pos}
/-- a def of the module, by its promise -/
def Has (P : Program) (w : World) (K : Frg) (mg : Str → Option Value) (base : Heap) (g : Str) (k : Nat) (ps : List Str) (sp : Sp) : Prop :=
  ∃ f fd, mg g = some (.ref f) ∧ FnOk P w K mg base CX0 k f fd ps sp ∧ PySem.W.keepIn K (.ref f) = true ∧ Binds K fd ps []
theorem pe_has {g : Str} {k : Nat} {ps : List Str} {sp : Sp} (h : Has X.prog X.w X.K X.mg X.base g k ps sp) (hr : Room k X.A) (hg : Gl X g) (ha : PA X (e :: es) t) (hdb : (g == ("__debug__" : Str)) = false := by decide)
    (he : starEach (e :: es) X.env = (false, eval e X.env) :: starEach es X.env := by rfl) (hpl : (backTo pos (starEach es X.env)).any (·.1) = false := by rfl) : PE X (.Call (.Name g p) (e :: es) [] pos) (tCall sp [] E0 t) := by
  obtain ⟨f, fd, m, F, kp, b⟩ := h
  exact pe_call F hr hg m kp b .nil pass0 ha hdb he hpl
end
/-- from a def of the text: name, promise -/
theorem has_of {P : Program} {w : World} {K : Frg} {mg : Str → Option Value} {base : Heap} {g : Str} {st : Stmt} {f : Addr} {fd : FuncData} {k : Nat} {ps : List Str} {sp : Sp} (F : Fun K g g st f fd) (m : mg g = some (.ref f)) (b : Binds K fd ps []) (h : FnOk P w K mg base CX0 k f fd ps sp) : Has P w K mg base g k ps sp := ⟨f, fd, m, h, F.kp, b⟩

/-! ### ratios -/
abbrev rat (q : Rat) : Dat := .tup [.int q.num, .int (q.den : Int)]
/-- small enough to reckon with -/
def Big (q : Rat) : Prop := ∃ k, k ≤ 45000000 ∧ Sz k q
theorem _root_.AC.Sz.big {k : Nat} {q : Rat} (h : Sz k q) (hk : k ≤ 45000000) : Big q := ⟨k, hk, h⟩
theorem Big.nd {a b : Rat} (h : Big a) (k : Big b) : MulB a.num (b.den : Int) := by
  obtain ⟨i, hi, h1, h2⟩ := h
  obtain ⟨j, hj, k1, k2⟩ := k
  exact ⟨i, j, by omega, h1, by simpa using k2⟩
theorem Big.nn {a b : Rat} (h : Big a) (k : Big b) : MulB a.num b.num := by
  obtain ⟨i, hi, h1, h2⟩ := h
  obtain ⟨j, hj, k1, k2⟩ := k
  exact ⟨i, j, by omega, h1, k1⟩
theorem Big.dd {a b : Rat} (h : Big a) (k : Big b) : MulB (a.den : Int) (b.den : Int) := by
  obtain ⟨i, hi, h1, h2⟩ := h
  obtain ⟨j, hj, k1, k2⟩ := k
  exact ⟨i, j, by omega, by simpa using h2, by simpa using k2⟩
theorem Big.dn {a b : Rat} (h : Big a) (k : Big b) : MulB (a.den : Int) b.num := by
  obtain ⟨i, hi, h1, h2⟩ := h
  obtain ⟨j, hj, k1, k2⟩ := k
  exact ⟨i, j, by omega, by simpa using h2, k1⟩
theorem rat_inj {a b : Rat} (h : rat a = rat b) : a = b := by
  injection h with h
  injection h with h1 h2
  injection h2 with h2 h3
  injection h1 with h1
  injection h2 with h2
  exact Rat.ext h1 (by omega)
/-- make_ratio's two quotients -/
theorem mk_pos {n d : Int} (hd : 0 < d) : n.fdiv ((Nat.gcd n.natAbs d.natAbs : Nat) : Int) = (Rat.divInt n d).num ∧ d.fdiv ((Nat.gcd n.natAbs d.natAbs : Nat) : Int) = ((Rat.divInt n d).den : Int) := by
  have hg : 0 < Nat.gcd n.natAbs d.natAbs := Nat.gcd_pos_of_pos_right _ (by omega)
  rw [Rat.num_divInt, Rat.den_divInt, if_neg (by omega), Int.sign_eq_one_of_pos hd, Int.one_mul]
  have e : d.gcd n = Nat.gcd n.natAbs d.natAbs := by rw [Nat.gcd_comm]; rfl
  rw [e, Int.fdiv_eq_ediv_of_nonneg _ (by omega), Int.fdiv_eq_ediv_of_nonneg _ (by omega)]
  refine ⟨rfl, ?_⟩
  have : d = ((d.natAbs : Nat) : Int) := by omega
  rw [Int.natCast_ediv]
  rw [← this]
theorem mk_neg {n d : Int} (hd : d < 0) : n.fdiv (-((Nat.gcd n.natAbs d.natAbs : Nat) : Int)) = (Rat.divInt n d).num ∧ d.fdiv (-((Nat.gcd n.natAbs d.natAbs : Nat) : Int)) = ((Rat.divInt n d).den : Int) := by
  have h := mk_pos (n := -n) (d := -d) (by omega)
  rw [Int.natAbs_neg, Int.natAbs_neg] at h
  have e : Rat.divInt (-n) (-d) = Rat.divInt n d := by
    rw [Rat.divInt_eq_div, Rat.divInt_eq_div, Rat.intCast_neg, Rat.intCast_neg]
    have : ((d : Int) : Rat) ≠ 0 := by
      intro q
      have : d = 0 := by exact_mod_cast q
      omega
    grind
  rw [e] at h
  rw [← h.1, ← h.2]
  have f : ∀ a g : Int, a.fdiv (-g) = (-a).fdiv g := fun a g => by
    have := Int.neg_fdiv_neg (-a) g
    rw [Int.neg_neg] at this
    exact this
  exact ⟨f _ _, f _ _⟩
theorem divInt_add {a b : Rat} : Rat.divInt (a.num * (b.den : Int) + b.num * (a.den : Int)) ((a.den : Int) * (b.den : Int)) = a + b := by
  have := Rat.divInt_add_divInt a.num b.num (d₁ := (a.den : Int)) (d₂ := (b.den : Int)) (by have := a.den_nz; omega) (by have := b.den_nz; omega)
  rw [← this, Rat.num_divInt_den, Rat.num_divInt_den]
theorem divInt_sub {a b : Rat} : Rat.divInt (a.num * (b.den : Int) - b.num * (a.den : Int)) ((a.den : Int) * (b.den : Int)) = a - b := by
  have := divInt_add (a := a) (b := -b)
  rw [Rat.neg_num, Rat.neg_den, Int.neg_mul] at this
  rw [Rat.sub_eq_add_neg, ← this]
  rfl
theorem divInt_mul {a b : Rat} : Rat.divInt (a.num * b.num) ((a.den : Int) * (b.den : Int)) = a * b := by
  rw [← Rat.divInt_mul_divInt, Rat.num_divInt_den, Rat.num_divInt_den]
theorem num_ne {b : Rat} (h : b ≠ 0) : b.num ≠ 0 := fun e => h (by
  have := Rat.num_divInt_den b
  rw [e] at this
  rw [← this]
  simp)
theorem num_eq_zero {b : Rat} : b.num = 0 ↔ b = 0 := ⟨fun e => Classical.byContradiction fun h => num_ne h e, fun e => by rw [e]; rfl⟩
theorem divInt_div {a b : Rat} (h : b ≠ 0) : Rat.divInt (a.num * (b.den : Int)) ((a.den : Int) * b.num) = a / b := by
  have h1 := rat_mul_den a
  have h2 := rat_mul_den b
  have hn : ((b.num : Int) : Rat) ≠ 0 := fun q => num_ne h (by exact_mod_cast q)
  have ha : (a.den : Rat) ≠ 0 := fun q => a.den_nz (by exact_mod_cast q)
  have hb : (b.den : Rat) ≠ 0 := fun q => b.den_nz (by exact_mod_cast q)
  rw [Rat.divInt_eq_div, Rat.intCast_mul, Rat.intCast_mul]
  have c1 : (((a.den : Nat) : Int) : Rat) = (a.den : Rat) := rfl
  have c2 : (((b.den : Nat) : Int) : Rat) = (b.den : Rat) := rfl
  rw [c1, c2, ← h1, ← h2]
  rw [← h2] at hn
  grind
theorem rat_of {n d : Int} {q : Rat} (h : Rat.divInt n d = q) {x y : Int} (hx : x = (Rat.divInt n d).num) (hy : y = ((Rat.divInt n d).den : Int)) : Dat.tup [.int x, .int y] = rat q := by rw [hx, hy, h]
/-- -1, 0, 1 -/
def cmp (a b : Rat) : Int := if a < b then -1 else if b < a then 1 else 0
theorem cmp_lt {a b : Rat} : cmp a b < 0 ↔ a < b := by
  unfold cmp
  by_cases h : a < b
  · rw [if_pos h]; simp [h]
  · rw [if_neg h]
    by_cases k : b < a
    · rw [if_pos k]; simp [h]
    · rw [if_neg k]; simp [h]
theorem cmp_gt {a b : Rat} : 0 < cmp a b ↔ b < a := by
  unfold cmp
  by_cases h : a < b
  · rw [if_pos h]
    have : ¬ b < a := by grind
    simp [this]
  · rw [if_neg h]
    by_cases k : b < a
    · rw [if_pos k]; simp [k]
    · rw [if_neg k]; simp [k]
theorem cmp_le {a b : Rat} : cmp a b ≤ 0 ↔ a ≤ b := by
  have := cmp_gt (a := a) (b := b)
  constructor
  · intro h; have : ¬ b < a := fun q => by have := this.mpr q; omega
    grind
  · intro h; have : ¬ 0 < cmp a b := fun q => by have := this.mp q; grind
    omega
theorem cmp_ge {a b : Rat} : 0 ≤ cmp a b ↔ b ≤ a := by
  have := cmp_lt (a := a) (b := b)
  constructor
  · intro h; have : ¬ a < b := fun q => by have := this.mpr q; omega
    grind
  · intro h; have : ¬ cmp a b < 0 := fun q => by have := this.mp q; grind
    omega
theorem cmp_eq {a b : Rat} : cmp a b = 0 ↔ a = b := by
  have h1 := cmp_le (a := a) (b := b)
  have h2 := cmp_ge (a := a) (b := b)
  constructor
  · intro h; have := h1.mp (by omega); have := h2.mp (by omega); grind
  · intro h; have := h1.mpr (by grind); have := h2.mpr (by grind); omega
end AW

set_option Elab.async false
set_option linter.all false
set_option maxRecDepth 100000
set_option maxHeartbeats 4000000
/-! the walk: ratios -/
namespace AW
open PySem PySem.Spec PyProof.Rows L2 AC
def topS (i : Nat) : Stmt := PySem.Challenge.pw_anycompany_k78_whole_fair_tolls.main.body.getD i (.Pass ⟨0, 0, 0, 0⟩)
/-- a def of the text as it stands behind the top -/
def Def (K : Frg) (mg : Str → Option Value) (g : Str) (st : Stmt) (ps : List Str) : Prop := ∃ f fd, Fun K g g st f fd ∧ mg g = some (.ref f) ∧ Binds K fd ps []
/-- what the module's names stand for; the six are the places of the constants -/
structure Glo (K : Frg) (mg : Str → Option Value) (base : Heap) (z1 o1 z2 o2 z3 o3 : Addr) : Prop where
  len : mg "len" = none
  tuple : mg "tuple" = none
  list : mg "list" = none
  range : mg "range" = none
  zip : mg "zip" = none
  sorted : mg "sorted" = none
  int : mg "int" = none
  abs : mg "abs" = none
  sum : mg "sum" = none
  isinstance : mg "isinstance" = none
  bool : mg "bool" = none
  gcd : mg "gcd" = some (.builtin "math.gcd")
  ZERO_leaving : mg "ZERO_leaving" = some (.ref z1)
  ONE_leaving : mg "ONE_leaving" = some (.ref o1)
  ZERO_knots : mg "ZERO_knots" = some (.ref z2)
  ONE_knots : mg "ONE_knots" = some (.ref o2)
  ZERO_tolls : mg "ZERO_tolls" = some (.ref z3)
  ONE_tolls : mg "ONE_tolls" = some (.ref o3)
  z1 : ∀ C H, Im K C H (.ref z1) (rat 0)
  o1 : ∀ C H, Im K C H (.ref o1) (rat 1)
  z2 : ∀ C H, Im K C H (.ref z2) (rat 0)
  o2 : ∀ C H, Im K C H (.ref o2) (rat 1)
  z3 : ∀ C H, Im K C H (.ref z3) (rat 0)
  o3 : ∀ C H, Im K C H (.ref o3) (rat 1)
  seer : Seer base
theorem lt_ok {i n : Nat} (h : Nat.blt i n = true) : i < n := Nat.lt_of_lt_of_le (Nat.lt_succ_self i) (Nat.le_of_ble_eq_true h)
/-! common_divisor -/
abbrev s_common_divisor : Stmt := topS 8
theorem sc_common_divisor : FnScope ["a", "b"] ["a", "b"] (defScope s_common_divisor) := ⟨rfl, rfl, rfl, by decide +kernel, rfl, by decide +kernel, by decide +kernel⟩
/-! make_ratio -/
abbrev s_make_ratio : Stmt := topS 9
theorem sc_make_ratio : FnScope ["n", "d", "divisor"] ["n", "d"] (defScope s_make_ratio) := ⟨rfl, rfl, rfl, by decide +kernel, rfl, by decide +kernel, by decide +kernel⟩
/-! add -/
abbrev s_add : Stmt := topS 10
theorem sc_add : FnScope ["a", "b"] ["a", "b"] (defScope s_add) := ⟨rfl, rfl, rfl, by decide +kernel, rfl, by decide +kernel, by decide +kernel⟩
/-! subtract -/
abbrev s_subtract : Stmt := topS 11
theorem sc_subtract : FnScope ["a", "b"] ["a", "b"] (defScope s_subtract) := ⟨rfl, rfl, rfl, by decide +kernel, rfl, by decide +kernel, by decide +kernel⟩
/-! multiply -/
abbrev s_multiply : Stmt := topS 12
theorem sc_multiply : FnScope ["a", "b"] ["a", "b"] (defScope s_multiply) := ⟨rfl, rfl, rfl, by decide +kernel, rfl, by decide +kernel, by decide +kernel⟩
/-! divide -/
abbrev s_divide : Stmt := topS 13
theorem sc_divide : FnScope ["a", "b"] ["a", "b"] (defScope s_divide) := ⟨rfl, rfl, rfl, by decide +kernel, rfl, by decide +kernel, by decide +kernel⟩
/-! compare -/
abbrev s_compare : Stmt := topS 14
theorem sc_compare : FnScope ["a", "b", "left", "right"] ["a", "b"] (defScope s_compare) := ⟨rfl, rfl, rfl, by decide +kernel, rfl, by decide +kernel, by decide +kernel⟩
/-! ### what they do -/
inductive RGcd : List Ar → Ar → Prop
  | mk (i j : Int) : RGcd [.dat (.int i), .dat (.int j)] (.dat (.int ((Nat.gcd i.natAbs j.natAbs : Nat) : Int)))
inductive RMk : List Ar → Ar → Prop
  | mk (n d : Int) (q : Rat) : d ≠ 0 → Rat.divInt n d = q → RMk [.dat (.int n), .dat (.int d)] (.dat (rat q))
inductive RAdd : List Ar → Ar → Prop
  | mk (a b : Rat) : Big a → Big b → RAdd [.dat (rat a), .dat (rat b)] (.dat (rat (a + b)))
inductive RSub : List Ar → Ar → Prop
  | mk (a b : Rat) : Big a → Big b → RSub [.dat (rat a), .dat (rat b)] (.dat (rat (a - b)))
inductive RMul : List Ar → Ar → Prop
  | mk (a b : Rat) : Big a → Big b → RMul [.dat (rat a), .dat (rat b)] (.dat (rat (a * b)))
inductive RDiv : List Ar → Ar → Prop
  | mk (a b : Rat) : Big a → Big b → b ≠ 0 → RDiv [.dat (rat a), .dat (rat b)] (.dat (rat (a / b)))
inductive RCmp : List Ar → Ar → Prop
  | mk (a b : Rat) : Big a → Big b → RCmp [.dat (rat a), .dat (rat b)] (.dat (.int (cmp a b)))
theorem den_ne (b : Rat) : (b.den : Int) ≠ 0 := by have := b.den_nz; omega
theorem dd_ne (a b : Rat) : (a.den : Int) * (b.den : Int) ≠ 0 := Int.mul_ne_zero (den_ne a) (den_ne b)
theorem dec_cmp (a b : Rat) : (a.num * (b.den : Int) < b.num * (a.den : Int)) = (a < b) := propext (Rat.lt_iff a b).symm
section
variable {P : Program} {w : World} {K : Frg} {C : Addr} {mg : Str → Option Value} {base : Heap} {z1 o1 z2 o2 z3 o3 : Addr} (G : Glo K mg base z1 o1 z2 o2 z3 o3) (hP : P.given.tree = none)
include G in
theorem has_common_divisor (F : Def K mg "common_divisor" s_common_divisor ["a", "b"]) : Has P w K mg base "common_divisor" 40 ["a", "b"] (spR K C RGcd) := by
  obtain ⟨f, fd, F, m, b⟩ := F
  refine has_of F m b (fn_ok F sc_common_divisor (fun as z h => by cases h; rfl) fun cdv A outer s H Q E hr as z h => ?_)
  obtain ⟨i, j⟩ := h
  exact ⟨_, (pss_one (ps_ret (pe_callBfun cr_gcd (by rfl) G.gcd (pa_cons (pv 0) (pa_cons (pv 1) pa_nil))))), st_ret (ed_gcd (ed_var rfl) (ed_var rfl)) rfl⟩
include G hP in
theorem has_make_ratio (h_common_divisor : Has P w K mg base "common_divisor" 40 ["a", "b"] (spR K C RGcd)) (F : Def K mg "make_ratio" s_make_ratio ["n", "d"]) : Has P w K mg base "make_ratio" 41 ["n", "d"] (spR K C RMk) := by
  obtain ⟨f, fd, F, m, b⟩ := F
  refine has_of F m b (fn_ok F sc_make_ratio (fun as z h => by cases h; rfl) fun cdv A outer s H Q E hr as z h => ?_)
  obtain ⟨n, d, q, hd, hq⟩ := h
  have hd100 : ∀ n : Nat, n + 3 * 40 + 5 < recursionLimit → n + 100 < recursionLimit := fun n h => by omega
  have fdP := op_fdivP (X := (cxOf CX0 P w K mg base ["n", "d", "divisor"] "make_ratio" (defScope s_make_ratio) f cdv A outer s H E).nox) G.seer hP (hd100 _ hr.dp) rfl rfl rfl rfl rfl
  refine ⟨_, (pss_cons (ps_if (pt_cmpR op_eq (pv 1) pe_int (nomark _)) (pss_one ps_never) pss_nil)
    (pss_cons (ps_set (i := 2) sc_make_ratio.nd rfl (.inl rfl) (pe_has h_common_divisor (hr.mono (by decide)) (by rfl) (pa_cons (pv 0) (pa_cons (pv 1) pa_nil))))
    (pss_cons (ps_if (pt_cmpR op_lt (pv 1) pe_int (nomark _)) (pss_one (ps_set (i := 2) sc_make_ratio.nd rfl (.inl rfl) (pe_un un_neg (pv 2)))) pss_nil)
    (pss_one (ps_ret (pe_tup (pa_cons (pe_op fdP (pv 0) (pv 2)) (pa_cons (pe_op fdP (pv 1) (pv 2)) pa_nil)))))))), ?_⟩
  have hg : ((Nat.gcd n.natAbs d.natAbs : Nat) : Int) ≠ 0 := by have := Nat.gcd_pos_of_pos_right n.natAbs (n := d.natAbs) (by omega); omega
  refine st_seq (st_if (tt_test (ed_eqI (ed_var rfl) ed_int)) (fun h => absurd (of_decide_eq_true h) hd) fun _ => st_next ?_)
  refine st_seq (st_asg (ed_call (ea_d (ed_var rfl) (ea_d (ed_var rfl) ea_nil)) (RGcd.mk _ _)) (lt_ok rfl) ?_)
  refine st_seq (st_if (tt_test (ed_b (ed_var rfl) ed_int)) (fun h => ?_) fun h => st_next ?_)
  · refine st_asg (ed_u (ed_var rfl)) (lt_ok rfl) ?_
    have hd' : d < 0 := of_decide_eq_true h
    have e := mk_neg (n := n) hd'
    refine st_ret (ed_is (ed_t2 (ed_ic (ed_var rfl) (ed_var rfl) (by omega)) (ed_ic (ed_var rfl) (ed_var rfl) (by omega))) (rat_of hq e.1 e.2)) rfl
  · have hd' : 0 < d := by have := of_decide_eq_false h; omega
    have e := mk_pos (n := n) hd'
    refine st_ret (ed_is (ed_t2 (ed_ic (ed_var rfl) (ed_var rfl) hg) (ed_ic (ed_var rfl) (ed_var rfl) hg)) (rat_of hq e.1 e.2)) rfl
theorem has_add (h_make_ratio : Has P w K mg base "make_ratio" 41 ["n", "d"] (spR K C RMk)) (F : Def K mg "add" s_add ["a", "b"]) : Has P w K mg base "add" 42 ["a", "b"] (spR K C RAdd) := by
  obtain ⟨f, fd, F, m, b⟩ := F
  refine has_of F m b (fn_ok F sc_add (fun as z h => by cases h; rfl) fun cdv A outer s H Q E hr as z h => ?_)
  obtain ⟨a, b, ha, hb⟩ := h
  refine ⟨_, (pss_one (ps_ret (pe_has h_make_ratio (hr.mono (by decide)) (by rfl) (pa_cons (pe_op op_add (pe_op op_mulB (pe_ix ix_tup (pv 0) pe_int (fun _ _ => rfl)) (pe_ix ix_tup (pv 1) pe_int (fun _ _ => rfl))) (pe_op op_mulB (pe_ix ix_tup (pv 1) pe_int (fun _ _ => rfl)) (pe_ix ix_tup (pv 0) pe_int (fun _ _ => rfl)))) (pa_cons (pe_op op_mulB (pe_ix ix_tup (pv 0) pe_int (fun _ _ => rfl)) (pe_ix ix_tup (pv 1) pe_int (fun _ _ => rfl))) pa_nil))))), ?_⟩
  exact st_ret (ed_call (ea_d (ed_i (ed_ic (ed_ixT (ed_var rfl) ed_int rfl) (ed_ixT (ed_var rfl) ed_int rfl) (ha.nd hb)) (ed_ic (ed_ixT (ed_var rfl) ed_int rfl) (ed_ixT (ed_var rfl) ed_int rfl) (hb.nd ha))) (ea_d (ed_ic (ed_ixT (ed_var rfl) ed_int rfl) (ed_ixT (ed_var rfl) ed_int rfl) (ha.dd hb)) ea_nil)) (RMk.mk _ _ _ (dd_ne a b) divInt_add)) rfl
theorem has_subtract (h_make_ratio : Has P w K mg base "make_ratio" 41 ["n", "d"] (spR K C RMk)) (F : Def K mg "subtract" s_subtract ["a", "b"]) : Has P w K mg base "subtract" 42 ["a", "b"] (spR K C RSub) := by
  obtain ⟨f, fd, F, m, b⟩ := F
  refine has_of F m b (fn_ok F sc_subtract (fun as z h => by cases h; rfl) fun cdv A outer s H Q E hr as z h => ?_)
  obtain ⟨a, b, ha, hb⟩ := h
  refine ⟨_, (pss_one (ps_ret (pe_has h_make_ratio (hr.mono (by decide)) (by rfl) (pa_cons (pe_op op_sub (pe_op op_mulB (pe_ix ix_tup (pv 0) pe_int (fun _ _ => rfl)) (pe_ix ix_tup (pv 1) pe_int (fun _ _ => rfl))) (pe_op op_mulB (pe_ix ix_tup (pv 1) pe_int (fun _ _ => rfl)) (pe_ix ix_tup (pv 0) pe_int (fun _ _ => rfl)))) (pa_cons (pe_op op_mulB (pe_ix ix_tup (pv 0) pe_int (fun _ _ => rfl)) (pe_ix ix_tup (pv 1) pe_int (fun _ _ => rfl))) pa_nil))))), ?_⟩
  exact st_ret (ed_call (ea_d (ed_i (ed_ic (ed_ixT (ed_var rfl) ed_int rfl) (ed_ixT (ed_var rfl) ed_int rfl) (ha.nd hb)) (ed_ic (ed_ixT (ed_var rfl) ed_int rfl) (ed_ixT (ed_var rfl) ed_int rfl) (hb.nd ha))) (ea_d (ed_ic (ed_ixT (ed_var rfl) ed_int rfl) (ed_ixT (ed_var rfl) ed_int rfl) (ha.dd hb)) ea_nil)) (RMk.mk _ _ _ (dd_ne a b) divInt_sub)) rfl
theorem has_multiply (h_make_ratio : Has P w K mg base "make_ratio" 41 ["n", "d"] (spR K C RMk)) (F : Def K mg "multiply" s_multiply ["a", "b"]) : Has P w K mg base "multiply" 42 ["a", "b"] (spR K C RMul) := by
  obtain ⟨f, fd, F, m, b⟩ := F
  refine has_of F m b (fn_ok F sc_multiply (fun as z h => by cases h; rfl) fun cdv A outer s H Q E hr as z h => ?_)
  obtain ⟨a, b, ha, hb⟩ := h
  refine ⟨_, (pss_one (ps_ret (pe_has h_make_ratio (hr.mono (by decide)) (by rfl) (pa_cons (pe_op op_mulB (pe_ix ix_tup (pv 0) pe_int (fun _ _ => rfl)) (pe_ix ix_tup (pv 1) pe_int (fun _ _ => rfl))) (pa_cons (pe_op op_mulB (pe_ix ix_tup (pv 0) pe_int (fun _ _ => rfl)) (pe_ix ix_tup (pv 1) pe_int (fun _ _ => rfl))) pa_nil))))), ?_⟩
  exact st_ret (ed_call (ea_d (ed_ic (ed_ixT (ed_var rfl) ed_int rfl) (ed_ixT (ed_var rfl) ed_int rfl) (ha.nn hb)) (ea_d (ed_ic (ed_ixT (ed_var rfl) ed_int rfl) (ed_ixT (ed_var rfl) ed_int rfl) (ha.dd hb)) ea_nil)) (RMk.mk _ _ _ (dd_ne a b) divInt_mul)) rfl
theorem has_divide (h_make_ratio : Has P w K mg base "make_ratio" 41 ["n", "d"] (spR K C RMk)) (F : Def K mg "divide" s_divide ["a", "b"]) : Has P w K mg base "divide" 42 ["a", "b"] (spR K C RDiv) := by
  obtain ⟨f, fd, F, m, b⟩ := F
  refine has_of F m b (fn_ok F sc_divide (fun as z h => by cases h; rfl) fun cdv A outer s H Q E hr as z h => ?_)
  obtain ⟨a, b, ha, hb, h0⟩ := h
  refine ⟨_, (pss_cons (ps_if (pt_cmpR op_eq (pe_ix ix_tup (pv 1) pe_int (fun _ _ => rfl)) pe_int (nomark _)) (pss_one ps_never) pss_nil)
    (pss_one (ps_ret (pe_has h_make_ratio (hr.mono (by decide)) (by rfl) (pa_cons (pe_op op_mulB (pe_ix ix_tup (pv 0) pe_int (fun _ _ => rfl)) (pe_ix ix_tup (pv 1) pe_int (fun _ _ => rfl))) (pa_cons (pe_op op_mulB (pe_ix ix_tup (pv 0) pe_int (fun _ _ => rfl)) (pe_ix ix_tup (pv 1) pe_int (fun _ _ => rfl))) pa_nil)))))), ?_⟩
  refine st_seq (st_if (tt_test (ed_eqI (ed_ixT (ed_var rfl) ed_int rfl) ed_int)) (fun h => absurd (of_decide_eq_true h) (num_ne h0)) fun _ => st_next ?_)
  exact st_ret (ed_call (ea_d (ed_ic (ed_ixT (ed_var rfl) ed_int rfl) (ed_ixT (ed_var rfl) ed_int rfl) (ha.nd hb)) (ea_d (ed_ic (ed_ixT (ed_var rfl) ed_int rfl) (ed_ixT (ed_var rfl) ed_int rfl) (ha.dn hb)) ea_nil)) (RMk.mk _ _ _ (Int.mul_ne_zero (den_ne a) (num_ne h0)) (divInt_div h0))) rfl
theorem has_compare (F : Def K mg "compare" s_compare ["a", "b"]) : Has P w K mg base "compare" 42 ["a", "b"] (spR K C RCmp) := by
  obtain ⟨f, fd, F, m, b⟩ := F
  refine has_of F m b (fn_ok F sc_compare (fun as z h => by cases h; rfl) fun cdv A outer s H Q E hr as z h => ?_)
  obtain ⟨a, b, ha, hb⟩ := h
  refine ⟨_, (pss_cons (ps_set (i := 2) sc_compare.nd rfl (.inl rfl) (pe_op op_mulB (pe_ix ix_tup (pv 0) pe_int (fun _ _ => rfl)) (pe_ix ix_tup (pv 1) pe_int (fun _ _ => rfl))))
    (pss_cons (ps_set (i := 3) sc_compare.nd rfl (.inl rfl) (pe_op op_mulB (pe_ix ix_tup (pv 1) pe_int (fun _ _ => rfl)) (pe_ix ix_tup (pv 0) pe_int (fun _ _ => rfl))))
    (pss_cons (ps_if (pt_cmpR op_lt (pv 2) (pv 3) (nomark _)) (pss_one (ps_ret (pe_un un_neg pe_int))) pss_nil)
    (pss_cons (ps_if (pt_cmpR op_gt (pv 2) (pv 3) (nomark _)) (pss_one (ps_ret pe_int)) pss_nil)
    (pss_one (ps_ret pe_int)))))), ?_⟩
  refine st_seq (st_asg (ed_ic (ed_ixT (ed_var rfl) ed_int rfl) (ed_ixT (ed_var rfl) ed_int rfl) (ha.nd hb)) (lt_ok rfl) ?_)
  refine st_seq (st_asg (ed_ic (ed_ixT (ed_var rfl) ed_int rfl) (ed_ixT (ed_var rfl) ed_int rfl) (hb.nd ha)) (lt_ok rfl) ?_)
  refine st_seq (st_if (tt_test (ed_b (ed_var rfl) (ed_var rfl))) (fun h => ?_) fun h => st_next ?_)
  · have h1 : a < b := (dec_cmp a b) ▸ of_decide_eq_true h
    refine st_ret (ed_u ed_int) ?_
    show Ar.dat (.int (-1)) = .dat (.int (cmp a b))
    rw [show cmp a b = -1 from if_pos h1]
  · have h1 : ¬ a < b := (dec_cmp a b) ▸ of_decide_eq_false h
    refine st_seq (st_if (tt_test (ed_b (ed_var rfl) (ed_var rfl))) (fun h => ?_) fun h => st_next ?_)
    · have h2 : b < a := (dec_cmp b a) ▸ of_decide_eq_true h
      refine st_ret ed_int ?_
      show Ar.dat (.int 1) = .dat (.int (cmp a b))
      rw [show cmp a b = 1 from (if_neg h1).trans (if_pos h2)]
    · have h2 : ¬ b < a := (dec_cmp b a) ▸ of_decide_eq_false h
      refine st_ret ed_int ?_
      show Ar.dat (.int 0) = .dat (.int (cmp a b))
      rw [show cmp a b = 0 from (if_neg h1).trans (if_neg h2)]
end
end AW

set_option Elab.async false
set_option linter.all false
set_option maxRecDepth 100000
set_option maxHeartbeats 4000000
/-! the walk: knots -/
namespace AW
open PySem PySem.Spec PyProof.Rows L2 AC
/-! ### data -/
abbrev kn (p : Kn) : Dat := .tup [rat p.1, rat p.2]
abbrev kns (l : List Kn) : Dat := .tup (l.map kn)
theorem kget {l : List Kn} {k : Nat} (h : k < l.length) : l[k]? = some (kA l k, AC.kV l k) := by
  unfold kA AC.kV
  rw [List.getD_eq_getElem?_getD, List.getElem?_eq_getElem h] <;> rfl
theorem knget {l : List Kn} {k : Nat} (h : k < l.length) : (l.map kn)[k]? = some (kn (kA l k, AC.kV l k)) := by
  rw [List.getElem?_map, kget h] <;> rfl
def KSz (n : Nat) (l : List Kn) : Prop := ∀ k, k < l.length → Sz n (kA l k) ∧ Sz n (AC.kV l k)
/-- the ratio defs -/
structure Rt (P : Program) (w : World) (K : Frg) (C : Addr) (mg : Str → Option Value) (base : Heap) : Prop where
  add : Has P w K mg base "add" 42 ["a", "b"] (spR K C RAdd)
  sub : Has P w K mg base "subtract" 42 ["a", "b"] (spR K C RSub)
  mul : Has P w K mg base "multiply" 42 ["a", "b"] (spR K C RMul)
  div : Has P w K mg base "divide" 42 ["a", "b"] (spR K C RDiv)
  cmp : Has P w K mg base "compare" 42 ["a", "b"] (spR K C RCmp)
section
variable {K : Frg} {C : Addr} {r : List Sd} {ta tb te ti : TE} {a b : Rat}
theorem e_add (ha : EvD K C ta r (rat a)) (hb : EvD K C tb r (rat b)) (h : Big a) (k : Big b) : EvD K C (tCall (spR K C RAdd) [] E0 (tCons ta (tCons tb tNil))) r (rat (a + b)) := ed_call (ea_d ha (ea_d hb ea_nil)) (.mk _ _ h k)
theorem e_sub (ha : EvD K C ta r (rat a)) (hb : EvD K C tb r (rat b)) (h : Big a) (k : Big b) : EvD K C (tCall (spR K C RSub) [] E0 (tCons ta (tCons tb tNil))) r (rat (a - b)) := ed_call (ea_d ha (ea_d hb ea_nil)) (.mk _ _ h k)
theorem e_mul (ha : EvD K C ta r (rat a)) (hb : EvD K C tb r (rat b)) (h : Big a) (k : Big b) : EvD K C (tCall (spR K C RMul) [] E0 (tCons ta (tCons tb tNil))) r (rat (a * b)) := ed_call (ea_d ha (ea_d hb ea_nil)) (.mk _ _ h k)
theorem e_div (ha : EvD K C ta r (rat a)) (hb : EvD K C tb r (rat b)) (h : Big a) (k : Big b) (z : b ≠ 0) : EvD K C (tCall (spR K C RDiv) [] E0 (tCons ta (tCons tb tNil))) r (rat (a / b)) := ed_call (ea_d ha (ea_d hb ea_nil)) (.mk _ _ h k z)
theorem e_cmp (ha : EvD K C ta r (rat a)) (hb : EvD K C tb r (rat b)) (h : Big a) (k : Big b) : EvD K C (tCall (spR K C RCmp) [] E0 (tCons ta (tCons tb tNil))) r (.int (cmp a b)) := ed_call (ea_d ha (ea_d hb ea_nil)) (.mk _ _ h k)
/-- compare(a, b) <= 0 and its like, as tests -/
theorem t_le (ha : EvD K C ta r (rat a)) (hb : EvD K C tb r (rat b)) (h : Big a) (k : Big b) : EvTt K C (tTest (tOp (rI0 fun i j => .bl (decide (i ≤ j))) (tCall (spR K C RCmp) [] E0 (tCons ta (tCons tb tNil))) (tC (.int 0)))) r (decide (a ≤ b)) :=
  et_is (tt_test (ed_b (e_cmp ha hb h k) ed_int)) (decide_eq_decide.mpr cmp_le)
theorem t_lt (ha : EvD K C ta r (rat a)) (hb : EvD K C tb r (rat b)) (h : Big a) (k : Big b) : EvTt K C (tTest (tOp (rI0 fun i j => .bl (decide (i < j))) (tCall (spR K C RCmp) [] E0 (tCons ta (tCons tb tNil))) (tC (.int 0)))) r (decide (a < b)) :=
  et_is (tt_test (ed_b (e_cmp ha hb h k) ed_int)) (decide_eq_decide.mpr cmp_lt)
theorem t_gt (ha : EvD K C ta r (rat a)) (hb : EvD K C tb r (rat b)) (h : Big a) (k : Big b) : EvTt K C (tTest (tOp (rI0 fun i j => .bl (decide (j < i))) (tCall (spR K C RCmp) [] E0 (tCons ta (tCons tb tNil))) (tC (.int 0)))) r (decide (b < a)) :=
  et_is (tt_test (ed_b (e_cmp ha hb h k) ed_int)) (decide_eq_decide.mpr cmp_gt)
theorem t_ge (ha : EvD K C ta r (rat a)) (hb : EvD K C tb r (rat b)) (h : Big a) (k : Big b) : EvTt K C (tTest (tOp (rI0 fun i j => .bl (decide (j ≤ i))) (tCall (spR K C RCmp) [] E0 (tCons ta (tCons tb tNil))) (tC (.int 0)))) r (decide (b ≤ a)) :=
  et_is (tt_test (ed_b (e_cmp ha hb h k) ed_int)) (decide_eq_decide.mpr cmp_ge)
theorem t_ne (ha : EvD K C ta r (rat a)) (hb : EvD K C tb r (rat b)) (h : Big a) (k : Big b) : EvTt K C (tTest (tOp rNe (tCall (spR K C RCmp) [] E0 (tCons ta (tCons tb tNil))) (tC (.int 0)))) r (!decide (a = b)) :=
  et_is (tt_test (ed_neI (e_cmp ha hb h k) ed_int)) (by rw [decide_eq_decide.mpr cmp_eq])
theorem t_eq (ha : EvD K C ta r (rat a)) (hb : EvD K C tb r (rat b)) (h : Big a) (k : Big b) : EvTt K C (tTest (tOp rEq (tCall (spR K C RCmp) [] E0 (tCons ta (tCons tb tNil))) (tC (.int 0)))) r (decide (a = b)) :=
  et_is (tt_test (ed_eqI (e_cmp ha hb h k) ed_int)) (decide_eq_decide.mpr cmp_eq)
/-- items of tuples by places -/
theorem e_k0 {p : Kn} (h : EvD K C te r (kn p)) : EvD K C (tOp (rIxT K) te (tC (.int 0))) r (rat p.1) := ed_ixT h ed_int rfl
theorem e_k1 {p : Kn} (h : EvD K C te r (kn p)) : EvD K C (tOp (rIxT K) te (tC (.int 1))) r (rat p.2) := ed_ixT h ed_int rfl
theorem e_ix {ds : List Dat} {i : Int} {n : Nat} {d : Dat} (h : EvD K C te r (.tup ds)) (hi : EvD K C ti r (.int i)) (e : i = (n : Int)) (g : ds[n]? = some d) : EvD K C (tOp (rIxT K) te ti) r d := ed_ixT h hi (by rw [e]; exact atI_get g)
theorem e_ixL {ds : List Dat} {i : Int} {n : Nat} {d : Dat} (h : EvL K C te r ds) (hi : EvD K C ti r (.int i)) (e : i = (n : Int)) (g : ds[n]? = some d) : EvD K C (tOp (rIxL K) te ti) r d := ed_ixL h hi (by rw [e]; exact atI_get g)
theorem e_kn {l : List Kn} {i : Int} {n : Nat} (h : EvD K C te r (kns l)) (hi : EvD K C ti r (.int i)) (e : i = (n : Int)) (g : n < l.length) : EvD K C (tOp (rIxT K) te ti) r (kn (kA l n, AC.kV l n)) := e_ix h hi e (knget g)
theorem e_knL {l : List Kn} {i : Int} {n : Nat} (h : EvL K C te r (l.map kn)) (hi : EvD K C ti r (.int i)) (e : i = (n : Int)) (g : n < l.length) : EvD K C (tOp (rIxL K) te ti) r (kn (kA l n, AC.kV l n)) := e_ixL h hi e (knget g)
/-- places of a glob -/
theorem e_glob {v : V} {d : Dat} (h : ∀ H, Im K C H v d) : EvD K C (tC v) r d := ed_c h
end
/-! line_slope -/
abbrev s_line_slope : Stmt := topS 33
theorem sc_line_slope : FnScope ["left", "right"] ["left", "right"] (defScope s_line_slope) := ⟨rfl, rfl, rfl, by decide +kernel, rfl, by decide +kernel, by decide +kernel⟩
-- slots: 0:left 1:right
/-! value_at -/
abbrev s_value_at : Stmt := topS 34
theorem sc_value_at : FnScope ["knots", "amount", "k", "slope"] ["knots", "amount"] (defScope s_value_at) := ⟨rfl, rfl, rfl, by decide +kernel, rfl, by decide +kernel, by decide +kernel⟩
-- slots: 0:knots 1:amount 2:k 3:slope
/-! first_wrong -/
abbrev s_first_wrong : Stmt := topS 36
theorem sc_first_wrong : FnScope ["knots", "before", "k", "slope"] ["knots"] (defScope s_first_wrong) := ⟨rfl, rfl, rfl, by decide +kernel, rfl, by decide +kernel, by decide +kernel⟩
-- slots: 0:knots 1:before 2:k 3:slope

/-! ### promises -/
inductive RSlope : List Ar → Ar → Prop
  | mk (p q : Kn) (n : Nat) : n ≤ 5000000 → Sz n p.1 → Sz n p.2 → Sz n q.1 → Sz n q.2 → p.1 < q.1 → RSlope [.dat (kn p), .dat (kn q)] (.dat (rat (slp p q)))
inductive RVal : List Ar → Ar → Prop
  | mk (l : List Kn) (m : Rat) (n j : Nat) : Good 0 l → l.length ≤ 900 → KSz n l → Sz j m → n ≤ 2500000 → j ≤ 15000000 → RVal [.dat (kns l), .dat (rat m)] (.dat (rat (Fx 0 l m)))
inductive RWrong : List Ar → Ar → Prop
  | mk (l : List Kn) (n : Nat) : GoodS 0 l → l.length ≤ 900 → KSz n l → n ≤ 2500000 → RWrong [.dat (kns l)] (.dat .non)
inductive RStr : List Ar → Ar → Prop
  | mk (l : List Kn) (n : Nat) : Good 0 l → l.length ≤ 900 → KSz n l → n ≤ 2500000 → RStr [.lst (l.map kn)] (.dat (kns (str 0 l)))
/-- the merged amounts -/
def mrg : List Kn → List Kn → List Rat
  | [], l' => l'.map (·.1)
  | p :: r, [] => (p :: r).map (·.1)
  | p :: r, q :: r' => if p.1 < q.1 then p.1 :: mrg r (q :: r') else if q.1 < p.1 then q.1 :: mrg (p :: r) r' else p.1 :: mrg r r'
  termination_by l l' => l.length + l'.length
inductive RMrg : List Ar → Ar → Prop
  | mk (l l' : List Kn) (n : Nat) : l.length ≤ 400 → l'.length ≤ 400 → KSz n l → KSz n l' → n ≤ 2500000 → RMrg [.dat (kns l), .dat (kns l')] (.lst ((mrg l l').map rat))
/-- the loss and where -/
def lackStep (l l' : List Kn) (acc : Rat × Option Rat) (m : Rat) : Rat × Option Rat := if acc.1 < Fx 0 l' m - Fx 0 l m then (Fx 0 l' m - Fx 0 l m, some m) else acc
def lackOf (l l' : List Kn) : Rat × Option Rat := (mrg l l').foldl (lackStep l l') (0, none)
def optD : Option Rat → Dat
  | none => .non
  | some m => rat m
inductive RLack : List Ar → Ar → Prop
  | mk (l l' : List Kn) (n : Nat) : Good 0 l → Good 0 l' → l.length ≤ 400 → l'.length ≤ 400 → KSz n l → KSz n l' → n ≤ 2500000 → RLack [.dat (kns l), .dat (kns l')] (.dat (.tup [rat (lackOf l l').1, optD (lackOf l l').2]))

theorem slp_sz {p q : Kn} {n : Nat} (h1 : Sz n p.1) (h2 : Sz n p.2) (h3 : Sz n q.1) (h4 : Sz n q.2) (h : p.1 < q.1) : Sz (4 * n + 2) (slp p q) := by
  have a := (h4.sub h2).div (h3.sub h1) (by grind)
  exact a.mono (by omega)
theorem mrg_mem : ∀ (l l' : List Kn) (m : Rat), m ∈ mrg l l' → (∃ p ∈ l, m = p.1) ∨ ∃ p ∈ l', m = p.1
  | [], l', m, h => by
    unfold mrg at h
    obtain ⟨p, hp, e⟩ := List.mem_map.mp h
    exact .inr ⟨p, hp, e.symm⟩
  | p :: r, [], m, h => by
    unfold mrg at h
    obtain ⟨q, hq, e⟩ := List.mem_map.mp h
    exact .inl ⟨q, hq, e.symm⟩
  | p :: r, q :: r', m, h => by
    unfold mrg at h
    by_cases c : p.1 < q.1
    · rw [if_pos c] at h
      rcases List.mem_cons.mp h with e | e
      · exact .inl ⟨p, List.mem_cons_self .., e⟩
      · rcases mrg_mem r (q :: r') m e with ⟨x, hx, e⟩ | x
        · exact .inl ⟨x, List.mem_cons_of_mem _ hx, e⟩
        · exact .inr x
    · rw [if_neg c] at h
      by_cases d : q.1 < p.1
      · rw [if_pos d] at h
        rcases List.mem_cons.mp h with e | e
        · exact .inr ⟨q, List.mem_cons_self .., e⟩
        · rcases mrg_mem (p :: r) r' m e with x | ⟨x, hx, e⟩
          · exact .inl x
          · exact .inr ⟨x, List.mem_cons_of_mem _ hx, e⟩
      · rw [if_neg d] at h
        rcases List.mem_cons.mp h with e | e
        · exact .inl ⟨p, List.mem_cons_self .., e⟩
        · rcases mrg_mem r r' m e with ⟨x, hx, e⟩ | ⟨x, hx, e⟩
          · exact .inl ⟨x, List.mem_cons_of_mem _ hx, e⟩
          · exact .inr ⟨x, List.mem_cons_of_mem _ hx, e⟩
  termination_by l l' => l.length + l'.length
theorem mrg_all : ∀ (l l' : List Kn), (∀ p ∈ l, p.1 ∈ mrg l l') ∧ ∀ p ∈ l', p.1 ∈ mrg l l'
  | [], l' => by
    unfold mrg
    exact ⟨fun p h => absurd h List.not_mem_nil, fun p h => List.mem_map.mpr ⟨p, h, rfl⟩⟩
  | p :: r, [] => by
    unfold mrg
    exact ⟨fun p h => List.mem_map.mpr ⟨p, h, rfl⟩, fun p h => by cases h⟩
  | p :: r, q :: r' => by
    unfold mrg
    have fst : ∀ {l : List Kn} {x0 : Kn} {m : Rat} {ms : List Rat}, x0.1 = m → (∀ p ∈ l, p.1 ∈ ms) → ∀ p ∈ x0 :: l, p.1 ∈ m :: ms := fun {l x0 m ms} e h x hx => by
      rcases List.mem_cons.mp hx with q | q
      · rw [q, e]; exact List.mem_cons_self ..
      · exact List.mem_cons_of_mem _ (h x q)
    have oth : ∀ {l : List Kn} {m : Rat} {ms : List Rat}, (∀ p ∈ l, p.1 ∈ ms) → ∀ p ∈ l, p.1 ∈ m :: ms := fun h x hx => List.mem_cons_of_mem _ (h x hx)
    by_cases c : p.1 < q.1
    · rw [if_pos c]
      obtain ⟨a, b⟩ := mrg_all r (q :: r')
      exact ⟨fst rfl a, oth b⟩
    · rw [if_neg c]
      by_cases d : q.1 < p.1
      · rw [if_pos d]
        obtain ⟨a, b⟩ := mrg_all (p :: r) r'
        exact ⟨oth a, fst rfl b⟩
      · rw [if_neg d]
        have e0 : p.1 = q.1 := by grind
        obtain ⟨a, b⟩ := mrg_all r r'
        exact ⟨fst rfl a, fst e0.symm b⟩
  termination_by l l' => l.length + l'.length
theorem mrg_len : ∀ (l l' : List Kn), (mrg l l').length ≤ l.length + l'.length
  | [], l' => by unfold mrg; rw [List.length_map]; simp
  | p :: r, [] => by unfold mrg; rw [List.length_map]; simp
  | p :: r, q :: r' => by
    unfold mrg
    by_cases c : p.1 < q.1
    · rw [if_pos c]; have := mrg_len r (q :: r'); simp only [List.length_cons] at *; omega
    · rw [if_neg c]
      by_cases d : q.1 < p.1
      · rw [if_pos d]; have := mrg_len (p :: r) r'; simp only [List.length_cons] at *; omega
      · rw [if_neg d]; have := mrg_len r r'; simp only [List.length_cons] at *; omega
  termination_by l l' => l.length + l'.length
theorem KSz.mem {n : Nat} {l : List Kn} (h : KSz n l) {p : Kn} (hp : p ∈ l) : Sz n p.1 ∧ Sz n p.2 := by
  obtain ⟨k, hk, e⟩ := List.getElem_of_mem hp
  have a := h k hk
  have b := kget hk
  rw [List.getElem?_eq_getElem hk, e] at b
  have b := Option.some.inj b
  rw [b]
  exact a
theorem Fx_sz : ∀ {l : List Kn} {n j : Nat} {m : Rat}, Good 0 l → KSz n l → Sz j m → Sz (6 * n + j + 4) (Fx 0 l m) := by
  intro l n j m g hs hm
  have pos := List.length_pos_iff.mpr g.ne
  by_cases h0 : m ≤ kA l 0
  · rw [Fx_first g.ne h0]
    exact (hs 0 pos).2.mono (by omega)
  · by_cases h1 : kA l (l.length - 1) ≤ m
    · rw [Fx_last g h1]
      exact hm.mono (by omega)
    · -- between two knots
      have key : ∀ k, k < l.length → m ≤ kA l k → ∃ i, i + 1 < l.length ∧ kA l i ≤ m ∧ m ≤ kA l (i + 1) := by
        intro k
        induction k with
        | zero => intro _ h; exact absurd h h0
        | succ k ih =>
          intro hk h
          by_cases c : m ≤ kA l k
          · exact ih (by omega) c
          · exact ⟨k, hk, by grind, h⟩
      obtain ⟨i, hi, a, b⟩ := key (l.length - 1) (by omega) (by grind)
      rw [Fx_mid g hi a b]
      have s1 := hs i (by omega)
      have s2 := hs (i + 1) hi
      have as := g.asc i hi
      have sl := (s2.2.sub s1.2).div (s2.1.sub s1.1) (by grind)
      exact (s1.2.add (sl.mul (hm.sub s1.1))).mono (by omega)
section
variable {P : Program} {w : World} {K : Frg} {C : Addr} {mg : Str → Option Value} {base : Heap} {z1 o1 z2 o2 z3 o3 : Addr} (G : Glo K mg base z1 o1 z2 o2 z3 o3) (T : Rt P w K C mg base)
include T in
theorem has_line_slope (F : Def K mg "line_slope" s_line_slope ["left", "right"]) : Has P w K mg base "line_slope" 43 ["left", "right"] (spR K C RSlope) := by
  obtain ⟨f, fd, F, m, b⟩ := F
  have h_subtract := T.sub
  have h_divide := T.div
  refine has_of F m b (fn_ok F sc_line_slope (fun as z h => by cases h; rfl) fun cdv A outer s H Q E hr as z h => ?_)
  obtain ⟨p, q, n, hn, h1, h2, h3, h4, hlt⟩ := h
  refine ⟨_, (pss_one (ps_ret (pe_has h_divide (hr.mono (by decide)) (by rfl) (pa_cons (pe_has h_subtract (hr.mono (by decide)) (by rfl) (pa_cons (pe_ix ix_tup (pv 1) pe_int (fun _ _ => rfl)) (pa_cons (pe_ix ix_tup (pv 0) pe_int (fun _ _ => rfl)) pa_nil))) (pa_cons (pe_has h_subtract (hr.mono (by decide)) (by rfl) (pa_cons (pe_ix ix_tup (pv 1) pe_int (fun _ _ => rfl)) (pa_cons (pe_ix ix_tup (pv 0) pe_int (fun _ _ => rfl)) pa_nil))) pa_nil))))), ?_⟩
  exact st_ret (e_div (e_sub (e_k1 (ed_var rfl)) (e_k1 (ed_var rfl)) (h4.big (by omega)) (h2.big (by omega))) (e_sub (e_k0 (ed_var rfl)) (e_k0 (ed_var rfl)) (h3.big (by omega)) (h1.big (by omega))) ((h4.sub h2).big (by omega)) ((h3.sub h1).big (by omega)) (by grind)) rfl
include G T in
theorem has_value_at (h_line_slope : Has P w K mg base "line_slope" 43 ["left", "right"] (spR K C RSlope)) (F : Def K mg "value_at" s_value_at ["knots", "amount"]) : Has P w K mg base "value_at" 44 ["knots", "amount"] (spR K C RVal) := by
  obtain ⟨f, fd, F, m, b⟩ := F
  have h_subtract := T.sub
  have h_add := T.add
  have h_multiply := T.mul
  have h_compare := T.cmp
  refine has_of F m b (fn_ok F sc_value_at (fun as z h => by cases h; rfl) fun cdv A outer s H Q E hr as z h => ?_)
  obtain ⟨l, m, n, j, hg, hl, hs, hm, hn, hj⟩ := h
  refine ⟨_, (pss_cons (ps_if (pt_cmpR op_le (pe_has h_compare (hr.mono (by decide)) (by rfl) (pa_cons (pv 1) (pa_cons (pe_ix ix_tup (pe_ix ix_tup (pv 0) pe_int (fun _ _ => rfl)) pe_int (fun _ _ => rfl)) pa_nil))) pe_int (nomark _)) (pss_one (ps_ret (pe_ix ix_tup (pe_ix ix_tup (pv 0) pe_int (fun _ _ => rfl)) pe_int (fun _ _ => rfl)))) pss_nil)
    (pss_cons (ps_for PassesOwn.never rfl (pi_range2 (by rfl) G.range (pa_cons pe_int (pa_cons (pe_callB cr_len (by rfl) G.len PySem.boot_len (pa_cons (pv 0) pa_nil)) pa_nil))) (pg_name (i := 2) sc_value_at.nd rfl (.inl rfl)) (pss_one (ps_if (pt_cmpR op_le (pe_has h_compare (hr.mono (by decide)) (by rfl) (pa_cons (pv 1) (pa_cons (pe_ix ix_tup (pe_ix ix_tup (pv 0) (pv 2) (fun _ _ => rfl)) pe_int (fun _ _ => rfl)) pa_nil))) pe_int (nomark _)) (pss_cons (ps_set (i := 3) sc_value_at.nd rfl (.inl rfl) (pe_has h_line_slope (hr.mono (by decide)) (by rfl) (pa_cons (pe_ix ix_tup (pv 0) (pe_op op_sub (pv 2) pe_int) (fun _ _ => rfl)) (pa_cons (pe_ix ix_tup (pv 0) (pv 2) (fun _ _ => rfl)) pa_nil))))
    (pss_one (ps_ret (pe_has h_add (hr.mono (by decide)) (by rfl) (pa_cons (pe_ix ix_tup (pe_ix ix_tup (pv 0) (pe_op op_sub (pv 2) pe_int) (fun _ _ => rfl)) pe_int (fun _ _ => rfl)) (pa_cons (pe_has h_multiply (hr.mono (by decide)) (by rfl) (pa_cons (pv 3) (pa_cons (pe_has h_subtract (hr.mono (by decide)) (by rfl) (pa_cons (pv 1) (pa_cons (pe_ix ix_tup (pe_ix ix_tup (pv 0) (pe_op op_sub (pv 2) pe_int) (fun _ _ => rfl)) pe_int (fun _ _ => rfl)) pa_nil))) pa_nil))) pa_nil)))))) pss_nil)))
    (pss_one (ps_ret (pv 1))))), ?_⟩
  have pos := List.length_pos_iff.mpr hg.ne
  have hmB : Big m := hm.big (by omega)
  refine st_seq (st_if (t_le (ed_var rfl) (e_k0 (e_kn (n := 0) (ed_var rfl) ed_int rfl pos)) hmB ((hs 0 pos).1.big (by omega))) (fun h => ?_) fun h => st_next ?_)
  · refine st_ret (e_k1 (e_kn (n := 0) (ed_var rfl) ed_int rfl pos)) ?_
    show Ar.dat (rat (AC.kV l 0)) = .dat (rat (Fx 0 l m))
    rw [Fx_first hg.ne (of_decide_eq_true h)]
  · have h0 := of_decide_eq_false h
    refine st_seq (st_forR2 (N := l.length) (lo := 1) (fun i r' => kA l (i - 1) < m ∧ ∃ x y, r' = [.dat (kns l), .dat (rat m), x, y]) (ea_d ed_int (ea_d (ed_is (ed_lenT (ed_var rfl)) (by rw [List.length_map])) ea_nil)) (by omega) (by omega) ⟨by show kA l 0 < m; grind, _, _, rfl⟩ (fun i r' ⟨_, x, y, e⟩ => by rw [e]; exact lt_ok rfl) (fun i r' h1 h2 ⟨hlt, x, y, e⟩ => ?_) (fun r' ⟨hlt, x, y, e⟩ => ?_))
    · subst e
      have s0 := hs (i - 1) (by omega)
      have s1 := hs i h2
      have as := hg.asc (i - 1) (by omega)
      rw [show i - 1 + 1 = i by omega] at as
      refine st_if (t_le (ed_var rfl) (e_k0 (e_kn (n := i) (ed_var rfl) (ed_var rfl) rfl h2)) hmB (s1.1.big (by omega))) (fun h => ?_) fun h => st_next ⟨?_, _, _, rfl⟩
      · refine st_seq (st_asg (ed_call (ea_d (e_kn (n := i - 1) (ed_var rfl) (ed_i (ed_var rfl) ed_int) (by omega) (by omega)) (ea_d (e_kn (n := i) (ed_var rfl) (ed_var rfl) rfl h2) ea_nil)) (.mk _ _ n (by omega) s0.1 s0.2 s1.1 s1.2 as)) (lt_ok rfl) ?_)
        have ssl := slp_sz (p := (kA l (i - 1), AC.kV l (i - 1))) (q := (kA l i, AC.kV l i)) s0.1 s0.2 s1.1 s1.2 as
        refine st_ret (e_add (e_k1 (e_kn (n := i - 1) (ed_var rfl) (ed_i (ed_var rfl) ed_int) (by omega) (by omega))) (e_mul (ed_var rfl) (e_sub (ed_var rfl) (e_k0 (e_kn (n := i - 1) (ed_var rfl) (ed_i (ed_var rfl) ed_int) (by omega) (by omega))) hmB (s0.1.big (by omega))) (ssl.big (by omega)) ((hm.sub s0.1).big (by omega))) (s0.2.big (by omega)) ((ssl.mul (hm.sub s0.1)).big (by omega))) ?_
        have fm := Fx_mid hg (k := i - 1) (m := m) (by omega) (by grind) (by rw [show i - 1 + 1 = i by omega]; exact of_decide_eq_true h)
        unfold kS at fm
        rw [show i - 1 + 1 = i by omega] at fm
        rw [fm]
        rfl
      · have := of_decide_eq_false h
        show kA l i < m
        grind
    · subst e
      refine st_ret (ed_var rfl) ?_
      rw [Fx_last hg (by grind)]
include G T in
theorem has_first_wrong (h_line_slope : Has P w K mg base "line_slope" 43 ["left", "right"] (spR K C RSlope)) (F : Def K mg "first_wrong" s_first_wrong ["knots"]) : Has P w K mg base "first_wrong" 44 ["knots"] (spR K C RWrong) := by
  obtain ⟨f, fd, F, m, b⟩ := F
  have h_compare := T.cmp
  refine has_of F m b (fn_ok F sc_first_wrong (fun as z h => by cases h; rfl) fun cdv A outer s H Q E hr as z h => ?_)
  obtain ⟨l, n, hg, hl, hs, hn⟩ := h
  refine ⟨_, (pss_cons (ps_set (i := 1) sc_first_wrong.nd rfl (.inl rfl) (pe_glob (v := .ref z2) (by rfl) G.ZERO_knots rfl))
    (pss_cons (ps_for PassesOwn.never rfl (pi_range1 (by rfl) G.range (pa_cons (pe_callB cr_len (by rfl) G.len PySem.boot_len (pa_cons (pv 0) pa_nil)) pa_nil)) (pg_name (i := 2) sc_first_wrong.nd rfl (.inl rfl)) (pss_cons (ps_if (pt_cmpR op_gt (pv 2) pe_int (nomark _)) (pss_cons (ps_if (pt_cmpR op_le (pe_has h_compare (hr.mono (by decide)) (by rfl) (pa_cons (pe_ix ix_tup (pe_ix ix_tup (pv 0) (pv 2) (fun _ _ => rfl)) pe_int (fun _ _ => rfl)) (pa_cons (pe_ix ix_tup (pe_ix ix_tup (pv 0) (pe_op op_sub (pv 2) pe_int) (fun _ _ => rfl)) pe_int (fun _ _ => rfl)) pa_nil))) pe_int (nomark _)) (pss_one (ps_ret (pv 2))) pss_nil)
    (pss_cons (ps_set (i := 3) sc_first_wrong.nd rfl (.inl rfl) (pe_has h_line_slope (hr.mono (by decide)) (by rfl) (pa_cons (pe_ix ix_tup (pv 0) (pe_op op_sub (pv 2) pe_int) (fun _ _ => rfl)) (pa_cons (pe_ix ix_tup (pv 0) (pv 2) (fun _ _ => rfl)) pa_nil))))
    (pss_cons (ps_if (PW.pt (pw_or (pt_cmpR op_ge (pe_has h_compare (hr.mono (by decide)) (by rfl) (pa_cons (pv 3) (pa_cons (pe_glob (v := .ref o2) (by rfl) G.ONE_knots rfl) pa_nil))) pe_int (nomark _)) (pw_or1 (pt_cmpR op_le (pe_has h_compare (hr.mono (by decide)) (by rfl) (pa_cons (pv 3) (pa_cons (pv 1) pa_nil))) pe_int (nomark _))))) (pss_one (ps_ret (pv 2))) pss_nil)
    (pss_one (ps_set (i := 1) sc_first_wrong.nd rfl (.inl rfl) (pv 3)))))) pss_nil)
    (pss_one (ps_if (PW.pt (pw_and (pt_cmpR op_eq (pv 2) (pe_op op_sub (pe_callB cr_len (by rfl) G.len PySem.boot_len (pa_cons (pv 0) pa_nil)) pe_int) (nomark _)) (pw_and1 (pt_cmpR op_ne (pe_has h_compare (hr.mono (by decide)) (by rfl) (pa_cons (pe_ix ix_tup (pe_ix ix_tup (pv 0) (pv 2) (fun _ _ => rfl)) pe_int (fun _ _ => rfl)) (pa_cons (pe_ix ix_tup (pe_ix ix_tup (pv 0) (pv 2) (fun _ _ => rfl)) pe_int (fun _ _ => rfl)) pa_nil))) pe_int (nomark _))))) (pss_one (ps_ret (pv 2))) pss_nil))))
    (pss_one (ps_ret pe_non)))), ?_⟩
  have pos := List.length_pos_iff.mpr hg.good.ne
  have bef : ∀ i, i < l.length → ∀ be : Rat, be = (if i ≤ 1 then 0 else kS l (i - 2)) → Sz (4 * n + 2) be ∧ (1 ≤ i → be < kS l (i - 1)) := fun i hi be e => by
    by_cases c : i ≤ 1
    · rw [if_pos c] at e
      subst e
      refine ⟨Sz.zero.mono (by omega), fun h => ?_⟩
      rw [show i - 1 = 0 by omega]
      exact (hg.slopes 0 (by omega)).1
    · rw [if_neg c] at e
      subst e
      have s0 := hs (i - 2) (by omega)
      have s1 := hs (i - 2 + 1) (by omega)
      refine ⟨slp_sz (p := (kA l (i - 2), AC.kV l (i - 2))) (q := (kA l (i - 2 + 1), AC.kV l (i - 2 + 1))) s0.1 s0.2 s1.1 s1.2 (hg.good.asc (i - 2) (by omega)), fun h => ?_⟩
      have := hg.rise (i - 2) (by omega)
      rw [show i - 2 + 1 = i - 1 by omega] at this
      exact this
  refine st_seq (st_asg (e_glob (G.z2 C)) (lt_ok rfl) ?_)
  refine st_seq (st_forR (N := l.length) (fun i r' => ∃ x y, r' = [.dat (kns l), .dat (rat (if i ≤ 1 then 0 else kS l (i - 2))), x, y]) (ea_d (ed_is (ed_lenT (ed_var rfl)) (by rw [List.length_map])) ea_nil) (by omega) ⟨_, _, rfl⟩ (fun i r' ⟨x, y, e⟩ => by rw [e]; exact lt_ok rfl) (fun i r' h2 ⟨x, y, e⟩ => ?_) (fun r' ⟨x, y, e⟩ => ?_))
  · subst e
    have s1 := hs i h2
    refine st_cut (fun r' => ∃ (be : Rat) (y : Sd), be = (if i + 1 ≤ 1 then 0 else kS l (i + 1 - 2)) ∧ r' = [.dat (kns l), .dat (rat be), .dat (.int (i : Int)), y]) (st_if (tt_test (ed_b (ed_var rfl) ed_int)) (fun h => ?_) fun h => st_next ?_) ?_
    · have hi : 1 ≤ i := by have := of_decide_eq_true h; omega
      have s0 := hs (i - 1) (by omega)
      have as := hg.good.asc (i - 1) (by omega)
      rw [show i - 1 + 1 = i by omega] at as
      obtain ⟨b1, b2⟩ := bef i h2 _ rfl
      have ssl := slp_sz (p := (kA l (i - 1), AC.kV l (i - 1))) (q := (kA l i, AC.kV l i)) s0.1 s0.2 s1.1 s1.2 as
      have esl : slp (kA l (i - 1), AC.kV l (i - 1)) (kA l i, AC.kV l i) = kS l (i - 1) := by
        unfold kS
        rw [show i - 1 + 1 = i by omega]
        rfl
      have sr := hg.slopes (i - 1) (by omega)
      refine st_seq (st_if (b := false) (et_is (t_le (e_k0 (e_kn (n := i) (ed_var rfl) (ed_var rfl) rfl h2)) (e_k0 (e_kn (n := i - 1) (ed_var rfl) (ed_i (ed_var rfl) ed_int) (by omega) (by omega))) (s1.1.big (by omega)) (s0.1.big (by omega))) (decide_eq_false (by grind))) (fun h => by cases h) fun _ => st_next ?_)
      refine st_seq (st_asg (ed_call (ea_d (e_kn (n := i - 1) (ed_var rfl) (ed_i (ed_var rfl) ed_int) (by omega) (by omega)) (ea_d (e_kn (n := i) (ed_var rfl) (ed_var rfl) rfl h2) ea_nil)) (.mk _ _ n (by omega) s0.1 s0.2 s1.1 s1.2 as)) (lt_ok rfl) ?_)
      refine st_seq (st_if (b := false) (et_is (tt_or (t_ge (ed_var rfl) (e_glob (G.o2 C)) (ssl.big (by omega)) (Sz.one.big (by decide))) (fun _ => t_le (ed_var rfl) (ed_var rfl) (ssl.big (by omega)) (b1.big (by omega)))) ?_) (fun h => by cases h) fun _ => st_next ?_)
      · rw [esl, decide_eq_false (show ¬ (1 : Rat) ≤ kS l (i - 1) by grind), decide_eq_false (show ¬ kS l (i - 1) ≤ _ by have := b2 hi; grind)]
        rfl
      · refine st_asg (ed_var rfl) (lt_ok rfl) ⟨_, _, ?_, rfl⟩
        rw [esl, if_neg (by omega), show i + 1 - 2 = i - 1 by omega]
    · have hi : i = 0 := by have := of_decide_eq_false h; omega
      refine ⟨_, _, ?_, rfl⟩
      rw [if_pos (by omega), if_pos (by omega)]
    · intro r' ⟨be, y, hbe, e⟩
      subst e
      refine st_if (b := false) (et_is (tt_and (tt_test (ed_eqI (ed_var rfl) (ed_i (ed_lenT (ed_var rfl)) ed_int))) (fun _ => t_ne (e_k0 (e_kn (n := i) (ed_var rfl) (ed_var rfl) rfl h2)) (e_k1 (e_kn (n := i) (ed_var rfl) (ed_var rfl) rfl h2)) (s1.1.big (by omega)) (s1.2.big (by omega)))) ?_) (fun h => by cases h) (fun _ => st_next ⟨_, _, by rw [hbe]⟩)
      by_cases c : i = l.length - 1
      · rw [show decide (kA l i = AC.kV l i) = true from decide_eq_true (by rw [c]; exact hg.good.last.symm)]
        simp
      · rw [List.length_map, show decide ((i : Int) = ((l.length : Nat) : Int) - 1) = false from decide_eq_false (by omega)]
        simp
  · subst e
    exact st_ret ed_non rfl
end
end AW

set_option Elab.async false
set_option linter.all false
set_option maxRecDepth 100000
set_option maxHeartbeats 4000000
/-! the walk: straightened, merged_amounts, lack_of -/
namespace AW
open PySem PySem.Spec PyProof.Rows L2 AC
/-! straightened -/
abbrev s_straightened : Stmt := topS 37
theorem sc_straightened : FnScope ["points", "knots", "before", "k", "after"] ["points"] (defScope s_straightened) := ⟨rfl, rfl, rfl, by decide +kernel, rfl, by decide +kernel, by decide +kernel⟩
-- slots: 0:points 1:knots 2:before 3:k 4:after
/-! merged_amounts -/
abbrev s_merged_amounts : Stmt := topS 38
theorem sc_merged_amounts : FnScope ["first", "second", "amounts", "i", "j", "order"] ["first", "second"] (defScope s_merged_amounts) := ⟨rfl, rfl, rfl, by decide +kernel, rfl, by decide +kernel, by decide +kernel⟩
-- slots: 0:first 1:second 2:amounts 3:i 4:j 5:order
/-! lack_of -/
abbrev s_lack_of : Stmt := topS 43
theorem sc_lack_of : FnScope ["first", "second", "loss", "where", "amount", "gap"] ["first", "second"] (defScope s_lack_of) := ⟨rfl, rfl, rfl, by decide +kernel, rfl, by decide +kernel, by decide +kernel⟩
-- slots: 0:first 1:second 2:loss 3:where 4:amount 5:gap
def aft (p : Kn) : List Kn → Rat
  | [] => 1
  | q :: _ => slp p q
theorem str_cons (be : Rat) (p : Kn) (rest : List Kn) : str be (p :: rest) = (if be = aft p rest then [] else [p]) ++ str (aft p rest) rest := by
  cases rest with
  | nil =>
    show (if be = 1 then [] else [p]) = _
    show _ = (if be = 1 then [] else [p]) ++ []
    rw [List.append_nil]
  | cons q r =>
    show (if be = slp p q then str (slp p q) (q :: r) else p :: str (slp p q) (q :: r)) = (if be = slp p q then [] else [p]) ++ str (slp p q) (q :: r)
    by_cases h : be = slp p q
    · rw [if_pos h, if_pos h] <;> rfl
    · rw [if_neg h, if_neg h] <;> rfl
theorem drop_cons {l : List Kn} {k : Nat} (h : k < l.length) : l.drop k = (kA l k, AC.kV l k) :: l.drop (k + 1) := by
  rw [List.drop_eq_getElem_cons h]
  have := kget h
  rw [List.getElem?_eq_getElem h] at this
  rw [Option.some.inj this]
theorem aft_at {l : List Kn} {k : Nat} (h : k < l.length) : aft (kA l k, AC.kV l k) (l.drop (k + 1)) = if k + 1 < l.length then slp (kA l k, AC.kV l k) (kA l (k + 1), AC.kV l (k + 1)) else 1 := by
  by_cases c : k + 1 < l.length
  · rw [if_pos c, drop_cons c] <;> rfl
  · rw [if_neg c, List.drop_of_length_le (by omega)] <;> rfl
theorem mrg_left (l : List Kn) : mrg l [] = l.map (·.1) := by cases l <;> unfold mrg <;> rfl
theorem mrg_right (l : List Kn) : mrg [] l = l.map (·.1) := by unfold mrg; rfl
section
variable {P : Program} {w : World} {K : Frg} {C : Addr} {mg : Str → Option Value} {base : Heap} {z1 o1 z2 o2 z3 o3 : Addr} (G : Glo K mg base z1 o1 z2 o2 z3 o3) (T : Rt P w K C mg base)
include G T in
theorem has_straightened (h_line_slope : Has P w K mg base "line_slope" 43 ["left", "right"] (spR K C RSlope)) (F : Def K mg "straightened" s_straightened ["points"]) : Has P w K mg base "straightened" 44 ["points"] (spR K C RStr) := by
  obtain ⟨f, fd, F, m, b⟩ := F
  have h_compare := T.cmp
  refine has_of F m b (fn_ok F sc_straightened (fun as z h => by cases h; rfl) fun cdv A outer s H Q E hr as z h => ?_)
  obtain ⟨l, n, hg, hl, hs, hn⟩ := h
  refine ⟨_, (pss_cons (ps_set (i := 1) sc_straightened.nd rfl (.inl rfl) (pe_lst pa_nil))
    (pss_cons (ps_set (i := 2) sc_straightened.nd rfl (.inl rfl) (pe_glob (v := .ref z2) (by rfl) G.ZERO_knots rfl))
    (pss_cons (ps_for PassesOwn.never rfl (pi_range1 (by rfl) G.range (pa_cons (pe_callB cr_len (by rfl) G.len PySem.boot_len (pa_cons (pv 0) pa_nil)) pa_nil)) (pg_name (i := 3) sc_straightened.nd rfl (.inl rfl)) (pss_cons (ps_set (i := 4) sc_straightened.nd rfl (.inl rfl) (pe_glob (v := .ref o2) (by rfl) G.ONE_knots rfl))
    (pss_cons (ps_if (pt_cmpR op_lt (pe_op op_add (pv 3) pe_int) (pe_callB cr_len (by rfl) G.len PySem.boot_len (pa_cons (pv 0) pa_nil)) (nomark _)) (pss_one (ps_set (i := 4) sc_straightened.nd rfl (.inl rfl) (pe_has h_line_slope (hr.mono (by decide)) (by rfl) (pa_cons (pe_ix ix_list (pv 0) (pv 3) (fun _ _ => rfl)) (pa_cons (pe_ix ix_list (pv 0) (pe_op op_add (pv 3) pe_int) (fun _ _ => rfl)) pa_nil))))) pss_nil)
    (pss_cons (ps_if (pt_cmpR op_ne (pe_has h_compare (hr.mono (by decide)) (by rfl) (pa_cons (pv 2) (pa_cons (pv 4) pa_nil))) pe_int (nomark _)) (pss_one (ps_expr (pe_bm PySem.F.plainAttrs_list PySem.F.slot_list_append PySem.F.type_list_append mt_append (pv 1) (pa_cons (pe_ix ix_list (pv 0) (pv 3) (fun _ _ => rfl)) pa_nil)))) pss_nil)
    (pss_one (ps_set (i := 2) sc_straightened.nd rfl (.inl rfl) (pv 4)))))))
    (pss_one (ps_ret (pe_callTy cr_tup (by rfl) G.tuple b_tuple (pa_cons (pv 1) pa_nil))))))), ?_⟩
  refine st_seq (st_asgN en_l0 (lt_ok rfl) fun a => ?_)
  refine st_seq (st_asg (e_glob (G.z2 C)) (lt_ok rfl) ?_)
  refine st_seq (st_forR (N := l.length) (fun i r' => ∃ (acc : List Kn) (be : Rat) (x y : Sd), r' = [.lst (l.map kn), .own a (acc.map kn), .dat (rat be), x, y] ∧ acc ++ str be (l.drop i) = str 0 l ∧ Sz (4 * n + 2) be ∧ acc.length ≤ i) (ea_d (ed_is (ed_lenL (el_var rfl)) (by rw [List.length_map])) ea_nil) (by omega) ⟨[], 0, _, _, rfl, rfl, Sz.zero.mono (by omega), Nat.zero_le _⟩ (fun i r' ⟨acc, be, x, y, e, _⟩ => by rw [e]; exact lt_ok rfl) (fun i r' h2 ⟨acc, be, x, y, e, h3, h4, h5⟩ => ?_) (fun r' ⟨acc, be, x, y, e, h3, h4, h5⟩ => ?_))
  · subst e
    have s1 := hs i h2
    refine st_seq (st_asg (e_glob (G.o2 C)) (lt_ok rfl) ?_)
    refine st_cut (fun r' => ∃ af : Rat, af = aft (kA l i, AC.kV l i) (l.drop (i + 1)) ∧ Sz (4 * n + 2) af ∧ r' = [.lst (l.map kn), .own a (acc.map kn), .dat (rat be), .dat (.int (i : Int)), .dat (rat af)]) (st_if (tt_test (ed_b (ed_i (ed_var rfl) ed_int) (ed_is (ed_lenL (el_var rfl)) (by rw [List.length_map])))) (fun h => ?_) fun h => st_next ⟨1, ?_, Sz.one.mono (by omega), rfl⟩) ?_
    · have hi : i + 1 < l.length := by have := of_decide_eq_true h; omega
      have s2 := hs (i + 1) hi
      have as := hg.asc i hi
      refine st_asg (ed_call (ea_d (e_knL (n := i) (el_var rfl) (ed_var rfl) rfl h2) (ea_d (e_knL (n := i + 1) (el_var rfl) (ed_i (ed_var rfl) ed_int) (by omega) hi) ea_nil)) (.mk _ _ n (by omega) s1.1 s1.2 s2.1 s2.2 as)) (lt_ok rfl) ⟨_, ?_, slp_sz (p := (kA l i, AC.kV l i)) (q := (kA l (i + 1), AC.kV l (i + 1))) s1.1 s1.2 s2.1 s2.2 as, rfl⟩
      rw [aft_at h2, if_pos hi]
    · have hi : ¬ i + 1 < l.length := by have := of_decide_eq_false h; omega
      rw [aft_at h2, if_neg hi]
    · intro r' ⟨af, haf, hsz, e⟩
      subst e
      rw [drop_cons h2, str_cons, ← haf] at h3
      refine st_cut (fun r' => ∃ acc' : List Kn, acc' ++ str af (l.drop (i + 1)) = str 0 l ∧ acc'.length ≤ i + 1 ∧ r' = [.lst (l.map kn), .own a (acc'.map kn), .dat (rat be), .dat (.int (i : Int)), .dat (rat af)]) (st_if (t_ne (ed_var rfl) (ed_var rfl) (h4.big (by omega)) (hsz.big (by omega))) (fun h => ?_) fun h => st_next ⟨acc, ?_, by omega, rfl⟩) ?_
      · have ne : ¬ be = af := by
          intro q
          rw [decide_eq_true q] at h
          cases h
        refine st_app rfl (e_knL (n := i) (el_var rfl) (ed_var rfl) rfl h2) (by rw [List.length_map]; omega) ⟨acc ++ [(kA l i, AC.kV l i)], ?_, by rw [List.length_append]; exact Nat.succ_le_succ h5, by rw [List.map_append] <;> rfl⟩
        rw [if_neg ne] at h3
        rw [List.append_assoc]
        exact h3
      · have eq : be = af := by
          apply Classical.byContradiction
          intro q
          rw [decide_eq_false q] at h
          cases h
        rw [if_pos eq] at h3
        exact h3
      · intro r' ⟨acc', h6, h7, e⟩
        subst e
        exact st_asg (ed_var rfl) (lt_ok rfl) ⟨acc', af, _, _, rfl, h6, hsz, h7⟩
  · subst e
    rw [List.drop_length] at h3
    have e2 : acc = str 0 l := by
      rw [← h3]
      show acc = acc ++ []
      rw [List.append_nil]
    refine st_ret (ed_tupL (el_own rfl)) ?_
    rw [e2]
include G T in
theorem has_merged_amounts (F : Def K mg "merged_amounts" s_merged_amounts ["first", "second"]) : Has P w K mg base "merged_amounts" 43 ["first", "second"] (spR K C RMrg) := by
  obtain ⟨f, fd, F, m, b⟩ := F
  have h_compare := T.cmp
  refine has_of F m b (fn_ok F sc_merged_amounts (fun as z h => by cases h; rfl) fun cdv A outer s H Q E hr as z h => ?_)
  obtain ⟨l, l', n, hl, hl', hs, hs', hn⟩ := h
  refine ⟨_, (pss_cons (ps_set (i := 2) sc_merged_amounts.nd rfl (.inl rfl) (pe_lst pa_nil))
    (pss_cons (ps_set (i := 3) sc_merged_amounts.nd rfl (.inl rfl) pe_int)
    (pss_cons (ps_set (i := 4) sc_merged_amounts.nd rfl (.inl rfl) pe_int)
    (pss_cons (ps_while PassesOwn.never (PW.pt (pw_or (pt_cmpR op_lt (pv 3) (pe_callB cr_len (by rfl) G.len PySem.boot_len (pa_cons (pv 0) pa_nil)) (nomark _)) (pw_or1 (pt_cmpR op_lt (pv 4) (pe_callB cr_len (by rfl) G.len PySem.boot_len (pa_cons (pv 1) pa_nil)) (nomark _))))) (pss_cons (ps_set (i := 5) sc_merged_amounts.nd rfl (.inl rfl) pe_int)
    (pss_cons (ps_if (pt_cmpR op_ge (pv 4) (pe_callB cr_len (by rfl) G.len PySem.boot_len (pa_cons (pv 1) pa_nil)) (nomark _)) (pss_one (ps_set (i := 5) sc_merged_amounts.nd rfl (.inl rfl) (pe_un un_neg pe_int))) (pss_one (ps_if (pt_cmpR op_lt (pv 3) (pe_callB cr_len (by rfl) G.len PySem.boot_len (pa_cons (pv 0) pa_nil)) (nomark _)) (pss_one (ps_set (i := 5) sc_merged_amounts.nd rfl (.inl rfl) (pe_has h_compare (hr.mono (by decide)) (by rfl) (pa_cons (pe_ix ix_tup (pe_ix ix_tup (pv 0) (pv 3) (fun _ _ => rfl)) pe_int (fun _ _ => rfl)) (pa_cons (pe_ix ix_tup (pe_ix ix_tup (pv 1) (pv 4) (fun _ _ => rfl)) pe_int (fun _ _ => rfl)) pa_nil))))) pss_nil)))
    (pss_cons (ps_if (pt_cmpR op_le (pv 5) pe_int (nomark _)) (pss_cons (ps_expr (pe_bm PySem.F.plainAttrs_list PySem.F.slot_list_append PySem.F.type_list_append mt_append (pv 2) (pa_cons (pe_ix ix_tup (pe_ix ix_tup (pv 0) (pv 3) (fun _ _ => rfl)) pe_int (fun _ _ => rfl)) pa_nil)))
    (pss_one (ps_aug (i := 3) sc_merged_amounts.nd rfl (.inl rfl) pe_int ip_add))) (pss_one (ps_expr (pe_bm PySem.F.plainAttrs_list PySem.F.slot_list_append PySem.F.type_list_append mt_append (pv 2) (pa_cons (pe_ix ix_tup (pe_ix ix_tup (pv 1) (pv 4) (fun _ _ => rfl)) pe_int (fun _ _ => rfl)) pa_nil)))))
    (pss_one (ps_if (pt_cmpR op_ge (pv 5) pe_int (nomark _)) (pss_one (ps_aug (i := 4) sc_merged_amounts.nd rfl (.inl rfl) pe_int ip_add)) pss_nil))))))
    (pss_one (ps_ret (pv 2))))))), ?_⟩
  refine st_seq (st_asgN en_l0 (lt_ok rfl) fun a => ?_)
  refine st_seq (st_asg ed_int (lt_ok rfl) ?_)
  refine st_seq (st_asg ed_int (lt_ok rfl) ?_)
  have lenF : ∀ {r : List Sd}, r[0]? = some (.dat (kns l)) → EvD K C (tCB (rLenS K) (tCons (tVar 0) tNil)) r (.int (l.length : Int)) := fun h => ed_is (ed_lenT (ed_var h)) (by rw [List.length_map])
  have lenS : ∀ {r : List Sd}, r[1]? = some (.dat (kns l')) → EvD K C (tCB (rLenS K) (tCons (tVar 1) tNil)) r (.int (l'.length : Int)) := fun h => ed_is (ed_lenT (ed_var h)) (by rw [List.length_map])
  refine st_seq (st_while (fun m r' => ∃ (acc : List Rat) (i j : Nat) (x : Sd), r' = [.dat (kns l), .dat (kns l'), .own a (acc.map rat), .dat (.int (i : Int)), .dat (.int (j : Int)), x] ∧ acc ++ mrg (l.drop i) (l'.drop j) = mrg l l' ∧ acc.length ≤ i + j ∧ i ≤ l.length ∧ j ≤ l'.length ∧ m = (l.length - i) + (l'.length - j)) _ ⟨[], 0, 0, _, rfl, rfl, Nat.zero_le _, Nat.zero_le _, Nat.zero_le _, rfl⟩ (fun m r' ⟨acc, i, j, x, e, h1, h2, h3, h4, h5⟩ => ?_))
  subst e
  refine ⟨_, tt_or (tt_test (ed_b (ed_var rfl) (lenF rfl))) (fun _ => tt_test (ed_b (ed_var rfl) (lenS rfl))), fun hc => ?_, fun hc => ?_⟩
  · have hor : i < l.length ∨ j < l'.length := by
      rcases Bool.or_eq_true_iff.mp hc with q | q
      · have := of_decide_eq_true q; omega
      · have := of_decide_eq_true q; omega
    -- what is taken: the sign of order
    refine st_seq (st_asg ed_int (lt_ok rfl) ?_)
    refine st_cut (fun r' => ∃ o : Int, r' = [.dat (kns l), .dat (kns l'), .own a (acc.map rat), .dat (.int (i : Int)), .dat (.int (j : Int)), .dat (.int o)] ∧
        ((o < 0 ∧ i < l.length ∧ mrg (l.drop i) (l'.drop j) = kA l i :: mrg (l.drop (i + 1)) (l'.drop j)) ∨
         (o = 0 ∧ i < l.length ∧ j < l'.length ∧ mrg (l.drop i) (l'.drop j) = kA l i :: mrg (l.drop (i + 1)) (l'.drop (j + 1))) ∨
         (0 < o ∧ j < l'.length ∧ mrg (l.drop i) (l'.drop j) = kA l' j :: mrg (l.drop i) (l'.drop (j + 1)))))
      (st_if (tt_test (ed_b (ed_var rfl) (lenS rfl))) (fun h => ?_) fun h => ?_) ?_
    · have hj : ¬ j < l'.length := by have := of_decide_eq_true h; omega
      have hi : i < l.length := by omega
      refine st_asg (ed_u ed_int) (lt_ok rfl) ⟨-1, rfl, .inl ⟨by decide, hi, ?_⟩⟩
      rw [List.drop_of_length_le (show l'.length ≤ j by omega), mrg_left, mrg_left, drop_cons hi] <;> rfl
    · have hj : j < l'.length := by have := of_decide_eq_false h; omega
      refine st_if (tt_test (ed_b (ed_var rfl) (lenF rfl))) (fun h => ?_) fun h => st_next ⟨1, rfl, .inr (.inr ⟨by decide, hj, ?_⟩)⟩
      · have hi : i < l.length := by have := of_decide_eq_true h; omega
        refine st_asg (e_cmp (e_k0 (e_kn (n := i) (ed_var rfl) (ed_var rfl) rfl hi)) (e_k0 (e_kn (n := j) (ed_var rfl) (ed_var rfl) rfl hj)) ((hs i hi).1.big (by omega)) ((hs' j hj).1.big (by omega))) (lt_ok rfl) ⟨_, rfl, ?_⟩
        rw [drop_cons hi, drop_cons hj]
        by_cases c1 : kA l i < kA l' j
        · refine .inl ⟨cmp_lt.mpr c1, hi, ?_⟩
          rw [mrg, if_pos c1]
        · by_cases c2 : kA l' j < kA l i
          · refine .inr (.inr ⟨cmp_gt.mpr c2, hj, ?_⟩)
            rw [mrg, if_neg c1, if_pos c2]
          · refine .inr (.inl ⟨cmp_eq.mpr (by grind), hi, hj, ?_⟩)
            rw [mrg, if_neg c1, if_neg c2]
      · have hi : ¬ i < l.length := by have := of_decide_eq_false h; omega
        rw [List.drop_of_length_le (show l.length ≤ i by omega), mrg_right, mrg_right, drop_cons hj] <;> rfl
    · intro r' ⟨o, e, hcase⟩
      subst e
      refine st_cut (fun r' => ∃ (acc' : List Rat) (i' : Nat), r' = [.dat (kns l), .dat (kns l'), .own a (acc'.map rat), .dat (.int (i' : Int)), .dat (.int (j : Int)), .dat (.int o)] ∧ acc'.length ≤ i' + (j + if 0 < o then 1 else 0) ∧ i' ≤ l.length ∧ (o ≤ 0 → i' = i + 1) ∧ (0 < o → i' = i) ∧
          acc' ++ mrg (l.drop i') (l'.drop (if 0 ≤ o then j + 1 else j)) = mrg l l')
        (st_if (tt_test (ed_b (ed_var rfl) ed_int)) (fun h => ?_) fun h => ?_) ?_
      · have ho : o ≤ 0 := of_decide_eq_true h
        have hi : i < l.length := by rcases hcase with q | q | q; exact q.2.1; exact q.2.1; exact absurd q.1 (by omega)
        refine st_seq (st_app rfl (e_k0 (e_kn (n := i) (ed_var rfl) (ed_var rfl) rfl hi)) (by rw [List.length_map]; omega) ?_)
        refine st_aug rfl ed_int ⟨acc ++ [kA l i], i + 1, by rw [List.map_append] <;> rfl, ?_, by omega, fun _ => rfl, fun q => absurd q (by omega), ?_⟩
        · rw [List.length_append, if_neg (by omega)]
          show acc.length + 1 ≤ _
          omega
        · rw [List.append_assoc, ← h1]
          congr 1
          rcases hcase with q | q | q
          · rw [if_neg (by omega), q.2.2] <;> rfl
          · rw [if_pos (by omega), q.2.2.2] <;> rfl
          · exact absurd q.1 (by omega)
      · have ho : 0 < o := by have := of_decide_eq_false h; omega
        have hj : j < l'.length := by rcases hcase with q | q | q; exact absurd q.1 (by omega); exact absurd q.1 (by omega); exact q.2.1
        refine st_app rfl (e_k0 (e_kn (n := j) (ed_var rfl) (ed_var rfl) rfl hj)) (by rw [List.length_map]; omega) ⟨acc ++ [kA l' j], i, by rw [List.map_append] <;> rfl, ?_, h3, fun q => absurd q (by omega), fun _ => rfl, ?_⟩
        · rw [List.length_append, if_pos ho]
          show acc.length + 1 ≤ _
          omega
        · rw [List.append_assoc, ← h1]
          congr 1
          rcases hcase with q | q | q
          · exact absurd q.1 (by omega)
          · exact absurd q.1 (by omega)
          · rw [if_pos (by omega), q.2.2] <;> rfl
      · intro r' ⟨acc', i', e, k1, k2, k3, k4, k5⟩
        subst e
        have hjj : 0 ≤ o → j < l'.length := fun ho => by rcases hcase with q | q | q; exact absurd q.1 (by omega); exact q.2.2.1; exact q.2.1
        refine st_if (tt_test (ed_b (ed_var rfl) ed_int)) (fun h => ?_) fun h => st_next ?_
        · have ho : 0 ≤ o := of_decide_eq_true h
          rw [if_pos ho] at k5
          refine st_aug rfl ed_int ⟨(l.length - i') + (l'.length - (j + 1)), ?_, acc', i', j + 1, _, rfl, k5, ?_, k2, ?_, rfl⟩
          · have := hjj ho
            by_cases c : 0 < o
            · have := k4 c; omega
            · have := k3 (by omega); omega
          · by_cases c : 0 < o
            · rw [if_pos c] at k1; omega
            · rw [if_neg c] at k1; omega
          · have := hjj ho; omega
        · have ho : o < 0 := by have := of_decide_eq_false h; omega
          rw [if_neg (show ¬ 0 ≤ o by omega)] at k5
          rw [if_neg (show ¬ 0 < o by omega)] at k1
          have := k3 (by omega)
          exact ⟨(l.length - i') + (l'.length - j), by omega, acc', i', j, _, rfl, k5, by omega, k2, h4, rfl⟩
  · have hnot : ¬ i < l.length ∧ ¬ j < l'.length := by
      obtain ⟨q1, q2⟩ := Bool.or_eq_false_iff.mp hc
      have := of_decide_eq_false q1
      have := of_decide_eq_false q2
      omega
    rw [List.drop_of_length_le (show l.length ≤ i by omega), List.drop_of_length_le (show l'.length ≤ j by omega), mrg_left] at h1
    have e2 : acc = mrg l l' := by
      rw [← h1]
      show acc = acc ++ []
      rw [List.append_nil]
    refine st_retO rfl ?_
    rw [e2]
include G T in
theorem has_lack_of (h_value_at : Has P w K mg base "value_at" 44 ["knots", "amount"] (spR K C RVal)) (h_merged_amounts : Has P w K mg base "merged_amounts" 43 ["first", "second"] (spR K C RMrg)) (F : Def K mg "lack_of" s_lack_of ["first", "second"]) : Has P w K mg base "lack_of" 45 ["first", "second"] (spR K C RLack) := by
  obtain ⟨f, fd, F, m, b⟩ := F
  have h_compare := T.cmp
  have h_subtract := T.sub
  refine has_of F m b (fn_ok F sc_lack_of (fun as z h => by cases h; rfl) fun cdv A outer s H Q E hr as z h => ?_)
  obtain ⟨l, l', n, hg, hg', hl, hl', hs, hs', hn⟩ := h
  refine ⟨_, (pss_cons (ps_set (i := 2) sc_lack_of.nd rfl (.inl rfl) (pe_glob (v := .ref z2) (by rfl) G.ZERO_knots rfl))
    (pss_cons (ps_set (i := 3) sc_lack_of.nd rfl (.inl rfl) pe_non)
    (pss_cons (ps_for PassesOwn.never rfl (pi_list (pe_has h_merged_amounts (hr.mono (by decide)) (by rfl) (pa_cons (pv 0) (pa_cons (pv 1) pa_nil)))) (pg_name (i := 4) sc_lack_of.nd rfl (.inl rfl)) (pss_cons (ps_set (i := 5) sc_lack_of.nd rfl (.inl rfl) (pe_has h_subtract (hr.mono (by decide)) (by rfl) (pa_cons (pe_has h_value_at (hr.mono (by decide)) (by rfl) (pa_cons (pv 1) (pa_cons (pv 4) pa_nil))) (pa_cons (pe_has h_value_at (hr.mono (by decide)) (by rfl) (pa_cons (pv 0) (pa_cons (pv 4) pa_nil))) pa_nil))))
    (pss_one (ps_if (pt_cmpR op_gt (pe_has h_compare (hr.mono (by decide)) (by rfl) (pa_cons (pv 5) (pa_cons (pv 2) pa_nil))) pe_int (nomark _)) (pss_cons (ps_set (i := 2) sc_lack_of.nd rfl (.inl rfl) (pv 5))
    (pss_one (ps_set (i := 3) sc_lack_of.nd rfl (.inl rfl) (pv 4)))) pss_nil))))
    (pss_one (ps_ret (pe_tup (pa_cons (pv 2) (pa_cons (pv 3) pa_nil)))))))), ?_⟩
  have msz : ∀ x ∈ mrg l l', Sz n x := fun x hx => by
    rcases mrg_mem l l' x hx with ⟨p, hp, e⟩ | ⟨p, hp, e⟩
    · rw [e]; exact (hs.mem hp).1
    · rw [e]; exact (hs'.mem hp).1
  have gsz : ∀ x ∈ mrg l l', Sz (14 * n + 9) (Fx 0 l' x - Fx 0 l x) := fun x hx => ((Fx_sz hg' hs' (msz x hx)).sub (Fx_sz hg hs (msz x hx))).mono (by omega)
  have lsz : ∀ i, Sz (14 * n + 9) (((mrg l l').take i).foldl (lackStep l l') (0, none)).1 := fun i => by
    induction i with
    | zero => exact Sz.zero.mono (by omega)
    | succ i ih =>
      by_cases hi : i < (mrg l l').length
      · rw [List.take_add_one, List.getElem?_eq_getElem hi]
        show Sz _ ((List.take i (mrg l l') ++ [(mrg l l')[i]]).foldl (lackStep l l') (0, none)).1
        rw [List.foldl_append]
        show Sz _ (lackStep l l' _ (mrg l l')[i]).1
        unfold lackStep
        by_cases c : ((List.take i (mrg l l')).foldl (lackStep l l') (0, none)).1 < Fx 0 l' (mrg l l')[i] - Fx 0 l (mrg l l')[i]
        · unfold lackStep at c
          rw [if_pos c]
          exact gsz _ (List.getElem_mem hi)
        · unfold lackStep at c
          rw [if_neg c]
          exact ih
      · rw [List.take_of_length_le (by omega)]
        rw [List.take_of_length_le (by omega)] at ih
        exact ih
  refine st_seq (st_asg (e_glob (G.z2 C)) (lt_ok rfl) ?_)
  refine st_seq (st_asg ed_non (lt_ok rfl) ?_)
  have mn := mrg_len l l'
  refine st_seq (st_forN (fun i r' => ∃ x y, r' = [.dat (kns l), .dat (kns l'), .dat (rat (((mrg l l').take i).foldl (lackStep l l') (0, none)).1), .dat (optD (((mrg l l').take i).foldl (lackStep l l') (0, none)).2), x, y]) (fun d r => r.set 4 (.dat d)) 5
    (en_call (ea_d (ed_var rfl) (ea_d (ed_var rfl) ea_nil)) (.mk l l' n hl hl' hs hs' hn)) ⟨_, _, rfl⟩ (fun i r' ⟨x, y, e⟩ => by rw [e]; exact Nat.le_of_ble_eq_true rfl) (fun i d _ => tg_name 4) (fun i d r' hd ⟨x, y, e⟩ => ?_) (fun r' ⟨x, y, e⟩ => ?_))
  · subst e
    rw [List.getElem?_map] at hd
    obtain ⟨u, hu, hd⟩ := Option.map_eq_some_iff.mp hd
    subst hd
    have hm : u ∈ mrg l l' := List.mem_of_getElem? hu
    have su := msz u hm
    have tk : ((mrg l l').take (i + 1)).foldl (lackStep l l') (0, none) = lackStep l l' (((mrg l l').take i).foldl (lackStep l l') (0, none)) u := by
      rw [List.take_add_one, hu]
      show (List.take i (mrg l l') ++ [u]).foldl (lackStep l l') (0, none) = _
      rw [List.foldl_append] <;> rfl
    refine st_seq (st_asg (e_sub (ed_call (ea_d (ed_var rfl) (ea_d (ed_var rfl) ea_nil)) (.mk l' u n n hg' (by omega) hs' su hn (by omega))) (ed_call (ea_d (ed_var rfl) (ea_d (ed_var rfl) ea_nil)) (.mk l u n n hg (by omega) hs su hn (by omega))) ((Fx_sz hg' hs' su).big (by omega)) ((Fx_sz hg hs su).big (by omega))) (lt_ok rfl) ?_)
    refine st_if (t_gt (ed_var rfl) (ed_var rfl) ((gsz u hm).big (by omega)) ((lsz i).big (by omega))) (fun h => ?_) fun h => st_next ⟨.dat (rat u), .dat (rat (Fx 0 l' u - Fx 0 l u)), ?_⟩
    · refine st_seq (st_asg (ed_var rfl) (lt_ok rfl) ?_)
      refine st_asg (ed_var rfl) (lt_ok rfl) ⟨.dat (rat u), .dat (rat (Fx 0 l' u - Fx 0 l u)), ?_⟩
      rw [tk, show lackStep l l' (((mrg l l').take i).foldl (lackStep l l') (0, none)) u = (Fx 0 l' u - Fx 0 l u, some u) from if_pos (of_decide_eq_true h)] <;> rfl
    · rw [tk, show lackStep l l' (((mrg l l').take i).foldl (lackStep l l') (0, none)) u = ((mrg l l').take i).foldl (lackStep l l') (0, none) from if_neg (of_decide_eq_false h)] <;> rfl
  · subst e
    rw [List.length_map, List.take_length]
    exact st_ret (ed_t2 (ed_var rfl) (ed_var rfl)) rfl
end
end AW

set_option Elab.async false
set_option linter.all false
set_option maxRecDepth 100000
set_option maxHeartbeats 4000000
/-! the walk: equality of data, without, first_nonzero -/
namespace AW
open PySem PySem.Spec PyProof.Rows L2 AC
/-! ### equality of data -/
mutual
def py : Dat → PyData
  | .non => .none
  | .bl b => .bool b
  | .int i => .int i
  | .str s => .str s
  | .tup ds => .tuple (pyA ds)
  | .cur _ => .none
  | .dic _ _ => .none
def pyA : List Dat → List PyData
  | [] => []
  | d :: ds => py d :: pyA ds
end
mutual
/-- ints and tuples alone -/
def pu : Dat → Bool
  | .int _ => true
  | .tup ds => puA ds
  | _ => false
def puA : List Dat → Bool
  | [] => true
  | d :: ds => pu d && puA ds
end
mutual
theorem Im.dp {K : Frg} {C : Addr} {H : Hp} : ∀ {v : V} {d : Dat}, pu d = true → Im K C H v d → Dp K H v (py d)
  | _, _, _, .int i => .int i
  | _, _, n, .tup h a => .tup h (ImA.dp n a)
  | _, _, n, .non => nomatch n
  | _, _, n, .bl _ => nomatch n
  | _, _, n, .str _ => nomatch n
  | _, _, n, .cur _ _ => nomatch n
  | _, _, n, .dic _ _ _ => nomatch n
theorem ImA.dp {K : Frg} {C : Addr} {H : Hp} : ∀ {vs : List V} {ds : List Dat}, puA ds = true → ImA K C H vs ds → DpAll K H vs (pyA ds)
  | _, _, _, .nil => .nil
  | _, _, n, .cons h t => .cons (Im.dp (Bool.and_eq_true_iff.mp n).1 h) (ImA.dp (Bool.and_eq_true_iff.mp n).2 t)
end
mutual
theorem lay_py : ∀ {d : Dat}, pu d = true → PyData.canLay0 (py d) = true
  | .int _, _ => rfl
  | .tup ds, n => by
    show PyData.canLay0 (.tuple (pyA ds)) = true
    rw [PyData.canLay0]
    exact lay_pyA n
  | .non, n => nomatch n
  | .bl _, n => nomatch n
  | .str _, n => nomatch n
  | .cur _, n => nomatch n
  | .dic _ _, n => nomatch n
theorem lay_pyA : ∀ {ds : List Dat}, puA ds = true → PyData.canLayAll0 (pyA ds) = true
  | [], _ => rfl
  | d :: ds, n => by
    show PyData.canLayAll0 (py d :: pyA ds) = true
    rw [PyData.canLayAll0, lay_py (Bool.and_eq_true_iff.mp n).1, lay_pyA (Bool.and_eq_true_iff.mp n).2] <;> rfl
end
mutual
/-- how deep -/
def dpt : Dat → Nat
  | .tup ds => dptA ds + 1
  | _ => 0
def dptA : List Dat → Nat
  | [] => 0
  | d :: ds => max (dpt d) (dptA ds)
end
mutual
theorem depth_py : ∀ {d : Dat}, pu d = true → PyData.depth (py d) = dpt d
  | .int _, _ => rfl
  | .tup ds, n => by
    show PyData.depth (.tuple (pyA ds)) = dptA ds + 1
    rw [PyData.depth, depth_pyA n]
  | .non, n => nomatch n
  | .bl _, n => nomatch n
  | .str _, n => nomatch n
  | .cur _, n => nomatch n
  | .dic _ _, n => nomatch n
theorem depth_pyA : ∀ {ds : List Dat}, puA ds = true → PyData.depthAll (pyA ds) = dptA ds
  | [], _ => rfl
  | d :: ds, n => by
    show PyData.depthAll (py d :: pyA ds) = max (dpt d) (dptA ds)
    rw [PyData.depthAll, depth_py (Bool.and_eq_true_iff.mp n).1, depth_pyA (Bool.and_eq_true_iff.mp n).2]
end
theorem shaped_py {d : Dat} (h : pu d = true) (hd : dpt d ≤ 64) : SeqAt.shaped (py d) = true := by
  unfold SeqAt.shaped
  rw [lay_py h, depth_py h, decide_eq_true hd] <;> rfl
mutual
theorem eqv_py : ∀ {d e : Dat}, pu d = true → pu e = true → (PyData.eqv (py d) (py e) = true ↔ d = e)
  | .int i, .int j, _, _ => by
    show PyData.eqv (.int i) (.int j) = true ↔ _
    simp [PyData.eqv]
  | .int i, .tup ds, _, _ => by
    show PyData.eqv (.int i) (.tuple (pyA ds)) = true ↔ _
    simp [PyData.eqv]
  | .tup ds, .int i, _, _ => by
    show PyData.eqv (.tuple (pyA ds)) (.int i) = true ↔ _
    simp [PyData.eqv]
  | .tup ds, .tup es, h, k => by
    show PyData.eqv (.tuple (pyA ds)) (.tuple (pyA es)) = true ↔ _
    rw [PyData.eqv]
    have := eqv_pyA (ds := ds) (es := es) h k
    exact ⟨fun q => by rw [this.mp q], fun q => this.mpr (by injection q)⟩
  | .non, _, n, _ => nomatch n
  | .bl _, _, n, _ => nomatch n
  | .str _, _, n, _ => nomatch n
  | .cur _, _, n, _ => nomatch n
  | .dic _ _, _, n, _ => nomatch n
  | _, .non, _, n => nomatch n
  | _, .bl _, _, n => nomatch n
  | _, .str _, _, n => nomatch n
  | _, .cur _, _, n => nomatch n
  | _, .dic _ _, _, n => nomatch n
theorem eqv_pyA : ∀ {ds es : List Dat}, puA ds = true → puA es = true → (PyData.eqvAll (pyA ds) (pyA es) = true ↔ ds = es)
  | [], [], _, _ => by simp [pyA, PyData.eqvAll]
  | [], _ :: _, _, _ => by simp [pyA, PyData.eqvAll]
  | _ :: _, [], _, _ => by simp [pyA, PyData.eqvAll]
  | d :: ds, e :: es, h, k => by
    have h' := Bool.and_eq_true_iff.mp h
    have k' := Bool.and_eq_true_iff.mp k
    show PyData.eqvAll (py d :: pyA ds) (py e :: pyA es) = true ↔ _
    rw [PyData.eqvAll, Bool.and_eq_true, eqv_py h'.1 k'.1, eqv_pyA h'.2 k'.2]
    exact ⟨fun q => by rw [q.1, q.2], fun q => by injection q with a b; exact ⟨a, b⟩⟩
end
theorem rat_eq {a b : Rat} : rat a = rat b ↔ a = b := ⟨rat_inj, fun h => by rw [h]⟩
section
variable {K : Frg} {C : Addr} {r : List Sd} {ta tb te ti : TE}
theorem eqv_dec {d e : Dat} (h : pu d = true) (k : pu e = true) {p : Prop} [Decidable p] (w : d = e ↔ p) : PyData.eqv (py d) (py e) = decide p := by
  have a := eqv_py h k
  by_cases q : p
  · rw [decide_eq_true q]
    exact a.mpr (w.mpr q)
  · rw [decide_eq_false q]
    cases x : PyData.eqv (py d) (py e) with
    | false => rfl
    | true => exact absurd (w.mp (a.mp x)) q
theorem ed_eqW {d e : Dat} (ha : EvD K C ta r d) (hb : EvD K C tb r e) (h : pu d = true) (k : pu e = true) (h1 : dpt d ≤ 64) (k1 : dpt e ≤ 64) {p : Prop} [Decidable p] (w : d = e ↔ p) : EvD K C (tOp (rEqD K) ta tb) r (.bl (decide p)) :=
  ed_op ha hb fun H x y hx hy Q q => ⟨py d, py e, hx.dp h, hy.dp k, shaped_py h h1, shaped_py k k1, by rw [eqv_dec h k w]; exact q _ H (Ex.refl H) (.bl _)⟩
theorem ed_neW {d e : Dat} (ha : EvD K C ta r d) (hb : EvD K C tb r e) (h : pu d = true) (k : pu e = true) (h1 : dpt d ≤ 64) (k1 : dpt e ≤ 64) {p : Prop} [Decidable p] (w : d = e ↔ p) : EvD K C (tOp (rNeD K) ta tb) r (.bl (!decide p)) :=
  ed_op ha hb fun H x y hx hy Q q => ⟨py d, py e, hx.dp h, hy.dp k, shaped_py h h1, shaped_py k k1, by rw [eqv_dec h k w]; exact q _ H (Ex.refl H) (.bl _)⟩
theorem dpt_rat (a : Rat) : dpt (rat a) ≤ 64 := by show max 0 (max 0 0) + 1 ≤ 64; decide
theorem ed_eqR {a b : Rat} (ha : EvD K C ta r (rat a)) (hb : EvD K C tb r (rat b)) : EvD K C (tOp (rEqD K) ta tb) r (.bl (decide (a = b))) := ed_eqW ha hb rfl rfl (dpt_rat a) (dpt_rat b) rat_eq
theorem ed_neR {a b : Rat} (ha : EvD K C ta r (rat a)) (hb : EvD K C tb r (rat b)) : EvD K C (tOp (rNeD K) ta tb) r (.bl (!decide (a = b))) := ed_neW ha hb rfl rfl (dpt_rat a) (dpt_rat b) rat_eq
/-- the written (0, 1) and (1, 1) -/
theorem ed_r0 : EvD K C (tTup (tCons (tC (.int 0)) (tCons (tC (.int 1)) tNil))) r (rat 0) := ed_t2 ed_int ed_int
theorem ed_r1 : EvD K C (tTup (tCons (tC (.int 1)) (tCons (tC (.int 1)) tNil))) r (rat 1) := ed_t2 ed_int ed_int
end
theorem en_getR {rs : List Rat} {k : Nat} (h : k < rs.length) : (rs.map rat)[k]? = some (rat (en rs k)) := by
  rw [List.getElem?_map, List.getElem?_eq_getElem h]
  show some (rat rs[k]) = _
  unfold en
  rw [List.getD_eq_getElem?_getD, List.getElem?_eq_getElem h] <;> rfl
theorem zw_take {α β γ : Type} (h : α → β → γ) (ds : List α) (es : List β) {i : Nat} {x : α} {y : β} (hx : ds[i]? = some x) (hy : es[i]? = some y) : (List.zipWith h ds es).take (i + 1) = (List.zipWith h ds es).take i ++ [h x y] := by
  rw [List.take_add_one, List.getElem?_zipWith, hx, hy] <;> rfl
theorem en_lcZ {K : Frg} {C : Addr} {r : List Sd} {la lb te : TE} {ds es : List Dat} {i1 i2 n : Nat} (h : Dat → Dat → Dat) (hla : EvL K C la r ds) (hlb : EvL K C lb r es) (hl : ds.length = es.length) (hz : ds.length < 1000) (hn : n ≤ r.length) (h1 : i1 < n) (h2 : i2 < n) (h12 : i1 ≠ i2)
    (he : ∀ (i : Nat) (x y : Dat), ds[i]? = some x → es[i]? = some y → EvD K C te ((r.set i1 (.dat x)).set i2 (.dat y)) (h x y)) : EvN K C (tLc (iZip K (tCons la (tCons lb tNil))) (gTup K 2 (gCons (gName i1) (gCons (gName i2) gNil))) tYes te [i1, i2]) r (List.zipWith h ds es) := fun B H σ E Q q =>
  hla B H σ E _ fun v1 H1 e1 hv1 => hlb B H1 σ (E.mono e1) _ fun v2 H2 e2 hv2 => by
    obtain ⟨a, xs, rfl, ha1, ha2⟩ := ArOk.ex (a := .lst ds) e2 hv1
    obtain ⟨b, ys, rfl, hb1, hb2⟩ := hv2
    refine ⟨a, b, xs, ys, rfl, ha1, hb1, fun Dl hD => ⟨fun i m H' => m = ds.length - i ∧ i ≤ ds.length ∧ Acc K C H2 Dl ((List.zipWith h ds es).take i) H', ⟨_, rfl, Nat.zero_le _, Acc.start hD⟩, ?_⟩⟩
    rintro i m H' ⟨rfl, hi, A⟩
    have qa := A.ex.sqL ha1
    have qb := A.ex.sqL hb1
    have la := ha2.len
    have lb := hb2.len
    by_cases hlt : i < ds.length
    · have hx : xs[i]? = some xs[i] := List.getElem?_eq_getElem (by omega)
      have hy : ys[i]? = some ys[i] := List.getElem?_eq_getElem (by omega)
      refine .inr ⟨⟨xs, ys, _, _, qa, qb, hx, hy⟩, fun H3 => i + 1 ≤ ds.length ∧ Acc K C H2 Dl ((List.zipWith h ds es).take (i + 1)) H3, fun H3 ⟨g1, g2⟩ => ⟨_, by omega, rfl, g1, g2⟩, fun v H3 hyl => ?_⟩
      obtain ⟨T, x', y', rfl, hT, rfl, f1, f2⟩ := hyl
      obtain ⟨dx, k1, k2⟩ := ha2.getV (f1 _ qa)
      obtain ⟨dy, k3, k4⟩ := hb2.getV (f2 _ qb)
      have eT : Ex H' (upd H' T (.tup [x', y'])) := Ex.new hT
      have A2 : Acc K C H2 Dl ((List.zipWith h ds es).take i) (upd H' T (.tup [x', y'])) := by
        obtain ⟨acc, c1, c2⟩ := A.at_
        exact ⟨A.fr, A.ex.trans eT, acc, eT _ _ c1, c2.ex eT⟩
      refine ctg_pair (K := K) (C := C) (d := dx) (e := dy) i1 i2 n h1 h2 h12 B _ σ r (.ref T) hn (((E.mono e1).mono e2).mono A2.ex) (.tup (.inl (.inl upd_same)) (.cons (k2.ex A2.ex) (.cons (k4.ex A2.ex) .nil))) _ fun σ2 w E2 => ⟨w, acc_turn (b := true) (z := h dx dy) A2 ?_ E2 tt_yes (fun _ => he i dx dy k1 k3) fun H3 A3 => ⟨by omega, ?_⟩⟩
      · rw [List.length_take]
        exact Nat.lt_of_le_of_lt (Nat.min_le_left ..) (by omega)
      · rw [zw_take h ds es k1 k3]
        exact A3
    · have ei : i = ds.length := by omega
      subst ei
      refine .inl ⟨⟨xs, ys, qa, qb, .inl (by omega)⟩, q _ H' ((e1.trans e2).trans A.ex) ?_⟩
      rw [List.take_of_length_le (by rw [List.length_zipWith]; omega)] at A
      exact A.new (e1.trans e2)
/-! without -/
abbrev s_without : Stmt := topS 18
theorem sc_without : FnScope ["row", "other", "column", "factor", "a", "b"] ["row", "other", "column"] (defScope s_without) := ⟨rfl, rfl, rfl, by decide +kernel, rfl, by decide +kernel, by decide +kernel⟩
-- slots: 0:row 1:other 2:column 3:factor 4:a 5:b
/-! first_nonzero -/
abbrev s_first_nonzero : Stmt := topS 19
theorem sc_first_nonzero : FnScope ["row", "size", "column"] ["row", "size"] (defScope s_first_nonzero) := ⟨rfl, rfl, rfl, by decide +kernel, rfl, by decide +kernel, by decide +kernel⟩
-- slots: 0:row 1:size 2:column
inductive RNz : List Ar → Ar → Prop
  | mk (rs : List Rat) (n k : Nat) : k < n → n ≤ rs.length → n ≤ 900 → en rs k ≠ 0 → (∀ c, c < k → en rs c = 0) → RNz [.lst (rs.map rat), .dat (.int (n : Int))] (.dat (.int (k : Int)))
/-- without: the row itself, or a new list -/
def spWo (K : Frg) (C : Addr) : Sp := fun vs H Q _ => ∃ (a b : Addr) (xs ys : List V) (row other : List Rat) (c B : Nat), vs = [.ref a, .ref b, .int (c : Int)] ∧ H a = some (.lst xs) ∧ H b = some (.lst ys) ∧ ImA K C H xs (row.map rat) ∧ ImA K C H ys (other.map rat) ∧
  row.length = other.length ∧ c < row.length ∧ row.length ≤ 900 ∧ B ≤ 5000000 ∧ (∀ i, Sz B (en row i)) ∧ (∀ i, Sz B (en other i)) ∧ ∀ p us H', (p = a ∨ H p = none) → Ex H H' → H' p = some (.lst us) → ImA K C H' us ((wo row other c).map rat) → Q (.ref p) H'
theorem wo_zero {row other : List Rat} {c : Nat} (hl : row.length = other.length) (h : en row c = 0) : wo row other c = row := by
  unfold wo
  rw [h]
  refine List.ext_getElem (by rw [List.length_zipWith]; omega) fun i h1 h2 => ?_
  rw [List.getElem_zipWith]
  grind
section
variable {P : Program} {w : World} {K : Frg} {C : Addr} {mg : Str → Option Value} {base : Heap} {z1 o1 z2 o2 z3 o3 : Addr} (G : Glo K mg base z1 o1 z2 o2 z3 o3) (T : Rt P w K C mg base)
include G in
theorem has_first_nonzero (F : Def K mg "first_nonzero" s_first_nonzero ["row", "size"]) : Has P w K mg base "first_nonzero" 40 ["row", "size"] (spR K C RNz) := by
  obtain ⟨f, fd, F, m, b⟩ := F
  refine has_of F m b (fn_ok F sc_first_nonzero (fun as z h => by cases h; rfl) fun cdv A outer s H Q E hr as z h => ?_)
  obtain ⟨rs, n, k, hk, hn, h9, hne, hz⟩ := h
  refine ⟨_, (pss_cons (ps_for PassesOwn.never rfl (pi_range1 (by rfl) G.range (pa_cons (pv 1) pa_nil)) (pg_name (i := 2) sc_first_nonzero.nd rfl (.inl rfl)) (pss_one (ps_if (pt_cmpR (op_neD hr.units) (pe_ix ix_list (pv 0) (pv 2) (fun _ _ => rfl)) (pe_tup (pa_cons pe_int (pa_cons pe_int pa_nil))) (nomark _)) (pss_one (ps_ret (pv 2))) pss_nil)))
    (pss_one (ps_ret pe_non))), ?_⟩
  refine st_seq (st_forR (N := n) (fun i r' => i ≤ k ∧ ∃ x, r' = [.lst (rs.map rat), .dat (.int (n : Int)), x]) (ea_d (ed_var rfl) ea_nil) (by omega) ⟨Nat.zero_le _, _, rfl⟩ (fun i r' ⟨_, x, e⟩ => by rw [e]; exact lt_ok rfl) (fun i r' h2 ⟨hik, x, e⟩ => ?_) (fun r' ⟨h, _⟩ => absurd h (by omega)))
  subst e
  refine st_if (tt_test (ed_neR (e_ixL (n := i) (el_var rfl) (ed_var rfl) rfl (en_getR (by omega))) ed_r0)) (fun h => ?_) fun h => st_next ?_
  · have ei : i = k := by
      apply Classical.byContradiction
      intro q
      rw [hz i (by omega), decide_eq_true rfl] at h
      cases h
    refine st_ret (ed_var rfl) ?_
    rw [ei]
  · refine ⟨?_, _, rfl⟩
    apply Classical.byContradiction
    intro q
    have ei : i = k := by omega
    rw [ei, decide_eq_false hne] at h
    cases h
include G T in
theorem has_without (F : Def K mg "without" s_without ["row", "other", "column"]) : Has P w K mg base "without" 43 ["row", "other", "column"] (spWo K C) := by
  obtain ⟨f, fd, F, m, bb⟩ := F
  have h_subtract := T.sub
  have h_multiply := T.mul
  refine has_of F m bb (F.ok sc_without (fun vs H Q E h => ?_) fun cdv A outer s H vs Q E hr h => ?_)
  · obtain ⟨a, b, xs, ys, row, other, c, B, rfl, _⟩ := h
    rfl
  obtain ⟨a, b, xs, ys, row, other, c, B, rfl, ha, hb, ix, iy, hl, hc, h9, hB, s1, s2, q⟩ := h
  refine ⟨_, (pss_cons (ps_set (i := 3) sc_without.nd rfl (.inr rfl) (pe_ix ix_list (pv 0) (pv 2) (fun _ _ => rfl)))
    (pss_cons (ps_if (pt_cmpR (op_eqD hr.units) (pv 3) (pe_tup (pa_cons pe_int (pa_cons pe_int pa_nil))) (nomark _)) (pss_one (ps_ret (pv 0))) pss_nil)
    (pss_one (ps_ret (pe_lc (own := [("a", 4), ("b", 5)]) (g := (gTup K 2 (gCons (gName 4) (gCons (gName 5) gNil)))) rfl sc_without.nd (pi_zip (by rfl) G.zip (pa_cons (pv 0) (pa_cons (pv 1) pa_nil))) (blkOk_by (N := ["row", "other", "column", "factor", "a", "b"]) (sc := defScope s_without) (by decide +kernel)) (fun _ _ _ _ _ => (pg_tup rfl (pgs_cons (pg_name (i := 4) sc_without.nd rfl (.inl rfl)) (pgs_cons (pg_name (i := 5) sc_without.nd rfl (.inl rfl)) pgs_nil)))) (fun _ _ _ _ _ => pts_nil) (fun _ _ _ _ _ => (pe_has h_subtract (hr.mono (by decide)) (by rfl) (pa_cons (pv 4) (pa_cons (pe_has h_multiply (hr.mono (by decide)) (by rfl) (pa_cons (pv 3) (pa_cons (pv 5) pa_nil))) pa_nil))))))))), ?_⟩
  have hq9 := hB
  have E0 : EnvOk K C ⟨H, H⟩ H (L2.start ["row", "other", "column", "factor", "a", "b"] [.ref a, .ref b, .int (c : Int)]) [.lst (row.map rat), .lst (other.map rat), .dat (.int (c : Int)), .any, .any, .any] :=
    env_start (as := [.lst (row.map rat), .lst (other.map rat), .dat (.int (c : Int))]) _ (.cons (d := .lst _) ⟨a, xs, rfl, .inl (.inl ha), ix⟩ (.cons (d := .lst _) ⟨b, ys, rfl, .inl (.inl hb), iy⟩ (.cons (d := .dat _) (Im.int _) .nil)))
  have s0 : EvD K C (tOp (rIxL K) (tVar 0) (tVar 2)) [.lst (row.map rat), .lst (other.map rat), .dat (.int (c : Int)), .any, .any, .any] (rat (en row c)) := e_ixL (n := c) (el_var rfl) (ed_var rfl) rfl (en_getR hc)
  refine s0 _ H _ E0 _ fun v H1 e1 hv => ?_
  have E1 := (E0.mono e1).set (i := 3) (sd := .dat (rat (en row c))) (lt_ok rfl) ⟨v, rfl, hv⟩ fun _ _ z => nomatch z
  have s1' : EvTt K C (tTest (tOp (rEqD K) (tVar 3) (tTup (tCons (tC (.int 0)) (tCons (tC (.int 1)) tNil))))) [.lst (row.map rat), .lst (other.map rat), .dat (.int (c : Int)), .dat (rat (en row c)), .any, .any] (decide (en row c = 0)) := tt_test (ed_eqR (ed_var rfl) ed_r0)
  refine s1' _ H1 _ E1 _ fun H2 e2 => ?_
  by_cases z : en row c = 0
  · rw [decide_eq_true z]
    refine ⟨.ref a, rfl, q a xs H2 (.inl rfl) (e1.trans e2) ((e1.trans e2) _ _ ha) ?_⟩
    rw [wo_zero hl z]
    exact ix.ex (e1.trans e2)
  · rw [decide_eq_false z]
    have E2 := E1.mono e2
    have s3 : EvN K C (tLc (iZip K (tCons (tVar 0) (tCons (tVar 1) tNil))) (gTup K 2 (gCons (gName 4) (gCons (gName 5) gNil))) tYes (tCall (spR K C RSub) [] L2.E0 (tCons (tVar 4) (tCons (tCall (spR K C RMul) [] L2.E0 (tCons (tVar 3) (tCons (tVar 5) tNil))) tNil))) [4, 5]) [.lst (row.map rat), .lst (other.map rat), .dat (.int (c : Int)), .dat (rat (en row c)), .any, .any] ((wo row other c).map rat) := by
      refine en_is (en_lcZ (n := 6) (fun x y => match x, y with | .tup [.int p, .int p'], .tup [.int u, .int u'] => rat (Rat.divInt p p' - en row c * Rat.divInt u u') | _, _ => .non) (el_var rfl) (el_var rfl) (by rw [List.length_map, List.length_map]; exact hl) (by rw [List.length_map]; omega) (Nat.le_of_ble_eq_true rfl) (by decide) (by decide) (by decide) fun i x y hx hy => ?_) ?_
      · rw [List.getElem?_map] at hx hy
        obtain ⟨p, hp, rfl⟩ := Option.map_eq_some_iff.mp hx
        obtain ⟨u, hu, rfl⟩ := Option.map_eq_some_iff.mp hy
        have hp' : en row i = p := by
          unfold en
          rw [List.getD_eq_getElem?_getD, hp] <;> rfl
        have hu' : en other i = u := by
          unfold en
          rw [List.getD_eq_getElem?_getD, hu] <;> rfl
        have g1 := s1 i
        have g2 := s2 i
        have g3 := s1 c
        rw [hp'] at g1
        rw [hu'] at g2
        show EvD K C _ _ (rat (Rat.divInt p.num (p.den : Int) - en row c * Rat.divInt u.num (u.den : Int)))
        rw [Rat.num_divInt_den, Rat.num_divInt_den]
        exact e_sub (ed_var rfl) (e_mul (ed_var rfl) (ed_var rfl) (g3.big (by omega)) (g2.big (by omega))) (g1.big (by omega)) ((g3.mul g2).big (by omega))
      · unfold wo
        rw [List.map_zipWith, List.zipWith_map]
        congr 1
        funext p u
        show rat (Rat.divInt p.num (p.den : Int) - en row c * Rat.divInt u.num (u.den : Int)) = rat (p - en row c * u)
        rw [Rat.num_divInt_den, Rat.num_divInt_den]
    exact s3 _ H2 _ E2 _ fun v H3 e3 ⟨p, us, hv3, hp, h1, h2⟩ => by
      subst hv3
      exact q p us H3 (.inr ((e1.trans e2).back hp)) ((e1.trans e2).trans e3) h1 h2
end
end AW

set_option Elab.async false
set_option linter.all false
set_option maxRecDepth 100000
set_option maxHeartbeats 8000000
/-! the walk: solve -/
namespace AW
open PySem PySem.Spec PyProof.Rows L2 AC
/-! solve -/
abbrev s_solve : Stmt := topS 20
theorem sc_solve : FnScope ["matrix", "right", "size", "rows", "columns", "at", "row", "column", "other", "pivot", "solution", "entry", "k"] ["matrix", "right"] (defScope s_solve) := ⟨rfl, rfl, rfl, by decide +kernel, rfl, by decide +kernel, by decide +kernel⟩
-- slots: 0:matrix 1:right 2:size 3:rows 4:columns 5:at 6:row 7:column 8:other 9:pivot 10:solution 11:entry 12:k
section
variable {K : Frg} {C : Addr} {B : Bs} {H H' : Hp} {σ : L2.St} {r : List Sd}
/-- a list that is not in a slot changes -/
theorem EnvOk.upd (E : EnvOk K C B H σ r) {p : Addr} {xs ys : List V} (hp : H p = some (.lst xs)) (hq : B.hq p = none) (no : ∀ (i : Nat) (ds : List Dat), r[i]? ≠ some (.own p ds)) : EnvOk K C B (L2.upd H p (.lst ys)) σ r := by
  have kp : Kp H (L2.upd H p (.lst ys)) := Kp.upd hp
  refine ⟨E.ex0, E.exq.mut hq, E.len, fun j sd hj => ?_, E.nd, E.fr⟩
  have h := E.at_ j sd hj
  cases sd with
  | any => trivial
  | dat d => obtain ⟨v, h1, h2⟩ := h; exact ⟨v, h1, h2.kp kp⟩
  | own b fs =>
    obtain ⟨h1, ws, h2, h3⟩ := h
    have ne : b ≠ p := fun e => by subst e; exact no j fs hj
    exact ⟨h1, ws, by rw [upd_ne ne]; exact h2, h3.kp kp⟩
  | lst fs => exact h
/-- a slot gets a list that stands already -/
theorem EnvOk.adopt (E : EnvOk K C B H σ r) {i : Nat} {p : Addr} {vs : List V} {ds : List Dat} (hi : i < r.length) (h : H p = some (.lst vs)) (hd : ImA K C H vs ds) (hq : B.hq p = none) (no : ∀ (j : Nat) (es : List Dat), j ≠ i → r[j]? ≠ some (.own p es)) : EnvOk K C B H (σ.set i (some (.ref p))) (r.set i (.own p ds)) := by
  refine ⟨E.ex0, E.exq, by rw [List.length_set, List.length_set, E.len], fun j sd' hj => ?_, fun j k a es fs hj hk => ?_, fun j a es hj => ?_⟩
  · rcases get_set_sd hj with ⟨rfl, rfl⟩ | ⟨q, hj⟩
    · rw [List.getElem?_set_self (by rw [E.len]; exact hi)]; exact ⟨rfl, vs, h, hd⟩
    · rw [List.getElem?_set_ne q]; exact E.at_ j sd' hj
  · rcases get_set_sd hj with ⟨rfl, e1⟩ | ⟨q1, hj⟩
    · rcases get_set_sd hk with ⟨rfl, e2⟩ | ⟨q2, hk⟩
      · rfl
      · cases e1; exact absurd hk (no _ _ (Ne.symm q2))
    · rcases get_set_sd hk with ⟨rfl, e2⟩ | ⟨q2, hk⟩
      · cases e2; exact absurd hj (no _ _ (Ne.symm q1))
      · exact E.nd j k a es fs hj hk
  · rcases get_set_sd hj with ⟨_, e1⟩ | ⟨_, hj⟩
    · cases e1; exact hq
    · exact E.fr j a es hj
/-- a slot is forgotten -/
theorem EnvOk.drop (E : EnvOk K C B H σ r) (i : Nat) : EnvOk K C B H σ (r.set i .any) := by
  refine ⟨E.ex0, E.exq, by rw [List.length_set, E.len], fun j sd' hj => ?_, fun j k a es fs hj hk => ?_, fun j a es hj => ?_⟩
  · rcases get_set_sd hj with ⟨rfl, rfl⟩ | ⟨q, hj⟩
    · trivial
    · exact E.at_ j sd' hj
  · rcases get_set_sd hj with ⟨_, e⟩ | ⟨_, hj⟩
    · cases e
    · rcases get_set_sd hk with ⟨_, e⟩ | ⟨_, hk⟩
      · cases e
      · exact E.nd j k a es fs hj hk
  · rcases get_set_sd hj with ⟨_, e⟩ | ⟨_, hj⟩
    · cases e
    · exact E.fr j a es hj
/-- a slot that is not looked at gets any value -/
theorem EnvOk.setAny (E : EnvOk K C B H σ r) {i : Nat} (hi : i < r.length) (v : V) : EnvOk K C B H (σ.set i (some v)) (r.set i .any) := E.set (sd := .any) hi trivial fun _ _ z => nomatch z
end
theorem gn_ {i : Nat} {v : V} {σ : L2.St} {H : Hp} {Q : L2.St → Hp → Prop} (h : Q (σ.set i (some v)) H) : gName i v σ H Q := h
theorem sq_ {t u : TS} {D : Ends} {σ : L2.St} {H : Hp} (h : t { D with nx := u D } σ H) : tSeq t u D σ H := h
theorem as_ {te : TE} {g : TG} {D : Ends} {σ : L2.St} {H : Hp} (h : te σ H fun x H1 => g x σ H1 D.nx) : tAsg te g D σ H := h
abbrev rowD (row : List Rat) : Dat := .tup (row.map rat)
inductive RSolve : List Ar → Ar → Prop
  | mk (M R A : List (List Rat)) (n rr Q : Nat) : n ≤ 100 → rr ≤ 100 → M.length = n → R.length = n → (∀ i, i < n → (rowAt M i).length = n ∧ (rowAt R i).length = rr) → (∀ i, i < n → rowAt A i = augOf (rowAt M i) (rowAt R i) n i) → Dom n (n + rr + n) A → SolSz A n Q → Q ≤ 5000000 →
    RSolve [.dat (.tup (M.map rowD)), .dat (.tup (R.map rowD))] (.dat (.tup [.str "solution", .tup ((List.range n).map fun i => rowD (((rowAt (gj A n) i).drop n).take rr))]))
theorem rowD_get {M : List (List Rat)} {i : Nat} (h : i < M.length) : (M.map rowD)[i]? = some (rowD (rowAt M i)) := by
  rw [List.getElem?_map, List.getElem?_eq_getElem h]
  show some (rowD M[i]) = _
  unfold rowAt
  rw [List.getD_eq_getElem?_getD, List.getElem?_eq_getElem h] <;> rfl
/-- the rows so far: a list at pR of lists at as -/
structure Rws (K : Frg) (C : Addr) (B : Bs) (H : Hp) (pR pC : Addr) (as : List Addr) (Rs : List (List Rat)) : Prop where
  hq : B.hq pR = none
  ne : pR ≠ pC
  at_ : H pR = some (.lst (as.map V.ref))
  len : as.length = Rs.length
  row : ∀ (i : Nat) (a : Addr), as[i]? = some a → a ≠ pR ∧ a ≠ pC ∧ B.hq a = none ∧ ∃ xs, H a = some (.lst xs) ∧ ImA K C H xs ((rowAt Rs i).map rat)
theorem Rws.ex {K : Frg} {C : Addr} {B : Bs} {H H' : Hp} {pR pC : Addr} {as : List Addr} {Rs : List (List Rat)} (R : Rws K C B H pR pC as Rs) (e : Ex H H') : Rws K C B H' pR pC as Rs :=
  ⟨R.hq, R.ne, e _ _ R.at_, R.len, fun i a h => by obtain ⟨h1, h2, h3, xs, h4, h5⟩ := R.row i a h; exact ⟨h1, h2, h3, xs, e _ _ h4, h5.ex e⟩⟩
/-- the list at pC changes -/
theorem Rws.upd {K : Frg} {C : Addr} {B : Bs} {H : Hp} {pR pC : Addr} {as : List Addr} {Rs : List (List Rat)} {xs ys : List V} (R : Rws K C B H pR pC as Rs) (h : H pC = some (.lst xs)) : Rws K C B (L2.upd H pC (.lst ys)) pR pC as Rs :=
  ⟨R.hq, R.ne, by rw [upd_ne R.ne]; exact R.at_, R.len, fun i a q => by obtain ⟨h1, h2, h3, us, h4, h5⟩ := R.row i a q; exact ⟨h1, h2, h3, us, by rw [upd_ne h2]; exact h4, h5.kp (Kp.upd h)⟩⟩
abbrev colD (k : Nat) : List Dat := (List.range k).map fun (i : Nat) => Dat.int (i : Int)
abbrev solR (M R : List (List Rat)) (n : Nat) (pC : Addr) (k : Nat) (y5 y6 y7 : Sd) (y9 : Sd) (y10 : Sd) : List Sd :=
  [.dat (.tup (M.map rowD)), .dat (.tup (R.map rowD)), .dat (.int (n : Int)), .any, .own pC (colD k), y5, y6, y7, .any, y9, y10, .any, .any]
theorem colD_get {k i : Nat} (h : i < k) : (colD k)[i]? = some (.int (i : Int)) := by
  unfold colD
  rw [List.getElem?_map, List.getElem?_range h] <;> rfl
theorem colD_len (k : Nat) : (colD k).length = k := by unfold colD; rw [List.length_map, List.length_range]
theorem colD_succ (k : Nat) : colD k ++ [.int (k : Int)] = colD (k + 1) := by
  unfold colD
  rw [List.range_succ, List.map_append] <;> rfl
theorem unitD (n i : Nat) : (unit n i).map rat = (List.range n).map fun (k : Nat) => Dat.tup [.int (if (decide ((k : Int) = (i : Int))) = true then 1 else 0), .int 1] := by
  unfold unit
  rw [List.map_map]
  refine List.map_congr_left fun k _ => ?_
  show rat (if k = i then 1 else 0) = _
  by_cases h : k = i
  · rw [if_pos h, if_pos (by rw [h]; exact decide_eq_true rfl)] <;> rfl
  · rw [if_neg h, if_neg (by intro q; exact h (by have := of_decide_eq_true q; omega))] <;> rfl
section
variable {K : Frg} {C : Addr} {B : Bs} {H : Hp} {σ : L2.St} {pR pC : Addr} {as : List Addr} {R : List (List Rat)} {a : List Rat} {k W Q : Nat}
theorem rat_len (rs : List Rat) : (rs.map rat).length = rs.length := List.length_map ..
theorem as_ref {as : List Addr} {i : Nat} {y : V} (h : (as.map V.ref)[i]? = some y) : ∃ b, as[i]? = some b ∧ y = .ref b := by
  rw [List.getElem?_map] at h
  obtain ⟨b, h1, h2⟩ := Option.map_eq_some_iff.mp h
  exact ⟨b, h1, h2.symm⟩
/-- the inner loop of solve: the row less the rows so far -/
theorem sv_elim {d0 d1 d2 d5 : Dat} {p : Addr} (E : EnvOk K C B H σ [.dat d0, .dat d1, .dat d2, .any, .own pC (colD k), .dat d5, .own p (a.map rat), .any, .any, .any, .any, .any, .any])
    (h3 : σ[3]? = some (some (.ref pR))) (Rw : Rws K C B H pR pC as R) (hk : R.length = k) (lens : ∀ i, i ≤ k → (elimTo R a i).length = W) (rl : ∀ i, i < k → (rowAt R i).length = W) (hW : k ≤ W) (h9 : W ≤ 900)
    (s1 : ∀ i, i ≤ k → ∀ c, Sz Q (en (elimTo R a i) c)) (s2 : ∀ i, i < k → ∀ c, Sz Q (en (rowAt R i) c)) (hQ : Q ≤ 5000000) {D : Ends}
    (hd : ∀ σ' H' p', EnvOk K C B H' σ' [.dat d0, .dat d1, .dat d2, .any, .own pC (colD k), .dat d5, .own p' ((elimTo R a k).map rat), .any, .any, .any, .any, .any, .any] → σ'[3]? = some (some (.ref pR)) → Rws K C B H' pR pC as R → D.nx σ' H') :
    tFor (iZip K (tCons (tVar 4) (tCons (tVar 3) tNil))) (gTup K 2 (gCons (gName 7) (gCons (gName 8) gNil))) (tAsg (tCall (spWo K C) [] L2.E0 (tCons (tVar 6) (tCons (tVar 8) (tCons (tVar 7) tNil)))) (gName 6)) D σ H := by
  obtain ⟨h4, cs, hc1, hc2⟩ := E.at_ 4 _ rfl
  have hcl := hc2.len
  rw [colD_len] at hcl
  have hal := Rw.len
  refine ⟨.ref pC, h4, .ref pR, h3, pC, pR, cs, as.map V.ref, rfl, .inl (.inl hc1), .inl (.inl Rw.at_), ?_⟩
  have hgo := RZ.for_zipL (K := K) (a := pC) (b := pR) (xs := cs) (ys := as.map V.ref) (g := gTup K 2 (gCons (gName 7) (gCons (gName 8) gNil))) (tb := tAsg (tCall (spWo K C) [] L2.E0 (tCons (tVar 6) (tCons (tVar 8) (tCons (tVar 7) tNil)))) (gName 6)) (D := D) (σ := σ) (H := H)
    (by rw [hcl, List.length_map, hal, hk])
    (fun i σ' H' => ∃ p', EnvOk K C B H' σ' [.dat d0, .dat d1, .dat d2, .any, .own pC (colD k), .dat d5, .own p' ((elimTo R a i).map rat), .any, .any, .any, .any, .any, .any] ∧ σ'[3]? = some (some (.ref pR)) ∧ Ex H H')
    ⟨p, E, h3, Ex.refl H⟩ (fun i σ' H' ⟨p', _, _, e⟩ => ⟨.inl (.inl (e _ _ hc1)), .inl (.inl (e _ _ Rw.at_))⟩) ?_ ?_
  · exact hgo
  · intro i x y T σ' H' hx hy ⟨p', E', h3', e'⟩ hT
    obtain ⟨b, hb, rfl⟩ := as_ref hy
    obtain ⟨dx, hdx, hx2⟩ := hc2.getV hx
    have hi : i < k := by
      rcases Nat.lt_or_ge i k with q | q
      · exact q
      · rw [List.getElem?_eq_none (by rw [colD_len]; exact q)] at hdx; cases hdx
    rw [colD_get hi] at hdx
    cases hdx
    have hxi := im_int hx2
    subst hxi
    have eT : Ex H' (upd H' T (.tup [.int (i : Int), .ref b])) := Ex.new hT
    refine ⟨T, [.int (i : Int), .ref b], rfl, .inl (.inl upd_same), rfl, .int (i : Int), [.ref b], rfl, .ref b, [], rfl, rfl, ?_⟩
    have E2 := ((E'.mono eT).set (i := 7) (sd := .dat (.int (i : Int))) (lt_ok rfl) ⟨_, rfl, .int _⟩ fun _ _ z => nomatch z).setAny (i := 8) (lt_ok rfl) (.ref b)
    have e2 := e'.trans eT
    have Rw2 := Rw.ex e2
    obtain ⟨g6, us, gu1, gu2⟩ := E2.at_ 6 _ rfl
    obtain ⟨g7, g7v, g7i⟩ := E2.at_ 7 _ rfl
    have := im_int g7i
    subst this
    have g8 : ((σ'.set 7 (some (.int (i : Int)))).set 8 (some (.ref b)))[8]? = some (some (.ref b)) := by
      rw [List.getElem?_set_self (by rw [List.length_set, E'.len]; exact lt_ok rfl)]
    obtain ⟨n1, n2, n3, ws, w1, w2⟩ := Rw2.row i b hb
    refine ⟨_, g6, _, g8, _, g7v, p', b, us, ws, elimTo R a i, rowAt R i, i, Q, rfl, gu1, w1, gu2, w2, by rw [lens i (by omega), rl i hi], by rw [lens i (by omega)]; omega, by rw [lens i (by omega)]; exact h9, hQ, s1 i (by omega), s2 i hi, fun q vs H3 hq e3 hv1 hv2 => ?_⟩
    have no : ∀ (j : Nat) (es : List Dat), j ≠ 6 → [Sd.dat d0, .dat d1, .dat d2, .any, .own pC (colD k), .dat d5, .own p' ((elimTo R a i).map rat), .dat (.int (i : Int)), .any, .any, .any, .any, .any][j]? ≠ some (.own q es) := fun j es hj h => by
      rcases hq with rfl | hq
      · exact hj (E2.nd j 6 _ _ _ h rfl)
      · obtain ⟨_, vs', z, _⟩ := E2.at_ j _ h
        rw [hq] at z
        cases z
    have hbq : B.hq q = none := by
      rcases hq with rfl | hq
      · exact E2.fr 6 _ _ rfl
      · exact E2.exq.back hq
    have E4 := (E2.mono e3).adopt (i := 6) (lt_ok rfl) hv1 hv2 hbq no
    have E5 := (E4.drop 7).drop 8
    refine ⟨q, E5, ?_, e2.trans e3⟩
    rw [List.getElem?_set_ne (by decide), List.getElem?_set_ne (by decide), List.getElem?_set_ne (by decide)]
    exact h3'
  · intro σ' H' ⟨p', E', h3', e'⟩
    rw [hcl] at E'
    exact hd σ' H' p' E' h3' (Rw.ex e')
/-- the rows less the new row -/
theorem sv_comp {r : List Sd} {p : Addr} (E : EnvOk K C B H σ r) (hr3 : 8 < r.length) (r6 : r[6]? = some (.own p (a.map rat))) (r7 : r[7]? = some (.dat (.int (k : Int)))) (r8 : r[8]? = some .any)
    (r4 : r[4]? = some (.own pC (colD k))) (h3 : σ[3]? = some (some (.ref pR))) (Rw : Rws K C B H pR pC as R) (hk : R.length = k) (la : a.length = W) (rl : ∀ i, i < k → (rowAt R i).length = W) (hW : k < W) (h9 : W ≤ 900)
    (s1 : ∀ c, Sz Q (en a c)) (s2 : ∀ i, i < k → ∀ c, Sz Q (en (rowAt R i) c)) (hQ : Q ≤ 5000000) {Qv : VK}
    (hd : ∀ (Dl : Addr) (bs : List Addr) (H' : Hp), Ex H H' → H Dl = none → H' Dl = some (.lst (bs.map V.ref)) → bs.length = k → (∀ (i : Nat) (b : Addr), bs[i]? = some b → b ≠ Dl ∧ b ≠ pC ∧ B.hq b = none ∧ ∃ xs, H' b = some (.lst xs) ∧ ImA K C H' xs ((wo (rowAt R i) a k).map rat)) → Qv (.ref Dl) H') :
    tLc (iList K (tVar 3)) (gName 8) tYes (tCall (spWo K C) [] L2.E0 (tCons (tVar 8) (tCons (tVar 6) (tCons (tVar 7) tNil)))) [8] σ H Qv := by
  have hal := Rw.len
  obtain ⟨_, cs, c1, _⟩ := E.at_ 4 _ r4
  refine ⟨.ref pR, h3, pR, rfl, ⟨as.map V.ref, .inl (.inl Rw.at_)⟩, fun Dl hD => ?_⟩
  have hgo := lc_list (K := K) (a := pR) (xs := as.map V.ref) (g := gName 8) (tt := tYes) (te := tCall (spWo K C) [] L2.E0 (tCons (tVar 8) (tCons (tVar 6) (tCons (tVar 7) tNil)))) (vs := [8]) (σ := σ) (H1 := H) (D := Dl) (Qd := Qv (.ref Dl))
    (fun i H' => Ex H H' ∧ ∃ bs : List Addr, H' Dl = some (.lst (bs.map V.ref)) ∧ bs.length = i ∧ ∀ (j : Nat) (b : Addr), bs[j]? = some b → b ≠ Dl ∧ b ≠ pC ∧ B.hq b = none ∧ ∃ xs, H' b = some (.lst xs) ∧ ImA K C H' xs ((wo (rowAt R j) a k).map rat))
    ⟨Ex.new hD, [], upd_same, rfl, fun j b h => by simp at h⟩ (fun i H' _ ⟨e, _⟩ => .inl (.inl (e _ _ Rw.at_))) ?_ ?_
  · exact hgo
  · intro i x H' hx ⟨e, bs, b1, b2, b3⟩
    obtain ⟨b, hb, rfl⟩ := as_ref hx
    have hi : i < k := by
      rcases Nat.lt_or_ge i k with q | q
      · exact q
      · rw [List.getElem?_eq_none (by omega)] at hb; cases hb
    have e1 : (wipe σ [8]).set 8 (some (.ref b)) = σ.set 8 (some (.ref b)) := by
      show (σ.set 8 none).set 8 _ = _
      rw [List.set_set]
    show wipe ((wipe σ [8]).set 8 (some (.ref b))) [8] = wipe σ [8] ∧ _
    rw [e1]
    refine ⟨by show (σ.set 8 _).set 8 none = σ.set 8 none; rw [List.set_set], ?_⟩
    have E2 := (E.mono e).setAny hr3 (.ref b)
    have rs : r.set 8 .any = r := by
      refine List.ext_getElem? fun j => ?_
      by_cases q : 8 = j
      · subst q; rw [List.getElem?_set_self hr3, r8]
      · rw [List.getElem?_set_ne q]
    rw [rs] at E2
    obtain ⟨g6, us, gu1, gu2⟩ := E2.at_ 6 _ r6
    obtain ⟨g7, g7v, g7i⟩ := E2.at_ 7 _ r7
    have := im_int g7i
    subst this
    have g8 : (σ.set 8 (some (.ref b)))[8]? = some (some (.ref b)) := by
      rw [List.getElem?_set_self (by rw [E.len]; exact hr3)]
    obtain ⟨n1, n2, n3, ws, w1, w2⟩ := (Rw.ex e).row i b hb
    obtain ⟨_, _, _, ws0, w0, _⟩ := Rw.row i b hb
    refine ⟨_, g8, _, g6, _, g7v, b, p, ws, us, rowAt R i, a, k, Q, rfl, w1, gu1, w2, gu2, by rw [rl i hi, la], by rw [rl i hi]; exact hW, by rw [rl i hi]; exact h9, hQ, s2 i hi, s1, fun q vs H3 hq e3 hv1 hv2 => ⟨bs.map V.ref, e3 _ _ b1, by rw [List.length_map]; exact sz_lt (by omega), ?_⟩⟩
    have hbq : B.hq q = none := by
      rcases hq with rfl | hq
      · exact n3
      · exact E2.exq.back hq
    have hqD : q ≠ Dl := by
      rcases hq with rfl | hq
      · intro z; subst z; rw [hD] at w0; cases w0
      · intro z; subst z; rw [b1] at hq; cases hq
    have hqC : q ≠ pC := by
      rcases hq with rfl | hq
      · exact n2
      · intro z; subst z; rw [e _ _ c1] at hq; cases hq
    have kp : Kp H3 (upd H3 Dl (.lst (bs.map V.ref ++ [.ref q]))) := Kp.upd (e3 _ _ b1)
    refine ⟨(e.trans e3).mut hD, bs ++ [q], by rw [List.map_append]; exact upd_same, by rw [List.length_append, b2] <;> rfl, fun j b' hj => ?_⟩
    by_cases hlt : j < bs.length
    · rw [List.getElem?_append_left hlt] at hj
      obtain ⟨m1, m2, m3, xs, m4, m5⟩ := b3 j b' hj
      exact ⟨m1, m2, m3, xs, by rw [upd_ne m1]; exact e3 _ _ m4, (m5.ex e3).kp kp⟩
    · rw [List.getElem?_append_right (by omega)] at hj
      have ej : j - bs.length = 0 := by
        rcases Nat.eq_zero_or_pos (j - bs.length) with z | z
        · exact z
        · rw [List.getElem?_eq_none (by show 1 ≤ _; omega)] at hj; cases hj
      rw [ej] at hj
      have := Option.some.inj hj
      subst this
      have eji : j = i := by omega
      subst eji
      exact ⟨hqD, hqC, hbq, vs, by rw [upd_ne hqD]; exact hv1, hv2.kp kp⟩
  · intro H' ⟨e, bs, b1, b2, b3⟩
    exact hd Dl bs H' e hD b1 (by rw [b2, List.length_map]; omega) b3

theorem Rws.updq {q : Addr} {xs ys : List V} (Rw : Rws K C B H pR pC as R) (h : H q = some (.lst xs)) (n1 : pR ≠ q) (n2 : ∀ (i : Nat) (b : Addr), as[i]? = some b → b ≠ q) : Rws K C B (L2.upd H q (.lst ys)) pR pC as R :=
  ⟨Rw.hq, Rw.ne, by rw [upd_ne n1]; exact Rw.at_, Rw.len, fun i b g => by obtain ⟨h1, h2, h3, us, h4, h5⟩ := Rw.row i b g; exact ⟨h1, h2, h3, us, by rw [upd_ne (n2 i b g)]; exact h4, h5.kp (Kp.upd h)⟩⟩
abbrev outD (R : List (List Rat)) (n rr i : Nat) : List Dat := (List.range n).map fun (j : Nat) => if j < i then rowD (((rowAt R j).drop n).take rr) else .tup []
theorem outD_set {R : List (List Rat)} {n rr i : Nat} : (outD R n rr i).set i (rowD (((rowAt R i).drop n).take rr)) = outD R n rr (i + 1) := by
  refine List.ext_getElem (by rw [List.length_set, List.length_map, List.length_map]) fun j h1 h2 => ?_
  rw [List.getElem_set, List.getElem_map, List.getElem_map, List.getElem_range]
  by_cases e : i = j
  · subst e; rw [if_pos rfl, if_pos (by omega)]
  · rw [if_neg e]
    by_cases c : j < i
    · rw [if_pos c, if_pos (by omega)]
    · rw [if_neg c, if_neg (by omega)]
theorem cut_mid {ds : List Dat} {n rr : Nat} (h : ds.length = n + rr + n) : cutD ds (some (n : Int)) (some (((ds.length : Nat) : Int) - (n : Int))) = (ds.drop n).take rr := by
  rw [show ((ds.length : Nat) : Int) - (n : Int) = ((n + rr : Nat) : Int) by omega]
  unfold cutD
  rw [HT.sIx_nat, HT.sIx_nat, Nat.min_eq_left (by omega), Nat.min_eq_left (by omega), Nat.add_sub_cancel_left]
theorem sv_out {d0 d1 : Dat} {pS : Addr} {n rr : Nat} (E : EnvOk K C B H σ [.dat d0, .dat d1, .dat (.int (n : Int)), .any, .own pC (colD n), .any, .any, .any, .any, .any, .own pS (outD R n rr 0), .any, .any])
    (h3 : σ[3]? = some (some (.ref pR))) (Rw : Rws K C B H pR pC as R) (hk : R.length = n) (rl : ∀ i, i < n → (rowAt R i).length = n + rr + n) (h9 : n ≤ 900) (nS : ∀ (i : Nat) (b : Addr), as[i]? = some b → b ≠ pS) (nR : pR ≠ pS) {D : Ends}
    (hd : ∀ σ' H', EnvOk K C B H' σ' [.dat d0, .dat d1, .dat (.int (n : Int)), .any, .own pC (colD n), .any, .any, .any, .any, .any, .own pS (outD R n rr n), .any, .any] → D.nx σ' H') :
    tFor (iZip K (tCons (tVar 4) (tCons (tVar 3) tNil))) (gTup K 2 (gCons (gName 7) (gCons (gName 6) gNil))) (tAsg (tCB (rTupOf K) (tCons (tSl (rSlL K) (tVar 6) (tPart (tVar 2)) (tPart (tOp (rI0 fun i j => .int (i - j)) (tCB (rLenS K) (tCons (tVar 6) tNil)) (tVar 2)))) tNil)) (gSub (tVar 10) (tVar 7) rSetL)) D σ H := by
  obtain ⟨h4, cs, hc1, hc2⟩ := E.at_ 4 _ rfl
  have hcl := hc2.len
  rw [colD_len] at hcl
  have hal := Rw.len
  have nCS : pC ≠ pS := fun e => by
    have := E.nd 4 10 pC _ _ rfl (by rw [e]; rfl)
    omega
  refine ⟨.ref pC, h4, .ref pR, h3, pC, pR, cs, as.map V.ref, rfl, .inl (.inl hc1), .inl (.inl Rw.at_), ?_⟩
  have hgo := RZ.for_zipL (K := K) (a := pC) (b := pR) (xs := cs) (ys := as.map V.ref) (g := gTup K 2 (gCons (gName 7) (gCons (gName 6) gNil))) (tb := tAsg (tCB (rTupOf K) (tCons (tSl (rSlL K) (tVar 6) (tPart (tVar 2)) (tPart (tOp (rI0 fun i j => .int (i - j)) (tCB (rLenS K) (tCons (tVar 6) tNil)) (tVar 2)))) tNil)) (gSub (tVar 10) (tVar 7) rSetL)) (D := D) (σ := σ) (H := H)
    (by rw [hcl, List.length_map, hal, hk])
    (fun i σ' H' => EnvOk K C B H' σ' [.dat d0, .dat d1, .dat (.int (n : Int)), .any, .own pC (colD n), .any, .any, .any, .any, .any, .own pS (outD R n rr i), .any, .any] ∧ H' pC = some (.lst cs) ∧ ImA K C H' cs (colD n) ∧ Rws K C B H' pR pC as R)
    ⟨E, hc1, hc2, Rw⟩ (fun i σ' H' ⟨_, c1, _, r1⟩ => ⟨.inl (.inl c1), .inl (.inl r1.at_)⟩) ?_ ?_
  · exact hgo
  · intro i x y T σ' H' hx hy ⟨E', c1, c2, Rw'⟩ hT
    obtain ⟨b, hb, rfl⟩ := as_ref hy
    obtain ⟨dx, hdx, hx2⟩ := c2.getV hx
    have hi : i < n := by
      rcases Nat.lt_or_ge i n with q | q
      · exact q
      · rw [List.getElem?_eq_none (by rw [colD_len]; exact q)] at hdx; cases hdx
    rw [colD_get hi] at hdx
    cases hdx
    have hxi := im_int hx2
    subst hxi
    have eT : Ex H' (upd H' T (.tup [.int (i : Int), .ref b])) := Ex.new hT
    refine ⟨T, [.int (i : Int), .ref b], rfl, .inl (.inl upd_same), rfl, .int (i : Int), [.ref b], rfl, .ref b, [], rfl, rfl, ?_⟩
    have Rw2 := Rw'.ex eT
    obtain ⟨n1, n2, n3, ws, w1, w2⟩ := Rw2.row i b hb
    have E2 := ((E'.mono eT).set (i := 7) (sd := .dat (.int (i : Int))) (lt_ok rfl) ⟨_, rfl, .int _⟩ fun _ _ z => nomatch z).adopt (i := 6) (lt_ok rfl) w1 w2 n3 (fun j es hj => by
      match j with
      | 0 => intro z; cases z
      | 1 => intro z; cases z
      | 2 => intro z; cases z
      | 3 => intro z; cases z
      | 4 => intro z; cases z; exact n2 rfl
      | 5 => intro z; cases z
      | 6 => exact absurd rfl hj
      | 7 => intro z; cases z
      | 8 => intro z; cases z
      | 9 => intro z; cases z
      | 10 => intro z; cases z; exact nS i _ hb rfl
      | 11 => intro z; cases z
      | 12 => intro z; cases z
      | j + 13 => intro z; cases z)
    have ev : EvD K C (tCB (rTupOf K) (tCons (tSl (rSlL K) (tVar 6) (tPart (tVar 2)) (tPart (tOp (rI0 fun i j => .int (i - j)) (tCB (rLenS K) (tCons (tVar 6) tNil)) (tVar 2)))) tNil)) [.dat d0, .dat d1, .dat (.int (n : Int)), .any, .own pC (colD n), .any, .own b ((rowAt R i).map rat), .dat (.int (i : Int)), .any, .any, .own pS (outD R n rr i), .any, .any] (rowD (((rowAt R i).drop n).take rr)) := by
      refine ed_is (ed_tupL (el_of_n (en_slL (el_own rfl) (eo_some (ed_var rfl)) (eo_some (ed_i (ed_lenL (el_own rfl)) (ed_var rfl)))))) ?_
      rw [cut_mid (rr := rr) (by rw [List.length_map, rl i hi]), ← List.map_drop, ← List.map_take]
    refine ev B _ _ E2 _ fun v H3 e3 hv => ?_
    have E3 := E2.mono e3
    obtain ⟨g10, us, u1, u2⟩ := E3.at_ 10 _ rfl
    obtain ⟨g7, g7v, g7i⟩ := E3.at_ 7 _ rfl
    have := im_int g7i
    subst this
    have hul := u2.len
    have ol : (outD R n rr i).length = n := by rw [List.length_map, List.length_range]
    refine ⟨_, g10, _, g7v, pS, us, i, i, rfl, rfl, u1, ?_, ?_⟩
    · unfold ixN
      rw [if_pos (by omega), if_pos (by rw [hul, ol]; omega)]
      rfl
    · have E4 := (E3.mut (i := 10) rfl (ImA.set hv i u2))
      have E5 := (E4.drop 7).drop 6
      rw [outD_set] at E5
      have e13 := eT.trans e3
      exact ⟨E5, by rw [upd_ne nCS]; exact e13 _ _ c1, (c2.ex e13).kp (Kp.upd u1), (Rw2.ex e3).updq u1 nR nS⟩
  · intro σ' H' ⟨E', _, _, _⟩
    rw [hcl] at E'
    exact hd σ' H' E'
end
section
variable {P : Program} {w : World} {K : Frg} {C : Addr} {mg : Str → Option Value} {base : Heap} {z1 o1 z2 o2 z3 o3 : Addr} (G : Glo K mg base z1 o1 z2 o2 z3 o3) (T : Rt P w K C mg base)
include G T in
theorem has_solve (h_without : Has P w K mg base "without" 43 ["row", "other", "column"] (spWo K C)) (h_first_nonzero : Has P w K mg base "first_nonzero" 40 ["row", "size"] (spR K C RNz)) (F : Def K mg "solve" s_solve ["matrix", "right"]) : Has P w K mg base "solve" 44 ["matrix", "right"] (spR K C RSolve) := by
  obtain ⟨f, fd, F, m, b⟩ := F
  have h_divide := T.div
  refine has_of F m b (fn_ok F sc_solve (fun as z h => by cases h; rfl) fun cdv A outer s H Q E hr as z h => ?_)
  obtain ⟨M, R, Am, n, rr, Qs, hn, hrr, hM, hR, hMR, hA, D, S, hQ⟩ := h
  refine ⟨_, (pss_cons (ps_set (i := 2) sc_solve.nd rfl (.inl rfl) (pe_callB cr_len (by rfl) G.len PySem.boot_len (pa_cons (pv 0) pa_nil)))
    (pss_cons (ps_set (i := 3) sc_solve.nd rfl (.inl rfl) (pe_lst pa_nil))
    (pss_cons (ps_set (i := 4) sc_solve.nd rfl (.inl rfl) (pe_lst pa_nil))
    (pss_cons (ps_for PassesOwn.never rfl (pi_range1 (by rfl) G.range (pa_cons (pv 2) pa_nil)) (pg_name (i := 5) sc_solve.nd rfl (.inr rfl)) (pss_cons (ps_set (i := 6) sc_solve.nd rfl (.inr rfl) (pe_op op_cat (pe_op op_cat (pe_callTy cr_lst (by rfl) G.list b_list (pa_cons (pe_ix ix_tup (pv 0) (pv 5) (fun _ _ => rfl)) pa_nil)) (pe_callTy cr_lst (by rfl) G.list b_list (pa_cons (pe_ix ix_tup (pv 1) (pv 5) (fun _ _ => rfl)) pa_nil))) (pe_lc (own := [("k", 12)]) (g := (gName 12)) rfl sc_solve.nd (pi_range1 (by rfl) G.range (pa_cons (pv 2) pa_nil)) (blkOk_by (N := ["matrix", "right", "size", "rows", "columns", "at", "row", "column", "other", "pivot", "solution", "entry", "k"]) (sc := defScope s_solve) (by decide +kernel)) (fun _ _ _ _ _ => (pg_name (i := 12) sc_solve.nd rfl (.inl rfl))) (fun _ _ _ _ _ => pts_nil) (fun _ _ _ _ _ => (pe_tup (pa_cons (pe_callTy cr_int (by rfl) G.int b_int (pa_cons (pe_cmpR op_eq (pv 12) (pv 5) (nomark _)) pa_nil)) (pa_cons pe_int pa_nil)))))))
    (pss_cons (ps_for PassesOwn.never rfl (pi_zip (by rfl) G.zip (pa_cons (pv 4) (pa_cons (pv 3) pa_nil))) (pg_tup rfl (pgs_cons (pg_name (i := 7) sc_solve.nd rfl (.inr rfl)) (pgs_cons (pg_name (i := 8) sc_solve.nd rfl (.inl rfl)) pgs_nil))) (pss_one (ps_set (i := 6) sc_solve.nd rfl (.inr rfl) (pe_has h_without (hr.mono (by decide)) (by rfl) (pa_cons (pv 6) (pa_cons (pv 8) (pa_cons (pv 7) pa_nil)))))))
    (pss_cons (ps_set (i := 7) sc_solve.nd rfl (.inr rfl) (pe_has h_first_nonzero (hr.mono (by decide)) (by rfl) (pa_cons (pv 6) (pa_cons (pv 2) pa_nil))))
    (pss_cons (ps_if (pt_cmpR op_isN (pv 7) pe_non (nomark _)) (pss_one (ps_ret (pe_tup (pa_cons pe_str (pa_cons (pe_callTy cr_tup (by rfl) G.tuple b_tuple (pa_cons (pe_slice sl_list (pv 6) (po_some (pe_op op_sub (pe_callB cr_len (by rfl) G.len PySem.boot_len (pa_cons (pv 6) pa_nil)) (pv 2))) po_none) pa_nil)) pa_nil))))) pss_nil)
    (pss_cons (ps_set (i := 9) sc_solve.nd rfl (.inr rfl) (pe_ix ix_list (pv 6) (pv 7) (fun _ _ => rfl)))
    (pss_cons (ps_set (i := 6) sc_solve.nd rfl (.inr rfl) (pe_lc (own := [("entry", 11)]) (g := (gName 11)) rfl sc_solve.nd (pi_list (pv 6)) (blkOk_by (N := ["matrix", "right", "size", "rows", "columns", "at", "row", "column", "other", "pivot", "solution", "entry", "k"]) (sc := defScope s_solve) (by decide +kernel)) (fun _ _ _ _ _ => (pg_name (i := 11) sc_solve.nd rfl (.inl rfl))) (fun _ _ _ _ _ => pts_nil) (fun _ _ _ _ _ => (pe_has h_divide (hr.mono (by decide)) (by rfl) (pa_cons (pv 11) (pa_cons (pv 9) pa_nil))))))
    (pss_cons (ps_setLc (i := 3) (own := [("other", 8)]) (g := (gName 8)) rfl sc_solve.nd rfl rfl (sw_true rfl rfl rfl (by decide +kernel)) (pi_list (pv 3)) (blkOk_by (N := ["matrix", "right", "size", "rows", "columns", "at", "row", "column", "other", "pivot", "solution", "entry", "k"]) (sc := defScope s_solve) (by decide +kernel)) (fun _ _ _ _ _ => (pg_name (i := 8) sc_solve.nd rfl (.inl rfl))) (fun _ _ _ _ _ => pts_nil) (fun _ _ _ _ _ => (pe_has h_without (hr.mono (by decide)) (by rfl) (pa_cons (pv 8) (pa_cons (pv 6) (pa_cons (pv 7) pa_nil))))))
    (pss_cons (ps_expr (pe_bm PySem.F.plainAttrs_list PySem.F.slot_list_append PySem.F.type_list_append mt_append (pv 3) (pa_cons (pv 6) pa_nil)))
    (pss_one (ps_expr (pe_bm PySem.F.plainAttrs_list PySem.F.slot_list_append PySem.F.type_list_append mt_append (pv 4) (pa_cons (pv 7) pa_nil)))))))))))))
    (pss_cons (ps_set (i := 10) sc_solve.nd rfl (.inl rfl) (pe_op op_rep (pe_lst (pa_cons (pe_tup pa_nil) pa_nil)) (pv 2)))
    (pss_cons (ps_for PassesOwn.never rfl (pi_zip (by rfl) G.zip (pa_cons (pv 4) (pa_cons (pv 3) pa_nil))) (pg_tup rfl (pgs_cons (pg_name (i := 7) sc_solve.nd rfl (.inr rfl)) (pgs_cons (pg_name (i := 6) sc_solve.nd rfl (.inr rfl)) pgs_nil))) (pss_one (ps_asg (pe_callTy cr_tup (by rfl) G.tuple b_tuple (pa_cons (pe_slice sl_list (pv 6) (po_some (pv 2)) (po_some (pe_op op_sub (pe_callB cr_len (by rfl) G.len PySem.boot_len (pa_cons (pv 6) pa_nil)) (pv 2)))) pa_nil)) (pg_sub (pv 10) (pv 7) set_list))))
    (pss_one (ps_ret (pe_tup (pa_cons pe_str (pa_cons (pe_callTy cr_tup (by rfl) G.tuple b_tuple (pa_cons (pv 10) pa_nil)) pa_nil))))))))))), ?_⟩
  have hW : n ≤ n + rr + n := by omega
  refine st_seq (st_asg (d := .int (n : Int)) (ed_is (ed_lenT (ed_var rfl)) (by rw [List.length_map, hM])) (lt_ok rfl) ?_)
  refine st_seq (st_asgN en_l0 (lt_ok rfl) fun pR0 => ?_)
  refine st_seq (st_asgN en_l0 (lt_ok rfl) fun pC => ?_)
  intro B H1 σ1 De E1 O
  have E2 : EnvOk K C B H1 σ1 [.dat (.tup (M.map rowD)), .dat (.tup (R.map rowD)), .dat (.int (n : Int)), .own pR0 [], .own pC (colD 0), .any, .any, .any, .any, .any, .any, .any, .any] := E1
  obtain ⟨g3, ps, p1, p2⟩ := E2.at_ 3 _ rfl
  obtain ⟨g4, qs, q1, q2⟩ := E2.at_ 4 _ rfl
  cases p2
  obtain ⟨g2, g2v, g2i⟩ := E2.at_ 2 _ rfl
  have := im_int g2i
  subst this
  refine ⟨_, g2v, n, rfl, by omega, by omega, for_range (lo := 0) (n := ((n : Int)).toNat) (fun i σ' H' => ∃ pR as, EnvOk K C B H' σ' [.dat (.tup (M.map rowD)), .dat (.tup (R.map rowD)), .dat (.int (n : Int)), .any, .own pC (colD i), .any, .any, .any, .any, .any, .any, .any, .any] ∧ σ'[3]? = some (some (.ref pR)) ∧ Rws K C B H' pR pC as (gj Am i))
    ⟨pR0, [], E2.drop 3, g3, ⟨E2.fr 3 _ _ rfl, fun e => by have := E2.nd 3 4 pC [] (colD 0) (by rw [← e]; rfl) rfl; omega, p1, rfl, fun i a h => by simp at h⟩⟩ ?_ ?_⟩
  · intro i σ' H' hi ⟨pR, as, E3, h3, Rw⟩
    have hin : i < n := by omega
    have e0 : (0 : Int) + (i : Int) = (i : Int) := Int.zero_add _
    rw [e0]
    have I := red_all D i (by omega)
    have la : (rowAt Am i).length = n + rr + n := D.len i hin
    have E4 := E3.set (i := 5) (sd := .dat (.int (i : Int))) (lt_ok rfl) ⟨_, rfl, .int _⟩ fun _ _ z => nomatch z
    have h34 : (σ'.set 5 (some (.int (i : Int))))[3]? = some (some (.ref pR)) := by
      rw [List.getElem?_set_ne (by decide)]; exact h3
    have s1 : EvN K C (tOp rCat (tOp rCat (tCB (rLstOf K) (tCons (tOp (rIxT K) (tVar 0) (tVar 5)) tNil)) (tCB (rLstOf K) (tCons (tOp (rIxT K) (tVar 1) (tVar 5)) tNil))) (tLc (iRng1 (tCons (tVar 2) tNil)) (gName 12) tYes (tTup (tCons (tCB rInt1 (tCons (tOp rEq (tVar 12) (tVar 5)) tNil)) (tCons (tC (.int 1)) tNil))) [12]))
        [.dat (.tup (M.map rowD)), .dat (.tup (R.map rowD)), .dat (.int (n : Int)), .any, .own pC (colD i), .dat (.int (i : Int)), .any, .any, .any, .any, .any, .any, .any] ((rowAt Am i).map rat) := by
      obtain ⟨l1, l2⟩ := hMR i hin
      refine en_is (en_cat (em_of_n (en_cat (em_of_n (en_listT (e_ix (n := i) (ed_var rfl) (ed_var rfl) rfl (rowD_get (by omega))))) (em_of_n (en_listT (e_ix (n := i) (ed_var rfl) (ed_var rfl) rfl (rowD_get (by omega))))) (by rw [List.length_map, List.length_map, l1, l2]; omega)))
        (em_of_n (en_lcR0 (N := n) (fun k => Dat.tup [.int (if (decide ((k : Int) = (i : Int))) = true then 1 else 0), .int 1]) (ea_d (ed_var rfl) ea_nil) (by omega) (lt_ok rfl) fun k hk => ed_t2 (ed_intB (ed_eqI (ed_var rfl) (ed_var rfl))) ed_int)) (by rw [List.length_append, List.length_map, List.length_map, List.length_map, List.length_range, l1, l2]; omega)) ?_
      rw [hA i hin]
      show _ = ((rowAt M i) ++ (rowAt R i) ++ unit n i).map rat
      rw [List.map_append, List.map_append, unitD]
    refine s1 B _ _ E4 _ fun v H2 e2 ⟨p, vs, hv, hp, v1, v2⟩ => ?_
    subst hv
    have E5 := E4.setOwn (i := 6) (lt_ok rfl) hp e2 v1 v2
    refine sv_elim (pR := pR) (pC := pC) (as := as) (R := gj Am i) (a := rowAt Am i) (k := i) (W := n + rr + n) (Q := Qs) E5 (by rw [List.getElem?_set_ne (by decide)]; exact h34) (Rw.ex e2) (gj_len Am i) (elim_len D I hin) I.len (by omega) (by omega) (S.elim i hin) (S.rows i (by omega)) hQ fun σ3 H3 p3 E6 h36 Rw3 => ?_
    have hcl : (elimTo (gj Am i) (rowAt Am i) i).length = n + rr + n := elim_len D I hin i (Nat.le_refl _)
    have pv := piv_pos D I hin
    have s2 : EvD K C (tCall (spR K C RNz) [] L2.E0 (tCons (tVar 6) (tCons (tVar 2) tNil))) [.dat (.tup (M.map rowD)), .dat (.tup (R.map rowD)), .dat (.int (n : Int)), .any, .own pC (colD i), .dat (.int (i : Int)), .own p3 ((elimTo (gj Am i) (rowAt Am i) i).map rat), .any, .any, .any, .any, .any, .any] (.int (i : Int)) :=
      ed_call (ea_l (el_own rfl) (ea_d (ed_var rfl) ea_nil)) (.mk _ _ _ hin (by omega) (by omega) (by intro z; rw [z] at pv; grind) fun c hc => cur_zero D I hin hc)
    refine s2 B _ _ E6 _ fun v H4 e4 hv4 => ?_
    have E7 := (E6.mono e4).set (i := 7) (sd := .dat (.int (i : Int))) (lt_ok rfl) ⟨v, rfl, hv4⟩ fun _ _ z => nomatch z
    have s3 : EvTt K C (tTest (tOp (fun x y H Q => y = .non ∧ Q (.bl (decide (x = .non))) H) (tVar 7) (tC .non))) [.dat (.tup (M.map rowD)), .dat (.tup (R.map rowD)), .dat (.int (n : Int)), .any, .own pC (colD i), .dat (.int (i : Int)), .own p3 ((elimTo (gj Am i) (rowAt Am i) i).map rat), .dat (.int (i : Int)), .any, .any, .any, .any, .any] false := tt_test (ed_isN (d := .int (i : Int)) (ed_var rfl) ed_non)
    refine s3 B _ _ E7 _ fun H5 e5 => ?_
    have s4 : EvD K C (tOp (rIxL K) (tVar 6) (tVar 7)) [.dat (.tup (M.map rowD)), .dat (.tup (R.map rowD)), .dat (.int (n : Int)), .any, .own pC (colD i), .dat (.int (i : Int)), .own p3 ((elimTo (gj Am i) (rowAt Am i) i).map rat), .dat (.int (i : Int)), .any, .any, .any, .any, .any] (rat (en (elimTo (gj Am i) (rowAt Am i) i) i)) := e_ixL (n := i) (el_own rfl) (ed_var rfl) rfl (en_getR (by omega))
    refine s4 B _ _ (E7.mono e5) _ fun v6 H6 e6 hv6 => ?_
    have E8 := ((E7.mono e5).mono e6).set (i := 9) (sd := .dat (rat (en (elimTo (gj Am i) (rowAt Am i) i) i))) (lt_ok rfl) ⟨v6, rfl, hv6⟩ fun _ _ z => nomatch z
    have s5 : EvN K C (tLc (iList K (tVar 6)) (gName 11) tYes (tCall (spR K C RDiv) [] L2.E0 (tCons (tVar 11) (tCons (tVar 9) tNil))) [11]) [.dat (.tup (M.map rowD)), .dat (.tup (R.map rowD)), .dat (.int (n : Int)), .any, .own pC (colD i), .dat (.int (i : Int)), .own p3 ((elimTo (gj Am i) (rowAt Am i) i).map rat), .dat (.int (i : Int)), .any, .dat (rat (en (elimTo (gj Am i) (rowAt Am i) i) i)), .any, .any, .any] ((norm (elimTo (gj Am i) (rowAt Am i) i) i).map rat) := by
      refine en_is (en_lcL0 (fun d => match d with | .tup [.int p, .int p'] => rat (Rat.divInt p p' / en (elimTo (gj Am i) (rowAt Am i) i) i) | _ => .non) (el_own rfl) (by rw [List.length_map, hcl]; omega) (lt_ok rfl) fun c x hx => ?_) ?_
      · rw [List.getElem?_map] at hx
        obtain ⟨y, hy, rfl⟩ := Option.map_eq_some_iff.mp hx
        have hy' : en (elimTo (gj Am i) (rowAt Am i) i) c = y := by
          unfold en
          rw [List.getD_eq_getElem?_getD, hy] <;> rfl
        have g1 := S.elim i hin i (Nat.le_refl _) c
        rw [hy'] at g1
        show EvD K C _ _ (rat (Rat.divInt y.num (y.den : Int) / en (elimTo (gj Am i) (rowAt Am i) i) i))
        rw [Rat.num_divInt_den]
        exact e_div (ed_var rfl) (ed_var rfl) (g1.big (by omega)) ((S.elim i hin i (Nat.le_refl _) i).big (by omega)) (by intro z; rw [z] at pv; grind)
      · unfold norm
        rw [List.map_map, List.map_map]
        refine List.map_congr_left fun y _ => ?_
        show rat (Rat.divInt y.num (y.den : Int) / _) = rat (y / _)
        rw [Rat.num_divInt_den]
    refine gn_ ?_
    dsimp only
    refine sq_ ?_
    refine as_ ?_
    refine s5 B _ _ E8 _ fun v7 H7 e7 ⟨p7, vs7, hv7, hp7, w1, w2⟩ => ?_
    subst hv7
    have E9 := E8.setOwn (i := 6) (lt_ok rfl) hp7 e7 w1 w2
    have Rw7 := Rw3.ex (((e4.trans e5).trans e6).trans e7)
    have nl : (norm (elimTo (gj Am i) (rowAt Am i) i) i).length = n + rr + n := by
      unfold norm
      rw [List.length_map]; exact hcl
    have rz := S.rows (i + 1) (by omega)
    have gl := gj_len Am i
    have nz : ∀ c, Sz Qs (en (norm (elimTo (gj Am i) (rowAt Am i) i) i) c) := fun c => by
      have := rz i (by omega) c
      have e : rowAt (gj Am (i + 1)) i = norm (elimTo (gj Am i) (rowAt Am i) i) i := by
        show rowAt (stepR (gj Am i) (rowAt Am i)) i = _
        unfold stepR
        rw [gl]
        have q := rowAt_last (R := gj Am i) (f := fun o => wo o (norm (elimTo (gj Am i) (rowAt Am i) i) i) i) (x := norm (elimTo (gj Am i) (rowAt Am i) i) i)
        rw [gl] at q
        exact q
      rw [e] at this
      exact this
    refine gn_ ?_
    dsimp only
    refine sq_ ?_
    refine as_ ?_
    refine sv_comp (pR := pR) (pC := pC) (as := as) (R := gj Am i) (a := norm (elimTo (gj Am i) (rowAt Am i) i) i) (k := i) (W := n + rr + n) (Q := Qs) E9 (Nat.le_of_ble_eq_true rfl) rfl rfl rfl rfl
      (by rw [List.getElem?_set_ne (by decide), List.getElem?_set_ne (by decide), List.getElem?_set_ne (by decide)]; exact h36) Rw7 gl nl I.len (by omega) (by omega) nz (S.rows i (by omega)) hQ fun Dl bs H8 e8 hDl b1 b2 b3 => ?_
    have E10 := (E9.mono e8).setAny (i := 3) (lt_ok rfl) (.ref Dl)
    obtain ⟨_, cs0, k1, _⟩ := E9.at_ 4 _ rfl
    obtain ⟨_, xs6, k6, _⟩ := E9.at_ 6 _ rfl
    have nDC : Dl ≠ pC := fun e => by subst e; rw [hDl] at k1; cases k1
    have nD6 : p7 ≠ Dl := fun e => by subst e; rw [hDl] at k6; cases k6
    have n6C : p7 ≠ pC := fun e => by have := E9.nd 6 4 p7 _ _ rfl (by rw [e]; rfl); omega
    have hqD : B.hq Dl = none := E9.exq.back hDl
    have h6q : B.hq p7 = none := E9.fr 6 _ _ rfl
    obtain ⟨g6, us6, u61, u62⟩ := E10.at_ 6 _ rfl
    have g33 : ((((σ3.set 7 (some v)).set 9 (some v6)).set 6 (some (.ref p7))).set 3 (some (.ref Dl)))[3]? = some (some (.ref Dl)) := by
      rw [List.getElem?_set_self (by rw [List.length_set, List.length_set, List.length_set, E6.len]; exact lt_ok rfl)]
    have E11 := E10.upd (ys := bs.map V.ref ++ [.ref p7]) b1 hqD (fun j es => by
      match j with
      | 0 => intro z; cases z
      | 1 => intro z; cases z
      | 2 => intro z; cases z
      | 3 => intro z; cases z
      | 4 => intro z; cases z; exact nDC rfl
      | 5 => intro z; cases z
      | 6 => intro z; cases z; exact nD6 rfl
      | 7 => intro z; cases z
      | 8 => intro z; cases z
      | 9 => intro z; cases z
      | 10 => intro z; cases z
      | 11 => intro z; cases z
      | 12 => intro z; cases z
      | j + 13 => intro z; cases z)
    refine ⟨.ref Dl, g33, .inl ⟨rfl, _, .inl (.inl b1)⟩, _, g6, Dl, bs.map V.ref, .ref p7, rfl, rfl, b1, by rw [List.length_map]; exact sz_lt (by omega), ?_⟩
    have kp : Kp H8 (L2.upd H8 Dl (.lst (bs.map V.ref ++ [.ref p7]))) := Kp.upd b1
    have RwN : Rws K C B (L2.upd H8 Dl (.lst (bs.map V.ref ++ [.ref p7]))) Dl pC (bs ++ [p7]) (gj Am (i + 1)) := by
      have eg : gj Am (i + 1) = (gj Am i).map (fun o => wo o (norm (elimTo (gj Am i) (rowAt Am i) i) i) i) ++ [norm (elimTo (gj Am i) (rowAt Am i) i) i] := by
        show stepR (gj Am i) (rowAt Am i) = _
        unfold stepR
        rw [gl]
      refine ⟨hqD, nDC, by rw [List.map_append]; exact upd_same, by rw [List.length_append, b2, gj_len] <;> rfl, fun j b' hj => ?_⟩
      by_cases hlt : j < bs.length
      · rw [List.getElem?_append_left hlt] at hj
        obtain ⟨m1, m2, m3, xs, m4, m5⟩ := b3 j b' hj
        refine ⟨m1, m2, m3, xs, by rw [upd_ne m1]; exact m4, ?_⟩
        rw [eg, rowAt_lt (R := gj Am i) (by rw [gl]; omega)]
        exact m5.kp kp
      · rw [List.getElem?_append_right (by omega)] at hj
        have ej : j - bs.length = 0 := by
          rcases Nat.eq_zero_or_pos (j - bs.length) with z | z
          · exact z
          · rw [List.getElem?_eq_none (by show 1 ≤ _; omega)] at hj; cases hj
        rw [ej] at hj
        have := Option.some.inj hj
        subst this
        have eji : j = i := by omega
        subst eji
        have q := rowAt_last (R := gj Am j) (f := fun o => wo o (norm (elimTo (gj Am j) (rowAt Am j) j) j) j) (x := norm (elimTo (gj Am j) (rowAt Am j) j) j)
        rw [gl] at q
        rw [eg, q]
        exact ⟨nD6, n6C, h6q, us6, by rw [upd_ne nD6]; exact u61, u62.kp kp⟩
    obtain ⟨g4', cs4, c41, c42⟩ := E11.at_ 4 _ rfl
    obtain ⟨g7', g7v, g7i⟩ := E11.at_ 7 _ rfl
    have := im_int g7i
    subst this
    have c4l := c42.len
    have cdl := colD_len i
    have E12 := E11.mut (i := 4) rfl (c42.append (.cons (.int (i : Int)) .nil))
    refine ⟨.ref pC, g4', .inl ⟨rfl, _, .inl (.inl c41)⟩, _, g7v, pC, cs4, .int (i : Int), rfl, rfl, c41, by rw [c4l]; exact sz_lt (by omega), ?_⟩
    rw [colD_succ] at E12
    exact ⟨Dl, bs ++ [p7], ((((E12.drop 5).drop 6).drop 7).drop 9), g33, RwN.upd c41⟩
  · intro σ' H' ⟨pR, as, E3, h3, Rw⟩
    rw [Int.toNat_natCast] at E3 Rw
    have s1 : EvN K C (tOp rRep (tLst (tCons (tTup tNil) tNil)) (tVar 2)) [.dat (.tup (M.map rowD)), .dat (.tup (R.map rowD)), .dat (.int (n : Int)), .any, .own pC (colD n), .any, .any, .any, .any, .any, .any, .any, .any] (outD (gj Am n) n rr 0) := by
      refine en_is (en_rep (em_of_n (en_l1 ed_t0)) (ed_var rfl) (by omega)) ?_
      refine List.ext_getElem (by rw [List.length_replicate, List.length_map, List.length_range]) fun j h1 h2 => ?_
      rw [List.getElem_replicate, List.getElem_map, if_neg (by omega)]
    refine s1 B _ _ E3 _ fun v H2 e2 ⟨p, vs, hv, hp, v1, v2⟩ => ?_
    subst hv
    have E4 := E3.setOwn (i := 10) (lt_ok rfl) hp e2 v1 v2
    refine sv_out (n := n) (rr := rr) E4 (by rw [List.getElem?_set_ne (by decide)]; exact h3) (Rw.ex e2) (gj_len Am n) (red_all D n (Nat.le_refl _)).len (by omega) (fun i b hb => ?_) ?_ fun σ3 H3 E5 => ?_
    · obtain ⟨_, _, _, xs, h, _⟩ := Rw.row i b hb
      intro e; subst e; rw [hp] at h; cases h
    · intro e; subst e; have := Rw.at_; rw [hp] at this; cases this
    · have s2 : EvD K C (tTup (tCons (tC (.str "solution")) (tCons (tCB (rTupOf K) (tCons (tVar 10) tNil)) tNil))) [.dat (.tup (M.map rowD)), .dat (.tup (R.map rowD)), .dat (.int (n : Int)), .any, .own pC (colD n), .any, .any, .any, .any, .any, .own p (outD (gj Am n) n rr n), .any, .any]
          (.tup [.str "solution", .tup ((List.range n).map fun i => rowD (((rowAt (gj Am n) i).drop n).take rr))]) := by
        refine ed_is (ed_t2 ed_str (ed_tupL (el_own rfl))) ?_
        have eo : outD (gj Am n) n rr n = (List.range n).map fun i => rowD (((rowAt (gj Am n) i).drop n).take rr) := by
          refine List.map_congr_left fun j hj => ?_
          rw [if_pos (List.mem_range.mp hj)]
        rw [eo]
      refine s2 B _ _ E5 _ fun v H4 e4 hv4 => ?_
      exact O.rd _ v H4 rfl (E5.ex.trans e4) hv4
end
end AW

set_option Elab.async false
set_option linter.all false
set_option maxRecDepth 100000
/-! the walk's own layer: a name gets a dict comprehension of one line -/
namespace AW
open PySem PySem.Spec PyProof.Rows L2
abbrev InBlk (X : Cx) (sc : Scope) (p : Cx → Prop) : Prop := ∀ (s : Shared) (H : Hp) (C : Addr) (cl : List (Str × Addr)) (fp : List Addr), p (X.blk s H sc (compEnvC sc cl C X.env) fp)
section
variable {X : Cx}
theorem swD_true {kx vx : Expr} {gs : List Comprehension} {sc : Scope} {pos py : Pos} {y : Str} {l : Nat} {env : Env} (h1 : env.scope.kind = .function) (h2 : env.scope.names.lookup y = some .local) (h3 : (py.line == pos.line) = true)
    (h4 : (sc.names.any fun (n, k) => n == y && (k == .local || k == .cell)) = false) : swapsWith (.DictComp kx vx gs sc pos) (some (.Name y py)) l env = pure true := by
  have e1 : env.kindOf y = some .local := h2
  have e2 : env.blockKind = .function := by
    unfold Env.blockKind
    rw [h1] <;> rfl
  unfold swapsWith
  simp only [e2, e1, h4, Expr.pos, h3] <;> rfl
theorem ps_setDc {i : Nat} {y : Str} {py pos sp : Pos} {kx vx tg it : Expr} {ifs : List Expr} {sc : Scope} {own : List (Str × Nat)} {wi : TI} {g : TG} {tt : TT} {tk tv : TE} (calm : X.calm = true) (nd : X.N.Nodup) (iy : X.N[i]? = some y) (ly : X.env.scope.names.lookup y = some .local)
    (sw : swapsWith (.DictComp kx vx [⟨tg, it, ifs, 0⟩] sc pos) (some (.Name y py)) sp.line X.env = pure true) (hi : PI X tg it wi) (bo : BlkOk X.N X.env.scope sc own)
    (hg : InBlk X sc fun X' => PG X' tg g) (ht : InBlk X sc fun X' => PTs X' ifs tt) (hk : InBlk X sc fun X' => PE X' kx tk) (hv : InBlk X sc fun X' => PE X' vx tv) (fs : ∀ x, foldedSetIterable it X.env x = pure x := by intro _; rfl) :
    PS X (.Assign [.Name y py] (.DictComp kx vx [⟨tg, it, ifs, 0⟩] sc pos) sp) (tAsg (tDc wi g tt tk tv (own.map (·.2))) (gName i)) := by
  constructor
  intro pins s0 σ H De I0 todo
  rw [exec_Assign_Name_used _ _ _ _ sw]
  refine wpAny_bind (wpAny_standAt (wpAny_bind ?_))
  change wpAny _ X.A (do
    let _ ← comprehension (.DictComp kx vx [⟨tg, it, ifs, 0⟩] sc pos) sc X.env (firstIterPos [⟨tg, it, ifs, 0⟩] pos) newDict false (eval it X.env) (some (assign (.Name y py) X.env))) _ _ s0
  have todo' : tDc wi g tt tk tv (own.map (·.2)) σ H (fun v G => gName i v σ G De.nx) := todo
  have core := dc_core (Qf := fun _ u => SP X pins De .next u) (pos := pos) (pos' := firstIterPos [⟨tg, it, ifs, 0⟩] pos) (use := some (assign (.Name y py) X.env)) calm nd I0 hi bo hg ht hk hv fs todo' (by
    intro L C0 u mm G IG qq ns fp0
    change wpAny _ _ (assign (.Name y py) X.env (.ref L)) _ _ _
    refine wpAny_assign_Name (store_ok2 (v := V.ref L) IG nd iy (.inl ly) rfl ?_ (.inr ly))
    rintro u2 J2 ⟨b0, same, at0⟩
    obtain ⟨p0, p1, p2, p3, p4, p5⟩ := fp0
    have away : C0 ≠ b0 := by
      rcases at0 with z | z
      · rw [z]; exact p1
      · intro e; exact p4 y b0 z e.symm
    refine ⟨mm, ns.sameBut same away, ?_⟩
    intro u3 same3
    exact ⟨_, G, J2.turned (t' := u2.toks) (fun c o hc e => (same3.2 c hc).trans e) p0 p1 p3 p4 p5, qq⟩)
  exact wpAny_bind (thn core fun _ u hq => wpAny_pure (wpAny_pure hq))
/-- sorted(t), t a tuple of ints -/
def rSortedU (K : Frg) : List V → Hp → VK → Prop := fun vs H Q => ∃ (a : Addr) (ns : List Int), vs = [V.ref a] ∧ SqT K H a (ns.map V.int) ∧ ns.length < 64 ∧ ∀ (ns' : List Int) (p : Addr), ns'.Perm ns → ns'.Pairwise (· ≤ ·) → H p = none → Q (.ref p) (upd H p (.lst (ns'.map V.int)))
theorem cr_sortedU : CallR X (.builtin "sorted") (rSortedU X.K) := by
  intro pins s0 σ H vs us Q I rel todo
  obtain ⟨t, ns, rfl, hs, few, q⟩ := todo
  obtain ⟨its, rv, ⟨o, ho, hc, n, hd⟩, hz⟩ := I.tuple hs
  rw [Vals.ref1 rel]
  have hi := rv.ints
  have hl : its.length = ns.length := hi.length
  have h24 : ns.length ≤ sizeLine := by rw [sizeLine_eq]; omega
  refine (Calls.call_function_entry kind_sorted plain_sorted entry_sorted (args_sorted1 (.ref t)) ?inner)
  unfold Builtin.«sorted»
  apply wpAny_bind (m := checkCount "sorted" 1 1 _)
  apply wpAny_pure
  refine wpAny_bind (wpAny_collect_seq t (.inr rfl) ho hc hd (fun G keep => ?_) (by rw [List.size_toArray]; omega))
  rw [show its.toArray.toList = its by simp]
  have I1 : Inv X pins σ H { s0 with heap := G } := I.kept (t' := s0.toks) keep
  refine wpAny_bind (wpAny_newList ?_ (by omega))
  have at0 : (G.push (seqObj "list" its.toArray 0)).get? G.objs.size = some (seqObj "list" its.toArray 0) := Heap.get?_push_size _ rfl
  have sorts := fun (Z : Value → Shared → Prop) k => list_sort_tree (prog := X.prog) (w := X.w) (A := X.A.in1.in1) (E := Z) (s := { s0 with heap := G.push (seqObj "list" its.toArray 0) }) (P := k) at0 hi (by omega)
  refine wpAny_bind (wpAny_holding (wpAny_call_entry slot_list_sort ⟨_, at0, rfl⟩ entry_list_sort (sorts _ _ fun out ms b1 b2 b3 => ⟨_, rfl, ?_⟩) (args_list_sort _)))
  obtain ⟨c, at1⟩ := sortedHeap_at (vs := its) (out := out) at0
  have hm : (ms.map V.int).length ≤ sizeLine := by rw [List.length_map, b2.length_eq]; exact h24
  refine wpAny_pure ⟨_, rfl, .ref _, upd H G.objs.size (.lst (ms.map V.int)), I1.laid (t' := s0.toks) (fun b u e => ?_) (Nat.le_refl _) ⟨hm, out.toList, c, vals_of_ints b1, at1⟩, rfl, q ms _ b2 b3 (I1.hok.fresh (Nat.le_refl _))⟩
  have lt := Heap.lt_size e
  show (sortedHeap (G.push (seqObj "list" its.toArray 0)) G.objs.size its out).get? b = some u
  rw [sortedHeap_old (Nat.ne_of_lt lt) (Nat.lt_of_lt_of_le lt (by rw [size_push']; exact Nat.le_succ _))]
  exact Heap.get?_push_of_some _ e
theorem ixT_of {K : Frg} (h : X.K = K) : IxR X (rIxT K) := h ▸ ix_tup
theorem ixL_of {K : Frg} (h : X.K = K) : IxR X (rIxL K) := h ▸ ix_list
theorem crLen_of {K : Frg} (h : X.K = K) : CallR X (.builtin "len") (rLenS K) := h ▸ cr_len
theorem crSum_of {K : Frg} (h : X.K = K) (c : X.calm = true) : CallR X (.builtin "sum") (rSum K) := h ▸ cr_sum c
end
end AW

set_option Elab.async false
set_option linter.all false
set_option maxRecDepth 100000
set_option maxHeartbeats 4000000
/-! the walk: leave_values, leave_table, first_play -/
namespace AW
open PySem PySem.Spec PyProof.Rows L2 AC
/-! leave_values -/
abbrev s_leave_values : Stmt := topS 24
theorem sc_leave_values : FnScope ["game", "inside", "discount", "rewards", "moves", "columns", "matrix", "right", "state", "row", "leaving", "target", "probability", "share", "at", "k"] ["game", "inside", "discount"] (defScope s_leave_values) := ⟨rfl, rfl, rfl, by decide +kernel, rfl, by decide +kernel, by decide +kernel⟩
-- slots: 0:game 1:inside 2:discount 3:rewards 4:moves 5:columns 6:matrix 7:right 8:state 9:row 10:leaving 11:target 12:probability 13:share 14:at 15:k
/-! ### games as data -/
abbrev tpD (tp : Nat × Rat) : Dat := .tup [.int (tp.1 : Int), rat tp.2]
abbrev rwD (row : List (Nat × Rat)) : Dat := .tup (row.map tpD)
abbrev gmD (g : Gm) : Dat := .tup [.tup (g.rs.map rat), .tup (g.ms.map rwD)]
abbrev intD (s : Nat) : Dat := .int (s : Int)
abbrev stD (S : List Nat) : Dat := .tup (S.map intD)
theorem mget {α β : Type} {f : α → β} {l : List α} {i : Nat} {x : α} (h : l[i]? = some x) : (l.map f)[i]? = some (f x) := by
  rw [List.getElem?_map, h] <;> rfl
theorem getD_of {α : Type} {l : List α} {i : Nat} {z : α} (h : i < l.length) : l[i]? = some (l.getD i z) := by
  rw [List.getD_eq_getElem?_getD, List.getElem?_eq_getElem h] <;> rfl
theorem rs_get {g : Gm} {s : Nat} (h : s < g.n) : (g.rs.map rat)[s]? = some (rat (g.rew s)) := mget (getD_of h)
theorem ms_get {g : Gm} {s : Nat} (ok : g.Ok) (h : s < g.n) : (g.ms.map rwD)[s]? = some (rwD (g.row s)) := mget (getD_of (by rw [ok.len]; exact h))
theorem cast_inj {a b : Nat} (h : (a : Int) = (b : Int)) : a = b := by omega
theorem idx_map (S : List Nat) (s : Nat) : (S.map fun (s : Nat) => (s : Int)).idxOf (s : Int) = S.idxOf s := by
  induction S with
  | nil => rfl
  | cons a r ih =>
    rw [List.map_cons, List.idxOf_cons, List.idxOf_cons, ih]
    by_cases e : a = s
    · subst e; simp
    · rw [show ((a : Int) == (s : Int)) = false by simpa using fun h => e (cast_inj h), show (a == s) = false by simpa using e]
theorem mem_map_cast {S : List Nat} {s : Nat} : (s : Int) ∈ S.map (fun (s : Nat) => (s : Int)) ↔ s ∈ S := by
  constructor
  · intro h
    obtain ⟨x, hx, e⟩ := List.mem_map.mp h
    rw [cast_inj e] at hx
    exact hx
  · exact fun h => List.mem_map.mpr ⟨s, h, rfl⟩
theorem look_map {S : List Nat} {ds : List Dat} {s : Nat} : lookD (S.map fun (s : Nat) => (s : Int)) ds (s : Int) = if s ∈ S then ds[S.idxOf s]? else none := by
  unfold lookD
  rw [idx_map]
  by_cases h : s ∈ S
  · rw [if_pos h, if_pos (mem_map_cast.mpr h)]
  · rw [if_neg h, if_neg fun q => h (mem_map_cast.mp q)]
theorem nodup_cast {S : List Nat} (h : S.Nodup) : (S.map fun (s : Nat) => (s : Int)).Nodup := by
  unfold List.Nodup
  rw [List.pairwise_map]
  exact h.imp fun h1 h2 => h1 (cast_inj h2)
/-! ### sizes -/
theorem b_sz {b : Rat} (hb : Disc b) (h : b.den ≤ 10) : Sz 4 b := Sz.ofDn (M := 1) b.den_pos (Dn.self b) (by have := hb.lt; grind) (by have := hb.nn; grind) (by decide) (by omega)
theorem tp_le {g : Gm} (ok : g.Ok) {s : Nat} (hs : s < g.n) {tp : Nat × Rat} (h : tp ∈ g.row s) : tp.2 ≤ 1 := by
  have h1 := ok.one s hs
  have hp := ok.pos s
  have go : ∀ row : List (Nat × Rat), (∀ tp ∈ row, 0 < tp.2) → tp ∈ row → 0 ≤ dot row (fun _ => 1) ∧ tp.2 ≤ dot row (fun _ => 1) := by
    intro row
    induction row with
    | nil => intro _ h; cases h
    | cons q r ih =>
      intro hp hm
      have nn : 0 ≤ dot r (fun _ => 1) := by
        clear ih hm
        have hp' := fun x hx => hp x (List.mem_cons_of_mem _ hx)
        clear hp
        induction r with
        | nil => exact Rat.le_refl
        | cons x r ih =>
          have := ih fun y hy => hp' y (List.mem_cons_of_mem _ hy)
          have := hp' x (List.mem_cons_self ..)
          show 0 ≤ x.2 * 1 + dot r _
          grind
      have hq := hp q (List.mem_cons_self ..)
      show 0 ≤ q.2 * 1 + dot r _ ∧ tp.2 ≤ q.2 * 1 + dot r _
      rcases List.mem_cons.mp hm with e | e
      · subst e; grind
      · have := ih (fun x hx => hp x (List.mem_cons_of_mem _ hx)) e
        grind
  have := (go _ hp h).2
  rw [h1] at this
  exact this
theorem tp_sz {g : Gm} {b : Rat} {de rh : Nat} (ok : g.Ok) (G : GB g b de rh) {s : Nat} (hs : s < g.n) {tp : Nat × Rat} (h : tp ∈ g.row s) : Sz 4 tp.2 := by
  obtain ⟨d, h1, h2, h3⟩ := G.prob s hs
  have hp := ok.pos s tp h
  have hl := tp_le ok hs h
  exact Sz.ofDn (M := 1) h1 (h3 tp h) (by grind) (by grind) (by decide) (by omega)
theorem rew_sz {g : Gm} {b : Rat} {de rh : Nat} (G : GB g b de rh) {s : Nat} (hs : s < g.n) : Sz (de + rh) (g.rew s) := by
  obtain ⟨d, h1, h2, h3⟩ := G.rew
  obtain ⟨m, k1, k2, k3⟩ := G.mag
  exact Sz.ofDn (M := m) h1 (h3 s hs) (k3 s hs).1 (k3 s hs).2 k1 (lt_pow_add h2 k2)
/-- the fold's entries stay small -/
theorem lv_fold_sz {b : Rat} {S : List Nat} (hb : Sz 4 b) : ∀ (row : List (Nat × Rat)) (acc : List Rat × Rat) (k : Nat), (∀ tp ∈ row, Sz 4 tp.2) → acc.1.length = S.length → (∀ c, Sz (k + 1) (en acc.1 c)) → Sz (k + 1) acc.2 →
    (∀ c, Sz (k + row.length * 10 + 1) (en (row.foldl (lvStep b S) acc).1 c)) ∧ Sz (k + row.length * 10 + 1) (row.foldl (lvStep b S) acc).2
  | [], acc, k, _, _, h1, h2 => ⟨fun c => (h1 c).mono (by omega), h2.mono (by omega)⟩
  | tp :: r, acc, k, hr, hl, h1, h2 => by
    have sh : Sz 8 (b * tp.2) := hb.mul (hr tp (List.mem_cons_self ..))
    have go := lv_fold_sz (b := b) (S := S) hb r (lvStep b S acc tp) (k + 10) (fun x hx => hr x (List.mem_cons_of_mem _ hx)) (by
      unfold lvStep
      by_cases c : tp.1 ∈ S
      · rw [if_pos c]; show (acc.1.set _ _).length = _; rw [List.length_set]; exact hl
      · rw [if_neg c]; exact hl)
    have l10 : (tp :: r).length * 10 = r.length * 10 + 10 := by rw [List.length_cons]; omega
    rw [List.foldl_cons, l10, show k + (r.length * 10 + 10) + 1 = k + 10 + r.length * 10 + 1 by omega]
    refine go (fun c => ?_) ?_
    · unfold lvStep
      by_cases q : tp.1 ∈ S
      · rw [if_pos q]
        show Sz _ (en (acc.1.set (S.idxOf tp.1) _) c)
        rw [en_set (by rw [hl]; exact List.idxOf_lt_length_iff.mpr q)]
        by_cases e : S.idxOf tp.1 = c
        · rw [if_pos e]
          exact ((h1 _).sub sh).mono (by omega)
        · rw [if_neg e]
          exact (h1 c).mono (by omega)
      · rw [if_neg q]
        exact (h1 c).mono (by omega)
    · unfold lvStep
      by_cases q : tp.1 ∈ S
      · rw [if_pos q]
        exact h2.mono (by omega)
      · rw [if_neg q]
        exact (h2.add sh).mono (by omega)
theorem ed_din_t {K : Frg} {C : Addr} {r : List Sd} {td ty : TE} {ks : List Int} {ds : List Dat} {n : Int} (hn : EvD K C ty r (.int n)) (hd : EvD K C td r (.dic ks ds)) (hl : ks.length = ds.length) : EvTt K C (tB (tDIn ty td)) r (decide (n ∈ ks)) := tt_B (ed_din hn hd hl)
abbrev lvRes (g : Gm) (b : Rat) (S : List Nat) : Dat := .tup (S.map fun s => .tup [rat (lvX g b S s), rat (lvY g b S s)])
inductive RLv : List Ar → Ar → Prop
  | mk (g : Gm) (b : Rat) (S : List Nat) (de rh : Nat) : g.Ok → Disc b → S.Nodup → (∀ s ∈ S, s < g.n) → GB g b de rh → de + rh ≤ 1000000 → RLv [.dat (gmD g), .dat (stD S), .dat (rat b)] (.dat (lvRes g b S))
abbrev lvM (g : Gm) (b : Rat) (S : List Nat) (j : Nat) : List Rat × Rat := lvRow g b S j (S.getD j 0)
abbrev lvMs (g : Gm) (b : Rat) (S : List Nat) (i : Nat) : List (List Rat) := (List.range i).map fun (j : Nat) => (lvM g b S j).1
abbrev lvRs (g : Gm) (b : Rat) (S : List Nat) (i : Nat) : List (List Rat) := (List.range i).map fun (j : Nat) => [g.rew (S.getD j 0), (lvM g b S j).2]
theorem range_at {α : Type} {f : Nat → List α} {n i : Nat} (h : i < n) : ((List.range n).map f).getD i [] = f i := by
  rw [List.getD_eq_getElem?_getD, List.getElem?_map, List.getElem?_range h] <;> rfl
theorem range_snoc {α : Type} (f : Nat → α) (n : Nat) : (List.range (n + 1)).map f = (List.range n).map f ++ [f n] := by
  rw [List.range_succ, List.map_append] <;> rfl
theorem S_len {g : Gm} {b : Rat} {de rh : Nat} (G : GB g b de rh) {S : List Nat} (hn : S.Nodup) (hS : ∀ s ∈ S, s < g.n) : S.length ≤ 4 := by
  have := nodup_sub_len (l' := List.range g.n) hn fun x hx => List.mem_range.mpr (hS x hx)
  rw [List.length_range] at this
  exact Nat.le_trans this G.n4
theorem idx_getD {S : List Nat} (hn : S.Nodup) {i : Nat} (h : i < S.length) : S.idxOf (S.getD i 0) = i ∧ S.getD i 0 ∈ S := by
  have e : S.getD i 0 = S[i] := by rw [List.getD_eq_getElem?_getD, List.getElem?_eq_getElem h] <;> rfl
  rw [e]
  exact ⟨List.Nodup.idxOf_getElem hn i h, List.getElem_mem h⟩
section
variable {P : Program} {w : World} {K : Frg} {C : Addr} {mg : Str → Option Value} {base : Heap} {z1 o1 z2 o2 z3 o3 : Addr} (G : Glo K mg base z1 o1 z2 o2 z3 o3) (T : Rt P w K C mg base)
include G T in
theorem has_leave_values (h_solve : Has P w K mg base "solve" 44 ["matrix", "right"] (spR K C RSolve)) (F : Def K mg "leave_values" s_leave_values ["game", "inside", "discount"]) : Has P w K mg base "leave_values" 45 ["game", "inside", "discount"] (spR K C RLv) := by
  obtain ⟨f, fd, F, m, b'⟩ := F
  have h_add := T.add
  have h_subtract := T.sub
  have h_multiply := T.mul
  refine has_of F m b' (fn_ok F sc_leave_values (fun as z h => by cases h; rfl) fun cdv A outer s H Q E hr as z h => ?_)
  obtain ⟨g, b, S, de, rh, ok, hb, hn, hS, B, hd⟩ := h
  refine ⟨_, (pss_cons (ps_asg (pv 0) (pg_tup (by rfl) (pgs_cons (pg_name (i := 3) sc_leave_values.nd rfl (.inl rfl)) (pgs_cons (pg_name (i := 4) sc_leave_values.nd rfl (.inl rfl)) pgs_nil))))
    (pss_cons (ps_setDc (i := 5) (own := [("k", 15)]) (g := (gName 15)) rfl sc_leave_values.nd rfl rfl (swD_true rfl rfl rfl (by decide +kernel)) (pi_range1 (by rfl) G.range (pa_cons (pe_callB (crLen_of (K := K) rfl) (by rfl) G.len PySem.boot_len (pa_cons (pv 1) pa_nil)) pa_nil)) (blkOk_by (N := ["game", "inside", "discount", "rewards", "moves", "columns", "matrix", "right", "state", "row", "leaving", "target", "probability", "share", "at", "k"]) (sc := defScope s_leave_values) (by decide +kernel)) (fun _ _ _ _ _ => (pg_name (i := 15) sc_leave_values.nd rfl (.inl rfl))) (fun _ _ _ _ _ => pts_nil) (fun _ _ _ _ _ => (pe_ix (ixT_of (K := K) rfl) (pv 1) (pv 15) (fun _ _ => rfl))) (fun _ _ _ _ _ => (pv 15)))
    (pss_cons (ps_set (i := 6) sc_leave_values.nd rfl (.inl rfl) (pe_lst pa_nil))
    (pss_cons (ps_set (i := 7) sc_leave_values.nd rfl (.inl rfl) (pe_lst pa_nil))
    (pss_cons (ps_for PassesOwn.never rfl (pi_tup (pv 1)) (pg_name (i := 8) sc_leave_values.nd rfl (.inl rfl)) (pss_cons (ps_set (i := 9) sc_leave_values.nd rfl (.inl rfl) (pe_op op_rep (pe_lst (pa_cons (pe_glob (v := .ref z1) (by rfl) G.ZERO_leaving rfl) pa_nil)) (pe_callB cr_len (by rfl) G.len PySem.boot_len (pa_cons (pv 1) pa_nil))))
    (pss_cons (ps_asg (pe_glob (v := .ref o1) (by rfl) G.ONE_leaving rfl) (pg_sub (pv 9) (pe_dget (hu_of hr) (pv 5) (pv 8) (fun _ _ => rfl)) set_list))
    (pss_cons (ps_set (i := 10) sc_leave_values.nd rfl (.inl rfl) (pe_glob (v := .ref z1) (by rfl) G.ZERO_leaving rfl))
    (pss_cons (ps_for PassesOwn.never rfl (pi_tup (pe_ix ix_tup (pv 4) (pv 8) (fun _ _ => rfl))) (pg_tup rfl (pgs_cons (pg_name (i := 11) sc_leave_values.nd rfl (.inl rfl)) (pgs_cons (pg_name (i := 12) sc_leave_values.nd rfl (.inl rfl)) pgs_nil))) (pss_cons (ps_set (i := 13) sc_leave_values.nd rfl (.inl rfl) (pe_has h_multiply (hr.mono (by decide)) (by rfl) (pa_cons (pv 2) (pa_cons (pv 12) pa_nil))))
    (pss_one (ps_if (pt_cmp (pc_din (hu_of hr) (pv 11) (pv 5))) (pss_cons (ps_set (i := 14) sc_leave_values.nd rfl (.inl rfl) (pe_dget (hu_of hr) (pv 5) (pv 11) (fun _ _ => rfl)))
    (pss_one (ps_asg (pe_has h_subtract (hr.mono (by decide)) (by rfl) (pa_cons (pe_ix ix_list (pv 9) (pv 14) (fun _ _ => rfl)) (pa_cons (pv 13) pa_nil))) (pg_sub (pv 9) (pv 14) set_list)))) (pss_one (ps_set (i := 10) sc_leave_values.nd rfl (.inl rfl) (pe_has h_add (hr.mono (by decide)) (by rfl) (pa_cons (pv 10) (pa_cons (pv 13) pa_nil)))))))))
    (pss_cons (ps_expr (pe_bm PySem.F.plainAttrs_list PySem.F.slot_list_append PySem.F.type_list_append mt_append (pv 6) (pa_cons (pe_callTy cr_tup (by rfl) G.tuple b_tuple (pa_cons (pv 9) pa_nil)) pa_nil)))
    (pss_one (ps_expr (pe_bm PySem.F.plainAttrs_list PySem.F.slot_list_append PySem.F.type_list_append mt_append (pv 7) (pa_cons (pe_tup (pa_cons (pe_ix ix_tup (pv 3) (pv 8) (fun _ _ => rfl)) (pa_cons (pv 10) pa_nil))) pa_nil))))))))))
    (pss_one (ps_ret (pe_ix ix_tup (pe_has h_solve (hr.mono (by decide)) (by rfl) (pa_cons (pe_callTy cr_tup (by rfl) G.tuple b_tuple (pa_cons (pv 6) pa_nil)) (pa_cons (pe_callTy cr_tup (by rfl) G.tuple b_tuple (pa_cons (pv 7) pa_nil)) pa_nil))) pe_int (fun _ _ => rfl))))))))), ?_⟩
  have h4 := S_len B hn hS
  have bs := b_sz hb B.bd
  refine st_seq (st_asg2 (ed_var rfl) (lt_ok rfl) (lt_ok rfl) ?_)
  refine st_seq (st_asg (ed_dcR (N := S.length) (ks := S.map fun (s : Nat) => (s : Int)) (ds := (List.range S.length).map intD) (ea_d (ed_is (ed_lenT (ed_var rfl)) (by rw [List.length_map])) ea_nil) (by omega) (lt_ok rfl) (by rw [List.length_map]) (by rw [List.length_map, List.length_range]) (nodup_cast hn) ?_ ?_ ?_) (lt_ok rfl) ?_)
  · have go : ∀ l : List Nat, noDicA (l.map intD) = true := fun l => by
      induction l with
      | nil => rfl
      | cons a r ih => exact ih
    exact go _
  · intro i k hk
    rw [List.getElem?_map] at hk
    obtain ⟨s', h1, rfl⟩ := Option.map_eq_some_iff.mp hk
    exact e_ix (n := i) (ed_var rfl) (ed_var rfl) rfl (mget h1)
  · intro i d hd
    rw [List.getElem?_map] at hd
    obtain ⟨s', h1, rfl⟩ := Option.map_eq_some_iff.mp hd
    have : s' = i := by
      have h2 := List.getElem?_eq_some_iff.mp h1
      obtain ⟨_, h3⟩ := h2
      rw [List.getElem_range] at h3
      exact h3.symm
    subst this
    exact ed_var rfl
  refine st_seq (st_asgN en_l0 (lt_ok rfl) fun pM => ?_)
  refine st_seq (st_asgN en_l0 (lt_ok rfl) fun pR => ?_)
  refine st_seq (st_forT (ds := S.map intD) (n := 9) (f := fun d r => r.set 8 (.dat d)) (fun i r' => ∃ y8 y9 y10 y11 y12 y13 y14 y15, r' = [.dat (gmD g), .dat (stD S), .dat (rat b), .dat (.tup (g.rs.map rat)), .dat (.tup (g.ms.map rwD)), .dat (.dic (S.map fun (s : Nat) => (s : Int)) ((List.range S.length).map intD)), .own pM ((lvMs g b S i).map rowD), .own pR ((lvRs g b S i).map rowD), y8, y9, y10, y11, y12, y13, y14, y15]) (ed_var rfl) ⟨_, _, _, _, _, _, _, _, rfl⟩ (fun i r' ⟨_, _, _, _, _, _, _, _, e⟩ => by rw [e]; exact Nat.le_of_ble_eq_true rfl) (fun i d hd => tg_name 8) (fun i d r' hi ⟨y8, y9, y10, y11, y12, y13, y14, y15, e⟩ => ?_) fun r' ⟨y8, y9, y10, y11, y12, y13, y14, y15, e⟩ => ?_)
  · subst e
    have hiS : i < S.length := by
      rcases Nat.lt_or_ge i S.length with q | q
      · exact q
      · rw [List.getElem?_eq_none (by rw [List.length_map]; exact q)] at hi; cases hi
    rw [List.getElem?_map, getD_of (z := 0) hiS] at hi
    cases hi
    obtain ⟨ix, im⟩ := idx_getD hn hiS
    generalize hs : S.getD i 0 = s at ix im
    have hsn := hS s im
    have lk : lookD (S.map fun (s : Nat) => (s : Int)) ((List.range S.length).map intD) (s : Int) = some (intD i) := by
      rw [look_map, if_pos im, ix, List.getElem?_map, List.getElem?_range hiS] <;> rfl
    refine st_seq (st_asgN (ds := (List.replicate S.length 0).map rat) (en_is (en_rep (n := S.length) (em_of_n (en_l1 (e_glob (d := rat 0) fun H => G.z1 C H))) (ed_is (ed_lenT (ed_var rfl)) (by rw [List.length_map])) (by omega)) (by rw [List.map_replicate])) (lt_ok rfl) fun p9 => ?_)
    refine st_seq (st_setI (n := i) rfl (e_glob (d := rat 1) fun H => G.o1 C H) (ed_dget (ed_var rfl) (ed_var rfl) lk) (by rw [List.length_map, List.length_replicate]; exact hiS) ?_)
    refine st_seq (st_asg (e_glob (d := rat 0) fun H => G.z1 C H) (lt_ok rfl) ?_)
    have e0 : ((List.replicate S.length (0 : Rat)).map rat).set i (rat 1) = (((List.replicate S.length (0 : Rat)).set i 1)).map rat := by rw [List.map_set]
    have eN : lvM g b S i = (g.row s).foldl (lvStep b S) ((List.replicate S.length 0).set i 1, 0) := by rw [← hs] <;> rfl
    have acc0 : ∀ c, Sz (0 + 1) (en ((List.replicate S.length (0 : Rat)).set i 1) c) := fun c => by
      rw [en_set (by rw [List.length_replicate]; exact hiS), AC.en_rep]
      by_cases q : i = c
      · rw [if_pos q]; exact Sz.one
      · rw [if_neg q]; exact Sz.zero
    have hlen : ∀ j, (((g.row s).take j).foldl (lvStep b S) ((List.replicate S.length 0).set i 1, 0)).1.length = S.length := fun j => by
      rw [fold_len]
      show ((List.replicate S.length (0 : Rat)).set i 1).length = _
      rw [List.length_set, List.length_replicate]
    have hsz : ∀ j, (∀ c, Sz 100 (en (((g.row s).take j).foldl (lvStep b S) ((List.replicate S.length 0).set i 1, 0)).1 c)) ∧ Sz 100 (((g.row s).take j).foldl (lvStep b S) ((List.replicate S.length 0).set i 1, 0)).2 := fun j => by
      have r4 := B.row4 s
      have tl : ((g.row s).take j).length ≤ 4 := by rw [List.length_take]; omega
      obtain ⟨a1, a2⟩ := lv_fold_sz (b := b) (S := S) bs ((g.row s).take j) ((List.replicate S.length 0).set i 1, 0) 0 (fun tp h => tp_sz ok B hsn (List.mem_of_mem_take h)) (by show ((List.replicate S.length (0 : Rat)).set i 1).length = _; rw [List.length_set, List.length_replicate]) acc0 Sz.zero
      exact ⟨fun c => (a1 c).mono (by omega), a2.mono (by omega)⟩
    refine st_seq (st_forT (ds := (g.row s).map tpD) (n := 13) (f := fun d r => match d with | .tup [x, y] => (r.set 11 (.dat x)).set 12 (.dat y) | _ => r) (fun j r' => ∃ y11 y12 y13 y14, r' = [.dat (gmD g), .dat (stD S), .dat (rat b), .dat (.tup (g.rs.map rat)), .dat (.tup (g.ms.map rwD)), .dat (.dic (S.map fun (s : Nat) => (s : Int)) ((List.range S.length).map intD)), .own pM ((lvMs g b S i).map rowD), .own pR ((lvRs g b S i).map rowD), .dat (intD s),
        .own p9 ((((g.row s).take j).foldl (lvStep b S) ((List.replicate S.length 0).set i 1, 0)).1.map rat), .dat (rat (((g.row s).take j).foldl (lvStep b S) ((List.replicate S.length 0).set i 1, 0)).2), y11, y12, y13, y14, y15]) (e_ix (n := s) (ed_var rfl) (ed_var rfl) rfl (ms_get ok hsn)) ⟨_, _, _, _, by rw [e0] <;> rfl⟩ (fun j r' ⟨_, _, _, _, e⟩ => by rw [e]; exact Nat.le_of_ble_eq_true rfl) (fun j d hd => ?_) (fun j d r' hj ⟨y11, y12, y13, y14, e⟩ => ?_) fun r' ⟨y11, y12, y13, y14, e⟩ => ?_)
    · rw [List.getElem?_map] at hd
      obtain ⟨tp, h1, rfl⟩ := Option.map_eq_some_iff.mp hd
      exact tg_pair 11 12 13 (by decide) (by decide)
    · subst e
      rw [List.getElem?_map] at hj
      obtain ⟨tp, htp, rfl⟩ := Option.map_eq_some_iff.mp hj
      have mtp := List.mem_of_getElem? htp
      have ts : (g.row s).take (j + 1) = (g.row s).take j ++ [tp] := by rw [List.take_add_one, htp] <;> rfl
      have hf : ((g.row s).take (j + 1)).foldl (lvStep b S) ((List.replicate S.length 0).set i 1, 0) = lvStep b S (((g.row s).take j).foldl (lvStep b S) ((List.replicate S.length 0).set i 1, 0)) tp := by
        rw [ts, List.foldl_append] <;> rfl
      rw [hf]
      obtain ⟨z1', z2'⟩ := hsz j
      have hl' := hlen j
      generalize ((g.row s).take j).foldl (lvStep b S) ((List.replicate S.length 0).set i 1, 0) = acc at z1' z2' hl' ⊢
      have psz := tp_sz ok B hsn mtp
      refine st_seq (st_asg (e_mul (ed_var rfl) (ed_var rfl) (bs.big (by omega)) (psz.big (by omega))) (lt_ok rfl) ?_)
      refine st_if (ed_din_t (ed_var rfl) (ed_var rfl) (by rw [List.length_map, List.length_map, List.length_range])) (fun h => ?_) fun h => ?_
      · have hm : tp.1 ∈ S := mem_map_cast.mp (of_decide_eq_true h)
        have hx := List.idxOf_lt_length_iff.mpr hm
        have lk2 : lookD (S.map fun (s : Nat) => (s : Int)) ((List.range S.length).map intD) (tp.1 : Int) = some (intD (S.idxOf tp.1)) := by
          rw [look_map, if_pos hm, List.getElem?_map, List.getElem?_range hx] <;> rfl
        refine st_seq (st_asg (ed_dget (ed_var rfl) (ed_var rfl) lk2) (lt_ok rfl) ?_)
        refine st_setI (n := S.idxOf tp.1) rfl (e_sub (e_ixL (n := S.idxOf tp.1) (el_own rfl) (ed_var rfl) rfl (en_getR (by rw [hl']; exact hx))) (ed_var rfl) ((z1' _).big (by omega)) ((bs.mul psz).big (by omega))) (ed_var rfl) (by rw [List.length_map, hl']; exact hx) ?_
        have q1 : (lvStep b S acc tp).1.map rat = (acc.1.map rat).set (S.idxOf tp.1) (rat (en acc.1 (S.idxOf tp.1) - b * tp.2)) := by
          unfold lvStep
          rw [if_pos hm, ← List.map_set]
        have q2 : (lvStep b S acc tp).2 = acc.2 := by
          unfold lvStep
          rw [if_pos hm]
        rw [q1, q2]
        exact ⟨_, _, _, _, rfl⟩
      · have hm : ¬ tp.1 ∈ S := fun q => of_decide_eq_false h (mem_map_cast.mpr q)
        refine st_asg (e_add (ed_var rfl) (ed_var rfl) (z2'.big (by omega)) ((bs.mul psz).big (by omega))) (lt_ok rfl) ?_
        have q1 : lvStep b S acc tp = (acc.1, acc.2 + b * tp.2) := by
          unfold lvStep
          rw [if_neg hm]
        rw [q1]
        exact ⟨_, _, _, _, rfl⟩
    · subst e
      rw [List.length_map, List.take_length]
      have e1 : (lvMs g b S i).map rowD ++ [rowD (lvM g b S i).1] = (lvMs g b S (i + 1)).map rowD := by
        show _ = List.map rowD ((List.range (i + 1)).map _)
        rw [range_snoc, List.map_append] <;> rfl
      have e2 : (lvRs g b S i).map rowD ++ [rowD [g.rew (S.getD i 0), (lvM g b S i).2]] = (lvRs g b S (i + 1)).map rowD := by
        show _ = List.map rowD ((List.range (i + 1)).map _)
        rw [range_snoc, List.map_append] <;> rfl
      refine st_seq (st_app rfl (ed_tupL (el_own rfl)) (by rw [List.length_map, List.length_map, List.length_range]; omega) ?_)
      refine st_app rfl (ed_t2 (e_ix (n := s) (ed_var rfl) (ed_var rfl) rfl (rs_get hsn)) (ed_var rfl)) (by rw [List.length_map, List.length_map, List.length_range]; omega) ?_
      rw [← e1, ← e2, eN, hs]
      exact ⟨_, _, _, _, _, _, _, _, rfl⟩
  · subst e
    rw [List.length_map]
    have hl : ∀ i, i < S.length → (lvM g b S i).1.length = S.length := fun i hi => lvRow_len i _
    refine st_ret (e_ix (n := 1) (ed_call (ea_d (ed_tupL (el_own rfl)) (ea_d (ed_tupL (el_own rfl)) ea_nil)) (.mk (lvMs g b S S.length) (lvRs g b S S.length) (lvA g b S) S.length 2 (232 + de + rh) (by omega) (by omega) (by rw [List.length_map, List.length_range]) (by rw [List.length_map, List.length_range]) (fun i hi => ?_) (fun i hi => ?_) ?_ (lv_sz ok hb hn hS B) (by omega))) ed_int rfl rfl) ?_
    · unfold rowAt
      rw [range_at hi, range_at hi]
      exact ⟨hl i hi, rfl⟩
    · rw [lvA_at hi]
      unfold rowAt
      rw [range_at hi, range_at hi]
      have e : S.getD i 0 = S[i] := by rw [List.getD_eq_getElem?_getD, List.getElem?_eq_getElem hi] <;> rfl
      show _ = augOf (lvRow g b S i (S.getD i 0)).1 [g.rew (S.getD i 0), (lvRow g b S i (S.getD i 0)).2] S.length i
      rw [e] <;> rfl
    · have := lv_dom ok hb hn hS
      rw [show S.length + 2 + S.length = 2 * S.length + 2 by omega]
      exact this
    · show Ar.dat _ = Ar.dat _
      congr 2
      refine List.ext_getElem (by rw [List.length_map, List.length_map, List.length_range]) fun i h1 h2 => ?_
      rw [List.length_map] at h1
      rw [List.getElem_map, List.getElem_map, List.getElem_range]
      have hi : i < S.length := by simpa using h1
      have e := List.Nodup.idxOf_getElem hn i hi
      unfold lvX lvY
      rw [e]
      have rl : (rowAt (gj (lvA g b S) S.length) i).length = 2 * S.length + 2 := (red_all (lv_dom ok hb hn hS) S.length (Nat.le_refl _)).len i hi
      generalize rowAt (gj (lvA g b S) S.length) i = row at rl
      show Dat.tup (((row.drop S.length).take 2).map rat) = _
      have d2 : (row.drop S.length).take 2 = [en row S.length, en row (S.length + 1)] := by
        refine List.ext_getElem (by rw [List.length_take, List.length_drop, rl]; show _ = 2; omega) fun j g1 g2 => ?_
        rw [List.getElem_take, List.getElem_drop]
        have g3 : j < 2 := g2
        have en_at : ∀ k (h : k < row.length), row[k] = en row k := fun k h => by
          unfold en
          rw [List.getD_eq_getElem?_getD, List.getElem?_eq_getElem h] <;> rfl
        rw [en_at]
        match j, g3 with
        | 0, _ => rfl
        | 1, _ => rfl
      rw [d2] <;> rfl
end
end AW

set_option Elab.async false
set_option linter.all false
set_option maxRecDepth 100000
set_option maxHeartbeats 4000000
/-! the walk: leave_table, first_play, next_state, index_order -/
namespace AW
open PySem PySem.Spec PyProof.Rows L2 AC
/-! leave_table -/
abbrev s_leave_table : Stmt := topS 25
theorem sc_leave_table : FnScope ["game", "inside", "discount", "values", "k"] ["game", "inside", "discount"] (defScope s_leave_table) := ⟨rfl, rfl, rfl, by decide +kernel, rfl, by decide +kernel, by decide +kernel⟩
-- slots: 0:game 1:inside 2:discount 3:values 4:k
/-! first_play -/
abbrev s_first_play : Stmt := topS 26
theorem sc_first_play : FnScope ["game", "state", "table", "discount", "earned", "factor", "target", "probability", "later"] ["game", "state", "table", "discount"] (defScope s_first_play) := ⟨rfl, rfl, rfl, by decide +kernel, rfl, by decide +kernel, by decide +kernel⟩
-- slots: 0:game 1:state 2:table 3:discount 4:earned 5:factor 6:target 7:probability 8:later
/-! next_state -/
abbrev s_next_state : Stmt := topS 28
theorem sc_next_state : FnScope ["game", "inside", "discount", "table", "best", "state", "earned", "factor", "candidate"] ["game", "inside", "discount"] (defScope s_next_state) := ⟨rfl, rfl, rfl, by decide +kernel, rfl, by decide +kernel, by decide +kernel⟩
-- slots: 0:game 1:inside 2:discount 3:table 4:best 5:state 6:earned 7:factor 8:candidate
/-! index_order -/
abbrev s_index_order : Stmt := topS 29
theorem sc_index_order : FnScope ["game", "discount", "order", "inside", "_", "chosen"] ["game", "discount"] (defScope s_index_order) := ⟨rfl, rfl, rfl, by decide +kernel, rfl, by decide +kernel, by decide +kernel⟩
-- slots: 0:game 1:discount 2:order 3:inside 4:_ 5:chosen
abbrev lvTab (g : Gm) (b : Rat) (S : List Nat) : Dat := .dic (S.map fun (s : Nat) => (s : Int)) (S.map fun s => .tup [rat (lvX g b S s), rat (lvY g b S s)])
/-- what the defs on a game and a set ask -/
structure GS (g : Gm) (b : Rat) (S : List Nat) (q : Nat) : Prop where
  ok : g.Ok
  hb : Disc b
  hn : S.Nodup
  hS : ∀ s ∈ S, s < g.n
  gb : ∃ de rh, de + rh = q ∧ GB g b de rh
  q : q ≤ 200000
theorem GS.lv {g : Gm} {b : Rat} {S : List Nat} {q : Nat} (h : GS g b S q) : Lv g b S (lvX g b S) (lvY g b S) := lv_ok h.ok h.hb h.hn h.hS
theorem GS.xy {g : Gm} {b : Rat} {S : List Nat} {q : Nat} (h : GS g b S q) {s : Nat} (hs : s ∈ S) : Sz (232 + q) (lvX g b S s) ∧ Sz (232 + q) (lvY g b S s) := by
  obtain ⟨de, rh, e, B⟩ := h.gb
  have z := (lv_sz h.ok h.hb h.hn h.hS B).rows S.length (Nat.le_refl _) (S.idxOf s) (List.idxOf_lt_length_iff.mpr hs)
  rw [show 232 + de + rh = 232 + q by omega] at z
  exact ⟨z _, z _⟩
theorem dot_sz {Q : Nat} {x : Nat → Rat} : ∀ {row : List (Nat × Rat)}, (∀ tp ∈ row, Sz 4 tp.2) → (∀ tp ∈ row, Sz Q (x tp.1)) → Sz (row.length * (Q + 5) + 1) (dot row x)
  | [], _, _ => Sz.zero.mono (by simp)
  | tp :: r, h, k => by
    have a := ((h tp (List.mem_cons_self ..)).mul (k tp (List.mem_cons_self ..))).add (dot_sz (row := r) (fun t m => h t (List.mem_cons_of_mem _ m)) fun t m => k t (List.mem_cons_of_mem _ m))
    refine a.mono ?_
    rw [List.length_cons, Nat.succ_mul]
    omega
theorem dot_app (l r : List (Nat × Rat)) (x : Nat → Rat) : dot (l ++ r) x = dot l x + dot r x := by
  induction l with
  | nil => show dot r x = 0 + dot r x; grind
  | cons a l ih =>
    show a.2 * x a.1 + dot (l ++ r) x = a.2 * x a.1 + dot l x + dot r x
    rw [ih]; grind
section
variable {g : Gm} {b : Rat} {S : List Nat} {q : Nat} (h : GS g b S q)
include h
theorem GS.den : b.den ≤ 10 := by obtain ⟨de, rh, e, B⟩ := h.gb; exact B.bd
theorem GS.bsz : Sz 4 b := b_sz h.hb h.den
theorem GS.tp {s : Nat} (hs : s < g.n) : ∀ tp ∈ g.row s, Sz 4 tp.2 := by
  obtain ⟨de, rh, e, B⟩ := h.gb
  exact fun tp m => tp_sz h.ok B hs m
theorem GS.r4 (s : Nat) : (g.row s).length ≤ 4 := by obtain ⟨de, rh, e, B⟩ := h.gb; exact B.row4 s
theorem GS.n4 : g.n ≤ 4 := by obtain ⟨de, rh, e, B⟩ := h.gb; exact B.n4
theorem GS.s4 : S.length ≤ 4 := by obtain ⟨de, rh, e, B⟩ := h.gb; exact S_len B h.hn h.hS
theorem GS.rw {s : Nat} (hs : s < g.n) : Sz q (g.rew s) := by
  obtain ⟨de, rh, e, B⟩ := h.gb
  rw [← e]
  exact rew_sz B hs
theorem GS.xz (t : Nat) : Sz (232 + q) (if t ∈ S then lvX g b S t else 0) := by
  by_cases m : t ∈ S
  · rw [if_pos m]; exact (h.xy m).1
  · rw [if_neg m]; exact Sz.zero.mono (by omega)
theorem GS.yz (t : Nat) : Sz (232 + q) (if t ∈ S then lvY g b S t else 1) := by
  by_cases m : t ∈ S
  · rw [if_pos m]; exact (h.xy m).2
  · rw [if_neg m]; exact Sz.one.mono (by omega)
theorem GS.dotz {s : Nat} (hs : s < g.n) (j : Nat) {x : Nat → Rat} (hx : ∀ t, Sz (232 + q) (x t)) : Sz (949 + 4 * q) (dot ((g.row s).take j) x) := by
  have := dot_sz (row := (g.row s).take j) (fun tp m => h.tp hs tp (List.mem_of_mem_take m)) fun tp _ => hx tp.1
  refine this.mono ?_
  have l : ((g.row s).take j).length ≤ 4 := by have := h.r4 s; rw [List.length_take]; omega
  have : ((g.row s).take j).length * (232 + q + 5) ≤ 4 * (232 + q + 5) := Nat.mul_le_mul_right _ l
  omega
theorem GS.dotz' {s : Nat} (hs : s < g.n) {x : Nat → Rat} (hx : ∀ t, Sz (232 + q) (x t)) : Sz (949 + 4 * q) (dot (g.row s) x) := by
  have := h.dotz hs (g.row s).length hx
  rw [List.take_length] at this
  exact this
theorem GS.ez {s : Nat} (hs : s < g.n) : Sz (954 + 5 * q) (Ee g b S (lvX g b S) s) := ((h.rw hs).add (h.bsz.mul (h.dotz' hs h.xz))).mono (by omega)
theorem GS.fz {s : Nat} (hs : s < g.n) : Sz (953 + 4 * q) (Ff g b S (lvY g b S) s) := (h.bsz.mul (h.dotz' hs h.yz)).mono (by omega)
theorem GS.f1 {s : Nat} (hs : s < g.n) : 1 - Ff g b S (lvY g b S) s ≠ 0 := by
  have := Ff_lt h.ok h.hb h.hS h.lv hs
  intro e
  grind
theorem GS.cz {s : Nat} (hs : s < g.n) : Sz (1909 + 9 * q) (cand g b S (lvX g b S) (lvY g b S) s) := ((h.ez hs).div (Sz.one.sub (h.fz hs)) (h.f1 hs)).mono (by omega)
end
inductive RLt : List Ar → Ar → Prop
  | mk (g : Gm) (b : Rat) (S : List Nat) (q : Nat) : GS g b S q → RLt [.dat (gmD g), .dat (stD S), .dat (rat b)] (.dat (lvTab g b S))
inductive RFp : List Ar → Ar → Prop
  | mk (g : Gm) (b : Rat) (S : List Nat) (q s : Nat) : GS g b S q → s < g.n → RFp [.dat (gmD g), .dat (intD s), .dat (lvTab g b S), .dat (rat b)] (.dat (.tup [rat (Ee g b S (lvX g b S) s), rat (Ff g b S (lvY g b S) s)]))
abbrev pkD (p : Nat × Rat) : Dat := .tup [intD p.1, rat p.2]
def optP : Option (Nat × Rat) → Dat
  | none => .non
  | some p => pkD p
inductive RNx : List Ar → Ar → Prop
  | mk (g : Gm) (b : Rat) (S : List Nat) (q : Nat) : GS g b S q → RNx [.dat (gmD g), .dat (stD S), .dat (rat b)] (.dat (optP (pickTo (cand g b S (lvX g b S) (lvY g b S)) S g.n)))
inductive RIo : List Ar → Ar → Prop
  | mk (g : Gm) (b : Rat) (q : Nat) : GS g b [] q → RIo [.dat (gmD g), .dat (rat b)] (.dat (.tup ((ordTo g b (lvX g b) (lvY g b) g.n).map pkD)))
theorem fp_look {g : Gm} {b : Rat} {S : List Nat} {t : Nat} : (lookD (S.map fun (s : Nat) => (s : Int)) (S.map fun s => Dat.tup [rat (lvX g b S s), rat (lvY g b S s)]) (t : Int)).getD (.tup [rat 0, rat 1]) = .tup [rat (if t ∈ S then lvX g b S t else 0), rat (if t ∈ S then lvY g b S t else 1)] := by
  rw [look_map]
  by_cases m : t ∈ S
  · have hx := List.idxOf_lt_length_iff.mpr m
    rw [if_pos m, if_pos m, if_pos m, List.getElem?_map, List.getElem?_eq_getElem hx, List.getElem_idxOf hx] <;> rfl
  · rw [if_neg m, if_neg m, if_neg m] <;> rfl
section
variable {P : Program} {w : World} {K : Frg} {C : Addr} {mg : Str → Option Value} {base : Heap} {z1 o1 z2 o2 z3 o3 : Addr} (G : Glo K mg base z1 o1 z2 o2 z3 o3) (T : Rt P w K C mg base)
include G T in
theorem has_leave_table (h_leave_values : Has P w K mg base "leave_values" 45 ["game", "inside", "discount"] (spR K C RLv)) (F : Def K mg "leave_table" s_leave_table ["game", "inside", "discount"]) : Has P w K mg base "leave_table" 46 ["game", "inside", "discount"] (spR K C RLt) := by
  obtain ⟨f, fd, F, m, b'⟩ := F
  refine has_of F m b' (fn_ok F sc_leave_table (fun as z h => by cases h; rfl) fun cdv A outer s H Q E hr as z h => ?_)
  obtain ⟨g, b, S, q, h⟩ := h
  refine ⟨_, (pss_cons (ps_set (i := 3) sc_leave_table.nd rfl (.inr rfl) (pe_has h_leave_values (hr.mono (by decide)) (by rfl) (pa_cons (pv 0) (pa_cons (pv 1) (pa_cons (pv 2) pa_nil)))))
    (pss_one (ps_ret (pe_dc (own := [("k", 4)]) (g := (gName 4)) rfl sc_leave_table.nd (pi_range1 (by rfl) G.range (pa_cons (pe_callB (crLen_of (K := K) rfl) (by rfl) G.len PySem.boot_len (pa_cons (pv 1) pa_nil)) pa_nil)) (blkOk_by (N := ["game", "inside", "discount", "values", "k"]) (sc := defScope s_leave_table) (by decide +kernel)) (fun _ _ _ _ _ => (pg_name (i := 4) sc_leave_table.nd rfl (.inl rfl))) (fun _ _ _ _ _ => pts_nil) (fun _ _ _ _ _ => (pe_ix (ixT_of (K := K) rfl) (pv 1) (pv 4) (fun _ _ => rfl))) (fun _ _ _ _ _ => (pe_ix (ixT_of (K := K) rfl) (pv 3) (pv 4) (fun _ _ => rfl))))))), ?_⟩
  have h4 := h.s4
  obtain ⟨de, rh, e, B⟩ := h.gb
  have hq := h.q
  refine st_seq (st_asg (ed_call (ea_d (ed_var rfl) (ea_d (ed_var rfl) (ea_d (ed_var rfl) ea_nil))) (.mk g b S de rh h.ok h.hb h.hn h.hS B (by omega))) (lt_ok rfl) ?_)
  refine st_ret (ed_dcR (N := S.length) (ks := S.map fun (s : Nat) => (s : Int)) (ds := S.map fun s => .tup [rat (lvX g b S s), rat (lvY g b S s)]) (ea_d (ed_is (ed_lenT (ed_var rfl)) (by rw [List.length_map])) ea_nil) (by omega) (lt_ok rfl) (by rw [List.length_map]) (by rw [List.length_map]) (nodup_cast h.hn) ?_ ?_ ?_) rfl
  · have go : ∀ l : List Nat, noDicA (l.map fun s => Dat.tup [rat (lvX g b S s), rat (lvY g b S s)]) = true := fun l => by
      induction l with
      | nil => rfl
      | cons a r ih => exact ih
    exact go _
  · intro i k hk
    rw [List.getElem?_map] at hk
    obtain ⟨s', h1, rfl⟩ := Option.map_eq_some_iff.mp hk
    exact e_ix (n := i) (ed_var rfl) (ed_var rfl) rfl (mget h1)
  · intro i d hd
    exact e_ix (n := i) (ed_var rfl) (ed_var rfl) rfl hd
include G T in
theorem has_first_play (F : Def K mg "first_play" s_first_play ["game", "state", "table", "discount"]) : Has P w K mg base "first_play" 43 ["game", "state", "table", "discount"] (spR K C RFp) := by
  obtain ⟨f, fd, F, m, b'⟩ := F
  have h_add := T.add
  have h_multiply := T.mul
  refine has_of F m b' (fn_ok F sc_first_play (fun as z h => by cases h; rfl) fun cdv A outer s0 H Q E hr as z h => ?_)
  obtain ⟨g, b, S, q, s, h, hs⟩ := h
  refine ⟨_, (pss_cons (ps_set (i := 4) sc_first_play.nd rfl (.inl rfl) (pe_glob (v := .ref z1) (by rfl) G.ZERO_leaving rfl))
    (pss_cons (ps_set (i := 5) sc_first_play.nd rfl (.inl rfl) (pe_glob (v := .ref z1) (by rfl) G.ZERO_leaving rfl))
    (pss_cons (ps_for PassesOwn.never rfl (pi_tup (pe_ix ix_tup (pe_ix ix_tup (pv 0) pe_int (fun _ _ => rfl)) (pv 1) (fun _ _ => rfl))) (pg_tup rfl (pgs_cons (pg_name (i := 6) sc_first_play.nd rfl (.inl rfl)) (pgs_cons (pg_name (i := 7) sc_first_play.nd rfl (.inl rfl)) pgs_nil))) (pss_cons (ps_set (i := 8) sc_first_play.nd rfl (.inl rfl) (pe_dget2 (hu_of hr) (pv 2) (pv 6) (pe_tup (pa_cons (pe_glob (v := .ref z1) (by rfl) G.ZERO_leaving rfl) (pa_cons (pe_glob (v := .ref o1) (by rfl) G.ONE_leaving rfl) pa_nil))) (by constructor <;> first | rfl | decide)))
    (pss_cons (ps_set (i := 4) sc_first_play.nd rfl (.inl rfl) (pe_has h_add (hr.mono (by decide)) (by rfl) (pa_cons (pv 4) (pa_cons (pe_has h_multiply (hr.mono (by decide)) (by rfl) (pa_cons (pv 7) (pa_cons (pe_ix ix_tup (pv 8) pe_int (fun _ _ => rfl)) pa_nil))) pa_nil))))
    (pss_one (ps_set (i := 5) sc_first_play.nd rfl (.inl rfl) (pe_has h_add (hr.mono (by decide)) (by rfl) (pa_cons (pv 5) (pa_cons (pe_has h_multiply (hr.mono (by decide)) (by rfl) (pa_cons (pv 7) (pa_cons (pe_ix ix_tup (pv 8) pe_int (fun _ _ => rfl)) pa_nil))) pa_nil))))))))
    (pss_cons (ps_set (i := 4) sc_first_play.nd rfl (.inl rfl) (pe_has h_add (hr.mono (by decide)) (by rfl) (pa_cons (pe_ix ix_tup (pe_ix ix_tup (pv 0) pe_int (fun _ _ => rfl)) (pv 1) (fun _ _ => rfl)) (pa_cons (pe_has h_multiply (hr.mono (by decide)) (by rfl) (pa_cons (pv 3) (pa_cons (pv 4) pa_nil))) pa_nil))))
    (pss_one (ps_ret (pe_tup (pa_cons (pv 4) (pa_cons (pe_has h_multiply (hr.mono (by decide)) (by rfl) (pa_cons (pv 3) (pa_cons (pv 5) pa_nil))) pa_nil))))))))), ?_⟩
  have hq := h.q
  have bs := h.bsz
  refine st_seq (st_asg (e_glob (d := rat 0) fun H => G.z1 C H) (lt_ok rfl) ?_)
  refine st_seq (st_asg (e_glob (d := rat 0) fun H => G.z1 C H) (lt_ok rfl) ?_)
  refine st_seq (st_forT (ds := (g.row s).map tpD) (n := 8) (f := fun d r => match d with | .tup [x, y] => (r.set 6 (.dat x)).set 7 (.dat y) | _ => r) (fun j r' => ∃ y6 y7 y8, r' = [.dat (gmD g), .dat (intD s), .dat (lvTab g b S), .dat (rat b), .dat (rat (dot ((g.row s).take j) fun t => if t ∈ S then lvX g b S t else 0)), .dat (rat (dot ((g.row s).take j) fun t => if t ∈ S then lvY g b S t else 1)), y6, y7, y8])
    (e_ix (n := s) (e_ix (n := 1) (ed_var rfl) ed_int rfl rfl) (ed_var rfl) rfl (ms_get h.ok hs)) ⟨_, _, _, rfl⟩ (fun j r' ⟨_, _, _, e⟩ => by rw [e]; exact Nat.le_of_ble_eq_true rfl) (fun j d hd => ?_) (fun j d r' hj ⟨y6, y7, y8, e⟩ => ?_) fun r' ⟨y6, y7, y8, e⟩ => ?_)
  · rw [List.getElem?_map] at hd
    obtain ⟨tp, h1, rfl⟩ := Option.map_eq_some_iff.mp hd
    exact tg_pair 6 7 8 (by decide) (by decide)
  · subst e
    rw [List.getElem?_map] at hj
    obtain ⟨tp, htp, rfl⟩ := Option.map_eq_some_iff.mp hj
    have ts : (g.row s).take (j + 1) = (g.row s).take j ++ [tp] := by rw [List.take_add_one, htp] <;> rfl
    have psz := h.tp hs tp (List.mem_of_getElem? htp)
    have one : ∀ x : Nat → Rat, dot ((g.row s).take j) x + tp.2 * x tp.1 = dot ((g.row s).take (j + 1)) x := fun x => by
      rw [ts, dot_app]
      show _ = _ + (tp.2 * x tp.1 + 0)
      grind
    refine st_seq (st_asg (ed_is (ed_dget2 (ed_var rfl) (ed_var rfl) (ed_t2 (e_glob (d := rat 0) fun H => G.z1 C H) (e_glob (d := rat 1) fun H => G.o1 C H))) fp_look) (lt_ok rfl) ?_)
    refine st_seq (st_asg (e_add (ed_var rfl) (e_mul (ed_var rfl) (e_ix (n := 0) (ed_var rfl) ed_int rfl rfl) (psz.big (by omega)) ((h.xz _).big (by omega))) ((h.dotz hs j h.xz).big (by omega)) ((psz.mul (h.xz _)).big (by omega))) (lt_ok rfl) ?_)
    refine st_asg (e_add (ed_var rfl) (e_mul (ed_var rfl) (e_ix (n := 1) (ed_var rfl) ed_int rfl rfl) (psz.big (by omega)) ((h.yz _).big (by omega))) ((h.dotz hs j h.yz).big (by omega)) ((psz.mul (h.yz _)).big (by omega))) (lt_ok rfl) ?_
    rw [← one, ← one]
    exact ⟨_, _, _, rfl⟩
  · subst e
    rw [List.length_map, List.take_length]
    refine st_seq (st_asg (e_add (e_ix (n := s) (e_ix (n := 0) (ed_var rfl) ed_int rfl rfl) (ed_var rfl) rfl (rs_get hs)) (e_mul (ed_var rfl) (ed_var rfl) (bs.big (by omega)) ((h.dotz' hs h.xz).big (by omega))) ((h.rw hs).big (by omega)) ((bs.mul (h.dotz' hs h.xz)).big (by omega))) (lt_ok rfl) ?_)
    exact st_ret (ed_t2 (ed_var rfl) (e_mul (ed_var rfl) (ed_var rfl) (bs.big (by omega)) ((h.dotz' hs h.yz).big (by omega)))) rfl
theorem optP_non : ∀ o : Option (Nat × Rat), isNon (optP o) = o.isNone
  | none => rfl
  | some _ => rfl
include G T in
theorem has_next_state (h_leave_table : Has P w K mg base "leave_table" 46 ["game", "inside", "discount"] (spR K C RLt)) (h_first_play : Has P w K mg base "first_play" 43 ["game", "state", "table", "discount"] (spR K C RFp)) (F : Def K mg "next_state" s_next_state ["game", "inside", "discount"]) : Has P w K mg base "next_state" 47 ["game", "inside", "discount"] (spR K C RNx) := by
  obtain ⟨f, fd, F, m, b'⟩ := F
  have h_divide := T.div
  have h_subtract := T.sub
  have h_compare := T.cmp
  refine has_of F m b' (fn_ok F sc_next_state (fun as z h => by cases h; rfl) fun cdv A outer s0 H Q E hr as z h => ?_)
  obtain ⟨g, b, S, q, h⟩ := h
  refine ⟨_, (pss_cons (ps_set (i := 3) sc_next_state.nd rfl (.inl rfl) (pe_has h_leave_table (hr.mono (by decide)) (by rfl) (pa_cons (pv 0) (pa_cons (pv 1) (pa_cons (pv 2) pa_nil)))))
    (pss_cons (ps_set (i := 4) sc_next_state.nd rfl (.inl rfl) pe_non)
    (pss_cons (ps_for PassesOwn.never rfl (pi_range1 (by rfl) G.range (pa_cons (pe_callB cr_len (by rfl) G.len PySem.boot_len (pa_cons (pe_ix ix_tup (pv 0) pe_int (fun _ _ => rfl)) pa_nil)) pa_nil)) (pg_name (i := 5) sc_next_state.nd rfl (.inl rfl)) (pss_cons (ps_if (pt_cmp (pc_din (hu_of hr) (pv 5) (pv 3))) (pss_one ps_continue) pss_nil)
    (pss_cons (ps_asg (pe_has h_first_play (hr.mono (by decide)) (by rfl) (pa_cons (pv 0) (pa_cons (pv 5) (pa_cons (pv 3) (pa_cons (pv 2) pa_nil))))) (pg_tup (by rfl) (pgs_cons (pg_name (i := 6) sc_next_state.nd rfl (.inl rfl)) (pgs_cons (pg_name (i := 7) sc_next_state.nd rfl (.inl rfl)) pgs_nil))))
    (pss_cons (ps_set (i := 8) sc_next_state.nd rfl (.inl rfl) (pe_has h_divide (hr.mono (by decide)) (by rfl) (pa_cons (pv 6) (pa_cons (pe_has h_subtract (hr.mono (by decide)) (by rfl) (pa_cons (pe_glob (v := .ref o1) (by rfl) G.ONE_leaving rfl) (pa_cons (pv 7) pa_nil))) pa_nil))))
    (pss_one (ps_if (PW.pt (pw_or (pt_cmpR op_isN (pv 4) pe_non (nomark _)) (pw_or1 (pt_cmpR op_gt (pe_has h_compare (hr.mono (by decide)) (by rfl) (pa_cons (pv 8) (pa_cons (pe_ix ix_tup (pv 4) pe_int (fun _ _ => rfl)) pa_nil))) pe_int (nomark _))))) (pss_one (ps_set (i := 4) sc_next_state.nd rfl (.inl rfl) (pe_tup (pa_cons (pv 5) (pa_cons (pv 8) pa_nil))))) pss_nil))))))
    (pss_one (ps_ret (pv 4)))))), ?_⟩
  have hq := h.q
  have h4 := h.n4
  refine st_seq (st_asg (ed_call (ea_d (ed_var rfl) (ea_d (ed_var rfl) (ea_d (ed_var rfl) ea_nil))) (.mk g b S q h)) (lt_ok rfl) ?_)
  refine st_seq (st_asg ed_non (lt_ok rfl) ?_)
  generalize hcf : cand g b S (lvX g b S) (lvY g b S) = cf
  have cz : ∀ t, t < g.n → Sz (1909 + 9 * q) (cf t) := fun t ht => by rw [← hcf]; exact h.cz ht
  refine st_seq (st_forR (N := g.n) (fun i r' => ∃ y5 y6 y7 y8, r' = [.dat (gmD g), .dat (stD S), .dat (rat b), .dat (lvTab g b S), .dat (optP (pickTo cf S i)), y5, y6, y7, y8]) (ea_d (ed_is (ed_lenT (e_ix (n := 0) (ed_var rfl) ed_int rfl rfl)) (by rw [List.length_map] <;> rfl)) ea_nil) (by omega) ⟨_, _, _, _, rfl⟩ (fun i r' ⟨_, _, _, _, e⟩ => by rw [e]; exact lt_ok rfl) (fun i r' hi ⟨y5, y6, y7, y8, e⟩ => ?_) fun r' ⟨y5, y6, y7, y8, e⟩ => ?_)
  · subst e
    refine st_cut (fun r' => i ∉ S ∧ r' = [.dat (gmD g), .dat (stD S), .dat (rat b), .dat (lvTab g b S), .dat (optP (pickTo cf S i)), .dat (intD i), y6, y7, y8]) (st_if (ed_din_t (ed_var rfl) (ed_var rfl) (by rw [List.length_map, List.length_map])) (fun hm => st_cont ?_) fun hm => st_next ⟨fun q => of_decide_eq_false hm (mem_map_cast.mpr q), rfl⟩) ?_
    · have hm : i ∈ S := mem_map_cast.mp (of_decide_eq_true hm)
      have e : pickTo cf S (i + 1) = pickTo cf S i := by
        show (if i ∈ S then _ else _) = _
        rw [if_pos hm]
      show ∃ _ _ _ _, _
      rw [e]
      exact ⟨_, _, _, _, rfl⟩
    · rintro r' ⟨hm, rfl⟩
      have e : pickTo cf S (i + 1) = match pickTo cf S i with | none => some (i, cf i) | some p => if p.2 < cf i then some (i, cf i) else some p := by
        show (if i ∈ S then _ else _) = _
        rw [if_neg hm] <;> rfl
      have ce : cf i = Ee g b S (lvX g b S) i / (1 - Ff g b S (lvY g b S) i) := by rw [← hcf] <;> rfl
      refine st_seq (st_asg2 (ed_call (ea_d (ed_var rfl) (ea_d (ed_var rfl) (ea_d (ed_var rfl) (ea_d (ed_var rfl) ea_nil)))) (.mk g b S q i h hi)) (lt_ok rfl) (lt_ok rfl) ?_)
      refine st_seq (st_asg (ed_is (e_div (ed_var rfl) (e_sub (e_glob (d := rat 1) fun H => G.o1 C H) (ed_var rfl) (Sz.one.big (by omega)) ((h.fz hi).big (by omega))) ((h.ez hi).big (by omega)) ((Sz.one.sub (h.fz hi)).big (by omega)) (h.f1 hi)) (by rw [← ce])) (lt_ok rfl) ?_)
      show StD K C _ _ _
      rw [e]
      cases hp : pickTo cf S i with
      | none =>
        refine st_if (b := true || false) (tt_or (b := false) (tt_test (ed_isN (d := .non) (ed_var (by rfl)) ed_non)) fun z => nomatch z) (fun _ => st_asg (ed_t2 (ed_var rfl) (ed_var rfl)) (lt_ok rfl) ⟨_, _, _, _, rfl⟩) fun z => nomatch z
      | some p =>
        obtain ⟨p1, p2, p3, p4⟩ := pickTo_some hp
        have pz : Sz (1909 + 9 * q) p.2 := by rw [p3]; exact cz _ (by omega)
        refine st_if (b := false || decide (p.2 < cf i)) (tt_or (tt_test (ed_isN (d := pkD p) (ed_var (by rfl)) ed_non)) fun _ => t_gt (ed_var rfl) (e_ix (n := 1) (ed_var rfl) ed_int rfl rfl) ((cz i hi).big (by omega)) (pz.big (by omega))) (fun hc => ?_) fun hc => ?_
        · have hc : p.2 < cf i := of_decide_eq_true hc
          refine st_asg (ed_t2 (ed_var rfl) (ed_var rfl)) (lt_ok rfl) ?_
          show ∃ _ _ _ _, _
          dsimp only
          rw [if_pos hc]
          exact ⟨_, _, _, _, rfl⟩
        · have hc : ¬ p.2 < cf i := of_decide_eq_false hc
          refine st_next ?_
          show ∃ _ _ _ _, _
          dsimp only
          rw [if_neg hc]
          exact ⟨_, _, _, _, rfl⟩
  · subst e
    exact st_ret (ed_var rfl) rfl
theorem en_sortT {K : Frg} {C : Addr} {r : List Sd} {te : TE} {ns ms : List Int} (h : EvD K C te r (.tup (ns.map Dat.int))) (hl : ns.length < 64) (hs : ∀ ns' : List Int, ns'.Perm ns → ns'.Pairwise (· ≤ ·) → ns' = ms) : EvN K C (tCB (rSortedU K) (tCons te tNil)) r (ms.map Dat.int) := fun B H σ E Q q =>
  h B H σ E _ fun x H1 e1 hx => by
    obtain ⟨a, xs, rfl, h1, h2⟩ := im_tup hx
    have e := h2.ints
    subst e
    refine ⟨a, ns, rfl, h1, hl, fun ns' p hp ho hn => ?_⟩
    have e2 := hs ns' hp ho
    subst e2
    exact q _ _ (e1.trans (Ex.new hn)) ⟨p, _, rfl, e1.back hn, upd_same, .of_ints _⟩
/-- the sorted states -/
theorem srt_sorted (n : Nat) (l : List Nat) : (srt n l).Pairwise (· < ·) := List.Pairwise.filter _ List.pairwise_lt_range
theorem sort_is {n : Nat} {l : List Nat} (hn : l.Nodup) (hl : ∀ x ∈ l, x < n) {ns : List Int} (hp : ns.Perm (l.map fun (s : Nat) => (s : Int))) (ho : ns.Pairwise (· ≤ ·)) : ns = (srt n l).map fun (s : Nat) => (s : Int) := by
  refine List.Perm.eq_of_pairwise (fun a b _ _ h1 h2 => Int.le_antisymm h1 h2) ho ?_ (hp.trans ?_)
  · rw [List.pairwise_map]
    exact (srt_sorted n l).imp fun h => by omega
  · refine List.Perm.map _ ?_
    refine (List.perm_ext_iff_of_nodup hn (srt_nodup n l)).mpr fun x => ?_
    rw [mem_srt]
    exact ⟨fun h => ⟨hl x h, h⟩, fun h => h.2⟩
theorem srt_cat {n : Nat} {l : List Nat} {c : Nat} (hl : ∀ x ∈ l, x < n) : srt n (srt n l ++ [c]) = srt n (l ++ [c]) := by
  unfold srt
  refine List.filter_congr fun x hx => ?_
  have hxn := List.mem_range.mp hx
  refine decide_eq_decide.mpr ?_
  rw [List.mem_append, List.mem_append]
  have := @mem_srt n l x
  unfold srt at this
  rw [this]
  exact ⟨fun h => h.imp_left fun q => q.2, fun h => h.imp_left fun q => ⟨hxn, q⟩⟩
theorem GS.set {g : Gm} {b : Rat} {S S' : List Nat} {q : Nat} (h : GS g b S q) (hn : S'.Nodup) (hS : ∀ s ∈ S', s < g.n) : GS g b S' q := ⟨h.ok, h.hb, hn, hS, h.gb, h.q⟩
include G T in
theorem has_index_order (h_next_state : Has P w K mg base "next_state" 47 ["game", "inside", "discount"] (spR K C RNx)) (F : Def K mg "index_order" s_index_order ["game", "discount"]) : Has P w K mg base "index_order" 48 ["game", "discount"] (spR K C RIo) := by
  obtain ⟨f, fd, F, m, b'⟩ := F
  refine has_of F m b' (fn_ok F sc_index_order (fun as z h => by cases h; rfl) fun cdv A outer s0 H Q E hr as z h => ?_)
  obtain ⟨g, b, q, h⟩ := h
  refine ⟨_, (pss_cons (ps_set (i := 2) sc_index_order.nd rfl (.inl rfl) (pe_lst pa_nil))
    (pss_cons (ps_set (i := 3) sc_index_order.nd rfl (.inl rfl) (pe_tup pa_nil))
    (pss_cons (ps_for PassesOwn.never rfl (pi_range1 (by rfl) G.range (pa_cons (pe_callB cr_len (by rfl) G.len PySem.boot_len (pa_cons (pe_ix ix_tup (pv 0) pe_int (fun _ _ => rfl)) pa_nil)) pa_nil)) (pg_name (i := 4) sc_index_order.nd rfl (.inl rfl)) (pss_cons (ps_set (i := 5) sc_index_order.nd rfl (.inl rfl) (pe_has h_next_state (hr.mono (by decide)) (by rfl) (pa_cons (pv 0) (pa_cons (pv 3) (pa_cons (pv 1) pa_nil)))))
    (pss_cons (ps_expr (pe_bm PySem.F.plainAttrs_list PySem.F.slot_list_append PySem.F.type_list_append mt_append (pv 2) (pa_cons (pv 5) pa_nil)))
    (pss_one (ps_set (i := 3) sc_index_order.nd rfl (.inl rfl) (pe_callTy cr_tup (by rfl) G.tuple b_tuple (pa_cons (pe_callB cr_sortedU (by rfl) G.sorted b_sorted (pa_cons (pe_op op_catA (pv 3) (pe_tup (pa_cons (pe_ix ix_tup (pv 5) pe_int (fun _ _ => rfl)) pa_nil))) pa_nil)) pa_nil)))))))
    (pss_one (ps_ret (pe_callTy cr_tup (by rfl) G.tuple b_tuple (pa_cons (pv 2) pa_nil))))))), ?_⟩
  have hq := h.q
  have h4 := h.n4
  refine st_seq (st_asgN en_l0 (lt_ok rfl) fun p2 => ?_)
  refine st_seq (st_asg ed_t0 (lt_ok rfl) ?_)
  have s0 : srt g.n [] = [] := by
    unfold srt
    exact List.filter_eq_nil_iff.mpr fun x _ => by simp
  refine st_seq (st_forR (N := g.n) (fun i r' => ∃ y4 y5, r' = [.dat (gmD g), .dat (rat b), .own p2 ((ordTo g b (lvX g b) (lvY g b) i).map pkD), .dat (stD (Ss g b (lvX g b) (lvY g b) i)), y4, y5]) (ea_d (ed_is (ed_lenT (e_ix (n := 0) (ed_var rfl) ed_int rfl rfl)) (by rw [List.length_map] <;> rfl)) ea_nil) (by omega) ⟨_, _, by show _ = [Sd.dat (gmD g), .dat (rat b), .own p2 [], .dat (stD (srt g.n [])), _, _]; rw [s0] <;> rfl⟩ (fun i r' ⟨_, _, e⟩ => by rw [e]; exact lt_ok rfl) (fun i r' hi ⟨y4, y5, e⟩ => ?_) fun r' ⟨y4, y5, e⟩ => ?_)
  · subst e
    generalize hS : Ss g b (lvX g b) (lvY g b) i = S
    have hn : S.Nodup := by rw [← hS]; exact Ss_nodup i
    have hlt : ∀ s ∈ S, s < g.n := by rw [← hS]; exact Ss_lt
    have hpk : pk g b (lvX g b) (lvY g b) i = nxt g b (lvX g b) (lvY g b) S := by rw [← hS] <;> rfl
    obtain ⟨p1, p2', p3, p4⟩ := pk_spec (g := g) (b := b) (XS := lvX g b) (YS := lvY g b) hi
    have hsome : pickTo (cand g b S (lvX g b S) (lvY g b S)) S g.n = some (pk g b (lvX g b) (lvY g b) i) := by
      cases hp : pickTo (cand g b S (lvX g b S) (lvY g b S)) S g.n with
      | none =>
        have := pickTo_none hp _ p1
        rw [hS] at p2'
        exact absurd this p2'
      | some p =>
        rw [hpk]
        unfold nxt
        rw [hp] <;> rfl
    rw [hS] at p2'
    have hSl := (h.set hn hlt).s4
    refine st_seq (st_asg (ed_call (d := optP (pickTo (cand g b S (lvX g b S) (lvY g b S)) S g.n)) (ea_d (ed_var rfl) (ea_d (ed_var rfl) (ea_d (ed_var rfl) ea_nil))) (.mk g b S q (h.set hn hlt))) (lt_ok rfl) ?_)
    rw [hsome]
    generalize hpp : pk g b (lvX g b) (lvY g b) i = pp at p1 p2' hpk ⊢
    refine st_seq (st_app rfl (ed_is (ed_var rfl) rfl) (by rw [List.length_map, ordTo_len]; omega) ?_)
    have eo : (ordTo g b (lvX g b) (lvY g b) i).map pkD ++ [pkD pp] = (ordTo g b (lvX g b) (lvY g b) (i + 1)).map pkD := by
      rw [ordTo_succ, List.map_append, hpp] <;> rfl
    have es : srt g.n (S ++ [pp.1]) = Ss g b (lvX g b) (lvY g b) (i + 1) := by
      unfold Ss
      rw [ordTo_succ, List.map_append, hpp, ← hS]
      unfold Ss
      refine srt_cat fun x hx => ?_
      rw [ordTo_eq, List.map_map] at hx
      obtain ⟨j, hj, rfl⟩ := List.mem_map.mp hx
      exact (pk_spec (g := g) (b := b) (XS := lvX g b) (YS := lvY g b) (k := j) (by have := List.mem_range.mp hj; omega)).1
    refine st_asg (ed_tupL (el_of_n (en_sortT (ns := (S ++ [pp.1]).map fun (s : Nat) => (s : Int)) (ms := (srt g.n (S ++ [pp.1])).map fun (s : Nat) => (s : Int)) ?_ ?_ ?_))) (lt_ok rfl) ?_
    · refine ed_is (ed_catT (ed_var rfl) (ed_t1 (e_ix (n := 0) (ed_var rfl) ed_int rfl rfl)) (by rw [List.length_map]; show S.length + 1 ≤ 1000; omega)) ?_
      rw [List.map_map, List.map_append] <;> rfl
    · rw [List.length_map, List.length_append]; show S.length + 1 < 64; omega
    · intro ns hp ho
      refine sort_is ?_ ?_ hp ho
      · rw [List.nodup_append]
        exact ⟨hn, (List.pairwise_singleton _ _), fun a ha c hc => by rw [List.mem_singleton] at hc; subst hc; exact fun e => p2' (e ▸ ha)⟩
      · intro x hx
        rcases List.mem_append.mp hx with e | e
        · exact hlt x e
        · rw [List.mem_singleton] at e; rw [e]; exact p1
    · rw [es]
      show ∃ _ _, _
      rw [← eo, List.map_map]
      exact ⟨_, _, rfl⟩
  · subst e
    exact st_ret (ed_tupL (el_own rfl)) rfl
end
end AW

set_option Elab.async false
set_option linter.all false
set_option maxRecDepth 100000
set_option maxHeartbeats 4000000
/-! the walk: the class Curve, scaled, with_toll, game_curve, never_worse, amount_at -/
namespace AW
open PySem PySem.Spec PyProof.Rows L2 AC
/-! Curve.__init__ -/
abbrev s_m_init : Stmt := inClass (topS 45) 0
theorem sc_m_init : FnScope ["self", "knots", "kept", "wrong"] ["self", "knots"] (defScope s_m_init) := ⟨rfl, rfl, rfl, by decide +kernel, rfl, by decide +kernel, by decide +kernel⟩
-- slots: 0:self 1:knots 2:kept 3:wrong
/-! Curve.floor -/
abbrev s_m_floor : Stmt := inClass (topS 45) 1
theorem sc_m_floor : FnScope ["self"] ["self"] (defScope s_m_floor) := ⟨rfl, rfl, rfl, by decide +kernel, rfl, by decide +kernel, by decide +kernel⟩
-- slots: 0:self
/-! Curve.never_below -/
abbrev s_m_never_below : Stmt := inClass (topS 45) 11
theorem sc_m_never_below : FnScope ["self", "other"] ["self", "other"] (defScope s_m_never_below) := ⟨rfl, rfl, rfl, by decide +kernel, rfl, by decide +kernel, by decide +kernel⟩
-- slots: 0:self 1:other
/-! scaled -/
abbrev s_scaled : Stmt := topS 16
theorem sc_scaled : FnScope ["game", "factor", "shift", "rewards", "reward"] ["game", "factor", "shift"] (defScope s_scaled) := ⟨rfl, rfl, rfl, by decide +kernel, rfl, by decide +kernel, by decide +kernel⟩
-- slots: 0:game 1:factor 2:shift 3:rewards 4:reward
/-! with_toll -/
abbrev s_with_toll : Stmt := topS 53
theorem sc_with_toll : FnScope ["place", "toll", "game", "state"] ["place", "toll"] (defScope s_with_toll) := ⟨rfl, rfl, rfl, by decide +kernel, rfl, by decide +kernel, by decide +kernel⟩
-- slots: 0:place 1:toll 2:game 3:state
/-! ### the class -/
abbrev curD (l : List Kn) : Dat := .cur (kns l)
/-- Curve(l) behind its making -/
def spInit (K : Frg) (C : Addr) : Sp := fun vs H Q _ => ∃ (x dx : Addr) (v : V) (H1 : Hp) (l : List Kn) (n : Nat), vs = [.ref x, v] ∧ H = upd (upd H1 dx (.own x)) x (.ins C dx []) ∧ H1 x = none ∧ H1 dx = none ∧ dx ≠ x ∧ Im K C H1 v (kns l) ∧ GoodS 0 l ∧ l ≠ [] ∧ l.length ≤ 900 ∧ KSz n l ∧ n ≤ 2500000 ∧
  ∀ H2, Ex H1 H2 → Im K C H2 (.ref x) (curD l) → Q .non H2
inductive RFl : List Ar → Ar → Prop
  | mk (l : List Kn) : l ≠ [] → RFl [.dat (curD l)] (.dat (rat (AC.kV l 0)))
inductive RNb : List Ar → Ar → Prop
  | mk (l l' : List Kn) (n : Nat) : Good 0 l → Good 0 l' → l.length ≤ 400 → l'.length ≤ 400 → KSz n l → KSz n l' → n ≤ 2500000 → RNb [.dat (curD l), .dat (curD l')] (.dat (.bl (isNon (optD (lackOf l l').2))))
/-- the class of the text as it stands behind the top -/
structure CurveK (K : Frg) (C : Addr) (mg : Str → Option Value) : Prop where
  cls : Cls K C
  nk : NoAttr K C "knots"
  mgC : mg "Curve" = some (.ref C)
  init : ∃ f fd, Mk K C f ∧ Fun K "__init__" "Curve.__init__" s_m_init f fd ∧ Binds K fd ["self", "knots"] []
  floor : ∃ p f fd, PropOf K C "floor" p f ∧ Fun K "floor" "Curve.floor" s_m_floor f fd ∧ Binds K fd ["self"] []
  never : ∃ f fd, Meth K C "never_below" f ∧ Fun K "never_below" "Curve.never_below" s_m_never_below f fd ∧ Binds K fd ["self", "other"] []
structure HasC (P : Program) (w : World) (K : Frg) (C : Addr) (mg : Str → Option Value) (base : Heap) : Prop where
  k : CurveK K C mg
  init : ∃ f fd, Mk K C f ∧ FnOk P w K mg base CX0 45 f fd ["self", "knots"] (spInit K C) ∧ Binds K fd ["self", "knots"] []
  floor : ∃ p f fd, PropOf K C "floor" p f ∧ FnOk P w K mg base CX0 1 f fd ["self"] (spR K C RFl) ∧ Binds K fd ["self"] []
  never : ∃ f fd, Meth K C "never_below" f ∧ FnOk P w K mg base CX0 46 f fd ["self", "other"] (spR K C RNb) ∧ Binds K fd ["self", "other"] []
section
variable {X : Cx} {C : Addr} {e : Expr} {es : List Expr} {t : TA} {ta : TE} {p pos apos : Pos}
theorem pe_curve {K : Frg} (h : HasC X.prog X.w K C X.mg X.base) (hr : Room 46 X.A) (hg : Gl X "Curve") (ha : PA X (e :: es) t) (he : starEach (e :: es) X.env = (false, eval e X.env) :: starEach es X.env := by rfl) (hpl : (backTo pos (starEach es X.env)).any (·.1) = false := by rfl) (eK : X.K = K := by rfl) :
    PE X (.Call (.Name "Curve" p) (e :: es) [] pos) (tMake C (spInit K C) [] E0 t) := by
  subst eK
  obtain ⟨f, fd, M, F, b⟩ := h.init
  exact pe_make M F hr hg h.k.mgC b .nil pass0 ha (by decide) he hpl
theorem pe_floor (h : HasC X.prog X.w X.K C X.mg X.base) (hr : Room 2 X.A) (he : PE X e ta) (hab : attributeBase e "floor" X.env (eval e X.env) = eval e X.env) : PE X (.Attribute e "floor" pos) (tProp C (spR X.K C RFl) [] E0 ta) := by
  obtain ⟨q, f, fd, hp, F, b⟩ := h.floor
  exact pe_prop he h.k.cls hp F hr b .nil pass0 hab
theorem pe_nb {o : Expr} (h : HasC X.prog X.w X.K C X.mg X.base) (hr : Room 46 X.A) (he : PE X o ta) (ha : PA X (e :: es) t)
    (hst : starEach (e :: es) X.env = (false, eval e X.env) :: starEach es X.env := by rfl) (hpl : (backTo pos (starEach es X.env)).any (·.1) = false := by rfl) {pl : Sem Bool}
    (ht : eval (.Call (.Attribute o "never_below" apos) (e :: es) [] pos) X.env = (do
      let ov ← eval o X.env
      standAt apos.atName
      let (f, first) ← holding [ov] (getMethod ov "never_below" pl)
      callWith pos f first (backTo pos (starEach (e :: es) X.env)) (backToKw pos (keywordEach [] X.env))) := by rfl) :
    PE X (.Call (.Attribute o "never_below" apos) (e :: es) [] pos) (tMeth C "never_below" (spR X.K C RNb) [] E0 ta t) := by
  obtain ⟨f, fd, hm, F, b⟩ := h.never
  exact pe_meth (pl := pl) he h.k.cls hm F hr b .nil pass0 ha hst hpl ht
/-- scaled(game, shift=..) -/
def HasSc (P : Program) (w : World) (K : Frg) (mg : Str → Option Value) (base : Heap) (k : Nat) (fV : V) (sp : Sp) : Prop :=
  ∃ f fd fu, mg "scaled" = some (.ref f) ∧ FnOk P w K mg base CX0 k f fd ["game", "factor", "shift"] sp ∧ PySem.W.keepIn K (.ref f) = true ∧ KBn K fd ["game", "factor", "shift"] 1 ["shift"] (fun us ws => us ++ fu :: ws) (fun vs zs => vs ++ fV :: zs)
theorem pe_sc {k : Nat} {fV : V} {sp : Sp} {kws : List Keyword} {tk : TA} (h : HasSc X.prog X.w X.K X.mg X.base k fV sp) (hr : Room k X.A) (hg : Gl X "scaled") (ha : PA X (e :: es) t) (hkw : PK X kws tk)
    (hall : (backToKw pos (keywordEach kws X.env)).all (·.1.isSome) = true := by rfl) (hks : (backToKw pos (keywordEach kws X.env)).filterMap (·.1) = (["shift"] : List Str) := by rfl)
    (he : starEach (e :: es) X.env = (false, eval e X.env) :: starEach es X.env := by rfl) (hpl : ((backTo pos (starEach (e :: es) X.env)).any (·.1) || (backToKw pos (keywordEach kws X.env)).any (·.1.isNone)) = false := by rfl) :
    PE X (.Call (.Name "scaled" p) (e :: es) kws pos) (tCallN 1 1 sp (fun vs zs => vs ++ fV :: zs) E0 t tk) := by
  obtain ⟨f, fd, fu, m, F, kp, kb⟩ := h
  exact pe_callN F hr hg m kp kb pass0 ha hkw hall hks (by decide) he hpl
end
theorem iteN {p q : Prop} (h : q) : (if (!true) = true then p else q) := h
theorem iteF {p q : Prop} (h : q) : (if false = true then p else q) := h
section
variable {K : Frg} {C : Addr} {r : List Sd} {te tf : TE}
theorem e_curve {l : List Kn} {n : Nat} (h : EvD K C te r (kns l)) (g : GoodS 0 l) (ne : l ≠ []) (hl : l.length ≤ 900) (hs : KSz n l) (hn : n ≤ 2500000) : EvD K C (tMake C (spInit K C) [] E0 (tCons te tNil)) r (curD l) := fun B H σ E Q q =>
  h B H σ E _ fun v H1 e1 hv x dx hx hdx hne => ⟨x, dx, v, H1, l, n, rfl, rfl, hx, hdx, hne, hv, g, ne, hl, hs, hn, fun H2 e2 i2 => ⟨rfl, q _ H2 (e1.trans e2) i2⟩⟩
theorem e_floor {l : List Kn} (h : EvD K C te r (curD l)) (ne : l ≠ []) : EvD K C (tProp C (spR K C RFl) [] E0 te) r (rat (AC.kV l 0)) := fun B H σ E Q q =>
  h B H σ E _ fun v H1 e1 hv => by
    cases hv with
    | cur h1 h2 => exact ⟨_, _, _, rfl, h1, [.dat (curD l)], _, .cons (.cur h1 h2) .nil, .mk l ne, fun v2 H2 e2 i2 => q v2 H2 (e1.trans e2) i2⟩
theorem e_nb {l l' : List Kn} {n : Nat} (h : EvD K C te r (curD l)) (k : EvD K C tf r (curD l')) (g : Good 0 l) (g' : Good 0 l') (hl : l.length ≤ 400) (hl' : l'.length ≤ 400) (hs : KSz n l) (hs' : KSz n l') (hn : n ≤ 2500000) :
    EvD K C (tMeth C "never_below" (spR K C RNb) [] E0 te (tCons tf tNil)) r (.bl (isNon (optD (lackOf l l').2))) := fun B H σ E Q q =>
  h B H σ E _ fun v H1 e1 hv => by
    cases hv with
    | cur h1 h2 => exact ⟨_, _, _, rfl, h1, rfl, k B H1 σ (E.mono e1) _ fun u H2 e2 hu => ⟨[.dat (curD l), .dat (curD l')], _, .cons (Im.ex e2 (.cur h1 h2)) (.cons hu .nil), .mk l l' n g g' hl hl' hs hs' hn, fun v2 H3 e3 i3 => q v2 H3 ((e1.trans e2).trans e3) i3⟩⟩
end
section
variable {P : Program} {w : World} {K : Frg} {C : Addr} {mg : Str → Option Value} {base : Heap} {z1 o1 z2 o2 z3 o3 : Addr} (G : Glo K mg base z1 o1 z2 o2 z3 o3) (T : Rt P w K C mg base)
include G T in
theorem has_curve (h_first_wrong : Has P w K mg base "first_wrong" 44 ["knots"] (spR K C RWrong)) (h_lack_of : Has P w K mg base "lack_of" 45 ["first", "second"] (spR K C RLack)) (CK : CurveK K C mg) : HasC P w K C mg base := by
  refine ⟨CK, ?_, ?_, ?_⟩
  · obtain ⟨f, fd, M, F, b⟩ := CK.init
    refine ⟨f, fd, M, F.ok sc_m_init (fun vs H Q E h => ?_) fun cdv A outer s H vs Q E hr h => ?_, b⟩
    · obtain ⟨x, dx, v, H1, l, n, rfl, _⟩ := h
      rfl
    · obtain ⟨x, dx, v, H1, l, n, rfl, rfl, hx, hdx, hne, iv, g, ne, hl, hs, hn, q⟩ := h
      refine ⟨_, (pss_cons (ps_set (i := 2) sc_m_init.nd rfl (.inl rfl) (pe_callTy cr_tup (by rfl) G.tuple b_tuple (pa_cons (pv 1) pa_nil)))
    (pss_cons (ps_if (pt_not (pt_truth (pv 2) (by intro _; rfl))) (pss_one ps_never) pss_nil)
    (pss_cons (ps_set (i := 3) sc_m_init.nd rfl (.inl rfl) (pe_has h_first_wrong (hr.mono (by decide)) (by rfl) (pa_cons (pv 2) pa_nil)))
    (pss_cons (ps_if (pt_cmpR op_notN (pv 3) pe_non (nomark _)) (pss_one ps_never) pss_nil)
    (pss_one (ps_fld (pv 0) (pv 2) rfl)))))), ?_⟩
      have x1 : Ex H1 (upd (upd H1 dx (.own x)) x (.ins C dx [])) := (Ex.new hdx).mut hx
      have iv2 := iv.ex x1
      obtain ⟨a, xs, rfl, q1, q2⟩ := im_tup iv2
      have xne : xs.isEmpty = false := by
        have := q2.len
        rw [List.length_map] at this
        cases xs with
        | nil => exact absurd (List.length_eq_zero_iff.mp this.symm) ne
        | cons _ _ => rfl
      have hX : (upd (upd H1 dx (.own x)) x (.ins C dx [])) x = some (.ins C dx []) := upd_same
      generalize upd (upd H1 dx (.own x)) x (.ins C dx []) = H at x1 iv2 q1 q2 hX
      refine ⟨.ref a, rfl, a, xs, rfl, .inr ⟨q1, ?_⟩⟩
      refine ⟨.ref a, rfl, true, .inr (.inl ⟨xs, q1, by rw [xne] <;> rfl⟩), ?_⟩
      have E0 : EnvOk K C ⟨H, H⟩ H [some (.ref x), some (.ref a), some (.ref a), none] [.any, .any, .dat (kns l), .any] := by
        refine ⟨Ex.refl H, Ex.refl H, rfl, fun i sd hi => ?_, fun i j b ds es hi _ => ?_, fun i b ds hi => ?_⟩
        · match i with
          | 0 => cases hi; trivial
          | 1 => cases hi; trivial
          | 2 => cases hi; exact ⟨_, rfl, iv2⟩
          | 3 => cases hi; trivial
          | i + 4 => cases hi
        · match i with
          | 0 => cases hi
          | 1 => cases hi
          | 2 => cases hi
          | 3 => cases hi
          | i + 4 => cases hi
        · match i with
          | 0 => cases hi
          | 1 => cases hi
          | 2 => cases hi
          | 3 => cases hi
          | i + 4 => cases hi
      have s1 : EvD K C (tCall (spR K C RWrong) [] L2.E0 (tCons (tVar 2) tNil)) [.any, .any, .dat (kns l), .any] .non := ed_call (ea_d (ed_var rfl) ea_nil) (.mk l n g hl hs hn)
      refine iteN ?_
      refine s1 _ _ _ E0 _ fun v1 H2 e2 hv1 => ?_
      have := im_non hv1
      subst this
      refine ⟨.non, rfl, rfl, false, rfl, ?_⟩
      refine iteF ?_
      refine ⟨.ref a, rfl, .ref x, rfl, x, C, dx, [], rfl, e2 _ _ hX, CK.cls, CK.nk, by decide, ?_⟩
      have x3 : Ex H1 (upd H2 x (.ins C dx [("knots", .ref a)])) := (x1.trans e2).mut hx
      exact q _ x3 (.cur upd_same (iv.ex x3))
  · obtain ⟨p, f, fd, hp, F, b⟩ := CK.floor
    refine ⟨p, f, fd, hp, fn_ok F sc_m_floor (fun as z h => by cases h; rfl) fun cdv A outer s H Q E hr as z h => ?_, b⟩
    obtain ⟨l, ne⟩ := h
    refine ⟨_, (pss_one (ps_ret (pe_ix ix_tup (pe_ix ix_tup (pe_fld (pv 0) rfl) pe_int (fun _ _ => rfl)) pe_int (fun _ _ => rfl)))), ?_⟩
    refine st_ret (e_k1 (e_ix (n := 0) (ed_knots (ed_var rfl) CK.cls CK.nk) ed_int rfl (knget (by cases l with | nil => exact absurd rfl ne | cons _ _ => exact Nat.succ_pos _)))) rfl
  · obtain ⟨f, fd, hm, F, b⟩ := CK.never
    refine ⟨f, fd, hm, fn_ok F sc_m_never_below (fun as z h => by cases h; rfl) fun cdv A outer s H Q E hr as z h => ?_, b⟩
    obtain ⟨l, l', n, g, g', hl, hl', hs, hs', hn⟩ := h
    refine ⟨_, (pss_one (ps_ret (pe_cmpR op_isN (pe_ix ix_tup (pe_has h_lack_of (hr.mono (by decide)) (by rfl) (pa_cons (pe_fld (pv 0) rfl) (pa_cons (pe_fld (pv 1) rfl) pa_nil))) pe_int (fun _ _ => rfl)) pe_non (nomark _)))), ?_⟩
    refine st_ret (ed_isN (e_ix (n := 1) (ed_call (ea_d (ed_knots (ed_var rfl) CK.cls CK.nk) (ea_d (ed_knots (ed_var rfl) CK.cls CK.nk) ea_nil)) (.mk l l' n g g' hl hl' hs hs' hn)) ed_int rfl rfl) ed_non) rfl
end
/-! ### scaled, with_toll -/
def DefSc (K : Frg) (mg : Str → Option Value) (fV : V) : Prop := ∃ (f : Addr) (oc : Value) (od : Option Addr) (D : Addr) (doc pm : Value) (an : Option Addr) (cdv ct : Value) (osl : Array (Option Value)) (fu : Value),
  K.lookup f = some ⟨oc, od, .func (PySem.W.fnOf "scaled" "scaled" (defArgs s_scaled) (defBody s_scaled) (defScope s_scaled) .none (.ref D) doc pm an cdv ct), osl⟩ ∧ PySem.W.codeIn K cdv "scaled" = true ∧ PySem.W.keepIn K (.ref f) = true ∧ mg "scaled" = some (.ref f) ∧ PySem.W.nsIn K D "factor" = some (some fu) ∧ RelV fV fu
theorem len1 {α : Type} : ∀ {l : List α}, l.length = 1 → ∃ x, l = [x]
  | [x], _ => ⟨x, rfl⟩
theorem sc_binds {K : Frg} {D : Addr} {doc pm cdv ct fu : Value} {an : Option Addr} (hf : PySem.W.nsIn K D "factor" = some (some fu)) {fV : V} (hv : RelV fV fu) :
    KBn K (PySem.W.fnOf "scaled" "scaled" (defArgs s_scaled) (defBody s_scaled) (defScope s_scaled) .none (.ref D) doc pm an cdv ct) ["game", "factor", "shift"] 1 ["shift"] (fun us ws => us ++ fu :: ws) (fun vs zs => vs ++ fV :: zs) := by
  refine ⟨fun s us ws hK h1 h2 => ?_, fun r1 r2 => r1.append (.cons hv r2)⟩
  obtain ⟨u, rfl⟩ := len1 h1
  obtain ⟨w', rfl⟩ := len1 (l := ws) h2
  refine BindsTo.of_looks fun M => KwChain.looks (D := D) (l := [("factor", fu)]) hK (fun q hq => ?_) ?_
  · rw [List.mem_singleton] at hq
    subst hq
    exact hf
  · exact ⟨_, _, _, _, _, _, rfl, rfl, rfl⟩
abbrev plD (g : Gm) (s : Nat) : Dat := .tup [gmD g, intD s]
def shG (g : Gm) (t : Rat) : Gm := ⟨g.rs.map fun x => x * 1 + t, g.ms⟩
inductive RSc : List Ar → Ar → Prop
  | mk (g : Gm) (t : Rat) (q j : Nat) : g.rs.length ≤ 900 → (∀ x ∈ g.rs, Sz q x) → Sz j t → q ≤ 10000000 → j ≤ 10000000 → RSc [.dat (gmD g), .dat (rat 1), .dat (rat t)] (.dat (gmD (shG g t)))
inductive RWt : List Ar → Ar → Prop
  | mk (g : Gm) (s : Nat) (t : Rat) (q j : Nat) : g.rs.length ≤ 900 → (∀ x ∈ g.rs, Sz q x) → Sz j t → q ≤ 9000000 → j ≤ 9000000 → RWt [.dat (plD g s), .dat (rat t)] (.dat (plD (tollG g t) s))
theorem shG_toll (g : Gm) (t : Rat) : shG g (0 - t) = tollG g t := by
  unfold shG tollG
  congr 1
  refine List.map_congr_left fun x _ => ?_
  grind
section
variable {P : Program} {w : World} {K : Frg} {C : Addr} {mg : Str → Option Value} {base : Heap} {z1 o1 z2 o2 z3 o3 : Addr} (G : Glo K mg base z1 o1 z2 o2 z3 o3) (T : Rt P w K C mg base)
include G T in
theorem has_scaled {fV : V} (D : DefSc K mg fV) : HasSc P w K mg base 43 fV (spR K C RSc) := by
  obtain ⟨f, oc, od, D, doc, pm, an, cdv, ct, osl, fu, lk, cd, kp, m, hf, hv⟩ := D
  have h_add := T.add
  have h_multiply := T.mul
  have F : Fun K "scaled" "scaled" s_scaled f _ := fun_mk lk cd kp
  refine ⟨f, _, fu, m, fn_ok F sc_scaled (fun as z h => by cases h; rfl) fun cdv A outer s H Q E hr as z h => ?_, kp, sc_binds hf hv⟩
  obtain ⟨g, t, q, j, hl, hs, ht, hq, hj⟩ := h
  refine ⟨_, (pss_cons (ps_set (i := 3) sc_scaled.nd rfl (.inl rfl) (pe_callTy cr_tup (by rfl) G.tuple b_tuple (pa_cons (pe_lc (own := [("reward", 4)]) (g := (gName 4)) rfl sc_scaled.nd (pi_tup (pe_ix (ixT_of (K := K) rfl) (pv 0) pe_int (fun _ _ => rfl))) (blkOk_by (N := ["game", "factor", "shift", "rewards", "reward"]) (sc := defScope s_scaled) (by decide +kernel)) (fun _ _ _ _ _ => (pg_name (i := 4) sc_scaled.nd rfl (.inl rfl))) (fun _ _ _ _ _ => pts_nil) (fun _ _ _ _ _ => (pe_has h_add (hr.mono (by decide)) (by rfl) (pa_cons (pe_has h_multiply (hr.mono (by decide)) (by rfl) (pa_cons (pv 4) (pa_cons (pv 1) pa_nil))) (pa_cons (pv 2) pa_nil))))) pa_nil)))
    (pss_one (ps_ret (pe_tup (pa_cons (pv 3) (pa_cons (pe_ix ix_tup (pv 0) pe_int (fun _ _ => rfl)) pa_nil)))))), ?_⟩
  refine st_seq (st_asg (d := .tup ((shG g t).rs.map rat)) (ed_tupL (el_of_n (en_is (en_lcT0 (fun d => match d with | .tup [.int p, .int p'] => rat (Rat.divInt p p' * 1 + t) | _ => .non) (e_ix (n := 0) (ds := [.tup (g.rs.map rat), .tup (g.ms.map rwD)]) (ed_var rfl) ed_int rfl rfl) (by rw [List.length_map]; omega) (lt_ok rfl) fun i d hd => ?_) ?_))) (lt_ok rfl) ?_)
  · rw [List.getElem?_map] at hd
    obtain ⟨x, hx, rfl⟩ := Option.map_eq_some_iff.mp hd
    have xs := hs x (List.mem_of_getElem? hx)
    show EvD K C _ _ (rat (Rat.divInt x.num (x.den : Int) * 1 + t))
    rw [Rat.num_divInt_den]
    exact e_add (e_mul (ed_var rfl) (ed_var rfl) (xs.big (by omega)) (Sz.one.big (by omega))) (ed_var rfl) ((xs.mul Sz.one).big (by omega)) (ht.big (by omega))
  · unfold shG
    rw [List.map_map, List.map_map]
    refine List.map_congr_left fun x _ => ?_
    show rat (Rat.divInt x.num (x.den : Int) * 1 + t) = rat (x * 1 + t)
    rw [Rat.num_divInt_den]
  · exact st_ret (ed_t2 (ed_var rfl) (e_ix (n := 1) (ed_var rfl) ed_int rfl rfl)) rfl
theorem e_sc {r : List Sd} {te tk : TE} {fV : V} {g : Gm} {t : Rat} {q j : Nat} (hv : ∀ H, Im K C H fV (rat 1)) (h : EvD K C te r (gmD g)) (k : EvD K C tk r (rat t)) (hl : g.rs.length ≤ 900) (hs : ∀ x ∈ g.rs, Sz q x) (ht : Sz j t) (hq : q ≤ 10000000) (hj : j ≤ 10000000) :
    EvD K C (tCallN 1 1 (spR K C RSc) (fun vs zs => vs ++ fV :: zs) E0 (tCons te tNil) (tCons tk tNil)) r (gmD (shG g t)) := fun B H σ E Q qq =>
  h B H σ E _ fun v H1 e1 hv1 => k B H1 σ (E.mono e1) _ fun u H2 e2 hu => ⟨rfl, rfl, [.dat (gmD g), .dat (rat 1), .dat (rat t)], _, .cons (d := .dat _) (Im.ex e2 hv1) (.cons (d := .dat _) (hv H2) (.cons (d := .dat _) hu .nil)), .mk g t q j hl hs ht hq hj, fun v3 H3 e3 h3 => qq v3 H3 ((e1.trans e2).trans e3) h3⟩
include G T in
theorem has_with_toll {fV : V} (hv : ∀ H, Im K C H fV (rat 1)) (h_scaled : HasSc P w K mg base 43 fV (spR K C RSc)) (F : Def K mg "with_toll" s_with_toll ["place", "toll"]) : Has P w K mg base "with_toll" 44 ["place", "toll"] (spR K C RWt) := by
  obtain ⟨f, fd, F, m, b'⟩ := F
  have h_subtract := T.sub
  refine has_of F m b' (fn_ok F sc_with_toll (fun as z h => by cases h; rfl) fun cdv A outer s0 H Q E hr as z h => ?_)
  obtain ⟨g, s, t, q, j, hl, hs, ht, hq, hj⟩ := h
  refine ⟨_, (pss_cons (ps_asg (pv 0) (pg_tup (by rfl) (pgs_cons (pg_name (i := 2) sc_with_toll.nd rfl (.inl rfl)) (pgs_cons (pg_name (i := 3) sc_with_toll.nd rfl (.inl rfl)) pgs_nil))))
    (pss_one (ps_ret (pe_tup (pa_cons (pe_sc h_scaled (hr.mono (by decide)) (by rfl) (pa_cons (pv 2) pa_nil) (pk_cons (pe_has h_subtract (hr.mono (by decide)) (by rfl) (pa_cons (pe_glob (v := .ref z3) (by rfl) G.ZERO_tolls rfl) (pa_cons (pv 1) pa_nil))) pk_nil)) (pa_cons (pv 3) pa_nil)))))), ?_⟩
  refine st_seq (st_asg2 (ed_var rfl) (lt_ok rfl) (lt_ok rfl) ?_)
  refine st_ret (ed_t2 (ed_is (e_sc hv (ed_var rfl) (e_sub (e_glob fun H => G.z3 C H) (ed_var rfl) (Sz.zero.big (by omega)) (ht.big (by omega))) hl hs (Sz.zero.sub ht) (by omega) (by omega)) (by rw [shG_toll])) (ed_var rfl)) rfl
end
end AW

set_option Elab.async false
set_option linter.all false
set_option maxRecDepth 100000
set_option maxHeartbeats 4000000
/-! the walk: amount_at, all_curves -/
namespace AW
open PySem PySem.Spec PyProof.Rows L2 AC
/-! amount_at -/
abbrev s_amount_at : Stmt := topS 54
theorem sc_amount_at : FnScope ["curve", "excess", "knots", "k", "high", "low", "width", "share"] ["curve", "excess"] (defScope s_amount_at) := ⟨rfl, rfl, rfl, by decide +kernel, rfl, by decide +kernel, by decide +kernel⟩
-- slots: 0:curve 1:excess 2:knots 3:k 4:high 5:low 6:width 7:share
/-! all_curves -/
abbrev s_all_curves : Stmt := topS 47
theorem sc_all_curves : FnScope ["game", "discount", "order", "points", "k", "amount", "inside", "values", "at", "earned", "factor", "state", "row", "index"] ["game", "discount"] (defScope s_all_curves) := ⟨rfl, rfl, rfl, by decide +kernel, rfl, by decide +kernel, by decide +kernel⟩
-- slots: 0:game 1:discount 2:order 3:points 4:k 5:amount 6:inside 7:values 8:at 9:earned 10:factor 11:state 12:row 13:index
inductive RAm : List Ar → Ar → Prop
  | mk (l : List Kn) (x : Rat) (n j : Nat) : GoodS 0 l → l.length ≤ 400 → KSz n l → Sz j x → n ≤ 2500000 → j ≤ 5500000 → RAm [.dat (curD l), .dat (rat x)] (.dat (rat (amount l x)))
section
variable {P : Program} {w : World} {K : Frg} {C : Addr} {mg : Str → Option Value} {base : Heap} {z1 o1 z2 o2 z3 o3 : Addr} (G : Glo K mg base z1 o1 z2 o2 z3 o3) (T : Rt P w K C mg base) (CV : HasC P w K C mg base)
include G T CV in
theorem has_amount_at (F : Def K mg "amount_at" s_amount_at ["curve", "excess"]) : Has P w K mg base "amount_at" 43 ["curve", "excess"] (spR K C RAm) := by
  obtain ⟨f, fd, F, m, b'⟩ := F
  have h_subtract := T.sub
  have h_compare := T.cmp
  have h_multiply := T.mul
  have h_divide := T.div
  refine has_of F m b' (fn_ok F sc_amount_at (fun as z h => by cases h; rfl) fun cdv A outer s0 H Q E hr as z h => ?_)
  obtain ⟨l, x, n, j, g, hl, hs, hx, hn, hj⟩ := h
  refine ⟨_, (pss_cons (ps_set (i := 2) sc_amount_at.nd rfl (.inl rfl) (pe_fld (pv 0) rfl))
    (pss_cons (ps_for PassesOwn.never rfl (pi_range3 (by rfl) G.range (pa_cons (pe_op op_sub (pe_callB cr_len (by rfl) G.len PySem.boot_len (pa_cons (pv 2) pa_nil)) pe_int) (pa_cons pe_int (pa_cons (pe_un un_neg pe_int) pa_nil)))) (pg_name (i := 3) sc_amount_at.nd rfl (.inl rfl)) (pss_cons (ps_set (i := 4) sc_amount_at.nd rfl (.inl rfl) (pe_has h_subtract (hr.mono (by decide)) (by rfl) (pa_cons (pe_ix ix_tup (pe_ix ix_tup (pv 2) (pe_op op_sub (pv 3) pe_int) (fun _ _ => rfl)) pe_int (fun _ _ => rfl)) (pa_cons (pe_ix ix_tup (pe_ix ix_tup (pv 2) (pe_op op_sub (pv 3) pe_int) (fun _ _ => rfl)) pe_int (fun _ _ => rfl)) pa_nil))))
    (pss_cons (ps_if (pt_cmpR op_gt (pe_has h_compare (hr.mono (by decide)) (by rfl) (pa_cons (pv 1) (pa_cons (pv 4) pa_nil))) pe_int (nomark _)) (pss_one ps_continue) pss_nil)
    (pss_cons (ps_set (i := 5) sc_amount_at.nd rfl (.inl rfl) (pe_has h_subtract (hr.mono (by decide)) (by rfl) (pa_cons (pe_ix ix_tup (pe_ix ix_tup (pv 2) (pv 3) (fun _ _ => rfl)) pe_int (fun _ _ => rfl)) (pa_cons (pe_ix ix_tup (pe_ix ix_tup (pv 2) (pv 3) (fun _ _ => rfl)) pe_int (fun _ _ => rfl)) pa_nil))))
    (pss_cons (ps_set (i := 6) sc_amount_at.nd rfl (.inl rfl) (pe_has h_subtract (hr.mono (by decide)) (by rfl) (pa_cons (pe_ix ix_tup (pe_ix ix_tup (pv 2) (pv 3) (fun _ _ => rfl)) pe_int (fun _ _ => rfl)) (pa_cons (pe_ix ix_tup (pe_ix ix_tup (pv 2) (pe_op op_sub (pv 3) pe_int) (fun _ _ => rfl)) pe_int (fun _ _ => rfl)) pa_nil))))
    (pss_cons (ps_set (i := 7) sc_amount_at.nd rfl (.inl rfl) (pe_has h_divide (hr.mono (by decide)) (by rfl) (pa_cons (pe_has h_subtract (hr.mono (by decide)) (by rfl) (pa_cons (pv 1) (pa_cons (pv 5) pa_nil))) (pa_cons (pe_has h_subtract (hr.mono (by decide)) (by rfl) (pa_cons (pv 4) (pa_cons (pv 5) pa_nil))) pa_nil))))
    (pss_one (ps_ret (pe_has h_subtract (hr.mono (by decide)) (by rfl) (pa_cons (pe_ix ix_tup (pe_ix ix_tup (pv 2) (pv 3) (fun _ _ => rfl)) pe_int (fun _ _ => rfl)) (pa_cons (pe_has h_multiply (hr.mono (by decide)) (by rfl) (pa_cons (pv 7) (pa_cons (pv 6) pa_nil))) pa_nil)))))))))))
    (pss_one (ps_ret (pe_has h_subtract (hr.mono (by decide)) (by rfl) (pa_cons (pe_floor CV (hr.mono (by decide)) (pv 0) rfl) (pa_cons (pv 1) pa_nil))))))), ?_⟩
  have ne := g.good.ne
  have l0 : 0 < l.length := List.length_pos_iff.mpr ne
  refine st_seq (st_asg (ed_knots (ed_var rfl) CV.k.cls CV.k.nk) (lt_ok rfl) ?_)
  refine st_seq (st_forC (N := l.length - 1) (hi := (l.length : Int) - 1) (lo := 0) (fun i r' => amt l x (l.length - 1 - i) = amount l x ∧ ∃ y3 y4 y5 y6 y7, r' = [.dat (curD l), .dat (rat x), .dat (kns l), y3, y4, y5, y6, y7]) (ea_d (ed_i (ed_is (ed_lenT (ed_var rfl)) (by rw [List.length_map])) ed_int) (ea_d ed_int (ea_d (ed_u ed_int) ea_nil))) (by omega) (by omega) (by omega) ⟨rfl, _, _, _, _, _, rfl⟩ (fun i r' ⟨_, _, _, _, _, _, e⟩ => by rw [e]; exact lt_ok rfl) (fun i r' hi ⟨ha, y3, y4, y5, y6, y7, e⟩ => ?_) fun r' ⟨ha, y3, y4, y5, y6, y7, e⟩ => ?_)
  · subst e
    have hk : ∃ k, l.length - 1 - i = k + 1 := ⟨l.length - 1 - i - 1, by omega⟩
    obtain ⟨k, hk⟩ := hk
    have ek : (l.length : Int) - 1 - (i : Int) = ((k + 1 : Nat) : Int) := by omega
    have k1 : k + 1 < l.length := by omega
    rw [hk] at ha
    rw [ek]
    have sk := hs k (by omega)
    have sk1 := hs (k + 1) k1
    have ez := sk.2.sub sk.1
    have ez1 := sk1.2.sub sk1.1
    refine st_seq (st_asg (d := rat (kE l k)) (e_sub (e_k1 (e_kn (n := k) (ed_var rfl) (ed_i (ed_var rfl) ed_int) (by omega) (by omega))) (e_k0 (e_kn (n := k) (ed_var rfl) (ed_i (ed_var rfl) ed_int) (by omega) (by omega))) (sk.2.big (by omega)) (sk.1.big (by omega))) (lt_ok rfl) ?_)
    refine st_cut (fun r' => ¬ kE l k < x ∧ r' = [.dat (curD l), .dat (rat x), .dat (kns l), .dat (intD (k + 1)), .dat (rat (kE l k)), y5, y6, y7]) (st_if (t_gt (ed_var rfl) (ed_var rfl) (hx.big (by omega)) (ez.big (by omega))) (fun h => st_cont ?_) fun h => st_next ⟨of_decide_eq_false h, rfl⟩) ?_
    · refine ⟨?_, _, _, _, _, _, rfl⟩
      have h := of_decide_eq_true h
      rw [show l.length - 1 - (i + 1) = k by omega, ← ha]
      show _ = if kE l k < x then _ else _
      rw [if_pos h]
    · rintro r' ⟨h, rfl⟩
      have wz := sk1.1.sub sk.1
      have dz : kE l k - kE l (k + 1) ≠ 0 := by
        have := kE_desc g k1
        intro e
        grind
      refine st_seq (st_asg (d := rat (kE l (k + 1))) (e_sub (e_k1 (e_kn (n := k + 1) (ed_var rfl) (ed_var rfl) rfl k1)) (e_k0 (e_kn (n := k + 1) (ed_var rfl) (ed_var rfl) rfl k1)) (sk1.2.big (by omega)) (sk1.1.big (by omega))) (lt_ok rfl) ?_)
      refine st_seq (st_asg (e_sub (e_k0 (e_kn (n := k + 1) (ed_var rfl) (ed_var rfl) rfl k1)) (e_k0 (e_kn (n := k) (ed_var rfl) (ed_i (ed_var rfl) ed_int) (by omega) (by omega))) (sk1.1.big (by omega)) (sk.1.big (by omega))) (lt_ok rfl) ?_)
      have z1 := hx.sub ez1
      have z2 := ez.sub ez1
      refine st_seq (st_asg (e_div (e_sub (ed_var rfl) (ed_var rfl) (hx.big (by omega)) (ez1.big (by omega))) (e_sub (ed_var rfl) (ed_var rfl) (ez.big (by omega)) (ez1.big (by omega))) (z1.big (by omega)) (z2.big (by omega)) dz) (lt_ok rfl) ?_)
      have z3 := z1.div z2 dz
      refine st_ret (e_sub (e_k0 (e_kn (n := k + 1) (ed_var rfl) (ed_var rfl) rfl k1)) (e_mul (ed_var rfl) (ed_var rfl) (z3.big (by omega)) (wz.big (by omega))) (sk1.1.big (by omega)) ((z3.mul wz).big (by omega))) ?_
      rw [← ha]
      show _ = Ar.dat (rat (if kE l k < x then _ else _))
      rw [if_neg h] <;> rfl
  · subst e
    refine st_ret (e_sub (e_floor (ed_var rfl) ne) (ed_var rfl) ((hs 0 l0).2.big (by omega)) (hx.big (by omega))) ?_
    rw [← ha, show l.length - 1 - (l.length - 1) = 0 by omega] <;> rfl
end
/-! ### sizes of a game's knots -/
theorem ksz_mem {n : Nat} {l : List Kn} (h : ∀ p ∈ l, Sz n p.1 ∧ Sz n p.2) : KSz n l := fun k hk => h _ (List.mem_of_getElem? (kget hk))
theorem str_mem {p : Kn} : ∀ {l : List Kn} {be : Rat}, p ∈ str be l → p ∈ l
  | [], _, h => by cases h
  | x :: r, be, h => by
    rw [str_cons] at h
    rcases List.mem_append.mp h with e | e
    · by_cases c : be = aft x r
      · rw [if_pos c] at e; cases e
      · rw [if_neg c, List.mem_singleton] at e
        rw [e]
        exact List.mem_cons_self ..
    · exact List.mem_cons_of_mem _ (str_mem e)
theorem str_len : ∀ (l : List Kn) (be : Rat), (str be l).length ≤ l.length
  | [], _ => Nat.zero_le _
  | x :: r, be => by
    rw [str_cons, List.length_append, List.length_cons]
    have := str_len r (aft x r)
    by_cases c : be = aft x r
    · rw [if_pos c]; show 0 + _ ≤ _; omega
    · rw [if_neg c]; show 1 + _ ≤ _; omega
section
variable {g : Gm} {b : Rat} {XS YS : List Nat → Nat → Rat}
theorem pts_mem {p : Kn} {s : Nat} : ∀ {k : Nat}, p ∈ pts g b XS YS s k → ∃ j, j < k ∧ p = ptOf g b XS YS j s ∧ s ∈ Ss g b XS YS (j + 1)
  | k + 1, h => by
    unfold pts at h
    rcases List.mem_append.mp h with e | e
    · by_cases c : keep g b XS YS k = true ∧ s ∈ Ss g b XS YS (k + 1)
      · rw [if_pos c, List.mem_singleton] at e
        exact ⟨k, Nat.lt_succ_self _, e, c.2⟩
      · rw [if_neg c] at e; cases e
    · obtain ⟨j, h1, h2⟩ := pts_mem e
      exact ⟨j, Nat.lt_succ_of_lt h1, h2⟩
theorem pts_len {s : Nat} : ∀ k, (pts g b XS YS s k).length ≤ k
  | 0 => Nat.le_refl _
  | k + 1 => by
    unfold pts
    rw [List.length_append]
    have := pts_len (s := s) k
    by_cases c : keep g b XS YS k = true ∧ s ∈ Ss g b XS YS (k + 1)
    · rw [if_pos c]; show 1 + _ ≤ _; omega
    · rw [if_neg c]; show 0 + _ ≤ _; omega
end
section
variable {g : Gm} {b : Rat} {q : Nat} (h : GS g b [] q)
include h
theorem GS.fam : Fam g b (lvX g b) (lvY g b) := fam_lv h.ok h.hb
theorem GS.at_ (k : Nat) : GS g b (Ss g b (lvX g b) (lvY g b) k) q := h.set (Ss_nodup k) Ss_lt
theorem GS.ciz {k : Nat} (hk : k < g.n) : Sz (1909 + 9 * q) (ci g b (lvX g b) (lvY g b) k) := by
  obtain ⟨p1, p2, p3, p4⟩ := pk_spec (g := g) (b := b) (XS := lvX g b) (YS := lvY g b) hk
  show Sz _ (pk g b (lvX g b) (lvY g b) k).2
  rw [p3]
  exact (h.at_ k).cz p1
theorem ptOf_in {k s : Nat} (hs : s ∈ Ss g b (lvX g b) (lvY g b) (k + 1)) : ptOf g b (lvX g b) (lvY g b) k s = (ci g b (lvX g b) (lvY g b) k, lvX g b (Ss g b (lvX g b) (lvY g b) (k + 1)) s + lvY g b (Ss g b (lvX g b) (lvY g b) (k + 1)) s * ci g b (lvX g b) (lvY g b) k) := by
  unfold ptOf Gk Gv
  rw [if_pos hs]
theorem GS.ptz {k s : Nat} (hk : k < g.n) (hs : s ∈ Ss g b (lvX g b) (lvY g b) (k + 1)) : Sz (2400 + 11 * q) (ptOf g b (lvX g b) (lvY g b) k s).1 ∧ Sz (2400 + 11 * q) (ptOf g b (lvX g b) (lvY g b) k s).2 := by
  rw [ptOf_in h hs]
  have c := h.ciz hk
  obtain ⟨x, y⟩ := (h.at_ (k + 1)).xy hs
  exact ⟨c.mono (by omega), (x.add (y.mul c)).mono (by omega)⟩
theorem GS.ptsz (s : Nat) : ∀ p ∈ pts g b (lvX g b) (lvY g b) s g.n, Sz (2400 + 11 * q) p.1 ∧ Sz (2400 + 11 * q) p.2 := fun p hp => by
  obtain ⟨j, h1, rfl, h3⟩ := pts_mem hp
  exact h.ptz h1 h3
abbrev gkn (g : Gm) (b : Rat) (s : Nat) : List Kn := knots g b (lvX g b) (lvY g b) s
theorem GS.ksz (s : Nat) : KSz (2400 + 11 * q) (gkn g b s) := ksz_mem fun p hp => h.ptsz s p (str_mem hp)
theorem GS.klen (s : Nat) : (gkn g b s).length ≤ 4 := Nat.le_trans (str_len _ _) (Nat.le_trans (pts_len _) h.n4)
theorem GS.kgood {s : Nat} (hs : s < g.n) : GoodS 0 (gkn g b s) := knots_good h.fam hs
end
/-! ### the lists of points -/
structure Pt (K : Frg) (C : Addr) (B : Bs) (H : Hp) (pP : Addr) (as : List Addr) (L : Nat → List Kn) : Prop where
  hq : B.hq pP = none
  at_ : H pP = some (.lst (as.map V.ref))
  nd : as.Nodup
  row : ∀ (i : Nat) (a : Addr), as[i]? = some a → a ≠ pP ∧ B.hq a = none ∧ ∃ xs, H a = some (.lst xs) ∧ ImA K C H xs ((L i).map kn)
theorem atI_ref {as : List Addr} {s : Nat} {a : Addr} (h : as[s]? = some a) : atI (as.map V.ref) (s : Int) = some (.ref a) := by
  have h1 : (as.map V.ref)[s]? = some (.ref a) := by rw [List.getElem?_map, h] <;> rfl
  have hk := (List.getElem?_eq_some_iff.mp h1).1
  unfold atI
  rw [show ixN (as.map V.ref).length (s : Int) = some s by
    unfold ixN
    rw [if_pos (by omega), if_pos (by omega)]
    rfl]
  exact h1
section
variable {K : Frg} {C : Addr} {B : Bs} {H H' : Hp} {pP : Addr} {as : List Addr} {L : Nat → List Kn}
theorem Pt.ex (p : Pt K C B H pP as L) (e : Ex H H') : Pt K C B H' pP as L :=
  ⟨p.hq, e _ _ p.at_, p.nd, fun i a h => by obtain ⟨h1, h2, xs, h3, h4⟩ := p.row i a h; exact ⟨h1, h2, xs, e _ _ h3, h4.ex e⟩⟩
theorem Pt.app (p : Pt K C B H pP as L) {i : Nat} {a : Addr} (hi : as[i]? = some a) {xs : List V} (hx : H a = some (.lst xs)) {v : V} {k : Kn} (hv : Im K C H v (kn k)) : Pt K C B (upd H a (.lst (xs ++ [v]))) pP as (fun j => if j = i then L j ++ [k] else L j) := by
  obtain ⟨h1, h2, ys, h3, h4⟩ := p.row i a hi
  rw [hx] at h3
  cases h3
  have kp : Kp H (upd H a (.lst (xs ++ [v]))) := Kp.upd hx
  refine ⟨p.hq, by rw [upd_ne (Ne.symm h1)]; exact p.at_, p.nd, fun j c hj => ?_⟩
  by_cases e : j = i
  · subst e
    rw [hi] at hj
    cases hj
    refine ⟨h1, h2, _, upd_same, ?_⟩
    rw [if_pos rfl, List.map_append]
    exact (h4.append (.cons hv .nil)).kp kp
  · obtain ⟨k1, k2, ys, k3, k4⟩ := p.row j c hj
    have ne : c ≠ a := fun q => by
      subst q
      obtain ⟨q1, q2⟩ := List.getElem?_eq_some_iff.mp hi
      obtain ⟨q3, q4⟩ := List.getElem?_eq_some_iff.mp hj
      have d1 := List.Nodup.idxOf_getElem p.nd i q1
      have d2 := List.Nodup.idxOf_getElem p.nd j q3
      rw [q2] at d1
      rw [q4, d1] at d2
      exact e d2.symm
    refine ⟨k1, k2, ys, by rw [upd_ne ne]; exact k3, ?_⟩
    rw [if_neg e]
    exact k4.kp kp
theorem Pt.congr (p : Pt K C B H pP as L) {L' : Nat → List Kn} (h : ∀ i, i < as.length → L i = L' i) : Pt K C B H pP as L' :=
  ⟨p.hq, p.at_, p.nd, fun i a hi => by
    have := p.row i a hi
    rw [h i (List.getElem?_eq_some_iff.mp hi).1] at this
    exact this⟩
end
theorem nx_ {D : Ends} {σ : L2.St} {H : Hp} (h : D.nx σ H) : tNext D σ H := h
theorem iteT {p q : Prop} (h : p) : (if true = true then p else q) := h
/-- [[] for _ in range(n)] -/
theorem ac_points {K : Frg} {C : Addr} {B : Bs} {H1 : Hp} {σ1 : L2.St} {r : List Sd} {ta : TA} {n v : Nat} (E2 : EnvOk K C B H1 σ1 r) (hn : EvAs K C ta r [.dat (.int (n : Int))]) (hv : v < r.length) (h9 : n < 900) {Qv : VK}
    (hd : ∀ (Dl : Addr) (as : List Addr) (H3 : Hp), Ex H1 H3 → H1 Dl = none → H3 Dl = some (.lst (as.map V.ref)) → as.length = n → as.Nodup → (∀ (j : Nat) (a : Addr), as[j]? = some a → a ≠ Dl ∧ H1 a = none ∧ H3 a = some (.lst [])) → Qv (.ref Dl) H3) :
    tLc (iRng1 ta) (gName v) tYes (tLst tNil) [v] σ1 H1 Qv := by
  refine hn B H1 σ1 E2 _ fun vs H2 e2 hv2 => ?_
  cases hv2 with | cons g1 g2 => ?_
  cases g2
  have g1' := im_int g1
  subst g1'
  refine ⟨n, rfl, by omega, by omega, fun Dl hD => lc_range (lo := 0) (n := ((n : Int)).toNat) (fun i H' => Ex H2 H' ∧ ∃ as : List Addr, H' Dl = some (.lst (as.map V.ref)) ∧ as.length = i ∧ as.Nodup ∧ ∀ (j : Nat) (a : Addr), as[j]? = some a → a ≠ Dl ∧ H2 a = none ∧ H' a = some (.lst []))
    ⟨Ex.new hD, [], upd_same, rfl, List.nodup_nil, fun j a h => by simp at h⟩ (fun i H' hi ⟨ex, as, a1, a2, a3, a4⟩ => ?_) (fun H3 ⟨ex, as, a1, a2, a3, a4⟩ => ?_)⟩
  · have e0 : (0 : Int) + (i : Int) = (i : Int) := Int.zero_add _
    rw [e0]
    refine ctg_name (K := K) (C := C) (d := .int (i : Int)) v B H' σ1 _ (.int (i : Int)) hv ((E2.mono e2).mono ex) (.int _) _ fun σ2 w2 E3 => ⟨w2, ?_⟩
    refine ⟨Nat.zero_le _, fun p hp => ⟨as.map V.ref, ?_, by rw [List.length_map]; exact sz_lt (by omega), ?_⟩⟩
    · rw [upd_ne (ne_of_none a1 hp)]
      exact a1
    · have pD : p ≠ Dl := fun e => by subst e; rw [a1] at hp; cases hp
      have m1 : (upd H' p (.lst [])) Dl = some (.lst (as.map V.ref)) := by rw [upd_ne (Ne.symm pD)]; exact a1
      refine ⟨(ex.trans (Ex.new hp)).mut hD, as ++ [p], by rw [List.map_append]; exact upd_same, by rw [List.length_append, a2] <;> rfl, ?_, fun j a hj => ?_⟩
      · rw [List.nodup_append]
        refine ⟨a3, List.pairwise_singleton _ _, fun x hx y hy e => ?_⟩
        rw [List.mem_singleton] at hy
        rw [hy] at e
        rw [e] at hx
        obtain ⟨j, hj, e2⟩ := List.getElem_of_mem hx
        obtain ⟨_, _, z⟩ := a4 j p (by rw [List.getElem?_eq_getElem hj, e2])
        rw [hp] at z
        cases z
      · by_cases hlt : j < as.length
        · rw [List.getElem?_append_left hlt] at hj
          obtain ⟨b1, b2, b3⟩ := a4 j a hj
          refine ⟨b1, b2, ?_⟩
          rw [upd_ne b1, upd_ne (ne_of_none b3 hp)]
          exact b3
        · rw [List.getElem?_append_right (by omega)] at hj
          have ej : j - as.length = 0 := by
            rcases Nat.eq_zero_or_pos (j - as.length) with z | z
            · exact z
            · rw [List.getElem?_eq_none (by show 1 ≤ _; omega)] at hj; cases hj
          rw [ej] at hj
          have := Option.some.inj hj
          subst this
          exact ⟨pD, ex.back hp, by rw [upd_ne pD]; exact upd_same⟩
  · rw [Int.toNat_natCast] at a2
    refine hd Dl as H3 (e2.trans ex) (e2.back hD) a1 a2 a3 fun j a hj => ?_
    obtain ⟨b1, b2, b3⟩ := a4 j a hj
    exact ⟨b1, e2.back b2, b3⟩
section
variable {K : Frg} {C : Addr} {B : Bs} {H : Hp} {σ : L2.St} {r : List Sd} {ta : TA} {tb : TS} {D : Ends}
theorem forC_raw {j N : Nat} {hi lo : Int} (E : EnvOk K C B H σ r) (hl : EvAs K C ta r [.dat (.int hi), .dat (.int lo), .dat (.int (-1))]) (hN : N ≤ 1000) (hh : -1 ≤ lo ∧ lo ≤ 1000) (he : hi = lo + (N : Int) ∨ (hi ≤ lo ∧ -1000 ≤ hi ∧ N = 0))
    (Pv : Nat → L2.St → Hp → Prop) (h0 : ∀ H1, Ex H H1 → Pv 0 σ H1) (hs : ∀ (i : Nat) σ' H', i < N → Pv i σ' H' → tb { D with nx := Pv (i + 1), ct := Pv (i + 1), bk := D.nx } (σ'.set j (some (.int (hi - (i : Int))))) H') (hd : ∀ σ' H', Pv N σ' H' → D.nx σ' H') : tFor (iRng3 ta) (gName j) tb D σ H :=
  hl B H σ E _ fun vs H1 e1 hv => by
    cases hv with
    | cons g1 g2 =>
      cases g2 with
      | cons g3 g4 =>
        cases g4 with
        | cons g5 g6 =>
          cases g6
          have a1 := im_int g1
          have a3 := im_int g3
          have a5 := im_int g5
          subst a1 a3 a5
          refine ⟨hi, lo, -1, N, rfl, ?_, for_rangeC (lo := hi) (c := -1) (n := N) Pv (h0 H1 e1) (fun i σ' H' hi' p => ?_) hd⟩
          · have hz : (hi - lo).toNat = N := by omega
            have z := RgC.neg (i := hi) (j := lo) (by omega) (by omega) (by omega) (by omega)
            rw [hz] at z
            exact z
          · have e0 : hi + ((i : Nat) : Int) * -1 = hi - (i : Int) := by omega
            rw [e0]
            exact hs i σ' H' hi' p
theorem for1_raw {j N : Nat} (E : EnvOk K C B H σ r) (hl : EvAs K C ta r [.dat (.int (N : Int))]) (hN : N ≤ 1000)
    (Pv : Nat → L2.St → Hp → Prop) (h0 : ∀ H1, Ex H H1 → Pv 0 σ H1) (hs : ∀ (i : Nat) σ' H', i < N → Pv i σ' H' → tb { D with nx := Pv (i + 1), ct := Pv (i + 1), bk := D.nx } (σ'.set j (some (.int (i : Int)))) H') (hd : ∀ σ' H', Pv N σ' H' → D.nx σ' H') : tFor (iRng1 ta) (gName j) tb D σ H :=
  hl B H σ E _ fun vs H1 e1 hv => by
    cases hv with
    | cons g1 g2 =>
      cases g2
      have a1 := im_int g1
      subst a1
      refine ⟨N, rfl, by omega, by omega, for_range (lo := 0) (n := ((N : Int)).toNat) Pv (h0 H1 e1) (fun i σ' H' hi p => ?_) (fun σ' H' p => ?_)⟩
      · have e0 : (0 : Int) + (i : Int) = (i : Int) := Int.zero_add _
        rw [e0]
        exact hs i σ' H' (by omega) p
      · rw [Int.toNat_natCast] at p
        exact hd σ' H' p
end
theorem take_get {S : List Nat} {j : Nat} (hj : j < S.length) : S.take (j + 1) = S.take j ++ [S.getD j 0] := by
  rw [List.take_add_one, getD_of (z := 0) hj] <;> rfl
theorem not_take {S : List Nat} (hn : S.Nodup) {j : Nat} (hj : j < S.length) : S.getD j 0 ∉ S.take j := fun m => by
  obtain ⟨i, hi, e⟩ := List.getElem_of_mem m
  rw [List.length_take] at hi
  rw [List.getElem_take] at e
  have a := List.Nodup.idxOf_getElem hn i (by omega)
  have b := (idx_getD hn hj).1
  rw [← e, a] at b
  omega
abbrev acR (g : Gm) (b : Rat) (od : List Dat) (k : Nat) (m : Rat) (S : List Nat) : List Sd := [.dat (gmD g), .dat (rat b), .dat (.tup od), .any, .dat (intD k), .dat (rat m), .dat (stD S), .dat (lvRes g b S), .any, .any, .any, .any, .any, .any]
theorem ac_inner {K : Frg} {C : Addr} {B : Bs} {H : Hp} {σ : L2.St} {g : Gm} {b m : Rat} {od : List Dat} {k q qq n : Nat} {S : List Nat} {L : Nat → List Kn} {pP : Addr} {as : List Addr} (hn : S.Nodup) (hS : ∀ s ∈ S, s < n) (hl : as.length = n) (h9 : S.length ≤ 100) (h8 : ∀ s, (L s).length ≤ 100)
    (xy : ∀ s ∈ S, Sz q (lvX g b S s) ∧ Sz q (lvY g b S s)) (mz : Sz qq m) (hq : q ≤ 5000000) (hqq : qq ≤ 5000000) (E : EnvOk K C B H σ (acR g b od k m S)) (h3 : σ[3]? = some (some (.ref pP))) (P0 : Pt K C B H pP as L) {D : Ends}
    (hd : ∀ σ' H', EnvOk K C B H' σ' (acR g b od k m S) → σ'[3]? = some (some (.ref pP)) → Pt K C B H' pP as (fun s => if s ∈ S then L s ++ [(m, lvX g b S s + lvY g b S s * m)] else L s) → D.nx σ' H') :
    tFor (iRng1 (tCons (tCB (rLenS K) (tCons (tVar 6) tNil)) tNil)) (gName 8) (tSeq (tAsg (tOp (rIxT K) (tVar 7) (tVar 8)) (gTup K 2 (gCons (gName 9) (gCons (gName 10) gNil)))) (tDrop (tBM K "list" rAppend (tOp (rIxL K) (tVar 3) (tOp (rIxT K) (tVar 6) (tVar 8))) (tCons (tTup (tCons (tVar 5) (tCons (tCall (spR K C RAdd) [] L2.E0 (tCons (tVar 9) (tCons (tCall (spR K C RMul) [] L2.E0 (tCons (tVar 10) (tCons (tVar 5) tNil))) tNil))) tNil))) tNil)))) D σ H := by
  refine for1_raw (N := S.length) E (ea_d (ed_is (ed_lenT (ed_var rfl)) (by rw [List.length_map])) ea_nil) (by omega)
    (fun i σ' H' => EnvOk K C B H' σ' (acR g b od k m S) ∧ σ'[3]? = some (some (.ref pP)) ∧ Pt K C B H' pP as (fun s => if s ∈ S.take i then L s ++ [(m, lvX g b S s + lvY g b S s * m)] else L s))
    (fun H1 e1 => ⟨E.mono e1, h3, (P0.ex e1).congr fun i _ => by rw [List.take_zero, if_neg List.not_mem_nil]⟩) (fun i σ' H' hi ⟨E1, h31, P1⟩ => ?_) (fun σ' H' ⟨E1, h31, P1⟩ => ?_)
  · obtain ⟨ix, im⟩ := idx_getD hn hi
    have nt := not_take hn hi
    generalize hs : S.getD i 0 = s at ix im nt
    have sn := hS s im
    obtain ⟨xz, yz⟩ := xy s im
    have E2 := E1.set (i := 8) (sd := .dat (.int (i : Int))) (lt_ok rfl) ⟨_, rfl, .int _⟩ fun _ _ z => nomatch z
    have sg : S[i]? = some s := by rw [getD_of (z := 0) hi, hs]
    have e1 : EvD K C (tOp (rIxT K) (tVar 7) (tVar 8)) ((acR g b od k m S).set 8 (.dat (.int (i : Int)))) (.tup [rat (lvX g b S s), rat (lvY g b S s)]) := e_ix (n := i) (ed_var rfl) (ed_var rfl) rfl (mget sg)
    refine e1 B _ _ E2 _ fun v H2 x2 hv => ?_
    obtain ⟨a, xs, rfl, h1, h2⟩ := im_tup hv
    cases h2 with | cons g1 g2 => ?_
    cases g2 with | cons g3 g4 => ?_
    cases g4
    refine ⟨a, _, rfl, h1, rfl, _, _, rfl, _, _, rfl, rfl, ?_⟩
    have E3 := ((E2.mono x2).set (i := 9) (sd := .dat (rat (lvX g b S s))) (lt_ok rfl) ⟨_, rfl, g1⟩ fun _ _ z => nomatch z).set (i := 10) (lt_ok rfl) (sd := .dat (rat (lvY g b S s))) ⟨_, rfl, g3⟩ fun _ _ z => nomatch z
    have P2 := P1.ex x2
    have as_i : as[s]? = some (as[s]'(by omega)) := List.getElem?_eq_getElem (by omega)
    generalize as[s]'(by omega) = ad at as_i
    have e2 : EvD K C (tOp (rIxT K) (tVar 6) (tVar 8)) ((((acR g b od k m S).set 8 (.dat (.int (i : Int)))).set 9 (.dat (rat (lvX g b S s)))).set 10 (.dat (rat (lvY g b S s)))) (intD s) := e_ix (n := i) (ed_var rfl) (ed_var rfl) rfl (mget sg)
    refine ⟨.ref pP, ?_, ?_⟩
    · rw [List.getElem?_set_ne (by decide), List.getElem?_set_ne (by decide), List.getElem?_set_ne (by decide)]
      exact h31
    refine e2 B _ _ E3 _ fun v3 H3 x3 hv3 => ?_
    have := im_int hv3
    subst this
    have P3 := P2.ex x3
    obtain ⟨_, _, us, u1, u2⟩ := P3.row s ad as_i
    refine ⟨pP, as.map V.ref, (s : Int), .ref ad, rfl, rfl, .inl (.inl P3.at_), atI_ref as_i, ?_⟩
    refine ⟨.inl ⟨rfl, us, .inl (.inl u1)⟩, ?_⟩
    have e3 : EvD K C (tTup (tCons (tVar 5) (tCons (tCall (spR K C RAdd) [] L2.E0 (tCons (tVar 9) (tCons (tCall (spR K C RMul) [] L2.E0 (tCons (tVar 10) (tCons (tVar 5) tNil))) tNil))) tNil))) ((((acR g b od k m S).set 8 (.dat (.int (i : Int)))).set 9 (.dat (rat (lvX g b S s)))).set 10 (.dat (rat (lvY g b S s)))) (kn (m, lvX g b S s + lvY g b S s * m)) :=
      ed_t2 (ed_var rfl) (e_add (ed_var rfl) (e_mul (ed_var rfl) (ed_var rfl) (yz.big (by omega)) (mz.big (by omega))) (xz.big (by omega)) ((yz.mul mz).big (by omega)))
    refine e3 B _ _ (E3.mono x3) _ fun v4 H4 x4 hv4 => ?_
    have ul := u2.len
    refine ⟨ad, us, v4, rfl, rfl, x4 _ _ u1, ?_, ?_⟩
    · rw [ul, List.length_map, if_neg nt]
      exact sz_lt (by have := h8 s; omega)
    · have P4 := (P3.ex x4).app as_i (x4 _ _ u1) hv4
      obtain ⟨np, nq, _⟩ := P3.row s ad as_i
      have E4 := ((E3.mono x3).mono x4).upd (ys := us ++ [v4]) (x4 _ _ u1) nq (fun j es => by
        match j with
        | 0 => intro z; cases z
        | 1 => intro z; cases z
        | 2 => intro z; cases z
        | 3 => intro z; cases z
        | 4 => intro z; cases z
        | 5 => intro z; cases z
        | 6 => intro z; cases z
        | 7 => intro z; cases z
        | 8 => intro z; cases z
        | 9 => intro z; cases z
        | 10 => intro z; cases z
        | 11 => intro z; cases z
        | 12 => intro z; cases z
        | 13 => intro z; cases z
        | j + 14 => intro z; cases z)
      refine ⟨((E4.drop 8).drop 9).drop 10, ?_, P4.congr fun t _ => ?_⟩
      · rw [List.getElem?_set_ne (by decide), List.getElem?_set_ne (by decide), List.getElem?_set_ne (by decide)]
        exact h31
      · rw [take_get hi, hs]
        by_cases e : t = s
        · subst e
          rw [if_pos rfl, if_neg nt, if_pos (List.mem_append_right _ (List.mem_singleton.mpr rfl))]
        · rw [if_neg e]
          by_cases c : t ∈ S.take i
          · rw [if_pos c, if_pos (List.mem_append_left _ c)]
          · rw [if_neg c, if_neg fun z => by rcases List.mem_append.mp z with z | z; exact c z; exact e (List.mem_singleton.mp z)]
  · rw [List.take_length] at P1
    exact hd σ' H' E1 h31 P1
inductive RAc : List Ar → Ar → Prop
  | mk (g : Gm) (b : Rat) (q : Nat) : GS g b [] q → RAc [.dat (gmD g), .dat (rat b)] (.dat (.tup ((List.range g.n).map fun (s : Nat) => curD (gkn g b s))))
section
variable {P : Program} {w : World} {K : Frg} {C : Addr} {mg : Str → Option Value} {base : Heap} {z1 o1 z2 o2 z3 o3 : Addr} (G : Glo K mg base z1 o1 z2 o2 z3 o3) (T : Rt P w K C mg base) (CV : HasC P w K C mg base)
include G T CV in
theorem has_all_curves (h_index_order : Has P w K mg base "index_order" 48 ["game", "discount"] (spR K C RIo)) (h_leave_values : Has P w K mg base "leave_values" 45 ["game", "inside", "discount"] (spR K C RLv)) (h_straightened : Has P w K mg base "straightened" 44 ["points"] (spR K C RStr)) (F : Def K mg "all_curves" s_all_curves ["game", "discount"]) : Has P w K mg base "all_curves" 49 ["game", "discount"] (spR K C RAc) := by
  obtain ⟨f, fd, F, m, b'⟩ := F
  have h_add := T.add
  have h_multiply := T.mul
  have h_compare := T.cmp
  refine has_of F m b' (fn_ok F sc_all_curves (fun as z h => by cases h; rfl) fun cdv A outer s0 H Q E hr as z h => ?_)
  obtain ⟨g, b, q, h⟩ := h
  refine ⟨_, (pss_cons (ps_set (i := 2) sc_all_curves.nd rfl (.inl rfl) (pe_has h_index_order (hr.mono (by decide)) (by rfl) (pa_cons (pv 0) (pa_cons (pv 1) pa_nil))))
    (pss_cons (ps_setLc (i := 3) (own := [("state", 11)]) (g := (gName 11)) rfl sc_all_curves.nd rfl rfl (sw_true rfl rfl rfl (by decide +kernel)) (pi_range1 (by rfl) G.range (pa_cons (pe_callB (crLen_of (K := K) rfl) (by rfl) G.len PySem.boot_len (pa_cons (pv 2) pa_nil)) pa_nil)) (blkOk_by (N := ["game", "discount", "order", "points", "k", "amount", "inside", "values", "at", "earned", "factor", "state", "row", "index"]) (sc := defScope s_all_curves) (by decide +kernel)) (fun _ _ _ _ _ => (pg_name (i := 11) sc_all_curves.nd rfl (.inl rfl))) (fun _ _ _ _ _ => pts_nil) (fun _ _ _ _ _ => (pe_lst pa_nil)))
    (pss_cons (ps_for PassesOwn.never rfl (pi_range3 (by rfl) G.range (pa_cons (pe_op op_sub (pe_callB cr_len (by rfl) G.len PySem.boot_len (pa_cons (pv 2) pa_nil)) pe_int) (pa_cons (pe_un un_neg pe_int) (pa_cons (pe_un un_neg pe_int) pa_nil)))) (pg_name (i := 4) sc_all_curves.nd rfl (.inl rfl)) (pss_cons (ps_set (i := 5) sc_all_curves.nd rfl (.inl rfl) (pe_ix ix_tup (pe_ix ix_tup (pv 2) (pv 4) (fun _ _ => rfl)) pe_int (fun _ _ => rfl)))
    (pss_cons (ps_if (PW.pt (pw_and (pt_cmpR op_lt (pe_op op_add (pv 4) pe_int) (pe_callB cr_len (by rfl) G.len PySem.boot_len (pa_cons (pv 2) pa_nil)) (nomark _)) (pw_and1 (pt_cmpR op_eq (pe_has h_compare (hr.mono (by decide)) (by rfl) (pa_cons (pe_ix ix_tup (pe_ix ix_tup (pv 2) (pe_op op_add (pv 4) pe_int) (fun _ _ => rfl)) pe_int (fun _ _ => rfl)) (pa_cons (pv 5) pa_nil))) pe_int (nomark _))))) (pss_one ps_continue) pss_nil)
    (pss_cons (ps_set (i := 6) sc_all_curves.nd rfl (.inl rfl) (pe_callTy cr_tup (by rfl) G.tuple b_tuple (pa_cons (pe_callB cr_sorted (by rfl) G.sorted b_sorted (pa_cons (pe_lc (own := [("state", 11), ("index", 13)]) (g := (gTup K 2 (gCons (gName 11) (gCons (gName 13) gNil)))) rfl sc_all_curves.nd (pi_tup (pe_slice sl_tupA (pv 2) po_none (po_some (pe_op op_add (pv 4) pe_int)))) (blkOk_by (N := ["game", "discount", "order", "points", "k", "amount", "inside", "values", "at", "earned", "factor", "state", "row", "index"]) (sc := defScope s_all_curves) (by decide +kernel)) (fun _ _ _ _ _ => (pg_tup rfl (pgs_cons (pg_name (i := 11) sc_all_curves.nd rfl (.inl rfl)) (pgs_cons (pg_name (i := 13) sc_all_curves.nd rfl (.inl rfl)) pgs_nil)))) (fun _ _ _ _ _ => pts_nil) (fun _ _ _ _ _ => (pv 11))) pa_nil)) pa_nil)))
    (pss_cons (ps_set (i := 7) sc_all_curves.nd rfl (.inl rfl) (pe_has h_leave_values (hr.mono (by decide)) (by rfl) (pa_cons (pv 0) (pa_cons (pv 6) (pa_cons (pv 1) pa_nil)))))
    (pss_one (ps_for PassesOwn.never rfl (pi_range1 (by rfl) G.range (pa_cons (pe_callB cr_len (by rfl) G.len PySem.boot_len (pa_cons (pv 6) pa_nil)) pa_nil)) (pg_name (i := 8) sc_all_curves.nd rfl (.inl rfl)) (pss_cons (ps_asg (pe_ix ix_tup (pv 7) (pv 8) (fun _ _ => rfl)) (pg_tup (by rfl) (pgs_cons (pg_name (i := 9) sc_all_curves.nd rfl (.inl rfl)) (pgs_cons (pg_name (i := 10) sc_all_curves.nd rfl (.inl rfl)) pgs_nil))))
    (pss_one (ps_expr (pe_bm PySem.F.plainAttrs_list PySem.F.slot_list_append PySem.F.type_list_append mt_append (pe_ix ix_list (pv 3) (pe_ix ix_tup (pv 6) (pv 8) (fun _ _ => rfl)) (fun _ _ => rfl)) (pa_cons (pe_tup (pa_cons (pv 5) (pa_cons (pe_has h_add (hr.mono (by decide)) (by rfl) (pa_cons (pv 9) (pa_cons (pe_has h_multiply (hr.mono (by decide)) (by rfl) (pa_cons (pv 10) (pa_cons (pv 5) pa_nil))) pa_nil))) pa_nil))) pa_nil))))))))))))
    (pss_one (ps_ret (pe_callTy cr_tup (by rfl) G.tuple b_tuple (pa_cons (pe_lc (own := [("row", 12)]) (g := (gName 12)) rfl sc_all_curves.nd (pi_list (pv 3)) (blkOk_by (N := ["game", "discount", "order", "points", "k", "amount", "inside", "values", "at", "earned", "factor", "state", "row", "index"]) (sc := defScope s_all_curves) (by decide +kernel)) (fun _ _ _ _ _ => (pg_name (i := 12) sc_all_curves.nd rfl (.inl rfl))) (fun _ _ _ _ _ => pts_nil) (fun _ _ _ _ _ => (pe_curve CV (hr.mono (by decide)) (by rfl) (pa_cons (pe_has h_straightened (hr.mono (by decide)) (by rfl) (pa_cons (pv 12) pa_nil)) pa_nil)))) pa_nil))))))), ?_⟩
  have hq := h.q
  have h4 := h.n4
  have ol : (ordTo g b (lvX g b) (lvY g b) g.n).length = g.n := ordTo_len _
  refine st_seq (st_asg (ed_call (ea_d (ed_var rfl) (ea_d (ed_var rfl) ea_nil)) (.mk g b q h)) (lt_ok rfl) ?_)
  generalize hod : (ordTo g b (lvX g b) (lvY g b) g.n).map pkD = od at ol ⊢
  have odl : od.length = g.n := by rw [← hod, List.length_map, ordTo_len]
  have odg : ∀ k, k < g.n → od[k]? = some (pkD (pk g b (lvX g b) (lvY g b) k)) := fun k hk => by
    rw [← hod]
    exact mget (ordTo_get hk)
  intro B H1 σ1 De E1 O
  have E2 : EnvOk K C B H1 σ1 [.dat (gmD g), .dat (rat b), .dat (.tup od), .any, .any, .any, .any, .any, .any, .any, .any, .any, .any, .any] := E1
  refine sq_ ?_
  refine as_ ?_
  refine ac_points (n := g.n) E2 (ea_d (ed_is (ed_lenT (ed_var rfl)) (by rw [odl])) ea_nil) (lt_ok rfl) (by omega) fun Dl as H3 ex hD a1 a2 a3 a4 => ?_
  have E3 := (E2.mono ex).setAny (i := 3) (lt_ok rfl) (.ref Dl)
  have P0 : Pt K C B H3 Dl as (fun _ => []) := ⟨E2.exq.back hD, a1, a3, fun i a hi => by
    obtain ⟨b1, b2, b3⟩ := a4 i a hi
    exact ⟨b1, E2.exq.back b2, [], b3, .nil⟩⟩
  have s33 : (σ1.set 3 (some (.ref Dl)))[3]? = some (some (.ref Dl)) := List.getElem?_set_self (by rw [E2.len]; exact lt_ok rfl)
  refine gn_ ?_
  dsimp only
  generalize σ1.set 3 (some (.ref Dl)) = σ3 at E3 s33
  refine sq_ ?_
  refine forC_raw (N := g.n) (hi := (g.n : Int) - 1) (lo := -1) E3 (ea_d (ed_i (ed_is (ed_lenT (ed_var rfl)) (by rw [odl])) ed_int) (ea_d (ed_u ed_int) (ea_d (ed_u ed_int) ea_nil))) (by omega) (by omega) (by omega)
    (fun i σ' H' => ∃ L : Nat → List Kn, (∀ s, s < g.n → L s ++ pts g b (lvX g b) (lvY g b) s (g.n - i) = pts g b (lvX g b) (lvY g b) s g.n) ∧ (∀ s, (L s).length ≤ i) ∧ EnvOk K C B H' σ' [.dat (gmD g), .dat (rat b), .dat (.tup od), .any, .any, .any, .any, .any, .any, .any, .any, .any, .any, .any] ∧ σ'[3]? = some (some (.ref Dl)) ∧ Pt K C B H' Dl as L)
    (fun H1 e1 => ⟨fun _ => [], fun s _ => rfl, fun s => Nat.le_refl _, E3.mono e1, s33, P0.ex e1⟩) (fun i σ' H' hi ⟨L, hL, hLl, E4, s34, P1⟩ => ?_) (fun σ' H' ⟨L, hL, hLl, E4, s34, P1⟩ => ?_)
  · obtain ⟨k, hk⟩ : ∃ k, g.n - i = k + 1 := ⟨g.n - i - 1, by omega⟩
    have kn' : k < g.n := by omega
    have hk' : g.n - (i + 1) = k := by omega
    rw [show (g.n : Int) - 1 - (i : Int) = (k : Int) by omega]
    rw [hk] at hL
    have cz := h.ciz kn'
    have E5 := E4.set (i := 4) (sd := .dat (intD k)) (lt_ok rfl) ⟨_, rfl, .int _⟩ fun _ _ z => nomatch z
    have t1 : EvD K C (tOp (rIxT K) (tOp (rIxT K) (tVar 2) (tVar 4)) (tC (.int 1))) [.dat (gmD g), .dat (rat b), .dat (.tup od), .any, .dat (intD k), .any, .any, .any, .any, .any, .any, .any, .any, .any] (rat (ci g b (lvX g b) (lvY g b) k)) := e_ix (n := 1) (e_ix (n := k) (ed_var rfl) (ed_var rfl) rfl (odg k kn')) ed_int rfl rfl
    refine sq_ ?_
    refine as_ ?_
    refine t1 B _ _ E5 _ fun v H5 x5 hv5 => ?_
    refine gn_ ?_
    dsimp only
    have E6 := (E5.mono x5).set (i := 5) (sd := .dat (rat (ci g b (lvX g b) (lvY g b) k))) (lt_ok rfl) ⟨v, rfl, hv5⟩ fun _ _ z => nomatch z
    have s35 : ((σ'.set 4 (some (.int (k : Int)))).set 5 (some v))[3]? = some (some (.ref Dl)) := by
      rw [List.getElem?_set_ne (by decide), List.getElem?_set_ne (by decide)]; exact s34
    generalize (σ'.set 4 (some (.int (k : Int)))).set 5 (some v) = σ5 at E6 s35
    have t2 : EvTt K C (tAnd (tTest (tOp (rI0 fun i j => .bl (decide (i < j))) (tOp (rI0 fun i j => .int (i + j)) (tVar 4) (tC (.int 1))) (tCB (rLenS K) (tCons (tVar 2) tNil)))) (tTest (tOp rEq (tCall (spR K C RCmp) [] L2.E0 (tCons (tOp (rIxT K) (tOp (rIxT K) (tVar 2) (tOp (rI0 fun i j => .int (i + j)) (tVar 4) (tC (.int 1)))) (tC (.int 1))) (tCons (tVar 5) tNil))) (tC (.int 0)))))
        [.dat (gmD g), .dat (rat b), .dat (.tup od), .any, .dat (intD k), .dat (rat (ci g b (lvX g b) (lvY g b) k)), .any, .any, .any, .any, .any, .any, .any, .any] (decide (k + 1 < g.n) && decide (ci g b (lvX g b) (lvY g b) (k + 1) = ci g b (lvX g b) (lvY g b) k)) := by
      refine tt_and (et_is (tt_test (ed_b (ed_i (ed_var rfl) ed_int) (ed_is (ed_lenT (ed_var rfl)) (by rw [odl])))) (decide_eq_decide.mpr (by omega))) fun hlt => ?_
      have hlt := of_decide_eq_true hlt
      exact t_eq (e_ix (n := 1) (e_ix (n := k + 1) (ed_var rfl) (ed_i (ed_var rfl) ed_int) (by omega) (odg (k + 1) hlt)) ed_int rfl rfl) (ed_var rfl) ((h.ciz hlt).big (by omega)) (cz.big (by omega))
    refine sq_ ?_
    refine t2 B _ _ E6 _ fun H6 x6 => ?_
    have E7 := E6.mono x6
    have P2 := (P1.ex x5).ex x6
    have kp : keep g b (lvX g b) (lvY g b) k = !(decide (k + 1 < g.n) && decide (ci g b (lvX g b) (lvY g b) (k + 1) = ci g b (lvX g b) (lvY g b) k)) := by
      unfold keep
      by_cases c1 : k + 1 < g.n <;> by_cases c2 : ci g b (lvX g b) (lvY g b) (k + 1) = ci g b (lvX g b) (lvY g b) k <;> simp [c1, c2]
    have ps : ∀ s, pts g b (lvX g b) (lvY g b) s (k + 1) = (if keep g b (lvX g b) (lvY g b) k = true ∧ s ∈ Ss g b (lvX g b) (lvY g b) (k + 1) then [ptOf g b (lvX g b) (lvY g b) k s] else []) ++ pts g b (lvX g b) (lvY g b) s k := fun _ => rfl
    cases hb : (decide (k + 1 < g.n) && decide (ci g b (lvX g b) (lvY g b) (k + 1) = ci g b (lvX g b) (lvY g b) k)) with
    | true =>
      rw [hb] at kp
      refine ⟨L, fun s hs => ?_, fun s => Nat.le_succ_of_le (hLl s), (E7.drop 4).drop 5, s35, P2⟩
      rw [hk', ← hL s hs, ps s, kp, if_neg (fun z => nomatch z.1)] <;> rfl
    | false =>
      rw [hb] at kp
      generalize hS : Ss g b (lvX g b) (lvY g b) (k + 1) = S
      have Sn : S.Nodup := by rw [← hS]; exact Ss_nodup _
      have Sl : ∀ s ∈ S, s < g.n := by rw [← hS]; exact Ss_lt
      have gS : GS g b S q := h.set Sn Sl
      have t3 : EvD K C (tCB (rTupOf K) (tCons (tCB (rSorted K) (tCons (tLc (iTup K (tSl (rSlA K) (tVar 2) tNoPart (tPart (tOp (rI0 fun i j => .int (i + j)) (tVar 4) (tC (.int 1)))))) (gTup K 2 (gCons (gName 11) (gCons (gName 13) gNil))) tYes (tVar 11) [11, 13]) tNil)) tNil))
          [.dat (gmD g), .dat (rat b), .dat (.tup od), .any, .dat (intD k), .dat (rat (ci g b (lvX g b) (lvY g b) k)), .any, .any, .any, .any, .any, .any, .any, .any] (stD S) := by
        have cut : cutD od none (some ((k : Int) + 1)) = (ordTo g b (lvX g b) (lvY g b) (k + 1)).map pkD := by
          rw [show (k : Int) + 1 = ((k + 1 : Nat) : Int) by omega]
          unfold cutD
          rw [HT.sIx_nat, HT.sIx_none, List.drop_zero, Nat.sub_zero, odl, Nat.min_eq_left (by omega), ← hod, ← List.map_take, ordTo_take (by omega)]
        have e1 := en_lcT (K := K) (C := C) (g := gTup K 2 (gCons (gName 11) (gCons (gName 13) gNil))) (tt := tYes) (te := tVar 11) (tl := tSl (rSlA K) (tVar 2) tNoPart (tPart (tOp (rI0 fun i j => .int (i + j)) (tVar 4) (tC (.int 1))))) (vs := [11, 13])
          (r := [.dat (gmD g), .dat (rat b), .dat (.tup od), .any, .dat (intD k), .dat (rat (ci g b (lvX g b) (lvY g b) k)), .any, .any, .any, .any, .any, .any, .any, .any]) (ds := (ordTo g b (lvX g b) (lvY g b) (k + 1)).map pkD) (fun _ => true) (fun d => match d with | .tup [x, _] => x | _ => .non)
          (fun d r => match d with | .tup [x, y] => (r.set 11 (.dat x)).set 13 (.dat y) | _ => r) 14 (ed_is (ed_slT (ed_var rfl) eo_none (eo_some (ed_i (ed_var rfl) ed_int))) (by rw [cut])) (by rw [List.length_map, ordTo_len]; omega) (Nat.le_of_ble_eq_true rfl)
          (fun j d hd => by
            rw [List.getElem?_map] at hd
            obtain ⟨p, h1, rfl⟩ := Option.map_eq_some_iff.mp hd
            exact ctg_pair 11 13 14 (by decide) (by decide) (by decide)) (fun j d hd => tt_yes) (fun j d hd _ => by
            rw [List.getElem?_map] at hd
            obtain ⟨p, h1, rfl⟩ := Option.map_eq_some_iff.mp hd
            exact ed_var rfl)
        have e2 : ((((ordTo g b (lvX g b) (lvY g b) (k + 1)).map pkD).filter fun _ => true).map fun d => match d with | .tup [x, _] => x | _ => .non) = (((ordTo g b (lvX g b) (lvY g b) (k + 1)).map (·.1)).map fun (s : Nat) => (s : Int)).map Dat.int := by
          rw [List.filter_eq_self.mpr (fun _ _ => rfl), List.map_map, List.map_map, List.map_map] <;> rfl
        rw [e2] at e1
        refine ed_is (ed_tupL (el_of_n (en_sortL (ms := S.map fun (s : Nat) => (s : Int)) (el_of_n e1) (by rw [List.length_map, List.length_map, ordTo_len]; omega) fun ns hp ho => ?_))) (by rw [List.map_map] <;> rfl)
        rw [← hS]
        exact sort_is (fst_nodup (k + 1) (by omega)) (fun x hx => by
          rw [ordTo_eq, List.map_map] at hx
          obtain ⟨j, hj, rfl⟩ := List.mem_map.mp hx
          exact (pk_spec (g := g) (b := b) (XS := lvX g b) (YS := lvY g b) (k := j) (by have := List.mem_range.mp hj; omega)).1) hp ho
      refine iteF ?_
      refine nx_ ?_
      dsimp only
      refine sq_ ?_
      refine as_ ?_
      refine t3 B _ _ E7 _ fun v7 H7 x7 hv7 => ?_
      refine gn_ ?_
      dsimp only
      have E8 := (E7.mono x7).set (i := 6) (sd := .dat (stD S)) (lt_ok rfl) ⟨v7, rfl, hv7⟩ fun _ _ z => nomatch z
      obtain ⟨de, rh, ee, Bb⟩ := h.gb
      have t4 : EvD K C (tCall (spR K C RLv) [] L2.E0 (tCons (tVar 0) (tCons (tVar 6) (tCons (tVar 1) tNil)))) [.dat (gmD g), .dat (rat b), .dat (.tup od), .any, .dat (intD k), .dat (rat (ci g b (lvX g b) (lvY g b) k)), .dat (stD S), .any, .any, .any, .any, .any, .any, .any] (lvRes g b S) :=
        ed_call (ea_d (ed_var rfl) (ea_d (ed_var rfl) (ea_d (ed_var rfl) ea_nil))) (.mk g b S de rh h.ok h.hb Sn Sl Bb (by omega))
      refine sq_ ?_
      refine as_ ?_
      refine t4 B _ _ E8 _ fun v8 H8 x8 hv8 => ?_
      refine gn_ ?_
      dsimp only
      have E9 := (E8.mono x8).set (i := 7) (sd := .dat (lvRes g b S)) (lt_ok rfl) ⟨v8, rfl, hv8⟩ fun _ _ z => nomatch z
      have s37 : ((σ5.set 6 (some v7)).set 7 (some v8))[3]? = some (some (.ref Dl)) := by
        rw [List.getElem?_set_ne (by decide), List.getElem?_set_ne (by decide)]; exact s35
      have P3 := (P2.ex x7).ex x8
      have S4 := gS.s4
      refine ac_inner (n := g.n) (q := 232 + q) (qq := 1909 + 9 * q) Sn Sl a2 (by omega) (fun s => by have := hLl s; omega) (fun s hs => gS.xy hs) cz (by omega) (by omega) E9 s37 P3 fun σ9 H9 E10 s39 P4 => ?_
      refine ⟨_, fun s hs => ?_, fun s => ?_, (((E10.drop 4).drop 5).drop 6).drop 7, s39, P4⟩
      · rw [hk', ← hL s hs, ps s, kp, hS]
        by_cases m : s ∈ S
        · rw [if_pos m, if_pos ⟨rfl, m⟩, ptOf_in h (by rw [hS]; exact m), hS, List.append_assoc] <;> rfl
        · rw [if_neg m, if_neg fun z => m z.2] <;> rfl
      · by_cases m : s ∈ S
        · rw [if_pos m, List.length_append]
          have := hLl s
          show _ + 1 ≤ _
          omega
        · rw [if_neg m]
          exact Nat.le_succ_of_le (hLl s)
  · rw [Nat.sub_self] at hL
    have hL' : ∀ s, s < g.n → L s = pts g b (lvX g b) (lvY g b) s g.n := fun s hs => by
      rw [← hL s hs]
      exact (List.append_nil _).symm
    refine ⟨.ref Dl, s34, Dl, rfl, ⟨as.map V.ref, .inl (.inl P1.at_)⟩, fun Dm hm => lc_list (xs := as.map V.ref) (fun i H2 => Acc K C H' Dm (((List.range g.n).map fun (s : Nat) => curD (gkn g b s)).take i) H2) (Acc.start hm) (fun i H2 _ A => .inl (.inl (A.ex _ _ P1.at_))) (fun i x H2 hx A => ?_) (fun H2 A => ?_)⟩
    · obtain ⟨ad, had, rfl⟩ := as_ref hx
      have hi : i < g.n := by
        have := (List.getElem?_eq_some_iff.mp had).1
        omega
      have e1 : (wipe σ' [12]).set 12 (some (.ref ad)) = σ'.set 12 (some (.ref ad)) := by
        show (σ'.set 12 none).set 12 _ = _
        rw [List.set_set]
      refine ⟨by show wipe ((wipe σ' [12]).set 12 (some (.ref ad))) [12] = wipe σ' [12]; rw [e1]; show (σ'.set 12 _).set 12 none = σ'.set 12 none; rw [List.set_set], ?_⟩
      obtain ⟨n1, n2, us, u1, u2⟩ := (P1.ex A.ex).row i ad had
      rw [hL' i hi] at u2
      have E5 := (E4.mono A.ex).adopt (i := 12) (lt_ok rfl) u1 u2 n2 (fun j es hj => by
        match j with
        | 0 => intro z; cases z
        | 1 => intro z; cases z
        | 2 => intro z; cases z
        | 3 => intro z; cases z
        | 4 => intro z; cases z
        | 5 => intro z; cases z
        | 6 => intro z; cases z
        | 7 => intro z; cases z
        | 8 => intro z; cases z
        | 9 => intro z; cases z
        | 10 => intro z; cases z
        | 11 => intro z; cases z
        | 12 => exact absurd rfl hj
        | 13 => intro z; cases z
        | j + 14 => intro z; cases z)
      have kg := h.kgood hi
      have kl := h.klen i
      have pl := pts_len (g := g) (b := b) (XS := lvX g b) (YS := lvY g b) (s := i) g.n
      have t5 : EvD K C (tMake C (spInit K C) [] L2.E0 (tCons (tCall (spR K C RStr) [] L2.E0 (tCons (tVar 12) tNil)) tNil)) [.dat (gmD g), .dat (rat b), .dat (.tup od), .any, .any, .any, .any, .any, .any, .any, .any, .any, .own ad ((pts g b (lvX g b) (lvY g b) i g.n).map kn), .any] (curD (gkn g b i)) :=
        e_curve (ed_call (ea_l (el_own rfl) ea_nil) (.mk (pts g b (lvX g b) (lvY g b) i g.n) (2400 + 11 * q) (pts_good h.fam hi).1 (by omega) (ksz_mem (h.ptsz i)) (by omega))) kg kg.good.ne (by omega) (h.ksz i) (by omega)
      rw [← e1] at E5
      refine acc_turn (b := true) (z := curD (gkn g b i)) A ?_ E5 tt_yes (fun _ => t5) fun H3 A3 => ?_
      · rw [List.length_take, List.length_map, List.length_range]
        exact Nat.lt_of_le_of_lt (Nat.min_le_right ..) (by omega)
      · show Acc K C H' Dm (((List.range g.n).map fun (s : Nat) => curD (gkn g b s)).take (i + 1)) H3
        rw [List.take_add_one, List.getElem?_map, List.getElem?_range hi]
        exact A3
    · rw [List.length_map, a2] at A
      rw [List.take_of_length_le (by rw [List.length_map, List.length_range]; exact Nat.le_refl _)] at A
      obtain ⟨acc, c1, c2⟩ := A.at_
      refine ⟨Dm, acc, rfl, .inl ⟨.inl (.inl c1), fun l hl => ?_⟩⟩
      exact O.rd _ _ _ rfl ((E4.ex.trans A.ex).trans (Ex.new hl)) (.tup (.inl (.inl upd_same)) (c2.ex (Ex.new hl)))
end
end AW

set_option Elab.async false
set_option linter.all false
set_option maxRecDepth 100000
set_option maxHeartbeats 4000000
/-! the walk: game_curve, never_worse, stop_table, fair_toll -/
namespace AW
open PySem PySem.Spec PyProof.Rows L2 AC
/-! game_curve -/
abbrev s_game_curve : Stmt := topS 48
theorem sc_game_curve : FnScope ["place", "discount"] ["place", "discount"] (defScope s_game_curve) := ⟨rfl, rfl, rfl, by decide +kernel, rfl, by decide +kernel, by decide +kernel⟩
-- slots: 0:place 1:discount
/-! never_worse -/
abbrev s_never_worse : Stmt := topS 57
theorem sc_never_worse : FnScope ["first", "second", "discount"] ["first", "second", "discount"] (defScope s_never_worse) := ⟨rfl, rfl, rfl, by decide +kernel, rfl, by decide +kernel, by decide +kernel⟩
-- slots: 0:first 1:second 2:discount
/-! stop_table -/
abbrev s_stop_table : Stmt := topS 49
theorem sc_stop_table : FnScope ["game", "amount", "discount", "table", "going", "inside", "values", "at", "earned", "factor", "reward", "state", "index"] ["game", "amount", "discount"] (defScope s_stop_table) := ⟨rfl, rfl, rfl, by decide +kernel, rfl, by decide +kernel, by decide +kernel⟩
-- slots: 0:game 1:amount 2:discount 3:table 4:going 5:inside 6:values 7:at 8:earned 9:factor 10:reward 11:state 12:index
/-! fair_toll -/
abbrev s_fair_toll : Stmt := topS 55
theorem sc_fair_toll : FnScope ["first", "second", "discount", "curve", "other", "least", "amount", "value", "excess", "ahead"] ["first", "second", "discount"] (defScope s_fair_toll) := ⟨rfl, rfl, rfl, by decide +kernel, rfl, by decide +kernel, by decide +kernel⟩
-- slots: 0:first 1:second 2:discount 3:curve 4:other 5:least 6:amount 7:value 8:excess 9:ahead
inductive RGc : List Ar → Ar → Prop
  | mk (g : Gm) (b : Rat) (q s : Nat) : GS g b [] q → s < g.n → RGc [.dat (plD g s), .dat (rat b)] (.dat (curD (gkn g b s)))
inductive RNw : List Ar → Ar → Prop
  | mk (g g' : Gm) (b : Rat) (q s s' : Nat) : GS g b [] q → GS g' b [] q → s < g.n → s' < g'.n → RNw [.dat (plD g s), .dat (plD g' s'), .dat (rat b)] (.dat (.bl (isNon (optD (lackOf (gkn g b s) (gkn g' b s')).2))))
inductive RSt : List Ar → Ar → Prop
  | mk (g : Gm) (b m : Rat) (q j : Nat) : GS g b [] q → Sz j m → j ≤ 5000000 → RSt [.dat (gmD g), .dat (rat m), .dat (rat b)] (.dat (.tup ((List.range g.n).map fun (s : Nat) => rat (fval g b (lvX g b) (lvY g b) m s))))
/-- the least lead at the knots -/
def leadStep (l l' : List Kn) (acc : Option Rat) (p : Kn) : Option Rat :=
  match acc with
  | none => some (ahead l l' (p.2 - p.1))
  | some c => if ahead l l' (p.2 - p.1) < c then some (ahead l l' (p.2 - p.1)) else some c
def leadOf (l l' : List Kn) : Option Rat := (l ++ l').foldl (leadStep l l') none
def fairOf (b : Rat) (l l' : List Kn) : Rat := (1 - b) * (leadOf l l').getD 0
inductive RFt : List Ar → Ar → Prop
  | mk (g g' : Gm) (b : Rat) (q s s' : Nat) : GS g b [] q → GS g' b [] q → q ≤ 10000 → s < g.n → s' < g'.n → RFt [.dat (plD g s), .dat (plD g' s'), .dat (rat b)] (.dat (rat (fairOf b (gkn g b s) (gkn g' b s'))))
theorem amt_sz {l : List Kn} {x : Rat} {n j : Nat} (g : GoodS 0 l) (hs : KSz n l) (hx : Sz j x) : ∀ k, k < l.length → Sz (9 * n + j + 10) (amt l x k)
  | 0, h => ((hs 0 h).2.sub hx).mono (by omega)
  | k + 1, h => by
    have sk := hs k (by omega)
    have sk1 := hs (k + 1) h
    have ez := sk.2.sub sk.1
    have ez1 := sk1.2.sub sk1.1
    unfold amt
    by_cases c : kE l k < x
    · rw [if_pos c]
      exact amt_sz g hs hx k (by omega)
    · rw [if_neg c]
      have dz : kE l k - kE l (k + 1) ≠ 0 := by
        have := kE_desc g h
        intro e
        grind
      have z3 := (hx.sub ez1).div (ez.sub ez1) dz
      exact (sk1.1.sub (z3.mul (sk1.1.sub sk.1))).mono (by omega)
theorem amount_sz {l : List Kn} {x : Rat} {n j : Nat} (g : GoodS 0 l) (hs : KSz n l) (hx : Sz j x) : Sz (9 * n + j + 10) (amount l x) := amt_sz g hs hx _ (by have := List.length_pos_iff.mpr g.good.ne; omega)
theorem ahead_sz {l l' : List Kn} {x : Rat} {n j : Nat} (g : GoodS 0 l) (g' : GoodS 0 l') (hs : KSz n l) (hs' : KSz n l') (hx : Sz j x) : Sz (18 * n + 2 * j + 21) (ahead l l' x) := ((amount_sz g hs hx).sub (amount_sz g' hs' hx)).mono (by omega)
theorem KSz.memb {n : Nat} {l : List Kn} (h : KSz n l) {p : Kn} (hp : p ∈ l) : Sz n p.1 ∧ Sz n p.2 := by
  obtain ⟨k, hk, e⟩ := List.getElem_of_mem hp
  have a := h k hk
  have b := kget hk
  rw [List.getElem?_eq_getElem hk, e] at b
  have c := Option.some.inj b
  rw [c]
  exact a
theorem lead_sz {l l' : List Kn} {n : Nat} (g : GoodS 0 l) (g' : GoodS 0 l') (hs : KSz n l) (hs' : KSz n l') : ∀ (r : List Kn) (acc : Option Rat), (∀ p ∈ r, Sz n p.1 ∧ Sz n p.2) → (∀ c, acc = some c → Sz (22 * n + 23) c) → ∀ c, r.foldl (leadStep l l') acc = some c → Sz (22 * n + 23) c
  | [], acc, _, h, c, e => h c e
  | p :: r, acc, hr, h, c, e => by
    have pz := hr p (List.mem_cons_self ..)
    have az : Sz (22 * n + 23) (ahead l l' (p.2 - p.1)) := (ahead_sz g g' hs hs' (pz.2.sub pz.1)).mono (by omega)
    refine lead_sz g g' hs hs' r (leadStep l l' acc p) (fun x hx => hr x (List.mem_cons_of_mem _ hx)) (fun d hd => ?_) c e
    cases acc with
    | none =>
      have := Option.some.inj hd
      rw [← this]
      exact az
    | some c0 =>
      unfold leadStep at hd
      dsimp only at hd
      by_cases q : ahead l l' (p.2 - p.1) < c0
      · rw [if_pos q] at hd
        rw [← Option.some.inj hd]
        exact az
      · rw [if_neg q] at hd
        rw [← Option.some.inj hd]
        exact h c0 rfl
theorem KSz.mono {n n' : Nat} {l : List Kn} (h : KSz n l) (k : n ≤ n') : KSz n' l := fun i hi => ⟨(h i hi).1.mono k, (h i hi).2.mono k⟩
def optR : Option Rat → Dat
  | none => .non
  | some c => rat c
theorem filt_range {p : Nat → Bool} {c : Nat} : ∀ {n : Nat}, (∀ i, i < n → p i = decide (i < c)) → (List.range n).filter p = List.range (min n c)
  | 0, _ => by simp
  | n + 1, h => by
    rw [List.range_succ, List.filter_append, filt_range fun i hi => h i (by omega)]
    have e := h n (by omega)
    by_cases q : n < c
    · rw [List.filter_cons, e, decide_eq_true q, if_pos rfl, Nat.min_eq_left (by omega), Nat.min_eq_left (by omega), List.range_succ] <;> rfl
    · rw [List.filter_cons, e, decide_eq_false q, if_neg (by decide), Nat.min_eq_right (by omega), Nat.min_eq_right (by omega)]
      exact List.append_nil _
section
variable {P : Program} {w : World} {K : Frg} {C : Addr} {mg : Str → Option Value} {base : Heap} {z1 o1 z2 o2 z3 o3 : Addr} (G : Glo K mg base z1 o1 z2 o2 z3 o3) (T : Rt P w K C mg base) (CV : HasC P w K C mg base)
include G T in
theorem has_game_curve (h_all_curves : Has P w K mg base "all_curves" 49 ["game", "discount"] (spR K C RAc)) (F : Def K mg "game_curve" s_game_curve ["place", "discount"]) : Has P w K mg base "game_curve" 50 ["place", "discount"] (spR K C RGc) := by
  obtain ⟨f, fd, F, m, b'⟩ := F
  refine has_of F m b' (fn_ok F sc_game_curve (fun as z h => by cases h; rfl) fun cdv A outer s0 H Q E hr as z h => ?_)
  obtain ⟨g, b, q, s, h, hs⟩ := h
  refine ⟨_, (pss_one (ps_ret (pe_ix ix_tup (pe_has h_all_curves (hr.mono (by decide)) (by rfl) (pa_cons (pe_ix ix_tup (pv 0) pe_int (fun _ _ => rfl)) (pa_cons (pv 1) pa_nil))) (pe_ix ix_tup (pv 0) pe_int (fun _ _ => rfl)) (fun _ _ => rfl)))), ?_⟩
  refine st_ret (e_ix (n := s) (ed_call (ea_d (e_ix (n := 0) (ed_var rfl) ed_int rfl rfl) (ea_d (ed_var rfl) ea_nil)) (.mk g b q h)) (e_ix (n := 1) (ed_var rfl) ed_int rfl rfl) rfl ?_) rfl
  rw [List.getElem?_map, List.getElem?_range hs] <;> rfl
include G T CV in
theorem has_never_worse (h_game_curve : Has P w K mg base "game_curve" 50 ["place", "discount"] (spR K C RGc)) (F : Def K mg "never_worse" s_never_worse ["first", "second", "discount"]) : Has P w K mg base "never_worse" 51 ["first", "second", "discount"] (spR K C RNw) := by
  obtain ⟨f, fd, F, m, b'⟩ := F
  refine has_of F m b' (fn_ok F sc_never_worse (fun as z h => by cases h; rfl) fun cdv A outer s0 H Q E hr as z h => ?_)
  obtain ⟨g, g', b, q, s, s', h, h', hs, hs'⟩ := h
  refine ⟨_, (pss_one (ps_ret (pe_nb CV (hr.mono (by decide)) (pe_has h_game_curve (hr.mono (by decide)) (by rfl) (pa_cons (pv 0) (pa_cons (pv 2) pa_nil))) (pa_cons (pe_has h_game_curve (hr.mono (by decide)) (by rfl) (pa_cons (pv 1) (pa_cons (pv 2) pa_nil))) pa_nil)))), ?_⟩
  have hq := h.q
  have l1 := h.klen s
  have l2 := h'.klen s'
  exact st_ret (e_nb (ed_call (ea_d (ed_var rfl) (ea_d (ed_var rfl) ea_nil)) (.mk g b q s h hs)) (ed_call (ea_d (ed_var rfl) (ea_d (ed_var rfl) ea_nil)) (.mk g' b q s' h' hs')) (h.kgood hs).good (h'.kgood hs').good (by omega) (by omega) (h.ksz s) (h'.ksz s') (by omega)) rfl
include G T CV in
theorem has_fair_toll (h_game_curve : Has P w K mg base "game_curve" 50 ["place", "discount"] (spR K C RGc)) (h_amount_at : Has P w K mg base "amount_at" 43 ["curve", "excess"] (spR K C RAm)) (F : Def K mg "fair_toll" s_fair_toll ["first", "second", "discount"]) : Has P w K mg base "fair_toll" 51 ["first", "second", "discount"] (spR K C RFt) := by
  obtain ⟨f, fd, F, m, b'⟩ := F
  have h_subtract := T.sub
  have h_compare := T.cmp
  have h_multiply := T.mul
  refine has_of F m b' (fn_ok F sc_fair_toll (fun as z h => by cases h; rfl) fun cdv A outer s0 H Q E hr as z h => ?_)
  obtain ⟨g, g', b, q, s, s', h, h', hq, hs, hs'⟩ := h
  refine ⟨_, (pss_cons (ps_set (i := 3) sc_fair_toll.nd rfl (.inl rfl) (pe_has h_game_curve (hr.mono (by decide)) (by rfl) (pa_cons (pv 0) (pa_cons (pv 2) pa_nil))))
    (pss_cons (ps_set (i := 4) sc_fair_toll.nd rfl (.inl rfl) (pe_has h_game_curve (hr.mono (by decide)) (by rfl) (pa_cons (pv 1) (pa_cons (pv 2) pa_nil))))
    (pss_cons (ps_set (i := 5) sc_fair_toll.nd rfl (.inl rfl) pe_non)
    (pss_cons (ps_for PassesOwn.never rfl (pi_tup (pe_op op_catA (pe_fld (pv 3) rfl) (pe_fld (pv 4) rfl))) (pg_tup rfl (pgs_cons (pg_name (i := 6) sc_fair_toll.nd rfl (.inl rfl)) (pgs_cons (pg_name (i := 7) sc_fair_toll.nd rfl (.inl rfl)) pgs_nil))) (pss_cons (ps_set (i := 8) sc_fair_toll.nd rfl (.inl rfl) (pe_has h_subtract (hr.mono (by decide)) (by rfl) (pa_cons (pv 7) (pa_cons (pv 6) pa_nil))))
    (pss_cons (ps_set (i := 9) sc_fair_toll.nd rfl (.inl rfl) (pe_has h_subtract (hr.mono (by decide)) (by rfl) (pa_cons (pe_has h_amount_at (hr.mono (by decide)) (by rfl) (pa_cons (pv 3) (pa_cons (pv 8) pa_nil))) (pa_cons (pe_has h_amount_at (hr.mono (by decide)) (by rfl) (pa_cons (pv 4) (pa_cons (pv 8) pa_nil))) pa_nil))))
    (pss_one (ps_if (PW.pt (pw_or (pt_cmpR op_isN (pv 5) pe_non (nomark _)) (pw_or1 (pt_cmpR op_lt (pe_has h_compare (hr.mono (by decide)) (by rfl) (pa_cons (pv 9) (pa_cons (pv 5) pa_nil))) pe_int (nomark _))))) (pss_one (ps_set (i := 5) sc_fair_toll.nd rfl (.inl rfl) (pv 9))) pss_nil)))))
    (pss_one (ps_ret (pe_has h_multiply (hr.mono (by decide)) (by rfl) (pa_cons (pe_has h_subtract (hr.mono (by decide)) (by rfl) (pa_cons (pe_glob (v := .ref o3) (by rfl) G.ONE_tolls rfl) (pa_cons (pv 2) pa_nil))) (pa_cons (pv 5) pa_nil))))))))), ?_⟩
  have l1 := h.klen s
  have l2 := h'.klen s'
  have k1 := h.ksz s
  have k2 := h'.ksz s'
  have g1 := h.kgood hs
  have g2 := h'.kgood hs'
  have bs := h.bsz
  refine st_seq (st_asg (ed_call (ea_d (ed_var rfl) (ea_d (ed_var rfl) ea_nil)) (.mk g b q s h hs)) (lt_ok rfl) ?_)
  refine st_seq (st_asg (ed_call (ea_d (ed_var rfl) (ea_d (ed_var rfl) ea_nil)) (.mk g' b q s' h' hs')) (lt_ok rfl) ?_)
  refine st_seq (st_asg ed_non (lt_ok rfl) ?_)
  unfold fairOf leadOf
  generalize gkn g b s = l at l1 k1 g1 ⊢
  generalize gkn g' b s' = l' at l2 k2 g2 ⊢
  have lm : ∀ p ∈ l ++ l', Sz (2400 + 11 * q) p.1 ∧ Sz (2400 + 11 * q) p.2 := fun p hp => by
    rcases List.mem_append.mp hp with e | e
    · exact k1.memb e
    · exact k2.memb e
  have ls := lead_sz g1 g2 k1 k2
  have ll : (l ++ l').length ≤ 8 := by rw [List.length_append]; omega
  have ln : l ++ l' ≠ [] := fun e => g1.good.ne (List.append_eq_nil_iff.mp e).1
  generalize hL : l ++ l' = L at lm ll ln
  refine st_seq (st_forT (ds := L.map kn) (n := 8) (f := fun d r => match d with | .tup [x, y] => (r.set 6 (.dat x)).set 7 (.dat y) | _ => r) (fun i r' => ∃ y6 y7 y8 y9, r' = [.dat (plD g s), .dat (plD g' s'), .dat (rat b), .dat (curD l), .dat (curD l'), .dat (optR ((L.take i).foldl (leadStep l l') none)), y6, y7, y8, y9])
    (ed_is (ed_catT (ed_knots (ed_var rfl) CV.k.cls CV.k.nk) (ed_knots (ed_var rfl) CV.k.cls CV.k.nk) (by rw [List.length_map, List.length_map]; omega)) (by rw [← hL, List.map_append])) ⟨_, _, _, _, rfl⟩ (fun i r' ⟨_, _, _, _, e⟩ => by rw [e]; exact Nat.le_of_ble_eq_true rfl) (fun i d hd => ?_) (fun i d r' hi ⟨y6, y7, y8, y9, e⟩ => ?_) fun r' ⟨y6, y7, y8, y9, e⟩ => ?_)
  · rw [List.getElem?_map] at hd
    obtain ⟨p, h1, rfl⟩ := Option.map_eq_some_iff.mp hd
    exact tg_pair 6 7 8 (by decide) (by decide)
  · subst e
    rw [List.getElem?_map] at hi
    obtain ⟨p, hp, rfl⟩ := Option.map_eq_some_iff.mp hi
    have pz := lm p (List.mem_of_getElem? hp)
    have ts : L.take (i + 1) = L.take i ++ [p] := by rw [List.take_add_one, hp] <;> rfl
    have fs : (L.take (i + 1)).foldl (leadStep l l') none = leadStep l l' ((L.take i).foldl (leadStep l l') none) p := by rw [ts, List.foldl_append] <;> rfl
    have az := ls (L.take i) none (fun x hx => lm x (List.mem_of_mem_take hx)) fun _ z => nomatch z
    rw [fs]
    generalize (L.take i).foldl (leadStep l l') none = acc at az ⊢
    have xz := pz.2.sub pz.1
    have a1 := amount_sz g1 k1 xz
    have a2 := amount_sz g2 k2 xz
    have aa := ahead_sz g1 g2 k1 k2 xz
    refine st_seq (st_asg (e_sub (ed_var rfl) (ed_var rfl) (pz.2.big (by omega)) (pz.1.big (by omega))) (lt_ok rfl) ?_)
    refine st_seq (st_asg (d := rat (ahead l l' (p.2 - p.1))) (e_sub (ed_call (ea_d (ed_var rfl) (ea_d (ed_var rfl) ea_nil)) (.mk l (p.2 - p.1) (2400 + 11 * q) _ g1 (by omega) k1 xz (by omega) (by omega))) (ed_call (ea_d (ed_var rfl) (ea_d (ed_var rfl) ea_nil)) (.mk l' (p.2 - p.1) (2400 + 11 * q) _ g2 (by omega) k2 xz (by omega) (by omega))) (a1.big (by omega)) (a2.big (by omega))) (lt_ok rfl) ?_)
    cases acc with
    | none =>
      exact st_if (b := true || false) (tt_or (b := false) (tt_test (ed_isN (d := .non) (ed_var (by rfl)) ed_non)) fun z => nomatch z) (fun _ => st_asg (ed_var rfl) (lt_ok rfl) ⟨_, _, _, _, rfl⟩) fun z => nomatch z
    | some c =>
      refine st_if (b := false || decide (ahead l l' (p.2 - p.1) < c)) (tt_or (tt_test (ed_isN (d := rat c) (ed_var (by rfl)) ed_non)) fun _ => t_lt (ed_var rfl) (ed_var rfl) (aa.big (by omega)) ((az c rfl).big (by omega))) (fun hc => ?_) fun hc => ?_
      · have hc : ahead l l' (p.2 - p.1) < c := of_decide_eq_true hc
        refine st_asg (ed_var rfl) (lt_ok rfl) ?_
        have e : leadStep l l' (some c) p = some (ahead l l' (p.2 - p.1)) := if_pos hc
        rw [e]
        exact ⟨_, _, _, _, rfl⟩
      · have hc : ¬ ahead l l' (p.2 - p.1) < c := of_decide_eq_false hc
        refine st_next ?_
        have e : leadStep l l' (some c) p = some c := if_neg hc
        show ∃ _ _ _ _, _
        rw [e]
        exact ⟨_, _, _, _, rfl⟩
  · subst e
    rw [List.length_map, List.take_length]
    have az := ls L none lm fun _ z => nomatch z
    have hsome : ∃ c, L.foldl (leadStep l l') none = some c := by
      have go : ∀ (r : List Kn) (c : Rat), ∃ d, r.foldl (leadStep l l') (some c) = some d := fun r => by
        induction r with
        | nil => exact fun c => ⟨c, rfl⟩
        | cons p r ih =>
          intro c
          rw [List.foldl_cons]
          unfold leadStep
          dsimp only
          by_cases z : ahead l l' (p.2 - p.1) < c
          · rw [if_pos z]; exact ih _
          · rw [if_neg z]; exact ih _
      cases L with
      | nil => exact absurd rfl ln
      | cons p r => exact go r _
    obtain ⟨c, hc⟩ := hsome
    rw [hc] at az ⊢
    exact st_ret (e_mul (e_sub (e_glob fun H => G.o3 C H) (ed_var rfl) (Sz.one.big (by omega)) (bs.big (by omega))) (ed_var rfl) ((Sz.one.sub bs).big (by omega)) ((az c rfl).big (by omega))) rfl
theorem ord_filter {g : Gm} {b m : Rat} (F : Fam g b (lvX g b) (lvY g b)) : (ordTo g b (lvX g b) (lvY g b) g.n).filter (fun p => decide (m < p.2)) = ordTo g b (lvX g b) (lvY g b) (cnt g b (lvX g b) (lvY g b) m) := by
  have hc : cnt g b (lvX g b) (lvY g b) m ≤ g.n := cntTo_le m _
  have e := filt_range (p := (fun p : Nat × Rat => decide (m < p.2)) ∘ pk g b (lvX g b) (lvY g b)) (c := cnt g b (lvX g b) (lvY g b) m) (n := g.n) fun i hi => decide_eq_decide.mpr (cnt_mem F hi)
  rw [ordTo_eq, ordTo_eq, List.filter_map, e, Nat.min_eq_right hc]
abbrev tabD (g : Gm) (b m : Rat) (S : List Nat) (j : Nat) : List Dat := (List.range g.n).map fun (t : Nat) => rat (if t ∈ S.take j then lvX g b S t + lvY g b S t * m else m)
theorem tab_set {g : Gm} {b m : Rat} {S : List Nat} (hn : S.Nodup) {j : Nat} (hj : j < S.length) : (tabD g b m S j).set (S.getD j 0) (rat (lvX g b S (S.getD j 0) + lvY g b S (S.getD j 0) * m)) = tabD g b m S (j + 1) := by
  refine List.ext_getElem (by rw [List.length_set, List.length_map, List.length_map]) fun t h1 h2 => ?_
  rw [List.getElem_set, List.getElem_map, List.getElem_map, List.getElem_range, take_get hj]
  by_cases e : S.getD j 0 = t
  · rw [if_pos e, ← e, if_pos (List.mem_append_right _ (List.mem_singleton.mpr rfl))]
  · rw [if_neg e]
    by_cases c : t ∈ S.take j
    · rw [if_pos c, if_pos (List.mem_append_left _ c)]
    · rw [if_neg c, if_neg fun z => by rcases List.mem_append.mp z with z | z; exact c z; exact e (List.mem_singleton.mp z).symm]
include G T in
theorem has_stop_table (h_index_order : Has P w K mg base "index_order" 48 ["game", "discount"] (spR K C RIo)) (h_leave_values : Has P w K mg base "leave_values" 45 ["game", "inside", "discount"] (spR K C RLv)) (F : Def K mg "stop_table" s_stop_table ["game", "amount", "discount"]) : Has P w K mg base "stop_table" 49 ["game", "amount", "discount"] (spR K C RSt) := by
  obtain ⟨f, fd, F, m', b'⟩ := F
  have h_add := T.add
  have h_multiply := T.mul
  have h_compare := T.cmp
  refine has_of F m' b' (fn_ok F sc_stop_table (fun as z h => by cases h; rfl) fun cdv A outer s0 H Q E hr as z h => ?_)
  obtain ⟨g, b, m, q, j, h, mz, hj⟩ := h
  refine ⟨_, (pss_cons (ps_setLc (i := 3) (own := [("reward", 10)]) (g := (gName 10)) rfl sc_stop_table.nd rfl rfl (sw_true rfl rfl rfl (by decide +kernel)) (pi_tup (pe_ix (ixT_of (K := K) rfl) (pv 0) pe_int (fun _ _ => rfl))) (blkOk_by (N := ["game", "amount", "discount", "table", "going", "inside", "values", "at", "earned", "factor", "reward", "state", "index"]) (sc := defScope s_stop_table) (by decide +kernel)) (fun _ _ _ _ _ => (pg_name (i := 10) sc_stop_table.nd rfl (.inl rfl))) (fun _ _ _ _ _ => pts_nil) (fun _ _ _ _ _ => (pv 1)))
    (pss_cons (ps_setLc (i := 4) (own := [("state", 11), ("index", 12)]) (g := (gTup K 2 (gCons (gName 11) (gCons (gName 12) gNil)))) rfl sc_stop_table.nd rfl rfl (sw_true rfl rfl rfl (by decide +kernel)) (pi_tup (pe_has h_index_order (hr.mono (by decide)) (by rfl) (pa_cons (pv 0) (pa_cons (pv 2) pa_nil)))) (blkOk_by (N := ["game", "amount", "discount", "table", "going", "inside", "values", "at", "earned", "factor", "reward", "state", "index"]) (sc := defScope s_stop_table) (by decide +kernel)) (fun _ _ _ _ _ => (pg_tup rfl (pgs_cons (pg_name (i := 11) sc_stop_table.nd rfl (.inl rfl)) (pgs_cons (pg_name (i := 12) sc_stop_table.nd rfl (.inl rfl)) pgs_nil)))) (fun _ _ _ _ _ => (pts_one (pt_cmpR op_gt (pe_has h_compare (hr.mono (by decide)) (by rfl) (pa_cons (pv 12) (pa_cons (pv 1) pa_nil))) pe_int (nomark _)))) (fun _ _ _ _ _ => (pv 11)))
    (pss_cons (ps_set (i := 5) sc_stop_table.nd rfl (.inl rfl) (pe_callTy cr_tup (by rfl) G.tuple b_tuple (pa_cons (pe_callB cr_sorted (by rfl) G.sorted b_sorted (pa_cons (pv 4) pa_nil)) pa_nil)))
    (pss_cons (ps_set (i := 6) sc_stop_table.nd rfl (.inl rfl) (pe_has h_leave_values (hr.mono (by decide)) (by rfl) (pa_cons (pv 0) (pa_cons (pv 5) (pa_cons (pv 2) pa_nil)))))
    (pss_cons (ps_for PassesOwn.never rfl (pi_range1 (by rfl) G.range (pa_cons (pe_callB cr_len (by rfl) G.len PySem.boot_len (pa_cons (pv 5) pa_nil)) pa_nil)) (pg_name (i := 7) sc_stop_table.nd rfl (.inl rfl)) (pss_cons (ps_asg (pe_ix ix_tup (pv 6) (pv 7) (fun _ _ => rfl)) (pg_tup (by rfl) (pgs_cons (pg_name (i := 8) sc_stop_table.nd rfl (.inl rfl)) (pgs_cons (pg_name (i := 9) sc_stop_table.nd rfl (.inl rfl)) pgs_nil))))
    (pss_one (ps_asg (pe_has h_add (hr.mono (by decide)) (by rfl) (pa_cons (pv 8) (pa_cons (pe_has h_multiply (hr.mono (by decide)) (by rfl) (pa_cons (pv 9) (pa_cons (pv 1) pa_nil))) pa_nil))) (pg_sub (pv 3) (pe_ix ix_tup (pv 5) (pv 7) (fun _ _ => rfl)) set_list)))))
    (pss_one (ps_ret (pe_callTy cr_tup (by rfl) G.tuple b_tuple (pa_cons (pv 3) pa_nil))))))))), ?_⟩
  have h4 := h.n4
  have hq := h.q
  have gl : g.rs.length = g.n := rfl
  have hof := ord_filter (m := m) h.fam
  have hcn : cnt g b (lvX g b) (lvY g b) m ≤ g.n := cntTo_le m _
  have hfv : ∀ s, fval g b (lvX g b) (lvY g b) m s = Gk g b (lvX g b) (lvY g b) (cnt g b (lvX g b) (lvY g b) m) m s := fun s => rfl
  generalize cnt g b (lvX g b) (lvY g b) m = cn at hof hcn hfv
  have hfg : ∀ s, fval g b (lvX g b) (lvY g b) m s = if s ∈ Ss g b (lvX g b) (lvY g b) cn then lvX g b (Ss g b (lvX g b) (lvY g b) cn) s + lvY g b (Ss g b (lvX g b) (lvY g b) cn) s * m else m := fun s => by rw [hfv] <;> rfl
  have Sn : (Ss g b (lvX g b) (lvY g b) cn).Nodup := Ss_nodup _
  have Sl : ∀ s ∈ Ss g b (lvX g b) (lvY g b) cn, s < g.n := Ss_lt
  have e2 : ((((ordTo g b (lvX g b) (lvY g b) g.n).map pkD).filter fun d => match d with | .tup [_, .tup [.int x, .int y]] => decide (m < Rat.divInt x y) | _ => false).map fun d => match d with | .tup [x, _] => x | _ => .non) = (((ordTo g b (lvX g b) (lvY g b) cn).map (·.1)).map fun (s : Nat) => (s : Int)).map Dat.int := by
    have e : ((ordTo g b (lvX g b) (lvY g b) g.n).map pkD).filter (fun d => match d with | .tup [_, .tup [.int x, .int y]] => decide (m < Rat.divInt x y) | _ => false) = (ordTo g b (lvX g b) (lvY g b) cn).map pkD := by
      rw [List.filter_map, ← hof]
      congr 1
      refine List.filter_congr fun p _ => ?_
      show decide (m < Rat.divInt p.2.num (p.2.den : Int)) = decide (m < p.2)
      rw [Rat.num_divInt_den]
    rw [e, List.map_map, List.map_map, List.map_map] <;> rfl
  have so : ∀ ns : List Int, ns.Perm (((ordTo g b (lvX g b) (lvY g b) cn).map (·.1)).map fun (s : Nat) => (s : Int)) → ns.Pairwise (· ≤ ·) → ns = (Ss g b (lvX g b) (lvY g b) cn).map fun (s : Nat) => (s : Int) := fun ns hp ho =>
    sort_is (fst_nodup cn hcn) (fun x hx => by
      rw [ordTo_eq, List.map_map] at hx
      obtain ⟨j, hj, rfl⟩ := List.mem_map.mp hx
      exact (pk_spec (g := g) (b := b) (XS := lvX g b) (YS := lvY g b) (k := j) (by have := List.mem_range.mp hj; omega)).1) hp ho
  generalize hS : Ss g b (lvX g b) (lvY g b) cn = S at Sn Sl hfg so
  have gS : GS g b S q := h.set Sn Sl
  have S4 := gS.s4
  obtain ⟨de, rh, ee, Bb⟩ := h.gb
  refine st_seq (st_asgN (ds := tabD g b m S 0) (en_is (en_lcT0 (fun _ => rat m) (e_ix (n := 0) (ds := [.tup (g.rs.map rat), .tup (g.ms.map rwD)]) (ed_var rfl) ed_int rfl rfl) (by rw [List.length_map]; omega) (lt_ok rfl) fun i d hd => ed_var rfl) ?_) (lt_ok rfl) fun p3 => ?_)
  · refine List.ext_getElem (by rw [List.length_map, List.length_map, List.length_map, List.length_range, gl]) fun t h1 h2 => ?_
    rw [List.getElem_map, List.getElem_map]
    show rat m = rat (if _ then _ else _)
    have no : ∀ x : Nat, x ∉ S.take 0 := fun x z => absurd (show x ∈ ([] : List Nat) from z) List.not_mem_nil
    rw [if_neg (no _)]
  refine st_seq (st_asgN (en_is (en_lcT (fun d => match d with | .tup [_, .tup [.int x, .int y]] => decide (m < Rat.divInt x y) | _ => false) (fun d => match d with | .tup [x, _] => x | _ => .non) (fun d r => match d with | .tup [x, y] => (r.set 11 (.dat x)).set 12 (.dat y) | _ => r) 13
    (ed_call (ea_d (ed_var rfl) (ea_d (ed_var rfl) ea_nil)) (.mk g b q h)) (by rw [List.length_map, ordTo_len]; omega) (Nat.le_of_ble_eq_true rfl) (fun i d hd => ?_) (fun i d hd => ?_) fun i d hd _ => ?_) e2) (lt_ok rfl) fun p4 => ?_)
  · rw [List.getElem?_map] at hd
    obtain ⟨p, h1, rfl⟩ := Option.map_eq_some_iff.mp hd
    exact ctg_pair 11 12 13 (by decide) (by decide) (by decide)
  · rw [List.getElem?_map] at hd
    obtain ⟨p, h1, rfl⟩ := Option.map_eq_some_iff.mp hd
    have pz : Sz (1909 + 9 * q) p.2 := by
      obtain ⟨k1, k2⟩ := List.getElem?_eq_some_iff.mp h1
      rw [ordTo_len] at k1
      have := ordTo_get (g := g) (b := b) (XS := lvX g b) (YS := lvY g b) k1
      rw [h1] at this
      rw [Option.some.inj this]
      exact h.ciz k1
    show EvTt K C _ _ (decide (m < Rat.divInt p.2.num (p.2.den : Int)))
    rw [Rat.num_divInt_den]
    exact t_gt (ed_var rfl) (ed_var rfl) (pz.big (by omega)) (mz.big (by omega))
  · rw [List.getElem?_map] at hd
    obtain ⟨p, h1, rfl⟩ := Option.map_eq_some_iff.mp hd
    exact ed_var rfl
  refine st_seq (st_asg (d := stD S) (ed_is (ed_tupL (el_of_n (en_sortL (el_own rfl) (by rw [List.length_map, List.length_map, ordTo_len]; omega) so))) (by rw [List.map_map] <;> rfl)) (lt_ok rfl) ?_)
  refine st_seq (st_asg (ed_call (ea_d (ed_var rfl) (ea_d (ed_var rfl) (ea_d (ed_var rfl) ea_nil))) (.mk g b S de rh h.ok h.hb Sn Sl Bb (by omega))) (lt_ok rfl) ?_)
  refine st_seq (st_forR (N := S.length) (fun i r' => ∃ y4 y7 y8 y9 y10 y11 y12, r' = [.dat (gmD g), .dat (rat m), .dat (rat b), .own p3 (tabD g b m S i), y4, .dat (stD S), .dat (lvRes g b S), y7, y8, y9, y10, y11, y12]) (ea_d (ed_is (ed_lenT (ed_var rfl)) (by rw [List.length_map])) ea_nil) (by omega) ⟨_, _, _, _, _, _, _, rfl⟩ (fun i r' ⟨_, _, _, _, _, _, _, e⟩ => by rw [e]; exact lt_ok rfl) (fun i r' hi ⟨y4, y7, y8, y9, y10, y11, y12, e⟩ => ?_) fun r' ⟨y4, y7, y8, y9, y10, y11, y12, e⟩ => ?_)
  · subst e
    obtain ⟨ix, im⟩ := idx_getD Sn hi
    have ts := tab_set (g := g) (b := b) (m := m) Sn hi
    have sg : S[i]? = some (S.getD i 0) := getD_of hi
    generalize S.getD i 0 = s at ix im ts sg
    obtain ⟨xz, yz⟩ := gS.xy im
    refine st_seq (st_asg2 (e_ix (n := i) (ed_var rfl) (ed_var rfl) rfl (mget sg)) (lt_ok rfl) (lt_ok rfl) ?_)
    refine st_setI (n := s) rfl (e_add (ed_var rfl) (e_mul (ed_var rfl) (ed_var rfl) (yz.big (by omega)) (mz.big (by omega))) (xz.big (by omega)) ((yz.mul mz).big (by omega))) (e_ix (n := i) (ed_var rfl) (ed_var rfl) rfl (mget sg)) (by rw [List.length_map, List.length_range]; exact Sl s im) ?_
    rw [ts]
    exact ⟨_, _, _, _, _, _, _, rfl⟩
  · subst e
    refine st_ret (ed_tupL (el_own rfl)) ?_
    congr 2
    refine List.map_congr_left fun t _ => ?_
    rw [hfg t, List.take_length]
end
end AW

set_option Elab.async false
set_option linter.all false
set_option maxRecDepth 100000
set_option maxHeartbeats 4000000
/-! the walk: the law's first defs -/
namespace AW
open PySem PySem.Spec PyProof.Rows L2 AC
/-! _law_cell -/
abbrev s_law_cell : Stmt := topS 59
theorem sc_law_cell : FnScope ["_law_script", "_law_k"] ["_law_script", "_law_k"] (defScope s_law_cell) := ⟨rfl, rfl, rfl, by decide +kernel, rfl, by decide +kernel, by decide +kernel⟩
-- slots: 0:_law_script 1:_law_k
/-! _law_draws -/
abbrev s_law_draws : Stmt := topS 60
theorem sc_law_draws : FnScope ["_law_cell_here", "_law_count", "_law_rest", "_law_digits", "_law_seed", "_law_draws_here", "_law_k", "_law_mixed"] ["_law_cell_here", "_law_count"] (defScope s_law_draws) := ⟨rfl, rfl, rfl, by decide +kernel, rfl, by decide +kernel, by decide +kernel⟩
-- slots: 0:_law_cell_here 1:_law_count 2:_law_rest 3:_law_digits 4:_law_seed 5:_law_draws_here 6:_law_k 7:_law_mixed
/-! _law_low -/
abbrev s_law_low : Stmt := topS 61
theorem sc_law_low : FnScope ["_law_n", "_law_d", "_law_a", "_law_b", "_law_c"] ["_law_n", "_law_d"] (defScope s_law_low) := ⟨rfl, rfl, rfl, by decide +kernel, rfl, by decide +kernel, by decide +kernel⟩
-- slots: 0:_law_n 1:_law_d 2:_law_a 3:_law_b 4:_law_c
/-! _law_is_integer -/
abbrev s_law_is_integer : Stmt := topS 62
theorem sc_law_is_integer : FnScope ["_law_value_here"] ["_law_value_here"] (defScope s_law_is_integer) := ⟨rfl, rfl, rfl, by decide +kernel, rfl, by decide +kernel, by decide +kernel⟩
-- slots: 0:_law_value_here
/-! _law_is_ratio -/
abbrev s_law_is_ratio : Stmt := topS 63
theorem sc_law_is_ratio : FnScope ["_law_value_here"] ["_law_value_here"] (defScope s_law_is_ratio) := ⟨rfl, rfl, rfl, by decide +kernel, rfl, by decide +kernel, by decide +kernel⟩
-- slots: 0:_law_value_here
/-! _law_ratios -/
abbrev s_law_ratios : Stmt := topS 64
theorem sc_law_ratios : FnScope ["_law_values", "_law_count", "_law_value_here"] ["_law_values", "_law_count"] (defScope s_law_ratios) := ⟨rfl, rfl, rfl, by decide +kernel, rfl, by decide +kernel, by decide +kernel⟩
-- slots: 0:_law_values 1:_law_count 2:_law_value_here
/-! _law_add -/
abbrev s_law_add : Stmt := topS 65
theorem sc_law_add : FnScope ["_law_a", "_law_b"] ["_law_a", "_law_b"] (defScope s_law_add) := ⟨rfl, rfl, rfl, by decide +kernel, rfl, by decide +kernel, by decide +kernel⟩
-- slots: 0:_law_a 1:_law_b
/-! _law_sub -/
abbrev s_law_sub : Stmt := topS 66
theorem sc_law_sub : FnScope ["_law_a", "_law_b"] ["_law_a", "_law_b"] (defScope s_law_sub) := ⟨rfl, rfl, rfl, by decide +kernel, rfl, by decide +kernel, by decide +kernel⟩
-- slots: 0:_law_a 1:_law_b
/-! _law_mul -/
abbrev s_law_mul : Stmt := topS 67
theorem sc_law_mul : FnScope ["_law_a", "_law_b"] ["_law_a", "_law_b"] (defScope s_law_mul) := ⟨rfl, rfl, rfl, by decide +kernel, rfl, by decide +kernel, by decide +kernel⟩
-- slots: 0:_law_a 1:_law_b
/-! _law_div -/
abbrev s_law_div : Stmt := topS 68
theorem sc_law_div : FnScope ["_law_a", "_law_b"] ["_law_a", "_law_b"] (defScope s_law_div) := ⟨rfl, rfl, rfl, by decide +kernel, rfl, by decide +kernel, by decide +kernel⟩
-- slots: 0:_law_a 1:_law_b
/-! _law_less -/
abbrev s_law_less : Stmt := topS 69
theorem sc_law_less : FnScope ["_law_a", "_law_b"] ["_law_a", "_law_b"] (defScope s_law_less) := ⟨rfl, rfl, rfl, by decide +kernel, rfl, by decide +kernel, by decide +kernel⟩
-- slots: 0:_law_a 1:_law_b
/-! _law_fraction -/
abbrev s_law_fraction : Stmt := topS 70
theorem sc_law_fraction : FnScope ["_law_draw"] ["_law_draw"] (defScope s_law_fraction) := ⟨rfl, rfl, rfl, by decide +kernel, rfl, by decide +kernel, by decide +kernel⟩
-- slots: 0:_law_draw
/-! _law_discount -/
abbrev s_law_discount : Stmt := topS 71
theorem sc_law_discount : FnScope ["_law_draw", "_law_q"] ["_law_draw"] (defScope s_law_discount) := ⟨rfl, rfl, rfl, by decide +kernel, rfl, by decide +kernel, by decide +kernel⟩
-- slots: 0:_law_draw 1:_law_q
def cellOf (ns : List Int) (k : Nat) : Int := if k < ns.length then ns.getD k 0 else 5 * (k : Int) + 3
abbrev lntD (n : Int) : Dat := .int n
inductive RCell : List Ar → Ar → Prop
  | mk (ns : List Int) (k : Nat) : k ≤ 100 → RCell [.lst (ns.map lntD), .dat (intD k)] (.dat (.int (cellOf ns k)))
def mixOne (seed : Int) (k : Nat) : Int := (seed * 48271 + ((k : Int) + 1) * 69621 + 11).fmod 2147483647
def mixTwo (m : Int) (k : Nat) : Int := (m * m + 40692 * ((k : Int) + 3)).fmod 2147483399
def mixOf (seed : Int) (k : Nat) : Int := ((mixTwo (mixOne seed k) k).fdiv 64).fmod 5040
def drawStep (c : Int) (acc : Int × List Int) (k : Nat) : Int × List Int :=
  if decide ((10 : Int) ^ 18 ≤ (c.natAbs : Int)) && decide (0 < acc.1) then (acc.1.fdiv 5040, acc.2 ++ [acc.1.fmod 5040]) else (acc.1, acc.2 ++ [mixOf (c.natAbs : Int) k])
def drawsTo (c : Int) : Nat → Int × List Int
  | 0 => ((c.natAbs : Int), [])
  | k + 1 => drawStep c (drawsTo c k) k
def draws (c : Int) (n : Nat) : List Int := (drawsTo c n).2
theorem fmod_range {i : Int} {m : Int} (h : 0 < m) : 0 ≤ i.fmod m ∧ i.fmod m < m := ⟨Int.fmod_nonneg_of_pos i h, Int.fmod_lt_of_pos i h⟩
theorem drawsTo_len (c : Int) : ∀ n, (drawsTo c n).2.length = n
  | 0 => rfl
  | n + 1 => by
    show (drawStep c (drawsTo c n) n).2.length = _
    unfold drawStep
    by_cases h : (decide ((10 : Int) ^ 18 ≤ (c.natAbs : Int)) && decide (0 < (drawsTo c n).1)) = true
    · rw [if_pos h]; show ((drawsTo c n).2 ++ _).length = _; rw [List.length_append, drawsTo_len c n] <;> rfl
    · rw [if_neg h]; show ((drawsTo c n).2 ++ _).length = _; rw [List.length_append, drawsTo_len c n] <;> rfl
theorem drawsTo_range (c : Int) : ∀ n, ∀ d ∈ (drawsTo c n).2, 0 ≤ d ∧ d < 5040
  | 0, d, h => by cases h
  | n + 1, d, h => by
    have h : d ∈ (drawStep c (drawsTo c n) n).2 := h
    unfold drawStep at h
    by_cases q : (decide ((10 : Int) ^ 18 ≤ (c.natAbs : Int)) && decide (0 < (drawsTo c n).1)) = true
    · rw [if_pos q] at h
      rcases List.mem_append.mp h with e | e
      · exact drawsTo_range c n d e
      · rw [List.mem_singleton] at e
        rw [e]
        exact fmod_range (by decide)
    · rw [if_neg q] at h
      rcases List.mem_append.mp h with e | e
      · exact drawsTo_range c n d e
      · rw [List.mem_singleton] at e
        rw [e]
        exact fmod_range (by decide)
def Fit (c : Int) : Prop := c.natAbs < 2 ^ 2000000
inductive RDraw : List Ar → Ar → Prop
  | mk (c : Int) (n : Nat) : n ≤ 100 → Fit c → RDraw [.dat (.int c), .dat (intD n)] (.lst ((draws c n).map lntD))
inductive RLow : List Ar → Ar → Prop
  | mk (n d : Int) (q : Rat) : d ≠ 0 → Rat.divInt n d = q → RLow [.dat (.int n), .dat (.int d)] (.dat (rat q))
inductive RIsI : List Ar → Ar → Prop
  | mk (n : Int) : RIsI [.dat (.int n)] (.dat (.bl true))
inductive RIsR : List Ar → Ar → Prop
  | mk (q : Rat) : RIsR [.dat (rat q)] (.dat (.bl true))
inductive RRats : List Ar → Ar → Prop
  | mk (qs : List Rat) (n : Nat) : qs.length = n → n ≤ 900 → RRats [.dat (rowD qs), .dat (intD n)] (.dat (.bl true))
inductive RLess : List Ar → Ar → Prop
  | mk (a b : Rat) : Big a → Big b → RLess [.dat (rat a), .dat (rat b)] (.dat (.bl (decide (a < b))))
def fracOf (d : Int) : Rat := Rat.divInt (d.fmod 13 - 6) (1 + (d.fdiv 13).fmod 4)
def discOf (d : Int) : Rat := Rat.divInt ((d.fdiv 9).fmod (2 + d.fmod 9)) (2 + d.fmod 9)
inductive RFrac : List Ar → Ar → Prop
  | mk (d : Int) : RFrac [.dat (.int d)] (.dat (rat (fracOf d)))
inductive RDisc : List Ar → Ar → Prop
  | mk (d : Int) : RDisc [.dat (.int d)] (.dat (rat (discOf d)))
theorem low_pair {n d : Int} (hd : d ≠ 0) {g : Int} (hg : g = ((Nat.gcd n.natAbs d.natAbs : Nat) : Int)) : (if d < 0 then (0 - n) else n).fdiv g = (Rat.divInt n d).num ∧ (if d < 0 then (0 - d) else d).fdiv g = ((Rat.divInt n d).den : Int) := by
  subst hg
  by_cases h : d < 0
  · rw [if_pos h, if_pos h]
    have e := mk_neg (n := n) h
    have f : ∀ a g : Int, a.fdiv (-g) = (0 - a).fdiv g := fun a g => by
      have := Int.neg_fdiv_neg (-a) g
      rw [Int.neg_neg] at this
      rw [this, Int.zero_sub]
    rw [f, f] at e
    exact e
  · rw [if_neg h, if_neg h]
    exact mk_pos (n := n) (by omega)
section
variable {K : Frg} {C : Addr} {r : List Sd} {te : TE}
theorem ed_isi {c : String} {d : Dat} {b : Bool} (h : EvD K C te r d) (hb : ∀ H x, Im K C H x d → ∃ t, TyX K H x t ∧ PySem.W.kitOne K t (.type c) = some b) : EvD K C (tCB (rIsi K) (tCons te (tCons (tC (.ty c)) tNil))) r (.bl b) := fun B H σ E Q q =>
  h B H σ E _ fun x H1 e1 hx => by
    obtain ⟨t, h1, h2⟩ := hb H1 x hx
    exact ⟨x, .ty c, t, .type c, b, rfl, .ty c, h1, h2, q _ H1 e1 (.bl _)⟩
theorem ty_int {H : Hp} {x : V} {i : Int} (h : Im K C H x (.int i)) : TyX K H x (.type "int") := by
  rw [im_int h]
  exact .base (.int i)
theorem ty_tup {H : Hp} {x : V} {ds : List Dat} (h : Im K C H x (.tup ds)) : TyX K H x (.type "tuple") := by
  obtain ⟨a, xs, rfl, h1, _⟩ := im_tup h
  rcases h1 with (h1 | ⟨o, h1⟩) | ⟨o, its, n, h1, h2, _⟩
  · exact .base (.tup h1)
  · exact .fTuple h1
  · exact .kTuple h1 h2
end
section
variable {P : Program} {w : World} {K : Frg} {C : Addr} {mg : Str → Option Value} {base : Heap} {z1 o1 z2 o2 z3 o3 : Addr} (G : Glo K mg base z1 o1 z2 o2 z3 o3) (hP : P.given.tree = none)
include G in
theorem has_cell (F : Def K mg "_law_cell" s_law_cell ["_law_script", "_law_k"]) : Has P w K mg base "_law_cell" 40 ["_law_script", "_law_k"] (spR K C RCell) := by
  obtain ⟨f, fd, F, m, b'⟩ := F
  refine has_of F m b' (fn_ok F sc_law_cell (fun as z h => by cases h; rfl) fun cdv A outer s0 H Q E hr as z h => ?_)
  obtain ⟨ns, k, hk⟩ := h
  refine ⟨_, (pss_cons (ps_if (pt_cmpR op_lt (pv 1) (pe_callB cr_len (by rfl) G.len PySem.boot_len (pa_cons (pv 0) pa_nil)) (nomark _)) (pss_one (ps_ret (pe_ix ix_list (pv 0) (pv 1) (fun _ _ => rfl)))) pss_nil)
    (pss_one (ps_ret (pe_op op_add (pe_op op_mulB pe_int (pv 1)) pe_int)))), ?_⟩
  refine st_seq (st_if (b := decide (k < ns.length)) (et_is (tt_test (ed_b (ed_var rfl) (ed_lenL (ds := ns.map lntD) (el_var rfl)))) (decide_eq_decide.mpr (by rw [List.length_map]; omega))) (fun h => ?_) fun h => st_next ?_)
  · have h := of_decide_eq_true h
    refine st_ret (e_ixL (n := k) (el_var rfl) (ed_var rfl) rfl (mget (getD_of (z := 0) h))) ?_
    unfold cellOf
    rw [if_pos h]
  · have h := of_decide_eq_false h
    refine st_ret (ed_i (ed_ic ed_int (ed_var rfl) ⟨3, 100, by decide, by decide, ?_⟩) ed_int) ?_
    · show (k : Int).natAbs < 2 ^ 100
      have : (k : Int).natAbs = k := Int.natAbs_natCast k
      rw [this]
      exact Nat.lt_of_le_of_lt hk (by decide)
    · unfold cellOf
      rw [if_neg h]
include G hP in
theorem has_low (F : Def K mg "_law_low" s_law_low ["_law_n", "_law_d"]) : Has P w K mg base "_law_low" 41 ["_law_n", "_law_d"] (spR K C RLow) := by
  obtain ⟨f, fd, F, m, b'⟩ := F
  refine has_of F m b' (fn_ok F sc_law_low (fun as z h => by cases h; rfl) fun cdv A outer s H Q E hr as z h => ?_)
  obtain ⟨n, d, q, hd, hq⟩ := h
  have hd100 : ∀ n : Nat, n + 3 * 40 + 5 < recursionLimit → n + 100 < recursionLimit := fun n h => by omega
  have fdP := op_fdivP (X := (cxOf CX0 P w K mg base ["_law_n", "_law_d", "_law_a", "_law_b", "_law_c"] "_law_low" (defScope s_law_low) f cdv A outer s H E).nox) G.seer hP (hd100 _ hr.dp) rfl rfl rfl rfl rfl
  refine ⟨_, (pss_cons (ps_set (i := 2) sc_law_low.nd rfl (.inl rfl) (pe_callB cr_abs (by rfl) G.abs b_abs (pa_cons (pv 0) pa_nil)))
    (pss_cons (ps_set (i := 3) sc_law_low.nd rfl (.inl rfl) (pe_callB cr_abs (by rfl) G.abs b_abs (pa_cons (pv 1) pa_nil)))
    (pss_cons (ps_while PassesOwn.never (pt_cmpR op_gt (pv 3) pe_int (nomark _)) (pss_cons (ps_set (i := 4) sc_law_low.nd rfl (.inl rfl) (pe_op op_modN (pe_callTy cr_int (by rfl) G.int b_int (pa_cons (pv 2) pa_nil)) (pv 3)))
    (pss_cons (ps_set (i := 2) sc_law_low.nd rfl (.inl rfl) (pv 3))
    (pss_one (ps_set (i := 3) sc_law_low.nd rfl (.inl rfl) (pv 4))))))
    (pss_cons (ps_if (pt_cmpR op_lt (pv 1) pe_int (nomark _)) (pss_cons (ps_set (i := 0) sc_law_low.nd rfl (.inl rfl) (pe_op op_sub pe_int (pv 0)))
    (pss_one (ps_set (i := 1) sc_law_low.nd rfl (.inl rfl) (pe_op op_sub pe_int (pv 1))))) pss_nil)
    (pss_one (ps_ret (pe_tup (pa_cons (pe_op fdP (pv 0) (pv 2)) (pa_cons (pe_op fdP (pv 1) (pv 2)) pa_nil))))))))), ?_⟩
  refine st_seq (st_asg (ed_abs (ed_var rfl)) (lt_ok rfl) ?_)
  refine st_seq (st_asg (ed_abs (ed_var rfl)) (lt_ok rfl) ?_)
  refine st_cut (fun r' => ∃ y4, r' = [.dat (.int n), .dat (.int d), .dat (.int ((Nat.gcd n.natAbs d.natAbs : Nat) : Int)), .dat (.int 0), y4]) (st_while (fun m r' => ∃ (a b : Nat) (y4 : Sd), m = b ∧ Nat.gcd a b = Nat.gcd n.natAbs d.natAbs ∧ r' = [.dat (.int n), .dat (.int d), .dat (.int (a : Int)), .dat (.int (b : Int)), y4]) d.natAbs ⟨_, _, _, rfl, rfl, rfl⟩ fun m r' ⟨a, b, y4, hm, hgc, e⟩ => ?_) fun r' ⟨y4, e⟩ => ?_
  · subst e
    refine ⟨_, tt_test (ed_b (ed_var rfl) ed_int), fun h => ?_, fun h => ?_⟩
    · have h : (0 : Int) < (b : Int) := of_decide_eq_true h
      have e : ((a : Int)).fmod (b : Int) = ((a % b : Nat) : Int) := by
        rw [Int.fmod_eq_emod_of_nonneg _ (by omega)]
        exact (Int.natCast_emod a b).symm
      refine st_seq (st_asg (ed_is (ed_ic (ed_intI (ed_var rfl)) (ed_var rfl) (by omega)) (by rw [e])) (lt_ok rfl) ?_)
      refine st_seq (st_asg (ed_var rfl) (lt_ok rfl) ?_)
      refine st_asg (ed_var rfl) (lt_ok rfl) ?_
      refine ⟨a % b, by rw [hm]; exact Nat.mod_lt _ (by omega), b, a % b, _, rfl, ?_, rfl⟩
      rw [← hgc, Nat.gcd_comm a b, Nat.gcd_rec b a, Nat.gcd_comm]
    · have h : ¬ (0 : Int) < (b : Int) := of_decide_eq_false h
      have hb : b = 0 := by omega
      subst hb
      rw [Nat.gcd_zero_right] at hgc
      exact ⟨y4, by rw [hgc] <;> rfl⟩
  · subst e
    have hg : ((Nat.gcd n.natAbs d.natAbs : Nat) : Int) ≠ 0 := by have := Nat.gcd_pos_of_pos_right n.natAbs (n := d.natAbs) (by omega); omega
    obtain ⟨l1, l2⟩ := low_pair (n := n) hd rfl
    refine st_cut (fun r' => ∃ y3 y4, r' = [.dat (.int (if d < 0 then 0 - n else n)), .dat (.int (if d < 0 then 0 - d else d)), .dat (.int ((Nat.gcd n.natAbs d.natAbs : Nat) : Int)), y3, y4]) (st_if (tt_test (ed_b (ed_var rfl) ed_int)) (fun h => ?_) fun h => ?_) fun r' ⟨y3, y4, e⟩ => ?_
    · have h : d < 0 := of_decide_eq_true h
      refine st_seq (st_asg (ed_i ed_int (ed_var rfl)) (lt_ok rfl) ?_)
      refine st_asg (ed_i ed_int (ed_var rfl)) (lt_ok rfl) ?_
      rw [if_pos h, if_pos h]
      exact ⟨_, _, rfl⟩
    · have h : ¬ d < 0 := of_decide_eq_false h
      refine st_next ?_
      rw [if_neg h, if_neg h]
      exact ⟨_, _, rfl⟩
    · subst e
      exact st_ret (ed_is (ed_t2 (ed_ic (ed_var rfl) (ed_var rfl) hg) (ed_ic (ed_var rfl) (ed_var rfl) hg)) (rat_of hq l1 l2)) rfl
include G in
theorem has_draws (F : Def K mg "_law_draws" s_law_draws ["_law_cell_here", "_law_count"]) : Has P w K mg base "_law_draws" 40 ["_law_cell_here", "_law_count"] (spR K C RDraw) := by
  obtain ⟨f, fd, F, m, b'⟩ := F
  refine has_of F m b' (fn_ok F sc_law_draws (fun as z h => by cases h; rfl) fun cdv A outer s0 H Q E hr as z h => ?_)
  obtain ⟨c, n, hn, hc⟩ := h
  refine ⟨_, (pss_cons (ps_set (i := 2) sc_law_draws.nd rfl (.inl rfl) (pe_callB cr_abs (by rfl) G.abs b_abs (pa_cons (pe_callTy cr_int (by rfl) G.int b_int (pa_cons (pv 0) pa_nil)) pa_nil)))
    (pss_cons (ps_set (i := 3) sc_law_draws.nd rfl (.inl rfl) (pe_cmpR op_ge (pv 2) (pe_op op_pow pe_int pe_int) (nomark _)))
    (pss_cons (ps_set (i := 4) sc_law_draws.nd rfl (.inl rfl) (pv 2))
    (pss_cons (ps_set (i := 5) sc_law_draws.nd rfl (.inl rfl) (pe_lst pa_nil))
    (pss_cons (ps_for PassesOwn.never rfl (pi_range1 (by rfl) G.range (pa_cons (pv 1) pa_nil)) (pg_name (i := 6) sc_law_draws.nd rfl (.inl rfl)) (pss_one (ps_if (PW.pt (pw_and (pt_val (pv 3)) (pw_and1 (pt_cmpR op_gt (pv 2) pe_int (nomark _))))) (pss_cons (ps_expr (pe_bm PySem.F.plainAttrs_list PySem.F.slot_list_append PySem.F.type_list_append mt_append (pv 5) (pa_cons (pe_op op_modN (pe_callTy cr_int (by rfl) G.int b_int (pa_cons (pv 2) pa_nil)) pe_int) pa_nil)))
    (pss_one (ps_set (i := 2) sc_law_draws.nd rfl (.inl rfl) (pe_op op_fdivN (pv 2) pe_int)))) (pss_cons (ps_set (i := 7) sc_law_draws.nd rfl (.inl rfl) (pe_op op_modN (pe_callTy cr_int (by rfl) G.int b_int (pa_cons (pe_op op_add (pe_op op_add (pe_op op_mulB (pv 4) pe_int) (pe_op op_mulB (pe_op op_add (pv 6) pe_int) pe_int)) pe_int) pa_nil)) pe_int))
    (pss_cons (ps_set (i := 7) sc_law_draws.nd rfl (.inl rfl) (pe_op op_modN (pe_callTy cr_int (by rfl) G.int b_int (pa_cons (pe_op op_add (pe_op op_mulB (pv 7) (pv 7)) (pe_op op_mulB pe_int (pe_op op_add (pv 6) pe_int))) pa_nil)) pe_int))
    (pss_one (ps_expr (pe_bm PySem.F.plainAttrs_list PySem.F.slot_list_append PySem.F.type_list_append mt_append (pv 5) (pa_cons (pe_op op_modN (pe_callTy cr_int (by rfl) G.int b_int (pa_cons (pe_op op_fdivN (pv 7) pe_int) pa_nil)) pe_int) pa_nil)))))))))
    (pss_one (ps_ret (pv 5)))))))), ?_⟩
  refine st_seq (st_asg (ed_abs (ed_intI (ed_var rfl))) (lt_ok rfl) ?_)
  refine st_seq (st_asg (d := .bl (decide ((10 : Int) ^ 18 ≤ (c.natAbs : Int)))) (ed_b (ed_var rfl) (ed_ic (f := fun i j => i ^ j.toNat) (i := 10) (j := 18) ed_int ed_int (by unfold CPow; decide))) (lt_ok rfl) ?_)
  refine st_seq (st_asg (ed_var rfl) (lt_ok rfl) ?_)
  refine st_seq (st_asgN en_l0 (lt_ok rfl) fun p => ?_)
  refine st_seq (st_forR (N := n) (fun i r' => ∃ y6 y7, r' = [.dat (.int c), .dat (intD n), .dat (.int (drawsTo c i).1), .dat (.bl (decide ((10 : Int) ^ 18 ≤ (c.natAbs : Int)))), .dat (.int (c.natAbs : Int)), .own p ((drawsTo c i).2.map lntD), y6, y7]) (ea_d (ed_var rfl) ea_nil) (by omega) ⟨_, _, rfl⟩ (fun i r' ⟨_, _, e⟩ => by rw [e]; exact lt_ok rfl) (fun i r' hi ⟨y6, y7, e⟩ => ?_) fun r' ⟨y6, y7, e⟩ => ?_)
  · subst e
    have hl := drawsTo_len c i
    have es : drawsTo c (i + 1) = drawStep c (drawsTo c i) i := rfl
    rw [es]
    generalize drawsTo c i = acc at hl ⊢
    have sb : ((c.natAbs : Int)).natAbs < 2 ^ 2000000 := by rw [Int.natAbs_natCast]; exact hc
    have ib : ∀ k : Int, 0 ≤ k → k ≤ 200 → k.natAbs < 2 ^ 100 := fun k h1 h2 => Nat.lt_of_le_of_lt (show k.natAbs ≤ 200 by omega) (by decide)
    refine st_if (tt_and (tt_test (ed_var rfl)) fun _ => tt_test (ed_b (ed_var rfl) ed_int)) (fun h => ?_) fun h => ?_
    · have e : drawStep c acc i = (acc.1.fdiv 5040, acc.2 ++ [acc.1.fmod 5040]) := if_pos h
      rw [e]
      refine st_seq (st_app rfl (ed_ic (ed_intI (ed_var rfl)) ed_int (by decide)) (by rw [List.length_map, hl]; omega) ?_)
      refine st_asg (ed_ic (ed_var rfl) ed_int ⟨by decide, by decide⟩) (lt_ok rfl) ?_
      rw [List.map_append]
      exact ⟨_, _, rfl⟩
    · have e : drawStep c acc i = (acc.1, acc.2 ++ [mixOf (c.natAbs : Int) i]) := if_neg (by rw [h]; exact Bool.false_ne_true)
      rw [e]
      have r1 := fmod_range (i := (c.natAbs : Int) * 48271 + ((i : Int) + 1) * 69621 + 11) (m := 2147483647) (by decide)
      refine st_seq (st_asg (d := .int (mixOne (c.natAbs : Int) i)) (ed_ic (ed_intI (ed_i (ed_i (ed_ic (ed_var rfl) ed_int ⟨2000000, 20, by decide, sb, by decide⟩) (ed_ic (ed_i (ed_var rfl) ed_int) ed_int ⟨100, 20, by decide, ib _ (by omega) (by omega), by decide⟩)) ed_int)) ed_int (by decide)) (lt_ok rfl) ?_)
      have r2 : (mixOne (c.natAbs : Int) i).natAbs < 2 ^ 40 := Nat.lt_of_lt_of_le (show (mixOne (c.natAbs : Int) i).natAbs < 2147483647 by unfold mixOne; omega) (by decide)
      refine st_seq (st_asg (d := .int (mixTwo (mixOne (c.natAbs : Int) i) i)) (ed_ic (ed_intI (ed_i (ed_ic (ed_var rfl) (ed_var rfl) ⟨40, 40, by decide, r2, r2⟩) (ed_ic ed_int (ed_i (ed_var rfl) ed_int) ⟨20, 100, by decide, by decide, ib _ (by omega) (by omega)⟩))) ed_int (by decide)) (lt_ok rfl) ?_)
      refine st_app rfl (ed_ic (ed_intI (ed_ic (ed_var rfl) ed_int ⟨by decide, by decide⟩)) ed_int (by decide)) (by rw [List.length_map, hl]; omega) ?_
      rw [List.map_append]
      exact ⟨_, _, rfl⟩
  · subst e
    exact st_retO rfl rfl
include G in
theorem has_is_integer (F : Def K mg "_law_is_integer" s_law_is_integer ["_law_value_here"]) : Has P w K mg base "_law_is_integer" 40 ["_law_value_here"] (spR K C RIsI) := by
  obtain ⟨f, fd, F, m, b'⟩ := F
  refine has_of F m b' (fn_ok F sc_law_is_integer (fun as z h => by cases h; rfl) fun cdv A outer s0 H Q E hr as z h => ?_)
  obtain ⟨n⟩ := h
  refine ⟨_, (pss_one (ps_ret (pe_and (pe_callB call_isi (by rfl) G.isinstance b_isinstance (pa_cons (pv 0) (pa_cons (pe_bltn (v := .ty "int") (by rfl) G.int b_int rfl) pa_nil))) (pe_one (pe_not (pe_callB call_isi (by rfl) G.isinstance b_isinstance (pa_cons (pv 0) (pa_cons (pe_bltn (v := .ty "bool") (by rfl) G.bool b_bool rfl) pa_nil)))))))), ?_⟩
  refine st_ret (d := .bl (true && true)) (ed_andV (ed_isi (b := true) (ed_var rfl) fun H x hx => ⟨_, ty_int hx, rfl⟩) fun _ => ed_is (ed_notV (ed_isi (b := false) (ed_var rfl) fun H x hx => ⟨_, ty_int hx, rfl⟩)) rfl) rfl
include G in
theorem has_is_ratio (h_law_is_integer : Has P w K mg base "_law_is_integer" 40 ["_law_value_here"] (spR K C RIsI)) (h_law_low : Has P w K mg base "_law_low" 41 ["_law_n", "_law_d"] (spR K C RLow)) (F : Def K mg "_law_is_ratio" s_law_is_ratio ["_law_value_here"]) : Has P w K mg base "_law_is_ratio" 42 ["_law_value_here"] (spR K C RIsR) := by
  obtain ⟨f, fd, F, m, b'⟩ := F
  refine has_of F m b' (fn_ok F sc_law_is_ratio (fun as z h => by cases h; rfl) fun cdv A outer s0 H Q E hr as z h => ?_)
  obtain ⟨q⟩ := h
  refine ⟨_, (pss_cons (ps_if (PW.pt (pw_or (pt_not (pt_val (pe_callB call_isi (by rfl) G.isinstance b_isinstance (pa_cons (pv 0) (pa_cons (pe_bltn (v := .ty "tuple") (by rfl) G.tuple b_tuple rfl) pa_nil))))) (pw_or1 (pt_cmpR op_ne (pe_callB cr_len (by rfl) G.len PySem.boot_len (pa_cons (pv 0) pa_nil)) pe_int (nomark _))))) (pss_one (ps_ret pe_bl)) pss_nil)
    (pss_cons (ps_if (PW.pt (pw_or (pt_not (pt_val (pe_has h_law_is_integer (hr.mono (by decide)) (by rfl) (pa_cons (pe_ix ix_tup (pv 0) pe_int (fun _ _ => rfl)) pa_nil)))) (pw_or (pt_not (pt_val (pe_has h_law_is_integer (hr.mono (by decide)) (by rfl) (pa_cons (pe_ix ix_tup (pv 0) pe_int (fun _ _ => rfl)) pa_nil)))) (pw_or1 (pt_cmpR op_lt (pe_ix ix_tup (pv 0) pe_int (fun _ _ => rfl)) pe_int (nomark _)))))) (pss_one (ps_ret pe_bl)) pss_nil)
    (pss_one (ps_ret (pe_cmpR (op_eqD hr.units) (pe_has h_law_low (hr.mono (by decide)) (by rfl) (pa_cons (pe_ix ix_tup (pv 0) pe_int (fun _ _ => rfl)) (pa_cons (pe_ix ix_tup (pv 0) pe_int (fun _ _ => rfl)) pa_nil))) (pv 0) (nomark _)))))), ?_⟩
  have dp := den_pos q
  refine st_seq (st_if (b := false || false) (tt_or (tt_not (b := true) (tt_test (ed_isi (b := true) (ed_var rfl) fun H x hx => ⟨_, ty_tup hx, rfl⟩))) fun _ => et_is (tt_test (ed_neI (ed_lenT (ed_var rfl)) ed_int)) rfl) (fun h => nomatch h) fun _ => st_next ?_)
  refine st_seq (st_if (b := false || (false || false)) (tt_or (tt_not (b := true) (tt_test (ed_call (ea_d (e_ix (n := 0) (d := .int q.num) (ed_var rfl) ed_int rfl rfl) ea_nil) (.mk _)))) fun _ => tt_or (tt_not (b := true) (tt_test (ed_call (ea_d (e_ix (n := 1) (d := .int (q.den : Int)) (ed_var rfl) ed_int rfl rfl) ea_nil) (.mk _)))) fun _ => et_is (tt_test (ed_b (e_ix (n := 1) (d := .int (q.den : Int)) (ed_var rfl) ed_int rfl rfl) ed_int)) (decide_eq_false (by omega))) (fun h => nomatch h) fun _ => st_next ?_)
  refine st_ret (ed_is (ed_eqR (ed_call (ea_d (e_ix (n := 0) (d := .int q.num) (ed_var rfl) ed_int rfl rfl) (ea_d (e_ix (n := 1) (d := .int (q.den : Int)) (ed_var rfl) ed_int rfl rfl) ea_nil)) (.mk q.num (q.den : Int) q (by omega) (Rat.num_divInt_den q))) (ed_var rfl)) (by rw [decide_eq_true rfl])) rfl
include G in
theorem has_ratios (h_law_is_ratio : Has P w K mg base "_law_is_ratio" 42 ["_law_value_here"] (spR K C RIsR)) (F : Def K mg "_law_ratios" s_law_ratios ["_law_values", "_law_count"]) : Has P w K mg base "_law_ratios" 43 ["_law_values", "_law_count"] (spR K C RRats) := by
  obtain ⟨f, fd, F, m, b'⟩ := F
  refine has_of F m b' (fn_ok F sc_law_ratios (fun as z h => by cases h; rfl) fun cdv A outer s0 H Q E hr as z h => ?_)
  obtain ⟨qs, n, hn, h9⟩ := h
  refine ⟨_, (pss_cons (ps_if (PW.pt (pw_or (pt_not (pt_val (pe_callB call_isi (by rfl) G.isinstance b_isinstance (pa_cons (pv 0) (pa_cons (pe_bltn (v := .ty "tuple") (by rfl) G.tuple b_tuple rfl) pa_nil))))) (pw_or1 (pt_cmpR op_ne (pe_callB cr_len (by rfl) G.len PySem.boot_len (pa_cons (pv 0) pa_nil)) (pv 1) (nomark _))))) (pss_one (ps_ret pe_bl)) pss_nil)
    (pss_cons (ps_for PassesOwn.never rfl (pi_tup (pv 0)) (pg_name (i := 2) sc_law_ratios.nd rfl (.inl rfl)) (pss_one (ps_if (pt_not (pt_val (pe_has h_law_is_ratio (hr.mono (by decide)) (by rfl) (pa_cons (pv 2) pa_nil)))) (pss_one (ps_ret pe_bl)) pss_nil)))
    (pss_one (ps_ret pe_bl)))), ?_⟩
  refine st_seq (st_if (b := false || false) (tt_or (tt_not (b := true) (tt_test (ed_isi (b := true) (ed_var rfl) fun H x hx => ⟨_, ty_tup hx, rfl⟩))) fun _ => et_is (tt_test (ed_neI (ed_lenT (ed_var rfl)) (ed_var rfl))) (by rw [List.length_map, hn, decide_eq_true rfl] <;> rfl)) (fun h => nomatch h) fun _ => st_next ?_)
  refine st_seq (st_forT (ds := qs.map rat) (n := 3) (f := fun d r => r.set 2 (.dat d)) (fun i r' => ∃ y2, r' = [.dat (rowD qs), .dat (intD n), y2]) (ed_var rfl) ⟨_, rfl⟩ (fun i r' ⟨_, e⟩ => by rw [e]; exact Nat.le_of_ble_eq_true rfl) (fun i d _ => tg_name 2) (fun i d r' hi ⟨y2, e⟩ => ?_) fun r' ⟨y2, e⟩ => ?_)
  · subst e
    rw [List.getElem?_map] at hi
    obtain ⟨x, hx, rfl⟩ := Option.map_eq_some_iff.mp hi
    exact st_if (tt_not (b := true) (tt_test (ed_call (ea_d (ed_var rfl) ea_nil) (.mk x)))) (fun h => nomatch h) fun _ => st_next ⟨_, rfl⟩
  · subst e
    exact st_ret ed_bl rfl
theorem dden_ne (a b : Rat) : (a.den : Int) * (b.den : Int) ≠ 0 := by
  have h1 := den_pos a
  have h2 := den_pos b
  have := Int.mul_pos (a := (a.den : Int)) (b := (b.den : Int)) (by omega) (by omega)
  omega
include G in
theorem has_ladd (h_law_low : Has P w K mg base "_law_low" 41 ["_law_n", "_law_d"] (spR K C RLow)) (F : Def K mg "_law_add" s_law_add ["_law_a", "_law_b"]) : Has P w K mg base "_law_add" 42 ["_law_a", "_law_b"] (spR K C RAdd) := by
  obtain ⟨f, fd, F, m, b'⟩ := F
  refine has_of F m b' (fn_ok F sc_law_add (fun as z h => by cases h; rfl) fun cdv A outer s0 H Q E hr as z h => ?_)
  obtain ⟨a, b, ha, hb⟩ := h
  refine ⟨_, (pss_one (ps_ret (pe_has h_law_low (hr.mono (by decide)) (by rfl) (pa_cons (pe_op op_add (pe_op op_mulB (pe_ix ix_tup (pv 0) pe_int (fun _ _ => rfl)) (pe_ix ix_tup (pv 1) pe_int (fun _ _ => rfl))) (pe_op op_mulB (pe_ix ix_tup (pv 1) pe_int (fun _ _ => rfl)) (pe_ix ix_tup (pv 0) pe_int (fun _ _ => rfl)))) (pa_cons (pe_op op_mulB (pe_ix ix_tup (pv 0) pe_int (fun _ _ => rfl)) (pe_ix ix_tup (pv 1) pe_int (fun _ _ => rfl))) pa_nil))))), ?_⟩
  exact st_ret (ed_call (ea_d (ed_i (ed_ic (ed_ixT (ed_var rfl) ed_int rfl) (ed_ixT (ed_var rfl) ed_int rfl) (ha.nd hb)) (ed_ic (ed_ixT (ed_var rfl) ed_int rfl) (ed_ixT (ed_var rfl) ed_int rfl) (hb.nd ha))) (ea_d (ed_ic (ed_ixT (ed_var rfl) ed_int rfl) (ed_ixT (ed_var rfl) ed_int rfl) (ha.dd hb)) ea_nil)) (.mk _ _ _ (dden_ne a b) divInt_add)) rfl
include G in
theorem has_lsub (h_law_low : Has P w K mg base "_law_low" 41 ["_law_n", "_law_d"] (spR K C RLow)) (F : Def K mg "_law_sub" s_law_sub ["_law_a", "_law_b"]) : Has P w K mg base "_law_sub" 42 ["_law_a", "_law_b"] (spR K C RSub) := by
  obtain ⟨f, fd, F, m, b'⟩ := F
  refine has_of F m b' (fn_ok F sc_law_sub (fun as z h => by cases h; rfl) fun cdv A outer s0 H Q E hr as z h => ?_)
  obtain ⟨a, b, ha, hb⟩ := h
  refine ⟨_, (pss_one (ps_ret (pe_has h_law_low (hr.mono (by decide)) (by rfl) (pa_cons (pe_op op_sub (pe_op op_mulB (pe_ix ix_tup (pv 0) pe_int (fun _ _ => rfl)) (pe_ix ix_tup (pv 1) pe_int (fun _ _ => rfl))) (pe_op op_mulB (pe_ix ix_tup (pv 1) pe_int (fun _ _ => rfl)) (pe_ix ix_tup (pv 0) pe_int (fun _ _ => rfl)))) (pa_cons (pe_op op_mulB (pe_ix ix_tup (pv 0) pe_int (fun _ _ => rfl)) (pe_ix ix_tup (pv 1) pe_int (fun _ _ => rfl))) pa_nil))))), ?_⟩
  exact st_ret (ed_call (ea_d (ed_i (ed_ic (ed_ixT (ed_var rfl) ed_int rfl) (ed_ixT (ed_var rfl) ed_int rfl) (ha.nd hb)) (ed_ic (ed_ixT (ed_var rfl) ed_int rfl) (ed_ixT (ed_var rfl) ed_int rfl) (hb.nd ha))) (ea_d (ed_ic (ed_ixT (ed_var rfl) ed_int rfl) (ed_ixT (ed_var rfl) ed_int rfl) (ha.dd hb)) ea_nil)) (.mk _ _ _ (dden_ne a b) divInt_sub)) rfl
include G in
theorem has_lmul (h_law_low : Has P w K mg base "_law_low" 41 ["_law_n", "_law_d"] (spR K C RLow)) (F : Def K mg "_law_mul" s_law_mul ["_law_a", "_law_b"]) : Has P w K mg base "_law_mul" 42 ["_law_a", "_law_b"] (spR K C RMul) := by
  obtain ⟨f, fd, F, m, b'⟩ := F
  refine has_of F m b' (fn_ok F sc_law_mul (fun as z h => by cases h; rfl) fun cdv A outer s0 H Q E hr as z h => ?_)
  obtain ⟨a, b, ha, hb⟩ := h
  refine ⟨_, (pss_one (ps_ret (pe_has h_law_low (hr.mono (by decide)) (by rfl) (pa_cons (pe_op op_mulB (pe_ix ix_tup (pv 0) pe_int (fun _ _ => rfl)) (pe_ix ix_tup (pv 1) pe_int (fun _ _ => rfl))) (pa_cons (pe_op op_mulB (pe_ix ix_tup (pv 0) pe_int (fun _ _ => rfl)) (pe_ix ix_tup (pv 1) pe_int (fun _ _ => rfl))) pa_nil))))), ?_⟩
  exact st_ret (ed_call (ea_d (ed_ic (ed_ixT (ed_var rfl) ed_int rfl) (ed_ixT (ed_var rfl) ed_int rfl) (ha.nn hb)) (ea_d (ed_ic (ed_ixT (ed_var rfl) ed_int rfl) (ed_ixT (ed_var rfl) ed_int rfl) (ha.dd hb)) ea_nil)) (.mk _ _ _ (dden_ne a b) divInt_mul)) rfl
include G in
theorem has_ldiv (h_law_low : Has P w K mg base "_law_low" 41 ["_law_n", "_law_d"] (spR K C RLow)) (F : Def K mg "_law_div" s_law_div ["_law_a", "_law_b"]) : Has P w K mg base "_law_div" 42 ["_law_a", "_law_b"] (spR K C RDiv) := by
  obtain ⟨f, fd, F, m, b'⟩ := F
  refine has_of F m b' (fn_ok F sc_law_div (fun as z h => by cases h; rfl) fun cdv A outer s0 H Q E hr as z h => ?_)
  obtain ⟨a, b, ha, hb, hz⟩ := h
  refine ⟨_, (pss_one (ps_ret (pe_has h_law_low (hr.mono (by decide)) (by rfl) (pa_cons (pe_op op_mulB (pe_ix ix_tup (pv 0) pe_int (fun _ _ => rfl)) (pe_ix ix_tup (pv 1) pe_int (fun _ _ => rfl))) (pa_cons (pe_op op_mulB (pe_ix ix_tup (pv 0) pe_int (fun _ _ => rfl)) (pe_ix ix_tup (pv 1) pe_int (fun _ _ => rfl))) pa_nil))))), ?_⟩
  have nz := num_ne hz
  have dz : (a.den : Int) * b.num ≠ 0 := Int.mul_ne_zero (by have := den_pos a; omega) nz
  exact st_ret (ed_call (ea_d (ed_ic (ed_ixT (ed_var rfl) ed_int rfl) (ed_ixT (ed_var rfl) ed_int rfl) (ha.nd hb)) (ea_d (ed_ic (ed_ixT (ed_var rfl) ed_int rfl) (ed_ixT (ed_var rfl) ed_int rfl) (ha.dn hb)) ea_nil)) (.mk _ _ _ dz (divInt_div hz))) rfl
include G in
theorem has_less (F : Def K mg "_law_less" s_law_less ["_law_a", "_law_b"]) : Has P w K mg base "_law_less" 42 ["_law_a", "_law_b"] (spR K C RLess) := by
  obtain ⟨f, fd, F, m, b'⟩ := F
  refine has_of F m b' (fn_ok F sc_law_less (fun as z h => by cases h; rfl) fun cdv A outer s0 H Q E hr as z h => ?_)
  obtain ⟨a, b, ha, hb⟩ := h
  refine ⟨_, (pss_one (ps_ret (pe_cmpR op_lt (pe_op op_mulB (pe_ix ix_tup (pv 0) pe_int (fun _ _ => rfl)) (pe_ix ix_tup (pv 1) pe_int (fun _ _ => rfl))) (pe_op op_mulB (pe_ix ix_tup (pv 1) pe_int (fun _ _ => rfl)) (pe_ix ix_tup (pv 0) pe_int (fun _ _ => rfl))) (nomark _)))), ?_⟩
  exact st_ret (ed_is (ed_b (ed_ic (ed_ixT (ed_var rfl) ed_int rfl) (ed_ixT (ed_var rfl) ed_int rfl) (ha.nd hb)) (ed_ic (ed_ixT (ed_var rfl) ed_int rfl) (ed_ixT (ed_var rfl) ed_int rfl) (hb.nd ha))) (by congr 1; exact decide_eq_decide.mpr (Eq.to_iff (dec_cmp a b)))) rfl
include G in
theorem has_fraction (h_law_low : Has P w K mg base "_law_low" 41 ["_law_n", "_law_d"] (spR K C RLow)) (F : Def K mg "_law_fraction" s_law_fraction ["_law_draw"]) : Has P w K mg base "_law_fraction" 42 ["_law_draw"] (spR K C RFrac) := by
  obtain ⟨f, fd, F, m, b'⟩ := F
  refine has_of F m b' (fn_ok F sc_law_fraction (fun as z h => by cases h; rfl) fun cdv A outer s0 H Q E hr as z h => ?_)
  obtain ⟨d⟩ := h
  refine ⟨_, (pss_one (ps_ret (pe_has h_law_low (hr.mono (by decide)) (by rfl) (pa_cons (pe_op op_sub (pe_op op_modN (pe_callTy cr_int (by rfl) G.int b_int (pa_cons (pv 0) pa_nil)) pe_int) pe_int) (pa_cons (pe_op op_add pe_int (pe_op op_modN (pe_op op_fdivN (pe_callTy cr_int (by rfl) G.int b_int (pa_cons (pv 0) pa_nil)) pe_int) pe_int)) pa_nil))))), ?_⟩
  have r := fmod_range (i := d.fdiv 13) (m := 4) (by decide)
  exact st_ret (ed_call (ea_d (ed_i (ed_ic (ed_intI (ed_var rfl)) ed_int (by decide)) ed_int) (ea_d (ed_i ed_int (ed_ic (ed_ic (ed_intI (ed_var rfl)) ed_int ⟨by decide, by decide⟩) ed_int (by decide))) ea_nil)) (.mk _ _ _ (by omega) rfl)) rfl
include G in
theorem has_discount (h_law_low : Has P w K mg base "_law_low" 41 ["_law_n", "_law_d"] (spR K C RLow)) (F : Def K mg "_law_discount" s_law_discount ["_law_draw"]) : Has P w K mg base "_law_discount" 42 ["_law_draw"] (spR K C RDisc) := by
  obtain ⟨f, fd, F, m, b'⟩ := F
  refine has_of F m b' (fn_ok F sc_law_discount (fun as z h => by cases h; rfl) fun cdv A outer s0 H Q E hr as z h => ?_)
  obtain ⟨d⟩ := h
  refine ⟨_, (pss_cons (ps_set (i := 1) sc_law_discount.nd rfl (.inl rfl) (pe_op op_add pe_int (pe_op op_modN (pe_callTy cr_int (by rfl) G.int b_int (pa_cons (pv 0) pa_nil)) pe_int)))
    (pss_one (ps_ret (pe_has h_law_low (hr.mono (by decide)) (by rfl) (pa_cons (pe_op op_modN (pe_op op_fdivN (pe_callTy cr_int (by rfl) G.int b_int (pa_cons (pv 0) pa_nil)) pe_int) (pv 1)) (pa_cons (pv 1) pa_nil)))))), ?_⟩
  have r := fmod_range (i := d) (m := 9) (by decide)
  refine st_seq (st_asg (ed_i ed_int (ed_ic (ed_intI (ed_var rfl)) ed_int (by decide))) (lt_ok rfl) ?_)
  exact st_ret (ed_call (ea_d (ed_ic (ed_ic (ed_intI (ed_var rfl)) ed_int ⟨by decide, by decide⟩) (ed_var rfl) (by omega)) (ea_d (ed_var rfl) ea_nil)) (.mk _ _ _ (by omega) rfl)) rfl
end
end AW

set_option Elab.async false
set_option linter.all false
set_option maxRecDepth 100000
set_option maxHeartbeats 4000000
/-! the walk: the law's games -/
namespace AW
open PySem PySem.Spec PyProof.Rows L2 AC
/-! _law_game -/
abbrev s_law_game : Stmt := topS 72
theorem sc_law_game : FnScope ["_law_cell_here", "_law_most", "_law_draws_here", "_law_n", "_law_rewards", "_law_s", "_law_reward", "_law_moves", "_law_weights", "_law_t"] ["_law_cell_here", "_law_most"] (defScope s_law_game) := ⟨rfl, rfl, rfl, by decide +kernel, rfl, by decide +kernel, by decide +kernel⟩
-- slots: 0:_law_cell_here 1:_law_most 2:_law_draws_here 3:_law_n 4:_law_rewards 5:_law_s 6:_law_reward 7:_law_moves 8:_law_weights 9:_law_t
/-! _law_place -/
abbrev s_law_place : Stmt := topS 73
theorem sc_law_place : FnScope ["_law_cell_here", "_law_most", "_law_game_here"] ["_law_cell_here", "_law_most"] (defScope s_law_place) := ⟨rfl, rfl, rfl, by decide +kernel, rfl, by decide +kernel, by decide +kernel⟩
-- slots: 0:_law_cell_here 1:_law_most 2:_law_game_here
/-! _law_play -/
abbrev s_law_play : Stmt := topS 74
theorem sc_law_play : FnScope ["_law_game_here", "_law_state", "_law_discount_here", "_law_table", "_law_later", "_law_pair"] ["_law_game_here", "_law_state", "_law_discount_here", "_law_table"] (defScope s_law_play) := ⟨rfl, rfl, rfl, by decide +kernel, rfl, by decide +kernel, by decide +kernel⟩
-- slots: 0:_law_game_here 1:_law_state 2:_law_discount_here 3:_law_table 4:_law_later 5:_law_pair
/-! _law_throw -/
abbrev s_law_throw : Stmt := topS 75
theorem sc_law_throw : FnScope ["_law_cell_here", "_law_draws_here", "_law_n", "_law_k", "_law_rewards", "_law_weights", "_law_moves"] ["_law_cell_here"] (defScope s_law_throw) := ⟨rfl, rfl, rfl, by decide +kernel, rfl, by decide +kernel, by decide +kernel⟩
-- slots: 0:_law_cell_here 1:_law_draws_here 2:_law_n 3:_law_k 4:_law_rewards 5:_law_weights 6:_law_moves
abbrev iAt (l : List Int) (k : Nat) : Int := l.getD k 0
def rewD (c : Int) (ds : List Int) (s : Nat) : Rat :=
  if (iAt ds 1).fmod 8 = 1 then Rat.divInt ((fracOf (iAt ds (2 + s))).num * 10 ^ 30 + c.fmod (10 ^ 30)) ((fracOf (iAt ds (2 + s))).den : Int) else fracOf (iAt ds (2 + s))
def wt0 (ds : List Int) (n s : Nat) : List Int := (List.range n).map fun (t : Nat) => (iAt ds (2 + n + n * s + t)).fmod 4
def wts (ds : List Int) (n s : Nat) : List Int := if (wt0 ds n s).sum = 0 then (wt0 ds n s).set ((s + 1) % n) 1 else wt0 ds n s
def mvs (ws : List Int) (n : Nat) : List (Nat × Rat) := ((List.range n).filter fun (t : Nat) => decide (0 < iAt ws t)).map fun (t : Nat) => (t, Rat.divInt (iAt ws t) ws.sum)
def gmOf (c : Int) (ds : List Int) (n : Nat) : Gm := ⟨(List.range n).map (rewD c ds), (List.range n).map fun (s : Nat) => mvs (wts ds n s) n⟩
def gN (ds : List Int) (m : Nat) : Nat := 1 + ((iAt ds 0).fmod (m : Int)).toNat
def gameOf (c : Int) (m : Nat) : Gm := gmOf c (draws c (2 + m + m * m)) (gN (draws c (2 + m + m * m)) m)
def stateOf (c : Int) (n : Nat) : Nat := (((iAt (draws c 2) 1).fdiv 8).fmod (n : Int)).toNat
inductive RGame : List Ar → Ar → Prop
  | mk (c : Int) (m : Nat) : 1 ≤ m → m ≤ 3 → Fit c → RGame [.dat (.int c), .dat (intD m)] (.dat (gmD (gameOf c m)))
inductive RPlace : List Ar → Ar → Prop
  | mk (c : Int) (m : Nat) : 1 ≤ m → m ≤ 3 → Fit c → RPlace [.dat (.int c), .dat (intD m)] (.dat (plD (gameOf c m) (stateOf c (gameOf c m).n)))
inductive RPlay : List Ar → Ar → Prop
  | mk (g : Gm) (b : Rat) (q s j : Nat) (tb : List Rat) : GS g b [] q → s < g.n → tb.length = g.n → (∀ t, Sz j (en tb t)) → j ≤ 5000000 → RPlay [.dat (gmD g), .dat (intD s), .dat (rat b), .dat (rowD tb)] (.dat (rat (play g b s (en tb))))
def thW (ds : List Int) (n : Nat) : List Int := (List.range n).map fun (k : Nat) => 1 + (iAt ds (5 + k)).fmod 4
def thG (ds : List Int) (n : Nat) : Gm := ⟨((List.range (n + 1)).map fun (k : Nat) => fracOf (iAt ds (1 + k))).set 0 (fracOf (iAt ds 1) + 6), ((List.range n).map fun (k : Nat) => (k + 1, Rat.divInt (iAt (thW ds n) k) (thW ds n).sum)) :: (List.range n).map fun (k : Nat) => [(k + 1, 1)]⟩
def throwOf (c : Int) : Gm := thG (draws c 8) (2 + ((iAt (draws c 8) 0).fmod 2).toNat)
inductive RThrow : List Ar → Ar → Prop
  | mk (c : Int) : Fit c → RThrow [.dat (.int c)] (.dat (plD (throwOf c) 0))
theorem small_mul {i j : Int} (h1 : 0 ≤ i) (h2 : i ≤ 1000) (h3 : 0 ≤ j) (h4 : j ≤ 1000) : MulB i j := ⟨10, 10, by decide, by have : (2 : Nat) ^ 10 = 1024 := rfl; omega, by have : (2 : Nat) ^ 10 = 1024 := rfl; omega⟩
theorem iget {l : List Int} {k : Nat} (h : k < l.length) : (l.map lntD)[k]? = some (.int (iAt l k)) := mget (getD_of h)
theorem draws_len (c : Int) (n : Nat) : (draws c n).length = n := drawsTo_len c n
theorem draw_at {c : Int} {n k : Nat} : 0 ≤ iAt (draws c n) k ∧ iAt (draws c n) k < 5040 := by
  by_cases h : k < (draws c n).length
  · have e : iAt (draws c n) k ∈ draws c n := by
      have := getD_of (z := 0) h
      exact List.mem_of_getElem? this
    exact drawsTo_range c n _ e
  · have e : iAt (draws c n) k = 0 := by
      unfold iAt
      rw [List.getD_eq_getElem?_getD, List.getElem?_eq_none (by omega)] <;> rfl
    rw [e]
    decide
section
variable {K : Frg} {C : Addr} {r : List Sd} {te ti : TE}
theorem e_iL {l : List Int} {i : Int} {n : Nat} (h : EvL K C te r (l.map lntD)) (hi : EvD K C ti r (.int i)) (e : i = (n : Int)) (g : n < l.length) : EvD K C (tOp (rIxL K) te ti) r (.int (iAt l n)) := e_ixL h hi e (iget g)
end
/-! ### weights -/
theorem isum_nn : ∀ {l : List Int}, (∀ x ∈ l, 0 ≤ x) → 0 ≤ l.sum
  | [], _ => by simp
  | a :: r, h => by
    rw [List.sum_cons]
    have h1 := h a (List.mem_cons_self ..)
    have h2 := isum_nn (l := r) fun x hx => h x (List.mem_cons_of_mem _ hx)
    omega
theorem isum_zero : ∀ {l : List Int}, (∀ x ∈ l, 0 ≤ x) → l.sum = 0 → ∀ x ∈ l, x = 0
  | [], _, _, x, hx => by cases hx
  | a :: r, h, e, x, hx => by
    rw [List.sum_cons] at e
    have h1 := h a (List.mem_cons_self ..)
    have h2 := isum_nn (l := r) fun x hx => h x (List.mem_cons_of_mem _ hx)
    rcases List.mem_cons.mp hx with q | q
    · rw [q]; omega
    · exact isum_zero (l := r) (fun x hx => h x (List.mem_cons_of_mem _ hx)) (by omega) x q
theorem isum_all0 : ∀ {l : List Int}, (∀ x ∈ l, x = 0) → l.sum = 0
  | [], _ => by simp
  | a :: r, h => by
    rw [List.sum_cons, h a (List.mem_cons_self ..), isum_all0 (l := r) fun x hx => h x (List.mem_cons_of_mem _ hx)] <;> rfl
theorem isum_set : ∀ {l : List Int} {i : Nat}, (∀ x ∈ l, x = 0) → i < l.length → (l.set i 1).sum = 1
  | [], _, _, h => absurd h (Nat.not_lt_zero _)
  | a :: r, 0, h, _ => by
    show (1 :: r).sum = 1
    rw [List.sum_cons, isum_all0 (l := r) fun x hx => h x (List.mem_cons_of_mem _ hx)] <;> rfl
  | a :: r, i + 1, h, hi => by
    show (a :: r.set i 1).sum = 1
    rw [List.sum_cons, h a (List.mem_cons_self ..), isum_set (l := r) (fun x hx => h x (List.mem_cons_of_mem _ hx)) (by simpa using hi)] <;> rfl
theorem isum_le {b : Int} : ∀ {l : List Int}, (∀ x ∈ l, x ≤ b) → l.sum ≤ b * (l.length : Int)
  | [], _ => by simp
  | a :: r, h => by
    rw [List.sum_cons, List.length_cons]
    have h1 := h a (List.mem_cons_self ..)
    have h2 := isum_le (l := r) fun x hx => h x (List.mem_cons_of_mem _ hx)
    have e : b * ((r.length + 1 : Nat) : Int) = b * (r.length : Int) + b := by
      rw [Int.natCast_add, Int.mul_add]
      show _ + b * 1 = _
      rw [Int.mul_one]
    omega
theorem wt0_range {ds : List Int} {n s : Nat} : ∀ x ∈ wt0 ds n s, 0 ≤ x ∧ x ≤ 3 := fun x hx => by
  obtain ⟨t, _, rfl⟩ := List.mem_map.mp hx
  have := fmod_range (i := iAt ds (2 + n + n * s + t)) (m := 4) (by decide)
  omega
theorem wt0_len {ds : List Int} {n s : Nat} : (wt0 ds n s).length = n := by
  unfold wt0
  rw [List.length_map, List.length_range]
theorem wts_len {ds : List Int} {n s : Nat} : (wts ds n s).length = n := by
  unfold wts
  by_cases h : (wt0 ds n s).sum = 0
  · rw [if_pos h, List.length_set]; exact wt0_len
  · rw [if_neg h]; exact wt0_len
theorem wts_range {ds : List Int} {n s : Nat} : ∀ x ∈ wts ds n s, 0 ≤ x ∧ x ≤ 3 := fun x hx => by
  unfold wts at hx
  by_cases h : (wt0 ds n s).sum = 0
  · rw [if_pos h] at hx
    rcases List.mem_or_eq_of_mem_set hx with e | e
    · exact wt0_range x e
    · rw [e]; decide
  · rw [if_neg h] at hx
    exact wt0_range x hx
theorem wts_pos {ds : List Int} {n s : Nat} (hn : 0 < n) : 0 < (wts ds n s).sum := by
  have nn : ∀ x ∈ wt0 ds n s, 0 ≤ x := fun x hx => (wt0_range x hx).1
  unfold wts
  by_cases h : (wt0 ds n s).sum = 0
  · rw [if_pos h, isum_set (isum_zero nn h) (by rw [wt0_len]; exact Nat.mod_lt _ hn)]
    decide
  · rw [if_neg h]
    have := isum_nn nn
    omega
theorem fdiv_nn {a b : Int} (h : 0 ≤ a) (hb : 0 ≤ b) : 0 ≤ a.fdiv b := by
  rw [Int.fdiv_eq_ediv_of_nonneg _ hb]
  exact Int.ediv_nonneg h hb
theorem divInt_dn {n d : Int} (h : 0 < d) : ((d.toNat : Nat) : Rat) * Rat.divInt n d = (n : Rat) := by
  have e : ((d.toNat : Nat) : Rat) = ((d : Int) : Rat) := by
    have : ((d.toNat : Nat) : Int) = d := Int.toNat_of_nonneg (by omega)
    rw [← this] <;> rfl
  have hd : ((d : Int) : Rat) ≠ 0 := fun q => by
    have : d = 0 := by exact_mod_cast q
    omega
  rw [e, Rat.divInt_eq_div]
  grind
theorem divInt_sz {n d : Int} {k : Nat} (h : 0 < d) (h1 : d < 2 ^ k) (h2 : n.natAbs < 2 ^ k) : Sz k (Rat.divInt n d) := by
  refine Sz.of (by omega) (divInt_dn h) ?_ h2
  have : ((d.toNat : Nat) : Int) = d := Int.toNat_of_nonneg (by omega)
  have h3 : ((d.toNat : Nat) : Int) < ((2 ^ k : Nat) : Int) := by
    rw [this]
    exact_mod_cast h1
  exact_mod_cast h3
theorem frac_sz (d : Int) : Sz 5 (fracOf d) := by
  have h1 := fmod_range (i := d) (m := 13) (by decide)
  have h2 := fmod_range (i := d.fdiv 13) (m := 4) (by decide)
  exact divInt_sz (by omega) (by show _ < (2 : Int) ^ 5; have : (2 : Int) ^ 5 = 32 := rfl; omega) (by have : (2 : Nat) ^ 5 = 32 := rfl; omega)
section
variable {P : Program} {w : World} {K : Frg} {C : Addr} {mg : Str → Option Value} {base : Heap} {z1 o1 z2 o2 z3 o3 : Addr} (G : Glo K mg base z1 o1 z2 o2 z3 o3)
include G in
theorem has_play (h_law_add : Has P w K mg base "_law_add" 42 ["_law_a", "_law_b"] (spR K C RAdd)) (h_law_mul : Has P w K mg base "_law_mul" 42 ["_law_a", "_law_b"] (spR K C RMul)) (F : Def K mg "_law_play" s_law_play ["_law_game_here", "_law_state", "_law_discount_here", "_law_table"]) :
    Has P w K mg base "_law_play" 43 ["_law_game_here", "_law_state", "_law_discount_here", "_law_table"] (spR K C RPlay) := by
  obtain ⟨f, fd, F, m, b'⟩ := F
  refine has_of F m b' (fn_ok F sc_law_play (fun as z h => by cases h; rfl) fun cdv A outer s0 H Q E hr as z h => ?_)
  obtain ⟨g, b, q, s, j, tb, h, hs, hl, tz, hj⟩ := h
  refine ⟨_, (pss_cons (ps_set (i := 4) sc_law_play.nd rfl (.inl rfl) (pe_tup (pa_cons pe_int (pa_cons pe_int pa_nil))))
    (pss_cons (ps_for PassesOwn.never rfl (pi_tup (pe_ix ix_tup (pe_ix ix_tup (pv 0) pe_int (fun _ _ => rfl)) (pv 1) (fun _ _ => rfl))) (pg_name (i := 5) sc_law_play.nd rfl (.inl rfl)) (pss_one (ps_set (i := 4) sc_law_play.nd rfl (.inl rfl) (pe_has h_law_add (hr.mono (by decide)) (by rfl) (pa_cons (pv 4) (pa_cons (pe_has h_law_mul (hr.mono (by decide)) (by rfl) (pa_cons (pe_ix ix_tup (pv 5) pe_int (fun _ _ => rfl)) (pa_cons (pe_ix ix_tup (pv 3) (pe_ix ix_tup (pv 5) pe_int (fun _ _ => rfl)) (fun _ _ => rfl)) pa_nil))) pa_nil))))))
    (pss_one (ps_ret (pe_has h_law_add (hr.mono (by decide)) (by rfl) (pa_cons (pe_ix ix_tup (pe_ix ix_tup (pv 0) pe_int (fun _ _ => rfl)) (pv 1) (fun _ _ => rfl)) (pa_cons (pe_has h_law_mul (hr.mono (by decide)) (by rfl) (pa_cons (pv 2) (pa_cons (pv 4) pa_nil))) pa_nil))))))), ?_⟩
  have hq := h.q
  have bs := h.bsz
  have r4 := h.r4 s
  have dz : ∀ i, Sz (24 + 4 * j) (dot ((g.row s).take i) (en tb)) := fun i => by
    refine (dot_sz (row := (g.row s).take i) (fun tp m => h.tp hs tp (List.mem_of_mem_take m)) fun tp _ => tz tp.1).mono ?_
    have l : ((g.row s).take i).length ≤ 4 := by rw [List.length_take]; omega
    have : ((g.row s).take i).length * (j + 5) ≤ 4 * (j + 5) := Nat.mul_le_mul_right _ l
    omega
  refine st_seq (st_asg ed_r0 (lt_ok rfl) ?_)
  refine st_seq (st_forT (ds := (g.row s).map tpD) (n := 6) (f := fun d r => r.set 5 (.dat d)) (fun i r' => ∃ y5, r' = [.dat (gmD g), .dat (intD s), .dat (rat b), .dat (rowD tb), .dat (rat (dot ((g.row s).take i) (en tb))), y5]) (e_ix (n := s) (e_ix (n := 1) (ed_var rfl) ed_int rfl rfl) (ed_var rfl) rfl (ms_get h.ok hs)) ⟨_, rfl⟩ (fun i r' ⟨_, e⟩ => by rw [e]; exact Nat.le_of_ble_eq_true rfl) (fun i d hd => tg_name 5) (fun i d r' hi ⟨y5, e⟩ => ?_) fun r' ⟨y5, e⟩ => ?_)
  · subst e
    rw [List.getElem?_map] at hi
    obtain ⟨tp, htp, rfl⟩ := Option.map_eq_some_iff.mp hi
    have mt := List.mem_of_getElem? htp
    have psz := h.tp hs tp mt
    have ts : (g.row s).take (i + 1) = (g.row s).take i ++ [tp] := by rw [List.take_add_one, htp] <;> rfl
    have one : dot ((g.row s).take i) (en tb) + tp.2 * en tb tp.1 = dot ((g.row s).take (i + 1)) (en tb) := by
      rw [ts, dot_app]
      show _ = _ + (tp.2 * en tb tp.1 + 0)
      grind
    refine st_asg (e_add (ed_var rfl) (e_mul (e_ix (n := 1) (ed_var rfl) ed_int rfl rfl) (e_ix (n := tp.1) (ed_var rfl) (e_ix (n := 0) (ed_var rfl) ed_int rfl rfl) rfl (en_getR (by rw [hl]; exact h.ok.tgt s tp mt))) (psz.big (by omega)) ((tz _).big (by omega))) ((dz i).big (by omega)) ((psz.mul (tz _)).big (by omega))) (lt_ok rfl) ?_
    rw [one]
    exact ⟨_, rfl⟩
  · subst e
    have dz' := dz (g.row s).length
    rw [List.take_length] at dz'
    rw [List.length_map, List.take_length]
    exact st_ret (e_add (e_ix (n := s) (e_ix (n := 0) (ed_var rfl) ed_int rfl rfl) (ed_var rfl) rfl (rs_get hs)) (e_mul (ed_var rfl) (ed_var rfl) (bs.big (by omega)) (dz'.big (by omega))) ((h.rw hs).big (by omega)) ((bs.mul dz').big (by omega))) rfl
include G in
theorem has_game (h_law_draws : Has P w K mg base "_law_draws" 40 ["_law_cell_here", "_law_count"] (spR K C RDraw)) (h_law_low : Has P w K mg base "_law_low" 41 ["_law_n", "_law_d"] (spR K C RLow)) (h_law_fraction : Has P w K mg base "_law_fraction" 42 ["_law_draw"] (spR K C RFrac)) (F : Def K mg "_law_game" s_law_game ["_law_cell_here", "_law_most"]) :
    Has P w K mg base "_law_game" 43 ["_law_cell_here", "_law_most"] (spR K C RGame) := by
  obtain ⟨f, fd, F, m', b'⟩ := F
  refine has_of F m' b' (fn_ok F sc_law_game (fun as z h => by cases h; rfl) fun cdv A outer s0 H Q E hr as z h => ?_)
  obtain ⟨c, m, m1, m3, hc⟩ := h
  refine ⟨_, (pss_cons (ps_set (i := 2) sc_law_game.nd rfl (.inr rfl) (pe_has h_law_draws (hr.mono (by decide)) (by rfl) (pa_cons (pv 0) (pa_cons (pe_op op_add (pe_op op_add pe_int (pv 1)) (pe_op op_mulB (pv 1) (pv 1))) pa_nil))))
    (pss_cons (ps_set (i := 3) sc_law_game.nd rfl (.inr rfl) (pe_op op_add pe_int (pe_op op_modN (pe_callTy cr_int (by rfl) G.int b_int (pa_cons (pe_ix ix_list (pv 2) pe_int (fun _ _ => rfl)) pa_nil)) (pv 1))))
    (pss_cons (ps_set (i := 4) sc_law_game.nd rfl (.inl rfl) (pe_lst pa_nil))
    (pss_cons (ps_for PassesOwn.never rfl (pi_range1 (by rfl) G.range (pa_cons (pv 3) pa_nil)) (pg_name (i := 5) sc_law_game.nd rfl (.inr rfl)) (pss_cons (ps_set (i := 6) sc_law_game.nd rfl (.inl rfl) (pe_has h_law_fraction (hr.mono (by decide)) (by rfl) (pa_cons (pe_ix ix_list (pv 2) (pe_op op_add pe_int (pv 5)) (fun _ _ => rfl)) pa_nil)))
    (pss_cons (ps_if (pt_cmpR op_eq (pe_op op_modN (pe_callTy cr_int (by rfl) G.int b_int (pa_cons (pe_ix ix_list (pv 2) pe_int (fun _ _ => rfl)) pa_nil)) pe_int) pe_int (nomark _)) (pss_one (ps_set (i := 6) sc_law_game.nd rfl (.inl rfl) (pe_has h_law_low (hr.mono (by decide)) (by rfl) (pa_cons (pe_op op_add (pe_op op_mulB (pe_ix ix_tup (pv 6) pe_int (fun _ _ => rfl)) (pe_op op_pow pe_int pe_int)) (pe_op op_modN (pe_callTy cr_int (by rfl) G.int b_int (pa_cons (pv 0) pa_nil)) (pe_op op_pow pe_int pe_int))) (pa_cons (pe_ix ix_tup (pv 6) pe_int (fun _ _ => rfl)) pa_nil))))) pss_nil)
    (pss_one (ps_expr (pe_bm PySem.F.plainAttrs_list PySem.F.slot_list_append PySem.F.type_list_append mt_append (pv 4) (pa_cons (pv 6) pa_nil)))))))
    (pss_cons (ps_set (i := 7) sc_law_game.nd rfl (.inl rfl) (pe_lst pa_nil))
    (pss_cons (ps_for PassesOwn.never rfl (pi_range1 (by rfl) G.range (pa_cons (pv 3) pa_nil)) (pg_name (i := 5) sc_law_game.nd rfl (.inr rfl)) (pss_cons (ps_set (i := 8) sc_law_game.nd rfl (.inr rfl) (pe_lc (own := [("_law_t", 9)]) (g := (gName 9)) rfl sc_law_game.nd (pi_range1 (by rfl) G.range (pa_cons (pv 3) pa_nil)) (blkOk_by (N := ["_law_cell_here", "_law_most", "_law_draws_here", "_law_n", "_law_rewards", "_law_s", "_law_reward", "_law_moves", "_law_weights", "_law_t"]) (sc := defScope s_law_game) (by decide +kernel)) (fun _ _ _ _ _ => (pg_name (i := 9) sc_law_game.nd rfl (.inl rfl))) (fun _ _ _ _ _ => pts_nil) (fun _ _ _ _ _ => (pe_op op_modN (pe_callTy cr_int (by rfl) G.int b_int (pa_cons (pe_ix (ixL_of (K := K) rfl) (pv 2) (pe_op op_add (pe_op op_add (pe_op op_add pe_int (pv 3)) (pe_op op_mulB (pv 3) (pv 5))) (pv 9)) (fun _ _ => rfl)) pa_nil)) pe_int))))
    (pss_cons (ps_if (pt_cmpR op_eq (pe_callB (cr_sum rfl) (by rfl) G.sum b_sum (pa_cons (pv 8) pa_nil)) pe_int (nomark _)) (pss_one (ps_asg pe_int (pg_sub (pv 8) (pe_op op_modN (pe_callTy cr_int (by rfl) G.int b_int (pa_cons (pe_op op_add (pv 5) pe_int) pa_nil)) (pv 3)) set_list))) pss_nil)
    (pss_one (ps_expr (pe_bm PySem.F.plainAttrs_list PySem.F.slot_list_append PySem.F.type_list_append mt_append (pv 7) (pa_cons (pe_callTy cr_tup (by rfl) G.tuple b_tuple (pa_cons (pe_lc (own := [("_law_t", 9)]) (g := (gName 9)) rfl sc_law_game.nd (pi_range1 (by rfl) G.range (pa_cons (pv 3) pa_nil)) (blkOk_by (N := ["_law_cell_here", "_law_most", "_law_draws_here", "_law_n", "_law_rewards", "_law_s", "_law_reward", "_law_moves", "_law_weights", "_law_t"]) (sc := defScope s_law_game) (by decide +kernel)) (fun _ _ _ _ _ => (pg_name (i := 9) sc_law_game.nd rfl (.inl rfl))) (fun _ _ _ _ _ => (pts_one (pt_cmpR op_gt (pe_ix (ixL_of (K := K) rfl) (pv 8) (pv 9) (fun _ _ => rfl)) pe_int (nomark _)))) (fun _ _ _ _ _ => (pe_tup (pa_cons (pv 9) (pa_cons (pe_has h_law_low (hr.mono (by decide)) (by rfl) (pa_cons (pe_ix (ixL_of (K := K) rfl) (pv 8) (pv 9) (fun _ _ => rfl)) (pa_cons (pe_callB (crSum_of (K := K) rfl rfl) (by rfl) G.sum b_sum (pa_cons (pv 8) pa_nil)) pa_nil))) pa_nil))))) pa_nil)) pa_nil)))))))
    (pss_one (ps_ret (pe_tup (pa_cons (pe_callTy cr_tup (by rfl) G.tuple b_tuple (pa_cons (pv 4) pa_nil)) (pa_cons (pe_callTy cr_tup (by rfl) G.tuple b_tuple (pa_cons (pv 7) pa_nil)) pa_nil))))))))))), ?_⟩
  have mm : m * m ≤ 9 := Nat.mul_le_mul m3 m3
  unfold gameOf
  have dl := draws_len c (2 + m + m * m)
  have dr : ∀ k, 0 ≤ iAt (draws c (2 + m + m * m)) k := fun k => draw_at.1
  refine st_seq (st_asgN (en_call (ea_d (ed_var rfl) (ea_d (d := intD (2 + m + m * m)) (ed_is (ed_i (ed_i ed_int (ed_var rfl)) (ed_ic (ed_var rfl) (ed_var rfl) (small_mul (by omega) (by omega) (by omega) (by omega)))) (by show Dat.int _ = Dat.int _; congr 1)) ea_nil)) (.mk c (2 + m + m * m) (by omega) hc)) (lt_ok rfl) fun p2 => ?_)
  generalize draws c (2 + m + m * m) = ds at dl dr ⊢
  have d0 := fmod_range (i := iAt ds 0) (m := (m : Int)) (by omega)
  have nn : (gN ds m : Int) = 1 + (iAt ds 0).fmod (m : Int) := by unfold gN; omega
  have n1 : 1 ≤ gN ds m := by unfold gN; omega
  have n3 : gN ds m ≤ m := by omega
  refine st_seq (st_asg (d := intD (gN ds m)) (ed_is (ed_i ed_int (ed_ic (ed_intI (e_iL (n := 0) (el_own rfl) ed_int rfl (by omega))) (ed_var rfl) (by omega))) (by rw [← nn])) (lt_ok rfl) ?_)
  generalize gN ds m = n at n1 n3 nn ⊢
  have nm : n * n ≤ m * m := Nat.mul_le_mul n3 n3
  refine st_seq (st_asgN en_l0 (lt_ok rfl) fun p4 => ?_)
  refine st_seq (st_forR (N := n) (fun i r' => ∃ y5 y6 y7 y8 y9, r' = [.dat (.int c), .dat (intD m), .own p2 (ds.map lntD), .dat (intD n), .own p4 (((List.range i).map (rewD c ds)).map rat), y5, y6, y7, y8, y9]) (ea_d (ed_var rfl) ea_nil) (by omega) ⟨_, _, _, _, _, rfl⟩ (fun i r' ⟨_, _, _, _, _, e⟩ => by rw [e]; exact lt_ok rfl) (fun i r' hi ⟨y5, y6, y7, y8, y9, e⟩ => ?_) fun r' ⟨y5, y6, y7, y8, y9, e⟩ => ?_)
  · subst e
    have fz := frac_sz (iAt ds (2 + i))
    have es : ((List.range (i + 1)).map (rewD c ds)).map rat = ((List.range i).map (rewD c ds)).map rat ++ [rat (rewD c ds i)] := by
      rw [range_snoc, List.map_append] <;> rfl
    refine st_seq (st_asg (ed_call (ea_d (e_iL (n := 2 + i) (el_own rfl) (ed_i ed_int (ed_var rfl)) (by omega) (by omega)) ea_nil) (.mk _)) (lt_ok rfl) ?_)
    refine st_cut (fun r' => ∃ y5 y7 y8 y9, r' = [.dat (.int c), .dat (intD m), .own p2 (ds.map lntD), .dat (intD n), .own p4 (((List.range i).map (rewD c ds)).map rat), y5, .dat (rat (rewD c ds i)), y7, y8, y9]) (st_if (tt_test (ed_eqI (ed_ic (ed_intI (e_iL (n := 1) (el_own rfl) ed_int rfl (by omega))) ed_int (by decide)) ed_int)) (fun h => ?_) fun h => ?_) fun r' ⟨y5, y7, y8, y9, e⟩ => ?_
    · have h := of_decide_eq_true h
      have dp := den_pos (fracOf (iAt ds (2 + i)))
      have e : rewD c ds i = Rat.divInt ((fracOf (iAt ds (2 + i))).num * 10 ^ 30 + c.fmod (10 ^ 30)) ((fracOf (iAt ds (2 + i))).den : Int) := if_pos h
      rw [e]
      refine st_asg (ed_call (ea_d (ed_i (ed_ic (ed_ixT (ed_var rfl) ed_int rfl) (ed_ic (f := fun i j => i ^ j.toNat) (i := 10) (j := 30) ed_int ed_int (by unfold CPow; decide)) ⟨5, 200, by decide, fz.1, by decide⟩) (ed_ic (ed_intI (ed_var rfl)) (ed_ic (f := fun i j => i ^ j.toNat) (i := 10) (j := 30) ed_int ed_int (by unfold CPow; decide)) (by decide))) (ea_d (ed_ixT (ed_var rfl) ed_int rfl) ea_nil)) (.mk _ _ _ (by omega) rfl)) (lt_ok rfl) ?_
      exact ⟨_, _, _, _, rfl⟩
    · have h := of_decide_eq_false h
      refine st_next ?_
      have e : rewD c ds i = fracOf (iAt ds (2 + i)) := if_neg h
      rw [e]
      exact ⟨_, _, _, _, rfl⟩
    · subst e
      refine st_app rfl (ed_var rfl) (by rw [List.length_map, List.length_map, List.length_range]; omega) ?_
      rw [es]
      exact ⟨_, _, _, _, _, rfl⟩
  · subst e
    refine st_seq (st_asgN en_l0 (lt_ok rfl) fun p7 => ?_)
    refine st_seq (st_forR (N := n) (fun i r' => ∃ y5 y6 y8 y9, r' = [.dat (.int c), .dat (intD m), .own p2 (ds.map lntD), .dat (intD n), .own p4 (((List.range n).map (rewD c ds)).map rat), y5, y6, .own p7 (((List.range i).map fun (s : Nat) => mvs (wts ds n s) n).map rwD), y8, y9]) (ea_d (ed_var rfl) ea_nil) (by omega) ⟨_, _, _, _, rfl⟩ (fun i r' ⟨_, _, _, _, e⟩ => by rw [e]; exact lt_ok rfl) (fun i r' hi ⟨y5, y6, y8, y9, e⟩ => ?_) fun r' ⟨y5, y6, y8, y9, e⟩ => ?_)
    · subst e
      have ni : n * i + n ≤ n * n := by
        have : n * (i + 1) ≤ n * n := Nat.mul_le_mul_left _ (by omega)
        rw [Nat.mul_add, Nat.mul_one] at this
        exact this
      have es : (((List.range (i + 1)).map fun (s : Nat) => mvs (wts ds n s) n).map rwD) = ((List.range i).map fun (s : Nat) => mvs (wts ds n s) n).map rwD ++ [rwD (mvs (wts ds n i) n)] := by
        rw [range_snoc, List.map_append] <;> rfl
      rw [es]
      refine st_seq (st_asgN (ds := (wt0 ds n i).map lntD) (en_is (en_lcR0 (N := n) (fun t => .int ((iAt ds (2 + n + n * i + t)).fmod 4)) (ea_d (ed_var rfl) ea_nil) (by omega) (lt_ok rfl) fun t ht => ed_ic (ed_intI (e_iL (n := 2 + n + n * i + t) (el_own rfl) (ed_i (ed_i (ed_i ed_int (ed_var rfl)) (ed_ic (ed_var rfl) (ed_var rfl) (small_mul (by omega) (by omega) (by omega) (by omega)))) (ed_var rfl)) (by rw [Int.natCast_add, Int.natCast_add, Int.natCast_add, Int.natCast_mul] <;> rfl) (by omega))) ed_int (by decide)) (by unfold wt0; rw [List.map_map] <;> rfl)) (lt_ok rfl) fun p8 => ?_)
      have w0l := wt0_len (ds := ds) (n := n) (s := i)
      have wl := wts_len (ds := ds) (n := n) (s := i)
      have wp := wts_pos (ds := ds) (n := n) (s := i) (by omega)
      refine st_cut (fun r' => ∃ y6 y9, r' = [.dat (.int c), .dat (intD m), .own p2 (ds.map lntD), .dat (intD n), .own p4 (((List.range n).map (rewD c ds)).map rat), .dat (intD i), y6, .own p7 (((List.range i).map fun (s : Nat) => mvs (wts ds n s) n).map rwD), .own p8 ((wts ds n i).map lntD), y9]) (st_if (tt_test (ed_eqI (ed_sum (el_own rfl)) ed_int)) (fun h => ?_) fun h => ?_) fun r' ⟨y6, y9, e⟩ => ?_
      · have h := of_decide_eq_true h
        have e : wts ds n i = (wt0 ds n i).set ((i + 1) % n) 1 := if_pos h
        rw [e]
        have ek : ((i : Int) + 1).fmod (n : Int) = (((i + 1) % n : Nat) : Int) := by
          rw [Int.fmod_eq_emod_of_nonneg _ (by omega)]
          exact (Int.natCast_emod (i + 1) n).symm
        refine st_setI (n := (i + 1) % n) rfl ed_int (ed_is (ed_ic (ed_intI (ed_i (ed_var rfl) ed_int)) (ed_var rfl) (by omega)) (by rw [ek])) (by rw [List.length_map, w0l]; exact Nat.mod_lt _ (by omega)) ?_
        rw [List.map_set]
        exact ⟨_, _, rfl⟩
      · have h := of_decide_eq_false h
        have e : wts ds n i = wt0 ds n i := if_neg h
        rw [e]
        exact st_next ⟨_, _, rfl⟩
      · subst e
        generalize wts ds n i = ws at wl wp ⊢
        refine st_app rfl (ed_is (ed_tupL (el_of_n (en_lcR (N := n) (fun d => match d with | .int t => decide (0 < iAt ws t.toNat) | _ => false) (fun d => match d with | .int t => tpD (t.toNat, Rat.divInt (iAt ws t.toNat) ws.sum) | _ => .non) (ea_d (ed_var rfl) ea_nil) (by omega) (lt_ok rfl) (fun t ht => ?_) fun t ht _ => ?_))) ?_) (by rw [List.length_map, List.length_map, List.length_range]; omega) ⟨_, _, _, _, rfl⟩
        · exact tt_test (ed_b (e_iL (n := t) (el_own rfl) (ed_var rfl) rfl (by omega)) ed_int)
        · exact ed_t2 (ed_var rfl) (ed_call (ea_d (e_iL (n := t) (el_own rfl) (ed_var rfl) rfl (by omega)) (ea_d (ed_sum (el_own rfl)) ea_nil)) (.mk _ _ _ (by omega) rfl))
        · show Dat.tup _ = Dat.tup _
          unfold mvs rngD
          rw [List.filter_map, List.map_map, List.map_map] <;> rfl
    · subst e
      exact st_ret (ed_t2 (ed_tupL (el_own rfl)) (ed_tupL (el_own rfl))) rfl
theorem gmOf_n (c : Int) (ds : List Int) (n : Nat) : (gmOf c ds n).n = n := by
  show ((List.range n).map (rewD c ds)).length = n
  rw [List.length_map, List.length_range]
theorem gN_pos (ds : List Int) (m : Nat) : 1 ≤ gN ds m := by unfold gN; omega
include G in
theorem has_place (h_law_draws : Has P w K mg base "_law_draws" 40 ["_law_cell_here", "_law_count"] (spR K C RDraw)) (h_law_game : Has P w K mg base "_law_game" 43 ["_law_cell_here", "_law_most"] (spR K C RGame)) (F : Def K mg "_law_place" s_law_place ["_law_cell_here", "_law_most"]) :
    Has P w K mg base "_law_place" 44 ["_law_cell_here", "_law_most"] (spR K C RPlace) := by
  obtain ⟨f, fd, F, m', b'⟩ := F
  refine has_of F m' b' (fn_ok F sc_law_place (fun as z h => by cases h; rfl) fun cdv A outer s0 H Q E hr as z h => ?_)
  obtain ⟨c, m, m1, m3, hc⟩ := h
  refine ⟨_, (pss_cons (ps_set (i := 2) sc_law_place.nd rfl (.inl rfl) (pe_has h_law_game (hr.mono (by decide)) (by rfl) (pa_cons (pv 0) (pa_cons (pv 1) pa_nil))))
    (pss_one (ps_ret (pe_tup (pa_cons (pv 2) (pa_cons (pe_op op_modN (pe_op op_fdivN (pe_callTy cr_int (by rfl) G.int b_int (pa_cons (pe_ix ix_list (pe_has h_law_draws (hr.mono (by decide)) (by rfl) (pa_cons (pv 0) (pa_cons pe_int pa_nil))) pe_int (fun _ _ => rfl)) pa_nil)) pe_int) (pe_callB cr_len (by rfl) G.len PySem.boot_len (pa_cons (pe_ix ix_tup (pv 2) pe_int (fun _ _ => rfl)) pa_nil))) pa_nil)))))), ?_⟩
  have gn : 1 ≤ (gameOf c m).n := by
    unfold gameOf
    rw [gmOf_n]
    exact gN_pos _ _
  have dl := draws_len c 2
  refine st_seq (st_asg (ed_call (ea_d (ed_var rfl) (ea_d (ed_var rfl) ea_nil)) (.mk c m m1 m3 hc)) (lt_ok rfl) ?_)
  unfold stateOf
  generalize gameOf c m = g at gn ⊢
  have r1 := fmod_range (i := (iAt (draws c 2) 1).fdiv 8) (m := (g.n : Int)) (by omega)
  have en : ((((iAt (draws c 2) 1).fdiv 8).fmod (g.n : Int)).toNat : Int) = ((iAt (draws c 2) 1).fdiv 8).fmod (g.n : Int) := Int.toNat_of_nonneg r1.1
  refine st_ret (ed_t2 (ed_var rfl) (d := gmD g) (e := intD (((iAt (draws c 2) 1).fdiv 8).fmod (g.n : Int)).toNat) (ed_is (ed_ic (j := (g.n : Int)) (ed_ic (ed_intI (e_iL (l := draws c 2) (n := 1) (el_of_n (en_call (ea_d (ed_var rfl) (ea_d ed_int ea_nil)) (.mk c 2 (by omega) hc))) ed_int rfl (by rw [dl]; decide))) ed_int ⟨by decide, by decide⟩) (ed_is (ed_lenT (e_ix (n := 0) (ds := [.tup (g.rs.map rat), .tup (g.ms.map rwD)]) (ed_var rfl) ed_int rfl rfl)) (by rw [List.length_map] <;> rfl)) (by omega)) (by show Dat.int _ = Dat.int _; rw [en]))) rfl
theorem thW_len (ds : List Int) (n : Nat) : (thW ds n).length = n := by
  unfold thW
  rw [List.length_map, List.length_range]
theorem thW_range {ds : List Int} {n : Nat} : ∀ x ∈ thW ds n, 1 ≤ x ∧ x ≤ 4 := fun x hx => by
  obtain ⟨t, _, rfl⟩ := List.mem_map.mp hx
  have := fmod_range (i := iAt ds (5 + t)) (m := 4) (by decide)
  omega
theorem thW_pos {ds : List Int} {n : Nat} (hn : 0 < n) : 0 < (thW ds n).sum := by
  have r := thW_range (ds := ds) (n := n)
  have l := thW_len ds n
  cases h : thW ds n with
  | nil => rw [h] at l; simp at l; omega
  | cons a t =>
    rw [h] at r
    rw [List.sum_cons]
    have h1 := (r a (List.mem_cons_self ..)).1
    have h2 := isum_nn (l := t) fun x hx => by have := (r x (List.mem_cons_of_mem _ hx)).1; omega
    omega
include G in
theorem has_throw (h_law_draws : Has P w K mg base "_law_draws" 40 ["_law_cell_here", "_law_count"] (spR K C RDraw)) (h_law_low : Has P w K mg base "_law_low" 41 ["_law_n", "_law_d"] (spR K C RLow)) (h_law_fraction : Has P w K mg base "_law_fraction" 42 ["_law_draw"] (spR K C RFrac)) (h_law_add : Has P w K mg base "_law_add" 42 ["_law_a", "_law_b"] (spR K C RAdd)) (F : Def K mg "_law_throw" s_law_throw ["_law_cell_here"]) :
    Has P w K mg base "_law_throw" 43 ["_law_cell_here"] (spR K C RThrow) := by
  obtain ⟨f, fd, F, m', b'⟩ := F
  refine has_of F m' b' (fn_ok F sc_law_throw (fun as z h => by cases h; rfl) fun cdv A outer s0 H Q E hr as z h => ?_)
  obtain ⟨c, hc⟩ := h
  refine ⟨_, (pss_cons (ps_set (i := 1) sc_law_throw.nd rfl (.inr rfl) (pe_has h_law_draws (hr.mono (by decide)) (by rfl) (pa_cons (pv 0) (pa_cons pe_int pa_nil))))
    (pss_cons (ps_set (i := 2) sc_law_throw.nd rfl (.inl rfl) (pe_op op_add pe_int (pe_op op_modN (pe_callTy cr_int (by rfl) G.int b_int (pa_cons (pe_ix ix_list (pv 1) pe_int (fun _ _ => rfl)) pa_nil)) pe_int)))
    (pss_cons (ps_setLc (i := 4) (own := [("_law_k", 3)]) (g := (gName 3)) rfl sc_law_throw.nd rfl rfl (sw_true rfl rfl rfl (by decide +kernel)) (pi_range1 (by rfl) G.range (pa_cons (pe_op op_add (pv 2) pe_int) pa_nil)) (blkOk_by (N := ["_law_cell_here", "_law_draws_here", "_law_n", "_law_k", "_law_rewards", "_law_weights", "_law_moves"]) (sc := defScope s_law_throw) (by decide +kernel)) (fun _ _ _ _ _ => (pg_name (i := 3) sc_law_throw.nd rfl (.inl rfl))) (fun _ _ _ _ _ => pts_nil) (fun _ _ _ _ _ => (pe_has h_law_fraction (hr.mono (by decide)) (by rfl) (pa_cons (pe_ix (ixL_of (K := K) rfl) (pv 1) (pe_op op_add pe_int (pv 3)) (fun _ _ => rfl)) pa_nil))))
    (pss_cons (ps_asg (pe_has h_law_add (hr.mono (by decide)) (by rfl) (pa_cons (pe_ix ix_list (pv 4) pe_int (fun _ _ => rfl)) (pa_cons (pe_tup (pa_cons pe_int (pa_cons pe_int pa_nil))) pa_nil))) (pg_sub (pv 4) pe_int set_list))
    (pss_cons (ps_set (i := 5) sc_law_throw.nd rfl (.inr rfl) (pe_lc (own := [("_law_k", 3)]) (g := (gName 3)) rfl sc_law_throw.nd (pi_range1 (by rfl) G.range (pa_cons (pv 2) pa_nil)) (blkOk_by (N := ["_law_cell_here", "_law_draws_here", "_law_n", "_law_k", "_law_rewards", "_law_weights", "_law_moves"]) (sc := defScope s_law_throw) (by decide +kernel)) (fun _ _ _ _ _ => (pg_name (i := 3) sc_law_throw.nd rfl (.inl rfl))) (fun _ _ _ _ _ => pts_nil) (fun _ _ _ _ _ => (pe_op op_add pe_int (pe_op op_modN (pe_callTy cr_int (by rfl) G.int b_int (pa_cons (pe_ix (ixL_of (K := K) rfl) (pv 1) (pe_op op_add pe_int (pv 3)) (fun _ _ => rfl)) pa_nil)) pe_int)))))
    (pss_cons (ps_set (i := 6) sc_law_throw.nd rfl (.inl rfl) (pe_lst (pa_cons (pe_callTy cr_tup (by rfl) G.tuple b_tuple (pa_cons (pe_lc (own := [("_law_k", 3)]) (g := (gName 3)) rfl sc_law_throw.nd (pi_range1 (by rfl) G.range (pa_cons (pv 2) pa_nil)) (blkOk_by (N := ["_law_cell_here", "_law_draws_here", "_law_n", "_law_k", "_law_rewards", "_law_weights", "_law_moves"]) (sc := defScope s_law_throw) (by decide +kernel)) (fun _ _ _ _ _ => (pg_name (i := 3) sc_law_throw.nd rfl (.inl rfl))) (fun _ _ _ _ _ => pts_nil) (fun _ _ _ _ _ => (pe_tup (pa_cons (pe_op op_add (pv 3) pe_int) (pa_cons (pe_has h_law_low (hr.mono (by decide)) (by rfl) (pa_cons (pe_ix (ixL_of (K := K) rfl) (pv 5) (pv 3) (fun _ _ => rfl)) (pa_cons (pe_callB (crSum_of (K := K) rfl rfl) (by rfl) G.sum b_sum (pa_cons (pv 5) pa_nil)) pa_nil))) pa_nil))))) pa_nil)) pa_nil)))
    (pss_cons (ps_for PassesOwn.never rfl (pi_range1 (by rfl) G.range (pa_cons (pv 2) pa_nil)) (pg_name (i := 3) sc_law_throw.nd rfl (.inl rfl)) (pss_one (ps_expr (pe_bm PySem.F.plainAttrs_list PySem.F.slot_list_append PySem.F.type_list_append mt_append (pv 6) (pa_cons (pe_tup (pa_cons (pe_tup (pa_cons (pe_op op_add (pv 3) pe_int) (pa_cons (pe_tup (pa_cons pe_int (pa_cons pe_int pa_nil))) pa_nil))) pa_nil)) pa_nil)))))
    (pss_one (ps_ret (pe_tup (pa_cons (pe_tup (pa_cons (pe_callTy cr_tup (by rfl) G.tuple b_tuple (pa_cons (pv 4) pa_nil)) (pa_cons (pe_callTy cr_tup (by rfl) G.tuple b_tuple (pa_cons (pv 6) pa_nil)) pa_nil))) (pa_cons pe_int pa_nil)))))))))))), ?_⟩
  have dl := draws_len c 8
  unfold throwOf
  refine st_seq (st_asgN (en_call (ea_d (ed_var rfl) (ea_d ed_int ea_nil)) (.mk c 8 (by omega) hc)) (lt_ok rfl) fun p1 => ?_)
  generalize draws c 8 = ds at dl ⊢
  have r0 := fmod_range (i := iAt ds 0) (m := 2) (by decide)
  have en : ((2 + ((iAt ds 0).fmod 2).toNat : Nat) : Int) = 2 + (iAt ds 0).fmod 2 := by omega
  have n3 : 2 + ((iAt ds 0).fmod 2).toNat ≤ 3 := by omega
  refine st_seq (st_asg (d := intD (2 + ((iAt ds 0).fmod 2).toNat)) (ed_is (ed_i ed_int (ed_ic (ed_intI (e_iL (n := 0) (el_own rfl) ed_int rfl (by omega))) ed_int (by decide))) (by rw [← en])) (lt_ok rfl) ?_)
  have n2 : 2 ≤ 2 + ((iAt ds 0).fmod 2).toNat := by omega
  generalize 2 + ((iAt ds 0).fmod 2).toNat = n at n2 n3 ⊢
  refine st_seq (st_asgN (ds := ((List.range (n + 1)).map fun (k : Nat) => fracOf (iAt ds (1 + k))).map rat) (en_is (en_lcR0 (N := n + 1) (fun k => rat (fracOf (iAt ds (1 + k)))) (ea_d (ed_is (ed_i (ed_var rfl) ed_int) (by rw [Int.natCast_add] <;> rfl)) ea_nil) (by omega) (lt_ok rfl) fun k hk => ed_call (ea_d (e_iL (n := 1 + k) (el_own rfl) (ed_i ed_int (ed_var rfl)) (by omega) (by omega)) ea_nil) (.mk _)) (by rw [List.map_map] <;> rfl)) (lt_ok rfl) fun p4 => ?_)
  have fz := frac_sz (iAt ds 1)
  have s6 : Sz 5 (6 : Rat) := ⟨by decide, by decide⟩
  have e0 : (((List.range (n + 1)).map fun (k : Nat) => fracOf (iAt ds (1 + k))).map rat)[0]? = some (rat (fracOf (iAt ds 1))) := by
    rw [List.getElem?_map, List.getElem?_map, List.getElem?_range (by omega)] <;> rfl
  refine st_seq (st_setI (n := 0) rfl (e_add (b := 6) (e_ixL (n := 0) (el_own rfl) ed_int rfl e0) (ed_t2 ed_int ed_int) (fz.big (by omega)) (s6.big (by omega))) ed_int (by rw [List.length_map, List.length_map, List.length_range]; omega) ?_)
  rw [← List.map_set]
  have wl := thW_len ds n
  have wp := thW_pos (ds := ds) (n := n) (by omega)
  refine st_seq (st_asgN (ds := (thW ds n).map lntD) (en_is (en_lcR0 (N := n) (fun k => .int (1 + (iAt ds (5 + k)).fmod 4)) (ea_d (ed_var rfl) ea_nil) (by omega) (lt_ok rfl) fun k hk => ed_i ed_int (ed_ic (ed_intI (e_iL (n := 5 + k) (el_own rfl) (ed_i ed_int (ed_var rfl)) (by omega) (by omega))) ed_int (by decide))) (by unfold thW; rw [List.map_map] <;> rfl)) (lt_ok rfl) fun p5 => ?_)
  unfold thG
  generalize thW ds n = ws at wl wp ⊢
  refine st_seq (st_asgN (ds := [rwD ((List.range n).map fun (k : Nat) => (k + 1, Rat.divInt (iAt ws k) ws.sum))]) (en_l1 (ed_is (ed_tupL (el_of_n (en_lcR0 (N := n) (fun k => tpD (k + 1, Rat.divInt (iAt ws k) ws.sum)) (ea_d (ed_var rfl) ea_nil) (by omega) (lt_ok rfl) fun k hk => ed_t2 (ed_is (ed_i (ed_var rfl) ed_int) (by rw [Int.natCast_add] <;> rfl)) (ed_call (ea_d (e_iL (n := k) (el_own rfl) (ed_var rfl) rfl (by omega)) (ea_d (ed_sum (el_own rfl)) ea_nil)) (.mk _ _ _ (by omega) rfl))))) (by show Dat.tup _ = Dat.tup (List.map tpD (List.map _ _)); rw [List.map_map] <;> rfl))) (lt_ok rfl) fun p6 => ?_)
  refine st_seq (st_forR (N := n) (fun i r' => ∃ y3, r' = [.dat (.int c), .own p1 (ds.map lntD), .dat (intD n), y3, .own p4 ((((List.range (n + 1)).map fun (k : Nat) => fracOf (iAt ds (1 + k))).set 0 (fracOf (iAt ds 1) + 6)).map rat), .own p5 (ws.map lntD), .own p6 ((((List.range n).map fun (k : Nat) => (k + 1, Rat.divInt (iAt ws k) ws.sum)) :: (List.range i).map fun (k : Nat) => [(k + 1, (1 : Rat))]).map rwD)]) (ea_d (ed_var rfl) ea_nil) (by omega) ⟨_, rfl⟩ (fun i r' ⟨_, e⟩ => by rw [e]; exact lt_ok rfl) (fun i r' hi ⟨y3, e⟩ => ?_) fun r' ⟨y3, e⟩ => ?_)
  · subst e
    have es : ((((List.range n).map fun (k : Nat) => (k + 1, Rat.divInt (iAt ws k) ws.sum)) :: (List.range (i + 1)).map fun (k : Nat) => [(k + 1, (1 : Rat))]).map rwD) = (((List.range n).map fun (k : Nat) => (k + 1, Rat.divInt (iAt ws k) ws.sum)) :: (List.range i).map fun (k : Nat) => [(k + 1, (1 : Rat))]).map rwD ++ [rwD [(i + 1, 1)]] := by
      rw [range_snoc, List.map_cons, List.map_cons, List.map_append] <;> rfl
    rw [es]
    exact st_app rfl (ed_t1 (ed_t2 (ed_is (ed_i (ed_var rfl) ed_int) (by rw [Int.natCast_add] <;> rfl)) ed_r1)) (by rw [List.length_map, List.length_cons, List.length_map, List.length_range]; omega) ⟨_, rfl⟩
  · subst e
    exact st_ret (ed_t2 (ed_t2 (ed_tupL (el_own rfl)) (ed_tupL (el_own rfl))) ed_int) rfl
end
end AW

set_option Elab.async false
set_option linter.all false
set_option maxRecDepth 100000
set_option maxHeartbeats 4000000
/-! the walk: the law's two places, values, stopping -/
namespace AW
open PySem PySem.Spec PyProof.Rows L2 AC
/-! _law_two -/
abbrev s_law_two : Stmt := topS 76
theorem sc_law_two : FnScope ["_law_script", "_law_first", "_law_draw", "_law_most", "_law_second", "_law_game_here", "_law_state", "_law_n", "_law_kind", "_law_at", "_law_more", "_law_rewards", "_law_s"] ["_law_script", "_law_first", "_law_draw", "_law_most"] (defScope s_law_two) := ⟨rfl, rfl, rfl, by decide +kernel, rfl, by decide +kernel, by decide +kernel⟩
-- slots: 0:_law_script 1:_law_first 2:_law_draw 3:_law_most 4:_law_second 5:_law_game_here 6:_law_state 7:_law_n 8:_law_kind 9:_law_at 10:_law_more 11:_law_rewards 12:_law_s
/-! _law_is_stopping -/
abbrev s_law_is_stopping : Stmt := topS 77
theorem sc_law_is_stopping : FnScope ["_law_game_here", "_law_amount", "_law_discount_here", "_law_table", "_law_s", "_law_due"] ["_law_game_here", "_law_amount", "_law_discount_here", "_law_table"] (defScope s_law_is_stopping) := ⟨rfl, rfl, rfl, by decide +kernel, rfl, by decide +kernel, by decide +kernel⟩
-- slots: 0:_law_game_here 1:_law_amount 2:_law_discount_here 3:_law_table 4:_law_s 5:_law_due
/-! _law_value -/
abbrev s_law_value : Stmt := topS 78
theorem sc_law_value : FnScope ["_law_corners_here", "_law_amount", "_law_k", "_law_rise", "_law_slant"] ["_law_corners_here", "_law_amount"] (defScope s_law_value) := ⟨rfl, rfl, rfl, by decide +kernel, rfl, by decide +kernel, by decide +kernel⟩
-- slots: 0:_law_corners_here 1:_law_amount 2:_law_k 3:_law_rise 4:_law_slant
def moreOf (d : Int) : Rat := Rat.divInt (1 + (d.fdiv 18).fmod 6) (1 + (d.fdiv 108).fmod 4)
def bumpG (g : Gm) (k : Nat) (x : Rat) : Gm := ⟨g.rs.set k (g.rew k + x), g.ms⟩
def twinG (g : Gm) (s : Nat) : Gm := ⟨g.rs ++ [g.rew s], g.ms ++ [g.row s]⟩
def pickN (d : Int) (n : Nat) : Nat := ((d.fdiv 6).fmod (n : Int)).toNat
def twoOf (ns : List Int) (d : Int) (m : Nat) : (Gm × Nat) × (Gm × Nat) :=
  let g := gameOf (cellOf ns 1) m
  let s := stateOf (cellOf ns 1) g.n
  if d.fmod 6 = 0 then ((g, s), (g, s))
  else if d.fmod 6 = 1 then ((bumpG g (pickN d g.n) (moreOf d), s), (g, s))
  else if d.fmod 6 = 2 then ((g, pickN d g.n), (g, s))
  else if d.fmod 6 = 3 then ((twinG g s, g.n), (g, s))
  else if (decide (d.fmod 6 = 4) && decide ((d.fdiv 6).fmod 3 = 1)) = true then ((throwOf (cellOf ns 2), 0), (throwOf (cellOf ns 1), 0))
  else ((gameOf (cellOf ns 2) m, stateOf (cellOf ns 2) (gameOf (cellOf ns 2) m).n), (g, s))
abbrev paD (p : Gm × Nat) : Dat := plD p.1 p.2
inductive RTwo : List Ar → Ar → Prop
  | mk (ns : List Int) (d : Int) (m : Nat) : 1 ≤ m → m ≤ 3 → (∀ k, k ≤ 2 → Fit (cellOf ns k)) → RTwo [.lst (ns.map lntD), .dat (intD 1), .dat (.int d), .dat (intD m)] (.dat (.tup [paD (twoOf ns d m).1, paD (twoOf ns d m).2]))
inductive RStp : List Ar → Ar → Prop
  | mk (g : Gm) (b m : Rat) (q j jt : Nat) (tb : List Rat) : GS g b [] q → Sz j m → j ≤ 5000000 → tb.length = g.n → (∀ t, Sz jt (en tb t)) → jt ≤ 5000000 → (∀ s, s < g.n → (if play g b s (en tb) < m then m else play g b s (en tb)) = en tb s) → RStp [.dat (gmD g), .dat (rat m), .dat (rat b), .dat (rowD tb)] (.dat (.bl true))
theorem pow30 : (10 : Int) ^ 30 = 1000000000000000000000000000000 := by decide
theorem rew_szD (c : Int) (ds : List Int) (s : Nat) : Sz 110 (rewD c ds s) := by
  have fz := frac_sz (iAt ds (2 + s))
  unfold rewD
  by_cases h : (iAt ds 1).fmod 8 = 1
  · rw [if_pos h]
    have hc := fmod_range (i := c) (m := 10 ^ 30) (by decide)
    have d0 := den_pos (fracOf (iAt ds (2 + s)))
    have h1 := fz.1
    have h2 := fz.2
    have p5 : (2 : Nat) ^ 5 = 32 := rfl
    have p110 : (2 : Nat) ^ 110 = 1298074214633706907132624082305024 := by decide
    have q110 : (2 : Int) ^ 110 = 1298074214633706907132624082305024 := by decide
    rw [pow30] at hc ⊢
    exact divInt_sz (by omega) (by rw [q110]; omega) (by rw [p110]; omega)
  · rw [if_neg h]
    exact fz.mono (by omega)
theorem more_sz (d : Int) : Sz 5 (moreOf d) := by
  have h1 := fmod_range (i := d.fdiv 18) (m := 6) (by decide)
  have h2 := fmod_range (i := d.fdiv 108) (m := 4) (by decide)
  exact divInt_sz (by omega) (by show _ < (2 : Int) ^ 5; have : (2 : Int) ^ 5 = 32 := rfl; omega) (by have : (2 : Nat) ^ 5 = 32 := rfl; omega)
theorem gameOf_n {c : Int} {m : Nat} (h1 : 1 ≤ m) : 1 ≤ (gameOf c m).n ∧ (gameOf c m).n ≤ m ∧ (gameOf c m).ms.length = (gameOf c m).n := by
  unfold gameOf
  rw [gmOf_n]
  have d0 := fmod_range (i := iAt (draws c (2 + m + m * m)) 0) (m := (m : Int)) (by omega)
  refine ⟨gN_pos _ _, by unfold gN; omega, ?_⟩
  show ((List.range _).map _).length = _
  rw [List.length_map, List.length_range]
theorem stateOf_lt {c : Int} {n : Nat} (h : 1 ≤ n) : stateOf c n < n := by
  have d0 := fmod_range (i := (iAt (draws c 2) 1).fdiv 8) (m := (n : Int)) (by omega)
  unfold stateOf
  omega
theorem gameOf_rew {c : Int} {m s : Nat} (hs : s < (gameOf c m).n) : Sz 110 ((gameOf c m).rew s) := by
  unfold gameOf at hs ⊢
  rw [gmOf_n] at hs
  have e : (gmOf c (draws c (2 + m + m * m)) (gN (draws c (2 + m + m * m)) m)).rew s = rewD c (draws c (2 + m + m * m)) s := by
    unfold Gm.rew gmOf
    rw [List.getD_eq_getElem?_getD, List.getElem?_map, List.getElem?_range hs] <;> rfl
  rw [e]
  exact rew_szD _ _ _
section
variable {P : Program} {w : World} {K : Frg} {C : Addr} {mg : Str → Option Value} {base : Heap} {z1 o1 z2 o2 z3 o3 : Addr} (G : Glo K mg base z1 o1 z2 o2 z3 o3)
theorem t_less {r : List Sd} {ta tb : TE} {a b : Rat} (ha : EvD K C ta r (rat a)) (hb : EvD K C tb r (rat b)) (h : Big a) (k : Big b) : EvD K C (tCall (spR K C RLess) [] L2.E0 (tCons ta (tCons tb tNil))) r (.bl (decide (a < b))) := ed_call (ea_d ha (ea_d hb ea_nil)) (.mk _ _ h k)
include G in
theorem has_lvalue (h_law_less : Has P w K mg base "_law_less" 42 ["_law_a", "_law_b"] (spR K C RLess)) (h_law_add : Has P w K mg base "_law_add" 42 ["_law_a", "_law_b"] (spR K C RAdd)) (h_law_sub : Has P w K mg base "_law_sub" 42 ["_law_a", "_law_b"] (spR K C RSub)) (h_law_mul : Has P w K mg base "_law_mul" 42 ["_law_a", "_law_b"] (spR K C RMul)) (h_law_div : Has P w K mg base "_law_div" 42 ["_law_a", "_law_b"] (spR K C RDiv))
    (F : Def K mg "_law_value" s_law_value ["_law_corners_here", "_law_amount"]) : Has P w K mg base "_law_value" 43 ["_law_corners_here", "_law_amount"] (spR K C RVal) := by
  obtain ⟨f, fd, F, m', b'⟩ := F
  refine has_of F m' b' (fn_ok F sc_law_value (fun as z h => by cases h; rfl) fun cdv A outer s0 H Q E hr as z h => ?_)
  obtain ⟨l, m, n, j, hg, hl, hs, hm, hn, hj⟩ := h
  refine ⟨_, (pss_cons (ps_if (pt_not (pt_val (pe_has h_law_less (hr.mono (by decide)) (by rfl) (pa_cons (pe_ix ix_tup (pe_ix ix_tup (pv 0) pe_int (fun _ _ => rfl)) pe_int (fun _ _ => rfl)) (pa_cons (pv 1) pa_nil))))) (pss_one (ps_ret (pe_ix ix_tup (pe_ix ix_tup (pv 0) pe_int (fun _ _ => rfl)) pe_int (fun _ _ => rfl)))) pss_nil)
    (pss_cons (ps_for PassesOwn.never rfl (pi_range2 (by rfl) G.range (pa_cons pe_int (pa_cons (pe_callB cr_len (by rfl) G.len PySem.boot_len (pa_cons (pv 0) pa_nil)) pa_nil))) (pg_name (i := 2) sc_law_value.nd rfl (.inl rfl)) (pss_one (ps_if (pt_not (pt_val (pe_has h_law_less (hr.mono (by decide)) (by rfl) (pa_cons (pe_ix ix_tup (pe_ix ix_tup (pv 0) (pv 2) (fun _ _ => rfl)) pe_int (fun _ _ => rfl)) (pa_cons (pv 1) pa_nil))))) (pss_cons (ps_set (i := 3) sc_law_value.nd rfl (.inl rfl) (pe_has h_law_sub (hr.mono (by decide)) (by rfl) (pa_cons (pe_ix ix_tup (pe_ix ix_tup (pv 0) (pv 2) (fun _ _ => rfl)) pe_int (fun _ _ => rfl)) (pa_cons (pe_ix ix_tup (pe_ix ix_tup (pv 0) (pe_op op_sub (pv 2) pe_int) (fun _ _ => rfl)) pe_int (fun _ _ => rfl)) pa_nil))))
    (pss_cons (ps_set (i := 4) sc_law_value.nd rfl (.inl rfl) (pe_has h_law_div (hr.mono (by decide)) (by rfl) (pa_cons (pv 3) (pa_cons (pe_has h_law_sub (hr.mono (by decide)) (by rfl) (pa_cons (pe_ix ix_tup (pe_ix ix_tup (pv 0) (pv 2) (fun _ _ => rfl)) pe_int (fun _ _ => rfl)) (pa_cons (pe_ix ix_tup (pe_ix ix_tup (pv 0) (pe_op op_sub (pv 2) pe_int) (fun _ _ => rfl)) pe_int (fun _ _ => rfl)) pa_nil))) pa_nil))))
    (pss_one (ps_ret (pe_has h_law_add (hr.mono (by decide)) (by rfl) (pa_cons (pe_ix ix_tup (pe_ix ix_tup (pv 0) (pe_op op_sub (pv 2) pe_int) (fun _ _ => rfl)) pe_int (fun _ _ => rfl)) (pa_cons (pe_has h_law_mul (hr.mono (by decide)) (by rfl) (pa_cons (pv 4) (pa_cons (pe_has h_law_sub (hr.mono (by decide)) (by rfl) (pa_cons (pv 1) (pa_cons (pe_ix ix_tup (pe_ix ix_tup (pv 0) (pe_op op_sub (pv 2) pe_int) (fun _ _ => rfl)) pe_int (fun _ _ => rfl)) pa_nil))) pa_nil))) pa_nil))))))) pss_nil)))
    (pss_one (ps_ret (pv 1))))), ?_⟩
  have pos := List.length_pos_iff.mpr hg.ne
  have hmB : Big m := hm.big (by omega)
  refine st_seq (st_if (tt_not (tt_test (t_less (e_k0 (e_kn (n := 0) (ed_var rfl) ed_int rfl pos)) (ed_var rfl) ((hs 0 pos).1.big (by omega)) hmB))) (fun h => ?_) fun h => st_next ?_)
  · have h : ¬ kA l 0 < m := by
      intro q
      rw [decide_eq_true q] at h
      cases h
    refine st_ret (e_k1 (e_kn (n := 0) (ed_var rfl) ed_int rfl pos)) ?_
    show Ar.dat (rat (AC.kV l 0)) = .dat (rat (Fx 0 l m))
    rw [Fx_first hg.ne (by grind)]
  · have h0 : kA l 0 < m := by
      apply Classical.byContradiction
      intro q
      rw [decide_eq_false q] at h
      cases h
    refine st_seq (st_forR2 (N := l.length) (lo := 1) (fun i r' => kA l (i - 1) < m ∧ ∃ x y z, r' = [.dat (kns l), .dat (rat m), x, y, z]) (ea_d ed_int (ea_d (ed_is (ed_lenT (ed_var rfl)) (by rw [List.length_map])) ea_nil)) (by omega) (by omega) ⟨h0, _, _, _, rfl⟩ (fun i r' ⟨_, x, y, z, e⟩ => by rw [e]; exact lt_ok rfl) (fun i r' h1 h2 ⟨hlt, x, y, z, e⟩ => ?_) (fun r' ⟨hlt, x, y, z, e⟩ => ?_))
    · subst e
      have s0 := hs (i - 1) (by omega)
      have s1 := hs i h2
      have as := hg.asc (i - 1) (by omega)
      rw [show i - 1 + 1 = i by omega] at as
      refine st_if (tt_not (tt_test (t_less (e_k0 (e_kn (n := i) (ed_var rfl) (ed_var rfl) rfl h2)) (ed_var rfl) (s1.1.big (by omega)) hmB))) (fun h => ?_) fun h => st_next ⟨?_, _, _, _, rfl⟩
      · have h : ¬ kA l i < m := by
          intro q
          rw [decide_eq_true q] at h
          cases h
        have dz : kA l i - kA l (i - 1) ≠ 0 := by intro e; grind
        have rz := s1.2.sub s0.2
        have wz := s1.1.sub s0.1
        have sl := rz.div wz dz
        have mz := hm.sub s0.1
        refine st_seq (st_asg (e_sub (e_k1 (e_kn (n := i) (ed_var rfl) (ed_var rfl) rfl h2)) (e_k1 (e_kn (n := i - 1) (ed_var rfl) (ed_i (ed_var rfl) ed_int) (by omega) (by omega))) (s1.2.big (by omega)) (s0.2.big (by omega))) (lt_ok rfl) ?_)
        refine st_seq (st_asg (e_div (ed_var rfl) (e_sub (e_k0 (e_kn (n := i) (ed_var rfl) (ed_var rfl) rfl h2)) (e_k0 (e_kn (n := i - 1) (ed_var rfl) (ed_i (ed_var rfl) ed_int) (by omega) (by omega))) (s1.1.big (by omega)) (s0.1.big (by omega))) (rz.big (by omega)) (wz.big (by omega)) dz) (lt_ok rfl) ?_)
        refine st_ret (e_add (e_k1 (e_kn (n := i - 1) (ed_var rfl) (ed_i (ed_var rfl) ed_int) (by omega) (by omega))) (e_mul (ed_var rfl) (e_sub (ed_var rfl) (e_k0 (e_kn (n := i - 1) (ed_var rfl) (ed_i (ed_var rfl) ed_int) (by omega) (by omega))) hmB (s0.1.big (by omega))) (sl.big (by omega)) (mz.big (by omega))) (s0.2.big (by omega)) ((sl.mul mz).big (by omega))) ?_
        have fm := Fx_mid hg (k := i - 1) (m := m) (by omega) (by grind) (by rw [show i - 1 + 1 = i by omega]; grind)
        unfold kS at fm
        rw [show i - 1 + 1 = i by omega] at fm
        rw [fm]
      · apply Classical.byContradiction
        intro q
        have q : ¬ kA l i < m := q
        rw [decide_eq_false q] at h
        cases h
    · subst e
      refine st_ret (ed_var rfl) ?_
      rw [Fx_last hg (by grind)]
include G in
theorem has_stopping (h_law_ratios : Has P w K mg base "_law_ratios" 43 ["_law_values", "_law_count"] (spR K C RRats)) (h_law_play : Has P w K mg base "_law_play" 43 ["_law_game_here", "_law_state", "_law_discount_here", "_law_table"] (spR K C RPlay)) (h_law_less : Has P w K mg base "_law_less" 42 ["_law_a", "_law_b"] (spR K C RLess))
    (F : Def K mg "_law_is_stopping" s_law_is_stopping ["_law_game_here", "_law_amount", "_law_discount_here", "_law_table"]) : Has P w K mg base "_law_is_stopping" 44 ["_law_game_here", "_law_amount", "_law_discount_here", "_law_table"] (spR K C RStp) := by
  obtain ⟨f, fd, F, m', b'⟩ := F
  refine has_of F m' b' (fn_ok F sc_law_is_stopping (fun as z h => by cases h; rfl) fun cdv A outer s0 H Q E hr as z h => ?_)
  obtain ⟨g, b, m, q, j, jt, tb, h, mz, hj, hl, tz, hjt, hst⟩ := h
  refine ⟨_, (pss_cons (ps_if (pt_not (pt_val (pe_has h_law_ratios (hr.mono (by decide)) (by rfl) (pa_cons (pv 3) (pa_cons (pe_callB cr_len (by rfl) G.len PySem.boot_len (pa_cons (pe_ix ix_tup (pv 0) pe_int (fun _ _ => rfl)) pa_nil)) pa_nil))))) (pss_one (ps_ret pe_bl)) pss_nil)
    (pss_cons (ps_for PassesOwn.never rfl (pi_range1 (by rfl) G.range (pa_cons (pe_callB cr_len (by rfl) G.len PySem.boot_len (pa_cons (pe_ix ix_tup (pv 0) pe_int (fun _ _ => rfl)) pa_nil)) pa_nil)) (pg_name (i := 4) sc_law_is_stopping.nd rfl (.inl rfl)) (pss_cons (ps_set (i := 5) sc_law_is_stopping.nd rfl (.inl rfl) (pe_has h_law_play (hr.mono (by decide)) (by rfl) (pa_cons (pv 0) (pa_cons (pv 4) (pa_cons (pv 2) (pa_cons (pv 3) pa_nil))))))
    (pss_cons (ps_if (pt_val (pe_has h_law_less (hr.mono (by decide)) (by rfl) (pa_cons (pv 5) (pa_cons (pv 1) pa_nil)))) (pss_one (ps_set (i := 5) sc_law_is_stopping.nd rfl (.inl rfl) (pv 1))) pss_nil)
    (pss_one (ps_if (pt_cmpR (op_neD hr.units) (pv 5) (pe_ix ix_tup (pv 3) (pv 4) (fun _ _ => rfl)) (nomark _)) (pss_one (ps_ret pe_bl)) pss_nil)))))
    (pss_one (ps_ret pe_bl)))), ?_⟩
  have hq := h.q
  have h4 := h.n4
  have bs := h.bsz
  have en_len : ∀ {r : List Sd}, r[0]? = some (.dat (gmD g)) → EvD K C (tCB (rLenS K) (tCons (tOp (rIxT K) (tVar 0) (tC (.int 0))) tNil)) r (intD g.n) := fun h0 => ed_is (ed_lenT (e_ix (n := 0) (ds := [.tup (g.rs.map rat), .tup (g.ms.map rwD)]) (ed_var h0) ed_int rfl rfl)) (by rw [List.length_map] <;> rfl)
  refine st_seq (st_if (tt_not (b := true) (tt_test (ed_call (ea_d (ed_var rfl) (ea_d (en_len rfl) ea_nil)) (.mk tb g.n hl (by omega))))) (fun h => nomatch h) fun _ => st_next ?_)
  refine st_seq (st_forR (N := g.n) (fun i r' => ∃ y4 y5, r' = [.dat (gmD g), .dat (rat m), .dat (rat b), .dat (rowD tb), y4, y5]) (ea_d (en_len rfl) ea_nil) (by omega) ⟨_, _, rfl⟩ (fun i r' ⟨_, _, e⟩ => by rw [e]; exact lt_ok rfl) (fun i r' hi ⟨y4, y5, e⟩ => ?_) fun r' ⟨y4, y5, e⟩ => ?_)
  · subst e
    have hs := hst i hi
    have dz : Sz (24 + 4 * jt) (dot (g.row i) (en tb)) := by
      have r4 := h.r4 i
      refine (dot_sz (row := g.row i) (fun tp m => h.tp hi tp m) fun tp _ => tz tp.1).mono ?_
      have : (g.row i).length * (jt + 5) ≤ 4 * (jt + 5) := Nat.mul_le_mul_right _ r4
      omega
    have pz : Sz (30 + q + 4 * jt) (play g b i (en tb)) := ((h.rw hi).add (bs.mul dz)).mono (by omega)
    refine st_seq (st_asg (ed_call (ea_d (ed_var rfl) (ea_d (ed_var rfl) (ea_d (ed_var rfl) (ea_d (ed_var rfl) ea_nil)))) (.mk g b q i jt tb h hi hl tz hjt)) (lt_ok rfl) ?_)
    refine st_cut (fun r' => ∃ y4, r' = [.dat (gmD g), .dat (rat m), .dat (rat b), .dat (rowD tb), .dat (intD i), .dat (rat (en tb i))] ∧ y4 = 0) (st_if (tt_test (t_less (ed_var rfl) (ed_var rfl) (pz.big (by omega)) (mz.big (by omega)))) (fun hc => ?_) fun hc => ?_) fun r' ⟨y4, e, _⟩ => ?_
    · have hc := of_decide_eq_true hc
      rw [if_pos hc] at hs
      rw [← hs]
      exact st_asg (ed_var rfl) (lt_ok rfl) ⟨0, rfl, rfl⟩
    · have hc := of_decide_eq_false hc
      rw [if_neg hc] at hs
      rw [← hs]
      exact st_next ⟨0, rfl, rfl⟩
    · subst e
      refine st_if (tt_test (ed_neR (ed_var rfl) (e_ix (n := i) (ed_var rfl) (ed_var rfl) rfl (en_getR (by rw [hl]; exact hi))))) (fun hc => ?_) fun _ => st_next ⟨_, _, rfl⟩
      rw [decide_eq_true rfl] at hc
      cases hc
  · subst e
    exact st_ret ed_bl rfl
theorem pickN_lt {d : Int} {n : Nat} (h : 1 ≤ n) : pickN d n < n ∧ ((pickN d n : Nat) : Int) = (d.fdiv 6).fmod (n : Int) := by
  have d0 := fmod_range (i := d.fdiv 6) (m := (n : Int)) (by omega)
  unfold pickN
  omega
include G in
theorem has_two (h_law_cell : Has P w K mg base "_law_cell" 40 ["_law_script", "_law_k"] (spR K C RCell)) (h_law_place : Has P w K mg base "_law_place" 44 ["_law_cell_here", "_law_most"] (spR K C RPlace)) (h_law_low : Has P w K mg base "_law_low" 41 ["_law_n", "_law_d"] (spR K C RLow)) (h_law_add : Has P w K mg base "_law_add" 42 ["_law_a", "_law_b"] (spR K C RAdd)) (h_law_throw : Has P w K mg base "_law_throw" 43 ["_law_cell_here"] (spR K C RThrow))
    (F : Def K mg "_law_two" s_law_two ["_law_script", "_law_first", "_law_draw", "_law_most"]) : Has P w K mg base "_law_two" 45 ["_law_script", "_law_first", "_law_draw", "_law_most"] (spR K C RTwo) := by
  obtain ⟨f, fd, F, m', b'⟩ := F
  refine has_of F m' b' (fn_ok F sc_law_two (fun as z h => by cases h; rfl) fun cdv A outer s0 H Q E hr as z h => ?_)
  obtain ⟨ns, d, m, m1, m3, hf⟩ := h
  refine ⟨_, (pss_cons (ps_set (i := 4) sc_law_two.nd rfl (.inl rfl) (pe_has h_law_place (hr.mono (by decide)) (by rfl) (pa_cons (pe_has h_law_cell (hr.mono (by decide)) (by rfl) (pa_cons (pv 0) (pa_cons (pv 1) pa_nil))) (pa_cons (pv 3) pa_nil))))
    (pss_cons (ps_set (i := 5) sc_law_two.nd rfl (.inr rfl) (pe_ix ix_tup (pv 4) pe_int (fun _ _ => rfl)))
    (pss_cons (ps_set (i := 6) sc_law_two.nd rfl (.inl rfl) (pe_ix ix_tup (pv 4) pe_int (fun _ _ => rfl)))
    (pss_cons (ps_set (i := 7) sc_law_two.nd rfl (.inl rfl) (pe_callB cr_len (by rfl) G.len PySem.boot_len (pa_cons (pe_ix ix_tup (pv 5) pe_int (fun _ _ => rfl)) pa_nil)))
    (pss_cons (ps_set (i := 8) sc_law_two.nd rfl (.inl rfl) (pe_op op_modN (pe_callTy cr_int (by rfl) G.int b_int (pa_cons (pv 2) pa_nil)) pe_int))
    (pss_cons (ps_if (pt_cmpR op_eq (pv 8) pe_int (nomark _)) (pss_one (ps_ret (pe_tup (pa_cons (pv 4) (pa_cons (pv 4) pa_nil))))) pss_nil)
    (pss_cons (ps_if (pt_cmpR op_eq (pv 8) pe_int (nomark _)) (pss_cons (ps_set (i := 9) sc_law_two.nd rfl (.inl rfl) (pe_op op_modN (pe_op op_fdivN (pe_callTy cr_int (by rfl) G.int b_int (pa_cons (pv 2) pa_nil)) pe_int) (pv 7)))
    (pss_cons (ps_set (i := 10) sc_law_two.nd rfl (.inl rfl) (pe_has h_law_low (hr.mono (by decide)) (by rfl) (pa_cons (pe_op op_add pe_int (pe_op op_modN (pe_op op_fdivN (pe_callTy cr_int (by rfl) G.int b_int (pa_cons (pv 2) pa_nil)) pe_int) pe_int)) (pa_cons (pe_op op_add pe_int (pe_op op_modN (pe_op op_fdivN (pe_callTy cr_int (by rfl) G.int b_int (pa_cons (pv 2) pa_nil)) pe_int) pe_int)) pa_nil))))
    (pss_cons (ps_setLc (i := 11) (own := [("_law_s", 12)]) (g := (gName 12)) rfl sc_law_two.nd rfl rfl (sw_true rfl rfl rfl (by decide +kernel)) (pi_range1 (by rfl) G.range (pa_cons (pv 7) pa_nil)) (blkOk_by (N := ["_law_script", "_law_first", "_law_draw", "_law_most", "_law_second", "_law_game_here", "_law_state", "_law_n", "_law_kind", "_law_at", "_law_more", "_law_rewards", "_law_s"]) (sc := defScope s_law_two) (by decide +kernel)) (fun _ _ _ _ _ => (pg_name (i := 12) sc_law_two.nd rfl (.inl rfl))) (fun _ _ _ _ _ => pts_nil) (fun _ _ _ _ _ => (pe_ix (ixT_of (K := K) rfl) (pe_ix (ixT_of (K := K) rfl) (pv 5) pe_int (fun _ _ => rfl)) (pv 12) (fun _ _ => rfl))))
    (pss_cons (ps_asg (pe_has h_law_add (hr.mono (by decide)) (by rfl) (pa_cons (pe_ix ix_list (pv 11) (pv 9) (fun _ _ => rfl)) (pa_cons (pv 10) pa_nil))) (pg_sub (pv 11) (pv 9) set_list))
    (pss_one (ps_ret (pe_tup (pa_cons (pe_tup (pa_cons (pe_tup (pa_cons (pe_callTy cr_tup (by rfl) G.tuple b_tuple (pa_cons (pv 11) pa_nil)) (pa_cons (pe_ix ix_tup (pv 5) pe_int (fun _ _ => rfl)) pa_nil))) (pa_cons (pv 6) pa_nil))) (pa_cons (pv 4) pa_nil))))))))) pss_nil)
    (pss_cons (ps_if (pt_cmpR op_eq (pv 8) pe_int (nomark _)) (pss_one (ps_ret (pe_tup (pa_cons (pe_tup (pa_cons (pv 5) (pa_cons (pe_op op_modN (pe_op op_fdivN (pe_callTy cr_int (by rfl) G.int b_int (pa_cons (pv 2) pa_nil)) pe_int) (pv 7)) pa_nil))) (pa_cons (pv 4) pa_nil))))) pss_nil)
    (pss_cons (ps_if (pt_cmpR op_eq (pv 8) pe_int (nomark _)) (pss_one (ps_ret (pe_tup (pa_cons (pe_tup (pa_cons (pe_tup (pa_cons (pe_op op_catA (pe_ix ix_tup (pv 5) pe_int (fun _ _ => rfl)) (pe_tup (pa_cons (pe_ix ix_tup (pe_ix ix_tup (pv 5) pe_int (fun _ _ => rfl)) (pv 6) (fun _ _ => rfl)) pa_nil))) (pa_cons (pe_op op_catA (pe_ix ix_tup (pv 5) pe_int (fun _ _ => rfl)) (pe_tup (pa_cons (pe_ix ix_tup (pe_ix ix_tup (pv 5) pe_int (fun _ _ => rfl)) (pv 6) (fun _ _ => rfl)) pa_nil))) pa_nil))) (pa_cons (pv 7) pa_nil))) (pa_cons (pv 4) pa_nil))))) pss_nil)
    (pss_cons (ps_if (PW.pt (pw_and (pt_cmpR op_eq (pv 8) pe_int (nomark _)) (pw_and1 (pt_cmpR op_eq (pe_op op_modN (pe_op op_fdivN (pe_callTy cr_int (by rfl) G.int b_int (pa_cons (pv 2) pa_nil)) pe_int) pe_int) pe_int (nomark _))))) (pss_one (ps_ret (pe_tup (pa_cons (pe_has h_law_throw (hr.mono (by decide)) (by rfl) (pa_cons (pe_has h_law_cell (hr.mono (by decide)) (by rfl) (pa_cons (pv 0) (pa_cons (pe_op op_add (pv 1) pe_int) pa_nil))) pa_nil)) (pa_cons (pe_has h_law_throw (hr.mono (by decide)) (by rfl) (pa_cons (pe_has h_law_cell (hr.mono (by decide)) (by rfl) (pa_cons (pv 0) (pa_cons (pv 1) pa_nil))) pa_nil)) pa_nil))))) pss_nil)
    (pss_one (ps_ret (pe_tup (pa_cons (pe_has h_law_place (hr.mono (by decide)) (by rfl) (pa_cons (pe_has h_law_cell (hr.mono (by decide)) (by rfl) (pa_cons (pv 0) (pa_cons (pe_op op_add (pv 1) pe_int) pa_nil))) (pa_cons (pv 3) pa_nil))) (pa_cons (pv 4) pa_nil))))))))))))))), ?_⟩
  unfold twoOf
  dsimp only
  have cl : ∀ {r : List Sd} {te : TE} (k : Nat), k ≤ 2 → r[0]? = some (.lst (ns.map lntD)) → EvD K C te r (intD k) → EvD K C (tCall (spR K C RCell) [] L2.E0 (tCons (tVar 0) (tCons te tNil))) r (.int (cellOf ns k)) := fun k hk h0 hk2 => ed_call (ea_l (el_var h0) (ea_d hk2 ea_nil)) (.mk ns k (by omega))
  refine st_seq (st_asg (ed_call (ea_d (cl 1 (by omega) rfl (ed_var rfl)) (ea_d (ed_var rfl) ea_nil)) (.mk (cellOf ns 1) m m1 m3 (hf 1 (by omega)))) (lt_ok rfl) ?_)
  obtain ⟨g1, g2, g3⟩ := gameOf_n (c := cellOf ns 1) (m := m) m1
  have sl := stateOf_lt (c := cellOf ns 1) g1
  have rz := fun s hs => gameOf_rew (c := cellOf ns 1) (m := m) (s := s) hs
  generalize hg : gameOf (cellOf ns 1) m = g at g1 g2 g3 sl rz ⊢
  generalize hs : stateOf (cellOf ns 1) g.n = s at sl ⊢
  have ml : (g.ms.map rwD)[s]? = some (rwD (g.row s)) := mget (getD_of (by rw [g3]; exact sl))
  obtain ⟨pl, pe⟩ := pickN_lt (d := d) g1
  refine st_seq (st_asg (d := gmD g) (e_ix (n := 0) (ed_var rfl) ed_int rfl rfl) (lt_ok rfl) ?_)
  refine st_seq (st_asg (d := intD s) (e_ix (n := 1) (ed_var rfl) ed_int rfl rfl) (lt_ok rfl) ?_)
  refine st_seq (st_asg (d := intD g.n) (ed_is (ed_lenT (e_ix (n := 0) (ds := [.tup (g.rs.map rat), .tup (g.ms.map rwD)]) (ed_var rfl) ed_int rfl rfl)) (by rw [List.length_map] <;> rfl)) (lt_ok rfl) ?_)
  refine st_seq (st_asg (ed_ic (ed_intI (ed_var rfl)) ed_int (by decide)) (lt_ok rfl) ?_)
  refine st_seq (st_if (tt_test (ed_eqI (ed_var rfl) ed_int)) (fun h => ?_) fun h0 => st_next ?_)
  · have h := of_decide_eq_true h
    rw [if_pos h]
    exact st_ret (ed_t2 (ed_var rfl) (ed_var rfl)) rfl
  have h0 := of_decide_eq_false h0
  rw [if_neg h0]
  refine st_seq (st_if (tt_test (ed_eqI (ed_var rfl) ed_int)) (fun h => ?_) fun h1 => st_next ?_)
  · have h := of_decide_eq_true h
    rw [if_pos h]
    have r1 := fmod_range (i := d.fdiv 18) (m := 6) (by decide)
    have r2 := fmod_range (i := d.fdiv 108) (m := 4) (by decide)
    refine st_seq (st_asg (d := intD (pickN d g.n)) (ed_is (ed_ic (ed_ic (ed_intI (ed_var rfl)) ed_int ⟨by decide, by decide⟩) (ed_var rfl) (by omega)) (by show Dat.int _ = Dat.int _; rw [pe])) (lt_ok rfl) ?_)
    refine st_seq (st_asg (d := rat (moreOf d)) (ed_call (ea_d (ed_i ed_int (ed_ic (ed_ic (ed_intI (ed_var rfl)) ed_int ⟨by decide, by decide⟩) ed_int (by decide))) (ea_d (ed_i ed_int (ed_ic (ed_ic (ed_intI (ed_var rfl)) ed_int ⟨by decide, by decide⟩) ed_int (by decide))) ea_nil)) (.mk _ _ _ (by omega) rfl)) (lt_ok rfl) ?_)
    refine st_seq (st_asgN (ds := g.rs.map rat) (en_is (en_lcR0 (N := g.n) (fun t => rat (g.rew t)) (ea_d (ed_var rfl) ea_nil) (by omega) (lt_ok rfl) fun t ht => e_ix (n := t) (e_ix (n := 0) (ds := [.tup (g.rs.map rat), .tup (g.ms.map rwD)]) (ed_var rfl) ed_int rfl rfl) (ed_var rfl) rfl (rs_get ht)) ?_) (lt_ok rfl) fun p11 => ?_)
    · refine List.ext_getElem (by rw [List.length_map, List.length_map, List.length_range] <;> rfl) fun t t1 t2 => ?_
      rw [List.getElem_map, List.getElem_map, List.getElem_range]
      rw [List.length_map] at t2
      unfold Gm.rew
      rw [List.getD_eq_getElem?_getD, List.getElem?_eq_getElem t2] <;> rfl
    · refine st_seq (st_setI (n := pickN d g.n) rfl (e_add (e_ixL (n := pickN d g.n) (el_own rfl) (ed_var rfl) rfl (rs_get pl)) (ed_var rfl) ((rz _ pl).big (by omega)) ((more_sz d).big (by omega))) (ed_var rfl) (by rw [List.length_map]; exact pl) ?_)
      rw [← List.map_set]
      exact st_ret (ed_t2 (ed_t2 (ed_t2 (ed_tupL (el_own rfl)) (e_ix (n := 1) (ds := [.tup (g.rs.map rat), .tup (g.ms.map rwD)]) (ed_var rfl) ed_int rfl rfl)) (ed_var rfl)) (ed_var rfl)) rfl
  have h1 := of_decide_eq_false h1
  rw [if_neg h1]
  refine st_seq (st_if (tt_test (ed_eqI (ed_var rfl) ed_int)) (fun h => ?_) fun h2 => st_next ?_)
  · have h := of_decide_eq_true h
    rw [if_pos h]
    exact st_ret (ed_t2 (ed_t2 (ed_var rfl) (ed_is (e := intD (pickN d g.n)) (ed_ic (ed_ic (ed_intI (ed_var rfl)) ed_int ⟨by decide, by decide⟩) (ed_var rfl) (by omega)) (by show Dat.int _ = Dat.int _; rw [pe]))) (ed_var rfl)) rfl
  have h2 := of_decide_eq_false h2
  rw [if_neg h2]
  refine st_seq (st_if (tt_test (ed_eqI (ed_var rfl) ed_int)) (fun h => ?_) fun h3 => st_next ?_)
  · have h := of_decide_eq_true h
    rw [if_pos h]
    refine st_ret (ed_is (ed_t2 (ed_t2 (ed_t2 (ed_catT (e_ix (n := 0) (ds := [.tup (g.rs.map rat), .tup (g.ms.map rwD)]) (ed_var rfl) ed_int rfl rfl) (ed_t1 (e_ix (n := s) (e_ix (n := 0) (ds := [.tup (g.rs.map rat), .tup (g.ms.map rwD)]) (ed_var rfl) ed_int rfl rfl) (ed_var rfl) rfl (rs_get sl))) (by rw [List.length_map]; show g.n + 1 ≤ 1000; omega)) (ed_catT (e_ix (n := 1) (ds := [.tup (g.rs.map rat), .tup (g.ms.map rwD)]) (ed_var rfl) ed_int rfl rfl) (ed_t1 (e_ix (n := s) (e_ix (n := 1) (ds := [.tup (g.rs.map rat), .tup (g.ms.map rwD)]) (ed_var rfl) ed_int rfl rfl) (ed_var rfl) rfl ml)) (by rw [List.length_map, g3]; show g.n + 1 ≤ 1000; omega))) (ed_var rfl)) (ed_var rfl)) ?_) rfl
    unfold paD plD gmD twinG
    rw [List.map_append, List.map_append] <;> rfl
  have h3 := of_decide_eq_false h3
  rw [if_neg h3]
  refine st_seq (st_if (tt_and (tt_test (ed_eqI (ed_var rfl) ed_int)) fun _ => tt_test (ed_eqI (ed_ic (ed_ic (ed_intI (ed_var rfl)) ed_int ⟨by decide, by decide⟩) ed_int (by decide)) ed_int)) (fun h => ?_) fun h4 => st_next ?_)
  · rw [if_pos h]
    exact st_ret (ed_t2 (ed_call (ea_d (cl 2 (by omega) rfl (ed_is (ed_i (i := ((1 : Nat) : Int)) (j := 1) (ed_var rfl) ed_int) rfl)) ea_nil) (.mk _ (hf 2 (by omega)))) (ed_call (ea_d (cl 1 (by omega) rfl (ed_var rfl)) ea_nil) (.mk _ (hf 1 (by omega))))) rfl
  rw [if_neg (by rw [h4]; exact Bool.false_ne_true)]
  exact st_ret (ed_t2 (ed_call (ea_d (cl 2 (by omega) rfl (ed_is (ed_i (i := ((1 : Nat) : Int)) (j := 1) (ed_var rfl) ed_int) rfl)) (ea_d (ed_var rfl) ea_nil)) (.mk _ m m1 m3 (hf 2 (by omega)))) (ed_var rfl)) rfl
end
end AW

set_option Elab.async false
set_option linter.all false
set_option maxRecDepth 100000
set_option maxHeartbeats 4000000
/-! the walk: the law's corners, tolls, fairness -/
namespace AW
open PySem PySem.Spec PyProof.Rows L2 AC
/-! _law_corners -/
abbrev s_law_corners : Stmt := topS 79
theorem sc_law_corners : FnScope ["_law_place_here", "_law_discount_here", "_law_corners_here", "_law_amounts", "_law_k", "_law_amount", "_law_table"] ["_law_place_here", "_law_discount_here"] (defScope s_law_corners) := ⟨rfl, rfl, rfl, by decide +kernel, rfl, by decide +kernel, by decide +kernel⟩
-- slots: 0:_law_place_here 1:_law_discount_here 2:_law_corners_here 3:_law_amounts 4:_law_k 5:_law_amount 6:_law_table
/-! _law_tolled -/
abbrev s_law_tolled : Stmt := topS 80
theorem sc_law_tolled : FnScope ["_law_place_here", "_law_toll", "_law_reward"] ["_law_place_here", "_law_toll"] (defScope s_law_tolled) := ⟨rfl, rfl, rfl, by decide +kernel, rfl, by decide +kernel, by decide +kernel⟩
-- slots: 0:_law_place_here 1:_law_toll 2:_law_reward
/-! _law_is_tolled -/
abbrev s_law_is_tolled : Stmt := topS 81
theorem sc_law_is_tolled : FnScope ["_law_told", "_law_place_here", "_law_toll"] ["_law_told", "_law_place_here", "_law_toll"] (defScope s_law_is_tolled) := ⟨rfl, rfl, rfl, by decide +kernel, rfl, by decide +kernel, by decide +kernel⟩
-- slots: 0:_law_told 1:_law_place_here 2:_law_toll
/-! _law_is_fair -/
abbrev s_law_is_fair : Stmt := topS 82
theorem sc_law_is_fair : FnScope ["_law_first", "_law_second", "_law_toll", "_law_discount_here", "_law_ahead", "_law_corner", "_law_amounts", "_law_tight", "_law_amount", "_law_gain", "_law_other"] ["_law_first", "_law_second", "_law_toll", "_law_discount_here"] (defScope s_law_is_fair) := ⟨rfl, rfl, rfl, by decide +kernel, rfl, by decide +kernel, by decide +kernel⟩
-- slots: 0:_law_first 1:_law_second 2:_law_toll 3:_law_discount_here 4:_law_ahead 5:_law_corner 6:_law_amounts 7:_law_tight 8:_law_amount 9:_law_gain 10:_law_other
inductive RTl : List Ar → Ar → Prop
  | mk (g : Gm) (s : Nat) (t : Rat) (q j : Nat) : g.rs.length ≤ 900 → (∀ x ∈ g.rs, Sz q x) → Sz j t → q ≤ 9000000 → j ≤ 9000000 → RTl [.dat (plD g s), .dat (rat t)] (.dat (plD (tollG g t) s))
inductive RItl : List Ar → Ar → Prop
  | mk (g : Gm) (s : Nat) (t : Rat) (q j : Nat) : g.rs.length ≤ 900 → (∀ x ∈ g.rs, Sz q x) → Sz j t → q ≤ 9000000 → j ≤ 9000000 → RItl [.dat (plD (tollG g t) s), .dat (plD g s), .dat (rat t)] (.dat (.bl true))
inductive RCor : List Ar → Ar → Prop
  | mk (g : Gm) (b : Rat) (q s : Nat) : GS g b [] q → q ≤ 10000 → s < g.n → RCor [.dat (plD g s), .dat (rat b)] (.dat (kns (gkn g b s)))
def fairAms (l l' : List Kn) (c : Rat) : List Rat := l'.map (·.1) ++ l.map fun p => p.1 - c
def okAt (l l' : List Kn) (c m : Rat) : Prop := ¬ (Fx 0 l (m + c) - c < Fx 0 l' m)
def tgtAt (l l' : List Kn) (c m : Rat) : Bool := decide (Fx 0 l (m + c) - c = Fx 0 l' m) && decide (m < Fx 0 l' m)
inductive RFr : List Ar → Ar → Prop
  | mk (l l' : List Kn) (t b : Rat) (n j : Nat) : Good 0 l → Good 0 l' → l.length ≤ 400 → l'.length ≤ 400 → KSz n l → KSz n l' → Sz j t → Sz 4 b → 1 - b ≠ 0 → n ≤ 1000000 → j ≤ 2000000 → (∀ m ∈ fairAms l l' (t / (1 - b)), okAt l l' (t / (1 - b)) m) →
    (decide (kA l (l.length - 1) - t / (1 - b) = kA l' (l'.length - 1)) || (fairAms l l' (t / (1 - b))).any (tgtAt l l' (t / (1 - b)))) = true → RFr [.dat (kns l), .dat (kns l'), .dat (rat t), .dat (rat b)] (.dat (.bl true))
theorem puA_map {α : Type} {f : α → Dat} (h : ∀ x, pu (f x) = true) : ∀ l : List α, puA (l.map f) = true
  | [] => rfl
  | a :: r => by
    show (pu (f a) && puA (r.map f)) = true
    rw [h a, puA_map h r] <;> rfl
theorem dptA_map {α : Type} {f : α → Dat} {k : Nat} (h : ∀ x, dpt (f x) ≤ k) : ∀ l : List α, dptA (l.map f) ≤ k
  | [] => Nat.zero_le _
  | a :: r => Nat.max_le.mpr ⟨h a, dptA_map h r⟩
theorem pu_pl (g : Gm) (s : Nat) : pu (plD g s) = true := by
  have h1 : puA (g.rs.map rat) = true := puA_map (fun _ => rfl) _
  have h2 : puA (g.ms.map rwD) = true := puA_map (fun r => by
    show puA (r.map tpD) = true
    exact puA_map (fun _ => rfl) _) _
  show ((puA (g.rs.map rat) && (puA (g.ms.map rwD) && true)) && (true && true)) = true
  rw [h1, h2] <;> rfl
theorem dpt_pl (g : Gm) (s : Nat) : dpt (plD g s) ≤ 64 := by
  have h1 : dptA (g.rs.map rat) ≤ 1 := dptA_map (f := rat) (fun _ => by show max 0 (max 0 0) + 1 ≤ 1; decide) _
  have h2 : dptA (g.ms.map rwD) ≤ 3 := dptA_map (fun r => by
    show dptA (r.map tpD) + 1 ≤ 3
    have := dptA_map (f := tpD) (k := 2) (fun _ => by show max 0 (max (max 0 (max 0 0) + 1) 0) + 1 ≤ 2; decide) r
    omega) _
  show max (max (dptA (g.rs.map rat) + 1) (max (dptA (g.ms.map rwD) + 1) 0) + 1) (max 0 0) + 1 ≤ 64
  omega
section
variable {P : Program} {w : World} {K : Frg} {C : Addr} {mg : Str → Option Value} {base : Heap} {z1 o1 z2 o2 z3 o3 : Addr} (G : Glo K mg base z1 o1 z2 o2 z3 o3) (CV : HasC P w K C mg base)
include G in
theorem has_tolled (h_law_sub : Has P w K mg base "_law_sub" 42 ["_law_a", "_law_b"] (spR K C RSub)) (F : Def K mg "_law_tolled" s_law_tolled ["_law_place_here", "_law_toll"]) : Has P w K mg base "_law_tolled" 43 ["_law_place_here", "_law_toll"] (spR K C RTl) := by
  obtain ⟨f, fd, F, m', b'⟩ := F
  refine has_of F m' b' (fn_ok F sc_law_tolled (fun as z h => by cases h; rfl) fun cdv A outer s0 H Q E hr as z h => ?_)
  obtain ⟨g, s, t, q, j, hl, hs, ht, hq, hj⟩ := h
  refine ⟨_, (pss_one (ps_ret (pe_tup (pa_cons (pe_tup (pa_cons (pe_callTy cr_tup (by rfl) G.tuple b_tuple (pa_cons (pe_lc (own := [("_law_reward", 2)]) (g := (gName 2)) rfl sc_law_tolled.nd (pi_tup (pe_ix (ixT_of (K := K) rfl) (pe_ix (ixT_of (K := K) rfl) (pv 0) pe_int (fun _ _ => rfl)) pe_int (fun _ _ => rfl))) (blkOk_by (N := ["_law_place_here", "_law_toll", "_law_reward"]) (sc := defScope s_law_tolled) (by decide +kernel)) (fun _ _ _ _ _ => (pg_name (i := 2) sc_law_tolled.nd rfl (.inl rfl))) (fun _ _ _ _ _ => pts_nil) (fun _ _ _ _ _ => (pe_has h_law_sub (hr.mono (by decide)) (by rfl) (pa_cons (pv 2) (pa_cons (pv 1) pa_nil))))) pa_nil)) (pa_cons (pe_ix ix_tup (pe_ix ix_tup (pv 0) pe_int (fun _ _ => rfl)) pe_int (fun _ _ => rfl)) pa_nil))) (pa_cons (pe_ix ix_tup (pv 0) pe_int (fun _ _ => rfl)) pa_nil))))), ?_⟩
  refine st_ret (ed_t2 (ed_t2 (d := .tup ((tollG g t).rs.map rat)) (ed_tupL (el_of_n (en_is (en_lcT0 (fun d => match d with | .tup [.int p, .int p'] => rat (Rat.divInt p p' - t) | _ => .non) (e_ix (n := 0) (ds := [.tup (g.rs.map rat), .tup (g.ms.map rwD)]) (e_ix (n := 0) (ds := [gmD g, intD s]) (ed_var rfl) ed_int rfl rfl) ed_int rfl rfl) (by rw [List.length_map]; omega) (lt_ok rfl) fun i d hd => ?_) ?_))) (e_ix (n := 1) (ds := [.tup (g.rs.map rat), .tup (g.ms.map rwD)]) (e_ix (n := 0) (ds := [gmD g, intD s]) (ed_var rfl) ed_int rfl rfl) ed_int rfl rfl)) (e_ix (n := 1) (ds := [gmD g, intD s]) (ed_var rfl) ed_int rfl rfl)) rfl
  · rw [List.getElem?_map] at hd
    obtain ⟨x, hx, rfl⟩ := Option.map_eq_some_iff.mp hd
    have xs := hs x (List.mem_of_getElem? hx)
    show EvD K C _ _ (rat (Rat.divInt x.num (x.den : Int) - t))
    rw [Rat.num_divInt_den]
    exact e_sub (ed_var rfl) (ed_var rfl) (xs.big (by omega)) (ht.big (by omega))
  · unfold tollG
    rw [List.map_map, List.map_map]
    refine List.map_congr_left fun x _ => ?_
    show rat (Rat.divInt x.num (x.den : Int) - t) = rat (x - t)
    rw [Rat.num_divInt_den]
include G in
theorem has_is_tolled (h_law_is_integer : Has P w K mg base "_law_is_integer" 40 ["_law_value_here"] (spR K C RIsI)) (h_law_ratios : Has P w K mg base "_law_ratios" 43 ["_law_values", "_law_count"] (spR K C RRats)) (h_law_tolled : Has P w K mg base "_law_tolled" 43 ["_law_place_here", "_law_toll"] (spR K C RTl))
    (F : Def K mg "_law_is_tolled" s_law_is_tolled ["_law_told", "_law_place_here", "_law_toll"]) : Has P w K mg base "_law_is_tolled" 44 ["_law_told", "_law_place_here", "_law_toll"] (spR K C RItl) := by
  obtain ⟨f, fd, F, m', b'⟩ := F
  refine has_of F m' b' (fn_ok F sc_law_is_tolled (fun as z h => by cases h; rfl) fun cdv A outer s0 H Q E hr as z h => ?_)
  obtain ⟨g, s, t, q, j, hl, hs, ht, hq, hj⟩ := h
  refine ⟨_, (pss_cons (ps_if (PW.pt (pw_or (pt_not (pt_val (pe_callB call_isi (by rfl) G.isinstance b_isinstance (pa_cons (pv 0) (pa_cons (pe_bltn (v := .ty "tuple") (by rfl) G.tuple b_tuple rfl) pa_nil))))) (pw_or (pt_cmpR op_ne (pe_callB cr_len (by rfl) G.len PySem.boot_len (pa_cons (pv 0) pa_nil)) pe_int (nomark _)) (pw_or1 (pt_not (pt_val (pe_has h_law_is_integer (hr.mono (by decide)) (by rfl) (pa_cons (pe_ix ix_tup (pv 0) pe_int (fun _ _ => rfl)) pa_nil)))))))) (pss_one (ps_ret pe_bl)) pss_nil)
    (pss_cons (ps_if (PW.pt (pw_or (pt_not (pt_val (pe_callB call_isi (by rfl) G.isinstance b_isinstance (pa_cons (pe_ix ix_tup (pv 0) pe_int (fun _ _ => rfl)) (pa_cons (pe_bltn (v := .ty "tuple") (by rfl) G.tuple b_tuple rfl) pa_nil))))) (pw_or (pt_cmpR op_ne (pe_callB cr_len (by rfl) G.len PySem.boot_len (pa_cons (pe_ix ix_tup (pv 0) pe_int (fun _ _ => rfl)) pa_nil)) pe_int (nomark _)) (pw_or1 (pt_not (pt_val (pe_has h_law_ratios (hr.mono (by decide)) (by rfl) (pa_cons (pe_ix ix_tup (pe_ix ix_tup (pv 0) pe_int (fun _ _ => rfl)) pe_int (fun _ _ => rfl)) (pa_cons (pe_callB cr_len (by rfl) G.len PySem.boot_len (pa_cons (pe_ix ix_tup (pe_ix ix_tup (pv 1) pe_int (fun _ _ => rfl)) pe_int (fun _ _ => rfl)) pa_nil)) pa_nil))))))))) (pss_one (ps_ret pe_bl)) pss_nil)
    (pss_one (ps_ret (pe_cmpR (op_eqD hr.units) (pv 0) (pe_has h_law_tolled (hr.mono (by decide)) (by rfl) (pa_cons (pv 1) (pa_cons (pv 2) pa_nil))) (nomark _)))))), ?_⟩
  have tl : (tollG g t).rs.length = g.rs.length := List.length_map ..
  refine st_seq (st_if (b := false || (false || false)) (tt_or (tt_not (b := true) (tt_test (ed_isi (b := true) (ed_var rfl) fun H x hx => ⟨_, ty_tup hx, rfl⟩))) fun _ => tt_or (et_is (tt_test (ed_neI (ed_lenT (ds := [gmD (tollG g t), intD s]) (ed_var rfl)) ed_int)) rfl) fun _ => tt_not (b := true) (tt_test (ed_call (ea_d (e_ix (n := 1) (ds := [gmD (tollG g t), intD s]) (ed_var rfl) ed_int rfl rfl) ea_nil) (.mk _)))) (fun h => nomatch h) fun _ => st_next ?_)
  refine st_seq (st_if (b := false || (false || false)) (tt_or (tt_not (b := true) (tt_test (ed_isi (b := true) (d := gmD (tollG g t)) (e_ix (n := 0) (ds := [gmD (tollG g t), intD s]) (ed_var rfl) ed_int rfl rfl) fun H x hx => ⟨_, ty_tup hx, rfl⟩))) fun _ => tt_or (et_is (tt_test (ed_neI (ed_lenT (ds := [.tup ((tollG g t).rs.map rat), .tup (g.ms.map rwD)]) (e_ix (n := 0) (ds := [gmD (tollG g t), intD s]) (ed_var rfl) ed_int rfl rfl)) ed_int)) rfl) fun _ => tt_not (b := true) (tt_test (ed_call (ea_d (d := rowD (tollG g t).rs) (e_ix (n := 0) (ds := [.tup ((tollG g t).rs.map rat), .tup (g.ms.map rwD)]) (e_ix (n := 0) (ds := [gmD (tollG g t), intD s]) (ed_var rfl) ed_int rfl rfl) ed_int rfl rfl) (ea_d (d := intD g.rs.length) (ed_is (ed_lenT (e_ix (n := 0) (ds := [.tup (g.rs.map rat), .tup (g.ms.map rwD)]) (e_ix (n := 0) (ds := [gmD g, intD s]) (ed_var rfl) ed_int rfl rfl) ed_int rfl rfl)) (by rw [List.length_map])) ea_nil)) (.mk _ _ tl (by omega))))) (fun h => nomatch h) fun _ => st_next ?_)
  exact st_ret (ed_is (ed_eqW (p := True) (d := plD (tollG g t) s) (e := plD (tollG g t) s) (ed_var rfl) (ed_call (ea_d (ed_var rfl) (ea_d (ed_var rfl) ea_nil)) (.mk g s t q j hl hs ht hq hj)) (pu_pl _ _) (pu_pl _ _) (dpt_pl _ _) (dpt_pl _ _) ⟨fun _ => trivial, fun _ => rfl⟩) (by rw [decide_eq_true trivial])) rfl
include G in
theorem has_is_fair (h_law_div : Has P w K mg base "_law_div" 42 ["_law_a", "_law_b"] (spR K C RDiv)) (h_law_sub : Has P w K mg base "_law_sub" 42 ["_law_a", "_law_b"] (spR K C RSub)) (h_law_add : Has P w K mg base "_law_add" 42 ["_law_a", "_law_b"] (spR K C RAdd)) (h_law_less : Has P w K mg base "_law_less" 42 ["_law_a", "_law_b"] (spR K C RLess)) (h_law_value : Has P w K mg base "_law_value" 43 ["_law_corners_here", "_law_amount"] (spR K C RVal))
    (F : Def K mg "_law_is_fair" s_law_is_fair ["_law_first", "_law_second", "_law_toll", "_law_discount_here"]) : Has P w K mg base "_law_is_fair" 44 ["_law_first", "_law_second", "_law_toll", "_law_discount_here"] (spR K C RFr) := by
  obtain ⟨f, fd, F, m', b'⟩ := F
  refine has_of F m' b' (fn_ok F sc_law_is_fair (fun as z h => by cases h; rfl) fun cdv A outer s0 H Q E hr as z h => ?_)
  obtain ⟨l, l', t, b, n, j, g, g', hl, hl', ks, ks', tz, bz, nz, hn, hj, ok, tg⟩ := h
  refine ⟨_, (pss_cons (ps_set (i := 4) sc_law_is_fair.nd rfl (.inl rfl) (pe_has h_law_div (hr.mono (by decide)) (by rfl) (pa_cons (pv 2) (pa_cons (pe_has h_law_sub (hr.mono (by decide)) (by rfl) (pa_cons (pe_tup (pa_cons pe_int (pa_cons pe_int pa_nil))) (pa_cons (pv 3) pa_nil))) pa_nil))))
    (pss_cons (ps_setLc (i := 6) (own := [("_law_corner", 5)]) (g := (gName 5)) rfl sc_law_is_fair.nd rfl rfl (sw_true rfl rfl rfl (by decide +kernel)) (pi_tup (pv 1)) (blkOk_by (N := ["_law_first", "_law_second", "_law_toll", "_law_discount_here", "_law_ahead", "_law_corner", "_law_amounts", "_law_tight", "_law_amount", "_law_gain", "_law_other"]) (sc := defScope s_law_is_fair) (by decide +kernel)) (fun _ _ _ _ _ => (pg_name (i := 5) sc_law_is_fair.nd rfl (.inl rfl))) (fun _ _ _ _ _ => pts_nil) (fun _ _ _ _ _ => (pe_ix (ixT_of (K := K) rfl) (pv 5) pe_int (fun _ _ => rfl))))
    (pss_cons (ps_for PassesOwn.never rfl (pi_tup (pv 0)) (pg_name (i := 5) sc_law_is_fair.nd rfl (.inl rfl)) (pss_one (ps_expr (pe_bm PySem.F.plainAttrs_list PySem.F.slot_list_append PySem.F.type_list_append mt_append (pv 6) (pa_cons (pe_has h_law_sub (hr.mono (by decide)) (by rfl) (pa_cons (pe_ix ix_tup (pv 5) pe_int (fun _ _ => rfl)) (pa_cons (pv 4) pa_nil))) pa_nil)))))
    (pss_cons (ps_set (i := 7) sc_law_is_fair.nd rfl (.inl rfl) (pe_cmpR (op_eqD hr.units) (pe_has h_law_sub (hr.mono (by decide)) (by rfl) (pa_cons (pe_ix ix_tup (pe_ix ix_tup (pv 0) (pe_op op_sub (pe_callB cr_len (by rfl) G.len PySem.boot_len (pa_cons (pv 0) pa_nil)) pe_int) (fun _ _ => rfl)) pe_int (fun _ _ => rfl)) (pa_cons (pv 4) pa_nil))) (pe_ix ix_tup (pe_ix ix_tup (pv 1) (pe_op op_sub (pe_callB cr_len (by rfl) G.len PySem.boot_len (pa_cons (pv 1) pa_nil)) pe_int) (fun _ _ => rfl)) pe_int (fun _ _ => rfl)) (nomark _)))
    (pss_cons (ps_for PassesOwn.never rfl (pi_list (pv 6)) (pg_name (i := 8) sc_law_is_fair.nd rfl (.inl rfl)) (pss_cons (ps_set (i := 9) sc_law_is_fair.nd rfl (.inl rfl) (pe_has h_law_sub (hr.mono (by decide)) (by rfl) (pa_cons (pe_has h_law_value (hr.mono (by decide)) (by rfl) (pa_cons (pv 0) (pa_cons (pe_has h_law_add (hr.mono (by decide)) (by rfl) (pa_cons (pv 8) (pa_cons (pv 4) pa_nil))) pa_nil))) (pa_cons (pv 4) pa_nil))))
    (pss_cons (ps_set (i := 10) sc_law_is_fair.nd rfl (.inl rfl) (pe_has h_law_value (hr.mono (by decide)) (by rfl) (pa_cons (pv 1) (pa_cons (pv 8) pa_nil))))
    (pss_cons (ps_if (pt_val (pe_has h_law_less (hr.mono (by decide)) (by rfl) (pa_cons (pv 9) (pa_cons (pv 10) pa_nil)))) (pss_one (ps_ret pe_bl)) pss_nil)
    (pss_one (ps_if (PW.pt (pw_and (pt_cmpR (op_eqD hr.units) (pv 9) (pv 10) (nomark _)) (pw_and1 (pt_val (pe_has h_law_less (hr.mono (by decide)) (by rfl) (pa_cons (pv 8) (pa_cons (pv 10) pa_nil))))))) (pss_one (ps_set (i := 7) sc_law_is_fair.nd rfl (.inl rfl) pe_bl)) pss_nil))))))
    (pss_one (ps_ret (pv 7)))))))), ?_⟩
  have dz := Sz.one.sub bz
  have cz : Sz (j + 6) (t / (1 - b)) := tz.div dz nz
  have p1 := List.length_pos_iff.mpr g.ne
  have p2 := List.length_pos_iff.mpr g'.ne
  refine st_seq (st_asg (e_div (ed_var rfl) (e_sub ed_r1 (ed_var rfl) (Sz.one.big (by omega)) (bz.big (by omega))) (tz.big (by omega)) (dz.big (by omega)) nz) (lt_ok rfl) ?_)
  generalize t / (1 - b) = c at cz ok tg ⊢
  refine st_seq (st_asgN (ds := (l'.map (·.1)).map rat) (en_is (en_lcT0 (fun d => match d with | .tup [x, _] => x | _ => .non) (ed_var rfl) (by rw [List.length_map]; omega) (lt_ok rfl) fun i d hd => ?_) (by rw [List.map_map, List.map_map] <;> rfl)) (lt_ok rfl) fun p6 => ?_)
  · rw [List.getElem?_map] at hd
    obtain ⟨p, hp, rfl⟩ := Option.map_eq_some_iff.mp hd
    exact e_k0 (ed_var rfl)
  refine st_seq (st_forT (ds := l.map kn) (n := 6) (f := fun d r => r.set 5 (.dat d)) (fun i r' => ∃ y5 y7 y8 y9 y10, r' = [.dat (kns l), .dat (kns l'), .dat (rat t), .dat (rat b), .dat (rat c), y5, .own p6 ((l'.map (·.1) ++ (l.take i).map fun p => p.1 - c).map rat), y7, y8, y9, y10]) (ed_var rfl) ⟨_, _, _, _, _, by rw [List.take_zero, List.map_nil, List.append_nil] <;> rfl⟩ (fun i r' ⟨_, _, _, _, _, e⟩ => by rw [e]; exact Nat.le_of_ble_eq_true rfl) (fun i d _ => tg_name 5) (fun i d r' hi ⟨y5, y7, y8, y9, y10, e⟩ => ?_) fun r' ⟨y5, y7, y8, y9, y10, e⟩ => ?_)
  · subst e
    rw [List.getElem?_map] at hi
    obtain ⟨p, hp, rfl⟩ := Option.map_eq_some_iff.mp hi
    have pz := ks.mem (List.mem_of_getElem? hp)
    have lt := (List.getElem?_eq_some_iff.mp hp).1
    have ts : l.take (i + 1) = l.take i ++ [p] := by rw [List.take_add_one, hp] <;> rfl
    refine st_app rfl (e_sub (e_k0 (ed_var rfl)) (ed_var rfl) (pz.1.big (by omega)) (cz.big (by omega))) (by rw [List.length_map, List.length_append, List.length_map, List.length_map, List.length_take]; omega) ?_
    rw [ts, List.map_append, List.map_append, List.map_append, List.map_append]
    exact ⟨_, _, _, _, _, by rw [List.append_assoc] <;> rfl⟩
  · subst e
    rw [List.length_map, List.take_length]
    have lz := ks (l.length - 1) (by omega)
    have lz' := ks' (l'.length - 1) (by omega)
    refine st_seq (st_asg (ed_eqR (e_sub (e_k0 (e_kn (n := l.length - 1) (ed_var rfl) (ed_i (ed_is (ed_lenT (ed_var rfl)) (by rw [List.length_map])) ed_int) (by omega) (by omega))) (ed_var rfl) (lz.1.big (by omega)) (cz.big (by omega))) (e_k0 (e_kn (n := l'.length - 1) (ed_var rfl) (ed_i (ed_is (ed_lenT (ed_var rfl)) (by rw [List.length_map])) ed_int) (by omega) (by omega)))) (lt_ok rfl) ?_)
    rw [show l'.map (·.1) ++ l.map (fun p => p.1 - c) = fairAms l l' c from rfl]
    have amz : ∀ m ∈ fairAms l l' c, Sz (n + j + 7) m := fun m hm => by
      rcases List.mem_append.mp hm with h | h
      · obtain ⟨p, hp, rfl⟩ := List.mem_map.mp h
        exact (ks'.mem hp).1.mono (by omega)
      · obtain ⟨p, hp, rfl⟩ := List.mem_map.mp h
        exact ((ks.mem hp).1.sub cz).mono (by omega)
    have aml : (fairAms l l' c).length ≤ 800 := by unfold fairAms; rw [List.length_append, List.length_map, List.length_map]; omega
    generalize fairAms l l' c = ams at ok tg amz aml ⊢
    generalize decide (kA l (l.length - 1) - c = kA l' (l'.length - 1)) = t0 at tg ⊢
    refine st_seq (st_forO (k := 6) (a := p6) (ds := ams.map rat) (n := 9) (f := fun d r => r.set 8 (.dat d)) (fun i r' => ∃ y5 y8 y9 y10, r' = [.dat (kns l), .dat (kns l'), .dat (rat t), .dat (rat b), .dat (rat c), y5, .own p6 (ams.map rat), .dat (.bl (t0 || (ams.take i).any (tgtAt l l' c))), y8, y9, y10]) rfl ⟨_, _, _, _, by rw [List.take_zero, List.any_nil, Bool.or_false] <;> rfl⟩ (fun i r' ⟨_, _, _, _, e⟩ => by rw [e]; exact Nat.le_of_ble_eq_true rfl) (fun i r' ⟨_, _, _, _, e⟩ _ => by rw [e] <;> rfl) (fun i d _ => tg_name 8) (fun i d r' hi ⟨y5, y8, y9, y10, e⟩ => ?_) fun r' ⟨y5, y8, y9, y10, e⟩ => ?_)
    · subst e
      rw [List.getElem?_map] at hi
      obtain ⟨m, hm, rfl⟩ := Option.map_eq_some_iff.mp hi
      have mm := List.mem_of_getElem? hm
      have mz := amz m mm
      have mo := ok m mm
      have ts : ams.take (i + 1) = ams.take i ++ [m] := by rw [List.take_add_one, hm] <;> rfl
      have mc := mz.add cz
      have v1 := Fx_sz g ks mc
      have v2 := Fx_sz g' ks' mz
      have gz := v1.sub cz
      refine st_seq (st_asg (e_sub (ed_call (ea_d (ed_var rfl) (ea_d (e_add (ed_var rfl) (ed_var rfl) (mz.big (by omega)) (cz.big (by omega))) ea_nil)) (.mk l (m + c) n _ g (by omega) ks mc (by omega) (by omega))) (ed_var rfl) (v1.big (by omega)) (cz.big (by omega))) (lt_ok rfl) ?_)
      refine st_seq (st_asg (ed_call (ea_d (ed_var rfl) (ea_d (ed_var rfl) ea_nil)) (.mk l' m n _ g' (by omega) ks' mz (by omega) (by omega))) (lt_ok rfl) ?_)
      refine st_seq (st_if (tt_test (t_less (ed_var rfl) (ed_var rfl) (gz.big (by omega)) (v2.big (by omega)))) (fun h => absurd (of_decide_eq_true h) mo) fun _ => st_next ?_)
      have ea : (t0 || (ams.take (i + 1)).any (tgtAt l l' c)) = ((t0 || (ams.take i).any (tgtAt l l' c)) || tgtAt l l' c m) := by
        rw [ts, List.any_append, List.any_cons, List.any_nil, Bool.or_false, Bool.or_assoc]
      rw [ea]
      refine st_if (b := tgtAt l l' c m) (tt_and (tt_test (ed_eqR (ed_var rfl) (ed_var rfl))) fun _ => tt_test (t_less (ed_var rfl) (ed_var rfl) (mz.big (by omega)) (v2.big (by omega)))) (fun h => ?_) fun h => ?_
      · rw [h, Bool.or_true]
        exact st_asg ed_bl (lt_ok rfl) ⟨_, _, _, _, rfl⟩
      · rw [h, Bool.or_false]
        exact st_next ⟨_, _, _, _, rfl⟩
    · subst e
      rw [List.length_map, List.take_length, tg]
      exact st_ret (ed_var rfl) rfl
def amsTo (l : List Kn) : Nat → List Rat
  | 0 => []
  | k + 1 => amsTo l k ++ [if k = 0 then kA l 0 - 1 else (kA l (k - 1) + kA l k) / 2, kA l k]
theorem amsTo_len (l : List Kn) : ∀ k, (amsTo l k).length = 2 * k
  | 0 => rfl
  | k + 1 => by
    show (amsTo l k ++ _).length = _
    rw [List.length_append, amsTo_len l k] <;> rfl
theorem two_sz : Sz 2 (2 : Rat) := ⟨by decide, by decide⟩
theorem amsTo_sz {l : List Kn} {n : Nat} (h : KSz n l) : ∀ k, k ≤ l.length → ∀ m ∈ amsTo l k, Sz (2 * n + 4) m
  | 0, _, m, hm => by cases hm
  | k + 1, hk, m, hm => by
    have hm : m ∈ amsTo l k ++ [if k = 0 then kA l 0 - 1 else (kA l (k - 1) + kA l k) / 2, kA l k] := hm
    rcases List.mem_append.mp hm with e | e
    · exact amsTo_sz h k (by omega) m e
    · rcases List.mem_cons.mp e with e | e
      · rw [e]
        by_cases z : k = 0
        · rw [if_pos z]
          exact ((h 0 (by omega)).1.sub Sz.one).mono (by omega)
        · rw [if_neg z]
          exact (((h (k - 1) (by omega)).1.add (h k (by omega)).1).div two_sz (by decide)).mono (by omega)
      · rw [List.mem_singleton] at e
        rw [e]
        exact (h k (by omega)).1.mono (by omega)
/-- the stop table keeps its rule -/
abbrev fTab (g : Gm) (b m : Rat) : List Rat := (List.range g.n).map fun (s : Nat) => fval g b (lvX g b) (lvY g b) m s
theorem fTab_en {g : Gm} {b m : Rat} {t : Nat} (h : t < g.n) : en (fTab g b m) t = fval g b (lvX g b) (lvY g b) m t := by
  unfold en fTab
  rw [List.getD_eq_getElem?_getD, List.getElem?_map, List.getElem?_range h] <;> rfl
theorem fTab_len (g : Gm) (b m : Rat) : (fTab g b m).length = g.n := by rw [List.length_map, List.length_range]
theorem fTab_sz {g : Gm} {b m : Rat} {q j : Nat} (h : GS g b [] q) (hm : Sz j m) (t : Nat) : Sz (465 + 2 * q + j) (en (fTab g b m) t) := by
  by_cases ht : t < g.n
  · rw [fTab_en ht]
    unfold fval Gk Gv
    by_cases c : t ∈ Ss g b (lvX g b) (lvY g b) (cnt g b (lvX g b) (lvY g b) m)
    · rw [if_pos c]
      obtain ⟨x, y⟩ := (h.at_ _).xy c
      exact (x.add (y.mul hm)).mono (by omega)
    · rw [if_neg c]
      exact hm.mono (by omega)
  · rw [AC.en_ge (by rw [fTab_len]; omega)]
    exact Sz.zero.mono (by omega)
theorem fTab_stop {g : Gm} {b m : Rat} {q : Nat} (h : GS g b [] q) {s : Nat} (hs : s < g.n) : (if play g b s (en (fTab g b m)) < m then m else play g b s (en (fTab g b m))) = en (fTab g b m) s := by
  have e : play g b s (en (fTab g b m)) = play g b s (Gk g b (lvX g b) (lvY g b) (cnt g b (lvX g b) (lvY g b) m) m) := by
    unfold play
    rw [dot_congr fun tp ht => fTab_en (h.ok.tgt s tp ht)] <;> rfl
  have o := optimal h.fam (cnt_fits h.fam m) hs
  rw [e, fTab_en hs]
  show _ = Gk g b (lvX g b) (lvY g b) (cnt g b (lvX g b) (lvY g b) m) m s
  rcases o with ⟨o1, o2⟩ | ⟨o1, o2⟩
  · rw [if_neg (by grind)]
    exact o2.symm
  · rw [o2]
    by_cases c : play g b s (Gk g b (lvX g b) (lvY g b) (cnt g b (lvX g b) (lvY g b) m) m) < m
    · rw [if_pos c]
    · rw [if_neg c]
      grind
include G CV in
theorem has_corners (h_game_curve : Has P w K mg base "game_curve" 50 ["place", "discount"] (spR K C RGc)) (h_stop_table : Has P w K mg base "stop_table" 49 ["game", "amount", "discount"] (spR K C RSt)) (h_law_ratios : Has P w K mg base "_law_ratios" 43 ["_law_values", "_law_count"] (spR K C RRats)) (h_law_sub : Has P w K mg base "_law_sub" 42 ["_law_a", "_law_b"] (spR K C RSub)) (h_law_add : Has P w K mg base "_law_add" 42 ["_law_a", "_law_b"] (spR K C RAdd)) (h_law_div : Has P w K mg base "_law_div" 42 ["_law_a", "_law_b"] (spR K C RDiv)) (h_law_less : Has P w K mg base "_law_less" 42 ["_law_a", "_law_b"] (spR K C RLess)) (h_law_value : Has P w K mg base "_law_value" 43 ["_law_corners_here", "_law_amount"] (spR K C RVal)) (h_law_is_stopping : Has P w K mg base "_law_is_stopping" 44 ["_law_game_here", "_law_amount", "_law_discount_here", "_law_table"] (spR K C RStp))
    (F : Def K mg "_law_corners" s_law_corners ["_law_place_here", "_law_discount_here"]) : Has P w K mg base "_law_corners" 51 ["_law_place_here", "_law_discount_here"] (spR K C RCor) := by
  obtain ⟨f, fd, F, m', b'⟩ := F
  refine has_of F m' b' (fn_ok F sc_law_corners (fun as z h => by cases h; rfl) fun cdv A outer s0 H Q E hr as z h => ?_)
  obtain ⟨g, b, q, s, h, hq, hs⟩ := h
  refine ⟨_, (pss_cons (ps_set (i := 2) sc_law_corners.nd rfl (.inl rfl) (pe_fld (pe_has h_game_curve (hr.mono (by decide)) (by rfl) (pa_cons (pv 0) (pa_cons (pv 1) pa_nil))) rfl))
    (pss_cons (ps_if (PW.pt (pw_or (pt_not (pt_val (pe_callB call_isi (by rfl) G.isinstance b_isinstance (pa_cons (pv 2) (pa_cons (pe_bltn (v := .ty "tuple") (by rfl) G.tuple b_tuple rfl) pa_nil))))) (pw_or1 (pt_cmpR op_eq (pe_callB cr_len (by rfl) G.len PySem.boot_len (pa_cons (pv 2) pa_nil)) pe_int (nomark _))))) (pss_one (ps_ret pe_non)) pss_nil)
    (pss_cons (ps_set (i := 3) sc_law_corners.nd rfl (.inl rfl) (pe_lst pa_nil))
    (pss_cons (ps_for PassesOwn.never rfl (pi_range1 (by rfl) G.range (pa_cons (pe_callB cr_len (by rfl) G.len PySem.boot_len (pa_cons (pv 2) pa_nil)) pa_nil)) (pg_name (i := 4) sc_law_corners.nd rfl (.inl rfl)) (pss_cons (ps_if (pt_not (pt_val (pe_has h_law_ratios (hr.mono (by decide)) (by rfl) (pa_cons (pe_ix ix_tup (pv 2) (pv 4) (fun _ _ => rfl)) (pa_cons pe_int pa_nil))))) (pss_one (ps_ret pe_non)) pss_nil)
    (pss_cons (ps_if (pt_cmpR op_eq (pv 4) pe_int (nomark _)) (pss_one (ps_expr (pe_bm PySem.F.plainAttrs_list PySem.F.slot_list_append PySem.F.type_list_append mt_append (pv 3) (pa_cons (pe_has h_law_sub (hr.mono (by decide)) (by rfl) (pa_cons (pe_ix ix_tup (pe_ix ix_tup (pv 2) pe_int (fun _ _ => rfl)) pe_int (fun _ _ => rfl)) (pa_cons (pe_tup (pa_cons pe_int (pa_cons pe_int pa_nil))) pa_nil))) pa_nil)))) (pss_cons (ps_if (pt_not (pt_val (pe_has h_law_less (hr.mono (by decide)) (by rfl) (pa_cons (pe_ix ix_tup (pe_ix ix_tup (pv 2) (pe_op op_sub (pv 4) pe_int) (fun _ _ => rfl)) pe_int (fun _ _ => rfl)) (pa_cons (pe_ix ix_tup (pe_ix ix_tup (pv 2) (pv 4) (fun _ _ => rfl)) pe_int (fun _ _ => rfl)) pa_nil))))) (pss_one (ps_ret pe_non)) pss_nil)
    (pss_one (ps_expr (pe_bm PySem.F.plainAttrs_list PySem.F.slot_list_append PySem.F.type_list_append mt_append (pv 3) (pa_cons (pe_has h_law_div (hr.mono (by decide)) (by rfl) (pa_cons (pe_has h_law_add (hr.mono (by decide)) (by rfl) (pa_cons (pe_ix ix_tup (pe_ix ix_tup (pv 2) (pe_op op_sub (pv 4) pe_int) (fun _ _ => rfl)) pe_int (fun _ _ => rfl)) (pa_cons (pe_ix ix_tup (pe_ix ix_tup (pv 2) (pv 4) (fun _ _ => rfl)) pe_int (fun _ _ => rfl)) pa_nil))) (pa_cons (pe_tup (pa_cons pe_int (pa_cons pe_int pa_nil))) pa_nil))) pa_nil))))))
    (pss_one (ps_expr (pe_bm PySem.F.plainAttrs_list PySem.F.slot_list_append PySem.F.type_list_append mt_append (pv 3) (pa_cons (pe_ix ix_tup (pe_ix ix_tup (pv 2) (pv 4) (fun _ _ => rfl)) pe_int (fun _ _ => rfl)) pa_nil)))))))
    (pss_cons (ps_if (pt_cmpR (op_neD hr.units) (pe_ix ix_tup (pe_ix ix_tup (pv 2) (pe_op op_sub (pe_callB cr_len (by rfl) G.len PySem.boot_len (pa_cons (pv 2) pa_nil)) pe_int) (fun _ _ => rfl)) pe_int (fun _ _ => rfl)) (pe_ix ix_tup (pe_ix ix_tup (pv 2) (pe_op op_sub (pe_callB cr_len (by rfl) G.len PySem.boot_len (pa_cons (pv 2) pa_nil)) pe_int) (fun _ _ => rfl)) pe_int (fun _ _ => rfl)) (nomark _)) (pss_one (ps_ret pe_non)) pss_nil)
    (pss_cons (ps_for PassesOwn.never rfl (pi_list (pv 3)) (pg_name (i := 5) sc_law_corners.nd rfl (.inl rfl)) (pss_cons (ps_set (i := 6) sc_law_corners.nd rfl (.inl rfl) (pe_has h_stop_table (hr.mono (by decide)) (by rfl) (pa_cons (pe_ix ix_tup (pv 0) pe_int (fun _ _ => rfl)) (pa_cons (pv 5) (pa_cons (pv 1) pa_nil)))))
    (pss_cons (ps_if (pt_not (pt_val (pe_has h_law_is_stopping (hr.mono (by decide)) (by rfl) (pa_cons (pe_ix ix_tup (pv 0) pe_int (fun _ _ => rfl)) (pa_cons (pv 5) (pa_cons (pv 1) (pa_cons (pv 6) pa_nil))))))) (pss_one (ps_ret pe_non)) pss_nil)
    (pss_one (ps_if (pt_cmpR (op_neD hr.units) (pe_ix ix_tup (pv 6) (pe_ix ix_tup (pv 0) pe_int (fun _ _ => rfl)) (fun _ _ => rfl)) (pe_has h_law_value (hr.mono (by decide)) (by rfl) (pa_cons (pv 2) (pa_cons (pv 5) pa_nil))) (nomark _)) (pss_one (ps_ret pe_non)) pss_nil)))))
    (pss_one (ps_ret (pv 2))))))))), ?_⟩
  have ks := h.ksz s
  have kl := h.klen s
  have kg := h.kgood hs
  have kv := fun m => knots_val h.fam hs m
  refine st_seq (st_asg (ed_knots (ed_call (ea_d (ed_var rfl) (ea_d (ed_var rfl) ea_nil)) (.mk g b q s h hs)) CV.k.cls CV.k.nk) (lt_ok rfl) ?_)
  have kv' : ∀ m, Fx 0 (gkn g b s) m = fval g b (lvX g b) (lvY g b) m s := kv
  generalize gkn g b s = l at ks kl kg kv' ⊢
  have gg := kg.good
  have pos := List.length_pos_iff.mpr gg.ne
  refine st_seq (st_if (b := false || false) (tt_or (tt_not (b := true) (tt_test (ed_isi (b := true) (ed_var rfl) fun H x hx => ⟨_, ty_tup hx, rfl⟩))) fun _ => et_is (tt_test (ed_eqI (ed_lenT (ed_var rfl)) ed_int)) (by rw [List.length_map]; exact decide_eq_false (by omega))) (fun h => nomatch h) fun _ => st_next ?_)
  refine st_seq (st_asgN en_l0 (lt_ok rfl) fun p3 => ?_)
  refine st_seq (st_forR (N := l.length) (fun i r' => ∃ y4 y5 y6, r' = [.dat (plD g s), .dat (rat b), .dat (kns l), .own p3 ((amsTo l i).map rat), y4, y5, y6]) (ea_d (ed_is (ed_lenT (ed_var rfl)) (by rw [List.length_map])) ea_nil) (by omega) ⟨_, _, _, rfl⟩ (fun i r' ⟨_, _, _, e⟩ => by rw [e]; exact lt_ok rfl) (fun i r' hi ⟨y4, y5, y6, e⟩ => ?_) fun r' ⟨y4, y5, y6, e⟩ => ?_)
  · subst e
    have zi := ks i hi
    have zs := ks 0 pos
    have al := amsTo_len l i
    refine st_seq (st_if (tt_not (b := true) (tt_test (ed_call (ea_d (d := rowD [kA l i, AC.kV l i]) (e_kn (n := i) (ed_var rfl) (ed_var rfl) rfl hi) (ea_d (d := intD 2) ed_int ea_nil)) (.mk [kA l i, AC.kV l i] 2 rfl (by omega))))) (fun h => nomatch h) fun _ => st_next ?_)
    refine st_cut (fun r' => ∃ y4 y5 y6, r' = [.dat (plD g s), .dat (rat b), .dat (kns l), .own p3 ((amsTo l i ++ [if i = 0 then kA l 0 - 1 else (kA l (i - 1) + kA l i) / 2]).map rat), .dat (intD i), y5, y6] ∧ y4 = 0) (st_if (tt_test (ed_eqI (ed_var rfl) ed_int)) (fun hz => ?_) fun hz => ?_) fun r' ⟨y4, y5, y6, e, _⟩ => ?_
    · have hz : i = 0 := by have := of_decide_eq_true hz; omega
      rw [if_pos hz]
      refine st_app rfl (e_sub (e_k0 (e_kn (n := 0) (ed_var rfl) ed_int rfl pos)) ed_r1 (zs.1.big (by omega)) (Sz.one.big (by omega))) (by rw [List.length_map, al]; omega) ?_
      rw [List.map_append]
      exact ⟨0, _, _, rfl, rfl⟩
    · have hz : i ≠ 0 := by have := of_decide_eq_false hz; omega
      rw [if_neg hz]
      have zp := ks (i - 1) (by omega)
      have as := gg.asc (i - 1) (by omega)
      rw [show i - 1 + 1 = i by omega] at as
      refine st_seq (st_if (tt_not (b := true) (et_is (tt_test (t_less (e_k0 (e_kn (n := i - 1) (ed_var rfl) (ed_i (ed_var rfl) ed_int) (by omega) (by omega))) (e_k0 (e_kn (n := i) (ed_var rfl) (ed_var rfl) rfl hi)) (zp.1.big (by omega)) (zi.1.big (by omega)))) (decide_eq_true as))) (fun h => nomatch h) fun _ => st_next ?_)
      refine st_app rfl (e_div (b := 2) (e_add (e_k0 (e_kn (n := i - 1) (ed_var rfl) (ed_i (ed_var rfl) ed_int) (by omega) (by omega))) (e_k0 (e_kn (n := i) (ed_var rfl) (ed_var rfl) rfl hi)) (zp.1.big (by omega)) (zi.1.big (by omega))) (ed_t2 ed_int ed_int) ((zp.1.add zi.1).big (by omega)) (two_sz.big (by omega)) (by decide)) (by rw [List.length_map, al]; omega) ?_
      rw [List.map_append]
      exact ⟨0, _, _, rfl, rfl⟩
    · subst e
      refine st_app rfl (e_k0 (e_kn (n := i) (ed_var rfl) (ed_var rfl) rfl hi)) (by rw [List.length_map, List.length_append, al]; show 2 * i + 1 < 1000; omega) ?_
      have es : (amsTo l i ++ [if i = 0 then kA l 0 - 1 else (kA l (i - 1) + kA l i) / 2]).map rat ++ [rat (kA l i)] = (amsTo l (i + 1)).map rat := by
        show _ = (amsTo l i ++ [if i = 0 then kA l 0 - 1 else (kA l (i - 1) + kA l i) / 2, kA l i]).map rat
        rw [List.map_append, List.map_append, List.append_assoc] <;> rfl
      rw [← es]
      exact ⟨_, _, _, rfl⟩
  · subst e
    have amz := amsTo_sz ks l.length (Nat.le_refl _)
    have aml := amsTo_len l l.length
    have last : AC.kV l (l.length - 1) = kA l (l.length - 1) := gg.last
    refine st_seq (st_if (tt_test (ed_neR (e_k0 (e_kn (n := l.length - 1) (ed_var rfl) (ed_i (ed_is (ed_lenT (ed_var rfl)) (by rw [List.length_map])) ed_int) (by omega) (by omega))) (e_k1 (e_kn (n := l.length - 1) (ed_var rfl) (ed_i (ed_is (ed_lenT (ed_var rfl)) (by rw [List.length_map])) ed_int) (by omega) (by omega))))) (fun h => ?_) fun _ => st_next ?_)
    · rw [last, decide_eq_true rfl] at h
      cases h
    generalize amsTo l l.length = ams at amz aml ⊢
    refine st_seq (st_forO (k := 3) (a := p3) (ds := ams.map rat) (n := 6) (f := fun d r => r.set 5 (.dat d)) (fun i r' => ∃ y4 y5 y6, r' = [.dat (plD g s), .dat (rat b), .dat (kns l), .own p3 (ams.map rat), y4, y5, y6]) rfl ⟨_, _, _, rfl⟩ (fun i r' ⟨_, _, _, e⟩ => by rw [e]; exact Nat.le_of_ble_eq_true rfl) (fun i r' ⟨_, _, _, e⟩ _ => by rw [e] <;> rfl) (fun i d _ => tg_name 5) (fun i d r' hi ⟨y4, y5, y6, e⟩ => ?_) fun r' ⟨y4, y5, y6, e⟩ => ?_)
    · subst e
      rw [List.getElem?_map] at hi
      obtain ⟨m, hm, rfl⟩ := Option.map_eq_some_iff.mp hi
      have mz := amz m (List.mem_of_getElem? hm)
      refine st_seq (st_asg (d := rowD (fTab g b m)) (ed_is (ed_call (ea_d (e_ix (n := 0) (ds := [gmD g, intD s]) (ed_var rfl) ed_int rfl rfl) (ea_d (ed_var rfl) (ea_d (ed_var rfl) ea_nil))) (.mk g b m q _ h mz (by omega))) (by show Dat.tup _ = Dat.tup (List.map rat (List.map _ _)); rw [List.map_map] <;> rfl)) (lt_ok rfl) ?_)
      refine st_seq (st_if (tt_not (b := true) (tt_test (ed_call (ea_d (e_ix (n := 0) (ds := [gmD g, intD s]) (ed_var rfl) ed_int rfl rfl) (ea_d (ed_var rfl) (ea_d (ed_var rfl) (ea_d (ed_var rfl) ea_nil)))) (.mk g b m q _ _ (fTab g b m) h mz (by omega) (fTab_len g b m) (fTab_sz h mz) (by omega) fun s hs => fTab_stop h hs)))) (fun h => nomatch h) fun _ => st_next ?_)
      refine st_if (tt_test (ed_neR (e_ix (n := s) (ed_var rfl) (e_ix (n := 1) (ds := [gmD g, intD s]) (ed_var rfl) ed_int rfl rfl) rfl (en_getR (by rw [fTab_len]; exact hs))) (ed_call (ea_d (ed_var rfl) (ea_d (ed_var rfl) ea_nil)) (.mk l m (2400 + 11 * q) _ gg (by omega) ks mz (by omega) (by omega))))) (fun hc => ?_) fun _ => st_next ⟨_, _, _, rfl⟩
      rw [fTab_en hs, kv', decide_eq_true rfl] at hc
      cases hc
    · subst e
      exact st_ret (ed_var rfl) rfl
end
end AW

set_option Elab.async false
set_option linter.all false
set_option maxRecDepth 100000
/-! plain facts: tolls and fairness as the program has them -/
namespace AW
open AC
/-! ### the least lead -/
theorem lead_step_le {l l' : List Kn} : ∀ (r : List Kn) (acc : Option Rat) (c : Rat), r.foldl (leadStep l l') acc = some c →
    (∀ p ∈ r, c ≤ ahead l l' (p.2 - p.1)) ∧ (∀ a, acc = some a → c ≤ a) ∧ (acc = some c ∨ ∃ p ∈ r, c = ahead l l' (p.2 - p.1))
  | [], acc, c, h => ⟨fun p hp => (by cases hp), fun a ha => by
      have h : acc = some c := h
      rw [h] at ha
      rw [Option.some.inj ha]
      exact Rat.le_refl, .inl h⟩
  | p :: r, acc, c, h => by
    obtain ⟨h1, h2, h3⟩ := lead_step_le r (leadStep l l' acc p) c h
    cases acc with
    | none =>
      have e : leadStep l l' none p = some (ahead l l' (p.2 - p.1)) := rfl
      rw [e] at h2 h3
      refine ⟨fun x hx => ?_, fun a ha => (by cases ha), .inr ?_⟩
      · rcases List.mem_cons.mp hx with q | q
        · rw [q]; exact h2 _ rfl
        · exact h1 x q
      · rcases h3 with q | ⟨x, hx, q⟩
        · exact ⟨p, List.mem_cons_self .., (Option.some.inj q).symm⟩
        · exact ⟨x, List.mem_cons_of_mem _ hx, q⟩
    | some c0 =>
      by_cases z : ahead l l' (p.2 - p.1) < c0
      · have e : leadStep l l' (some c0) p = some (ahead l l' (p.2 - p.1)) := if_pos z
        rw [e] at h2 h3
        refine ⟨fun x hx => ?_, fun a ha => ?_, ?_⟩
        · rcases List.mem_cons.mp hx with q | q
          · rw [q]; exact h2 _ rfl
          · exact h1 x q
        · have := h2 _ rfl
          have := Option.some.inj ha
          grind
        · rcases h3 with q | ⟨x, hx, q⟩
          · exact .inr ⟨p, List.mem_cons_self .., (Option.some.inj q).symm⟩
          · exact .inr ⟨x, List.mem_cons_of_mem _ hx, q⟩
      · have e : leadStep l l' (some c0) p = some c0 := if_neg z
        rw [e] at h2 h3
        refine ⟨fun x hx => ?_, fun a ha => ?_, ?_⟩
        · rcases List.mem_cons.mp hx with q | q
          · have := h2 _ rfl
            rw [q]
            grind
          · exact h1 x q
        · have := h2 _ rfl
          have := Option.some.inj ha
          grind
        · rcases h3 with q | ⟨x, hx, q⟩
          · exact .inl q
          · exact .inr ⟨x, List.mem_cons_of_mem _ hx, q⟩
theorem lead_some {l l' : List Kn} : ∀ (r : List Kn) (c : Rat), ∃ d, r.foldl (leadStep l l') (some c) = some d
  | [], c => ⟨c, rfl⟩
  | p :: r, c => by
    rw [List.foldl_cons]
    unfold leadStep
    dsimp only
    by_cases z : ahead l l' (p.2 - p.1) < c
    · rw [if_pos z]; exact lead_some r _
    · rw [if_neg z]; exact lead_some r _
theorem lead_has {l l' : List Kn} (h : l ≠ []) : ∃ c, leadOf l l' = some c := by
  unfold leadOf
  cases l with
  | nil => exact absurd rfl h
  | cons p r => exact lead_some (r ++ l') _
theorem mem_kn {l : List Kn} {k : Nat} (h : k < l.length) : (kA l k, AC.kV l k) ∈ l := List.mem_of_getElem? (kget h)
theorem kn_mem {l : List Kn} {p : Kn} (h : p ∈ l) : ∃ k, k < l.length ∧ p = (kA l k, AC.kV l k) := by
  obtain ⟨k, hk, e⟩ := List.getElem_of_mem h
  have b := kget hk
  rw [List.getElem?_eq_getElem hk, e] at b
  exact ⟨k, hk, Option.some.inj b⟩
theorem lead_least {l l' : List Kn} (h : l ≠ []) : ∃ c, leadOf l l' = some c ∧ Least l l' c := by
  obtain ⟨c, hc⟩ := lead_has (l' := l') h
  obtain ⟨h1, _, h3⟩ := lead_step_le (l ++ l') none c hc
  refine ⟨c, hc, fun k hk => h1 _ (List.mem_append_left _ (mem_kn hk)), fun k hk => h1 _ (List.mem_append_right _ (mem_kn hk)), ?_⟩
  rcases h3 with q | ⟨p, hp, e⟩
  · cases q
  · rcases List.mem_append.mp hp with q | q
    · obtain ⟨k, hk, rfl⟩ := kn_mem q
      exact .inl ⟨k, hk, e⟩
    · obtain ⟨k, hk, rfl⟩ := kn_mem q
      exact .inr ⟨k, hk, e⟩
theorem ahead_self (l : List Kn) (x : Rat) : ahead l l x = 0 := by unfold ahead; grind
theorem fair_self {l : List Kn} {b : Rat} (h : l ≠ []) : fairOf b l l = 0 := by
  obtain ⟨c, hc, L⟩ := lead_least (l' := l) h
  unfold fairOf
  rw [hc]
  have pos := List.length_pos_iff.mpr h
  have z : c = 0 := by
    rcases L.at_ with ⟨k, _, e⟩ | ⟨k, _, e⟩
    · rw [e, ahead_self]
    · rw [e, ahead_self]
  rw [z]
  show (1 - b) * 0 = 0
  grind
theorem lead_shift {l l' : List Kn} {c : Rat} (h : l ≠ []) : ∀ (r : List Kn) (acc : Option Rat), r.foldl (leadStep (l.map (sh c)) l') (acc.map (· - c)) = (r.foldl (leadStep l l') acc).map (· - c)
  | [], acc => rfl
  | p :: r, acc => by
    rw [List.foldl_cons, List.foldl_cons, ← lead_shift h r]
    congr 1
    have e := ahead_sh (c := c) h l' (p.2 - p.1)
    cases acc with
    | none =>
      show some (ahead (l.map (sh c)) l' (p.2 - p.1)) = _
      rw [e] <;> rfl
    | some a =>
      show (if ahead (l.map (sh c)) l' (p.2 - p.1) < a - c then some (ahead (l.map (sh c)) l' (p.2 - p.1)) else some (a - c)) = Option.map (· - c) (if ahead l l' (p.2 - p.1) < a then some (ahead l l' (p.2 - p.1)) else some a)
      rw [e]
      by_cases z : ahead l l' (p.2 - p.1) < a
      · rw [if_pos z, if_pos (by grind)] <;> rfl
      · rw [if_neg z, if_neg (by grind)] <;> rfl
theorem lead_exc {f : Kn → Kn} {l l' : List Kn} (hf : ∀ p, (f p).2 - (f p).1 = p.2 - p.1) : ∀ (r : List Kn) (acc : Option Rat), (r.map f).foldl (leadStep l l') acc = r.foldl (leadStep l l') acc
  | [], _ => rfl
  | p :: r, acc => by
    rw [List.map_cons, List.foldl_cons, List.foldl_cons, lead_exc hf r]
    congr 1
    unfold leadStep
    rw [hf]
theorem fair_shift {l l' : List Kn} {b t : Rat} (h : l ≠ []) (hb : 1 - b ≠ 0) : fairOf b (l.map (sh (t / (1 - b)))) l' = fairOf b l l' - t := by
  obtain ⟨c, hc⟩ := lead_has (l' := l') h
  have e : leadOf (l.map (sh (t / (1 - b)))) l' = (leadOf l l').map (· - t / (1 - b)) := by
    unfold leadOf
    rw [List.foldl_append, List.foldl_append, lead_exc (fun p => by unfold sh; grind)]
    have a1 : l.foldl (leadStep (l.map (sh (t / (1 - b)))) l') none = (l.foldl (leadStep l l') none).map (· - t / (1 - b)) := lead_shift (l' := l') (c := t / (1 - b)) h l none
    rw [a1]
    exact lead_shift h l' _
  unfold fairOf
  rw [e, hc]
  show (1 - b) * (c - t / (1 - b)) = (1 - b) * c - t
  have : (1 - b) * (t / (1 - b)) = t := by grind
  grind
/-! ### never worse -/
theorem lack_none {l l' : List Kn} : ∀ (ms : List Rat), (∀ m ∈ ms, Fx 0 l' m ≤ Fx 0 l m) → ms.foldl (lackStep l l') (0, none) = (0, none)
  | [], _ => rfl
  | m :: r, h => by
    rw [List.foldl_cons]
    have e : lackStep l l' (0, none) m = (0, none) := by
      have := h m (List.mem_cons_self ..)
      exact if_neg (by grind)
    rw [e]
    exact lack_none r fun x hx => h x (List.mem_cons_of_mem _ hx)
theorem lack_keep {l l' : List Kn} : ∀ (ms : List Rat) (a : Rat) (w : Rat), ∃ a' w', ms.foldl (lackStep l l') (a, some w) = (a', some w')
  | [], a, w => ⟨a, w, rfl⟩
  | m :: r, a, w => by
    rw [List.foldl_cons]
    unfold lackStep
    dsimp only
    by_cases z : a < Fx 0 l' m - Fx 0 l m
    · rw [if_pos z]; exact lack_keep r _ _
    · rw [if_neg z]; exact lack_keep r _ _
theorem lack_some {l l' : List Kn} : ∀ (ms : List Rat), (∃ m ∈ ms, Fx 0 l m < Fx 0 l' m) → ∃ a w, ms.foldl (lackStep l l') (0, none) = (a, some w)
  | [], h => by obtain ⟨m, hm, _⟩ := h; cases hm
  | m :: r, h => by
    rw [List.foldl_cons]
    by_cases z : (0 : Rat) < Fx 0 l' m - Fx 0 l m
    · have e : lackStep l l' (0, none) m = (Fx 0 l' m - Fx 0 l m, some m) := if_pos z
      rw [e]
      exact lack_keep r _ _
    · have e : lackStep l l' (0, none) m = (0, none) := if_neg z
      rw [e]
      refine lack_some r ?_
      obtain ⟨x, hx, h2⟩ := h
      rcases List.mem_cons.mp hx with q | q
      · rw [q] at h2
        exact absurd h2 (by grind)
      · exact ⟨x, q, h2⟩
theorem isN_none {o : Option Rat} (h : o = none) : isNon (optD o) = true := by rw [h] <;> rfl
theorem isN_some {o : Option Rat} {w : Rat} (h : o = some w) : isNon (optD o) = false := by rw [h] <;> rfl
section
variable {l l' : List Kn} {c : Rat} (g : GoodS 0 l) (g' : GoodS 0 l') (L : Least l l' c)
include g g' L
theorem never_at : ∀ m ∈ mrg (l.map (sh c)) l', Fx 0 l' m ≤ Fx 0 (l.map (sh c)) m := fun m hm => by
  rw [Fx_sh c g.good.ne 0 m]
  rcases mrg_mem _ _ m hm with ⟨p, hp, e⟩ | ⟨p, hp, e⟩
  · obtain ⟨x, hx, rfl⟩ := List.mem_map.mp hp
    obtain ⟨k, hk, rfl⟩ := kn_mem hx
    rw [e]
    exact never_fst g g' L hk
  · obtain ⟨k, hk, rfl⟩ := kn_mem hp
    rw [e]
    exact never_snd g g' L hk
theorem never_true : isNon (optD (lackOf (l.map (sh c)) l').2) = true := by
  refine isN_none ?_
  unfold lackOf
  rw [lack_none _ (never_at g g' L)]
theorem never_false {d : Rat} (hd : c < d) : isNon (optD (lackOf (l.map (sh d)) l').2) = false := by
  have ex : ∃ m ∈ mrg (l.map (sh d)) l', Fx 0 (l.map (sh d)) m < Fx 0 l' m := by
    obtain ⟨a1, a2⟩ := mrg_all (l.map (sh d)) l'
    rcases too_much g g' L hd with ⟨k, hk, e⟩ | ⟨k, hk, e⟩
    · refine ⟨kA l' k, a2 _ (mem_kn hk), ?_⟩
      rw [Fx_sh d g.good.ne 0]
      exact e
    · refine ⟨kA l k - d, a1 (sh d (kA l k, AC.kV l k)) (List.mem_map.mpr ⟨_, mem_kn hk, rfl⟩), ?_⟩
      rw [Fx_sh d g.good.ne 0]
      exact e
  obtain ⟨a, w, e⟩ := lack_some _ ex
  refine isN_some (w := w) ?_
  unfold lackOf
  rw [e]
theorem fair_ok : ∀ m ∈ fairAms l l' c, okAt l l' c m := fun m hm => by
  unfold okAt
  unfold fairAms at hm
  rcases List.mem_append.mp hm with h | h
  · obtain ⟨p, hp, rfl⟩ := List.mem_map.mp h
    obtain ⟨k, hk, rfl⟩ := kn_mem hp
    have := never_snd g g' L hk
    grind
  · obtain ⟨p, hp, rfl⟩ := List.mem_map.mp h
    obtain ⟨k, hk, rfl⟩ := kn_mem hp
    have := never_fst g g' L hk
    grind
theorem fair_tight : (decide (kA l (l.length - 1) - c = kA l' (l'.length - 1)) || (fairAms l l' c).any (tgtAt l l' c)) = true := by
  rcases tight g g' L with h | ⟨k, hk, h1, h2⟩ | ⟨k, hk, h1, h2⟩
  · rw [decide_eq_true h] <;> rfl
  · rw [Bool.or_eq_true, List.any_eq_true]
    refine .inr ⟨kA l' k, ?_, ?_⟩
    · unfold fairAms
      exact List.mem_append_left _ (List.mem_map.mpr ⟨_, mem_kn hk, rfl⟩)
    · unfold tgtAt
      rw [decide_eq_true h1, decide_eq_true h2] <;> rfl
  · rw [Bool.or_eq_true, List.any_eq_true]
    refine .inr ⟨kA l k - c, ?_, ?_⟩
    · unfold fairAms
      exact List.mem_append_right _ (List.mem_map.mpr ⟨_, mem_kn hk, rfl⟩)
    · unfold tgtAt
      rw [decide_eq_true h1, decide_eq_true h2] <;> rfl
end
end AW

set_option Elab.async false
set_option linter.all false
set_option maxRecDepth 100000
/-! plain facts: what games keep -/
namespace AW
open AC
theorem GS.mono {g : Gm} {b : Rat} {S : List Nat} {q q' : Nat} (h : GS g b S q) (h1 : q ≤ q') (h2 : q' ≤ 200000) : GS g b S q' := by
  obtain ⟨de, rh, e, B⟩ := h.gb
  refine ⟨h.ok, h.hb, h.hn, h.hS, ⟨de, rh + (q' - q), by omega, B.n4, B.row4, B.prob, B.bd, B.rew, ?_⟩, h2⟩
  obtain ⟨m, m1, m2, m3⟩ := B.mag
  exact ⟨m, m1, Nat.lt_of_lt_of_le m2 (pow_le (by omega)), m3⟩
theorem sz_abs {J : Nat} {t : Rat} (h : Sz J t) : t ≤ ((2 ^ J : Nat) : Rat) ∧ -((2 ^ J : Nat) : Rat) ≤ t := by
  have go : ∀ x : Rat, Sz J x → x ≤ ((2 ^ J : Nat) : Rat) := fun x hx => by
    apply Classical.byContradiction
    intro q
    have q : ((2 ^ J : Nat) : Rat) < x := by grind
    have e := rat_mul_den x
    have d0 : (1 : Rat) ≤ (x.den : Rat) := one_le_cast (den_pos x)
    have n1 : (x.num : Rat) ≤ ((2 ^ J : Nat) : Rat) := by
      have : x.num ≤ ((2 ^ J : Nat) : Int) := by
        have := hx.1
        omega
      exact_mod_cast this
    have nn : (0 : Rat) ≤ ((2 ^ J : Nat) : Rat) := nat_cast_nn _
    have m1 := Rat.mul_le_mul_of_nonneg_left d0 nn
    have m2 := Rat.mul_lt_mul_of_pos_right q (show (0 : Rat) < (x.den : Rat) by grind)
    grind
  have a := go t h
  have b := go (-t) h.neg
  exact ⟨a, by grind⟩
theorem GS.toll {g : Gm} {b t : Rat} {q J : Nat} (h : GS g b [] q) (tz : Sz J t) (hq : q + 2 * J + 1 ≤ 200000) : GS (tollG g t) b [] (q + 2 * J + 1) := by
  obtain ⟨de, rh, e, B⟩ := h.gb
  refine ⟨tollG_ok h.ok, h.hb, List.nodup_nil, fun s hs => absurd hs List.not_mem_nil, ⟨de + J, rh + J + 1, by omega, by rw [tollG_n]; exact B.n4, B.row4, fun s hs => B.prob s (by rw [tollG_n] at hs; exact hs), B.bd, ?_, ?_⟩, hq⟩
  · obtain ⟨d, d1, d2, d3⟩ := B.rew
    refine ⟨d * t.den, Nat.mul_pos d1 (den_pos t), lt_pow_add d2 tz.2, fun s hs => ?_⟩
    rw [tollG_n] at hs
    rw [tollG_rew hs]
    exact (d3 s hs).mul_right.sub (Dn.self t).mul_left
  · obtain ⟨m, m1, m2, m3⟩ := B.mag
    obtain ⟨t1, t2⟩ := sz_abs tz
    refine ⟨m + 2 ^ J, Nat.lt_of_lt_of_le m1 (Nat.le_add_right ..), ?_, fun s hs => ?_⟩
    · have p1 : 2 ^ (rh + J + 1) = 2 ^ rh * 2 ^ J * 2 := by rw [Nat.pow_add, Nat.pow_add, Nat.pow_one]
      have a1 : 1 ≤ 2 ^ rh := Nat.one_le_two_pow
      have a2 : 1 ≤ 2 ^ J := Nat.one_le_two_pow
      have b1 : 2 ^ rh * 1 ≤ 2 ^ rh * 2 ^ J := Nat.mul_le_mul_left _ a2
      have b2 : 1 * 2 ^ J ≤ 2 ^ rh * 2 ^ J := Nat.mul_le_mul_right _ a1
      omega
    · rw [tollG_n] at hs
      rw [tollG_rew hs]
      obtain ⟨c1, c2⟩ := m3 s hs
      have e2 : ((m + 2 ^ J : Nat) : Rat) = (m : Rat) + ((2 ^ J : Nat) : Rat) := by exact_mod_cast rfl
      rw [e2]
      constructor
      · grind
      · grind
theorem GS.rs_sz {g : Gm} {b : Rat} {q : Nat} (h : GS g b [] q) : g.rs.length ≤ 900 ∧ ∀ x ∈ g.rs, Sz q x := by
  have h4 := h.n4
  refine ⟨by show g.n ≤ 900; omega, fun x hx => ?_⟩
  obtain ⟨s, hs, e⟩ := List.getElem_of_mem hx
  have := h.rw (s := s) hs
  unfold Gm.rew at this
  rw [List.getD_eq_getElem?_getD, List.getElem?_eq_getElem hs, e] at this
  exact this
theorem gkn_toll {g : Gm} {b t : Rat} {q q' : Nat} (h : GS g b [] q) (h' : GS (tollG g t) b [] q') (s : Nat) : gkn (tollG g t) b s = (gkn g b s).map (sh (t / (1 - b))) := by
  have hb := h.hb.lt
  have nz : 1 - b ≠ 0 := by intro e; grind
  exact toll_knots' h.fam (t := t) (c := t / (1 - b)) (by grind) h'.fam s
/-! ### drawn games -/
structure Dr (g : Gm) (N M : Nat) : Prop where
  ok : g.Ok
  n : g.n ≤ N
  row4 : ∀ s, (g.row s).length ≤ 4
  prob : ∀ s, s < g.n → ∃ d : Nat, 0 < d ∧ d ≤ 12 ∧ ∀ tp ∈ g.row s, Dn d tp.2
  dn : ∀ s, s < g.n → Dn 12 (g.rew s)
  mag : ∀ s, s < g.n → g.rew s ≤ (M : Rat) ∧ -(M : Rat) ≤ g.rew s
theorem Dr.gs {g : Gm} {N M : Nat} {b : Rat} (h : Dr g N M) (hN : N ≤ 4) (hM : 0 < M) (hM2 : M < 2 ^ 116) (hb : Disc b) (hd : b.den ≤ 10) : GS g b [] 120 :=
  ⟨h.ok, hb, List.nodup_nil, fun s hs => absurd hs List.not_mem_nil, ⟨4, 116, rfl, Nat.le_trans h.n hN, h.row4, h.prob, hd, ⟨12, by decide, by decide, h.dn⟩, ⟨M, hM, hM2, h.mag⟩⟩, by decide⟩
theorem Dr.mono {g : Gm} {N M N' M' : Nat} (h : Dr g N M) (h1 : N ≤ N') (h2 : M ≤ M') : Dr g N' M' :=
  ⟨h.ok, Nat.le_trans h.n h1, h.row4, h.prob, h.dn, fun s hs => by
    obtain ⟨a, b⟩ := h.mag s hs
    have := cast_le h2
    constructor
    · grind
    · grind⟩
theorem dn12 {d : Nat} {x : Rat} (h0 : 0 < d) (h4 : d ≤ 4) (h : Dn d x) : Dn 12 x := by
  have hd : d = 1 ∨ d = 2 ∨ d = 3 ∨ d = 4 := by omega
  rcases hd with rfl | rfl | rfl | rfl
  · exact h.mul_left (E := 12)
  · exact h.mul_left (E := 6)
  · exact h.mul_left (E := 4)
  · exact h.mul_left (E := 3)
theorem divInt_Dn {n d : Int} (h : 0 < d) : Dn d.toNat (Rat.divInt n d) := ⟨n, divInt_dn h⟩
theorem divInt_le {n d : Int} {M : Nat} (h : 0 < d) (hn : n ≤ (M : Int)) : Rat.divInt n d ≤ (M : Rat) := by
  apply Classical.byContradiction
  intro q
  have q : (M : Rat) < Rat.divInt n d := by grind
  have e := divInt_dn (n := n) h
  have d1 : 1 ≤ d.toNat := by omega
  have d0 : (1 : Rat) ≤ ((d.toNat : Nat) : Rat) := one_le_cast d1
  have n1 : (n : Rat) ≤ (M : Rat) := by exact_mod_cast hn
  have nn : (0 : Rat) ≤ (M : Rat) := nat_cast_nn _
  have m1 := Rat.mul_le_mul_of_nonneg_left d0 nn
  have m2 := Rat.mul_lt_mul_of_pos_right q (show (0 : Rat) < ((d.toNat : Nat) : Rat) by grind)
  grind
theorem divInt_ge {n d : Int} {M : Nat} (h : 0 < d) (hn : -(M : Int) ≤ n) : -(M : Rat) ≤ Rat.divInt n d := by
  apply Classical.byContradiction
  intro q
  have q : Rat.divInt n d < -(M : Rat) := by grind
  have e := divInt_dn (n := n) h
  have d1 : 1 ≤ d.toNat := by omega
  have d0 : (1 : Rat) ≤ ((d.toNat : Nat) : Rat) := one_le_cast d1
  have n1 : -(M : Rat) ≤ (n : Rat) := by
    have z : ((-(M : Int) : Int) : Rat) ≤ (n : Rat) := Rat.intCast_le_intCast.mpr hn
    rw [Rat.intCast_neg] at z
    exact z
  have nn : (0 : Rat) ≤ (M : Rat) := nat_cast_nn _
  have m1 := Rat.mul_le_mul_of_nonneg_left d0 nn
  have m2 := Rat.mul_lt_mul_of_pos_right q (show (0 : Rat) < ((d.toNat : Nat) : Rat) by grind)
  grind
/-- one drawn fraction -/
theorem frac_facts (d : Int) : Dn 12 (fracOf d) ∧ fracOf d ≤ ((6 : Nat) : Rat) ∧ -((6 : Nat) : Rat) ≤ fracOf d ∧ (fracOf d).den ≤ 4 ∧ (fracOf d).num.natAbs ≤ 6 := by
  have h1 := fmod_range (i := d) (m := 13) (by decide)
  have h2 := fmod_range (i := d.fdiv 13) (m := 4) (by decide)
  have hd : 0 < 1 + (d.fdiv 13).fmod 4 := by omega
  have dn := divInt_Dn (n := d.fmod 13 - 6) hd
  obtain ⟨k1, k2⟩ := of_Dn (D := (1 + (d.fdiv 13).fmod 4).toNat) (x := fracOf d) (z := d.fmod 13 - 6) (by omega) (divInt_dn hd)
  refine ⟨dn12 (by omega) (by omega) dn, divInt_le hd (by omega), divInt_ge hd (by omega), Nat.le_trans (Nat.le_of_dvd (by omega) k1) (by omega), by omega⟩
theorem more_facts (d : Int) : Dn 12 (moreOf d) ∧ moreOf d ≤ ((6 : Nat) : Rat) ∧ -((6 : Nat) : Rat) ≤ moreOf d := by
  have h1 := fmod_range (i := d.fdiv 18) (m := 6) (by decide)
  have h2 := fmod_range (i := d.fdiv 108) (m := 4) (by decide)
  have hd : 0 < 1 + (d.fdiv 108).fmod 4 := by omega
  exact ⟨dn12 (by omega) (by omega) (divInt_Dn hd), divInt_le hd (by omega), divInt_ge hd (by omega)⟩
theorem rew_facts (c : Int) (ds : List Int) (s : Nat) : Dn 12 (rewD c ds s) ∧ rewD c ds s ≤ ((8 * 10 ^ 30 : Nat) : Rat) ∧ -((8 * 10 ^ 30 : Nat) : Rat) ≤ rewD c ds s := by
  obtain ⟨f1, f2, f3, f4, f5⟩ := frac_facts (iAt ds (2 + s))
  have p30 : (10 : Nat) ^ 30 = 1000000000000000000000000000000 := by decide
  unfold rewD
  by_cases h : (iAt ds 1).fmod 8 = 1
  · rw [if_pos h]
    have hc := fmod_range (i := c) (m := 10 ^ 30) (by decide)
    have d0 := den_pos (fracOf (iAt ds (2 + s)))
    have hd : (0 : Int) < ((fracOf (iAt ds (2 + s))).den : Int) := by omega
    rw [pow30] at hc ⊢
    rw [p30]
    refine ⟨dn12 d0 f4 ?_, divInt_le hd (by omega), divInt_ge hd (by omega)⟩
    have := divInt_Dn (n := (fracOf (iAt ds (2 + s))).num * 1000000000000000000000000000000 + c.fmod 1000000000000000000000000000000) hd
    rw [Int.toNat_natCast] at this
    exact this
  · rw [if_neg h]
    have := cast_le (show 6 ≤ 8 * 10 ^ 30 by rw [p30]; decide)
    refine ⟨f1, ?_, ?_⟩
    · grind
    · grind
end AW

set_option Elab.async false
set_option linter.all false
set_option maxRecDepth 100000
/-! plain facts: the drawn games -/
namespace AW
open AC
theorem disc_facts (d : Int) : Disc (discOf d) ∧ (discOf d).den ≤ 10 := by
  have h1 := fmod_range (i := d) (m := 9) (by decide)
  have h2 := fmod_range (i := d.fdiv 9) (m := 2 + d.fmod 9) (by omega)
  have hd : 0 < 2 + d.fmod 9 := by omega
  have e := divInt_dn (n := (d.fdiv 9).fmod (2 + d.fmod 9)) hd
  obtain ⟨k1, _⟩ := of_Dn (D := (2 + d.fmod 9).toNat) (x := discOf d) (z := (d.fdiv 9).fmod (2 + d.fmod 9)) (by omega) e
  have lt : ((d.fdiv 9).fmod (2 + d.fmod 9) : Int) < (2 + d.fmod 9) := h2.2
  have d1 : (1 : Rat) ≤ (((2 + d.fmod 9).toNat : Nat) : Rat) := one_le_cast (by omega)
  refine ⟨⟨?_, ?_⟩, Nat.le_trans (Nat.le_of_dvd (by omega) k1) (by omega)⟩
  · have := divInt_ge (n := (d.fdiv 9).fmod (2 + d.fmod 9)) (M := 0) hd (by omega)
    unfold discOf
    have z : -((0 : Nat) : Rat) = 0 := by decide
    rw [z] at this
    exact this
  · apply Classical.byContradiction
    intro q
    have q : (1 : Rat) ≤ Rat.divInt ((d.fdiv 9).fmod (2 + d.fmod 9)) (2 + d.fmod 9) := by
      unfold discOf at q
      grind
    have m1 := Rat.mul_le_mul_of_nonneg_left q (show (0 : Rat) ≤ (((2 + d.fmod 9).toNat : Nat) : Rat) by grind)
    rw [e] at m1
    have e2 : (((2 + d.fmod 9).toNat : Nat) : Rat) = (((2 + d.fmod 9 : Int)) : Rat) := by
      have : (((2 + d.fmod 9).toNat : Nat) : Int) = 2 + d.fmod 9 := by omega
      rw [← this] <;> rfl
    rw [e2, Rat.mul_one] at m1
    have := Rat.intCast_le_intCast.mp m1
    omega
/-- a row of weights -/
theorem dot_wts {ws : List Int} (h0 : ∀ x ∈ ws, 0 ≤ x) (hS : 0 < ws.sum) : ∀ ts : List Nat, dot ((ts.filter fun (t : Nat) => decide (0 < iAt ws t)).map fun (t : Nat) => (t, Rat.divInt (iAt ws t) ws.sum)) (fun _ => 1) * (ws.sum : Rat) = (((ts.map (iAt ws)).sum : Int) : Rat)
  | [] => by
    show (0 : Rat) * _ = ((0 : Int) : Rat)
    rw [Rat.zero_mul] <;> rfl
  | t :: r => by
    have ih := dot_wts h0 hS r
    have nn : 0 ≤ iAt ws t := by
      by_cases h : t < ws.length
      · exact h0 _ (List.mem_of_getElem? (getD_of (z := 0) h))
      · unfold iAt
        rw [List.getD_eq_getElem?_getD, List.getElem?_eq_none (by omega)]
        exact Int.le_refl 0
    rw [List.map_cons, List.sum_cons, Rat.intCast_add, ← ih]
    by_cases c : 0 < iAt ws t
    · rw [List.filter_cons, if_pos (decide_eq_true c), List.map_cons]
      show (Rat.divInt (iAt ws t) ws.sum * 1 + dot _ _) * _ = _
      have e := divInt_dn (n := iAt ws t) hS
      have e2 : ((ws.sum.toNat : Nat) : Rat) = (ws.sum : Rat) := by
        have : ((ws.sum.toNat : Nat) : Int) = ws.sum := by omega
        rw [← this] <;> rfl
      rw [e2] at e
      grind
    · rw [List.filter_cons, if_neg (by rw [decide_eq_false c]; decide)]
      have z : iAt ws t = 0 := by omega
      rw [z]
      have z2 : ((0 : Int) : Rat) = 0 := rfl
      rw [z2]
      grind
theorem map_iAt (ws : List Int) : (List.range ws.length).map (iAt ws) = ws := by
  refine List.ext_getElem (by rw [List.length_map, List.length_range]) fun i h1 h2 => ?_
  rw [List.getElem_map, List.getElem_range]
  unfold iAt
  rw [List.getD_eq_getElem?_getD, List.getElem?_eq_getElem h2] <;> rfl
theorem one_of {S : Int} {x : Rat} (hS : 0 < S) (h : x * (S : Rat) = (S : Rat)) : x = 1 := by
  have hd : ((S : Int) : Rat) ≠ 0 := fun q => by
    have : S = 0 := by exact_mod_cast q
    omega
  grind
theorem mvs_one {ws : List Int} {n : Nat} (hl : ws.length = n) (h0 : ∀ x ∈ ws, 0 ≤ x) (hS : 0 < ws.sum) : dot (mvs ws n) (fun _ => 1) = 1 := by
  have := dot_wts h0 hS (List.range n)
  rw [← hl, map_iAt] at this
  unfold mvs
  rw [← hl]
  exact one_of hS this
theorem mvs_mem {ws : List Int} {n : Nat} (hS : 0 < ws.sum) {tp : Nat × Rat} (h : tp ∈ mvs ws n) : tp.1 < n ∧ 0 < tp.2 ∧ Dn ws.sum.toNat tp.2 := by
  unfold mvs at h
  obtain ⟨t, ht, rfl⟩ := List.mem_map.mp h
  obtain ⟨h1, h2⟩ := List.mem_filter.mp ht
  have h2 := of_decide_eq_true h2
  refine ⟨List.mem_range.mp h1, ?_, divInt_Dn hS⟩
  show 0 < Rat.divInt (iAt ws t) ws.sum
  apply Classical.byContradiction
  intro q
  have q : Rat.divInt (iAt ws t) ws.sum ≤ 0 := by grind
  have e := divInt_dn (n := iAt ws t) hS
  have d1 : (0 : Rat) ≤ ((ws.sum.toNat : Nat) : Rat) := nat_cast_nn _
  have m1 := Rat.mul_le_mul_of_nonneg_left q d1
  rw [e, Rat.mul_zero] at m1
  have : iAt ws t ≤ 0 := by exact_mod_cast m1
  omega
theorem mvs_len (ws : List Int) (n : Nat) : (mvs ws n).length ≤ n := by
  unfold mvs
  rw [List.length_map]
  exact Nat.le_trans (List.length_filter_le ..) (by rw [List.length_range]; exact Nat.le_refl _)
theorem gmOf_row {c : Int} {ds : List Int} {n s : Nat} (h : s < n) : (gmOf c ds n).row s = mvs (wts ds n s) n := by
  unfold Gm.row gmOf
  rw [List.getD_eq_getElem?_getD, List.getElem?_map, List.getElem?_range h] <;> rfl
theorem gmOf_rew {c : Int} {ds : List Int} {n s : Nat} (h : s < n) : (gmOf c ds n).rew s = rewD c ds s := by
  unfold Gm.rew gmOf
  rw [List.getD_eq_getElem?_getD, List.getElem?_map, List.getElem?_range h] <;> rfl
theorem gmOf_out {c : Int} {ds : List Int} {n s : Nat} (h : ¬ s < n) : (gmOf c ds n).row s = [] := by
  unfold Gm.row gmOf
  rw [List.getD_eq_getElem?_getD, List.getElem?_eq_none (by rw [List.length_map, List.length_range]; omega)] <;> rfl
abbrev bigM : Nat := 8 * 10 ^ 30
theorem gmOf_dr {c : Int} {ds : List Int} {n : Nat} (h1 : 1 ≤ n) (h3 : n ≤ 3) : Dr (gmOf c ds n) 3 bigM := by
  have wl := fun s => wts_len (ds := ds) (n := n) (s := s)
  have wr := fun s => wts_range (ds := ds) (n := n) (s := s)
  have wp := fun s => wts_pos (ds := ds) (n := n) (s := s) h1
  refine ⟨⟨by rw [gmOf_n]; omega, ?_, fun s tp ht => ?_, fun s tp ht => ?_, fun s hs => ?_⟩, by rw [gmOf_n]; exact h3, fun s => ?_, fun s hs => ?_, fun s hs => ?_, fun s hs => ?_⟩
  · rw [gmOf_n]
    show ((List.range n).map _).length = n
    rw [List.length_map, List.length_range]
  · rw [gmOf_n]
    by_cases hs : s < n
    · rw [gmOf_row hs] at ht
      exact (mvs_mem (wp s) ht).1
    · rw [gmOf_out hs] at ht; cases ht
  · by_cases hs : s < n
    · rw [gmOf_row hs] at ht
      exact (mvs_mem (wp s) ht).2.1
    · rw [gmOf_out hs] at ht; cases ht
  · rw [gmOf_n] at hs
    rw [gmOf_row hs]
    exact mvs_one (wl s) (fun x hx => (wr s x hx).1) (wp s)
  · by_cases hs : s < n
    · rw [gmOf_row hs]
      exact Nat.le_trans (mvs_len _ _) (by omega)
    · rw [gmOf_out hs]; exact Nat.zero_le _
  · rw [gmOf_n] at hs
    have p := wp s
    have u := isum_le (b := 3) (l := wts ds n s) fun x hx => (wr s x hx).2
    rw [wl s] at u
    refine ⟨(wts ds n s).sum.toNat, by omega, by omega, fun tp ht => ?_⟩
    rw [gmOf_row hs] at ht
    exact (mvs_mem p ht).2.2
  · rw [gmOf_n] at hs
    rw [gmOf_rew hs]
    exact (rew_facts c ds s).1
  · rw [gmOf_n] at hs
    rw [gmOf_rew hs]
    exact (rew_facts c ds s).2
theorem gameOf_dr {c : Int} {m : Nat} (h1 : 1 ≤ m) (h3 : m ≤ 3) : Dr (gameOf c m) 3 bigM := by
  obtain ⟨a, b, _⟩ := gameOf_n (c := c) h1
  unfold gameOf at a b ⊢
  rw [gmOf_n] at a b
  exact gmOf_dr a (by omega)
/-- a greater reward -/
theorem bump_dr {g : Gm} {k : Nat} {x : Rat} {M : Nat} (h : Dr g 3 M) (hx : Dn 12 x ∧ x ≤ ((6 : Nat) : Rat) ∧ -((6 : Nat) : Rat) ≤ x) : Dr (bumpG g k x) 3 (M + 6) := by
  have hn : (bumpG g k x).n = g.n := by
    show (g.rs.set k _).length = g.rs.length
    rw [List.length_set]
  have hr : ∀ s, s < g.n → (bumpG g k x).rew s = if k = s then g.rew k + x else g.rew s := fun s hs => by
    show (g.rs.set k (g.rew k + x)).getD s 0 = _
    rw [List.getD_eq_getElem?_getD, List.getElem?_set]
    by_cases e : k = s
    · have hk : k < g.rs.length := by rw [e]; exact hs
      rw [if_pos e, if_pos e, if_pos hk] <;> rfl
    · rw [if_neg e, if_neg e]
      unfold Gm.rew
      rw [List.getD_eq_getElem?_getD]
  have e6 : ((M + 6 : Nat) : Rat) = (M : Rat) + ((6 : Nat) : Rat) := by exact_mod_cast rfl
  have n6 : (0 : Rat) ≤ ((6 : Nat) : Rat) := nat_cast_nn _
  refine ⟨⟨by rw [hn]; exact h.ok.some, by rw [hn]; exact h.ok.len, fun s tp ht => by rw [hn]; exact h.ok.tgt s tp ht, h.ok.pos, fun s hs => by rw [hn] at hs; exact h.ok.one s hs⟩, by rw [hn]; exact h.n, h.row4, fun s hs => by rw [hn] at hs; exact h.prob s hs, fun s hs => ?_, fun s hs => ?_⟩
  · rw [hn] at hs
    rw [hr s hs]
    by_cases e : k = s
    · rw [if_pos e, e]
      exact (h.dn s hs).add hx.1
    · rw [if_neg e]
      exact h.dn s hs
  · rw [hn] at hs
    rw [hr s hs, e6]
    obtain ⟨a, b⟩ := h.mag s hs
    obtain ⟨_, c1, c2⟩ := hx
    by_cases e : k = s
    · rw [if_pos e, e]
      constructor
      · grind
      · grind
    · rw [if_neg e]
      constructor
      · grind
      · grind
/-- one more state like s -/
theorem twin_dr {g : Gm} {s : Nat} {M : Nat} (h : Dr g 3 M) (hs : s < g.n) : Dr (twinG g s) 4 M := by
  have hn : (twinG g s).n = g.n + 1 := by
    show (g.rs ++ [g.rew s]).length = _
    rw [List.length_append] <;> rfl
  have hl := h.ok.len
  have hr : ∀ t, t < g.n + 1 → (twinG g s).rew t = g.rew (if t = g.n then s else t) := fun t ht => by
    show (g.rs ++ [g.rew s]).getD t 0 = _
    rw [List.getD_eq_getElem?_getD]
    by_cases e : t = g.n
    · rw [if_pos e, e, List.getElem?_append_right (show g.rs.length ≤ g.n from Nat.le_refl _), show g.n - g.rs.length = 0 from Nat.sub_self _] <;> rfl
    · rw [if_neg e, List.getElem?_append_left (show t < g.rs.length from (by have : g.rs.length = g.n := rfl; omega)), ← List.getD_eq_getElem?_getD] <;> rfl
  have hw : ∀ t, (twinG g s).row t = if t = g.n then g.row s else g.row t := fun t => by
    show (g.ms ++ [g.row s]).getD t [] = _
    rw [List.getD_eq_getElem?_getD]
    by_cases e : t = g.n
    · rw [if_pos e, e, List.getElem?_append_right (by omega), hl, Nat.sub_self] <;> rfl
    · rw [if_neg e]
      by_cases lt : t < g.n
      · rw [List.getElem?_append_left (by omega), ← List.getD_eq_getElem?_getD] <;> rfl
      · rw [List.getElem?_eq_none (by rw [List.length_append, hl]; show g.n + 1 ≤ t; omega)]
        unfold Gm.row
        rw [List.getD_eq_getElem?_getD, List.getElem?_eq_none (by omega)]
  have pick : ∀ t, t < g.n + 1 → (if t = g.n then s else t) < g.n := fun t ht => by
    by_cases e : t = g.n
    · rw [if_pos e]; exact hs
    · rw [if_neg e]; omega
  have row' : ∀ t, ∃ u, (twinG g s).row t = g.row u ∧ (t < g.n + 1 → u < g.n) := fun t => by
    rw [hw]
    by_cases e : t = g.n
    · exact ⟨s, by rw [if_pos e], fun _ => hs⟩
    · exact ⟨t, by rw [if_neg e], fun _ => by omega⟩
  have h3 := h.n
  refine ⟨⟨by rw [hn]; omega, ?_, fun t tp ht => ?_, fun t tp ht => ?_, fun t ht => ?_⟩, by rw [hn]; omega, fun t => ?_, fun t ht => ?_, fun t ht => ?_, fun t ht => ?_⟩
  · rw [hn]
    show (g.ms ++ [g.row s]).length = _
    rw [List.length_append, hl] <;> rfl
  · obtain ⟨u, e, _⟩ := row' t
    rw [e] at ht
    rw [hn]
    exact Nat.lt_succ_of_lt (h.ok.tgt u tp ht)
  · obtain ⟨u, e, _⟩ := row' t
    rw [e] at ht
    exact h.ok.pos u tp ht
  · rw [hn] at ht
    obtain ⟨u, e, hu⟩ := row' t
    rw [e]
    exact h.ok.one u (hu ht)
  · obtain ⟨u, e, _⟩ := row' t
    rw [e]
    exact h.row4 u
  · rw [hn] at ht
    obtain ⟨u, e, hu⟩ := row' t
    rw [e]
    exact h.prob u (hu ht)
  · rw [hn] at ht
    rw [hr t ht]
    exact h.dn _ (pick t ht)
  · rw [hn] at ht
    rw [hr t ht]
    exact h.mag _ (pick t ht)
end AW

set_option Elab.async false
set_option linter.all false
set_option maxRecDepth 100000
/-! plain facts: throws, the two places -/
namespace AW
open AC
theorem dot_thr {ws : List Int} (hS : 0 < ws.sum) : ∀ ts : List Nat, dot (ts.map fun (k : Nat) => (k + 1, Rat.divInt (iAt ws k) ws.sum)) (fun _ => 1) * (ws.sum : Rat) = (((ts.map (iAt ws)).sum : Int) : Rat)
  | [] => by
    show (0 : Rat) * _ = ((0 : Int) : Rat)
    rw [Rat.zero_mul] <;> rfl
  | t :: r => by
    have ih := dot_thr hS r
    rw [List.map_cons, List.map_cons, List.sum_cons, Rat.intCast_add, ← ih]
    show (Rat.divInt (iAt ws t) ws.sum * 1 + dot _ _) * _ = _
    have e := divInt_dn (n := iAt ws t) hS
    have e2 : ((ws.sum.toNat : Nat) : Rat) = (ws.sum : Rat) := by
      have : ((ws.sum.toNat : Nat) : Int) = ws.sum := by omega
      rw [← this] <;> rfl
    rw [e2] at e
    grind
theorem divInt_pos {n d : Int} (hd : 0 < d) (hn : 0 < n) : 0 < Rat.divInt n d := by
  apply Classical.byContradiction
  intro q
  have q : Rat.divInt n d ≤ 0 := by grind
  have e := divInt_dn (n := n) hd
  have d1 : (0 : Rat) ≤ ((d.toNat : Nat) : Rat) := nat_cast_nn _
  have m1 := Rat.mul_le_mul_of_nonneg_left q d1
  rw [e, Rat.mul_zero] at m1
  have : n ≤ 0 := by exact_mod_cast m1
  omega
theorem thG_n (ds : List Int) (n : Nat) : (thG ds n).n = n + 1 := by
  show (List.set _ 0 _).length = _
  rw [List.length_set, List.length_map, List.length_range]
theorem thG_row0 (ds : List Int) (n : Nat) : (thG ds n).row 0 = (List.range n).map fun (k : Nat) => (k + 1, Rat.divInt (iAt (thW ds n) k) (thW ds n).sum) := rfl
theorem thG_row {ds : List Int} {n k : Nat} (h : k < n) : (thG ds n).row (k + 1) = [(k + 1, 1)] := by
  show (((List.range n).map fun (k : Nat) => [(k + 1, (1 : Rat))])).getD k [] = _
  rw [List.getD_eq_getElem?_getD, List.getElem?_map, List.getElem?_range h] <;> rfl
theorem thG_out {ds : List Int} {n k : Nat} (h : ¬ k < n) : (thG ds n).row (k + 1) = [] := by
  show (((List.range n).map fun (k : Nat) => [(k + 1, (1 : Rat))])).getD k [] = _
  rw [List.getD_eq_getElem?_getD, List.getElem?_eq_none (by rw [List.length_map, List.length_range]; omega)] <;> rfl
theorem thG_rew {ds : List Int} {n s : Nat} (h : s < n + 1) : (thG ds n).rew s = if s = 0 then fracOf (iAt ds 1) + 6 else fracOf (iAt ds (1 + s)) := by
  show (List.set ((List.range (n + 1)).map fun (k : Nat) => fracOf (iAt ds (1 + k))) 0 (fracOf (iAt ds 1) + 6)).getD s 0 = _
  rw [List.getD_eq_getElem?_getD, List.getElem?_set]
  by_cases e : s = 0
  · rw [if_pos e, if_pos e.symm, if_pos (by rw [List.length_map, List.length_range]; omega)] <;> rfl
  · rw [if_neg e, if_neg (fun q => e q.symm), List.getElem?_map, List.getElem?_range h] <;> rfl
theorem throw_dr {ds : List Int} {n : Nat} (h1 : 1 ≤ n) (h3 : n ≤ 3) : Dr (thG ds n) 4 12 := by
  have wl := thW_len ds n
  have wr := thW_range (ds := ds) (n := n)
  have wp := thW_pos (ds := ds) (n := n) h1
  have row : ∀ s, ((s = 0 ∨ ∃ k, s = k + 1 ∧ k < n) ∨ (thG ds n).row s = []) := fun s => by
    cases s with
    | zero => exact .inl (.inl rfl)
    | succ k =>
      by_cases h : k < n
      · exact .inl (.inr ⟨k, rfl, h⟩)
      · exact .inr (thG_out h)
  have mem0 : ∀ tp ∈ (thG ds n).row 0, tp.1 < n + 1 ∧ 0 < tp.2 ∧ Dn (thW ds n).sum.toNat tp.2 := fun tp ht => by
    rw [thG_row0] at ht
    obtain ⟨k, hk, rfl⟩ := List.mem_map.mp ht
    have hk := List.mem_range.mp hk
    have w1 := (wr (iAt (thW ds n) k) (List.mem_of_getElem? (getD_of (z := 0) (by omega)))).1
    exact ⟨by show k + 1 < n + 1; omega, divInt_pos wp (by omega), divInt_Dn wp⟩
  have mem1 : ∀ k, k < n → ∀ tp ∈ (thG ds n).row (k + 1), tp = (k + 1, 1) := fun k hk tp ht => by
    rw [thG_row hk, List.mem_singleton] at ht
    exact ht
  have e12 : ((12 : Nat) : Rat) = 12 := rfl
  have e6 : ((6 : Nat) : Rat) = 6 := rfl
  refine ⟨⟨by rw [thG_n]; omega, ?_, fun s tp ht => ?_, fun s tp ht => ?_, fun s hs => ?_⟩, by rw [thG_n]; omega, fun s => ?_, fun s hs => ?_, fun s hs => ?_, fun s hs => ?_⟩
  · rw [thG_n]
    show (_ :: (List.range n).map _).length = _
    rw [List.length_cons, List.length_map, List.length_range]
  · rw [thG_n]
    rcases row s with (rfl | ⟨k, rfl, hk⟩) | e
    · exact (mem0 tp ht).1
    · rw [mem1 k hk tp ht]; show k + 1 < n + 1; omega
    · rw [e] at ht; cases ht
  · rcases row s with (rfl | ⟨k, rfl, hk⟩) | e
    · exact (mem0 tp ht).2.1
    · rw [mem1 k hk tp ht]; show (0 : Rat) < 1; decide
    · rw [e] at ht; cases ht
  · rw [thG_n] at hs
    cases s with
    | zero =>
      have := dot_thr wp (List.range n)
      have m := map_iAt (thW ds n)
      rw [wl] at m
      rw [m] at this
      rw [thG_row0]
      exact one_of wp this
    | succ k =>
      rw [thG_row (by omega)]
      show (1 : Rat) * 1 + 0 = 1
      grind
  · rcases row s with (rfl | ⟨k, rfl, hk⟩) | e
    · rw [thG_row0, List.length_map, List.length_range]; omega
    · rw [thG_row hk]; show 1 ≤ 4; decide
    · rw [e]; exact Nat.zero_le _
  · rw [thG_n] at hs
    cases s with
    | zero =>
      have u := isum_le (b := 4) (l := thW ds n) fun x hx => (wr x hx).2
      rw [wl] at u
      exact ⟨(thW ds n).sum.toNat, by omega, by omega, fun tp ht => (mem0 tp ht).2.2⟩
    | succ k =>
      refine ⟨1, by decide, by decide, fun tp ht => ?_⟩
      rw [mem1 k (by omega) tp ht]
      exact Dn.one 1
  · rw [thG_n] at hs
    rw [thG_rew hs]
    by_cases e : s = 0
    · rw [if_pos e]
      exact (frac_facts _).1.add ⟨72, show ((12 : Nat) : Rat) * 6 = ((72 : Int) : Rat) by decide +kernel⟩
    · rw [if_neg e]
      exact (frac_facts _).1
  · rw [thG_n] at hs
    rw [thG_rew hs, e12]
    by_cases e : s = 0
    · rw [if_pos e]
      obtain ⟨_, a, b, _⟩ := frac_facts (iAt ds 1)
      rw [e6] at a b
      constructor
      · grind
      · grind
    · rw [if_neg e]
      obtain ⟨_, a, b, _⟩ := frac_facts (iAt ds (1 + s))
      rw [e6] at a b
      constructor
      · grind
      · grind
theorem throwOf_dr (c : Int) : Dr (throwOf c) 4 12 := by
  have r0 := fmod_range (i := iAt (draws c 8) 0) (m := 2) (by decide)
  exact throw_dr (by omega) (by omega)
structure Pl (b : Rat) (p : Gm × Nat) : Prop where
  gs : GS p.1 b [] 120
  st : p.2 < p.1.n
theorem bigM_lt : bigM + 6 < 2 ^ 116 := by decide
theorem pl_of {b : Rat} {g : Gm} {s N M : Nat} (h : Dr g N M) (hN : N ≤ 4) (hM : M ≤ bigM + 6) (hb : Disc b) (hd : b.den ≤ 10) (hs : s < g.n) : Pl b (g, s) :=
  ⟨(h.mono (Nat.le_refl _) hM).gs hN (by decide) bigM_lt hb hd, hs⟩
theorem two_pl {ns : List Int} {d : Int} {m : Nat} {b : Rat} (h1 : 1 ≤ m) (h3 : m ≤ 3) (hb : Disc b) (hd : b.den ≤ 10) : Pl b (twoOf ns d m).1 ∧ Pl b (twoOf ns d m).2 := by
  obtain ⟨a1, a2, _⟩ := gameOf_n (c := cellOf ns 1) h1
  have dr := gameOf_dr (c := cellOf ns 1) h1 h3
  have sl := stateOf_lt (c := cellOf ns 1) a1
  have b6 : bigM ≤ bigM + 6 := Nat.le_add_right _ _
  have b12 : 12 ≤ bigM + 6 := by decide
  have p0 : Pl b (gameOf (cellOf ns 1) m, stateOf (cellOf ns 1) (gameOf (cellOf ns 1) m).n) := pl_of dr (by decide) b6 hb hd sl
  unfold twoOf
  dsimp only
  by_cases c0 : d.fmod 6 = 0
  · rw [if_pos c0]
    exact ⟨p0, p0⟩
  rw [if_neg c0]
  by_cases c1 : d.fmod 6 = 1
  · rw [if_pos c1]
    refine ⟨pl_of (bump_dr dr (more_facts d)) (by decide) (Nat.le_refl _) hb hd ?_, p0⟩
    show _ < (List.set _ _ _).length
    rw [List.length_set]
    exact sl
  rw [if_neg c1]
  by_cases c2 : d.fmod 6 = 2
  · rw [if_pos c2]
    exact ⟨pl_of dr (by decide) b6 hb hd (pickN_lt a1).1, p0⟩
  rw [if_neg c2]
  by_cases c3 : d.fmod 6 = 3
  · rw [if_pos c3]
    refine ⟨pl_of (twin_dr dr sl) (by decide) b6 hb hd ?_, p0⟩
    show _ < (_ ++ [_]).length
    rw [List.length_append]
    exact Nat.lt_succ_self _
  rw [if_neg c3]
  by_cases c4 : (decide (d.fmod 6 = 4) && decide ((d.fdiv 6).fmod 3 = 1)) = true
  · rw [if_pos c4]
    exact ⟨pl_of (throwOf_dr _) (by decide) b12 hb hd (throwOf_dr _).ok.some, pl_of (throwOf_dr _) (by decide) b12 hb hd (throwOf_dr _).ok.some⟩
  rw [if_neg c4]
  obtain ⟨e1, e2, _⟩ := gameOf_n (c := cellOf ns 2) h1
  exact ⟨pl_of (gameOf_dr h1 h3) (by decide) b6 hb hd (stateOf_lt e1), p0⟩
end AW

set_option Elab.async false
set_option linter.all false
set_option maxRecDepth 100000
set_option maxHeartbeats 8000000
/-! the walk: the law -/
namespace AW
open PySem PySem.Spec PyProof.Rows L2 AC
/-! law -/
abbrev s_law : Stmt := topS 83
theorem sc_law : FnScope ["_law_script", "_law_draws_here", "_law_discount_here", "_law_places", "_law_toll", "_law_more", "_law_curves", "_law_place_here", "_law_corners_here", "_law_k", "_law_fair"] ["_law_script"] (defScope s_law) := ⟨rfl, rfl, rfl, by decide +kernel, rfl, by decide +kernel, by decide +kernel⟩
-- slots: 0:_law_script 1:_law_draws_here 2:_law_discount_here 3:_law_places 4:_law_toll 5:_law_more 6:_law_curves 7:_law_place_here 8:_law_corners_here 9:_law_k 10:_law_fair
inductive RLaw : List Ar → Ar → Prop
  | mk (ns : List Int) : (∀ k, k ≤ 2 → Fit (cellOf ns k)) → RLaw [.lst (ns.map lntD)] (.dat (.bl true))
theorem ed_notB {K : Frg} {C : Addr} {r : List Sd} {ta tb : TE} {a b : Bool} (ha : EvD K C ta r (.bl a)) (hb : EvD K C tb r (.bl b)) : EvD K C (tOp rNotB ta tb) r (.bl (!decide (a = b))) :=
  ed_op ha hb fun H x y hx hy Q q => ⟨a, b, im_bl hx, im_bl hy, q _ H (Ex.refl H) (.bl _)⟩
def moreL (d : Int) : Rat := Rat.divInt (1 + (d.fdiv 2).fmod 6) (1 + d.fmod 2 * 10 ^ 12)
theorem moreL_facts (d : Int) : 0 < moreL d ∧ Sz 50 (moreL d) := by
  have h1 := fmod_range (i := d.fdiv 2) (m := 6) (by decide)
  have h2 := fmod_range (i := d) (m := 2) (by decide)
  have p : (10 : Int) ^ 12 = 1000000000000 := by decide
  have p50 : (2 : Int) ^ 50 = 1125899906842624 := by decide
  have q50 : (2 : Nat) ^ 50 = 1125899906842624 := by decide
  unfold moreL
  rw [p]
  exact ⟨divInt_pos (by omega) (by omega), divInt_sz (by omega) (by rw [p50]; omega) (by rw [q50]; omega)⟩
theorem div_gt {a x b : Rat} (hx : 0 < x) (hb : 0 < 1 - b) : a / (1 - b) < (a + x) / (1 - b) := by
  have h0 : 1 - b ≠ 0 := by intro e; grind
  apply Classical.byContradiction
  intro q
  have q : (a + x) / (1 - b) ≤ a / (1 - b) := by grind
  have m := Rat.mul_le_mul_of_nonneg_left q (show (0 : Rat) ≤ 1 - b by grind)
  have e1 : (1 - b) * (a / (1 - b)) = a := by grind
  have e2 : (1 - b) * ((a + x) / (1 - b)) = a + x := by grind
  grind
/-- what a turn of the law's second loop needs -/
structure Duel (b : Rat) (p p' : Gm × Nat) where
  c : Rat
  fair : fairOf b (gkn p.1 b p.2) (gkn p'.1 b p'.2) / (1 - b) = c
  least : Least (gkn p.1 b p.2) (gkn p'.1 b p'.2) c
  sz : Sz 81869 (fairOf b (gkn p.1 b p.2) (gkn p'.1 b p'.2))
theorem duel {b : Rat} {p p' : Gm × Nat} (h : Pl b p) (h' : Pl b p') : Nonempty (Duel b p p') := by
  have g := h.gs.kgood h.st
  have g' := h'.gs.kgood h'.st
  have k := h.gs.ksz p.2
  have k' := h'.gs.ksz p'.2
  have hb := h.gs.hb.lt
  have nz : 1 - b ≠ 0 := by intro e; grind
  obtain ⟨c, hc, L⟩ := lead_least (l' := gkn p'.1 b p'.2) g.good.ne
  have cs : Sz (22 * (2400 + 11 * 120) + 23) c := lead_sz g g' k k' _ none (fun x hx => by
    rcases List.mem_append.mp hx with e | e
    · exact k.mem e
    · exact k'.mem e) (fun _ z => nomatch z) c hc
  refine ⟨c, ?_, L, ?_⟩
  · unfold fairOf
    rw [hc]
    show (1 - b) * c / (1 - b) = c
    grind
  · unfold fairOf
    rw [hc]
    exact ((Sz.one.sub h.gs.bsz).mul cs).mono (by omega)
section
variable {P : Program} {w : World} {K : Frg} {C : Addr} {mg : Str → Option Value} {base : Heap} {z1 o1 z2 o2 z3 o3 : Addr} (G : Glo K mg base z1 o1 z2 o2 z3 o3)
include G in
theorem has_law (h_law_cell : Has P w K mg base "_law_cell" 40 ["_law_script", "_law_k"] (spR K C RCell)) (h_law_draws : Has P w K mg base "_law_draws" 40 ["_law_cell_here", "_law_count"] (spR K C RDraw)) (h_law_discount : Has P w K mg base "_law_discount" 42 ["_law_draw"] (spR K C RDisc)) (h_law_two : Has P w K mg base "_law_two" 45 ["_law_script", "_law_first", "_law_draw", "_law_most"] (spR K C RTwo)) (h_law_fraction : Has P w K mg base "_law_fraction" 42 ["_law_draw"] (spR K C RFrac)) (h_law_low : Has P w K mg base "_law_low" 41 ["_law_n", "_law_d"] (spR K C RLow))
    (h_law_corners : Has P w K mg base "_law_corners" 51 ["_law_place_here", "_law_discount_here"] (spR K C RCor)) (h_law_is_tolled : Has P w K mg base "_law_is_tolled" 44 ["_law_told", "_law_place_here", "_law_toll"] (spR K C RItl)) (h_with_toll : Has P w K mg base "with_toll" 44 ["place", "toll"] (spR K C RWt)) (h_fair_toll : Has P w K mg base "fair_toll" 51 ["first", "second", "discount"] (spR K C RFt)) (h_law_is_ratio : Has P w K mg base "_law_is_ratio" 42 ["_law_value_here"] (spR K C RIsR)) (h_law_is_fair : Has P w K mg base "_law_is_fair" 44 ["_law_first", "_law_second", "_law_toll", "_law_discount_here"] (spR K C RFr))
    (h_never_worse : Has P w K mg base "never_worse" 51 ["first", "second", "discount"] (spR K C RNw)) (h_law_add : Has P w K mg base "_law_add" 42 ["_law_a", "_law_b"] (spR K C RAdd)) (h_law_sub : Has P w K mg base "_law_sub" 42 ["_law_a", "_law_b"] (spR K C RSub))
    {f : Addr} {fd : FuncData} (F : Fun K "law" "law" s_law f fd) : FnOk P w K mg base CX0 53 f fd ["_law_script"] (spR K C RLaw) := by
  refine fn_ok F sc_law (fun as z h => by cases h; rfl) fun cdv A outer s0 H Q E hr as z h => ?_
  obtain ⟨ns, hf⟩ := h
  refine ⟨_, (pss_cons (ps_set (i := 1) sc_law.nd rfl (.inl rfl) (pe_has h_law_draws (hr.mono (by decide)) (by rfl) (pa_cons (pe_has h_law_cell (hr.mono (by decide)) (by rfl) (pa_cons (pv 0) (pa_cons pe_int pa_nil))) (pa_cons pe_int pa_nil))))
    (pss_cons (ps_set (i := 2) sc_law.nd rfl (.inl rfl) (pe_has h_law_discount (hr.mono (by decide)) (by rfl) (pa_cons (pe_ix ix_list (pv 1) pe_int (fun _ _ => rfl)) pa_nil)))
    (pss_cons (ps_set (i := 3) sc_law.nd rfl (.inl rfl) (pe_has h_law_two (hr.mono (by decide)) (by rfl) (pa_cons (pv 0) (pa_cons pe_int (pa_cons (pe_ix ix_list (pv 1) pe_int (fun _ _ => rfl)) (pa_cons (pe_op op_add pe_int (pe_callTy cr_int (by rfl) G.int b_int (pa_cons (pe_cmpR op_eq (pe_op op_modN (pe_callTy cr_int (by rfl) G.int b_int (pa_cons (pe_ix ix_list (pv 1) pe_int (fun _ _ => rfl)) pa_nil)) pe_int) pe_int (nomark _)) pa_nil))) pa_nil))))))
    (pss_cons (ps_set (i := 4) sc_law.nd rfl (.inl rfl) (pe_has h_law_fraction (hr.mono (by decide)) (by rfl) (pa_cons (pe_ix ix_list (pv 1) pe_int (fun _ _ => rfl)) pa_nil)))
    (pss_cons (ps_set (i := 5) sc_law.nd rfl (.inl rfl) (pe_has h_law_low (hr.mono (by decide)) (by rfl) (pa_cons (pe_op op_add pe_int (pe_op op_modN (pe_op op_fdivN (pe_callTy cr_int (by rfl) G.int b_int (pa_cons (pe_ix ix_list (pv 1) pe_int (fun _ _ => rfl)) pa_nil)) pe_int) pe_int)) (pa_cons (pe_op op_add pe_int (pe_op op_mulB (pe_op op_modN (pe_callTy cr_int (by rfl) G.int b_int (pa_cons (pe_ix ix_list (pv 1) pe_int (fun _ _ => rfl)) pa_nil)) pe_int) (pe_op op_pow pe_int pe_int))) pa_nil))))
    (pss_cons (ps_set (i := 6) sc_law.nd rfl (.inl rfl) (pe_lst pa_nil))
    (pss_cons (ps_for PassesOwn.never rfl (pi_tup (pv 3)) (pg_name (i := 7) sc_law.nd rfl (.inl rfl)) (pss_cons (ps_set (i := 8) sc_law.nd rfl (.inl rfl) (pe_has h_law_corners (hr.mono (by decide)) (by rfl) (pa_cons (pv 7) (pa_cons (pv 2) pa_nil))))
    (pss_cons (ps_if (PW.pt (pw_or (pt_cmpR op_isN (pv 8) pe_non (nomark _)) (pw_or1 (pt_not (pt_val (pe_has h_law_is_tolled (hr.mono (by decide)) (by rfl) (pa_cons (pe_has h_with_toll (hr.mono (by decide)) (by rfl) (pa_cons (pv 7) (pa_cons (pv 4) pa_nil))) (pa_cons (pv 7) (pa_cons (pv 4) pa_nil))))))))) (pss_one (ps_ret pe_bl)) pss_nil)
    (pss_cons (ps_if (pt_cmpR (op_neD hr.units) (pe_has h_fair_toll (hr.mono (by decide)) (by rfl) (pa_cons (pv 7) (pa_cons (pv 7) (pa_cons (pv 2) pa_nil)))) (pe_tup (pa_cons pe_int (pa_cons pe_int pa_nil))) (nomark _)) (pss_one (ps_ret pe_bl)) pss_nil)
    (pss_one (ps_expr (pe_bm PySem.F.plainAttrs_list PySem.F.slot_list_append PySem.F.type_list_append mt_append (pv 6) (pa_cons (pv 8) pa_nil))))))))
    (pss_cons (ps_for PassesOwn.never rfl (pi_tup (pe_tup (pa_cons pe_int (pa_cons pe_int (pa_cons pe_int pa_nil))))) (pg_name (i := 9) sc_law.nd rfl (.inl rfl)) (pss_cons (ps_set (i := 10) sc_law.nd rfl (.inl rfl) (pe_has h_fair_toll (hr.mono (by decide)) (by rfl) (pa_cons (pe_ix ix_tup (pv 3) (pv 9) (fun _ _ => rfl)) (pa_cons (pe_ix ix_tup (pv 3) (pe_op op_sub pe_int (pv 9)) (fun _ _ => rfl)) (pa_cons (pv 2) pa_nil)))))
    (pss_cons (ps_if (PW.pt (pw_or (pt_not (pt_val (pe_has h_law_is_ratio (hr.mono (by decide)) (by rfl) (pa_cons (pv 10) pa_nil)))) (pw_or1 (pt_not (pt_val (pe_has h_law_is_fair (hr.mono (by decide)) (by rfl) (pa_cons (pe_ix ix_list (pv 6) (pv 9) (fun _ _ => rfl)) (pa_cons (pe_ix ix_list (pv 6) (pe_op op_sub pe_int (pv 9)) (fun _ _ => rfl)) (pa_cons (pv 10) (pa_cons (pv 2) pa_nil)))))))))) (pss_one (ps_ret pe_bl)) pss_nil)
    (pss_cons (ps_if (pt_cmpR op_notBl (pe_has h_never_worse (hr.mono (by decide)) (by rfl) (pa_cons (pe_has h_with_toll (hr.mono (by decide)) (by rfl) (pa_cons (pe_ix ix_tup (pv 3) (pv 9) (fun _ _ => rfl)) (pa_cons (pv 10) pa_nil))) (pa_cons (pe_ix ix_tup (pv 3) (pe_op op_sub pe_int (pv 9)) (fun _ _ => rfl)) (pa_cons (pv 2) pa_nil)))) pe_bl (nomark _)) (pss_one (ps_ret pe_bl)) pss_nil)
    (pss_cons (ps_if (pt_cmpR op_notBl (pe_has h_never_worse (hr.mono (by decide)) (by rfl) (pa_cons (pe_has h_with_toll (hr.mono (by decide)) (by rfl) (pa_cons (pe_ix ix_tup (pv 3) (pv 9) (fun _ _ => rfl)) (pa_cons (pe_has h_law_add (hr.mono (by decide)) (by rfl) (pa_cons (pv 10) (pa_cons (pv 5) pa_nil))) pa_nil))) (pa_cons (pe_ix ix_tup (pv 3) (pe_op op_sub pe_int (pv 9)) (fun _ _ => rfl)) (pa_cons (pv 2) pa_nil)))) pe_bl (nomark _)) (pss_one (ps_ret pe_bl)) pss_nil)
    (pss_one (ps_if (pt_cmpR (op_neD hr.units) (pe_has h_fair_toll (hr.mono (by decide)) (by rfl) (pa_cons (pe_has h_with_toll (hr.mono (by decide)) (by rfl) (pa_cons (pe_ix ix_tup (pv 3) (pv 9) (fun _ _ => rfl)) (pa_cons (pv 4) pa_nil))) (pa_cons (pe_ix ix_tup (pv 3) (pe_op op_sub pe_int (pv 9)) (fun _ _ => rfl)) (pa_cons (pv 2) pa_nil)))) (pe_has h_law_sub (hr.mono (by decide)) (by rfl) (pa_cons (pv 10) (pa_cons (pv 4) pa_nil))) (nomark _)) (pss_one (ps_ret pe_bl)) pss_nil)))))))
    (pss_one (ps_ret pe_bl)))))))))), ?_⟩
  have dl := draws_len (cellOf ns 0) 5
  refine st_seq (st_asgN (en_call (ea_d (ed_call (ea_l (el_var rfl) (ea_d (d := intD 0) ed_int ea_nil)) (.mk ns 0 (by omega))) (ea_d (d := intD 5) ed_int ea_nil)) (.mk (cellOf ns 0) 5 (by omega) (hf 0 (by omega)))) (lt_ok rfl) fun p1 => ?_)
  generalize draws (cellOf ns 0) 5 = ds at dl ⊢
  have iL : ∀ {r : List Sd} (k : Nat), k < 5 → r[1]? = some (.own p1 (ds.map lntD)) → EvD K C (tOp (rIxL K) (tVar 1) (tC (.int (k : Int)))) r (.int (iAt ds k)) := fun k hk h1 => e_iL (n := k) (el_own h1) ed_int rfl (by omega)
  refine st_seq (st_asg (ed_call (ea_d (iL 0 (by omega) rfl) ea_nil) (.mk _)) (lt_ok rfl) ?_)
  obtain ⟨hb, hd⟩ := disc_facts (iAt ds 0)
  generalize discOf (iAt ds 0) = b at hb hd ⊢
  obtain ⟨m, m1, m3, em⟩ : ∃ m : Nat, 1 ≤ m ∧ m ≤ 3 ∧ (2 : Int) + (if decide ((iAt ds 2).fmod 4 = 1) = true then 1 else 0) = (m : Int) := by
    by_cases c : decide ((iAt ds 2).fmod 4 = 1) = true
    · exact ⟨3, by omega, by omega, by rw [if_pos c] <;> rfl⟩
    · exact ⟨2, by omega, by omega, by rw [if_neg c] <;> rfl⟩
  refine st_seq (st_asg (ed_call (ea_l (el_var rfl) (ea_d (d := intD 1) ed_int (ea_d (iL 1 (by omega) rfl) (ea_d (d := intD m) (ed_is (ed_i ed_int (ed_intB (ed_eqI (ed_ic (ed_intI (iL 2 (by omega) rfl)) ed_int (by decide)) ed_int))) (by rw [em])) ea_nil)))) (.mk ns (iAt ds 1) m m1 m3 hf)) (lt_ok rfl) ?_)
  obtain ⟨pl0, pl1⟩ := two_pl (ns := ns) (d := iAt ds 1) m1 m3 hb hd
  generalize (twoOf ns (iAt ds 1) m).1 = p0 at pl0 ⊢
  generalize (twoOf ns (iAt ds 1) m).2 = p1' at pl1 ⊢
  refine st_seq (st_asg (ed_call (ea_d (iL 3 (by omega) rfl) ea_nil) (.mk _)) (lt_ok rfl) ?_)
  have tz := frac_sz (iAt ds 3)
  generalize fracOf (iAt ds 3) = t at tz ⊢
  have r2 := fmod_range (i := iAt ds 4) (m := 2) (by decide)
  have p12 : (10 : Int) ^ 12 = 1000000000000 := by decide
  refine st_seq (st_asg (d := rat (moreL (iAt ds 4))) (ed_call (ea_d (ed_i ed_int (ed_ic (ed_ic (ed_intI (iL 4 (by omega) rfl)) ed_int ⟨by decide, by decide⟩) ed_int (by decide))) (ea_d (ed_i ed_int (ed_ic (ed_ic (ed_intI (iL 4 (by omega) rfl)) ed_int (by decide)) (ed_ic (f := fun i j => i ^ j.toNat) (i := 10) (j := 12) ed_int ed_int (by unfold CPow; decide)) ⟨10, 60, by decide, by have : (2 : Nat) ^ 10 = 1024 := rfl; omega, by decide⟩)) ea_nil)) (.mk _ _ _ (by show (1 : Int) + (iAt ds 4).fmod 2 * 10 ^ 12 ≠ 0; rw [p12]; omega) rfl)) (lt_ok rfl) ?_)
  obtain ⟨mo0, moz⟩ := moreL_facts (iAt ds 4)
  generalize moreL (iAt ds 4) = mo at mo0 moz ⊢
  refine st_seq (st_asgN en_l0 (lt_ok rfl) fun p6 => ?_)
  have lt1 := hb.lt
  have nz : 1 - b ≠ 0 := by intro e; grind
  -- the pair by number
  generalize hpk : (fun k : Nat => if k = 0 then p0 else p1') = pk
  have pk0 : pk 0 = p0 := by rw [← hpk] <;> rfl
  have pk1 : pk 1 = p1' := by rw [← hpk] <;> rfl
  have plk : ∀ k, Pl b (pk k) := fun k => by
    rw [← hpk]
    by_cases c : k = 0
    · show Pl b (if k = 0 then p0 else p1'); rw [if_pos c]; exact pl0
    · show Pl b (if k = 0 then p0 else p1'); rw [if_neg c]; exact pl1
  rw [← pk0, ← pk1]
  clear hpk pk0 pk1 pl0 pl1
  refine st_seq (st_forT (ds := [paD (pk 0), paD (pk 1)]) (n := 8) (f := fun d r => r.set 7 (.dat d)) (fun i r' => ∃ y7 y8 y9 y10, r' = [.lst (ns.map lntD), .own p1 (ds.map lntD), .dat (rat b), .dat (.tup [paD (pk 0), paD (pk 1)]), .dat (rat t), .dat (rat mo), .own p6 ((List.range i).map fun (k : Nat) => kns (gkn (pk k).1 b (pk k).2)), y7, y8, y9, y10]) (ed_var rfl) ⟨_, _, _, _, rfl⟩ (fun i r' ⟨_, _, _, _, e⟩ => by rw [e]; exact Nat.le_of_ble_eq_true rfl) (fun i d _ => tg_name 7) (fun i d r' hi ⟨y7, y8, y9, y10, e⟩ => ?_) fun r' ⟨y7, y8, y9, y10, e⟩ => ?_)
  · subst e
    have i2 : i < 2 := (List.getElem?_eq_some_iff.mp hi).1
    have ed : d = paD (pk i) := by
      match i, i2 with
      | 0, _ => exact (Option.some.inj hi).symm
      | 1, _ => exact (Option.some.inj hi).symm
    subst ed
    have pl := plk i
    generalize hp : pk i = p at pl ⊢
    obtain ⟨rl, rz⟩ := pl.gs.rs_sz
    have kg := pl.gs.kgood pl.st
    refine st_seq (st_asg (ed_call (ea_d (ed_var rfl) (ea_d (ed_var rfl) ea_nil)) (.mk p.1 b 120 p.2 pl.gs (by omega) pl.st)) (lt_ok rfl) ?_)
    refine st_seq (st_if (b := false || false) (tt_or (tt_test (ed_isN (d := kns (gkn p.1 b p.2)) (ed_var rfl) ed_non)) fun _ => tt_not (b := true) (tt_test (ed_call (ea_d (ed_call (ea_d (ed_var rfl) (ea_d (ed_var rfl) ea_nil)) (.mk p.1 p.2 t 120 5 rl rz tz (by omega) (by omega))) (ea_d (ed_var rfl) (ea_d (ed_var rfl) ea_nil))) (.mk p.1 p.2 t 120 5 rl rz tz (by omega) (by omega))))) (fun h => nomatch h) fun _ => st_next ?_)
    refine st_seq (st_if (tt_test (ed_neR (ed_call (ea_d (ed_var rfl) (ea_d (ed_var rfl) (ea_d (ed_var rfl) ea_nil))) (.mk p.1 p.1 b 120 p.2 p.2 pl.gs pl.gs (by omega) pl.st pl.st)) ed_r0)) (fun h => ?_) fun _ => st_next ?_)
    · rw [fair_self kg.good.ne, decide_eq_true rfl] at h
      cases h
    · refine st_app rfl (ed_var rfl) (by rw [List.length_map, List.length_range]; omega) ?_
      have es : ((List.range (i + 1)).map fun (k : Nat) => kns (gkn (pk k).1 b (pk k).2)) = ((List.range i).map fun (k : Nat) => kns (gkn (pk k).1 b (pk k).2)) ++ [kns (gkn p.1 b p.2)] := by
        rw [range_snoc, hp]
      rw [es]
      exact ⟨_, _, _, _, rfl⟩
  · subst e
    refine st_seq (st_forT (ds := [.int 0, .int 1, .int 0]) (n := 10) (f := fun d r => r.set 9 (.dat d)) (fun i r' => ∃ y7 y8 y9 y10, r' = [.lst (ns.map lntD), .own p1 (ds.map lntD), .dat (rat b), .dat (.tup [paD (pk 0), paD (pk 1)]), .dat (rat t), .dat (rat mo), .own p6 [kns (gkn (pk 0).1 b (pk 0).2), kns (gkn (pk 1).1 b (pk 1).2)], y7, y8, y9, y10]) (ed_t3 ed_int ed_int ed_int) ⟨_, _, _, _, rfl⟩ (fun i r' ⟨_, _, _, _, e⟩ => by rw [e]; exact Nat.le_of_ble_eq_true rfl) (fun i d _ => tg_name 9) (fun i d r' hi ⟨y7, y8, y9, y10, e⟩ => ?_) fun r' ⟨y7, y8, y9, y10, e⟩ => ?_)
    · subst e
      obtain ⟨k, k', hk, hk', ed, ed'⟩ : ∃ k k' : Nat, k < 2 ∧ k' < 2 ∧ d = .int (k : Int) ∧ (1 : Int) - (k : Int) = (k' : Int) := by
        have i3 : i < 3 := (List.getElem?_eq_some_iff.mp hi).1
        match i, i3 with
        | 0, _ => exact ⟨0, 1, by omega, by omega, (Option.some.inj hi).symm, rfl⟩
        | 1, _ => exact ⟨1, 0, by omega, by omega, (Option.some.inj hi).symm, rfl⟩
        | 2, _ => exact ⟨0, 1, by omega, by omega, (Option.some.inj hi).symm, rfl⟩
      subst ed
      have gp : ∀ k, k < 2 → [paD (pk 0), paD (pk 1)][k]? = some (paD (pk k)) := fun k hk => by
        match k, hk with
        | 0, _ => rfl
        | 1, _ => rfl
      have gc : ∀ k, k < 2 → [kns (gkn (pk 0).1 b (pk 0).2), kns (gkn (pk 1).1 b (pk 1).2)][k]? = some (kns (gkn (pk k).1 b (pk k).2)) := fun k hk => by
        match k, hk with
        | 0, _ => rfl
        | 1, _ => rfl
      have e1 : ∀ {r : List Sd}, r[3]? = some (.dat (.tup [paD (pk 0), paD (pk 1)])) → r[9]? = some (.dat (.int (k : Int))) → EvD K C (tOp (rIxT K) (tVar 3) (tVar 9)) r (paD (pk k)) := fun a b => e_ix (n := k) (ed_var a) (ed_var b) rfl (gp k hk)
      have e2 : ∀ {r : List Sd}, r[3]? = some (.dat (.tup [paD (pk 0), paD (pk 1)])) → r[9]? = some (.dat (.int (k : Int))) → EvD K C (tOp (rIxT K) (tVar 3) (tOp (rI0 fun i j => .int (i - j)) (tC (.int 1)) (tVar 9))) r (paD (pk k')) := fun a b => e_ix (n := k') (ed_var a) (ed_i ed_int (ed_var b)) ed' (gp k' hk')
      have e3 : ∀ {r : List Sd}, r[6]? = some (.own p6 [kns (gkn (pk 0).1 b (pk 0).2), kns (gkn (pk 1).1 b (pk 1).2)]) → r[9]? = some (.dat (.int (k : Int))) → EvD K C (tOp (rIxL K) (tVar 6) (tVar 9)) r (kns (gkn (pk k).1 b (pk k).2)) := fun a b => e_ixL (n := k) (el_own a) (ed_var b) rfl (gc k hk)
      have e4 : ∀ {r : List Sd}, r[6]? = some (.own p6 [kns (gkn (pk 0).1 b (pk 0).2), kns (gkn (pk 1).1 b (pk 1).2)]) → r[9]? = some (.dat (.int (k : Int))) → EvD K C (tOp (rIxL K) (tVar 6) (tOp (rI0 fun i j => .int (i - j)) (tC (.int 1)) (tVar 9))) r (kns (gkn (pk k').1 b (pk k').2)) := fun a b => e_ixL (n := k') (el_own a) (ed_i ed_int (ed_var b)) ed' (gc k' hk')
      have pl := plk k
      have pl' := plk k'
      generalize pk k = p at pl e1 e3
      generalize pk k' = p' at pl' e2 e4
      obtain ⟨D⟩ := duel pl pl'
      obtain ⟨c, hc, L, fz⟩ := D
      have g := pl.gs.kgood pl.st
      have g' := pl'.gs.kgood pl'.st
      have ks := pl.gs.ksz p.2
      have ks' := pl'.gs.ksz p'.2
      have kl := pl.gs.klen p.2
      have kl' := pl'.gs.klen p'.2
      obtain ⟨rl, rz⟩ := pl.gs.rs_sz
      have bs := pl.gs.bsz
      refine st_seq (st_asg (ed_call (ea_d (e1 rfl rfl) (ea_d (e2 rfl rfl) (ea_d (ed_var rfl) ea_nil))) (.mk p.1 p'.1 b 120 p.2 p'.2 pl.gs pl'.gs (by omega) pl.st pl'.st)) (lt_ok rfl) ?_)
      have fs := fair_shift (l' := gkn p'.1 b p'.2) (b := b) (t := t) g.good.ne nz
      generalize hfr : fairOf b (gkn p.1 b p.2) (gkn p'.1 b p'.2) = fr at hc fz fs ⊢
      have az := fz.add moz
      have G1 := pl.gs.toll fz (by omega)
      have G2 := pl.gs.toll az (by omega)
      have G3 := pl.gs.toll tz (by omega)
      have n1 := gkn_toll pl.gs G1 p.2
      have n2 := gkn_toll pl.gs G2 p.2
      have n3 := gkn_toll pl.gs G3 p.2
      rw [hc] at n1
      have cd : c < (fr + mo) / (1 - b) := by
        rw [← hc]
        exact div_gt mo0 (by grind)
      have v1 := never_true g g' L
      have v2 := never_false g g' L cd
      rw [← n1] at v1
      rw [← n2] at v2
      rw [← n3] at fs
      have st1 : ∀ x : Rat, p.2 < (tollG p.1 x).n := fun x => by rw [tollG_n]; exact pl.st
      refine st_seq (st_if (b := false || false) (tt_or (tt_not (b := true) (tt_test (ed_call (ea_d (ed_var rfl) ea_nil) (.mk fr)))) fun _ => tt_not (b := true) (tt_test (ed_call (ea_d (e3 rfl rfl) (ea_d (e4 rfl rfl) (ea_d (ed_var rfl) (ea_d (ed_var rfl) ea_nil)))) (.mk (gkn p.1 b p.2) (gkn p'.1 b p'.2) fr b _ 81869 g.good g'.good (by omega) (by omega) ks ks' fz bs nz (by omega) (by omega) (by rw [hc]; exact fair_ok g g' L) (by rw [hc]; exact fair_tight g g' L))))) (fun h => nomatch h) fun _ => st_next ?_)
      refine st_seq (st_if (tt_test (ed_notB (ed_call (ea_d (ed_call (ea_d (e1 rfl rfl) (ea_d (ed_var rfl) ea_nil)) (.mk p.1 p.2 fr 120 _ rl rz fz (by omega) (by omega))) (ea_d (e2 rfl rfl) (ea_d (ed_var rfl) ea_nil))) (.mk (tollG p.1 fr) p'.1 b _ p.2 p'.2 G1 (pl'.gs.mono (by omega) (by omega)) (st1 fr) pl'.st)) ed_bl)) (fun h => ?_) fun _ => st_next ?_)
      · rw [v1, decide_eq_true rfl] at h
        cases h
      refine st_seq (st_if (tt_test (ed_notB (ed_call (ea_d (ed_call (ea_d (e1 rfl rfl) (ea_d (e_add (ed_var rfl) (ed_var rfl) (fz.big (by omega)) (moz.big (by omega))) ea_nil)) (.mk p.1 p.2 (fr + mo) 120 _ rl rz az (by omega) (by omega))) (ea_d (e2 rfl rfl) (ea_d (ed_var rfl) ea_nil))) (.mk (tollG p.1 (fr + mo)) p'.1 b _ p.2 p'.2 G2 (pl'.gs.mono (by omega) (by omega)) (st1 _) pl'.st)) ed_bl)) (fun h => ?_) fun _ => st_next ?_)
      · rw [v2, decide_eq_true rfl] at h
        cases h
      refine st_if (tt_test (ed_neR (ed_call (ea_d (ed_call (ea_d (e1 rfl rfl) (ea_d (ed_var rfl) ea_nil)) (.mk p.1 p.2 t 120 5 rl rz tz (by omega) (by omega))) (ea_d (e2 rfl rfl) (ea_d (ed_var rfl) ea_nil))) (.mk (tollG p.1 t) p'.1 b _ p.2 p'.2 G3 (pl'.gs.mono (by omega) (by omega)) (by omega) (st1 t) pl'.st)) (e_sub (ed_var rfl) (ed_var rfl) (fz.big (by omega)) (tz.big (by omega))))) (fun h => ?_) fun _ => st_next ⟨_, _, _, _, rfl⟩
      rw [fs, decide_eq_true rfl] at h
      cases h
    · subst e
      exact st_ret ed_bl rfl
end
end AW

set_option Elab.async false
set_option linter.all false
set_option maxRecDepth 100000
set_option maxHeartbeats 4000000
/-! the law's call over a heap of which it is known that no _pylong is loaded -/
namespace AW
open PySem PySem.Spec PyProof.Rows L2 AC
section
variable {P : Program} {w : World} {K : Frg} {mg mb : Str → Option Value} {k : Nat} {fa a : Addr} {fd : FuncData} {x : Str} {sp : Sp} {s : Shared} {vs : List Value} {ns : List Int}
/-- the abstract heap at the start: the script, where K does not hold it -/
def scriptH (K : Frg) (a : Addr) (o : Obj) (xs : List V) : Hp := fun b => if b = a ∧ K.lookup a = none then some (.frz o (.lst xs)) else none
theorem scriptH_none {o : Obj} {xs : List V} {b : Addr} (h : b ≠ a) : scriptH K a o xs b = none := if_neg fun q => h q.1
theorem scriptH_in {o ob : Obj} {xs : List V} {b : Addr} (h : K.lookup b = some ob) : scriptH K a o xs b = none := if_neg fun q => by
  rw [q.1, q.2] at h
  cases h
theorem scriptH_is {o : Obj} {xs : List V} {b : Addr} {u : HO} (h : scriptH K a o xs b = some u) : b = a ∧ K.lookup a = none ∧ u = .frz o (.lst xs) := by
  unfold scriptH at h
  by_cases c : b = a ∧ K.lookup a = none
  · rw [if_pos c] at h
    exact ⟨c.1, c.2, (Option.some.inj h).symm⟩
  · rw [if_neg c] at h
    cases h
theorem call_seer (KX : K.In s.heap) (gl : s.heap.Ns mainGlobals mg) (bl : s.heap.Ns builtinsNs mb) (bs : ∀ y : Str, y ≠ "__name__" → mb y = bootBuiltins y) (nl : s.heap.NoLimit) (NS : s.heap.NoSeer) (ge : s.gens = #[])
    (at_ : s.heap.get? a = some { cls := .type "list", data := .seq vs.toArray }) (isI : IntsAre vs ns) (few : ns.length ≤ sizeLine) (room : Room k callerA)
    (F : ∀ base : Heap, K.In base → base.Ns mainGlobals mg → Seer base → FnOk P w K mg base CX0 k fa fd [x] sp) (bind : ∀ (s : Shared) (u : Value), BindsTo s fd ⟨[u], []⟩ [(x, u)])
    (prom : ∀ H : Hp, SqL K H a (ns.map V.int) → sp [.ref a] H (fun v _ => v = .bl true) fun _ _ _ => False) :
    codeAny (model P w) callerA (.call (.ref fa) ⟨[.ref a], []⟩) (fun r s' => r = .ok (.ret (.bool true)) ∧ OldK s.heap s'.heap ∧ s'.os = s.os ∧ AllBare s'.gens) s := by
  have rv := vals_ints isI
  have lv := isI.length
  generalize hH : scriptH K a { cls := .type "list", data := .seq vs.toArray } (ns.map V.int) = H
  have away : ∀ {b : Addr}, b ≠ a → H b = none := fun h => by rw [← hH]; exact scriptH_none h
  have inK : ∀ {b : Addr} {ob : Obj}, K.lookup b = some ob → H b = none := fun h => by rw [← hH]; exact scriptH_in h
  have what : ∀ {b : Addr} {u : HO}, H b = some u → b = a ∧ K.lookup a = none ∧ u = .frz { cls := .type "list", data := .seq vs.toArray } (.lst (ns.map V.int)) := fun h => by rw [← hH] at h; exact scriptH_is h
  have stays : ∀ {b : Addr} {ob : Obj}, s.heap.get? b = some ob → H b = none → (hidT s.heap H).get? b = some ob := fun e n => hidT_get e n
  have other : ∀ {b : Addr} {ob : Obj}, s.heap.get? b = some ob → ob.cls ≠ .type "list" ∨ (∃ es ep, ob.data = .dict es ep) → b ≠ a := fun {b ob} e d q => by
    subst q
    rw [at_] at e
    cases e
    rcases d with d | ⟨es, ep, d⟩
    · exact d rfl
    · cases d
  have names : ∀ {b : Addr} {m : Str → Option Value}, s.heap.Ns b m → (hidT s.heap H).Ns b m := fun {b m} h => by
    obtain ⟨ob, es, ep, e, d, r⟩ := h
    exact ⟨ob, es, ep, stays e (away (other e (.inr ⟨es, ep, d⟩))), d, r⟩
  have kb : K.In (hidT s.heap H) := fun b ob e => stays (KX b ob e) (inK e)
  have md : Mod K mg (hidT s.heap H) := by
    obtain ⟨mc, n1, n2⟩ := nl
    exact ⟨kb, names gl, ⟨mb, names bl, bs⟩, ⟨mc, names n1, n2⟩⟩
  have see : Seer (hidT s.heap H) := by
    obtain ⟨mc, c1, c2⟩ := NS.statics
    obtain ⟨mm, d1, d2⟩ := NS.mods
    obtain ⟨mg', bm, ob, e1, e2, e3, e4, e5⟩ := NS.main
    exact ⟨⟨mc, names c1, c2⟩, ⟨mm, names d1, d2⟩, ⟨mg', bm, ob, names e1, e2, stays e3 (away (other e3 (.inl (by rw [e4]; intro z; injection z with z; exact absurd z (by decide))))), e4, e5⟩⟩
  have hok : HOk P w H s.heap := fun b u e => by
    obtain ⟨rfl, _, rfl⟩ := what e
    exact ⟨at_, by rw [List.length_map]; exact few, vs, _, rv, at_⟩
  have sq : SqL K H a (ns.map V.int) := by
    cases q : K.lookup a with
    | none => exact .inl (.inr ⟨{ cls := .type "list", data := .seq vs.toArray }, by rw [← hH]; exact if_pos ⟨rfl, q⟩⟩)
    | some ob =>
      have e := KX a ob q
      rw [at_] at e
      cases e
      exact .inr ⟨_, vs.toArray, _, q, rfl, rfl, rfl, by rw [List.size_toArray, lv]; exact few, by simpa using rv⟩
  have en : Env0 P w K mg (hidT s.heap H) callerA [] s H := ⟨rfl, md, fun b ob e => of_hidT e, Nat.le_of_eq (hidT_size _ _), trivial, fun b hb => absurd (show b ∈ ([] : List Addr) from hb) List.not_mem_nil, hok, .of_eq ge⟩
  have ran := (F _ kb (names gl) see).run callerA [] s H ⟨[.ref a], []⟩ [.ref a] [.ref a] _ _ room en (bind s (.ref a)) (.cons rfl .nil) (prom H sq)
  refine codeAny_mono ran ?_
  intro r s' got
  match r, got with
  | .error e, got => exact (show False from got).elim
  | .ok .next, got => exact (show False from got).elim
  | .ok .brk, got => exact (show False from got).elim
  | .ok .cont, got => exact (show False from got).elim
  | .ok (.ret u), got =>
    obtain ⟨v, H', os, bare, un, hok', rel, q⟩ := got
    have q : v = .bl true := q
    subst q
    have ru : u = Value.bool true := rel
    subst ru
    refine ⟨rfl, OldK.of_keep fun b ob e => ?_, os, bare⟩
    cases hb : H b with
    | none => exact un.keep b ob e hb (fun z => absurd (show b ∈ ([] : List Addr) from z) List.not_mem_nil) (fun z => absurd z List.not_mem_nil)
    | some u =>
      obtain ⟨rfl, _, rfl⟩ := what hb
      have h2 := un.frzs b _ _ hb
      have h3 := (hok' b _ h2).1
      rw [at_] at e
      cases e
      exact h3
end
end AW

set_option Elab.async false
set_option linter.all false
set_option maxRecDepth 100000
set_option maxHeartbeats 4000000
/-! what the program's top has left, and the law's promise from it -/
namespace AW
open PySem PySem.Spec PyProof.Rows L2 AC
/-- a def that stands in the written part -/
structure DefK (K : Frg) (x : Str) (st : Stmt) : Prop where
  ex : ∃ (f : Addr) (oc : Value) (od : Option Addr) (kV dc pm : Value) (an : Option Addr) (cd ct : Value) (sl : Array (Option Value)), PySem.W.nsIn K mainGlobals x = some (some (.ref f)) ∧ K.lookup f = some ⟨oc, od, .func (PySem.W.fnOf x x (defArgs st) (defBody st) (defScope st) .none kV dc pm an cd ct), sl⟩ ∧ PySem.W.codeIn K cd x = true ∧ PySem.W.keepIn K (.ref f) = true
theorem defK_mk {K : Frg} {x : Str} {st : Stmt} {f : Addr} {oc : Value} {od an : Option Addr} {kV dc pm cd ct : Value} {sl : Array (Option Value)} (a : PySem.W.nsIn K mainGlobals x = some (some (.ref f))) (l : K.lookup f = some ⟨oc, od, .func (PySem.W.fnOf x x (defArgs st) (defBody st) (defScope st) .none kV dc pm an cd ct), sl⟩) (c : PySem.W.codeIn K cd x = true) (k : PySem.W.keepIn K (.ref f) = true) : DefK K x st := ⟨f, oc, od, kV, dc, pm, an, cd, ct, sl, a, l, c, k⟩
theorem DefK.to {K : Frg} {x : Str} {st : Stmt} {h : Heap} {mg : Str → Option Value} {ps : List Str} (d : DefK K x st) (X : K.In h) (N : h.Ns mainGlobals mg)
    (hb : ∀ (kV doc pm : Value) (an : Option Addr) (cdv ct : Value) (us : List Value), us.length = ps.length → bindArgs (PySem.W.fnOf x x (defArgs st) (defBody st) (defScope st) .none kV doc pm an cdv ct) ⟨us, []⟩ = pure (ps.zip us)) : Def K mg x st ps := by
  obtain ⟨f, oc, od, kV, dc, pm, an, cd, ct, sl, a, l, c, k⟩ := d.ex
  have F := fun_mk (st := st) l c k
  exact ⟨f, _, F, PySem.W.mg_of X N a, F.binds hb⟩
/-- a method -/
structure MetK (K : Frg) (C : Addr) (x q : Str) (st : Stmt) : Prop where
  ex : ∃ (f : Addr) (oc : Value) (od : Option Addr) (kV dc pm : Value) (an : Option Addr) (cd ct : Value) (sl : Array (Option Value)), PySem.W.findIn K (.ref C) x = some (some (.ref f)) ∧ PySem.W.isFn K (.ref f) = true ∧ K.lookup f = some ⟨oc, od, .func (PySem.W.fnOf x q (defArgs st) (defBody st) (defScope st) .none kV dc pm an cd ct), sl⟩ ∧ PySem.W.codeIn K cd q = true ∧ PySem.W.keepIn K (.ref f) = true
theorem metK_mk {K : Frg} {C : Addr} {x q : Str} {st : Stmt} {f : Addr} {oc : Value} {od an : Option Addr} {kV dc pm cd ct : Value} {sl : Array (Option Value)} (a : PySem.W.findIn K (.ref C) x = some (some (.ref f))) (i : PySem.W.isFn K (.ref f) = true) (l : K.lookup f = some ⟨oc, od, .func (PySem.W.fnOf x q (defArgs st) (defBody st) (defScope st) .none kV dc pm an cd ct), sl⟩) (c : PySem.W.codeIn K cd q = true) (k : PySem.W.keepIn K (.ref f) = true) : MetK K C x q st := ⟨f, oc, od, kV, dc, pm, an, cd, ct, sl, a, i, l, c, k⟩
/-- a property -/
structure ProK (K : Frg) (C : Addr) (x q : Str) (st : Stmt) : Prop where
  ex : ∃ (p f : Addr) (rest : List Value) (oc : Value) (od : Option Addr) (kV dc pm : Value) (an : Option Addr) (cd ct : Value) (sl : Array (Option Value)), PySem.W.findIn K (.ref C) x = some (some (.ref p)) ∧ PySem.W.specialIn K (.ref p) "__get__" = some (some (.builtin "property.__get__")) ∧ PySem.W.takesIn K (.ref p) = some true ∧ PySem.W.recIn K p "property" = some (.ref f :: rest) ∧ K.lookup f = some ⟨oc, od, .func (PySem.W.fnOf x q (defArgs st) (defBody st) (defScope st) .none kV dc pm an cd ct), sl⟩ ∧ PySem.W.codeIn K cd q = true ∧ PySem.W.keepIn K (.ref f) = true
theorem proK_mk {K : Frg} {C : Addr} {x q : Str} {st : Stmt} {p f : Addr} {rest : List Value} {oc : Value} {od an : Option Addr} {kV dc pm cd ct : Value} {sl : Array (Option Value)} (a : PySem.W.findIn K (.ref C) x = some (some (.ref p))) (g : PySem.W.specialIn K (.ref p) "__get__" = some (some (.builtin "property.__get__"))) (t : PySem.W.takesIn K (.ref p) = some true) (r : PySem.W.recIn K p "property" = some (.ref f :: rest)) (l : K.lookup f = some ⟨oc, od, .func (PySem.W.fnOf x q (defArgs st) (defBody st) (defScope st) .none kV dc pm an cd ct), sl⟩) (c : PySem.W.codeIn K cd q = true) (k : PySem.W.keepIn K (.ref f) = true) : ProK K C x q st := ⟨p, f, rest, oc, od, kV, dc, pm, an, cd, ct, sl, a, g, t, r, l, c, k⟩
/-- a constant of two ints -/
structure ConK (K : Frg) (x : Str) (i j : Int) : Prop where
  ex : ∃ (z : Addr) (od : Option Addr) (t u : Tok) (n : Nat) (sl : Array (Option Value)), PySem.W.nsIn K mainGlobals x = some (some (.ref z)) ∧ K.lookup z = some ⟨.type "tuple", od, .seq #[.int i t, .int j u] n, sl⟩
theorem conK_mk {K : Frg} {x : Str} {i j : Int} {z : Addr} {od : Option Addr} {t u : Tok} {n : Nat} {sl : Array (Option Value)} (a : PySem.W.nsIn K mainGlobals x = some (some (.ref z))) (l : K.lookup z = some ⟨.type "tuple", od, .seq #[.int i t, .int j u] n, sl⟩) : ConK K x i j := ⟨z, od, t, u, n, sl, a, l⟩
theorem pair_im {K : Frg} {C z : Addr} {i j : Int} {od : Option Addr} {t u : Tok} {n : Nat} {sl : Array (Option Value)} (l : K.lookup z = some ⟨.type "tuple", od, .seq #[.int i t, .int j u] n, sl⟩) (H : Hp) : Im K C H (.ref z) (.tup [.int i, .int j]) :=
  .tup (.inr ⟨_, #[.int i t, .int j u], n, l, rfl, rfl, (show 2 ≤ sizeLine by decide), .cons (show RelV (.int i) (.int i t) from ⟨t, rfl⟩) (.cons (show RelV (.int j) (.int j u) from ⟨u, rfl⟩) .nil)⟩) (.cons (.int i) (.cons (.int j) .nil))
/-- scaled -/
structure ScaK (K : Frg) : Prop where
  ex : ∃ (f : Addr) (oc : Value) (od : Option Addr) (D : Addr) (dc pm : Value) (an : Option Addr) (cd ct : Value) (sl : Array (Option Value)) (z : Addr) (oz : Option Addr) (t u : Tok) (n : Nat) (sz : Array (Option Value)), PySem.W.nsIn K mainGlobals "scaled" = some (some (.ref f)) ∧ K.lookup f = some ⟨oc, od, .func (PySem.W.fnOf "scaled" "scaled" (defArgs s_scaled) (defBody s_scaled) (defScope s_scaled) .none (.ref D) dc pm an cd ct), sl⟩ ∧ PySem.W.codeIn K cd "scaled" = true ∧ PySem.W.keepIn K (.ref f) = true ∧
    PySem.W.nsIn K D "factor" = some (some (.ref z)) ∧ K.lookup z = some ⟨.type "tuple", oz, .seq #[.int 1 t, .int 1 u] n, sz⟩
theorem scaK_mk {K : Frg} {f : Addr} {oc : Value} {od an : Option Addr} {D : Addr} {dc pm cd ct : Value} {sl : Array (Option Value)} {z : Addr} {oz : Option Addr} {t u : Tok} {n : Nat} {sz : Array (Option Value)} (a : PySem.W.nsIn K mainGlobals "scaled" = some (some (.ref f))) (l : K.lookup f = some ⟨oc, od, .func (PySem.W.fnOf "scaled" "scaled" (defArgs s_scaled) (defBody s_scaled) (defScope s_scaled) .none (.ref D) dc pm an cd ct), sl⟩) (c : PySem.W.codeIn K cd "scaled" = true) (k : PySem.W.keepIn K (.ref f) = true)
    (b : PySem.W.nsIn K D "factor" = some (some (.ref z))) (m : K.lookup z = some ⟨.type "tuple", oz, .seq #[.int 1 t, .int 1 u] n, sz⟩) : ScaK K := ⟨f, oc, od, D, dc, pm, an, cd, ct, sl, z, oz, t, u, n, sz, a, l, c, k, b, m⟩
/-- the class -/
structure CurK (K : Frg) (C : Addr) : Prop where
  at_ : PySem.W.nsIn K mainGlobals "Curve" = some (some (.ref C))
  pg : PySem.W.plainGet K C Str.empty = true
  hd : PySem.W.hasDictIn K C = true
  po : PySem.W.plainOver K C = true
  sa : PySem.W.findIn K (.ref C) "__setattr__" = some (some (.builtin "object.__setattr__"))
  mkc : PySem.W.makesIn K C = true
  kc : PySem.W.keepIn K (.ref C) = true
  nk : PySem.W.findIn K (.ref C) "knots" = some none
  init : MetK K C "__init__" "Curve.__init__" s_m_init
  never : MetK K C "never_below" "Curve.never_below" s_m_never_below
  floor : ProK K C "floor" "Curve.floor" s_m_floor
theorem curK_mk {K : Frg} {C : Addr} (a : PySem.W.nsIn K mainGlobals "Curve" = some (some (.ref C))) (pg : PySem.W.plainGet K C Str.empty = true) (hd : PySem.W.hasDictIn K C = true) (po : PySem.W.plainOver K C = true) (sa : PySem.W.findIn K (.ref C) "__setattr__" = some (some (.builtin "object.__setattr__"))) (mk : PySem.W.makesIn K C = true) (kc : PySem.W.keepIn K (.ref C) = true) (nk : PySem.W.findIn K (.ref C) "knots" = some none)
    (i : MetK K C "__init__" "Curve.__init__" s_m_init) (n : MetK K C "never_below" "Curve.never_below" s_m_never_below) (f : ProK K C "floor" "Curve.floor" s_m_floor) : ∃ C, CurK K C := ⟨C, a, pg, hd, po, sa, mk, kc, nk, i, n, f⟩
/-- all of it -/
structure TopK (K : Frg) : Prop where
  d_common_divisor : DefK K "common_divisor" s_common_divisor
  d_make_ratio : DefK K "make_ratio" s_make_ratio
  d_add : DefK K "add" s_add
  d_subtract : DefK K "subtract" s_subtract
  d_multiply : DefK K "multiply" s_multiply
  d_divide : DefK K "divide" s_divide
  d_compare : DefK K "compare" s_compare
  d_without : DefK K "without" s_without
  d_first_nonzero : DefK K "first_nonzero" s_first_nonzero
  d_solve : DefK K "solve" s_solve
  d_leave_values : DefK K "leave_values" s_leave_values
  d_leave_table : DefK K "leave_table" s_leave_table
  d_first_play : DefK K "first_play" s_first_play
  d_next_state : DefK K "next_state" s_next_state
  d_index_order : DefK K "index_order" s_index_order
  d_line_slope : DefK K "line_slope" s_line_slope
  d_value_at : DefK K "value_at" s_value_at
  d_first_wrong : DefK K "first_wrong" s_first_wrong
  d_straightened : DefK K "straightened" s_straightened
  d_merged_amounts : DefK K "merged_amounts" s_merged_amounts
  d_lack_of : DefK K "lack_of" s_lack_of
  d_all_curves : DefK K "all_curves" s_all_curves
  d_game_curve : DefK K "game_curve" s_game_curve
  d_stop_table : DefK K "stop_table" s_stop_table
  d_with_toll : DefK K "with_toll" s_with_toll
  d_amount_at : DefK K "amount_at" s_amount_at
  d_fair_toll : DefK K "fair_toll" s_fair_toll
  d_never_worse : DefK K "never_worse" s_never_worse
  d_law_cell : DefK K "_law_cell" s_law_cell
  d_law_draws : DefK K "_law_draws" s_law_draws
  d_law_low : DefK K "_law_low" s_law_low
  d_law_is_integer : DefK K "_law_is_integer" s_law_is_integer
  d_law_is_ratio : DefK K "_law_is_ratio" s_law_is_ratio
  d_law_ratios : DefK K "_law_ratios" s_law_ratios
  d_law_add : DefK K "_law_add" s_law_add
  d_law_sub : DefK K "_law_sub" s_law_sub
  d_law_mul : DefK K "_law_mul" s_law_mul
  d_law_div : DefK K "_law_div" s_law_div
  d_law_less : DefK K "_law_less" s_law_less
  d_law_fraction : DefK K "_law_fraction" s_law_fraction
  d_law_discount : DefK K "_law_discount" s_law_discount
  d_law_game : DefK K "_law_game" s_law_game
  d_law_place : DefK K "_law_place" s_law_place
  d_law_play : DefK K "_law_play" s_law_play
  d_law_throw : DefK K "_law_throw" s_law_throw
  d_law_two : DefK K "_law_two" s_law_two
  d_law_is_stopping : DefK K "_law_is_stopping" s_law_is_stopping
  d_law_value : DefK K "_law_value" s_law_value
  d_law_corners : DefK K "_law_corners" s_law_corners
  d_law_tolled : DefK K "_law_tolled" s_law_tolled
  d_law_is_tolled : DefK K "_law_is_tolled" s_law_is_tolled
  d_law_is_fair : DefK K "_law_is_fair" s_law_is_fair
  c_ZERO_leaving : ConK K "ZERO_leaving" 0 1
  c_ONE_leaving : ConK K "ONE_leaving" 1 1
  c_ZERO_knots : ConK K "ZERO_knots" 0 1
  c_ONE_knots : ConK K "ONE_knots" 1 1
  c_ZERO_tolls : ConK K "ZERO_tolls" 0 1
  c_ONE_tolls : ConK K "ONE_tolls" 1 1
  b_len : PySem.W.nsIn K mainGlobals "len" = some none
  b_tuple : PySem.W.nsIn K mainGlobals "tuple" = some none
  b_list : PySem.W.nsIn K mainGlobals "list" = some none
  b_range : PySem.W.nsIn K mainGlobals "range" = some none
  b_zip : PySem.W.nsIn K mainGlobals "zip" = some none
  b_sorted : PySem.W.nsIn K mainGlobals "sorted" = some none
  b_int : PySem.W.nsIn K mainGlobals "int" = some none
  b_abs : PySem.W.nsIn K mainGlobals "abs" = some none
  b_sum : PySem.W.nsIn K mainGlobals "sum" = some none
  b_isinstance : PySem.W.nsIn K mainGlobals "isinstance" = some none
  b_bool : PySem.W.nsIn K mainGlobals "bool" = some none
  b_gcd : PySem.W.nsIn K mainGlobals "gcd" = some (some (.builtin "math.gcd"))
  sca : ScaK K
  cur : ∃ C, CurK K C
theorem CurK.to {K : Frg} {C : Addr} {h : Heap} {mg : Str → Option Value} (c : CurK K C) (X : K.In h) (N : h.Ns mainGlobals mg) : CurveK K C mg := by
  refine ⟨⟨c.pg, c.hd, c.po, c.sa⟩, c.nk, PySem.W.mg_of X N c.at_, ?_, ?_, ?_⟩
  · obtain ⟨f, oc, od, kV, dc, pm, an, cd, ct, sl, a, i, l, e, k⟩ := c.init.ex
    have F := fun_mk (st := s_m_init) l e k
    exact ⟨f, _, ⟨c.mkc, a, i, c.kc⟩, F, F.binds fun _ _ _ _ _ _ us hl => match us, hl with | [_, _], _ => rfl⟩
  · obtain ⟨p, f, rest, oc, od, kV, dc, pm, an, cd, ct, sl, a, g, t, r, l, e, k⟩ := c.floor.ex
    have F := fun_mk (st := s_m_floor) l e k
    exact ⟨p, f, _, ⟨a, g, t, rest, r⟩, F, F.binds fun _ _ _ _ _ _ us hl => match us, hl with | [_], _ => rfl⟩
  · obtain ⟨f, oc, od, kV, dc, pm, an, cd, ct, sl, a, i, l, e, k⟩ := c.never.ex
    have F := fun_mk (st := s_m_never_below) l e k
    exact ⟨f, _, ⟨a, i, k⟩, F, F.binds fun _ _ _ _ _ _ us hl => match us, hl with | [_, _], _ => rfl⟩
theorem all_law {P : Program} {w : World} {K : Frg} {C : Addr} {h : Heap} {mg : Str → Option Value} {base : Heap} {f : Addr} {fd : FuncData} (X : K.In h) (N : h.Ns mainGlobals mg) (t : TopK K) (c : CurK K C) (hP : P.given.tree = none) (S : Seer base) (FL : Fun K "law" "law" s_law f fd) : FnOk P w K mg base CX0 53 f fd ["_law_script"] (spR K C RLaw) := by
  have F_common_divisor := t.d_common_divisor.to (ps := ["a", "b"]) X N fun _ _ _ _ _ _ us hl => match us, hl with | [_, _], _ => rfl
  have F_make_ratio := t.d_make_ratio.to (ps := ["n", "d"]) X N fun _ _ _ _ _ _ us hl => match us, hl with | [_, _], _ => rfl
  have F_add := t.d_add.to (ps := ["a", "b"]) X N fun _ _ _ _ _ _ us hl => match us, hl with | [_, _], _ => rfl
  have F_subtract := t.d_subtract.to (ps := ["a", "b"]) X N fun _ _ _ _ _ _ us hl => match us, hl with | [_, _], _ => rfl
  have F_multiply := t.d_multiply.to (ps := ["a", "b"]) X N fun _ _ _ _ _ _ us hl => match us, hl with | [_, _], _ => rfl
  have F_divide := t.d_divide.to (ps := ["a", "b"]) X N fun _ _ _ _ _ _ us hl => match us, hl with | [_, _], _ => rfl
  have F_compare := t.d_compare.to (ps := ["a", "b"]) X N fun _ _ _ _ _ _ us hl => match us, hl with | [_, _], _ => rfl
  have F_without := t.d_without.to (ps := ["row", "other", "column"]) X N fun _ _ _ _ _ _ us hl => match us, hl with | [_, _, _], _ => rfl
  have F_first_nonzero := t.d_first_nonzero.to (ps := ["row", "size"]) X N fun _ _ _ _ _ _ us hl => match us, hl with | [_, _], _ => rfl
  have F_solve := t.d_solve.to (ps := ["matrix", "right"]) X N fun _ _ _ _ _ _ us hl => match us, hl with | [_, _], _ => rfl
  have F_leave_values := t.d_leave_values.to (ps := ["game", "inside", "discount"]) X N fun _ _ _ _ _ _ us hl => match us, hl with | [_, _, _], _ => rfl
  have F_leave_table := t.d_leave_table.to (ps := ["game", "inside", "discount"]) X N fun _ _ _ _ _ _ us hl => match us, hl with | [_, _, _], _ => rfl
  have F_first_play := t.d_first_play.to (ps := ["game", "state", "table", "discount"]) X N fun _ _ _ _ _ _ us hl => match us, hl with | [_, _, _, _], _ => rfl
  have F_next_state := t.d_next_state.to (ps := ["game", "inside", "discount"]) X N fun _ _ _ _ _ _ us hl => match us, hl with | [_, _, _], _ => rfl
  have F_index_order := t.d_index_order.to (ps := ["game", "discount"]) X N fun _ _ _ _ _ _ us hl => match us, hl with | [_, _], _ => rfl
  have F_line_slope := t.d_line_slope.to (ps := ["left", "right"]) X N fun _ _ _ _ _ _ us hl => match us, hl with | [_, _], _ => rfl
  have F_value_at := t.d_value_at.to (ps := ["knots", "amount"]) X N fun _ _ _ _ _ _ us hl => match us, hl with | [_, _], _ => rfl
  have F_first_wrong := t.d_first_wrong.to (ps := ["knots"]) X N fun _ _ _ _ _ _ us hl => match us, hl with | [_], _ => rfl
  have F_straightened := t.d_straightened.to (ps := ["points"]) X N fun _ _ _ _ _ _ us hl => match us, hl with | [_], _ => rfl
  have F_merged_amounts := t.d_merged_amounts.to (ps := ["first", "second"]) X N fun _ _ _ _ _ _ us hl => match us, hl with | [_, _], _ => rfl
  have F_lack_of := t.d_lack_of.to (ps := ["first", "second"]) X N fun _ _ _ _ _ _ us hl => match us, hl with | [_, _], _ => rfl
  have F_all_curves := t.d_all_curves.to (ps := ["game", "discount"]) X N fun _ _ _ _ _ _ us hl => match us, hl with | [_, _], _ => rfl
  have F_game_curve := t.d_game_curve.to (ps := ["place", "discount"]) X N fun _ _ _ _ _ _ us hl => match us, hl with | [_, _], _ => rfl
  have F_stop_table := t.d_stop_table.to (ps := ["game", "amount", "discount"]) X N fun _ _ _ _ _ _ us hl => match us, hl with | [_, _, _], _ => rfl
  have F_with_toll := t.d_with_toll.to (ps := ["place", "toll"]) X N fun _ _ _ _ _ _ us hl => match us, hl with | [_, _], _ => rfl
  have F_amount_at := t.d_amount_at.to (ps := ["curve", "excess"]) X N fun _ _ _ _ _ _ us hl => match us, hl with | [_, _], _ => rfl
  have F_fair_toll := t.d_fair_toll.to (ps := ["first", "second", "discount"]) X N fun _ _ _ _ _ _ us hl => match us, hl with | [_, _, _], _ => rfl
  have F_never_worse := t.d_never_worse.to (ps := ["first", "second", "discount"]) X N fun _ _ _ _ _ _ us hl => match us, hl with | [_, _, _], _ => rfl
  have F_law_cell := t.d_law_cell.to (ps := ["_law_script", "_law_k"]) X N fun _ _ _ _ _ _ us hl => match us, hl with | [_, _], _ => rfl
  have F_law_draws := t.d_law_draws.to (ps := ["_law_cell_here", "_law_count"]) X N fun _ _ _ _ _ _ us hl => match us, hl with | [_, _], _ => rfl
  have F_law_low := t.d_law_low.to (ps := ["_law_n", "_law_d"]) X N fun _ _ _ _ _ _ us hl => match us, hl with | [_, _], _ => rfl
  have F_law_is_integer := t.d_law_is_integer.to (ps := ["_law_value_here"]) X N fun _ _ _ _ _ _ us hl => match us, hl with | [_], _ => rfl
  have F_law_is_ratio := t.d_law_is_ratio.to (ps := ["_law_value_here"]) X N fun _ _ _ _ _ _ us hl => match us, hl with | [_], _ => rfl
  have F_law_ratios := t.d_law_ratios.to (ps := ["_law_values", "_law_count"]) X N fun _ _ _ _ _ _ us hl => match us, hl with | [_, _], _ => rfl
  have F_law_add := t.d_law_add.to (ps := ["_law_a", "_law_b"]) X N fun _ _ _ _ _ _ us hl => match us, hl with | [_, _], _ => rfl
  have F_law_sub := t.d_law_sub.to (ps := ["_law_a", "_law_b"]) X N fun _ _ _ _ _ _ us hl => match us, hl with | [_, _], _ => rfl
  have F_law_mul := t.d_law_mul.to (ps := ["_law_a", "_law_b"]) X N fun _ _ _ _ _ _ us hl => match us, hl with | [_, _], _ => rfl
  have F_law_div := t.d_law_div.to (ps := ["_law_a", "_law_b"]) X N fun _ _ _ _ _ _ us hl => match us, hl with | [_, _], _ => rfl
  have F_law_less := t.d_law_less.to (ps := ["_law_a", "_law_b"]) X N fun _ _ _ _ _ _ us hl => match us, hl with | [_, _], _ => rfl
  have F_law_fraction := t.d_law_fraction.to (ps := ["_law_draw"]) X N fun _ _ _ _ _ _ us hl => match us, hl with | [_], _ => rfl
  have F_law_discount := t.d_law_discount.to (ps := ["_law_draw"]) X N fun _ _ _ _ _ _ us hl => match us, hl with | [_], _ => rfl
  have F_law_game := t.d_law_game.to (ps := ["_law_cell_here", "_law_most"]) X N fun _ _ _ _ _ _ us hl => match us, hl with | [_, _], _ => rfl
  have F_law_place := t.d_law_place.to (ps := ["_law_cell_here", "_law_most"]) X N fun _ _ _ _ _ _ us hl => match us, hl with | [_, _], _ => rfl
  have F_law_play := t.d_law_play.to (ps := ["_law_game_here", "_law_state", "_law_discount_here", "_law_table"]) X N fun _ _ _ _ _ _ us hl => match us, hl with | [_, _, _, _], _ => rfl
  have F_law_throw := t.d_law_throw.to (ps := ["_law_cell_here"]) X N fun _ _ _ _ _ _ us hl => match us, hl with | [_], _ => rfl
  have F_law_two := t.d_law_two.to (ps := ["_law_script", "_law_first", "_law_draw", "_law_most"]) X N fun _ _ _ _ _ _ us hl => match us, hl with | [_, _, _, _], _ => rfl
  have F_law_is_stopping := t.d_law_is_stopping.to (ps := ["_law_game_here", "_law_amount", "_law_discount_here", "_law_table"]) X N fun _ _ _ _ _ _ us hl => match us, hl with | [_, _, _, _], _ => rfl
  have F_law_value := t.d_law_value.to (ps := ["_law_corners_here", "_law_amount"]) X N fun _ _ _ _ _ _ us hl => match us, hl with | [_, _], _ => rfl
  have F_law_corners := t.d_law_corners.to (ps := ["_law_place_here", "_law_discount_here"]) X N fun _ _ _ _ _ _ us hl => match us, hl with | [_, _], _ => rfl
  have F_law_tolled := t.d_law_tolled.to (ps := ["_law_place_here", "_law_toll"]) X N fun _ _ _ _ _ _ us hl => match us, hl with | [_, _], _ => rfl
  have F_law_is_tolled := t.d_law_is_tolled.to (ps := ["_law_told", "_law_place_here", "_law_toll"]) X N fun _ _ _ _ _ _ us hl => match us, hl with | [_, _, _], _ => rfl
  have F_law_is_fair := t.d_law_is_fair.to (ps := ["_law_first", "_law_second", "_law_toll", "_law_discount_here"]) X N fun _ _ _ _ _ _ us hl => match us, hl with | [_, _, _, _], _ => rfl
  obtain ⟨z0, od0, t0, u0, n0, sl0, a0, l0⟩ := t.c_ZERO_leaving.ex
  obtain ⟨z1, od1, t1, u1, n1, sl1, a1, l1⟩ := t.c_ONE_leaving.ex
  obtain ⟨z2, od2, t2, u2, n2, sl2, a2, l2⟩ := t.c_ZERO_knots.ex
  obtain ⟨z3, od3, t3, u3, n3, sl3, a3, l3⟩ := t.c_ONE_knots.ex
  obtain ⟨z4, od4, t4, u4, n4, sl4, a4, l4⟩ := t.c_ZERO_tolls.ex
  obtain ⟨z5, od5, t5, u5, n5, sl5, a5, l5⟩ := t.c_ONE_tolls.ex
  have no := fun {x : Str} (e : PySem.W.nsIn K mainGlobals x = some none) => PySem.W.mg_none_of X N e
  have G : Glo K mg base z0 z1 z2 z3 z4 z5 := ⟨no t.b_len, no t.b_tuple, no t.b_list, no t.b_range, no t.b_zip, no t.b_sorted, no t.b_int, no t.b_abs, no t.b_sum, no t.b_isinstance, no t.b_bool, PySem.W.mg_of X N t.b_gcd, PySem.W.mg_of X N a0, PySem.W.mg_of X N a1, PySem.W.mg_of X N a2, PySem.W.mg_of X N a3, PySem.W.mg_of X N a4, PySem.W.mg_of X N a5, fun C H => pair_im l0 H, fun C H => pair_im l1 H, fun C H => pair_im l2 H, fun C H => pair_im l3 H, fun C H => pair_im l4 H, fun C H => pair_im l5 H, S⟩
  obtain ⟨sf, soc, sod, sD, sdc, spm, san, scd, sct, ssl, sz, soz, st, su, sn, ssz, sa, sl, sc, sk, sb, sm⟩ := t.sca.ex
  have DS : DefSc K mg (.ref sz) := ⟨sf, soc, sod, sD, sdc, spm, san, scd, sct, ssl, .ref sz, sl, sc, sk, PySem.W.mg_of X N sa, sb, rfl⟩
  have fV : ∀ H, Im K C H (.ref sz) (rat 1) := fun H => pair_im sm H
  have CK := c.to X N
  have h0 : Has P w K mg base "common_divisor" 40 ["a", "b"] (spR K C RGcd) := has_common_divisor G F_common_divisor
  have h1 := has_make_ratio G hP h0 F_make_ratio
  have T : Rt P w K C mg base := ⟨has_add h1 F_add, has_subtract h1 F_subtract, has_multiply h1 F_multiply, has_divide h1 F_divide, has_compare F_compare⟩
  have p1 := has_line_slope T F_line_slope
  have p2 := has_value_at G T p1 F_value_at
  have p3 := has_first_wrong G T p1 F_first_wrong
  have p4 := has_straightened G T p1 F_straightened
  have p5 := has_merged_amounts G T F_merged_amounts
  have p6 := has_lack_of G T p2 p5 F_lack_of
  have p7 : Has P w K mg base "first_nonzero" 40 ["row", "size"] (spR K C RNz) := has_first_nonzero G F_first_nonzero
  have p8 : Has P w K mg base "without" 43 ["row", "other", "column"] (spWo K C) := has_without G T F_without
  have p9 := has_solve G T p8 p7 F_solve
  have p10 := has_leave_values G T p9 F_leave_values
  have p11 := has_leave_table G T p10 F_leave_table
  have p12 := has_first_play G T F_first_play
  have p13 := has_next_state G T p11 p12 F_next_state
  have p14 := has_index_order G T p13 F_index_order
  have CV := has_curve G T p3 p6 CK
  have p15 := has_scaled (fV := .ref sz) G T DS
  have p16 := has_with_toll G T fV p15 F_with_toll
  have p17 := has_amount_at G T CV F_amount_at
  have p18 := has_all_curves G T CV p14 p10 p4 F_all_curves
  have p19 := has_game_curve G T p18 F_game_curve
  have p20 := has_never_worse G T CV p19 F_never_worse
  have p21 := has_fair_toll G T CV p19 p17 F_fair_toll
  have p22 := has_stop_table G T p14 p10 F_stop_table
  have q1 : Has P w K mg base "_law_cell" 40 ["_law_script", "_law_k"] (spR K C RCell) := has_cell G F_law_cell
  have q2 : Has P w K mg base "_law_low" 41 ["_law_n", "_law_d"] (spR K C RLow) := has_low G hP F_law_low
  have q3 : Has P w K mg base "_law_draws" 40 ["_law_cell_here", "_law_count"] (spR K C RDraw) := has_draws G F_law_draws
  have q4 : Has P w K mg base "_law_is_integer" 40 ["_law_value_here"] (spR K C RIsI) := has_is_integer G F_law_is_integer
  have q5 := has_is_ratio G q4 q2 F_law_is_ratio
  have q6 := has_ratios G q5 F_law_ratios
  have q7 := has_ladd G q2 F_law_add
  have q8 := has_lsub G q2 F_law_sub
  have q9 := has_lmul G q2 F_law_mul
  have q10 := has_ldiv G q2 F_law_div
  have q11 : Has P w K mg base "_law_less" 42 ["_law_a", "_law_b"] (spR K C RLess) := has_less G F_law_less
  have q12 := has_fraction G q2 F_law_fraction
  have q13 := has_discount G q2 F_law_discount
  have q14 := has_play G q7 q9 F_law_play
  have q15 := has_game G q3 q2 q12 F_law_game
  have q16 := has_place G q3 q15 F_law_place
  have q17 := has_throw G q3 q2 q12 q7 F_law_throw
  have q18 := has_lvalue G q11 q7 q8 q9 q10 F_law_value
  have q19 := has_stopping G q6 q14 q11 F_law_is_stopping
  have q20 := has_two G q1 q16 q2 q7 q17 F_law_two
  have q21 := has_tolled G q8 F_law_tolled
  have q22 := has_is_tolled G q4 q6 q21 F_law_is_tolled
  have q23 := has_is_fair G q10 q8 q7 q11 q18 F_law_is_fair
  have q24 := has_corners G CV p19 p22 q6 q8 q7 q10 q11 q18 q19 F_law_corners
  exact has_law G q1 q3 q13 q20 q12 q2 q24 q22 p16 p21 q5 q23 p20 q7 q8 FL
end AW
namespace AW
open PySem PySem.Spec PyProof.Rows L2 AC
theorem fit_bits {z : Int} (h : Builtin.Int.intBits z ≤ 1048576) : Fit z := by
  unfold Fit
  by_cases z0 : z.natAbs = 0
  · rw [z0]
    exact Nat.two_pow_pos _
  · have h1 : z.natAbs.log2 + 1 ≤ 1048576 := by
      have e : Builtin.Int.intBits z = z.natAbs.log2 + 1 := by
        unfold Builtin.Int.intBits
        rw [if_neg (by simpa using fun q : z = 0 => z0 (by rw [q] <;> rfl))]
      omega
    have h2 : z.natAbs < 2 ^ (z.natAbs.log2 + 1) := (Nat.log2_lt z0).mp (Nat.lt_succ_self _)
    exact Nat.lt_of_lt_of_le h2 (pow_le (by omega))
theorem fit_cells {ns : List Int} (h : ∀ z ∈ ns, Builtin.Int.intBits z ≤ 1048576) (k : Nat) (hk : k ≤ 2) : Fit (cellOf ns k) := by
  unfold cellOf
  by_cases c : k < ns.length
  · rw [if_pos c]
    exact fit_bits (h _ (List.mem_of_getElem? (getD_of c)))
  · rw [if_neg c]
    have e : (5 * (k : Int) + 3).natAbs < 2 ^ 10 := by
      have : (2 : Nat) ^ 10 = 1024 := rfl
      omega
    exact Nat.lt_of_lt_of_le e (pow_le (by omega))
theorem walk_law {l : PySem.W.OpenLaw} {q : Program} {loose : List Str} {XP : (Str → Option Value) → Heap → Prop} {YP : World → Heap → Prop} {d : DefRec} {K : Params → PySem.W.Frag} (hn : l.most = some 63) (hdf : d.params.defaults = []) (hnm : d.name = "law") (hq : importsNone q = true)
    (hY : ∀ (w : World) (h : Heap), YP w h → (K w.params).In h) (hP : l.prog.given.tree = none) (t : ∀ w : World, TopK (K w.params)) (tl : ∀ w : World, DefK (K w.params) "law" s_law) :
    PySem.W.WalkO q loose XP YP l.row.toRowW d [] (fun f vs => PySem.call f vs) := by
  refine Att.attach_callB hn hdf fun w s₀ s₁ mg mb fa o pm cd doc a vs ns Gd Y ho hd hcd hmg hobj isI hlen hbits hg => ?_
  have KX := hY w _ Y
  obtain ⟨f, oc, od, kV, dc, pm', an, cd', ct, sl, a1, l1, c, k⟩ := (tl w).ex
  have e := PySem.W.mg_of KX Gd.T.g a1
  rw [hnm, e] at hmg
  have e2 : f = fa := by
    have := Option.some.inj hmg
    injection this
  subst e2
  have FL := fun_mk (st := s_law) l1 c k
  obtain ⟨C, cu⟩ := (t w).cur
  exact call_seer (k := 53) (x := "_law_script") (sp := spR (K w.params) C RLaw) KX Gd.T.g Gd.T.b Gd.T.builtins Gd.T.nolimit (Gd.T.seer hq) hg hobj isI (Nat.le_trans hlen (by decide)) ⟨rfl, by decide, by decide⟩
    (fun base hb _ S => all_law KX Gd.T.g (t w) cu hP S FL) (fun s u => .of_eq rfl)
    (fun H hL => ⟨[.lst (ns.map lntD)], .dat (.bl true), .cons (d := .lst _) ⟨a, ns.map V.int, rfl, hL, ImA.of_ints ns⟩ .nil, .mk ns (fit_cells hbits), fun v H' e i => im_bl i⟩)
end AW

set_option Elab.async false
open PySem PySem.W PyProof.Rows
set_option maxRecDepth 100000
set_option maxHeartbeats 0
open_top head for PySem.Challenge.rw_anycompany_k78_whole_fair_tolls

set_option Elab.async false
set_option linter.all false
set_option maxRecDepth 100000
set_option maxHeartbeats 0
open PySem PySem.W PyProof.Rows
theorem PySem.Challenge.cw_anycompany_k78_whole_fair_tolls_holds : PySem.Challenge.rw_anycompany_k78_whole_fair_tolls.Holds :=
  head (by
  k_fill
  refine AW.walk_law (l := PySem.Challenge.rw_anycompany_k78_whole_fair_tolls) rfl rfl rfl (by decide +kernel) (fun w h Y => PySem.W.kIn_of Y) rfl ?t ?tl
  case tl =>
    intro w
    refine' AW.defK_mk ?a ?l ?c ?k
    (case a => k_is); (case l => k_is); (case c => k_is); (case k => k_is)
  case t =>
    intro w
    constructor
    case d_common_divisor => (refine' AW.defK_mk ?a ?l ?c ?k; (case a => k_is); (case l => k_is); (case c => k_is); (case k => k_is))
    case d_make_ratio => (refine' AW.defK_mk ?a ?l ?c ?k; (case a => k_is); (case l => k_is); (case c => k_is); (case k => k_is))
    case d_add => (refine' AW.defK_mk ?a ?l ?c ?k; (case a => k_is); (case l => k_is); (case c => k_is); (case k => k_is))
    case d_subtract => (refine' AW.defK_mk ?a ?l ?c ?k; (case a => k_is); (case l => k_is); (case c => k_is); (case k => k_is))
    case d_multiply => (refine' AW.defK_mk ?a ?l ?c ?k; (case a => k_is); (case l => k_is); (case c => k_is); (case k => k_is))
    case d_divide => (refine' AW.defK_mk ?a ?l ?c ?k; (case a => k_is); (case l => k_is); (case c => k_is); (case k => k_is))
    case d_compare => (refine' AW.defK_mk ?a ?l ?c ?k; (case a => k_is); (case l => k_is); (case c => k_is); (case k => k_is))
    case d_without => (refine' AW.defK_mk ?a ?l ?c ?k; (case a => k_is); (case l => k_is); (case c => k_is); (case k => k_is))
    case d_first_nonzero => (refine' AW.defK_mk ?a ?l ?c ?k; (case a => k_is); (case l => k_is); (case c => k_is); (case k => k_is))
    case d_solve => (refine' AW.defK_mk ?a ?l ?c ?k; (case a => k_is); (case l => k_is); (case c => k_is); (case k => k_is))
    case d_leave_values => (refine' AW.defK_mk ?a ?l ?c ?k; (case a => k_is); (case l => k_is); (case c => k_is); (case k => k_is))
    case d_leave_table => (refine' AW.defK_mk ?a ?l ?c ?k; (case a => k_is); (case l => k_is); (case c => k_is); (case k => k_is))
    case d_first_play => (refine' AW.defK_mk ?a ?l ?c ?k; (case a => k_is); (case l => k_is); (case c => k_is); (case k => k_is))
    case d_next_state => (refine' AW.defK_mk ?a ?l ?c ?k; (case a => k_is); (case l => k_is); (case c => k_is); (case k => k_is))
    case d_index_order => (refine' AW.defK_mk ?a ?l ?c ?k; (case a => k_is); (case l => k_is); (case c => k_is); (case k => k_is))
    case d_line_slope => (refine' AW.defK_mk ?a ?l ?c ?k; (case a => k_is); (case l => k_is); (case c => k_is); (case k => k_is))
    case d_value_at => (refine' AW.defK_mk ?a ?l ?c ?k; (case a => k_is); (case l => k_is); (case c => k_is); (case k => k_is))
    case d_first_wrong => (refine' AW.defK_mk ?a ?l ?c ?k; (case a => k_is); (case l => k_is); (case c => k_is); (case k => k_is))
    case d_straightened => (refine' AW.defK_mk ?a ?l ?c ?k; (case a => k_is); (case l => k_is); (case c => k_is); (case k => k_is))
    case d_merged_amounts => (refine' AW.defK_mk ?a ?l ?c ?k; (case a => k_is); (case l => k_is); (case c => k_is); (case k => k_is))
    case d_lack_of => (refine' AW.defK_mk ?a ?l ?c ?k; (case a => k_is); (case l => k_is); (case c => k_is); (case k => k_is))
    case d_all_curves => (refine' AW.defK_mk ?a ?l ?c ?k; (case a => k_is); (case l => k_is); (case c => k_is); (case k => k_is))
    case d_game_curve => (refine' AW.defK_mk ?a ?l ?c ?k; (case a => k_is); (case l => k_is); (case c => k_is); (case k => k_is))
    case d_stop_table => (refine' AW.defK_mk ?a ?l ?c ?k; (case a => k_is); (case l => k_is); (case c => k_is); (case k => k_is))
    case d_with_toll => (refine' AW.defK_mk ?a ?l ?c ?k; (case a => k_is); (case l => k_is); (case c => k_is); (case k => k_is))
    case d_amount_at => (refine' AW.defK_mk ?a ?l ?c ?k; (case a => k_is); (case l => k_is); (case c => k_is); (case k => k_is))
    case d_fair_toll => (refine' AW.defK_mk ?a ?l ?c ?k; (case a => k_is); (case l => k_is); (case c => k_is); (case k => k_is))
    case d_never_worse => (refine' AW.defK_mk ?a ?l ?c ?k; (case a => k_is); (case l => k_is); (case c => k_is); (case k => k_is))
    case d_law_cell => (refine' AW.defK_mk ?a ?l ?c ?k; (case a => k_is); (case l => k_is); (case c => k_is); (case k => k_is))
    case d_law_draws => (refine' AW.defK_mk ?a ?l ?c ?k; (case a => k_is); (case l => k_is); (case c => k_is); (case k => k_is))
    case d_law_low => (refine' AW.defK_mk ?a ?l ?c ?k; (case a => k_is); (case l => k_is); (case c => k_is); (case k => k_is))
    case d_law_is_integer => (refine' AW.defK_mk ?a ?l ?c ?k; (case a => k_is); (case l => k_is); (case c => k_is); (case k => k_is))
    case d_law_is_ratio => (refine' AW.defK_mk ?a ?l ?c ?k; (case a => k_is); (case l => k_is); (case c => k_is); (case k => k_is))
    case d_law_ratios => (refine' AW.defK_mk ?a ?l ?c ?k; (case a => k_is); (case l => k_is); (case c => k_is); (case k => k_is))
    case d_law_add => (refine' AW.defK_mk ?a ?l ?c ?k; (case a => k_is); (case l => k_is); (case c => k_is); (case k => k_is))
    case d_law_sub => (refine' AW.defK_mk ?a ?l ?c ?k; (case a => k_is); (case l => k_is); (case c => k_is); (case k => k_is))
    case d_law_mul => (refine' AW.defK_mk ?a ?l ?c ?k; (case a => k_is); (case l => k_is); (case c => k_is); (case k => k_is))
    case d_law_div => (refine' AW.defK_mk ?a ?l ?c ?k; (case a => k_is); (case l => k_is); (case c => k_is); (case k => k_is))
    case d_law_less => (refine' AW.defK_mk ?a ?l ?c ?k; (case a => k_is); (case l => k_is); (case c => k_is); (case k => k_is))
    case d_law_fraction => (refine' AW.defK_mk ?a ?l ?c ?k; (case a => k_is); (case l => k_is); (case c => k_is); (case k => k_is))
    case d_law_discount => (refine' AW.defK_mk ?a ?l ?c ?k; (case a => k_is); (case l => k_is); (case c => k_is); (case k => k_is))
    case d_law_game => (refine' AW.defK_mk ?a ?l ?c ?k; (case a => k_is); (case l => k_is); (case c => k_is); (case k => k_is))
    case d_law_place => (refine' AW.defK_mk ?a ?l ?c ?k; (case a => k_is); (case l => k_is); (case c => k_is); (case k => k_is))
    case d_law_play => (refine' AW.defK_mk ?a ?l ?c ?k; (case a => k_is); (case l => k_is); (case c => k_is); (case k => k_is))
    case d_law_throw => (refine' AW.defK_mk ?a ?l ?c ?k; (case a => k_is); (case l => k_is); (case c => k_is); (case k => k_is))
    case d_law_two => (refine' AW.defK_mk ?a ?l ?c ?k; (case a => k_is); (case l => k_is); (case c => k_is); (case k => k_is))
    case d_law_is_stopping => (refine' AW.defK_mk ?a ?l ?c ?k; (case a => k_is); (case l => k_is); (case c => k_is); (case k => k_is))
    case d_law_value => (refine' AW.defK_mk ?a ?l ?c ?k; (case a => k_is); (case l => k_is); (case c => k_is); (case k => k_is))
    case d_law_corners => (refine' AW.defK_mk ?a ?l ?c ?k; (case a => k_is); (case l => k_is); (case c => k_is); (case k => k_is))
    case d_law_tolled => (refine' AW.defK_mk ?a ?l ?c ?k; (case a => k_is); (case l => k_is); (case c => k_is); (case k => k_is))
    case d_law_is_tolled => (refine' AW.defK_mk ?a ?l ?c ?k; (case a => k_is); (case l => k_is); (case c => k_is); (case k => k_is))
    case d_law_is_fair => (refine' AW.defK_mk ?a ?l ?c ?k; (case a => k_is); (case l => k_is); (case c => k_is); (case k => k_is))
    case c_ZERO_leaving => (refine' AW.conK_mk ?a ?l; (case a => k_is); (case l => k_is))
    case c_ONE_leaving => (refine' AW.conK_mk ?a ?l; (case a => k_is); (case l => k_is))
    case c_ZERO_knots => (refine' AW.conK_mk ?a ?l; (case a => k_is); (case l => k_is))
    case c_ONE_knots => (refine' AW.conK_mk ?a ?l; (case a => k_is); (case l => k_is))
    case c_ZERO_tolls => (refine' AW.conK_mk ?a ?l; (case a => k_is); (case l => k_is))
    case c_ONE_tolls => (refine' AW.conK_mk ?a ?l; (case a => k_is); (case l => k_is))
    case b_len => k_is
    case b_tuple => k_is
    case b_list => k_is
    case b_range => k_is
    case b_zip => k_is
    case b_sorted => k_is
    case b_int => k_is
    case b_abs => k_is
    case b_sum => k_is
    case b_isinstance => k_is
    case b_bool => k_is
    case b_gcd => k_is
    case sca => (refine' AW.scaK_mk ?a ?l ?c ?k ?b ?m; (case a => k_is); (case l => k_is); (case c => k_is); (case k => k_is); (case b => k_is); (case m => k_is))
    case cur =>
      refine' AW.curK_mk ?a ?pg ?hd ?po ?sa ?mk ?kc ?nk ?i ?n ?f
      (case a => k_is); (case pg => k_is); (case hd => k_is); (case po => k_is); (case sa => k_is); (case mk => k_is); (case kc => k_is); (case nk => k_is)
      (case i => (refine' AW.metK_mk ?a ?i ?l ?c ?k; (case a => k_is); (case i => k_is); (case l => k_is); (case c => k_is); (case k => k_is)))
      (case n => (refine' AW.metK_mk ?a ?i ?l ?c ?k; (case a => k_is); (case i => k_is); (case l => k_is); (case c => k_is); (case k => k_is)))
      (case f => (refine' AW.proK_mk ?a ?g ?t ?r ?l ?c ?k; (case a => k_is); (case g => k_is); (case t => k_is); (case r => k_is); (case l => k_is); (case c => k_is); (case k => k_is))))

