import PyProof.Rows.All
import Wide.All
import OpenK.AllK
import Wide.FinOn
import PySem.Challenge.RW_ballchutes_k42_whole_ways
import HandS.ForMost
import HandS.DictTup
import HandS.Star
import HandS.Conv
import HandS.More
import HandS.IsInst
import HandS.Zip
import HandS.TupAny
import HandS.Style
import HandS.Walk
import HandS.DictComp
import HandS.RaiseMore
import HandS.Evl
import HandS.Defaults
import KE.GoesEnum
import KE.KEqNest
import HandS.OwnEq
import HandS.SetKeys
import HandS.TupLen
import KE.KDictKeyed
import KE.GoesZip
import KE.GoesMore
section
/-! Plain mathematics: a knot's drops by number, and why the order of drops does not matter. -/
set_option autoImplicit false
set_option linter.all false
namespace Bc
variable {α : Type} [DecidableEq α]

/-- a knot: the drops of its front and of its turn -/
structure Kn (α : Type) where
  front : List (List α)
  turn : List (List α)

def Kn.rows (k : Kn α) : List (List α) := k.front ++ k.turn
def Kn.len (k : Kn α) : Nat := k.rows.length
def Kn.nx (k : Kn α) (p : Nat) : Nat := if p + 1 < k.len then p + 1 else k.front.length
def Kn.drop (k : Kn α) (p : Nat) : List α := k.rows.getD p []
def Kn.plc (k : Kn α) (p : Nat) : Nat → Nat
  | 0 => p
  | n + 1 => k.nx (k.plc p n)
/-- how many of t among the first n drops from p on -/
def Kn.cnt (k : Kn α) (p : Nat) (t : α) : Nat → Nat
  | 0 => 0
  | n + 1 => k.cnt p t n + (k.drop (k.plc p n)).count t

theorem Kn.cnt_mono (k : Kn α) (p : Nat) (t : α) {m n : Nat} (h : m ≤ n) : k.cnt p t m ≤ k.cnt p t n := by
  induction h with
  | refl => exact Nat.le_refl _
  | step _ ih => exact Nat.le_trans ih (Nat.le_add_right _ _)
theorem Kn.plc_add (k : Kn α) (p m : Nat) : ∀ n, k.plc p (m + n) = k.plc (k.plc p m) n
  | 0 => rfl
  | n + 1 => by show k.nx (k.plc p (m + n)) = k.nx (k.plc (k.plc p m) n); rw [Kn.plc_add k p m n]
theorem Kn.cnt_add (k : Kn α) (p : Nat) (t : α) (m : Nat) : ∀ n, k.cnt p t (m + n) = k.cnt p t m + k.cnt (k.plc p m) t n
  | 0 => rfl
  | n + 1 => by
    show k.cnt p t (m + n) + (k.drop (k.plc p (m + n))).count t = _
    rw [Kn.cnt_add k p t m n, Kn.plc_add]
    simp only [Kn.cnt]
    omega
theorem Kn.nx_lt (k : Kn α) (h : k.turn ≠ []) {p : Nat} : k.nx p < k.len := by
  unfold Kn.nx
  split
  · assumption
  · have : 0 < k.turn.length := List.length_pos_iff.mpr h
    simp only [Kn.len, Kn.rows, List.length_append]; omega
theorem Kn.plc_lt (k : Kn α) (h : k.turn ≠ []) {p : Nat} (hp : p < k.len) : ∀ n, k.plc p n < k.len
  | 0 => hp
  | _ + 1 => k.nx_lt h

/-! ### sums over the knots -/
def sumN (l : List α) (f : α → Nat) : Nat := (l.map f).sum
theorem sumN_nil (f : α → Nat) : sumN [] f = 0 := rfl
theorem sumN_cons (a : α) (l : List α) (f : α → Nat) : sumN (a :: l) f = f a + sumN l f := by simp [sumN]
theorem sumN_le {l : List α} {f g : α → Nat} (h : ∀ a ∈ l, f a ≤ g a) : sumN l f ≤ sumN l g := by
  induction l with
  | nil => exact Nat.le_refl _
  | cons a l ih =>
    rw [sumN_cons, sumN_cons]
    exact Nat.add_le_add (h a List.mem_cons_self) (ih fun b hb => h b (List.mem_cons_of_mem _ hb))
theorem sumN_congr {l : List α} {f g : α → Nat} (h : ∀ a ∈ l, f a = g a) : sumN l f = sumN l g := by
  induction l with
  | nil => rfl
  | cons a l ih =>
    rw [sumN_cons, sumN_cons, h a List.mem_cons_self, ih fun b hb => h b (List.mem_cons_of_mem _ hb)]
theorem sumN_lt {l : List α} {f g : α → Nat} (h : ∀ a ∈ l, f a ≤ g a) {b : α} (hb : b ∈ l) (hlt : f b < g b) : sumN l f < sumN l g := by
  induction l with
  | nil => cases hb
  | cons a l ih =>
    rw [sumN_cons, sumN_cons]
    have h1 := h a List.mem_cons_self
    have h2 := sumN_le fun c hc => h c (List.mem_cons_of_mem a hc)
    cases hb with
    | head => omega
    | tail _ hb =>
      have := ih (fun c hc => h c (List.mem_cons_of_mem _ hc)) hb
      omega
/-- the knot v takes k more -/
def bump (c : α → Nat) (v : α) (k : Nat) : α → Nat := fun u => if u = v then c u + k else c u
theorem bump_same (c : α → Nat) (v : α) (k : Nat) : bump c v k v = c v + k := by simp [bump]
theorem bump_ne (c : α → Nat) {u v : α} (k : Nat) (h : u ≠ v) : bump c v k u = c u := by simp [bump, h]
theorem bump_le (c : α → Nat) (u v : α) (k : Nat) : c u ≤ bump c v k u := by unfold bump; split <;> omega
/-- a sum over knots, one of which is changed -/
theorem sumN_one {l : List α} (hn : l.Nodup) {b : α} (hb : b ∈ l) {f g : α → Nat} {k : Nat} (he : ∀ a, a ≠ b → g a = f a) (h : g b = f b + k) : sumN l g = sumN l f + k := by
  induction l with
  | nil => cases hb
  | cons a l ih =>
    rw [sumN_cons, sumN_cons]
    rw [List.nodup_cons] at hn
    cases hb with
    | head =>
      have : sumN l g = sumN l f := sumN_congr fun c hc => he c (fun e => hn.1 (e ▸ hc))
      omega
    | tail _ hb =>
      have hab : a ≠ b := fun e => hn.1 (e ▸ hb)
      have := ih hn.2 hb
      rw [he a hab]; omega

/-! ### a net, from a standing s and waiting balls w -/
structure Nt (α : Type) where
  names : List α
  kn : α → Kn α

variable (N : Nt α) (s : α → Nat) (w : α → Nat)
/-- what has come to v, when the knots have taken c -/
def came (c : α → Nat) (v : α) : Nat := w v + sumN N.names fun u => (N.kn u).cnt (s u) v (c u)
/-- nothing waits -/
def Stab (c : α → Nat) : Prop := ∀ v ∈ N.names, c v = came N s w c v
/-- the counts at which nothing waits, the least ones -/
structure Least (c : α → Nat) : Prop where
  st : Stab N s w c
  le : ∀ d, Stab N s w d → ∀ v ∈ N.names, c v ≤ d v
variable {N s w}
theorem came_mono {c d : α → Nat} (h : ∀ u ∈ N.names, c u ≤ d u) (v : α) : came N s w c v ≤ came N s w d v :=
  Nat.add_le_add_left (sumN_le fun u hu => Kn.cnt_mono _ _ _ (h u hu)) _
/-- what is taken lawfully stays below any counts at which nothing waits -/
theorem take_le {c d : α → Nat} (hd : Stab N s w d) (h : ∀ u ∈ N.names, c u ≤ d u) {v : α} (hv : v ∈ N.names) {k : Nat} (hk : c v + k ≤ came N s w c v) : ∀ u ∈ N.names, bump c v k u ≤ d u := by
  intro u hu
  by_cases e : u = v
  · subst e
    rw [bump_same, hd u hu]
    exact Nat.le_trans hk (came_mono h u)
  · rw [bump_ne c k e]; exact h u hu
theorem Least.uniq {c d : α → Nat} (hc : Least N s w c) (hd : Least N s w d) : ∀ v ∈ N.names, c v = d v := fun v hv => Nat.le_antisymm (hc.le d hd.st v hv) (hd.le c hc.st v hv)
theorem Least.of_le {c d : α → Nat} (hc : Least N s w c) (hd : Stab N s w d) (h : ∀ u ∈ N.names, d u ≤ c u) : ∀ v ∈ N.names, d v = c v := fun v hv => Nat.le_antisymm (h v hv) (hc.le d hd v hv)
/-- the next drop of v -/
theorem came_bump {c : α → Nat} (hn : N.names.Nodup) {v : α} (hv : v ∈ N.names) (t : α) : came N s w (bump c v 1) t = came N s w c t + ((N.kn v).drop ((N.kn v).plc (s v) (c v))).count t := by
  unfold came
  rw [sumN_one hn hv (f := fun u => (N.kn u).cnt (s u) t (c u)) (k := ((N.kn v).drop ((N.kn v).plc (s v) (c v))).count t)]
  · omega
  · intro a ha; simp only [bump_ne c 1 ha]
  · simp only [bump_same]; rfl
/-- the next k drops of v -/
theorem came_bumpk {c : α → Nat} (hn : N.names.Nodup) {v : α} (hv : v ∈ N.names) (k : Nat) (t : α) : came N s w (bump c v k) t = came N s w c t + (N.kn v).cnt ((N.kn v).plc (s v) (c v)) t k := by
  unfold came
  rw [sumN_one hn hv (f := fun u => (N.kn u).cnt (s u) t (c u)) (k := (N.kn v).cnt ((N.kn v).plc (s v) (c v)) t k)]
  · omega
  · intro a ha; simp only [bump_ne c k ha]
  · simp only [bump_same]; rw [Kn.cnt_add]

/-! ### there are such counts: a weight that falls -/
/-- a sum of ints over the knots -/
def sumI (l : List α) (f : α → Int) : Int := (l.map f).sum
theorem sumI_cons (a : α) (l : List α) (f : α → Int) : sumI (a :: l) f = f a + sumI l f := by simp [sumI]
theorem sumI_le {l : List α} {f g : α → Int} (h : ∀ a ∈ l, f a ≤ g a) : sumI l f ≤ sumI l g := by
  induction l with
  | nil => exact Int.le_refl _
  | cons a l ih =>
    rw [sumI_cons, sumI_cons]
    exact Int.add_le_add (h a List.mem_cons_self) (ih fun b hb => h b (List.mem_cons_of_mem _ hb))
theorem sumI_congr {l : List α} {f g : α → Int} (h : ∀ a ∈ l, f a = g a) : sumI l f = sumI l g := by
  induction l with
  | nil => rfl
  | cons a l ih => rw [sumI_cons, sumI_cons, h a List.mem_cons_self, ih fun b hb => h b (List.mem_cons_of_mem _ hb)]
theorem sumI_add (l : List α) (f g : α → Int) : sumI l (fun a => f a + g a) = sumI l f + sumI l g := by
  induction l with
  | nil => rfl
  | cons a l ih => rw [sumI_cons, sumI_cons, sumI_cons, ih]; omega
theorem sumI_one {l : List α} (hn : l.Nodup) {b : α} (hb : b ∈ l) {f g : α → Int} (he : ∀ a, a ≠ b → g a = f a) : sumI l g = sumI l f + (g b - f b) := by
  induction l with
  | nil => cases hb
  | cons a l ih =>
    rw [sumI_cons, sumI_cons]
    rw [List.nodup_cons] at hn
    cases hb with
    | head =>
      have : sumI l g = sumI l f := sumI_congr fun c hc => he c (fun e => hn.1 (e ▸ hc))
      omega
    | tail _ hb =>
      have hab : a ≠ b := fun e => hn.1 (e ▸ hb)
      have := ih hn.2 hb
      rw [he a hab]; omega
theorem sumI_nonneg {l : List α} {f : α → Int} (h : ∀ a ∈ l, 0 ≤ f a) : 0 ≤ sumI l f := by
  have := sumI_le (f := fun _ => 0) h
  have h0 : sumI l (fun _ : α => (0 : Int)) = 0 := by
    clear this h
    induction l with
    | nil => rfl
    | cons a l ih => rw [sumI_cons, ih]; rfl
  omega
/-- what a drop weighs -/
def heavy (names : List α) (wt : α → Int) (d : List α) : Int := sumI names fun v => wt v * (d.count v : Int)

/-- weights of balls, heights of places: each drop lowers the sum of both by 1 at least -/
structure Falls (N : Nt α) (wt : α → Int) (h : α → Nat → Int) (lo : α → Int) : Prop where
  nd : N.names.Nodup
  tn : ∀ u ∈ N.names, (N.kn u).turn ≠ []
  wt0 : ∀ u ∈ N.names, 0 ≤ wt u
  low : ∀ u ∈ N.names, ∀ p, p < (N.kn u).len → lo u ≤ h u p
  fall : ∀ u ∈ N.names, ∀ p, p < (N.kn u).len → heavy N.names wt ((N.kn u).drop p) + h u ((N.kn u).nx p) + 1 ≤ wt u + h u p

section
variable {wt lo : α → Int} {h : α → Nat → Int}
/-- the weight of what waits, and the heights of the places -/
def phi (N : Nt α) (s w : α → Nat) (wt : α → Int) (h : α → Nat → Int) (c : α → Nat) : Int :=
  sumI N.names (fun v => wt v * ((came N s w c v : Int) - (c v : Int))) + sumI N.names (fun u => h u ((N.kn u).plc (s u) (c u)))
theorem phi_step (F : Falls N wt h lo) (hs : ∀ u ∈ N.names, s u < (N.kn u).len) {c : α → Nat} {v : α} (hv : v ∈ N.names) : phi N s w wt h (bump c v 1) + 1 ≤ phi N s w wt h c := by
  unfold phi
  have e1 : sumI N.names (fun u => h u ((N.kn u).plc (s u) (bump c v 1 u))) = sumI N.names (fun u => h u ((N.kn u).plc (s u) (c u))) + (h v ((N.kn v).nx ((N.kn v).plc (s v) (c v))) - h v ((N.kn v).plc (s v) (c v))) := by
    rw [sumI_one F.nd hv (f := fun u => h u ((N.kn u).plc (s u) (c u)))]
    · simp only [bump_same]; rfl
    · intro a ha; simp only [bump_ne c 1 ha]
  have e2 : sumI N.names (fun u => wt u * ((came N s w (bump c v 1) u : Int) - (bump c v 1 u : Int))) =
      sumI N.names (fun u => wt u * ((came N s w c u : Int) - (c u : Int))) + heavy N.names wt ((N.kn v).drop ((N.kn v).plc (s v) (c v))) - wt v := by
    have a1 : sumI N.names (fun u => wt u * ((came N s w (bump c v 1) u : Int) - (bump c v 1 u : Int))) =
        sumI N.names (fun u => (wt u * ((came N s w c u : Int) - (bump c v 1 u : Int)) + wt u * (((N.kn v).drop ((N.kn v).plc (s v) (c v))).count u : Int))) := by
      refine sumI_congr fun u _ => ?_
      rw [came_bump F.nd hv u]
      rw [Int.natCast_add, ← Int.mul_add]
      congr 1
      omega
    rw [a1, sumI_add, sumI_one F.nd hv (f := fun u => wt u * ((came N s w c u : Int) - (c u : Int)))]
    · simp only [bump_same]
      unfold heavy
      have : wt v * ((came N s w c v : Int) - ((c v + 1 : Nat) : Int)) = wt v * ((came N s w c v : Int) - (c v : Int)) - wt v := by
        rw [Int.natCast_add, Int.mul_sub, Int.mul_sub, Int.mul_add]; simp; omega
      omega
    · intro a ha; simp only [bump_ne c 1 ha]
  have e3 := F.fall v hv _ ((N.kn v).plc_lt (F.tn v hv) (hs v hv) (c v))
  rw [e1, e2]
  omega
theorem phi_low (F : Falls N wt h lo) (hs : ∀ u ∈ N.names, s u < (N.kn u).len) {c : α → Nat} (hc : ∀ v ∈ N.names, c v ≤ came N s w c v) : sumI N.names lo ≤ phi N s w wt h c := by
  unfold phi
  have a : 0 ≤ sumI N.names (fun v => wt v * ((came N s w c v : Int) - (c v : Int))) := sumI_nonneg fun v hv => Int.mul_nonneg (F.wt0 v hv) (by have := hc v hv; omega)
  have b : sumI N.names lo ≤ sumI N.names (fun u => h u ((N.kn u).plc (s u) (c u))) := sumI_le fun u hu => F.low u hu _ ((N.kn u).plc_lt (F.tn u hu) (hs u hu) _)
  omega
theorem least_from (F : Falls N wt h lo) (hs : ∀ u ∈ N.names, s u < (N.kn u).len) : ∀ (m : Nat) (c : α → Nat), (∀ v ∈ N.names, c v ≤ came N s w c v) → (∀ d, Stab N s w d → ∀ v ∈ N.names, c v ≤ d v) → phi N s w wt h c ≤ sumI N.names lo + m →
    ∃ d, Least N s w d ∧ sumN N.names d ≤ sumN N.names c + m
  | m, c, h1, h2, h3 => by
    by_cases hst : Stab N s w c
    · exact ⟨c, ⟨hst, h2⟩, Nat.le_add_right _ _⟩
    · have : ∃ v ∈ N.names, c v ≠ came N s w c v := by
        refine Classical.byContradiction fun q => hst fun v hv => Classical.byContradiction fun q' => q ⟨v, hv, q'⟩
      obtain ⟨v, hv, hne⟩ := this
      have hlt : c v + 1 ≤ came N s w c v := by have := h1 v hv; omega
      have hstep := phi_step (w := w) F hs (c := c) hv
      have h1' : ∀ u ∈ N.names, bump c v 1 u ≤ came N s w (bump c v 1) u := by
        intro u hu
        have hm := came_mono (N := N) (s := s) (w := w) (c := c) (d := bump c v 1) (fun u _ => bump_le c u v 1) u
        by_cases e : u = v
        · subst e; rw [bump_same]; omega
        · rw [bump_ne c 1 e]; have := h1 u hu; omega
      have hlow := phi_low (w := w) F hs h1'
      match m, h3 with
      | 0, h3 => omega
      | m + 1, h3 =>
        obtain ⟨d, hd, hsum⟩ := least_from F hs m (bump c v 1) h1' (fun d hd => take_le hd (h2 d hd) hv hlt) (by omega)
        refine ⟨d, hd, ?_⟩
        have : sumN N.names (bump c v 1) = sumN N.names c + 1 := sumN_one F.nd hv (fun a ha => bump_ne c 1 ha) (bump_same c v 1)
        omega
/-- there are such counts, and they are few -/
theorem least_ex (F : Falls N wt h lo) (hs : ∀ u ∈ N.names, s u < (N.kn u).len) (m : Nat) (hm : sumI N.names (fun v => wt v * (w v : Int)) + sumI N.names (fun u => h u (s u)) ≤ sumI N.names lo + m) :
    ∃ d, Least N s w d ∧ sumN N.names d ≤ m := by
  have h0 : ∀ v, came N s w (fun _ => 0) v = w v := fun v => by
    unfold came
    have : sumN N.names (fun u => (N.kn u).cnt (s u) v 0) = 0 := by
      have := sumN_congr (l := N.names) (f := fun u => (N.kn u).cnt (s u) v 0) (g := fun _ => 0) fun _ _ => rfl
      rw [this]; clear this
      induction N.names with
      | nil => rfl
      | cons a l ih => rw [sumN_cons, ih]
    show w v + sumN N.names (fun u => (N.kn u).cnt (s u) v 0) = w v
    omega
  have hz : sumN N.names (fun _ : α => 0) = 0 := by
    induction N.names with
    | nil => rfl
    | cons a l ih => rw [sumN_cons, ih]
  obtain ⟨d, hd, hs'⟩ := least_from (s := s) (w := w) F hs m (fun _ => 0) (fun _ _ => Nat.zero_le _) (fun _ _ _ _ => Nat.zero_le _) (by
    unfold phi
    have e : sumI N.names (fun v => wt v * ((came N s w (fun _ => 0) v : Int) - ((0 : Nat) : Int))) = sumI N.names (fun v => wt v * (w v : Int)) := sumI_congr fun v _ => by rw [h0]; simp
    rw [e]; exact hm)
  exact ⟨d, hd, by omega⟩
end
end Bc
end
section
/-! Plain mathematics: places and drops by arithmetic; fair nets fall. -/
set_option autoImplicit false
set_option linter.all false
namespace Bc
variable {α : Type} [DecidableEq α]

theorem Kn.len_eq (k : Kn α) : k.len = k.front.length + k.turn.length := by simp [Kn.len, Kn.rows]
/-- the place behind so many balls, by arithmetic -/
theorem Kn.plc_eq (k : Kn α) (ht : k.turn ≠ []) {p : Nat} (hp : p < k.len) : ∀ n, k.plc p n = if p + n < k.len then p + n else k.front.length + (p + n - k.front.length) % k.turn.length
  | 0 => by rw [if_pos (by simpa using hp)]; rfl
  | n + 1 => by
    have hP : 0 < k.turn.length := List.length_pos_iff.mpr ht
    have hL := k.len_eq
    show k.nx (k.plc p n) = _
    rw [k.plc_eq ht hp n]
    unfold Kn.nx
    by_cases h1 : p + n < k.len
    · rw [if_pos h1]
      by_cases h2 : p + n + 1 < k.len
      · rw [if_pos h2, if_pos (by omega)]; omega
      · rw [if_neg h2, if_neg (by omega)]
        have : p + (n + 1) - k.front.length = k.turn.length := by omega
        rw [this, Nat.mod_self]; omega
    · rw [if_neg h1, if_neg (show ¬ p + (n + 1) < k.len by omega)]
      have e : p + (n + 1) - k.front.length = p + n - k.front.length + 1 := by omega
      rw [e, Nat.add_mod]
      have hr : (p + n - k.front.length) % k.turn.length < k.turn.length := Nat.mod_lt _ hP
      generalize (p + n - k.front.length) % k.turn.length = r at hr ⊢
      by_cases h3 : r + 1 < k.turn.length
      · rw [if_pos (by omega)]
        have : 1 % k.turn.length = 1 := Nat.mod_eq_of_lt (by omega)
        rw [this, Nat.mod_eq_of_lt h3]; omega
      · rw [if_neg (by omega)]
        have e2 : r + 1 = k.turn.length := by omega
        by_cases h4 : k.turn.length = 1
        · rw [h4] at hr ⊢; simp [Nat.mod_one]
        · have : 1 % k.turn.length = 1 := Nat.mod_eq_of_lt (by omega)
          rw [this, e2, Nat.mod_self]; omega

def tally (ds : List (List α)) (t : α) : Nat := (ds.map (·.count t)).sum
theorem tally_nil (t : α) : tally [] t = 0 := rfl
theorem tally_append (ds es : List (List α)) (t : α) : tally (ds ++ es) t = tally ds t + tally es t := by simp [tally]
theorem tally_cons (d : List α) (ds : List (List α)) (t : α) : tally (d :: ds) t = d.count t + tally ds t := by simp [tally]
def spread (turn : List (List α)) (q r : Nat) (t : α) : Nat → Nat
  | 0 => 0
  | i + 1 => spread turn q r t i + (q + if i < r then 1 else 0) * (turn.getD i []).count t
theorem tally_take (ds : List (List α)) (t : α) (i : Nat) (hi : i < ds.length) : tally (ds.take (i + 1)) t = tally (ds.take i) t + (ds.getD i []).count t := by
  rw [List.take_succ_eq_append_getElem hi, tally_append]
  simp [tally, List.getD, List.getElem?_eq_getElem hi]
/-- within the rows: place p + i -/
theorem Kn.plc_in (k : Kn α) (ht : k.turn ≠ []) {p n : Nat} (h : p + n < k.len) : k.plc p n = p + n := by
  rw [k.plc_eq ht (by omega), if_pos h]
theorem Kn.cnt_in (k : Kn α) (ht : k.turn ≠ []) {p : Nat} (t : α) : ∀ n, p + n ≤ k.len → k.cnt p t n = tally ((k.rows.drop p).take n) t
  | 0, _ => by simp [Kn.cnt, tally]
  | n + 1, h => by
    have hl : n < (k.rows.drop p).length := by rw [List.length_drop]; show n < k.len - p; omega
    rw [tally_take _ _ _ hl, ← k.cnt_in ht t n (by omega)]
    show k.cnt p t n + (k.drop (k.plc p n)).count t = _
    rw [k.plc_in ht (by omega)]
    congr 2
    simp [Kn.drop, List.getD, List.getElem?_drop]
/-- from the front's end on -/
theorem Kn.plc_turn (k : Kn α) (ht : k.turn ≠ []) : k.plc k.front.length k.turn.length = k.front.length := by
  have hP : 0 < k.turn.length := List.length_pos_iff.mpr ht
  have hL := k.len_eq
  rw [k.plc_eq ht (by omega), if_neg (by omega)]
  simp
theorem Kn.plc_end (k : Kn α) (ht : k.turn ≠ []) {p : Nat} (hp : p < k.len) : k.plc p (k.len - p) = k.front.length := by
  have hL := k.len_eq
  rw [k.plc_eq ht hp, if_neg (by omega)]
  have : p + (k.len - p) - k.front.length = k.turn.length := by omega
  rw [this, Nat.mod_self]; omega
theorem Kn.cnt_turns (k : Kn α) (ht : k.turn ≠ []) (t : α) (r : Nat) : ∀ q, k.cnt k.front.length t (k.turn.length * q + r) = q * tally k.turn t + k.cnt k.front.length t r
  | 0 => by simp
  | q + 1 => by
    have hL := k.len_eq
    have e : k.turn.length * (q + 1) + r = k.turn.length + (k.turn.length * q + r) := by rw [Nat.mul_succ]; omega
    rw [e, k.cnt_add, k.plc_turn ht, k.cnt_turns ht t r q, k.cnt_in ht t _ (by omega)]
    have : (k.rows.drop k.front.length).take k.turn.length = k.turn := by simp [Kn.rows]
    rw [this, Nat.succ_mul]; omega
theorem spread_eq (turn : List (List α)) (q r : Nat) (t : α) : ∀ i, i ≤ turn.length → spread turn q r t i = q * tally (turn.take i) t + tally (turn.take (min i r)) t
  | 0, _ => by simp [spread, tally]
  | i + 1, h => by
    have hi : i < turn.length := by omega
    show spread turn q r t i + _ = _
    rw [spread_eq turn q r t i (by omega), tally_take turn t i hi]
    by_cases hr : i < r
    · rw [if_pos hr, Nat.min_eq_left (by omega), Nat.min_eq_left (show i + 1 ≤ r by omega), tally_take turn t i hi, Nat.mul_add, Nat.add_mul]; omega
    · rw [if_neg hr, Nat.min_eq_right (by omega), Nat.min_eq_right (show r ≤ i + 1 by omega), Nat.mul_add]; simp; omega
/-- what the program adds up -/
theorem Kn.dropped_eq (k : Kn α) (ht : k.turn ≠ []) {p : Nat} (hp : p < k.len) (many : Nat) (t : α) :
    k.cnt p t many = tally ((k.rows.drop p).take many) t +
      (if 0 < many - ((k.rows.drop p).take many).length then spread k.turn ((many - ((k.rows.drop p).take many).length) / k.turn.length) ((many - ((k.rows.drop p).take many).length) % k.turn.length) t k.turn.length else 0) := by
  have hL := k.len_eq
  have hP : 0 < k.turn.length := List.length_pos_iff.mpr ht
  have hlen : ((k.rows.drop p).take many).length = min many (k.len - p) := by rw [List.length_take, List.length_drop]; rfl
  rw [hlen]
  by_cases h : many ≤ k.len - p
  · rw [Nat.min_eq_left h, Nat.sub_self, if_neg (Nat.lt_irrefl 0), k.cnt_in ht t many (by omega)]; rfl
  · rw [Nat.min_eq_right (by omega), if_pos (by omega)]
    have e : many = (k.len - p) + (many - (k.len - p)) := by omega
    generalize many - (k.len - p) = left at e
    subst e
    rw [k.cnt_add, k.plc_end ht hp, k.cnt_in ht t (k.len - p) (by omega)]
    have t1 : (k.rows.drop p).take (k.len - p + left) = (k.rows.drop p).take (k.len - p) := by
      rw [List.take_of_length_le (by rw [List.length_drop]; show k.len - p ≤ _; omega), List.take_of_length_le (by rw [List.length_drop]; show k.len - p ≤ _; omega)]
    rw [t1, spread_eq _ _ _ _ _ (Nat.le_refl _)]
    congr 1
    have hr : left % k.turn.length < k.turn.length := Nat.mod_lt _ hP
    rw [List.take_of_length_le (Nat.le_refl _), Nat.min_eq_right (by omega)]
    have e3 : left = k.turn.length * (left / k.turn.length) + left % k.turn.length := (Nat.div_add_mod left k.turn.length).symm
    have e4 := k.cnt_turns ht t (left % k.turn.length) (left / k.turn.length)
    rw [← e3] at e4
    rw [e4, k.cnt_in ht t (left % k.turn.length) (by omega)]
    congr 2
    simp [Kn.rows]

/-! ### fair nets -/
def cost (names : List α) (wt : α → Int) (w : Int) (d : List α) : Int := heavy names wt d - (w - 1)
def costs (names : List α) (wt : α → Int) (w : Int) (ds : List (List α)) : Int := (ds.map (cost names wt w)).sum
theorem costs_cons (names : List α) (wt : α → Int) (w : Int) (d : List α) (ds : List (List α)) : costs names wt w (d :: ds) = cost names wt w d + costs names wt w ds := by simp [costs]
theorem costs_append (names : List α) (wt : α → Int) (w : Int) (ds es : List (List α)) : costs names wt w (ds ++ es) = costs names wt w ds + costs names wt w es := by simp [costs]
theorem heavy_nonneg {names : List α} {wt : α → Int} (h : ∀ v ∈ names, 0 ≤ wt v) (d : List α) : 0 ≤ heavy names wt d := sumI_nonneg fun v hv => Int.mul_nonneg (h v hv) (Int.natCast_nonneg _)
theorem costs_bounds {names : List α} {wt : α → Int} {w : Int} (h0 : ∀ v ∈ names, 0 ≤ wt v) (w1 : 1 ≤ w) (w9 : w ≤ 9) : ∀ {ds : List (List α)}, (∀ d ∈ ds, heavy names wt d ≤ 18) → - (8 * ds.length : Int) ≤ costs names wt w ds ∧ costs names wt w ds ≤ 18 * ds.length
  | [], _ => by simp [costs]
  | d :: ds, h => by
    have ih := costs_bounds h0 w1 w9 (ds := ds) fun e he => h e (List.mem_cons_of_mem _ he)
    have a := heavy_nonneg h0 d
    have b := h d List.mem_cons_self
    rw [costs_cons]
    unfold cost
    simp only [List.length_cons]
    omega
/-- weights such that each turn, on average, makes balls lighter -/
structure Fair (N : Nt α) (wt : α → Int) : Prop where
  nd : N.names.Nodup
  few : N.names.length ≤ 3
  tn : ∀ u ∈ N.names, (N.kn u).turn ≠ []
  w1 : ∀ u ∈ N.names, 1 ≤ wt u
  w9 : ∀ u ∈ N.names, wt u ≤ 9
  short : ∀ u ∈ N.names, (N.kn u).len ≤ 7
  light : ∀ u ∈ N.names, ∀ d ∈ (N.kn u).rows, heavy N.names wt d ≤ 18
  turn : ∀ u ∈ N.names, costs N.names wt (wt u) (N.kn u).turn ≤ 0
def hgt (N : Nt α) (wt : α → Int) (u : α) (p : Nat) : Int := costs N.names wt (wt u) ((N.kn u).rows.drop p)
theorem Fair.falls {N : Nt α} {wt : α → Int} (F : Fair N wt) : Falls N wt (hgt N wt) (fun _ => -56) where
  nd := F.nd
  tn := F.tn
  wt0 := fun u hu => by have := F.w1 u hu; omega
  low := fun u hu p _ => by
    have b := (costs_bounds (fun v hv => by have := F.w1 v hv; omega) (F.w1 u hu) (F.w9 u hu) (ds := (N.kn u).rows.drop p) fun d hd => F.light u hu d (List.mem_of_mem_drop hd)).1
    have hl : ((N.kn u).rows.drop p).length ≤ 7 := by rw [List.length_drop]; exact Nat.le_trans (Nat.sub_le _ _) (F.short u hu)
    unfold hgt; omega
  fall := fun u hu p hp => by
    have hL := (N.kn u).len_eq
    have hP : 0 < (N.kn u).turn.length := List.length_pos_iff.mpr (F.tn u hu)
    have e : (N.kn u).rows.drop p = (N.kn u).drop p :: (N.kn u).rows.drop (p + 1) := by
      rw [List.drop_eq_getElem_cons hp]
      congr 1
      have hp' : p < (N.kn u).rows.length := hp
      show (N.kn u).rows[p] = (N.kn u).rows.getD p []
      rw [List.getD, List.getElem?_eq_getElem hp', Option.getD_some]
    have e1 : hgt N wt u p = cost N.names wt (wt u) ((N.kn u).drop p) + costs N.names wt (wt u) ((N.kn u).rows.drop (p + 1)) := by unfold hgt; rw [e, costs_cons]
    have e2 : hgt N wt u ((N.kn u).nx p) ≤ costs N.names wt (wt u) ((N.kn u).rows.drop (p + 1)) := by
      unfold Kn.nx
      split
      · exact Int.le_refl _
      · rename_i h
        have h1 : (N.kn u).rows.drop (p + 1) = [] := List.drop_eq_nil_of_le (by show (N.kn u).len ≤ _; omega)
        have h2 : (N.kn u).rows.drop (N.kn u).front.length = (N.kn u).turn := by simp [Kn.rows]
        unfold hgt
        rw [h1, h2]
        exact F.turn u hu
    unfold cost at e1
    omega
theorem sumI_bound {l : List α} {f : α → Int} {b : Int} (hb : 0 ≤ b) (h : ∀ a ∈ l, f a ≤ b) : sumI l f ≤ l.length * b := by
  induction l with
  | nil => simp [sumI]
  | cons a l ih =>
    rw [sumI_cons]
    have h1 := h a List.mem_cons_self
    have h2 := ih fun c hc => h c (List.mem_cons_of_mem _ hc)
    rw [List.length_cons, Int.natCast_add, Int.add_mul]; omega
theorem sumI_const (l : List α) (b : Int) : sumI l (fun _ => b) = l.length * b := by
  induction l with
  | nil => simp [sumI]
  | cons a l ih => rw [sumI_cons, ih, List.length_cons, Int.natCast_add, Int.add_mul]; omega
/-- one ball at a knot -/
def ball (v : α) : α → Nat := fun u => if u = v then 1 else 0
theorem Fair.least {N : Nt α} {wt : α → Int} (F : Fair N wt) {s : α → Nat} (hs : ∀ u ∈ N.names, s u < (N.kn u).len) {v : α} (hv : v ∈ N.names) : ∃ d, Least N s (ball v) d ∧ sumN N.names d ≤ 600 := by
  refine (least_ex F.falls hs 600 ?_)
  have h1 : sumI N.names (fun u => wt u * (ball v u : Int)) ≤ 9 := by
    rw [sumI_one F.nd hv (f := fun _ => 0)]
    · have := F.w9 v hv
      have h0 : sumI N.names (fun _ : α => (0 : Int)) = 0 := by rw [sumI_const]; simp
      rw [h0]; simp [ball]; omega
    · intro a ha; simp [ball, ha]
  have h2 : sumI N.names (fun u => hgt N wt u (s u)) ≤ 378 := by
    have := sumI_bound (l := N.names) (f := fun u => hgt N wt u (s u)) (b := 126) (by omega) fun u hu => by
      have b := (costs_bounds (fun v hv => by have := F.w1 v hv; omega) (F.w1 u hu) (F.w9 u hu) (ds := (N.kn u).rows.drop (s u)) fun d hd => F.light u hu d (List.mem_of_mem_drop hd)).2
      have hl : ((N.kn u).rows.drop (s u)).length ≤ 7 := by rw [List.length_drop]; exact Nat.le_trans (Nat.sub_le _ _) (F.short u hu)
      show hgt N wt u (s u) ≤ 126
      unfold hgt; omega
    have hf := F.few
    have : (N.names.length : Int) * 126 ≤ 378 := by omega
    omega
  have h3 : sumI N.names (fun _ => (-56 : Int)) = N.names.length * (-56) := sumI_const _ _
  have hf := F.few
  rw [h3]; omega
/-- no ball: nothing is taken -/
theorem least_zero {N : Nt α} {s : α → Nat} : Least N s (fun _ => 0) (fun _ => 0) where
  st := fun v _ => by
    unfold came
    have : sumN N.names (fun u => (N.kn u).cnt (s u) v 0) = 0 := by
      induction N.names with
      | nil => rfl
      | cons a l ih => rw [sumN_cons, ih]; rfl
    show 0 = 0 + sumN N.names (fun u => (N.kn u).cnt (s u) v 0)
    omega
  le := fun _ _ _ _ => Nat.zero_le _
end Bc
end
section
/-! Plain mathematics: standings in the order in which they are reached; pairs told apart; classes. -/
set_option autoImplicit false
set_option linter.all false
namespace Bc

/-! ### lists that grow by what is new -/
section
variable {S : Type} [DecidableEq S]
def ins1 (o : List S) (s : S) : List S := if s ∈ o then o else o ++ [s]
theorem mem_ins1 (o : List S) (s : S) : s ∈ ins1 o s := by
  unfold ins1; split
  · assumption
  · simp
theorem ins1_sub {o : List S} {s x : S} (h : x ∈ o) : x ∈ ins1 o s := by
  unfold ins1; split
  · assumption
  · exact List.mem_append_left _ h
theorem of_ins1 {o : List S} {s x : S} (h : x ∈ ins1 o s) : x ∈ o ∨ x = s := by
  unfold ins1 at h; split at h
  · exact .inl h
  · rw [List.mem_append] at h; simpa using h
theorem ins1_nodup {o : List S} {s : S} (h : o.Nodup) : (ins1 o s).Nodup := by
  unfold ins1; split
  · assumption
  · rename_i hn
    rw [List.nodup_append]
    refine ⟨h, by simp, fun a ha b hb => ?_⟩
    simp at hb; subst hb
    intro e; subst e; exact hn ha
theorem ins1_prefix (o : List S) (s : S) : ∃ r, ins1 o s = o ++ r := by
  unfold ins1; split
  · exact ⟨[], by simp⟩
  · exact ⟨[s], rfl⟩
theorem ins1_len (o : List S) (s : S) : o.length ≤ (ins1 o s).length := by
  obtain ⟨r, h⟩ := ins1_prefix o s; rw [h]; simp
theorem ins1_len_le (o : List S) (s : S) : (ins1 o s).length ≤ o.length + 1 := by
  unfold ins1; split <;> simp
/-- the place of s -/
def idx (o : List S) (s : S) : Nat := o.idxOf s
theorem idx_lt {o : List S} {s : S} (h : s ∈ o) : idx o s < o.length := List.idxOf_lt_length_iff.mpr h
theorem idx_get {o : List S} {s : S} (h : s ∈ o) : o[idx o s]? = some s := by
  rw [List.getElem?_eq_getElem (idx_lt h)]; congr 1; exact List.getElem_idxOf (idx_lt h)
theorem idx_inj {o : List S} {s t : S} (h : s ∈ o) (h' : t ∈ o) (e : idx o s = idx o t) : s = t := by
  have a := idx_get h; have b := idx_get h'; rw [e] at a; rw [a] at b; exact Option.some.inj b
theorem idx_app {o r : List S} {s : S} (h : s ∈ o) : idx (o ++ r) s = idx o s := by
  unfold idx; rw [List.idxOf_append, if_pos h]
theorem idx_new {o : List S} {s : S} (h : s ∉ o) : idx (o ++ [s]) s = o.length := by
  unfold idx; rw [List.idxOf_append, if_neg h]; simp
theorem get_inj {α : Type} {o : List α} (hn : o.Nodup) {i j : Nat} {s : α} (h : o[i]? = some s) (h' : o[j]? = some s) : i = j :=
  (List.getElem?_inj (List.getElem?_eq_some_iff.mp h).1 hn).mp (h.trans h'.symm)
theorem idx_at {o : List S} (hn : o.Nodup) {i : Nat} {s : S} (h : o[i]? = some s) : idx o s = i :=
  get_inj hn (idx_get (List.mem_of_getElem? h)) h
end

/-! ### the standings in order -/
section
variable {S R ι : Type} [DecidableEq S]
variable (nxt : S → ι → S × R)
/-- one standing: its inlets one by one -/
def visit (s : S) : List ι → List S → List (Nat × R) → List S × List (Nat × R)
  | [], o, row => (o, row)
  | a :: as, o, row => visit s as (ins1 o (nxt s a).1) (row ++ [(idx (ins1 o (nxt s a).1) (nxt s a).1, (nxt s a).2)])
variable (ins : List ι)
abbrev BS (S R : Type) := List S × List (List (Nat × R))
def bstep (x : BS S R) : BS S R := match x.1[x.2.length]? with
  | none => x
  | some s => ((visit nxt s ins x.1 []).1, x.2 ++ [(visit nxt s ins x.1 []).2])
def bk (s0 : S) : Nat → BS S R
  | 0 => ([s0], [])
  | k + 1 => bstep nxt ins (bk s0 k)
variable {nxt ins}
/-- what is known of a run -/
structure BOk (P : S → Prop) (PR : R → Prop) (m : Nat) (x : BS S R) : Prop where
  nd : x.1.Nodup
  all : ∀ s ∈ x.1, P s
  le : x.2.length ≤ x.1.length
  rows : ∀ r ∈ x.2, r.length = m ∧ ∀ g ∈ r, g.1 < x.1.length ∧ PR g.2
theorem visit_ok {P : S → Prop} {PR : R → Prop} (hP : ∀ s a, P s → a ∈ ins → P (nxt s a).1 ∧ PR (nxt s a).2) {s : S} (hs : P s) : ∀ (as : List ι) (o : List S) (row : List (Nat × R)), (∀ a ∈ as, a ∈ ins) → o.Nodup → (∀ t ∈ o, P t) → (∀ g ∈ row, g.1 < o.length ∧ PR g.2) →
    (visit nxt s as o row).1.Nodup ∧ (∀ t ∈ (visit nxt s as o row).1, P t) ∧ (∃ r, (visit nxt s as o row).1 = o ++ r) ∧ (visit nxt s as o row).2.length = row.length + as.length ∧
      ∀ g ∈ (visit nxt s as o row).2, g.1 < (visit nxt s as o row).1.length ∧ PR g.2
  | [], o, row, _, h1, h2, h3 => ⟨h1, h2, ⟨[], by simp [visit]⟩, by simp [visit], h3⟩
  | a :: as, o, row, h0, h1, h2, h3 => by
    have q := hP s a hs (h0 a List.mem_cons_self)
    obtain ⟨a1, a2, ⟨r, a3⟩, a4, a5⟩ := visit_ok hP hs as (ins1 o (nxt s a).1) (row ++ [(idx (ins1 o (nxt s a).1) (nxt s a).1, (nxt s a).2)])
      (fun b hb => h0 b (List.mem_cons_of_mem _ hb)) (ins1_nodup h1) (fun t ht => (of_ins1 ht).elim (h2 t) fun e => e ▸ q.1) (fun g hg => by
        rw [List.mem_append] at hg
        rcases hg with hg | hg
        · exact ⟨Nat.lt_of_lt_of_le (h3 g hg).1 (ins1_len _ _), (h3 g hg).2⟩
        · simp at hg; subst hg; exact ⟨idx_lt (mem_ins1 _ _), q.2⟩)
    obtain ⟨r', e'⟩ := ins1_prefix o (nxt s a).1
    refine ⟨a1, a2, ⟨r' ++ r, ?_⟩, ?_, a5⟩
    · show (visit nxt s as _ _).1 = _
      rw [a3, e', List.append_assoc]
    · show (visit nxt s as _ _).2.length = _
      rw [a4]; simp; omega
theorem bstep_ok {P : S → Prop} {PR : R → Prop} (hP : ∀ s a, P s → a ∈ ins → P (nxt s a).1 ∧ PR (nxt s a).2) {x : BS S R} (h : BOk P PR ins.length x) : BOk P PR ins.length (bstep nxt ins x) := by
  unfold bstep
  cases e : x.1[x.2.length]? with
  | none => exact h
  | some s =>
    have hs : s ∈ x.1 := List.mem_of_getElem? e
    obtain ⟨a1, a2, ⟨r, a3⟩, a4, a5⟩ := visit_ok (nxt := nxt) hP (h.all s hs) ins x.1 [] (fun _ q => q) h.nd h.all (fun _ q => nomatch q)
    have hlt : x.2.length < x.1.length := (List.getElem?_eq_some_iff.mp e).1
    refine ⟨a1, a2, ?_, ?_⟩
    · show (x.2 ++ [_]).length ≤ (visit nxt s ins x.1 []).1.length
      rw [a3]; simp; omega
    · intro r' hr'
      have hr' : r' ∈ x.2 ++ [(visit nxt s ins x.1 []).2] := hr'
      rw [List.mem_append] at hr'
      rcases hr' with q | q
      · refine ⟨(h.rows r' q).1, fun g hg => ⟨?_, ((h.rows r' q).2 g hg).2⟩⟩
        have := ((h.rows r' q).2 g hg).1
        show g.1 < (visit nxt s ins x.1 []).1.length
        rw [a3, List.length_append]; omega
      · simp at q; subst q
        refine ⟨by rw [a4]; simp, a5⟩
theorem bk_ok {P : S → Prop} {PR : R → Prop} (hP : ∀ s a, P s → a ∈ ins → P (nxt s a).1 ∧ PR (nxt s a).2) {s0 : S} (h0 : P s0) : ∀ k, BOk P PR ins.length (bk nxt ins s0 k)
  | 0 => ⟨by simp [bk], fun s hs => by simp [bk] at hs; exact hs ▸ h0, by simp [bk], fun _ q => by simp [bk] at q⟩
  | k + 1 => bstep_ok hP (bk_ok hP h0 k)
theorem bstep_len {x : BS S R} (h : x.2.length < x.1.length) : (bstep nxt ins x).2.length = x.2.length + 1 := by
  unfold bstep
  rw [List.getElem?_eq_getElem h]; simp
theorem bstep_end {x : BS S R} (h : x.1.length ≤ x.2.length) : bstep nxt ins x = x := by
  unfold bstep
  rw [List.getElem?_eq_none h]
/-- it ends at n -/
structure BEnd (nxt : S → ι → S × R) (ins : List ι) (s0 : S) (n : Nat) : Prop where
  len : (bk nxt ins s0 n).2.length = n
  fin : (bk nxt ins s0 n).1.length = n
theorem visit_len (s : S) : ∀ (as : List ι) (o : List S) (row : List (Nat × R)), o.length ≤ (visit nxt s as o row).1.length
  | [], o, row => Nat.le_refl _
  | a :: as, o, row => Nat.le_trans (ins1_len _ _) (visit_len s as _ _)
theorem bstep_grow (x : BS S R) : x.1.length ≤ (bstep nxt ins x).1.length := by
  unfold bstep
  cases e : x.1[x.2.length]? with
  | none => exact Nat.le_refl _
  | some s => exact visit_len s ins x.1 []
theorem bk_grow (s0 : S) {j k : Nat} (h : j ≤ k) : (bk nxt ins s0 j).1.length ≤ (bk nxt ins s0 k).1.length := by
  induction h with
  | refl => exact Nat.le_refl _
  | step _ ih => exact Nat.le_trans ih (bstep_grow _)
theorem bk_stays {s0 : S} {j : Nat} (h : (bk nxt ins s0 j).1.length ≤ (bk nxt ins s0 j).2.length) : ∀ k, j ≤ k → bk nxt ins s0 k = bk nxt ins s0 j := by
  intro k hk
  induction hk with
  | refl => rfl
  | step _ ih => show bstep nxt ins (bk nxt ins s0 _) = _; rw [ih]; exact bstep_end h
/-- ahead of the end each turn goes on -/
theorem BEnd.go {s0 : S} {n : Nat} (E : BEnd nxt ins s0 n) : ∀ k, k ≤ n → (bk nxt ins s0 k).2.length = k ∧ (k < n → k < (bk nxt ins s0 k).1.length) ∧ (bk nxt ins s0 k).1.length ≤ n := by
  intro k
  induction k with
  | zero =>
    intro _
    exact ⟨rfl, fun _ => by show 0 < 1; omega, by have := bk_grow (nxt := nxt) (ins := ins) s0 (Nat.zero_le n); rw [E.fin] at this; exact this⟩
  | succ k ih =>
    intro hk
    obtain ⟨a, b, _⟩ := ih (by omega)
    have hl : (bk nxt ins s0 (k + 1)).2.length = k + 1 := by
      show (bstep nxt ins (bk nxt ins s0 k)).2.length = _
      rw [bstep_len (by rw [a]; exact b (by omega)), a]
    refine ⟨hl, fun h => ?_, by have := bk_grow (nxt := nxt) (ins := ins) s0 hk; rw [E.fin] at this; exact this⟩
    refine Nat.lt_of_not_le fun q => ?_
    have := bk_stays (nxt := nxt) (ins := ins) (s0 := s0) (j := k + 1) (by omega) n (by omega)
    have e := E.len
    rw [this, hl] at e
    omega
end

/-! ### two of the standings told apart -/
section
variable {R ι : Type} [DecidableEq R]
abbrev TF (ι : Type) := List ((Nat × Nat) × List ι)
def addF (F : TF ι) (p : Nat × Nat) (w : List ι) : TF ι := if p ∈ F.map (·.1) then F else F ++ [(p, w)]
def ta1 (wd : List ι) : List ι → List (Nat × R) → List (Nat × R) → TF ι → Sum (List ι) (TF ι)
  | a :: as, x :: xs, y :: ys, F => if x.2 = y.2 then ta1 wd as xs ys (addF F (x.1, y.1) (wd ++ [a])) else .inl (wd ++ [a])
  | _, _, _, F => .inr F
variable (st : List (List (Nat × R))) (ins : List ι)
def taN : Nat → Nat → TF ι → Option (List ι)
  | 0, _, _ => none
  | f + 1, seen, F => match F[seen]? with
    | none => none
    | some (p, wd) => match ta1 wd ins (st.getD p.1 []) (st.getD p.2 []) F with
      | .inl w => some w
      | .inr F' => taN f (seen + 1) F'
/-- the first list that tells two apart -/
def tell (i j : Nat) : Option (List ι) := taN st ins (st.length * st.length + 1) 0 [((i, j), [])]
variable {st ins}
/-- of two rows: the same comes out, what is behind is related -/
inductive Agree (B : Nat → Nat → Prop) : List (Nat × R) → List (Nat × R) → Prop
  | nil : Agree B [] []
  | cons {x y : Nat × R} {xs ys : List (Nat × R)} : x.2 = y.2 → B x.1 y.1 → Agree B xs ys → Agree B (x :: xs) (y :: ys)
theorem Agree.mono {B C : Nat → Nat → Prop} (h : ∀ i j, B i j → C i j) {r s : List (Nat × R)} (a : Agree B r s) : Agree C r s := by
  induction a with
  | nil => exact .nil
  | cons e b _ ih => exact .cons e (h _ _ b) ih
/-- related standings bring the same -/
def Bisim (st : List (List (Nat × R))) (B : Nat → Nat → Prop) : Prop := ∀ i j, i < st.length → j < st.length → B i j → Agree B (st.getD i []) (st.getD j [])
/-- the table is whole -/
structure Table (st : List (List (Nat × R))) (m : Nat) : Prop where
  row : ∀ r ∈ st, r.length = m ∧ ∀ g ∈ r, g.1 < st.length
theorem Table.at {m : Nat} (T : Table st m) {i : Nat} (h : i < st.length) : (st.getD i []).length = m ∧ ∀ g ∈ st.getD i [], g.1 < st.length := by
  have : st.getD i [] ∈ st := by
    rw [List.getD, List.getElem?_eq_getElem h, Option.getD_some]; exact List.getElem_mem h
  exact T.row _ this
theorem mem_addF {F : TF ι} {p : Nat × Nat} {w : List ι} : p ∈ (addF F p w).map (·.1) := by
  unfold addF; split
  · assumption
  · simp
theorem addF_sub {F : TF ι} {p : Nat × Nat} {w : List ι} {q : (Nat × Nat) × List ι} (h : q ∈ F) : q ∈ addF F p w := by
  unfold addF; split
  · assumption
  · exact List.mem_append_left _ h
theorem of_addF {F : TF ι} {p : Nat × Nat} {w : List ι} {q : (Nat × Nat) × List ι} (h : q ∈ addF F p w) : q ∈ F ∨ q = (p, w) := by
  unfold addF at h; split at h
  · exact .inl h
  · rw [List.mem_append] at h; simpa using h
theorem addF_nodup {F : TF ι} {p : Nat × Nat} {w : List ι} (h : (F.map (·.1)).Nodup) : ((addF F p w).map (·.1)).Nodup := by
  unfold addF; split
  · assumption
  · rename_i hn
    rw [List.map_append, List.nodup_append]
    refine ⟨h, by simp, fun a ha b hb => ?_⟩
    simp at hb; subst hb
    intro e; subst e; exact hn ha
theorem addF_prefix (F : TF ι) (p : Nat × Nat) (w : List ι) : ∃ r, addF F p w = F ++ r := by
  unfold addF; split
  · exact ⟨[], by simp⟩
  · exact ⟨[(p, w)], rfl⟩
/-- one pair -/
theorem ta1_ok {n : Nat} {wd : List ι} : ∀ (as : List ι) (xs ys : List (Nat × R)) (F : TF ι), as.length = xs.length → xs.length = ys.length → (∀ g ∈ xs, g.1 < n) → (∀ g ∈ ys, g.1 < n) → (F.map (·.1)).Nodup → (∀ q ∈ F, q.1.1 < n ∧ q.1.2 < n) →
    (∀ F', ta1 wd as xs ys F = .inr F' → (F'.map (·.1)).Nodup ∧ (∀ q ∈ F', q.1.1 < n ∧ q.1.2 < n) ∧ (∃ r, F' = F ++ r) ∧ Agree (fun i j => (i, j) ∈ F'.map (·.1)) xs ys) ∧
    (∀ B : Nat → Nat → Prop, (∀ q ∈ F, B q.1.1 q.1.2) → Agree B xs ys → ∃ F', ta1 wd as xs ys F = .inr F' ∧ ∀ q ∈ F', B q.1.1 q.1.2)
  | [], [], [], F, _, _, _, _, h1, h2 => ⟨fun F' e => by cases e; exact ⟨h1, h2, ⟨[], by simp⟩, .nil⟩, fun B hb _ => ⟨F, rfl, hb⟩⟩
  | a :: as, x :: xs, y :: ys, F, l1, l2, hx, hy, h1, h2 => by
    have hx1 := hx x List.mem_cons_self
    have hy1 := hy y List.mem_cons_self
    obtain ⟨i1, i2⟩ := ta1_ok (n := n) (wd := wd) as xs ys (addF F (x.1, y.1) (wd ++ [a])) (Nat.succ.inj l1) (Nat.succ.inj l2) (fun g hg => hx g (List.mem_cons_of_mem _ hg)) (fun g hg => hy g (List.mem_cons_of_mem _ hg)) (addF_nodup h1)
      (fun q hq => (of_addF hq).elim (h2 q) fun e => by subst e; exact ⟨hx1, hy1⟩)
    constructor
    · intro F' e
      unfold ta1 at e
      split at e
      · rename_i hxy
        obtain ⟨a1, a2, ⟨r, a3⟩, a4⟩ := i1 F' e
        obtain ⟨r', e'⟩ := addF_prefix F (x.1, y.1) (wd ++ [a])
        refine ⟨a1, a2, ⟨r' ++ r, by rw [a3, e', List.append_assoc]⟩, .cons hxy ?_ a4⟩
        have := mem_addF (F := F) (p := (x.1, y.1)) (w := wd ++ [a])
        rw [a3, List.map_append, List.mem_append]; exact .inl this
      · cases e
    · intro B hB hA
      cases hA with
      | cons e b hA =>
        obtain ⟨F', e1, e2⟩ := i2 B (fun q hq => (of_addF hq).elim (hB q) fun e => by subst e; exact b) hA
        refine ⟨F', ?_, e2⟩
        unfold ta1; rw [if_pos e]; exact e1
theorem pairs_len {n : Nat} : ∀ {l : List (Nat × Nat)}, l.Nodup → (∀ q ∈ l, q.1 < n ∧ q.2 < n) → l.length ≤ n * n := by
  intro l hn hl
  have key : ∀ (m : Nat) (l : List Nat), l.Nodup → (∀ q ∈ l, q < m) → l.length ≤ m := by
    intro m
    induction m with
    | zero => intro l _ h; cases l with
      | nil => simp
      | cons a l => exact absurd (h a List.mem_cons_self) (Nat.not_lt_zero _)
    | succ m ih =>
      intro l hn h
      by_cases hm : m ∈ l
      · have h1 := ih (l.erase m) (hn.erase m) (fun q hq => by
          have h2 := h q (List.mem_of_mem_erase hq)
          have h3 : q ≠ m := fun e => by subst e; exact (List.Nodup.not_mem_erase hn) hq
          omega)
        rw [List.length_erase_of_mem hm] at h1
        omega
      · have := ih l hn (fun q hq => by
          have h2 := h q hq
          have h3 : q ≠ m := fun e => hm (e ▸ hq)
          omega)
        omega
  have h := key (n * n) (l.map fun q => q.1 * n + q.2) ?_ ?_
  · simpa using h
  · rw [List.nodup_iff_pairwise_ne, List.pairwise_map]
    rw [List.nodup_iff_pairwise_ne] at hn
    refine List.Pairwise.imp_of_mem ?_ hn
    intro a b ha hb hne e
    have h1 := hl a ha
    have h2 := hl b hb
    apply hne
    have d1 : (a.1 * n + a.2) / n = a.1 := by rw [Nat.mul_comm, Nat.mul_add_div (by omega), Nat.div_eq_of_lt h1.2]; omega
    have d2 : (b.1 * n + b.2) / n = b.1 := by rw [Nat.mul_comm, Nat.mul_add_div (by omega), Nat.div_eq_of_lt h2.2]; omega
    have e1 : a.1 = b.1 := by rw [← d1, ← d2]; exact congrArg (· / n) e
    have e2 : a.2 = b.2 := by rw [e1] at e; exact Nat.add_left_cancel e
    exact Prod.ext e1 e2
  · intro q hq
    rw [List.mem_map] at hq
    obtain ⟨a, ha, rfl⟩ := hq
    have h1 := hl a ha
    calc a.1 * n + a.2 < a.1 * n + n := by omega
      _ = (a.1 + 1) * n := by rw [Nat.succ_mul]
      _ ≤ n * n := Nat.mul_le_mul_right n h1.1
/-- a state of the search -/
structure TOk (st : List (List (Nat × R))) (f seen : Nat) (F : TF ι) : Prop where
  nd : (F.map (·.1)).Nodup
  lt : ∀ q ∈ F, q.1.1 < st.length ∧ q.1.2 < st.length
  le : seen ≤ F.length
  fuel : st.length * st.length + 1 ≤ f + seen
  done : ∀ k, k < seen → ∀ q, F[k]? = some q → Agree (fun i j => (i, j) ∈ F.map (·.1)) (st.getD q.1.1 []) (st.getD q.1.2 [])
theorem TOk.len {f seen : Nat} {F : TF ι} (O : TOk st f seen F) : F.length ≤ st.length * st.length := by
  have := pairs_len (n := st.length) O.nd (fun q hq => by rw [List.mem_map] at hq; obtain ⟨z, hz, rfl⟩ := hq; exact O.lt z hz)
  simpa using this
theorem TOk.step {m f seen : Nat} {F F' : TF ι} (T : Table st m) (hm : ins.length = m) (O : TOk st (f + 1) seen F) {p : Nat × Nat} {wd : List ι} (e : F[seen]? = some (p, wd)) (h : ta1 wd ins (st.getD p.1 []) (st.getD p.2 []) F = .inr F') : TOk st f (seen + 1) F' := by
  have hp := O.lt _ (List.mem_of_getElem? e)
  have r1 := T.at hp.1
  have r2 := T.at hp.2
  obtain ⟨a1, a2, ⟨r, a3⟩, a4⟩ := (ta1_ok (n := st.length) (wd := wd) ins _ _ F (by rw [hm, r1.1]) (by rw [r1.1, r2.1]) r1.2 r2.2 O.nd O.lt).1 F' h
  have hlt : seen < F.length := (List.getElem?_eq_some_iff.mp e).1
  refine ⟨a1, a2, by rw [a3]; simp; omega, by have := O.fuel; omega, ?_⟩
  intro k hk q hq
  have hk' : k < F.length := by omega
  rw [a3, List.getElem?_append_left hk'] at hq
  by_cases hks : k = seen
  · subst hks
    rw [e] at hq; cases hq
    exact a4
  · refine (O.done k (by omega) q hq).mono fun i j hij => ?_
    rw [a3, List.map_append, List.mem_append]; exact .inl hij
theorem taN_ok {m : Nat} (T : Table st m) (hm : ins.length = m) : ∀ (f seen : Nat) (F : TF ι), TOk st f seen F →
    (taN st ins f seen F = none → ∃ F' : TF ι, (∀ q ∈ F, q.1 ∈ F'.map (·.1)) ∧ (∀ (k : Nat) (q : (Nat × Nat) × List ι), F'[k]? = some q → Agree (fun i j => (i, j) ∈ F'.map (·.1)) (st.getD q.1.1 []) (st.getD q.1.2 []))) ∧
    (∀ B, Bisim st B → (∀ q ∈ F, B q.1.1 q.1.2) → taN st ins f seen F = none)
  | 0, seen, F, O => by
    have h1 := O.len; have h2 := O.le; have h3 := O.fuel
    omega
  | f + 1, seen, F, O => by
    unfold taN
    cases e : F[seen]? with
    | none =>
      have hle := List.getElem?_eq_none_iff.mp e
      refine ⟨fun _ => ⟨F, fun q hq => List.mem_map_of_mem hq, fun k q hq => O.done k ?_ q hq⟩, fun _ _ _ => rfl⟩
      exact Nat.lt_of_lt_of_le (List.getElem?_eq_some_iff.mp hq).1 hle
    | some pw =>
      obtain ⟨p, wd⟩ := pw
      have hp := O.lt _ (List.mem_of_getElem? e)
      have r1 := T.at hp.1
      have r2 := T.at hp.2
      have t1 := ta1_ok (n := st.length) (wd := wd) ins _ _ F (by rw [hm, r1.1]) (by rw [r1.1, r2.1]) r1.2 r2.2 O.nd O.lt
      show ((match ta1 wd ins (st.getD p.1 []) (st.getD p.2 []) F with | .inl w => some w | .inr F' => taN st ins f (seen + 1) F') = none → _) ∧ ∀ B, Bisim st B → _ → (match ta1 wd ins (st.getD p.1 []) (st.getD p.2 []) F with | .inl w => some w | .inr F' => taN st ins f (seen + 1) F') = none
      cases h : ta1 wd ins (st.getD p.1 []) (st.getD p.2 []) F with
      | inl w =>
        refine ⟨fun q => (nomatch q), fun B hB hF => ?_⟩
        obtain ⟨F', e1, _⟩ := t1.2 B hF (hB _ _ hp.1 hp.2 (hF _ (List.mem_of_getElem? e)))
        rw [h] at e1; cases e1
      | inr F' =>
        obtain ⟨i1, i2⟩ := taN_ok T hm f (seen + 1) F' (O.step T hm e h)
        obtain ⟨_, _, ⟨r, a3⟩, _⟩ := t1.1 F' h
        constructor
        · intro q
          obtain ⟨G, g1, g2⟩ := i1 q
          exact ⟨G, fun z hz => g1 z (by rw [a3]; exact List.mem_append_left _ hz), g2⟩
        · intro B hB hF
          obtain ⟨F2, e1, e2⟩ := t1.2 B hF (hB _ _ hp.1 hp.2 (hF _ (List.mem_of_getElem? e)))
          rw [h] at e1; cases e1
          exact i2 B hB e2
theorem tell_start {i j : Nat} (hi : i < st.length) (hj : j < st.length) : TOk (ι := ι) st (st.length * st.length + 1) 0 [((i, j), [])] :=
  ⟨by simp, fun q hq => by simp at hq; subst hq; exact ⟨hi, hj⟩, by simp, by omega, fun k hk => absurd hk (Nat.not_lt_zero _)⟩
/-- none: the two bring the same -/
theorem tell_none {m : Nat} (T : Table st m) (hm : ins.length = m) {i j : Nat} (hi : i < st.length) (hj : j < st.length) (h : tell st ins i j = none) : ∃ B, Bisim st B ∧ B i j := by
  obtain ⟨F', h1, h2⟩ := (taN_ok T hm _ _ _ (tell_start hi hj)).1 h
  refine ⟨fun a b => (a, b) ∈ F'.map (·.1), fun a b _ _ hab => ?_, h1 _ List.mem_cons_self⟩
  have hab : (a, b) ∈ F'.map (·.1) := hab
  rw [List.mem_map] at hab
  obtain ⟨q, hq, e⟩ := hab
  obtain ⟨k, hk⟩ := List.mem_iff_getElem?.mp hq
  have := h2 k q hk
  rw [e] at this
  exact this
theorem tell_bisim {m : Nat} (T : Table st m) (hm : ins.length = m) {i j : Nat} (hi : i < st.length) (hj : j < st.length) {B : Nat → Nat → Prop} (hB : Bisim st B) (h : B i j) : tell st ins i j = none :=
  (taN_ok T hm _ _ _ (tell_start hi hj)).2 B hB fun q hq => by simp at hq; subst hq; exact h
end

/-! ### classes -/
section
variable {κ : Type} [DecidableEq κ]
/-- numbers, as they first come -/
def num : List κ → List κ → List Nat → List κ × List Nat
  | [], K, late => (K, late)
  | k :: ks, K, late => num ks (ins1 K k) (late ++ [idx (ins1 K k) k])
structure NumOk (done : List κ) (K : List κ) (late : List Nat) : Prop where
  nd : K.Nodup
  len : late.length = done.length
  val : ∀ (i : Nat) (k : κ), done[i]? = some k → k ∈ K ∧ late[i]? = some (idx K k)
  cov : ∀ k ∈ K, k ∈ done
  first : late.foldl ins1 [] = List.range K.length
theorem NumOk.step {done K : List κ} {late : List Nat} (O : NumOk done K late) (k : κ) : NumOk (done ++ [k]) (ins1 K k) (late ++ [idx (ins1 K k) k]) := by
  obtain ⟨r, hr⟩ := ins1_prefix K k
  refine ⟨ins1_nodup O.nd, by simp [O.len], ?_, ?_, ?_⟩
  · intro i x hx
    by_cases hi : i < done.length
    · rw [List.getElem?_append_left hi] at hx
      obtain ⟨h1, h2⟩ := O.val i x hx
      refine ⟨ins1_sub h1, ?_⟩
      rw [List.getElem?_append_left (by rw [O.len]; exact hi), h2, hr, idx_app h1]
    · rw [List.getElem?_append_right (by omega)] at hx
      have hi' : i = done.length := by
        have := (List.getElem?_eq_some_iff.mp hx).1
        simp at this; omega
      subst hi'
      simp at hx; subst hx
      refine ⟨mem_ins1 _ _, ?_⟩
      rw [List.getElem?_append_right (by rw [O.len]; exact Nat.le_refl _), O.len]; simp
  · intro x hx
    rcases of_ins1 hx with h | h
    · exact List.mem_append_left _ (O.cov x h)
    · subst h; simp
  · rw [List.foldl_append, O.first]
    show ins1 (List.range K.length) (idx (ins1 K k) k) = _
    unfold ins1
    by_cases h : k ∈ K
    · rw [if_pos h, if_pos (by rw [List.mem_range]; exact idx_lt h)]
    · rw [if_neg h, idx_new h, if_neg (by rw [List.mem_range]; omega)]
      simp [List.range_succ]
theorem num_ok : ∀ (ks done K : List κ) (late : List Nat), NumOk done K late → NumOk (done ++ ks) (num ks K late).1 (num ks K late).2
  | [], done, K, late, O => by simpa [num] using O
  | k :: ks, done, K, late, O => by
    have := num_ok ks (done ++ [k]) _ _ (O.step k)
    simpa [num] using this
theorem num_nil_ok : NumOk ([] : List κ) [] [] := ⟨by simp, rfl, fun i k h => by simp at h, (fun _ h => nomatch h), rfl⟩
end
section
variable {R : Type} [DecidableEq R]
def keyOf (now : List Nat) (i : Nat) (row : List (Nat × R)) : Nat × List (Nat × R) := (now.getD i 0, row.map fun x => (now.getD x.1 0, x.2))
def keysOf (now : List Nat) (st : List (List (Nat × R))) : List (Nat × List (Nat × R)) := (List.range st.length).map fun i => keyOf now i (st.getD i [])
/-- classes so far: c of them, and what brings the same is together -/
structure COk (st : List (List (Nat × R))) (now : List Nat) (c : Nat) : Prop where
  len : now.length = st.length
  lt : ∀ i, i < st.length → now.getD i 0 < c
  all : ∀ v, v < c → ∃ i, i < st.length ∧ now.getD i 0 = v
  tog : ∀ B, Bisim st B → ∀ i j, i < st.length → j < st.length → B i j → now.getD i 0 = now.getD j 0
/-- the classes at the end -/
structure Classes (st : List (List (Nat × R))) (late : List Nat) : Prop where
  len : late.length = st.length
  first : ∃ c, late.foldl ins1 [] = List.range c
  bis : Bisim st fun i j => late.getD i 0 = late.getD j 0
  tog : ∀ B, Bisim st B → ∀ i j, i < st.length → j < st.length → B i j → late.getD i 0 = late.getD j 0
theorem few_of_all : ∀ (c : Nat) (l : List Nat), (∀ v, v < c → v ∈ l) → c ≤ l.length
  | 0, _, _ => Nat.zero_le _
  | c + 1, l, h => by
    have hc := h c (Nat.lt_succ_self c)
    have := few_of_all c (l.erase c) fun v hv => by
      rw [List.mem_erase_of_ne (by omega)]
      exact h v (by omega)
    rw [List.length_erase_of_mem hc] at this
    have := List.length_pos_of_mem hc
    omega
theorem nodup_of_all : ∀ (c : Nat) (l : List Nat), (∀ v, v < c → v ∈ l) → l.length = c → l.Nodup
  | 0, l, _, e => by rw [List.length_eq_zero_iff] at e; subst e; simp
  | c + 1, l, h, e => by
    have hc := h c (Nat.lt_succ_self c)
    have hin : ∀ v, v < c → v ∈ l.erase c := fun v hv => by
      rw [List.mem_erase_of_ne (by omega)]
      exact h v (by omega)
    have hle : (l.erase c).length = c := by rw [List.length_erase_of_mem hc, e]; rfl
    have ih := nodup_of_all c (l.erase c) hin hle
    have hn : c ∉ l.erase c := fun q => by
      have h2 := few_of_all c ((l.erase c).erase c) fun v hv => by rw [List.mem_erase_of_ne (by omega)]; exact hin v hv
      rw [List.length_erase_of_mem q, hle] at h2
      have := List.length_pos_of_mem q
      omega
    have hp : List.Perm l (c :: l.erase c) := List.perm_cons_erase hc
    rw [hp.nodup_iff, List.nodup_cons]
    exact ⟨hn, ih⟩
theorem keys_at {now : List Nat} {st : List (List (Nat × R))} {i : Nat} (h : i < st.length) : (keysOf now st)[i]? = some (keyOf now i (st.getD i [])) := by
  simp [keysOf, h]
theorem agree_keys {now : List Nat} {B : Nat → Nat → Prop} (hB : ∀ i j, B i j → now.getD i 0 = now.getD j 0) {r s : List (Nat × R)} (a : Agree B r s) : (r.map fun x => (now.getD x.1 0, x.2)) = s.map fun x => (now.getD x.1 0, x.2) := by
  induction a with
  | nil => rfl
  | cons e b _ ih => simp only [List.map_cons]; rw [ih, hB _ _ b, e]
theorem keys_agree {now : List Nat} : ∀ {r s : List (Nat × R)}, ((r.map fun x => (now.getD x.1 0, x.2)) = s.map fun x => (now.getD x.1 0, x.2)) → Agree (fun i j => now.getD i 0 = now.getD j 0) r s
  | [], [], _ => .nil
  | x :: xs, y :: ys, h => by
    simp only [List.map_cons, List.cons.injEq, Prod.mk.injEq] at h
    exact .cons h.1.2 h.1.1 (keys_agree h.2)
theorem COk.start {st : List (List (Nat × R))} (h : 0 < st.length) : COk st (List.replicate st.length 0) 1 := by
  have z : ∀ i, i < st.length → (List.replicate st.length 0).getD i 0 = 0 := fun i hi => by simp [List.getD, hi]
  exact ⟨by simp, fun i hi => by rw [z i hi]; omega, fun v hv => ⟨0, h, by rw [z 0 h]; omega⟩, fun _ _ i j hi hj _ => by rw [z i hi, z j hj]⟩
/-- one more round -/
theorem COk.round {st : List (List (Nat × R))} {m : Nat} (T : Table st m) {now : List Nat} {c : Nat} (O : COk st now c) :
    COk st (num (keysOf now st) [] []).2 (num (keysOf now st) [] []).1.length ∧ c ≤ (num (keysOf now st) [] []).1.length ∧ (num (keysOf now st) [] []).1.length ≤ st.length ∧
      ((num (keysOf now st) [] []).1.length = c → Classes st (num (keysOf now st) [] []).2) := by
  have N := num_ok (keysOf now st) [] [] [] num_nil_ok
  rw [List.nil_append] at N
  generalize (num (keysOf now st) [] []).1 = K at N ⊢
  generalize (num (keysOf now st) [] []).2 = late at N ⊢
  have hk : (keysOf now st).length = st.length := by simp [keysOf]
  have hlen : late.length = st.length := by rw [N.len, hk]
  have hv : ∀ i, i < st.length → keyOf now i (st.getD i []) ∈ K ∧ late.getD i 0 = idx K (keyOf now i (st.getD i [])) := fun i hi => by
    obtain ⟨a, b⟩ := N.val i _ (keys_at hi)
    exact ⟨a, by rw [List.getD, b, Option.getD_some]⟩
  have heq : ∀ i j, i < st.length → j < st.length → (late.getD i 0 = late.getD j 0 ↔ keyOf now i (st.getD i []) = keyOf now j (st.getD j [])) := fun i j hi hj => by
    rw [(hv i hi).2, (hv j hj).2]
    exact ⟨idx_inj (hv i hi).1 (hv j hj).1, fun e => by rw [e]⟩
  have tog : ∀ B, Bisim st B → ∀ i j, i < st.length → j < st.length → B i j → late.getD i 0 = late.getD j 0 := fun B hB i j hi hj hb => by
    rw [heq i j hi hj]
    unfold keyOf
    have ri := T.at hi
    have rj := T.at hj
    have hB' : Bisim st fun a b => B a b ∧ a < st.length ∧ b < st.length := fun a b ha hb h => by
      have A := hB a b ha hb h.1
      have ra := (T.at ha).2
      have rb := (T.at hb).2
      generalize st.getD a [] = r at A ra
      generalize st.getD b [] = s at A rb
      induction A with
      | nil => exact .nil
      | cons e b _ ih => exact .cons e ⟨b, ra _ List.mem_cons_self, rb _ List.mem_cons_self⟩ (ih (fun g hg => ra g (List.mem_cons_of_mem _ hg)) (fun g hg => rb g (List.mem_cons_of_mem _ hg)))
    rw [O.tog B hB i j hi hj hb, agree_keys (fun a b h => O.tog B hB a b h.2.1 h.2.2 h.1) (hB' i j hi hj ⟨hb, hi, hj⟩)]
  have cov : ∀ v, v < c → v ∈ K.map (·.1) := fun v hvc => by
    obtain ⟨i, hi, e⟩ := O.all v hvc
    rw [List.mem_map]
    exact ⟨_, (hv i hi).1, e⟩
  have hle : c ≤ K.length := by have := few_of_all c (K.map (·.1)) cov; simpa using this
  have hmax : K.length ≤ st.length := by
    -- every number below is met
    have h1 := few_of_all K.length late fun v hvK => by
      have e := N.first
      have hm : v ∈ late.foldl ins1 [] := by rw [e, List.mem_range]; exact hvK
      have sub : ∀ (l acc : List Nat), v ∈ l.foldl ins1 acc → v ∈ acc ∨ v ∈ l := by
        intro l
        induction l with
        | nil => intro acc h; exact .inl h
        | cons a l ih =>
          intro acc h
          rcases ih _ h with q | q
          · rcases of_ins1 q with q | q
            · exact .inl q
            · exact .inr (by subst q; exact List.mem_cons_self)
          · exact .inr (List.mem_cons_of_mem _ q)
      rcases sub late [] hm with q | q
      · cases q
      · exact q
    rw [hlen] at h1; exact h1
  refine ⟨⟨hlen, fun i hi => by rw [(hv i hi).2]; exact idx_lt (hv i hi).1, fun v hvK => ?_, tog⟩, hle, hmax, fun hc => ⟨hlen, ⟨K.length, N.first⟩, ?_, tog⟩⟩
  · have hx : K[v]? = some K[v] := List.getElem?_eq_getElem hvK
    have hd := N.cov _ (List.getElem_mem hvK)
    obtain ⟨i, hi⟩ := List.mem_iff_getElem?.mp hd
    have hi' : i < st.length := by rw [← hk]; exact (List.getElem?_eq_some_iff.mp hi).1
    refine ⟨i, hi', ?_⟩
    have := (N.val i _ hi).2
    rw [List.getD, this, Option.getD_some]
    exact idx_at N.nd hx
  · have hnd : (K.map (·.1)).Nodup := nodup_of_all c _ cov (by simpa using hc)
    have inj : ∀ a ∈ K, ∀ b ∈ K, a.1 = b.1 → a = b := by
      intro a ha b hb e
      obtain ⟨i, hi⟩ := List.mem_iff_getElem?.mp ha
      obtain ⟨j, hj⟩ := List.mem_iff_getElem?.mp hb
      have h1 : (K.map (·.1))[i]? = some a.1 := by rw [List.getElem?_map, hi]; rfl
      have h2 : (K.map (·.1))[j]? = some b.1 := by rw [List.getElem?_map, hj]; rfl
      rw [e] at h1
      have hij := get_inj hnd h1 h2
      subst hij
      rw [hi] at hj; exact Option.some.inj hj
    intro i j hi hj h
    have hkey := (heq i j hi hj).mp h
    have ha := keys_agree (now := now) (r := st.getD i []) (s := st.getD j []) (congrArg Prod.snd hkey)
    have ri := (T.at hi).2
    have rj := (T.at hj).2
    generalize st.getD i [] = r at ha ri
    generalize st.getD j [] = s at ha rj
    clear hkey h
    induction ha with
    | nil => exact .nil
    | @cons x y xs ys e b _ ih =>
      have hx := ri _ List.mem_cons_self
      have hy := rj _ List.mem_cons_self
      refine .cons e ((heq x.1 y.1 hx hy).mpr ?_) (ih (fun g hg => ri g (List.mem_cons_of_mem _ hg)) (fun g hg => rj g (List.mem_cons_of_mem _ hg)))
      exact inj _ (hv x.1 hx).1 _ (hv y.1 hy).1 b
/-- classes and lists that tell apart say the same -/
theorem Classes.tells {ι : Type} {st : List (List (Nat × R))} {m : Nat} {ins : List ι} (T : Table st m) (hm : ins.length = m) {late : List Nat} (C : Classes st late) {i j : Nat} (hi : i < st.length) (hj : j < st.length) :
    (late.getD i 0 = late.getD j 0 ↔ tell st ins i j = none) :=
  ⟨fun h => tell_bisim T hm hi hj C.bis h, fun h => by obtain ⟨B, hB, hb⟩ := tell_none T hm hi hj h; exact C.tog B hB i j hi hj hb⟩
end
end Bc
end
section
set_option Elab.async false
set_option linter.all false
set_option maxRecDepth 100000
set_option maxHeartbeats 2000000
namespace L2
open PySem PySem.Spec PyProof.Rows

/-! ### the values of a dict: the view, list(..), tuple(..) -/
/-- the view d.values() at p -/
def valsO (p d : Addr) : HO := .ext fun h => h.IsValuesView p d
theorem valsO_ok {P : Program} {w : World} {H : Hp} {h : Heap} {p d : Addr} (e : h.get? p = some { cls := .type "dict_values", data := .fields #[.ref d] }) : ObjOk P w H h p (valsO p d) :=
  ⟨⟨_, e, rfl, rfl⟩, ⟨_, e⟩, fun h1 h2 x k => let ⟨o, ho, r⟩ := x; ⟨o, k o ho, r⟩⟩
section
variable {X : Cx}
def rValsK : V → List V → Hp → VK → Prop := fun x xs H Q => ∃ (a : Addr) (kvs : List (L2.Key × V)), x = .ref a ∧ xs = [] ∧ Rd H a (.dK kvs) ∧ ∀ p, H p = none → Q (.ref p) (upd H p (valsO p a))
theorem mt_valsK : MtR X "dict.values" rValsK := by
  intro pins s σ H x xs v us Q I rx rxs h
  obtain ⟨a, kvs, rfl, rfl, ha, q⟩ := h
  cases rx
  cases rxs
  obtain ⟨z, hd, vs, rel, dd⟩ := dk_rd I.hok ha
  have hf : H s.heap.objs.size = none := I.hok.fresh (Nat.le_refl _)
  exact call_meetsIn F.slot_dict_values dd.typeIs F.entry_dict_values (F.args_dict_values_1 _) (meets_dict_values (mixKind X.prog X.w) a hd) ⟨⟨vs, dd⟩,
    ⟨.ref s.heap.objs.size, upd H s.heap.objs.size (valsO s.heap.objs.size a), I.laid (t' := s.toks) (fun b u e => Heap.get?_push_of_some _ e) (Nat.le_refl _) (valsO_ok (Heap.get?_push_size _ rfl)), rfl, q _ hf⟩⟩

/-- the values as the list of them -/
theorem vals_acc {kvs : List (L2.Key × V)} {vs : List (L2.Key × Value)} {acc : Array Value} (rel : KV kvs vs) (h : ItemsOf (fun i v => ∃ k, vs[i]? = some (k, v)) acc vs.length) : Vals (kvs.map (·.2)) acc.toList := by
  have e : acc.toList = vs.map (·.2) := PySem.W.kdl_vals_eq _ (by rw [Array.length_toList]; exact h.1) fun j v e => h.2 j v (by rw [← Array.getElem?_toList]; exact e)
  rw [e]
  clear h e
  induction rel with
  | nil => exact .nil
  | cons h _ ih => exact .cons h.2 ih
/-- list(d.values()) -/
theorem call_listV (hcalm : X.calm = true) : CallR X (.type "list") (fun xs H Q => ∃ (p a : Addr) (kvs : List (L2.Key × V)), xs = [.ref p] ∧ H p = some (valsO p a) ∧ Rd H a (.dK kvs) ∧ ∀ q, H q = none → Q (.ref q) (upd H q (.lst (kvs.map (·.2))))) := by
  intro pins s σ H xs us Q I r q
  obtain ⟨p, a, kvs, ex, hp, hd, q⟩ := q
  subst ex
  obtain ⟨u, eu, rx⟩ := vals1 r
  subst eu
  cases rx
  obtain ⟨z, lo, vs, rel, dd⟩ := dk_rd I.hok hd
  obtain ⟨ep, hat⟩ := dd.dictAt
  have hv : s.heap.IsValuesView p a := (show ObjOk X.prog X.w H s.heap p (valsO p a) from I.hok p _ hp).1
  refine PySem.W.kdl_call (PySem.W.kdl_values (knd := mixKind X.prog X.w) (kvs := vs) (ep := ep) (r := p) (d := a)) (I.ok.hd hcalm) ⟨hv, hat⟩ (by rw [← rel.length]; exact z) fun h' tk acc c' hk hD hacc => ?_
  refine ⟨.ref s.heap.objs.size, upd H s.heap.objs.size (.lst (kvs.map (·.2))), I.laid (t' := tk) hk (Nat.le_refl _)
    (show ObjOk X.prog X.w _ _ _ (.lst (kvs.map (·.2))) from ⟨by rw [List.length_map]; exact z, acc.toList, c', vals_acc rel hacc, by rw [Array.toArray_toList]; exact hD⟩), rfl, q _ (I.hok.fresh (Nat.le_refl _))⟩
section
variable {prog : Program} {w : World} {A : Around} {E : Value → Shared → Prop} {s : Shared} {r d : Addr} {n : Nat} {P : Nat → Value → Prop} {OK : Heap → Prop}
theorem code_tuple_new_src {T : String} {Q1 : Value → Shared → Prop} (K : PySem.W.KdlSrc prog w T r d n P OK) (hh : A.handled = none) (hok : OK s.heap) (hn : n ≤ sizeLine)
    (h : ∀ (h' : Heap) (tk : Nat) (acc : Array Value), (∀ b o, s.heap.get? b = some o → h'.get? b = some o) → ItemsOf P acc n →
      Q1 (.ref h'.objs.size) { s with heap := h'.push { cls := .type "tuple", data := .seq acc }, toks := tk }) :
    codeAny (model prog w) A (.call (.builtin "tuple.__new__") ⟨[.type "tuple", .ref r], []⟩) (wants Q1 E) s := by
  refine codeAny_of_tree ?_
  show wpAny _ A.in1 (do checkBuiltinCall "tuple.__new__" ⟨[.type "tuple", .ref r], []⟩; again (.builtin "tuple.__new__" ⟨[.type "tuple", .ref r], []⟩)) _ _ s
  refine wpAny_bind (wpAny_of_eq (F.newCall_tuple_1 _) (wpAny_pure ⟨plainId_quiet F.plain_tuple_new _, codeAny_builtin F.entry_tuple_new ?_⟩))
  rw [Around.under_plainId F.plain_tuple_new _]
  have hsub := sub_tuple_self
  have hinit := init_tuple_lookup
  have hmh := madeHere_tuple
  have hTI : s.TypeIs (.ref r) T := K.type s hok
  have hnt := K.notTuple
  have hh1 : A.in1.handled = none := hh
  wp_walk using wpAny_typeOf hTI, PySem.W.kdu_collect (A := A.in1) K hh1 hok hn
  intro h' tk acc hk hacc
  show wpAny _ _ (Builtin.Tuple.tupleExact acc.toList.toArray >>= fun v => ret v) _ _ _
  unfold Builtin.Tuple.tupleExact
  refine wpAny_bind (wpAny_newObj_type ?_ (by show acc.toList.toArray.size ≤ sizeLine; simp only [Array.toArray_toList]; rw [hacc.1]; exact hn))
  refine wpAny_pure ?_
  have e : acc.toList.toArray = acc := by simp
  rw [e]
  exact h h' tk acc hk hacc
theorem call_tuple_src {T : String} {Q : Value → Shared → Prop} (K : PySem.W.KdlSrc prog w T r d n P OK) (hh : A.handled = none) (hok : OK s.heap) (hn : n ≤ sizeLine)
    (hQ : ∀ (h' : Heap) (tk : Nat) (acc : Array Value), (∀ b o, s.heap.get? b = some o → h'.get? b = some o) → ItemsOf P acc n →
      Q (.ref h'.objs.size) { s with heap := h'.push { cls := .type "tuple", data := .seq acc }, toks := tk }) :
    wpAny (model prog w) A (call (.type "tuple") [.ref r]) Q E s := by
  refine callType_codes (Q₁ := fun obj s1 => s1.TypeIs obj "tuple" ∧ Q obj s1) F.called_tuple (F.typeCall_tuple_1 _) F.entry_object_init
    (code_tuple_new_src (A := A.in1) K hh hok hn fun h' tk acc hk hacc => ⟨⟨_, Heap.get?_push_size _ rfl, rfl⟩, hQ h' tk acc hk hacc⟩) fun obj s1 h1 => ?_
  exact ⟨h1.1, F.args_object_init_2 obj _, object_init_meets F.called_tuple.init.lookup F.called_tuple.made (by decide) prog w A.in1 _ s1 ⟨h1.1, rfl, h1.2⟩⟩
end
/-- tuple(d.values()) -/
theorem call_tupleV (hcalm : X.calm = true) : CallR X (.type "tuple") (fun xs H Q => ∃ (p a : Addr) (kvs : List (L2.Key × V)), xs = [.ref p] ∧ H p = some (valsO p a) ∧ Rd H a (.dK kvs) ∧ ∀ q, H q = none → Q (.ref q) (upd H q (.tup (kvs.map (·.2))))) := by
  intro pins s σ H xs us Q I r q
  obtain ⟨p, a, kvs, ex, hp, hd, q⟩ := q
  subst ex
  obtain ⟨u, eu, rx⟩ := vals1 r
  subst eu
  cases rx
  obtain ⟨z, lo, vs, rel, dd⟩ := dk_rd I.hok hd
  obtain ⟨ep, hat⟩ := dd.dictAt
  have hv : s.heap.IsValuesView p a := (show ObjOk X.prog X.w H s.heap p (valsO p a) from I.hok p _ hp).1
  refine call_tuple_src (PySem.W.kdl_values (knd := mixKind X.prog X.w) (kvs := vs) (ep := ep) (r := p) (d := a)) (I.ok.hd hcalm) ⟨hv, hat⟩ (by rw [← rel.length]; exact z) fun h' tk acc hk hacc => ?_
  have I1 : Inv X pins σ H { s with heap := h', toks := tk } := I.kept hk
  have I2 : Inv X pins σ (upd H h'.objs.size (.tup (kvs.map (·.2)))) { s with heap := h'.push { cls := .type "tuple", data := .seq acc }, toks := tk } :=
    I1.laid (t' := tk) (fun b o e => Heap.get?_push_of_some _ e) (Nat.le_refl _) (show ObjOk X.prog X.w _ _ _ (.tup (kvs.map (·.2))) from ⟨by rw [List.length_map]; exact z, acc.toList, vals_acc rel hacc, by rw [Array.toArray_toList]; exact IsTup.new _ _⟩)
  exact ⟨.ref h'.objs.size, _, I2, rfl, q _ (I1.hok.fresh (Nat.le_refl _))⟩
/-! ### *d in a display: the keys of a dict -/
def tStarD (te : TE) (t : TA) : TA := fun σ H Q => te σ H fun x H1 => ∃ p kvs, x = V.ref p ∧ Rd H1 p (.dK kvs) ∧ t σ H1 fun ys H2 => Q ((kvs.map fun kv => kV kv.1) ++ ys) H2
theorem pa_starD {e : Expr} {es : List Expr} {te : TE} {t : TA} {p : Pos} (hcalm : X.calm = true) (he : PE X e te) (hr : PA X es t) (hs : starEach (.Starred e p :: es) X.env = (true, eval e X.env) :: starEach es X.env := by rfl) : PA X (.Starred e p :: es) (tStarD te t) := by
  refine ⟨fun pos pins s σ H Q I h => ?_⟩
  refine PySem.W.items_star (thn (he.run pins s σ H _ I h) fun v s1 ⟨y, H1, I1, ry, a, kvs, ey, hd, q⟩ => ?_) hs
  subst ey
  obtain rfl : v = Value.ref a := ry
  obtain ⟨z, lo, vs, rel, dd⟩ := dk_rd I1.hok hd
  obtain ⟨ep, hat⟩ := dd.dictAt
  have ek : (kvs.map fun kv => kV kv.1) = vs.map fun p => kV p.1 := by
    have e := congrArg (List.map kV) rel.keys
    rw [List.map_map, List.map_map] at e
    exact e
  unfold PySem.W.StarOf notIterableAtAll
  refine wpAny_bind (wpAny_specialOf dd.typeIs PySem.F.slot_dict_iter.lookup (wpAny_pure ⟨rfl, ?_⟩))
  refine PySem.W.kdu_collect (PySem.W.kdl_dict (knd := mixKind X.prog X.w) (kvs := vs) (ep := ep) lo) (I1.ok.hd hcalm) hat (by rw [← rel.length]; exact z) fun h' tk acc hk hacc => ?_
  have hv : Vals (vs.map fun p => kV p.1) acc.toList := keys_at (by rw [Array.length_toList]; exact hacc.1) fun j v e => hacc.2 j v (by rw [← Array.getElem?_toList]; exact e)
  rw [← ek] at hv
  exact thn (hr.run pos pins _ σ H1 _ (I1.kept hk) q) fun ws s3 ⟨us, H3, I3, r3, q3⟩ => ⟨_, H3, I3, hv.append r3, q3⟩
/-! ### xs[i], as the read of xs[i] op= e -/
theorem get_list : PGet X (fun o i H Q => ∃ p xs k v, o = .ref p ∧ i = .int k ∧ SqL X.K H p xs ∧ 0 ≤ k ∧ xs[k.toNat]? = some v ∧ Q v H) := by
  intro pins s σ H o i ov iv Q I ro ri h
  obtain ⟨p, xs, k, v, rfl, rfl, hs, h0, ha, q⟩ := h
  cases ro
  obtain ⟨t, rfl⟩ := ri
  obtain ⟨its, r, pl, hz⟩ := I.list hs
  obtain ⟨w, ew, rw'⟩ := r.get ha
  have hl := r.length
  have hn := line63
  have h1 : k.toNat < xs.length := (List.getElem?_eq_some_iff.mp ha).1
  exact wpAny_getItem_list pl.isList h0 (by omega) (by simpa using ew) ⟨v, H, I, rw', q⟩
/-! ### a thing that stands fast from here on -/
def tFrz (te : TE) : TE := fun σ H Q => te σ H fun x H1 => ∃ d u, x = V.ref d ∧ H1 d = some u ∧ Mut (some u) ∧ ∀ od, Q x (upd H1 d (.frz od u))
theorem pe_frz {e : Expr} {te : TE} (he : PE X e te) : PE X e (tFrz te) := by
  refine ⟨fun pins s σ H Q I h => ?_⟩
  refine thn (he.run pins s σ H _ I h) fun v s1 ⟨x, H1, I1, rx, d, u, ex, hd, mu, q⟩ => ?_
  obtain ⟨od, I2⟩ := I1.lock hd mu
  exact ⟨x, _, I2, rx, q od⟩
end
end L2
end
section
set_option Elab.async false
set_option linter.all false
set_option maxRecDepth 100000
set_option maxHeartbeats 2000000
namespace L2
open PySem PySem.Spec PyProof.Rows

/-! ### enumerate(tuple) -/
/-- the new enumerate object of anything that iter() makes an iterator of -/
theorem enum_new1 {v : Value} {o : Obj} {G : Heap → Prop} (B : Begins v o G) :
    Meets (Builtin.«enumerate.__new__» ⟨[.type "enumerate", v], []⟩) (fun _ R s => G s.heap ∧
      R (.ok (.ret (.ref (s.heap.push o).objs.size))) { s with heap := (s.heap.push o).push { cls := .type "enumerate", data := .fields #[.none, .bool false, .ref s.heap.objs.size, rawInt 0, .none, .none] } }) := by
  refine .of_wp fun prog w A R s ⟨g1, r1⟩ => ?_
  obtain ⟨hp, gs, dr, tk, os⟩ := s
  have heir := sub_enumerate
  have iter1 : ∀ {A2 : Around} {E : Value → Shared → Prop} {Q : Value → Shared → Prop}, Q (.ref hp.objs.size) ⟨hp.push o, gs, dr, tk, os⟩ → wpAny (model prog w) A2 (pyIter v) Q E ⟨hp, gs, dr, tk, os⟩ := fun q => B.iter prog w _ _ _ _ g1 q
  wp_walk using iter1
  refine wpAny_stack_any fun st => wpAny_pure ?_
  split
  · rename_i cl _ _ _ _ _
    cases (cl == Value.type "enumerate") <;> (wp_walk using iter1; exact ⟨_, rfl, r1⟩)
  · wp_walk using iter1
    exact ⟨_, rfl, r1⟩
theorem enum_tuple {prog : Program} {w : World} {A : Around} {E : Value → Shared → Prop} {s : Shared} {t : Addr} {items : Array Value} {Q : Value → Shared → Prop} (ht : s.heap.IsTuple t items)
    (h : ∀ h', IsEnum h' (s.heap.objs.size + 1) s.heap.objs.size 0 .none → h'.IsTupleIter s.heap.objs.size t 0 → (∀ b o, s.heap.get? b = some o → h'.get? b = some o) → Q (.ref (s.heap.objs.size + 1)) { s with heap := h' }) :
    wpAny (model prog w) A (call (.type "enumerate") [.ref t]) Q E s := by
  refine callType_new F.called_enumerate (by decide) (F.typeCall_enumerate_1 _) (F.newCall_enumerate_1 _) (fun obj => F.args_object_init_2 obj _) F.entry_enumerate_new (enum_new1 (begins_tuple t items)) ⟨ht, ?_⟩
  have hz : ∀ o : Obj, (s.heap.push o).objs.size = s.heap.objs.size + 1 := fun o => Heap.size_push ..
  have at1 := Heap.get?_push_size (s.heap.push { cls := .type "tuple_iterator", data := .fields #[.ref t, .int 0 0] }) (o := { cls := .type "enumerate", data := .fields #[.none, .bool false, .ref s.heap.objs.size, rawInt 0, .none, .none] }) rfl
  show _ ∧ _
  rw [hz] at at1 ⊢
  exact ⟨⟨_, at1, rfl⟩, h _ at1 ⟨_, Heap.get?_push_of_some _ (Heap.get?_push_size _ rfl), rfl, rfl⟩ fun b o x => Heap.get?_push_of_some _ (Heap.get?_push_of_some _ x)⟩
/-- the tuple at a, each item in a new pair with its place -/
def IteT (K : PySem.W.Frag) (a : Addr) (n : Nat) : It where
  go i H := i < n ∧ ∃ xs x, SqT K H a xs ∧ xs[i]? = some x
  yld i H v H' := ∃ T x, v = .ref T ∧ H T = none ∧ H' = upd H T (.tup [.int (i : Nat), x]) ∧ ∀ xs, SqT K H a xs → xs[i]? = some x
  stop i H := n ≤ i ∧ ∃ xs : List V, SqT K H a xs ∧ xs.length = n
theorem turn_enumT {P : Program} {w : World} {K : PySem.W.Frag} {elts : List Expr} {kk : Nat} {tpos : Pos} (a e it : Addr) (n : Nat) (hne : e ≠ it) :
    Turn P w K (.Tuple elts kk tpos) (IteT K a n) [e, it] e (fun i h => ((∃ old, IsEnum h e it ((i : Nat) : Int) old) ∧ h.IsTupleIter it a i) ∧ i ≤ n) where
  mem := List.mem_cons_self
  obj := fun i h st b hb => by
    obtain ⟨⟨⟨old, he⟩, o, ho, hc, hd⟩, _⟩ := st
    simp only [List.mem_cons, List.not_mem_nil, or_false] at hb
    rcases hb with rfl | rfl
    · exact ⟨_, he, fun v q => nomatch q⟩
    · refine ⟨o, ho, fun v q => ?_⟩
      rw [hd] at q; cases q
  keep := fun i h h' st k => ⟨⟨st.1.1.imp fun old he => k e (by simp) _ he, st.1.2.at fun o q => k it (by simp) o q⟩, st.2⟩
  item := by
    intro X hP hw hK hc i pins s σ H E I hf st hg
    subst hP hw hK
    obtain ⟨⟨⟨old, he⟩, hit⟩, _⟩ := st
    obtain ⟨hin, xs, x, hq, hx⟩ := hg
    obtain ⟨its, rv, p, hz⟩ := I.tuple hq
    obtain ⟨u, hu, ru⟩ := rv.get hx
    have hel : e < s.heap.objs.size := Heap.lt_size he
    have hil : it < s.heap.objs.size := by obtain ⟨_, q, _⟩ := id hit; exact Heap.lt_size q
    obtain ⟨op, hop, hcp, np, hdp⟩ := id p
    have hai : a ≠ it := fun z => by
      subst z
      obtain ⟨o2, ho2, hc2, hd2⟩ := id hit
      rw [hop] at ho2; cases ho2
      rw [hcp] at hc2; exact absurd hc2 (by decide)
    have hae : a ≠ e := fun z => by
      subst z
      have q := hop.symm.trans he
      cases q
      exact absurd (show Value.type "enumerate" = Value.type "tuple" from hcp) (by decide)
    have hi : i < its.toArray.size := by rw [List.size_toArray]; exact (List.getElem?_eq_some_iff.mp hu).1
    refine wpAny_pyNext_enum_itemD (Draws.tuple (A := X.A.in1) (I.ok.hd hc) it a hai its.toArray) he ⟨hit, ⟨op, hop, hcp, np, hdp⟩⟩ hi hne (by simp [hne, Ne.symm hae]) fun y h' tk hy ho hst hT hsz hk => ?_
    have ey : y = u := by
      have hu' : its.toArray[i]? = some u := by simpa using hu
      have hy' : its.toArray[i]? = some y := hy
      rw [hu'] at hy'; exact (Option.some.inj hy').symm
    subst ey
    refine ⟨_, rfl, wpAny_letOwnedTupleGo_enum (s := { s with heap := h', toks := tk + 1 }) ho fun h2 he2 sb => ?_⟩
    have hT2 : h2.get? s.heap.objs.size = some { cls := .type "tuple", data := .seq #[.int i tk, y] } := (sb.2 _ (Nat.ne_of_gt hel)).trans hT
    have new : ObjOk X.prog X.w (upd H s.heap.objs.size (.tup [.int (i : Nat), x])) h2 s.heap.objs.size (.tup [.int (i : Nat), x]) := by
      refine ⟨by show 2 ≤ sizeLine; decide, [.int i tk, y], .cons ⟨_, rfl⟩ (.cons ru .nil), _, hT2, rfl, _, rfl⟩
    have I1 : Inv X pins σ (upd H s.heap.objs.size (.tup [.int (i : Nat), x])) { s with heap := h2, toks := tk + 1 } := by
      refine I.turnedNew (ch := [e, it]) (fun b ob hb q => ?_) hf (Nat.le_refl _) new
      simp only [List.mem_cons, List.not_mem_nil, or_false, not_or] at hb
      exact (sb.2 b hb.1).trans (hk b ob hb.1 hb.2 q)
    refine ⟨.ref s.heap.objs.size, _, I1, rfl, ⟨_, x, rfl, I.hok.fresh (Nat.le_refl _), rfl, fun ys hy => by rw [I.tuple_inj hy hq]; exact hx⟩, ⟨⟨⟨y, ?_⟩, hst.1.at fun o q => (sb.2 it (Ne.symm hne)).trans q⟩, hin⟩, fun b hb => ?_⟩
    · rw [show ((i + 1 : Nat) : Int) = (i : Int) + 1 by omega]; exact he2
    · have hb' : b < s.heap.objs.size := by
        simp only [List.mem_cons, List.not_mem_nil, or_false] at hb
        rcases hb with rfl | rfl
        · exact hel
        · exact hil
      rw [upd_ne (Nat.ne_of_lt hb')]
      exact (hf b hb).1
  done := by
    intro X hP hw hK hc i pins s σ H E I hf st hg
    subst hP hw hK
    obtain ⟨⟨⟨old, he⟩, hit⟩, hile⟩ := st
    obtain ⟨hx0, xs, hq, hx⟩ := hg
    obtain ⟨its, rv, p, hz⟩ := I.tuple hq
    obtain ⟨f0, f1, f2, f3, f4, f5⟩ := hf it (by simp)
    obtain ⟨op, hop, hcp, np, hdp⟩ := id p
    have hai : a ≠ it := fun z => by
      subst z
      obtain ⟨o2, ho2, hc2, hd2⟩ := id hit
      rw [hop] at ho2; cases ho2
      rw [hcp] at hc2; exact absurd hc2 (by decide)
    have hl := rv.length
    have ei : i = its.toArray.size := by rw [List.size_toArray]; omega
    refine wpAny_pyNext_enum_endD (Draws.tuple (A := X.A.in1) (I.ok.hd hc) it a hai its.toArray) he ⟨ei ▸ hit, p⟩ fun h' eb => ⟨rfl, I.turned (t' := s.toks) (fun b o hb q => eb b o hb q) f0 f1 f3 f4 f5⟩
  self := fun A i s Q E st h => let ⟨⟨⟨_, he⟩, _⟩, _⟩ := st; wpAny_pyIter_enum he h
def iEnumT (K : PySem.W.Frag) (ta : TA) : TI := fun σ H R => ta σ H fun vs H1 => ∃ a xs, vs = [.ref a] ∧ SqT K H1 a xs ∧ R (IteT K a xs.length) H1
theorem pi_enumT {X : Cx} {e : Expr} {ta : TA} {p pos tpos : Pos} {elts : List Expr} {kk : Nat} (hg : Gl X "enumerate") (hm : X.mg "enumerate" = none) (ha : PA X [e] ta) (hs : starEach [e] X.env = [(false, eval e X.env)] := by rfl) :
    PI X (.Tuple elts kk tpos) (.Call (.Name "enumerate" p) [e] [] pos) (iEnumT X.K ta) := by
  refine ⟨fun pins s σ H R I h => Call_ (ld_blt I hg hm boot_enumerate (PyProof.Rows.callWith_type1 (thn (ha.run pos pins s σ H _ I h) fun us s1 ⟨vs, H1, I1, r1, a, xs, ex, hq, q⟩ => ?_) hs rfl))⟩
  subst ex
  obtain ⟨u, rfl, r⟩ := vals1 r1
  cases r
  obtain ⟨its, rv, p', hz⟩ := I1.tuple hq
  refine enum_tuple p' fun h' he hit hk => wpAny_pyIter_enum he ?_
  have I2 : Inv X pins σ H1 { s1 with heap := h' } := I1.kept (t' := s1.toks) hk
  refine ⟨_, [_, _], _, _, H1, rfl, I2, turn_enumT a (s1.heap.objs.size + 1) s1.heap.objs.size xs.length (Nat.succ_ne_self _), ⟨⟨⟨.none, he⟩, hit⟩, Nat.zero_le _⟩, fun b hb => ?_, q⟩
  have hle : s1.heap.objs.size ≤ b := by
    simp only [List.mem_cons, List.not_mem_nil, or_false] at hb
    rcases hb with rfl | rfl
    · exact Nat.le_succ _
    · exact Nat.le_refl _
  exact I1.fpOk hle (I1.hok.fresh hle)
/-- as a walk -/
theorem walk_enumT {K : PySem.W.Frag} {a : Addr} {xs : List V} : Walk (IteT K a xs.length) xs.length (fun H => SqT K H a xs) (YPair (fun i => some (.int (i : Nat))) (fun i => xs[i]?)) where
  goes i H hi g := ⟨hi, xs, xs[i], g, List.getElem?_eq_getElem hi⟩
  stops H g := ⟨Nat.le_refl _, xs, g, rfl⟩
  yields i H v H' hi g y := by
    obtain ⟨T, x, e, hT, e2, hx⟩ := y
    exact ⟨T, _, x, e, hT, e2, rfl, hx xs g⟩
end L2
end
section
set_option Elab.async false
set_option linter.all false
set_option maxRecDepth 100000
set_option maxHeartbeats 2000000
namespace L2
open PySem PySem.Spec PyProof.Rows

/-! ### own __eq__, __ne__ (object's), __len__ -/
section
variable {X : Cx} {CX : CXT} {pins : List (Addr × Obj)} {σ : St} {H : Hp} {s : Shared} {k : Nat} {f C : Addr} {fd : FuncData} {ps : List Str} {sp : Sp} {ds : List Value} {E : XK}
/-- the callee runs somewhere below the running body -/
theorem run_below {A : Around} {Q : VK} {us : List Value} {vs : List V} (F : FnOk X.prog X.w X.K X.mg X.base CX k f fd ps sp) (sb : Sub X k A) (hb : Binds X.K fd ps []) (hx : Passes CX X E) (I : Inv X pins σ H s) (r : Vals vs us) (h : sp vs H Q E) :
    wpAny (model X.prog X.w) A (call (.ref f) us) (EP X pins σ Q) X.xe s := by
  have e0 : Env0 X.prog X.w X.K X.mg X.base A X.stack s H := by
    have e := I.env0
    exact ⟨by rw [sb.fr]; exact e.frames, e.mod, e.bs, e.bsz, e.funs, e.frf, e.hok, e.bare⟩
  have hl : (us ++ []).length = ps.length := by rw [List.append_nil, ← r.length]; exact F.len _ _ _ _ h
  have bt := hb s us I.kIn hl
  rw [List.append_nil] at bt
  refine wpAny_call (codeAny_mono (F.run A X.stack s H ⟨us, []⟩ us vs Q E sb.room e0 bt r h) fun q s' hq => ?_)
  cases q with
  | error e => exact hx pins σ H s e s' I hq
  | ok fl => cases fl with
    | ret u => exact I.after hq
    | _ => exact False.elim hq
theorem sub_self (hr : Room k X.A) : Sub X k X.A := ⟨hr, rfl⟩
/-- x == y by the class's own __eq__ that gives a bool -/
def rEqOwn (C : Addr) (sp : Sp) (E : XK) : R2 := fun x y H Q => ∃ a b dx dy fs gs, x = .ref a ∧ y = .ref b ∧ H a = some (.ins C dx fs) ∧ H b = some (.ins C dy gs) ∧ sp [x, y] H (fun v H' => ∃ c, v = .bl c ∧ Q v H') E
theorem op_eqOwn (F : FnOk X.prog X.w X.K X.mg X.base CX k f fd ps sp) (hs : PySem.W.findIn X.K (.ref C) "__eq__" = some (some (.ref f))) (hf : PySem.W.isFn X.K (.ref f) = true) (hb : Binds X.K fd ps []) (hx : Passes CX X E) (hr : Room k X.A) :
    OpR X (compareOp .Eq) (rEqOwn C sp E) := by
  intro pins s σ H x y u v Q I rx ry d
  obtain ⟨a, b, dx, dy, fs, gs, rfl, rfl, ha, hb', hsp⟩ := d
  cases rx
  cases ry
  obtain ⟨mA, J, _⟩ := ins_get I.hok ha
  obtain ⟨mB, J', _⟩ := ins_get I.hok hb'
  obtain ⟨od, J, _⟩ := J.look
  obtain ⟨od', J', _⟩ := J'.look
  obtain ⟨m, hF⟩ := I.fr
  refine PySem.W.cmp_K (op := .Eq) (tb := .ref C) hr.units0 hF I.ok.mod.kin J J'.type (by simp [PySem.W.notFirst]) hs hf ?_
  refine wpAny_mono (run_below F (sub_self hr) hb hx I (us := [.ref a, .ref b]) (vs := [.ref a, .ref b]) (.cons rfl (.cons rfl .nil)) hsp) (fun r s' hq => ?_) fun _ _ e => e
  obtain ⟨z, H', I', rz, c, ez, q⟩ := hq
  subst ez
  cases rz
  exact ⟨.bl c, H', I', rfl, q⟩
/-- x != y by the class's own __eq__ and object's __ne__ -/
def rNeOwn (C : Addr) (sp : Sp) (E : XK) : R2 := fun x y H Q => ∃ a b dx dy fs gs, x = .ref a ∧ y = .ref b ∧ H a = some (.ins C dx fs) ∧ H b = some (.ins C dy gs) ∧ sp [x, y] H (fun v H' => ∃ c, v = .bl c ∧ Q (.bl (!c)) H') E
section
variable {prog : Program} {w : World} {A : Around} {Ee : Value → Shared → Prop} {K : PySem.W.Frag} {x y C : Addr} {ox : Obj} {od : Option Obj}
theorem neBody {Q : Fin → Shared → Prop} (hu : A.units < cLine) (h : wpAny (model prog w) A (callSpecialIfBound? (.ref x) (Str.ofString "__eq__") [.ref y]) (fun r s' => ∃ b, r = some (.bool b) ∧ Q (.done (.ret (.bool (!b)))) s') Ee s) :
    wpAny (model prog w) A (Builtin.«object.__ne__» ⟨[.ref x, .ref y], []⟩) Q Ee s := by
  unfold Builtin.«object.__ne__»
  repeat (first
    | with_reducible refine wpAny_cRoomFor hu ?_
    | (refine wpAny_bind (m := callSpecialIfBound? (.ref x) (Str.ofString "__eq__") [.ref y]) (wpAny_mono h (fun r s' hr => ?_) fun _ _ e => e)
       obtain ⟨b, rfl, hq⟩ := hr
       repeat (first | exact hq | exact wpAny_pure hq | exact wpAny_truthy_bool hq | (refine wpAny_bind (m := truthy (.bool _)) (wpAny_truthy_bool ?_)) | wp_step))
    | wp_step)
theorem ifBound_ne {M : Model} {args : List Value} {Q : Option Value → Shared → Prop} (kin : K.In s.heap) (I : PySem.W.InstAt s.heap x ox C od) (hs : PySem.W.findIn K (.ref C) "__ne__" = some (some (.builtin "object.__ne__")))
    (h : wpAny M A (call (.builtin "object.__ne__") (.ref x :: args)) (fun v => Q (some v)) Ee s) : wpAny M A (callSpecialIfBound? (.ref x) "__ne__" args) Q Ee s := by
  simp only [callSpecialIfBound?, bindSpecialIfBound?]
  refine wpAny_holding (wpAny_bind (wpAny_bind (wpAny_bind (I.type.here ((PySem.W.looks_findIn kin hs).here (wpAny_bind (wpAny_askSetting (wpAny_ite ?_))))))))
  have last : wpAny M A (call (.builtin "object.__ne__") ([.ref x] ++ args) >>= fun v => pure (some v)) Q Ee s := wpAny_bind (wpAny_mono h (fun _ _ z => wpAny_pure z) fun _ _ z => z)
  have bound := F.cmp_object.ne.bind (.ref x)
  split
  · exact wpAny_bind (wpAny_of_eq bound (wpAny_pure (by exact last)))
  · exact wpAny_tryCatch (wpAny_bind (wpAny_of_eq bound (wpAny_pure (by exact last))))
end
theorem op_neOwn (F : FnOk X.prog X.w X.K X.mg X.base CX k f fd ps sp) (hs : PySem.W.findIn X.K (.ref C) "__eq__" = some (some (.ref f))) (hn : PySem.W.findIn X.K (.ref C) "__ne__" = some (some (.builtin "object.__ne__")))
    (hm : PySem.W.mroIn X.K C (.type "object") = some true) (hf : PySem.W.isFn X.K (.ref f) = true) (hb : Binds X.K fd ps []) (hx : Passes CX X E) (hr : Room (k + 1) X.A) :
    OpR X (compareOp .NotEq) (rNeOwn C sp E) := by
  intro pins s σ H x y u v Q I rx ry d
  obtain ⟨a, b, dx, dy, fs, gs, rfl, rfl, ha, hb', hsp⟩ := d
  cases rx
  cases ry
  obtain ⟨mA, J, _⟩ := ins_get I.hok ha
  obtain ⟨mB, J', _⟩ := ins_get I.hok hb'
  obtain ⟨od, J, _⟩ := J.look
  obtain ⟨od', J', _⟩ := J'.look
  have hr1 : Room k X.A.in1 := Room.in1 hr
  show wpAny _ _ (richCompare .NotEq (.ref a) (.ref b)) _ _ _
  unfold richCompare
  simp only [oneThing_ref]
  refine wpAny_holding (wpAny_bind (wpAny_cRoomFor hr.units0 ?_))
  rw [cmpInfo_NotEq]
  dsimp only
  refine wpAny_bind (J.type.here (wpAny_bind (J'.type.here ?_)))
  rw [show (Value.ref C != Value.ref C) = false from by simp]
  simp only [Bool.false_eq_true, if_false]
  refine wpAny_bind (wpAny_pure ?_)
  simp only [Bool.false_eq_true, if_false]
  have call2 : wpAny (model X.prog X.w) X.A.in1 (callSpecialIfBound? (.ref a) (Str.ofString "__eq__") [.ref b]) (fun r s' => ∃ c, r = some (.bool c) ∧ EP X pins σ Q (.bool (!c)) s') X.xe s := by
    refine PySem.W.ifBound_K I.kIn J hs hf (wpAny_mono (run_below F ⟨hr1, rfl⟩ hb hx I (us := [.ref a, .ref b]) (vs := [.ref a, .ref b]) (.cons rfl (.cons rfl .nil)) hsp) (fun r s' hq => ?_) fun _ _ e => e)
    obtain ⟨z, H', I', rz, c, ez, q⟩ := hq
    subst ez
    cases rz
    exact ⟨c, rfl, .bl (!c), H', I', rfl, q⟩
  have call1 : wpAny (model X.prog X.w) X.A (call (.builtin "object.__ne__") [.ref a, .ref b]) (fun v s' => ∃ c, v = .bool c ∧ EP X pins σ Q (.bool c) s') X.xe s := by
    refine wpAny_call (codeAny_call_builtin PySem.F.cmp_object.ne.plain PySem.F.cmpEntry_ne (PySem.W.check_slot PySem.F.cmpKind_ne PySem.F.cmpSplit_ne (J.type.andThen (PySem.W.looks_mroIn I.kIn hm)) (PySem.F.cmpArgs_ne _ _) ?_))
    refine neBody hr1.units0 (wpAny_mono call2 (fun r s' hq => ?_) fun _ _ e => e)
    obtain ⟨c, rfl, q⟩ := hq
    exact ⟨c, rfl, !c, rfl, q⟩
  have one : wpAny (model X.prog X.w) X.A (tryCompare (.ref a) "__ne__" (.ref b)) (fun r s' => ∃ c, r = some (.bool c) ∧ EP X pins σ Q (.bool c) s') X.xe s := by
    unfold tryCompare
    refine wpAny_bind (ifBound_ne I.kIn J hn (wpAny_mono call1 (fun r s' hq => ?_) fun _ _ e => e))
    obtain ⟨c, rfl, q⟩ := hq
    exact wpAny_pure ⟨c, rfl, q⟩
  refine wpAny_bind (wpAny_mono one (fun r s' hq => ?_) fun _ _ e => e)
  obtain ⟨c, rfl, q⟩ := hq
  exact wpAny_pure q
/-- len(x) by the class's own __len__ -/
theorem call_lenOwn (F : FnOk X.prog X.w X.K X.mg X.base CX k f fd ps sp) (hs : PySem.W.findIn X.K (.ref C) "__len__" = some (some (.ref f))) (hf : PySem.W.isFn X.K (.ref f) = true) (hb : Binds X.K fd ps []) (hx : Passes CX X E) (hr : Room (k + 1) X.A) :
    CallR X (.builtin "len") (fun xs H Q => ∃ a dx fs, xs = [.ref a] ∧ H a = some (.ins C dx fs) ∧ sp [.ref a] H (fun v H' => ∃ n : Int, v = .int n ∧ (0 ≤ n ∧ n < 2 ^ 63) ∧ Q (.int n) H') E) := by
  intro pins s σ H xs us Q I r h
  obtain ⟨a, dx, fs, rfl, ha, hsp⟩ := h
  obtain ⟨u, rfl, ru⟩ := vals1 r
  cases ru
  obtain ⟨mA, J, _⟩ := ins_get I.hok ha
  obtain ⟨od, J, _⟩ := J.look
  obtain ⟨m, hF⟩ := I.fr
  refine PySem.W.len_K hF I.ok.mod.kin J hs hf (wpAny_mono (run_below F ⟨Room.in1 hr, rfl⟩ hb hx I (us := [.ref a]) (vs := [.ref a]) (.cons rfl .nil) hsp) (fun r s' hq => ?_) fun _ _ e => e)
  obtain ⟨z, H', I', rz, n, ez, hn, q⟩ := hq
  subst ez
  obtain ⟨t, rfl⟩ := rz
  exact ⟨hn, .int n, H', I'.tok _, ⟨_, rfl⟩, q⟩
end
end L2
end
section
set_option Elab.async false
set_option linter.all false
set_option maxRecDepth 100000
set_option maxHeartbeats 2000000
namespace L2
open PySem PySem.Spec PyProof.Rows

/-! ### data that are equal, dicts within -/
/-- equal data, nested at most n deep -/
def EqT (K : PySem.W.Frag) (H : Hp) : Nat → V → V → Prop
  | 0 => fun x y => x = y ∧ flatV x = true
  | n + 1 => fun x y => (x = y ∧ flatV x = true) ∨ (∃ a, x = .ref a ∧ y = .ref a) ∨
      (∃ a b xs ys, x = .ref a ∧ y = .ref b ∧ SqL K H a xs ∧ SqL K H b ys ∧ Paired (EqT K H n) xs ys) ∨
      (∃ a b xs ys, x = .ref a ∧ y = .ref b ∧ SqT K H a xs ∧ SqT K H b ys ∧ Paired (EqT K H n) xs ys) ∨
      ∃ a b ks ls, x = .ref a ∧ y = .ref b ∧ Rd H a (.dK ks) ∧ Rd H b (.dK ls) ∧ ks.length = ls.length ∧ ∀ p ∈ ks, ∃ u, valV ls p.1 = some u ∧ EqT K H n p.2 u
theorem eqV_self {x : V} (h : flatV x = true) : eqV x x = true := by
  cases x <;> first | rfl | (simp [eqV]; done) | (simp [flatV] at h)
theorem paired_at {α β : Type} {G : α → β → Prop} {l : List α} {l' : List β} (h : Paired G l l') : ∀ {i : Nat} {a : α} {b : β}, l[i]? = some a → l'[i]? = some b → G a b := by
  induction h with
  | nil => intro i a b e; simp at e
  | cons g _ ih =>
    intro i a b e1 e2
    cases i with
    | zero => simp at e1 e2; subst e1; subst e2; exact g
    | succ i => exact ih (by simpa using e1) (by simpa using e2)
section
variable {X : Cx} {pins : List (Addr × Obj)} {σ : St} {H : Hp} {s : Shared}
theorem rd_dK (I : Inv X pins σ H s) {a : Addr} {ks : List (Key × V)} (h : Rd H a (.dK ks)) : (a == sysModules) = false ∧ ∃ vs, KV ks vs ∧ s.heap.DictOf (mixKind X.prog X.w) a vs := by
  obtain ⟨_, lo, vs, rel, dd⟩ := dk_rd I.hok h
  exact ⟨lo, vs, rel, dd⟩
theorem kv_mem {ks : List (Key × V)} {vs : List (Key × Value)} (r : KV ks vs) {k : Key} {u : Value} (h : (k, u) ∈ vs) : ∃ x, (k, x) ∈ ks ∧ RelV x u := by
  induction r with
  | nil => cases h
  | @cons p q ps qs g _ ih =>
    cases h with
    | head => exact ⟨p.2, by rw [← show p.1 = k from g.1]; exact List.mem_cons_self, g.2⟩
    | tail _ h => obtain ⟨x, hx, rx⟩ := ih h; exact ⟨x, List.mem_cons_of_mem _ hx, rx⟩
theorem eqT_tree (I : Inv X pins σ H s) : ∀ (n : Nat) (x y : V) (u v : Value), EqT X.K H n x y → RelV x u → RelV y v → PySem.W.EqTree X.prog X.w s n u v true := by
  intro n
  have fl : ∀ (n : Nat) (x y : V) (u v : Value), (x = y ∧ flatV x = true) → RelV x u → RelV y v → PySem.W.EqTree X.prog X.w s n u v true := by
    intro n x y u v h rx ry
    obtain ⟨rfl, f⟩ := h
    exact .leaf fun A _ => by have := eqAt_V (A := A) (s := s) rx ry f f; rw [eqV_self f] at this; exact this
  induction n with
  | zero => exact fl 0
  | succ n ih =>
    intro x y u v h rx ry
    rcases h with h | ⟨a, rfl, rfl⟩ | ⟨a, b, xs, ys, rfl, rfl, ha, hb, hp⟩ | ⟨a, b, xs, ys, rfl, rfl, ha, hb, hp⟩ | ⟨a, b, ks, ls, rfl, rfl, ha, hb, hl, hp⟩
    · exact fl _ x y u v h rx ry
    · cases rx; cases ry; exact .same
    all_goals
      cases rx; cases ry
      by_cases hab : a = b
      · subst hab; exact .same
    · obtain ⟨us, r1, p1, _⟩ := I.list ha
      obtain ⟨ws, r2, p2, _⟩ := I.list hb
      have hsz : us.toArray.size = ws.toArray.size := by rw [List.size_toArray, List.size_toArray, ← r1.length, ← r2.length]; exact Paired.length hp
      have t := PySem.W.EqTree.lists (prog := X.prog) (w := X.w) (n := n) (e := fun _ => true) hab p1.isList p2.isList hsz fun j h1 h2 => by
        have h1' : j < us.length := by simpa using h1
        have h2' : j < ws.length := by simpa using h2
        have hx : xs[j]? = some (xs[j]'(by rw [r1.length]; exact h1')) := List.getElem?_eq_getElem _
        have hy : ys[j]? = some (ys[j]'(by rw [r2.length]; exact h2')) := List.getElem?_eq_getElem _
        obtain ⟨u1, e1, q1⟩ := r1.get hx
        obtain ⟨u2, e2, q2⟩ := r2.get hy
        have e1' : us.toArray[j] = u1 := by rw [List.getElem?_eq_getElem h1'] at e1; simpa using Option.some.inj e1
        have e2' : ws.toArray[j] = u2 := by rw [List.getElem?_eq_getElem h2'] at e2; simpa using Option.some.inj e2
        rw [e1', e2']
        exact ih _ _ _ _ (paired_at hp hx hy) q1 q2
      rwa [List.all_eq_true.mpr fun _ _ => rfl] at t
    · obtain ⟨us, r1, p1, _⟩ := I.tuple ha
      obtain ⟨ws, r2, p2, _⟩ := I.tuple hb
      have hsz : us.toArray.size = ws.toArray.size := by rw [List.size_toArray, List.size_toArray, ← r1.length, ← r2.length]; exact Paired.length hp
      have t := PySem.W.EqTree.tuples (prog := X.prog) (w := X.w) (n := n) (e := fun _ => true) hab p1 p2 fun j h1 h2 => by
        have h1' : j < us.length := by simpa using h1
        have h2' : j < ws.length := by simpa using h2
        have hx : xs[j]? = some (xs[j]'(by rw [r1.length]; exact h1')) := List.getElem?_eq_getElem _
        have hy : ys[j]? = some (ys[j]'(by rw [r2.length]; exact h2')) := List.getElem?_eq_getElem _
        obtain ⟨u1, e1, q1⟩ := r1.get hx
        obtain ⟨u2, e2, q2⟩ := r2.get hy
        have e1' : us.toArray[j] = u1 := by rw [List.getElem?_eq_getElem h1'] at e1; simpa using Option.some.inj e1
        have e2' : ws.toArray[j] = u2 := by rw [List.getElem?_eq_getElem h2'] at e2; simpa using Option.some.inj e2
        rw [e1', e2']
        exact ih _ _ _ _ (paired_at hp hx hy) q1 q2
      rwa [List.all_eq_true.mpr fun _ _ => rfl, hsz, beq_self_eq_true, Bool.true_and] at t
    · obtain ⟨la, va, ra, da⟩ := rd_dK I ha
      obtain ⟨lb, vb, rb, db⟩ := rd_dK I hb
      have hlen : va.length = vb.length := by rw [← ra.length, ← rb.length]; exact hl
      have hit : ∀ k u', (k, u') ∈ va → ∃ x z w', (k, x) ∈ ks ∧ RelV x u' ∧ valV ls k = some z ∧ EqT X.K H n x z ∧ valueAt vb k = some w' ∧ RelV z w' := fun k u' hk => by
        obtain ⟨x, hx, rx⟩ := kv_mem ra hk
        obtain ⟨z, hz, e⟩ := hp _ hx
        have rr := rb.val k
        rw [show valV ls k = some z from hz] at rr
        obtain ⟨w', hw, rw'⟩ := rr.some_of
        exact ⟨x, z, w', hx, rx, hz, e, hw, rw'⟩
      have t := PySem.W.EqTree.dicts (prog := X.prog) (w := X.w) (n := n) (e := fun _ => true) hab la lb da db fun k u' y' hk hy' => by
        obtain ⟨x, z, w', _, rx, _, e, hw, rw'⟩ := hit k u' hk
        rw [hy'] at hw
        cases hw
        exact ih _ _ _ _ e rx rw'
      have hall : (va.all fun p => (valueAt vb p.1).isSome && true) = true := List.all_eq_true.mpr fun p hp => by
        obtain ⟨x, z, w', _, _, _, _, hw, _⟩ := hit p.1 p.2 hp
        rw [hw]; rfl
      rwa [hlen, beq_self_eq_true, hall, Bool.and_self] at t
end
section
variable {X : Cx}
/-- two tuples of equal data -/
def rEqTup (K : PySem.W.Frag) : R2 := fun x y H Q => ∃ a b xs ys, x = .ref a ∧ y = .ref b ∧ SqT K H a xs ∧ SqT K H b ys ∧ Paired (EqT K H 40) xs ys ∧ Q (.bl true) H
theorem op_eqTup (hu : X.A.units + 64 < cLine) : OpR X (compareOp .Eq) (rEqTup X.K) := by
  intro pins s σ H x y u v Q I rx ry h
  obtain ⟨a, b, xs, ys, rfl, rfl, ha, hb, hp, q⟩ := h
  cases rx; cases ry
  obtain ⟨us, r1, p1, _⟩ := I.tuple ha
  obtain ⟨ws, r2, p2, _⟩ := I.tuple hb
  have hsz : us.toArray.size = ws.toArray.size := by rw [List.size_toArray, List.size_toArray, ← r1.length, ← r2.length]; exact Paired.length hp
  refine PySem.W.eq_tuplesT (n := 40) (e := fun _ => true) p1 p2 (fun j h1 h2 => ?_) (by omega) ?_
  · have h1' : j < us.length := by simpa using h1
    have h2' : j < ws.length := by simpa using h2
    have hx : xs[j]? = some (xs[j]'(by rw [r1.length]; exact h1')) := List.getElem?_eq_getElem _
    have hy : ys[j]? = some (ys[j]'(by rw [r2.length]; exact h2')) := List.getElem?_eq_getElem _
    obtain ⟨u1, e1, q1⟩ := r1.get hx
    obtain ⟨u2, e2, q2⟩ := r2.get hy
    have e1' : us.toArray[j] = u1 := by rw [List.getElem?_eq_getElem h1'] at e1; simpa using Option.some.inj e1
    have e2' : ws.toArray[j] = u2 := by rw [List.getElem?_eq_getElem h2'] at e2; simpa using Option.some.inj e2
    rw [e1', e2']
    exact eqT_tree I 40 _ _ _ _ (paired_at hp hx hy) q1 q2
  · rw [List.all_eq_true.mpr fun _ _ => rfl, hsz, beq_self_eq_true]
    exact ⟨.bl true, H, I, rfl, q⟩
/-- two pairs of lists of other lengths -/
def rEqOff (K : PySem.W.Frag) : R2 := fun x y H Q => ∃ a b la lb ma mb xs ys zs ws, x = .ref a ∧ y = .ref b ∧ SqT K H a [.ref la, .ref lb] ∧ SqT K H b [.ref ma, .ref mb] ∧ SqL K H la xs ∧ SqL K H lb ys ∧ SqL K H ma zs ∧ SqL K H mb ws ∧
  xs.length ≠ zs.length ∧ ys.length ≠ ws.length ∧ Q (.bl false) H
theorem op_eqOff (hu : X.A.units + 64 < cLine) : OpR X (compareOp .Eq) (rEqOff X.K) := by
  intro pins s σ H x y u v Q I rx ry h
  obtain ⟨a, b, la, lb, ma, mb, xs, ys, zs, ws, rfl, rfl, ha, hb, h1, h2, h3, h4, n1, n2, q⟩ := h
  cases rx; cases ry
  obtain ⟨us, r1, p1, _⟩ := I.tuple ha
  obtain ⟨vs, r2, p2, _⟩ := I.tuple hb
  obtain ⟨u1, u2, rfl, e1, e2⟩ := vals2 r1
  obtain ⟨v1, v2, rfl, e3, e4⟩ := vals2 r2
  cases e1; cases e2; cases e3; cases e4
  obtain ⟨i1, s1, l1, _⟩ := I.list h1
  obtain ⟨i2, s2, l2, _⟩ := I.list h2
  obtain ⟨i3, s3, l3, _⟩ := I.list h3
  obtain ⟨i4, s4, l4, _⟩ := I.list h4
  have d1 : (i1.toArray.size != i3.toArray.size) = true := by rw [List.size_toArray, List.size_toArray, ← s1.length, ← s3.length]; simpa using n1
  have d2 : (i2.toArray.size != i4.toArray.size) = true := by rw [List.size_toArray, List.size_toArray, ← s2.length, ← s4.length]; simpa using n2
  have ne1 : la ≠ ma := fun e => by subst e; exact n1 (by rw [I.list_inj h1 h3])
  have ne2 : lb ≠ mb := fun e => by subst e; exact n2 (by rw [I.list_inj h2 h4])
  refine PySem.W.eq_tuplesT (n := 1) (e := fun _ => false) p1 p2 (fun j g1 g2 => ?_) (by omega) ⟨.bl false, H, I, rfl, q⟩
  have g1' : j < 2 := by simpa using g1
  rcases (show j = 0 ∨ j = 1 by omega) with rfl | rfl
  · exact .listsLen ne1 l1.isList l3.isList d1
  · exact .listsLen ne2 l2.isList l4.isList d2
end
/-! ### lists of equal data: != -/
section
open PySem.SeqAt PySem.AutoSeq1 PySem.MeetsSeq PySem.MeetsSeq2 PySem.MeetsSeq3
variable {prog : Program} {w : World}
theorem ne_loop0 (l b : Addr) (us ws : Array Value) (n n2 : Nat) (hsz : us.size = ws.size) (k : Nat) :
    ∀ i : Nat, us.size - i = k → MeetsIn prog w (Builtin.«list.__eq__.loop» ⟨[.ref l, .ref b, rawInt i, rawInt 3], []⟩)
      (fun A R s => s.heap.get? l = some { cls := .type "list", data := .seq us n } ∧ s.heap.get? b = some { cls := .type "list", data := .seq ws n2 } ∧
        (∀ j (h1 : j < us.size) (h2 : j < ws.size), EqIn prog w A.in1 s us[j] ws[j] true) ∧ R (.ok (.ret (.bool false))) s) := by
  induction k with
  | zero =>
    intro i hk A R s h
    obtain ⟨hp, g, d, tk, os⟩ := s
    obtain ⟨hl, hb, he, h⟩ := h
    wp_walk using wpAny_loadPart' hl, wpAny_loadPart' hb
    have none1 : us[((i : Nat) : Int).toNat]? = none := by simp; omega
    have none2 : ws[((i : Nat) : Int).toNat]? = none := by simp; omega
    rw [none1, none2]
    wp_walk using wpAny_loadPart' hl, wpAny_loadPart' hb
    show R (.ok (.ret (.bool (us.size != ws.size)))) _
    rw [hsz, bne_self_eq_false]
    exact h
  | succ k ih =>
    intro i hk A R s h
    obtain ⟨hp, g, d, tk, os⟩ := s
    obtain ⟨hl, hb, he, h⟩ := h
    wp_walk using wpAny_loadPart' hl, wpAny_loadPart' hb
    have lt1 : i < us.size := by omega
    have lt2 : i < ws.size := by omega
    have some1 : us[((i : Nat) : Int).toNat]? = some us[i] := by simp [lt1]
    have some2 : ws[((i : Nat) : Int).toNat]? = some ws[i] := by simp [lt2]
    rw [some1, some2]
    refine wpAny_bind (he i lt1 lt2 _ _ ?_)
    wp_walk
    rw [show ((i : Int) + 1) = ((i + 1 : Nat) : Int) by push_cast; rfl]
    refine ⟨plainId_quiet plain_eq_loop _, codeAny_builtin entry_eq_loop ?_⟩
    rw [Around.under_plainId plain_eq_loop _]
    exact ih (i + 1) (by omega) A R _ ⟨hl, hb, he, h⟩
theorem list_ne0 (l b : Addr) (us ws : Array Value) (n n2 : Nat) (hsz : us.size = ws.size) :
    MeetsIn prog w (Builtin.«list.__ne__» ⟨[.ref l, .ref b], []⟩)
      (fun A R s => s.heap.get? l = some { cls := .type "list", data := .seq us n } ∧ s.heap.get? b = some { cls := .type "list", data := .seq ws n2 } ∧
        (∀ j (h1 : j < us.size) (h2 : j < ws.size), EqIn prog w A.in1 s us[j] ws[j] true) ∧ R (.ok (.ret (.bool false))) s) := by
  intro A R s h
  obtain ⟨hp, g, d, tk, os⟩ := s
  obtain ⟨hl, hb, he, h⟩ := h
  have f3 := AutoSeq1.sub_list_list
  have hne : ¬ (us.size != ws.size) = true := by simp [hsz]
  wp_walk using wpAny_loadPart' hl, wpAny_loadPart' hb
  refine ⟨plainId_quiet plain_eq_loop _, codeAny_builtin entry_eq_loop ?_⟩
  rw [Around.under_plainId plain_eq_loop _]
  exact ne_loop0 l b us ws n n2 hsz _ 0 rfl A R _ ⟨hl, hb, he, h⟩
end
section
variable {X : Cx}
/-- two lists of equal data, != -/
def rNeLst : R2 := fun x y H Q => ∃ a b xs ys, x = .ref a ∧ y = .ref b ∧ H a = some (.lst xs) ∧ H b = some (.lst ys) ∧ (∃ K, Paired (EqT K H 40) xs ys ∧ K = X.K) ∧ Q (.bl false) H
theorem op_neLst (hu : X.A.units + 64 < cLine) : OpR X (compareOp .NotEq) (rNeLst (X := X)) := by
  intro pins s σ H x y u v Q I rx ry h
  obtain ⟨a, b, xs, ys, rfl, rfl, ha, hb, ⟨_, hp, rfl⟩, q⟩ := h
  cases rx; cases ry
  obtain ⟨us, n1, r1, o1, _⟩ := I.lst ha
  obtain ⟨ws, n2, r2, o2, _⟩ := I.lst hb
  have hsz : us.toArray.size = ws.toArray.size := by rw [List.size_toArray, List.size_toArray, ← r1.length, ← r2.length]; exact Paired.length hp
  show wpAny _ _ (richCompare .NotEq (.ref a) (.ref b)) _ _ _
  refine PySem.wpAny_richCompare_same_room (T := "list") (op := .NotEq) ⟨_, o1, rfl⟩ ⟨_, o2, rfl⟩ F.slot_list_ne (call_meetsIn F.slot_list_ne ⟨_, o1, rfl⟩ F.entry_list_ne (F.args_list_ne_2 _ _) (list_ne0 a b us.toArray ws.toArray n1 n2 hsz)
    ⟨o1, o2, fun j h1 h2 => ?_, (fun z => nomatch z), ⟨.bl false, H, I, rfl, q⟩⟩) (by omega)
  have h1' : j < us.length := by simpa using h1
  have h2' : j < ws.length := by simpa using h2
  have hx : xs[j]? = some (xs[j]'(by rw [r1.length]; exact h1')) := List.getElem?_eq_getElem _
  have hy : ys[j]? = some (ys[j]'(by rw [r2.length]; exact h2')) := List.getElem?_eq_getElem _
  obtain ⟨u1, e1, q1⟩ := r1.get hx
  obtain ⟨u2, e2, q2⟩ := r2.get hy
  have e1' : us.toArray[j] = u1 := by rw [List.getElem?_eq_getElem h1'] at e1; simpa using Option.some.inj e1
  have e2' : ws.toArray[j] = u2 := by rw [List.getElem?_eq_getElem h2'] at e2; simpa using Option.some.inj e2
  rw [e1', e2']
  refine (eqT_tree I 40 _ _ _ _ (paired_at hp hx hy) q1 q2).at X.A.in1 ?_
  show X.A.units + 1 + 40 < cLine
  omega
end
end L2

/-! ### dicts whose keys are nested tuples -/
namespace L2
open PySem PySem.Spec PyProof.Rows
mutual
/-- a value is a nested key, by the tracked tuples -/
inductive NKv (H : Hp) : NestedKey → V → Prop
  | num (i : Int) : NKv H (.num i) (.int i)
  | tup {a : Addr} {xs : List V} {ks : List NestedKey} : H a = some (.tup xs) → NKs H ks xs → NKv H (.tup ks) (.ref a)
inductive NKs (H : Hp) : List NestedKey → List V → Prop
  | nil : NKs H [] []
  | cons {k : NestedKey} {x : V} {ks : List NestedKey} {xs : List V} : NKv H k x → NKs H ks xs → NKs H (k :: ks) (x :: xs)
end
mutual
theorem NKv.mono {H H' : Hp} (ht : ∀ b xs, H b = some (.tup xs) → H' b = some (.tup xs)) : ∀ (k : NestedKey) (x : V), NKv H k x → NKv H' k x
  | _, _, .num i => .num i
  | .tup ks, _, .tup h n => .tup (ht _ _ h) (NKs.mono ht ks _ n)
theorem NKs.mono {H H' : Hp} (ht : ∀ b xs, H b = some (.tup xs) → H' b = some (.tup xs)) : ∀ (ks : List NestedKey) (xs : List V), NKs H ks xs → NKs H' ks xs
  | _, _, .nil => .nil
  | k :: ks, x :: xs, .cons h n => .cons (NKv.mono ht k x h) (NKs.mono ht ks xs n)
end
section
variable {P : Program} {w : World} {H : Hp} {h : Heap}
mutual
theorem NKv.is (ok : HOk P w H h) : ∀ (k : NestedKey) (x : V) (u : Value), NKv H k x → RelV x u → NestedIs h k u
  | _, _, u, .num i, r => by obtain ⟨t, rfl⟩ := r; exact .int i t
  | .tup ks, _, u, .tup e n, r => by
    cases r
    obtain ⟨_, its, rv, o, ho, hc, m, hd⟩ := (show ObjOk P w H h _ (.tup _) from ok _ _ e)
    exact .tup ho hc hd (by simpa using NKs.all ok ks _ its n rv)
theorem NKs.all (ok : HOk P w H h) : ∀ (ks : List NestedKey) (xs : List V) (us : List Value), NKs H ks xs → Vals xs us → NestedAll h ks us
  | _, _, us, .nil, r => by cases r; exact .nil
  | k :: ks, x :: xs, us, .cons a n, r => by
    cases r with
    | cons r1 r2 => exact .cons (NKv.is ok k x _ a r1) (NKs.all ok ks xs _ n r2)
end
end
/-- the dict's object: its keys with their addresses, its values -/
def nkO (P : Program) (w : World) (a : Addr) (kas : List (NestedKey × Addr)) (vs : List V) : HO := .ext fun h => kas.length ≤ 1000 ∧ (a == sysModules) = false ∧
  ∃ (o : Obj) (es : Array DictEntry) (ep : Nat) (xs : List (NestedKey × Addr × Value)), h.get? a = some o ∧ o.ExactDict ∧ o.data = .dict es ep ∧ es.toList = xs.map (entryOfKey (nestedKind P w)) ∧ xs.map (fun x => (x.1, x.2.1)) = kas ∧ Vals vs (xs.map (·.2.2)) ∧ (xs.map (·.1)).Nodup
/-- at a stands a dict with the nested keys ks, their values vs -/
def NkAt (P : Program) (w : World) (H : Hp) (a : Addr) (ks : List NestedKey) (vs : List V) : Prop :=
  ∃ kas, kas.map (·.1) = ks ∧ H a = some (nkO P w a kas vs) ∧ ∀ p ∈ kas, NKv H p.1 (.ref p.2) ∧ p.1.depth ≤ 8
theorem NkAt.mono {P : Program} {w : World} {H H' : Hp} {a : Addr} {ks : List NestedKey} {vs : List V} (h : NkAt P w H a ks vs) (ht : ∀ b xs, H b = some (.tup xs) → H' b = some (.tup xs)) (ha : ∀ o, H a = some o → H' a = some o) : NkAt P w H' a ks vs := by
  obtain ⟨kas, e, h1, h2⟩ := h
  exact ⟨kas, e, ha _ h1, fun p hp => ⟨NKv.mono ht _ _ (h2 p hp).1, (h2 p hp).2⟩⟩
section
variable {X : Cx} {pins : List (Addr × Obj)} {σ : St} {H : Hp} {s : Shared}
theorem nkO_ok {P : Program} {w : World} {H : Hp} {h : Heap} {a : Addr} {kas : List (NestedKey × Addr)} {vs : List V} (hz : kas.length ≤ 1000) (lo : (a == sysModules) = false) {xs : List (NestedKey × Addr × Value)}
    (hm : h.DictOfH (nestedKind P w) a xs) (e : xs.map (fun x => (x.1, x.2.1)) = kas) (r : Vals vs (xs.map (·.2.2))) : ObjOk P w H h a (nkO P w a kas vs) := by
  obtain ⟨o, es, ep, ho, hx, hd, he, _, nd⟩ := hm
  exact ⟨⟨hz, lo, o, es, ep, xs, ho, hx, hd, he, e, r, nd⟩, ⟨o, ho⟩, fun h1 h2 q k => let ⟨a1, a2, o, es, ep, xs, ho, q⟩ := q; ⟨a1, a2, o, es, ep, xs, k o ho, q⟩⟩
theorem nk_of (I : Inv X pins σ H s) {a : Addr} {ks : List NestedKey} {vs : List V} (h : NkAt X.prog X.w H a ks vs) :
    ks.length ≤ 1000 ∧ (a == sysModules) = false ∧ ∃ xs : List (NestedKey × Addr × Value), s.heap.DictOfH (nestedKind X.prog X.w) a xs ∧ xs.map (·.1) = ks ∧ Vals vs (xs.map (·.2.2)) ∧ (∀ x ∈ xs, NKv H x.1 (.ref x.2.1) ∧ x.1.depth ≤ 8) ∧ H a = some (nkO X.prog X.w a (xs.map fun x => (x.1, x.2.1)) vs) := by
  obtain ⟨kas, e, h1, h2⟩ := h
  obtain ⟨⟨hz, lo, o, es, ep, xs, ho, hx, hd, he, ek, r, nd⟩, _⟩ := (show ObjOk X.prog X.w H s.heap a (nkO X.prog X.w a kas vs) from I.hok a _ h1)
  subst ek
  have hk : xs.map (·.1) = ks := by rw [← e, List.map_map]; rfl
  have hall : ∀ x ∈ xs, NKv H x.1 (.ref x.2.1) ∧ x.1.depth ≤ 8 := fun x hm => h2 (x.1, x.2.1) (List.mem_map.mpr ⟨x, hm, rfl⟩)
  refine ⟨by rw [← hk, List.length_map]; simpa using hz, lo, xs, ⟨o, es, ep, ho, hx, hd, he, fun x hm => ⟨NKv.is I.hok _ _ _ (hall x hm).1 rfl, (hall x hm).2⟩, nd⟩, hk, r, hall, h1⟩
/-- {}: a dict for nested keys -/
def tNewNk (P : Program) (w : World) : TE := fun _ H Q => ∀ p, H p = none → Q (.ref p) (upd H p (nkO P w p [] []))
theorem pe_newNk {pos : Pos} : PE X (.Dict [] [] pos) (tNewNk X.prog X.w) := by
  refine ⟨fun pins s σ H Q I h => ?_⟩
  have hb := I.big
  have e0 : ObjOk X.prog X.w (upd H s.heap.objs.size (nkO X.prog X.w s.heap.objs.size [] [])) (s.heap.push { cls := .type "dict", data := .dict #[] }) s.heap.objs.size (nkO X.prog X.w s.heap.objs.size [] []) :=
    nkO_ok (Nat.zero_le _) (beq_eq_false_iff_ne.mpr (Nat.ne_of_gt hb)) (Heap.DictOfH.new s.heap) rfl .nil
  have I2 : Inv X pins σ (upd H s.heap.objs.size (nkO X.prog X.w s.heap.objs.size [] [])) { s with heap := s.heap.push { cls := .type "dict", data := .dict #[] } } := I.laid (t' := s.toks) (fun b u e => Heap.get?_push_of_some _ e) (Nat.le_refl _) e0
  exact wpAny_Dict_empty ⟨.ref s.heap.objs.size, _, I2, rfl, h _ (I.hok.fresh (Nat.le_refl _))⟩
/-- d.setdefault(k, x) -/
theorem nk_setd {A : Around} {E : Value → Shared → Prop} {a b : Addr} {ks : List NestedKey} {vs : List V} {k : NestedKey} {d : V} {r : Value} {Q : Value → Shared → Prop} (hu : A.units + 16 < cLine) (I : Inv X pins σ H s) (h : NkAt X.prog X.w H a ks vs) (hb : NKv H k (.ref b)) (hd : k.depth ≤ 8) (rd : RelV d r) (hl : ks.length < 1000)
    (h1 : ∀ (i : Nat) (v : V), ks[i]? = some k → vs[i]? = some v → ∀ w' s', Inv X pins σ H s' → RelV v w' → Q w' s')
    (h2 : k ∉ ks → ∀ H' w' s', Inv X pins σ H' s' → NkAt X.prog X.w H' a (ks ++ [k]) (vs ++ [d]) → (∀ c o, H c = some o → c ≠ a → H' c = some o) → (∀ c, H c = none → H' c = none) → RelV d w' → Q w' s') :
    wpAny (model X.prog X.w) A (call (.builtin "dict.setdefault") [.ref a, .ref b, r]) Q E s := by
  obtain ⟨hz, lo, xs, hm, hk, rv, hall, ha⟩ := nk_of I h
  have hxl : xs.length = ks.length := by rw [← hk, List.length_map]
  have hkey : (nestedKind X.prog X.w).is s.heap k b := ⟨NKv.is I.hok _ _ _ hb rfl, hd⟩
  refine call_setdefault_heap (knd := nestedKind X.prog X.w) (show A.in1.units + 8 < cLine from by show A.units + 1 + 8 < cLine; omega) hkey lo hm (fun p hp => ?_) (fun hn h' hm' hs => ?_) (by rw [hxl, sizeLine_eq]; omega)
  · have : ∃ i : Nat, xs[i]? = some (k, p) := by
      unfold atKey at hp
      cases e : xs.find? (fun x => decide (x.1 = k)) with
      | none => rw [e] at hp; cases hp
      | some y =>
        rw [e] at hp
        have hy := List.find?_some e
        obtain ⟨i, hi⟩ := List.mem_iff_getElem?.mp (List.mem_of_find?_eq_some e)
        have e1 : y.1 = k := by simpa using hy
        have e2 : y.2 = p := by simpa using hp
        exact ⟨i, by rw [hi, ← e1, ← e2]⟩
    obtain ⟨i, hi⟩ := this
    have hu1 : (xs.map (·.2.2))[i]? = some p.2 := by rw [List.getElem?_map, hi]; rfl
    have hik : ks[i]? = some k := by rw [← hk, List.getElem?_map, hi]; rfl
    have hlt : i < vs.length := by rw [rv.length]; exact (List.getElem?_eq_some_iff.mp hu1).1
    obtain ⟨u, eu, ru⟩ := rv.get (List.getElem?_eq_getElem hlt)
    rw [hu1] at eu
    cases eu
    exact h1 i _ hik (List.getElem?_eq_getElem hlt) _ _ (I.tok _) ru
  · have hnk : k ∉ ks := fun hmem => by
      rw [← hk, List.mem_map] at hmem
      obtain ⟨x, hx, e⟩ := hmem
      obtain ⟨i, hi⟩ := List.mem_iff_getElem?.mp hx
      have := atKey_of_get (xs := xs) (k := k) (p := x.2) (by obtain ⟨_, _, _, _, _, _, _, _, nd⟩ := hm; exact nd) (i := i) (by rw [hi, ← e])
      rw [hn] at this; cases this
    rw [storedH_new hn] at hm'
    have he : ∃ q, h'.get? a = some q := let ⟨q, _, _, hq, _⟩ := hm'; ⟨q, hq⟩
    have rv' : Vals (vs ++ [d]) ((xs ++ [(k, b, r)]).map (·.2.2)) := by rw [List.map_append]; exact rv.append (.cons rd .nil)
    have ob : ObjOk X.prog X.w (upd H a (nkO X.prog X.w a ((xs ++ [(k, b, r)]).map fun x => (x.1, x.2.1)) (vs ++ [d]))) h' a (nkO X.prog X.w a ((xs ++ [(k, b, r)]).map fun x => (x.1, x.2.1)) (vs ++ [d])) :=
      nkO_ok (by simp [hxl]; omega) lo hm' rfl rv'
    have hna : ∀ c ys, H c = some (.tup ys) → c ≠ a := fun c ys e1 e2 => by subst e2; rw [ha] at e1; cases e1
    refine h2 hnk _ _ _ (d_write (t' := s.toks + (nestedKind X.prog X.w).draws k) I (by rw [ha]; exact True.intro) hs he ob) ?_ (fun c o e1 e2 => by rw [upd_ne e2]; exact e1) (fun c e1 => ?_) rd
    · have up : ∀ c ys, H c = some (.tup ys) → (upd H a (nkO X.prog X.w a ((xs ++ [(k, b, r)]).map fun x => (x.1, x.2.1)) (vs ++ [d]))) c = some (.tup ys) := fun c ys e1 => by rw [upd_ne (hna c ys e1)]; exact e1
      refine ⟨(xs ++ [(k, b, r)]).map fun x => (x.1, x.2.1), ?_, upd_same, fun p hp => ?_⟩
      · rw [List.map_map, ← hk]
        show (xs ++ [(k, b, r)]).map (·.1) = _
        rw [List.map_append]; rfl
      · rw [List.mem_map] at hp
        obtain ⟨x, hx, rfl⟩ := hp
        rw [List.mem_append] at hx
        rcases hx with hx | hx
        · exact ⟨NKv.mono up _ _ (hall x hx).1, (hall x hx).2⟩
        · simp at hx; subst hx
          exact ⟨NKv.mono up _ _ hb, hd⟩
    · have : c ≠ a := fun e => by subst e; rw [ha] at e1; cases e1
      rw [upd_ne this]; exact e1
/-- the reading of d.setdefault(y, z) -/
def tSetNk (P : Program) (w : World) (td ty tx : TE) : TE := fun σ H Q => td σ H fun x H1 => ∃ a ks0 vs0, x = .ref a ∧ NkAt P w H1 a ks0 vs0 ∧ ty σ H1 fun y H2 => tx σ H2 fun z H3 => ∃ b k ks vs, y = .ref b ∧ NkAt P w H3 a ks vs ∧ NKv H3 k (.ref b) ∧ k.depth ≤ 8 ∧ ks.length < 1000 ∧
  (∀ (i : Nat) v, ks[i]? = some k → vs[i]? = some v → Q v H3) ∧
  (k ∉ ks → ∀ H', NkAt P w H' a (ks ++ [k]) (vs ++ [z]) → (∀ c o, H3 c = some o → c ≠ a → H' c = some o) → (∀ c, H3 c = none → H' c = none) → Q z H')
theorem pe_setNk {o e f : Expr} {td ty tx : TE} {apos cpos : Pos} (hu : X.A.units + 16 < cLine) (ho : PE X o td) (he : PE X e ty) (hf : PE X f tx) (m : M2 X o "setdefault" apos e f cpos) : PE X (.Call (.Attribute o "setdefault" apos) [e, f] [] cpos) (tSetNk X.prog X.w td ty tx) := by
  refine ⟨fun pins s σ H Q I h => ?_⟩
  refine wpAny_Call_method m.base m.few m.line PySem.F.plainAttrs_dict PySem.F.slot_dict_setdefault PySem.F.type_dict_setdefault (thn (ho.run pins s σ H _ I h) fun u s1 ⟨x, H1, I1, rx, a, ks0, vs0, ex, d, q1⟩ => ?_)
  subst ex
  obtain rfl : u = Value.ref a := rx
  obtain ⟨_, _, xs, dd, _⟩ := nk_of I1 d
  refine ⟨dd.typeIs, fun b q => ?_, ?_⟩
  · cases q
    obtain ⟨ob, _, _, g1, g2, _⟩ := dd
    exact ⟨ob, g1, g2.2.1⟩
  rw [m.trees]
  refine Calls.callWith_builtin rfl (Calls.evalArgs_plain (Calls.spliced_cons (thn (he.run pins s1 σ H1 _ I1 q1) fun iv s2 ⟨y, H2, I2, ry, q2⟩ =>
    Calls.spliced_cons (thn (hf.run pins s2 σ H2 _ I2 q2) fun fv s3 ⟨z, H3, I3, rz, b, k, ks, vs, ey, hn, hk, hdp, hl, q3, q4⟩ => Calls.spliced_nil ?_))))
  subst ey
  obtain rfl : iv = Value.ref b := ry
  exact nk_setd hu I3 hn hk hdp rz hl (fun i v e1 e2 w' s4 I4 rw' => ⟨v, _, I4, rw', q3 i v e1 e2⟩) fun hnk H' w' s4 I4 hn' k1 k2 rw' => ⟨z, H', I4, rw', q4 hnk H' hn' k1 k2⟩
/-- len of such a dict -/
theorem call_lenNk : CallR X (.builtin "len") (fun xs H Q => ∃ a ks vs, xs = [V.ref a] ∧ NkAt X.prog X.w H a ks vs ∧ Q (.int ks.length) H) := by
  intro pins s σ H xs us Q I r h
  obtain ⟨a, ks, vs, rfl, hn, q⟩ := h
  obtain ⟨u, rfl, ru⟩ := vals1 r
  cases ru
  obtain ⟨hz, lo, xs, hm, hk, _, _, _⟩ := nk_of I hn
  have hxl : xs.length = ks.length := by rw [← hk, List.length_map]
  refine call_len_dictH lo hm (by omega) ?_
  rw [hxl]
  exact ⟨.int ks.length, H, I.tok _, ⟨_, rfl⟩, q⟩
end
end L2
end
section
set_option Elab.async false
set_option linter.all false
set_option maxRecDepth 100000
set_option maxHeartbeats 2000000
/-! Further rules: a display of one tuple key; dicts of other lengths compared. -/
namespace L2
open PySem PySem.Spec PyProof.Rows
section
variable {X : Cx}
/-- two dicts of other lengths are not equal -/
def rEqLen : R2 := fun x y H Q => ∃ a b ks ls, x = .ref a ∧ y = .ref b ∧ H a = some (.dK ks) ∧ H b = some (.dK ls) ∧ ks.length ≠ ls.length ∧ Q (.bl false) H
theorem op_eqLen (hu : X.A.units < cLine) : OpR X (compareOp .Eq) rEqLen := by
  intro pins s σ H x y v u Q I rx ry h
  obtain ⟨a, b, ks, ls, rfl, rfl, ea, eb, hlen, q⟩ := h
  obtain rfl : v = Value.ref a := rx
  obtain rfl : u = Value.ref b := ry
  obtain ⟨_, ya, va, ra, da⟩ := (show ObjOk X.prog X.w H s.heap a (.dK ks) from I.hok a _ ea)
  obtain ⟨_, yb, vb, rb, db⟩ := (show ObjOk X.prog X.w H s.heap b (.dK ls) from I.hok b _ eb)
  have hl : va.length ≠ vb.length := by rw [← ra.length, ← rb.length]; exact hlen
  exact PySem.W.keq_eq (knd := mixKind X.prog X.w) (r := true) ya yb da db hu (fun e => absurd e hl) (fin_bl I q (by simp [hl]))
/-- {k: v}, the key a tuple of ints and texts -/
def tDispT (tk tv : TE) : TE := fun σ H Q => ∀ p, H p = none → tk σ (upd H p (.dT [])) fun x H1 => tv σ H1 fun y H2 => ∃ (k : List Key) (b : Addr), x = .ref b ∧ H2 p = some (.dT []) ∧ H2 b = some (.tup (k.map kV)) ∧ Q (.ref p) (upd H2 p (.dT [(k, y)]))
theorem pe_dispT {k v : Expr} {tk tv : TE} {pos : Pos} (hu : X.A.units + 1 < cLine) (hk : PE X k tk) (hv : PE X v tv) : PE X (.Dict [some k] [v] pos) (tDispT tk tv) := by
  refine ⟨fun pins s σ H Q I q => ?_⟩
  have hn := I.hok.fresh (Nat.le_refl s.heap.objs.size)
  have I1 := I.laid (a := s.heap.objs.size) (o := .dT []) (h' := s.heap.push { cls := .type "dict", data := .dict #[] }) (t' := s.toks) (fun _ _ q => Heap.get?_push_of_some _ q) (Nat.le_refl _) (dt_empty s.heap I.big)
  refine wpAny_Dict_any rfl rfl (by simp) (by simp) (pairTrees_cons_walk (thn (hk.run pins _ σ _ _ I1 (q _ hn)) fun kv s1 ⟨x, H1, I2, rx, q1⟩ => thn (hv.run pins s1 σ H1 _ I2 q1) fun vv s2 ⟨y, H2, I3, ry, b, p, ex, hp, hb, q2⟩ => pairTrees_nil_walk ?_))
  subst ex
  cases (show kv = Value.ref p from rx)
  obtain ⟨z, hd, xs, rel, dd⟩ := dt_of I3.hok hp
  cases rel
  unfold storeAll
  rw [List.forIn_cons]
  refine wpAny_bind (wpAny_bind (wpAny_dictSet_heap (hsz := by simp) (show X.A.units < cLine by omega) (key_of I3.hok hb) dd fun h' dd' hs => wpAny_pure ?_))
  show wpAny _ _ (forIn ([] : List (Value × Value)) _ _) _ _ _
  rw [List.forIn_nil]
  refine wpAny_pure ⟨.ref s.heap.objs.size, _, ?_, rfl, q2⟩
  obtain ⟨q, es, ep, hq, h2, h3, h4, _, h5⟩ := dd'
  refine d_write I3 (by rw [hp]; exact True.intro) hs ⟨q, hq⟩ ⟨by simp [sizeLine_eq], hd, _, ((KT.put (H := H2) (kvs := []) (xs := []) .nil b hb ry)).keeps fun c ys ec => ?_, q, es, ep, hq, h2, h3, h4, h5⟩
  rw [upd_ne (ne_of ec hp (fun z => nomatch z))]
  exact ec
end
end L2
namespace L2
open PySem PySem.Spec PyProof.Rows
section
variable {X : Cx}
/-- name = {..: .. for ..} on one line, the name a local -/
theorem ps_setDc {i : Nat} {y : Str} {py : Pos} {kx vx tg iter : Expr} {ifs : List Expr} {scope : Scope} {own : List (Str × Nat)} {pos spos : Pos} {wi : TI} {g : TG} {tt : TT} {tk tv : TE} (hc : X.calm = true) (hN : X.N.Nodup) (hy : X.N[i]? = some y) (hyl : X.env.scope.names.lookup y = some .local)
    (hsw : swapsWith (.DictComp kx vx [⟨tg, iter, ifs, 0⟩] scope pos) (some (.Name y py)) spos.line X.env = pure true) (hi : PI X tg iter wi) (ok : BlkOk X.N X.env.scope scope own)
    (hg : ∀ (s : Shared) (H : Hp) (C : Addr) (cl : List (Str × Addr)) (fp : List Addr), PG (X.blk s H scope (compEnvC scope cl C X.env) fp) tg g) (ht : ∀ (s : Shared) (H : Hp) (C : Addr) (cl : List (Str × Addr)) (fp : List Addr), PTs (X.blk s H scope (compEnvC scope cl C X.env) fp) ifs tt)
    (hk : ∀ (s : Shared) (H : Hp) (C : Addr) (cl : List (Str × Addr)) (fp : List Addr), PE (X.blk s H scope (compEnvC scope cl C X.env) fp) kx tk)
    (he : ∀ (s : Shared) (H : Hp) (C : Addr) (cl : List (Str × Addr)) (fp : List Addr), PE (X.blk s H scope (compEnvC scope cl C X.env) fp) vx tv) (hs : ∀ x, foldedSetIterable iter X.env x = pure x := by intro _; rfl) :
    PS X (.Assign [.Name y py] (.DictComp kx vx [⟨tg, iter, ifs, 0⟩] scope pos) spos) (tAsg (tDc wi g tt tk tv (own.map (·.2))) (gName i)) := by
  refine ⟨fun pins s σ H D I h => ?_⟩
  rw [exec_Assign_Name_used _ _ _ _ hsw]
  refine wpAny_bind (wpAny_standAt (wpAny_bind ?_))
  show wpAny _ X.A (do let _ ← comprehension (.DictComp kx vx [⟨tg, iter, ifs, 0⟩] scope pos) scope X.env (firstIterPos [⟨tg, iter, ifs, 0⟩] pos) newDict false (eval iter X.env) (some (assign (.Name y py) X.env))) _ _ s
  have h : tDc wi g tt tk tv (own.map (·.2)) σ H (fun x H1 => gName i x σ H1 D.nx) := h
  refine wpAny_bind (thn (dc_core (Qf := fun _ s' => SP X pins D .next s') hc hN I hi ok hg ht hk he hs h fun L C s' m H' I' q hn f => ?_) fun _ s' hq => wpAny_pure (wpAny_pure hq))
  show wpAny _ _ (assign (.Name y py) X.env (.ref L)) _ _ _
  refine wpAny_assign_Name (store_ok2 (v := V.ref L) I' hN hy (.inl hyl) rfl (fun s2 I2 ⟨a, sb, ha⟩ => ?_) (.inr hyl))
  obtain ⟨f0, f1, f2, f3, f4, f5⟩ := f
  have haC : C ≠ a := by
    rcases ha with z | z
    · rw [z]; exact f1
    · exact fun e => f4 y a z e.symm
  refine ⟨m, hn.sameBut sb haC, fun h3 sb3 => ?_⟩
  exact ⟨_, H', I2.turned (t' := s2.toks) (fun b o hb e => (sb3.2 b hb).trans e) f0 f1 f3 f4 f5, q⟩
theorem sw_trueD {kx vx : Expr} {gs : List Comprehension} {scope : Scope} {pos py : Pos} {y : Str} {l : Nat} {env : Env} (hk : env.scope.kind = .function) (hy : env.scope.names.lookup y = some .local) (hl : (py.line == pos.line) = true)
    (ha : (scope.names.any fun (n, k) => n == y && (k == .local || k == .cell)) = false) : swapsWith (.DictComp kx vx gs scope pos) (some (.Name y py)) l env = pure true := by
  have ky : env.kindOf y = some .local := hy
  have hb : env.blockKind = .function := by unfold Env.blockKind; rw [hk]; rfl
  unfold swapsWith
  simp only [hb, ky, ha, Expr.pos, hl]
  rfl
end
end L2
end
section
set_option Elab.async false
set_option linter.all false
set_option maxRecDepth 100000
set_option maxHeartbeats 2000000
/-! The text by places, and what its top has written. -/
namespace Bc
open PySem L2
def top (i : Nat) : Stmt := PySem.Challenge.pw_ballchutes_k42_whole_ways.main.body.getD i (.Pass ⟨0, 0, 0, 0⟩)
abbrev s_minors_of : Stmt := top 9
abbrev N_minors_of : List Str := ["rows", "told", "before", "found", "at", "pivot", "low", "factor", "row", "here", "there"]
theorem sc_minors_of : FnScope N_minors_of ["rows"] (defScope s_minors_of) := ⟨rfl, rfl, rfl, by decide +kernel, rfl, by decide +kernel, by decide +kernel⟩
abbrev s_is_number : Stmt := top 15
abbrev N_is_number : List Str := ["thing"]
theorem sc_is_number : FnScope N_is_number ["thing"] (defScope s_is_number) := ⟨rfl, rfl, rfl, by decide +kernel, rfl, by decide +kernel, by decide +kernel⟩
abbrev s_is_name : Stmt := top 16
abbrev N_is_name : List Str := ["thing", "sign"]
theorem sc_is_name : FnScope N_is_name ["thing"] (defScope s_is_name) := ⟨rfl, rfl, rfl, by decide +kernel, rfl, by decide +kernel, by decide +kernel⟩
abbrev s_is_row : Stmt := top 17
abbrev N_is_row : List Str := ["thing", "known", "drop", "target"]
theorem sc_is_row : FnScope N_is_row ["thing", "known"] (defScope s_is_row) := ⟨rfl, rfl, rfl, by decide +kernel, rfl, by decide +kernel, by decide +kernel⟩
abbrev s_is_knot : Stmt := top 18
abbrev N_is_knot : List Str := ["thing", "known"]
theorem sc_is_knot : FnScope N_is_knot ["thing", "known"] (defScope s_is_knot) := ⟨rfl, rfl, rfl, by decide +kernel, rfl, by decide +kernel, by decide +kernel⟩
abbrev s_first_wrong : Stmt := top 19
abbrev N_first_wrong : List Str := ["names", "seen", "name"]
theorem sc_first_wrong : FnScope N_first_wrong ["names"] (defScope s_first_wrong) := ⟨rfl, rfl, rfl, by decide +kernel, rfl, by decide +kernel, by decide +kernel⟩
abbrev s_Net_init : Stmt := inClass (top 20) 0
abbrev N_Net_init : List Str := ["self", "knots", "inlets", "outlets", "wrong", "known", "name", "met"]
theorem sc_Net_init : FnScope N_Net_init ["self", "knots", "inlets", "outlets"] (defScope s_Net_init) := ⟨rfl, rfl, rfl, by decide +kernel, rfl, by decide +kernel, by decide +kernel⟩
abbrev s_Net_eq : Stmt := inClass (top 20) 1
abbrev N_Net_eq : List Str := ["self", "other"]
abbrev s_Net_len : Stmt := inClass (top 20) 2
abbrev N_Net_len : List Str := ["self"]
abbrev s_Net_contains : Stmt := inClass (top 20) 3
abbrev N_Net_contains : List Str := ["self", "name"]
abbrev s_Net_met : Stmt := inClass (top 20) 4
abbrev N_Net_met : List Str := ["self", "found", "rest", "name", "drop", "target"]
theorem sc_Net_met : FnScope N_Net_met ["self"] (defScope s_Net_met) := ⟨rfl, rfl, rfl, by decide +kernel, rfl, by decide +kernel, by decide +kernel⟩
abbrev s_Net_start : Stmt := inClass (top 20) 5
abbrev N_Net_start : List Str := ["self", "name"]
theorem sc_Net_start : FnScope N_Net_start ["self"] (defScope s_Net_start) := ⟨rfl, rfl, rfl, by decide +kernel, rfl, by decide +kernel, by decide +kernel⟩
abbrev s_Net_front : Stmt := inClass (top 20) 6
abbrev N_Net_front : List Str := ["self", "name"]
theorem sc_Net_front : FnScope N_Net_front ["self", "name"] (defScope s_Net_front) := ⟨rfl, rfl, rfl, by decide +kernel, rfl, by decide +kernel, by decide +kernel⟩
abbrev s_Net_period : Stmt := inClass (top 20) 7
abbrev N_Net_period : List Str := ["self", "name"]
theorem sc_Net_period : FnScope N_Net_period ["self", "name"] (defScope s_Net_period) := ⟨rfl, rfl, rfl, by decide +kernel, rfl, by decide +kernel, by decide +kernel⟩
abbrev s_Net_turned : Stmt := inClass (top 20) 8
abbrev N_Net_turned : List Str := ["self", "name", "found", "drop", "target"]
theorem sc_Net_turned : FnScope N_Net_turned ["self", "name"] (defScope s_Net_turned) := ⟨rfl, rfl, rfl, by decide +kernel, rfl, by decide +kernel, by decide +kernel⟩
abbrev s_Net_check_standing : Stmt := inClass (top 20) 9
abbrev N_Net_check_standing : List Str := ["self", "standing", "name"]
theorem sc_Net_check_standing : FnScope N_Net_check_standing ["self", "standing"] (defScope s_Net_check_standing) := ⟨rfl, rfl, rfl, by decide +kernel, rfl, by decide +kernel, by decide +kernel⟩
abbrev s_Net_place_behind : Stmt := inClass (top 20) 10
abbrev N_Net_place_behind : List Str := ["self", "name", "place", "many", "late", "front", "period"]
theorem sc_Net_place_behind : FnScope N_Net_place_behind ["self", "name", "place", "many"] (defScope s_Net_place_behind) := ⟨rfl, rfl, rfl, by decide +kernel, rfl, by decide +kernel, by decide +kernel⟩
abbrev s_Net_dropped : Stmt := inClass (top 20) 11
abbrev N_Net_dropped : List Str := ["self", "name", "place", "many", "front", "turn", "found", "left", "rows", "drop", "whole", "rest", "at"]
theorem sc_Net_dropped : FnScope N_Net_dropped ["self", "name", "place", "many"] (defScope s_Net_dropped) := ⟨rfl, rfl, rfl, by decide +kernel, rfl, by decide +kernel, by decide +kernel⟩
abbrev s_count : Stmt := top 21
abbrev N_count : List Str := ["found", "drop", "many", "target"]
theorem sc_count : FnScope N_count ["found", "drop", "many"] (defScope s_count) := ⟨rfl, rfl, rfl, by decide +kernel, rfl, by decide +kernel, by decide +kernel⟩
abbrev s_check_net : Stmt := top 22
abbrev N_check_net : List Str := ["thing"]
theorem sc_check_net : FnScope N_check_net ["thing"] (defScope s_check_net) := ⟨rfl, rfl, rfl, by decide +kernel, rfl, by decide +kernel, by decide +kernel⟩
abbrev s_lattice : Stmt := top 24
abbrev N_lattice : List Str := ["net", "rows", "name", "told", "other"]
theorem sc_lattice : FnScope N_lattice ["net"] (defScope s_lattice) := ⟨rfl, rfl, rfl, by decide +kernel, rfl, by decide +kernel, by decide +kernel⟩
abbrev s_ends : Stmt := top 25
abbrev N_ends : List Str := ["net"]
theorem sc_ends : FnScope N_ends ["net"] (defScope s_ends) := ⟨rfl, rfl, rfl, by decide +kernel, rfl, by decide +kernel, by decide +kernel⟩
abbrev s_check_balls : Stmt := top 27
abbrev N_check_balls : List Str := ["net", "balls", "found", "name", "knot", "one"]
theorem sc_check_balls : FnScope N_check_balls ["net", "balls"] (defScope s_check_balls) := ⟨rfl, rfl, rfl, by decide +kernel, rfl, by decide +kernel, by decide +kernel⟩
abbrev s_Board_init : Stmt := inClass (top 28) 0
abbrev N_Board_init : List Str := ["self", "net", "standing", "waiting", "name"]
theorem sc_Board_init : FnScope N_Board_init ["self", "net", "standing", "waiting"] (defScope s_Board_init) := ⟨rfl, rfl, rfl, by decide +kernel, rfl, by decide +kernel, by decide +kernel⟩
abbrev s_Board_take : Stmt := inClass (top 28) 1
abbrev N_Board_take : List Str := ["self", "name", "many", "place", "target", "number"]
theorem sc_Board_take : FnScope N_Board_take ["self", "name", "many"] (defScope s_Board_take) := ⟨rfl, rfl, rfl, by decide +kernel, rfl, by decide +kernel, by decide +kernel⟩
abbrev s_Board_first_waiting : Stmt := inClass (top 28) 2
abbrev N_Board_first_waiting : List Str := ["self", "name"]
theorem sc_Board_first_waiting : FnScope N_Board_first_waiting ["self"] (defScope s_Board_first_waiting) := ⟨rfl, rfl, rfl, by decide +kernel, rfl, by decide +kernel, by decide +kernel⟩
abbrev s_Board_follow : Stmt := inClass (top 28) 3
abbrev N_Board_follow : List Str := ["self", "order", "place", "step"]
abbrev s_Settled_init : Stmt := inClass (top 29) 0
abbrev N_Settled_init : List Str := ["self", "taken", "out", "standing", "order"]
theorem sc_Settled_init : FnScope N_Settled_init ["self", "taken", "out", "standing", "order"] (defScope s_Settled_init) := ⟨rfl, rfl, rfl, by decide +kernel, rfl, by decide +kernel, by decide +kernel⟩
abbrev s_Settled_eq : Stmt := inClass (top 29) 1
abbrev N_Settled_eq : List Str := ["self", "other", "mine"]
abbrev s_Settled_shows : Stmt := inClass (top 29) 2
abbrev N_Settled_shows : List Str := ["self", "net", "balls", "standing", "board"]
abbrev s_begun : Stmt := top 30
abbrev N_begun : List Str := ["net", "balls", "standing", "told"]
theorem sc_begun : FnScope N_begun ["net", "balls", "standing"] (defScope s_begun) := ⟨rfl, rfl, rfl, by decide +kernel, rfl, by decide +kernel, by decide +kernel⟩
abbrev s_settle : Stmt := top 31
abbrev N_settle : List Str := ["net", "balls", "standing", "board", "order", "name", "knot", "many"]
theorem sc_settle : FnScope N_settle ["net", "balls", "standing"] (defScope s_settle) := ⟨rfl, rfl, rfl, by decide +kernel, rfl, by decide +kernel, by decide +kernel⟩
abbrev s_Ways_init : Stmt := inClass (top 34) 0
abbrev N_Ways_init : List Str := ["self", "standings", "steps", "standing", "row"]
theorem sc_Ways_init : FnScope N_Ways_init ["self", "standings", "steps"] (defScope s_Ways_init) := ⟨rfl, rfl, rfl, by decide +kernel, rfl, by decide +kernel, by decide +kernel⟩
abbrev s_Ways_eq : Stmt := inClass (top 34) 1
abbrev N_Ways_eq : List Str := ["self", "other"]
theorem sc_Ways_eq : FnScope N_Ways_eq ["self", "other"] (defScope s_Ways_eq) := ⟨rfl, rfl, rfl, by decide +kernel, rfl, by decide +kernel, by decide +kernel⟩
abbrev s_Ways_len : Stmt := inClass (top 34) 2
abbrev N_Ways_len : List Str := ["self"]
theorem sc_Ways_len : FnScope N_Ways_len ["self"] (defScope s_Ways_len) := ⟨rfl, rfl, rfl, by decide +kernel, rfl, by decide +kernel, by decide +kernel⟩
abbrev s_Ways_follow : Stmt := inClass (top 34) 3
abbrev N_Ways_follow : List Str := ["self", "rows", "number", "found", "name", "out", "many", "one", "more"]
theorem sc_Ways_follow : FnScope N_Ways_follow ["self", "rows", "number"] (defScope s_Ways_follow) := ⟨rfl, rfl, rfl, by decide +kernel, rfl, by decide +kernel, by decide +kernel⟩
abbrev s_Ways_shows : Stmt := inClass (top 34) 4
abbrev N_Ways_shows : List Str := ["self", "net", "standing"]
theorem sc_Ways_shows : FnScope N_Ways_shows ["self", "net", "standing"] (defScope s_Ways_shows) := ⟨rfl, rfl, rfl, by decide +kernel, rfl, by decide +kernel, by decide +kernel⟩
abbrev s_ways : Stmt := top 35
abbrev N_ways : List Str := ["net", "standing", "first", "found", "order", "steps", "row", "name", "late", "key"]
theorem sc_ways : FnScope N_ways ["net", "standing"] (defScope s_ways) := ⟨rfl, rfl, rfl, by decide +kernel, rfl, by decide +kernel, by decide +kernel⟩
abbrev s_classes_of : Stmt := top 36
abbrev N_classes_of : List Str := ["ways", "many", "now", "count", "keys", "late", "number", "row", "key", "goal", "out"]
theorem sc_classes_of : FnScope N_classes_of ["ways"] (defScope s_classes_of) := ⟨rfl, rfl, rfl, by decide +kernel, rfl, by decide +kernel, by decide +kernel⟩
abbrev s_told_apart : Stmt := top 37
abbrev N_told_apart : List Str := ["ways", "one", "other", "found", "order", "seen", "pair", "name", "first", "second", "late"]
theorem sc_told_apart : FnScope N_told_apart ["ways", "one", "other"] (defScope s_told_apart) := ⟨rfl, rfl, rfl, by decide +kernel, rfl, by decide +kernel, by decide +kernel⟩
abbrev s_law_number : Stmt := top 39
abbrev N_law_number : List Str := ["_law_script", "_law_index", "_law_cell", "_law_blend"]
theorem sc_law_number : FnScope N_law_number ["_law_script", "_law_index"] (defScope s_law_number) := ⟨rfl, rfl, rfl, by decide +kernel, rfl, by decide +kernel, by decide +kernel⟩
abbrev s_law_take : Stmt := top 40
abbrev N_law_take : List Str := ["_law_draw", "_law_many"]
theorem sc_law_take : FnScope N_law_take ["_law_draw", "_law_many"] (defScope s_law_take) := ⟨rfl, rfl, rfl, by decide +kernel, rfl, by decide +kernel, by decide +kernel⟩
abbrev s_law_pick : Stmt := top 41
abbrev N_law_pick : List Str := ["_law_draw", "_law_items"]
theorem sc_law_pick : FnScope N_law_pick ["_law_draw", "_law_items"] (defScope s_law_pick) := ⟨rfl, rfl, rfl, by decide +kernel, rfl, by decide +kernel, by decide +kernel⟩
abbrev s_law_rows : Stmt := top 42
abbrev N_law_rows : List Str := ["_law_draw", "_law_names", "_law_outlets", "_law_at", "_law_most", "_law_front", "_law_turn", "_law_shift", "_law_one"]
theorem sc_law_rows : FnScope N_law_rows ["_law_draw", "_law_names", "_law_outlets", "_law_at", "_law_most"] (defScope s_law_rows) := ⟨rfl, rfl, rfl, by decide +kernel, rfl, by decide +kernel, by decide +kernel⟩
abbrev s_law_drop : Stmt := top 43
abbrev N_law_drop : List Str := ["_law_draw", "_law_names", "_law_outlets", "_law_at", "_law_kind", "_law_later"]
theorem sc_law_drop : FnScope N_law_drop ["_law_draw", "_law_names", "_law_outlets", "_law_at"] (defScope s_law_drop) := ⟨rfl, rfl, rfl, by decide +kernel, rfl, by decide +kernel, by decide +kernel⟩
abbrev s_law_net : Stmt := top 44
abbrev N_law_net : List Str := ["_law_draw", "_law_most", "_law_outlets", "_law_names", "_law_knots", "_law_at", "_law_name", "_law_front", "_law_turn", "_law_inlets"]
theorem sc_law_net : FnScope N_law_net ["_law_draw", "_law_most"] (defScope s_law_net) := ⟨rfl, rfl, rfl, by decide +kernel, rfl, by decide +kernel, by decide +kernel⟩
abbrev s_law_fall : Stmt := top 45
abbrev N_law_fall : List Str := ["_law_told", "_law_standing", "_law_knot", "_law_out", "_law_knots", "_law_waiting", "_law_steps", "_law_name", "_law_front", "_law_turn", "_law_rows_here", "_law_target"]
theorem sc_law_fall : FnScope N_law_fall ["_law_told", "_law_standing", "_law_knot", "_law_out"] (defScope s_law_fall) := ⟨rfl, rfl, rfl, by decide +kernel, rfl, by decide +kernel, by decide +kernel⟩
abbrev s_law_start : Stmt := top 46
abbrev N_law_start : List Str := ["_law_told", "_law_found", "_law_name"]
theorem sc_law_start : FnScope N_law_start ["_law_told"] (defScope s_law_start) := ⟨rfl, rfl, rfl, by decide +kernel, rfl, by decide +kernel, by decide +kernel⟩
abbrev s_law_row : Stmt := top 47
abbrev N_law_row : List Str := ["_law_told", "_law_standing", "_law_knot", "_law_out", "_law_name"]
theorem sc_law_row : FnScope N_law_row ["_law_told", "_law_standing", "_law_knot"] (defScope s_law_row) := ⟨rfl, rfl, rfl, by decide +kernel, rfl, by decide +kernel, by decide +kernel⟩
abbrev s_law_key : Stmt := top 48
abbrev N_law_key : List Str := ["_law_standing", "_law_name"]
theorem sc_law_key : FnScope N_law_key ["_law_standing"] (defScope s_law_key) := ⟨rfl, rfl, rfl, by decide +kernel, rfl, by decide +kernel, by decide +kernel⟩
abbrev s_law_all_ways : Stmt := top 49
abbrev N_law_all_ways : List Str := ["_law_told", "_law_standing", "_law_names", "_law_found", "_law_order", "_law_steps", "_law_seen", "_law_row_here", "_law_name", "_law_late", "_law_out"]
theorem sc_law_all_ways : FnScope N_law_all_ways ["_law_told", "_law_standing"] (defScope s_law_all_ways) := ⟨rfl, rfl, rfl, by decide +kernel, rfl, by decide +kernel, by decide +kernel⟩
abbrev s_law_first_apart : Stmt := top 50
abbrev N_law_first_apart : List Str := ["_law_steps", "_law_one", "_law_other", "_law_found", "_law_order", "_law_seen", "_law_pair", "_law_name", "_law_late"]
theorem sc_law_first_apart : FnScope N_law_first_apart ["_law_steps", "_law_one", "_law_other"] (defScope s_law_first_apart) := ⟨rfl, rfl, rfl, by decide +kernel, rfl, by decide +kernel, by decide +kernel⟩
abbrev s_law : Stmt := top 51
abbrev N_law : List Str := ["_law_script", "_law_draw", "_law_told", "_law_net_here", "_law_standing", "_law_turn", "_law_due", "_law_found", "_law_kinds", "_law_one", "_law_other", "_law_apart", "_law_order", "_law_kind", "_law_number_here", "_law_rows_here", "_law_sums", "_law_name", "_law_out", "_law_wrong", "_law_more"]
theorem sc_law : FnScope N_law ["_law_script"] (defScope s_law) := ⟨rfl, rfl, rfl, by decide +kernel, rfl, by decide +kernel, by decide +kernel⟩
/-- a def of the module -/
structure Df (K : PySem.W.Frag) (mg : Str → Option Value) (x : Str) (st : Stmt) (ps : List Str) where
  f : Addr
  fd : FuncData
  F : Fun K x x st f fd
  m : mg x = some (.ref f)
  b : Binds K fd ps []
/-- a method of the class at C -/
structure Dm (K : PySem.W.Frag) (C : Addr) (x q : Str) (st : Stmt) (ps : List Str) where
  f : Addr
  fd : FuncData
  F : Fun K x q st f fd
  m : Meth K C x f
  b : Binds K fd ps []
/-- a def with a last default -/
structure Dd (K : PySem.W.Frag) (mg : Str → Option Value) (x : Str) (st : Stmt) (ps : List Str) (v : V) where
  f : Addr
  fd : FuncData
  F : FunD K x x (defArgs st) (defBody st) (defScope st) [v] [] f fd
  m : mg x = some (.ref f)
  b : Binds K fd ps []
/-- a method with a last default -/
structure Dmd (K : PySem.W.Frag) (C : Addr) (x q : Str) (st : Stmt) (ps : List Str) (v : V) where
  f : Addr
  fd : FuncData
  F : FunD K x q (defArgs st) (defBody st) (defScope st) [v] [] f fd
  m : Meth K C x f
  b : Binds K fd ps []
  d : Value
  rd : RelV v d
  b1 : Binds K fd ps [d]
/-- a class with a def __init__ -/
structure Dc (K : PySem.W.Frag) (mg : Str → Option Value) (x : Str) where
  C : Addr
  cl : Cls K C
  m : mg x = some (.ref C)
  mro : PySem.W.mroIn K C (.type "object") = some true
  ca : PySem.W.findIn K (.ref C) "__class__" = some (some (.builtin "object.__class__"))
  cn : PySem.W.specialIn K (.builtin "object.__class__") "__get__" = some (some (.builtin "getset_descriptor.__get__"))
  ct : PySem.W.takesIn K (.builtin "object.__class__") = some true
  kit : PySem.W.kitOne K (.ref C) (.ref C) = some true
  ins : ∀ {H : Hp} {a dx : Addr} {fs : List (Str × V)}, H a = some (.ins C dx fs) → TyX K H (.ref a) (.ref C) := fun e => .base (.ins e cl ca cn ct mro)
/-- what the top has written -/
structure Tx (K : PySem.W.Frag) (mg : Str → Option Value) where
  kNet : Dc K mg "Net"
  kBoard : Dc K mg "Board"
  kSettled : Dc K mg "Settled"
  kWays : Dc K mg "Ways"
  minors_of : Df K mg "minors_of" s_minors_of ["rows"]
  is_number : Df K mg "is_number" s_is_number ["thing"]
  is_name : Df K mg "is_name" s_is_name ["thing"]
  is_row : Df K mg "is_row" s_is_row ["thing", "known"]
  is_knot : Df K mg "is_knot" s_is_knot ["thing", "known"]
  first_wrong : Df K mg "first_wrong" s_first_wrong ["names"]
  Net_init : Dm K kNet.C "__init__" "Net.__init__" s_Net_init ["self", "knots", "inlets", "outlets"]
  Net_met : Dm K kNet.C "met" "Net.met" s_Net_met ["self"]
  Net_start : Dm K kNet.C "start" "Net.start" s_Net_start ["self"]
  Net_front : Dm K kNet.C "front" "Net.front" s_Net_front ["self", "name"]
  Net_period : Dm K kNet.C "period" "Net.period" s_Net_period ["self", "name"]
  Net_turned : Dm K kNet.C "turned" "Net.turned" s_Net_turned ["self", "name"]
  Net_check_standing : Dm K kNet.C "check_standing" "Net.check_standing" s_Net_check_standing ["self", "standing"]
  Net_place_behind : Dm K kNet.C "place_behind" "Net.place_behind" s_Net_place_behind ["self", "name", "place", "many"]
  Net_dropped : Dm K kNet.C "dropped" "Net.dropped" s_Net_dropped ["self", "name", "place", "many"]
  count : Df K mg "count" s_count ["found", "drop", "many"]
  check_net : Df K mg "check_net" s_check_net ["thing"]
  lattice : Df K mg "lattice" s_lattice ["net"]
  ends : Df K mg "ends" s_ends ["net"]
  check_balls : Df K mg "check_balls" s_check_balls ["net", "balls"]
  Board_init : Dm K kBoard.C "__init__" "Board.__init__" s_Board_init ["self", "net", "standing", "waiting"]
  Board_take : Dm K kBoard.C "take" "Board.take" s_Board_take ["self", "name", "many"]
  Board_first_waiting : Dm K kBoard.C "first_waiting" "Board.first_waiting" s_Board_first_waiting ["self"]
  Settled_init : Dm K kSettled.C "__init__" "Settled.__init__" s_Settled_init ["self", "taken", "out", "standing", "order"]
  begun : Df K mg "begun" s_begun ["net", "balls", "standing"]
  settle : Dd K mg "settle" s_settle ["net", "balls", "standing"] .non
  Ways_init : Dm K kWays.C "__init__" "Ways.__init__" s_Ways_init ["self", "standings", "steps"]
  Ways_eq : Dm K kWays.C "__eq__" "Ways.__eq__" s_Ways_eq ["self", "other"]
  Ways_len : Dm K kWays.C "__len__" "Ways.__len__" s_Ways_len ["self"]
  Ways_follow : Dmd K kWays.C "follow" "Ways.follow" s_Ways_follow ["self", "rows", "number"] (.int 0)
  Ways_shows : Dmd K kWays.C "shows" "Ways.shows" s_Ways_shows ["self", "net", "standing"] .non
  ways : Dd K mg "ways" s_ways ["net", "standing"] .non
  classes_of : Df K mg "classes_of" s_classes_of ["ways"]
  told_apart : Df K mg "told_apart" s_told_apart ["ways", "one", "other"]
  law_number : Df K mg "_law_number" s_law_number ["_law_script", "_law_index"]
  law_take : Df K mg "_law_take" s_law_take ["_law_draw", "_law_many"]
  law_pick : Df K mg "_law_pick" s_law_pick ["_law_draw", "_law_items"]
  law_rows : Df K mg "_law_rows" s_law_rows ["_law_draw", "_law_names", "_law_outlets", "_law_at", "_law_most"]
  law_drop : Df K mg "_law_drop" s_law_drop ["_law_draw", "_law_names", "_law_outlets", "_law_at"]
  law_net : Df K mg "_law_net" s_law_net ["_law_draw", "_law_most"]
  law_fall : Df K mg "_law_fall" s_law_fall ["_law_told", "_law_standing", "_law_knot", "_law_out"]
  law_start : Df K mg "_law_start" s_law_start ["_law_told"]
  law_row : Df K mg "_law_row" s_law_row ["_law_told", "_law_standing", "_law_knot"]
  law_key : Df K mg "_law_key" s_law_key ["_law_standing"]
  law_all_ways : Df K mg "_law_all_ways" s_law_all_ways ["_law_told", "_law_standing"]
  law_first_apart : Df K mg "_law_first_apart" s_law_first_apart ["_law_steps", "_law_one", "_law_other"]
  law : Df K mg "law" s_law ["_law_script"]
  k_Net : Mk K kNet.C Net_init.f
  k_Board : Mk K kBoard.C Board_init.f
  k_Settled : Mk K kSettled.C Settled_init.f
  k_Ways : Mk K kWays.C Ways_init.f
  a_Net_knots : NoAttr K kNet.C "knots"
  a_Net_inlets : NoAttr K kNet.C "inlets"
  a_Net_outlets : NoAttr K kNet.C "outlets"
  a_Net_names : NoAttr K kNet.C "names"
  a_Board_net : NoAttr K kBoard.C "net"
  a_Board_standing : NoAttr K kBoard.C "standing"
  a_Board_waiting : NoAttr K kBoard.C "waiting"
  a_Board_out : NoAttr K kBoard.C "out"
  a_Board_taken : NoAttr K kBoard.C "taken"
  a_Settled_taken : NoAttr K kSettled.C "taken"
  a_Settled_out : NoAttr K kSettled.C "out"
  a_Settled_standing : NoAttr K kSettled.C "standing"
  a_Settled_order : NoAttr K kSettled.C "order"
  a_Ways_standings : NoAttr K kWays.C "standings"
  a_Ways_steps : NoAttr K kWays.C "steps"
  ne_Ways : PySem.W.findIn K (.ref kWays.C) "__ne__" = some (some (.builtin "object.__ne__"))
  t_MOST_KNOTS : Tok
  c_MOST_KNOTS : mg "MOST_KNOTS" = some (.int 12 t_MOST_KNOTS)
  t_MOST_DROPS : Tok
  c_MOST_DROPS : mg "MOST_DROPS" = some (.int 12 t_MOST_DROPS)
  t_MOST_TARGETS : Tok
  c_MOST_TARGETS : mg "MOST_TARGETS" = some (.int 4 t_MOST_TARGETS)
  t_MOST_SIGNS : Tok
  c_MOST_SIGNS : mg "MOST_SIGNS" = some (.int 16 t_MOST_SIGNS)
  t_MOST_STANDINGS : Tok
  c_MOST_STANDINGS : mg "MOST_STANDINGS" = some (.int 1500 t_MOST_STANDINGS)
  b_len : mg "len" = none
  b_isinstance : mg "isinstance" = none
  b_sorted : mg "sorted" = none
  b_all : mg "all" = none
  b_abs : mg "abs" = none
  b_int : mg "int" = none
  b_bool : mg "bool" = none
  b_str : mg "str" = none
  b_tuple : mg "tuple" = none
  b_dict : mg "dict" = none
  b_list : mg "list" = none
  b_range : mg "range" = none
  b_enumerate : mg "enumerate" = none
  b_zip : mg "zip" = none
section
variable {K : PySem.W.Frag} {mg : Str → Option Value}
theorem Tx.cl_Net (T : Tx K mg) : Cls K T.kNet.C := T.kNet.cl
theorem Tx.m_Net (T : Tx K mg) : mg "Net" = some (.ref T.kNet.C) := T.kNet.m
theorem Tx.cl_Board (T : Tx K mg) : Cls K T.kBoard.C := T.kBoard.cl
theorem Tx.m_Board (T : Tx K mg) : mg "Board" = some (.ref T.kBoard.C) := T.kBoard.m
theorem Tx.cl_Settled (T : Tx K mg) : Cls K T.kSettled.C := T.kSettled.cl
theorem Tx.m_Settled (T : Tx K mg) : mg "Settled" = some (.ref T.kSettled.C) := T.kSettled.m
theorem Tx.cl_Ways (T : Tx K mg) : Cls K T.kWays.C := T.kWays.cl
theorem Tx.m_Ways (T : Tx K mg) : mg "Ways" = some (.ref T.kWays.C) := T.kWays.m
end
end Bc
end
section
set_option Elab.async false
set_option linter.all false
set_option maxRecDepth 100000
set_option maxHeartbeats 2000000
/-! How the program's data stand in the heap. -/
namespace Bc
open PySem L2

/-! ### heaps -/
theorem same_new {H : Hp} {p : Addr} {o : HO} (h : H p = none) : Same H (upd H p o) := fun b u e => by rw [upd_ne (ne_of_none e h)]; exact e
theorem same_up {H H1 : Hp} {p : Addr} {o : HO} (s : Same H H1) (h : H1 p = none) : Same H (upd H1 p o) := s.trans (same_new h)
/-- an object that H does not track is written -/
theorem same_mut {H H1 : Hp} {p : Addr} {o : HO} (s : Same H H1) (h : H p = none) : Same H (upd H1 p o) := fun b u e => by rw [upd_ne (ne_of_none e h)]; exact s b u e
theorem same_rd {H H1 : Hp} {a : Addr} {o : HO} (s : Same H H1) (h : Rd H a o) : Rd H1 a o := h.imp (s _ _) fun ⟨z, e⟩ => ⟨z, s _ _ e⟩
/-- tuples stay -/
def TS (H H' : Hp) : Prop := ∀ b xs, H b = some (.tup xs) → H' b = some (.tup xs)
theorem TS.refl (H : Hp) : TS H H := fun _ _ e => e
theorem TS.trans {H H1 H2 : Hp} (a : TS H H1) (b : TS H1 H2) : TS H H2 := fun c xs e => b c xs (a c xs e)
theorem ts_of {H H' : Hp} (s : Same H H') : TS H H' := fun b xs e => s b _ e
theorem ts_upd {H : Hp} {a : Addr} {o u : HO} (h : H a = some u) (hu : ∀ xs, u ≠ .tup xs) : TS H (upd H a o) := fun b xs e => by
  rw [upd_ne (fun z => by subst z; rw [h] at e; exact hu xs (Option.some.inj e))]; exact e
theorem ts_new {H : Hp} {p : Addr} {o : HO} (h : H p = none) : TS H (upd H p o) := ts_of (same_new h)

/-! ### dicts by a function; counting dicts -/
def FD (ns : List Str) (f : Str → V) : List (Key × V) := ns.map fun n => (Sum.inr n, f n)
theorem fd_len (ns : List Str) (f : Str → V) : (FD ns f).length = ns.length := by simp [FD]
theorem fd_val (ns : List Str) (f : Str → V) (n : Str) : valV (FD ns f) (.inr n : Key) = if n ∈ ns then some (f n) else none := by
  induction ns with
  | nil => rfl
  | cons a l ih =>
    by_cases h : a = n
    · subst h
      rw [if_pos List.mem_cons_self]
      exact valV_pos rfl
    · have : valV (FD (a :: l) f) (.inr n : Key) = valV (FD l f) (.inr n : Key) := valV_neg (fun e => h (Sum.inr.inj e))
      rw [this, ih]
      have e : (n ∈ a :: l) ↔ n ∈ l := by rw [List.mem_cons]; exact ⟨fun q => q.resolve_left (Ne.symm h), .inr⟩
      by_cases q : n ∈ l
      · rw [if_pos q, if_pos (e.mpr q)]
      · rw [if_neg q, if_neg (fun z => q (e.mp z))]
theorem fd_in {ns : List Str} {f : Str → V} {n : Str} (h : n ∈ ns) : valV (FD ns f) (.inr n : Key) = some (f n) := by rw [fd_val, if_pos h]
theorem fd_out {ns : List Str} {f : Str → V} {n : Str} (h : n ∉ ns) : valV (FD ns f) (.inr n : Key) = none := by rw [fd_val, if_neg h]
theorem fd_put {ns : List Str} (f : Str → V) {n : Str} (h : n ∈ ns) (v : V) : putK (FD ns f) (.inr n : Key) v = FD ns fun m => if m = n then v else f m := by
  unfold putK
  have e : ((FD ns f).any fun kv => decide (kv.1 = (.inr n : Key))) = true := by rw [valV_any, fd_in h]; rfl
  rw [if_pos e]
  unfold FD
  rw [List.map_map]
  refine List.map_congr_left fun m _ => ?_
  show (if (Sum.inr m : Key) = Sum.inr n then ((Sum.inr m : Key), v) else (Sum.inr m, f m)) = (Sum.inr m, if m = n then v else f m)
  by_cases q : m = n
  · subst q; rw [if_pos rfl, if_pos rfl]
  · rw [if_neg q, if_neg (fun z => q (Sum.inr.inj z))]
theorem fd_snoc {ns : List Str} (f : Str → V) {n : Str} (h : n ∉ ns) (v : V) : putK (FD ns f) (.inr n : Key) v = FD ns f ++ [(.inr n, v)] := putK_new v (fd_out h)
theorem fd_congr {ns : List Str} {f g : Str → V} (h : ∀ n ∈ ns, f n = g n) : FD ns f = FD ns g := List.map_congr_left fun n hn => by rw [h n hn]
theorem fd_get {ns : List Str} {f : Str → V} {i : Nat} {n : Str} (h : ns[i]? = some n) : (FD ns f)[i]? = some (.inr n, f n) := by unfold FD; rw [List.getElem?_map, h]; rfl
theorem fd_of_get {ns : List Str} {f : Str → V} {i : Nat} {k : Key} {v : V} (h : (FD ns f)[i]? = some (k, v)) : ∃ n, ns[i]? = some n ∧ k = .inr n ∧ v = f n := by
  unfold FD at h
  rw [List.getElem?_map] at h
  cases e : ns[i]? with
  | none => rw [e] at h; cases h
  | some n => rw [e] at h; cases h; exact ⟨n, rfl, rfl, rfl⟩
theorem fd_vals (ns : List Str) (f : Str → V) : (FD ns f).map (·.2) = ns.map f := by simp [FD]
theorem fd_keys (ns : List Str) (f : Str → V) : (FD ns f).map (·.1) = ns.map Sum.inr := by simp [FD]
theorem fd_mem {ns : List Str} {f : Str → V} {k : Key} {v : V} (h : (k, v) ∈ FD ns f) : ∃ n ∈ ns, k = .inr n ∧ v = f n := by
  unfold FD at h
  rw [List.mem_map] at h
  obtain ⟨n, hn, e⟩ := h
  cases e
  exact ⟨n, hn, rfl, rfl⟩
/-- a counting dict -/
def CD (l : List (Str × Int)) : List (Key × V) := l.map fun p => (Sum.inr p.1, V.int p.2)
def cv (l : List (Str × Int)) (n : Str) : Int := ((l.find? fun p => decide (p.1 = n)).map (·.2)).getD 0
def put1 (l : List (Str × Int)) (n : Str) (v : Int) : List (Str × Int) := if (l.any fun p => decide (p.1 = n)) = true then l.map (fun p => if p.1 = n then (p.1, v) else p) else l ++ [(n, v)]
theorem cd_any (l : List (Str × Int)) (n : Str) : ((CD l).any fun kv => decide (kv.1 = (.inr n : Key))) = l.any fun p => decide (p.1 = n) := by
  unfold CD
  rw [List.any_map]
  congr 1
  funext p
  show decide ((Sum.inr p.1 : Key) = Sum.inr n) = decide (p.1 = n)
  by_cases h : p.1 = n
  · subst h; simp
  · rw [decide_eq_false h, decide_eq_false (fun z => h (Sum.inr.inj z))]
theorem cd_val (l : List (Str × Int)) (n : Str) : valV (CD l) (.inr n : Key) = ((l.find? fun p => decide (p.1 = n)).map fun p => V.int p.2) := by
  induction l with
  | nil => rfl
  | cons p l ih =>
    by_cases h : p.1 = n
    · rw [List.find?_cons_of_pos (by simpa using h)]
      exact valV_pos (by rw [← h])
    · rw [List.find?_cons_of_neg (by simpa using h), ← ih]
      exact valV_neg (fun e => h (Sum.inr.inj e))
theorem cd_getD (l : List (Str × Int)) (n : Str) : (valV (CD l) (.inr n : Key)).getD (.int 0) = .int (cv l n) := by
  rw [cd_val]; unfold cv
  cases l.find? fun p => decide (p.1 = n) <;> rfl
theorem cd_put (l : List (Str × Int)) (n : Str) (v : Int) : putK (CD l) (.inr n : Key) (.int v) = CD (put1 l n v) := by
  unfold putK put1
  rw [cd_any]
  split
  · unfold CD
    rw [List.map_map, List.map_map]
    refine List.map_congr_left fun p _ => ?_
    show (if (Sum.inr p.1 : Key) = Sum.inr n then ((Sum.inr p.1 : Key), V.int v) else (Sum.inr p.1, V.int p.2)) = (Sum.inr (if p.1 = n then (p.1, v) else p).1, V.int (if p.1 = n then (p.1, v) else p).2)
    by_cases h : p.1 = n
    · rw [if_pos h, if_pos (by rw [h])]
    · rw [if_neg h, if_neg (fun z => h (Sum.inr.inj z))]
  · unfold CD; rw [List.map_append]; rfl
theorem cv_put1 (l : List (Str × Int)) (n m : Str) (v : Int) : cv (put1 l n v) m = if m = n then v else cv l m := by
  have h := cd_getD (put1 l n v) m
  rw [← cd_put, valV_put] at h
  by_cases e : m = n
  · subst e
    rw [if_pos rfl] at h ⊢
    exact (V.int.inj h).symm
  · rw [if_neg (fun z => e (Sum.inr.inj z)), cd_getD] at h
    rw [if_neg e]
    exact (V.int.inj h).symm
theorem put1_keys {l : List (Str × Int)} {n : Str} {v : Int} {x : Str} (h : x ∈ (put1 l n v).map (·.1)) : x ∈ l.map (·.1) ∨ x = n := by
  unfold put1 at h
  split at h
  · rw [List.map_map] at h
    left
    rw [List.mem_map] at h ⊢
    obtain ⟨p, hp, e⟩ := h
    refine ⟨p, hp, ?_⟩
    rw [← e]
    show p.1 = (if p.1 = n then (p.1, v) else p).1
    split <;> rfl
  · rw [List.map_append, List.mem_append] at h
    simpa using h
theorem put1_nodup {l : List (Str × Int)} {n : Str} {v : Int} (h : (l.map (·.1)).Nodup) : ((put1 l n v).map (·.1)).Nodup := by
  unfold put1
  split
  · have : (l.map fun p => if p.1 = n then (p.1, v) else p).map (·.1) = l.map (·.1) := by
      rw [List.map_map]
      refine List.map_congr_left fun p _ => ?_
      show (if p.1 = n then (p.1, v) else p).1 = p.1
      split <;> rfl
    rw [this]; exact h
  · rename_i hn
    rw [List.map_append, List.nodup_append]
    refine ⟨h, by simp, fun a ha b hb => ?_⟩
    simp at hb
    subst hb
    intro e
    subst e
    rw [List.mem_map] at ha
    obtain ⟨p, hp, e⟩ := ha
    exact hn (List.any_eq_true.mpr ⟨p, hp, by simpa using e⟩)
theorem len_le_of {α : Type} [DecidableEq α] : ∀ {l u : List α}, l.Nodup → (∀ x ∈ l, x ∈ u) → l.length ≤ u.length
  | [], _, _, _ => Nat.zero_le _
  | a :: l, u, hn, h => by
    rw [List.nodup_cons] at hn
    have ha := h a List.mem_cons_self
    have := len_le_of (u := u.erase a) hn.2 fun x hx => by
      have hne : x ≠ a := fun e => hn.1 (e ▸ hx)
      rw [List.mem_erase_of_ne hne]
      exact h x (List.mem_cons_of_mem _ hx)
    rw [List.length_erase_of_mem ha] at this
    have := List.length_pos_of_mem ha
    simp only [List.length_cons]
    omega
/-- a counting dict over the names U -/
structure CDok (l : List (Str × Int)) (U : List Str) : Prop where
  nd : (l.map (·.1)).Nodup
  sub : ∀ x ∈ l.map (·.1), x ∈ U
theorem CDok.len {l : List (Str × Int)} {U : List Str} (o : CDok l U) : l.length ≤ U.length := by have := len_le_of o.nd o.sub; simpa using this
theorem CDok.put {l : List (Str × Int)} {U : List Str} (o : CDok l U) {n : Str} (h : n ∈ U) (v : Int) : CDok (put1 l n v) U := ⟨put1_nodup o.nd, fun x hx => (put1_keys hx).elim (o.sub x) fun e => e ▸ h⟩
theorem CDok.nil (U : List Str) : CDok [] U := ⟨by simp, fun _ h => nomatch h⟩

/-! ### nets -/
def DropAt (H : Hp) (v : V) (ts : List Str) : Prop := ∃ a, v = .ref a ∧ H a = some (.tup (ts.map V.str))
def RowAt (H : Hp) (v : V) (rows : List (List Str)) : Prop := ∃ a ds, v = .ref a ∧ H a = some (.tup ds) ∧ Paired (DropAt H) ds rows
def KnotAt (H : Hp) (v : V) (k : Kn Str) : Prop := ∃ a f t, v = .ref a ∧ H a = some (.tup [f, t]) ∧ RowAt H f k.front ∧ RowAt H t k.turn
theorem DropAt.mono {H H' : Hp} {v : V} {ts : List Str} (s : TS H H') (h : DropAt H v ts) : DropAt H' v ts := h.imp fun _ q => ⟨q.1, s _ _ q.2⟩
theorem RowAt.mono {H H' : Hp} {v : V} {rows : List (List Str)} (s : TS H H') (h : RowAt H v rows) : RowAt H' v rows := by
  obtain ⟨a, ds, e, h1, h2⟩ := h
  exact ⟨a, ds, e, s _ _ h1, L2.Paired.mapP h2 fun _ _ q => q.mono s⟩
theorem KnotAt.mono {H H' : Hp} {v : V} {k : Kn Str} (s : TS H H') (h : KnotAt H v k) : KnotAt H' v k := by
  obtain ⟨a, f, t, e, h1, h2, h3⟩ := h
  exact ⟨a, f, t, e, s _ _ h1, h2.mono s, h3.mono s⟩
/-- a net: its knots, inlets and outlets -/
structure Nd where
  N : Nt Str
  ins : List Str
  inl : Str → Str
  outs : List Str
def netF (kd id ot nl : V) : List (Str × V) := [("knots", kd), ("inlets", id), ("outlets", ot), ("names", nl)]
section
variable (kd id ot nl : V)
theorem netF_knots : (netF kd id ot nl).lookup ("knots" : Str) = some kd := rfl
theorem netF_inlets : (netF kd id ot nl).lookup ("inlets" : Str) = some id := rfl
theorem netF_outlets : (netF kd id ot nl).lookup ("outlets" : Str) = some ot := rfl
theorem netF_names : (netF kd id ot nl).lookup ("names" : Str) = some nl := rfl
theorem netF_front : (netF kd id ot nl).lookup ("front" : Str) = none := rfl
end
/-- a net's instance stands at p -/
structure NetHas (C : Addr) (H : Hp) (p : Addr) (D : Nd) (dx kd id ot nl : Addr) (g : Str → V) : Prop where
  ob : H p = some (.ins C dx (netF (.ref kd) (.ref id) (.ref ot) (.ref nl)))
  kd : H kd = some (.dK (FD D.N.names g))
  kn : ∀ n ∈ D.N.names, KnotAt H (g n) (D.N.kn n)
  id : Rd H id (.dK (FD D.ins fun i => .str (D.inl i)))
  ot : H ot = some (.tup (D.outs.map V.str))
  nl : H nl = some (.lst (D.N.names.map V.str))
def NetAt (C : Addr) (H : Hp) (p : Addr) (D : Nd) : Prop := ∃ dx kd id ot nl g, NetHas C H p D dx kd id ot nl g
theorem NetHas.mono {C : Addr} {H H' : Hp} {p : Addr} {D : Nd} {dx kd id ot nl : Addr} {g : Str → V} (h : NetHas C H p D dx kd id ot nl g) (s : Same H H') : NetHas C H' p D dx kd id ot nl g :=
  ⟨s _ _ h.ob, s _ _ h.kd, fun n hn => (h.kn n hn).mono (ts_of s), same_rd s h.id, s _ _ h.ot, s _ _ h.nl⟩
theorem NetAt.mono {C : Addr} {H H' : Hp} {p : Addr} {D : Nd} (h : NetAt C H p D) (s : Same H H') : NetAt C H' p D := by
  obtain ⟨dx, kd, id, ot, nl, g, h⟩ := h
  exact ⟨dx, kd, id, ot, nl, g, h.mono s⟩
/-- a name: small letters alone -/
def NameOk (z : Str) : Prop := 1 ≤ z.length ∧ z.length ≤ 16 ∧ ∀ c ∈ z.cps.toList, 97 ≤ c ∧ c ≤ 122
/-- what a net is: its names are told apart, its drops go to knots and outlets, its rows are short -/
structure Nd.Ok (D : Nd) : Prop where
  nd : D.N.names.Nodup
  indd : D.ins.Nodup
  ond : D.outs.Nodup
  few : D.N.names.length ≤ 12
  fewi : D.ins.length ≤ 12
  fewo : D.outs.length ≤ 12
  ne : D.N.names ≠ []
  apart : ∀ n ∈ D.N.names, n ∉ D.outs
  aparti : ∀ i ∈ D.ins, i ∉ D.N.names
  inl : ∀ i ∈ D.ins, D.inl i ∈ D.N.names
  tn : ∀ n ∈ D.N.names, (D.N.kn n).turn ≠ []
  len : ∀ n ∈ D.N.names, (D.N.kn n).len ≤ 12
  nm : ∀ n, n ∈ D.N.names ∨ n ∈ D.outs ∨ n ∈ D.ins → NameOk n
  apo : ∀ i ∈ D.ins, i ∉ D.outs
  tgt : ∀ n ∈ D.N.names, ∀ d ∈ (D.N.kn n).rows, d.length ≤ 4 ∧ ∀ t ∈ d, t ∈ D.N.names ++ D.outs
theorem Nd.Ok.front {D : Nd} (o : D.Ok) {n : Str} (h : n ∈ D.N.names) : (D.N.kn n).front.length ≤ 12 := by have := o.len n h; rw [Kn.len_eq] at this; omega
theorem Nd.Ok.turn {D : Nd} (o : D.Ok) {n : Str} (h : n ∈ D.N.names) : (D.N.kn n).turn.length ≤ 12 ∧ 0 < (D.N.kn n).turn.length := by
  have := o.len n h
  rw [Kn.len_eq] at this
  exact ⟨by omega, List.length_pos_iff.mpr (o.tn n h)⟩
theorem RowAt.len {H : Hp} {ds : List V} {rows : List (List Str)} (h : Paired (DropAt H) ds rows) : ds.length = rows.length := Paired.length h
theorem RowAt.get {H : Hp} {ds : List V} {rows : List (List Str)} (h : Paired (DropAt H) ds rows) {i : Nat} {v : V} (e : ds[i]? = some v) : ∃ d, rows[i]? = some d ∧ DropAt H v d := by
  induction h generalizing i with
  | nil => simp at e
  | cons g _ ih => cases i with
    | zero => simp at e; subst e; exact ⟨_, rfl, g⟩
    | succ i => simpa using ih (by simpa using e)
/-! ### reading dicts -/
theorem dget_in {H : Hp} {a : Addr} {ns : List Str} {f : Str → V} {n : Str} (h : Rd H a (.dK (FD ns f))) (hn : n ∈ ns) : DGet H a (.str n) (some (f n)) := .inl ⟨_, .inr n, h, rfl, (fd_in hn).symm⟩
theorem dget_out {H : Hp} {a : Addr} {ns : List Str} {f : Str → V} {n : Str} (h : Rd H a (.dK (FD ns f))) (hn : n ∉ ns) : DGet H a (.str n) none := .inl ⟨_, .inr n, h, rfl, (fd_out hn).symm⟩
theorem dget_cd {H : Hp} {a : Addr} {l : List (Str × Int)} {n : Str} (h : H a = some (.dK (CD l))) : DGet H a (.str n) (valV (CD l) (.inr n : Key)) := .inl ⟨_, .inr n, .inl h, rfl, rfl⟩
theorem dput_fd {H : Hp} {a : Addr} {ns : List Str} {f : Str → V} {n : Str} {v : V} (h : H a = some (.dK (FD ns f))) (hn : n ∈ ns) (hl : ns.length ≤ 1000) : DPut H a (.str n) v (upd H a (.dK (FD ns fun m => if m = n then v else f m))) :=
  .inl ⟨_, .inr n, h, rfl, by rw [fd_len]; exact small1000 hl, by rw [fd_put f hn]⟩
theorem dput_cd {H : Hp} {a : Addr} {l : List (Str × Int)} {n : Str} {v : Int} (h : H a = some (.dK (CD l))) (hl : l.length ≤ 1000) : DPut H a (.str n) (.int v) (upd H a (.dK (CD (put1 l n v)))) :=
  .inl ⟨_, .inr n, h, rfl, by simp [CD]; exact small1000 hl, by rw [cd_put]⟩
theorem atI_0 {α : Type} {x : α} {xs : List α} : atI (x :: xs) 0 = some x := atI_nat (j := 0) rfl
theorem atI_1 {α : Type} {x y : α} {xs : List α} : atI (x :: y :: xs) 1 = some y := atI_nat (j := 1) rfl
theorem atI_2 {α : Type} {x y z : α} {xs : List α} : atI (x :: y :: z :: xs) 2 = some z := atI_nat (j := 2) rfl
theorem sz {n : Nat} (h : n ≤ 100000) : n ≤ sizeLine := Nat.le_trans h (by decide)
theorem szl {n : Nat} (h : n < 100000) : n < sizeLine := Nat.lt_of_lt_of_le h (by decide)
end Bc
end
section
set_option Elab.async false
set_option linter.all false
set_option maxRecDepth 100000
set_option maxHeartbeats 2000000
/-! Comprehensions over a walk, in short forms. -/
namespace Bc
open PySem L2
/-- a dict comprehension over a walk -/
theorem dc_it {J : It} {n : Nat} {G : Hp → Prop} {Y : Nat → Hp → V → Hp → Prop} (w : Walk J n G Y) {g : TG} {tt : TT} {tk tv : TE} {vs : List Nat} {σ : L2.St} {H1 : Hp} {D : Addr} {Qd : Hp → Prop} (Pv : Nat → Hp → Prop) (h0 : Pv 0 (upd H1 D (.dK []))) (hG : ∀ i H, i ≤ n → Pv i H → G H)
    (hs : ∀ i x H H', i < n → Pv i H → Y i H x H' → g x (wipe σ vs) H' fun σ2 H2 => wipe σ2 vs = wipe σ vs ∧ tt σ2 H2 fun b H3 =>
      if b = true then tk σ2 H3 fun y H4 => tv σ2 H4 fun z H5 => ∃ kvs k, y = kV k ∧ H5 D = some (.dK kvs) ∧ kvs.length < sizeLine ∧ Pv (i + 1) (upd H5 D (.dK (putK kvs k z))) else Pv (i + 1) H3) (hd : ∀ H, Pv n H → Qd H) :
    ∃ W : Nat → Nat → Hp → Prop, (∃ m, W 0 m (upd H1 D (.dK []))) ∧ ∀ i m H, W i m H →
      (J.stop i H ∧ Qd H) ∨ (J.go i H ∧ ∃ Nx : Hp → Prop, (∀ H', Nx H' → ∃ m', m' < m ∧ W (i + 1) m' H') ∧ ∀ x H', J.yld i H x H' → g x (wipe σ vs) H' fun σ2 H2 => wipe σ2 vs = wipe σ vs ∧ tt σ2 H2 fun b H3 =>
        if b = true then tk σ2 H3 fun y H4 => tv σ2 H4 fun z H5 => ∃ kvs k, y = kV k ∧ H5 D = some (.dK kvs) ∧ kvs.length < sizeLine ∧ Nx (upd H5 D (.dK (putK kvs k z))) else Nx H3) := by
  refine ⟨fun i m H => m = n - i ∧ i ≤ n ∧ Pv i H, ⟨n, rfl, Nat.zero_le _, h0⟩, ?_⟩
  rintro i m H ⟨rfl, hi, p⟩
  by_cases e : i = n
  · subst e
    exact .inl ⟨w.stops H (hG _ _ hi p), hd H p⟩
  · have hlt : i < n := Nat.lt_of_le_of_ne hi e
    refine .inr ⟨w.goes i H hlt (hG _ _ hi p), Pv (i + 1), fun H' p' => ⟨n - (i + 1), by omega, rfl, hlt, p'⟩, fun x H' y => ?_⟩
    exact hs i x H H' hlt p (w.yields i H x H' hlt (hG _ _ hi p) y)
/-- {k: v for n in names}: the names in order, each with its value -/
theorem dc_names {J : It} {ns : List Str} {G : Hp → Prop} (w : Walk J ns.length G (YAt (ns.map V.str))) (hn : ns.Nodup) (hl : ns.length ≤ 1000) {j : Nat} {tv : TE} {vs : List Nat} {σ : L2.St} {H1 : Hp} {D : Addr} {Qd : Hp → Prop} (hD : H1 D = none) (f : Str → V)
    (hj : ∀ x, wipe ((wipe σ vs).set j (some x)) vs = wipe σ vs) (hv : ∀ x, ((wipe σ vs).set j (some x))[j]? = some (some x)) (hG : ∀ H, Same H1 H → G H)
    (hs : ∀ n ∈ ns, ∀ H, Same H1 H → ∀ Q : VK, (∀ H', Same H H' → Q (f n) H') → tv ((wipe σ vs).set j (some (.str n))) H Q) (hd : ∀ H, Same H1 H → H D = some (.dK (FD ns f)) → Qd H) :
    ∃ W : Nat → Nat → Hp → Prop, (∃ m, W 0 m (upd H1 D (.dK []))) ∧ ∀ i m H, W i m H →
      (J.stop i H ∧ Qd H) ∨ (J.go i H ∧ ∃ Nx : Hp → Prop, (∀ H', Nx H' → ∃ m', m' < m ∧ W (i + 1) m' H') ∧ ∀ x H', J.yld i H x H' → gName j x (wipe σ vs) H' fun σ2 H2 => wipe σ2 vs = wipe σ vs ∧ tYes σ2 H2 fun b H3 =>
        if b = true then tVar j σ2 H3 fun y H4 => tv σ2 H4 fun z H5 => ∃ kvs k, y = kV k ∧ H5 D = some (.dK kvs) ∧ kvs.length < sizeLine ∧ Nx (upd H5 D (.dK (putK kvs k z))) else Nx H3) := by
  refine dc_it w (fun i H => Same H1 H ∧ H D = some (.dK (FD (ns.take i) f))) ⟨same_new hD, by rw [upd_same]; rfl⟩ (fun i H _ p => hG H p.1) ?_ (fun H p => hd H p.1 (by have := p.2; rwa [List.take_length] at this))
  rintro i x H H' hi ⟨sm, hDi⟩ ⟨rfl, hx⟩
  rw [List.getElem?_map, List.getElem?_eq_getElem hi] at hx
  cases hx
  refine ⟨hj _, ?_⟩
  dsimp only [tYes]
  rw [if_pos rfl]
  refine ⟨_, hv _, hs _ (List.getElem_mem hi) H' sm _ fun H5 s5 => ⟨_, .inr ns[i], rfl, s5 _ _ hDi, ?_, same_mut (sm.trans s5) hD, ?_⟩⟩
  · rw [fd_len, List.length_take]; exact small1000 (by omega)
  · rw [upd_same]
    have hni : ns[i] ∉ ns.take i := fun hm => by
      obtain ⟨k, hk⟩ := List.mem_iff_getElem?.mp hm
      have hki : k < i := by have := (List.getElem?_eq_some_iff.mp hk).1; rw [List.length_take] at this; omega
      rw [List.getElem?_take_of_lt hki] at hk
      have := get_inj hn hk (List.getElem?_eq_getElem hi)
      omega
    rw [fd_snoc f hni, List.take_succ_eq_append_getElem hi]
    unfold FD
    rw [List.map_append]; rfl
end Bc
namespace Bc
open PySem L2
/-- a list comprehension over a walk: the i-th turn gives f i -/
theorem lc_vals {J : It} {n : Nat} {xs : List V} {G : Hp → Prop} (w : Walk J n G (YAt xs)) (hl : n ≤ 50000) {j : Nat} {te : TE} {vs : List Nat} {σ : L2.St} {H1 : Hp} {D : Addr} {Qd : Hp → Prop} (hD : H1 D = none) (f : Nat → V)
    (hj : ∀ x, wipe ((wipe σ vs).set j (some x)) vs = wipe σ vs) (hG : ∀ H, Same H1 H → G H)
    (hs : ∀ i x, i < n → xs[i]? = some x → ∀ H, Same H1 H → ∀ Q : VK, (∀ H', Same H H' → Q (f i) H') → te ((wipe σ vs).set j (some x)) H Q) (hd : ∀ H, Same H1 H → H D = some (.lst ((List.range n).map f)) → Qd H) :
    ∃ W : Nat → Nat → Hp → Prop, (∃ m, W 0 m (upd H1 D (.lst []))) ∧ ∀ i m H, W i m H →
      (J.stop i H ∧ Qd H) ∨ (J.go i H ∧ ∃ Nx : Hp → Prop, (∀ H', Nx H' → ∃ m', m' < m ∧ W (i + 1) m' H') ∧ ∀ x H', J.yld i H x H' → gName j x (wipe σ vs) H' fun σ2 H2 => wipe σ2 vs = wipe σ vs ∧ tYes σ2 H2 fun b H3 =>
        if b = true then te σ2 H3 fun y H4 => ∃ acc, H4 D = some (.lst acc) ∧ acc.length < sizeLine ∧ Nx (upd H4 D (.lst (acc ++ [y]))) else Nx H3) := by
  refine lc_it w (fun i H => Same H1 H ∧ H D = some (.lst ((List.range i).map f))) ⟨same_new hD, by rw [upd_same]; rfl⟩ (fun i H _ p => hG H p.1) ?_ (fun H p => hd H p.1 p.2)
  rintro i x H H' hi ⟨sm, hDi⟩ ⟨rfl, hx⟩
  refine ⟨hj _, ?_⟩
  dsimp only [tYes]
  rw [if_pos rfl]
  refine hs i x hi hx H' sm _ fun H5 s5 => ⟨_, s5 _ _ hDi, ?_, same_mut (sm.trans s5) hD, ?_⟩
  · rw [List.length_map, List.length_range]; exact szl (by omega)
  · rw [upd_same, List.range_succ, List.map_append]; rfl
/-- all that a comprehension's turns give -/
theorem range_map {α : Type} (l : List α) (f : α → V) : (List.range l.length).map (fun i => (l[i]?.map f).getD .non) = l.map f := by
  apply List.ext_getElem
  · simp
  · intro i h1 h2
    have h3 : i < l.length := by simpa using h1
    simp [List.getElem?_eq_getElem h3]
end Bc
namespace L2
open PySem PySem.Spec PyProof.Rows
theorem pe_fldK {X : Cx} {K : PySem.W.Frag} (hK : X.K = K) {e : Expr} {ta : TE} {f : Str} {pos : Pos} (he : PE X e ta) (hb : attributeBase e f X.env (eval e X.env) = eval e X.env) : PE X (.Attribute e f pos) (tFld K ta f) := by subst hK; exact pe_fld he hb
theorem call_list_ofK {X : Cx} {K : PySem.W.Frag} (hK : X.K = K) : CallR X (.type "list") (fun xs H Q => ∃ p ys, xs = [.ref p] ∧ (SqL K H p ys ∨ SqT K H p ys) ∧ ∀ l, H l = none → Q (.ref l) (upd H l (.lst ys))) := by subst hK; exact call_list_of
end L2
end
section
set_option Elab.async false
set_option linter.all false
set_option maxRecDepth 100000
set_option maxHeartbeats 2000000
/-! Flat data, as PyData. -/
namespace L2
open PySem
theorem walk_zipT {K : PySem.W.Frag} {a b : Addr} {xs ys : List V} {n : Nat} (hn : n = min xs.length ys.length) : Walk (RZ.ItzT K a b) n (fun H => SqT K H a xs ∧ SqT K H b ys) (YPair (fun i => xs[i]?) (fun i => ys[i]?)) := by
  subst hn
  refine ⟨fun i _ hi q => ?_, fun _ q => ⟨xs, ys, q.1, q.2, by omega⟩, fun i H v H' _ q y => ?_⟩
  · have h1 : i < xs.length := by omega
    have h2 : i < ys.length := by omega
    exact ⟨xs, ys, xs[i], ys[i], q.1, q.2, by simp [h1], by simp [h2]⟩
  · obtain ⟨T, x, z, h1, h2, h3, h4, h5⟩ := y
    exact ⟨T, x, z, h1, h2, h3, h4 xs q.1, h5 ys q.2⟩
theorem pg_tupK {X : Cx} {K : PySem.W.Frag} (hK : X.K = K) {es : List Expr} {k : Nat} {pos : Pos} {t : TGs} {n : Nat} (hc : X.calm = true) (h : PGs X es t) (hn : (assignEach es X.env).length = n := by rfl) (hst : (assignEach es X.env).findIdx? (·.1) = none := by rfl) : PG X (.Tuple es k pos) (gTup K n t) := by subst hK; exact pg_tup hc h hn hst
end L2
namespace Bc
open PySem L2
/-- a name: small letters alone -/
theorem NameOk.strOk {z : Str} (h : NameOk z) : PyData.strOk z = true := by
  unfold PyData.strOk
  rw [Array.all_eq_true']
  intro x hx
  have := h.2.2 x (by simpa using hx)
  exact decide_eq_true (by omega)
theorem depth_flat {α : Type} (f : α → PyData) (h : ∀ x, (f x).depth = 0) : ∀ xs : List α, PyData.depthAll (xs.map f) = 0
  | [] => rfl
  | x :: xs => by show max (f x).depth (PyData.depthAll (xs.map f)) = 0; rw [h, depth_flat f h xs]; rfl
theorem lay_flat {α : Type} (f : α → PyData) : ∀ xs : List α, (∀ x ∈ xs, (f x).canLay0 = true) → PyData.canLayAll0 (xs.map f) = true
  | [], _ => rfl
  | x :: xs, h => by
    show ((f x).canLay0 && PyData.canLayAll0 (xs.map f)) = true
    rw [h x List.mem_cons_self, lay_flat f xs fun y hy => h y (List.mem_cons_of_mem _ hy)]; rfl
theorem shaped_tup {xs : List PyData} (h1 : PyData.canLayAll0 xs = true) (h2 : PyData.depthAll xs ≤ 63) : SeqAt.shaped (.tuple xs) = true := by
  unfold SeqAt.shaped
  have a : (PyData.tuple xs).canLay0 = true := by simpa [PyData.canLay0] using h1
  have b : (PyData.tuple xs).depth ≤ 64 := by simp only [PyData.depth]; omega
  rw [a, decide_eq_true b]; rfl
theorem shaped_lst {xs : List PyData} (h1 : PyData.canLayAll0 xs = true) (h2 : PyData.depthAll xs ≤ 63) : SeqAt.shaped (.list xs) = true := by
  unfold SeqAt.shaped
  have a : (PyData.list xs).canLay0 = true := by simpa [PyData.canLay0] using h1
  have b : (PyData.list xs).depth ≤ 64 := by simp only [PyData.depth]; omega
  rw [a, decide_eq_true b]; rfl
theorem sh_lstI (xs : List Int) : SeqAt.shaped (.list (xs.map PyData.int)) = true := shaped_lst (lay_flat _ _ fun x _ => by simp [PyData.canLay0]) (by rw [depth_flat _ (fun x => by simp [PyData.depth])]; omega)
theorem sh_tupI (xs : List Int) : SeqAt.shaped (.tuple (xs.map PyData.int)) = true := shaped_tup (lay_flat _ _ fun x _ => by simp [PyData.canLay0]) (by rw [depth_flat _ (fun x => by simp [PyData.depth])]; omega)
theorem sh_lstS {xs : List Str} (h : ∀ x ∈ xs, NameOk x) : SeqAt.shaped (.list (xs.map PyData.str)) = true := shaped_lst (lay_flat _ _ fun x hx => by simpa [PyData.canLay0] using (h x hx).strOk) (by rw [depth_flat _ (fun x => by simp [PyData.depth])]; omega)
theorem sh_lst0 : SeqAt.shaped (.list []) = true := by decide
theorem sh_tup0 : SeqAt.shaped (.tuple []) = true := by decide
theorem sh_rows {rows : List (List Str)} (h : ∀ d ∈ rows, ∀ x ∈ d, NameOk x) : SeqAt.shaped (.tuple (rows.map fun d => .tuple (d.map PyData.str))) = true := by
  refine shaped_tup (lay_flat _ _ fun d hd => ?_) ?_
  · have := lay_flat PyData.str d fun x hx => by simpa [PyData.canLay0] using (h d hd x hx).strOk
    simpa [PyData.canLay0] using this
  · have : ∀ rs : List (List Str), PyData.depthAll (rs.map fun d => .tuple (d.map PyData.str)) ≤ 1 := by
      intro rs
      induction rs with
      | nil => decide
      | cons d rs ih =>
        show max (PyData.depth (.tuple (d.map PyData.str))) (PyData.depthAll (rs.map _)) ≤ 1
        have e : PyData.depth (.tuple (d.map PyData.str)) = 1 := by simp only [PyData.depth]; rw [depth_flat _ (fun x => by simp [PyData.depth])]
        rw [e]; exact Nat.max_le.mpr ⟨Nat.le_refl _, ih⟩
    have := this rows; omega
section
variable {K : PySem.W.Frag} {H : Hp}
theorem dpI : ∀ xs : List Int, DpAll K H (xs.map V.int) (xs.map PyData.int)
  | [] => .nil
  | x :: xs => .cons (.int x) (dpI xs)
theorem dpS : ∀ xs : List Str, DpAll K H (xs.map V.str) (xs.map PyData.str)
  | [] => .nil
  | x :: xs => .cons (.str x) (dpS xs)
theorem dp_rows {ds : List V} {rows : List (List Str)} (h : Paired (DropAt H) ds rows) : DpAll K H ds (rows.map fun d => .tuple (d.map PyData.str)) := by
  induction h with
  | nil => exact .nil
  | cons g _ ih =>
    obtain ⟨a, rfl, ha⟩ := g
    exact .cons (.tup (SqT.of ha) (dpS _)) ih
end
theorem eqvAll_nil (xs : List PyData) : PyData.eqvAll xs [] = xs.isEmpty := by cases xs <;> simp [PyData.eqvAll]
theorem eqvAll_ints : ∀ xs ys : List Int, PyData.eqvAll (xs.map PyData.int) (ys.map PyData.int) = decide (xs = ys)
  | [], [] => by simp [PyData.eqvAll]
  | [], _ :: _ => by simp [PyData.eqvAll]
  | _ :: _, [] => by simp [PyData.eqvAll]
  | x :: xs, y :: ys => by
    show (PyData.eqv (.int x) (.int y) && PyData.eqvAll (xs.map PyData.int) (ys.map PyData.int)) = _
    rw [eqvAll_ints xs ys]
    by_cases h : x = y
    · subst h; by_cases h2 : xs = ys
      · subst h2; simp [PyData.eqv]
      · simp [PyData.eqv, h2]
    · have : PyData.eqv (.int x) (.int y) = false := by simp [PyData.eqv, h]
      rw [this]; simp [h]
theorem fd_kv (ns : List Str) (f : Str → V) : (FD ns f).map (fun kv => kV kv.1) = ns.map V.str := by unfold FD; rw [List.map_map]; rfl
end Bc
end
section
set_option Elab.async false
set_option linter.all false
set_option maxRecDepth 100000
set_option maxHeartbeats 2000000
/-! zip(list, tuple), both of n items. -/
namespace L2
open PySem PySem.Spec PyProof.Rows
def ItzM (K : PySem.W.Frag) (a b : Addr) (n : Nat) : It where
  go i H := i < n ∧ ∃ (xs ys : List V) (x y : V), SqL K H a xs ∧ SqT K H b ys ∧ xs.length = n ∧ ys.length = n ∧ xs[i]? = some x ∧ ys[i]? = some y
  yld i H v H' := ∃ T x y, v = .ref T ∧ H T = none ∧ H' = upd H T (.tup [x, y]) ∧ (∀ xs, SqL K H a xs → xs[i]? = some x) ∧ ∀ ys, SqT K H b ys → ys[i]? = some y
  stop i H := n ≤ i ∧ ∃ (xs ys : List V), SqL K H a xs ∧ SqT K H b ys ∧ xs.length = n ∧ ys.length = n
theorem sepM {z TI TO i1 i2 a b : Addr} (D : ZipApart z TI TO i1 i2 a b) : ZipSep2 z TI TO i1 i2 [i1, a] [i2, b] where
  TIz := D.TIz
  TOz := D.TOz
  TITO := D.TITO
  TIi1 := D.TIi1
  mem1 := by simp
  zf1 := by simp [Ne.symm D.i1z, Ne.symm D.l1z]
  Tf1 := by simp [D.TOi1, Ne.symm D.l1TO]
  TIi2 := D.TIi2
  mem2 := by simp
  zf2 := by simp [Ne.symm D.i2z, Ne.symm D.l2z]
  Tf2 := by simp [D.TOi2, Ne.symm D.l2TO]
  sep1_2 := by simp [D.i12, Ne.symm D.l2i1]
  sep2_1 := by simp [Ne.symm D.i12, Ne.symm D.l1i2]
theorem turn_zipM {P : Program} {w : World} {K : PySem.W.Frag} {elts : List Expr} {kk : Nat} {tpos : Pos} {a b z TI TO i1 i2 : Addr} (n : Nat) (D : ZipApart z TI TO i1 i2 a b) :
    Turn P w K (.Tuple elts kk tpos) (ItzM K a b n) [z, TI, TO, i1, i2] z (fun i h => IsZip h z TI TO .none ∧ IsTupOf2 h TI (.ref i1) (.ref i2) ∧ (∃ x y, IsTupOf2 h TO x y) ∧ (h.IsListIter i1 a i ∧ h.IsTupleIter i2 b i) ∧ i ≤ n) where
  mem := List.mem_cons_self
  obj := fun i h st c hc => by
    obtain ⟨hz, hTI, ⟨x, y, hTO⟩, ⟨⟨o1, e1, _, d1⟩, o2, e2, _, d2⟩, _⟩ := st
    simp only [List.mem_cons, List.not_mem_nil, or_false] at hc
    rcases hc with rfl | rfl | rfl | rfl | rfl
    · exact ⟨_, hz, fun v q => nomatch q⟩
    · exact ⟨_, hTI, fun v q => nomatch q⟩
    · exact ⟨_, hTO, fun v q => nomatch q⟩
    · exact ⟨o1, e1, fun v q => by rw [d1] at q; cases q⟩
    · exact ⟨o2, e2, fun v q => by rw [d2] at q; cases q⟩
  keep := fun i h h' st k => by
    obtain ⟨hz, hTI, ⟨x, y, hTO⟩, ⟨h1, h2⟩, hle⟩ := st
    exact ⟨k z (by simp) _ hz, k TI (by simp) _ hTI, ⟨x, y, k TO (by simp) _ hTO⟩, ⟨h1.at fun o q => k i1 (by simp) o q, h2.at fun o q => k i2 (by simp) o q⟩, hle⟩
  item := by
    intro X hP hw hK hc i pins s σ H E I hf st hg
    subst hP hw hK
    obtain ⟨hz, hTI, ⟨x0, y0, hTO⟩, ⟨h1, h2⟩, _⟩ := st
    obtain ⟨hin, xs, ys, x, y, hqx, hqy, lx, ly, hx, hy⟩ := hg
    obtain ⟨its, rv, p1, _⟩ := I.list hqx
    obtain ⟨jts, rv2, p2, _⟩ := I.tuple hqy
    obtain ⟨u, hu, ru⟩ := rv.get hx
    obtain ⟨u2, hu2, ru2⟩ := rv2.get hy
    have hzl : z < s.heap.objs.size := Heap.lt_size hz
    have n1 : i < its.toArray.size := by rw [List.size_toArray]; exact (List.getElem?_eq_some_iff.mp hu).1
    have n2 : i < jts.toArray.size := by rw [List.size_toArray]; exact (List.getElem?_eq_some_iff.mp hu2).1
    refine wpAny_pyNext_zipD2_item (sepM D) (Draws.list (A := X.A.in1) (I.ok.hd hc) i1 a D.l1i1 its.toArray) (Draws.tuple (A := X.A.in1) (I.ok.hd hc) i2 b D.l2i2 jts.toArray) hz hTI hTO ⟨h1, p1.isList⟩ ⟨h2, p2⟩ n1 n2 fun x1 x2 h' tk e1 e2 z' TO' s1' s2' hT hsz hk => ?_
    have ex1 : x1 = u := by
      have a1 : its.toArray[i]? = some u := by simpa using hu
      have a2 : its.toArray[i]? = some x1 := e1
      rw [a1] at a2; exact (Option.some.inj a2).symm
    have ex2 : x2 = u2 := by
      have a1 : jts.toArray[i]? = some u2 := by simpa using hu2
      have a2 : jts.toArray[i]? = some x2 := e2
      rw [a1] at a2; exact (Option.some.inj a2).symm
    subst ex1 ex2
    refine ⟨_, rfl, wpAny_letOwnedTupleGo_zip (s := { s with heap := h', toks := tk }) z' fun h'' z'' sb => ?_⟩
    have hT2 : h''.get? s.heap.objs.size = some { cls := .type "tuple", data := .seq #[x1, x2] } := (sb.2 _ (Nat.ne_of_gt hzl)).trans hT
    have new : ObjOk X.prog X.w (upd H s.heap.objs.size (.tup [x, y])) h'' s.heap.objs.size (.tup [x, y]) :=
      ⟨by show 2 ≤ sizeLine; decide, [x1, x2], .cons ru (.cons ru2 .nil), ⟨_, hT2, rfl, _, rfl⟩⟩
    have I1 : Inv X pins σ (upd H s.heap.objs.size (.tup [x, y])) { s with heap := h'', toks := tk } := by
      refine I.turnedNew (ch := [z, TI, TO, i1, i2]) (fun c ob hb q => ?_) hf (Nat.le_refl _) new
      simp only [List.mem_cons, List.not_mem_nil, or_false, not_or] at hb
      exact (sb.2 c hb.1).trans (hk c ob hb.1 hb.2.2.1 hb.2.2.2.1 hb.2.2.2.2 q)
    refine ⟨.ref s.heap.objs.size, _, I1, rfl, ⟨_, x, y, rfl, I.hok.fresh (Nat.le_refl _), rfl, fun l hl => by rw [I.list_inj hl hqx]; exact hx, fun l hl => by rw [I.tuple_inj hl hqy]; exact hy⟩, ⟨z'', ?_, ⟨x1, x2, ?_⟩, ⟨?_, ?_⟩, hin⟩, fun c hcm => ?_⟩
    · exact (sb.2 _ D.TIz).trans (hk _ _ D.TIz D.TITO D.TIi1 D.TIi2 hTI)
    · exact (sb.2 _ D.TOz).trans TO'
    · exact s1'.1.at fun o q => (sb.2 _ D.i1z).trans q
    · exact s2'.1.at fun o q => (sb.2 _ D.i2z).trans q
    · have hlt : c < s.heap.objs.size := by
        simp only [List.mem_cons, List.not_mem_nil, or_false] at hcm
        rcases hcm with rfl | rfl | rfl | rfl | rfl
        · exact hzl
        · exact Heap.lt_size hTI
        · exact Heap.lt_size hTO
        · obtain ⟨_, q, _⟩ := h1; exact Heap.lt_size q
        · obtain ⟨_, q, _⟩ := h2; exact Heap.lt_size q
      rw [upd_ne (Nat.ne_of_lt hlt)]
      exact (hf c hcm).1
  done := by
    intro X hP hw hK hc i pins s σ H E I hf st hg
    subst hP hw hK
    obtain ⟨hz, hTI, ⟨x0, y0, hTO⟩, ⟨h1, h2⟩, hle⟩ := st
    obtain ⟨hge, xs, ys, hqx, hqy, lx, ly⟩ := hg
    obtain ⟨its, rv, p1, _⟩ := I.list hqx
    obtain ⟨jts, rv2, p2, _⟩ := I.tuple hqy
    have l1 := rv.length
    have l2 := rv2.length
    have n1 : i = its.toArray.size := by rw [List.size_toArray]; omega
    have n2 : i = jts.toArray.size := by rw [List.size_toArray]; omega
    refine wpAny_pyNext_zipD2_end (sepM D) (Draws.list (A := X.A.in1) (I.ok.hd hc) i1 a D.l1i1 its.toArray) (Draws.tuple (A := X.A.in1) (I.ok.hd hc) i2 b D.l2i2 jts.toArray) hz hTI hTO ⟨h1, p1.isList⟩ ⟨h2, p2⟩ (Nat.le_of_eq n1) (Nat.le_of_eq n2) (.inl n1) fun h' tk hk => ⟨rfl, I.turnedL (t' := tk) (ch := [z, TI, TO, i1, i2]) (fun c o hb q => ?_) hf⟩
    simp only [List.mem_cons, List.not_mem_nil, or_false, not_or] at hb
    exact hk c o hb.1 hb.2.2.1 hb.2.2.2.1 hb.2.2.2.2 q
  self := fun A i s Q E st h => wpAny_pyIter_zip st.1 h
def iZipM (K : PySem.W.Frag) (ta : TA) : TI := fun σ H R => ta σ H fun vs H1 => ∃ a b xs ys n, vs = [.ref a, .ref b] ∧ SqL K H1 a xs ∧ SqT K H1 b ys ∧ xs.length = n ∧ ys.length = n ∧ R (ItzM K a b n) H1
theorem pi_zipM {X : Cx} {e e2 : Expr} {ta : TA} {p pos tpos : Pos} {elts : List Expr} {kk : Nat} (hg : Gl X "zip") (hm : X.mg "zip" = none) (ha : PA X [e, e2] ta)
    (hs : starEach [e, e2] X.env = (false, eval e X.env) :: starEach [e2] X.env := by rfl) (hpl : (backTo pos (starEach [e2] X.env)).any (·.1) = false := by rfl) :
    PI X (.Tuple elts kk tpos) (.Call (.Name "zip" p) [e, e2] [] pos) (iZipM X.K ta) := by
  refine ⟨fun pins s σ H R I h => ?_⟩
  refine Call_ (ld_blt I hg hm PyProof.Rows.boot_zip (PyProof.Rows.callWith_type1 (thn (ha.run pos pins s σ H _ I h) fun us s1 ⟨vs, H1, I1, r1, a, b, xs, ys, n, ex, hqx, hqy, lx, ly, q⟩ => ?_) hs hpl))
  subst ex
  obtain ⟨u1, u2, rfl, ra, rb⟩ := vals2 r1
  cases ra; cases rb
  obtain ⟨its, rv, p1, _⟩ := I1.list hqx
  obtain ⟨jts, rv2, p2, _⟩ := I1.tuple hqy
  obtain ⟨ob, hob, hcb, nb, hdb⟩ := id p2
  refine zip_begins2 (begins_list a its.toArray) (begins_tuple b jts.toArray) p1.isList p2 fun h' hz hTI hTO g1 g2 hsz hk => wpAny_pyIter_zip hz ?_
  have I2 : Inv X pins σ H1 { s1 with heap := h' } := I1.kept (t' := s1.toks) hk
  refine ⟨s1.heap.objs.size + 4, [s1.heap.objs.size + 4, s1.heap.objs.size + 2, s1.heap.objs.size + 3, s1.heap.objs.size, s1.heap.objs.size + 1], _, _, H1, rfl, I2, turn_zipM n (PySem.W.ktu_apart s1.heap.objs.size a b p1.lt (Heap.lt_size hob)), ⟨hz, hTI, ⟨_, _, hTO⟩, ⟨⟨_, g1, rfl, rfl⟩, ⟨_, g2, rfl, rfl⟩⟩, Nat.zero_le _⟩, fun c hcm => ?_, q⟩
  have hle : s1.heap.objs.size ≤ c := by
    simp only [List.mem_cons, List.not_mem_nil, or_false] at hcm
    rcases hcm with rfl | rfl | rfl | rfl | rfl
    · exact Nat.le_add_right _ _
    · exact Nat.le_add_right _ _
    · exact Nat.le_add_right _ _
    · exact Nat.le_refl _
    · exact Nat.le_add_right _ _
  exact I1.fpOk hle (I1.hok.fresh hle)
theorem walk_zipM {K : PySem.W.Frag} {a b : Addr} {xs ys : List V} {n : Nat} (hx : xs.length = n) (hy : ys.length = n) : Walk (ItzM K a b n) n (fun H => SqL K H a xs ∧ SqT K H b ys) (YPair (fun i => xs[i]?) (fun i => ys[i]?)) := by
  refine ⟨fun i _ hi q => ⟨hi, xs, ys, _, _, q.1, q.2, hx, hy, List.getElem?_eq_getElem (by omega), List.getElem?_eq_getElem (by omega)⟩, fun _ q => ⟨Nat.le_refl _, xs, ys, q.1, q.2, hx, hy⟩, fun i H v H' _ q y => ?_⟩
  obtain ⟨T, x, z, h1, h2, h3, h4, h5⟩ := y
  exact ⟨T, x, z, h1, h2, h3, h4 xs q.1, h5 ys q.2⟩
end L2
end
section
set_option Elab.async false
set_option linter.all false
set_option maxRecDepth 100000
set_option maxHeartbeats 2000000
/-! The walk: small defs. -/
namespace Bc
open PySem L2
/-! ### promises -/
def sp_is_number : Sp := fun vs H Q _ => ∃ n : Int, vs = [.int n] ∧ Q (.bl true) H
def sp_check_net (C : Addr) : Sp := fun vs H Q _ => ∃ p dx fs, vs = [.ref p] ∧ H p = some (.ins C dx fs) ∧ Q .non H
def sp_Net_front (C : Addr) : Sp := fun vs H Q _ => ∃ p n D, vs = [.ref p, .str n] ∧ NetAt C H p D ∧ n ∈ D.N.names ∧ Q (.int (D.N.kn n).front.length) H
def sp_Net_period (C : Addr) : Sp := fun vs H Q _ => ∃ p n D, vs = [.ref p, .str n] ∧ NetAt C H p D ∧ n ∈ D.N.names ∧ Q (.int (D.N.kn n).turn.length) H
def sp_count : Sp := fun vs H Q _ => ∃ (d : Addr) (v : V) (ts : List Str) (l : List (Str × Int)) (U : List Str) (m : Int), vs = [.ref d, v, .int m] ∧ DropAt H v ts ∧ H d = some (.dK (CD l)) ∧ CDok l U ∧ U.length ≤ 100 ∧ (∀ t ∈ ts, t ∈ U) ∧
  ∀ l', CDok l' U → (∀ n, cv l' n = cv l n + m * (ts.count n : Nat)) → Q .non (upd H d (.dK (CD l')))
def sp_Net_start (C : Addr) : Sp := fun vs H Q _ => ∃ p D, vs = [.ref p] ∧ NetAt C H p D ∧ D.N.names.Nodup ∧ D.N.names.length ≤ 1000 ∧ ∀ d H', H d = none → Same H H' → H' d = some (.dK (FD D.N.names fun _ => .int 0)) → Q (.ref d) H'
def sp_Net_place_behind (C : Addr) : Sp := fun vs H Q _ => ∃ (p : Addr) (n : Str) (D : Nd) (pl m : Nat), vs = [.ref p, .str n, .int pl, .int m] ∧ NetAt C H p D ∧ D.Ok ∧ n ∈ D.N.names ∧ pl < (D.N.kn n).len ∧ Q (.int ((D.N.kn n).plc pl m : Nat)) H
section
variable {P : Program} {w : World} {K : PySem.W.Frag} {mg : Str → Option Value} {base : Heap}
theorem ok_is_number (T : Tx K mg) : FnOk P w K mg base CX0 1 T.is_number.f T.is_number.fd ["thing"] sp_is_number := by
  refine T.is_number.F.ok sc_is_number (fun vs H Q E h => ?_) (fun cdv A outer s H vs Q E hr h => ?_)
  · obtain ⟨n, rfl, _⟩ := h; rfl
  · obtain ⟨n, rfl, k⟩ := h
    refine ⟨_, (pss_one (ps_ret (pe_and (pe_callB (id := "isinstance") call_isi rfl T.b_isinstance (by decide +kernel) (pa_cons (pv 0) (pa_cons (pe_bltn (v := .ty "int") (u := .type "int") rfl T.b_int (by decide +kernel) rfl) pa_nil))) (pe_one (pe_not (pe_callB (id := "isinstance") call_isi rfl T.b_isinstance (by decide +kernel) (pa_cons (pv 0) (pa_cons (pe_bltn (v := .ty "bool") (u := .type "bool") rfl T.b_bool (by decide +kernel) rfl) pa_nil)))))))), ?_⟩
    refine ⟨_, rfl, _, _, _, _, true, rfl, .ty _, .base (.int n), kit_ty (by decide +kernel), true, rfl, ?_⟩
    exact iteT ⟨_, rfl, _, _, _, _, false, rfl, .ty _, .base (.int n), kit_ty (by decide +kernel), false, rfl, k⟩
theorem ok_check_net (T : Tx K mg) : FnOk P w K mg base CX0 1 T.check_net.f T.check_net.fd ["thing"] (sp_check_net T.kNet.C) := by
  refine T.check_net.F.ok sc_check_net (fun vs H Q E h => ?_) (fun cdv A outer s H vs Q E hr h => ?_)
  · obtain ⟨p, dx, fs, rfl, _⟩ := h; rfl
  · obtain ⟨p, dx, fs, rfl, hp, k⟩ := h
    refine ⟨_, (pss_one (ps_if (pt_not (pt_val (pe_callB (id := "isinstance") call_isi rfl T.b_isinstance (by decide +kernel) (pa_cons (pv 0) (pa_cons (pe_glob (v := .ref T.kNet.C) rfl T.m_Net rfl) pa_nil))))) (pss_one (ps_never)) pss_nil)), ?_⟩
    exact ⟨_, rfl, _, _, _, _, true, rfl, .own _, T.kNet.ins hp, T.kNet.kit, true, rfl, iteF k⟩
theorem ok_Net_front (T : Tx K mg) : FnOk P w K mg base CX0 1 T.Net_front.f T.Net_front.fd ["self", "name"] (sp_Net_front T.kNet.C) := by
  refine T.Net_front.F.ok sc_Net_front (fun vs H Q E h => ?_) (fun cdv A outer s H vs Q E hr h => ?_)
  · obtain ⟨p, n, D, rfl, _⟩ := h; rfl
  · obtain ⟨p, n, D, rfl, ⟨dx, kd, id, ot, nl, g, N⟩, hn, k⟩ := h
    obtain ⟨a, f, t, e, ha, ⟨fa, ds, rfl, hf, pf⟩, ht⟩ := N.kn n hn
    refine ⟨_, (pss_one (ps_ret (pe_callB (id := "len") call_len_seq (by rfl) T.b_len PySem.boot_len (pa_cons (pe_ix ix_tup (pe_dget (hu_of hr) (pe_fld (pv 0) rfl) (pv 1) (fun _ _ => rfl)) pe_int (fun _ _ => rfl)) pa_nil)))), ?_⟩
    refine ⟨_, rfl, p, _, dx, _, _, rfl, N.ob, T.cl_Net, T.a_Net_knots, netF_knots .., _, rfl, kd, _, rfl, dget_in (.inl N.kd) hn, a, _, 0, _, e, rfl, SqT.of ha, atI_0, fa, _, rfl, .inr (SqT.of hf), ?_⟩
    rw [RowAt.len pf]; exact k
theorem ok_Net_period (T : Tx K mg) : FnOk P w K mg base CX0 1 T.Net_period.f T.Net_period.fd ["self", "name"] (sp_Net_period T.kNet.C) := by
  refine T.Net_period.F.ok sc_Net_period (fun vs H Q E h => ?_) (fun cdv A outer s H vs Q E hr h => ?_)
  · obtain ⟨p, n, D, rfl, _⟩ := h; rfl
  · obtain ⟨p, n, D, rfl, ⟨dx, kd, id, ot, nl, g, N⟩, hn, k⟩ := h
    obtain ⟨a, f, t, e, ha, hf, ⟨ta, ds, rfl, ht, pt⟩⟩ := N.kn n hn
    refine ⟨_, (pss_one (ps_ret (pe_callB (id := "len") call_len_seq (by rfl) T.b_len PySem.boot_len (pa_cons (pe_ix ix_tup (pe_dget (hu_of hr) (pe_fld (pv 0) rfl) (pv 1) (fun _ _ => rfl)) pe_int (fun _ _ => rfl)) pa_nil)))), ?_⟩
    refine ⟨_, rfl, p, _, dx, _, _, rfl, N.ob, T.cl_Net, T.a_Net_knots, netF_knots .., _, rfl, kd, _, rfl, dget_in (.inl N.kd) hn, a, _, 1, _, e, rfl, SqT.of ha, atI_1, ta, _, rfl, .inr (SqT.of ht), ?_⟩
    rw [RowAt.len pt]; exact k
theorem ok_count (T : Tx K mg) : FnOk P w K mg base CX0 1 T.count.f T.count.fd ["found", "drop", "many"] sp_count := by
  refine T.count.F.ok sc_count (fun vs H Q E h => ?_) (fun cdv A outer s H vs Q E hr h => ?_)
  · obtain ⟨d, v, ts, l, U, m, rfl, _⟩ := h; rfl
  · obtain ⟨d, v, ts, l, U, m, rfl, ⟨a, rfl, ha⟩, hd, ok, hU, hts, k⟩ := h
    have nad : a ≠ d := ne_of ha hd (by intro z; cases z)
    refine ⟨_, (pss_one (ps_for PassesOwn.never rfl (pi_tup (pv 1)) (pg_name (i := 3) sc_count.nd rfl (.inl rfl)) (pss_one (ps_dput (hu_of hr) (pv 0) (pv 3) (pe_op op_add (pe_dget2 (hu_of hr) (pv 0) (pv 3) pe_int ⟨rfl, rfl, rfl, rfl⟩) (pv 2)) rfl)))), ?_⟩
    refine ⟨_, rfl, a, rfl, ⟨_, SqT.of ha⟩, for_tup (xs := ts.map V.str)
      (fun i σ H' => ∃ x l', σ = [some (.ref d), some (.ref a), some (.int m), x] ∧ H' = upd H d (.dK (CD l')) ∧ CDok l' U ∧ ∀ n, cv l' n = cv l n + m * ((ts.take i).count n : Nat)) ?_ ?_ ?_ ?_⟩
    · refine ⟨none, l, rfl, ?_, ok, fun n => by simp⟩
      funext b
      by_cases e : b = d
      · subst e; rw [upd_same, hd]
      · rw [upd_ne e]
    · rintro i σ H' _ ⟨x, l', rfl, rfl, o, hv⟩
      exact SqT.of (by rw [upd_ne nad]; exact ha)
    · rintro i x σ H' hx ⟨y, l', rfl, rfl, o, hv⟩
      rw [List.getElem?_map] at hx
      cases et : ts[i]? with
      | none => rw [et] at hx; cases hx
      | some t =>
        rw [et] at hx; cases hx
        have hlt : i < ts.length := (List.getElem?_eq_some_iff.mp et).1
        have htU := hts t (List.mem_of_getElem? et)
        have hlen := o.len
        refine ⟨_, rfl, d, rfl, .inl ⟨_, .inl upd_same⟩, _, rfl, _, dget_cd upd_same, _, rfl, cv l' t, m, by rw [cd_getD], rfl, _, rfl, _, rfl, d, _, rfl, dput_cd upd_same (by omega), ?_⟩
        refine ⟨_, put1 l' t (cv l' t + m), rfl, upd_upd, o.put htU _, fun n => ?_⟩
        rw [cv_put1, List.take_succ_eq_append_getElem hlt, List.count_append]
        have eg : ts[i] = t := by rw [List.getElem?_eq_getElem hlt] at et; exact Option.some.inj et
        rw [eg]
        by_cases e : n = t
        · subst e
          rw [if_pos rfl, hv]
          simp only [List.count_singleton, beq_self_eq_true, if_true]
          rw [Int.natCast_add, Int.mul_add]; omega
        · rw [if_neg e, hv]
          have : [t].count n = 0 := by rw [List.count_singleton, if_neg (by simpa using Ne.symm e)]
          rw [this, Nat.add_zero]
    · rintro σ H' ⟨x, l', rfl, rfl, o, hv⟩
      refine k l' o fun n => ?_
      rw [hv, List.length_map, List.take_length]
end
end Bc
end
section
set_option Elab.async false
set_option linter.all false
set_option maxRecDepth 100000
set_option maxHeartbeats 2000000
/-! The walk: a net's own small methods. -/
namespace Bc
open PySem L2
theorem walk_names {K : PySem.W.Frag} {a : Addr} {ns : List Str} : Walk (Itl K a) ns.length (fun H => SqL K H a (ns.map V.str)) (YAt (ns.map V.str)) := by
  have := walk_list (K := K) (a := a) (xs := ns.map V.str)
  rwa [List.length_map] at this
theorem walk_namesT {K : PySem.W.Frag} {a : Addr} {ns : List Str} : Walk (Itt K a) ns.length (fun H => SqT K H a (ns.map V.str)) (YAt (ns.map V.str)) := by
  have := walk_tup (K := K) (a := a) (xs := ns.map V.str)
  rwa [List.length_map] at this
/-- what a turn lets fall -/
def turnedAt (k : Kn Str) (n : Str) : Nat := tally k.turn n
def sp_Net_turned (C : Addr) : Sp := fun vs H Q _ => ∃ p n D, vs = [.ref p, .str n] ∧ NetAt C H p D ∧ D.Ok ∧ n ∈ D.N.names ∧
  ∀ d H' l, H d = none → Same H H' → H' d = some (.dK (CD l)) → CDok l (D.N.names ++ D.outs) → (∀ m, cv l m = (turnedAt (D.N.kn n) m : Nat)) → Q (.ref d) H'
/-- counts of a row's drops so far -/
theorem tally_step (rows : List (List Str)) {i : Nat} {d : List Str} (h : rows[i]? = some d) (n : Str) : tally (rows.take (i + 1)) n = tally (rows.take i) n + d.count n := by
  have hlt : i < rows.length := (List.getElem?_eq_some_iff.mp h).1
  rw [tally_take _ _ _ hlt]
  congr 2
  rw [List.getD, h, Option.getD_some]
section
variable {P : Program} {w : World} {K : PySem.W.Frag} {mg : Str → Option Value} {base : Heap}
theorem ok_Net_start (T : Tx K mg) : FnOk P w K mg base CX0 1 T.Net_start.f T.Net_start.fd ["self"] (sp_Net_start T.kNet.C) := by
  refine T.Net_start.F.ok sc_Net_start (fun vs H Q E h => ?_) (fun cdv A outer s H vs Q E hr h => ?_)
  · obtain ⟨p, D, rfl, _⟩ := h; rfl
  · obtain ⟨p, D, rfl, ⟨dx, kd, id, ot, nl, g, N⟩, hnd, hl, k⟩ := h
    refine ⟨_, (pss_one (ps_ret (pe_dc (own := [("name", 1)]) rfl sc_Net_start.nd (pi_list (pe_fld (pv 0) rfl)) (blkOk_by (N := N_Net_start) (sc := defScope s_Net_start) (by decide +kernel)) (fun _ _ _ _ _ => pg_name (i := 1) sc_Net_start.nd rfl (.inl rfl)) (fun _ _ _ _ _ => pts_nil) (fun _ _ _ _ _ => pv 1) (fun _ _ _ _ _ => pe_int)))), ?_⟩
    refine ⟨_, rfl, p, _, dx, _, _, rfl, N.ob, T.cl_Net, T.a_Net_names, netF_names .., nl, rfl, ⟨_, SqL.of N.nl⟩, fun d hd => ?_⟩
    exact dc_names walk_names hnd hl hd (fun _ => .int 0) (fun x => rfl) (fun x => rfl) (fun H' s' => s'.seq (SqL.of N.nl)) (fun n hn H' s' Q' q => q H' (Same.refl H')) (fun H' s' e => k d H' hd s' e)
theorem ok_Net_place_behind (T : Tx K mg) : FnOk P w K mg base CX0 2 T.Net_place_behind.f T.Net_place_behind.fd ["self", "name", "place", "many"] (sp_Net_place_behind T.kNet.C) := by
  refine T.Net_place_behind.F.ok sc_Net_place_behind (fun vs H Q E h => ?_) (fun cdv A outer s H vs Q E hr h => ?_)
  · obtain ⟨p, n, D, pl, m, rfl, _⟩ := h; rfl
  · obtain ⟨p, n, D, pl, m, rfl, N', ok, hn, hp, k⟩ := h
    obtain ⟨dx, kd, id, ot, nl, g, N⟩ := id N'
    have ht := ok.tn n hn
    have hP := ok.turn hn
    refine ⟨_, (pss_cons (ps_set (i := 4) sc_Net_place_behind.nd rfl (.inl rfl) (pe_op op_add (pv 2) (pv 3)))
      (pss_cons (ps_par (i := 5) (j := 6) rfl sc_Net_place_behind.nd rfl rfl (by decide) rfl rfl (pa_cons (pe_meth (pv 0) T.cl_Net T.Net_front.m (ok_Net_front T) (hr.mono (by decide)) T.Net_front.b .nil pass0 (pa_cons (pv 1) pa_nil)) (pa_cons (pe_meth (pv 0) T.cl_Net T.Net_period.m (ok_Net_period T) (hr.mono (by decide)) T.Net_period.b .nil pass0 (pa_cons (pv 1) pa_nil)) pa_nil)) (by rfl))
      (pss_one (ps_ret (pe_ifExp (pt_cmpR op_lt (pv 4) (pe_op op_add (pv 5) (pv 6)) (nomark _)) (pv 4) (pe_op op_add (pv 5) (pe_op op_mod (pe_op op_sub (pv 4) (pv 5)) (pv 6)))))))), ?_⟩
    refine ⟨_, rfl, _, rfl, _, _, rfl, rfl, _, rfl, p, dx, _, rfl, N.ob, rfl, _, rfl, p, n, D, rfl, N', hn, _, rfl, p, dx, _, rfl, N.ob, rfl, _, rfl, p, n, D, rfl, N', hn, _, _, rfl, ?_⟩
    refine ⟨_, rfl, _, rfl, _, rfl, _, _, rfl, rfl, _, _, rfl, rfl, _, rfl, ?_⟩
    have hL := (D.N.kn n).len_eq
    rw [(D.N.kn n).plc_eq ht hp m] at k
    refine ite2 (fun hc => ?_) (fun hc => ?_)
    · have hc' : (pl : Int) + m < (D.N.kn n).front.length + (D.N.kn n).turn.length := of_decide_eq_true hc
      rw [if_pos (by omega)] at k
      exact ⟨_, rfl, k⟩
    · have hc' : ¬ (pl : Int) + m < (D.N.kn n).front.length + (D.N.kn n).turn.length := fun q => hc (decide_eq_true q)
      rw [if_neg (by omega)] at k
      refine ⟨_, rfl, _, rfl, _, rfl, _, _, rfl, rfl, _, rfl, _, _, rfl, rfl, ?_, _, _, rfl, rfl, ?_⟩
      · show (0 : Int) < ((D.N.kn n).turn.length : Nat); omega
      · have e : ((pl : Int) + m - ((D.N.kn n).front.length : Nat)) % ((D.N.kn n).turn.length : Nat) = (((pl + m - (D.N.kn n).front.length) % (D.N.kn n).turn.length : Nat) : Int) := by
          rw [Int.natCast_emod]
          congr 1
          omega
        rw [e]
        show Q (.int (((D.N.kn n).front.length : Int) + (((pl + m - (D.N.kn n).front.length) % (D.N.kn n).turn.length : Nat) : Int))) H
        rw [← Int.natCast_add]; exact k
theorem ok_Net_turned (T : Tx K mg) : FnOk P w K mg base CX0 1 T.Net_turned.f T.Net_turned.fd ["self", "name"] (sp_Net_turned T.kNet.C) := by
  refine T.Net_turned.F.ok sc_Net_turned (fun vs H Q E h => ?_) (fun cdv A outer s H vs Q E hr h => ?_)
  · obtain ⟨p, n, D, rfl, _⟩ := h; rfl
  · obtain ⟨p, n, D, rfl, ⟨dx, kd, id, ot, nl, g, N⟩, ok, hn, k⟩ := h
    obtain ⟨a, f, t, e, ha, hf, ⟨ta, ds, rfl, ht, pt⟩⟩ := N.kn n hn
    have hU : (D.N.names ++ D.outs).length ≤ 100 := by have := ok.few; have := ok.fewo; rw [List.length_append]; omega
    refine ⟨_, (pss_cons (ps_set (i := 2) sc_Net_turned.nd rfl (.inl rfl) pe_dnewK)
      (pss_cons (ps_for PassesOwn.never rfl (pi_tup (pe_ix ix_tup (pe_dget (hu_of hr) (pe_fld (pv 0) rfl) (pv 1) (fun _ _ => rfl)) pe_int (fun _ _ => rfl))) (pg_name (i := 3) sc_Net_turned.nd rfl (.inl rfl)) (pss_one (ps_for PassesOwn.never rfl (pi_tup (pv 3)) (pg_name (i := 4) sc_Net_turned.nd rfl (.inl rfl)) (pss_one (ps_dput (hu_of hr) (pv 2) (pv 4) (pe_op op_add (pe_dget2 (hu_of hr) (pv 2) (pv 4) pe_int ⟨rfl, rfl, rfl, rfl⟩) pe_int) rfl)))))
      (pss_one (ps_ret (pv 2))))), ?_⟩
    intro d hd
    have hs1 : Same H (upd H d (.dK [])) := same_new hd
    generalize hH1 : upd H d (.dK []) = H1 at hs1 ⊢
    have hd1 : H1 d = some (.dK (CD [])) := by rw [← hH1, upd_same]; rfl
    refine ⟨_, rfl, p, _, dx, _, _, rfl, hs1 _ _ N.ob, T.cl_Net, T.a_Net_knots, netF_knots .., _, rfl, kd, _, rfl, dget_in (.inl (hs1 _ _ N.kd)) hn, a, _, 1, _, e, rfl, SqT.of (hs1 _ _ ha), atI_1, ta, rfl, ⟨_, SqT.of (hs1 _ _ ht)⟩, ?_⟩
    refine for_tup (xs := ds) (fun i σ H' => ∃ x y l, σ = [some (.ref p), some (.str n), some (.ref d), x, y] ∧ Same H H' ∧ H' d = some (.dK (CD l)) ∧ CDok l (D.N.names ++ D.outs) ∧ ∀ m, cv l m = (tally ((D.N.kn n).turn.take i) m : Nat)) ?_ ?_ ?_ ?_
    · exact ⟨none, none, [], rfl, hs1, hd1, CDok.nil _, fun m => by simp [tally, cv]⟩
    · rintro i σ H' _ ⟨x, y, l, rfl, sm, hl, o, hv⟩
      exact SqT.of (sm _ _ ht)
    · rintro i v σ H' hi ⟨x, y, l, rfl, sm, hl, o, hv⟩
      obtain ⟨dr, hdr, b, rfl, hb⟩ := RowAt.get pt hi
      have hsub : ∀ q ∈ dr, q ∈ D.N.names ++ D.outs := (ok.tgt n hn dr (by unfold Kn.rows; exact List.mem_append_right _ (List.mem_of_getElem? hdr))).2
      refine ⟨_, rfl, b, rfl, ⟨_, SqT.of (sm _ _ hb)⟩, for_tup (xs := dr.map V.str) (fun j σ H2 => ∃ y l2, σ = [some (.ref p), some (.str n), some (.ref d), some (.ref b), y] ∧ Same H H2 ∧ H2 d = some (.dK (CD l2)) ∧ CDok l2 (D.N.names ++ D.outs) ∧ ∀ m, cv l2 m = ((tally ((D.N.kn n).turn.take i) m : Nat) : Int) + ((dr.take j).count m : Nat)) ?_ ?_ ?_ ?_⟩
      · exact ⟨y, l, rfl, sm, hl, o, fun m => by rw [hv]; simp⟩
      · rintro j σ H2 _ ⟨y, l2, rfl, sm2, h2, o2, hv2⟩
        exact SqT.of (sm2 _ _ hb)
      · rintro j v σ H2 hj ⟨y, l2, rfl, sm2, h2, o2, hv2⟩
        rw [List.getElem?_map] at hj
        cases et : dr[j]? with
        | none => rw [et] at hj; cases hj
        | some t =>
          rw [et] at hj; cases hj
          have hlt : j < dr.length := (List.getElem?_eq_some_iff.mp et).1
          have hlen := o2.len
          refine ⟨_, rfl, d, rfl, .inl ⟨_, .inl h2⟩, _, rfl, _, dget_cd h2, cv l2 t, 1, by rw [cd_getD], rfl, _, rfl, _, rfl, d, _, rfl, dput_cd h2 (by omega), ?_⟩
          refine ⟨_, put1 l2 t (cv l2 t + 1), rfl, same_mut sm2 hd, upd_same, o2.put (hsub t (List.mem_of_getElem? et)) _, fun m => ?_⟩
          rw [cv_put1, List.take_succ_eq_append_getElem hlt, List.count_append]
          have eg : dr[j] = t := by rw [List.getElem?_eq_getElem hlt] at et; exact Option.some.inj et
          rw [eg, List.count_singleton]
          by_cases em : m = t
          · subst em
            rw [if_pos rfl, hv2]; simp; omega
          · rw [if_neg em, hv2, if_neg (by simpa using Ne.symm em)]; simp
      · rintro σ H2 ⟨y, l2, rfl, sm2, h2, o2, hv2⟩
        refine ⟨_, y, l2, rfl, sm2, h2, o2, fun m => ?_⟩
        rw [hv2, List.length_map, List.take_length, tally_step _ hdr, Int.natCast_add]
    · rintro σ H' ⟨x, y, l, rfl, sm, hl, o, hv⟩
      refine ⟨_, rfl, k d H' l hd sm hl o fun m => ?_⟩
      rw [hv]
      have : ds.length = (D.N.kn n).turn.length := RowAt.len pt
      rw [this, List.take_length]; rfl
end
end Bc
end
section
set_option Elab.async false
set_option linter.all false
set_option maxRecDepth 100000
set_option maxHeartbeats 2000000
/-! The walk: what a net's parts are asked. -/
namespace Bc
open PySem L2
theorem lt1 {c d : Nat} : ([c] : List Nat) < [d] ↔ c < d := by
  rw [List.cons_lt_cons_iff]; simp
theorem le_sign {c d : Nat} (h : c ≤ d) : (!decide (([d] : List Nat) < [c])) = true := by
  have : ¬ (([d] : List Nat) < [c]) := fun q => by have := lt1.mp q; omega
  simp [this]
theorem cps_a : (Str.ofString "a").cps.toList = [97] := by decide +kernel
theorem cps_z : (Str.ofString "z").cps.toList = [122] := by decide +kernel
def sp_is_name : Sp := fun vs H Q _ => ∃ z : Str, vs = [.str z] ∧ NameOk z ∧ ∀ H', Same H H' → Q (.bl true) H'
def sp_is_row : Sp := fun vs H Q _ => ∃ (v : V) (kd : Addr) (rows : List (List Str)) (U : List Str) (f : Str → V), vs = [v, .ref kd] ∧ RowAt H v rows ∧ H kd = some (.dK (FD U f)) ∧ rows.length ≤ 12 ∧ (∀ d ∈ rows, d.length ≤ 4 ∧ ∀ t ∈ d, t ∈ U) ∧ ∀ H', Same H H' → Q (.bl true) H'
def sp_is_knot : Sp := fun vs H Q _ => ∃ (v : V) (kd : Addr) (k : Kn Str) (U : List Str) (f : Str → V), vs = [v, .ref kd] ∧ KnotAt H v k ∧ H kd = some (.dK (FD U f)) ∧ k.len ≤ 12 ∧ k.turn ≠ [] ∧ (∀ d ∈ k.rows, d.length ≤ 4 ∧ ∀ t ∈ d, t ∈ U) ∧ (∀ t ∈ U, NameOk t) ∧ ∀ H', Same H H' → Q (.bl true) H'
def sp_first_wrong : Sp := fun vs H Q _ => ∃ (a : Addr) (ns : List Str), vs = [.ref a] ∧ H a = some (.lst (ns.map V.str)) ∧ ns.Nodup ∧ ns.length ≤ 100 ∧ (∀ n ∈ ns, NameOk n) ∧ ∀ p H', Same H H' → H' p = some (.lst []) → Q (.ref p) H'
section
variable {P : Program} {w : World} {K : PySem.W.Frag} {mg : Str → Option Value} {base : Heap}
theorem all_true (n : Nat) : (List.range n).map (fun _ => V.bl true) = (List.replicate n true).map V.bl := by
  induction n with
  | zero => rfl
  | succ n ih => rw [List.range_succ, List.map_append, ih, List.replicate_succ', List.map_append]; rfl
theorem all_yes (n : Nat) : ((List.replicate n true).all id) = true := by
  rw [List.all_eq_true]; intro x hx; rw [List.mem_replicate] at hx; rw [hx.2]; rfl
theorem ok_is_name (T : Tx K mg) : FnOk P w K mg base CX0 1 T.is_name.f T.is_name.fd ["thing"] sp_is_name := by
  refine T.is_name.F.ok sc_is_name (fun vs H Q E h => ?_) (fun cdv A outer s H vs Q E hr h => ?_)
  · obtain ⟨z, rfl, _⟩ := h; rfl
  · obtain ⟨z, rfl, ⟨l1, l2, hc⟩, k⟩ := h
    have hlen : z.cps.toList.length = z.length := by simp [Str.length]
    refine ⟨_, (pss_cons (ps_if (PW.pt (pw_or (pt_not (pt_val (pe_callB (id := "isinstance") call_isi rfl T.b_isinstance (by decide +kernel) (pa_cons (pv 0) (pa_cons (pe_bltn (v := .ty "str") (u := .type "str") rfl T.b_str (by decide +kernel) rfl) pa_nil))))) (pw_or (pt_not (pt_chain op_le op_le pe_int (pe_callB (id := "len") call_len_str (by rfl) T.b_len PySem.boot_len (pa_cons (pv 0) pa_nil)) (pe_glob (v := .int 16) rfl T.c_MOST_SIGNS ⟨_, rfl⟩))) (pw_or1 (pt_not (pt_chain op_le_str op_le_str pe_str (pe_ix ix_str (pv 0) pe_int (fun _ _ => rfl)) pe_str)))))) (pss_one (ps_ret pe_bl)) pss_nil)
      (pss_one (ps_ret (pe_callB (id := "all") (cr_all rfl) rfl T.b_all (by decide +kernel) (pa_cons (pe_lc (own := [("sign", 1)]) rfl sc_is_name.nd (pi_str (pv 0)) (blkOk_by (N := N_is_name) (sc := defScope s_is_name) (by decide +kernel)) (fun _ _ _ _ _ => pg_name (i := 1) sc_is_name.nd rfl (.inl rfl)) (fun _ _ _ _ _ => pts_nil) (fun _ _ _ _ _ => pe_or (pe_chain op_le_str op_le_str pe_str (pv 1) pe_str) (pe_or (pe_chain op_le_str op_le_str pe_str (pv 1) pe_str) (pe_one (pe_cmpR op_eq (pv 1) pe_str (nomark _)))))) pa_nil))))), ?_⟩
    -- the test
    have h0 : ∃ c, z.cps.toList[0]? = some c ∧ 97 ≤ c ∧ c ≤ 122 := by
      have : 0 < z.cps.toList.length := by omega
      exact ⟨_, List.getElem?_eq_getElem this, hc _ (List.getElem_mem this)⟩
    obtain ⟨c0, hc0, c1, c2⟩ := h0
    refine ⟨_, rfl, _, _, _, _, true, rfl, .ty _, .base (.str z), kit_ty (by decide +kernel), true, rfl, iteF ?_⟩
    refine ⟨_, rfl, z, rfl, sz (by omega), _, _, rfl, rfl, true, (by show V.bl (decide ((1 : Int) ≤ z.length)) = V.bl true; rw [decide_eq_true (by omega)]), iteT ⟨_, _, rfl, rfl, true, (by show V.bl (decide ((z.length : Int) ≤ 16)) = V.bl true; rw [decide_eq_true (by omega)]), iteF ?_⟩⟩
    refine ⟨_, rfl, z, 0, c0, rfl, rfl, sz (by omega), atI_nat (j := 0) hc0, _, _, rfl, rfl, true, (by show V.bl (!decide (([c0] : List Nat) < (Str.ofString "a").cps.toList)) = V.bl true; rw [cps_a, le_sign c1]), iteT ⟨_, _, rfl, rfl, true, (by show V.bl (!decide ((Str.ofString "z").cps.toList < ([c0] : List Nat))) = V.bl true; rw [cps_z, le_sign c2]), iteF ?_⟩⟩
    -- the signs
    refine ⟨_, rfl, z, rfl, fun d hd => ?_⟩
    refine lc_it walk_str (fun i H' => Same H H' ∧ H' d = some (.lst ((List.range i).map fun _ => V.bl true))) ⟨same_new hd, by rw [upd_same]; rfl⟩ (fun _ _ _ _ => trivial) ?_ ?_
    · rintro i x H1 H' hi ⟨sm, hdi⟩ ⟨rfl, c, hci, rfl⟩
      have hcm : c ∈ z.cps.toList := by
        have : z.cps.toList[i]? = some c := by simpa using hci
        exact List.mem_of_getElem? this
      obtain ⟨c1, c2⟩ := hc c hcm
      refine ⟨rfl, ?_⟩
      dsimp only [tYes]
      rw [if_pos rfl]
      refine ⟨_, rfl, _, _, rfl, rfl, true, (by show V.bl (!decide (([c] : List Nat) < (Str.ofString "a").cps.toList)) = V.bl true; rw [cps_a, le_sign c1]), iteT ⟨_, _, rfl, rfl, true, (by show V.bl (!decide ((Str.ofString "z").cps.toList < ([c] : List Nat))) = V.bl true; rw [cps_z, le_sign c2]), iteT ⟨_, hdi, ?_, same_mut sm hd, ?_⟩⟩⟩
      · rw [List.length_map, List.length_range]; have : z.cps.size = z.length := rfl; exact szl (by omega)
      · rw [upd_same, List.range_succ, List.map_append]; rfl
    · rintro H' ⟨sm, hdi⟩
      refine ⟨d, List.replicate z.cps.size true, rfl, ?_, ?_⟩
      · rw [← all_true]; exact SqL.of hdi
      · rw [all_yes]; exact k H' sm
theorem ok_is_row (T : Tx K mg) : FnOk P w K mg base CX0 1 T.is_row.f T.is_row.fd ["thing", "known"] sp_is_row := by
  refine T.is_row.F.ok sc_is_row (fun vs H Q E h => ?_) (fun cdv A outer s H vs Q E hr h => ?_)
  · obtain ⟨v, kd, rows, U, f, rfl, _⟩ := h; rfl
  · obtain ⟨v, kd, rows, U, f, rfl, ⟨a, ds, rfl, ha, pd⟩, hkd, hl, hrow, k⟩ := h
    have hdl : ds.length = rows.length := RowAt.len pd
    refine ⟨_, (pss_cons (ps_if (PW.pt (pw_or (pt_not (pt_val (pe_callB (id := "isinstance") call_isi rfl T.b_isinstance (by decide +kernel) (pa_cons (pv 0) (pa_cons (pe_bltn (v := .ty "tuple") (u := .type "tuple") rfl T.b_tuple (by decide +kernel) rfl) pa_nil))))) (pw_or1 (pt_cmpR op_gt (pe_callB (id := "len") call_len_seq (by rfl) T.b_len PySem.boot_len (pa_cons (pv 0) pa_nil)) (pe_glob (v := .int 12) rfl T.c_MOST_DROPS ⟨_, rfl⟩) (nomark _))))) (pss_one (ps_ret pe_bl)) pss_nil)
      (pss_cons (ps_for PassesOwn.never rfl (pi_tup (pv 0)) (pg_name (i := 2) sc_is_row.nd rfl (.inl rfl)) (pss_cons (ps_if (PW.pt (pw_or (pt_not (pt_val (pe_callB (id := "isinstance") call_isi rfl T.b_isinstance (by decide +kernel) (pa_cons (pv 2) (pa_cons (pe_bltn (v := .ty "tuple") (u := .type "tuple") rfl T.b_tuple (by decide +kernel) rfl) pa_nil))))) (pw_or1 (pt_cmpR op_gt (pe_callB (id := "len") call_len_seq (by rfl) T.b_len PySem.boot_len (pa_cons (pv 2) pa_nil)) (pe_glob (v := .int 4) rfl T.c_MOST_TARGETS ⟨_, rfl⟩) (nomark _))))) (pss_one (ps_ret pe_bl)) pss_nil)
        (pss_one (ps_if (pt_not (pt_val (pe_callB (id := "all") (cr_all rfl) rfl T.b_all (by decide +kernel) (pa_cons (pe_lc (own := [("target", 3)]) rfl sc_is_row.nd (pi_tup (pv 2)) (blkOk_by (N := N_is_row) (sc := defScope s_is_row) (by decide +kernel)) (fun _ _ _ _ _ => pg_name (i := 3) sc_is_row.nd rfl (.inl rfl)) (fun _ _ _ _ _ => pts_nil) (fun _ _ _ _ _ => pe_and (pe_callB (r := rIsi K) (id := "isinstance") call_isi rfl T.b_isinstance (by decide +kernel) (pa_cons (pv 3) (pa_cons (pe_bltn (v := .ty "str") (u := .type "str") rfl T.b_str (by decide +kernel) rfl) pa_nil))) (pe_one (pe_cmp (pc_din (hu_of hr) (pv 3) (pv 1)) rfl)))) pa_nil)))) (pss_one (ps_ret pe_bl)) pss_nil))))
      (pss_one (ps_ret pe_bl)))), ?_⟩
    refine ⟨_, rfl, _, _, _, _, true, rfl, .ty _, .base (.tup ha), kit_ty (by decide +kernel), true, rfl, iteF ?_⟩
    refine ⟨_, rfl, a, _, rfl, .inr (SqT.of ha), _, _, rfl, rfl, false, (by show V.bl (decide ((12 : Int) < ds.length)) = V.bl false; rw [decide_eq_false (by omega)]), iteF ?_⟩
    refine ⟨_, rfl, a, rfl, ⟨_, SqT.of ha⟩, ?_⟩
    refine for_tup (xs := ds) (fun i σ H' => ∃ x y, σ = [some (.ref a), some (.ref kd), x, y] ∧ Same H H') ⟨none, none, rfl, Same.refl H⟩ ?_ ?_ ?_
    · rintro i σ H' _ ⟨x, y, rfl, sm⟩
      exact SqT.of (sm _ _ ha)
    · rintro i v σ H' hi ⟨x, y, rfl, sm⟩
      obtain ⟨dr, hdr, b, rfl, hb⟩ := RowAt.get pd hi
      have hb := sm _ _ hb
      obtain ⟨h4, hU⟩ := hrow dr (List.mem_of_getElem? hdr)
      have hkd' := sm _ _ hkd
      refine ⟨_, rfl, _, _, _, _, true, rfl, .ty _, .base (.tup hb), kit_ty (by decide +kernel), true, rfl, iteF ?_⟩
      refine ⟨_, rfl, b, _, rfl, .inr (SqT.of hb), _, _, rfl, rfl, false, (by show V.bl (decide ((4 : Int) < (dr.map V.str).length)) = V.bl false; rw [List.length_map, decide_eq_false (by omega)]), iteF ?_⟩
      refine ⟨_, rfl, b, rfl, ⟨_, SqT.of hb⟩, fun d hd => ?_⟩
      refine lc_vals walk_namesT (by omega) hd (fun _ => .bl true) (fun x => rfl) (fun H2 s2 => SqT.of (s2 _ _ hb)) ?_ ?_
      · intro j x hj hx H2 s2 Q2 q2
        rw [List.getElem?_map, List.getElem?_eq_getElem hj] at hx
        cases hx
        refine ⟨_, rfl, _, _, _, _, true, rfl, .ty _, .base (.str _), kit_ty (by decide +kernel), true, rfl, iteT ?_⟩
        refine ⟨_, rfl, _, rfl, kd, _, rfl, dget_in (.inl (s2 _ _ hkd')) (hU _ (List.getElem_mem hj)), q2 H2 (Same.refl H2)⟩
      · intro H2 s2 h2
        refine ⟨d, List.replicate dr.length true, rfl, ?_, ?_⟩
        · rw [← all_true]; exact SqL.of h2
        · rw [all_yes]
          exact ⟨true, rfl, _, _, rfl, sm.trans s2⟩
    · rintro σ H' ⟨x, y, rfl, sm⟩
      exact k H' sm
theorem ok_is_knot (T : Tx K mg) : FnOk P w K mg base CX0 2 T.is_knot.f T.is_knot.fd ["thing", "known"] sp_is_knot := by
  refine T.is_knot.F.ok sc_is_knot (fun vs H Q E h => ?_) (fun cdv A outer s H vs Q E hr h => ?_)
  · obtain ⟨v, kd, kn, U, f, rfl, _⟩ := h; rfl
  · obtain ⟨v, kd, kn, U, f, rfl, ⟨a, fr, tu, rfl, ha, hf, ht⟩, hkd, hl, htn, hrow, hnm, k⟩ := h
    have hL := kn.len_eq
    have hfr : ∀ d ∈ kn.front, d.length ≤ 4 ∧ ∀ t ∈ d, t ∈ U := fun d hd => hrow d (by unfold Kn.rows; exact List.mem_append_left _ hd)
    have htr : ∀ d ∈ kn.turn, d.length ≤ 4 ∧ ∀ t ∈ d, t ∈ U := fun d hd => hrow d (by unfold Kn.rows; exact List.mem_append_right _ hd)
    refine ⟨_, (pss_cons (ps_if (PW.pt (pw_or (pt_not (pt_val (pe_callB (id := "isinstance") call_isi rfl T.b_isinstance (by decide +kernel) (pa_cons (pv 0) (pa_cons (pe_bltn (v := .ty "tuple") (u := .type "tuple") rfl T.b_tuple (by decide +kernel) rfl) pa_nil))))) (pw_or (pt_cmpR op_ne (pe_callB (id := "len") call_len_seq (by rfl) T.b_len PySem.boot_len (pa_cons (pv 0) pa_nil)) pe_int (nomark _)) (pw_or1 (pt_not (pt_val (pe_call (ok_is_row T) (hr.mono (by decide)) rfl T.is_row.m T.is_row.F.kp T.is_row.b .nil pass0 (pa_cons (pe_ix ix_tup (pv 0) pe_int (fun _ _ => rfl)) (pa_cons (pv 1) pa_nil))))))))) (pss_one (ps_ret pe_bl)) pss_nil)
      (pss_one (ps_ret (pe_and (pe_call (ok_is_row T) (hr.mono (by decide)) rfl T.is_row.m T.is_row.F.kp T.is_row.b .nil pass0 (pa_cons (pe_ix ix_tup (pv 0) pe_int (fun _ _ => rfl)) (pa_cons (pv 1) pa_nil))) (pe_one (pe_cmpR (op_neD hr.units) (pe_ix ix_tup (pv 0) pe_int (fun _ _ => rfl)) (pe_tup pa_nil) (nomark _))))))), ?_⟩
    refine ⟨_, rfl, _, _, _, _, true, rfl, .ty _, .base (.tup ha), kit_ty (by decide +kernel), true, rfl, iteF ?_⟩
    refine ⟨_, rfl, a, _, rfl, .inr (SqT.of ha), rfl, false, rfl, iteF ?_⟩
    refine ⟨_, rfl, a, _, 0, _, rfl, rfl, SqT.of ha, atI_0, _, rfl, fr, kd, kn.front, U, f, rfl, hf, hkd, by omega, hfr, fun H' sm => ⟨true, rfl, iteF ?_⟩⟩
    refine ⟨_, rfl, a, _, 1, _, rfl, rfl, SqT.of (sm _ _ ha), atI_1, _, rfl, tu, kd, kn.turn, U, f, rfl, ht.mono (ts_of sm), sm _ _ hkd, by omega, htr, fun H2 s2 => ⟨true, rfl, iteT ?_⟩⟩
    refine ⟨_, rfl, a, _, 1, _, rfl, rfl, SqT.of (s2 _ _ (sm _ _ ha)), atI_1, Nat.zero_le _, fun p hp => ?_⟩
    obtain ⟨ta, ds, rfl, hta, pt⟩ := ht
    refine ⟨_, _, .tup (SqT.of (same_up (sm.trans s2) hp _ _ hta)) (dp_rows (Paired.mapP pt fun _ _ q => q.mono (ts_of (same_up (sm.trans s2) hp)))), .tup (SqT.of upd_same) .nil, sh_rows (fun d hd x hx => hnm x ((htr d hd).2 x hx)), sh_tup0, ?_⟩
    have : PyData.eqv (.tuple (kn.turn.map fun d => .tuple (d.map PyData.str))) (.tuple []) = false := by
      show PyData.eqvAll _ [] = false
      rw [eqvAll_nil]
      cases e : kn.turn with
      | nil => exact absurd e htn
      | cons _ _ => rfl
    rw [this]
    exact k _ (same_up (sm.trans s2) hp)
theorem ok_first_wrong (T : Tx K mg) : FnOk P w K mg base CX0 2 T.first_wrong.f T.first_wrong.fd ["names"] sp_first_wrong := by
  refine T.first_wrong.F.ok sc_first_wrong (fun vs H Q E h => ?_) (fun cdv A outer s H vs Q E hr h => ?_)
  · obtain ⟨a, ns, rfl, _⟩ := h; rfl
  · obtain ⟨a, ns, rfl, ha, hnd, hl, hok, k⟩ := h
    refine ⟨_, (pss_cons (ps_set (i := 1) sc_first_wrong.nd rfl (.inl rfl) pe_dnewK)
      (pss_cons (ps_for PassesOwn.never rfl (pi_list (pv 0)) (pg_name (i := 2) sc_first_wrong.nd rfl (.inl rfl)) (pss_cons (ps_if (PW.pt (pw_or (pt_not (pt_val (pe_call (ok_is_name T) (hr.mono (by decide)) rfl T.is_name.m T.is_name.F.kp T.is_name.b .nil pass0 (pa_cons (pv 2) pa_nil)))) (pw_or1 (pt_cmp (pc_din (hu_of hr) (pv 2) (pv 1)))))) (pss_one (ps_ret (pe_lst (pa_cons (pe_ifExp (pt_val (pe_callB (id := "isinstance") call_isi rfl T.b_isinstance (by decide +kernel) (pa_cons (pv 2) (pa_cons (pe_bltn (v := .ty "str") (u := .type "str") rfl T.b_str (by decide +kernel) rfl) pa_nil)))) (pv 2) pe_non) pa_nil)))) pss_nil)
        (pss_one (ps_dput (hu_of hr) (pv 1) (pv 2) pe_bl rfl))))
      (pss_one (ps_ret (pe_lst pa_nil))))), ?_⟩
    intro d hd
    have hs1 : Same H (upd H d (.dK [])) := same_new hd
    generalize hH1 : upd H d (.dK []) = H1 at hs1 ⊢
    have hd1 : H1 d = some (.dK (FD (ns.take 0) fun _ => .bl true)) := by rw [← hH1, upd_same]; rfl
    refine ⟨_, rfl, a, rfl, ⟨_, SqL.of (hs1 _ _ ha)⟩, for_list (xs := ns.map V.str) (fun i σ H' => ∃ x, σ = [some (.ref a), some (.ref d), x] ∧ Same H H' ∧ H' d = some (.dK (FD (ns.take i) fun _ => .bl true))) ⟨none, rfl, hs1, hd1⟩ ?_ ?_ ?_⟩
    · rintro i σ H' _ ⟨x, rfl, sm, _⟩
      exact SqL.of (sm _ _ ha)
    · rintro i v σ H' hi ⟨x, rfl, sm, hdi⟩
      rw [List.getElem?_map] at hi
      cases et : ns[i]? with
      | none => rw [et] at hi; cases hi
      | some t =>
        rw [et] at hi; cases hi
        have hlt : i < ns.length := (List.getElem?_eq_some_iff.mp et).1
        have htk : ns.take (i + 1) = ns.take i ++ [t] := by rw [List.take_succ, et]; rfl
        have hni : t ∉ ns.take i := fun hm => by
          obtain ⟨j, hj⟩ := List.mem_iff_getElem?.mp hm
          have hji : j < i := by have := (List.getElem?_eq_some_iff.mp hj).1; rw [List.length_take] at this; omega
          rw [List.getElem?_take_of_lt hji] at hj
          have := get_inj hnd hj et
          omega
        refine ⟨_, rfl, t, rfl, hok t (List.mem_of_getElem? et), fun H2 s2 => ⟨true, rfl, iteF ?_⟩⟩
        refine ⟨_, rfl, _, rfl, d, _, rfl, dget_out (.inl (s2 _ _ hdi)) hni, false, rfl, iteF ?_⟩
        refine ⟨_, rfl, _, rfl, d, _, rfl, .inl ⟨_, .inr t, s2 _ _ hdi, rfl, ?_, rfl⟩, ?_⟩
        · rw [fd_len, List.length_take]; exact small1000 (by omega)
        · refine ⟨_, rfl, same_mut (sm.trans s2) hd, ?_⟩
          rw [upd_same, fd_snoc _ hni, htk]; unfold FD; rw [List.map_append]; rfl
    · rintro σ H' ⟨x, rfl, sm, hdi⟩
      exact ⟨Nat.zero_le _, fun p hp => k p _ (same_up sm hp) upd_same⟩
end
end Bc
end
section
set_option Elab.async false
set_option linter.all false
set_option maxRecDepth 100000
set_option maxHeartbeats 2000000
/-! The walk: which knots are met. -/
namespace Bc
open PySem L2
/-- F holds what the inlets lead to, and what these lead to -/
structure Closed (D : Nd) (F R : List Str) : Prop where
  sub : ∀ n ∈ F, n ∈ D.N.names
  subR : ∀ n ∈ R, n ∈ D.N.names
  inl : ∀ i ∈ D.ins, D.inl i ∈ F ∨ D.inl i ∈ R
  cl : ∀ n ∈ F, ∀ d ∈ (D.N.kn n).turn, ∀ t ∈ d, t ∈ D.N.names → t ∈ F ∨ t ∈ R
def sp_Net_met (C : Addr) : Sp := fun vs H Q _ => ∃ p D dx kd id ot nl g, vs = [.ref p] ∧ NetHas C H p D dx kd id ot nl g ∧ H id = some (.dK (FD D.ins fun i => .str (D.inl i))) ∧ D.Ok ∧
  ∀ d H' F, H d = none → Same H H' → H' d = some (.dK (FD F fun _ => .bl true)) → F.Nodup → Closed D F [] → Q (.ref d) H'
section
variable {P : Program} {w : World} {K : PySem.W.Frag} {mg : Str → Option Value} {base : Heap}
theorem ok_Net_met (T : Tx K mg) : FnOk P w K mg base CX0 1 T.Net_met.f T.Net_met.fd ["self"] (sp_Net_met T.kNet.C) := by
  refine T.Net_met.F.ok sc_Net_met (fun vs H Q E h => ?_) (fun cdv A outer s H vs Q E hr h => ?_)
  · obtain ⟨p, D, dx, kd, id, ot, nl, g, rfl, _⟩ := h; rfl
  · obtain ⟨p, D, dx, kd, id, ot, nl, g, rfl, N, hid0, ok, k⟩ := h
    refine ⟨_, (pss_cons (ps_par (i := 1) (j := 2) rfl sc_Net_met.nd rfl rfl (by decide) rfl rfl (pa_cons pe_dnewK (pa_cons (pe_callTy (T := "list") (call_listV rfl) rfl T.b_list (by decide +kernel) (pa_cons (pe_bm0 PySem.F.plainAttrs_dict PySem.F.slot_dict_values PySem.F.type_dict_values mt_valsK (pe_fld (pv 0) rfl)) pa_nil)) pa_nil)) (by rfl))
      (pss_cons (ps_while PassesOwn.never (pt_cmpR (op_neD hr.units) (pv 2) (pe_lst pa_nil) (nomark _)) (pss_cons (ps_set (i := 3) sc_Net_met.nd rfl (.inl rfl) (pe_bm0 PySem.F.plainAttrs_list PySem.F.slot_list_pop PySem.F.type_list_pop mt_pop (pv 2)))
        (pss_one (ps_if (pt_cmp (pc_dnotin (hu_of hr) (pv 3) (pv 1))) (pss_cons (ps_dput (hu_of hr) (pv 1) (pv 3) pe_bl rfl)
          (pss_one (ps_for PassesOwn.never rfl (pi_tup (pe_ix ix_tup (pe_dget (hu_of hr) (pe_fld (pv 0) rfl) (pv 3) (fun _ _ => rfl)) pe_int (fun _ _ => rfl))) (pg_name (i := 4) sc_Net_met.nd rfl (.inl rfl)) (pss_one (ps_expr (pe_bm PySem.F.plainAttrs_list PySem.F.slot_list_extend PySem.F.type_list_extend mt_extend (pv 2) (pa_cons (pe_lc (own := [("target", 5)]) rfl sc_Net_met.nd (pi_tup (pv 4)) (blkOk_by (N := N_Net_met) (sc := defScope s_Net_met) (by decide +kernel)) (fun _ _ _ _ _ => pg_name (i := 5) sc_Net_met.nd rfl (.inl rfl)) (fun _ _ _ _ _ => pts_one (pt_cmp (pc_din (hu_of hr) (pv 5) (pe_fldK (K := K) rfl (pv 0) rfl)))) (fun _ _ _ _ _ => pv 5)) pa_nil))))))) pss_nil))))
      (pss_one (ps_ret (pv 1))))), ?_⟩
    intro d hd
    have hs1 : Same H (upd H d (.dK [])) := same_new hd
    have hd1 : (upd H d (.dK [])) d = some (.dK (FD [] fun _ => .bl true)) := upd_same
    generalize upd H d (.dK []) = H1 at hs1 hd1 ⊢
    refine ⟨_, rfl, p, _, dx, _, _, rfl, hs1 _ _ N.ob, T.cl_Net, T.a_Net_inlets, netF_inlets .., ?_⟩
    have hid := same_rd hs1 N.id
    refine ⟨.inr (.inr (.inl ⟨rfl, .inl ⟨_, hs1 _ _ hid0⟩⟩)), _, _, rfl, rfl, hid, fun v hv => ?_⟩
    refine ⟨v, _, _, rfl, upd_same, same_rd (same_new hv) hid, fun r hr0 => ⟨_, _, rfl, ?_⟩⟩
    have hs2 := same_up (o := .lst ((FD D.ins fun i => .str (D.inl i)).map (·.2))) (same_up (o := valsO v id) hs1 hv) hr0
    have hd2 := same_new (o := .lst ((FD D.ins fun i => .str (D.inl i)).map (·.2))) hr0 _ _ (same_new (o := valsO v id) hv _ _ hd1)
    have hr2 : (upd (upd H1 v (valsO v id)) r (.lst ((FD D.ins fun i => .str (D.inl i)).map (·.2)))) r = some (.lst ((D.ins.map D.inl).map V.str)) := by rw [upd_same, fd_vals, List.map_map]; rfl
    have hrn : H r = none := hs1.free ((same_new hv).free hr0)
    generalize upd (upd H1 v (valsO v id)) r (.lst ((FD D.ins fun i => .str (D.inl i)).map (·.2))) = H2 at hs2 hd2 hr2 ⊢
    refine ⟨fun m σ H' => ∃ F R x y z, σ = [some (.ref p), some (.ref d), some (.ref r), x, y, z] ∧ Same H H' ∧ H' d = some (.dK (FD F fun _ => .bl true)) ∧ H' r = some (.lst (R.map V.str)) ∧ F.Nodup ∧ Closed D F R ∧ m = (D.N.names.length - F.length) * 49 + R.length ∧ m ≤ 700, ⟨_, [], D.ins.map D.inl, none, none, none, rfl, hs2, hd2, hr2, List.nodup_nil, ⟨(fun n h => nomatch h), fun n h => ?_, fun i hi => .inr (List.mem_map_of_mem hi), (fun n h => nomatch h)⟩, rfl, ?_⟩, ?_⟩
    · obtain ⟨i, hi, rfl⟩ := List.mem_map.mp h; exact ok.inl i hi
    · have := ok.few; have := ok.fewi; rw [List.length_map, List.length_nil]; omega
    rintro m σ H3 ⟨F, R, x, y, z, rfl, sm, hdF, hrR, fn, cl, rfl, hm⟩
    have hFl : F.length ≤ D.N.names.length := len_le_of fn cl.sub
    refine ⟨_, rfl, Nat.zero_le _, fun q hq => ?_⟩
    have sq : Same H3 (upd H3 q (.lst [])) := same_new hq
    have hqn : H q = none := sm.free hq
    refine ⟨_, _, .lst (SqL.of (sq _ _ hrR)) (dpS R), .lst (SqL.of upd_same) .nil, sh_lstS (fun x hx => ok.nm x (.inl (cl.subR x hx))), sh_lst0, ?_⟩
    have sm4 : Same H (upd H3 q (.lst [])) := sm.trans sq
    have hdF4 := sq _ _ hdF
    have hrR4 := sq _ _ hrR
    generalize upd H3 q (.lst []) = H4 at sm4 hdF4 hrR4 ⊢
    have he : PyData.eqv (.list (R.map PyData.str)) (.list []) = R.isEmpty := by show PyData.eqvAll _ [] = _; rw [eqvAll_nil]; cases R <;> rfl
    rw [he]
    rcases List.eq_nil_or_concat R with rfl | ⟨R0, nm, rfl⟩
    · refine ⟨false, rfl, iteF ?_⟩
      exact ⟨_, rfl, k d H4 F hd sm4 hdF4 fn cl⟩
    refine ⟨true, by cases R0 <;> rfl, iteT ⟨_, fun σ' H' h => h, ?_⟩⟩
    have hnm : nm ∈ D.N.names := cl.subR nm (by simp)
    refine ⟨_, rfl, .inl ⟨rfl, _, SqL.of hrR4⟩, r, _, .str nm, rfl, rfl, hrR4, by simp, ?_⟩
    have sm5 := same_mut (o := .lst (R0.map V.str)) sm4 hrn
    have hdr : d ≠ r := ne_of hdF4 hrR4 (by intro z; cases z)
    have hdF5 : (upd H4 r (.lst (R0.map V.str))) d = _ := (upd_ne hdr).trans hdF4
    have hrR5 : (upd H4 r (.lst (R0.map V.str))) r = some (.lst (R0.map V.str)) := upd_same
    have e5 : upd H4 r (.lst ((R0.concat nm).map V.str).dropLast) = upd H4 r (.lst (R0.map V.str)) := by simp
    rw [e5]
    generalize upd H4 r (.lst (R0.map V.str)) = H5 at sm5 hdF5 hrR5 ⊢
    have hR0 : ∀ n ∈ R0, n ∈ D.N.names := fun n hn => cl.subR n (by simp [hn])
    have hlR : (R0.concat nm).length = R0.length + 1 := by simp
    refine ⟨_, rfl, _, rfl, d, _, rfl, .inl ⟨_, .inr nm, .inl hdF5, rfl, rfl⟩, ?_⟩
    by_cases hin : nm ∈ F
    · rw [fd_in hin]
      refine ⟨false, rfl, iteF ⟨_, by rw [hlR]; omega, F, R0, _, _, _, rfl, sm5, hdF5, hrR5, fn, ⟨cl.sub, hR0, fun i hi => ?_, fun n hn d hd t ht hm => ?_⟩, rfl, by rw [hlR] at hm; omega⟩⟩
      · rcases cl.inl i hi with h | h
        · exact .inl h
        · simp at h; rcases h with h | h
          · exact .inr h
          · exact .inl (h ▸ hin)
      · rcases cl.cl n hn d hd t ht hm with h | h
        · exact .inl h
        · simp at h; rcases h with h | h
          · exact .inr h
          · exact .inl (h ▸ hin)
    rw [fd_out hin]
    have hFlt : F.length < D.N.names.length := by
      have := len_le_of (l := nm :: F) (u := D.N.names) (List.nodup_cons.mpr ⟨hin, fn⟩) (fun x hx => (List.mem_cons.mp hx).elim (fun h => h ▸ hnm) (cl.sub x))
      rw [List.length_cons] at this; omega
    have hfew := ok.few
    refine ⟨true, rfl, iteT ⟨_, rfl, _, rfl, d, _, rfl, .inl ⟨_, .inr nm, hdF5, rfl, by rw [fd_len]; exact small1000 (by omega), rfl⟩, ?_⟩⟩
    rw [fd_snoc _ hin]
    have sm6 := same_mut (o := .dK (FD (F ++ [nm]) fun _ => .bl true)) sm5 hd
    have hd6 : upd H5 d (.dK (FD (F ++ [nm]) fun _ => .bl true)) d = some (.dK (FD (F ++ [nm]) fun _ => .bl true)) := upd_same
    have hr6 : upd H5 d (.dK (FD (F ++ [nm]) fun _ => .bl true)) r = _ := (upd_ne (Ne.symm hdr)).trans hrR5
    have e6 : FD F (fun _ => V.bl true) ++ [(.inr nm, .bl true)] = FD (F ++ [nm]) fun _ => .bl true := by unfold FD; rw [List.map_append]; rfl
    rw [e6]
    generalize upd H5 d (.dK (FD (F ++ [nm]) fun _ => .bl true)) = H6 at sm6 hd6 hr6 ⊢
    obtain ⟨a, f, t, e, ha, hf, ⟨ta, ds, rfl, ht, pt⟩⟩ := N.kn nm hnm
    refine ⟨_, rfl, p, _, dx, _, _, rfl, sm6 _ _ N.ob, T.cl_Net, T.a_Net_knots, netF_knots .., _, rfl, kd, _, rfl, dget_in (.inl (sm6 _ _ N.kd)) hnm, a, _, 1, _, e, rfl, SqT.of (sm6 _ _ ha), atI_1, ta, rfl, ⟨_, SqT.of (sm6 _ _ ht)⟩, ?_⟩
    have hdl : ds.length = (D.N.kn nm).turn.length := RowAt.len pt
    have htl := (ok.turn hnm).1
    refine for_tup (xs := ds) (fun i σ H' => ∃ (R' : List Str) (y z : Option V), σ = [some (.ref p), some (.ref d), some (.ref r), some (.str nm), y, z] ∧ Same H H' ∧ H' d = some (.dK (FD (F ++ [nm]) fun _ => .bl true)) ∧ H' r = some (.lst (R'.map V.str)) ∧ (∀ n ∈ R', n ∈ D.N.names) ∧ (∀ n ∈ R0, n ∈ R') ∧ (∀ dr ∈ (D.N.kn nm).turn.take i, ∀ t ∈ dr, t ∈ D.N.names → t ∈ R') ∧ R'.length ≤ R0.length + 4 * i) ?_ ?_ ?_ ?_
    · exact ⟨R0, _, _, rfl, sm6, hd6, hr6, hR0, fun n h => h, fun dr h => by simp at h, by omega⟩
    · rintro i σ H' _ ⟨R', y, z, rfl, sm7, _⟩
      exact SqT.of (sm7 _ _ ht)
    · rintro i v σ H7 hi ⟨R', y, z, rfl, sm7, hd7, hr7, hsub, h0, hcl, hlen⟩
      obtain ⟨dr, hdr', b, rfl, hb⟩ := RowAt.get pt hi
      have hilt : i < (D.N.kn nm).turn.length := (List.getElem?_eq_some_iff.mp hdr').1
      have hdm : dr ∈ (D.N.kn nm).rows := by unfold Kn.rows; exact List.mem_append_right _ (List.mem_of_getElem? hdr')
      have h4 := (ok.tgt nm hnm dr hdm).1
      have hb7 := sm7 _ _ hb
      refine ⟨_, rfl, .inl ⟨rfl, _, SqL.of hr7⟩, ?_⟩
      refine ⟨_, rfl, b, rfl, ⟨_, SqT.of hb7⟩, fun q hq => ?_⟩
      refine lc_it walk_namesT (fun j H' => Same H7 H' ∧ H' q = some (.lst (((dr.take j).filter (· ∈ D.N.names)).map V.str))) ⟨same_new hq, by rw [upd_same]; rfl⟩ (fun j H' _ s => SqT.of (s.1 _ _ hb7)) ?_ ?_
      · rintro j x H8 H9 hj ⟨s8, hq8⟩ ⟨rfl, hx⟩
        rw [List.getElem?_map, List.getElem?_eq_getElem hj] at hx
        cases hx
        have s8' := sm7.trans s8
        have htk : dr.take (j + 1) = dr.take j ++ [dr[j]] := List.take_succ_eq_append_getElem hj
        refine ⟨rfl, _, rfl, _, rfl, p, _, dx, _, _, rfl, s8' _ _ N.ob, T.cl_Net, T.a_Net_knots, netF_knots .., kd, _, rfl, .inl ⟨_, .inr dr[j], .inl (s8' _ _ N.kd), rfl, rfl⟩, ?_⟩
        by_cases hm : dr[j] ∈ D.N.names
        · rw [fd_in hm]
          refine ⟨true, rfl, iteT ⟨_, rfl, _, hq8, ?_, same_mut s8 hq, ?_⟩⟩
          · rw [List.length_map]; have := List.length_filter_le (· ∈ D.N.names) (dr.take j); rw [List.length_take] at this; exact szl (by omega)
          · rw [upd_same, htk, List.filter_append, List.map_append]; simp [hm]
        · rw [fd_out hm]
          refine ⟨false, rfl, iteF ⟨s8, ?_⟩⟩
          rw [hq8, htk, List.filter_append]; simp [hm]
      · rintro H8 ⟨s8, hq8⟩
        rw [List.take_length] at hq8
        have hfl := List.length_filter_le (· ∈ D.N.names) dr
        refine ⟨r, q, _, _, rfl, rfl, s8 _ _ hr7, hq8, ?_, ?_⟩
        · rw [List.length_map, List.length_map]; exact sz (by rw [hlR] at hm; omega)
        · refine ⟨R' ++ dr.filter (· ∈ D.N.names), _, _, rfl, same_mut (sm7.trans s8) hrn, (upd_ne hdr).trans (s8 _ _ hd7), by rw [upd_same, List.map_append], ?_, ?_, ?_, ?_⟩
          · intro n hn
            rcases List.mem_append.mp hn with h | h
            · exact hsub n h
            · simpa using (List.mem_filter.mp h).2
          · intro n hn; exact List.mem_append_left _ (h0 n hn)
          · intro dr' hdr2 t ht2 htn
            rw [List.take_succ, hdr'] at hdr2
            rcases List.mem_append.mp hdr2 with h | h
            · exact List.mem_append_left _ (hcl dr' h t ht2 htn)
            · simp at h; subst h
              exact List.mem_append_right _ (List.mem_filter.mpr ⟨ht2, by simpa using htn⟩)
          · rw [List.length_append]; omega
    · rintro σ H7 ⟨R', y, z, rfl, sm7, hd7, hr7, hsub, h0, hcl, hlen⟩
      rw [hdl, List.take_length] at *
      rw [hlR] at hm ⊢
      refine ⟨_, ?_, F ++ [nm], R', _, _, _, rfl, sm7, hd7, hr7, ?_, ⟨?_, hsub, ?_, ?_⟩, rfl, ?_⟩
      · rw [List.length_append, List.length_singleton]; omega
      · rw [List.nodup_append]; exact ⟨fn, by simp, fun x hx y hy => by simp at hy; subst hy; intro e; subst e; exact hin hx⟩
      · intro n hn; rcases List.mem_append.mp hn with h | h
        · exact cl.sub n h
        · simp at h; exact h ▸ hnm
      · intro i hi
        rcases cl.inl i hi with h | h
        · exact .inl (List.mem_append_left _ h)
        · simp at h; rcases h with h | h
          · exact .inr (h0 _ h)
          · exact .inl (by rw [h]; simp)
      · intro n hn dr hdr2 t ht2 htn
        rcases List.mem_append.mp hn with h | h
        · rcases cl.cl n h dr hdr2 t ht2 htn with h | h
          · exact .inl (List.mem_append_left _ h)
          · simp at h; rcases h with h | h
            · exact .inr (h0 _ h)
            · exact .inl (by rw [h]; simp)
        · simp at h; subst h
          exact .inr (hcl dr hdr2 t ht2 htn)
      · rw [List.length_append, List.length_singleton]; omega
end
end Bc
end
section
set_option Elab.async false
set_option linter.all false
set_option maxRecDepth 100000
set_option maxHeartbeats 2000000
/-! The walk: a net is made. -/
namespace Bc
open PySem L2
/-- all but p as it was -/
def SB (p : Addr) (H H' : Hp) : Prop := ∀ b o, b ≠ p → H b = some o → H' b = some o
theorem SB.refl (p : Addr) (H : Hp) : SB p H H := fun _ _ _ e => e
theorem SB.same {p : Addr} {H H1 H2 : Hp} (a : SB p H H1) (b : Same H1 H2) : SB p H H2 := fun c o n e => b c o (a c o n e)
theorem SB.wr {p : Addr} {H H1 : Hp} {o : HO} (a : SB p H H1) : SB p H (upd H1 p o) := fun c u n e => by rw [upd_ne n]; exact a c u n e
theorem SB.ts {p : Addr} {H H' : Hp} (a : SB p H H') {u : HO} (h : H p = some u) (hu : ∀ xs, u ≠ .tup xs) : TS H H' := fun b xs e => a b _ (fun z => by subst z; rw [h] at e; exact hu xs (Option.some.inj e)) e
/-- sorted already: told apart, and any sorted list of the same names is it -/
def SU (ks : List Str) : Prop := ∀ ys : List Str, ys.Perm ks → PyProof.Rows.sortedS ys = true → ys = ks
def NetU (C : Addr) (H : Hp) (p : Addr) (D : Nd) : Prop := ∃ dx kd id ot nl g, NetHas C H p D dx kd id ot nl g ∧ H id = some (.dK (FD D.ins fun i => .str (D.inl i)))
theorem NetU.at {C : Addr} {H : Hp} {p : Addr} {D : Nd} (h : NetU C H p D) : NetAt C H p D := by obtain ⟨dx, kd, id, ot, nl, g, h, _⟩ := h; exact ⟨dx, kd, id, ot, nl, g, h⟩
theorem NetU.mono {C : Addr} {H H' : Hp} {p : Addr} {D : Nd} (h : NetU C H p D) (s : Same H H') : NetU C H' p D := by obtain ⟨dx, kd, id, ot, nl, g, h, e⟩ := h; exact ⟨dx, kd, id, ot, nl, g, h.mono s, s _ _ e⟩
theorem same_unlock {H H1 H2 : Hp} {a : Addr} {u f : HO} (s : Same H H1) (h : H a = some u) (s2 : Same (upd H1 a f) H2) : Same H (upd H2 a u) := fun b o e => by
  by_cases z : b = a
  · subst z; rw [upd_same, ← h, e]
  · rw [upd_ne z]; exact s2 b o (by rw [upd_ne z]; exact s b o e)
def Reach (D : Nd) : Prop := ∀ F, Closed D F [] → ∀ n ∈ D.N.names, n ∈ F
def sp_Net_init (C : Addr) : Sp := fun vs H Q _ => ∃ (p dx kd id ol : Addr) (D : Nd) (g : Str → V), vs = [.ref p, .ref kd, .ref id, .ref ol] ∧ H p = some (.ins C dx []) ∧ H kd = some (.dK (FD D.N.names g)) ∧ (∀ n ∈ D.N.names, KnotAt H (g n) (D.N.kn n)) ∧
  H id = some (.dK (FD D.ins fun i => .str (D.inl i))) ∧ H ol = some (.lst (D.outs.map V.str)) ∧ D.Ok ∧ D.ins ≠ [] ∧ SU D.N.names ∧ SU D.ins ∧ SU D.outs ∧ Reach D ∧ ∀ H', NetU C H' p D → SB p H H' → Q .non H'
section
variable {P : Program} {w : World} {K : PySem.W.Frag} {mg : Str → Option Value} {base : Heap}
theorem ok_Net_init (T : Tx K mg) : FnOk P w K mg base CX0 3 T.Net_init.f T.Net_init.fd ["self", "knots", "inlets", "outlets"] (sp_Net_init T.kNet.C) := by
  refine T.Net_init.F.ok sc_Net_init (fun vs H Q E h => ?_) (fun cdv A outer s H vs Q E hr h => ?_)
  · obtain ⟨p, dx, kd, id, ol, D, g, rfl, _⟩ := h; rfl
  · obtain ⟨p, dx, kd, id, ol, D, g, rfl, hp, hkd, hkn, hid, hol, ok, hin, su1, su2, su3, reach, k⟩ := h
    have hfew := ok.few
    have hfewi := ok.fewi
    have hfewo := ok.fewo
    have hne : 0 < D.N.names.length := List.length_pos_iff.mpr ok.ne
    have npk : kd ≠ p := ne_of hkd hp (by intro z; cases z)
    have npi : id ≠ p := ne_of hid hp (by intro z; cases z)
    have npo : ol ≠ p := ne_of hol hp (by intro z; cases z)
    refine ⟨_, (pss_cons (ps_if (PW.pt (pw_or (pt_not (pt_val (pe_callB (id := "isinstance") call_isi rfl T.b_isinstance (by decide +kernel) (pa_cons (pv 1) (pa_cons (pe_bltn (v := .ty "dict") (u := .type "dict") rfl T.b_dict (by decide +kernel) rfl) pa_nil))))) (pw_or (pt_not (pt_chain op_le op_le pe_int (pe_callB (id := "len") call_lenD (by rfl) T.b_len PySem.boot_len (pa_cons (pv 1) pa_nil)) (pe_glob (v := .int 12) rfl T.c_MOST_KNOTS ⟨_, rfl⟩))) (pw_or1 (pt_not (pt_val (pe_callB (id := "isinstance") call_isi rfl T.b_isinstance (by decide +kernel) (pa_cons (pv 2) (pa_cons (pe_bltn (v := .ty "dict") (u := .type "dict") rfl T.b_dict (by decide +kernel) rfl) pa_nil))))))))) (pss_one (ps_never)) pss_nil)
      (pss_cons (ps_if (PW.pt (pw_or (pt_not (pt_val (pe_callB (id := "isinstance") call_isiT rfl T.b_isinstance (by decide +kernel) (pa_cons (pv 3) (pa_cons (pe_tup (pa_cons (pe_bltn (v := .ty "list") (u := .type "list") rfl T.b_list (by decide +kernel) rfl) (pa_cons (pe_bltn (v := .ty "tuple") (u := .type "tuple") rfl T.b_tuple (by decide +kernel) rfl) pa_nil))) pa_nil))))) (pw_or1 (pt_cmpR (op_eqLen hr.units0) (pv 2) pe_dnewK (nomark _))))) (pss_one (ps_never)) pss_nil)
      (pss_cons (ps_set (i := 4) sc_Net_init.nd rfl (.inl rfl) (pe_call (ok_first_wrong T) (hr.mono (by decide)) rfl T.first_wrong.m T.first_wrong.F.kp T.first_wrong.b .nil pass0 (pa_cons (pe_lst (pa_starD rfl (pv 1) (StX.pa_star (pv 3) (pa_starD rfl (pv 2) pa_nil)))) pa_nil)))
      (pss_cons (ps_if (pt_cmpR (op_neD hr.units) (pv 4) (pe_lst pa_nil) (nomark _)) (pss_one (ps_never)) pss_nil)
      (pss_cons (ps_setDc (i := 5) (own := [("name", 6)]) rfl sc_Net_init.nd rfl rfl (sw_trueD rfl rfl rfl (by decide +kernel)) (pi_list (pe_lst (pa_starD rfl (pv 1) (StX.pa_star (pv 3) pa_nil)))) (blkOk_by (N := N_Net_init) (sc := defScope s_Net_init) (by decide +kernel)) (fun _ _ _ _ _ => pg_name (i := 6) sc_Net_init.nd rfl (.inl rfl)) (fun _ _ _ _ _ => pts_nil) (fun _ _ _ _ _ => pv 6) (fun _ _ _ _ _ => pe_bl))
      (pss_cons (ps_for PassesOwn.never rfl (pi_list (pe_callB (id := "sorted") (call_sortedD rfl) rfl T.b_sorted (by decide +kernel) (pa_cons (pv 1) pa_nil))) (pg_name (i := 6) sc_Net_init.nd rfl (.inl rfl)) (pss_one (ps_if (pt_not (pt_val (pe_call (ok_is_knot T) (hr.mono (by decide)) rfl T.is_knot.m T.is_knot.F.kp T.is_knot.b .nil pass0 (pa_cons (pe_dget (hu_of hr) (pv 1) (pv 6) (fun _ _ => rfl)) (pa_cons (pv 5) pa_nil))))) (pss_one (ps_never)) pss_nil)))
      (pss_cons (ps_lock (ps_for PassesOwn.never rfl (pi_keys (pv 2)) (pg_name (i := 6) sc_Net_init.nd rfl (.inl rfl)) (pss_one (ps_if (PW.pt (pw_or (pt_not (pt_val (pe_callB (id := "isinstance") call_isi rfl T.b_isinstance (by decide +kernel) (pa_cons (pe_dget (hu_of hr) (pv 2) (pv 6) (fun _ _ => rfl)) (pa_cons (pe_bltn (v := .ty "str") (u := .type "str") rfl T.b_str (by decide +kernel) rfl) pa_nil))))) (pw_or1 (pt_cmp (pc_dnotin (hu_of hr) (pe_dget (hu_of hr) (pv 2) (pv 6) (fun _ _ => rfl)) (pv 1)))))) (pss_one (ps_never)) pss_nil))))
      (pss_cons (ps_fld (pv 0) (pe_dc (own := [("name", 6)]) rfl sc_Net_init.nd (pi_list (pe_callB (id := "sorted") (call_sortedD rfl) rfl T.b_sorted (by decide +kernel) (pa_cons (pv 1) pa_nil))) (blkOk_by (N := N_Net_init) (sc := defScope s_Net_init) (by decide +kernel)) (fun _ _ _ _ _ => pg_name (i := 6) sc_Net_init.nd rfl (.inl rfl)) (fun _ _ _ _ _ => pts_nil) (fun _ _ _ _ _ => pv 6) (fun _ _ _ _ _ => pe_dget (hu_of hr) (pv 1) (pv 6) (fun _ _ => rfl))) rfl)
      (pss_cons (ps_fld (pv 0) (pe_dc (own := [("name", 6)]) rfl sc_Net_init.nd (pi_list (pe_callB (id := "sorted") (call_sortedD rfl) rfl T.b_sorted (by decide +kernel) (pa_cons (pv 2) pa_nil))) (blkOk_by (N := N_Net_init) (sc := defScope s_Net_init) (by decide +kernel)) (fun _ _ _ _ _ => pg_name (i := 6) sc_Net_init.nd rfl (.inl rfl)) (fun _ _ _ _ _ => pts_nil) (fun _ _ _ _ _ => pv 6) (fun _ _ _ _ _ => pe_dget (hu_of hr) (pv 2) (pv 6) (fun _ _ => rfl))) rfl)
      (pss_cons (ps_fld (pv 0) (pe_callTy (T := "tuple") (call_tuple_of) rfl T.b_tuple (by decide +kernel) (pa_cons (pe_callB (id := "sorted") (cr_sortedS) rfl T.b_sorted (by decide +kernel) (pa_cons (pv 3) pa_nil)) pa_nil)) rfl)
      (pss_cons (ps_fld (pv 0) (pe_callTy (T := "list") (call_listD rfl) rfl T.b_list (by decide +kernel) (pa_cons (pe_fld (pv 0) rfl) pa_nil)) rfl)
      (pss_cons (ps_set (i := 7) sc_Net_init.nd rfl (.inl rfl) (pe_meth0 (pv 0) T.cl_Net T.Net_met.m (ok_Net_met T) (hr.mono (by decide)) T.Net_met.b .nil pass0))
      (pss_one (ps_for PassesOwn.never rfl (pi_list (pe_fld (pv 0) rfl)) (pg_name (i := 6) sc_Net_init.nd rfl (.inl rfl)) (pss_one (ps_if (pt_cmp (pc_dnotin (hu_of hr) (pv 6) (pv 7))) (pss_one (ps_never)) pss_nil)))))))))))))))), ?_⟩
    refine ⟨_, rfl, _, _, _, _, true, rfl, .ty _, .base (.dK hkd), kit_ty (by decide +kernel), true, rfl, iteF ?_⟩
    refine ⟨_, rfl, kd, _, rfl, hkd, _, _, rfl, rfl, true, (by show V.bl (decide ((1 : Int) ≤ (FD D.N.names g).length)) = V.bl true; rw [fd_len, decide_eq_true (by omega)]), iteT ⟨_, _, rfl, rfl, true, (by show V.bl (decide (((FD D.N.names g).length : Int) ≤ 12)) = V.bl true; rw [fd_len, decide_eq_true (by omega)]), iteF ?_⟩⟩
    refine ⟨_, rfl, _, _, _, _, true, rfl, .ty _, .base (.dK hid), kit_ty (by decide +kernel), true, rfl, iteF ?_⟩
    -- outlets, inlets
    refine ⟨_, rfl, by decide, fun q hq => ⟨_, q, _, _, _, true, rfl, upd_same, .cons (.ty _) (.cons (.ty _) .nil), .base (.lst (same_new hq _ _ hol)), kitAny_cons (b := true) (kit_ty (by decide +kernel)) (fun z => nomatch z) (fun _ => rfl), true, rfl, iteF ?_⟩⟩
    have s1 : Same H (upd H q (.tup [.ty "list", .ty "tuple"])) := same_new hq
    generalize upd H q (.tup [.ty "list", .ty "tuple"]) = H1 at s1 ⊢
    refine ⟨_, rfl, fun q2 hq2 => ⟨id, q2, _, _, rfl, rfl, same_new hq2 _ _ (s1 _ _ hid), upd_same, (by rw [fd_len]; have := List.length_pos_iff.mpr hin; simp; omega), false, rfl, iteF ?_⟩⟩
    have s2 : Same H (upd H1 q2 (.dK [])) := s1.trans (same_new hq2)
    generalize upd H1 q2 (.dK []) = H2 at s2 ⊢
    -- the names
    refine ⟨_, rfl, kd, _, rfl, .inl (s2 _ _ hkd), _, rfl, ol, _, rfl, .inr (SqL.of (s2 _ _ hol)), _, rfl, id, _, rfl, .inl (s2 _ _ hid), ?_⟩
    have eN : (FD D.N.names g).map (fun kv => kV kv.1) ++ (D.outs.map V.str ++ ((FD D.ins fun i => V.str (D.inl i)).map (fun kv => kV kv.1) ++ [])) = (D.N.names ++ (D.outs ++ D.ins)).map V.str := by
      rw [fd_kv, fd_kv, List.append_nil, List.map_append, List.map_append]
    refine ⟨Nat.le_trans (Nat.le_of_eq (congrArg List.length eN)) (by rw [List.length_map, List.length_append, List.length_append]; exact sz (by omega)), fun q3 hq3 => ?_⟩
    have s3 := s2.trans (same_new (o := .lst ((FD D.N.names g).map (fun kv => kV kv.1) ++ (D.outs.map V.str ++ ((FD D.ins fun i => V.str (D.inl i)).map (fun kv => kV kv.1) ++ [])))) hq3)
    refine ⟨q3, D.N.names ++ (D.outs ++ D.ins), rfl, upd_same.trans (congrArg (fun l => some (HO.lst l)) eN), ?_, ?_, ?_, fun r H4 s4 hr4 => ?_⟩
    · rw [List.nodup_append]
      refine ⟨ok.nd, ?_, fun a ha b hb e => ?_⟩
      · rw [List.nodup_append]
        exact ⟨ok.ond, ok.indd, fun a ha b hb e => ok.apo b hb (e ▸ ha)⟩
      · subst e
        rcases List.mem_append.mp hb with h | h
        · exact ok.apart a ha h
        · exact ok.aparti a h ha
    · rw [List.length_append, List.length_append]; omega
    · intro n hn
      rcases List.mem_append.mp hn with h | h
      · exact ok.nm n (.inl h)
      · rcases List.mem_append.mp h with h | h
        · exact ok.nm n (.inr (.inl h))
        · exact ok.nm n (.inr (.inr h))
    have s5 := s3.trans s4
    refine ⟨_, rfl, Nat.zero_le _, fun q4 hq4 => ⟨_, _, .lst (SqL.of (same_new hq4 _ _ hr4)) .nil, .lst (SqL.of upd_same) .nil, sh_lst0, sh_lst0, false, rfl, iteF ?_⟩⟩
    have s6 := s5.trans (same_new (o := .lst []) hq4)
    generalize upd H4 q4 (.lst []) = H6 at s6 ⊢
    -- known
    refine ⟨_, rfl, kd, _, rfl, .inl (s6 _ _ hkd), _, rfl, ol, _, rfl, .inr (SqL.of (s6 _ _ hol)), ?_⟩
    have eN2 : (FD D.N.names g).map (fun kv => kV kv.1) ++ (D.outs.map V.str ++ []) = (D.N.names ++ D.outs).map V.str := by
      rw [fd_kv, List.append_nil, List.map_append]
    refine ⟨Nat.le_trans (Nat.le_of_eq (congrArg List.length eN2)) (by rw [List.length_map, List.length_append]; exact sz (by omega)), fun q5 hq5 => ?_⟩
    have s7 := s6.trans (same_new (o := .lst ((FD D.N.names g).map (fun kv => kV kv.1) ++ (D.outs.map V.str ++ []))) hq5)
    have h5 : upd H6 q5 (.lst ((FD D.N.names g).map (fun kv => kV kv.1) ++ (D.outs.map V.str ++ []))) q5 = some (.lst ((D.N.names ++ D.outs).map V.str)) := upd_same.trans (congrArg (fun l => some (HO.lst l)) eN2)
    refine ⟨q5, rfl, ⟨_, SqL.of h5⟩, fun kn hkn0 => ?_⟩
    refine dc_names walk_names (by rw [List.nodup_append]; exact ⟨ok.nd, ok.ond, fun a ha b hb e => ok.apart a ha (e ▸ hb)⟩) (by rw [List.length_append]; omega) hkn0 (fun _ => .bl true) (fun x => rfl) (fun x => rfl) (fun H' s' => s'.seq (SqL.of h5)) (fun n hn H' s' Q' q => q H' (Same.refl H')) (fun H8 s8 hK => ?_)
    have s9 := s7.trans s8
    -- the knots
    refine ⟨_, rfl, kd, _, D.N.names, rfl, .inl (s9 _ _ hkd), (by rw [fd_keys]), by omega, fun ys l hper hso hl0 => ?_⟩
    obtain rfl := su1 ys hper hso
    have s10 := s9.trans (same_new (o := .lst (D.N.names.map V.str)) hl0)
    have hl1 : upd H8 l (.lst (D.N.names.map V.str)) l = some (.lst (D.N.names.map V.str)) := upd_same
    have hK1 : upd H8 l (.lst (D.N.names.map V.str)) kn = _ := same_new hl0 _ _ hK
    generalize upd H8 l (.lst (D.N.names.map V.str)) = H10 at s10 hl1 hK1 ⊢
    refine ⟨l, rfl, ⟨_, SqL.of hl1⟩, ?_⟩
    refine for_list (xs := D.N.names.map V.str) (fun i σ H' => ∃ x, σ = [some (.ref p), some (.ref kd), some (.ref id), some (.ref ol), some (.ref r), some (.ref kn), x, none] ∧ Same H H' ∧ H' l = some (.lst (D.N.names.map V.str)) ∧ H' kn = some (.dK (FD (D.N.names ++ D.outs) fun _ => .bl true))) ⟨none, rfl, s10, hl1, hK1⟩ (by rintro i σ H' _ ⟨x, rfl, _, h, _⟩; exact SqL.of h) ?_ ?_
    · rintro i v σ H' hi ⟨x, rfl, sm, hl2, hK2⟩
      rw [List.getElem?_map] at hi
      cases et : D.N.names[i]? with
      | none => rw [et] at hi; cases hi
      | some n =>
        rw [et] at hi; cases hi
        have hn := List.mem_of_getElem? et
        refine ⟨_, rfl, _, rfl, kd, _, rfl, dget_in (.inl (sm _ _ hkd)) hn, _, rfl, ?_⟩
        refine ⟨_, kn, D.N.kn n, _, _, rfl, (hkn n hn).mono (ts_of sm), hK2, ok.len n hn, ok.tn n hn, ok.tgt n hn, fun t ht => ok.nm t ((List.mem_append.mp ht).elim .inl (fun h => .inr (.inl h))), fun H2 s2 => ⟨true, rfl, iteF ⟨_, rfl, sm.trans s2, s2 _ _ hl2, s2 _ _ hK2⟩⟩⟩
    rintro σ H11 ⟨x, rfl, s11, _, _⟩
    -- the inlets
    refine ⟨id, _, s11 _ _ hid, trivial, fun od => ?_⟩
    have hid11 := s11 _ _ hid
    have hfz : upd H11 id (.frz od (.dK (FD D.ins fun i => .str (D.inl i)))) id = some (.frz od (.dK (FD D.ins fun i => .str (D.inl i)))) := upd_same
    have npki : kd ≠ id := fun e => by
      subst e
      have h := HO.dK.inj (Option.some.inj (hkd.symm.trans hid))
      have h2 := congrArg (List.map (·.1)) h
      rw [fd_keys, fd_keys] at h2
      have h3 : D.N.names = D.ins := (List.map_inj_right (fun a b e => Sum.inr.inj e)).mp h2
      obtain ⟨i, hi⟩ := List.exists_mem_of_ne_nil _ hin
      exact ok.aparti i hi (h3 ▸ hi)
    refine ⟨_, rfl, id, od, rfl, .inl ⟨_, hfz, ?_⟩⟩
    refine for_it walk_keys (fun i σ H' => ∃ x, σ = [some (.ref p), some (.ref kd), some (.ref id), some (.ref ol), some (.ref r), some (.ref kn), x, none] ∧ Same (upd H11 id (.frz od (.dK (FD D.ins fun i => .str (D.inl i))))) H') ⟨x, rfl, Same.refl _⟩ (by rintro i σ H' _ ⟨x, rfl, sm⟩; exact sm _ _ hfz) ?_ ?_
    · rintro i v σ H' H'' hi ⟨x, rfl, sm⟩ ⟨rfl, ky, y, hy, rfl⟩
      obtain ⟨n, hn, rfl, rfl⟩ := fd_of_get hy
      have hni := List.mem_of_getElem? hn
      have hrd : Rd H'' id (.dK (FD D.ins fun i => .str (D.inl i))) := .inr ⟨od, sm _ _ hfz⟩
      have hkz : H'' kd = some (.dK (FD D.N.names g)) := sm _ _ (by rw [upd_ne npki]; exact s11 _ _ hkd)
      refine ⟨_, rfl, _, rfl, id, _, rfl, dget_in hrd hni, _, _, _, _, true, rfl, .ty _, .base (.str _), kit_ty (by decide +kernel), true, rfl, iteF ?_⟩
      refine ⟨_, rfl, _, rfl, id, _, rfl, dget_in hrd hni, _, rfl, kd, _, rfl, dget_in (.inl hkz) (ok.inl n hni), false, rfl, iteF ?_⟩
      exact ⟨_, rfl, sm⟩
    rintro σ Hz ⟨x, rfl, smz⟩
    refine ⟨smz _ _ hfz, ?_⟩
    have s12 := same_unlock s11 hid smz
    generalize upd Hz id (.dK (FD D.ins fun i => .str (D.inl i))) = H12 at s12 ⊢
    -- knots
    refine ⟨_, rfl, kd, _, D.N.names, rfl, .inl (s12 _ _ hkd), (by rw [fd_keys]), by omega, fun ys l1 hper hso hl1 => ?_⟩
    obtain rfl := su1 ys hper hso
    have s13 := s12.trans (same_new (o := .lst (D.N.names.map V.str)) hl1)
    have hl1' : upd H12 l1 (.lst (D.N.names.map V.str)) l1 = some (.lst (D.N.names.map V.str)) := upd_same
    refine ⟨l1, rfl, ⟨_, SqL.of hl1'⟩, fun kd2 hkd2 => ?_⟩
    refine dc_names walk_names ok.nd (by omega) hkd2 g (fun x => rfl) (fun x => rfl) (fun H' s' => s'.seq (SqL.of hl1')) (fun n hn H' s' Q' q => ⟨_, rfl, _, rfl, kd, _, rfl, dget_in (.inl (s' _ _ (s13 _ _ hkd))) hn, q H' (Same.refl H')⟩) (fun H14 s14 hK14 => ?_)
    have s14' := s13.trans s14
    refine ⟨_, rfl, p, _, dx, _, rfl, s14' _ _ hp, T.cl_Net, T.a_Net_knots, by decide, ?_⟩
    have sb15 : SB p H (upd H14 p (.ins T.kNet.C dx (putF "knots" (.ref kd2) []))) := SB.wr fun b o _ e => s14' b o e
    have hp15 : upd H14 p (.ins T.kNet.C dx (putF "knots" (.ref kd2) [])) p = some (.ins T.kNet.C dx [("knots", .ref kd2)]) := upd_same
    have nk2 : kd2 ≠ p := ne_of hK14 (s14' _ _ hp) (by intro z; cases z)
    have hK15 : upd H14 p (.ins T.kNet.C dx (putF "knots" (.ref kd2) [])) kd2 = _ := (upd_ne nk2).trans hK14
    generalize upd H14 p (.ins T.kNet.C dx (putF "knots" (.ref kd2) [])) = H15 at sb15 hp15 hK15 ⊢
    -- inlets
    refine ⟨_, rfl, id, _, D.ins, rfl, .inl (sb15 _ _ npi hid), (by rw [fd_keys]), by omega, fun ys l2 hper hso hl2 => ?_⟩
    obtain rfl := su2 ys hper hso
    have t16 := same_new (o := .lst (D.ins.map V.str)) hl2
    have hl2' : upd H15 l2 (.lst (D.ins.map V.str)) l2 = some (.lst (D.ins.map V.str)) := upd_same
    refine ⟨l2, rfl, ⟨_, SqL.of hl2'⟩, fun id2 hid2 => ?_⟩
    refine dc_names walk_names ok.indd (by omega) hid2 (fun i => .str (D.inl i)) (fun x => rfl) (fun x => rfl) (fun H' s' => s'.seq (SqL.of hl2')) (fun n hn H' s' Q' q => ⟨_, rfl, _, rfl, id, _, rfl, dget_in (.inl (s' _ _ (t16 _ _ (sb15 _ _ npi hid)))) hn, q H' (Same.refl H')⟩) (fun H17 s17 hI17 => ?_)
    have t17 := t16.trans s17
    refine ⟨_, rfl, p, _, dx, _, rfl, t17 _ _ hp15, T.cl_Net, T.a_Net_inlets, (by simp), ?_⟩
    have ni2 : id2 ≠ p := ne_of hI17 (t17 _ _ hp15) (by intro z; cases z)
    have sb18 : SB p H (upd H17 p (.ins T.kNet.C dx (putF "inlets" (.ref id2) [("knots", .ref kd2)]))) := (sb15.same t17).wr
    have hp18 : upd H17 p (.ins T.kNet.C dx (putF "inlets" (.ref id2) [("knots", .ref kd2)])) p = some (.ins T.kNet.C dx [("knots", .ref kd2), ("inlets", .ref id2)]) := upd_same
    have hK18 : upd H17 p (.ins T.kNet.C dx (putF "inlets" (.ref id2) [("knots", .ref kd2)])) kd2 = _ := (upd_ne nk2).trans (t17 _ _ hK15)
    have hI18 : upd H17 p (.ins T.kNet.C dx (putF "inlets" (.ref id2) [("knots", .ref kd2)])) id2 = _ := (upd_ne ni2).trans hI17
    generalize upd H17 p (.ins T.kNet.C dx (putF "inlets" (.ref id2) [("knots", .ref kd2)])) = H18 at sb18 hp18 hK18 hI18 ⊢
    -- outlets
    refine ⟨_, rfl, ol, D.outs, rfl, SqL.of (sb18 _ _ npo hol), by omega, fun ys l3 hper hso hl3 => ?_⟩
    obtain rfl := su3 ys hper hso
    have t19 := same_new (o := .lst (D.outs.map V.str)) hl3
    refine ⟨l3, _, rfl, .inl ⟨SqL.of upd_same, fun ot hot => ?_⟩⟩
    have t20 := t19.trans (same_new (o := .tup (D.outs.map V.str)) hot)
    have hO20 : upd (upd H18 l3 (.lst (D.outs.map V.str))) ot (.tup (D.outs.map V.str)) ot = some (.tup (D.outs.map V.str)) := upd_same
    generalize upd (upd H18 l3 (.lst (D.outs.map V.str))) ot (.tup (D.outs.map V.str)) = H20 at t20 hO20 ⊢
    refine ⟨_, rfl, p, _, dx, _, rfl, t20 _ _ hp18, T.cl_Net, T.a_Net_outlets, (by simp), ?_⟩
    have no2 : ot ≠ p := ne_of hO20 (t20 _ _ hp18) (by intro z; cases z)
    have sb21 : SB p H (upd H20 p (.ins T.kNet.C dx (putF "outlets" (.ref ot) [("knots", .ref kd2), ("inlets", .ref id2)]))) := (sb18.same t20).wr
    have hp21 : upd H20 p (.ins T.kNet.C dx (putF "outlets" (.ref ot) [("knots", .ref kd2), ("inlets", .ref id2)])) p = some (.ins T.kNet.C dx [("knots", .ref kd2), ("inlets", .ref id2), ("outlets", .ref ot)]) := upd_same
    have hK21 : upd H20 p (.ins T.kNet.C dx (putF "outlets" (.ref ot) [("knots", .ref kd2), ("inlets", .ref id2)])) kd2 = _ := (upd_ne nk2).trans (t20 _ _ hK18)
    have hI21 : upd H20 p (.ins T.kNet.C dx (putF "outlets" (.ref ot) [("knots", .ref kd2), ("inlets", .ref id2)])) id2 = _ := (upd_ne ni2).trans (t20 _ _ hI18)
    have hO21 : upd H20 p (.ins T.kNet.C dx (putF "outlets" (.ref ot) [("knots", .ref kd2), ("inlets", .ref id2)])) ot = _ := (upd_ne no2).trans hO20
    generalize upd H20 p (.ins T.kNet.C dx (putF "outlets" (.ref ot) [("knots", .ref kd2), ("inlets", .ref id2)])) = H21 at sb21 hp21 hK21 hI21 hO21 ⊢
    -- names
    refine ⟨_, rfl, p, _, dx, _, _, rfl, hp21, T.cl_Net, T.a_Net_knots, rfl, kd2, _, rfl, .inl hK21, fun nl hnl => ?_⟩
    have eK : (FD D.N.names g).map (fun kv => kV kv.1) = D.N.names.map V.str := fd_kv ..
    have t22 := same_new (o := .lst ((FD D.N.names g).map (fun kv => kV kv.1))) hnl
    have hN22 : upd H21 nl (.lst ((FD D.N.names g).map (fun kv => kV kv.1))) nl = some (.lst (D.N.names.map V.str)) := by rw [upd_same, eK]
    generalize upd H21 nl (.lst ((FD D.N.names g).map (fun kv => kV kv.1))) = H22 at t22 hN22 ⊢
    refine ⟨_, rfl, p, _, dx, _, rfl, t22 _ _ hp21, T.cl_Net, T.a_Net_names, (by simp), ?_⟩
    have nn2 : nl ≠ p := ne_of hN22 (t22 _ _ hp21) (by intro z; cases z)
    have sb23 : SB p H (upd H22 p (.ins T.kNet.C dx (putF "names" (.ref nl) [("knots", .ref kd2), ("inlets", .ref id2), ("outlets", .ref ot)]))) := (sb21.same t22).wr
    have nh : NetHas T.kNet.C (upd H22 p (.ins T.kNet.C dx (putF "names" (.ref nl) [("knots", .ref kd2), ("inlets", .ref id2), ("outlets", .ref ot)]))) p D dx kd2 id2 ot nl g := {
      ob := upd_same
      kd := (upd_ne nk2).trans (t22 _ _ hK21)
      kn := fun n hn => (hkn n hn).mono (sb23.ts hp (fun xs z => nomatch z))
      id := .inl ((upd_ne ni2).trans (t22 _ _ hI21))
      ot := (upd_ne no2).trans (t22 _ _ hO21)
      nl := (upd_ne nn2).trans hN22 }
    have hI23 : upd H22 p (.ins T.kNet.C dx (putF "names" (.ref nl) [("knots", .ref kd2), ("inlets", .ref id2), ("outlets", .ref ot)])) id2 = _ := (upd_ne ni2).trans (t22 _ _ hI21)
    generalize upd H22 p (.ins T.kNet.C dx (putF "names" (.ref nl) [("knots", .ref kd2), ("inlets", .ref id2), ("outlets", .ref ot)])) = H23 at sb23 nh hI23 ⊢
    -- met
    refine ⟨_, rfl, p, dx, _, rfl, nh.ob, rfl, p, D, dx, kd2, id2, ot, nl, g, rfl, nh, hI23, ok, fun md H24 F hmd s24 hM24 hFn hcl => ?_⟩
    have hall := reach F hcl
    refine ⟨_, rfl, p, _, dx, _, _, rfl, s24 _ _ nh.ob, T.cl_Net, T.a_Net_names, netF_names .., nl, rfl, ⟨_, SqL.of (s24 _ _ nh.nl)⟩, ?_⟩
    refine for_list (xs := D.N.names.map V.str) (fun i σ H' => ∃ x, σ = [some (.ref p), some (.ref kd), some (.ref id), some (.ref ol), some (.ref r), some (.ref kn), x, some (.ref md)] ∧ H' = H24) ⟨x, rfl, rfl⟩ (by rintro i σ H' _ ⟨x, rfl, rfl⟩; exact SqL.of (s24 _ _ nh.nl)) ?_ ?_
    · rintro i v σ H' hi ⟨x, rfl, rfl⟩
      rw [List.getElem?_map] at hi
      cases et : D.N.names[i]? with
      | none => rw [et] at hi; cases hi
      | some n =>
        rw [et] at hi; cases hi
        exact ⟨_, rfl, _, rfl, md, _, rfl, dget_in (.inl hM24) (hall n (List.mem_of_getElem? et)), false, rfl, iteF ⟨_, rfl, rfl⟩⟩
    · rintro σ H' ⟨x, rfl, rfl⟩
      exact k _ ⟨dx, kd2, id2, ot, nl, g, nh.mono s24, s24 _ _ hI23⟩ (sb23.same s24)
end
end Bc
end
section
set_option Elab.async false
set_option linter.all false
set_option maxRecDepth 100000
set_option maxHeartbeats 2000000
/-! The walk: leading minors. -/
namespace Bc
open PySem L2
def elim (pv bf : Int) (top row : List Int) (at_ : Nat) : List Int := List.zipWith (fun here there => (pv * here - row.getD at_ 0 * there) / bf) row top
def elims (pv bf : Int) (M : List (List Int)) (at_ j : Nat) : List (List Int) := (List.range M.length).map fun k => if at_ + 1 ≤ k ∧ k < at_ + 1 + j then elim pv bf (M.getD at_ []) (M.getD k []) at_ else M.getD k []
def minors (M : List (List Int)) (bf : Int) (found : List Int) (at_ : Nat) : Nat → List Int
  | 0 => found
  | k + 1 => if (M.getD at_ []).getD at_ 0 ≤ 0 then found ++ [(M.getD at_ []).getD at_ 0]
    else minors (elims ((M.getD at_ []).getD at_ 0) bf M at_ (M.length - (at_ + 1))) ((M.getD at_ []).getD at_ 0) (found ++ [(M.getD at_ []).getD at_ 0]) (at_ + 1) k
theorem elims_len (pv bf : Int) (M : List (List Int)) (i j : Nat) : (elims pv bf M i j).length = M.length := by simp [elims]
theorem elims_get (pv bf : Int) (M : List (List Int)) (i j : Nat) {k : Nat} (h : k < M.length) : (elims pv bf M i j)[k]? = some (if i + 1 ≤ k ∧ k < i + 1 + j then elim pv bf (M.getD i []) (M.getD k []) i else M.getD k []) := by
  unfold elims; rw [List.getElem?_map, List.getElem?_range h]; rfl
theorem elims_zero (pv bf : Int) (M : List (List Int)) (i : Nat) : elims pv bf M i 0 = M := by
  apply List.ext_getElem?
  intro k
  by_cases h : k < M.length
  · rw [elims_get pv bf M i 0 h, if_neg (by omega), List.getD, List.getElem?_eq_getElem h]; rfl
  · rw [List.getElem?_eq_none (by rw [elims_len]; omega), List.getElem?_eq_none (by omega)]
theorem elims_succ (pv bf : Int) (M : List (List Int)) (i j : Nat) (hj : i + 1 + j < M.length) : (elims pv bf M i j).set (i + 1 + j) (elim pv bf (M.getD i []) (M.getD (i + 1 + j) []) i) = elims pv bf M i (j + 1) := by
  apply List.ext_getElem?
  intro k
  by_cases h : k < M.length
  · rw [elims_get pv bf M i (j + 1) h, List.getElem?_set]
    by_cases e : i + 1 + j = k
    · subst e
      rw [if_pos rfl, if_pos (by rw [elims_len]; exact hj), if_pos (by omega)]
    · rw [if_neg e, elims_get pv bf M i j h]
      by_cases q : i + 1 ≤ k ∧ k < i + 1 + j
      · rw [if_pos q, if_pos (by omega)]
      · rw [if_neg q, if_neg (by omega)]
  · rw [List.getElem?_eq_none (by rw [List.length_set, elims_len]; omega), List.getElem?_eq_none (by rw [elims_len]; omega)]
theorem get_getD {α : Type} {l : List α} {i : Nat} {d : α} (h : i < l.length) : l[i]? = some (l.getD i d) := by rw [List.getD, List.getElem?_eq_getElem h]; rfl
theorem nat_mul {a b : Int} {A B : Nat} (h : a.natAbs ≤ A) (h2 : b.natAbs ≤ B) : (a * b).natAbs ≤ A * B := by rw [Int.natAbs_mul]; exact Nat.mul_le_mul h h2
theorem div_bound {c b : Int} {C : Nat} (hb : 1 ≤ b) (h : c.natAbs ≤ C) : (c / b).natAbs ≤ C := by
  have h1 : c / b ≤ C := Int.ediv_le_of_le_mul (by omega) (by
    have : (C : Int) * 1 ≤ C * b := Int.mul_le_mul_of_nonneg_left hb (by omega)
    omega)
  have h2 : -(C : Int) ≤ c / b := Int.le_ediv_of_mul_le (by omega) (by
    have : (C : Int) * 1 ≤ C * b := Int.mul_le_mul_of_nonneg_left hb (by omega)
    rw [Int.neg_mul]; omega)
  omega
theorem elim_len {pv bf : Int} {top row : List Int} {i n : Nat} (h1 : top.length = n) (h2 : row.length = n) : (elim pv bf top row i).length = n := by unfold elim; rw [List.length_zipWith, h1, h2, Nat.min_self]
theorem elim_bound {pv bf : Int} {top row : List Int} {i : Nat} {B : Nat} (hp : pv.natAbs ≤ B) (hb : 1 ≤ bf) (h1 : ∀ x ∈ top, x.natAbs ≤ B) (h2 : ∀ x ∈ row, x.natAbs ≤ B) : ∀ x ∈ elim pv bf top row i, x.natAbs ≤ 2 * (B * B) := by
  intro x hx
  unfold elim at hx
  obtain ⟨k, hk⟩ := List.mem_iff_getElem?.mp hx
  rw [List.getElem?_zipWith] at hk
  cases e1 : row[k]? with
  | none => rw [e1] at hk; simp at hk
  | some a =>
    cases e2 : top[k]? with
    | none => rw [e1, e2] at hk; simp at hk
    | some b =>
      rw [e1, e2] at hk
      simp at hk
      subst hk
      have ha := h2 a (List.mem_of_getElem? e1)
      have hb' := h1 b (List.mem_of_getElem? e2)
      have hf : (row.getD i 0).natAbs ≤ B := by
        rw [List.getD]
        cases e3 : row[i]? with
        | none => simp
        | some c => exact h2 c (List.mem_of_getElem? e3)
      have q1 := nat_mul hp ha
      have q2 := nat_mul hf hb'
      refine div_bound hb ?_
      simp only [List.getD] at q2
      omega
theorem paired_set {α β : Type} {F : α → β → Prop} {x : α} {y : β} (h : F x y) : ∀ {l : List α} {m : List β} (i : Nat), Paired F l m → Paired F (l.set i x) (m.set i y)
  | _, _, _, .nil => .nil
  | _, _, 0, .cons _ r => .cons h r
  | _, _, i + 1, .cons g r => .cons g (paired_set h i r)
theorem paired_app {α β : Type} {F : α → β → Prop} {x : α} {y : β} (h : F x y) : ∀ {l : List α} {m : List β}, Paired F l m → Paired F (l ++ [x]) (m ++ [y])
  | _, _, .nil => .cons h .nil
  | _, _, .cons g r => .cons g (paired_app h r)
/-- a row of ints at an address other than f and t -/
def IRow (f t : Addr) (H : Hp) (v : V) (row : List Int) : Prop := ∃ a, v = .ref a ∧ a ≠ f ∧ a ≠ t ∧ H a = some (.lst (row.map V.int))
def IRow0 (H : Hp) (v : V) (row : List Int) : Prop := ∃ a, v = .ref a ∧ H a = some (.lst (row.map V.int))
def sp_minors_of : Sp := fun vs H Q _ => ∃ (r : Addr) (us : List V) (M : List (List Int)) (n : Nat), vs = [.ref r] ∧ H r = some (.lst us) ∧ Paired (IRow0 H) us M ∧ M.length = n ∧ n ≤ 3 ∧ (∀ row ∈ M, row.length = n ∧ ∀ x ∈ row, x.natAbs ≤ 100) ∧
  ∀ a H', Same H H' → H' a = some (.lst ((minors M 1 [] 0 n).map V.int)) → Q (.ref a) H'
section
variable {P : Program} {w : World} {K : PySem.W.Frag} {mg : Str → Option Value} {base : Heap}
theorem ok_minors_of (T : Tx K mg) : FnOk P w K mg base CX0 1 T.minors_of.f T.minors_of.fd ["rows"] sp_minors_of := by
  refine T.minors_of.F.ok sc_minors_of (fun vs H Q E h => ?_) (fun cdv A outer s H vs Q E hr h => ?_)
  · obtain ⟨r, us, M, n, rfl, _⟩ := h; rfl
  · obtain ⟨r, us, M0, n, rfl, hru, hp0, hlen, hn3, hM0, k⟩ := h
    have hul : us.length = n := (Paired.length hp0).trans hlen
    refine ⟨_, (pss_cons (ps_asg (pe_tup (pa_cons (pe_lc (own := [("row", 8)]) rfl sc_minors_of.nd (pi_list (pv 0)) (blkOk_by (N := N_minors_of) (sc := defScope s_minors_of) (by decide +kernel)) (fun _ _ _ _ _ => pg_name (i := 8) sc_minors_of.nd rfl (.inl rfl)) (fun _ _ _ _ _ => pts_nil) (fun _ _ _ _ _ => pe_callTy (T := "list") (call_list_ofK (K := K) rfl) rfl T.b_list (by decide +kernel) (pa_cons (pv 8) pa_nil))) (pa_cons pe_int (pa_cons (pe_lst pa_nil) pa_nil)))) (pg_tup rfl (pgs_cons (pg_name (i := 1) sc_minors_of.nd rfl (.inl rfl)) (pgs_cons (pg_name (i := 2) sc_minors_of.nd rfl (.inr rfl)) (pgs_cons (pg_name (i := 3) sc_minors_of.nd rfl (.inl rfl)) pgs_nil)))))
      (pss_cons (ps_for PassesOwn.never rfl (pi_range1 rfl T.b_range (pa_cons (pe_callB (id := "len") call_len_seq (by rfl) T.b_len PySem.boot_len (pa_cons (pv 1) pa_nil)) pa_nil)) (pg_name (i := 4) sc_minors_of.nd rfl (.inl rfl)) (pss_cons (ps_set (i := 5) sc_minors_of.nd rfl (.inr rfl) (pe_ix ix_list (pe_ix ix_list (pv 1) (pv 4) (fun _ _ => rfl)) (pv 4) (fun _ _ => rfl)))
        (pss_cons (ps_expr (pe_bm PySem.F.plainAttrs_list PySem.F.slot_list_append PySem.F.type_list_append mt_append (pv 3) (pa_cons (pv 5) pa_nil)))
        (pss_cons (ps_if (pt_cmpR op_le (pv 5) pe_int (nomark _)) (pss_one (ps_ret (pv 3))) pss_nil)
        (pss_cons (ps_for PassesOwn.never rfl (pi_range2 rfl T.b_range (pa_cons (pe_op op_add (pv 4) pe_int) (pa_cons (pe_callB (id := "len") call_len_seq (by rfl) T.b_len PySem.boot_len (pa_cons (pv 1) pa_nil)) pa_nil))) (pg_name (i := 6) sc_minors_of.nd rfl (.inl rfl)) (pss_cons (ps_set (i := 7) sc_minors_of.nd rfl (.inr rfl) (pe_ix ix_list (pe_ix ix_list (pv 1) (pv 6) (fun _ _ => rfl)) (pv 4) (fun _ _ => rfl)))
          (pss_one (ps_asg (pe_lc (own := [("here", 9), ("there", 10)]) rfl sc_minors_of.nd (RZ.pi_zipA rfl T.b_zip (pa_cons (pe_ix ix_list (pv 1) (pv 6) (fun _ _ => rfl)) (pa_cons (pe_ix ix_list (pv 1) (pv 4) (fun _ _ => rfl)) pa_nil))) (blkOk_by (N := N_minors_of) (sc := defScope s_minors_of) (by decide +kernel)) (fun _ _ _ _ _ => pg_tupK (K := K) (n := 2) rfl rfl (pgs_cons (pg_name (i := 9) sc_minors_of.nd rfl (.inl rfl)) (pgs_cons (pg_name (i := 10) sc_minors_of.nd rfl (.inl rfl)) pgs_nil))) (fun _ _ _ _ _ => pts_nil) (fun _ _ _ _ _ => pe_op op_fdiv (pe_op op_sub (pe_op op_mul (pv 5) (pv 9)) (pe_op op_mul (pv 7) (pv 10))) (pv 2))) (pg_sub (pv 1) (pv 6) set_list)))))
        (pss_one (ps_set (i := 2) sc_minors_of.nd rfl (.inr rfl) (pv 5))))))))
      (pss_one (ps_ret (pv 3))))), ?_⟩
    refine ⟨_, rfl, r, rfl, ⟨_, SqL.of hru⟩, fun t ht => ?_⟩
    have wl := walk_list (K := K) (a := r) (xs := us)
    refine lc_it wl (fun i H' => ∃ vs, Same H H' ∧ H' t = some (.lst vs) ∧ vs.length = i ∧ Paired (fun v row => ∃ a, v = .ref a ∧ a ≠ t ∧ H' a = some (.lst (row.map V.int))) vs (M0.take i)) ⟨[], same_new ht, upd_same, rfl, .nil⟩ (fun i H' _ ⟨vs, sm, _⟩ => SqL.of (sm _ _ hru)) ?_ ?_
    · rintro i x H1 H' hi ⟨vs, sm, hvs, hl, hp⟩ ⟨rfl, hx⟩
      obtain ⟨row, hrow, a, rfl, ha⟩ : ∃ row, M0[i]? = some row ∧ IRow0 H x row := by
        have hi2 : i < M0.length := by omega
        exact ⟨M0[i], List.getElem?_eq_getElem hi2, paired_at hp0 hx (List.getElem?_eq_getElem hi2)⟩
      refine ⟨rfl, ?_⟩
      dsimp only [tYes]
      rw [if_pos rfl]
      refine ⟨_, rfl, a, _, rfl, .inl (SqL.of (sm _ _ ha)), fun l hl0 => ⟨vs, same_new hl0 _ _ hvs, szl (by omega), ?_⟩⟩
      have nlt : l ≠ t := fun e => by subst e; rw [hl0] at hvs; cases hvs
      have s2 : Same H (upd (upd H' l (.lst (row.map V.int))) t (.lst (vs ++ [.ref l]))) := same_mut (same_up sm hl0) ht
      refine ⟨vs ++ [.ref l], s2, upd_same, by simp [hl], ?_⟩
      rw [List.take_succ, hrow]
      refine paired_app ⟨l, rfl, nlt, by rw [upd_ne nlt, upd_same]⟩ (Paired.mapP hp fun v row' ⟨b, e, nb, hb⟩ => ⟨b, e, nb, ?_⟩)
      rw [upd_ne nb]
      exact same_new hl0 _ _ hb
    rintro H1 ⟨vs, s1, hvs, hvl, hpr⟩
    rw [hul, ← hlen, List.take_length] at hpr
    refine ⟨Nat.zero_le _, fun f hf0 => ⟨by show 3 ≤ sizeLine; decide, fun q hq => ⟨q, _, rfl, SqT.of upd_same, rfl, _, _, rfl, _, _, rfl, _, _, rfl, rfl, ?_⟩⟩⟩
    have hfn : H f = none := s1.free hf0
    have nft : f ≠ t := fun e => by subst e; rw [hf0] at hvs; cases hvs
    have s3 : Same H (upd (upd H1 f (.lst [])) q (.tup [.ref t, .int 1, .ref f])) := same_up (same_up s1 hf0) hq
    have ht3 : (upd (upd H1 f (.lst [])) q (.tup [.ref t, .int 1, .ref f])) t = some (.lst vs) := same_new hq _ _ (same_new hf0 _ _ hvs)
    have hf3 : (upd (upd H1 f (.lst [])) q (.tup [.ref t, .int 1, .ref f])) f = some (.lst (([] : List Int).map V.int)) := same_new hq _ _ upd_same
    have hp3 : Paired (IRow f t (upd (upd H1 f (.lst [])) q (.tup [.ref t, .int 1, .ref f]))) vs M0 := Paired.mapP hpr fun v row ⟨a, e, na, ha⟩ => ⟨a, e, (fun z => by rw [z, hf0] at ha; cases ha), na, same_new hq _ _ (same_new hf0 _ _ ha)⟩
    generalize upd (upd H1 f (.lst [])) q (.tup [.ref t, .int 1, .ref f]) = H3 at s3 ht3 hf3 hp3 ⊢
    have hvn : vs.length = n := (Paired.length hp3).trans hlen
    refine ⟨_, rfl, t, _, rfl, .inl (SqL.of ht3), _, rfl, by omega, by omega, ?_⟩
    have en : ((vs.length : Int)).toNat = n := by omega
    rw [en]
    refine for_range (fun i σ H' => ∃ (M : List (List Int)) (bf : Int) (found : List Int) (vs : List V) (x4 x5 x6 x7 : Option V), σ = [some (.ref r), some (.ref t), some (.int bf), some (.ref f), x4, x5, x6, x7, none, none, none] ∧ Same H H' ∧ H' t = some (.lst vs) ∧ Paired (IRow f t H') vs M ∧ H' f = some (.lst (found.map V.int)) ∧
      i ≤ n ∧ minors M bf found i (n - i) = minors M0 1 [] 0 n ∧ M.length = n ∧ found.length = i ∧ (∀ row ∈ M, row.length = n) ∧ (i ≤ 1 → 1 ≤ bf ∧ bf ≤ 100 ∧ ∀ row ∈ M, ∀ x ∈ row, x.natAbs ≤ if i = 0 then 100 else 20000)) ?_ ?_ ?_
    · exact ⟨M0, 1, [], vs, none, none, none, none, rfl, s3, ht3, hp3, hf3, Nat.zero_le _, rfl, hlen, rfl, fun row hr => (hM0 row hr).1, fun _ => ⟨by omega, by omega, fun row hr => (hM0 row hr).2⟩⟩
    · rintro i σ H4 hi ⟨M, bf, found, vs, x4, x5, x6, x7, rfl, s4, ht4, hp4, hf4, _, hmin, hMl, hfl, hrl, hbd⟩
      have e0 : (0 : Int) + (i : Nat) = (i : Nat) := by omega
      rw [e0]
      have hvn : vs.length = n := (Paired.length hp4).trans hMl
      have hiM : i < M.length := by omega
      have hMi : M[i]? = some (M.getD i []) := by rw [List.getD, List.getElem?_eq_getElem hiM]; rfl
      have hvi : vs[i]? = some vs[i] := List.getElem?_eq_getElem (by omega)
      obtain ⟨a, ea, na, nat, ha⟩ := paired_at hp4 hvi hMi
      have hrli := hrl _ (List.mem_of_getElem? hMi)
      generalize hpv : (M.getD i []).getD i 0 = pv
      have hpvi : (M.getD i [])[i]? = some pv := by
        rw [← hpv]; exact get_getD (by omega)
      have hk : n - i = (n - i - 1) + 1 := by omega
      rw [hk] at hmin
      have hmin' : (if pv ≤ 0 then found ++ [pv] else minors (elims pv bf M i (n - (i + 1))) pv (found ++ [pv]) (i + 1) (n - i - 1)) = minors M0 1 [] 0 n := by
        rw [← hmin, ← hpv, minors, hMl]
      refine ⟨_, rfl, _, rfl, t, _, _, _, rfl, rfl, SqL.of ht4, atI_nat hvi, _, rfl, a, _, _, .int pv, ea, rfl, SqL.of ha, atI_nat (by rw [List.getElem?_map, hpvi]; rfl), ?_⟩
      refine ⟨_, rfl, .inl ⟨rfl, _, SqL.of hf4⟩, _, rfl, f, _, _, rfl, rfl, hf4, by rw [List.length_map]; exact szl (by omega), ?_⟩
      have ef : found.map V.int ++ [V.int pv] = (found ++ [pv]).map V.int := by rw [List.map_append]; rfl
      have s5 : Same H (upd H4 f (.lst ((found ++ [pv]).map V.int))) := same_mut s4 hfn
      have ht5 : upd H4 f (.lst ((found ++ [pv]).map V.int)) t = some (.lst vs) := (upd_ne (Ne.symm nft)).trans ht4
      have hf5 : upd H4 f (.lst ((found ++ [pv]).map V.int)) f = some (.lst ((found ++ [pv]).map V.int)) := upd_same
      have hp5 : Paired (IRow f t (upd H4 f (.lst ((found ++ [pv]).map V.int)))) vs M := Paired.mapP hp4 fun v row ⟨b, e, nb, nt, hb⟩ => ⟨b, e, nb, nt, (upd_ne nb).trans hb⟩
      rw [ef]
      generalize upd H4 f (.lst ((found ++ [pv]).map V.int)) = H5 at s5 ht5 hf5 hp5 ⊢
      refine ⟨_, rfl, _, _, rfl, rfl, ?_⟩
      by_cases hpz : pv ≤ 0
      · refine ⟨true, congrArg V.bl (decide_eq_true hpz), iteT ⟨_, rfl, ?_⟩⟩
        rw [if_pos hpz] at hmin'
        exact k f H5 s5 (by rw [hf5, hmin'])
      refine ⟨false, congrArg V.bl (decide_eq_false hpz), iteF ?_⟩
      rw [if_neg hpz] at hmin'
      refine ⟨_, rfl, _, _, rfl, rfl, _, rfl, t, _, rfl, .inl (SqL.of ht5), _, _, rfl, ⟨by omega, by omega, by omega, by omega⟩, ?_⟩
      have en2 : ((vs.length : Int) - ((i : Int) + 1)).toNat = n - (i + 1) := by omega
      rw [en2]
      refine for_range (fun j σ H' => ∃ (vs : List V) (x6 x7 : Option V), σ = [some (.ref r), some (.ref t), some (.int bf), some (.ref f), some (.int i), some (.int pv), x6, x7, none, none, none] ∧ Same H H' ∧ H' t = some (.lst vs) ∧ Paired (IRow f t H') vs (elims pv bf M i j) ∧ H' f = some (.lst ((found ++ [pv]).map V.int))) ?_ ?_ ?_
      · exact ⟨vs, x6, x7, rfl, s5, ht5, by rw [elims_zero]; exact hp5, hf5⟩
      · rintro j σ H6 hj ⟨vs, y6, y7, rfl, s6, ht6, hp6, hf6⟩
        have e1 : ((i : Int) + 1) + (j : Nat) = ((i + 1 + j : Nat) : Int) := by omega
        rw [e1]
        have hvn : vs.length = n := (Paired.length hp6).trans ((elims_len ..).trans hMl)
        have hlo : i + 1 + j < M.length := by omega
        have hv6 : vs[i + 1 + j]? = some vs[i + 1 + j] := List.getElem?_eq_getElem (by omega)
        have hv6i : vs[i]? = some vs[i] := List.getElem?_eq_getElem (by omega)
        have g1 := elims_get pv bf M i j hlo
        rw [if_neg (by omega)] at g1
        have g2 := elims_get pv bf M i j hiM
        rw [if_neg (by omega)] at g2
        obtain ⟨b, eb, nb, nbt, hb⟩ := paired_at hp6 hv6 g1
        obtain ⟨c, ec, nc, nct, hc⟩ := paired_at hp6 hv6i g2
        have hMl2 : M[i + 1 + j]? = some (M.getD (i + 1 + j) []) := by rw [List.getD, List.getElem?_eq_getElem hlo]; rfl
        have hrow := hrl _ (List.mem_of_getElem? hMl2)
        obtain ⟨hbf1, hbf2, hB⟩ := hbd (by omega)
        have hB1 := hB _ (List.mem_of_getElem? hMi)
        have hB2 := hB _ (List.mem_of_getElem? hMl2)
        have hBB : (if i = 0 then 100 else 20000) ≤ 20000 := by split <;> omega
        generalize hfa : (M.getD (i + 1 + j) []).getD i 0 = fa
        have hfai : (M.getD (i + 1 + j) [])[i]? = some fa := by rw [← hfa]; exact get_getD (by omega)
        have hfab := hB2 fa (List.mem_of_getElem? hfai)
        have hpvb := hB1 pv (List.mem_of_getElem? hpvi)
        refine ⟨_, rfl, _, rfl, t, _, _, _, rfl, rfl, SqL.of ht6, atI_nat hv6, _, rfl, b, _, _, .int fa, eb, rfl, SqL.of hb, atI_nat (by rw [List.getElem?_map, hfai]; rfl), ?_⟩
        refine ⟨_, rfl, _, rfl, t, _, _, _, rfl, rfl, SqL.of ht6, atI_nat hv6, _, rfl, _, rfl, t, _, _, _, rfl, rfl, SqL.of ht6, atI_nat hv6i, b, c, _, _, (by rw [eb, ec]), .inl ⟨SqL.of hb, SqL.of hc, fun l hl0 => ?_⟩⟩
        refine lc_it (walk_zip (n := n) (xs := (M.getD (i + 1 + j) []).map V.int) (ys := (M.getD i []).map V.int) (by rw [List.length_map, List.length_map, hrow, hrli, Nat.min_self])) (fun m H' => Same H6 H' ∧ H' l = some (.lst (((elim pv bf (M.getD i []) (M.getD (i + 1 + j) []) i).take m).map V.int))) ⟨same_new hl0, by rw [upd_same]; rfl⟩ (fun m H' _ p => ⟨p.1.seq (SqL.of hb), p.1.seq (SqL.of hc)⟩) ?_ ?_
        · rintro m x H7 H8 hm ⟨s7, hl7⟩ ⟨T', x, y, rfl, hT, rfl, hx, hy⟩
          have hx' : ((M.getD (i + 1 + j) []).map V.int)[m]? = some x := hx
          have hy' : ((M.getD i []).map V.int)[m]? = some y := hy
          have hm1 : (M.getD (i + 1 + j) [])[m]? = some (M.getD (i + 1 + j) [])[m] := List.getElem?_eq_getElem (by omega)
          have hm2 : (M.getD i [])[m]? = some (M.getD i [])[m] := List.getElem?_eq_getElem (by omega)
          rw [List.getElem?_map, hm1] at hx'
          rw [List.getElem?_map, hm2] at hy'
          cases hx'; cases hy'
          have b1 := hB2 _ (List.mem_of_getElem? hm1)
          have b2 := hB1 _ (List.mem_of_getElem? hm2)
          refine ⟨T', _, rfl, SqT.of upd_same, rfl, _, _, rfl, _, _, rfl, rfl, rfl, ?_⟩
          dsimp only [tYes]
          rw [if_pos rfl]
          have q1 := nat_mul (Nat.le_trans hpvb hBB) (Nat.le_trans b1 hBB)
          refine ⟨_, rfl, _, rfl, _, _, rfl, rfl, .inl (by omega), _, rfl, _, rfl, _, _, rfl, rfl, .inl (by omega), _, _, rfl, rfl, _, rfl, _, _, rfl, rfl, ⟨by omega, by omega⟩, _, same_new hT _ _ hl7, ?_, same_mut (same_up s7 hT) hl0, ?_⟩
          · rw [List.length_map, List.length_take]; exact szl (by omega)
          · rw [upd_same]
            have hel : (elim pv bf (M.getD i []) (M.getD (i + 1 + j) []) i)[m]? = some ((pv * (M.getD (i + 1 + j) [])[m] - fa * (M.getD i [])[m]) / bf) := by
              unfold elim; rw [List.getElem?_zipWith, hm1, hm2, hfa]
            rw [List.take_succ, hel, List.map_append]; rfl
        · rintro H7 ⟨s7, hl7⟩
          rw [List.take_of_length_le (by rw [elim_len hrli hrow]; omega)] at hl7
          refine ⟨_, rfl, _, rfl, t, vs, _, i + 1 + j, rfl, rfl, s7 _ _ ht6, by unfold ixN; rw [if_pos (by omega), if_pos (by omega)]; exact congrArg some (Int.toNat_natCast _), ?_⟩
          have nlt : l ≠ t := fun e => by subst e; rw [ht6] at hl0; cases hl0
          have nlf : l ≠ f := fun e => by subst e; rw [hf6] at hl0; cases hl0
          refine ⟨_, _, _, rfl, same_mut (s6.trans s7) ht, upd_same, ?_, (upd_ne nft).trans (s7 _ _ hf6)⟩
          rw [← elims_succ pv bf M i j hlo]
          exact paired_set ⟨l, rfl, nlf, nlt, (upd_ne nlt).trans hl7⟩ _ (Paired.mapP hp6 fun v row ⟨b, e, nb, nt, hb⟩ => ⟨b, e, nb, nt, (upd_ne nt).trans (s7 _ _ hb)⟩)
      · rintro σ H6 ⟨vs, y6, y7, rfl, s6, ht6, hp6, hf6⟩
        refine ⟨_, rfl, elims pv bf M i (n - (i + 1)), pv, found ++ [pv], vs, _, _, _, _, rfl, s6, ht6, hp6, hf6, hi, ?_, (elims_len ..).trans hMl, by rw [List.length_append, hfl]; rfl, ?_, ?_⟩
        · rw [← hmin']; congr 1
        · intro row hrow
          obtain ⟨k, hk⟩ := List.mem_iff_getElem?.mp hrow
          have hkl : k < M.length := by have := (List.getElem?_eq_some_iff.mp hk).1; rwa [elims_len] at this
          rw [elims_get pv bf M i _ hkl] at hk
          have hMk : M[k]? = some (M.getD k []) := by rw [List.getD, List.getElem?_eq_getElem hkl]; rfl
          have := hrl _ (List.mem_of_getElem? hMk)
          have hk := Option.some.inj hk
          split at hk
          · rw [← hk]; exact elim_len hrli this
          · rw [← hk]; exact this
        · intro hi1
          have hi0 : i = 0 := by omega
          subst hi0
          obtain ⟨hbf1, hbf2, hB⟩ := hbd (by omega)
          rw [if_pos rfl] at hB
          have hB1 := hB _ (List.mem_of_getElem? hMi)
          have hpvb := hB1 pv (List.mem_of_getElem? hpvi)
          refine ⟨by omega, by omega, fun row hrow => ?_⟩
          rw [if_neg (by omega)]
          obtain ⟨k, hk⟩ := List.mem_iff_getElem?.mp hrow
          have hkl : k < M.length := by have := (List.getElem?_eq_some_iff.mp hk).1; rwa [elims_len] at this
          rw [elims_get pv bf M 0 _ hkl] at hk
          have hMk : M[k]? = some (M.getD k []) := by rw [List.getD, List.getElem?_eq_getElem hkl]; rfl
          have hBk := hB _ (List.mem_of_getElem? hMk)
          have hk := Option.some.inj hk
          split at hk
          · rw [← hk]; exact fun x hx => elim_bound hpvb hbf1 hB1 hBk x hx
          · rw [← hk]; exact fun x hx => Nat.le_trans (hBk x hx) (by omega)
    · rintro σ H4 ⟨M, bf, found, vs, x4, x5, x6, x7, rfl, s4, ht4, hp4, hf4, _, hmin, _⟩
      rw [Nat.sub_self, minors] at hmin
      exact ⟨_, rfl, k f H4 s4 (by rw [hf4, hmin])⟩
end
end Bc
end
section
set_option Elab.async false
set_option linter.all false
set_option maxRecDepth 100000
set_option maxHeartbeats 2000000
/-! The walk: does it end; standings checked; drops counted. -/
namespace Bc
open PySem L2
def latE (D : Nd) (n o : Str) : Int := (if n = o then ((D.N.kn n).turn.length : Int) else 0) - (turnedAt (D.N.kn n) o : Nat)
def latM (D : Nd) : List (List Int) := D.N.names.map fun n => D.N.names.map fun o => latE D n o
def endsL (D : Nd) : List Int := minors (latM D) 1 [] 0 D.N.names.length
def endsB (D : Nd) : Bool := decide (0 < (endsL D).getLastD 0)
theorem minors_ne {M : List (List Int)} {bf : Int} {found : List Int} {i : Nat} : ∀ {k : Nat}, found ≠ [] ∨ 0 < k → minors M bf found i k ≠ []
  | 0, h => by rw [minors]; exact h.resolve_right (by omega)
  | k + 1, _ => by
    rw [minors]
    split
    · simp
    · exact minors_ne (.inl (by simp))
theorem tally_le {ds : List (List Str)} {t : Str} (h : ∀ d ∈ ds, d.length ≤ 4) : tally ds t ≤ 4 * ds.length := by
  induction ds with
  | nil => simp [tally]
  | cons d ds ih =>
    rw [tally_cons, List.length_cons]
    have h1 := ih fun e he => h e (List.mem_cons_of_mem _ he)
    have h2 := h d List.mem_cons_self
    have h3 : d.count t ≤ d.length := List.count_le_length
    omega
theorem latM_ok {D : Nd} (ok : D.Ok) : ∀ row ∈ latM D, row.length = D.N.names.length ∧ ∀ x ∈ row, x.natAbs ≤ 100 := by
  intro row hr
  obtain ⟨n, hn, rfl⟩ := List.mem_map.mp hr
  refine ⟨by simp, fun x hx => ?_⟩
  obtain ⟨o, ho, rfl⟩ := List.mem_map.mp hx
  have h1 := (ok.turn hn).1
  have h2 : turnedAt (D.N.kn n) o ≤ 4 * (D.N.kn n).turn.length := tally_le fun d hd => (ok.tgt n hn d (by unfold Kn.rows; exact List.mem_append_right _ hd)).1
  unfold latE
  split <;> omega
def sp_lattice (C : Addr) : Sp := fun vs H Q _ => ∃ p D, vs = [.ref p] ∧ NetAt C H p D ∧ D.Ok ∧ ∀ r us H', Same H H' → H' r = some (.lst us) → Paired (IRow0 H') us (latM D) → Q (.ref r) H'
def sp_ends (C : Addr) : Sp := fun vs H Q _ => ∃ p D, vs = [.ref p] ∧ NetAt C H p D ∧ D.Ok ∧ D.N.names.length ≤ 3 ∧ ∀ H', Same H H' → Q (.bl (endsB D)) H'
def sp_Net_check_standing (C : Addr) : Sp := fun vs H Q _ => ∃ (p sd : Addr) (D : Nd) (st : Str → Nat), vs = [.ref p, .ref sd] ∧ NetAt C H p D ∧ D.Ok ∧ H sd = some (.dK (FD D.N.names fun n => .int (st n))) ∧ (∀ n ∈ D.N.names, st n < (D.N.kn n).len) ∧ ∀ H', Same H H' → Q .non H'
def sp_Net_dropped (C : Addr) : Sp := fun vs H Q _ => ∃ (p : Addr) (n : Str) (D : Nd) (pl m : Nat), vs = [.ref p, .str n, .int pl, .int m] ∧ NetAt C H p D ∧ D.Ok ∧ n ∈ D.N.names ∧ pl < (D.N.kn n).len ∧
  ∀ d H' l, H d = none → Same H H' → H' d = some (.dK (CD l)) → CDok l (D.N.names ++ D.outs) → (∀ t, cv l t = ((D.N.kn n).cnt pl t m : Nat)) → Q (.ref d) H'
section
variable {P : Program} {w : World} {K : PySem.W.Frag} {mg : Str → Option Value} {base : Heap}
theorem ok_lattice (T : Tx K mg) : FnOk P w K mg base CX0 2 T.lattice.f T.lattice.fd ["net"] (sp_lattice T.kNet.C) := by
  refine T.lattice.F.ok sc_lattice (fun vs H Q E h => ?_) (fun cdv A outer s H vs Q E hr h => ?_)
  · obtain ⟨p, D, rfl, _⟩ := h; rfl
  · obtain ⟨p, D, rfl, N', ok, k⟩ := h
    obtain ⟨dx, kd, id, ot, nl, g, N⟩ := id N'
    have hfew := ok.few
    refine ⟨_, (pss_cons (ps_set (i := 1) sc_lattice.nd rfl (.inl rfl) (pe_lst pa_nil))
      (pss_cons (ps_for PassesOwn.never rfl (pi_list (pe_fld (pv 0) rfl)) (pg_name (i := 2) sc_lattice.nd rfl (.inr rfl)) (pss_cons (ps_set (i := 3) sc_lattice.nd rfl (.inr rfl) (pe_meth (pv 0) T.cl_Net T.Net_turned.m (ok_Net_turned T) (hr.mono (by decide)) T.Net_turned.b .nil pass0 (pa_cons (pv 2) pa_nil)))
        (pss_one (ps_expr (pe_bm PySem.F.plainAttrs_list PySem.F.slot_list_append PySem.F.type_list_append mt_append (pv 1) (pa_cons (pe_lc (own := [("other", 4)]) rfl sc_lattice.nd (pi_list (pe_fld (pv 0) rfl)) (blkOk_by (N := N_lattice) (sc := defScope s_lattice) (by decide +kernel)) (fun _ _ _ _ _ => pg_name (i := 4) sc_lattice.nd rfl (.inl rfl)) (fun _ _ _ _ _ => pts_nil) (fun _ _ _ _ _ => pe_op op_sub (pe_ifExp (pt_cmpR op_eq (pv 2) (pv 4) (nomark _)) (pe_meth (pv 0) T.cl_Net T.Net_period.m (ok_Net_period T) (hr.mono (by decide)) T.Net_period.b .nil pass0 (pa_cons (pv 2) pa_nil)) pe_int) (pe_dget2 (hu_of hr) (pv 3) (pv 4) pe_int ⟨rfl, rfl, rfl, rfl⟩))) pa_nil))))))
      (pss_one (ps_ret (pv 1))))), ?_⟩
    refine ⟨Nat.zero_le _, fun r hr0 => ?_⟩
    have s1 : Same H (upd H r (.lst [])) := same_new hr0
    have hr1 : upd H r (.lst []) r = some (.lst []) := upd_same
    generalize upd H r (.lst []) = H1 at s1 hr1 ⊢
    refine ⟨_, rfl, p, _, dx, _, _, rfl, s1 _ _ N.ob, T.cl_Net, T.a_Net_names, netF_names .., nl, rfl, ⟨_, SqL.of (s1 _ _ N.nl)⟩, ?_⟩
    refine for_list (xs := D.N.names.map V.str) (fun i σ H' => ∃ us x2 x3, σ = [some (.ref p), some (.ref r), x2, x3, none] ∧ Same H H' ∧ H' r = some (.lst us) ∧ us.length = i ∧ Paired (fun v row => ∃ a, v = .ref a ∧ a ≠ r ∧ H' a = some (.lst (row.map V.int))) us ((latM D).take i)) ⟨[], none, none, rfl, s1, hr1, rfl, .nil⟩ (by rintro i σ H' _ ⟨us, x2, x3, rfl, sm, _⟩; exact SqL.of (sm _ _ N.nl)) ?_ ?_
    · rintro i v σ H2 hi ⟨us, x2, x3, rfl, s2, hr2, hul, hp⟩
      rw [List.getElem?_map] at hi
      cases et : D.N.names[i]? with
      | none => rw [et] at hi; cases hi
      | some n =>
        rw [et] at hi; cases hi
        have hn := List.mem_of_getElem? et
        have hilt := (List.getElem?_eq_some_iff.mp et).1
        refine ⟨_, rfl, p, dx, _, rfl, s2 _ _ N.ob, rfl, _, rfl, p, n, D, rfl, N'.mono s2, ok, hn, fun d H3 l hd0 s3 hd3 _ hl => ?_⟩
        have s3' := s2.trans s3
        refine ⟨_, rfl, .inl ⟨rfl, _, SqL.of (s3 _ _ hr2)⟩, ?_⟩
        refine ⟨_, rfl, p, _, dx, _, _, rfl, s3' _ _ N.ob, T.cl_Net, T.a_Net_names, netF_names .., nl, rfl, ⟨_, SqL.of (s3' _ _ N.nl)⟩, fun q hq => ?_⟩
        have wn := walk_list (K := K) (a := nl) (xs := D.N.names.map V.str)
        rw [List.length_map] at wn
        refine lc_vals wn (by omega) hq (fun j => .int (latE D n (D.N.names.getD j ""))) (fun x => rfl) (fun H' s' => SqL.of (s' _ _ (s3' _ _ N.nl))) ?_ ?_
        · intro j x hj hx H4 s4 Q4 q4
          rw [List.getElem?_map, List.getElem?_eq_getElem hj] at hx
          cases hx
          have e : D.N.names.getD j "" = D.N.names[j] := by rw [List.getD, List.getElem?_eq_getElem hj]; rfl
          rw [e] at q4
          have s4' := s3'.trans s4
          refine ⟨_, rfl, _, rfl, rfl, _, rfl, ?_⟩
          have fin : ∀ H5 : Hp, Same H4 H5 → ∀ c : Int, c = (if n = D.N.names[j] then ((D.N.kn n).turn.length : Int) else 0) → Q4 (.int (c - (turnedAt (D.N.kn n) D.N.names[j] : Nat))) H5 := fun H5 s5 c hc => by
            subst hc; exact q4 H5 s5
          have tail : ∀ c : Int, c = (if n = D.N.names[j] then ((D.N.kn n).turn.length : Int) else 0) → ∃ o, DGet H4 d (.str D.N.names[j]) o ∧ ∃ i k, V.int c = .int i ∧ o.getD (.int 0) = .int k ∧ Q4 (.int (i - k)) H4 := fun c hc =>
            ⟨_, dget_cd (s4 _ _ hd3), c, _, rfl, cd_getD .., by rw [hl]; exact fin H4 (Same.refl _) c hc⟩
          by_cases hq : n = D.N.names[j]
          · refine ite2 (fun _ => ?_) (fun z => absurd (decide_eq_true (congrArg V.str hq)) z)
            refine ⟨_, rfl, p, dx, _, rfl, s4' _ _ N.ob, rfl, _, rfl, p, n, D, rfl, N'.mono s4', hn, ?_⟩
            exact ⟨_, rfl, d, rfl, .inl ⟨_, .inl (s4 _ _ hd3)⟩, _, rfl, tail _ (by rw [if_pos hq])⟩
          · refine ite2 (fun z => absurd (V.str.inj (of_decide_eq_true z)) hq) (fun _ => ?_)
            exact ⟨_, rfl, d, rfl, .inl ⟨_, .inl (s4 _ _ hd3)⟩, _, rfl, tail 0 (by rw [if_neg hq])⟩
        · intro H4 s4 h4
          have nqr : q ≠ r := fun e => by subst e; rw [s3 _ _ hr2] at hq; cases hq
          refine ⟨r, us, _, rfl, rfl, s4 _ _ (s3 _ _ hr2), szl (by omega), ?_⟩
          refine ⟨us ++ [.ref q], _, _, rfl, same_mut (s3'.trans s4) hr0, upd_same, by simp [hul], ?_⟩
          have hrow : (latM D)[i]? = some (D.N.names.map fun o => latE D n o) := by unfold latM; rw [List.getElem?_map, et]; rfl
          rw [List.take_succ, hrow]
          refine paired_app ⟨q, rfl, nqr, (upd_ne nqr).trans (h4.trans ?_)⟩ (Paired.mapP hp fun v row ⟨a, e, na, ha⟩ => ⟨a, e, na, (upd_ne na).trans (s4 _ _ (s3 _ _ ha))⟩)
          congr 2
          rw [List.map_map]
          apply List.ext_getElem
          · simp
          · intro j h1 h2
            have h3 : j < D.N.names.length := by simpa using h1
            simp [List.getElem?_eq_getElem h3]
    · rintro σ H2 ⟨us, x2, x3, rfl, s2, hr2, hul, hp⟩
      have : (latM D).length = D.N.names.length := by simp [latM]
      rw [List.length_map, ← this, List.take_length] at hp
      exact ⟨_, rfl, k r us H2 s2 hr2 (Paired.mapP hp fun v row ⟨a, e, _, ha⟩ => ⟨a, e, ha⟩)⟩
theorem ok_ends (T : Tx K mg) : FnOk P w K mg base CX0 3 T.ends.f T.ends.fd ["net"] (sp_ends T.kNet.C) := by
  refine T.ends.F.ok sc_ends (fun vs H Q E h => ?_) (fun cdv A outer s H vs Q E hr h => ?_)
  · obtain ⟨p, D, rfl, _⟩ := h; rfl
  · obtain ⟨p, D, rfl, N', ok, h3, k⟩ := h
    obtain ⟨dx, kd, id, ot, nl, g, N⟩ := id N'
    refine ⟨_, (pss_cons (ps_expr (pe_call (ok_check_net T) (hr.mono (by decide)) rfl T.check_net.m T.check_net.F.kp T.check_net.b .nil pass0 (pa_cons (pv 0) pa_nil)))
      (pss_one (ps_ret (pe_cmpR op_gt (pe_ix ix_list (pe_call (ok_minors_of T) (hr.mono (by decide)) rfl T.minors_of.m T.minors_of.F.kp T.minors_of.b .nil pass0 (pa_cons (pe_call (ok_lattice T) (hr.mono (by decide)) rfl T.lattice.m T.lattice.F.kp T.lattice.b .nil pass0 (pa_cons (pv 0) pa_nil)) pa_nil)) (pe_un un_neg pe_int) (fun _ _ => rfl)) pe_int (nomark _))))), ?_⟩
    refine ⟨_, rfl, p, dx, _, rfl, N.ob, ?_⟩
    refine ⟨_, rfl, p, D, rfl, N', ok, fun r us H1 s1 hr1 hp => ⟨r, us, latM D, D.N.names.length, rfl, hr1, hp, by simp [latM], h3, latM_ok ok, fun a H2 s2 ha => ?_⟩⟩
    have hne : endsL D ≠ [] := minors_ne (.inr (List.length_pos_iff.mpr ok.ne))
    have ha : H2 a = some (.lst ((endsL D).map V.int)) := ha
    unfold endsB at k
    rcases List.eq_nil_or_concat (endsL D) with e | ⟨L, b, e⟩
    · exact absurd e hne
    rw [e] at ha k
    have eb : (L.concat b).getLastD 0 = b := by simp
    rw [eb] at k
    refine ⟨_, rfl, a, _, _, .int b, rfl, rfl, SqL.of ha, ?_, _, _, rfl, rfl, k H2 (s1.trans s2)⟩
    have : (L.concat b).map V.int = L.map V.int ++ [V.int b] := by simp
    rw [this]; exact atI_last _ _
theorem ok_Net_check_standing (T : Tx K mg) : FnOk P w K mg base CX0 2 T.Net_check_standing.f T.Net_check_standing.fd ["self", "standing"] (sp_Net_check_standing T.kNet.C) := by
  refine T.Net_check_standing.F.ok sc_Net_check_standing (fun vs H Q E h => ?_) (fun cdv A outer s H vs Q E hr h => ?_)
  · obtain ⟨p, sd, D, st, rfl, _⟩ := h; rfl
  · obtain ⟨p, sd, D, st, rfl, N', ok, hsd, hst, k⟩ := h
    obtain ⟨dx, kd, id, ot, nl, g, N⟩ := id N'
    refine ⟨_, (pss_cons (ps_if (PW.pt (pw_or (pt_not (pt_val (pe_callB (id := "isinstance") call_isi rfl T.b_isinstance (by decide +kernel) (pa_cons (pv 1) (pa_cons (pe_bltn (v := .ty "dict") (u := .type "dict") rfl T.b_dict (by decide +kernel) rfl) pa_nil))))) (pw_or1 (pt_cmpR op_ne (pe_callB (id := "len") call_lenD (by rfl) T.b_len PySem.boot_len (pa_cons (pv 1) pa_nil)) (pe_callB (id := "len") call_lenD (by rfl) T.b_len PySem.boot_len (pa_cons (pe_fld (pv 0) rfl) pa_nil)) (nomark _))))) (pss_one (ps_never)) pss_nil)
      (pss_one (ps_for PassesOwn.never rfl (pi_list (pe_fld (pv 0) rfl)) (pg_name (i := 2) sc_Net_check_standing.nd rfl (.inl rfl)) (pss_cons (ps_if (PW.pt (pw_or (pt_cmp (pc_dnotin (hu_of hr) (pv 2) (pv 1))) (pw_or1 (pt_not (pt_val (pe_call (ok_is_number T) (hr.mono (by decide)) rfl T.is_number.m T.is_number.F.kp T.is_number.b .nil pass0 (pa_cons (pe_dget (hu_of hr) (pv 1) (pv 2) (fun _ _ => rfl)) pa_nil))))))) (pss_one (ps_never)) pss_nil)
        (pss_one (ps_if (pt_not (pt_chain op_le op_lt pe_int (pe_dget (hu_of hr) (pv 1) (pv 2) (fun _ _ => rfl)) (pe_op op_add (pe_meth (pv 0) T.cl_Net T.Net_front.m (ok_Net_front T) (hr.mono (by decide)) T.Net_front.b .nil pass0 (pa_cons (pv 2) pa_nil)) (pe_meth (pv 0) T.cl_Net T.Net_period.m (ok_Net_period T) (hr.mono (by decide)) T.Net_period.b .nil pass0 (pa_cons (pv 2) pa_nil))))) (pss_one (ps_never)) pss_nil)))))), ?_⟩
    refine ⟨_, rfl, _, _, _, _, true, rfl, .ty _, .base (.dK hsd), kit_ty (by decide +kernel), true, rfl, iteF ?_⟩
    refine ⟨_, rfl, sd, _, rfl, hsd, _, rfl, p, _, dx, _, _, rfl, N.ob, T.cl_Net, T.a_Net_knots, netF_knots .., kd, _, rfl, N.kd, rfl, false, ?_, iteF ?_⟩
    · rw [fd_len, fd_len]; simp
    refine ⟨_, rfl, p, _, dx, _, _, rfl, N.ob, T.cl_Net, T.a_Net_names, netF_names .., nl, rfl, ⟨_, SqL.of N.nl⟩, ?_⟩
    refine for_list (xs := D.N.names.map V.str) (fun i σ H' => ∃ x, σ = [some (.ref p), some (.ref sd), x] ∧ Same H H') ⟨none, rfl, Same.refl H⟩ (by rintro i σ H' _ ⟨x, rfl, sm⟩; exact SqL.of (sm _ _ N.nl)) ?_ ?_
    · rintro i v σ H2 hi ⟨x, rfl, s2⟩
      rw [List.getElem?_map] at hi
      cases et : D.N.names[i]? with
      | none => rw [et] at hi; cases hi
      | some n =>
        rw [et] at hi; cases hi
        have hn := List.mem_of_getElem? et
        have hrd : Rd H2 sd (.dK (FD D.N.names fun n => .int (st n))) := .inl (s2 _ _ hsd)
        have hL := (D.N.kn n).len_eq
        have hs := hst n hn
        refine ⟨_, rfl, _, rfl, sd, _, rfl, dget_in hrd hn, false, rfl, iteF ?_⟩
        refine ⟨_, rfl, _, rfl, sd, _, rfl, dget_in hrd hn, (st n : Nat), rfl, true, rfl, iteF ?_⟩
        refine ⟨_, rfl, _, rfl, sd, _, rfl, dget_in hrd hn, _, _, rfl, rfl, true, congrArg V.bl (decide_eq_true (by omega)), iteT ?_⟩
        refine ⟨_, rfl, p, dx, _, rfl, s2 _ _ N.ob, rfl, _, rfl, p, n, D, rfl, N'.mono s2, hn, _, rfl, p, dx, _, rfl, s2 _ _ N.ob, rfl, _, rfl, p, n, D, rfl, N'.mono s2, hn, _, _, rfl, rfl, ?_⟩
        exact ⟨_, _, rfl, rfl, true, congrArg V.bl (decide_eq_true (by omega)), iteF ⟨_, rfl, s2⟩⟩
    · rintro σ H2 ⟨x, rfl, s2⟩
      exact k H2 s2
theorem cut_nat (xs : List V) (a m : Nat) : cutV xs (some (a : Int)) (some ((a : Int) + (m : Int))) = (xs.drop a).take m := by
  unfold cutV
  have e : ((a : Int) + (m : Int)) = ((a + m : Nat) : Int) := by omega
  rw [e, HT.sIx_nat, HT.sIx_nat]
  by_cases h : a ≤ xs.length
  · rw [Nat.min_eq_left h]
    by_cases h2 : a + m ≤ xs.length
    · rw [Nat.min_eq_left h2]; congr 1; omega
    · rw [Nat.min_eq_right (by omega), List.take_of_length_le (by rw [List.length_drop]; omega), List.take_of_length_le (by rw [List.length_drop]; omega)]
  · rw [show xs.drop a = [] from List.drop_eq_nil_of_le (by omega), show xs.drop (min a xs.length) = [] from List.drop_eq_nil_of_le (by omega)]; simp
theorem Paired.dropP {α β : Type} {F : α → β → Prop} : ∀ {l : List α} {m : List β} (n : Nat), Paired F l m → Paired F (l.drop n) (m.drop n)
  | _, _, 0, h => h
  | _, _, n + 1, .nil => .nil
  | _, _, n + 1, .cons _ r => Paired.dropP n r
theorem Paired.takeP {α β : Type} {F : α → β → Prop} : ∀ {l : List α} {m : List β} (n : Nat), Paired F l m → Paired F (l.take n) (m.take n)
  | _, _, 0, _ => .nil
  | _, _, n + 1, .nil => .nil
  | _, _, n + 1, .cons g r => .cons g (Paired.takeP n r)
theorem Paired.appP {α β : Type} {F : α → β → Prop} : ∀ {l : List α} {m : List β} {l' : List α} {m' : List β}, Paired F l m → Paired F l' m' → Paired F (l ++ l') (m ++ m')
  | _, _, _, _, .nil, h => h
  | _, _, _, _, .cons g r, h => .cons g (Paired.appP r h)
theorem ok_Net_dropped (T : Tx K mg) : FnOk P w K mg base CX0 2 T.Net_dropped.f T.Net_dropped.fd ["self", "name", "place", "many"] (sp_Net_dropped T.kNet.C) := by
  refine T.Net_dropped.F.ok sc_Net_dropped (fun vs H Q E h => ?_) (fun cdv A outer s H vs Q E hr h => ?_)
  · obtain ⟨p, n, D, pl, m, rfl, _⟩ := h; rfl
  · obtain ⟨p, n, D, pl, m, rfl, N', ok, hn, hpl, k⟩ := h
    obtain ⟨dx, kd, id, ot, nl, g, N⟩ := id N'
    obtain ⟨a, f, t, e, ha, ⟨fa, fs, rfl, hfa, pf⟩, ⟨ta, ts, rfl, hta, pt⟩⟩ := N.kn n hn
    have hfl : fs.length = (D.N.kn n).front.length := RowAt.len pf
    have htl : ts.length = (D.N.kn n).turn.length := RowAt.len pt
    have hL := (D.N.kn n).len_eq
    have h12 := ok.len n hn
    have htn := ok.tn n hn
    have hT0 := (ok.turn hn).2
    have hU : (D.N.names ++ D.outs).length ≤ 100 := by have := ok.few; have := ok.fewo; rw [List.length_append]; omega
    refine ⟨_, (pss_cons (ps_asg (pe_dget (hu_of hr) (pe_fld (pv 0) rfl) (pv 1) (fun _ _ => rfl)) (pg_tup rfl (pgs_cons (pg_name (i := 4) sc_Net_dropped.nd rfl (.inl rfl)) (pgs_cons (pg_name (i := 5) sc_Net_dropped.nd rfl (.inl rfl)) pgs_nil))))
      (pss_cons (ps_par (i := 6) (j := 7) rfl sc_Net_dropped.nd rfl rfl (by decide) rfl rfl (pa_cons pe_dnewK (pa_cons (pv 3) pa_nil)) (by rfl))
      (pss_cons (ps_set (i := 8) sc_Net_dropped.nd rfl (.inl rfl) (pe_slice sl_list (pe_lst (StX.pa_star (pv 4) (StX.pa_star (pv 5) pa_nil))) (po_some (pv 2)) (po_some (pe_op op_add (pv 2) (pv 3)))))
      (pss_cons (ps_for PassesOwn.never rfl (pi_list (pv 8)) (pg_name (i := 9) sc_Net_dropped.nd rfl (.inl rfl)) (pss_one (ps_expr (pe_call (ok_count T) (hr.mono (by decide)) rfl T.count.m T.count.F.kp T.count.b .nil pass0 (pa_cons (pv 6) (pa_cons (pv 9) (pa_cons pe_int pa_nil)))))))
      (pss_cons (ps_set (i := 7) sc_Net_dropped.nd rfl (.inl rfl) (pe_op op_sub (pv 3) (pe_callB (id := "len") call_len_seq (by rfl) T.b_len PySem.boot_len (pa_cons (pv 8) pa_nil))))
      (pss_cons (ps_if (pt_cmpR op_gt (pv 7) pe_int (nomark _)) (pss_cons (ps_par (i := 10) (j := 11) rfl sc_Net_dropped.nd rfl rfl (by decide) rfl rfl (pa_cons (pe_op op_fdiv (pv 7) (pe_callB (id := "len") call_len_seq (by rfl) T.b_len PySem.boot_len (pa_cons (pv 5) pa_nil))) (pa_cons (pe_op op_mod (pv 7) (pe_callB (id := "len") call_len_seq (by rfl) T.b_len PySem.boot_len (pa_cons (pv 5) pa_nil))) pa_nil)) (by rfl))
        (pss_one (ps_for PassesOwn.never rfl (pi_enumT rfl T.b_enumerate (pa_cons (pv 5) pa_nil)) (pg_tup rfl (pgs_cons (pg_name (i := 12) sc_Net_dropped.nd rfl (.inl rfl)) (pgs_cons (pg_name (i := 9) sc_Net_dropped.nd rfl (.inl rfl)) pgs_nil))) (pss_one (ps_expr (pe_call (ok_count T) (hr.mono (by decide)) rfl T.count.m T.count.F.kp T.count.b .nil pass0 (pa_cons (pv 6) (pa_cons (pv 9) (pa_cons (pe_op op_add (pv 10) (pe_ifExp (pt_cmpR op_lt (pv 12) (pv 11) (nomark _)) pe_int pe_int)) pa_nil))))))))) pss_nil)
      (pss_one (ps_ret (pv 6))))))))), ?_⟩
    refine ⟨_, rfl, p, _, dx, _, _, rfl, N.ob, T.cl_Net, T.a_Net_knots, netF_knots .., _, rfl, kd, _, rfl, dget_in (.inl N.kd) hn, a, _, e, SqT.of ha, rfl, _, _, rfl, _, _, rfl, rfl, ?_⟩
    intro d hd
    have s1 : Same H (upd H d (.dK [])) := same_new hd
    have hd1 : upd H d (.dK []) d = some (.dK (CD [])) := upd_same
    generalize upd H d (.dK []) = H1 at s1 hd1 ⊢
    refine ⟨_, rfl, _, _, rfl, ?_⟩
    refine ⟨_, rfl, fa, fs, rfl, .inl (SqT.of (s1 _ _ hfa)), _, rfl, ta, ts, rfl, .inl (SqT.of (s1 _ _ hta)), ?_⟩
    refine ⟨by rw [List.append_nil, List.length_append]; exact sz (by omega), fun q hq => ⟨_, rfl, _, rfl, _, rfl, _, rfl, _, _, rfl, rfl, _, rfl, q, _, rfl, SqL.of upd_same, fun q2 hq2 => ?_⟩⟩
    have s2 := (s1.trans (same_new (o := .lst (fs ++ (ts ++ []))) hq)).trans (same_new (o := .lst (cutV (fs ++ (ts ++ [])) (some (pl : Int)) (some ((pl : Int) + (m : Int))))) hq2)
    have hq3 : upd (upd H1 q (.lst (fs ++ (ts ++ [])))) q2 (.lst (cutV (fs ++ (ts ++ [])) (some (pl : Int)) (some ((pl : Int) + (m : Int))))) q2 = some (.lst (((fs ++ ts).drop pl).take m)) := by rw [upd_same, cut_nat, List.append_nil]
    have hd3 : upd (upd H1 q (.lst (fs ++ (ts ++ [])))) q2 (.lst (cutV (fs ++ (ts ++ [])) (some (pl : Int)) (some ((pl : Int) + (m : Int))))) d = some (.dK (CD [])) := same_new hq2 _ _ (same_new hq _ _ hd1)
    generalize upd (upd H1 q (.lst (fs ++ (ts ++ [])))) q2 (.lst (cutV (fs ++ (ts ++ [])) (some (pl : Int)) (some ((pl : Int) + (m : Int))))) = H3 at s2 hq3 hd3 ⊢
    have hpp : Paired (DropAt H) (((fs ++ ts).drop pl).take m) (((D.N.kn n).rows.drop pl).take m) := Paired.takeP _ (Paired.dropP _ (Paired.appP pf pt))
    have hlr : (((fs ++ ts).drop pl).take m).length = (((D.N.kn n).rows.drop pl).take m).length := Paired.length hpp
    have hrl : (((D.N.kn n).rows.drop pl).take m).length ≤ 12 := by rw [List.length_take, List.length_drop]; have : (D.N.kn n).rows.length = (D.N.kn n).len := rfl; omega
    have hrm : (((D.N.kn n).rows.drop pl).take m).length ≤ m := by rw [List.length_take]; omega
    generalize hrs : ((D.N.kn n).rows.drop pl).take m = rs at hpp hlr hrl hrm
    have hrs2 : ∀ dr ∈ rs, ∀ t ∈ dr, t ∈ D.N.names ++ D.outs := fun dr hdr => (ok.tgt n hn dr (by rw [← hrs] at hdr; exact List.mem_of_mem_drop (List.mem_of_mem_take hdr))).2
    generalize ((fs ++ ts).drop pl).take m = us at hq3 hpp hlr
    refine ⟨_, rfl, q2, rfl, ⟨_, SqL.of hq3⟩, ?_⟩
    refine for_list (xs := us) (fun i σ H' => ∃ x l, σ = [some (.ref p), some (.str n), some (.int pl), some (.int m), some (.ref fa), some (.ref ta), some (.ref d), some (.int m), some (.ref q2), x, none, none, none] ∧ Same H H' ∧ H' q2 = some (.lst us) ∧ H' d = some (.dK (CD l)) ∧ CDok l (D.N.names ++ D.outs) ∧ ∀ t, cv l t = (tally (rs.take i) t : Nat)) ⟨none, [], rfl, s2, hq3, hd3, CDok.nil _, fun t => by simp [tally, cv]⟩ (by rintro i σ H' _ ⟨x, l, rfl, _, h, _⟩; exact SqL.of h) ?_ ?_
    · rintro i v σ H4 hi ⟨x, l, rfl, s4, hq4, hd4, o4, hv4⟩
      obtain ⟨dr, hdr, hda⟩ := RowAt.get hpp hi
      refine ⟨_, rfl, _, rfl, d, v, dr, l, D.N.names ++ D.outs, 1, rfl, hda.mono (ts_of s4), hd4, o4, hU, hrs2 dr (List.mem_of_getElem? hdr), fun l' o' hv' => ?_⟩
      have ndq : q2 ≠ d := ne_of hq4 hd4 (by intro z; cases z)
      refine ⟨_, l', rfl, same_mut s4 hd, (upd_ne ndq).trans hq4, upd_same, o', fun t => ?_⟩
      rw [hv', hv4, tally_step _ hdr]; omega
    rintro σ H4 ⟨x, l, rfl, s4, hq4, hd4, o4, hv4⟩
    refine ⟨_, rfl, _, rfl, q2, _, rfl, .inl (SqL.of hq4), _, _, rfl, rfl, ?_⟩
    refine ⟨_, rfl, _, _, rfl, rfl, _, rfl, ?_⟩
    have hde := fun t => (D.N.kn n).dropped_eq htn hpl m t
    rw [hrs] at hde
    rw [hlr, List.take_length] at hv4
    refine ite2 (fun hc => ?_) (fun hc => ?_)
    · have hc : (0 : Int) < (m : Int) - (us.length : Nat) := of_decide_eq_true hc
      refine ⟨_, rfl, _, rfl, ta, _, rfl, .inr (SqT.of (s4 _ _ hta)), _, _, rfl, rfl, ⟨by omega, by omega⟩, _, rfl, _, rfl, ta, _, rfl, .inr (SqT.of (s4 _ _ hta)), _, _, rfl, rfl, by omega, _, _, rfl, ?_⟩
      refine ⟨_, rfl, ta, ts, rfl, SqT.of (s4 _ _ hta), ?_⟩
      refine for_it walk_enumT (fun i σ H' => ∃ x l x12, σ = [some (.ref p), some (.str n), some (.int pl), some (.int m), some (.ref fa), some (.ref ta), some (.ref d), some (.int ((m : Int) - (us.length : Nat))), some (.ref q2), x, some (.int (((m : Int) - (us.length : Nat)) / (ts.length : Nat))), some (.int (((m : Int) - (us.length : Nat)) % (ts.length : Nat))), x12] ∧ Same H H' ∧ H' d = some (.dK (CD l)) ∧ CDok l (D.N.names ++ D.outs) ∧ ∀ t, cv l t = ((tally rs t + spread (D.N.kn n).turn ((m - rs.length) / (D.N.kn n).turn.length) ((m - rs.length) % (D.N.kn n).turn.length) t i : Nat) : Int)) ⟨x, l, none, rfl, s4, hd4, o4, hv4⟩ (by rintro i σ H' _ ⟨x, l, x12, rfl, s5, _⟩; exact SqT.of (s5 _ _ hta)) ?_ ?_
      · rintro i v σ H5 H6 hi ⟨x, l, x12, rfl, s5, hd5, o5, hv5⟩ ⟨T', xx, yy, rfl, hT, rfl, hx, hy⟩
        cases hx
        have hy : ts[i]? = some yy := hy
        obtain ⟨dr, hdr, hda⟩ := RowAt.get pt hy
        have hdm : dr ∈ (D.N.kn n).rows := by unfold Kn.rows; exact List.mem_append_right _ (List.mem_of_getElem? hdr)
        have s6 := same_up (o := .tup [.int (i : Nat), yy]) s5 hT
        have hd6 : upd H5 T' (.tup [.int (i : Nat), yy]) d = _ := same_new hT _ _ hd5
        have e1 : ((m : Int) - (us.length : Nat)) / (ts.length : Nat) = (((m - rs.length) / (D.N.kn n).turn.length : Nat) : Int) := by
          rw [Int.natCast_ediv, htl, hlr]; congr 1; omega
        have e2 : ((m : Int) - (us.length : Nat)) % (ts.length : Nat) = (((m - rs.length) % (D.N.kn n).turn.length : Nat) : Int) := by
          rw [Int.natCast_emod, htl, hlr]; congr 1; omega
        have hdrD : (D.N.kn n).turn.getD i [] = dr := by rw [List.getD, hdr]; rfl
        have fin : ∀ (c : Int), c = (if i < (m - rs.length) % (D.N.kn n).turn.length then 1 else 0) → ∀ l', CDok l' (D.N.names ++ D.outs) → (∀ t, cv l' t = cv l t + (((m : Int) - (us.length : Nat)) / (ts.length : Nat) + c) * (dr.count t : Nat)) → ∀ t, cv l' t = ((tally rs t + spread (D.N.kn n).turn ((m - rs.length) / (D.N.kn n).turn.length) ((m - rs.length) % (D.N.kn n).turn.length) t (i + 1) : Nat) : Int) := fun c hc l' o' hv' t => by
          rw [hv', hv5, e1, spread, hdrD, hc]
          rw [Int.natCast_add, Int.natCast_add, Int.natCast_add, Int.natCast_mul, Int.natCast_add]
          split <;> simp <;> omega
        refine ⟨T', _, rfl, SqT.of upd_same, rfl, _, _, rfl, _, _, rfl, rfl, ?_⟩
        refine ⟨_, rfl, _, rfl, _, rfl, _, rfl, _, rfl, _, _, rfl, rfl, _, rfl, ?_⟩
        refine ite2 (fun hc => ?_) (fun hc => ?_)
        · have hc : ((i : Nat) : Int) < ((m : Int) - (us.length : Nat)) % (ts.length : Nat) := of_decide_eq_true hc
          rw [e2] at hc
          refine ⟨_, _, rfl, rfl, d, yy, dr, l, D.N.names ++ D.outs, _, rfl, hda.mono (ts_of s6), hd6, o5, hU, (ok.tgt n hn dr hdm).2, fun l' o' hv' => ?_⟩
          exact ⟨_, l', _, rfl, same_mut s6 hd, upd_same, o', fin 1 (by rw [if_pos (by omega)]) l' o' hv'⟩
        · have hc : ¬ ((i : Nat) : Int) < ((m : Int) - (us.length : Nat)) % (ts.length : Nat) := fun z => hc (decide_eq_true z)
          rw [e2] at hc
          refine ⟨_, _, rfl, rfl, d, yy, dr, l, D.N.names ++ D.outs, _, rfl, hda.mono (ts_of s6), hd6, o5, hU, (ok.tgt n hn dr hdm).2, fun l' o' hv' => ?_⟩
          exact ⟨_, l', _, rfl, same_mut s6 hd, upd_same, o', fin 0 (by rw [if_neg (by omega)]) l' o' hv'⟩
      · rintro σ H5 ⟨x, l, x12, rfl, s5, hd5, o5, hv5⟩
        refine ⟨_, rfl, k d H5 l hd s5 hd5 o5 fun t => ?_⟩
        rw [hv5, hde, htl, if_pos (by omega)]
    · have hc : ¬ (0 : Int) < (m : Int) - (us.length : Nat) := fun z => hc (decide_eq_true z)
      refine ⟨_, rfl, k d H4 l hd s4 hd4 o4 fun t => ?_⟩
      rw [hv4, hde, if_neg (by omega), Nat.add_zero]
end
end Bc
end
section
set_option Elab.async false
set_option linter.all false
set_option maxRecDepth 100000
set_option maxHeartbeats 2000000
/-! The walk: a board. -/
namespace Bc
open PySem L2
/-- what waits at first -/
def bb (D : Nd) (bs : List Str) (t : Str) : Nat := (bs.map D.inl).count t
def sp_check_balls (C : Addr) : Sp := fun vs H Q _ => ∃ (p bd : Addr) (D : Nd) (bs : List Str), vs = [.ref p, .ref bd] ∧ NetAt C H p D ∧ D.Ok ∧ H bd = some (.dK (FD bs fun _ => .int 1)) ∧ (∀ b ∈ bs, b ∈ D.ins) ∧ SU bs ∧ bs.length ≤ 12 ∧
  ∀ d H' l, H d = none → Same H H' → H' d = some (.dK (CD l)) → CDok l D.N.names → (∀ t, cv l t = (bb D bs t : Nat)) → Q (.ref d) H'
/-- a board stands at b -/
structure BoardAt (CB CN : Addr) (H : Hp) (b bx p sd wd od td : Addr) (D : Nd) (st : Str → Nat) (wl : List (Str × Int)) (out tk : Str → Int) : Prop where
  ob : H b = some (.ins CB bx [("net", .ref p), ("standing", .ref sd), ("waiting", .ref wd), ("out", .ref od), ("taken", .ref td)])
  net : NetAt CN H p D
  sd : H sd = some (.dK (FD D.N.names fun n => .int (st n)))
  wd : H wd = some (.dK (CD wl))
  wo : CDok wl D.N.names
  od : H od = some (.dK (FD D.outs fun n => .int (out n)))
  td : H td = some (.dK (FD D.N.names fun n => .int (tk n)))
structure Apart4 (sd wd od td : Addr) : Prop where
  sw : sd ≠ wd
  so : sd ≠ od
  st : sd ≠ td
  wo : wd ≠ od
  wt : wd ≠ td
  ot : od ≠ td
structure Fresh4 (sd wd od td : Addr) (H : Hp) : Prop where
  s : H sd = none
  w : H wd = none
  o : H od = none
  t : H td = none
def sp_Board_init (CB CN : Addr) : Sp := fun vs H Q _ => ∃ (b bx p sd wd : Addr) (D : Nd) (st : Str → Nat) (wl : List (Str × Int)), vs = [.ref b, .ref p, .ref sd, .ref wd] ∧ H b = some (.ins CB bx []) ∧ NetAt CN H p D ∧ D.Ok ∧ p ≠ b ∧
  H sd = some (.dK (FD D.N.names fun n => .int (st n))) ∧ H wd = some (.dK (CD wl)) ∧ CDok wl D.N.names ∧
  ∀ H' sd' wd' od' td', SB b H H' → BoardAt CB CN H' b bx p sd' wd' od' td' D st wl (fun _ => 0) (fun _ => 0) → Apart4 sd' wd' od' td' → Fresh4 sd' wd' od' td' H → Q .non H'
def SB4 (sd wd od td : Addr) (H H' : Hp) : Prop := ∀ a o, a ≠ sd → a ≠ wd → a ≠ od → a ≠ td → H a = some o → H' a = some o
def sp_Board_first_waiting (CB CN : Addr) : Sp := fun vs H Q _ => ∃ (b bx p sd wd od td : Addr) (D : Nd) (st : Str → Nat) (wl : List (Str × Int)) (out tk : Str → Int), vs = [.ref b] ∧ BoardAt CB CN H b bx p sd wd od td D st wl out tk ∧
  ∀ v, ((v = V.non ∧ ∀ n ∈ D.N.names, cv wl n ≤ 0) ∨ ∃ n ∈ D.N.names, v = .str n ∧ 0 < cv wl n) → Q v H
def sp_Board_take (CB CN : Addr) : Sp := fun vs H Q _ => ∃ (b bx p sd wd od td : Addr) (D : Nd) (st : Str → Nat) (wl : List (Str × Int)) (out tk : Str → Int) (n : Str) (m : Nat), vs = [.ref b, .str n, .int m] ∧ BoardAt CB CN H b bx p sd wd od td D st wl out tk ∧ D.Ok ∧
  Apart4 sd wd od td ∧ (∃ H0, NetAt CN H0 p D ∧ Same H0 H ∧ Fresh4 sd wd od td H0) ∧ n ∈ D.N.names ∧ st n < (D.N.kn n).len ∧
  ∀ H' wl', SB4 sd wd od td H H' → (∀ u ∈ D.N.names, cv wl' u = cv wl u + ((D.N.kn n).cnt (st n) u m : Nat) - (if u = n then (m : Int) else 0)) →
    BoardAt CB CN H' b bx p sd wd od td D (fun u => if u = n then (D.N.kn n).plc (st n) m else st u) wl' (fun o => out o + ((D.N.kn n).cnt (st n) o m : Nat)) (fun u => if u = n then tk u + m else tk u) → Q .non H'
def sp_Settled_init (CS : Addr) : Sp := fun vs H Q _ => ∃ (q qx td od sd ol : Addr) (kt ko ks : List (Key × V)) (xs : List V), vs = [.ref q, .ref td, .ref od, .ref sd, .ref ol] ∧ H q = some (.ins CS qx []) ∧ H td = some (.dK kt) ∧ H od = some (.dK ko) ∧ H sd = some (.dK ks) ∧ H ol = some (.lst xs) ∧
  ∀ H' td' od' sd' ol', SB q H H' → H' q = some (.ins CS qx [("taken", .ref td'), ("out", .ref od'), ("standing", .ref sd'), ("order", .ref ol')]) → H' od' = some (.dK ko) → H' sd' = some (.dK ks) → Q .non H'
section
variable {P : Program} {w : World} {K : PySem.W.Frag} {mg : Str → Option Value} {base : Heap}
theorem ok_check_balls (T : Tx K mg) : FnOk P w K mg base CX0 2 T.check_balls.f T.check_balls.fd ["net", "balls"] (sp_check_balls T.kNet.C) := by
  refine T.check_balls.F.ok sc_check_balls (fun vs H Q E h => ?_) (fun cdv A outer s H vs Q E hr h => ?_)
  · obtain ⟨p, bd, D, bs, rfl, _⟩ := h; rfl
  · obtain ⟨p, bd, D, bs, rfl, N', ok, hbd, hbs, su, hbl, k⟩ := h
    obtain ⟨dx, kd, id, ot, nl, g, N⟩ := id N'
    have hfew := ok.few
    refine ⟨_, (pss_cons (ps_if (pt_not (pt_val (pe_callB (id := "isinstance") call_isi rfl T.b_isinstance (by decide +kernel) (pa_cons (pv 1) (pa_cons (pe_bltn (v := .ty "dict") (u := .type "dict") rfl T.b_dict (by decide +kernel) rfl) pa_nil))))) (pss_one (ps_never)) pss_nil)
      (pss_cons (ps_set (i := 2) sc_check_balls.nd rfl (.inl rfl) pe_dnewK)
      (pss_cons (ps_for PassesOwn.never rfl (pi_list (pe_callB (id := "sorted") (cr_sortedS) rfl T.b_sorted (by decide +kernel) (pa_cons (pe_lock (pe_lc (own := [("one", 5)]) rfl sc_check_balls.nd (pi_keys (pv 1)) (blkOk_by (N := N_check_balls) (sc := defScope s_check_balls) (by decide +kernel)) (fun _ _ _ _ _ => pg_name (i := 5) sc_check_balls.nd rfl (.inl rfl)) (fun _ _ _ _ _ => pts_nil) (fun _ _ _ _ _ => pe_callTy (T := "str") SkE.call_str_str rfl T.b_str (by decide +kernel) (pa_cons (pv 5) pa_nil)))) pa_nil))) (pg_name (i := 3) sc_check_balls.nd rfl (.inl rfl)) (pss_cons (ps_if (PW.pt (pw_or (pt_cmp (pc_dnotin (hu_of hr) (pv 3) (pv 1))) (pw_or1 (PW.pt (pw_and (pt_cmp (pc_dnotin (hu_of hr) (pv 3) (pe_fld (pv 0) rfl))) (pw_and1 (pt_cmp (pc_dnotin (hu_of hr) (pv 3) (pe_fld (pv 0) rfl))))))))) (pss_one (ps_never)) pss_nil)
        (pss_cons (ps_if (PW.pt (pw_or (pt_not (pt_val (pe_call (ok_is_number T) (hr.mono (by decide)) rfl T.is_number.m T.is_number.F.kp T.is_number.b .nil pass0 (pa_cons (pe_dget (hu_of hr) (pv 1) (pv 3) (fun _ _ => rfl)) pa_nil)))) (pw_or1 (pt_cmpR op_lt (pe_dget (hu_of hr) (pv 1) (pv 3) (fun _ _ => rfl)) pe_int (nomark _))))) (pss_one (ps_never)) pss_nil)
        (pss_cons (ps_set (i := 4) sc_check_balls.nd rfl (.inl rfl) (pe_ifExp (pt_cmp (pc_din (hu_of hr) (pv 3) (pe_fld (pv 0) rfl))) (pe_dget (hu_of hr) (pe_fld (pv 0) rfl) (pv 3) (fun _ _ => rfl)) (pv 3)))
        (pss_one (ps_dput (hu_of hr) (pv 2) (pv 4) (pe_op op_add (pe_dget2 (hu_of hr) (pv 2) (pv 4) pe_int ⟨rfl, rfl, rfl, rfl⟩) (pe_dget (hu_of hr) (pv 1) (pv 3) (fun _ _ => rfl))) rfl))))))
      (pss_one (ps_ret (pv 2)))))), ?_⟩
    refine ⟨_, rfl, _, _, _, _, true, rfl, .ty _, .base (.dK hbd), kit_ty (by decide +kernel), true, rfl, iteF ?_⟩
    intro d hd
    have s1 : Same H (upd H d (.dK [])) := same_new hd
    have hd1 : upd H d (.dK []) d = some (.dK (CD [])) := upd_same
    generalize upd H d (.dK []) = H1 at s1 hd1 ⊢
    refine ⟨bd, _, s1 _ _ hbd, trivial, fun obd => ⟨_, rfl, bd, obd, rfl, .inl ⟨_, upd_same, fun q hq => ?_⟩⟩⟩
    have wk : Walk (Itk bd obd (FD bs fun _ => V.int 1)) bs.length (fun H => H bd = some (.frz obd (.dK (FD bs fun _ => V.int 1)))) (fun i H x H' => H' = H ∧ ∃ k v, (FD bs fun _ => V.int 1)[i]? = some (k, v) ∧ x = kV k) := by
      have := walk_keys (d := bd) (o := obd) (kvs := FD bs fun _ => V.int 1)
      rwa [fd_len] at this
    have wk2 : Walk (Itk bd obd (FD bs fun _ => V.int 1)) bs.length (fun H => H bd = some (.frz obd (.dK (FD bs fun _ => V.int 1)))) (YAt (bs.map V.str)) :=
      wk.mono (fun _ h => h) (fun i H x H' _ _ ⟨e, ky, v, h, ex⟩ => ⟨e, by obtain ⟨n, hn, rfl, _⟩ := fd_of_get h; rw [List.getElem?_map, hn, ex]; rfl⟩)
    have hfz : upd H1 bd (.frz obd (.dK (FD bs fun _ => V.int 1))) bd = some (.frz obd (.dK (FD bs fun _ => V.int 1))) := upd_same
    refine lc_vals wk2 (by omega) hq (fun i => .str (bs.getD i "")) (fun x => rfl) (fun H' s' => s' _ _ hfz) ?_ ?_
    · intro i x hi hx H' s' Q' q'
      rw [List.getElem?_map, List.getElem?_eq_getElem hi] at hx
      cases hx
      have e : bs.getD i "" = bs[i] := by rw [List.getD, List.getElem?_eq_getElem hi]; rfl
      rw [e] at q'
      exact ⟨_, rfl, _, rfl, q' H' (Same.refl H')⟩
    intro H2 s2 hq2
    have eb : (List.range bs.length).map (fun i => V.str (bs.getD i "")) = bs.map V.str := by
      apply List.ext_getElem
      · simp
      · intro j h1 h2
        have h3 : j < bs.length := by simpa using h1
        simp [List.getElem?_eq_getElem h3]
    rw [eb] at hq2
    refine ⟨s2 _ _ hfz, ?_⟩
    have nqb : q ≠ bd := fun e => by subst e; rw [hfz] at hq; cases hq
    have ndb : d ≠ bd := fun e => by subst e; rw [hd] at hbd; cases hbd
    have s3 := same_unlock s1 hbd s2
    have hq3 : upd H2 bd (.dK (FD bs fun _ => V.int 1)) q = some (.lst (bs.map V.str)) := (upd_ne nqb).trans hq2
    have hd3 : upd H2 bd (.dK (FD bs fun _ => V.int 1)) d = some (.dK (CD [])) := (upd_ne ndb).trans (s2 _ _ ((upd_ne ndb).trans hd1))
    generalize upd H2 bd (.dK (FD bs fun _ => V.int 1)) = H3 at s3 hq3 hd3 ⊢
    refine ⟨q, bs, rfl, SqL.of hq3, by omega, fun ys q2 hper hso hq20 => ?_⟩
    obtain rfl := su ys hper hso
    have s4 := s3.trans (same_new (o := .lst (ys.map V.str)) hq20)
    have hq4 : upd H3 q2 (.lst (ys.map V.str)) q2 = some (.lst (ys.map V.str)) := upd_same
    have hd4 : upd H3 q2 (.lst (ys.map V.str)) d = some (.dK (CD [])) := same_new hq20 _ _ hd3
    generalize upd H3 q2 (.lst (ys.map V.str)) = H4 at s4 hq4 hd4 ⊢
    refine ⟨q2, rfl, ⟨_, SqL.of hq4⟩, ?_⟩
    refine for_list (xs := ys.map V.str) (fun i σ H' => ∃ x y l, σ = [some (.ref p), some (.ref bd), some (.ref d), x, y, none] ∧ Same H H' ∧ H' q2 = some (.lst (ys.map V.str)) ∧ H' d = some (.dK (CD l)) ∧ CDok l D.N.names ∧ ∀ t, cv l t = (((ys.take i).map D.inl).count t : Nat)) ⟨none, none, [], rfl, s4, hq4, hd4, CDok.nil _, fun t => by simp [cv]⟩ (by rintro i σ H' _ ⟨x, y, l, rfl, _, h, _⟩; exact SqL.of h) ?_ ?_
    · rintro i v σ H5 hi ⟨x, y, l, rfl, s5, hq5, hd5, o5, hv5⟩
      rw [List.getElem?_map] at hi
      cases et : ys[i]? with
      | none => rw [et] at hi; cases hi
      | some n =>
        rw [et] at hi; cases hi
        have hn := hbs n (List.mem_of_getElem? et)
        have hin := ok.inl n hn
        have hrd : Rd H5 bd (.dK (FD ys fun _ => V.int 1)) := .inl (s5 _ _ hbd)
        have hny := List.mem_of_getElem? et
        have hidr := same_rd s5 N.id
        have hl5 := o5.len
        refine ⟨_, rfl, _, rfl, bd, _, rfl, dget_in hrd hny, false, rfl, iteF ?_⟩
        refine ⟨_, rfl, _, rfl, p, _, dx, _, _, rfl, s5 _ _ N.ob, T.cl_Net, T.a_Net_inlets, netF_inlets .., id, _, rfl, dget_in hidr hn, false, rfl, iteF (iteF ?_)⟩
        refine ⟨_, rfl, _, rfl, bd, _, rfl, dget_in hrd hny, 1, rfl, true, rfl, iteF ?_⟩
        refine ⟨_, rfl, _, rfl, bd, _, rfl, dget_in hrd hny, _, _, rfl, rfl, false, rfl, iteF ?_⟩
        refine ⟨_, rfl, _, rfl, p, _, dx, _, _, rfl, s5 _ _ N.ob, T.cl_Net, T.a_Net_inlets, netF_inlets .., id, _, rfl, dget_in hidr hn, true, rfl, iteT ?_⟩
        refine ⟨_, rfl, p, _, dx, _, _, rfl, s5 _ _ N.ob, T.cl_Net, T.a_Net_inlets, netF_inlets .., _, rfl, id, _, rfl, dget_in hidr hn, ?_⟩
        refine ⟨_, rfl, d, rfl, .inl ⟨_, .inl hd5⟩, _, rfl, _, dget_cd hd5, _, rfl, _, rfl, bd, _, rfl, dget_in hrd hny, cv l (D.inl n), 1, cd_getD .., rfl, _, rfl, _, rfl, d, _, rfl, dput_cd hd5 (by omega), ?_⟩
        have ndq : q2 ≠ d := ne_of hq5 hd5 (by intro z; cases z)
        refine ⟨_, _, put1 l (D.inl n) (cv l (D.inl n) + 1), rfl, same_mut s5 hd, (upd_ne ndq).trans hq5, upd_same, o5.put hin _, fun t => ?_⟩
        rw [cv_put1, List.take_succ, et, List.map_append, List.count_append]
        by_cases e : t = D.inl n
        · subst e; rw [if_pos rfl, hv5]; simp
        · rw [if_neg e, hv5]
          have : ([D.inl n] : List Str).count t = 0 := by rw [List.count_singleton, if_neg (by simpa using Ne.symm e)]
          simp [this]
    · rintro σ H5 ⟨x, y, l, rfl, s5, hq5, hd5, o5, hv5⟩
      rw [List.length_map, List.take_length] at hv5
      exact ⟨_, rfl, k d H5 l hd s5 hd5 o5 hv5⟩
theorem ok_Board_first_waiting (T : Tx K mg) : FnOk P w K mg base CX0 1 T.Board_first_waiting.f T.Board_first_waiting.fd ["self"] (sp_Board_first_waiting T.kBoard.C T.kNet.C) := by
  refine T.Board_first_waiting.F.ok sc_Board_first_waiting (fun vs H Q E h => ?_) (fun cdv A outer s H vs Q E hr h => ?_)
  · obtain ⟨b, bx, p, sd, wd, od, td, D, st, wl, out, tk, rfl, _⟩ := h; rfl
  · obtain ⟨b, bx, p, sd, wd, od, td, D, st, wl, out, tk, rfl, B, k⟩ := h
    obtain ⟨dx, kd, id, ot, nl, g, N⟩ := B.net
    refine ⟨_, (pss_cons (ps_for PassesOwn.never rfl (pi_list (pe_fld (pe_fld (pv 0) rfl) rfl)) (pg_name (i := 1) sc_Board_first_waiting.nd rfl (.inl rfl)) (pss_one (ps_if (pt_cmpR op_gt (pe_dget2 (hu_of hr) (pe_fld (pv 0) rfl) (pv 1) pe_int ⟨rfl, rfl, rfl, rfl⟩) pe_int (nomark _)) (pss_one (ps_ret (pv 1))) pss_nil)))
      (pss_one (ps_ret pe_non))), ?_⟩
    refine ⟨_, rfl, b, _, bx, _, _, rfl, B.ob, T.cl_Board, T.a_Board_net, rfl, p, _, dx, _, _, rfl, N.ob, T.cl_Net, T.a_Net_names, netF_names .., nl, rfl, ⟨_, SqL.of N.nl⟩, ?_⟩
    refine for_list (xs := D.N.names.map V.str) (fun i σ H' => ∃ x, σ = [some (.ref b), x] ∧ H' = H ∧ ∀ n ∈ D.N.names.take i, cv wl n ≤ 0) ⟨none, rfl, rfl, fun n h => by simp at h⟩ (by rintro i σ H' _ ⟨x, rfl, rfl, _⟩; exact SqL.of N.nl) ?_ ?_
    · rintro i v σ H2 hi ⟨x, rfl, rfl, hall⟩
      rw [List.getElem?_map] at hi
      cases et : D.N.names[i]? with
      | none => rw [et] at hi; cases hi
      | some n =>
        rw [et] at hi; cases hi
        have hn := List.mem_of_getElem? et
        refine ⟨_, rfl, b, _, bx, _, _, rfl, B.ob, T.cl_Board, T.a_Board_waiting, rfl, wd, rfl, .inl ⟨_, .inl B.wd⟩, _, rfl, _, dget_cd B.wd, cv wl n, 0, cd_getD .., rfl, _, rfl, ?_⟩
        refine ite2 (fun hc => ?_) (fun hc => ?_)
        · exact ⟨_, rfl, k _ (.inr ⟨n, hn, rfl, of_decide_eq_true hc⟩)⟩
        · refine ⟨_, rfl, rfl, fun m hm => ?_⟩
          rw [List.take_succ, et] at hm
          rcases List.mem_append.mp hm with h | h
          · exact hall m h
          · simp at h; subst h
            have : ¬ (0 : Int) < cv wl m := fun z => hc (decide_eq_true z)
            omega
    · rintro σ H2 ⟨x, rfl, rfl, hall⟩
      rw [List.length_map, List.take_length] at hall
      exact k _ (.inl ⟨rfl, hall⟩)
end
end Bc
end
section
set_option Elab.async false
set_option linter.all false
set_option maxRecDepth 100000
set_option maxHeartbeats 2000000
/-! The walk: a board is made; balls are taken. -/
namespace Bc
open PySem L2
theorem SB.free {b a : Addr} {H H' : Hp} {u : HO} (s : SB b H H') (hb : H' b = some u) (h : H' a = none) : H a = none := by
  cases e : H a with
  | none => rfl
  | some o =>
    by_cases z : a = b
    · subst z; rw [hb] at h; cases h
    · rw [s a o z e] at h; cases h
theorem NetHas.sb {C CB : Addr} {H H' : Hp} {b bx p : Addr} {D : Nd} {fs : List (Str × V)} {dx kd id ot nl : Addr} {g : Str → V} (h : NetHas C H p D dx kd id ot nl g) (s : SB b H H') (hb : H b = some (.ins CB bx fs)) (np : p ≠ b) : NetHas C H' p D dx kd id ot nl g where
  ob := s _ _ np h.ob
  kd := s _ _ (ne_of h.kd hb (by intro z; cases z)) h.kd
  kn := fun n hn => (h.kn n hn).mono (s.ts hb (fun xs z => nomatch z))
  id := h.id.imp (fun e => s _ _ (ne_of e hb (by intro z; cases z)) e) (fun ⟨o, e⟩ => ⟨o, s _ _ (ne_of e hb (by intro z; cases z)) e⟩)
  ot := s _ _ (ne_of h.ot hb (by intro z; cases z)) h.ot
  nl := s _ _ (ne_of h.nl hb (by intro z; cases z)) h.nl
theorem SB4.refl {sd wd od td : Addr} (H : Hp) : SB4 sd wd od td H H := fun _ _ _ _ _ _ e => e
theorem SB4.same {sd wd od td : Addr} {H H1 H2 : Hp} (a : SB4 sd wd od td H H1) (b : Same H1 H2) : SB4 sd wd od td H H2 := fun x o h1 h2 h3 h4 e => b x o (a x o h1 h2 h3 h4 e)
theorem SB4.wr {sd wd od td x : Addr} {H H1 : Hp} {o : HO} (a : SB4 sd wd od td H H1) (h : x = sd ∨ x = wd ∨ x = od ∨ x = td) : SB4 sd wd od td H (upd H1 x o) := fun y u h1 h2 h3 h4 e => by
  rw [upd_ne (fun z => by subst z; rcases h with h | h | h | h <;> contradiction)]; exact a y u h1 h2 h3 h4 e
theorem SB4.to {sd wd od td : Addr} {H0 H H' : Hp} (a : SB4 sd wd od td H H') (s : Same H0 H) (f : Fresh4 sd wd od td H0) : Same H0 H' := fun x o e =>
  a x o (fun z => by subst z; rw [f.s] at e; cases e) (fun z => by subst z; rw [f.w] at e; cases e) (fun z => by subst z; rw [f.o] at e; cases e) (fun z => by subst z; rw [f.t] at e; cases e) (s x o e)
theorem cv_append (l : List (Str × Int)) (t : Str) (c : Int) (h : t ∉ l.map (·.1)) (u : Str) : cv (l ++ [(t, c)]) u = cv l u + if u = t then c else 0 := by
  unfold cv
  rw [List.find?_append]
  cases e : l.find? fun p => decide (p.1 = u) with
  | some p =>
    have hp : p.1 = u := by simpa using List.find?_some e
    have hm := List.mem_of_find?_eq_some e
    have : u ≠ t := fun z => h (List.mem_map.mpr ⟨p, hm, hp.trans z⟩)
    rw [if_neg this]; simp
  | none =>
    by_cases z : u = t
    · subst z; simp
    · have : ¬ t = u := fun q => z q.symm
      simp [z, this]
theorem cv_take {l : List (Str × Int)} (hn : (l.map (·.1)).Nodup) {i : Nat} {t : Str} {c : Int} (h : l[i]? = some (t, c)) (u : Str) : cv (l.take (i + 1)) u = cv (l.take i) u + if u = t then c else 0 := by
  rw [List.take_succ, h]
  refine cv_append _ _ _ (fun hm => ?_) u
  rw [List.map_take] at hm
  obtain ⟨j, hj⟩ := List.mem_iff_getElem?.mp hm
  have hji : j < i := by have := (List.getElem?_eq_some_iff.mp hj).1; rw [List.length_take] at this; omega
  rw [List.getElem?_take_of_lt hji] at hj
  have h2 : (l.map (·.1))[i]? = some t := by rw [List.getElem?_map, h]; rfl
  have := get_inj hn hj h2
  omega
section
variable {P : Program} {w : World} {K : PySem.W.Frag} {mg : Str → Option Value} {base : Heap}
theorem ok_Settled_init (T : Tx K mg) : FnOk P w K mg base CX0 1 T.Settled_init.f T.Settled_init.fd ["self", "taken", "out", "standing", "order"] (sp_Settled_init T.kSettled.C) := by
  refine T.Settled_init.F.ok sc_Settled_init (fun vs H Q E h => ?_) (fun cdv A outer s H vs Q E hr h => ?_)
  · obtain ⟨q, qx, td, od, sd, ol, kt, ko, ks, xs, rfl, _⟩ := h; rfl
  · obtain ⟨q, qx, td, od, sd, ol, kt, ko, ks, xs, rfl, hq, htd, hod, hsd, hol, k⟩ := h
    have ntq : td ≠ q := ne_of htd hq (by intro z; cases z)
    have noq : od ≠ q := ne_of hod hq (by intro z; cases z)
    have nsq : sd ≠ q := ne_of hsd hq (by intro z; cases z)
    have nlq : ol ≠ q := ne_of hol hq (by intro z; cases z)
    refine ⟨_, (pss_cons (ps_fld (pv 0) (pe_callTy (T := "dict") call_dictD rfl T.b_dict (by decide +kernel) (pa_cons (pv 1) pa_nil)) rfl)
      (pss_cons (ps_fld (pv 0) (pe_callTy (T := "dict") call_dictD rfl T.b_dict (by decide +kernel) (pa_cons (pv 2) pa_nil)) rfl)
      (pss_cons (ps_fld (pv 0) (pe_callTy (T := "dict") call_dictD rfl T.b_dict (by decide +kernel) (pa_cons (pv 3) pa_nil)) rfl)
      (pss_one (ps_fld (pv 0) (pe_callTy (T := "list") (call_list_of) rfl T.b_list (by decide +kernel) (pa_cons (pv 4) pa_nil)) rfl))))), ?_⟩
    refine ⟨_, rfl, td, _, rfl, .inl htd, fun td' htd0 => ⟨_, rfl, q, _, qx, _, rfl, same_new htd0 _ _ hq, T.cl_Settled, T.a_Settled_taken, by decide, ?_⟩⟩
    have b1 : SB q H (upd (upd H td' (.dK kt)) q (.ins T.kSettled.C qx (putF "taken" (.ref td') []))) := SB.wr fun b o _ e => same_new htd0 b o e
    have q1 : upd (upd H td' (.dK kt)) q (.ins T.kSettled.C qx (putF "taken" (.ref td') [])) q = some (.ins T.kSettled.C qx [("taken", .ref td')]) := upd_same
    generalize upd (upd H td' (.dK kt)) q (.ins T.kSettled.C qx (putF "taken" (.ref td') [])) = H1 at b1 q1 ⊢
    refine ⟨_, rfl, od, _, rfl, .inl (b1 _ _ noq hod), fun od' hod0 => ⟨_, rfl, q, _, qx, _, rfl, same_new hod0 _ _ q1, T.cl_Settled, T.a_Settled_out, by simp, ?_⟩⟩
    have nod : od' ≠ q := fun e => by subst e; rw [q1] at hod0; cases hod0
    have b2 : SB q H (upd (upd H1 od' (.dK ko)) q (.ins T.kSettled.C qx (putF "out" (.ref od') [("taken", .ref td')]))) := (b1.same (same_new hod0)).wr
    have q2 : upd (upd H1 od' (.dK ko)) q (.ins T.kSettled.C qx (putF "out" (.ref od') [("taken", .ref td')])) q = some (.ins T.kSettled.C qx [("taken", .ref td'), ("out", .ref od')]) := upd_same
    have o2 : upd (upd H1 od' (.dK ko)) q (.ins T.kSettled.C qx (putF "out" (.ref od') [("taken", .ref td')])) od' = some (.dK ko) := (upd_ne nod).trans upd_same
    generalize upd (upd H1 od' (.dK ko)) q (.ins T.kSettled.C qx (putF "out" (.ref od') [("taken", .ref td')])) = H2 at b2 q2 o2 ⊢
    refine ⟨_, rfl, sd, _, rfl, .inl (b2 _ _ nsq hsd), fun sd' hsd0 => ⟨_, rfl, q, _, qx, _, rfl, same_new hsd0 _ _ q2, T.cl_Settled, T.a_Settled_standing, by simp, ?_⟩⟩
    have nsd : sd' ≠ q := fun e => by subst e; rw [q2] at hsd0; cases hsd0
    have b3 : SB q H (upd (upd H2 sd' (.dK ks)) q (.ins T.kSettled.C qx (putF "standing" (.ref sd') [("taken", .ref td'), ("out", .ref od')]))) := (b2.same (same_new hsd0)).wr
    have q3 : upd (upd H2 sd' (.dK ks)) q (.ins T.kSettled.C qx (putF "standing" (.ref sd') [("taken", .ref td'), ("out", .ref od')])) q = some (.ins T.kSettled.C qx [("taken", .ref td'), ("out", .ref od'), ("standing", .ref sd')]) := upd_same
    have o3 : upd (upd H2 sd' (.dK ks)) q (.ins T.kSettled.C qx (putF "standing" (.ref sd') [("taken", .ref td'), ("out", .ref od')])) od' = some (.dK ko) := (upd_ne nod).trans (same_new hsd0 _ _ o2)
    have s3 : upd (upd H2 sd' (.dK ks)) q (.ins T.kSettled.C qx (putF "standing" (.ref sd') [("taken", .ref td'), ("out", .ref od')])) sd' = some (.dK ks) := (upd_ne nsd).trans upd_same
    generalize upd (upd H2 sd' (.dK ks)) q (.ins T.kSettled.C qx (putF "standing" (.ref sd') [("taken", .ref td'), ("out", .ref od')])) = H3 at b3 q3 o3 s3 ⊢
    refine ⟨_, rfl, ol, xs, rfl, .inl (SqL.of (b3 _ _ nlq hol)), fun ol' hol0 => ⟨_, rfl, q, _, qx, _, rfl, same_new hol0 _ _ q3, T.cl_Settled, T.a_Settled_order, by simp, ?_⟩⟩
    exact k _ td' od' sd' ol' (b3.same (same_new hol0)).wr upd_same ((upd_ne nod).trans (same_new hol0 _ _ o3)) ((upd_ne nsd).trans (same_new hol0 _ _ s3))
theorem ok_Board_init (T : Tx K mg) : FnOk P w K mg base CX0 1 T.Board_init.f T.Board_init.fd ["self", "net", "standing", "waiting"] (sp_Board_init T.kBoard.C T.kNet.C) := by
  refine T.Board_init.F.ok sc_Board_init (fun vs H Q E h => ?_) (fun cdv A outer s H vs Q E hr h => ?_)
  · obtain ⟨b, bx, p, sd, wd, D, st, wl, rfl, _⟩ := h; rfl
  · obtain ⟨b, bx, p, sd, wd, D, st, wl, rfl, hb, N', ok, npb, hsd, hwd, hwo, k⟩ := h
    obtain ⟨dx, kd, id, ot, nl, g, N⟩ := id N'
    have hfew := ok.few
    have hfewo := ok.fewo
    have nsb : sd ≠ b := ne_of hsd hb (by intro z; cases z)
    have nwb : wd ≠ b := ne_of hwd hb (by intro z; cases z)
    refine ⟨_, (pss_cons (ps_fld (pv 0) (pv 1) rfl)
      (pss_cons (ps_fld (pv 0) (pe_dc (own := [("name", 4)]) rfl sc_Board_init.nd (pi_list (pe_fld (pv 1) rfl)) (blkOk_by (N := N_Board_init) (sc := defScope s_Board_init) (by decide +kernel)) (fun _ _ _ _ _ => pg_name (i := 4) sc_Board_init.nd rfl (.inl rfl)) (fun _ _ _ _ _ => pts_nil) (fun _ _ _ _ _ => pv 4) (fun _ _ _ _ _ => pe_dget (hu_of hr) (pv 2) (pv 4) (fun _ _ => rfl))) rfl)
      (pss_cons (ps_fld (pv 0) (pe_callTy (T := "dict") call_dictD rfl T.b_dict (by decide +kernel) (pa_cons (pv 3) pa_nil)) rfl)
      (pss_cons (ps_fld (pv 0) (pe_dc (own := [("name", 4)]) rfl sc_Board_init.nd (pi_tup (pe_fld (pv 1) rfl)) (blkOk_by (N := N_Board_init) (sc := defScope s_Board_init) (by decide +kernel)) (fun _ _ _ _ _ => pg_name (i := 4) sc_Board_init.nd rfl (.inl rfl)) (fun _ _ _ _ _ => pts_nil) (fun _ _ _ _ _ => pv 4) (fun _ _ _ _ _ => pe_int)) rfl)
      (pss_one (ps_fld (pv 0) (pe_dc (own := [("name", 4)]) rfl sc_Board_init.nd (pi_list (pe_fld (pv 1) rfl)) (blkOk_by (N := N_Board_init) (sc := defScope s_Board_init) (by decide +kernel)) (fun _ _ _ _ _ => pg_name (i := 4) sc_Board_init.nd rfl (.inl rfl)) (fun _ _ _ _ _ => pts_nil) (fun _ _ _ _ _ => pv 4) (fun _ _ _ _ _ => pe_int)) rfl)))))), ?_⟩
    refine ⟨_, rfl, _, rfl, b, _, bx, _, rfl, hb, T.cl_Board, T.a_Board_net, by decide, ?_⟩
    have b1 : SB b H (upd H b (.ins T.kBoard.C bx (putF "net" (.ref p) []))) := (SB.refl b H).wr
    have q1 : upd H b (.ins T.kBoard.C bx (putF "net" (.ref p) [])) b = some (.ins T.kBoard.C bx [("net", .ref p)]) := upd_same
    generalize upd H b (.ins T.kBoard.C bx (putF "net" (.ref p) [])) = H1 at b1 q1 ⊢
    have N1 := N.sb b1 hb npb
    -- standing
    refine ⟨_, rfl, p, _, dx, _, _, rfl, N1.ob, T.cl_Net, T.a_Net_names, netF_names .., nl, rfl, ⟨_, SqL.of N1.nl⟩, fun sd' hsd0 => ?_⟩
    refine dc_names walk_names ok.nd (by omega) hsd0 (fun n => .int (st n)) (fun x => rfl) (fun x => rfl) (fun H' s' => s'.seq (SqL.of N1.nl)) (fun n hn H' s' Q' q => ⟨_, rfl, _, rfl, sd, _, rfl, dget_in (.inl (s' _ _ (b1 _ _ nsb hsd))) hn, q H' (Same.refl H')⟩) (fun H2 s2 hS2 => ?_)
    refine ⟨_, rfl, b, _, bx, _, rfl, s2 _ _ q1, T.cl_Board, T.a_Board_standing, by simp, ?_⟩
    have nsd : sd' ≠ b := fun e => by subst e; rw [q1] at hsd0; cases hsd0
    have fs : H sd' = none := b1.free q1 hsd0
    have b3 : SB b H (upd H2 b (.ins T.kBoard.C bx (putF "standing" (.ref sd') [("net", .ref p)]))) := (b1.same s2).wr
    have q3 : upd H2 b (.ins T.kBoard.C bx (putF "standing" (.ref sd') [("net", .ref p)])) b = some (.ins T.kBoard.C bx [("net", .ref p), ("standing", .ref sd')]) := upd_same
    have S3 : upd H2 b (.ins T.kBoard.C bx (putF "standing" (.ref sd') [("net", .ref p)])) sd' = _ := (upd_ne nsd).trans hS2
    generalize upd H2 b (.ins T.kBoard.C bx (putF "standing" (.ref sd') [("net", .ref p)])) = H3 at b3 q3 S3 ⊢
    -- waiting
    refine ⟨_, rfl, wd, _, rfl, .inl (b3 _ _ nwb hwd), fun wd' hwd0 => ⟨_, rfl, b, _, bx, _, rfl, same_new hwd0 _ _ q3, T.cl_Board, T.a_Board_waiting, by simp, ?_⟩⟩
    have nwd : wd' ≠ b := fun e => by subst e; rw [q3] at hwd0; cases hwd0
    have nsw : sd' ≠ wd' := fun e => by subst e; rw [S3] at hwd0; cases hwd0
    have fw : H wd' = none := b3.free q3 hwd0
    have b4 : SB b H (upd (upd H3 wd' (.dK (CD wl))) b (.ins T.kBoard.C bx (putF "waiting" (.ref wd') [("net", .ref p), ("standing", .ref sd')]))) := (b3.same (same_new hwd0)).wr
    have q4 : upd (upd H3 wd' (.dK (CD wl))) b (.ins T.kBoard.C bx (putF "waiting" (.ref wd') [("net", .ref p), ("standing", .ref sd')])) b = some (.ins T.kBoard.C bx [("net", .ref p), ("standing", .ref sd'), ("waiting", .ref wd')]) := upd_same
    have S4 : upd (upd H3 wd' (.dK (CD wl))) b (.ins T.kBoard.C bx (putF "waiting" (.ref wd') [("net", .ref p), ("standing", .ref sd')])) sd' = _ := (upd_ne nsd).trans (same_new hwd0 _ _ S3)
    have W4 : upd (upd H3 wd' (.dK (CD wl))) b (.ins T.kBoard.C bx (putF "waiting" (.ref wd') [("net", .ref p), ("standing", .ref sd')])) wd' = some (.dK (CD wl)) := (upd_ne nwd).trans upd_same
    generalize upd (upd H3 wd' (.dK (CD wl))) b (.ins T.kBoard.C bx (putF "waiting" (.ref wd') [("net", .ref p), ("standing", .ref sd')])) = H4 at b4 q4 S4 W4 ⊢
    have N4 := N.sb b4 hb npb
    -- out
    refine ⟨_, rfl, p, _, dx, _, _, rfl, N4.ob, T.cl_Net, T.a_Net_outlets, netF_outlets .., ot, rfl, ⟨_, SqT.of N4.ot⟩, fun od' hod0 => ?_⟩
    refine dc_names walk_namesT ok.ond (by omega) hod0 (fun n => .int 0) (fun x => rfl) (fun x => rfl) (fun H' s' => SqT.of (s' _ _ N4.ot)) (fun n hn H' s' Q' q => q H' (Same.refl H')) (fun H5 s5 hO5 => ?_)
    refine ⟨_, rfl, b, _, bx, _, rfl, s5 _ _ q4, T.cl_Board, T.a_Board_out, by simp, ?_⟩
    have nod : od' ≠ b := fun e => by subst e; rw [q4] at hod0; cases hod0
    have nso : sd' ≠ od' := fun e => by subst e; rw [S4] at hod0; cases hod0
    have nwo : wd' ≠ od' := fun e => by subst e; rw [W4] at hod0; cases hod0
    have fo : H od' = none := b4.free q4 hod0
    have b6 : SB b H (upd H5 b (.ins T.kBoard.C bx (putF "out" (.ref od') [("net", .ref p), ("standing", .ref sd'), ("waiting", .ref wd')]))) := (b4.same s5).wr
    have q6 : upd H5 b (.ins T.kBoard.C bx (putF "out" (.ref od') [("net", .ref p), ("standing", .ref sd'), ("waiting", .ref wd')])) b = some (.ins T.kBoard.C bx [("net", .ref p), ("standing", .ref sd'), ("waiting", .ref wd'), ("out", .ref od')]) := upd_same
    have S6 : upd H5 b (.ins T.kBoard.C bx (putF "out" (.ref od') [("net", .ref p), ("standing", .ref sd'), ("waiting", .ref wd')])) sd' = _ := (upd_ne nsd).trans (s5 _ _ S4)
    have W6 : upd H5 b (.ins T.kBoard.C bx (putF "out" (.ref od') [("net", .ref p), ("standing", .ref sd'), ("waiting", .ref wd')])) wd' = _ := (upd_ne nwd).trans (s5 _ _ W4)
    have O6 : upd H5 b (.ins T.kBoard.C bx (putF "out" (.ref od') [("net", .ref p), ("standing", .ref sd'), ("waiting", .ref wd')])) od' = _ := (upd_ne nod).trans hO5
    generalize upd H5 b (.ins T.kBoard.C bx (putF "out" (.ref od') [("net", .ref p), ("standing", .ref sd'), ("waiting", .ref wd')])) = H6 at b6 q6 S6 W6 O6 ⊢
    have N6 := N.sb b6 hb npb
    -- taken
    refine ⟨_, rfl, p, _, dx, _, _, rfl, N6.ob, T.cl_Net, T.a_Net_names, netF_names .., nl, rfl, ⟨_, SqL.of N6.nl⟩, fun td' htd0 => ?_⟩
    refine dc_names walk_names ok.nd (by omega) htd0 (fun n => .int 0) (fun x => rfl) (fun x => rfl) (fun H' s' => s'.seq (SqL.of N6.nl)) (fun n hn H' s' Q' q => q H' (Same.refl H')) (fun H7 s7 hT7 => ?_)
    refine ⟨_, rfl, b, _, bx, _, rfl, s7 _ _ q6, T.cl_Board, T.a_Board_taken, by simp, ?_⟩
    have ntd : td' ≠ b := fun e => by subst e; rw [q6] at htd0; cases htd0
    have nst : sd' ≠ td' := fun e => by subst e; rw [S6] at htd0; cases htd0
    have nwt : wd' ≠ td' := fun e => by subst e; rw [W6] at htd0; cases htd0
    have nott : od' ≠ td' := fun e => by subst e; rw [O6] at htd0; cases htd0
    have b8 : SB b H (upd H7 b (.ins T.kBoard.C bx (putF "taken" (.ref td') [("net", .ref p), ("standing", .ref sd'), ("waiting", .ref wd'), ("out", .ref od')]))) := (b6.same s7).wr
    refine k _ sd' wd' od' td' b8 ?_ ⟨nsw, nso, nst, nwo, nwt, nott⟩ ⟨fs, fw, fo, b6.free q6 htd0⟩
    exact { ob := upd_same, net := ⟨dx, kd, id, ot, nl, g, N.sb b8 hb npb⟩, sd := (upd_ne nsd).trans (s7 _ _ S6), wd := (upd_ne nwd).trans (s7 _ _ W6), wo := hwo, od := (upd_ne nod).trans (s7 _ _ O6), td := (upd_ne ntd).trans hT7 }
theorem ok_Board_take (T : Tx K mg) : FnOk P w K mg base CX0 3 T.Board_take.f T.Board_take.fd ["self", "name", "many"] (sp_Board_take T.kBoard.C T.kNet.C) := by
  refine T.Board_take.F.ok sc_Board_take (fun vs H Q E h => ?_) (fun cdv A outer s H vs Q E hr h => ?_)
  · obtain ⟨b, bx, p, sd, wd, od, td, D, st, wl, out, tk, n, m, rfl, _⟩ := h; rfl
  · obtain ⟨b, bx, p, sd, wd, od, td, D, st, wl, out, tk, n, m, rfl, B, ok, ap, ⟨H0, N0', s0, fr⟩, hn, hst, k⟩ := h
    obtain ⟨dx, kd, id, ot, nl, g, N0⟩ := id N0'
    have hfew := ok.few
    have hfewo := ok.fewo
    have nbs : b ≠ sd := ne_of B.ob B.sd (by intro z; cases z)
    have nbw : b ≠ wd := ne_of B.ob B.wd (by intro z; cases z)
    have nbo : b ≠ od := ne_of B.ob B.od (by intro z; cases z)
    have nbt : b ≠ td := ne_of B.ob B.td (by intro z; cases z)
    refine ⟨_, (pss_cons (ps_set (i := 3) sc_Board_take.nd rfl (.inl rfl) (pe_dget (hu_of hr) (pe_fld (pv 0) rfl) (pv 1) (fun _ _ => rfl)))
      (pss_cons (ps_for PassesOwn.never rfl (pi_items (pe_frz (pe_meth (pe_fld (pv 0) rfl) T.cl_Net T.Net_dropped.m (ok_Net_dropped T) (hr.mono (by decide)) T.Net_dropped.b .nil pass0 (pa_cons (pv 1) (pa_cons (pv 3) (pa_cons (pv 2) pa_nil)))))) (pg_tup rfl (pgs_cons (pg_name (i := 4) sc_Board_take.nd rfl (.inl rfl)) (pgs_cons (pg_name (i := 5) sc_Board_take.nd rfl (.inl rfl)) pgs_nil))) (pss_one (ps_if (pt_cmp (pc_din (hu_of hr) (pv 4) (pe_fld (pv 0) rfl))) (pss_one (ps_daug (hu_of hr) (pe_fld (pv 0) rfl) (pv 4) (pv 5) in_add (fun _ _ _ => rfl))) (pss_one (ps_dput (hu_of hr) (pe_fld (pv 0) rfl) (pv 4) (pe_op op_add (pe_dget2 (hu_of hr) (pe_fld (pv 0) rfl) (pv 4) pe_int ⟨rfl, rfl, rfl, rfl⟩) (pv 5)) rfl)))))
      (pss_cons (ps_dput (hu_of hr) (pe_fld (pv 0) rfl) (pv 1) (pe_op op_sub (pe_dget2 (hu_of hr) (pe_fld (pv 0) rfl) (pv 1) pe_int ⟨rfl, rfl, rfl, rfl⟩) (pv 2)) rfl)
      (pss_cons (ps_dput (hu_of hr) (pe_fld (pv 0) rfl) (pv 1) (pe_meth (pe_fld (pv 0) rfl) T.cl_Net T.Net_place_behind.m (ok_Net_place_behind T) (hr.mono (by decide)) T.Net_place_behind.b .nil pass0 (pa_cons (pv 1) (pa_cons (pv 3) (pa_cons (pv 2) pa_nil)))) rfl)
      (pss_one (ps_daug (hu_of hr) (pe_fld (pv 0) rfl) (pv 1) (pv 2) in_add (fun _ _ _ => rfl))))))), ?_⟩
    refine ⟨_, rfl, b, _, bx, _, _, rfl, B.ob, T.cl_Board, T.a_Board_standing, rfl, _, rfl, sd, _, rfl, dget_in (.inl B.sd) hn, ?_⟩
    refine ⟨_, rfl, b, _, bx, _, _, rfl, B.ob, T.cl_Board, T.a_Board_net, rfl, p, dx, _, rfl, s0 _ _ N0.ob, rfl, _, rfl, _, rfl, _, rfl, p, n, D, st n, m, rfl, B.net, ok, hn, hst, fun d H1 l hd s1 hd1 o1 hl => ⟨d, _, rfl, hd1, trivial, fun odd => ⟨d, odd, _, rfl, upd_same, ?_⟩⟩⟩
    have nds : d ≠ sd := fun e => by subst e; rw [B.sd] at hd; cases hd
    have ndw : d ≠ wd := fun e => by subst e; rw [B.wd] at hd; cases hd
    have ndo : d ≠ od := fun e => by subst e; rw [B.od] at hd; cases hd
    have ndt : d ≠ td := fun e => by subst e; rw [B.td] at hd; cases hd
    have nbd : b ≠ d := fun e => by subst e; rw [B.ob] at hd; cases hd
    have s2 : Same H (upd H1 d (.frz odd (.dK (CD l)))) := same_mut s1 hd
    have hfz : upd H1 d (.frz odd (.dK (CD l))) d = some (.frz odd (.dK (CD l))) := upd_same
    generalize upd H1 d (.frz odd (.dK (CD l))) = H2 at s2 hfz ⊢
    have hn0 : n ∉ D.outs := ok.apart n hn
    refine for_it walk_items (fun i σ H' => ∃ x4 x5 wl' out', σ = [some (.ref b), some (.str n), some (.int m), some (.int (st n)), x4, x5] ∧ SB4 sd wd od td H H' ∧ H' d = some (.frz odd (.dK (CD l))) ∧ BoardAt T.kBoard.C T.kNet.C H' b bx p sd wd od td D st wl' out' tk ∧ (∀ u ∈ D.N.names, cv wl' u = cv wl u + cv (l.take i) u) ∧ ∀ o ∈ D.outs, out' o = out o + cv (l.take i) o)
      ⟨none, none, wl, out, rfl, (SB4.refl H).same s2, hfz, ⟨s2 _ _ B.ob, B.net.mono s2, s2 _ _ B.sd, s2 _ _ B.wd, B.wo, s2 _ _ B.od, s2 _ _ B.td⟩, fun u _ => by simp [cv], fun o _ => by simp [cv]⟩ (by rintro i σ H' _ ⟨x4, x5, wl', out', rfl, _, h, _⟩; exact h) ?_ ?_
    · rintro i v σ H3 H4 hi ⟨x4, x5, wl', out', rfl, sb3, hf3, B3, hw3, ho3⟩ ⟨T', x, y, rfl, hT, rfl, hx, hy⟩
      have hil : i < l.length := by simpa [CD] using hi
      have hli : l[i]? = some (l[i].1, l[i].2) := List.getElem?_eq_getElem hil
      generalize l[i].1 = t at hli
      generalize l[i].2 = c at hli
      have hcd : (CD l)[i]? = some (.inr t, .int c) := by unfold CD; rw [List.getElem?_map, hli]; rfl
      have hx : (CD l)[i]?.map (fun kv => kV kv.1) = some x := hx
      have hy : (CD l)[i]?.map Prod.snd = some y := hy
      rw [hcd] at hx hy
      have ex : V.str t = x := Option.some.inj hx
      have ey : V.int c = y := Option.some.inj hy
      subst ex ey
      have htU : t ∈ D.N.names ++ D.outs := o1.sub t (List.mem_map.mpr ⟨(t, c), List.mem_of_getElem? hli, rfl⟩)
      have hct := cv_take o1.nd hli
      have s4 := same_new (o := .tup [.str t, .int c]) hT
      have sb4 : SB4 sd wd od td H (upd H3 T' (.tup [.str t, .int c])) := sb3.same s4
      have hf4 := s4 _ _ hf3
      have B4 : BoardAt T.kBoard.C T.kNet.C (upd H3 T' (.tup [.str t, .int c])) b bx p sd wd od td D st wl' out' tk := ⟨s4 _ _ B3.ob, B3.net.mono s4, s4 _ _ B3.sd, s4 _ _ B3.wd, B3.wo, s4 _ _ B3.od, s4 _ _ B3.td⟩
      refine ⟨T', _, rfl, SqT.of upd_same, rfl, _, _, rfl, _, _, rfl, rfl, ?_⟩
      generalize upd H3 T' (.tup [.str t, .int c]) = H4 at s4 sb4 hf4 B4 ⊢
      have hlw := B4.wo.len
      by_cases hto : t ∈ D.outs
      · have htn : t ∉ D.N.names := fun z => ok.apart t z hto
        refine ⟨_, rfl, _, rfl, b, _, bx, _, _, rfl, B4.ob, T.cl_Board, T.a_Board_out, rfl, od, _, rfl, dget_in (.inl B4.od) hto, true, rfl, iteT ?_⟩
        refine ⟨_, rfl, b, _, bx, _, _, rfl, B4.ob, T.cl_Board, T.a_Board_out, rfl, _, rfl, od, _, rfl, dget_in (.inl B4.od) hto, _, rfl, _, _, rfl, rfl, _, dput_fd B4.od hto (by omega), ?_⟩
        have eo : FD D.outs (fun m => if m = t then V.int (out' t + c) else V.int (out' m)) = FD D.outs (fun n => .int (if n = t then out' t + c else out' n)) := fd_congr fun n _ => by by_cases e : n = t <;> simp [e]
        have hod5 : upd H4 od (.dK (FD D.outs fun m => if m = t then V.int (out' t + c) else V.int (out' m))) od = some (.dK (FD D.outs fun n => .int (if n = t then out' t + c else out' n))) := by rw [upd_same, eo]
        have sb5 : SB4 sd wd od td H (upd H4 od (.dK (FD D.outs fun m => if m = t then V.int (out' t + c) else V.int (out' m)))) := sb4.wr (.inr (.inr (.inl rfl)))
        refine ⟨_, _, wl', fun n => if n = t then out' t + c else out' n, rfl, sb5, (upd_ne ndo).trans hf4, ⟨(upd_ne nbo).trans B4.ob, N0'.mono (sb5.to s0 fr), (upd_ne ap.so).trans B4.sd, (upd_ne ap.wo).trans B4.wd, B4.wo, hod5, (upd_ne (Ne.symm ap.ot)).trans B4.td⟩, fun u hu => ?_, fun o ho => ?_⟩
        · rw [hw3 u hu, hct, if_neg (fun (e : u = t) => htn (e ▸ hu))]; omega
        · show (if o = t then out' t + c else out' o) = _
          rw [hct]
          by_cases e : o = t
          · subst e; rw [if_pos rfl, if_pos rfl, ho3 o ho]; omega
          · rw [if_neg e, if_neg e, ho3 o ho]; omega
      · have htn : t ∈ D.N.names := (List.mem_append.mp htU).resolve_right hto
        refine ⟨_, rfl, _, rfl, b, _, bx, _, _, rfl, B4.ob, T.cl_Board, T.a_Board_out, rfl, od, _, rfl, dget_out (.inl B4.od) hto, false, rfl, iteF ?_⟩
        refine ⟨_, rfl, b, _, bx, _, _, rfl, B4.ob, T.cl_Board, T.a_Board_waiting, rfl, wd, rfl, .inl ⟨_, .inl B4.wd⟩, _, rfl, _, dget_cd B4.wd, _, rfl, cv wl' t, c, cd_getD .., rfl, _, rfl, b, _, bx, _, _, rfl, B4.ob, T.cl_Board, T.a_Board_waiting, rfl, _, rfl, wd, _, rfl, dput_cd B4.wd (by omega), ?_⟩
        have sb5 : SB4 sd wd od td H (upd H4 wd (.dK (CD (put1 wl' t (cv wl' t + c))))) := sb4.wr (.inr (.inl rfl))
        refine ⟨_, _, put1 wl' t (cv wl' t + c), out', rfl, sb5, (upd_ne ndw).trans hf4, ⟨(upd_ne nbw).trans B4.ob, N0'.mono (sb5.to s0 fr), (upd_ne ap.sw).trans B4.sd, upd_same, B4.wo.put htn _, (upd_ne (Ne.symm ap.wo)).trans B4.od, (upd_ne (Ne.symm ap.wt)).trans B4.td⟩, fun u hu => ?_, fun o ho => ?_⟩
        · rw [cv_put1, hct]
          by_cases e : u = t
          · subst e; rw [if_pos rfl, if_pos rfl, hw3 u hu]; omega
          · rw [if_neg e, if_neg e, hw3 u hu]; omega
        · rw [ho3 o ho, hct, if_neg (fun (e : o = t) => hto (e ▸ ho))]; omega
    rintro σ H3 ⟨x4, x5, wl', out', rfl, sb3, _, B3, hw3, ho3⟩
    have ell : l.take (CD l).length = l := by rw [show (CD l).length = l.length by simp [CD], List.take_length]
    rw [ell] at hw3 ho3
    have hlw := B3.wo.len
    have hod3 : H3 od = some (.dK (FD D.outs fun o => .int (out o + ((D.N.kn n).cnt (st n) o m : Nat)))) := by
      rw [B3.od, fd_congr (g := fun o => V.int (out o + ((D.N.kn n).cnt (st n) o m : Nat))) fun o ho => by rw [ho3 o ho, hl]]
    -- waiting
    refine ⟨_, rfl, b, _, bx, _, _, rfl, B3.ob, T.cl_Board, T.a_Board_waiting, rfl, wd, rfl, .inl ⟨_, .inl B3.wd⟩, _, rfl, _, dget_cd B3.wd, _, rfl, cv wl' n, _, cd_getD .., rfl, _, rfl, b, _, bx, _, _, rfl, B3.ob, T.cl_Board, T.a_Board_waiting, rfl, _, rfl, wd, _, rfl, dput_cd B3.wd (by omega), ?_⟩
    have sb4 : SB4 sd wd od td H (upd H3 wd (.dK (CD (put1 wl' n (cv wl' n - m))))) := sb3.wr (.inr (.inl rfl))
    have ob4 : upd H3 wd (.dK (CD (put1 wl' n (cv wl' n - m)))) b = _ := (upd_ne nbw).trans B3.ob
    have sd4 : upd H3 wd (.dK (CD (put1 wl' n (cv wl' n - m)))) sd = _ := (upd_ne ap.sw).trans B3.sd
    have wd4 : upd H3 wd (.dK (CD (put1 wl' n (cv wl' n - m)))) wd = some (.dK (CD (put1 wl' n (cv wl' n - m)))) := upd_same
    have od4 : upd H3 wd (.dK (CD (put1 wl' n (cv wl' n - m)))) od = _ := (upd_ne (Ne.symm ap.wo)).trans hod3
    have td4 : upd H3 wd (.dK (CD (put1 wl' n (cv wl' n - m)))) td = _ := (upd_ne (Ne.symm ap.wt)).trans B3.td
    generalize upd H3 wd (.dK (CD (put1 wl' n (cv wl' n - m)))) = H4 at sb4 ob4 sd4 wd4 od4 td4 ⊢
    have s04 := sb4.to s0 fr
    -- standing
    refine ⟨_, rfl, b, _, bx, _, _, rfl, ob4, T.cl_Board, T.a_Board_net, rfl, p, dx, _, rfl, s04 _ _ N0.ob, rfl, _, rfl, _, rfl, _, rfl, p, n, D, st n, m, rfl, N0'.mono s04, ok, hn, hst, _, rfl, b, _, bx, _, _, rfl, ob4, T.cl_Board, T.a_Board_standing, rfl, _, rfl, sd, _, rfl, dput_fd sd4 hn (by omega), ?_⟩
    have esd : FD D.N.names (fun u => if u = n then V.int ((D.N.kn n).plc (st n) m : Nat) else V.int (st u : Nat)) = FD D.N.names (fun u => .int ((if u = n then (D.N.kn n).plc (st n) m else st u : Nat) : Int)) := fd_congr fun u _ => by by_cases e : u = n <;> simp [e]
    have sb5 : SB4 sd wd od td H (upd H4 sd (.dK (FD D.N.names fun u => if u = n then V.int ((D.N.kn n).plc (st n) m : Nat) else V.int (st u : Nat)))) := sb4.wr (.inl rfl)
    have sd5 : upd H4 sd (.dK (FD D.N.names fun u => if u = n then V.int ((D.N.kn n).plc (st n) m : Nat) else V.int (st u : Nat))) sd = some (.dK (FD D.N.names fun u => .int ((if u = n then (D.N.kn n).plc (st n) m else st u : Nat) : Int))) := by rw [upd_same, esd]
    have ob5 : upd H4 sd (.dK (FD D.N.names fun u => if u = n then V.int ((D.N.kn n).plc (st n) m : Nat) else V.int (st u : Nat))) b = _ := (upd_ne nbs).trans ob4
    have wd5 : upd H4 sd (.dK (FD D.N.names fun u => if u = n then V.int ((D.N.kn n).plc (st n) m : Nat) else V.int (st u : Nat))) wd = _ := (upd_ne (Ne.symm ap.sw)).trans wd4
    have od5 : upd H4 sd (.dK (FD D.N.names fun u => if u = n then V.int ((D.N.kn n).plc (st n) m : Nat) else V.int (st u : Nat))) od = _ := (upd_ne (Ne.symm ap.so)).trans od4
    have td5 : upd H4 sd (.dK (FD D.N.names fun u => if u = n then V.int ((D.N.kn n).plc (st n) m : Nat) else V.int (st u : Nat))) td = _ := (upd_ne (Ne.symm ap.st)).trans td4
    generalize upd H4 sd (.dK (FD D.N.names fun u => if u = n then V.int ((D.N.kn n).plc (st n) m : Nat) else V.int (st u : Nat))) = H5 at sb5 sd5 ob5 wd5 od5 td5 ⊢
    -- taken
    refine ⟨_, rfl, b, _, bx, _, _, rfl, ob5, T.cl_Board, T.a_Board_taken, rfl, _, rfl, td, _, rfl, dget_in (.inl td5) hn, _, rfl, _, _, rfl, rfl, _, dput_fd td5 hn (by omega), ?_⟩
    have etd : FD D.N.names (fun u => if u = n then V.int (tk n + m) else V.int (tk u)) = FD D.N.names (fun u => .int (if u = n then tk u + m else tk u)) := fd_congr fun u _ => by by_cases e : u = n <;> simp [e]
    have sb6 : SB4 sd wd od td H (upd H5 td (.dK (FD D.N.names fun u => if u = n then V.int (tk n + m) else V.int (tk u)))) := sb5.wr (.inr (.inr (.inr rfl)))
    refine k _ (put1 wl' n (cv wl' n - m)) sb6 (fun u hu => ?_) ⟨(upd_ne nbt).trans ob5, N0'.mono (sb6.to s0 fr), (upd_ne ap.st).trans sd5, (upd_ne ap.wt).trans wd5, B3.wo.put hn _, (upd_ne ap.ot).trans od5, by rw [upd_same, etd]⟩
    rw [cv_put1]
    by_cases e : u = n
    · subst e; rw [if_pos rfl, if_pos rfl, hw3 u hu, hl]
    · rw [if_neg e, if_neg e, hw3 u hu, hl]; omega
end
end Bc
end
section
set_option Elab.async false
set_option linter.all false
set_option maxRecDepth 100000
set_option maxHeartbeats 2000000
/-! The walk: a board is let run until nothing waits. -/
namespace Bc
open PySem L2
theorem same_make {H H1 H' : Hp} {x dx : Addr} {o1 o2 : HO} (s : Same H H1) (hx : H1 x = none) (hd : H1 dx = none) (sb : SB x (upd (upd H1 dx o1) x o2) H') : Same H H' := fun a u e => by
  have e1 := s a u e
  have n1 : a ≠ x := fun z => by subst z; rw [hx] at e1; cases e1
  have n2 : a ≠ dx := fun z => by subst z; rw [hd] at e1; cases e1
  exact sb a u n1 (by rw [upd_ne n1, upd_ne n2]; exact e1)
theorem same_pre {H H1 : Hp} {x dx : Addr} {o1 o2 : HO} (s : Same H H1) (hx : H1 x = none) (hd : H1 dx = none) : Same H (upd (upd H1 dx o1) x o2) := fun a u e => by
  have e1 := s a u e
  have n1 : a ≠ x := fun z => by subst z; rw [hx] at e1; cases e1
  have n2 : a ≠ dx := fun z => by subst z; rw [hd] at e1; cases e1
  rw [upd_ne n1, upd_ne n2]; exact e1
def outC (D : Nd) (st c : Str → Nat) (o : Str) : Nat := sumN D.N.names fun n => (D.N.kn n).cnt (st n) o (c n)
def SettledAt (CS : Addr) (H : Hp) (q : Addr) (D : Nd) (st c : Str → Nat) : Prop := ∃ qx td od sd ol, H q = some (.ins CS qx [("taken", .ref td), ("out", .ref od), ("standing", .ref sd), ("order", .ref ol)]) ∧
  H od = some (.dK (FD D.outs fun o => .int (outC D st c o : Nat))) ∧ H sd = some (.dK (FD D.N.names fun n => .int ((D.N.kn n).plc (st n) (c n) : Nat)))
def Balls (H : Hp) (bd : Addr) (D : Nd) (bs : List Str) : Prop := H bd = some (.dK (FD bs fun _ => .int 1)) ∧ (∀ b ∈ bs, b ∈ D.ins) ∧ SU bs ∧ bs.length ≤ 12
def sp_begun (CB CN : Addr) : Sp := fun vs H Q _ => ∃ (p bd sd : Addr) (D : Nd) (bs : List Str) (st : Str → Nat), vs = [.ref p, .ref bd, .ref sd] ∧ NetAt CN H p D ∧ D.Ok ∧ Balls H bd D bs ∧ H sd = some (.dK (FD D.N.names fun n => .int (st n))) ∧ (∀ n ∈ D.N.names, st n < (D.N.kn n).len) ∧
  ∀ b bx H' sd' wd' od' td' wl, Same H H' → BoardAt CB CN H' b bx p sd' wd' od' td' D st wl (fun _ => 0) (fun _ => 0) → Apart4 sd' wd' od' td' → Fresh4 sd' wd' od' td' H → (∀ u, cv wl u = (bb D bs u : Nat)) → Q (.ref b) H'
def sp_settle (CS CN : Addr) : Sp := fun vs H Q _ => ∃ (p bd sd : Addr) (D : Nd) (bs : List Str) (st c : Str → Nat), vs = [.ref p, .ref bd, .ref sd] ∧ NetAt CN H p D ∧ D.Ok ∧ D.N.names.length ≤ 3 ∧ endsB D = true ∧ Balls H bd D bs ∧ H sd = some (.dK (FD D.N.names fun n => .int (st n))) ∧ (∀ n ∈ D.N.names, st n < (D.N.kn n).len) ∧
  Least D.N st (bb D bs) c ∧ sumN D.N.names c ≤ 600 ∧ ∀ q H', Same H H' → SettledAt CS H' q D st c → Q (.ref q) H'
theorem sumN_zero {l : List Str} {f : Str → Nat} (h : ∀ x, f x = 0) : sumN l f = 0 := by
  induction l with
  | nil => rfl
  | cons a l ih => rw [sumN_cons, h, ih]
theorem outC_zero (D : Nd) (st : Str → Nat) (o : Str) : outC D st (fun _ => 0) o = 0 := sumN_zero fun x => rfl
theorem outC_bump {D : Nd} (hn : D.N.names.Nodup) (st c : Str → Nat) {v : Str} (hv : v ∈ D.N.names) (k : Nat) (o : Str) : outC D st (bump c v k) o = outC D st c o + (D.N.kn v).cnt ((D.N.kn v).plc (st v) (c v)) o k := by
  unfold outC
  rw [sumN_one hn hv (f := fun n => (D.N.kn n).cnt (st n) o (c n)) (k := (D.N.kn v).cnt ((D.N.kn v).plc (st v) (c v)) o k)]
  · intro a ha; simp only [bump_ne c k ha]
  · simp only [bump_same]; rw [Kn.cnt_add]
theorem sum_bump {D : Nd} (hn : D.N.names.Nodup) (c : Str → Nat) {v : Str} (hv : v ∈ D.N.names) (k : Nat) : sumN D.N.names (bump c v k) = sumN D.N.names c + k :=
  sumN_one hn hv (fun a ha => bump_ne c k ha) (bump_same c v k)
section
variable {P : Program} {w : World} {K : PySem.W.Frag} {mg : Str → Option Value} {base : Heap}
theorem ok_begun (T : Tx K mg) : FnOk P w K mg base CX0 4 T.begun.f T.begun.fd ["net", "balls", "standing"] (sp_begun T.kBoard.C T.kNet.C) := by
  refine T.begun.F.ok sc_begun (fun vs H Q E h => ?_) (fun cdv A outer s H vs Q E hr h => ?_)
  · obtain ⟨p, bd, sd, D, bs, st, rfl, _⟩ := h; rfl
  · obtain ⟨p, bd, sd, D, bs, st, rfl, N', ok, ⟨hbd, hbs, su, hbl⟩, hsd, hst, k⟩ := h
    obtain ⟨dx, kd, id, ot, nl, g, N⟩ := id N'
    refine ⟨_, (pss_cons (ps_expr (pe_call (ok_check_net T) (hr.mono (by decide)) rfl T.check_net.m T.check_net.F.kp T.check_net.b .nil pass0 (pa_cons (pv 0) pa_nil)))
      (pss_cons (ps_set (i := 3) sc_begun.nd rfl (.inl rfl) (pe_call (ok_check_balls T) (hr.mono (by decide)) rfl T.check_balls.m T.check_balls.F.kp T.check_balls.b .nil pass0 (pa_cons (pv 0) (pa_cons (pv 1) pa_nil))))
      (pss_cons (ps_if (pt_cmpR op_notN (pv 2) pe_non (nomark _)) (pss_one (ps_expr (pe_meth (pv 0) T.cl_Net T.Net_check_standing.m (ok_Net_check_standing T) (hr.mono (by decide)) T.Net_check_standing.b .nil pass0 (pa_cons (pv 2) pa_nil)))) pss_nil)
      (pss_one (ps_ret (pe_make T.k_Board (ok_Board_init T) (hr.mono (by decide)) rfl T.m_Board T.Board_init.b .nil pass0 (pa_cons (pv 0) (pa_cons (pe_ifExp (pt_cmpR op_isN (pv 2) pe_non (nomark _)) (pe_meth0 (pv 0) T.cl_Net T.Net_start.m (ok_Net_start T) (hr.mono (by decide)) T.Net_start.b .nil pass0) (pv 2)) (pa_cons (pv 3) pa_nil))))))))), ?_⟩
    refine ⟨_, rfl, p, dx, _, rfl, N.ob, ?_⟩
    refine ⟨_, rfl, _, rfl, p, bd, D, bs, rfl, N', ok, hbd, hbs, su, hbl, fun wd H1 wl hwd0 s1 hwd ho hv => ?_⟩
    refine ⟨_, rfl, rfl, true, rfl, iteT ?_⟩
    refine ⟨_, rfl, p, dx, _, rfl, s1 _ _ N.ob, rfl, _, rfl, p, sd, D, st, rfl, N'.mono s1, ok, s1 _ _ hsd, hst, fun H2 s2 => ?_⟩
    have s02 := s1.trans s2
    refine ⟨_, rfl, _, rfl, rfl, false, rfl, iteF ⟨_, rfl, _, rfl, fun x bx hx hbx nbx => ?_⟩⟩
    have sp := same_pre (o1 := .own x) (o2 := .ins T.kBoard.C bx []) (Same.refl H2) hx hbx
    have npx : p ≠ x := fun e => by subst e; rw [s02 _ _ N.ob] at hx; cases hx
    refine ⟨x, bx, p, sd, wd, D, st, wl, rfl, upd_same, (N'.mono s02).mono sp, ok, npx, sp _ _ (s02 _ _ hsd), sp _ _ (s2 _ _ hwd), ho, fun H3 sd' wd' od' td' sb B ap fr => ⟨rfl, ?_⟩⟩
    have sf := s02.trans sp
    exact k x bx H3 sd' wd' od' td' wl (same_make s02 hx hbx sb) B ap ⟨sf.free fr.s, sf.free fr.w, sf.free fr.o, sf.free fr.t⟩ hv
theorem ok_settle (T : Tx K mg) : FnOk P w K mg base CX0 5 T.settle.f T.settle.fd ["net", "balls", "standing"] (sp_settle T.kSettled.C T.kNet.C) := by
  refine T.settle.F.ok sc_settle (fun vs H Q E h => ?_) (fun cdv A outer s H vs Q E hr h => ?_)
  · obtain ⟨p, bd, sd, D, bs, st, c, rfl, _⟩ := h; rfl
  · obtain ⟨p, bd, sd, D, bs, st, c, rfl, N', ok, h3, hends, hB, hsd, hst, hc, h600, k⟩ := h
    obtain ⟨dx, kd, id, ot, nl, g, N⟩ := id N'
    refine ⟨_, PSs.nox (pss_cons (ps_expr (pe_call (ok_check_net T) (hr.mono (by decide)) rfl T.check_net.m T.check_net.F.kp T.check_net.b .nil pass0 (pa_cons (pv 0) pa_nil)))
      (pss_cons (ps_if (pt_not (pt_val (pe_call (ok_ends T) (hr.mono (by decide)) rfl T.ends.m T.ends.F.kp T.ends.b .nil pass0 (pa_cons (pv 0) pa_nil)))) (pss_one (ps_never)) pss_nil)
      (pss_cons (ps_set (i := 3) sc_settle.nd rfl (.inl rfl) (pe_call (ok_begun T) (hr.mono (by decide)) rfl T.begun.m T.begun.F.kp T.begun.b .nil pass0 (pa_cons (pv 0) (pa_cons (pv 1) (pa_cons (pv 2) pa_nil)))))
      (pss_cons (ps_par (i := 4) (j := 5) rfl sc_settle.nd rfl rfl (by decide) rfl rfl (pa_cons (pe_lst pa_nil) (pa_cons (pe_meth0 (pv 3) T.cl_Board T.Board_first_waiting.m (ok_Board_first_waiting T) (hr.mono (by decide)) T.Board_first_waiting.b .nil pass0) pa_nil)) (by rfl))
      (pss_cons (ps_while PassesOwn.never (pt_cmpR op_notN (pv 5) pe_non (nomark _)) (pss_cons (ps_for PassesOwn.never rfl (pi_list (pe_fld (pv 0) rfl)) (pg_name (i := 6) sc_settle.nd rfl (.inl rfl)) (pss_cons (ps_set (i := 7) sc_settle.nd rfl (.inl rfl) (pe_dget2 (hu_of hr) (pe_fld (pv 3) rfl) (pv 6) pe_int ⟨rfl, rfl, rfl, rfl⟩))
          (pss_one (ps_if (pt_cmpR op_gt (pv 7) pe_int (nomark _)) (pss_cons (ps_expr (pe_bm PySem.F.plainAttrs_list PySem.F.slot_list_append PySem.F.type_list_append mt_append (pv 4) (pa_cons (pe_tup (pa_cons (pv 6) (pa_cons (pv 7) pa_nil))) pa_nil)))
            (pss_one (ps_expr (pe_meth (pv 3) T.cl_Board T.Board_take.m (ok_Board_take T) (hr.mono (by decide)) T.Board_take.b .nil pass0 (pa_cons (pv 6) (pa_cons (pv 7) pa_nil)))))) pss_nil))))
        (pss_one (ps_set (i := 5) sc_settle.nd rfl (.inl rfl) (pe_meth0 (pv 3) T.cl_Board T.Board_first_waiting.m (ok_Board_first_waiting T) (hr.mono (by decide)) T.Board_first_waiting.b .nil pass0)))))
      (pss_one (ps_ret (pe_make T.k_Settled (ok_Settled_init T) (hr.mono (by decide)) rfl T.m_Settled T.Settled_init.b .nil pass0 (pa_cons (pe_fld (pv 3) rfl) (pa_cons (pe_fld (pv 3) rfl) (pa_cons (pe_fld (pv 3) rfl) (pa_cons (pv 4) pa_nil)))))))))))), ?_⟩
    refine ⟨_, rfl, p, dx, _, rfl, N.ob, ?_⟩
    refine ⟨_, rfl, p, D, rfl, N', ok, h3, fun H1 s1 => ⟨true, by rw [hends], iteF ?_⟩⟩
    refine ⟨_, rfl, _, rfl, _, rfl, p, bd, sd, D, bs, st, rfl, N'.mono s1, ok, ⟨s1 _ _ hB.1, hB.2⟩, s1 _ _ hsd, hst, fun b bx H2 sd' wd od td wl s2 B2 ap fr hw2 => ?_⟩
    have s02 := s1.trans s2
    have fr0 : Fresh4 sd' wd od td H := ⟨s1.free fr.s, s1.free fr.w, s1.free fr.o, s1.free fr.t⟩
    refine ⟨Nat.zero_le _, fun ol hol => ?_⟩
    have s23 := same_new (o := .lst []) hol
    have holn : H ol = none := s02.free hol
    have s03 := s02.trans s23
    have ho3 : upd H2 ol (.lst []) ol = some (.lst []) := upd_same
    have B3 : BoardAt T.kBoard.C T.kNet.C (upd H2 ol (.lst [])) b bx p sd' wd od td D st wl (fun _ => 0) (fun _ => 0) := ⟨s23 _ _ B2.ob, B2.net.mono s23, s23 _ _ B2.sd, s23 _ _ B2.wd, B2.wo, s23 _ _ B2.od, s23 _ _ B2.td⟩
    generalize upd H2 ol (.lst []) = H3 at s03 ho3 B3 ⊢
    -- the loop's word
    let J : Hp → (Str → Nat) → List (Str × Int) → List V → Prop := fun H' c' wl' od_ => ∃ tk, BoardAt T.kBoard.C T.kNet.C H' b bx p sd' wd od td D (fun u => (D.N.kn u).plc (st u) (c' u)) wl' (fun o => (outC D st c' o : Nat)) tk ∧ Same H H' ∧ H' ol = some (.lst od_) ∧ od_.length ≤ sumN D.N.names c' ∧
      (∀ u ∈ D.N.names, cv wl' u = (came D.N st (bb D bs) c' u : Nat) - (c' u : Nat)) ∧ (∀ u ∈ D.N.names, c' u ≤ c u) ∧ (∀ u ∈ D.N.names, c' u ≤ came D.N st (bb D bs) c' u)
    have J0 : J H3 (fun _ => 0) wl [] := by
      refine ⟨fun _ => 0, ?_, s03, ho3, Nat.zero_le _, fun u hu => ?_, fun _ _ => Nat.zero_le _, fun _ _ => Nat.zero_le _⟩
      · have e : (fun o => ((outC D st (fun _ => 0) o : Nat) : Int)) = fun _ => 0 := funext fun o => by rw [outC_zero]; rfl
        rw [e]; exact B3
      · have e : came D.N st (bb D bs) (fun _ => 0) u = bb D bs u := by
          have z : sumN D.N.names (fun n => (D.N.kn n).cnt (st n) u 0) = 0 := sumN_zero fun x => rfl
          show bb D bs u + sumN D.N.names (fun n => (D.N.kn n).cnt (st n) u 0) = _
          rw [z]; rfl
        rw [hw2, e]; simp
    have BO : ∀ {H' c' wl' od_}, J H' c' wl' od_ → H' b = some (.ins T.kBoard.C bx [("net", .ref p), ("standing", .ref sd'), ("waiting", .ref wd), ("out", .ref od), ("taken", .ref td)]) := fun {H' c' wl' od_} ⟨tk, B, _⟩ => B.ob
    have hJ0 := J0
    obtain ⟨tk0, B0, _⟩ := hJ0
    refine ⟨_, rfl, b, bx, _, rfl, BO J0, rfl, b, bx, p, sd', wd, od, td, D, _, wl, _, tk0, rfl, B0, fun v hv => ⟨_, _, rfl, ?_⟩⟩
    refine ⟨fun μ σ H' => ∃ c' wl' od_ v x6 x7, σ = [some (.ref p), some (.ref bd), some (.ref sd), some (.ref b), some (.ref ol), some v, x6, x7] ∧ J H' c' wl' od_ ∧ μ = sumN D.N.names c - sumN D.N.names c' ∧ ((v = .non ∧ ∀ n ∈ D.N.names, cv wl' n ≤ 0) ∨ ∃ n ∈ D.N.names, v = .str n ∧ 0 < cv wl' n), ⟨_, fun _ => 0, wl, [], v, none, none, rfl, J0, rfl, hv⟩, ?_⟩
    rintro μ σ H4 ⟨c', wl', od_, v, x6, x7, rfl, J4, rfl, hv4⟩
    have hJ4 := J4
    obtain ⟨tk4, B4, s4, ho4, hol4, hw4, hle4, hca4⟩ := J4
    refine ⟨_, rfl, rfl, _, rfl, ?_⟩
    rcases hv4 with ⟨rfl, hall⟩ | ⟨n0, hn0, rfl, hp0⟩
    · -- nothing waits
      rw [if_neg (by simp)]
      have hstab : Stab D.N st (bb D bs) c' := fun u hu => by
        have h1 := hw4 u hu
        have h2 := hall u hu
        have h3 := hca4 u hu
        omega
      have hcc := hc.of_le hstab hle4
      refine ⟨_, rfl, b, _, bx, _, _, rfl, B4.ob, T.cl_Board, T.a_Board_taken, rfl, _, rfl, b, _, bx, _, _, rfl, B4.ob, T.cl_Board, T.a_Board_out, rfl, _, rfl, b, _, bx, _, _, rfl, B4.ob, T.cl_Board, T.a_Board_standing, rfl, _, rfl, fun x qx hx hqx nqx => ?_⟩
      have sp := same_pre (o1 := .own x) (o2 := .ins T.kSettled.C qx []) (Same.refl H4) hx hqx
      refine ⟨x, qx, td, od, sd', ol, _, _, _, _, rfl, upd_same, sp _ _ B4.td, sp _ _ B4.od, sp _ _ B4.sd, sp _ _ ho4, fun H5 td' od' sd2 ol' sb h1 h2 h3 => ⟨rfl, ?_⟩⟩
      refine k x H5 (same_make s4 hx hqx sb) ⟨qx, td', od', sd2, ol', h1, ?_, ?_⟩
      · rw [h2]
        have : FD D.outs (fun o => V.int (outC D st c' o : Nat)) = FD D.outs (fun o => V.int (outC D st c o : Nat)) := fd_congr fun o _ => by
          have : outC D st c' o = outC D st c o := sumN_congr fun n hn => by rw [hcc n hn]
          rw [this]
        rw [← this]
      · rw [h3]
        have : FD D.N.names (fun n => V.int ((D.N.kn n).plc (st n) (c' n) : Nat)) = FD D.N.names (fun n => V.int ((D.N.kn n).plc (st n) (c n) : Nat)) := fd_congr fun n hn => by rw [hcc n hn]
        rw [← this]
    · rw [if_pos (by simp)]
      refine ⟨_, fun σ' H' h => h, ?_⟩
      refine ⟨_, rfl, p, _, dx, _, _, rfl, s4 _ _ N.ob, T.cl_Net, T.a_Net_names, netF_names .., nl, rfl, ⟨_, SqL.of (s4 _ _ N.nl)⟩, ?_⟩
      refine for_list (xs := D.N.names.map V.str) (fun i σ H' => ∃ c2 wl2 od2 x6 x7, σ = [some (.ref p), some (.ref bd), some (.ref sd), some (.ref b), some (.ref ol), some (.str n0), x6, x7] ∧ J H' c2 wl2 od2 ∧ (sumN D.N.names c' < sumN D.N.names c2 ∨ (sumN D.N.names c' = sumN D.N.names c2 ∧ (∀ u ∈ D.N.names, cv wl2 u = cv wl' u) ∧ ∀ u ∈ D.N.names.take i, cv wl' u ≤ 0)))
        ⟨c', wl', od_, x6, x7, rfl, hJ4, .inr ⟨rfl, fun _ _ => rfl, fun u h => by simp at h⟩⟩ (by rintro i σ H' _ ⟨c2, wl2, od2, x6, x7, rfl, ⟨_, _, sm, _⟩, _⟩; exact SqL.of (sm _ _ N.nl)) ?_ ?_
      · rintro i v σ H5 hi ⟨c2, wl2, od2, x6, x7, rfl, J5, hprog⟩
        have hJ5 := J5
        obtain ⟨tk5, B5, s5, ho5, hol5, hw5, hle5, hca5⟩ := J5
        rw [List.getElem?_map] at hi
        cases et : D.N.names[i]? with
        | none => rw [et] at hi; cases hi
        | some n =>
          rw [et] at hi; cases hi
          have hn := List.mem_of_getElem? et
          refine ⟨_, rfl, b, _, bx, _, _, rfl, B5.ob, T.cl_Board, T.a_Board_waiting, rfl, wd, rfl, .inl ⟨_, .inl B5.wd⟩, _, rfl, _, dget_cd B5.wd, ?_⟩
          rw [cd_getD]
          have hwn := hw5 n hn
          have hcan := hca5 n hn
          obtain ⟨m, hm⟩ : ∃ m : Nat, cv wl2 n = (m : Int) := ⟨came D.N st (bb D bs) c2 n - c2 n, by omega⟩
          have hmc : c2 n + m = came D.N st (bb D bs) c2 n := by omega
          rw [hm]
          refine ⟨_, rfl, _, _, rfl, rfl, _, rfl, ?_⟩
          refine ite2 (fun hpos => ?_) (fun hpos => ?_)
          · have hpos : (0 : Int) < (m : Int) := of_decide_eq_true hpos
            have hle6 := take_le hc.st hle5 hn (Nat.le_of_eq hmc)
            have hsum := sum_bump ok.nd c2 hn m
            have hsc : sumN D.N.names (bump c2 n m) ≤ sumN D.N.names c := sumN_le hle6
            refine ⟨_, rfl, .inl ⟨rfl, _, SqL.of ho5⟩, _, rfl, _, rfl, sz (by show 2 ≤ 100000; omega), fun q hq => ?_⟩
            have s56 := same_new (o := .tup [.str n, .int m]) hq
            refine ⟨ol, od2, _, rfl, rfl, s56 _ _ ho5, szl (by omega), ?_⟩
            have s6 : Same H (upd (upd H5 q (.tup [.str n, .int m])) ol (.lst (od2 ++ [.ref q]))) := same_mut (s5.trans s56) holn
            have nlist : ∀ {x : Addr} {kvs : List (Key × V)}, H5 x = some (.dK kvs) → x ≠ ol := fun h => ne_of h ho5 (by intro z; cases z)
            have nb : b ≠ ol := ne_of B5.ob ho5 (by intro z; cases z)
            have B6 : BoardAt T.kBoard.C T.kNet.C (upd (upd H5 q (.tup [.str n, .int m])) ol (.lst (od2 ++ [.ref q]))) b bx p sd' wd od td D (fun u => (D.N.kn u).plc (st u) (c2 u)) wl2 (fun o => (outC D st c2 o : Nat)) tk5 :=
              ⟨(upd_ne nb).trans (s56 _ _ B5.ob), N'.mono s6, (upd_ne (nlist B5.sd)).trans (s56 _ _ B5.sd), (upd_ne (nlist B5.wd)).trans (s56 _ _ B5.wd), B5.wo, (upd_ne (nlist B5.od)).trans (s56 _ _ B5.od), (upd_ne (nlist B5.td)).trans (s56 _ _ B5.td)⟩
            have ho6 : upd (upd H5 q (.tup [.str n, .int m])) ol (.lst (od2 ++ [.ref q])) ol = some (.lst (od2 ++ [.ref q])) := upd_same
            generalize upd (upd H5 q (.tup [.str n, .int m])) ol (.lst (od2 ++ [.ref q])) = H6 at s6 B6 ho6 ⊢
            have nlo : ol ≠ sd' := fun e => by have h1 := B6.sd; rw [← e, ho6] at h1; cases h1
            have nlw : ol ≠ wd := fun e => by have h1 := B6.wd; rw [← e, ho6] at h1; cases h1
            have nld : ol ≠ od := fun e => by have h1 := B6.od; rw [← e, ho6] at h1; cases h1
            have nlt : ol ≠ td := fun e => by have h1 := B6.td; rw [← e, ho6] at h1; cases h1
            refine ⟨_, rfl, b, bx, _, rfl, B6.ob, rfl, _, rfl, _, rfl, b, bx, p, sd', wd, od, td, D, _, wl2, _, tk5, n, m, rfl, B6, ok, ap, ⟨H, N', s6, fr0⟩, hn, (D.N.kn n).plc_lt (ok.tn n hn) (hst n hn) _, fun H7 wl7 sb7 hw7 B7 => ?_⟩
            refine ⟨bump c2 n m, wl7, od2 ++ [.ref q], _, _, rfl, ⟨fun u => if u = n then tk5 u + m else tk5 u, ?_, sb7.to s6 fr0, sb7 _ _ nlo nlw nld nlt ho6, ?_, fun u hu => ?_, hle6, fun u hu => ?_⟩, .inl ?_⟩
            · have e1 : (fun u => if u = n then (D.N.kn n).plc ((D.N.kn n).plc (st n) (c2 n)) m else (D.N.kn u).plc (st u) (c2 u)) = fun u => (D.N.kn u).plc (st u) (bump c2 n m u) := funext fun u => by
                by_cases e : u = n
                · subst e; rw [if_pos rfl, bump_same, Kn.plc_add]
                · rw [if_neg e, bump_ne c2 m e]
              have e2 : (fun o => ((outC D st c2 o : Nat) : Int) + ((D.N.kn n).cnt ((D.N.kn n).plc (st n) (c2 n)) o m : Nat)) = fun o => ((outC D st (bump c2 n m) o : Nat) : Int) := funext fun o => by
                rw [outC_bump ok.nd st c2 hn m o]; omega
              rw [← e1, ← e2]; exact B7
            · rw [List.length_append, List.length_singleton, hsum]; omega
            · rw [hw7 u hu, hw5 u hu, came_bumpk ok.nd hn m u]
              by_cases e : u = n
              · subst e; rw [if_pos rfl, bump_same]; omega
              · rw [if_neg e, bump_ne c2 m e]; omega
            · have h1 := hca5 u hu
              rw [came_bumpk ok.nd hn m u]
              by_cases e : u = n
              · subst e; rw [bump_same]; omega
              · rw [bump_ne c2 m e]; omega
            · rw [hsum]; rcases hprog with h | h <;> omega
          · have hpos : ¬ (0 : Int) < (m : Int) := fun z => hpos (decide_eq_true z)
            refine ⟨c2, wl2, od2, _, _, rfl, hJ5, ?_⟩
            rcases hprog with h | ⟨h1, h2, h3⟩
            · exact .inl h
            · refine .inr ⟨h1, h2, fun u hu => ?_⟩
              rw [List.take_succ, et] at hu
              rcases List.mem_append.mp hu with h | h
              · exact h3 u h
              · simp at h; subst h
                rw [← h2 u hn]; omega
      · rintro σ H5 ⟨c2, wl2, od2, x6, x7, rfl, J5, hprog⟩
        rw [List.length_map, List.take_length] at hprog
        have hlt : sumN D.N.names c' < sumN D.N.names c2 := by
          rcases hprog with h | ⟨_, _, h⟩
          · exact h
          · have := h n0 hn0; omega
        have hle5 : sumN D.N.names c2 ≤ sumN D.N.names c := by obtain ⟨_, _, _, _, _, _, h, _⟩ := J5; exact sumN_le h
        have hJ5 := J5
        obtain ⟨tk5, B5, _⟩ := hJ5
        refine ⟨_, rfl, b, bx, _, rfl, BO J5, rfl, b, bx, p, sd', wd, od, td, D, _, wl2, _, tk5, rfl, B5, fun v hv => ?_⟩
        exact ⟨_, by omega, c2, wl2, od2, v, _, _, rfl, J5, rfl, hv⟩
end
end Bc
end
section
set_option Elab.async false
set_option linter.all false
set_option maxRecDepth 100000
set_option maxHeartbeats 2000000
/-! Standings and rows as data; an instance of Ways is made. -/
namespace L2
open PySem
theorem PI.orI {X : Cx} {tg e : Expr} {wi wj : TI} (h : PI X tg e wi) (h' : PI X tg e wj) : PI X tg e (fun σ H R => wi σ H R ∨ wj σ H R) :=
  ⟨fun pins s σ H R I q => q.elim (h.run pins s σ H R I) (h'.run pins s σ H R I)⟩
end L2
namespace Bc
open PySem L2
/-! ### standings as lists of places -/
def stf (ns : List Str) (s : List Nat) (n : Str) : Nat := s.getD (ns.idxOf n) 0
theorem stf_map {ns : List Str} (f : Str → Nat) {n : Str} (h : n ∈ ns) : stf ns (ns.map f) n = f n := by
  unfold stf
  have hl := List.idxOf_lt_length_iff.mpr h
  rw [List.getD, List.getElem?_map, List.getElem?_eq_getElem hl]
  simp [List.getElem_idxOf hl]
theorem map_stf {ns : List Str} (hn : ns.Nodup) {s : List Nat} (hl : s.length = ns.length) : ns.map (stf ns s) = s := by
  apply List.ext_getElem
  · simp [hl]
  · intro i h1 h2
    have h3 : i < ns.length := by simpa using h1
    have e : ns.idxOf ns[i] = i := idx_at hn (List.getElem?_eq_getElem h3)
    simp only [List.getElem_map, stf]
    rw [e, List.getD, List.getElem?_eq_getElem h2]; rfl
def kOf (s : List Nat) : List Key := s.map fun (x : Nat) => (Sum.inl (x : Int) : Key)
theorem kOf_inj {s t : List Nat} (h : kOf s = kOf t) : s = t := (List.map_inj_right (fun (a b : Nat) (e : (Sum.inl (a : Int) : Key) = Sum.inl (b : Int)) => by have := Sum.inl.inj e; omega)).mp h
theorem kOf_kV (s : List Nat) : (kOf s).map kV = s.map fun x => V.int (x : Nat) := by unfold kOf; rw [List.map_map]; rfl
def foundT (o : List (List Nat)) : List (List Key × V) := o.map fun s => (kOf s, V.int (idx o s : Nat))
theorem val_map {α κ : Type} [DecidableEq κ] [DecidableEq α] (f : α → κ) (g : α → V) (inj : ∀ a b, f a = f b → a = b) (a : α) : ∀ l : List α, valV (l.map fun s => (f s, g s)) (f a) = if a ∈ l then some (g a) else none
  | [] => rfl
  | b :: l => by
    by_cases h : b = a
    · subst h; rw [if_pos List.mem_cons_self]; exact valV_pos rfl
    · have e : valV ((b :: l).map fun s => (f s, g s)) (f a) = valV (l.map fun s => (f s, g s)) (f a) := valV_neg (fun e => h (inj _ _ e))
      rw [e, val_map f g inj a l]
      have q : (a ∈ b :: l) ↔ a ∈ l := by rw [List.mem_cons]; exact ⟨fun q => q.resolve_left (Ne.symm h), .inr⟩
      by_cases z : a ∈ l
      · rw [if_pos z, if_pos (q.mpr z)]
      · rw [if_neg z, if_neg (fun y => z (q.mp y))]
theorem found_in {o : List (List Nat)} {s : List Nat} (h : s ∈ o) : valV (foundT o) (kOf s) = some (.int (idx o s : Nat)) := by unfold foundT; rw [val_map kOf _ (fun _ _ => kOf_inj), if_pos h]
theorem found_out {o : List (List Nat)} {s : List Nat} (h : s ∉ o) : valV (foundT o) (kOf s) = none := by unfold foundT; rw [val_map kOf _ (fun _ _ => kOf_inj), if_neg h]
theorem found_put {o : List (List Nat)} {s : List Nat} (h : s ∉ o) : putK (foundT o) (kOf s) (.int (o.length : Nat)) = foundT (o ++ [s]) := by
  rw [putK_new _ (found_out h)]
  unfold foundT
  rw [List.map_append]
  congr 1
  · exact List.map_congr_left fun t ht => by rw [idx_app ht]
  · rw [List.map_singleton, idx_new h]
/-- what lets a standing's ball settle -/
noncomputable def leastC (D : Nd) (st : Str → Nat) (bs : List Str) : Str → Nat := open Classical in if h : ∃ d, Least D.N st (bb D bs) d ∧ sumN D.N.names d ≤ 600 then Classical.choose h else fun _ => 0
theorem leastC_ok {D : Nd} {st : Str → Nat} {bs : List Str} (h : ∃ d, Least D.N st (bb D bs) d ∧ sumN D.N.names d ≤ 600) : Least D.N st (bb D bs) (leastC D st bs) ∧ sumN D.N.names (leastC D st bs) ≤ 600 := by
  unfold leastC; rw [dif_pos h]; exact Classical.choose_spec h
noncomputable def nx (D : Nd) (s : List Nat) (i : Str) : List Nat × List Nat :=
  (D.N.names.map fun n => (D.N.kn n).plc (stf D.N.names s n) (leastC D (stf D.N.names s) [i] n), D.outs.map fun o => outC D (stf D.N.names s) (leastC D (stf D.N.names s) [i]) o)
structure OkS (D : Nd) (s : List Nat) : Prop where
  len : s.length = D.N.names.length
  lt : ∀ n ∈ D.N.names, stf D.N.names s n < (D.N.kn n).len
def EndsAll (D : Nd) : Prop := ∀ st : Str → Nat, (∀ n ∈ D.N.names, st n < (D.N.kn n).len) → ∀ i ∈ D.ins, ∃ d, Least D.N st (bb D [i]) d ∧ sumN D.N.names d ≤ 600
theorem nx_ok {D : Nd} (ok : D.Ok) {s : List Nat} (hs : OkS D s) (i : Str) : OkS D (nx D s i).1 ∧ (nx D s i).2.length = D.outs.length := by
  refine ⟨⟨by simp [nx], fun n hn => ?_⟩, by simp [nx]⟩
  show stf D.N.names (D.N.names.map _) n < _
  rw [stf_map _ hn]
  exact (D.N.kn n).plc_lt (ok.tn n hn) (hs.lt n hn) _
/-! ### dicts that stand for data -/
def DD {β : Type} (C : Hp → List (Key × V) → β → Prop) (H : Hp) (v : V) (b : β) : Prop := ∃ a kvs, v = .ref a ∧ H a = some (.dK kvs) ∧ C H kvs b
def CSt (ns : List Str) (H : Hp) (kvs : List (Key × V)) (s : List Nat) : Prop := kvs = FD ns (fun n => .int (stf ns s n : Nat)) ∧ s.length = ns.length
def StepAt (H : Hp) (v : V) (e : Nat × List Nat) : Prop := ∃ a b, v = .ref a ∧ H a = some (.tup [.int (e.1 : Nat), .ref b]) ∧ H b = some (.tup (e.2.map fun x => V.int (x : Nat)))
def stepOf (ins : List Str) (r : List (Nat × List Nat)) (n : Str) : Nat × List Nat := r.getD (ins.idxOf n) (0, [])
def CRo (ins : List Str) (H : Hp) (kvs : List (Key × V)) (r : List (Nat × List Nat)) : Prop := ∃ f, kvs = FD ins f ∧ r.length = ins.length ∧ ∀ n ∈ ins, StepAt H (f n) (stepOf ins r n)
theorem StepAt.mono {H H' : Hp} {v : V} {e : Nat × List Nat} (s : TS H H') (h : StepAt H v e) : StepAt H' v e := by
  obtain ⟨a, b, e, h1, h2⟩ := h; exact ⟨a, b, e, s _ _ h1, s _ _ h2⟩
theorem CRo.mono {ins : List Str} {H H' : Hp} {k : List (Key × V)} {r : List (Nat × List Nat)} (s : TS H H') (h : CRo ins H k r) : CRo ins H' k r := by
  obtain ⟨f, e, l, h⟩ := h; exact ⟨f, e, l, fun n hn => (h n hn).mono s⟩
theorem CSt.mono {ns : List Str} {H H' : Hp} {k : List (Key × V)} {r : List Nat} (s : TS H H') (h : CSt ns H k r) : CSt ns H' k r := h
theorem mCSt (ns : List Str) : ∀ H H' k b, TS H H' → CSt ns H k b → CSt ns H' k b := fun _ _ _ _ s h => h
theorem mCRo (ins : List Str) : ∀ H H' k b, TS H H' → CRo ins H k b → CRo ins H' k b := fun _ _ _ _ s h => h.mono s
abbrev StandD (H : Hp) (ns : List Str) : V → List Nat → Prop := DD (CSt ns) H
abbrev RowD (H : Hp) (ins : List Str) : V → List (Nat × List Nat) → Prop := DD (CRo ins) H
section
variable {β : Type} {C : Hp → List (Key × V) → β → Prop} (mo : ∀ H H' k b, TS H H' → C H k b → C H' k b)
include mo
theorem DD.mono {H H' : Hp} {v : V} {b : β} (s : Same H H') (h : DD C H v b) : DD C H' v b := by
  obtain ⟨a, k, e, h1, h2⟩ := h; exact ⟨a, k, e, s _ _ h1, mo _ _ _ _ (ts_of s) h2⟩
/-- another object is written -/
theorem DD.wr {H : Hp} {v : V} {b : β} {x : Addr} {u o : HO} (hx : H x = some u) (hu : ∀ k, u = .dK k → ¬ C H k b) (ht : ∀ xs, u ≠ .tup xs) (h : DD C H v b) : DD C (upd H x o) v b := by
  obtain ⟨a, k, e, h1, h2⟩ := h
  have n : a ≠ x := fun z => by subst z; rw [hx] at h1; exact hu k (Option.some.inj h1) h2
  exact ⟨a, k, e, (upd_ne n).trans h1, mo _ _ _ _ (ts_upd hx ht) h2⟩
/-- [dict(x) for x in xs] -/
theorem lc_copies {J : It} {n : Nat} {xs : List V} {G : Hp → Prop} (w : Walk J n G (YAt xs)) {bs : List β} {H1 : Hp} (hp : Paired (DD C H1) xs bs) (hl : n ≤ 50000) (hxn : xs.length = n) {j : Nat} {te : TE} {vs : List Nat} {σ : L2.St} {D : Addr} {Qd : Hp → Prop} (hD : H1 D = none)
    (hj : ∀ x, wipe ((wipe σ vs).set j (some x)) vs = wipe σ vs) (hG : ∀ H, Same H1 H → G H)
    (ht : ∀ x H a kvs (Q : VK), x = .ref a → H a = some (.dK kvs) → (∀ p, H p = none → Q (.ref p) (upd H p (.dK kvs))) → te ((wipe σ vs).set j (some x)) H Q)
    (hd : ∀ H us, Same H1 H → H D = some (.lst us) → Paired (DD C H) us bs → Qd H) :
    ∃ W : Nat → Nat → Hp → Prop, (∃ m, W 0 m (upd H1 D (.lst []))) ∧ ∀ i m H, W i m H →
      (J.stop i H ∧ Qd H) ∨ (J.go i H ∧ ∃ Nx : Hp → Prop, (∀ H', Nx H' → ∃ m', m' < m ∧ W (i + 1) m' H') ∧ ∀ x H', J.yld i H x H' → gName j x (wipe σ vs) H' fun σ2 H2 => wipe σ2 vs = wipe σ vs ∧ tYes σ2 H2 fun b H3 =>
        if b = true then te σ2 H3 fun y H4 => ∃ acc, H4 D = some (.lst acc) ∧ acc.length < sizeLine ∧ Nx (upd H4 D (.lst (acc ++ [y]))) else Nx H3) := by
  have hbl : bs.length = n := (Paired.length hp).symm.trans hxn
  refine lc_it w (fun i H => ∃ us, Same H1 H ∧ H D = some (.lst us) ∧ us.length = i ∧ Paired (DD C H) us (bs.take i)) ⟨[], same_new hD, upd_same, rfl, .nil⟩ (fun i H _ ⟨us, p, _⟩ => hG H p) ?_ (fun H ⟨us, sm, h1, h2, h3⟩ => hd H us sm h1 (by rw [← hbl, List.take_length] at h3; exact h3))
  rintro i x H H' hi ⟨us, sm, hDi, hul, hpu⟩ ⟨rfl, hx⟩
  refine ⟨hj _, ?_⟩
  dsimp only [tYes]
  rw [if_pos rfl]
  have hbi : bs[i]? = some bs[i] := List.getElem?_eq_getElem (by omega)
  obtain ⟨a, kvs, e, h1, h2⟩ := paired_at hp hx hbi
  refine ht x H' a kvs _ e (sm _ _ h1) fun p hp0 => ?_
  have npD : p ≠ D := fun z => by subst z; rw [hp0] at hDi; cases hDi
  refine ⟨us, same_new hp0 _ _ hDi, szl (by omega), us ++ [.ref p], same_mut (same_up sm hp0) hD, upd_same, by simp [hul], ?_⟩
  rw [List.take_succ, hbi]
  have t1 : TS H1 (upd (upd H' p (.dK kvs)) D (.lst (us ++ [.ref p]))) := ts_of (same_mut (same_up sm hp0) hD)
  have hD2 : (upd H' p (.dK kvs)) D = some (.lst us) := same_new hp0 _ _ hDi
  refine paired_app ⟨p, kvs, rfl, (upd_ne npD).trans upd_same, mo _ _ _ _ t1 h2⟩ (Paired.mapP hpu fun v b h => ?_)
  exact DD.wr mo hD2 (fun k z => nomatch z) (fun xs z => nomatch z) (DD.mono mo (same_new hp0) h)
end
def LT (H : Hp) (a : Addr) (xs : List V) : Prop := H a = some (.lst xs) ∨ H a = some (.tup xs)
def WaysAt (CW : Addr) (H : Hp) (q : Addr) (ns ins : List Str) (o : List (List Nat)) (rows : List (List (Nat × List Nat))) : Prop := ∃ qx sl tl vs us, H q = some (.ins CW qx [("standings", .ref sl), ("steps", .ref tl)]) ∧
  H sl = some (.lst vs) ∧ Paired (StandD H ns) vs o ∧ H tl = some (.lst us) ∧ Paired (RowD H ins) us rows
def sp_Ways_init (CW : Addr) : Sp := fun vs H Q _ => ∃ (q qx sv tv : Addr) (xs ys : List V) (ns ins : List Str) (o : List (List Nat)) (rows : List (List (Nat × List Nat))), vs = [.ref q, .ref sv, .ref tv] ∧ H q = some (.ins CW qx []) ∧ LT H sv xs ∧ LT H tv ys ∧
  Paired (StandD H ns) xs o ∧ Paired (RowD H ins) ys rows ∧ o.length ≤ 1000 ∧ rows.length ≤ 1000 ∧ ∀ H', SB q H H' → WaysAt CW H' q ns ins o rows → Q .non H'
section
variable {P : Program} {w : World} {K : PySem.W.Frag} {mg : Str → Option Value} {base : Heap}
theorem ok_Ways_init (T : Tx K mg) : FnOk P w K mg base CX0 1 T.Ways_init.f T.Ways_init.fd ["self", "standings", "steps"] (sp_Ways_init T.kWays.C) := by
  refine T.Ways_init.F.ok sc_Ways_init (fun vs H Q E h => ?_) (fun cdv A outer s H vs Q E hr h => ?_)
  · obtain ⟨q, qx, sv, tv, xs, ys, ns, ins, o, rows, rfl, _⟩ := h; rfl
  · obtain ⟨q, qx, sv, tv, xs, ys, ns, ins, o, rows, rfl, hq, hsv, htv, hpo, hpr, hol, hrl, k⟩ := h
    have hxl : xs.length = o.length := Paired.length hpo
    have hyl : ys.length = rows.length := Paired.length hpr
    have ntq : tv ≠ q := by rcases htv with h | h <;> exact ne_of h hq (by intro z; cases z)
    refine ⟨_, (pss_cons (ps_fld (pv 0) (pe_lc (own := [("standing", 3)]) rfl sc_Ways_init.nd (PI.orI (pi_list (pv 1)) (pi_tup (pv 1))) (blkOk_by (N := N_Ways_init) (sc := defScope s_Ways_init) (by decide +kernel)) (fun _ _ _ _ _ => pg_name (i := 3) sc_Ways_init.nd rfl (.inl rfl)) (fun _ _ _ _ _ => pts_nil) (fun _ _ _ _ _ => pe_callTy (T := "dict") call_dictD rfl T.b_dict (by decide +kernel) (pa_cons (pv 3) pa_nil))) rfl)
      (pss_one (ps_fld (pv 0) (pe_lc (own := [("row", 4)]) rfl sc_Ways_init.nd (PI.orI (pi_list (pv 2)) (pi_tup (pv 2))) (blkOk_by (N := N_Ways_init) (sc := defScope s_Ways_init) (by decide +kernel)) (fun _ _ _ _ _ => pg_name (i := 4) sc_Ways_init.nd rfl (.inl rfl)) (fun _ _ _ _ _ => pts_nil) (fun _ _ _ _ _ => pe_callTy (T := "dict") call_dictD rfl T.b_dict (by decide +kernel) (pa_cons (pv 4) pa_nil))) rfl))), ?_⟩
    have cont : ∀ H1 vs, Same H H1 → ∀ sl, H1 sl = some (.lst vs) → Paired (StandD H1 ns) vs o → True := fun _ _ _ _ _ _ => trivial
    have step2 : ∀ H2 sl vs, SB q H H2 → H2 q = some (.ins T.kWays.C qx [("standings", .ref sl)]) → H2 sl = some (.lst vs) → Paired (StandD H2 ns) vs o → sFld K (tVar 0) (tLc (fun σ H R => iList K (tVar 2) σ H R ∨ iTup K (tVar 2) σ H R) (gName 4) tYes (tCB (fun xs H Q => ∃ a kvs, xs = [V.ref a] ∧ Rd H a (.dK kvs) ∧ ∀ p, H p = none → Q (.ref p) (upd H p (.dK kvs))) (tCons (tVar 4) tNil)) [4]) "steps" { nx := fun _ H' => Q .non H', rt := Q } [some (.ref q), some (.ref sv), some (.ref tv), none, none] H2 := by
      intro H2 sl vs sb2 q2 hsl hps
      have htv2 : LT H2 tv ys := htv.imp (sb2 _ _ ntq) (sb2 _ _ ntq)
      have ts2 := sb2.ts hq (fun xs z => nomatch z)
      have hpr2 : Paired (RowD H2 ins) ys rows := Paired.mapP hpr fun v r ⟨a, k, e, h1, h2⟩ => ⟨a, k, e, sb2 _ _ (ne_of h1 hq (by intro z; cases z)) h1, h2.mono ts2⟩
      have fin : ∀ tl, H2 tl = none → ∀ H3 us, Same H2 H3 → H3 tl = some (.lst us) → Paired (RowD H3 ins) us rows → ∃ a C dx fs, V.ref q = .ref a ∧ H3 a = some (.ins C dx fs) ∧ Cls K C ∧ NoAttr K C "steps" ∧ fs.length < 1000 ∧ Q .non (upd H3 a (.ins C dx (putF "steps" (.ref tl) fs))) := by
        intro tl htl H3 us s3 h3 hp3
        refine ⟨q, _, qx, _, rfl, s3 _ _ q2, T.cl_Ways, T.a_Ways_steps, by simp, ?_⟩
        have q3 := s3 _ _ q2
        have nsl : sl ≠ q := ne_of (s3 _ _ hsl) q3 (by intro z; cases z)
        have ntl : tl ≠ q := ne_of h3 q3 (by intro z; cases z)
        refine k _ (sb2.same s3).wr ⟨qx, sl, tl, vs, us, upd_same, (upd_ne nsl).trans (s3 _ _ hsl), Paired.mapP hps fun v b h => ?_, (upd_ne ntl).trans h3, Paired.mapP hp3 fun v b h => ?_⟩
        · exact DD.wr (mCSt ns) q3 (fun k z => nomatch z) (fun xs z => nomatch z) (DD.mono (mCSt ns) s3 h)
        · exact DD.wr (mCRo ins) q3 (fun k z => nomatch z) (fun xs z => nomatch z) h
      rcases htv2 with h | h
      · refine .inl ⟨_, rfl, tv, rfl, ⟨_, SqL.of h⟩, fun tl htl => ?_⟩
        exact lc_copies (mCRo ins) walk_list hpr2 (by omega) rfl htl (fun x => rfl) (fun H' s' => SqL.of (s' _ _ h)) (fun x H' a kvs Q' e h1 q' => ⟨_, rfl, a, kvs, by rw [e], .inl h1, q'⟩) (fun H3 us s3 h3 hp3 => ⟨_, rfl, fin tl htl H3 us s3 h3 hp3⟩)
      · refine .inr ⟨_, rfl, tv, rfl, ⟨_, SqT.of h⟩, fun tl htl => ?_⟩
        exact lc_copies (mCRo ins) walk_tup hpr2 (by omega) rfl htl (fun x => rfl) (fun H' s' => SqT.of (s' _ _ h)) (fun x H' a kvs Q' e h1 q' => ⟨_, rfl, a, kvs, by rw [e], .inl h1, q'⟩) (fun H3 us s3 h3 hp3 => ⟨_, rfl, fin tl htl H3 us s3 h3 hp3⟩)
    have fin1 : ∀ sl, H sl = none → ∀ H1 us, Same H H1 → H1 sl = some (.lst us) → Paired (StandD H1 ns) us o → SB q H (upd H1 q (.ins T.kWays.C qx (putF "standings" (.ref sl) []))) ∧ (upd H1 q (.ins T.kWays.C qx (putF "standings" (.ref sl) []))) sl = some (.lst us) ∧ Paired (StandD (upd H1 q (.ins T.kWays.C qx (putF "standings" (.ref sl) []))) ns) us o := by
      intro sl hsl H1 us s1 h1 hp1
      have q1 := s1 _ _ hq
      have nsl : sl ≠ q := ne_of h1 q1 (by intro z; cases z)
      exact ⟨SB.wr fun b o _ e => s1 b o e, (upd_ne nsl).trans h1, Paired.mapP hp1 fun v b h => DD.wr (mCSt ns) q1 (fun k z => nomatch z) (fun xs z => nomatch z) h⟩
    rcases hsv with h | h
    · refine .inl ⟨_, rfl, sv, rfl, ⟨_, SqL.of h⟩, fun sl hsl => ?_⟩
      exact lc_copies (mCSt ns) walk_list hpo (by omega) rfl hsl (fun x => rfl) (fun H' s' => SqL.of (s' _ _ h)) (fun x H' a kvs Q' e h1 q' => ⟨_, rfl, a, kvs, by rw [e], .inl h1, q'⟩) (fun H1 us s1 h1 hp1 => ⟨_, rfl, q, _, qx, _, rfl, s1 _ _ hq, T.cl_Ways, T.a_Ways_standings, by decide, (fun f => step2 _ sl us f.1 upd_same f.2.1 f.2.2) (fin1 sl hsl H1 us s1 h1 hp1)⟩)
    · refine .inr ⟨_, rfl, sv, rfl, ⟨_, SqT.of h⟩, fun sl hsl => ?_⟩
      exact lc_copies (mCSt ns) walk_tup hpo (by omega) rfl hsl (fun x => rfl) (fun H' s' => SqT.of (s' _ _ h)) (fun x H' a kvs Q' e h1 q' => ⟨_, rfl, a, kvs, by rw [e], .inl h1, q'⟩) (fun H1 us s1 h1 hp1 => ⟨_, rfl, q, _, qx, _, rfl, s1 _ _ hq, T.cl_Ways, T.a_Ways_standings, by decide, (fun f => step2 _ sl us f.1 upd_same f.2.1 f.2.2) (fin1 sl hsl H1 us s1 h1 hp1)⟩)
end
end Bc
end
section
set_option Elab.async false
set_option linter.all false
set_option maxRecDepth 100000
set_option maxHeartbeats 4000000
set_option pp.maxSteps 300
/-! The walk: ways. -/
namespace Bc
open PySem L2
theorem visit_app {S R ι : Type} [DecidableEq S] (nxt : S → ι → S × R) (s : S) : ∀ (as bs : List ι) (o : List S) (row : List (Nat × R)), visit nxt s (as ++ bs) o row = visit nxt s bs (visit nxt s as o row).1 (visit nxt s as o row).2
  | [], bs, o, row => rfl
  | a :: as, bs, o, row => by
    show visit nxt s (as ++ bs) _ _ = visit nxt s bs (visit nxt s as _ _).1 (visit nxt s as _ _).2
    rw [visit_app nxt s as bs]
theorem visit_rlen {S R ι : Type} [DecidableEq S] (nxt : S → ι → S × R) (s : S) : ∀ (as : List ι) (o : List S) (row : List (Nat × R)), (visit nxt s as o row).2.length = row.length + as.length
  | [], o, row => rfl
  | a :: as, o, row => by
    show (visit nxt s as _ _).2.length = _
    rw [visit_rlen nxt s as]; simp; omega
theorem visit_all {S R ι : Type} [DecidableEq S] {nxt : S → ι → S × R} {P : S → Prop} {s : S} {ins : List ι} (h : ∀ a ∈ ins, P (nxt s a).1) : ∀ (as : List ι) (o : List S) (row : List (Nat × R)), (∀ a ∈ as, a ∈ ins) → (∀ t ∈ o, P t) → ∀ t ∈ (visit nxt s as o row).1, P t
  | [], o, row, _, ho => ho
  | a :: as, o, row, ha, ho => visit_all h as _ _ (fun b hb => ha b (List.mem_cons_of_mem _ hb)) (fun t ht => (of_ins1 ht).elim (ho t) fun e => e ▸ h a (ha a List.mem_cons_self))
theorem su_one (i : Str) : SU [i] := fun ys h _ => List.perm_singleton.mp h
theorem su_nil : SU [] := fun ys h _ => List.Perm.eq_nil h
theorem bb_nil (D : Nd) : bb D [] = fun _ => 0 := funext fun t => by simp [bb]
theorem fd_ne {D : Nd} (ok : D.Ok) {l : List Str} (hl : ∀ x ∈ l, x ∈ D.ins) {f g : Str → V} : FD D.N.names f ≠ FD l g := fun e => by
  have h := congrArg (List.map (·.1)) e
  rw [fd_keys, fd_keys] at h
  have h3 : D.N.names = l := (List.map_inj_right (fun a b e => Sum.inr.inj e)).mp h
  obtain ⟨n, hn⟩ := List.exists_mem_of_ne_nil _ ok.ne
  exact ok.aparti n (hl n (h3 ▸ hn)) hn
theorem paired_imp_mem {α β : Type} {F G : α → β → Prop} : ∀ {l : List α} {m : List β}, Paired F l m → (∀ a b, a ∈ l → F a b → G a b) → Paired G l m
  | _, _, .nil, _ => .nil
  | _, _, .cons g r, h => .cons (h _ _ List.mem_cons_self g) (paired_imp_mem r fun a b ha => h a b (List.mem_cons_of_mem _ ha))
theorem fd_snoc_if {l : List Str} {f : Str → V} {nm : Str} {v : V} (h : nm ∉ l) : FD l f ++ [(.inr nm, v)] = FD (l ++ [nm]) fun m => if m = nm then v else f m := by
  unfold FD
  rw [List.map_append]
  congr 1
  · exact List.map_congr_left fun m hm => by
      show (Sum.inr m, f m) = (Sum.inr m, if m = nm then v else f m)
      rw [if_neg (fun (z : m = nm) => h (z ▸ hm))]
  · show [(Sum.inr nm, v)] = [(Sum.inr nm, if nm = nm then v else f nm)]
    rw [if_pos rfl]
/-! ### a locked dict -/
theorem un_same {H H' : Hp} {x : Addr} {u : HO} (s : Same H H') : Same (upd H x u) (upd H' x u) := fun a o e => by
  by_cases z : a = x
  · subst z; rw [upd_same] at e ⊢; exact e
  · rw [upd_ne z] at e ⊢; exact s a o e
theorem upd_comm {H : Hp} {a b : Addr} {o u : HO} (h : a ≠ b) : upd (upd H a o) b u = upd (upd H b u) a o := by
  funext c
  by_cases z : c = a
  · subst z; rw [upd_ne h, upd_same, upd_same]
  · by_cases y : c = b
    · subst y; rw [upd_same, upd_ne z, upd_same]
    · rw [upd_ne y, upd_ne z, upd_ne z, upd_ne y]
theorem un_get {H : Hp} {x a : Addr} {u o : HO} (h : upd H x u a = some o) (n : o ≠ u) : H a = some o := by
  have z : a ≠ x := fun z => by subst z; rw [upd_same] at h; exact n (Option.some.inj h).symm
  rwa [upd_ne z] at h
theorem un_none {H : Hp} {x a : Addr} {u f : HO} (hx : H x = some f) (h : H a = none) : upd H x u a = none := by
  have z : a ≠ x := fun z => by subst z; rw [hx] at h; cases h
  rwa [upd_ne z]
theorem NetHas.unl {C : Addr} {H : Hp} {p : Addr} {D : Nd} {dx kd id ot nl : Addr} {g : Str → V} {od : Obj} (ok : D.Ok) (h : NetHas C (upd H id (.dK (FD D.ins fun i => .str (D.inl i)))) p D dx kd id ot nl g) (hz : H id = some (.frz od (.dK (FD D.ins fun i => .str (D.inl i))))) : NetHas C H p D dx kd id ot nl g where
  ob := un_get h.ob (by intro z; cases z)
  kd := un_get h.kd (fun z => fd_ne ok (fun x h => h) (HO.dK.inj z))
  kn := fun n hn => (h.kn n hn).mono fun b xs e => un_get e (by intro z; cases z)
  id := .inr ⟨od, hz⟩
  ot := un_get h.ot (by intro z; cases z)
  nl := un_get h.nl (by intro z; cases z)
def sp_ways (CW CN : Addr) : Sp := fun vs H Q _ => ∃ (p sd : Addr) (D : Nd) (s0 : List Nat) (n : Nat), vs = [.ref p, .ref sd] ∧ NetU CN H p D ∧ D.Ok ∧ D.ins ≠ [] ∧ D.N.names.length ≤ 3 ∧ endsB D = true ∧ H sd = some (.dK (FD D.N.names fun n => .int (stf D.N.names s0 n : Nat))) ∧
  OkS D s0 ∧ EndsAll D ∧ BEnd (nx D) D.ins s0 n ∧ n ≤ 250 ∧ ∀ q H', Same H H' → WaysAt CW H' q D.N.names D.ins (bk (nx D) D.ins s0 n).1 (bk (nx D) D.ins s0 n).2 → Q (.ref q) H'
section
variable {P : Program} {w : World} {K : PySem.W.Frag} {mg : Str → Option Value} {base : Heap}
theorem ok_ways (T : Tx K mg) : FnOk P w K mg base CX0 6 T.ways.f T.ways.fd ["net", "standing"] (sp_ways T.kWays.C T.kNet.C) := by
  refine T.ways.F.ok sc_ways (fun vs H Q E h => ?_) (fun cdv A outer s H vs Q E hr h => ?_)
  · obtain ⟨p, sd, D, s0, n, rfl, _⟩ := h; rfl
  · obtain ⟨p, sd, D, s0, n, rfl, NU, ok, hin, h3, hends, hsd, hs0, hea, hbe, h250, k⟩ := h
    obtain ⟨dx, kd, id, ot, nl, g, N, hid⟩ := NU
    have hfew := ok.few
    have hfewi := ok.fewi
    refine ⟨_, PSs.nox (pss_cons (ps_set (i := 2) sc_ways.nd rfl (.inl rfl) (pe_fld (pe_call (ok_settle T) (hr.mono (by decide)) rfl T.settle.m T.settle.F.kp T.settle.b .nil pass0 (pa_cons (pv 0) (pa_cons pe_dnewK (pa_cons (pv 1) pa_nil)))) rfl))
      (pss_cons (ps_par3 (i := 3) (j := 4) (l := 5) rfl sc_ways.nd rfl rfl rfl (by decide) (by decide) (by decide) rfl rfl rfl (pa_cons (pe_dispT (hu_of hr) (pe_callTy (T := "tuple") (call_tupleV rfl) rfl T.b_tuple (by decide +kernel) (pa_cons (pe_bm0 PySem.F.plainAttrs_dict PySem.F.slot_dict_values PySem.F.type_dict_values mt_valsK (pv 2)) pa_nil)) pe_int) (pa_cons (pe_lst (pa_cons (pv 2) pa_nil)) (pa_cons (pe_lst pa_nil) pa_nil))) (by rfl))
      (pss_cons (ps_while PassesOwn.never (pt_cmpR op_lt (pe_callB (id := "len") call_len_seq (by rfl) T.b_len PySem.boot_len (pa_cons (pv 5) pa_nil)) (pe_callB (id := "len") call_len_seq (by rfl) T.b_len PySem.boot_len (pa_cons (pv 4) pa_nil)) (nomark _)) (pss_cons (ps_set (i := 6) sc_ways.nd rfl (.inl rfl) pe_dnewK)
        (pss_cons (ps_lock (ps_for PassesOwn.never rfl (pi_keys (pe_fld (pv 0) rfl)) (pg_name (i := 7) sc_ways.nd rfl (.inl rfl)) (pss_cons (ps_set (i := 8) sc_ways.nd rfl (.inl rfl) (pe_call (ok_settle T) (hr.mono (by decide)) rfl T.settle.m T.settle.F.kp T.settle.b .nil pass0 (pa_cons (pv 0) (pa_cons (pe_disp (pps_cons (pv 7) pe_int pps_nil) (by rfl) (by rfl) (fun z => by cases z) (by decide)) (pa_cons (pe_ix ix_list (pv 4) (pe_callB (id := "len") call_len_seq (by rfl) T.b_len PySem.boot_len (pa_cons (pv 5) pa_nil)) (fun _ _ => rfl)) pa_nil)))))
          (pss_cons (ps_set (i := 9) sc_ways.nd rfl (.inl rfl) (pe_callTy (T := "tuple") (call_tupleV rfl) rfl T.b_tuple (by decide +kernel) (pa_cons (pe_bm0 PySem.F.plainAttrs_dict PySem.F.slot_dict_values PySem.F.type_dict_values mt_valsK (pe_fld (pv 8) rfl)) pa_nil)))
          (pss_cons (ps_if (pt_cmp (pc_dnotin (hu_of hr) (pv 9) (pv 3))) (pss_cons (ps_if (pt_cmpR op_eq (pe_callB (id := "len") call_len_seq (by rfl) T.b_len PySem.boot_len (pa_cons (pv 4) pa_nil)) (pe_glob (v := .int 1500) rfl T.c_MOST_STANDINGS ⟨_, rfl⟩) (nomark _)) (pss_one (ps_never)) pss_nil)
            (pss_cons (ps_dput (hu_of hr) (pv 3) (pv 9) (pe_callB (id := "len") call_len_seq (by rfl) T.b_len PySem.boot_len (pa_cons (pv 4) pa_nil)) rfl)
            (pss_one (ps_expr (pe_bm PySem.F.plainAttrs_list PySem.F.slot_list_append PySem.F.type_list_append mt_append (pv 4) (pa_cons (pe_fld (pv 8) rfl) pa_nil)))))) pss_nil)
          (pss_one (ps_dput (hu_of hr) (pv 6) (pv 7) (pe_tup (pa_cons (pe_dget (hu_of hr) (pv 3) (pv 9) (fun _ _ => rfl)) (pa_cons (pe_callTy (T := "tuple") (call_tupleV rfl) rfl T.b_tuple (by decide +kernel) (pa_cons (pe_bm0 PySem.F.plainAttrs_dict PySem.F.slot_dict_values PySem.F.type_dict_values mt_valsK (pe_fld (pv 8) rfl)) pa_nil)) pa_nil))) rfl)))))))
        (pss_one (ps_expr (pe_bm PySem.F.plainAttrs_list PySem.F.slot_list_append PySem.F.type_list_append mt_append (pv 5) (pa_cons (pv 6) pa_nil)))))))
      (pss_one (ps_ret (pe_make T.k_Ways (ok_Ways_init T) (hr.mono (by decide)) rfl T.m_Ways T.Ways_init.b .nil pass0 (pa_cons (pv 4) (pa_cons (pv 5) pa_nil)))))))), ?_⟩
    -- first
    refine ⟨_, rfl, fun bd hbd => ⟨_, rfl, ?_⟩⟩
    have s1 : Same H (upd H bd (.dK [])) := same_new hbd
    have e0 : Least D.N (stf D.N.names s0) (bb D []) (fun _ => 0) := by rw [bb_nil]; exact least_zero
    refine ⟨p, bd, sd, D, [], stf D.N.names s0, fun _ => 0, rfl, (NetAt.mono ⟨dx, kd, id, ot, nl, g, N⟩ s1), ok, h3, hends, ⟨upd_same, (fun b hb => nomatch hb), su_nil, Nat.zero_le _⟩, s1 _ _ hsd, hs0.lt, e0, by rw [sumN_zero fun _ => rfl]; omega, fun q H2 s2 ⟨qx, _, _, fa, _, hq, _, hfa⟩ => ?_⟩
    have s02 := s1.trans s2
    have hfa : H2 fa = some (.dK (FD D.N.names fun n => .int (stf D.N.names s0 n : Nat))) := hfa
    refine ⟨q, _, qx, _, _, rfl, hq, T.cl_Settled, T.a_Settled_standing, rfl, ?_⟩
    -- found, order, steps
    refine fun fd hfd0 => ?_
    have s3 : Same H2 (upd H2 fd (.dT [])) := same_new hfd0
    refine ⟨_, rfl, .inr (.inr (.inl ⟨rfl, .inl ⟨_, s3 _ _ hfa⟩⟩)), _, _, rfl, rfl, .inl (s3 _ _ hfa), fun v hv => ⟨v, _, _, rfl, upd_same, .inl (same_new hv _ _ (s3 _ _ hfa)), fun t ht => ?_⟩⟩
    have et : ((FD D.N.names fun n => V.int (stf D.N.names s0 n : Nat)).map (·.2)) = (kOf s0).map kV := by
      rw [fd_vals, kOf_kV]
      have := map_stf ok.nd hs0.len
      conv => rhs; rw [← this]
      rw [List.map_map]; rfl
    have s4 := (s3.trans (same_new (o := valsO v fa) hv)).trans (same_new (o := .tup ((FD D.N.names fun n => V.int (stf D.N.names s0 n : Nat)).map (·.2))) ht)
    have hfd4 : upd (upd (upd H2 fd (.dT [])) v (valsO v fa)) t (.tup ((FD D.N.names fun n => V.int (stf D.N.names s0 n : Nat)).map (·.2))) fd = some (.dT []) := same_new ht _ _ (same_new hv _ _ upd_same)
    have ht4 : upd (upd (upd H2 fd (.dT [])) v (valsO v fa)) t (.tup ((FD D.N.names fun n => V.int (stf D.N.names s0 n : Nat)).map (·.2))) t = some (.tup ((kOf s0).map kV)) := by rw [upd_same, et]
    refine ⟨kOf s0, t, rfl, hfd4, ht4, ?_⟩
    have hfdn : H fd = none := s02.free hfd0
    have hfa4 := s4 _ _ hfa
    have s04 := s02.trans s4
    generalize upd (upd (upd H2 fd (.dT [])) v (valsO v fa)) t (.tup ((FD D.N.names fun n => V.int (stf D.N.names s0 n : Nat)).map (·.2))) = H4 at s04 hfd4 hfa4 ⊢
    have s05 : Same H (upd H4 fd (.dT [(kOf s0, .int 0)])) := same_mut s04 hfdn
    have hfd5 : upd H4 fd (.dT [(kOf s0, .int 0)]) fd = some (.dT (foundT [s0])) := by
      rw [upd_same]
      have : idx [s0] s0 = 0 := by simp [idx]
      unfold foundT; rw [List.map_singleton, this]; rfl
    have hfa5 : upd H4 fd (.dT [(kOf s0, .int 0)]) fa = _ := (upd_ne (ne_of hfa4 hfd4 (by intro z; cases z))).trans hfa4
    generalize upd H4 fd (.dT [(kOf s0, .int 0)]) = H5 at s05 hfd5 hfa5 ⊢
    refine ⟨_, rfl, sz (by show 1 ≤ 100000; omega), fun ol hol => ⟨Nat.zero_le _, fun sl hsl => ⟨_, _, _, rfl, ?_⟩⟩⟩
    have s6 := (same_new (o := .lst [.ref fa]) hol).trans (same_new (o := .lst []) hsl)
    have s06 := s05.trans s6
    have hon : H ol = none := s05.free hol
    have hsn : H sl = none := s05.free ((same_new hol).free hsl)
    have hol6 : upd (upd H5 ol (.lst [.ref fa])) sl (.lst []) ol = some (.lst [.ref fa]) := same_new hsl _ _ upd_same
    have hsl6 : upd (upd H5 ol (.lst [.ref fa])) sl (.lst []) sl = some (.lst []) := upd_same
    have hfd6 := s6 _ _ hfd5
    have hfa6 := s6 _ _ hfa5
    generalize upd (upd H5 ol (.lst [.ref fa])) sl (.lst []) = H6 at s06 hol6 hsl6 hfd6 hfa6 ⊢
    have nos : ol ≠ sl := fun e => by subst e; rw [hol6] at hsl6; cases hsl6
    -- the loop
    let Inv : Nat → Hp → Prop := fun k H' => Same H H' ∧ ∃ vs us, H' ol = some (.lst vs) ∧ Paired (StandD H' D.N.names) vs (bk (nx D) D.ins s0 k).1 ∧ H' fd = some (.dT (foundT (bk (nx D) D.ins s0 k).1)) ∧ H' sl = some (.lst us) ∧ Paired (RowD H' D.ins) us (bk (nx D) D.ins s0 k).2
    have I0 : Inv 0 H6 := ⟨s06, [.ref fa], [], hol6, .cons ⟨fa, _, rfl, hfa6, rfl, hs0.len⟩ .nil, hfd6, hsl6, .nil⟩
    refine ⟨fun μ σ H' => ∃ k x6 x7 x8 x9, σ = [some (.ref p), some (.ref sd), some (.ref fa), some (.ref fd), some (.ref ol), some (.ref sl), x6, x7, x8, x9] ∧ Inv k H' ∧ k ≤ n ∧ μ = n - k, ⟨_, 0, none, none, none, none, rfl, I0, Nat.zero_le _, rfl⟩, ?_⟩
    rintro μ σ H7 ⟨kk, x6, x7, x8, x9, rfl, ⟨s07, vs, us, hol7, hpv, hfd7, hsl7, hpu⟩, hkn, rfl⟩
    obtain ⟨hl2, hgo, hl1⟩ := hbe.go kk hkn
    have hvl : vs.length = (bk (nx D) D.ins s0 kk).1.length := Paired.length hpv
    have hul : us.length = kk := (Paired.length hpu).trans hl2
    refine ⟨_, rfl, sl, us, rfl, .inl (SqL.of hsl7), _, rfl, ol, vs, rfl, .inl (SqL.of hol7), _, _, rfl, rfl, _, rfl, ?_⟩
    refine ite2 (fun hc => ?_) (fun hc => ?_)
    · have hc : (us.length : Int) < (vs.length : Nat) := of_decide_eq_true hc
      have hkn2 : kk < n := by
        rcases Nat.lt_or_eq_of_le hkn with h | h
        · exact h
        · subst h; have := hbe.fin; omega
      refine ⟨_, fun σ' H' h => h, ?_⟩
      -- a row
      intro rw_ hrw
      have s8 := same_new (o := .dK []) hrw
      have s08 := s07.trans s8
      have hrn : H rw_ = none := s07.free hrw
      have hol8 := s8 _ _ hol7
      have hfd8 := s8 _ _ hfd7
      have hsl8 := s8 _ _ hsl7
      have hpv8 := Paired.mapP hpv fun v b h => DD.mono (mCSt D.N.names) s8 h
      have hpu8 := Paired.mapP hpu fun v b h => DD.mono (mCRo D.ins) s8 h
      have hrw8 : upd H7 rw_ (.dK []) rw_ = some (.dK []) := upd_same
      generalize upd H7 rw_ (.dK []) = H8 at s08 hol8 hfd8 hsl8 hpv8 hpu8 hrw8 ⊢
      have hid8 := s08 _ _ hid
      refine ⟨id, _, hid8, trivial, fun od => ?_⟩
      have hfz : upd H8 id (.frz od (.dK (FD D.ins fun i => .str (D.inl i)))) id = some (.frz od (.dK (FD D.ins fun i => .str (D.inl i)))) := upd_same
      have eun : upd (upd H8 id (.frz od (.dK (FD D.ins fun i => .str (D.inl i))))) id (.dK (FD D.ins fun i => .str (D.inl i))) = H8 := by
        rw [upd_upd]; funext a
        by_cases z : a = id
        · subst z; rw [upd_same, hid8]
        · rw [upd_ne z]
      generalize upd H8 id (.frz od (.dK (FD D.ins fun i => .str (D.inl i)))) = Hz at hfz eun ⊢
      have nui : ∀ {o : HO}, (∀ k, o ≠ .dK k) → o ≠ .dK (FD D.ins fun i => .str (D.inl i)) := fun h => h _
      have hsk : ∃ s, (bk (nx D) D.ins s0 kk).1[kk]? = some s := ⟨_, List.getElem?_eq_getElem (hgo hkn2)⟩
      obtain ⟨s, hsk⟩ := hsk
      have hvk : vs[kk]? = some vs[kk] := List.getElem?_eq_getElem (by omega)
      generalize hvv : vs[kk] = vk at hvk
      have hbok := bk_ok (nxt := nx D) (ins := D.ins) (P := OkS D) (PR := fun r => r.length = D.outs.length) (fun s a hs _ => nx_ok ok hs a) hs0 kk
      have hbok0 := hbok.nd
      have hss : OkS D s := hbok.all s (List.mem_of_getElem? hsk)
      have hstep : bk (nx D) D.ins s0 (kk + 1) = ((visit (nx D) s D.ins (bk (nx D) D.ins s0 kk).1 []).1, (bk (nx D) D.ins s0 kk).2 ++ [(visit (nx D) s D.ins (bk (nx D) D.ins s0 kk).1 []).2]) := by
        show bstep (nx D) D.ins (bk (nx D) D.ins s0 kk) = _
        unfold bstep; rw [hl2, hsk]
      obtain ⟨o0, r0, hx0⟩ : ∃ o0 r0, bk (nx D) D.ins s0 kk = (o0, r0) := ⟨_, _, rfl⟩
      rw [hx0] at hbok0 hstep hsk hpv8 hpu8 hfd8 hl2 hpu
      dsimp only at hbok0 hstep hsk hpv8 hpu8 hfd8 hl2 hpu
      have hvis : ∀ i, (visit (nx D) s (D.ins.take i) o0 []).1.length ≤ n := fun i => by
        have h1 := (hbe.go (kk + 1) hkn2).2.2
        rw [hstep] at h1
        have h2 := visit_app (nx D) s (D.ins.take i) (D.ins.drop i) o0 []
        rw [List.take_append_drop] at h2
        rw [h2] at h1
        exact Nat.le_trans (visit_len (nxt := nx D) s _ _ _) h1
      refine ⟨_, rfl, p, _, dx, _, _, rfl, un_get (eun ▸ s08 _ _ N.ob) (by intro z; cases z), T.cl_Net, T.a_Net_inlets, netF_inlets .., id, od, rfl, .inl ⟨_, hfz, ?_⟩⟩
      have wk : Walk (Itk id od (FD D.ins fun i => V.str (D.inl i))) D.ins.length (fun H => H id = some (.frz od (.dK (FD D.ins fun i => V.str (D.inl i))))) (YAt (D.ins.map V.str)) := by
        have w0 := walk_keys (d := id) (o := od) (kvs := FD D.ins fun i => V.str (D.inl i))
        rw [fd_len] at w0
        exact w0.mono (fun _ h => h) (fun i H x H' _ _ ⟨e, ky, v, h, ex⟩ => ⟨e, by obtain ⟨n, hn, rfl, _⟩ := fd_of_get h; rw [List.getElem?_map, hn, ex]; rfl⟩)
      let U : Hp → Hp := fun Hl => upd Hl id (.dK (FD D.ins fun i => .str (D.inl i)))
      let Inv2 : Nat → Hp → Prop := fun i Hl => Hl id = some (.frz od (.dK (FD D.ins fun i => .str (D.inl i)))) ∧ Same H (U Hl) ∧ (∃ vs2, U Hl ol = some (.lst vs2) ∧ vs2[kk]? = some vk ∧ Paired (StandD (U Hl) D.N.names) vs2 (visit (nx D) s (D.ins.take i) o0 []).1) ∧ U Hl fd = some (.dT (foundT (visit (nx D) s (D.ins.take i) o0 []).1)) ∧
        U Hl sl = some (.lst us) ∧ Paired (RowD (U Hl) D.ins) us r0 ∧ (∀ v ∈ us, v ≠ .ref rw_) ∧ ∃ f, U Hl rw_ = some (.dK (FD (D.ins.take i) f)) ∧ ∀ m ∈ D.ins.take i, StepAt (U Hl) (f m) (stepOf D.ins (visit (nx D) s (D.ins.take i) o0 []).2 m)
      have J0 : Inv2 0 Hz := by
        refine ⟨hfz, ?_⟩
        dsimp only [U]
        rw [eun]
        refine ⟨s08, ⟨vs, hol8, hvk, hpv8⟩, hfd8, hsl8, hpu8, fun v hv e => ?_, fun _ => .non, hrw8, fun m hm => by simp at hm⟩
        subst e
        obtain ⟨j, hj⟩ := List.mem_iff_getElem?.mp hv
        have hjl : j < r0.length := by have := (List.getElem?_eq_some_iff.mp hj).1; omega
        obtain ⟨a, kvs, e, h1, h2⟩ := paired_at hpu hj (List.getElem?_eq_getElem hjl)
        cases e
        rw [hrw] at h1; cases h1
      refine for_it wk (fun i σ Hl => ∃ x7 x8 x9, σ = [some (.ref p), some (.ref sd), some (.ref fa), some (.ref fd), some (.ref ol), some (.ref sl), some (.ref rw_), x7, x8, x9] ∧ Inv2 i Hl) ⟨x7, x8, x9, rfl, J0⟩ (by rintro i σ Hl _ ⟨_, _, _, rfl, h⟩; exact h.1) ?_ ?_
      · rintro i x σ Hl Hl' hi ⟨x7, x8, x9, rfl, hJ⟩ ⟨rfl, hx⟩
        rw [List.getElem?_map, List.getElem?_eq_getElem hi] at hx
        cases hx
        generalize hnm : D.ins[i] = nm
        have hnmi : D.ins[i]? = some nm := by rw [List.getElem?_eq_getElem hi, hnm]
        have hnm_in : nm ∈ D.ins := List.mem_of_getElem? hnmi
        have hnmt : nm ∉ D.ins.take i := fun hm => by
          obtain ⟨j, hj⟩ := List.mem_iff_getElem?.mp hm
          have hji : j < i := by have := (List.getElem?_eq_some_iff.mp hj).1; rw [List.length_take] at this; omega
          rw [List.getElem?_take_of_lt hji] at hj
          have := get_inj ok.indd hj hnmi
          omega
        obtain ⟨hz, sU, ⟨vs2, hol, hvk2, hpv2⟩, hfd, hsl, hpu2, hur, f, hrow, hst⟩ := hJ
        have nui2 : ∀ (l : List Str) (f : Str → V), (∀ x ∈ l, x ∈ D.ins) → HO.dK (FD D.N.names f) ≠ .dK (FD l fun i => .str (D.inl i)) := fun l f hl e => fd_ne ok hl (HO.dK.inj e)
        -- what the locked heap holds
        have gol : Hl' ol = some (.lst vs2) := un_get hol (by intro z; cases z)
        have gsl : Hl' sl = some (.lst us) := un_get hsl (by intro z; cases z)
        have hst0 := hvk2
        obtain ⟨j0, hj0⟩ : ∃ t, (visit (nx D) s (D.ins.take i) o0 []).1[kk]? = some t := by
          have h1 : kk < vs2.length := (List.getElem?_eq_some_iff.mp hvk2).1
          exact ⟨_, List.getElem?_eq_getElem (by rw [← Paired.length hpv2]; exact h1)⟩
        have hj0s : j0 = s := by
          have hp : ∃ r, (visit (nx D) s (D.ins.take i) o0 []).1 = o0 ++ r := by
            have := visit_ok (nxt := nx D) (ins := D.ins) (P := fun _ => True) (PR := fun _ => True) (fun _ _ _ _ => ⟨trivial, trivial⟩) (s := s) trivial (D.ins.take i) o0 [] (fun a ha => List.mem_of_mem_take ha) hbok0 (fun _ _ => trivial) (fun g hg => nomatch hg)
            exact this.2.2.1
          obtain ⟨r, hr⟩ := hp
          rw [hr, List.getElem?_append_left (by exact (List.getElem?_eq_some_iff.mp hsk).1), hsk] at hj0
          exact (Option.some.inj hj0).symm
        subst hj0s
        obtain ⟨sa, kvs, rfl, hsa, rfl, hsl'⟩ := paired_at hpv2 hvk2 hj0
        have gsa : Hl' sa = some (.dK (FD D.N.names fun n => .int (stf D.N.names j0 n : Nat))) := un_get hsa (nui2 _ _ (fun x h => h))
        have NL : NetHas T.kNet.C Hl' p D dx kd id ot nl g := NetHas.unl ok (N.mono sU) hz
        have hlc := leastC_ok (hea (stf D.N.names j0) hss.lt nm hnm_in)
        have nri : rw_ ≠ id := fun e => by subst e; rw [s07 _ _ hid] at hrw; cases hrw
        have grw : Hl' rw_ = some (.dK (FD (D.ins.take i) f)) := (upd_ne nri).symm.trans hrow
        refine ⟨_, rfl, fun bd2 hbd2 => ⟨_, rfl, upd_same, [(.inr nm, .int 1)], rfl, (by show 1 ≤ 15; omega), ?_⟩⟩
        have sbd : Same Hl' (upd (upd Hl' bd2 (.dK [])) bd2 (.dK (mergeK [] [(.inr nm, .int 1)]))) := by rw [upd_upd]; exact same_new hbd2
        have hbd' : (upd (upd Hl' bd2 (.dK [])) bd2 (.dK (mergeK [] [(.inr nm, .int 1)]))) bd2 = some (.dK (FD [nm] fun _ => .int 1)) := upd_same
        refine ⟨_, rfl, _, rfl, sl, us, rfl, .inl (SqL.of (sbd _ _ gsl)), ol, vs2, _, _, rfl, rfl, SqL.of (sbd _ _ gol), atI_nat (by rw [hul]; exact hvk2), ?_⟩
        refine ⟨p, bd2, sa, D, [nm], stf D.N.names j0, leastC D (stf D.N.names j0) [nm], rfl, NetAt.mono ⟨dx, kd, id, ot, nl, g, NL⟩ sbd, ok, h3, hends, ⟨hbd', (fun b hb => by simp at hb; exact hb ▸ hnm_in), su_one _, by show 1 ≤ 12; omega⟩, sbd _ _ gsa, hss.lt, hlc.1, hlc.2, fun q2 H9 s9 ⟨qx2, t2, oa, sd2, ol2, hq2, hoa, hsd2⟩ => ?_⟩
        have e1 : (nx D j0 nm).1 = D.N.names.map fun n => (D.N.kn n).plc (stf D.N.names j0 n) (leastC D (stf D.N.names j0) [nm] n) := rfl
        have e2 : (nx D j0 nm).2 = D.outs.map fun o => outC D (stf D.N.names j0) (leastC D (stf D.N.names j0) [nm]) o := rfl
        have hok' := (nx_ok ok hss nm).1
        have hsd2' : H9 sd2 = some (.dK (FD D.N.names fun n => .int (stf D.N.names (nx D j0 nm).1 n : Nat))) := by
          rw [hsd2]
          exact congrArg (fun l => some (HO.dK l)) (fd_congr fun n hn => by rw [e1, stf_map _ hn])
        have s9' := sbd.trans s9
        refine ⟨_, rfl, q2, _, qx2, _, _, rfl, hq2, T.cl_Settled, T.a_Settled_standing, rfl, .inr (.inr (.inl ⟨rfl, .inl ⟨_, hsd2⟩⟩)), _, _, rfl, rfl, .inl hsd2, fun v hv => ⟨v, _, _, rfl, upd_same, .inl (same_new hv _ _ hsd2), fun kt hkt => ?_⟩⟩
        have ekt : (FD D.N.names fun n => V.int ((D.N.kn n).plc (stf D.N.names j0 n) (leastC D (stf D.N.names j0) [nm] n) : Nat)).map (·.2) = (kOf (nx D j0 nm).1).map kV := by
          rw [fd_vals, kOf_kV, e1, List.map_map]; rfl
        have s10 : Same H9 (upd (upd H9 v (valsO v sd2)) kt (.tup ((FD D.N.names fun n => V.int ((D.N.kn n).plc (stf D.N.names j0 n) (leastC D (stf D.N.names j0) [nm] n) : Nat)).map (·.2)))) := (same_new hv).trans (same_new hkt)
        have hkt10 : (upd (upd H9 v (valsO v sd2)) kt (.tup ((FD D.N.names fun n => V.int ((D.N.kn n).plc (stf D.N.names j0 n) (leastC D (stf D.N.names j0) [nm] n) : Nat)).map (·.2)))) kt = some (.tup ((kOf (nx D j0 nm).1).map kV)) := by rw [upd_same, ekt]
        generalize upd (upd H9 v (valsO v sd2)) kt (.tup ((FD D.N.names fun n => V.int ((D.N.kn n).plc (stf D.N.names j0 n) (leastC D (stf D.N.names j0) [nm] n) : Nat)).map (·.2))) = H10 at s10 hkt10 ⊢
        have sL := s9'.trans s10
        have sLU : Same (U Hl') (U H10) := un_same sL
        have hz10 := sL _ _ hz
        have hq10 := s10 _ _ hq2
        have hoa10 := s10 _ _ hoa
        have hsd10 := s10 _ _ hsd2'
        have htk : D.ins.take (i + 1) = D.ins.take i ++ [nm] := by rw [List.take_succ, hnmi]; rfl
        have hvnext : visit (nx D) j0 (D.ins.take (i + 1)) o0 [] = (ins1 (visit (nx D) j0 (D.ins.take i) o0 []).1 (nx D j0 nm).1, (visit (nx D) j0 (D.ins.take i) o0 []).2 ++ [(idx (ins1 (visit (nx D) j0 (D.ins.take i) o0 []).1 (nx D j0 nm).1) (nx D j0 nm).1, (nx D j0 nm).2)]) := by
          rw [htk, visit_app]; rfl
        have hvl1 := hvis (i + 1)
        have hvl0 := hvis i
        have hrl : (visit (nx D) j0 (D.ins.take i) o0 []).2.length = i := by rw [visit_rlen, List.length_take]; simp; omega
        rw [hvnext] at hvl1
        generalize ho' : (visit (nx D) j0 (D.ins.take i) o0 []).1 = o' at *
        generalize hr' : (visit (nx D) j0 (D.ins.take i) o0 []).2 = r' at *
        generalize hs'' : (nx D j0 nm).1 = s'' at *
        generalize hou : (nx D j0 nm).2 = ou at *
        dsimp only at hvl1
        -- the row's entry
        have rest : ∀ (Dn : Ends) (H5 : Hp), (∀ σ' H', (∃ x7 x8 x9, σ' = [some (.ref p), some (.ref sd), some (.ref fa), some (.ref fd), some (.ref ol), some (.ref sl), some (.ref rw_), x7, x8, x9] ∧ Inv2 (i + 1) H') → Dn.nx σ' H') →
            H5 id = some (.frz od (.dK (FD D.ins fun i => .str (D.inl i)))) → Same H (U H5) → (∃ vs3, U H5 ol = some (.lst vs3) ∧ vs3[kk]? = some (.ref sa) ∧ Paired (StandD (U H5) D.N.names) vs3 (ins1 o' s'')) → U H5 fd = some (.dT (foundT (ins1 o' s''))) → U H5 sl = some (.lst us) → Paired (RowD (U H5) D.ins) us r0 →
            U H5 rw_ = some (.dK (FD (D.ins.take i) f)) → (∀ m ∈ D.ins.take i, StepAt (U H5) (f m) (stepOf D.ins r' m)) → H5 kt = some (.tup ((kOf s'').map kV)) → H5 q2 = some (.ins T.kSettled.C qx2 [("taken", .ref t2), ("out", .ref oa), ("standing", .ref sd2), ("order", .ref ol2)]) → H5 oa = some (.dK (FD D.outs fun o => .int (outC D (stf D.N.names j0) (leastC D (stf D.N.names j0) [nm]) o : Nat))) →
            sDPut (tVar 6) (tVar 7) (tTup (tCons (tDGet (tVar 3) (tVar 9)) (tCons (tCB (fun xs H Q => ∃ (p a : Addr) (kvs : List (Key × V)), xs = [.ref p] ∧ H p = some (valsO p a) ∧ Rd H a (.dK kvs) ∧ ∀ q, H q = none → Q (.ref q) (upd H q (.tup (kvs.map (·.2))))) (tCons (tBM0 K "dict" rValsK (tFld K (tVar 8) "out")) tNil)) tNil))) Dn
              [some (.ref p), some (.ref sd), some (.ref fa), some (.ref fd), some (.ref ol), some (.ref sl), some (.ref rw_), some (.str nm), some (.ref q2), some (.ref kt)] H5 := by
          intro Dn H5 hD hz5 sU5 ⟨vs3, hol5, hvk5, hpv5⟩ hfd5 hsl5 hpu5 hrw5 hst5 hkt5 hq5 hoa5
          have hfdl : H5 fd = _ := un_get hfd5 (by intro z; cases z)
          have hrwl : H5 rw_ = some (.dK (FD (D.ins.take i) f)) := (upd_ne nri).symm.trans hrw5
          refine ⟨_, rfl, _, rfl, fd, _, rfl, .inr ⟨_, kOf s'', kt, .inl hfdl, rfl, hkt5, (found_in (mem_ins1 o' s'')).symm⟩, ?_⟩
          refine ⟨_, rfl, q2, _, qx2, _, _, rfl, hq5, T.cl_Settled, T.a_Settled_out, rfl, .inr (.inr (.inl ⟨rfl, .inl ⟨_, hoa5⟩⟩)), _, _, rfl, rfl, .inl hoa5, fun v hv => ⟨v, _, _, rfl, upd_same, .inl (same_new hv _ _ hoa5), fun tt htt => ⟨sz (by show 2 ≤ 100000; omega), fun e he => ?_⟩⟩⟩
          have eou : (FD D.outs fun o => V.int (outC D (stf D.N.names j0) (leastC D (stf D.N.names j0) [nm]) o : Nat)).map (·.2) = ou.map fun x => V.int (x : Nat) := by
            rw [fd_vals, e2, List.map_map]; rfl
          have s6 : Same H5 (upd (upd (upd H5 v (valsO v oa)) tt (.tup ((FD D.outs fun o => V.int (outC D (stf D.N.names j0) (leastC D (stf D.N.names j0) [nm]) o : Nat)).map (·.2)))) e (.tup [.int (idx (ins1 o' s'') s'' : Nat), .ref tt])) := ((same_new hv).trans (same_new htt)).trans (same_new he)
          have htt6 : (upd (upd (upd H5 v (valsO v oa)) tt (.tup ((FD D.outs fun o => V.int (outC D (stf D.N.names j0) (leastC D (stf D.N.names j0) [nm]) o : Nat)).map (·.2)))) e (.tup [.int (idx (ins1 o' s'') s'' : Nat), .ref tt])) tt = some (.tup (ou.map fun x => V.int (x : Nat))) := by rw [← eou]; exact same_new he _ _ upd_same
          have he6 : (upd (upd (upd H5 v (valsO v oa)) tt (.tup ((FD D.outs fun o => V.int (outC D (stf D.N.names j0) (leastC D (stf D.N.names j0) [nm]) o : Nat)).map (·.2)))) e (.tup [.int (idx (ins1 o' s'') s'' : Nat), .ref tt])) e = some (.tup [.int (idx (ins1 o' s'') s'' : Nat), .ref tt]) := upd_same
          generalize upd (upd (upd H5 v (valsO v oa)) tt (.tup ((FD D.outs fun o => V.int (outC D (stf D.N.names j0) (leastC D (stf D.N.names j0) [nm]) o : Nat)).map (·.2)))) e (.tup [.int (idx (ins1 o' s'') s'' : Nat), .ref tt]) = H6 at s6 htt6 he6 ⊢
          refine ⟨_, rfl, _, rfl, rw_, _, rfl, .inl ⟨_, .inr nm, s6 _ _ hrwl, rfl, (by rw [fd_len, List.length_take]; exact small1000 (by omega)), rfl⟩, ?_⟩
          refine hD _ _ ⟨_, _, _, rfl, ?_⟩
          rw [fd_snoc f hnmt]
          have erow : FD (D.ins.take i) f ++ [(.inr nm, V.ref e)] = FD (D.ins.take (i + 1)) fun m => if m = nm then .ref e else f m := by
            rw [htk]; exact fd_snoc_if hnmt
          rw [erow]
          have sU6 : Same (U H5) (U H6) := un_same s6
          have eU : U (upd H6 rw_ (.dK (FD (D.ins.take (i + 1)) fun m => if m = nm then .ref e else f m))) = upd (U H6) rw_ (.dK (FD (D.ins.take (i + 1)) fun m => if m = nm then .ref e else f m)) := upd_comm nri
          have hrw6 := sU6 _ _ hrw5
          have hts : TS (U H6) (upd (U H6) rw_ (.dK (FD (D.ins.take (i + 1)) fun m => if m = nm then .ref e else f m))) := ts_upd hrw6 (fun xs z => nomatch z)
          have hti : TS H6 (U H6) := fun b xs q => by
            have : b ≠ id := fun z => by subst z; rw [s6 _ _ hz5] at q; cases q
            exact (upd_ne this).trans q
          refine ⟨(upd_ne (Ne.symm nri)).trans (s6 _ _ hz5), ?_⟩
          rw [eU]
          refine ⟨same_mut (sU5.trans sU6) hrn, ⟨vs3, (upd_ne (ne_of (sU6 _ _ hol5) hrw6 (by intro z; cases z))).trans (sU6 _ _ hol5), hvk5, ?_⟩, ?_, (upd_ne (ne_of (sU6 _ _ hsl5) hrw6 (by intro z; cases z))).trans (sU6 _ _ hsl5), ?_, hur, fun m => if m = nm then .ref e else f m, upd_same, ?_⟩
          · rw [hvnext]
            exact Paired.mapP hpv5 fun v b h => DD.wr (mCSt _) hrw6 (fun k z hc => fd_ne ok (fun x hx => List.mem_of_mem_take hx) (hc.1.symm.trans (HO.dK.inj z).symm)) (fun xs z => nomatch z) (DD.mono (mCSt _) sU6 h)
          · rw [hvnext]
            exact (upd_ne (ne_of (sU6 _ _ hfd5) hrw6 (by intro z; cases z))).trans (sU6 _ _ hfd5)
          · refine paired_imp_mem hpu5 fun v r hv h => ?_
            obtain ⟨a, k, ev, h1, h2⟩ := h
            have na : a ≠ rw_ := fun z => hur v hv (by rw [ev, z])
            exact ⟨a, k, ev, (upd_ne na).trans (sU6 _ _ h1), (h2.mono (ts_of sU6)).mono hts⟩
          · intro m hm
            rw [hvnext]
            dsimp only
            rw [htk] at hm
            by_cases em : m = nm
            · subst em
              rw [if_pos rfl]
              have : stepOf D.ins (r' ++ [(idx (ins1 o' s'') s'', ou)]) m = (idx (ins1 o' s'') s'', ou) := by
                unfold stepOf
                have : D.ins.idxOf m = i := idx_at ok.indd hnmi
                rw [this, List.getD, List.getElem?_append_right (by omega), hrl, Nat.sub_self]; rfl
              rw [this]
              exact ⟨e, tt, rfl, hts _ _ (hti _ _ he6), hts _ _ (hti _ _ htt6)⟩
            · rw [if_neg em]
              have hm : m ∈ D.ins.take i := by rcases List.mem_append.mp hm with h | h; exact h; simp at h; exact absurd h em
              have : stepOf D.ins (r' ++ [(idx (ins1 o' s'') s'', ou)]) m = stepOf D.ins r' m := by
                unfold stepOf
                obtain ⟨j, hj⟩ := List.mem_iff_getElem?.mp hm
                have hji : j < i := by have := (List.getElem?_eq_some_iff.mp hj).1; rw [List.length_take] at this; omega
                rw [List.getElem?_take_of_lt hji] at hj
                have : D.ins.idxOf m = j := idx_at ok.indd hj
                rw [this, List.getD, List.getD, List.getElem?_append_left (by omega)]
              rw [this]
              exact ((hst5 m hm).mono (ts_of sU6)).mono hts
        have hfd10l : H10 fd = some (.dT (foundT o')) := sL _ _ (un_get hfd (by intro z; cases z))
        refine ⟨_, rfl, _, rfl, fd, _, rfl, .inr ⟨_, kOf s'', kt, .inl hfd10l, rfl, hkt10, rfl⟩, ?_⟩
        have hpu10 : Paired (RowD (U H10) D.ins) us r0 := Paired.mapP hpu2 fun v b h => DD.mono (mCRo _) sLU h
        have hpv10 : Paired (StandD (U H10) D.N.names) vs2 o' := Paired.mapP hpv2 fun v b h => DD.mono (mCSt _) sLU h
        have hst10 : ∀ m ∈ D.ins.take i, StepAt (U H10) (f m) (stepOf D.ins r' m) := fun m hm => (hst m hm).mono (ts_of sLU)
        by_cases hmem : s'' ∈ o'
        · rw [found_in hmem]
          refine ⟨false, rfl, iteF ?_⟩
          have ei : ins1 o' s'' = o' := by unfold ins1; rw [if_pos hmem]
          exact rest _ H10 (fun σ' H' h => h) hz10 (sU.trans sLU) ⟨vs2, sLU _ _ hol, hvk2, by rw [ei]; exact hpv10⟩ (by rw [ei]; exact sLU _ _ hfd) (sLU _ _ hsl) hpu10 (sLU _ _ hrow) hst10 hkt10 hq10 hoa10
        · rw [found_out hmem]
          have ei : ins1 o' s'' = o' ++ [s''] := by unfold ins1; rw [if_neg hmem]
          have hv2l : vs2.length = o'.length := Paired.length hpv2
          have gol10 := sL _ _ gol
          refine ⟨true, rfl, iteT ?_⟩
          refine ⟨_, rfl, ol, vs2, rfl, .inl (SqL.of gol10), rfl, false, ?_, iteF ?_⟩
          · have : ¬ V.int (vs2.length : Nat) = V.int 1500 := fun z => by have := V.int.inj z; omega
            rw [decide_eq_false this]
          refine ⟨_, rfl, ol, vs2, rfl, .inl (SqL.of gol10), _, rfl, _, rfl, fd, _, rfl, .inr ⟨_, kOf s'', kt, hfd10l, rfl, hkt10, (by unfold foundT; rw [List.length_map]; exact szl (by omega)), rfl⟩, ?_⟩
          rw [hv2l, found_put hmem]
          have nfi : fd ≠ id := ne_of hfd10l hz10 (by intro z; cases z)
          have nli : ol ≠ id := ne_of gol10 hz10 (by intro z; cases z)
          have nfo : fd ≠ ol := ne_of hfd10l gol10 (by intro z; cases z)
          have gsd : ∀ {a : Addr} {o : HO}, H10 a = some o → a ≠ fd → upd H10 fd (.dT (foundT (o' ++ [s'']))) a = some o := fun h n => (upd_ne n).trans h
          refine ⟨_, rfl, .inl ⟨rfl, _, SqL.of (gsd gol10 (Ne.symm nfo))⟩, _, rfl, q2, _, qx2, _, _, rfl, gsd hq10 (ne_of hq10 hfd10l (by intro z; cases z)), T.cl_Settled, T.a_Settled_standing, rfl, ol, vs2, _, rfl, rfl, gsd gol10 (Ne.symm nfo), szl (by omega), ?_⟩
          have eU : U (upd (upd H10 fd (.dT (foundT (o' ++ [s''])))) ol (.lst (vs2 ++ [.ref sd2]))) = upd (upd (U H10) fd (.dT (foundT (o' ++ [s''])))) ol (.lst (vs2 ++ [.ref sd2])) := by
            show upd (upd (upd H10 fd _) ol _) id _ = _
            rw [upd_comm nli, upd_comm nfi]
          have U1 := sLU _ _ hfd
          have U2 := sLU _ _ hol
          have U2' : upd (U H10) fd (.dT (foundT (o' ++ [s'']))) ol = some (.lst vs2) := (upd_ne (Ne.symm nfo)).trans U2
          have tsA : TS (U H10) (upd (upd (U H10) fd (.dT (foundT (o' ++ [s''])))) ol (.lst (vs2 ++ [.ref sd2]))) := (ts_upd U1 (fun xs z => nomatch z)).trans (ts_upd U2' (fun xs z => nomatch z))
          have gg : ∀ {a : Addr} {o : HO}, H10 a = some o → a ≠ fd → a ≠ ol → upd (upd H10 fd (.dT (foundT (o' ++ [s''])))) ol (.lst (vs2 ++ [.ref sd2])) a = some o := fun h n1 n2 => (upd_ne n2).trans ((upd_ne n1).trans h)
          have gU : ∀ {a : Addr} {o : HO}, U H10 a = some o → a ≠ fd → a ≠ ol → upd (upd (U H10) fd (.dT (foundT (o' ++ [s''])))) ol (.lst (vs2 ++ [.ref sd2])) a = some o := fun h n1 n2 => (upd_ne n2).trans ((upd_ne n1).trans h)
          have nsi : sd2 ≠ id := ne_of hsd10 hz10 (by intro z; cases z)
          refine rest _ _ (fun σ' H' h => h) (gg hz10 (Ne.symm nfi) (Ne.symm nli)) ?_ ?_ ?_ ?_ ?_ ?_ ?_ (gg hkt10 (ne_of hkt10 hfd10l (by intro z; cases z)) (ne_of hkt10 gol10 (by intro z; cases z))) (gg hq10 (ne_of hq10 hfd10l (by intro z; cases z)) (ne_of hq10 gol10 (by intro z; cases z))) (gg hoa10 (ne_of hoa10 hfd10l (by intro z; cases z)) (ne_of hoa10 gol10 (by intro z; cases z)))
          · rw [eU]; exact same_mut (same_mut (sU.trans sLU) hfdn) hon
          · rw [eU, ei]
            refine ⟨vs2 ++ [.ref sd2], upd_same, by rw [List.getElem?_append_left (List.getElem?_eq_some_iff.mp hvk2).1]; exact hvk2, paired_app ⟨sd2, _, rfl, gU ((upd_ne nsi).trans hsd10) (ne_of hsd10 hfd10l (by intro z; cases z)) (ne_of hsd10 gol10 (by intro z; cases z)), rfl, hok'.len⟩ (Paired.mapP hpv10 fun v b h => DD.wr (mCSt _) U2' (fun k z => nomatch z) (fun xs z => nomatch z) (DD.wr (mCSt _) U1 (fun k z => nomatch z) (fun xs z => nomatch z) h))⟩
          · rw [eU, ei]; exact (upd_ne nfo).trans upd_same
          · rw [eU]; exact gU (sLU _ _ hsl) (ne_of (sLU _ _ hsl) U1 (by intro z; cases z)) (Ne.symm nos)
          · rw [eU]; exact Paired.mapP hpu10 fun v b h => DD.wr (mCRo _) U2' (fun k z => nomatch z) (fun xs z => nomatch z) (DD.wr (mCRo _) U1 (fun k z => nomatch z) (fun xs z => nomatch z) h)
          · rw [eU]; exact gU (sLU _ _ hrow) (ne_of (sLU _ _ hrow) U1 (by intro z; cases z)) (ne_of (sLU _ _ hrow) U2 (by intro z; cases z))
          · rw [eU]; exact fun m hm => (hst10 m hm).mono tsA
      · rintro σ Hl ⟨x7, x8, x9, rfl, hz, sU, ⟨vs2, hol, hvk2, hpv2⟩, hfd, hsl, hpu2, hur, f, hrow, hst⟩
        rw [List.take_length] at *
        refine ⟨hz, ?_⟩
        have hrl : (visit (nx D) s D.ins o0 []).2.length = D.ins.length := by rw [visit_rlen]; simp
        refine ⟨_, rfl, .inl ⟨rfl, _, SqL.of hsl⟩, _, rfl, sl, us, _, rfl, rfl, hsl, szl (by omega), ?_⟩
        have nro : rw_ ≠ ol := ne_of hrow hol (by intro z; cases z)
        have nso : sl ≠ ol := Ne.symm nos
        have sW : Same H (upd (U Hl) sl (.lst (us ++ [.ref rw_]))) := same_mut sU hsn
        refine ⟨n - (kk + 1), by omega, kk + 1, _, _, _, _, rfl, ⟨sW, vs2, us ++ [.ref rw_], (upd_ne nos).trans hol, ?_, (upd_ne (ne_of hfd hsl (by intro z; cases z))).trans ?_, upd_same, ?_⟩, hkn2, rfl⟩
        · rw [hstep]; exact Paired.mapP hpv2 fun v b h => DD.wr (mCSt _) hsl (fun k z => nomatch z) (fun xs z => nomatch z) h
        · rw [hstep]; exact hfd
        · rw [hstep]
          refine paired_app ⟨rw_, _, rfl, (upd_ne (ne_of hrow hsl (by intro z; cases z))).trans hrow, f, rfl, hrl, fun m hm => (hst m hm).mono (ts_upd hsl (fun xs z => nomatch z))⟩ (Paired.mapP hpu2 fun v b h => DD.wr (mCRo _) hsl (fun k z => nomatch z) (fun xs z => nomatch z) h)
    · have hc : ¬ (us.length : Int) < (vs.length : Nat) := fun z => hc (decide_eq_true z)
      have hkn2 : kk = n := by
        rcases Nat.lt_or_eq_of_le hkn with h | h
        · have := hgo h; omega
        · exact h
      subst hkn2
      have hbl : (bk (nx D) D.ins s0 kk).2.length = kk := hbe.len
      have hbf := hbe.fin
      refine ⟨_, rfl, _, rfl, fun x qx hx hqx nqx => ?_⟩
      have sp := same_pre (o1 := .own x) (o2 := .ins T.kWays.C qx []) (Same.refl H7) hx hqx
      refine ⟨x, qx, ol, sl, vs, us, D.N.names, D.ins, _, _, rfl, upd_same, .inl (sp _ _ hol7), .inl (sp _ _ hsl7), Paired.mapP hpv fun v b h => DD.mono (mCSt _) sp h, Paired.mapP hpu fun v b h => DD.mono (mCRo _) sp h, by omega, by omega, fun H8 sb hW => ⟨rfl, ?_⟩⟩
      exact k x H8 (same_make s07 hx hqx sb) hW
end
end Bc
end
section
set_option Elab.async false
set_option linter.all false
set_option maxRecDepth 100000
set_option maxHeartbeats 4000000
set_option pp.maxSteps 300
/-! The walk: Ways compared, measured, followed. -/
namespace Bc
open PySem L2
section
variable {K : PySem.W.Frag} {H : Hp}
theorem eqT_flat {n : Nat} {x : V} (h : flatV x = true) : EqT K H n x x := by
  cases n with
  | zero => exact ⟨rfl, h⟩
  | succ n => exact .inl ⟨rfl, h⟩
theorem paired_self {α : Type} {F : α → α → Prop} (h : ∀ a, F a a) : ∀ l : List α, Paired F l l
  | [] => .nil
  | a :: l => .cons (h a) (paired_self h l)
theorem paired_refl_map {α β : Type} {F : β → β → Prop} (f : α → β) (h : ∀ a, F (f a) (f a)) : ∀ l : List α, Paired F (l.map f) (l.map f)
  | [] => .nil
  | a :: l => .cons (h a) (paired_refl_map f h l)
theorem fd_mem_val {ns : List Str} {f : Str → V} {p : Key × V} (h : p ∈ FD ns f) : ∃ n ∈ ns, p = (.inr n, f n) := by
  unfold FD at h
  obtain ⟨n, hn, e⟩ := List.mem_map.mp h
  exact ⟨n, hn, e.symm⟩
theorem eqT_stand {ns : List Str} {v v' : V} {s : List Nat} (h : StandD H ns v s) (h' : StandD H ns v' s) (n : Nat) : EqT K H (n + 1) v v' := by
  obtain ⟨a, k, rfl, h1, rfl, _⟩ := h
  obtain ⟨b, l, rfl, g1, rfl, _⟩ := h'
  refine .inr (.inr (.inr (.inr ⟨a, b, _, _, rfl, rfl, .inl h1, .inl g1, rfl, fun p hp => ?_⟩)))
  obtain ⟨m, hm, rfl⟩ := fd_mem_val hp
  exact ⟨_, fd_in hm, eqT_flat rfl⟩
theorem eqT_row {ins : List Str} {v v' : V} {r : List (Nat × List Nat)} (h : RowD H ins v r) (h' : RowD H ins v' r) (n : Nat) : EqT K H (n + 3) v v' := by
  obtain ⟨a, k, rfl, h1, f, rfl, _, hs⟩ := h
  obtain ⟨b, l, rfl, g1, f', rfl, _, hs'⟩ := h'
  refine .inr (.inr (.inr (.inr ⟨a, b, _, _, rfl, rfl, .inl h1, .inl g1, by rw [fd_len, fd_len], fun p hp => ?_⟩)))
  obtain ⟨m, hm, rfl⟩ := fd_mem_val hp
  refine ⟨_, fd_in hm, ?_⟩
  obtain ⟨c, d, e1, c1, c2⟩ := hs m hm
  obtain ⟨c', d', e2, d1, d2⟩ := hs' m hm
  show EqT K H (n + 2) (f m) (f' m)
  rw [e1, e2]
  refine .inr (.inr (.inr (.inl ⟨c, c', _, _, rfl, rfl, SqT.of c1, SqT.of d1, .cons (eqT_flat rfl) (.cons ?_ .nil)⟩)))
  exact .inr (.inr (.inr (.inl ⟨d, d', _, _, rfl, rfl, SqT.of c2, SqT.of d2, paired_refl_map _ (fun _ => eqT_flat rfl) _⟩)))
theorem paired_two {α β γ : Type} {F : α → γ → Prop} {G : β → γ → Prop} {R : α → β → Prop} (h : ∀ a b c, F a c → G b c → R a b) : ∀ {l : List α} {m : List β} {o : List γ}, Paired F l o → Paired G m o → Paired R l m
  | _, _, _, .nil, .nil => .nil
  | _, _, _, .cons g r, .cons g' r' => .cons (h _ _ _ g g') (paired_two h r r')
end
theorem WaysAt.mono {CW : Addr} {H H' : Hp} {q : Addr} {ns ins : List Str} {o : List (List Nat)} {rows : List (List (Nat × List Nat))} (h : WaysAt CW H q ns ins o rows) (s : Same H H') : WaysAt CW H' q ns ins o rows := by
  obtain ⟨qx, sl, tl, vs, us, h1, h2, h3, h4, h5⟩ := h
  exact ⟨qx, sl, tl, vs, us, s _ _ h1, s _ _ h2, Paired.mapP h3 fun v b h => DD.mono (mCSt _) s h, s _ _ h4, Paired.mapP h5 fun v b h => DD.mono (mCRo _) s h⟩
def sp_Ways_eq (CW : Addr) : Sp := fun vs H Q _ => ∃ (a b : Addr) (ns ins : List Str) (o o' : List (List Nat)) (rows rows' : List (List (Nat × List Nat))), vs = [.ref a, .ref b] ∧ WaysAt CW H a ns ins o rows ∧ WaysAt CW H b ns ins o' rows' ∧
  ((o = o' ∧ rows = rows' ∧ ∀ H', Same H H' → Q (.bl true) H') ∨ (o.length ≠ o'.length ∧ rows.length ≠ rows'.length ∧ ∀ H', Same H H' → Q (.bl false) H'))
def sp_Ways_len (CW : Addr) : Sp := fun vs H Q _ => ∃ (a : Addr) (ns ins : List Str) (o : List (List Nat)) (rows : List (List (Nat × List Nat))), vs = [.ref a] ∧ WaysAt CW H a ns ins o rows ∧ Q (.int (o.length : Nat)) H
def sp_Ways_shows (CW CN : Addr) : Sp := fun vs H Q _ => ∃ (a p sd : Addr) (D : Nd) (s0 : List Nat) (n : Nat) (o : List (List Nat)) (rows : List (List (Nat × List Nat))), vs = [.ref a, .ref p, .ref sd] ∧ NetU CN H p D ∧ D.Ok ∧ D.ins ≠ [] ∧ D.N.names.length ≤ 3 ∧ endsB D = true ∧ H sd = some (.dK (FD D.N.names fun n => .int (stf D.N.names s0 n : Nat))) ∧
  OkS D s0 ∧ EndsAll D ∧ BEnd (nx D) D.ins s0 n ∧ n ≤ 250 ∧ WaysAt CW H a D.N.names D.ins o rows ∧
  ((o = (bk (nx D) D.ins s0 n).1 ∧ rows = (bk (nx D) D.ins s0 n).2 ∧ ∀ H', Same H H' → Q (.bl true) H') ∨ (o.length ≠ n ∧ rows.length ≠ n ∧ ∀ H', Same H H' → Q (.bl false) H'))
/-- a list followed -/
def folw (rows : List (List (Nat × List Nat))) (ins : List Str) : List Str → Nat → List Nat → Nat × List Nat
  | [], n, f => (n, f)
  | a :: as, n, f => folw rows ins as (stepOf ins (rows.getD n []) a).1 (List.zipWith (· + ·) f (stepOf ins (rows.getD n []) a).2)
def sp_Ways_follow (CW : Addr) : Sp := fun vs H Q _ => ∃ (a rv : Addr) (num : Nat) (ns ins : List Str) (o : List (List Nat)) (rows : List (List (Nat × List Nat))) (wd : List Str) (m : Nat), vs = [.ref a, .ref rv, .int (num : Nat)] ∧ WaysAt CW H a ns ins o rows ∧ LT H rv (wd.map V.str) ∧ wd.length ≤ 1000 ∧ ins ≠ [] ∧ (∀ x ∈ wd, x ∈ ins) ∧ num < rows.length ∧
  (∀ r ∈ rows, r.length = ins.length ∧ ∀ g ∈ r, g.1 < rows.length ∧ g.2.length = m) ∧ m ≤ 1000 ∧ ∀ t ft H', Same H H' → H' t = some (.tup [.int ((folw rows ins wd num (List.replicate m 0)).1 : Nat), .ref ft]) → H' ft = some (.tup ((folw rows ins wd num (List.replicate m 0)).2.map fun x => V.int (x : Nat))) → Q (.ref t) H'
section
variable {P : Program} {w : World} {K : PySem.W.Frag} {mg : Str → Option Value} {base : Heap}
theorem ok_Ways_len (T : Tx K mg) : FnOk P w K mg base CX0 1 T.Ways_len.f T.Ways_len.fd ["self"] (sp_Ways_len T.kWays.C) := by
  refine T.Ways_len.F.ok sc_Ways_len (fun vs H Q E h => ?_) (fun cdv A outer s H vs Q E hr h => ?_)
  · obtain ⟨a, ns, ins, o, rows, rfl, _⟩ := h; rfl
  · obtain ⟨a, ns, ins, o, rows, rfl, ⟨qx, sl, tl, vs, us, h1, h2, h3, h4, h5⟩, k⟩ := h
    refine ⟨_, (pss_one (ps_ret (pe_callB (id := "len") call_len_seq (by rfl) T.b_len PySem.boot_len (pa_cons (pe_fld (pv 0) rfl) pa_nil)))), ?_⟩
    refine ⟨_, rfl, a, _, qx, _, _, rfl, h1, T.cl_Ways, T.a_Ways_standings, rfl, sl, vs, rfl, .inl (SqL.of h2), ?_⟩
    rw [Paired.length h3]; exact k
theorem ok_Ways_eq (T : Tx K mg) : FnOk P w K mg base CX0 1 T.Ways_eq.f T.Ways_eq.fd ["self", "other"] (sp_Ways_eq T.kWays.C) := by
  refine T.Ways_eq.F.ok sc_Ways_eq (fun vs H Q E h => ?_) (fun cdv A outer s H vs Q E hr h => ?_)
  · obtain ⟨a, b, ns, ins, o, o', rows, rows', rfl, _⟩ := h; rfl
  · obtain ⟨a, b, ns, ins, o, o', rows, rows', rfl, ⟨qx, sl, tl, vs, us, h1, h2, h3, h4, h5⟩, ⟨qy, sm, tm, vs', us', g1, g2, g3, g4, g5⟩, k⟩ := h
    refine ⟨_, (pss_one (ps_ret (pe_and (pe_callB (id := "isinstance") call_isi rfl T.b_isinstance (by decide +kernel) (pa_cons (pv 1) (pa_cons (pe_glob (v := .ref T.kWays.C) rfl T.m_Ways rfl) pa_nil))) (pe_one (pe_cmpR (OpR.or (op_eqTup hr.units) (op_eqOff hr.units)) (pe_tup (pa_cons (pe_fld (pv 0) rfl) (pa_cons (pe_fld (pv 0) rfl) pa_nil))) (pe_tup (pa_cons (pe_fld (pv 1) rfl) (pa_cons (pe_fld (pv 1) rfl) pa_nil))) (nomark _)))))), ?_⟩
    refine ⟨_, rfl, _, _, _, _, true, rfl, .own _, T.kWays.ins g1, T.kWays.kit, true, rfl, iteT ?_⟩
    refine ⟨_, rfl, a, _, qx, _, _, rfl, h1, T.cl_Ways, T.a_Ways_standings, rfl, _, rfl, a, _, qx, _, _, rfl, h1, T.cl_Ways, T.a_Ways_steps, rfl, sz (by show 2 ≤ 100000; omega), fun p hp => ?_⟩
    have s1 := same_new (o := .tup [.ref sl, .ref tl]) hp
    refine ⟨_, rfl, b, _, qy, _, _, rfl, s1 _ _ g1, T.cl_Ways, T.a_Ways_standings, rfl, _, rfl, b, _, qy, _, _, rfl, s1 _ _ g1, T.cl_Ways, T.a_Ways_steps, rfl, sz (by show 2 ≤ 100000; omega), fun q hq => ?_⟩
    have s2 := s1.trans (same_new (o := .tup [.ref sm, .ref tm]) hq)
    have hp2 : (upd (upd H p (.tup [.ref sl, .ref tl])) q (.tup [.ref sm, .ref tm])) p = some (.tup [.ref sl, .ref tl]) := same_new hq _ _ upd_same
    have hq2 : (upd (upd H p (.tup [.ref sl, .ref tl])) q (.tup [.ref sm, .ref tm])) q = some (.tup [.ref sm, .ref tm]) := upd_same
    generalize upd (upd H p (.tup [.ref sl, .ref tl])) q (.tup [.ref sm, .ref tm]) = H2 at s2 hp2 hq2 ⊢
    rcases k with ⟨rfl, rfl, k⟩ | ⟨n1, n2, k⟩
    · refine .inl ⟨p, q, _, _, rfl, rfl, SqT.of hp2, SqT.of hq2, .cons ?_ (.cons ?_ .nil), k H2 s2⟩
      · exact .inr (.inr (.inl ⟨sl, sm, _, _, rfl, rfl, SqL.of (s2 _ _ h2), SqL.of (s2 _ _ g2), paired_two (R := EqT K H2 39) (F := StandD H ns) (G := StandD H ns) (fun x y c f g => eqT_stand (DD.mono (mCSt _) s2 f) (DD.mono (mCSt _) s2 g) 38) h3 g3⟩))
      · exact .inr (.inr (.inl ⟨tl, tm, _, _, rfl, rfl, SqL.of (s2 _ _ h4), SqL.of (s2 _ _ g4), paired_two (R := EqT K H2 39) (F := RowD H ins) (G := RowD H ins) (fun x y c f g => eqT_row (DD.mono (mCRo _) s2 f) (DD.mono (mCRo _) s2 g) 36) h5 g5⟩))
    · refine .inr ⟨p, q, sl, tl, sm, tm, vs, us, vs', us', rfl, rfl, SqT.of hp2, SqT.of hq2, SqL.of (s2 _ _ h2), SqL.of (s2 _ _ h4), SqL.of (s2 _ _ g2), SqL.of (s2 _ _ g4), ?_, ?_, k H2 s2⟩
      · rw [Paired.length h3, Paired.length g3]; exact n1
      · rw [Paired.length h5, Paired.length g5]; exact n2
theorem ok_Ways_shows (T : Tx K mg) : FnOk P w K mg base CX0 7 T.Ways_shows.f T.Ways_shows.fd ["self", "net", "standing"] (sp_Ways_shows T.kWays.C T.kNet.C) := by
  refine T.Ways_shows.F.ok sc_Ways_shows (fun vs H Q E h => ?_) (fun cdv A outer s H vs Q E hr h => ?_)
  · obtain ⟨a, p, sd, D, s0, n, o, rows, rfl, _⟩ := h; rfl
  · obtain ⟨a, p, sd, D, s0, n, o, rows, rfl, NU, ok, hin, h3, hends, hsd, hs0, hea, hbe, h250, hW, k⟩ := h
    refine ⟨_, PSs.nox (pss_one (ps_ret (pe_cmpR (op_eqOwn (ok_Ways_eq T) T.Ways_eq.m.at_ T.Ways_eq.m.fn T.Ways_eq.b pass0 (hr.mono (by decide))) (pv 0) (pe_call (ok_ways T) (hr.mono (by decide)) rfl T.ways.m T.ways.F.kp T.ways.b .nil pass0 (pa_cons (pv 1) (pa_cons (pv 2) pa_nil))) (nomark _)))), ?_⟩
    refine ⟨_, rfl, _, rfl, _, rfl, p, sd, D, s0, n, rfl, NU, ok, hin, h3, hends, hsd, hs0, hea, hbe, h250, fun q H1 s1 hWq => ?_⟩
    have hWa := hW.mono s1
    obtain ⟨qx, sl, tl, vs, us, a1, a2, a3, a4, a5⟩ := id hWa
    obtain ⟨qy, sm, tm, vs', us', b1, b2, b3, b4, b5⟩ := id hWq
    refine ⟨a, q, qx, qy, _, _, rfl, rfl, a1, b1, a, q, D.N.names, D.ins, o, _, rows, _, rfl, hWa, hWq, ?_⟩
    rcases k with ⟨e1, e2, k⟩ | ⟨n1, n2, k⟩
    · exact .inl ⟨e1, e2, fun H' s' => ⟨true, rfl, k H' (s1.trans s')⟩⟩
    · exact .inr ⟨by rw [hbe.fin]; exact n1, by rw [hbe.len]; exact n2, fun H' s' => ⟨false, rfl, k H' (s1.trans s')⟩⟩
theorem ok_Ways_follow (T : Tx K mg) : FnOk P w K mg base CX0 1 T.Ways_follow.f T.Ways_follow.fd ["self", "rows", "number"] (sp_Ways_follow T.kWays.C) := by
  refine T.Ways_follow.F.ok sc_Ways_follow (fun vs H Q E h => ?_) (fun cdv A outer s H vs Q E hr h => ?_)
  · obtain ⟨a, rv, num, ns, ins, o, rows, wd, m, rfl, _⟩ := h; rfl
  · obtain ⟨a, rv, num, ns, ins, o, rows, wd, m, rfl, ⟨qx, sl, tl, vs, us, h1, h2, h3, h4, h5⟩, hrv, hwl, hin, hwd, hnum, hrows, hm, k⟩ := h
    have hul : us.length = rows.length := Paired.length h5
    refine ⟨_, PSs.nox (pss_cons (ps_set (i := 3) sc_Ways_follow.nd rfl (.inl rfl) (pe_callTy (T := "tuple") (call_tuple_of) rfl T.b_tuple (by decide +kernel) (pa_cons (pe_lc (own := [("many", 6)]) rfl sc_Ways_follow.nd (pi_tup (pe_ix ix_tup (pe_ix ix_list (pe_callTy (T := "list") (call_listV rfl) rfl T.b_list (by decide +kernel) (pa_cons (pe_bm0 PySem.F.plainAttrs_dict PySem.F.slot_dict_values PySem.F.type_dict_values mt_valsK (pe_ix ix_list (pe_fld (pv 0) rfl) pe_int (fun _ _ => rfl))) pa_nil)) pe_int (fun _ _ => rfl)) pe_int (fun _ _ => rfl))) (blkOk_by (N := N_Ways_follow) (sc := defScope s_Ways_follow) (by decide +kernel)) (fun _ _ _ _ _ => pg_name (i := 6) sc_Ways_follow.nd rfl (.inl rfl)) (fun _ _ _ _ _ => pts_nil) (fun _ _ _ _ _ => pe_int)) pa_nil)))
      (pss_cons (ps_for PassesOwn.never rfl (PI.orI (pi_list (pv 1)) (pi_tup (pv 1))) (pg_name (i := 4) sc_Ways_follow.nd rfl (.inl rfl)) (pss_cons (ps_asg (pe_dget (hu_of hr) (pe_ix ix_list (pe_fld (pv 0) rfl) (pv 2) (fun _ _ => rfl)) (pv 4) (fun _ _ => rfl)) (pg_tup rfl (pgs_cons (pg_name (i := 2) sc_Ways_follow.nd rfl (.inl rfl)) (pgs_cons (pg_name (i := 5) sc_Ways_follow.nd rfl (.inl rfl)) pgs_nil))))
        (pss_one (ps_set (i := 3) sc_Ways_follow.nd rfl (.inl rfl) (pe_callTy (T := "tuple") (call_tuple_of) rfl T.b_tuple (by decide +kernel) (pa_cons (pe_lc (own := [("one", 7), ("more", 8)]) rfl sc_Ways_follow.nd (RZ.pi_zipA rfl T.b_zip (pa_cons (pv 3) (pa_cons (pv 5) pa_nil))) (blkOk_by (N := N_Ways_follow) (sc := defScope s_Ways_follow) (by decide +kernel)) (fun _ _ _ _ _ => pg_tupK (K := K) (n := 2) rfl rfl (pgs_cons (pg_name (i := 7) sc_Ways_follow.nd rfl (.inl rfl)) (pgs_cons (pg_name (i := 8) sc_Ways_follow.nd rfl (.inl rfl)) pgs_nil))) (fun _ _ _ _ _ => pts_nil) (fun _ _ _ _ _ => pe_op op_add (pv 7) (pv 8))) pa_nil))))))
      (pss_one (ps_ret (pe_tup (pa_cons (pv 2) (pa_cons (pv 3) pa_nil))))))), ?_⟩
    -- the first row's first entry
    have hu0 : us[0]? = some us[0] := List.getElem?_eq_getElem (by omega)
    have hr0 : rows[0]? = some rows[0] := List.getElem?_eq_getElem (by omega)
    obtain ⟨r0, kv0, e0, hr0a, f0, rfl, hr0l, hst0⟩ := paired_at h5 hu0 hr0
    obtain ⟨i0, hi0⟩ : ∃ i0, ins[0]? = some i0 := ⟨_, List.getElem?_eq_getElem (List.length_pos_iff.mpr hin)⟩
    have hi0m := List.mem_of_getElem? hi0
    obtain ⟨c0, d0, ec0, hc0, hd0⟩ := hst0 i0 hi0m
    have hml : (stepOf ins rows[0] i0).2.length = m := by
      unfold stepOf
      have hlt : ins.idxOf i0 < rows[0].length := by rw [hr0l]; exact List.idxOf_lt_length_iff.mpr hi0m
      rw [List.getD, List.getElem?_eq_getElem hlt]
      exact ((hrows _ (List.getElem_mem _)).2 _ (List.getElem_mem _)).2
    have hf0 : ((FD ins f0).map (·.2))[0]? = some (f0 i0) := by rw [fd_vals, List.getElem?_map, hi0]; rfl
    refine ⟨_, rfl, a, _, qx, _, _, rfl, h1, T.cl_Ways, T.a_Ways_steps, rfl, tl, us, _, _, rfl, rfl, SqL.of h4, atI_nat (j := 0) hu0, ?_⟩
    rw [e0]
    refine ⟨.inr (.inr (.inl ⟨rfl, .inl ⟨_, hr0a⟩⟩)), _, _, rfl, rfl, .inl hr0a, fun v hv => ⟨v, _, _, rfl, upd_same, .inl (same_new hv _ _ hr0a), fun l hl => ?_⟩⟩
    have s1 : Same H (upd (upd H v (valsO v r0)) l (.lst ((FD ins f0).map (·.2)))) := (same_new hv).trans (same_new hl)
    have hl1 : (upd (upd H v (valsO v r0)) l (.lst ((FD ins f0).map (·.2)))) l = some (.lst ((FD ins f0).map (·.2))) := upd_same
    generalize upd (upd H v (valsO v r0)) l (.lst ((FD ins f0).map (·.2))) = H1 at s1 hl1 ⊢
    refine ⟨l, _, _, _, rfl, rfl, SqL.of hl1, atI_nat (j := 0) hf0, ?_⟩
    rw [ec0]
    refine ⟨c0, _, _, _, rfl, rfl, SqT.of (s1 _ _ hc0), atI_1, d0, rfl, ⟨_, SqT.of (s1 _ _ hd0)⟩, fun q hq => ?_⟩
    have hw0 := walk_tup (K := K) (a := d0) (xs := (stepOf ins rows[0] i0).2.map fun x => V.int (x : Nat))
    rw [List.length_map, hml] at hw0
    refine lc_vals hw0 (by omega) hq (fun _ => .int 0) (fun x => rfl) (fun H' s' => SqT.of (s' _ _ (s1 _ _ hd0))) (fun i x hi hx H' s' Q' q' => q' H' (Same.refl H')) (fun H2 s2 hq2 => ?_)
    refine ⟨q, _, rfl, .inl ⟨SqL.of hq2, fun ft hft => ?_⟩⟩
    have s3 := (s1.trans s2).trans (same_new (o := .tup ((List.range m).map fun _ => V.int 0)) hft)
    have ez : ((List.range m).map fun _ => V.int 0) = (List.replicate m 0).map fun (x : Nat) => V.int (x : Nat) := by
      apply List.ext_getElem
      · simp
      · intro j h1 h2; simp
    have hft3 : upd H2 ft (.tup ((List.range m).map fun _ => V.int 0)) ft = some (.tup ((List.replicate m 0).map fun (x : Nat) => V.int (x : Nat))) := by rw [upd_same, ez]
    generalize upd H2 ft (.tup ((List.range m).map fun _ => V.int 0)) = H3 at s3 hft3 ⊢
    -- the list
    let Pv : Nat → L2.St → Hp → Prop := fun i σ H' => ∃ (nu ft : Nat) (x4 x5 : Option V) (f : List Nat), σ = [some (.ref a), some (.ref rv), some (.int (nu : Nat)), some (.ref ft), x4, x5, none, none, none] ∧ Same H H' ∧ H' ft = some (.tup (f.map fun x => V.int (x : Nat))) ∧ f.length = m ∧ folw rows ins (wd.drop i) nu f = folw rows ins wd num (List.replicate m 0) ∧ nu < rows.length
    have P0 : Pv 0 [some (.ref a), some (.ref rv), some (.int (num : Nat)), some (.ref ft), none, none, none, none, none] H3 := ⟨num, ft, none, none, List.replicate m 0, rfl, s3, hft3, by simp, rfl, hnum⟩
    refine hrv.elim (fun h => .inl ⟨_, rfl, rv, rfl, ⟨_, SqL.of (s3 _ _ h)⟩, for_it walk_names Pv P0 (fun i σ H' _ p => by obtain ⟨_, _, _, _, _, _, sm, _⟩ := p; exact SqL.of (sm _ _ h)) ?hs ?hd⟩) (fun h => .inr ⟨_, rfl, rv, rfl, ⟨_, SqT.of (s3 _ _ h)⟩, for_it walk_namesT Pv P0 (fun i σ H' _ p => by obtain ⟨_, _, _, _, _, _, sm, _⟩ := p; exact SqT.of (sm _ _ h)) ?hs2 ?hd2⟩)
    case hs | hs2 =>
      rintro i x σ H4 H5 hi ⟨nu, ft4, x4, x5, f, rfl, s4, hf4, hfl, hfo, hnu⟩ ⟨rfl, hx⟩
      rw [List.getElem?_map, List.getElem?_eq_getElem hi] at hx
      cases hx
      generalize hnm : wd[i] = nm
      have hdr : wd.drop i = nm :: wd.drop (i + 1) := by rw [← hnm]; exact List.drop_eq_getElem_cons hi
      have hnmi : nm ∈ ins := by rw [← hnm]; exact hwd _ (List.getElem_mem hi)
      rw [hdr, folw] at hfo
      have hun : us[nu]? = some us[nu] := List.getElem?_eq_getElem (by omega)
      have hrn : rows[nu]? = some (rows.getD nu []) := get_getD hnu
      obtain ⟨ra, kvn, en, hra, fn, rfl, hrl, hstn⟩ := paired_at h5 hun hrn
      obtain ⟨c, d, ec, hc, hd⟩ := hstn nm hnmi
      have hrm := List.mem_of_getElem? hrn
      have hent : (stepOf ins (rows.getD nu []) nm).1 < rows.length ∧ (stepOf ins (rows.getD nu []) nm).2.length = m := by
        unfold stepOf
        have hlt : ins.idxOf nm < (rows.getD nu []).length := by rw [hrl]; exact List.idxOf_lt_length_iff.mpr hnmi
        rw [List.getD, List.getElem?_eq_getElem hlt]
        exact (hrows _ hrm).2 _ (List.getElem_mem _)
      generalize stepOf ins (rows.getD nu []) nm = en2 at *
      refine ⟨_, rfl, a, _, qx, _, _, rfl, s4 _ _ h1, T.cl_Ways, T.a_Ways_steps, rfl, _, rfl, tl, us, _, _, rfl, rfl, SqL.of (s4 _ _ h4), atI_nat hun, ?_⟩
      rw [en]
      refine ⟨_, rfl, ra, _, rfl, dget_in (.inl (s4 _ _ hra)) hnmi, ?_⟩
      rw [ec]
      refine ⟨c, _, rfl, SqT.of (s4 _ _ hc), rfl, _, _, rfl, _, _, rfl, rfl, ?_⟩
      refine ⟨_, rfl, _, rfl, ft4, d, _, _, rfl, .inr ⟨SqT.of hf4, SqT.of (s4 _ _ hd), fun q hq => ?_⟩⟩
      refine lc_it (walk_zipT (n := m) (xs := f.map fun x => V.int (x : Nat)) (ys := en2.2.map fun x => V.int (x : Nat)) (by rw [List.length_map, List.length_map, hfl, hent.2, Nat.min_self])) (fun j H' => Same H5 H' ∧ H' q = some (.lst (((List.zipWith (· + ·) f en2.2).take j).map fun x => V.int (x : Nat)))) ⟨same_new hq, by rw [upd_same]; rfl⟩ (fun j H' _ p => ⟨SqT.of (p.1 _ _ hf4), SqT.of (p.1 _ _ (s4 _ _ hd))⟩) ?_ ?_
      · rintro j x H6 H7 hj ⟨s6, hq6⟩ ⟨T', x, y, rfl, hT, rfl, hx, hy⟩
        have hx' : (f.map fun x => V.int (x : Nat))[j]? = some x := hx
        have hy' : (en2.2.map fun x => V.int (x : Nat))[j]? = some y := hy
        have hj1 : f[j]? = some f[j] := List.getElem?_eq_getElem (by omega)
        have hj2 : en2.2[j]? = some en2.2[j] := List.getElem?_eq_getElem (by omega)
        rw [List.getElem?_map, hj1] at hx'
        rw [List.getElem?_map, hj2] at hy'
        have ex : V.int (f[j] : Nat) = x := Option.some.inj hx'
        have ey : V.int (en2.2[j] : Nat) = y := Option.some.inj hy'
        subst ex ey
        refine ⟨T', _, rfl, SqT.of upd_same, rfl, _, _, rfl, _, _, rfl, rfl, rfl, ?_⟩
        dsimp only [tYes]
        rw [if_pos rfl]
        refine ⟨_, rfl, _, rfl, _, _, rfl, rfl, _, same_new hT _ _ hq6, ?_, same_mut (same_up s6 hT) hq, ?_⟩
        · rw [List.length_map, List.length_take]; exact szl (by omega)
        · rw [upd_same]
          have hz : (List.zipWith (· + ·) f en2.2)[j]? = some (f[j] + en2.2[j]) := by rw [List.getElem?_zipWith, hj1, hj2]
          rw [List.take_succ, hz, List.map_append]; rfl
      · rintro H6 ⟨s6, hq6⟩
        rw [List.take_of_length_le (by rw [List.length_zipWith]; omega)] at hq6
        refine ⟨q, _, rfl, .inl ⟨SqL.of hq6, fun ft7 hft7 => ?_⟩⟩
        exact ⟨en2.1, ft7, _, _, List.zipWith (· + ·) f en2.2, rfl, same_up (s4.trans s6) hft7, upd_same, by rw [List.length_zipWith, hfl, hent.2, Nat.min_self], hfo, hent.1⟩
    case hd | hd2 =>
      rintro σ H4 ⟨nu, ft4, x4, x5, f, rfl, s4, hf4, hfl, hfo, hnu⟩
      rw [List.drop_length, folw] at hfo
      refine ⟨_, rfl, _, rfl, sz (by show 2 ≤ 100000; omega), fun t ht => ?_⟩
      refine k t ft4 _ (same_up s4 ht) ?_ ?_
      · rw [upd_same, ← hfo]
      · rw [← hfo]; exact same_new ht _ _ hf4
end
end Bc
end
section
set_option Elab.async false
set_option linter.all false
set_option maxRecDepth 100000
set_option maxHeartbeats 4000000
set_option pp.maxSteps 300
/-! The walk: two standings told apart. -/
namespace Bc
open PySem L2
def kP (p : Nat × Nat) : List Key := [.inl (p.1 : Int), .inl (p.2 : Int)]
theorem kP_inj {p q : Nat × Nat} (h : kP p = kP q) : p = q := by
  obtain ⟨a, b⟩ := p; obtain ⟨c, d⟩ := q
  unfold kP at h
  have h1 := List.cons.inj h
  have h2 := Sum.inl.inj h1.1
  have h3 := Sum.inl.inj (List.cons.inj h1.2).1
  simp at h2 h3
  rw [Prod.mk.injEq]; omega
def FE (H : Hp) (od : Addr) (kv : List Key × V) (e : (Nat × Nat) × List Str) : Prop := kv.1 = kP e.1 ∧ ∃ a, kv.2 = .ref a ∧ a ≠ od ∧ H a = some (.lst (e.2.map V.str))
def OE (H : Hp) (v : V) (e : (Nat × Nat) × List Str) : Prop := ∃ a, v = .ref a ∧ H a = some (.tup [.int (e.1.1 : Nat), .int (e.1.2 : Nat)])
def FH (H : Hp) (fd od : Addr) (F : TF Str) : Prop := ∃ kvs os, H fd = some (.dT kvs) ∧ Paired (FE H od) kvs F ∧ H od = some (.lst os) ∧ Paired (OE H) os F
theorem FE.mono {H H' : Hp} {od : Addr} {kv : List Key × V} {e : (Nat × Nat) × List Str} (h : FE H od kv e) (g : ∀ a xs, a ≠ od → H a = some (.lst xs) → H' a = some (.lst xs)) : FE H' od kv e := ⟨h.1, h.2.imp fun a q => ⟨q.1, q.2.1, g _ _ q.2.1 q.2.2⟩⟩
theorem OE.mono {H H' : Hp} {v : V} {e : (Nat × Nat) × List Str} (h : OE H v e) (g : TS H H') : OE H' v e := h.imp fun a q => ⟨q.1, g _ _ q.2⟩
theorem FH.mono {H H' : Hp} {fd od : Addr} {F : TF Str} (h : FH H fd od F) (s : Same H H') : FH H' fd od F := by
  obtain ⟨kvs, os, h1, h2, h3, h4⟩ := h
  exact ⟨kvs, os, s _ _ h1, Paired.mapP h2 fun _ _ q => q.mono fun a xs _ e => s _ _ e, s _ _ h3, Paired.mapP h4 fun _ _ q => q.mono (ts_of s)⟩
theorem FH.unl {H : Hp} {fd od x : Addr} {u : List (Key × V)} {F : TF Str} (h : FH (upd H x (.dK u)) fd od F) : FH H fd od F := by
  obtain ⟨kvs, os, h1, h2, h3, h4⟩ := h
  exact ⟨kvs, os, un_get h1 (by intro z; cases z), Paired.mapP h2 fun _ _ q => q.mono fun a xs _ e => un_get e (by intro z; cases z), un_get h3 (by intro z; cases z), Paired.mapP h4 fun _ _ q => q.mono fun b xs e => un_get e (by intro z; cases z)⟩
theorem FE_val {H : Hp} {od : Addr} {kvs : List (List Key × V)} {F : TF Str} (h : Paired (FE H od) kvs F) (hn : (F.map (·.1)).Nodup) (q : Nat × Nat) : (∀ w, (q, w) ∈ F → ∃ a, valV kvs (kP q) = some (.ref a) ∧ a ≠ od ∧ H a = some (.lst (w.map V.str))) ∧ (q ∉ F.map (·.1) → valV kvs (kP q) = none) := by
  induction h with
  | nil => exact ⟨fun _ h => (nomatch h), fun _ => rfl⟩
  | @cons kv e l m g r ih =>
    rw [List.map_cons, List.nodup_cons] at hn
    obtain ⟨i1, i2⟩ := ih hn.2
    obtain ⟨g1, a, g2, g3, g4⟩ := g
    constructor
    · intro w hw
      rcases List.mem_cons.mp hw with z | z
      · subst z; exact ⟨a, by rw [← g2]; exact valV_pos g1, g3, g4⟩
      · have ne : e.1 ≠ q := fun z2 => hn.1 (by rw [z2]; exact List.mem_map_of_mem (f := (·.1)) z)
        rw [valV_neg (fun z2 => ne (kP_inj (g1.symm.trans z2)))]
        exact i1 w z
    · intro hq
      rw [List.map_cons, List.mem_cons, not_or] at hq
      rw [valV_neg (fun z2 => hq.1 (kP_inj (g1.symm.trans z2)).symm)]
      exact i2 hq.2
theorem FH.add {H : Hp} {fd od l b : Addr} {kvs : List (List Key × V)} {os : List V} {F : TF Str} {q : Nat × Nat} {w : List Str} (h1 : H fd = some (.dT kvs)) (h2 : Paired (FE H od) kvs F) (h3 : H od = some (.lst os)) (h4 : Paired (OE H) os F) (hn : valV kvs (kP q) = none) (hl : H l = some (.lst (w.map V.str))) (nl : l ≠ od) (hb : H b = some (.tup [.int (q.1 : Nat), .int (q.2 : Nat)])) :
    FH (upd (upd H fd (.dT (putK kvs (kP q) (.ref l)))) od (.lst (os ++ [.ref b]))) fd od (F ++ [(q, w)]) := by
  have nfo : fd ≠ od := ne_of h1 h3 (by intro z; cases z)
  have gl : ∀ a xs, a ≠ od → H a = some (.lst xs) → upd (upd H fd (.dT (putK kvs (kP q) (.ref l)))) od (.lst (os ++ [.ref b])) a = some (.lst xs) := fun a xs n e => (upd_ne n).trans ((upd_ne (ne_of e h1 (by intro z; cases z))).trans e)
  have gt : TS H (upd (upd H fd (.dT (putK kvs (kP q) (.ref l)))) od (.lst (os ++ [.ref b]))) := fun a xs e => (upd_ne (ne_of e h3 (by intro z; cases z))).trans ((upd_ne (ne_of e h1 (by intro z; cases z))).trans e)
  refine ⟨kvs ++ [(kP q, .ref l)], os ++ [.ref b], (upd_ne nfo).trans (by rw [upd_same, putK_new _ hn]), paired_app ⟨rfl, l, rfl, nl, gl _ _ nl hl⟩ (Paired.mapP h2 fun _ _ z => z.mono gl), upd_same, paired_app ⟨b, rfl, gt _ _ hb⟩ (Paired.mapP h4 fun _ _ z => z.mono gt)⟩
section
variable {K : PySem.W.Frag} {H : Hp}
theorem dpN : ∀ xs : List Nat, DpAll K H (xs.map fun x => V.int (x : Nat)) (xs.map fun x => PyData.int (x : Nat))
  | [] => .nil
  | x :: xs => .cons (.int _) (dpN xs)
end
theorem sh_tupN (xs : List Nat) : SeqAt.shaped (.tuple (xs.map fun x => PyData.int (x : Nat))) = true := shaped_tup (lay_flat _ _ fun x _ => by simp [PyData.canLay0]) (by rw [depth_flat _ (fun x => by simp [PyData.depth])]; omega)
theorem eqv_nats : ∀ xs ys : List Nat, PyData.eqvAll (xs.map fun x => PyData.int (x : Nat)) (ys.map fun x => PyData.int (x : Nat)) = decide (xs = ys)
  | [], [] => by simp [PyData.eqvAll]
  | [], _ :: _ => by simp [PyData.eqvAll]
  | _ :: _, [] => by simp [PyData.eqvAll]
  | x :: xs, y :: ys => by
    show (PyData.eqv (.int (x : Nat)) (.int (y : Nat)) && PyData.eqvAll _ _) = _
    rw [eqv_nats xs ys]
    by_cases h : x = y
    · subst h; by_cases h2 : xs = ys
      · subst h2; simp [PyData.eqv]
      · simp [PyData.eqv, h2]
    · have : PyData.eqv (.int (x : Nat)) (.int (y : Nat)) = false := by simp [PyData.eqv]; omega
      rw [this]; simp [h]
theorem drop_step {R : Type} [DecidableEq R] {wd : List Str} {ins : List Str} {t : Nat} {a : Str} {xs ys : List (Nat × R)} {x y : Nat × R} {F : TF Str} (h1 : ins[t]? = some a) (h2 : xs[t]? = some x) (h3 : ys[t]? = some y) :
    ta1 wd (ins.drop t) (xs.drop t) (ys.drop t) F = if x.2 = y.2 then ta1 wd (ins.drop (t + 1)) (xs.drop (t + 1)) (ys.drop (t + 1)) (addF F (x.1, y.1) (wd ++ [a])) else .inl (wd ++ [a]) := by
  have d : ∀ {α : Type} {l : List α} {z : α}, l[t]? = some z → l.drop t = z :: l.drop (t + 1) := fun {α l z} h => by
    obtain ⟨hl, e⟩ := List.getElem?_eq_some_iff.mp h
    rw [List.drop_eq_getElem_cons hl, e]
  rw [d h1, d h2, d h3]; rfl
/-- what both ask of the table and tell -/
structure TellArgs (rows : List (List (Nat × List Nat))) (ins : List Str) (i j : Nat) : Prop where
  nd : ins.Nodup
  few : rows.length ≤ 250
  tb : Table rows ins.length
  i : i < rows.length
  j : j < rows.length
def sp_told_apart (CW : Addr) : Sp := fun vs H Q _ => ∃ (q : Addr) (i j : Nat) (ns ins : List Str) (o : List (List Nat)) (rows : List (List (Nat × List Nat))), vs = [.ref q, .int (i : Nat), .int (j : Nat)] ∧ WaysAt CW H q ns ins o rows ∧ TellArgs rows ins i j ∧
  (∀ wd l H', tell rows ins i j = some wd → Same H H' → H' l = some (.lst (wd.map V.str)) → Q (.ref l) H') ∧ (tell rows ins i j = none → ∀ H', Same H H' → Q .non H')
section
variable {P : Program} {w : World} {K : PySem.W.Frag} {mg : Str → Option Value} {base : Heap}
theorem ok_told_apart (T : Tx K mg) : FnOk P w K mg base CX0 1 T.told_apart.f T.told_apart.fd ["ways", "one", "other"] (sp_told_apart T.kWays.C) := by
  refine T.told_apart.F.ok sc_told_apart (fun vs H Q E h => ?_) (fun cdv A outer s H vs Q E hr h => ?_)
  · obtain ⟨q, i, j, ns, ins, o, rows, rfl, _⟩ := h; rfl
  · obtain ⟨q, i, j, ns, ins, o, rows, rfl, ⟨qx, sl, tl, vs, us, h1, h2, h3, h4, h5⟩, ta, k1, k2⟩ := h
    have hul : us.length = rows.length := Paired.length h5
    have hsq : rows.length * rows.length ≤ 62500 := Nat.mul_le_mul ta.few ta.few
    refine ⟨_, (pss_cons (ps_par3 (i := 3) (j := 4) (l := 5) rfl sc_told_apart.nd rfl rfl rfl (by decide) (by decide) (by decide) rfl rfl rfl (pa_cons (pe_dispT (hu_of hr) (pe_tup (pa_cons (pv 1) (pa_cons (pv 2) pa_nil))) (pe_lst pa_nil)) (pa_cons (pe_lst (pa_cons (pe_tup (pa_cons (pv 1) (pa_cons (pv 2) pa_nil))) pa_nil)) (pa_cons pe_int pa_nil))) (by rfl))
      (pss_cons (ps_while PassesOwn.never (pt_cmpR op_lt (pv 5) (pe_callB (id := "len") call_len_seq (by rfl) T.b_len PySem.boot_len (pa_cons (pv 4) pa_nil)) (nomark _)) (pss_cons (ps_set (i := 6) sc_told_apart.nd rfl (.inl rfl) (pe_ix ix_list (pv 4) (pv 5) (fun _ _ => rfl)))
        (pss_cons (ps_aug (i := 5) sc_told_apart.nd rfl (.inl rfl) pe_int ip_add)
        (pss_one (ps_lock (ps_for PassesOwn.never rfl (pi_keys (pe_ix ix_list (pe_fld (pv 0) rfl) (pe_ix ix_tup (pv 6) pe_int (fun _ _ => rfl)) (fun _ _ => rfl))) (pg_name (i := 7) sc_told_apart.nd rfl (.inl rfl)) (pss_cons (ps_par (i := 8) (j := 9) rfl sc_told_apart.nd rfl rfl (by decide) rfl rfl (pa_cons (pe_dget (hu_of hr) (pe_ix ix_list (pe_fld (pv 0) rfl) (pe_ix ix_tup (pv 6) pe_int (fun _ _ => rfl)) (fun _ _ => rfl)) (pv 7) (fun _ _ => rfl)) (pa_cons (pe_dget (hu_of hr) (pe_ix ix_list (pe_fld (pv 0) rfl) (pe_ix ix_tup (pv 6) pe_int (fun _ _ => rfl)) (fun _ _ => rfl)) (pv 7) (fun _ _ => rfl)) pa_nil)) (by rfl))
          (pss_cons (ps_if (pt_cmpR (op_neD hr.units) (pe_ix ix_tup (pv 8) pe_int (fun _ _ => rfl)) (pe_ix ix_tup (pv 9) pe_int (fun _ _ => rfl)) (nomark _)) (pss_one (ps_ret (pe_lst (StX.pa_star (pe_dget (hu_of hr) (pv 3) (pv 6) (fun _ _ => rfl)) (pa_cons (pv 7) pa_nil))))) pss_nil)
          (pss_cons (ps_set (i := 10) sc_told_apart.nd rfl (.inl rfl) (pe_tup (pa_cons (pe_ix ix_tup (pv 8) pe_int (fun _ _ => rfl)) (pa_cons (pe_ix ix_tup (pv 9) pe_int (fun _ _ => rfl)) pa_nil))))
          (pss_one (ps_if (pt_cmp (pc_dnotin (hu_of hr) (pv 10) (pv 3))) (pss_cons (ps_dput (hu_of hr) (pv 3) (pv 10) (pe_lst (StX.pa_star (pe_dget (hu_of hr) (pv 3) (pv 6) (fun _ _ => rfl)) (pa_cons (pv 7) pa_nil))) rfl)
            (pss_one (ps_expr (pe_bm PySem.F.plainAttrs_list PySem.F.slot_list_append PySem.F.type_list_append mt_append (pv 4) (pa_cons (pv 10) pa_nil))))) pss_nil)))))))))))
      (pss_one (ps_ret pe_non)))), ?_⟩
    -- found, order
    intro fd hfd0
    refine ⟨_, rfl, _, rfl, sz (by show 2 ≤ 100000; omega), fun b hb => ⟨Nat.zero_le _, fun l hl => ⟨kP (i, j), b, rfl, same_new hl _ _ (same_new hb _ _ upd_same), same_new hl _ _ upd_same, ?_⟩⟩⟩
    have s1 : Same H (upd (upd (upd H fd (.dT [])) b (.tup [.int (i : Nat), .int (j : Nat)])) l (.lst [])) := ((same_new hfd0).trans (same_new hb)).trans (same_new hl)
    have hfd1 : (upd (upd (upd H fd (.dT [])) b (.tup [.int (i : Nat), .int (j : Nat)])) l (.lst [])) fd = some (.dT []) := same_new hl _ _ (same_new hb _ _ upd_same)
    have hl1 : (upd (upd (upd H fd (.dT [])) b (.tup [.int (i : Nat), .int (j : Nat)])) l (.lst [])) l = some (.lst (([] : List Str).map V.str)) := upd_same
    generalize upd (upd (upd H fd (.dT [])) b (.tup [.int (i : Nat), .int (j : Nat)])) l (.lst []) = H1 at s1 hfd1 hl1 ⊢
    have s2 : Same H (upd H1 fd (.dT [(kP (i, j), .ref l)])) := same_mut s1 hfd0
    have hfd2 : upd H1 fd (.dT [(kP (i, j), .ref l)]) fd = some (.dT [(kP (i, j), .ref l)]) := upd_same
    have hl2 : upd H1 fd (.dT [(kP (i, j), .ref l)]) l = _ := (upd_ne (ne_of hl1 hfd1 (by intro z; cases z))).trans hl1
    generalize upd H1 fd (.dT [(kP (i, j), .ref l)]) = H2 at s2 hfd2 hl2 ⊢
    refine ⟨_, rfl, _, rfl, sz (by show 2 ≤ 100000; omega), fun b2 hb2 => ⟨sz (by show 1 ≤ 100000; omega), fun od hod => ⟨_, _, _, rfl, ?_⟩⟩⟩
    have s3 := (same_new (o := .tup [.int (i : Nat), .int (j : Nat)]) hb2).trans (same_new (o := .lst [.ref b2]) hod)
    have s03 := s2.trans s3
    have hodn : H od = none := s2.free ((same_new hb2).free hod)
    have nlo : l ≠ od := fun e => by subst e; rw [same_new hb2 _ _ hl2] at hod; cases hod
    have F3 : FH (upd (upd H2 b2 (.tup [.int (i : Nat), .int (j : Nat)])) od (.lst [.ref b2])) fd od [((i, j), [])] := ⟨_, _, s3 _ _ hfd2, .cons ⟨rfl, l, rfl, nlo, s3 _ _ hl2⟩ .nil, upd_same, .cons ⟨b2, rfl, same_new hod _ _ upd_same⟩ .nil⟩
    generalize upd (upd H2 b2 (.tup [.int (i : Nat), .int (j : Nat)])) od (.lst [.ref b2]) = H3 at s03 F3 ⊢
    -- the pairs
    refine ⟨fun μ σ H' => ∃ (seen : Nat) (F : TF Str) (x6 x7 x8 x9 x10 : Option V), σ = [some (.ref q), some (.int (i : Nat)), some (.int (j : Nat)), some (.ref fd), some (.ref od), some (.int (seen : Nat)), x6, x7, x8, x9, x10] ∧ Same H H' ∧ FH H' fd od F ∧ taN rows ins μ seen F = tell rows ins i j ∧ TOk rows μ seen F ∧ ∀ e ∈ F, e.2.length ≤ seen, ⟨_, 0, [((i, j), [])], none, none, none, none, none, rfl, s03, F3, rfl, tell_start ta.i ta.j, fun e he => by simp at he; subst he; exact Nat.zero_le _⟩, ?_⟩
    rintro μ σ H4 ⟨seen, F, x6, x7, x8, x9, x10, rfl, s4, F4, htn, hto, hwl⟩
    obtain ⟨kvs, os, f1, f2, f3, f4⟩ := id F4
    have hol : os.length = F.length := Paired.length f4
    have hFl := hto.len
    refine ⟨_, rfl, _, rfl, od, os, rfl, .inl (SqL.of f3), _, _, rfl, rfl, _, rfl, ?_⟩
    refine ite2 (fun hc => ?_) (fun hc => ?_)
    · have hc : (seen : Int) < (os.length : Nat) := of_decide_eq_true hc
      have hsF : seen < F.length := by omega
      obtain ⟨f', rfl⟩ : ∃ f', μ = f' + 1 := ⟨μ - 1, by have := hto.fuel; omega⟩
      have hFs : F[seen]? = some F[seen] := List.getElem?_eq_getElem hsF
      generalize F[seen] = pw at hFs
      obtain ⟨⟨pi, pj⟩, wd⟩ := pw
      have hpm := List.mem_of_getElem? hFs
      have hlt := hto.lt _ hpm
      have hwdl : wd.length ≤ seen := hwl _ hpm
      have hso : seen < os.length := by omega
      have hos : os[seen]? = some os[seen] := List.getElem?_eq_getElem (by omega)
      obtain ⟨bp, ebp, hbp⟩ := paired_at f4 hos hFs
      have hpil : pi < us.length := by rw [hul]; exact hlt.1
      have hpjl : pj < us.length := by rw [hul]; exact hlt.2
      have hui : us[pi]? = some us[pi] := List.getElem?_eq_getElem hpil
      have huj : us[pj]? = some us[pj] := List.getElem?_eq_getElem hpjl
      have hri : rows[pi]? = some (rows.getD pi []) := get_getD hlt.1
      have hrj : rows[pj]? = some (rows.getD pj []) := get_getD hlt.2
      obtain ⟨ra, ka, ea, hra, fi, rfl, hril, hsti⟩ := paired_at h5 hui hri
      obtain ⟨rb, kb, eb, hrb, fj, rfl, hrjl, hstj⟩ := paired_at h5 huj hrj
      have hti := ta.tb.row _ (List.mem_of_getElem? hri)
      have htj := ta.tb.row _ (List.mem_of_getElem? hrj)
      refine ⟨_, fun σ' H' h => h, ?_⟩
      refine ⟨_, rfl, _, rfl, od, os, _, _, rfl, rfl, SqL.of f3, atI_nat hos, ?_⟩
      rw [ebp]
      refine ⟨_, rfl, _, _, rfl, rfl, ?_⟩
      have hra4 := s4 _ _ hra
      refine ⟨ra, _, hra4, trivial, fun odo => ?_⟩
      have hfz : upd H4 ra (.frz odo (.dK (FD ins fi))) ra = some (.frz odo (.dK (FD ins fi))) := upd_same
      have eun : upd (upd H4 ra (.frz odo (.dK (FD ins fi)))) ra (.dK (FD ins fi)) = H4 := by
        rw [upd_upd]; funext a
        by_cases z : a = ra
        · subst z; rw [upd_same, hra4]
        · rw [upd_ne z]
      generalize upd H4 ra (.frz odo (.dK (FD ins fi))) = Hz at hfz eun ⊢
      -- reading under the lock
      have G : ∀ {Hl : Hp}, Hl ra = some (.frz odo (.dK (FD ins fi))) → Same H (upd Hl ra (.dK (FD ins fi))) → (∀ {x : Addr} {o : HO}, (∀ k, o ≠ .dK k) → H x = some o → Hl x = some o) ∧ ∀ {x : Addr} {k : List (Key × V)}, H x = some (.dK k) → Rd Hl x (.dK k) := fun {Hl} hz sU => ⟨fun ho h => un_get (sU _ _ h) (ho _), fun {x k} h => by
        by_cases z : x = ra
        · subst z
          have := Option.some.inj (h.symm.trans hra)
          rw [this]; exact .inr ⟨odo, hz⟩
        · exact .inl ((upd_ne z).symm.trans (sU _ _ h))⟩
      have sUz : Same H (upd Hz ra (.dK (FD ins fi))) := by rw [eun]; exact s4
      obtain ⟨g1, g2⟩ := G hfz sUz
      have hbpz : Hz bp = some (.tup [.int (pi : Nat), .int (pj : Nat)]) := un_get (by rw [eun]; exact hbp) (by intro z; cases z)
      refine ⟨_, rfl, q, _, qx, _, _, rfl, g1 (fun k z => nomatch z) h1, T.cl_Ways, T.a_Ways_steps, rfl, _, rfl, bp, _, _, _, rfl, rfl, SqT.of hbpz, atI_0, tl, us, _, _, rfl, rfl, SqL.of (g1 (fun k z => nomatch z) h4), atI_nat hui, ra, odo, ea, .inl ⟨_, hfz, ?_⟩⟩
      have wk : Walk (Itk ra odo (FD ins fi)) ins.length (fun H => H ra = some (.frz odo (.dK (FD ins fi)))) (YAt (ins.map V.str)) := by
        have w0 := walk_keys (d := ra) (o := odo) (kvs := FD ins fi)
        rw [fd_len] at w0
        exact w0.mono (fun _ h => h) (fun i H x H' _ _ ⟨e, ky, v, h, ex⟩ => ⟨e, by obtain ⟨n, hn, rfl, _⟩ := fd_of_get h; rw [List.getElem?_map, hn, ex]; rfl⟩)
      refine for_it wk (fun t σ Hl => ∃ (Ft : TF Str) (x7 x8 x9 x10 : Option V), σ = [some (.ref q), some (.int (i : Nat)), some (.int (j : Nat)), some (.ref fd), some (.ref od), some (.int ((seen : Int) + 1)), some (.ref bp), x7, x8, x9, x10] ∧ Hl ra = some (.frz odo (.dK (FD ins fi))) ∧ Same H (upd Hl ra (.dK (FD ins fi))) ∧ FH (upd Hl ra (.dK (FD ins fi))) fd od Ft ∧ Hl bp = some (.tup [.int (pi : Nat), .int (pj : Nat)]) ∧
        ta1 wd (ins.drop t) ((rows.getD pi []).drop t) ((rows.getD pj []).drop t) Ft = ta1 wd ins (rows.getD pi []) (rows.getD pj []) F ∧ (Ft.map (·.1)).Nodup ∧ (∃ r, Ft = F ++ r) ∧ (∀ e ∈ Ft, e.1.1 < rows.length ∧ e.1.2 < rows.length) ∧ ∀ e ∈ Ft, e.2.length ≤ seen + 1)
        ⟨F, x7, x8, x9, x10, rfl, hfz, sUz, by rw [eun]; exact F4, hbpz, rfl, hto.nd, ⟨[], by simp⟩, hto.lt, fun e he => Nat.le_trans (hwl e he) (Nat.le_succ _)⟩ (by rintro t σ Hl _ ⟨_, _, _, _, _, rfl, h, _⟩; exact h) ?_ ?_
      · rintro t x σ Hl Hl' htl ⟨Ft, x7, x8, x9, x10, rfl, hz, sU, FU, hbpl, hta, hnd, ⟨rr, hpre⟩, hltt, hwt⟩ ⟨rfl, hx⟩
        rw [List.getElem?_map, List.getElem?_eq_getElem htl] at hx
        cases hx
        generalize hnm : ins[t] = nm
        have hnmi : ins[t]? = some nm := by rw [List.getElem?_eq_getElem htl, hnm]
        have hnm_in : nm ∈ ins := List.mem_of_getElem? hnmi
        obtain ⟨g1, g2⟩ := G hz sU
        have FL := FU.unl
        obtain ⟨kvs2, os2, e1, e2, e3, e4⟩ := id FL
        have hFtl : Ft.length ≤ 62500 := by
          have := pairs_len (n := rows.length) hnd (fun q hq => by obtain ⟨z, hz, rfl⟩ := List.mem_map.mp hq; exact hltt z hz)
          rw [List.length_map] at this; omega
        have hidx : ins.idxOf nm = t := idx_at ta.nd hnmi
        have hxi : (rows.getD pi [])[t]? = some (stepOf ins (rows.getD pi []) nm) := by unfold stepOf; rw [hidx]; exact get_getD (by rw [hril]; exact htl)
        have hyj : (rows.getD pj [])[t]? = some (stepOf ins (rows.getD pj []) nm) := by unfold stepOf; rw [hidx]; exact get_getD (by rw [hrjl]; exact htl)
        rw [drop_step hnmi hxi hyj] at hta
        obtain ⟨c, d, ec, hc, hd⟩ := hsti nm hnm_in
        obtain ⟨c', d', ec', hc', hd'⟩ := hstj nm hnm_in
        have hgx := hti.2 _ (List.mem_of_getElem? hxi)
        have hgy := htj.2 _ (List.mem_of_getElem? hyj)
        generalize stepOf ins (rows.getD pi []) nm = ex at *
        generalize stepOf ins (rows.getD pj []) nm = ey at *
        have hwm : ((pi, pj), wd) ∈ Ft := by rw [hpre]; exact List.mem_append_left _ hpm
        obtain ⟨aw, hav, nao, haw⟩ := (FE_val e2 hnd (pi, pj)).1 wd hwm
        have nt : ∀ {xs : List V} (k : List (Key × V)), HO.tup xs ≠ .dK k := fun k z => nomatch z
        refine ⟨_, rfl, q, _, qx, _, _, rfl, g1 (fun k z => nomatch z) h1, T.cl_Ways, T.a_Ways_steps, rfl, _, rfl, bp, _, _, _, rfl, rfl, SqT.of hbpl, atI_0, tl, us, _, _, rfl, rfl, SqL.of (g1 (fun k z => nomatch z) h4), atI_nat hui, _, rfl, ra, _, ea, dget_in (g2 hra) hnm_in, ?_⟩
        refine ⟨_, rfl, q, _, qx, _, _, rfl, g1 (fun k z => nomatch z) h1, T.cl_Ways, T.a_Ways_steps, rfl, _, rfl, bp, _, _, _, rfl, rfl, SqT.of hbpl, atI_1, tl, us, _, _, rfl, rfl, SqL.of (g1 (fun k z => nomatch z) h4), atI_nat huj, _, rfl, rb, _, eb, dget_in (g2 hrb) hnm_in, _, _, rfl, ?_⟩
        rw [ec, ec']
        have dpx : Dp K Hl' (.ref d) (.tuple (ex.2.map fun x => PyData.int (x : Nat))) := .tup (SqT.of (g1 nt hd)) (dpN _)
        have dpy : Dp K Hl' (.ref d') (.tuple (ey.2.map fun x => PyData.int (x : Nat))) := .tup (SqT.of (g1 nt hd')) (dpN _)
        refine ⟨_, rfl, c, _, _, _, rfl, rfl, SqT.of (g1 nt hc), atI_1, _, rfl, c', _, _, _, rfl, rfl, SqT.of (g1 nt hc'), atI_1, _, _, dpx, dpy, sh_tupN _, sh_tupN _, _, rfl, ?_⟩
        have heq : PyData.eqv (.tuple (ex.2.map fun x => PyData.int (x : Nat))) (.tuple (ey.2.map fun x => PyData.int (x : Nat))) = decide (ex.2 = ey.2) := by show PyData.eqvAll _ _ = _; exact eqv_nats _ _
        rw [heq]
        have hres : ∀ w2, ta1 wd ins (rows.getD pi []) (rows.getD pj []) F = .inl w2 → tell rows ins i j = some w2 := fun w2 hw2 => by
          rw [← htn, taN, hFs]; dsimp only; rw [hw2]
        by_cases hoe : ex.2 = ey.2
        · rw [decide_eq_true hoe]
          rw [if_pos hoe] at hta
          refine iteF ?_
          refine ⟨_, rfl, c, _, _, _, rfl, rfl, SqT.of (g1 nt hc), atI_0, _, rfl, c', _, _, _, rfl, rfl, SqT.of (g1 nt hc'), atI_0, sz (by show 2 ≤ 100000; omega), fun bl hbl => ?_⟩
          have s6 := same_new (o := .tup [.int (ex.1 : Nat), .int (ey.1 : Nat)]) hbl
          have hbl6 : upd Hl' bl (.tup [.int (ex.1 : Nat), .int (ey.1 : Nat)]) bl = some (.tup [.int (ex.1 : Nat), .int (ey.1 : Nat)]) := upd_same
          have FU6 := FU.mono (un_same (x := ra) (u := .dK (FD ins fi)) s6)
          have sU6 := sU.trans (un_same (x := ra) (u := .dK (FD ins fi)) s6)
          have hz6 := s6 _ _ hz
          have hbp6 := s6 _ _ hbpl
          have haw6 := s6 _ _ haw
          have e1' := s6 _ _ e1
          have e2' := Paired.mapP e2 fun _ _ q => FE.mono q fun a xs _ e => s6 _ _ e
          have e3' := s6 _ _ e3
          have e4' := Paired.mapP e4 fun _ _ q => OE.mono q (ts_of s6)
          generalize upd Hl' bl (.tup [.int (ex.1 : Nat), .int (ey.1 : Nat)]) = H6 at s6 hbl6 FU6 sU6 hz6 hbp6 haw6 e1' e2' e3' e4' ⊢
          have hval := FE_val e2' hnd (ex.1, ey.1)
          refine ⟨_, rfl, _, rfl, fd, _, rfl, .inr ⟨kvs2, kP (ex.1, ey.1), bl, .inl e1', rfl, hbl6, rfl⟩, ?_⟩
          by_cases hmem : (ex.1, ey.1) ∈ Ft.map (·.1)
          · obtain ⟨⟨q', w'⟩, hm', eq'⟩ := List.mem_map.mp hmem
            have eq' : q' = (ex.1, ey.1) := eq'
            subst eq'
            obtain ⟨a', ha', _⟩ := hval.1 w' hm'
            rw [ha']
            have hadd : addF Ft (ex.1, ey.1) (wd ++ [nm]) = Ft := by unfold addF; rw [if_pos hmem]
            rw [hadd] at hta
            exact ⟨false, rfl, iteF ⟨Ft, _, _, _, _, rfl, hz6, sU6, FU6, hbp6, hta, hnd, ⟨rr, hpre⟩, hltt, hwt⟩⟩
          · have hvn := hval.2 hmem
            rw [hvn]
            have hadd : addF Ft (ex.1, ey.1) (wd ++ [nm]) = Ft ++ [((ex.1, ey.1), wd ++ [nm])] := by unfold addF; rw [if_neg hmem]
            rw [hadd] at hta
            refine ⟨true, rfl, iteT ?_⟩
            refine ⟨_, rfl, _, rfl, fd, _, rfl, .inr ⟨kvs2, kP (pi, pj), bp, .inl e1', rfl, hbp6, hav.symm⟩, aw, _, rfl, .inr (SqL.of haw6), _, rfl, ?_⟩
            have ewd : wd.map V.str ++ [V.str nm] = (wd ++ [nm]).map V.str := by rw [List.map_append]; rfl
            refine ⟨sz (by rw [List.length_append, List.length_map]; show wd.length + 1 ≤ 100000; have := hto.le; omega), fun l2 hl2 => ?_⟩
            have s7 := same_new (o := .lst (wd.map V.str ++ [V.str nm])) hl2
            have hl27 : upd H6 l2 (.lst (wd.map V.str ++ [V.str nm])) l2 = some (.lst ((wd ++ [nm]).map V.str)) := by rw [upd_same, ewd]
            have nl2 : l2 ≠ od := fun e => by subst e; rw [e3'] at hl2; cases hl2
            have e17 := s7 _ _ e1'
            have e27 := Paired.mapP e2' fun _ _ q => FE.mono q fun a xs _ e => s7 _ _ e
            have e37 := s7 _ _ e3'
            have e47 := Paired.mapP e4' fun _ _ q => OE.mono q (ts_of s7)
            have hbl7 := s7 _ _ hbl6
            have hz7 := s7 _ _ hz6
            have hbp7 := s7 _ _ hbp6
            have sU7 := sU6.trans (un_same (x := ra) (u := .dK (FD ins fi)) s7)
            generalize upd H6 l2 (.lst (wd.map V.str ++ [V.str nm])) = H7 at hl27 e17 e27 e37 e47 hbl7 hz7 hbp7 sU7 ⊢
            have nfo : fd ≠ od := ne_of e17 e37 (by intro z; cases z)
            have nfr : fd ≠ ra := ne_of e17 hz7 (by intro z; cases z)
            have nor : od ≠ ra := ne_of e37 hz7 (by intro z; cases z)
            have hkl : kvs2.length = Ft.length := Paired.length e27
            refine ⟨_, rfl, _, rfl, fd, _, rfl, .inr ⟨kvs2, kP (ex.1, ey.1), bl, e17, rfl, hbl7, szl (by omega), rfl⟩, ?_⟩
            have e38 : upd H7 fd (.dT (putK kvs2 (kP (ex.1, ey.1)) (.ref l2))) od = _ := (upd_ne (Ne.symm nfo)).trans e37
            refine ⟨_, rfl, .inl ⟨rfl, _, SqL.of e38⟩, _, rfl, od, os2, _, rfl, rfl, e38, szl (by have : os2.length = Ft.length := Paired.length e47; omega), ?_⟩
            have eU : upd (upd (upd H7 fd (.dT (putK kvs2 (kP (ex.1, ey.1)) (.ref l2)))) od (.lst (os2 ++ [.ref bl]))) ra (.dK (FD ins fi)) = upd (upd (upd H7 ra (.dK (FD ins fi))) fd (.dT (putK kvs2 (kP (ex.1, ey.1)) (.ref l2)))) od (.lst (os2 ++ [.ref bl])) := by rw [upd_comm nor, upd_comm nfr]
            have toU : ∀ {x : Addr} {o : HO}, H7 x = some o → x ≠ ra → upd H7 ra (.dK (FD ins fi)) x = some o := fun h n => (upd_ne n).trans h
            have ntr : ∀ {x : Addr} {o : HO}, H7 x = some o → (∀ f u, o ≠ .frz f u) → x ≠ ra := fun h n z => by subst z; rw [hz7] at h; exact n _ _ (Option.some.inj h).symm
            refine ⟨Ft ++ [((ex.1, ey.1), wd ++ [nm])], _, _, _, _, rfl, (upd_ne (Ne.symm nor)).trans ((upd_ne (Ne.symm nfr)).trans hz7), ?_, ?_, (upd_ne (ne_of hbp7 e37 (by intro z; cases z))).trans ((upd_ne (ne_of hbp7 e17 (by intro z; cases z))).trans hbp7), hta, ?_, ⟨rr ++ [((ex.1, ey.1), wd ++ [nm])], by rw [hpre, List.append_assoc]⟩, ?_, ?_⟩
            · rw [eU]; exact same_mut (same_mut sU7 hfd0) hodn
            · rw [eU]
              exact FH.add (toU e17 nfr) (Paired.mapP e27 fun _ _ q => FE.mono q fun a xs _ e => toU e (ntr e (fun _ _ z => nomatch z))) (toU e37 nor) (Paired.mapP e47 fun _ _ q => OE.mono q fun a xs e => toU e (ntr e (fun _ _ z => nomatch z))) hvn (toU hl27 (ntr hl27 (fun _ _ z => nomatch z))) nl2 (toU hbl7 (ntr hbl7 (fun _ _ z => nomatch z)))
            · rw [List.map_append, List.nodup_append]
              exact ⟨hnd, by simp, fun a ha b hb => by simp at hb; subst hb; intro e; subst e; exact hmem ha⟩
            · intro e he
              rcases List.mem_append.mp he with h | h
              · exact hltt e h
              · simp at h; subst h; exact ⟨hgx, hgy⟩
            · intro e he
              rcases List.mem_append.mp he with h | h
              · exact hwt e h
              · simp at h; subst h
                show (wd ++ [nm]).length ≤ seen + 1
                rw [List.length_append]; exact Nat.succ_le_succ hwdl
        · rw [decide_eq_false hoe]
          rw [if_neg hoe] at hta
          refine iteT ?_
          refine ⟨_, rfl, _, rfl, fd, _, rfl, .inr ⟨kvs2, kP (pi, pj), bp, .inl e1, rfl, hbpl, hav.symm⟩, aw, _, rfl, .inr (SqL.of haw), _, rfl, ?_⟩
          have ewd : wd.map V.str ++ [V.str nm] = (wd ++ [nm]).map V.str := by rw [List.map_append]; rfl
          refine ⟨sz (by rw [List.length_append, List.length_map]; show wd.length + 1 ≤ 100000; have := hto.le; omega), fun l2 hl2 => ?_⟩
          have s7 := same_new (o := .lst (wd.map V.str ++ [V.str nm])) hl2
          have nlr : l2 ≠ ra := fun e => by subst e; rw [hz] at hl2; cases hl2
          refine ⟨s7 _ _ hz, ?_⟩
          refine k1 (wd ++ [nm]) l2 _ (hres _ hta.symm) (sU.trans (un_same s7)) ?_
          rw [upd_ne nlr, upd_same, ← ewd]
      · rintro σ Hl ⟨Ft, x7, x8, x9, x10, rfl, hz, sU, FU, hbpl, hta, hnd, ⟨rr, hpre⟩, hltt, hwt⟩
        refine ⟨hz, f', by omega, seen + 1, Ft, some (.ref bp), x7, x8, x9, x10, ?_, sU, FU, ?_, ?_, hwt⟩
        · rfl
        · have e : ta1 wd ins (rows.getD pi []) (rows.getD pj []) F = .inr Ft := by
            have d1 : (rows.getD pi []).drop ins.length = [] := List.drop_of_length_le (by omega)
            have d2 : (rows.getD pj []).drop ins.length = [] := List.drop_of_length_le (by omega)
            rw [← hta, List.drop_length, d1, d2]; rfl
          rw [← htn, taN, hFs]; dsimp only; rw [e]
        · have e : ta1 wd ins (rows.getD pi []) (rows.getD pj []) F = .inr Ft := by
            have d1 : (rows.getD pi []).drop ins.length = [] := List.drop_of_length_le (by omega)
            have d2 : (rows.getD pj []).drop ins.length = [] := List.drop_of_length_le (by omega)
            rw [← hta, List.drop_length, d1, d2]; rfl
          exact hto.step ta.tb rfl hFs e
    · have hc : ¬ (seen : Int) < (os.length : Nat) := fun z => hc (decide_eq_true z)
      have hnone : F[seen]? = none := List.getElem?_eq_none (by omega)
      obtain ⟨f', rfl⟩ : ∃ f', μ = f' + 1 := ⟨μ - 1, by have := hto.fuel; have := hto.le; omega⟩
      refine k2 ?_ H4 s4
      rw [← htn, taN, hnone]
end
end Bc
end
section
set_option Elab.async false
set_option linter.all false
set_option maxRecDepth 100000
set_option maxHeartbeats 4000000
set_option pp.maxSteps 300
/-! The walk: the law's own telling apart. -/
namespace Bc
open PySem L2
def sp_law_first_apart : Sp := fun vs H Q _ => ∃ (tl : Addr) (i j : Nat) (us : List V) (ins : List Str) (rows : List (List (Nat × List Nat))), vs = [.ref tl, .int (i : Nat), .int (j : Nat)] ∧ H tl = some (.lst us) ∧ Paired (RowD H ins) us rows ∧ TellArgs rows ins i j ∧
  (∀ wd l H', tell rows ins i j = some wd → Same H H' → H' l = some (.lst (wd.map V.str)) → Q (.ref l) H') ∧ (tell rows ins i j = none → ∀ H', Same H H' → Q .non H')
section
variable {P : Program} {w : World} {K : PySem.W.Frag} {mg : Str → Option Value} {base : Heap}
theorem ok_law_first_apart (T : Tx K mg) : FnOk P w K mg base CX0 1 T.law_first_apart.f T.law_first_apart.fd ["_law_steps", "_law_one", "_law_other"] sp_law_first_apart := by
  refine T.law_first_apart.F.ok sc_law_first_apart (fun vs H Q E h => ?_) (fun cdv A outer s H vs Q E hr h => ?_)
  · obtain ⟨tl, i, j, us, ins, rows, rfl, _⟩ := h; rfl
  · obtain ⟨tl, i, j, us, ins, rows, rfl, h4, h5, ta, k1, k2⟩ := h
    have hul : us.length = rows.length := Paired.length h5
    have hsq : rows.length * rows.length ≤ 62500 := Nat.mul_le_mul ta.few ta.few
    refine ⟨_, (pss_cons (ps_par3 (i := 3) (j := 4) (l := 5) rfl sc_law_first_apart.nd rfl rfl rfl (by decide) (by decide) (by decide) rfl rfl rfl (pa_cons (pe_dispT (hu_of hr) (pe_tup (pa_cons (pv 1) (pa_cons (pv 2) pa_nil))) (pe_lst pa_nil)) (pa_cons (pe_lst (pa_cons (pe_tup (pa_cons (pv 1) (pa_cons (pv 2) pa_nil))) pa_nil)) (pa_cons pe_int pa_nil))) (by rfl))
      (pss_cons (ps_while PassesOwn.never (pt_cmpR op_lt (pv 5) (pe_callB (id := "len") call_len_seq (by rfl) T.b_len PySem.boot_len (pa_cons (pv 4) pa_nil)) (nomark _)) (pss_cons (ps_set (i := 6) sc_law_first_apart.nd rfl (.inl rfl) (pe_ix ix_list (pv 4) (pv 5) (fun _ _ => rfl)))
        (pss_cons (ps_aug (i := 5) sc_law_first_apart.nd rfl (.inl rfl) pe_int ip_add)
        (pss_one (ps_lock (ps_for PassesOwn.never rfl (pi_keys (pe_ix ix_list (pv 0) (pe_ix ix_tup (pv 6) pe_int (fun _ _ => rfl)) (fun _ _ => rfl))) (pg_name (i := 7) sc_law_first_apart.nd rfl (.inl rfl)) (pss_cons (ps_if (pt_cmpR (op_neD hr.units) (pe_ix ix_tup (pe_dget (hu_of hr) (pe_ix ix_list (pv 0) (pe_ix ix_tup (pv 6) pe_int (fun _ _ => rfl)) (fun _ _ => rfl)) (pv 7) (fun _ _ => rfl)) pe_int (fun _ _ => rfl)) (pe_ix ix_tup (pe_dget (hu_of hr) (pe_ix ix_list (pv 0) (pe_ix ix_tup (pv 6) pe_int (fun _ _ => rfl)) (fun _ _ => rfl)) (pv 7) (fun _ _ => rfl)) pe_int (fun _ _ => rfl)) (nomark _)) (pss_one (ps_ret (pe_op op_cat (pe_dget (hu_of hr) (pv 3) (pv 6) (fun _ _ => rfl)) (pe_lst (pa_cons (pv 7) pa_nil))))) pss_nil)
          (pss_cons (ps_set (i := 8) sc_law_first_apart.nd rfl (.inl rfl) (pe_tup (pa_cons (pe_ix ix_tup (pe_dget (hu_of hr) (pe_ix ix_list (pv 0) (pe_ix ix_tup (pv 6) pe_int (fun _ _ => rfl)) (fun _ _ => rfl)) (pv 7) (fun _ _ => rfl)) pe_int (fun _ _ => rfl)) (pa_cons (pe_ix ix_tup (pe_dget (hu_of hr) (pe_ix ix_list (pv 0) (pe_ix ix_tup (pv 6) pe_int (fun _ _ => rfl)) (fun _ _ => rfl)) (pv 7) (fun _ _ => rfl)) pe_int (fun _ _ => rfl)) pa_nil))))
          (pss_one (ps_if (pt_cmp (pc_dnotin (hu_of hr) (pv 8) (pv 3))) (pss_cons (ps_dput (hu_of hr) (pv 3) (pv 8) (pe_op op_cat (pe_dget (hu_of hr) (pv 3) (pv 6) (fun _ _ => rfl)) (pe_lst (pa_cons (pv 7) pa_nil))) rfl)
            (pss_one (ps_expr (pe_bm PySem.F.plainAttrs_list PySem.F.slot_list_append PySem.F.type_list_append mt_append (pv 4) (pa_cons (pv 8) pa_nil))))) pss_nil))))))))))
      (pss_one (ps_ret pe_non)))), ?_⟩
    -- found, order
    intro fd hfd0
    refine ⟨_, rfl, _, rfl, sz (by show 2 ≤ 100000; omega), fun b hb => ⟨Nat.zero_le _, fun l hl => ⟨kP (i, j), b, rfl, same_new hl _ _ (same_new hb _ _ upd_same), same_new hl _ _ upd_same, ?_⟩⟩⟩
    have s1 : Same H (upd (upd (upd H fd (.dT [])) b (.tup [.int (i : Nat), .int (j : Nat)])) l (.lst [])) := ((same_new hfd0).trans (same_new hb)).trans (same_new hl)
    have hfd1 : (upd (upd (upd H fd (.dT [])) b (.tup [.int (i : Nat), .int (j : Nat)])) l (.lst [])) fd = some (.dT []) := same_new hl _ _ (same_new hb _ _ upd_same)
    have hl1 : (upd (upd (upd H fd (.dT [])) b (.tup [.int (i : Nat), .int (j : Nat)])) l (.lst [])) l = some (.lst (([] : List Str).map V.str)) := upd_same
    generalize upd (upd (upd H fd (.dT [])) b (.tup [.int (i : Nat), .int (j : Nat)])) l (.lst []) = H1 at s1 hfd1 hl1 ⊢
    have s2 : Same H (upd H1 fd (.dT [(kP (i, j), .ref l)])) := same_mut s1 hfd0
    have hfd2 : upd H1 fd (.dT [(kP (i, j), .ref l)]) fd = some (.dT [(kP (i, j), .ref l)]) := upd_same
    have hl2 : upd H1 fd (.dT [(kP (i, j), .ref l)]) l = _ := (upd_ne (ne_of hl1 hfd1 (by intro z; cases z))).trans hl1
    generalize upd H1 fd (.dT [(kP (i, j), .ref l)]) = H2 at s2 hfd2 hl2 ⊢
    refine ⟨_, rfl, _, rfl, sz (by show 2 ≤ 100000; omega), fun b2 hb2 => ⟨sz (by show 1 ≤ 100000; omega), fun od hod => ⟨_, _, _, rfl, ?_⟩⟩⟩
    have s3 := (same_new (o := .tup [.int (i : Nat), .int (j : Nat)]) hb2).trans (same_new (o := .lst [.ref b2]) hod)
    have s03 := s2.trans s3
    have hodn : H od = none := s2.free ((same_new hb2).free hod)
    have nlo : l ≠ od := fun e => by subst e; rw [same_new hb2 _ _ hl2] at hod; cases hod
    have F3 : FH (upd (upd H2 b2 (.tup [.int (i : Nat), .int (j : Nat)])) od (.lst [.ref b2])) fd od [((i, j), [])] := ⟨_, _, s3 _ _ hfd2, .cons ⟨rfl, l, rfl, nlo, s3 _ _ hl2⟩ .nil, upd_same, .cons ⟨b2, rfl, same_new hod _ _ upd_same⟩ .nil⟩
    generalize upd (upd H2 b2 (.tup [.int (i : Nat), .int (j : Nat)])) od (.lst [.ref b2]) = H3 at s03 F3 ⊢
    -- the pairs
    refine ⟨fun μ σ H' => ∃ (seen : Nat) (F : TF Str) (x6 x7 x8 : Option V), σ = [some (.ref tl), some (.int (i : Nat)), some (.int (j : Nat)), some (.ref fd), some (.ref od), some (.int (seen : Nat)), x6, x7, x8] ∧ Same H H' ∧ FH H' fd od F ∧ taN rows ins μ seen F = tell rows ins i j ∧ TOk rows μ seen F ∧ ∀ e ∈ F, e.2.length ≤ seen, ⟨_, 0, [((i, j), [])], none, none, none, rfl, s03, F3, rfl, tell_start ta.i ta.j, fun e he => by simp at he; subst he; exact Nat.zero_le _⟩, ?_⟩
    rintro μ σ H4 ⟨seen, F, x6, x7, x8, rfl, s4, F4, htn, hto, hwl⟩
    obtain ⟨kvs, os, f1, f2, f3, f4⟩ := id F4
    have hol : os.length = F.length := Paired.length f4
    have hFl := hto.len
    refine ⟨_, rfl, _, rfl, od, os, rfl, .inl (SqL.of f3), _, _, rfl, rfl, _, rfl, ?_⟩
    refine ite2 (fun hc => ?_) (fun hc => ?_)
    · have hc : (seen : Int) < (os.length : Nat) := of_decide_eq_true hc
      have hsF : seen < F.length := by omega
      obtain ⟨f', rfl⟩ : ∃ f', μ = f' + 1 := ⟨μ - 1, by have := hto.fuel; omega⟩
      have hFs : F[seen]? = some F[seen] := List.getElem?_eq_getElem hsF
      generalize F[seen] = pw at hFs
      obtain ⟨⟨pi, pj⟩, wd⟩ := pw
      have hpm := List.mem_of_getElem? hFs
      have hlt := hto.lt _ hpm
      have hwdl : wd.length ≤ seen := hwl _ hpm
      have hso : seen < os.length := by omega
      have hos : os[seen]? = some os[seen] := List.getElem?_eq_getElem (by omega)
      obtain ⟨bp, ebp, hbp⟩ := paired_at f4 hos hFs
      have hpil : pi < us.length := by rw [hul]; exact hlt.1
      have hpjl : pj < us.length := by rw [hul]; exact hlt.2
      have hui : us[pi]? = some us[pi] := List.getElem?_eq_getElem hpil
      have huj : us[pj]? = some us[pj] := List.getElem?_eq_getElem hpjl
      have hri : rows[pi]? = some (rows.getD pi []) := get_getD hlt.1
      have hrj : rows[pj]? = some (rows.getD pj []) := get_getD hlt.2
      obtain ⟨ra, ka, ea, hra, fi, rfl, hril, hsti⟩ := paired_at h5 hui hri
      obtain ⟨rb, kb, eb, hrb, fj, rfl, hrjl, hstj⟩ := paired_at h5 huj hrj
      have hti := ta.tb.row _ (List.mem_of_getElem? hri)
      have htj := ta.tb.row _ (List.mem_of_getElem? hrj)
      refine ⟨_, fun σ' H' h => h, ?_⟩
      refine ⟨_, rfl, _, rfl, od, os, _, _, rfl, rfl, SqL.of f3, atI_nat hos, ?_⟩
      rw [ebp]
      refine ⟨_, rfl, _, _, rfl, rfl, ?_⟩
      have hra4 := s4 _ _ hra
      refine ⟨ra, _, hra4, trivial, fun odo => ?_⟩
      have hfz : upd H4 ra (.frz odo (.dK (FD ins fi))) ra = some (.frz odo (.dK (FD ins fi))) := upd_same
      have eun : upd (upd H4 ra (.frz odo (.dK (FD ins fi)))) ra (.dK (FD ins fi)) = H4 := by
        rw [upd_upd]; funext a
        by_cases z : a = ra
        · subst z; rw [upd_same, hra4]
        · rw [upd_ne z]
      generalize upd H4 ra (.frz odo (.dK (FD ins fi))) = Hz at hfz eun ⊢
      -- reading under the lock
      have G : ∀ {Hl : Hp}, Hl ra = some (.frz odo (.dK (FD ins fi))) → Same H (upd Hl ra (.dK (FD ins fi))) → (∀ {x : Addr} {o : HO}, (∀ k, o ≠ .dK k) → H x = some o → Hl x = some o) ∧ ∀ {x : Addr} {k : List (Key × V)}, H x = some (.dK k) → Rd Hl x (.dK k) := fun {Hl} hz sU => ⟨fun ho h => un_get (sU _ _ h) (ho _), fun {x k} h => by
        by_cases z : x = ra
        · subst z
          have := Option.some.inj (h.symm.trans hra)
          rw [this]; exact .inr ⟨odo, hz⟩
        · exact .inl ((upd_ne z).symm.trans (sU _ _ h))⟩
      have sUz : Same H (upd Hz ra (.dK (FD ins fi))) := by rw [eun]; exact s4
      obtain ⟨g1, g2⟩ := G hfz sUz
      have hbpz : Hz bp = some (.tup [.int (pi : Nat), .int (pj : Nat)]) := un_get (by rw [eun]; exact hbp) (by intro z; cases z)
      refine ⟨_, rfl, _, rfl, bp, _, _, _, rfl, rfl, SqT.of hbpz, atI_0, tl, us, _, _, rfl, rfl, SqL.of (g1 (fun k z => nomatch z) h4), atI_nat hui, ra, odo, ea, .inl ⟨_, hfz, ?_⟩⟩
      have wk : Walk (Itk ra odo (FD ins fi)) ins.length (fun H => H ra = some (.frz odo (.dK (FD ins fi)))) (YAt (ins.map V.str)) := by
        have w0 := walk_keys (d := ra) (o := odo) (kvs := FD ins fi)
        rw [fd_len] at w0
        exact w0.mono (fun _ h => h) (fun i H x H' _ _ ⟨e, ky, v, h, ex⟩ => ⟨e, by obtain ⟨n, hn, rfl, _⟩ := fd_of_get h; rw [List.getElem?_map, hn, ex]; rfl⟩)
      refine for_it wk (fun t σ Hl => ∃ (Ft : TF Str) (x7 x8 : Option V), σ = [some (.ref tl), some (.int (i : Nat)), some (.int (j : Nat)), some (.ref fd), some (.ref od), some (.int ((seen : Int) + 1)), some (.ref bp), x7, x8] ∧ Hl ra = some (.frz odo (.dK (FD ins fi))) ∧ Same H (upd Hl ra (.dK (FD ins fi))) ∧ FH (upd Hl ra (.dK (FD ins fi))) fd od Ft ∧ Hl bp = some (.tup [.int (pi : Nat), .int (pj : Nat)]) ∧
        ta1 wd (ins.drop t) ((rows.getD pi []).drop t) ((rows.getD pj []).drop t) Ft = ta1 wd ins (rows.getD pi []) (rows.getD pj []) F ∧ (Ft.map (·.1)).Nodup ∧ (∃ r, Ft = F ++ r) ∧ (∀ e ∈ Ft, e.1.1 < rows.length ∧ e.1.2 < rows.length) ∧ ∀ e ∈ Ft, e.2.length ≤ seen + 1)
        ⟨F, x7, x8, rfl, hfz, sUz, by rw [eun]; exact F4, hbpz, rfl, hto.nd, ⟨[], by simp⟩, hto.lt, fun e he => Nat.le_trans (hwl e he) (Nat.le_succ _)⟩ (by rintro t σ Hl _ ⟨_, _, _, rfl, h, _⟩; exact h) ?_ ?_
      · rintro t x σ Hl Hl' htl ⟨Ft, x7, x8, rfl, hz, sU, FU, hbpl, hta, hnd, ⟨rr, hpre⟩, hltt, hwt⟩ ⟨rfl, hx⟩
        rw [List.getElem?_map, List.getElem?_eq_getElem htl] at hx
        cases hx
        generalize hnm : ins[t] = nm
        have hnmi : ins[t]? = some nm := by rw [List.getElem?_eq_getElem htl, hnm]
        have hnm_in : nm ∈ ins := List.mem_of_getElem? hnmi
        obtain ⟨g1, g2⟩ := G hz sU
        have FL := FU.unl
        obtain ⟨kvs2, os2, e1, e2, e3, e4⟩ := id FL
        have hFtl : Ft.length ≤ 62500 := by
          have := pairs_len (n := rows.length) hnd (fun q hq => by obtain ⟨z, hz, rfl⟩ := List.mem_map.mp hq; exact hltt z hz)
          rw [List.length_map] at this; omega
        have hidx : ins.idxOf nm = t := idx_at ta.nd hnmi
        have hxi : (rows.getD pi [])[t]? = some (stepOf ins (rows.getD pi []) nm) := by unfold stepOf; rw [hidx]; exact get_getD (by rw [hril]; exact htl)
        have hyj : (rows.getD pj [])[t]? = some (stepOf ins (rows.getD pj []) nm) := by unfold stepOf; rw [hidx]; exact get_getD (by rw [hrjl]; exact htl)
        rw [drop_step hnmi hxi hyj] at hta
        obtain ⟨c, d, ec, hc, hd⟩ := hsti nm hnm_in
        obtain ⟨c', d', ec', hc', hd'⟩ := hstj nm hnm_in
        have hgx := hti.2 _ (List.mem_of_getElem? hxi)
        have hgy := htj.2 _ (List.mem_of_getElem? hyj)
        generalize stepOf ins (rows.getD pi []) nm = ex at *
        generalize stepOf ins (rows.getD pj []) nm = ey at *
        have hwm : ((pi, pj), wd) ∈ Ft := by rw [hpre]; exact List.mem_append_left _ hpm
        obtain ⟨aw, hav, nao, haw⟩ := (FE_val e2 hnd (pi, pj)).1 wd hwm
        have nt : ∀ {xs : List V} (k : List (Key × V)), HO.tup xs ≠ .dK k := fun k z => nomatch z
        have dpx : Dp K Hl' (.ref d) (.tuple (ex.2.map fun x => PyData.int (x : Nat))) := .tup (SqT.of (g1 nt hd)) (dpN _)
        have dpy : Dp K Hl' (.ref d') (.tuple (ey.2.map fun x => PyData.int (x : Nat))) := .tup (SqT.of (g1 nt hd')) (dpN _)
        refine ⟨_, rfl, _, rfl, bp, _, _, _, rfl, rfl, SqT.of hbpl, atI_0, tl, us, _, _, rfl, rfl, SqL.of (g1 (fun k z => nomatch z) h4), atI_nat hui, _, rfl, ra, _, ea, dget_in (g2 hra) hnm_in, c, _, _, _, ec, rfl, SqT.of (g1 nt hc), atI_1, _, rfl, _, rfl, bp, _, _, _, rfl, rfl, SqT.of hbpl, atI_1, tl, us, _, _, rfl, rfl, SqL.of (g1 (fun k z => nomatch z) h4), atI_nat huj, _, rfl, rb, _, eb, dget_in (g2 hrb) hnm_in, c', _, _, _, ec', rfl, SqT.of (g1 nt hc'), atI_1, _, _, dpx, dpy, sh_tupN _, sh_tupN _, _, rfl, ?_⟩
        have heq : PyData.eqv (.tuple (ex.2.map fun x => PyData.int (x : Nat))) (.tuple (ey.2.map fun x => PyData.int (x : Nat))) = decide (ex.2 = ey.2) := by show PyData.eqvAll _ _ = _; exact eqv_nats _ _
        rw [heq]
        have hres : ∀ w2, ta1 wd ins (rows.getD pi []) (rows.getD pj []) F = .inl w2 → tell rows ins i j = some w2 := fun w2 hw2 => by
          rw [← htn, taN, hFs]; dsimp only; rw [hw2]
        by_cases hoe : ex.2 = ey.2
        · rw [decide_eq_true hoe]
          rw [if_pos hoe] at hta
          refine iteF ?_
          refine ⟨_, rfl, _, rfl, bp, _, _, _, rfl, rfl, SqT.of hbpl, atI_0, tl, us, _, _, rfl, rfl, SqL.of (g1 (fun k z => nomatch z) h4), atI_nat hui, _, rfl, ra, _, ea, dget_in (g2 hra) hnm_in, c, _, _, _, ec, rfl, SqT.of (g1 nt hc), atI_0, _, rfl, _, rfl, bp, _, _, _, rfl, rfl, SqT.of hbpl, atI_1, tl, us, _, _, rfl, rfl, SqL.of (g1 (fun k z => nomatch z) h4), atI_nat huj, _, rfl, rb, _, eb, dget_in (g2 hrb) hnm_in, c', _, _, _, ec', rfl, SqT.of (g1 nt hc'), atI_0, sz (by show 2 ≤ 100000; omega), fun bl hbl => ?_⟩
          have s6 := same_new (o := .tup [.int (ex.1 : Nat), .int (ey.1 : Nat)]) hbl
          have hbl6 : upd Hl' bl (.tup [.int (ex.1 : Nat), .int (ey.1 : Nat)]) bl = some (.tup [.int (ex.1 : Nat), .int (ey.1 : Nat)]) := upd_same
          have FU6 := FU.mono (un_same (x := ra) (u := .dK (FD ins fi)) s6)
          have sU6 := sU.trans (un_same (x := ra) (u := .dK (FD ins fi)) s6)
          have hz6 := s6 _ _ hz
          have hbp6 := s6 _ _ hbpl
          have haw6 := s6 _ _ haw
          have e1' := s6 _ _ e1
          have e2' := Paired.mapP e2 fun _ _ q => FE.mono q fun a xs _ e => s6 _ _ e
          have e3' := s6 _ _ e3
          have e4' := Paired.mapP e4 fun _ _ q => OE.mono q (ts_of s6)
          generalize upd Hl' bl (.tup [.int (ex.1 : Nat), .int (ey.1 : Nat)]) = H6 at s6 hbl6 FU6 sU6 hz6 hbp6 haw6 e1' e2' e3' e4' ⊢
          have hval := FE_val e2' hnd (ex.1, ey.1)
          refine ⟨_, rfl, _, rfl, fd, _, rfl, .inr ⟨kvs2, kP (ex.1, ey.1), bl, .inl e1', rfl, hbl6, rfl⟩, ?_⟩
          by_cases hmem : (ex.1, ey.1) ∈ Ft.map (·.1)
          · obtain ⟨⟨q', w'⟩, hm', eq'⟩ := List.mem_map.mp hmem
            have eq' : q' = (ex.1, ey.1) := eq'
            subst eq'
            obtain ⟨a', ha', _⟩ := hval.1 w' hm'
            rw [ha']
            have hadd : addF Ft (ex.1, ey.1) (wd ++ [nm]) = Ft := by unfold addF; rw [if_pos hmem]
            rw [hadd] at hta
            exact ⟨false, rfl, iteF ⟨Ft, _, _, rfl, hz6, sU6, FU6, hbp6, hta, hnd, ⟨rr, hpre⟩, hltt, hwt⟩⟩
          · have hvn := hval.2 hmem
            rw [hvn]
            have hadd : addF Ft (ex.1, ey.1) (wd ++ [nm]) = Ft ++ [((ex.1, ey.1), wd ++ [nm])] := by unfold addF; rw [if_neg hmem]
            rw [hadd] at hta
            refine ⟨true, rfl, iteT ?_⟩
            refine ⟨_, rfl, _, rfl, fd, _, rfl, .inr ⟨kvs2, kP (pi, pj), bp, .inl e1', rfl, hbp6, hav.symm⟩, _, rfl, sz (by show 1 ≤ 100000; omega), fun l0 hl0 => ⟨aw, l0, _, _, rfl, rfl, same_new hl0 _ _ haw6, upd_same, ?_⟩⟩
            have ewd : wd.map V.str ++ [V.str nm] = (wd ++ [nm]).map V.str := by rw [List.map_append]; rfl
            refine ⟨sz (by rw [List.length_map]; show wd.length + 1 ≤ 100000; have := hto.le; omega), fun l2 hl2 => ?_⟩
            have s7 := (same_new (o := .lst [V.str nm]) hl0).trans (same_new (o := .lst (wd.map V.str ++ [V.str nm])) hl2)
            have hl27 : upd (upd H6 l0 (.lst [V.str nm])) l2 (.lst (wd.map V.str ++ [V.str nm])) l2 = some (.lst ((wd ++ [nm]).map V.str)) := by rw [upd_same, ewd]
            have nl2 : l2 ≠ od := fun e => by subst e; rw [same_new hl0 _ _ e3'] at hl2; cases hl2
            have e17 := s7 _ _ e1'
            have e27 := Paired.mapP e2' fun _ _ q => FE.mono q fun a xs _ e => s7 _ _ e
            have e37 := s7 _ _ e3'
            have e47 := Paired.mapP e4' fun _ _ q => OE.mono q (ts_of s7)
            have hbl7 := s7 _ _ hbl6
            have hz7 := s7 _ _ hz6
            have hbp7 := s7 _ _ hbp6
            have sU7 := sU6.trans (un_same (x := ra) (u := .dK (FD ins fi)) s7)
            generalize upd (upd H6 l0 (.lst [V.str nm])) l2 (.lst (wd.map V.str ++ [V.str nm])) = H7 at hl27 e17 e27 e37 e47 hbl7 hz7 hbp7 sU7 ⊢
            have nfo : fd ≠ od := ne_of e17 e37 (by intro z; cases z)
            have nfr : fd ≠ ra := ne_of e17 hz7 (by intro z; cases z)
            have nor : od ≠ ra := ne_of e37 hz7 (by intro z; cases z)
            have hkl : kvs2.length = Ft.length := Paired.length e27
            refine ⟨_, rfl, _, rfl, fd, _, rfl, .inr ⟨kvs2, kP (ex.1, ey.1), bl, e17, rfl, hbl7, szl (by omega), rfl⟩, ?_⟩
            have e38 : upd H7 fd (.dT (putK kvs2 (kP (ex.1, ey.1)) (.ref l2))) od = _ := (upd_ne (Ne.symm nfo)).trans e37
            refine ⟨_, rfl, .inl ⟨rfl, _, SqL.of e38⟩, _, rfl, od, os2, _, rfl, rfl, e38, szl (by have : os2.length = Ft.length := Paired.length e47; omega), ?_⟩
            have eU : upd (upd (upd H7 fd (.dT (putK kvs2 (kP (ex.1, ey.1)) (.ref l2)))) od (.lst (os2 ++ [.ref bl]))) ra (.dK (FD ins fi)) = upd (upd (upd H7 ra (.dK (FD ins fi))) fd (.dT (putK kvs2 (kP (ex.1, ey.1)) (.ref l2)))) od (.lst (os2 ++ [.ref bl])) := by rw [upd_comm nor, upd_comm nfr]
            have toU : ∀ {x : Addr} {o : HO}, H7 x = some o → x ≠ ra → upd H7 ra (.dK (FD ins fi)) x = some o := fun h n => (upd_ne n).trans h
            have ntr : ∀ {x : Addr} {o : HO}, H7 x = some o → (∀ f u, o ≠ .frz f u) → x ≠ ra := fun h n z => by subst z; rw [hz7] at h; exact n _ _ (Option.some.inj h).symm
            refine ⟨Ft ++ [((ex.1, ey.1), wd ++ [nm])], _, _, rfl, (upd_ne (Ne.symm nor)).trans ((upd_ne (Ne.symm nfr)).trans hz7), ?_, ?_, (upd_ne (ne_of hbp7 e37 (by intro z; cases z))).trans ((upd_ne (ne_of hbp7 e17 (by intro z; cases z))).trans hbp7), hta, ?_, ⟨rr ++ [((ex.1, ey.1), wd ++ [nm])], by rw [hpre, List.append_assoc]⟩, ?_, ?_⟩
            · rw [eU]; exact same_mut (same_mut sU7 hfd0) hodn
            · rw [eU]
              exact FH.add (toU e17 nfr) (Paired.mapP e27 fun _ _ q => FE.mono q fun a xs _ e => toU e (ntr e (fun _ _ z => nomatch z))) (toU e37 nor) (Paired.mapP e47 fun _ _ q => OE.mono q fun a xs e => toU e (ntr e (fun _ _ z => nomatch z))) hvn (toU hl27 (ntr hl27 (fun _ _ z => nomatch z))) nl2 (toU hbl7 (ntr hbl7 (fun _ _ z => nomatch z)))
            · rw [List.map_append, List.nodup_append]
              exact ⟨hnd, by simp, fun a ha b hb => by simp at hb; subst hb; intro e; subst e; exact hmem ha⟩
            · intro e he
              rcases List.mem_append.mp he with h | h
              · exact hltt e h
              · simp at h; subst h; exact ⟨hgx, hgy⟩
            · intro e he
              rcases List.mem_append.mp he with h | h
              · exact hwt e h
              · simp at h; subst h
                show (wd ++ [nm]).length ≤ seen + 1
                rw [List.length_append]; exact Nat.succ_le_succ hwdl
        · rw [decide_eq_false hoe]
          rw [if_neg hoe] at hta
          refine iteT ?_
          refine ⟨_, rfl, _, rfl, fd, _, rfl, .inr ⟨kvs2, kP (pi, pj), bp, .inl e1, rfl, hbpl, hav.symm⟩, _, rfl, sz (by show 1 ≤ 100000; omega), fun l0 hl0 => ⟨aw, l0, _, _, rfl, rfl, same_new hl0 _ _ haw, upd_same, ?_⟩⟩
          have ewd : wd.map V.str ++ [V.str nm] = (wd ++ [nm]).map V.str := by rw [List.map_append]; rfl
          refine ⟨sz (by rw [List.length_map]; show wd.length + 1 ≤ 100000; have := hto.le; omega), fun l2 hl2 => ?_⟩
          have s7 := (same_new (o := .lst [V.str nm]) hl0).trans (same_new (o := .lst (wd.map V.str ++ [V.str nm])) hl2)
          have nlr : l2 ≠ ra := fun e => by subst e; rw [same_new hl0 _ _ hz] at hl2; cases hl2
          refine ⟨s7 _ _ hz, ?_⟩
          refine k1 (wd ++ [nm]) l2 _ (hres _ hta.symm) (sU.trans (un_same s7)) ?_
          rw [upd_ne nlr, upd_same, ← ewd]
      · rintro σ Hl ⟨Ft, x7, x8, rfl, hz, sU, FU, hbpl, hta, hnd, ⟨rr, hpre⟩, hltt, hwt⟩
        refine ⟨hz, f', by omega, seen + 1, Ft, some (.ref bp), x7, x8, ?_, sU, FU, ?_, ?_, hwt⟩
        · rfl
        · have e : ta1 wd ins (rows.getD pi []) (rows.getD pj []) F = .inr Ft := by
            have d1 : (rows.getD pi []).drop ins.length = [] := List.drop_of_length_le (by omega)
            have d2 : (rows.getD pj []).drop ins.length = [] := List.drop_of_length_le (by omega)
            rw [← hta, List.drop_length, d1, d2]; rfl
          rw [← htn, taN, hFs]; dsimp only; rw [e]
        · have e : ta1 wd ins (rows.getD pi []) (rows.getD pj []) F = .inr Ft := by
            have d1 : (rows.getD pi []).drop ins.length = [] := List.drop_of_length_le (by omega)
            have d2 : (rows.getD pj []).drop ins.length = [] := List.drop_of_length_le (by omega)
            rw [← hta, List.drop_length, d1, d2]; rfl
          exact hto.step ta.tb rfl hFs e
    · have hc : ¬ (seen : Int) < (os.length : Nat) := fun z => hc (decide_eq_true z)
      have hnone : F[seen]? = none := List.getElem?_eq_none (by omega)
      obtain ⟨f', rfl⟩ : ∃ f', μ = f' + 1 := ⟨μ - 1, by have := hto.fuel; have := hto.le; omega⟩
      refine k2 ?_ H4 s4
      rw [← htn, taN, hnone]
end
end Bc
end
section
set_option Elab.async false
set_option linter.all false
set_option maxRecDepth 100000
set_option maxHeartbeats 4000000
set_option pp.maxSteps 300
/-! The walk: classes. -/
namespace Bc
open PySem L2
abbrev CKey := Nat × List (Nat × List Nat)
def nkO1 (x : Nat × List Nat) : NestedKey := .tup [.num (x.1 : Int), .tup (x.2.map fun (y : Nat) => NestedKey.num (y : Int))]
def nkOf (k : CKey) : NestedKey := .tup [.num (k.1 : Int), .tup (k.2.map nkO1)]
theorem nkO1_inj {x y : Nat × List Nat} (h : nkO1 x = nkO1 y) : x = y := by
  obtain ⟨a, l⟩ := x; obtain ⟨b, m⟩ := y
  unfold nkO1 at h
  have h1 := List.cons.inj (NestedKey.tup.inj h)
  have h2 : (a : Int) = (b : Int) := NestedKey.num.inj h1.1
  have h3 := NestedKey.tup.inj (List.cons.inj h1.2).1
  have h4 : l = m := (List.map_inj_right (fun (a b : Nat) (e : NestedKey.num (a : Int) = .num (b : Int)) => by have := NestedKey.num.inj e; omega)).mp h3
  rw [Prod.mk.injEq]; exact ⟨by omega, h4⟩
theorem nkOf_inj {x y : CKey} (h : nkOf x = nkOf y) : x = y := by
  obtain ⟨a, l⟩ := x; obtain ⟨b, m⟩ := y
  unfold nkOf at h
  have h1 := List.cons.inj (NestedKey.tup.inj h)
  have h2 : (a : Int) = (b : Int) := NestedKey.num.inj h1.1
  have h3 := NestedKey.tup.inj (List.cons.inj h1.2).1
  have h4 : l = m := (List.map_inj_right (fun (a b : Nat × List Nat) e => nkO1_inj e)).mp h3
  rw [Prod.mk.injEq]; exact ⟨by omega, h4⟩
theorem dep_flat {α : Type} (f : α → NestedKey) (n : Nat) (h : ∀ x, (f x).depth ≤ n) : ∀ xs : List α, NestedKey.depthAll (xs.map f) ≤ n
  | [] => Nat.zero_le _
  | x :: xs => Nat.max_le.mpr ⟨h x, dep_flat f n h xs⟩
theorem nkOf_dep (k : CKey) : (nkOf k).depth ≤ 8 := by
  have h1 : ∀ x : Nat × List Nat, (nkO1 x).depth ≤ 3 := fun x => by
    have := dep_flat (fun (y : Nat) => NestedKey.num (y : Int)) 0 (fun _ => by simp [NestedKey.depth]) x.2
    simp only [nkO1, NestedKey.depth, NestedKey.depthAll]
    omega
  have h2 := dep_flat nkO1 3 h1 k.2
  simp only [nkOf, NestedKey.depth, NestedKey.depthAll]
  omega
theorem num_snoc {κ : Type} [DecidableEq κ] : ∀ (ks : List κ) (k : κ) (K : List κ) (late : List Nat), num (ks ++ [k]) K late = (ins1 (num ks K late).1 k, (num ks K late).2 ++ [idx (ins1 (num ks K late).1 k) k])
  | [], k, K, late => rfl
  | a :: ks, k, K, late => by
    show num (ks ++ [k]) _ _ = _
    rw [num_snoc ks k]; rfl
theorem nks_nums (H : Hp) : ∀ l : List Nat, NKs H (l.map fun (y : Nat) => NestedKey.num (y : Int)) (l.map fun y => V.int (y : Nat))
  | [] => .nil
  | y :: l => .cons (.num _) (nks_nums H l)
theorem nks_paired {H : Hp} {α : Type} {f : α → NestedKey} : ∀ {es : List V} {xs : List α}, Paired (fun e x => NKv H (f x) e) es xs → NKs H (xs.map f) es
  | _, _, .nil => .nil
  | _, _, .cons g r => .cons g (nks_paired r)
theorem hu16 {A : Around} {k : Nat} (hr : Room k A) : A.units + 16 < cLine := by have := hr.un; omega
def sp_classes_of (CW : Addr) : Sp := fun vs H Q _ => ∃ (q : Addr) (ns ins : List Str) (o : List (List Nat)) (rows : List (List (Nat × List Nat))), vs = [.ref q] ∧ WaysAt CW H q ns ins o rows ∧ ins.Nodup ∧ ins.length ≤ 12 ∧ Table rows ins.length ∧ 0 < rows.length ∧ rows.length ≤ 250 ∧ o.length = rows.length ∧
  ∀ a late H', Same H H' → H' a = some (.lst (late.map fun x => V.int (x : Nat))) → Classes rows late → Q (.ref a) H'
section
variable {P : Program} {w : World} {K : PySem.W.Frag} {mg : Str → Option Value} {base : Heap}
theorem ok_classes_of (T : Tx K mg) : FnOk P w K mg base CX0 1 T.classes_of.f T.classes_of.fd ["ways"] (sp_classes_of T.kWays.C) := by
  refine T.classes_of.F.ok sc_classes_of (fun vs H Q E h => ?_) (fun cdv A outer s H vs Q E hr h => ?_)
  · obtain ⟨q, ns, ins, o, rows, rfl, _⟩ := h; rfl
  · obtain ⟨q, ns, ins, o, rows, rfl, ⟨qx, sl, tl, vs, us, h1, h2, h3, h4, h5⟩, hnd, hil, tb, h0, h250, hor, k⟩ := h
    have hvl : vs.length = rows.length := (Paired.length h3).trans hor
    have hul : us.length = rows.length := Paired.length h5
    refine ⟨_, (pss_cons (ps_set (i := 1) sc_classes_of.nd rfl (.inl rfl) (pe_callB (id := "len") call_len_seq (by rfl) T.b_len PySem.boot_len (pa_cons (pe_fld (pv 0) rfl) pa_nil)))
      (pss_cons (ps_asg (pe_tup (pa_cons (pe_op op_rep (pe_lst (pa_cons pe_int pa_nil)) (pv 1)) (pa_cons pe_int pa_nil))) (pg_tup rfl (pgs_cons (pg_name (i := 2) sc_classes_of.nd rfl (.inr rfl)) (pgs_cons (pg_name (i := 3) sc_classes_of.nd rfl (.inl rfl)) pgs_nil))))
      (pss_one (ps_while PassesOwn.never (pt_val pe_bl) (pss_cons (ps_par (i := 4) (j := 5) rfl sc_classes_of.nd rfl rfl (by decide) rfl rfl (pa_cons pe_newNk (pa_cons (pe_lst pa_nil) pa_nil)) (by rfl))
        (pss_cons (ps_for PassesOwn.never rfl (pi_enum rfl T.b_enumerate (pa_cons (pe_fld (pv 0) rfl) pa_nil)) (pg_tup rfl (pgs_cons (pg_name (i := 6) sc_classes_of.nd rfl (.inl rfl)) (pgs_cons (pg_name (i := 7) sc_classes_of.nd rfl (.inl rfl)) pgs_nil))) (pss_cons (ps_set (i := 8) sc_classes_of.nd rfl (.inl rfl) (pe_tup (pa_cons (pe_ix ix_list (pv 2) (pv 6) (fun _ _ => rfl)) (pa_cons (pe_callTy (T := "tuple") (call_tuple_of) rfl T.b_tuple (by decide +kernel) (pa_cons (pe_lock (pe_lc (own := [("goal", 9), ("out", 10)]) rfl sc_classes_of.nd (pi_values (pv 7)) (blkOk_by (N := N_classes_of) (sc := defScope s_classes_of) (by decide +kernel)) (fun _ _ _ _ _ => pg_tupK (K := K) (n := 2) rfl rfl (pgs_cons (pg_name (i := 9) sc_classes_of.nd rfl (.inl rfl)) (pgs_cons (pg_name (i := 10) sc_classes_of.nd rfl (.inl rfl)) pgs_nil))) (fun _ _ _ _ _ => pts_nil) (fun _ _ _ _ _ => pe_tup (pa_cons (pe_ix (r := rIxL K) ix_list (pv 2) (pv 9) (fun _ _ => rfl)) (pa_cons (pv 10) pa_nil))))) pa_nil)) pa_nil))))
          (pss_one (ps_expr (pe_bm PySem.F.plainAttrs_list PySem.F.slot_list_append PySem.F.type_list_append mt_append (pv 5) (pa_cons (pe_setNk (hu16 hr) (pv 4) (pv 8) (pe_callB (id := "len") call_lenNk (by rfl) T.b_len PySem.boot_len (pa_cons (pv 4) pa_nil)) ⟨rfl, rfl, rfl, rfl⟩) pa_nil))))))
        (pss_cons (ps_set (i := 2) sc_classes_of.nd rfl (.inr rfl) (pv 5))
        (pss_cons (ps_if (pt_cmpR op_eq (pe_callB (id := "len") call_lenNk (by rfl) T.b_len PySem.boot_len (pa_cons (pv 4) pa_nil)) (pv 3) (nomark _)) (pss_one (ps_ret (pv 2))) pss_nil)
        (pss_one (ps_set (i := 3) sc_classes_of.nd rfl (.inl rfl) (pe_callB (id := "len") call_lenNk (by rfl) T.b_len PySem.boot_len (pa_cons (pv 4) pa_nil)))))))))))), ?_⟩
    refine ⟨_, rfl, q, _, qx, _, _, rfl, h1, T.cl_Ways, T.a_Ways_standings, rfl, sl, vs, rfl, .inl (SqL.of h2), ?_⟩
    refine ⟨sz (by show 1 ≤ 100000; omega), fun z hz => ⟨_, rfl, z, _, _, rfl, rfl, upd_same, by omega, by omega, (by show 1 * _ ≤ _; exact sz (by omega)), fun na hna => ⟨sz (by show 2 ≤ 100000; omega), fun tp htp => ⟨tp, _, rfl, SqT.of upd_same, rfl, _, _, rfl, _, _, rfl, rfl, ?_⟩⟩⟩⟩
    have s1 : Same H (upd (upd (upd H z (.lst [.int 0])) na (.lst (List.replicate ((vs.length : Int)).toNat [V.int 0]).flatten)) tp (.tup [.ref na, .int 1])) := ((same_new hz).trans (same_new hna)).trans (same_new htp)
    have hna1 : (upd (upd (upd H z (.lst [.int 0])) na (.lst (List.replicate ((vs.length : Int)).toNat [V.int 0]).flatten)) tp (.tup [.ref na, .int 1])) na = some (.lst ((List.replicate rows.length 0).map fun (x : Nat) => V.int (x : Nat))) := by
      refine (same_new htp _ _ upd_same).trans ?_
      have : ((vs.length : Int)).toNat = rows.length := by omega
      rw [this]; simp
    generalize upd (upd (upd H z (.lst [.int 0])) na (.lst (List.replicate ((vs.length : Int)).toNat [V.int 0]).flatten)) tp (.tup [.ref na, .int 1]) = H1 at s1 hna1 ⊢
    -- the rounds
    refine ⟨fun μ σ H' => ∃ (na : Addr) (now : List Nat) (c : Nat) (x4 x5 x6 x7 x8 : Option V), σ = [some (.ref q), some (.int (vs.length : Nat)), some (.ref na), some (.int (c : Nat)), x4, x5, x6, x7, x8, none, none] ∧ Same H H' ∧ H' na = some (.lst (now.map fun x => V.int (x : Nat))) ∧ now.length = rows.length ∧ COk rows now c ∧ c ≤ rows.length ∧ μ = rows.length - c,
      ⟨_, na, List.replicate rows.length 0, 1, none, none, none, none, none, rfl, s1, hna1, by simp, COk.start h0, h0, rfl⟩, ?_⟩
    rintro μ σ H2 ⟨na, now, c, x4, x5, x6, x7, x8, rfl, s2, hna2, hnl, hco, hcn, rfl⟩
    refine ⟨true, rfl, iteT ⟨_, fun σ' H' h => h, ?_⟩⟩
    intro ka hka
    refine ⟨Nat.zero_le _, fun la hla => ⟨_, _, rfl, ?_⟩⟩
    have hkn : H ka = none := s2.free hka
    have hln : H la = none := s2.free ((same_new hka).free hla)
    have s3 := s2.trans ((same_new (o := nkO P w ka [] []) hka).trans (same_new (o := .lst []) hla))
    have nk3 : NkAt P w (upd (upd H2 ka (nkO P w ka [] [])) la (.lst [])) ka [] [] := ⟨[], rfl, same_new hla _ _ upd_same, fun p hp => nomatch hp⟩
    have hla3 : (upd (upd H2 ka (nkO P w ka [] [])) la (.lst [])) la = some (.lst []) := upd_same
    have hna3 : (upd (upd H2 ka (nkO P w ka [] [])) la (.lst [])) na = _ := same_new hla _ _ (same_new hka _ _ hna2)
    have nak : na ≠ ka := fun e => by subst e; rw [hna2] at hka; cases hka
    have nkl : ka ≠ la := fun e => by subst e; rw [upd_same] at hla; cases hla
    have nal : na ≠ la := fun e => by subst e; have := (same_new (o := nkO P w ka [] []) hka _ _ hna2).symm.trans hla; cases this
    have hkl : (keysOf now rows).length = rows.length := by simp [keysOf]
    refine ⟨_, rfl, q, _, qx, _, _, rfl, s3 _ _ h1, T.cl_Ways, T.a_Ways_steps, rfl, tl, us, rfl, SqL.of (s3 _ _ h4), ?_⟩
    refine for_it walk_enum (fun i σ H' => ∃ x6 x7 x8, σ = [some (.ref q), some (.int (vs.length : Nat)), some (.ref na), some (.int (c : Nat)), some (.ref ka), some (.ref la), x6, x7, x8, none, none] ∧ Same H H' ∧ H' na = some (.lst (now.map fun x => V.int (x : Nat))) ∧ NkAt P w H' ka ((num ((keysOf now rows).take i) [] []).1.map nkOf) ((List.range (num ((keysOf now rows).take i) [] []).1.length).map fun x => V.int (x : Nat)) ∧ H' la = some (.lst ((num ((keysOf now rows).take i) [] []).2.map fun x => V.int (x : Nat))) ∧ (num ((keysOf now rows).take i) [] []).1.length ≤ i ∧ (num ((keysOf now rows).take i) [] []).2.length = i)
      ⟨x6, x7, x8, rfl, s3, hna3, nk3, hla3, Nat.le_refl _, rfl⟩ (by rintro i σ H' _ ⟨_, _, _, rfl, sm, _⟩; exact SqL.of (sm _ _ h4)) ?_ ?_
    · rintro i x σ H4 H5 hi ⟨x6, x7, x8, rfl, s4, hna4, nk4, hla4, hK4, hL4⟩ ⟨T', x', y', rfl, hT, rfl, hx, hy⟩
      have hx : some (V.int (i : Nat)) = some x' := hx
      cases hx
      have hy : us[i]? = some y' := hy
      have hri : rows[i]? = some (rows.getD i []) := get_getD (by omega)
      obtain ⟨ra, ka0, rfl, hra, f, rfl, hrl, hst⟩ := paired_at h5 hy hri
      have htr := tb.row _ (List.mem_of_getElem? hri)
      have s5 := same_up (o := .tup [.int (i : Nat), .ref ra]) s4 hT
      have t45 : Same H4 (upd H4 T' (.tup [.int (i : Nat), .ref ra])) := same_new hT
      have hna5 := t45 _ _ hna4
      have hla5 := t45 _ _ hla4
      have nk5 : NkAt P w (upd H4 T' (.tup [.int (i : Nat), .ref ra])) ka _ _ := nk4.mono (ts_of t45) (fun o e => t45 _ _ e)
      refine ⟨T', _, rfl, SqT.of upd_same, rfl, _, _, rfl, _, _, rfl, rfl, ?_⟩
      generalize upd H4 T' (.tup [.int (i : Nat), .ref ra]) = H5 at s5 hna5 hla5 nk5 ⊢
      have hnowi : now[i]? = some (now.getD i 0) := get_getD (by omega)
      refine ⟨_, rfl, _, rfl, na, _, _, _, rfl, rfl, SqL.of hna5, atI_nat (by rw [List.getElem?_map, hnowi]; rfl), ?_⟩
      -- the row
      have hra5 := s5 _ _ hra
      refine ⟨ra, _, hra5, trivial, fun od => ⟨_, rfl, ra, od, _, rfl, upd_same, fun el hel => ?_⟩⟩
      have hfz : upd H5 ra (.frz od (.dK (FD ins f))) ra = some (.frz od (.dK (FD ins f))) := upd_same
      have nrn : na ≠ ra := ne_of hna5 hra5 (by intro z; cases z)
      have hnaz : upd H5 ra (.frz od (.dK (FD ins f))) na = _ := (upd_ne nrn).trans hna5
      have hwv := walk_values (d := ra) (o := od) (kvs := FD ins f)
      rw [fd_len] at hwv
      have tsz : TS H (upd H5 ra (.frz od (.dK (FD ins f)))) := (ts_of s5).trans (ts_upd hra5 (fun xs z => nomatch z))
      have eun : upd (upd H5 ra (.frz od (.dK (FD ins f)))) ra (.dK (FD ins f)) = H5 := by
        rw [upd_upd]; funext a
        by_cases z : a = ra
        · subst z; rw [upd_same, hra5]
        · rw [upd_ne z]
      generalize upd H5 ra (.frz od (.dK (FD ins f))) = Hz at hfz hnaz tsz eun hel ⊢
      refine lc_it hwv (fun j H' => ∃ es, Same Hz H' ∧ H' el = some (.lst es) ∧ es.length = j ∧ Paired (fun e x => NKv H' (nkO1 (now.getD x.1 0, x.2)) e) es ((rows.getD i []).take j)) ⟨[], same_new hel, upd_same, rfl, .nil⟩ (fun j H' _ ⟨es, sm, _⟩ => sm _ _ hfz) ?_ ?_
      · rintro j x H6 H7 hj ⟨es, s6, hes, hesl, hpe⟩ ⟨rfl, ky, hky⟩
        obtain ⟨n, hn, rfl, rfl⟩ := fd_of_get hky
        have hnin := List.mem_of_getElem? hn
        obtain ⟨cc, d, ec, hc, hd⟩ := hst n hnin
        have hidx : ins.idxOf n = j := idx_at hnd hn
        have hxj : (rows.getD i [])[j]? = some (stepOf ins (rows.getD i []) n) := by unfold stepOf; rw [hidx]; exact get_getD (by omega)
        have hgx := htr.2 _ (List.mem_of_getElem? hxj)
        generalize stepOf ins (rows.getD i []) n = ex at *
        have hc6 := s6 _ _ (tsz _ _ hc)
        have hd6 := s6 _ _ (tsz _ _ hd)
        have hnowg : now[ex.1]? = some (now.getD ex.1 0) := get_getD (by omega)
        refine ⟨cc, _, ec, SqT.of hc6, rfl, _, _, rfl, _, _, rfl, rfl, rfl, ?_⟩
        dsimp only [tYes]
        rw [if_pos rfl]
        refine ⟨_, rfl, _, rfl, na, _, _, _, rfl, rfl, SqL.of (s6 _ _ hnaz), atI_nat (by rw [List.getElem?_map, hnowg]; rfl), _, rfl, sz (by show 2 ≤ 100000; omega), fun e he => ⟨es, same_new he _ _ hes, szl (by omega), ?_⟩⟩
        have ne : e ≠ el := fun z => by subst z; rw [hes] at he; cases he
        have s7 : Same Hz (upd (upd H7 e (.tup [.int (now.getD ex.1 0 : Nat), .ref d])) el (.lst (es ++ [.ref e]))) := same_mut (same_up s6 he) hel
        have t7 : TS H7 (upd (upd H7 e (.tup [.int (now.getD ex.1 0 : Nat), .ref d])) el (.lst (es ++ [.ref e]))) := (ts_new he).trans (ts_upd (same_new he _ _ hes) (fun xs z => nomatch z))
        refine ⟨es ++ [.ref e], s7, upd_same, by simp [hesl], ?_⟩
        rw [List.take_succ, hxj]
        exact paired_app (.tup ((upd_ne ne).trans upd_same) (.cons (.num _) (.cons (.tup (t7 _ _ hd6) (nks_nums _ _)) .nil))) (Paired.mapP hpe fun _ _ q => NKv.mono t7 _ _ q)
      · rintro H6 ⟨es, s6, hes, hesl, hpe⟩
        rw [← hrl, List.take_length] at hpe
        refine ⟨s6 _ _ hfz, ?_⟩
        have nel : el ≠ ra := fun z => by subst z; rw [hfz] at hel; cases hel
        have s7 : Same H (upd H6 ra (.dK (FD ins f))) := same_unlock s5 hra (by
          have : Same (upd H5 ra (.frz od (.dK (FD ins f)))) H6 := by
            intro a u e
            refine s6 a u ?_
            by_cases z : a = ra
            · subst z; rw [upd_same] at e; rw [hfz]; exact e
            · rw [upd_ne z] at e; rw [← eun, upd_ne z] at e; exact e
          exact this)
        have u7 : Same H5 (upd H6 ra (.dK (FD ins f))) := by rw [← eun]; exact un_same s6
        have t67 : TS H6 (upd H6 ra (.dK (FD ins f))) := ts_upd (s6 _ _ hfz) (fun xs z => nomatch z)
        have hel7 : upd H6 ra (.dK (FD ins f)) el = _ := (upd_ne nel).trans hes
        have hpe7 := Paired.mapP hpe fun _ _ q => NKv.mono t67 _ _ q
        have hna7 := u7 _ _ hna5
        have hla7 := u7 _ _ hla5
        have nk7 := nk5.mono (ts_of u7) (fun o e => u7 _ _ e)
        generalize upd H6 ra (.dK (FD ins f)) = H7 at s7 hel7 hpe7 hna7 hla7 nk7 ⊢
        refine ⟨el, _, rfl, .inl ⟨SqL.of hel7, fun et het => ⟨sz (by show 2 ≤ 100000; omega), fun kt hkt => ?_⟩⟩⟩
        have u8 := (same_new (o := .tup es) het).trans (same_new (o := .tup [.int (now.getD i 0 : Nat), .ref et]) hkt)
        have s8 := s7.trans u8
        have hkey : NKv (upd (upd H7 et (.tup es)) kt (.tup [.int (now.getD i 0 : Nat), .ref et])) (nkOf (keyOf now i (rows.getD i []))) (.ref kt) := by
          refine .tup upd_same (.cons (.num _) (.cons (.tup (same_new hkt _ _ upd_same) ?_) .nil))
          show NKs _ (((rows.getD i []).map fun x => (now.getD x.1 0, x.2)).map nkO1) es
          rw [List.map_map]
          exact nks_paired (Paired.mapP hpe7 fun _ _ q => NKv.mono (ts_of u8) _ _ q)
        have hna8 := u8 _ _ hna7
        have hla8 := u8 _ _ hla7
        have nk8 := nk7.mono (ts_of u8) (fun o e => u8 _ _ e)
        generalize upd (upd H7 et (.tup es)) kt (.tup [.int (now.getD i 0 : Nat), .ref et]) = H8 at s8 hkey hna8 hla8 nk8 ⊢
        have hnext : num ((keysOf now rows).take (i + 1)) [] [] = (ins1 (num ((keysOf now rows).take i) [] []).1 (keyOf now i (rows.getD i [])), (num ((keysOf now rows).take i) [] []).2 ++ [idx (ins1 (num ((keysOf now rows).take i) [] []).1 (keyOf now i (rows.getD i []))) (keyOf now i (rows.getD i []))]) := by
          rw [List.take_succ, keys_at (by omega), ← num_snoc]; rfl
        have hKnd := (num_ok ((keysOf now rows).take i) [] [] [] num_nil_ok).nd
        generalize num ((keysOf now rows).take i) [] [] = KL at *
        obtain ⟨Ks, late⟩ := KL
        dsimp only at *
        generalize keyOf now i (rows.getD i []) = key at *
        refine ⟨_, rfl, .inl ⟨rfl, _, SqL.of hla8⟩, _, rfl, ka, _, _, rfl, nk8, _, rfl, _, rfl, ka, _, _, rfl, nk8, kt, nkOf key, _, _, rfl, nk8, hkey, nkOf_dep _, (by rw [List.length_map]; omega), ?_, ?_⟩
        · intro j v hj hv
          rw [List.getElem?_map] at hj
          cases eK : Ks[j]? with
          | none => rw [eK] at hj; cases hj
          | some key' =>
            rw [eK] at hj
            have hkk : key' = key := nkOf_inj (Option.some.inj hj)
            subst hkk
            have hmem := List.mem_of_getElem? eK
            have hjl : j < Ks.length := (List.getElem?_eq_some_iff.mp eK).1
            have ei : ins1 Ks key' = Ks := by unfold ins1; rw [if_pos hmem]
            rw [List.getElem?_map, List.getElem?_range hjl] at hv
            have hvj : V.int (j : Nat) = v := Option.some.inj hv
            subst hvj
            refine ⟨la, _, _, rfl, rfl, hla8, (by rw [List.length_map]; exact szl (by omega)), ?_⟩
            have hidj : idx Ks key' = j := idx_at hKnd eK
            refine ⟨_, _, _, rfl, same_mut s8 hln, (upd_ne nal).trans hna8, ?_, ?_, ?_, ?_⟩
            · rw [hnext]; dsimp only; rw [ei]
              exact nk8.mono (ts_upd hla8 (fun xs z => nomatch z)) (fun o e => (upd_ne nkl).trans e)
            · rw [hnext]; dsimp only; rw [ei, upd_same, hidj, List.map_append]; rfl
            · rw [hnext]; dsimp only; rw [ei]; omega
            · rw [hnext]; dsimp only; rw [List.length_append, hL4]; rfl
        · intro hnot H9 nk9 g9 f9
          have hkm : key ∉ Ks := fun hm => hnot (List.mem_map_of_mem hm)
          have ei : ins1 Ks key = Ks ++ [key] := by unfold ins1; rw [if_neg hkm]
          have hla9 := g9 _ _ hla8 (Ne.symm nkl)
          have hna9 := g9 _ _ hna8 nak
          have s9 : Same H H9 := fun c o e => g9 c o (s8 c o e) (fun z => by subst z; rw [hkn] at e; cases e)
          refine ⟨la, _, _, rfl, rfl, hla9, (by rw [List.length_map]; exact szl (by omega)), ?_⟩
          refine ⟨_, _, _, rfl, same_mut s9 hln, (upd_ne nal).trans hna9, ?_, ?_, ?_, ?_⟩
          · rw [hnext]; dsimp only; rw [ei, List.map_append, List.length_append, List.length_singleton, List.range_succ, List.map_append]
            have e1 : ([Ks.length].map fun x => V.int (x : Nat)) = [V.int ((Ks.map nkOf).length : Nat)] := by simp
            rw [e1]
            exact nk9.mono (ts_upd hla9 (fun xs z => nomatch z)) (fun o e => (upd_ne nkl).trans e)
          · rw [hnext]; dsimp only; rw [ei, idx_new hkm, upd_same, List.map_append]; simp
          · rw [hnext]; dsimp only; rw [ei, List.length_append, List.length_singleton]; omega
          · rw [hnext]; dsimp only; rw [List.length_append, hL4]; rfl
    · rintro σ H4 ⟨x6, x7, x8, rfl, s4, hna4, nk4, hla4, hK4, hL4⟩
      rw [List.take_of_length_le (by omega)] at nk4 hla4 hK4 hL4
      obtain ⟨c1, c2, c3, c4⟩ := COk.round tb hco
      generalize num (keysOf now rows) [] [] = KL at *
      obtain ⟨Ks, late⟩ := KL
      dsimp only at *
      refine ⟨_, rfl, ?_⟩
      refine ⟨_, rfl, ka, _, _, rfl, nk4, _, rfl, rfl, _, rfl, ?_⟩
      rw [List.length_map]
      by_cases hcc : Ks.length = c
      · rw [hcc, decide_eq_true rfl]
        exact iteT ⟨_, rfl, k la late H4 s4 hla4 (c4 hcc)⟩
      · have : ¬ V.int (Ks.length : Nat) = V.int (c : Nat) := fun z => hcc (by have := V.int.inj z; omega)
        rw [decide_eq_false this]
        refine iteF ⟨_, rfl, ka, _, _, rfl, nk4, ?_⟩
        refine ⟨rows.length - Ks.length, by omega, la, late, Ks.length, some (.ref ka), some (.ref la), x6, x7, x8, ?_, s4, hla4, by rw [hL4, hul], c1, c3, rfl⟩
        rw [List.length_map]; rfl
end
end Bc
end
section
set_option Elab.async false
set_option linter.all false
set_option maxRecDepth 100000
set_option maxHeartbeats 4000000
set_option pp.maxSteps 300
/-! The walk: the law's draws. -/
namespace Bc
open PySem L2
theorem SqL.sb {K : PySem.W.Frag} {H H' : Hp} {d a : Addr} {xs : List V} (s : SB d H H') (n : a ≠ d) (h : SqL K H a xs) : SqL K H' a xs := by
  rcases h with (h | ⟨o, h⟩) | h
  · exact .inl (.inl (s _ _ n h))
  · exact .inl (.inr ⟨o, s _ _ n h⟩)
  · exact .inr h
/-- the script stays when draws are made -/
theorem SqL.sbd {K : PySem.W.Frag} {H H' : Hp} {dr sc : Addr} {ns : List Int} {n : Int} (s : SB dr H H') (e : H dr = some (.lst [.ref sc, .int n])) (h : SqL K H sc (ns.map V.int)) : SqL K H' sc (ns.map V.int) := by
  rcases h with (h | ⟨o, h⟩) | h
  · refine .inl (.inl (s _ _ (fun z => ?_) h))
    subst z
    rw [e] at h
    have z := HO.lst.inj (Option.some.inj h)
    match ns, z with
    | [], z => cases z
    | _ :: _, z => cases z
  · exact .inl (.inr ⟨o, s _ _ (fun z => by subst z; rw [e] at h; cases h) h⟩)
  · exact .inr h
/-- the draw's list and the script -/
def DrawAt (K : PySem.W.Frag) (H : Hp) (dr sc : Addr) (ns : List Int) : Prop := True ∧ (∃ n : Int, H dr = some (.lst [.ref sc, .int n])) ∧ SqL K H sc (ns.map V.int)
/-- draws were made -/
def DwS (dr sc : Addr) (H H' : Hp) : Prop := SB dr H H' ∧ ∃ n : Int, H' dr = some (.lst [.ref sc, .int n])
theorem DrawAt.step {K : PySem.W.Frag} {H H' : Hp} {dr sc : Addr} {ns : List Int} (d : DrawAt K H dr sc ns) (s : DwS dr sc H H') : DrawAt K H' dr sc ns := ⟨trivial, s.2, by obtain ⟨n, e⟩ := d.2.1; exact SqL.sbd s.1 e d.2.2⟩
theorem DrawAt.same {K : PySem.W.Frag} {H H' : Hp} {dr sc : Addr} {ns : List Int} (d : DrawAt K H dr sc ns) (s : Same H H') : DrawAt K H' dr sc ns := ⟨d.1, d.2.1.imp fun n e => s _ _ e, s.seq d.2.2⟩
theorem DrawAt.dw {K : PySem.W.Frag} {H H' : Hp} {dr sc : Addr} {ns : List Int} (d : DrawAt K H dr sc ns) (s : Same H H') : DwS dr sc H H' := ⟨fun b o _ e => s b o e, d.2.1.imp fun n e => s _ _ e⟩
theorem DwS.trans {dr sc : Addr} {H H1 H2 : Hp} (a : DwS dr sc H H1) (b : DwS dr sc H1 H2) : DwS dr sc H H2 := ⟨fun x o n e => b.1 x o n (a.1 x o n e), b.2⟩
theorem DwS.same {dr sc : Addr} {H H1 H2 : Hp} (a : DwS dr sc H H1) (b : Same H1 H2) : DwS dr sc H H2 := ⟨a.1.same b, a.2.imp fun n e => b _ _ e⟩
theorem DwS.ts {K : PySem.W.Frag} {ns : List Int} {dr sc : Addr} {H H' : Hp} (d : DrawAt K H dr sc ns) (s : DwS dr sc H H') : TS H H' := by obtain ⟨n, e⟩ := d.2.1; exact s.1.ts e (fun xs z => nomatch z)
theorem DwS.free {dr sc a : Addr} {H H' : Hp} (s : DwS dr sc H H') (h : H' a = none) : H a = none := by obtain ⟨n, e⟩ := s.2; exact s.1.free e h
/-- a fresh object is written -/
theorem DwS.mut {dr sc a : Addr} {H H1 : Hp} {o : HO} (s : DwS dr sc H H1) (h : H a = none) (hd : ∃ n : Int, H dr = some (.lst [.ref sc, .int n])) : DwS dr sc H (upd H1 a o) := by
  obtain ⟨n, e⟩ := hd
  have na : dr ≠ a := fun z => by subst z; rw [h] at e; cases e
  exact ⟨fun b u nb e => by rw [upd_ne (fun z => by subst z; rw [h] at e; cases e)]; exact s.1 b u nb e, s.2.imp fun n e => (upd_ne na).trans e⟩
def sp_law_number (K : PySem.W.Frag) : Sp := fun vs H Q _ => ∃ (sc : Addr) (ns : List Int) (i : Int), vs = [.ref sc, .int i] ∧ SqL K H sc (ns.map V.int) ∧ ∀ (n : Int) H', Same H H' → 0 ≤ n → Q (.int n) H'
def sp_law_take (K : PySem.W.Frag) : Sp := fun vs H Q _ => ∃ (dr sc : Addr) (ns : List Int) (m : Int), vs = [.ref dr, .int m] ∧ DrawAt K H dr sc ns ∧ 0 < m ∧ ∀ (k : Int) H', 0 ≤ k → k < m → DwS dr sc H H' → Q (.int k) H'
def sp_law_pick (K : PySem.W.Frag) : Sp := fun vs H Q _ => ∃ (dr sc : Addr) (ns : List Int) (l : Addr) (xs : List V), vs = [.ref dr, .ref l] ∧ DrawAt K H dr sc ns ∧ H l = some (.lst xs) ∧ l ≠ dr ∧ xs ≠ [] ∧ ∀ v ∈ xs, ∀ H', DwS dr sc H H' → Q v H'
/-- a drawn drop -/
def DropLaw (names outs : List Str) (at_ : Nat) (ts : List Str) : Prop := ts = [] ∨ (∃ a b, a ∈ names.drop (at_ + 1) ++ outs ∧ b ∈ names.drop (at_ + 1) ++ outs ∧ ts = [a, b]) ∨ ∃ a, a ∈ names ++ outs ∧ ts = [a]
def sp_law_drop (K : PySem.W.Frag) : Sp := fun vs H Q _ => ∃ (dr sc : Addr) (ns : List Int) (nl ol : Addr) (names outs : List Str) (at_ : Nat), vs = [.ref dr, .ref nl, .ref ol, .int (at_ : Nat)] ∧ DrawAt K H dr sc ns ∧ H nl = some (.lst (names.map V.str)) ∧ H ol = some (.lst (outs.map V.str)) ∧ nl ≠ dr ∧ ol ≠ dr ∧ outs ≠ [] ∧
  names.length ≤ 100 ∧ outs.length ≤ 100 ∧ ∀ v ts H', DwS dr sc H H' → DropAt H' v ts → DropLaw names outs at_ ts → Q v H'
section
variable {P : Program} {w : World} {K : PySem.W.Frag} {mg : Str → Option Value} {base : Heap}
theorem ok_law_number (T : Tx K mg) : FnOk P w K mg base CX0 1 T.law_number.f T.law_number.fd ["_law_script", "_law_index"] (sp_law_number K) := by
  refine T.law_number.F.ok sc_law_number (fun vs H Q E h => ?_) (fun cdv A outer s H vs Q E hr h => ?_)
  · obtain ⟨sc, ns, i, rfl, _⟩ := h; rfl
  · obtain ⟨sc, ns, i, rfl, hsc, k⟩ := h
    refine ⟨_, (pss_cons (ps_if (pt_cmpR (op_eqD hr.units) (pv 0) (pe_lst pa_nil) (nomark _)) (pss_one (ps_ret (pe_callTy (T := "int") call_int1 rfl T.b_int (by decide +kernel) (pa_cons (pe_op op_mod (pe_op op_add (pe_op op_mul (pv 1) pe_int) pe_int) pe_int) pa_nil)))) pss_nil)
      (pss_cons (ps_set (i := 2) sc_law_number.nd rfl (.inl rfl) (pe_ix ix_list (pv 0) (pe_op op_mod (pv 1) (pe_callB (id := "len") call_len_seq (by rfl) T.b_len PySem.boot_len (pa_cons (pv 0) pa_nil))) (fun _ _ => rfl)))
      (pss_cons (ps_if (pt_cmpR op_ge (pe_callB (id := "abs") call_abs rfl T.b_abs (by decide +kernel) (pa_cons (pv 2) pa_nil)) (pe_op op_pow pe_int pe_int) (nomark _)) (pss_one (ps_set (i := 2) sc_law_number.nd rfl (.inl rfl) (pe_op op_mod (pv 2) (pe_op op_pow pe_int pe_int)))) pss_nil)
      (pss_cons (ps_set (i := 3) sc_law_number.nd rfl (.inl rfl) (pe_op op_mod (pe_op op_add (pe_op op_mul (pe_op op_add (pv 2) (pe_op op_mul pe_int (pv 1))) pe_int) (pe_op op_mul pe_int (pe_callB (id := "len") call_len_seq (by rfl) T.b_len PySem.boot_len (pa_cons (pv 0) pa_nil)))) pe_int))
      (pss_one (ps_ret (pe_callTy (T := "int") call_int1 rfl T.b_int (by decide +kernel) (pa_cons (pe_op op_mod (pe_op op_add (pe_op op_mul (pe_op op_mod (pe_op op_mul (pv 3) pe_int) pe_int) pe_int) (pv 1)) pe_int) pa_nil)))))))), ?_⟩
    refine ⟨_, rfl, Nat.zero_le _, fun q hq => ?_⟩
    have s1 : Same H (upd H q (.lst [])) := same_new hq
    refine ⟨_, _, .lst (s1.seq hsc) (dpI ns), .lst (SqL.of upd_same) .nil, sh_lstI ns, sh_lst0, _, rfl, ?_⟩
    have hsc1 := s1.seq hsc
    generalize upd H q (.lst []) = H1 at s1 hsc1 ⊢
    have he : PyData.eqv (.list (ns.map PyData.int)) (.list []) = ns.isEmpty := by show PyData.eqvAll _ [] = _; rw [eqvAll_nil]; cases ns <;> rfl
    rw [he]
    refine ite2 (fun hc => ?_) (fun hc => ?_)
    · refine ⟨_, rfl, _, _, rfl, rfl, .inr ⟨by omega, by omega⟩, _, _, rfl, rfl, _, _, rfl, rfl, by omega, .inl ⟨_, rfl, k _ H1 s1 (Int.emod_nonneg _ (by omega))⟩⟩
    · have hn : ns ≠ [] := fun z => by subst z; exact hc rfl
      have hl : 0 < ns.length := List.length_pos_iff.mpr hn
      have hm0 := Int.emod_nonneg i (show (ns.length : Int) ≠ 0 by omega)
      have hm1 := Int.emod_lt_of_pos i (show (0 : Int) < (ns.length : Nat) by omega)
      obtain ⟨j, hj⟩ : ∃ j : Nat, i % (ns.length : Nat) = (j : Int) := ⟨(i % (ns.length : Nat)).toNat, by omega⟩
      have hjl : j < ns.length := by omega
      have hat : atI (ns.map V.int) (i % ((ns.map V.int).length : Nat)) = some (.int ns[j]) := by
        rw [List.length_map, hj]; exact atI_nat (by rw [List.getElem?_map, List.getElem?_eq_getElem hjl]; rfl)
      refine ⟨_, rfl, _, rfl, _, rfl, sc, _, rfl, .inl hsc1, _, _, rfl, rfl, (by rw [List.length_map]; omega), sc, _, _, _, rfl, rfl, hsc1, hat, ?_⟩
      generalize ns[j] = cell
      refine ⟨_, rfl, _, rfl, _, _, rfl, rfl, ⟨by omega, by omega, by decide⟩, _, _, rfl, rfl, _, rfl, ?_⟩
      refine ite2 (fun _ => ?_) (fun _ => ?_)
      · refine ⟨_, rfl, _, _, rfl, rfl, ⟨by omega, by omega, by decide⟩, _, _, rfl, rfl, (show (0 : Int) < 10 ^ (18 : Int).toNat by decide), ?_⟩
        refine ⟨_, rfl, _, rfl, _, _, rfl, rfl, .inl ⟨by omega, by omega⟩, _, _, rfl, rfl, _, _, rfl, rfl, .inr ⟨by omega, by omega⟩, _, rfl, sc, _, rfl, .inl hsc1, _, _, rfl, rfl, .inl ⟨by omega, by omega⟩, _, _, rfl, rfl, _, _, rfl, rfl, by omega, ?_⟩
        exact ⟨_, rfl, _, _, rfl, rfl, .inr ⟨by omega, by omega⟩, _, _, rfl, rfl, by omega, _, _, rfl, rfl, .inr ⟨by omega, by omega⟩, _, rfl, _, _, rfl, rfl, _, _, rfl, rfl, by omega, .inl ⟨_, rfl, k _ H1 s1 (Int.emod_nonneg _ (by omega))⟩⟩
      · refine ⟨_, rfl, _, rfl, _, _, rfl, rfl, .inl ⟨by omega, by omega⟩, _, _, rfl, rfl, _, _, rfl, rfl, .inr ⟨by omega, by omega⟩, _, rfl, sc, _, rfl, .inl hsc1, _, _, rfl, rfl, .inl ⟨by omega, by omega⟩, _, _, rfl, rfl, _, _, rfl, rfl, by omega, ?_⟩
        exact ⟨_, rfl, _, _, rfl, rfl, .inr ⟨by omega, by omega⟩, _, _, rfl, rfl, by omega, _, _, rfl, rfl, .inr ⟨by omega, by omega⟩, _, rfl, _, _, rfl, rfl, _, _, rfl, rfl, by omega, .inl ⟨_, rfl, k _ H1 s1 (Int.emod_nonneg _ (by omega))⟩⟩
theorem ok_law_take (T : Tx K mg) : FnOk P w K mg base CX0 2 T.law_take.f T.law_take.fd ["_law_draw", "_law_many"] (sp_law_take K) := by
  refine T.law_take.F.ok sc_law_take (fun vs H Q E h => ?_) (fun cdv A outer s H vs Q E hr h => ?_)
  · obtain ⟨dr, sc, ns, m, rfl, _⟩ := h; rfl
  · obtain ⟨dr, sc, ns, m, rfl, ⟨nsd, ⟨n, hdr⟩, hsc⟩, hm, k⟩ := h
    refine ⟨_, (pss_cons (ps_augS (pv 0) pe_int get_list pe_int ip_add set_list)
      (pss_one (ps_ret (pe_op op_mod (pe_callTy (T := "int") call_int1 rfl T.b_int (by decide +kernel) (pa_cons (pe_call (ok_law_number T) (hr.mono (by decide)) rfl T.law_number.m T.law_number.F.kp T.law_number.b .nil pass0 (pa_cons (pe_ix ix_list (pv 0) pe_int (fun _ _ => rfl)) (pa_cons (pe_callTy (T := "int") call_int1 rfl T.b_int (by decide +kernel) (pa_cons (pe_ix ix_list (pv 0) pe_int (fun _ _ => rfl)) pa_nil)) pa_nil))) pa_nil)) (pv 1))))), ?_⟩
    refine ⟨_, rfl, dr, _, _, _, rfl, rfl, SqL.of hdr, by omega, rfl, _, _, rfl, rfl, dr, _, _, 1, rfl, rfl, hdr, rfl, ?_⟩
    have b1 : SB dr H (upd H dr (.lst [.ref sc, .int (n + 1)])) := (SB.refl _ _).wr
    have d1 : upd H dr (.lst [.ref sc, .int (n + 1)]) dr = some (.lst [.ref sc, .int (n + 1)]) := upd_same
    refine ⟨_, rfl, dr, _, _, _, rfl, rfl, SqL.of d1, atI_0, _, rfl, dr, _, _, _, rfl, rfl, SqL.of d1, atI_1, .inl ⟨_, rfl, ?_⟩⟩
    refine ⟨sc, ns, _, rfl, SqL.sbd b1 hdr hsc, fun x H2 s2 hx => .inl ⟨_, rfl, _, rfl, _, _, rfl, rfl, hm, ?_⟩⟩
    exact k _ H2 (Int.emod_nonneg _ (by omega)) (Int.emod_lt_of_pos _ hm) ⟨b1.same s2, _, s2 _ _ d1⟩
theorem ok_law_pick (T : Tx K mg) : FnOk P w K mg base CX0 3 T.law_pick.f T.law_pick.fd ["_law_draw", "_law_items"] (sp_law_pick K) := by
  refine T.law_pick.F.ok sc_law_pick (fun vs H Q E h => ?_) (fun cdv A outer s H vs Q E hr h => ?_)
  · obtain ⟨dr, sc, ns, l, xs, rfl, _⟩ := h; rfl
  · obtain ⟨dr, sc, ns, l, xs, rfl, hd, hl, nl, hx, k⟩ := h
    have hxl : 0 < xs.length := List.length_pos_iff.mpr hx
    refine ⟨_, (pss_one (ps_ret (pe_ix ix_list (pv 1) (pe_call (ok_law_take T) (hr.mono (by decide)) rfl T.law_take.m T.law_take.F.kp T.law_take.b .nil pass0 (pa_cons (pv 0) (pa_cons (pe_callB (id := "len") call_len_seq (by rfl) T.b_len PySem.boot_len (pa_cons (pv 1) pa_nil)) pa_nil))) (fun _ _ => rfl)))), ?_⟩
    refine ⟨_, rfl, _, rfl, _, rfl, l, xs, rfl, .inl (SqL.of hl), dr, sc, ns, _, rfl, hd, by omega, fun i H' h0 h1 sD => ?_⟩
    obtain ⟨j, rfl⟩ : ∃ j : Nat, i = (j : Int) := ⟨i.toNat, by omega⟩
    have hj : j < xs.length := by omega
    exact ⟨l, xs, _, _, rfl, rfl, SqL.of (sD.1 _ _ nl hl), atI_nat (List.getElem?_eq_getElem hj), k _ (List.getElem_mem hj) H' sD⟩
theorem ok_law_drop (T : Tx K mg) : FnOk P w K mg base CX0 4 T.law_drop.f T.law_drop.fd ["_law_draw", "_law_names", "_law_outlets", "_law_at"] (sp_law_drop K) := by
  refine T.law_drop.F.ok sc_law_drop (fun vs H Q E h => ?_) (fun cdv A outer s H vs Q E hr h => ?_)
  · obtain ⟨dr, sc, ns, nl, ol, names, outs, at_, rfl, _⟩ := h; rfl
  · obtain ⟨dr, sc, ns, nl, ol, names, outs, at_, rfl, hd, hnl, hol, nnd, nod, hout, hnlen, holen, k⟩ := h
    refine ⟨_, (pss_cons (ps_set (i := 4) sc_law_drop.nd rfl (.inl rfl) (pe_call (ok_law_take T) (hr.mono (by decide)) rfl T.law_take.m T.law_take.F.kp T.law_take.b .nil pass0 (pa_cons (pv 0) (pa_cons pe_int pa_nil))))
      (pss_cons (ps_if (pt_cmpR op_eq (pv 4) pe_int (nomark _)) (pss_one (ps_ret (pe_tup pa_nil))) pss_nil)
      (pss_cons (ps_set (i := 5) sc_law_drop.nd rfl (.inl rfl) (pe_op op_cat (pe_slice sl_list (pv 1) (po_some (pe_op op_add (pv 3) pe_int)) po_none) (pv 2)))
      (pss_cons (ps_if (pt_cmpR op_eq (pv 4) pe_int (nomark _)) (pss_one (ps_ret (pe_tup (pa_cons (pe_call (ok_law_pick T) (hr.mono (by decide)) rfl T.law_pick.m T.law_pick.F.kp T.law_pick.b .nil pass0 (pa_cons (pv 0) (pa_cons (pv 5) pa_nil))) (pa_cons (pe_call (ok_law_pick T) (hr.mono (by decide)) rfl T.law_pick.m T.law_pick.F.kp T.law_pick.b .nil pass0 (pa_cons (pv 0) (pa_cons (pv 5) pa_nil))) pa_nil))))) pss_nil)
      (pss_one (ps_ret (pe_tup (pa_cons (pe_call (ok_law_pick T) (hr.mono (by decide)) rfl T.law_pick.m T.law_pick.F.kp T.law_pick.b .nil pass0 (pa_cons (pv 0) (pa_cons (pe_op op_cat (pe_op op_cat (pv 1) (pv 1)) (pv 2)) pa_nil))) pa_nil)))))))), ?_⟩
    refine ⟨_, rfl, dr, sc, ns, 9, rfl, hd, by omega, fun k1 H1 _ _ D1 => ?_⟩
    have hd1 := hd.step D1
    have hnl1 := D1.1 _ _ nnd hnl
    have hol1 := D1.1 _ _ nod hol
    refine ⟨_, rfl, rfl, _, rfl, ite2 (fun _ => ?_) (fun _ => ?_)⟩
    · exact ⟨Nat.zero_le _, fun p hp => k _ [] _ (D1.same (same_new hp)) ⟨p, rfl, upd_same⟩ (.inl rfl)⟩
    refine ⟨_, rfl, _, rfl, _, _, rfl, rfl, _, rfl, nl, _, rfl, SqL.of hnl1, fun p hp => ⟨_, rfl, p, ol, _, _, rfl, rfl, upd_same, same_new hp _ _ hol1, ?_, fun q hq => ?_⟩⟩
    · have := cutV_length (names.map V.str) (some ((at_ : Int) + 1)) none
      rw [List.length_map] at this ⊢
      exact sz (by omega)
    have ecut : cutV (names.map V.str) (some ((at_ : Int) + 1)) none = (names.drop (at_ + 1)).map V.str := by
      unfold cutV
      have e : ((at_ : Int) + 1) = ((at_ + 1 : Nat) : Int) := by omega
      rw [e, HT.sIx_nat, HT.sIx_none, List.length_map]
      by_cases h : at_ + 1 ≤ names.length
      · rw [Nat.min_eq_left h, List.take_of_length_le (by rw [List.length_drop, List.length_map]; omega), List.map_drop]
      · rw [Nat.min_eq_right (by omega), List.drop_eq_nil_of_le (as := names) (by omega), Nat.sub_self]; simp
    have D2 := (D1.same (same_new (o := .lst (cutV (names.map V.str) (some ((at_ : Int) + 1)) none)) hp)).same (same_new (o := .lst (cutV (names.map V.str) (some ((at_ : Int) + 1)) none ++ outs.map V.str)) hq)
    have hq2 : (upd (upd H1 p (.lst (cutV (names.map V.str) (some ((at_ : Int) + 1)) none))) q (.lst (cutV (names.map V.str) (some ((at_ : Int) + 1)) none ++ outs.map V.str))) q = some (.lst ((names.drop (at_ + 1) ++ outs).map V.str)) := by rw [upd_same, ecut, List.map_append]
    have hqn : H1 q = none := (same_new hp).free hq
    have hnl2 := same_new (o := .lst (cutV (names.map V.str) (some ((at_ : Int) + 1)) none ++ outs.map V.str)) hq _ _ (same_new (o := .lst (cutV (names.map V.str) (some ((at_ : Int) + 1)) none)) hp _ _ hnl1)
    have hol2 := same_new (o := .lst (cutV (names.map V.str) (some ((at_ : Int) + 1)) none ++ outs.map V.str)) hq _ _ (same_new (o := .lst (cutV (names.map V.str) (some ((at_ : Int) + 1)) none)) hp _ _ hol1)
    generalize upd (upd H1 p (.lst (cutV (names.map V.str) (some ((at_ : Int) + 1)) none))) q (.lst (cutV (names.map V.str) (some ((at_ : Int) + 1)) none ++ outs.map V.str)) = H2 at D2 hq2 hnl2 hol2 ⊢
    have hd2 := hd.step D2
    have nqd : q ≠ dr := fun z => by subst z; obtain ⟨n, e⟩ := hd1.2.1; rw [hqn] at e; cases e
    refine ⟨_, rfl, rfl, _, rfl, ite2 (fun _ => ?_) (fun _ => ?_)⟩
    · refine ⟨_, rfl, _, rfl, dr, sc, ns, q, _, rfl, hd2, hq2, nqd, by simp [hout], fun v hv H3 D3 => ?_⟩
      obtain ⟨a, ha, rfl⟩ := List.mem_map.mp hv
      refine ⟨_, rfl, _, rfl, dr, sc, ns, q, _, rfl, hd2.step D3, D3.1 _ _ nqd hq2, nqd, by simp [hout], fun v' hv' H4 D4 => ?_⟩
      obtain ⟨b, hb, rfl⟩ := List.mem_map.mp hv'
      exact ⟨sz (by show 2 ≤ 100000; omega), fun t ht => k _ [a, b] _ (((D2.trans D3).trans D4).same (same_new ht)) ⟨t, rfl, upd_same⟩ (.inr (.inl ⟨a, b, ha, hb, rfl⟩))⟩
    · refine ⟨_, rfl, _, rfl, _, rfl, nl, nl, _, _, rfl, rfl, hnl2, hnl2, (by rw [List.length_map]; exact sz (by omega)), fun p3 hp3 => ⟨_, rfl, p3, ol, _, _, rfl, rfl, upd_same, same_new hp3 _ _ hol2, (by rw [List.length_append, List.length_map, List.length_map]; exact sz (by omega)), fun p4 hp4 => ?_⟩⟩
      have s4 := (same_new (o := .lst (names.map V.str ++ names.map V.str)) hp3).trans (same_new (o := .lst (names.map V.str ++ names.map V.str ++ outs.map V.str)) hp4)
      have n4 : p4 ≠ dr := fun z => by subst z; obtain ⟨n, e⟩ := hd2.2.1; rw [(same_new hp3).free hp4] at e; cases e
      refine ⟨dr, sc, ns, p4, _, rfl, hd2.same s4, upd_same, n4, by simp [hout], fun v hv H3 D3 => ?_⟩
      have hv' : ∃ a, a ∈ names ++ outs ∧ V.str a = v := by
        rcases List.mem_append.mp hv with h | h
        · rcases List.mem_append.mp h with h | h <;> (obtain ⟨a, ha, e⟩ := List.mem_map.mp h; exact ⟨a, List.mem_append_left _ ha, e⟩)
        · obtain ⟨a, ha, e⟩ := List.mem_map.mp h; exact ⟨a, List.mem_append_right _ ha, e⟩
      obtain ⟨a, ha, rfl⟩ := hv'
      exact ⟨sz (by show 1 ≤ 100000; omega), fun t ht => k _ [a] _ (((D2.same s4).trans D3).same (same_new ht)) ⟨t, rfl, upd_same⟩ (.inr (.inr ⟨a, ha, rfl⟩))⟩
end
end Bc
end
section
set_option Elab.async false
set_option linter.all false
set_option maxRecDepth 100000
set_option maxHeartbeats 4000000
set_option pp.maxSteps 300
/-! The walk: drawn rows. -/
namespace Bc
open PySem L2
structure RowsLaw (names outs : List Str) (at_ : Nat) (kn : Kn Str) : Prop where
  fl : kn.front.length ≤ 2
  fd : ∀ d ∈ kn.front, DropLaw names outs at_ d
  tu : ∃ ds last, ds.length ≤ 2 ∧ (∀ d ∈ ds, DropLaw names outs at_ d) ∧ (last = [] ∨ ∃ o, o ∈ outs ∧ last = [o]) ∧ kn.turn.Perm (ds ++ [last])
def sp_law_rows (K : PySem.W.Frag) : Sp := fun vs H Q _ => ∃ (dr sc : Addr) (ns : List Int) (nl ol : Addr) (names outs : List Str) (at_ : Nat), vs = [.ref dr, .ref nl, .ref ol, .int (at_ : Nat), .int 3] ∧ DrawAt K H dr sc ns ∧ H nl = some (.lst (names.map V.str)) ∧ H ol = some (.lst (outs.map V.str)) ∧ nl ≠ dr ∧ ol ≠ dr ∧ outs ≠ [] ∧
  names.length ≤ 100 ∧ outs.length ≤ 100 ∧ ∀ t f tu kn H', DwS dr sc H H' → H' t = some (.tup [f, tu]) → RowAt H' f kn.front → RowAt H' tu kn.turn → RowsLaw names outs at_ kn → Q (.ref t) H'
/-- a list of drawn drops, by a comprehension -/
theorem lc_drops {K : PySem.W.Frag} {dr sc : Addr} {ns : List Int} {n : Nat} (hn : n ≤ 10) {j : Nat} {te : TE} {vs : List Nat} {σ : L2.St} {H1 : Hp} {D : Addr} {Qd : Hp → Prop} {names outs : List Str} {at_ : Nat} (hd1 : DrawAt K H1 dr sc ns) (hD : H1 D = none)
    (hj : ∀ x, wipe ((wipe σ vs).set j (some x)) vs = wipe σ vs)
    (ht : ∀ x H (Q : VK), DwS dr sc H1 H → (∀ v ts H', DwS dr sc H H' → DropAt H' v ts → DropLaw names outs at_ ts → Q v H') → te ((wipe σ vs).set j (some x)) H Q)
    (hd : ∀ H us ds, DwS dr sc H1 H → H D = some (.lst us) → Paired (DropAt H) us ds → ds.length = n → (∀ d ∈ ds, DropLaw names outs at_ d) → Qd H) :
    ∃ W : Nat → Nat → Hp → Prop, (∃ m, W 0 m (upd H1 D (.lst []))) ∧ ∀ i m H, W i m H →
      ((Itr 0 n).stop i H ∧ Qd H) ∨ ((Itr 0 n).go i H ∧ ∃ Nx : Hp → Prop, (∀ H', Nx H' → ∃ m', m' < m ∧ W (i + 1) m' H') ∧ ∀ x H', (Itr 0 n).yld i H x H' → gName j x (wipe σ vs) H' fun σ2 H2 => wipe σ2 vs = wipe σ vs ∧ tYes σ2 H2 fun b H3 =>
        if b = true then te σ2 H3 fun y H4 => ∃ acc, H4 D = some (.lst acc) ∧ acc.length < sizeLine ∧ Nx (upd H4 D (.lst (acc ++ [y]))) else Nx H3) := by
  have nDd : D ≠ dr := fun z => by subst z; obtain ⟨n, e⟩ := hd1.2.1; rw [hD] at e; cases e
  refine lc_it (walk_range (lo := 0) (n := n)) (fun i H => ∃ us ds, DwS dr sc H1 H ∧ H D = some (.lst us) ∧ Paired (DropAt H) us ds ∧ ds.length = i ∧ ∀ d ∈ ds, DropLaw names outs at_ d) ⟨[], [], hd1.dw (same_new hD), upd_same, .nil, rfl, fun d h => nomatch h⟩ (fun i H _ _ => trivial) ?_ (fun H ⟨us, ds, a, b, c, d, e⟩ => hd H us ds a b c d e)
  rintro i x H H' hi ⟨us, ds, sD, hDi, hp, hl, hdl⟩ ⟨rfl, rfl⟩
  refine ⟨hj _, ?_⟩
  dsimp only [tYes]
  rw [if_pos rfl]
  refine ht _ H' _ sD fun v ts H5 s5 hv hdt => ⟨us, s5.1 _ _ nDd hDi, ?_, ?_⟩
  · have : us.length = ds.length := Paired.length hp
    exact szl (by omega)
  · have t5 : TS H' (upd H5 D (.lst (us ++ [v]))) := (DwS.ts (hd1.step sD) s5).trans (ts_upd (s5.1 _ _ nDd hDi) (fun xs z => nomatch z))
    refine ⟨us ++ [v], ds ++ [ts], (sD.trans s5).mut hD hd1.2.1, upd_same, paired_app (hv.mono (ts_upd (s5.1 _ _ nDd hDi) (fun xs z => nomatch z))) (Paired.mapP hp fun _ _ q => q.mono t5), by simp [hl], fun d hd => ?_⟩
    rcases List.mem_append.mp hd with h | h
    · exact hdl d h
    · simp at h; subst h; exact hdt
section
variable {P : Program} {w : World} {K : PySem.W.Frag} {mg : Str → Option Value} {base : Heap}
theorem ok_law_rows (T : Tx K mg) : FnOk P w K mg base CX0 5 T.law_rows.f T.law_rows.fd ["_law_draw", "_law_names", "_law_outlets", "_law_at", "_law_most"] (sp_law_rows K) := by
  refine T.law_rows.F.ok sc_law_rows (fun vs H Q E h => ?_) (fun cdv A outer s H vs Q E hr h => ?_)
  · obtain ⟨dr, sc, ns, nl, ol, names, outs, at_, rfl, _⟩ := h; rfl
  · obtain ⟨dr, sc, ns, nl, ol, names, outs, at_, rfl, hd, hnl, hol, nnd, nod, hout, hnlen, holen, k⟩ := h
    have nfd : ∀ {H' : Hp} {a : Addr}, DwS dr sc H H' → H' a = none → a ≠ dr := fun s h z => by subst z; obtain ⟨n, e⟩ := s.2; rw [h] at e; cases e
    refine ⟨_, (pss_cons (ps_set (i := 5) sc_law_rows.nd rfl (.inl rfl) (pe_callTy (T := "tuple") (call_tuple_of) rfl T.b_tuple (by decide +kernel) (pa_cons (pe_lc (own := [("_law_turn", 6)]) rfl sc_law_rows.nd (pi_range1 rfl T.b_range (pa_cons (pe_call (ok_law_pick T) (hr.mono (by decide)) rfl T.law_pick.m T.law_pick.F.kp T.law_pick.b .nil pass0 (pa_cons (pv 0) (pa_cons (pe_lst (pa_cons pe_int (pa_cons pe_int (pa_cons pe_int (pa_cons pe_int (pa_cons pe_int pa_nil)))))) pa_nil))) pa_nil)) (blkOk_by (N := N_law_rows) (sc := defScope s_law_rows) (by decide +kernel)) (fun _ _ _ _ _ => pg_name (i := 6) sc_law_rows.nd rfl (.inl rfl)) (fun _ _ _ _ _ => pts_nil) (fun _ _ _ _ _ => pe_call (ok_law_drop T) (hr.mono (by decide)) rfl T.law_drop.m T.law_drop.F.kp T.law_drop.b .nil pass0 (pa_cons (pv 0) (pa_cons (pv 1) (pa_cons (pv 2) (pa_cons (pv 3) pa_nil)))))) pa_nil)))
      (pss_cons (ps_setLc (i := 6) (own := [("_law_one", 8)]) rfl sc_law_rows.nd rfl rfl (sw_true rfl rfl rfl (by decide +kernel)) (pi_range1 rfl T.b_range (pa_cons (pe_call (ok_law_take T) (hr.mono (by decide)) rfl T.law_take.m T.law_take.F.kp T.law_take.b .nil pass0 (pa_cons (pv 0) (pa_cons (pv 4) pa_nil))) pa_nil)) (blkOk_by (N := N_law_rows) (sc := defScope s_law_rows) (by decide +kernel)) (fun _ _ _ _ _ => pg_name (i := 8) sc_law_rows.nd rfl (.inl rfl)) (fun _ _ _ _ _ => pts_nil) (fun _ _ _ _ _ => pe_call (ok_law_drop T) (hr.mono (by decide)) rfl T.law_drop.m T.law_drop.F.kp T.law_drop.b .nil pass0 (pa_cons (pv 0) (pa_cons (pv 1) (pa_cons (pv 2) (pa_cons (pv 3) pa_nil))))))
      (pss_cons (ps_expr (pe_bm PySem.F.plainAttrs_list PySem.F.slot_list_append PySem.F.type_list_append mt_append (pv 6) (pa_cons (pe_call (ok_law_pick T) (hr.mono (by decide)) rfl T.law_pick.m T.law_pick.F.kp T.law_pick.b .nil pass0 (pa_cons (pv 0) (pa_cons (pe_lst (pa_cons (pe_tup (pa_cons (pe_ix ix_list (pv 2) pe_int (fun _ _ => rfl)) pa_nil)) (pa_cons (pe_tup (pa_cons (pe_ix ix_list (pv 2) (pe_un un_neg pe_int) (fun _ _ => rfl)) pa_nil)) (pa_cons (pe_tup pa_nil) pa_nil)))) pa_nil))) pa_nil)))
      (pss_cons (ps_set (i := 7) sc_law_rows.nd rfl (.inl rfl) (pe_call (ok_law_take T) (hr.mono (by decide)) rfl T.law_take.m T.law_take.F.kp T.law_take.b .nil pass0 (pa_cons (pv 0) (pa_cons (pe_callB (id := "len") call_len_seq (by rfl) T.b_len PySem.boot_len (pa_cons (pv 6) pa_nil)) pa_nil))))
      (pss_one (ps_ret (pe_tup (pa_cons (pv 5) (pa_cons (pe_callTy (T := "tuple") (call_tuple_of) rfl T.b_tuple (by decide +kernel) (pa_cons (pe_op op_cat (pe_slice sl_list (pv 6) (po_some (pv 7)) po_none) (pe_slice sl_list (pv 6) po_none (po_some (pv 7)))) pa_nil)) pa_nil))))))))), ?_⟩
    -- front
    refine ⟨_, rfl, sz (by show 5 ≤ 100000; omega), fun l hl => ?_⟩
    have s1 := same_new (o := .lst [.int 0, .int 0, .int 0, .int 1, .int 2]) hl
    have D1 := hd.dw s1
    refine ⟨dr, sc, ns, l, _, rfl, hd.same s1, upd_same, nfd (hd.dw (Same.refl H)) hl, by simp, fun v hv H2 D2 => ?_⟩
    have hv' : ∃ n : Nat, v = .int (n : Nat) ∧ n ≤ 2 := by
      simp at hv
      rcases hv with h | h | h
      · exact ⟨0, h, by omega⟩
      · exact ⟨1, h, by omega⟩
      · exact ⟨2, h, by omega⟩
    obtain ⟨n, rfl, hn2⟩ := hv'
    have D02 := D1.trans D2
    refine ⟨_, rfl, by omega, by omega, ?_⟩
    have en : ((n : Int)).toNat = n := by omega
    rw [en]
    intro fl hfl
    have hd2 := hd.step D02
    refine lc_drops (names := names) (outs := outs) (at_ := at_) (by omega) hd2 hfl (fun x => rfl) (fun x H' Q' s' q' => ?_) (fun H3 us ds D3 hus hp hdl hdd => ?_)
    · refine ⟨_, rfl, _, rfl, _, rfl, _, rfl, dr, sc, ns, nl, ol, names, outs, at_, rfl, hd2.step s', s'.1 _ _ nnd (D02.1 _ _ nnd hnl), s'.1 _ _ nod (D02.1 _ _ nod hol), nnd, nod, hout, hnlen, holen, q'⟩
    have D03 := D02.trans D3
    refine ⟨fl, _, rfl, .inl ⟨SqL.of hus, fun ft hft => ?_⟩⟩
    have s4 := same_new (o := .tup us) hft
    have D04 := D03.same s4
    have hft4 : upd H3 ft (.tup us) ft = some (.tup us) := upd_same
    have hF4 : RowAt (upd H3 ft (.tup us)) (.ref ft) ds := ⟨ft, us, rfl, upd_same, Paired.mapP hp fun _ _ q => q.mono (ts_of s4)⟩
    generalize upd H3 ft (.tup us) = H4 at D04 hft4 hF4 ⊢
    have hd4 := hd.step D04
    -- turn
    refine ⟨_, rfl, _, rfl, dr, sc, ns, 3, rfl, hd4, by omega, fun m H5 m0 m1 D5 => ?_⟩
    obtain ⟨mm, rfl⟩ : ∃ mm : Nat, m = (mm : Int) := ⟨m.toNat, by omega⟩
    have D05 := D04.trans D5
    have hd5 := hd.step D05
    refine ⟨_, rfl, by omega, by omega, ?_⟩
    have em : ((mm : Int)).toNat = mm := by omega
    rw [em]
    intro tl htl
    refine lc_drops (names := names) (outs := outs) (at_ := at_) (by omega) hd5 htl (fun x => rfl) (fun x H' Q' s' q' => ?_) (fun H6 us2 ds2 D6 hus2 hp2 hdl2 hdd2 => ?_)
    · refine ⟨_, rfl, _, rfl, _, rfl, _, rfl, dr, sc, ns, nl, ol, names, outs, at_, rfl, hd5.step s', s'.1 _ _ nnd (D05.1 _ _ nnd hnl), s'.1 _ _ nod (D05.1 _ _ nod hol), nnd, nod, hout, hnlen, holen, q'⟩
    have D06 := D05.trans D6
    have hd6 := hd.step D06
    have ntd : tl ≠ dr := nfd D05 htl
    have hol6 := D06.1 _ _ nod hol
    have hu2l : us2.length = ds2.length := Paired.length hp2
    -- the last drop
    obtain ⟨o0, ho0⟩ : ∃ o0, outs[0]? = some o0 := ⟨_, List.getElem?_eq_getElem (List.length_pos_iff.mpr hout)⟩
    have ho0m := List.mem_of_getElem? ho0
    obtain ⟨ol1, oz, eo⟩ : ∃ ol1 oz, outs = ol1 ++ [oz] := by
      rcases List.eq_nil_or_concat outs with e | ⟨a, b, e⟩
      · exact absurd e hout
      · exact ⟨a, b, by rw [e]; simp⟩
    have hozm : oz ∈ outs := by rw [eo]; simp
    refine ⟨_, rfl, .inl ⟨rfl, _, SqL.of hus2⟩, ?_⟩
    refine ⟨_, rfl, ?_⟩
    refine ⟨_, rfl, ol, _, _, _, rfl, rfl, SqL.of hol6, atI_nat (j := 0) (by rw [List.getElem?_map, ho0]; rfl), sz (by show 1 ≤ 100000; omega), fun a1 ha1 => ?_⟩
    have t1 := same_new (o := .tup [.str o0]) ha1
    refine ⟨_, rfl, _, rfl, ol, _, _, .str oz, rfl, rfl, SqL.of (t1 _ _ hol6), ?_, sz (by show 1 ≤ 100000; omega), fun a2 ha2 => ?_⟩
    · rw [eo, List.map_append]; exact atI_last _ _
    have t2 := same_new (o := .tup [.str oz]) ha2
    refine ⟨Nat.zero_le _, fun a3 ha3 => ⟨sz (by show 3 ≤ 100000; omega), fun il hil => ?_⟩⟩
    have t3 := same_new (o := .tup []) ha3
    have t4 := same_new (o := .lst [.ref a1, .ref a2, .ref a3]) hil
    have t14 := ((t1.trans t2).trans t3).trans t4
    have A1 : upd (upd (upd (upd H6 a1 (.tup [.str o0])) a2 (.tup [.str oz])) a3 (.tup [])) il (.lst [.ref a1, .ref a2, .ref a3]) a1 = some (.tup [.str o0]) := t4 _ _ (t3 _ _ (t2 _ _ upd_same))
    have A2 : upd (upd (upd (upd H6 a1 (.tup [.str o0])) a2 (.tup [.str oz])) a3 (.tup [])) il (.lst [.ref a1, .ref a2, .ref a3]) a2 = some (.tup [.str oz]) := t4 _ _ (t3 _ _ upd_same)
    have A3 : upd (upd (upd (upd H6 a1 (.tup [.str o0])) a2 (.tup [.str oz])) a3 (.tup [])) il (.lst [.ref a1, .ref a2, .ref a3]) a3 = some (.tup []) := t4 _ _ upd_same
    have IL : upd (upd (upd (upd H6 a1 (.tup [.str o0])) a2 (.tup [.str oz])) a3 (.tup [])) il (.lst [.ref a1, .ref a2, .ref a3]) il = some (.lst [.ref a1, .ref a2, .ref a3]) := upd_same
    have nil_ : il ≠ dr := nfd (D06.same ((t1.trans t2).trans t3)) hil
    generalize upd (upd (upd (upd H6 a1 (.tup [.str o0])) a2 (.tup [.str oz])) a3 (.tup [])) il (.lst [.ref a1, .ref a2, .ref a3]) = H7 at t14 A1 A2 A3 IL ⊢
    have D07 := D06.same t14
    refine ⟨dr, sc, ns, il, _, rfl, hd.step D07, IL, nil_, by simp, fun v hv H8 D8 => ?_⟩
    have t78 := DwS.ts (hd.step D07) D8
    have hlast : ∃ last, DropAt H8 v last ∧ (last = [] ∨ ∃ o, o ∈ outs ∧ last = [o]) := by
      simp at hv
      rcases hv with h | h | h
      · exact ⟨[o0], ⟨a1, h, t78 _ _ A1⟩, .inr ⟨o0, ho0m, rfl⟩⟩
      · exact ⟨[oz], ⟨a2, h, t78 _ _ A2⟩, .inr ⟨oz, hozm, rfl⟩⟩
      · exact ⟨[], ⟨a3, h, t78 _ _ A3⟩, .inl rfl⟩
    obtain ⟨last, hvl, hlo⟩ := hlast
    have D08 := D07.trans D8
    have htl8 : H8 tl = some (.lst us2) := D8.1 _ _ ntd (t14 _ _ hus2)
    have hp8 : Paired (DropAt H8) (us2 ++ [v]) (ds2 ++ [last]) := paired_app hvl (Paired.mapP hp2 fun _ _ q => q.mono ((ts_of t14).trans t78))
    refine ⟨tl, us2, v, rfl, rfl, htl8, szl (by omega), ?_⟩
    have htln : H tl = none := D05.free htl
    have D09 : DwS dr sc H (upd H8 tl (.lst (us2 ++ [v]))) := D08.mut htln hd.2.1
    have htl9 : upd H8 tl (.lst (us2 ++ [v])) tl = some (.lst (us2 ++ [v])) := upd_same
    have t89 : TS H8 (upd H8 tl (.lst (us2 ++ [v]))) := ts_upd htl8 (fun xs z => nomatch z)
    have hp9 := Paired.mapP hp8 fun _ _ q => q.mono t89
    have hF9 := hF4.mono ((((DwS.ts hd4 D5).trans (DwS.ts hd5 D6)).trans (ts_of t14)).trans (t78.trans t89))
    generalize upd H8 tl (.lst (us2 ++ [v])) = H9 at D09 htl9 hp9 hF9 ⊢
    -- turned
    refine ⟨_, rfl, _, rfl, tl, _, rfl, .inl (SqL.of htl9), dr, sc, ns, _, rfl, hd.step D09, (by rw [List.length_append, List.length_singleton]; omega), fun sh H10 sh0 sh1 D10 => ?_⟩
    obtain ⟨s, rfl⟩ : ∃ s : Nat, sh = (s : Int) := ⟨sh.toNat, by omega⟩
    have D010 := D09.trans D10
    have htl10 := D10.1 _ _ ntd htl9
    have t910 := DwS.ts (hd.step D09) D10
    have hp10 := Paired.mapP hp9 fun _ _ q => q.mono t910
    have hF10 := hF9.mono t910
    have hsl : s ≤ (us2 ++ [v]).length := by omega
    refine ⟨_, rfl, _, rfl, _, rfl, _, rfl, tl, _, rfl, SqL.of htl10, fun c1 hc1 => ?_⟩
    have u1 := same_new (o := .lst (cutV (us2 ++ [v]) (some (s : Int)) none)) hc1
    refine ⟨_, rfl, _, rfl, _, rfl, tl, _, rfl, SqL.of (u1 _ _ htl10), fun c2 hc2 => ?_⟩
    have u2 := same_new (o := .lst (cutV (us2 ++ [v]) none (some (s : Int)))) hc2
    have cl1 := cutV_length (us2 ++ [v]) (some (s : Int)) none
    have cl2 := cutV_length (us2 ++ [v]) none (some (s : Int))
    have ul : (us2 ++ [v]).length ≤ 3 := by rw [List.length_append, List.length_singleton]; omega
    refine ⟨c1, c2, _, _, rfl, rfl, u2 _ _ upd_same, upd_same, sz (by omega), fun c3 hc3 => ?_⟩
    have u3 := same_new (o := .lst (cutV (us2 ++ [v]) (some (s : Int)) none ++ cutV (us2 ++ [v]) none (some (s : Int)))) hc3
    refine ⟨c3, _, rfl, .inl ⟨SqL.of upd_same, fun tt htt => ⟨sz (by show 2 ≤ 100000; omega), fun t ht => ?_⟩⟩⟩
    have u4 := same_new (o := .tup (cutV (us2 ++ [v]) (some (s : Int)) none ++ cutV (us2 ++ [v]) none (some (s : Int)))) htt
    have u5 := same_new (o := .tup [.ref ft, .ref tt]) ht
    have u15 := (((u1.trans u2).trans u3).trans u4).trans u5
    have ec1 : cutV (us2 ++ [v]) (some (s : Int)) none = (us2 ++ [v]).drop s := by
      unfold cutV
      rw [HT.sIx_nat, HT.sIx_none, Nat.min_eq_left hsl, List.take_of_length_le (by rw [List.length_drop]; omega)]
    have ec2 : cutV (us2 ++ [v]) none (some (s : Int)) = (us2 ++ [v]).take s := by
      unfold cutV
      rw [HT.sIx_nat, HT.sIx_none, Nat.min_eq_left hsl, Nat.sub_zero]; rfl
    refine k t (.ref ft) (.ref tt) ⟨ds, (ds2 ++ [last]).drop s ++ (ds2 ++ [last]).take s⟩ _ (D010.same u15) upd_same (hF10.mono (ts_of u15)) ⟨tt, (us2 ++ [v]).drop s ++ (us2 ++ [v]).take s, rfl, (u5 _ _ upd_same).trans (by rw [ec1, ec2]), ?_⟩ ⟨(by show ds.length ≤ 2; omega), hdd, ds2, last, by omega, hdd2, hlo, ?_⟩
    · exact Paired.mapP (Paired.appP (Paired.dropP s hp10) (Paired.takeP s hp10)) fun _ _ q => q.mono (ts_of u15)
    · exact (List.perm_append_comm).trans (by rw [List.take_append_drop])
end
end Bc
end
section
set_option Elab.async false
set_option linter.all false
set_option maxRecDepth 100000
set_option maxHeartbeats 4000000
set_option pp.maxSteps 300
/-! The walk: balls let fall one by one. -/
namespace L2
open PySem
/-- t + u, wherever it stands -/
def rCatB (K : PySem.W.Frag) : R2 := fun x y H Q => ∃ a b xs ys, x = .ref a ∧ y = .ref b ∧ SqT K H a xs ∧ SqT K H b ys ∧ xs.length + ys.length ≤ sizeLine ∧ ∀ p H', Same H H' → SqT K H' p (xs ++ ys) → Q (.ref p) H'
theorem op_catB {X : Cx} : OpR X (binaryOp .Add) (rCatB X.K) := by
  intro pins s σ H x y v u Q I rx ry h
  obtain ⟨a, b, xs, ys, ex, ey, h1, h2, hl, k⟩ := h
  exact op_catA pins s σ H x y v u Q I rx ry ⟨a, b, xs, ys, ex, ey, h1, h2, hl, fun e => k b H (Same.refl H) (by rw [e]; exact h2), fun _ e => k a H (Same.refl H) (by rw [e, List.append_nil]; exact h1), fun _ _ p hp => k p _ (Bc.same_new hp) (SqT.of upd_same)⟩
end L2
namespace Bc
open PySem L2
def SB2 (x y : Addr) (H H' : Hp) : Prop := ∀ a o, a ≠ x → a ≠ y → H a = some o → H' a = some o
theorem SB2.same {x y : Addr} {H H1 H2 : Hp} (a : SB2 x y H H1) (b : Same H1 H2) : SB2 x y H H2 := fun c o h1 h2 e => b c o (a c o h1 h2 e)
theorem SB2.wr {x y z : Addr} {H H1 : Hp} {o : HO} (a : SB2 x y H H1) (h : z = x ∨ z = y) : SB2 x y H (upd H1 z o) := fun c u h1 h2 e => by
  rw [upd_ne (fun q => by subst q; rcases h with h | h <;> contradiction)]; exact a c u h1 h2 e
theorem SB2.mut {x y z : Addr} {H H1 : Hp} {o : HO} (a : SB2 x y H H1) (h : H z = none) : SB2 x y H (upd H1 z o) := fun c u h1 h2 e => by
  rw [upd_ne (fun q => by subst q; rw [h] at e; cases e)]; exact a c u h1 h2 e
/-- the law's own net -/
structure ToldAt (H : Hp) (t kd id ol : Addr) (D : Nd) (g : Str → V) : Prop where
  t : H t = some (.tup [.ref kd, .ref id, .ref ol])
  kd : H kd = some (.dK (FD D.N.names g))
  kn : ∀ n ∈ D.N.names, KnotAt H (g n) (D.N.kn n)
  id : H id = some (.dK (FD D.ins fun i => .str (D.inl i)))
  ol : H ol = some (.lst (D.outs.map V.str))
theorem ToldAt.mono {H H' : Hp} {t kd id ol : Addr} {D : Nd} {g : Str → V} (h : ToldAt H t kd id ol D g) (s : Same H H') : ToldAt H' t kd id ol D g :=
  ⟨s _ _ h.t, s _ _ h.kd, fun n hn => (h.kn n hn).mono (ts_of s), s _ _ h.id, s _ _ h.ol⟩
def sp_law_fall : Sp := fun vs H Q _ => ∃ (t kd id ol sd od : Addr) (D : Nd) (g : Str → V) (st c : Str → Nat) (v : Str), vs = [.ref t, .ref sd, .str v, .ref od] ∧ (∃ H0, ToldAt H0 t kd id ol D g ∧ SB sd H0 H ∧ sd ≠ t ∧ sd ≠ kd ∧ sd ≠ ol ∧ sd ≠ id ∧ H0 od = none ∧ (∃ u, H0 sd = some u ∧ ∀ xs, u ≠ .tup xs)) ∧ D.Ok ∧ od ≠ sd ∧ H sd = some (.dK (FD D.N.names fun n => .int (st n))) ∧
  H od = some (.dK (FD D.outs fun _ => .int 0)) ∧ v ∈ D.N.names ∧ (∀ n ∈ D.N.names, st n < (D.N.kn n).len) ∧ Least D.N st (ball v) c ∧ sumN D.N.names c ≤ 600 ∧
  ∀ (n : Nat) H', SB2 sd od H H' → H' sd = some (.dK (FD D.N.names fun n => .int ((D.N.kn n).plc (st n) (c n) : Nat))) → H' od = some (.dK (FD D.outs fun o => .int (outC D st c o : Nat))) → Q (.int (n : Nat)) H'
section
variable {P : Program} {w : World} {K : PySem.W.Frag} {mg : Str → Option Value} {base : Heap}
theorem ok_law_fall (T : Tx K mg) : FnOk P w K mg base CX0 1 T.law_fall.f T.law_fall.fd ["_law_told", "_law_standing", "_law_knot", "_law_out"] sp_law_fall := by
  refine T.law_fall.F.ok sc_law_fall (fun vs H Q E h => ?_) (fun cdv A outer s H vs Q E hr h => ?_)
  · obtain ⟨t, kd, id, ol, sd, od, D, g, st, c, v, rfl, _⟩ := h; rfl
  · obtain ⟨t, kd, id, ol, sd, od, D, g, st, c, v, rfl, ⟨H0, TA0, sb0, nst, nsk, nso, nsi, hod0, u0, hu0, hut⟩, ok, nos, hsd, hod, hv, hst, hc, h600, k⟩ := h
    have hfew := ok.few
    have hfewo := ok.fewo
    have not_ : od ≠ t := fun e => by subst e; rw [TA0.t] at hod0; cases hod0
    have nok : od ≠ kd := fun e => by subst e; rw [TA0.kd] at hod0; cases hod0
    refine ⟨_, (pss_cons (ps_par3 (i := 4) (j := 5) (l := 6) rfl sc_law_fall.nd rfl rfl rfl (by decide) (by decide) (by decide) rfl rfl rfl (pa_cons (pe_ix ix_tup (pv 0) pe_int (fun _ _ => rfl)) (pa_cons (pe_lst (pa_cons (pv 2) pa_nil)) (pa_cons pe_int pa_nil))) (by rfl))
      (pss_cons (ps_while PassesOwn.never (pt_cmpR (op_neD hr.units) (pv 5) (pe_lst pa_nil) (nomark _)) (pss_cons (ps_set (i := 7) sc_law_fall.nd rfl (.inl rfl) (pe_bm0 PySem.F.plainAttrs_list PySem.F.slot_list_pop PySem.F.type_list_pop mt_pop (pv 5)))
        (pss_cons (ps_asg (pe_dget (hu_of hr) (pv 4) (pv 7) (fun _ _ => rfl)) (pg_tup rfl (pgs_cons (pg_name (i := 8) sc_law_fall.nd rfl (.inl rfl)) (pgs_cons (pg_name (i := 9) sc_law_fall.nd rfl (.inl rfl)) pgs_nil))))
        (pss_cons (ps_set (i := 10) sc_law_fall.nd rfl (.inl rfl) (pe_op op_catB (pv 8) (pv 9)))
        (pss_cons (ps_for PassesOwn.never rfl (pi_tup (pe_ix ix_tup (pv 10) (pe_dget (hu_of hr) (pv 1) (pv 7) (fun _ _ => rfl)) (fun _ _ => rfl))) (pg_name (i := 11) sc_law_fall.nd rfl (.inl rfl)) (pss_one (ps_if (pt_cmp (pc_din (hu_of hr) (pv 11) (pv 3))) (pss_one (ps_daug (hu_of hr) (pv 3) (pv 11) pe_int in_add (fun _ _ _ => rfl))) (pss_one (ps_expr (pe_bm PySem.F.plainAttrs_list PySem.F.slot_list_append PySem.F.type_list_append mt_append (pv 5) (pa_cons (pv 11) pa_nil)))))))
        (pss_cons (ps_dput (hu_of hr) (pv 1) (pv 7) (pe_ifExp (pt_cmpR op_lt (pe_op op_add (pe_dget (hu_of hr) (pv 1) (pv 7) (fun _ _ => rfl)) pe_int) (pe_callB (id := "len") call_len_seq (by rfl) T.b_len PySem.boot_len (pa_cons (pv 10) pa_nil)) (nomark _)) (pe_op op_add (pe_dget (hu_of hr) (pv 1) (pv 7) (fun _ _ => rfl)) pe_int) (pe_callB (id := "len") call_len_seq (by rfl) T.b_len PySem.boot_len (pa_cons (pv 8) pa_nil))) rfl)
        (pss_cons (ps_aug (i := 6) sc_law_fall.nd rfl (.inl rfl) pe_int ip_add)
        (pss_one (ps_if (pt_cmpR op_gt (pv 6) pe_int (nomark _)) (pss_one (ps_ret (pe_un un_neg pe_int))) pss_nil)))))))))
      (pss_one (ps_ret (pv 6))))), ?_⟩
    have ht : H t = _ := sb0 _ _ (Ne.symm nst) TA0.t
    refine ⟨_, rfl, t, _, _, _, rfl, rfl, SqT.of ht, atI_0, _, rfl, sz (by show 1 ≤ 100000; omega), fun wl hwl => ⟨_, _, _, rfl, ?_⟩⟩
    have s1 := same_new (o := .lst [.str v]) hwl
    have hwl1 : upd H wl (.lst [.str v]) wl = some (.lst (([v] : List Str).map V.str)) := upd_same
    have sbA : SB2 sd od H (upd H wl (.lst [.str v])) := fun a o _ _ e => s1 a o e
    have hsd1 := s1 _ _ hsd
    have hod1 := s1 _ _ hod
    generalize upd H wl (.lst [.str v]) = H1 at s1 hwl1 sbA hsd1 hod1 ⊢
    have tsH : ∀ {H' : Hp}, SB2 sd od H H' → TS H H' := fun s b xs e => s _ _ (ne_of e hsd (by intro z; cases z)) (ne_of e hod (by intro z; cases z)) e
    have ts0 : TS H0 H := sb0.ts hu0 hut
    have hcame0 : ∀ u, came D.N st (ball v) (fun _ => 0) u = ball v u := fun u => by
      have z : sumN D.N.names (fun n => (D.N.kn n).cnt (st n) u 0) = 0 := sumN_zero fun x => rfl
      show ball v u + sumN D.N.names (fun n => (D.N.kn n).cnt (st n) u 0) = _
      rw [z]; rfl
    -- the loop
    refine ⟨fun μ σ H' => ∃ (c' : Str → Nat) (R : List Str) (x7 x8 x9 x10 x11 : Option V), σ = [some (.ref t), some (.ref sd), some (.str v), some (.ref od), some (.ref kd), some (.ref wl), some (.int (sumN D.N.names c' : Nat)), x7, x8, x9, x10, x11] ∧ SB2 sd od H H' ∧ H' sd = some (.dK (FD D.N.names fun n => .int ((D.N.kn n).plc (st n) (c' n) : Nat))) ∧ H' od = some (.dK (FD D.outs fun o => .int (outC D st c' o : Nat))) ∧ H' wl = some (.lst (R.map V.str)) ∧
      (∀ u ∈ R, u ∈ D.N.names) ∧ (∀ u ∈ D.N.names, came D.N st (ball v) c' u = c' u + R.count u) ∧ (∀ u ∈ D.N.names, c' u ≤ c u) ∧ R.length ≤ 1 + 4 * sumN D.N.names c' ∧ μ = sumN D.N.names c - sumN D.N.names c',
      ⟨_, fun _ => 0, [v], none, none, none, none, none, ?_, sbA, hsd1, ?_, hwl1, fun u hu => by simp at hu; exact hu ▸ hv, fun u hu => ?_, fun _ _ => Nat.zero_le _, by simp, rfl⟩, ?_⟩
    · rw [sumN_zero fun x => rfl]; rfl
    · rw [hod1]; exact congrArg (fun l => some (HO.dK l)) (fd_congr fun o _ => by rw [outC_zero]; rfl)
    · rw [hcame0, List.count_singleton]; unfold ball
      by_cases e : u = v
      · subst e; simp
      · rw [if_neg e, if_neg (by simpa using Ne.symm e)]
    rintro μ σ H2 ⟨c', R, x7, x8, x9, x10, x11, rfl, sb2, hsd2, hod2, hwl2, hRs, hRc, hle, hRl, rfl⟩
    have hc6 : sumN D.N.names c' ≤ sumN D.N.names c := sumN_le hle
    have kd2 : H2 kd = _ := sb2 _ _ (Ne.symm nsk) (Ne.symm nok) (sb0 _ _ (Ne.symm nsk) TA0.kd)
    have ts2 : TS H0 H2 := ts0.trans (tsH sb2)
    refine ⟨_, rfl, Nat.zero_le _, fun q hq => ?_⟩
    have s3 := same_new (o := .lst []) hq
    refine ⟨_, _, .lst (SqL.of (s3 _ _ hwl2)) (dpS R), .lst (SqL.of upd_same) .nil, sh_lstS (fun x hx => ok.nm x (.inl (hRs x hx))), sh_lst0, _, rfl, ?_⟩
    have sb3 := sb2.same s3
    have hsd3 := s3 _ _ hsd2
    have hod3 := s3 _ _ hod2
    have hwl3 := s3 _ _ hwl2
    have kd3 := s3 _ _ kd2
    have ts3 := ts2.trans (ts_of s3)
    generalize upd H2 q (.lst []) = H3 at sb3 hsd3 hod3 hwl3 kd3 ts3 ⊢
    have he : PyData.eqv (.list (R.map PyData.str)) (.list []) = R.isEmpty := by show PyData.eqvAll _ [] = _; rw [eqvAll_nil]; cases R <;> rfl
    rw [he]
    rcases List.eq_nil_or_concat R with rfl | ⟨R0, n, rfl⟩
    · refine iteF ?_
      have hstab : Stab D.N st (ball v) c' := fun u hu => by rw [hRc u hu]; simp
      have hcc := hc.of_le hstab hle
      refine ⟨_, rfl, k _ H3 sb3 ?_ ?_⟩
      · rw [hsd3]; exact congrArg (fun l => some (HO.dK l)) (fd_congr fun n hn => by rw [hcc n hn])
      · rw [hod3]; exact congrArg (fun l => some (HO.dK l)) (fd_congr fun o _ => by
          have : outC D st c' o = outC D st c o := sumN_congr fun n hn => by rw [hcc n hn]
          rw [this])
    have eR : R0.concat n = R0 ++ [n] := by simp
    rw [eR] at hwl3 hRs hRc hRl
    have hn : n ∈ D.N.names := hRs n (by simp)
    have hlR : (R0 ++ [n]).length = R0.length + 1 := by simp
    rw [show (!(R0.concat n).isEmpty) = true by cases R0 <;> rfl]
    refine iteT ⟨_, fun σ' H' h => h, ?_⟩
    refine ⟨_, rfl, .inl ⟨rfl, _, SqL.of hwl3⟩, wl, _, .str n, rfl, rfl, hwl3, by simp, ?_⟩
    have e5 : upd H3 wl (.lst ((R0 ++ [n]).map V.str).dropLast) = upd H3 wl (.lst (R0.map V.str)) := by simp
    rw [e5]
    have nsw : sd ≠ wl := ne_of hsd3 hwl3 (by intro z; cases z)
    have now_ : od ≠ wl := ne_of hod3 hwl3 (by intro z; cases z)
    have nkw : kd ≠ wl := ne_of kd3 hwl3 (by intro z; cases z)
    have sb4 := sb3.mut (o := .lst (R0.map V.str)) hwl
    have hsd4 : upd H3 wl (.lst (R0.map V.str)) sd = _ := (upd_ne nsw).trans hsd3
    have hod4 : upd H3 wl (.lst (R0.map V.str)) od = _ := (upd_ne now_).trans hod3
    have kd4 : upd H3 wl (.lst (R0.map V.str)) kd = _ := (upd_ne nkw).trans kd3
    have hwl4 : upd H3 wl (.lst (R0.map V.str)) wl = some (.lst (R0.map V.str)) := upd_same
    have ts4 := ts3.trans (ts_upd (o := .lst (R0.map V.str)) hwl3 (fun xs z => nomatch z))
    generalize upd H3 wl (.lst (R0.map V.str)) = H4 at sb4 hsd4 hod4 kd4 hwl4 ts4 ⊢
    obtain ⟨a, f, tu, eg, ha, ⟨fa, fs, rfl, hfa, pf⟩, ⟨ta, ts, rfl, hta, pt⟩⟩ := TA0.kn n hn
    have hfl : fs.length = (D.N.kn n).front.length := RowAt.len pf
    have htl : ts.length = (D.N.kn n).turn.length := RowAt.len pt
    have hL := (D.N.kn n).len_eq
    have h12 := ok.len n hn
    have hpl := (D.N.kn n).plc_lt (ok.tn n hn) (hst n hn) (c' n)
    refine ⟨_, rfl, _, rfl, kd, _, rfl, dget_in (.inl kd4) hn, a, _, eg, SqT.of (ts4 _ _ ha), rfl, _, _, rfl, _, _, rfl, rfl, ?_⟩
    refine ⟨_, rfl, _, rfl, fa, ta, fs, ts, rfl, rfl, SqT.of (ts4 _ _ hfa), SqT.of (ts4 _ _ hta), sz (by omega), fun ra H5 s5 hra => ?_⟩
    have sb5 := sb4.same s5
    have hsd5 := s5 _ _ hsd4
    have hod5 := s5 _ _ hod4
    have hwl5 := s5 _ _ hwl4
    have ts5 := ts4.trans (ts_of s5)
    have hrows : Paired (DropAt H0) (fs ++ ts) (D.N.kn n).rows := Paired.appP pf pt
    have hrl : (fs ++ ts).length = (D.N.kn n).len := Paired.length hrows
    have hdp : (fs ++ ts)[(D.N.kn n).plc (st n) (c' n)]? = some (fs ++ ts)[(D.N.kn n).plc (st n) (c' n)] := List.getElem?_eq_getElem (by omega)
    obtain ⟨dr, hdr, da, eda, hda⟩ := RowAt.get hrows hdp
    have hdrop : (D.N.kn n).drop ((D.N.kn n).plc (st n) (c' n)) = dr := by unfold Kn.drop; rw [List.getD, hdr]; rfl
    have hdrm : dr ∈ (D.N.kn n).rows := List.mem_of_getElem? hdr
    obtain ⟨h4d, htg⟩ := ok.tgt n hn dr hdrm
    refine ⟨_, rfl, _, rfl, _, rfl, sd, _, rfl, dget_in (.inl hsd5) hn, ra, _, _, _, rfl, rfl, hra, atI_nat hdp, da, eda, ⟨_, SqT.of (ts5 _ _ hda)⟩, ?_⟩
    have hraX : ∀ {H' : Hp}, TS H5 H' → (∀ o u, H5 ra = some (.frz o u) → H' ra = some (.frz o u)) → SqT K H' ra (fs ++ ts) := fun tsx fx => by
      rcases hra with (h | ⟨o, h⟩) | h
      · exact .inl (.inl (tsx _ _ h))
      · exact .inl (.inr ⟨o, fx _ _ h⟩)
      · exact .inr h
    refine for_tup (xs := dr.map V.str) (fun j σ H' => ∃ (R1 : List Str) (out1 : Str → Nat) (x11 : Option V), σ = [some (.ref t), some (.ref sd), some (.str v), some (.ref od), some (.ref kd), some (.ref wl), some (.int (sumN D.N.names c' : Nat)), some (.str n), some (.ref fa), some (.ref ta), some (.ref ra), x11] ∧ SB2 sd od H H' ∧ H' sd = some (.dK (FD D.N.names fun n => .int ((D.N.kn n).plc (st n) (c' n) : Nat))) ∧ H' od = some (.dK (FD D.outs fun o => .int (out1 o : Nat))) ∧ H' wl = some (.lst (R1.map V.str)) ∧
      (∀ u ∈ R1, u ∈ D.N.names) ∧ (∀ u ∈ D.N.names, R1.count u = R0.count u + (dr.take j).count u) ∧ (∀ o ∈ D.outs, out1 o = outC D st c' o + (dr.take j).count o) ∧ R1.length ≤ R0.length + j ∧ TS H0 H' ∧ SqT K H' ra (fs ++ ts))
      ⟨R0, outC D st c', x11, rfl, sb5, hsd5, hod5, hwl5, fun u hu => hRs u (List.mem_append_left _ hu), fun u _ => by simp, fun o _ => by simp, by omega, ts5, hra⟩ (by rintro j σ H' _ ⟨_, _, _, rfl, _, _, _, _, _, _, _, _, tsx, _⟩; exact SqT.of (tsx _ _ hda)) ?_ ?_
    · rintro j x σ H6 hj ⟨R1, out1, x11, rfl, sb6, hsd6, hod6, hwl6, hR1s, hR1c, ho1, hR1l, ts6, hra6⟩
      rw [List.getElem?_map] at hj
      cases et : dr[j]? with
      | none => rw [et] at hj; cases hj
      | some tg =>
        rw [et] at hj; cases hj
        have hjl := (List.getElem?_eq_some_iff.mp et).1
        have htU := htg tg (List.mem_of_getElem? et)
        have htk : dr.take (j + 1) = dr.take j ++ [tg] := by rw [List.take_succ, et]; rfl
        by_cases hto : tg ∈ D.outs
        · refine ⟨_, rfl, _, rfl, od, _, rfl, dget_in (.inl hod6) hto, true, rfl, iteT ?_⟩
          refine ⟨_, rfl, _, rfl, od, _, rfl, dget_in (.inl hod6) hto, _, _, rfl, rfl, _, dput_fd hod6 hto (by omega), ?_⟩
          have eo : FD D.outs (fun m => if m = tg then V.int ((out1 tg : Nat) + 1) else V.int (out1 m : Nat)) = FD D.outs (fun m => .int ((if m = tg then out1 tg + 1 else out1 m : Nat) : Int)) := fd_congr fun m _ => by by_cases e : m = tg <;> simp [e]
          have ntg : tg ∉ D.N.names := fun z => ok.apart tg z hto
          refine ⟨R1, fun m => if m = tg then out1 tg + 1 else out1 m, _, rfl, sb6.wr (.inr rfl), (upd_ne (Ne.symm nos)).trans hsd6, by rw [upd_same, eo], (upd_ne (Ne.symm now_)).trans hwl6, hR1s, fun u hu => ?_, fun o ho => ?_, by omega, ts6.trans (ts_upd hod6 (fun xs z => nomatch z)), ?_⟩
          · rw [hR1c u hu, htk, List.count_append, List.count_singleton, if_neg (by simpa using fun (e : tg = u) => ntg (e ▸ hu))]; omega
          · show (if o = tg then out1 tg + 1 else out1 o) = _
            rw [htk, List.count_append, List.count_singleton]
            by_cases e : o = tg
            · subst e; rw [if_pos rfl, ho1 o ho]; simp; omega
            · rw [if_neg e, ho1 o ho, if_neg (by simpa using Ne.symm e)]; omega
          · rcases hra6 with (h | ⟨o, h⟩) | h
            · exact .inl (.inl (ts_upd hod6 (fun xs z => nomatch z) _ _ h))
            · exact .inl (.inr ⟨o, (upd_ne (ne_of h hod6 (by intro z; cases z))).trans h⟩)
            · exact .inr h
        · have htn : tg ∈ D.N.names := (List.mem_append.mp htU).resolve_right hto
          refine ⟨_, rfl, _, rfl, od, _, rfl, dget_out (.inl hod6) hto, false, rfl, iteF ?_⟩
          refine ⟨_, rfl, .inl ⟨rfl, _, SqL.of hwl6⟩, _, rfl, wl, _, _, rfl, rfl, hwl6, by rw [List.length_map]; exact szl (by omega), ?_⟩
          refine ⟨R1 ++ [tg], out1, _, rfl, sb6.mut hwl, (upd_ne nsw).trans hsd6, (upd_ne now_).trans hod6, by rw [upd_same, List.map_append]; rfl, fun u hu => ?_, fun u hu => ?_, fun o ho => ?_, by rw [List.length_append, List.length_singleton]; omega, ts6.trans (ts_upd hwl6 (fun xs z => nomatch z)), ?_⟩
          · rcases List.mem_append.mp hu with h | h
            · exact hR1s u h
            · simp at h; exact h ▸ htn
          · rw [List.count_append, hR1c u hu, htk, List.count_append]; omega
          · rw [ho1 o ho, htk, List.count_append, List.count_singleton, if_neg (by simpa using fun (e : tg = o) => hto (e ▸ ho))]; omega
          · rcases hra6 with (h | ⟨o, h⟩) | h
            · exact .inl (.inl (ts_upd hwl6 (fun xs z => nomatch z) _ _ h))
            · exact .inl (.inr ⟨o, (upd_ne (ne_of h hwl6 (by intro z; cases z))).trans h⟩)
            · exact .inr h
    · rintro σ H6 ⟨R1, out1, x11, rfl, sb6, hsd6, hod6, hwl6, hR1s, hR1c, ho1, hR1l, ts6, hra6⟩
      rw [List.length_map] at hR1c ho1 hR1l
      rw [List.take_length] at hR1c ho1
      have hle7 := take_le hc.st hle hn (k := 1) (by rw [hRc n hn]; simp)
      have hsum := sum_bump ok.nd c' hn 1
      have hs7 : sumN D.N.names (bump c' n 1) ≤ sumN D.N.names c := sumN_le hle7
      have hnx : (D.N.kn n).plc (st n) (bump c' n 1 n) = (D.N.kn n).nx ((D.N.kn n).plc (st n) (c' n)) := by rw [bump_same]; rfl
      have fin : ∀ H7 : Hp, H7 = upd H6 sd (.dK (FD D.N.names fun m => if m = n then V.int ((D.N.kn n).nx ((D.N.kn n).plc (st n) (c' n)) : Nat) else V.int ((D.N.kn m).plc (st m) (c' m) : Nat))) → SB2 sd od H H7 ∧ H7 sd = some (.dK (FD D.N.names fun m => .int ((D.N.kn m).plc (st m) (bump c' n 1 m) : Nat))) ∧ H7 od = some (.dK (FD D.outs fun o => .int (outC D st (bump c' n 1) o : Nat))) ∧ H7 wl = some (.lst (R1.map V.str)) := by
        rintro H7 rfl
        refine ⟨sb6.wr (.inl rfl), ?_, ?_, (upd_ne (Ne.symm nsw)).trans hwl6⟩
        · rw [upd_same]
          exact congrArg (fun l => some (HO.dK l)) (fd_congr fun m _ => by
            by_cases e : m = n
            · subst e; rw [if_pos rfl, hnx]
            · rw [if_neg e, bump_ne c' 1 e])
        · rw [upd_ne nos, hod6]
          exact congrArg (fun l => some (HO.dK l)) (fd_congr fun o ho => by
            rw [ho1 o ho, outC_bump ok.nd st c' hn 1 o]
            have : (D.N.kn n).cnt ((D.N.kn n).plc (st n) (c' n)) o 1 = dr.count o := by
              show 0 + ((D.N.kn n).drop ((D.N.kn n).plc (st n) (c' n))).count o = _
              rw [hdrop]; omega
            rw [this])
      have hcount : ∀ u ∈ D.N.names, came D.N st (ball v) (bump c' n 1) u = bump c' n 1 u + R1.count u := fun u hu => by
        rw [came_bump ok.nd hn u, hdrop, hRc u hu, hR1c u hu, List.count_append, List.count_singleton]
        by_cases e : u = n
        · subst e; rw [bump_same]; simp; omega
        · rw [bump_ne c' 1 e, if_neg (by simpa using Ne.symm e)]; omega
      have hnxv : (D.N.kn n).nx ((D.N.kn n).plc (st n) (c' n)) = if (D.N.kn n).plc (st n) (c' n) + 1 < (D.N.kn n).len then (D.N.kn n).plc (st n) (c' n) + 1 else (D.N.kn n).front.length := rfl
      have tail : ∀ (H7 : Hp), H7 = upd H6 sd (.dK (FD D.N.names fun m => if m = n then V.int ((D.N.kn n).nx ((D.N.kn n).plc (st n) (c' n)) : Nat) else V.int ((D.N.kn m).plc (st m) (c' m) : Nat))) →
          ∃ μ', μ' < sumN D.N.names c - sumN D.N.names c' ∧ ∃ (c2 : Str → Nat) (R : List Str) (x7 x8 x9 x10 x11_ : Option V), [some (.ref t), some (.ref sd), some (.str v), some (.ref od), some (.ref kd), some (.ref wl), some (.int ((sumN D.N.names c' : Nat) + 1)), some (.str n), some (.ref fa), some (.ref ta), some (.ref ra), x11] = [some (.ref t), some (.ref sd), some (.str v), some (.ref od), some (.ref kd), some (.ref wl), some (.int (sumN D.N.names c2 : Nat)), x7, x8, x9, x10, x11_] ∧ SB2 sd od H H7 ∧ H7 sd = some (.dK (FD D.N.names fun n => .int ((D.N.kn n).plc (st n) (c2 n) : Nat))) ∧ H7 od = some (.dK (FD D.outs fun o => .int (outC D st c2 o : Nat))) ∧ H7 wl = some (.lst (R.map V.str)) ∧
          (∀ u ∈ R, u ∈ D.N.names) ∧ (∀ u ∈ D.N.names, came D.N st (ball v) c2 u = c2 u + R.count u) ∧ (∀ u ∈ D.N.names, c2 u ≤ c u) ∧ R.length ≤ 1 + 4 * sumN D.N.names c2 ∧ μ' = sumN D.N.names c - sumN D.N.names c2 := by
        intro H7 e7
        obtain ⟨f1, f2, f3, f4⟩ := fin H7 e7
        refine ⟨_, ?_, bump c' n 1, R1, some (.str n), some (.ref fa), some (.ref ta), some (.ref ra), x11, ?_, f1, f2, f3, f4, hR1s, hcount, hle7, ?_, rfl⟩
        · omega
        · rw [hsum]; rfl
        · rw [hsum]; omega
      have hst3 : ¬ (3000 : Int) < ((sumN D.N.names c' : Nat) : Int) + 1 := by omega
      refine ⟨_, rfl, _, rfl, sd, _, rfl, dget_in (.inl hsd6) hn, _, _, rfl, rfl, _, rfl, ra, _, rfl, .inr hra6, _, _, rfl, rfl, _, rfl, ?_⟩
      refine ite2 (fun hlt => ?_) (fun hlt => ?_)
      · have hlt : ((D.N.kn n).plc (st n) (c' n) : Int) + 1 < ((fs ++ ts).length : Nat) := of_decide_eq_true hlt
        have enx : (((D.N.kn n).plc (st n) (c' n) : Nat) : Int) + 1 = ((D.N.kn n).nx ((D.N.kn n).plc (st n) (c' n)) : Nat) := by rw [hnxv, if_pos (by omega)]; omega
        refine ⟨_, rfl, _, rfl, sd, _, rfl, dget_in (.inl hsd6) hn, _, _, rfl, rfl, _, rfl, _, rfl, sd, _, rfl, dput_fd hsd6 hn (by omega), ?_⟩
        refine ⟨_, rfl, _, _, rfl, rfl, _, rfl, _, _, rfl, rfl, false, congrArg V.bl (decide_eq_false hst3), iteF ?_⟩
        exact tail _ (congrArg (fun (z : Int) => upd H6 sd (HO.dK (FD D.N.names fun m => if m = n then V.int z else V.int ((D.N.kn m).plc (st m) (c' m) : Nat)))) enx)
      · have hlt : ¬ ((D.N.kn n).plc (st n) (c' n) : Int) + 1 < ((fs ++ ts).length : Nat) := fun z => hlt (decide_eq_true z)
        have enx : ((fs.length : Nat) : Int) = ((D.N.kn n).nx ((D.N.kn n).plc (st n) (c' n)) : Nat) := by rw [hnxv, if_neg (by omega)]; omega
        refine ⟨_, rfl, fa, fs, rfl, .inr (SqT.of (ts6 _ _ hfa)), _, rfl, _, rfl, sd, _, rfl, dput_fd hsd6 hn (by omega), ?_⟩
        refine ⟨_, rfl, _, _, rfl, rfl, _, rfl, _, _, rfl, rfl, false, congrArg V.bl (decide_eq_false hst3), iteF ?_⟩
        exact tail _ (congrArg (fun (z : Int) => upd H6 sd (HO.dK (FD D.N.names fun m => if m = n then V.int z else V.int ((D.N.kn m).plc (st m) (c' m) : Nat)))) enx)
end
end Bc
end
section
set_option Elab.async false
set_option linter.all false
set_option maxRecDepth 100000
set_option maxHeartbeats 4000000
set_option pp.maxSteps 300
/-! The walk: the law's start, rows and keys. -/
namespace Bc
open PySem L2
theorem bb_one (D : Nd) (i : Str) : bb D [i] = ball (D.inl i) := funext fun t => by
  unfold bb ball
  rw [List.map_singleton, List.count_singleton]
  by_cases h : t = D.inl i
  · subst h; simp
  · rw [if_neg h, if_neg (by simpa using Ne.symm h)]
def sp_law_start : Sp := fun vs H Q _ => ∃ (t kd id ol : Addr) (D : Nd) (g : Str → V), vs = [.ref t] ∧ ToldAt H t kd id ol D g ∧ D.Ok ∧ ∀ d H', H d = none → Same H H' → H' d = some (.dK (FD D.N.names fun _ => .int 0)) → Q (.ref d) H'
def sp_law_row : Sp := fun vs H Q _ => ∃ (t kd id ol sd : Addr) (D : Nd) (g : Str → V) (st c : Str → Nat) (v : Str), vs = [.ref t, .ref sd, .str v] ∧ ToldAt H t kd id ol D g ∧ D.Ok ∧ SU D.outs ∧ H sd = some (.dK (FD D.N.names fun n => .int (st n))) ∧ v ∈ D.N.names ∧ (∀ n ∈ D.N.names, st n < (D.N.kn n).len) ∧ Least D.N st (ball v) c ∧ sumN D.N.names c ≤ 600 ∧
  ∀ p H', SB sd H H' → H' sd = some (.dK (FD D.N.names fun n => .int ((D.N.kn n).plc (st n) (c n) : Nat))) → H' p = some (.tup (D.outs.map fun o => V.int (outC D st c o : Nat))) → Q (.ref p) H'
def sp_law_key : Sp := fun vs H Q _ => ∃ (sd : Addr) (ns : List Str) (f : Str → Nat), vs = [.ref sd] ∧ H sd = some (.dK (FD ns fun n => .int (f n : Nat))) ∧ SU ns ∧ ns.length ≤ 12 ∧ ∀ p H', Same H H' → H' p = some (.tup (ns.map fun n => V.int (f n : Nat))) → Q (.ref p) H'
section
variable {P : Program} {w : World} {K : PySem.W.Frag} {mg : Str → Option Value} {base : Heap}
theorem ok_law_key (T : Tx K mg) : FnOk P w K mg base CX0 1 T.law_key.f T.law_key.fd ["_law_standing"] sp_law_key := by
  refine T.law_key.F.ok sc_law_key (fun vs H Q E h => ?_) (fun cdv A outer s H vs Q E hr h => ?_)
  · obtain ⟨sd, ns, f, rfl, _⟩ := h; rfl
  · obtain ⟨sd, ns, f, rfl, hsd, su, hl, k⟩ := h
    refine ⟨_, (pss_one (ps_ret (pe_callTy (T := "tuple") (call_tuple_of) rfl T.b_tuple (by decide +kernel) (pa_cons (pe_lc (own := [("_law_name", 1)]) rfl sc_law_key.nd (pi_list (pe_callB (id := "sorted") (cr_sortedS) rfl T.b_sorted (by decide +kernel) (pa_cons (pe_callTy (T := "list") (call_listD rfl) rfl T.b_list (by decide +kernel) (pa_cons (pv 0) pa_nil)) pa_nil))) (blkOk_by (N := N_law_key) (sc := defScope s_law_key) (by decide +kernel)) (fun _ _ _ _ _ => pg_name (i := 1) sc_law_key.nd rfl (.inl rfl)) (fun _ _ _ _ _ => pts_nil) (fun _ _ _ _ _ => pe_dget (hu_of hr) (pv 0) (pv 1) (fun _ _ => rfl))) pa_nil)))), ?_⟩
    refine ⟨_, rfl, sd, _, rfl, .inl hsd, fun l hl0 => ?_⟩
    have s1 := same_new (o := .lst ((FD ns fun n => V.int (f n : Nat)).map fun kv => kV kv.1)) hl0
    have hl1 : upd H l (.lst ((FD ns fun n => V.int (f n : Nat)).map fun kv => kV kv.1)) l = some (.lst (ns.map V.str)) := by rw [upd_same, fd_kv]
    refine ⟨l, ns, rfl, SqL.of hl1, by omega, fun ys q hper hso hq => ?_⟩
    obtain rfl := su ys hper hso
    have s2 := s1.trans (same_new (o := .lst (ys.map V.str)) hq)
    have hq2 : upd (upd H l (.lst ((FD ys fun n => V.int (f n : Nat)).map fun kv => kV kv.1))) q (.lst (ys.map V.str)) q = some (.lst (ys.map V.str)) := upd_same
    refine ⟨q, rfl, ⟨_, SqL.of hq2⟩, fun e he => ?_⟩
    refine lc_vals walk_names (by omega) he (fun i => .int (f (ys.getD i "") : Nat)) (fun x => rfl) (fun H' s' => SqL.of (s' _ _ hq2)) ?_ ?_
    · intro i x hi hx H' s' Q' q'
      rw [List.getElem?_map, List.getElem?_eq_getElem hi] at hx
      cases hx
      have e : ys.getD i "" = ys[i] := by rw [List.getD, List.getElem?_eq_getElem hi]; rfl
      rw [e] at q'
      exact ⟨_, rfl, _, rfl, sd, _, rfl, dget_in (.inl (s' _ _ (s2 _ _ hsd))) (List.getElem_mem hi), q' H' (Same.refl H')⟩
    · intro H3 s3 he3
      have eb : (List.range ys.length).map (fun i => V.int (f (ys.getD i "") : Nat)) = ys.map fun n => V.int (f n : Nat) := by
        apply List.ext_getElem
        · simp
        · intro j h1 h2
          have h3 : j < ys.length := by simpa using h1
          simp [List.getElem?_eq_getElem h3]
      rw [eb] at he3
      exact ⟨e, _, rfl, .inl ⟨SqL.of he3, fun p hp => k p _ ((s2.trans s3).trans (same_new hp)) upd_same⟩⟩
theorem ok_law_start (T : Tx K mg) : FnOk P w K mg base CX0 1 T.law_start.f T.law_start.fd ["_law_told"] sp_law_start := by
  refine T.law_start.F.ok sc_law_start (fun vs H Q E h => ?_) (fun cdv A outer s H vs Q E hr h => ?_)
  · obtain ⟨t, kd, id, ol, D, g, rfl, _⟩ := h; rfl
  · obtain ⟨t, kd, id, ol, D, g, rfl, TA, ok, k⟩ := h
    have hfew := ok.few
    refine ⟨_, (pss_cons (ps_set (i := 1) sc_law_start.nd rfl (.inl rfl) pe_dnewK)
      (pss_cons (ps_lock (ps_for PassesOwn.never rfl (pi_keys (pe_ix ix_tup (pv 0) pe_int (fun _ _ => rfl))) (pg_name (i := 2) sc_law_start.nd rfl (.inl rfl)) (pss_one (ps_dput (hu_of hr) (pv 1) (pv 2) pe_int rfl))))
      (pss_one (ps_ret (pv 1))))), ?_⟩
    intro d hd
    have s1 : Same H (upd H d (.dK [])) := same_new hd
    have hd1 : upd H d (.dK []) d = some (.dK (FD (D.N.names.take 0) fun _ => .int 0)) := upd_same
    generalize upd H d (.dK []) = H1 at s1 hd1 ⊢
    have hk1 := s1 _ _ TA.kd
    have ndk : d ≠ kd := fun e => by subst e; rw [TA.kd] at hd; cases hd
    refine ⟨kd, _, hk1, trivial, fun od => ?_⟩
    have hfz : upd H1 kd (.frz od (.dK (FD D.N.names g))) kd = some (.frz od (.dK (FD D.N.names g))) := upd_same
    refine ⟨_, rfl, t, _, _, _, rfl, rfl, SqT.of ((upd_ne (ne_of (s1 _ _ TA.t) hk1 (by intro z; cases z))).trans (s1 _ _ TA.t)), atI_0, kd, od, rfl, .inl ⟨_, hfz, ?_⟩⟩
    have wk : Walk (Itk kd od (FD D.N.names g)) D.N.names.length (fun H => H kd = some (.frz od (.dK (FD D.N.names g)))) (YAt (D.N.names.map V.str)) := by
      have w0 := walk_keys (d := kd) (o := od) (kvs := FD D.N.names g)
      rw [fd_len] at w0
      exact w0.mono (fun _ h => h) (fun i H x H' _ _ ⟨e, ky, v, h, ex⟩ => ⟨e, by obtain ⟨n, hn, rfl, _⟩ := fd_of_get h; rw [List.getElem?_map, hn, ex]; rfl⟩)
    refine for_it wk (fun i σ H' => ∃ x, σ = [some (.ref t), some (.ref d), x] ∧ H' kd = some (.frz od (.dK (FD D.N.names g))) ∧ Same H (upd H' kd (.dK (FD D.N.names g))) ∧ H' d = some (.dK (FD (D.N.names.take i) fun _ => .int 0))) ⟨none, rfl, hfz, ?_, (upd_ne ndk).trans hd1⟩ (by rintro i σ H' _ ⟨x, rfl, h, _⟩; exact h) ?_ ?_
    · rw [upd_upd]; intro b o e
      by_cases z : b = kd
      · subst z; rw [upd_same, ← TA.kd, e]
      · rw [upd_ne z]; exact s1 b o e
    · rintro i v σ H' H'' hi ⟨x, rfl, hz, sU, hdi⟩ ⟨rfl, hx⟩
      rw [List.getElem?_map, List.getElem?_eq_getElem hi] at hx
      cases hx
      have hni : D.N.names[i]? = some D.N.names[i] := List.getElem?_eq_getElem hi
      have hnt : D.N.names[i] ∉ D.N.names.take i := fun hm => by
        obtain ⟨j, hj⟩ := List.mem_iff_getElem?.mp hm
        have hji : j < i := by have := (List.getElem?_eq_some_iff.mp hj).1; rw [List.length_take] at this; omega
        rw [List.getElem?_take_of_lt hji] at hj
        have := get_inj ok.nd hj hni
        omega
      refine ⟨_, rfl, _, rfl, d, _, rfl, .inl ⟨_, .inr D.N.names[i], hdi, rfl, (by rw [fd_len, List.length_take]; exact small1000 (by omega)), rfl⟩, ?_⟩
      refine ⟨_, rfl, (upd_ne (Ne.symm ndk)).trans hz, by rw [upd_comm ndk]; exact same_mut sU hd, ?_⟩
      rw [upd_same, fd_snoc _ hnt, List.take_succ_eq_append_getElem hi]; unfold FD; rw [List.map_append]; rfl
    · rintro σ H' ⟨x, rfl, hz, sU, hdi⟩
      rw [List.take_length] at hdi
      exact ⟨hz, _, rfl, k d _ hd sU ((upd_ne ndk).trans hdi)⟩
theorem ok_law_row (T : Tx K mg) : FnOk P w K mg base CX0 2 T.law_row.f T.law_row.fd ["_law_told", "_law_standing", "_law_knot"] sp_law_row := by
  refine T.law_row.F.ok sc_law_row (fun vs H Q E h => ?_) (fun cdv A outer s H vs Q E hr h => ?_)
  · obtain ⟨t, kd, id, ol, sd, D, g, st, c, v, rfl, _⟩ := h; rfl
  · obtain ⟨t, kd, id, ol, sd, D, g, st, c, v, rfl, TA, ok, su, hsd, hv, hst, hc, h600, k⟩ := h
    have hfewo := ok.fewo
    have nst : sd ≠ t := ne_of hsd TA.t (by intro z; cases z)
    have nso : sd ≠ ol := ne_of hsd TA.ol (by intro z; cases z)
    have nsi : sd ≠ id := ne_of hsd TA.id (fun z => fd_ne ok (fun x h => h) (HO.dK.inj z))
    have nsk : sd ≠ kd := ne_of hsd TA.kd (fun z => by
      have h := HO.dK.inj z
      obtain ⟨n, hn⟩ := List.exists_mem_of_ne_nil _ ok.ne
      have h1 := fd_in (f := fun n => V.int (st n : Nat)) hn
      rw [h, fd_in hn] at h1
      obtain ⟨a, _, _, e, _⟩ := TA.kn n hn
      rw [e] at h1; cases h1)
    refine ⟨_, (pss_cons (ps_set (i := 3) sc_law_row.nd rfl (.inr rfl) pe_dnewK)
      (pss_cons (ps_for PassesOwn.never rfl (pi_list (pe_ix ix_tup (pv 0) pe_int (fun _ _ => rfl))) (pg_name (i := 4) sc_law_row.nd rfl (.inl rfl)) (pss_one (ps_dput (hu_of hr) (pv 3) (pv 4) pe_int rfl)))
      (pss_cons (ps_if (pt_cmpR op_lt (pe_call (ok_law_fall T) (hr.mono (by decide)) rfl T.law_fall.m T.law_fall.F.kp T.law_fall.b .nil pass0 (pa_cons (pv 0) (pa_cons (pv 1) (pa_cons (pv 2) (pa_cons (pv 3) pa_nil))))) pe_int (nomark _)) (pss_one (ps_ret pe_non)) pss_nil)
      (pss_one (ps_ret (pe_callTy (T := "tuple") (call_tuple_of) rfl T.b_tuple (by decide +kernel) (pa_cons (pe_lc (own := [("_law_name", 4)]) rfl sc_law_row.nd (pi_list (pe_callB (id := "sorted") (cr_sortedS) rfl T.b_sorted (by decide +kernel) (pa_cons (pe_ix ix_tup (pv 0) pe_int (fun _ _ => rfl)) pa_nil))) (blkOk_by (N := N_law_row) (sc := defScope s_law_row) (by decide +kernel)) (fun _ _ _ _ _ => pg_name (i := 4) sc_law_row.nd rfl (.inl rfl)) (fun _ _ _ _ _ => pts_nil) (fun _ _ _ _ _ => pe_dget (hu_of hr) (pv 3) (pv 4) (fun _ _ => rfl))) pa_nil))))))), ?_⟩
    intro od hod
    have s1 : Same H (upd H od (.dK [])) := same_new hod
    have hod1 : upd H od (.dK []) od = some (.dK (FD (D.outs.take 0) fun _ => .int 0)) := upd_same
    generalize upd H od (.dK []) = H1 at s1 hod1 ⊢
    refine ⟨_, rfl, t, _, _, _, rfl, rfl, SqT.of (s1 _ _ TA.t), atI_2, ol, rfl, ⟨_, SqL.of (s1 _ _ TA.ol)⟩, ?_⟩
    refine for_list (xs := D.outs.map V.str) (fun i σ H' => ∃ x, σ = [some (.ref t), some (.ref sd), some (.str v), some (.ref od), x] ∧ Same H H' ∧ H' od = some (.dK (FD (D.outs.take i) fun _ => .int 0))) ⟨none, rfl, s1, hod1⟩ (by rintro i σ H' _ ⟨x, rfl, sm, _⟩; exact SqL.of (sm _ _ TA.ol)) ?_ ?_
    · rintro i x σ H2 hi ⟨x0, rfl, s2, ho2⟩
      rw [List.getElem?_map] at hi
      cases et : D.outs[i]? with
      | none => rw [et] at hi; cases hi
      | some n =>
        rw [et] at hi; cases hi
        have hlt := (List.getElem?_eq_some_iff.mp et).1
        have hnt : n ∉ D.outs.take i := fun hm => by
          obtain ⟨j, hj⟩ := List.mem_iff_getElem?.mp hm
          have hji : j < i := by have := (List.getElem?_eq_some_iff.mp hj).1; rw [List.length_take] at this; omega
          rw [List.getElem?_take_of_lt hji] at hj
          have := get_inj ok.ond hj et
          omega
        refine ⟨_, rfl, _, rfl, od, _, rfl, .inl ⟨_, .inr n, ho2, rfl, (by rw [fd_len, List.length_take]; exact small1000 (by omega)), rfl⟩, ?_⟩
        refine ⟨_, rfl, same_mut s2 hod, ?_⟩
        rw [upd_same, fd_snoc _ hnt, List.take_succ, et]; unfold FD; rw [List.map_append]; rfl
    rintro σ H2 ⟨x, rfl, s2, ho2⟩
    rw [List.length_map, List.take_length] at ho2
    have nos : od ≠ sd := fun e => by subst e; rw [hsd] at hod; cases hod
    refine ⟨_, rfl, _, rfl, _, rfl, _, rfl, t, kd, id, ol, sd, od, D, g, st, c, v, rfl, ⟨H, TA, fun b o _ e => s2 b o e, nst, nsk, nso, nsi, hod, _, hsd, fun xs z => nomatch z⟩, ok, nos, s2 _ _ hsd, ho2, hv, hst, hc, h600, fun n H3 sb3 hs3 ho3 => ⟨_, _, rfl, rfl, false, congrArg V.bl (decide_eq_false (by omega)), iteF ?_⟩⟩
    have sb : SB sd H H3 := fun b o nb e => sb3 b o nb (fun z => by subst z; rw [hod] at e; cases e) (s2 b o e)
    refine ⟨_, rfl, t, _, _, _, rfl, rfl, SqT.of (sb _ _ (Ne.symm nst) TA.t), atI_2, ol, D.outs, rfl, SqL.of (sb _ _ (Ne.symm nso) TA.ol), by omega, fun ys q hper hso hq => ?_⟩
    have hys : ys = D.outs := su ys hper hso
    have hq4 : upd H3 q (.lst (ys.map V.str)) q = some (.lst (D.outs.map V.str)) := by rw [upd_same, hys]
    have s4 := same_new (o := .lst (ys.map V.str)) hq
    refine ⟨q, rfl, ⟨_, SqL.of hq4⟩, fun e he => ?_⟩
    refine lc_vals (xs := D.outs.map V.str) walk_names (by omega) he (fun i => .int (outC D st c (D.outs.getD i "") : Nat)) (fun x => rfl) (fun H' s' => SqL.of (s' _ _ hq4)) ?_ ?_
    · intro i x hi hx H' s' Q' q'
      rw [List.getElem?_map, List.getElem?_eq_getElem hi] at hx
      cases hx
      have e : D.outs.getD i "" = D.outs[i] := by rw [List.getD, List.getElem?_eq_getElem hi]; rfl
      rw [e] at q'
      exact ⟨_, rfl, _, rfl, od, _, rfl, dget_in (.inl (s' _ _ (s4 _ _ ho3))) (List.getElem_mem hi), q' H' (Same.refl H')⟩
    · intro H5 s5 he5
      have eb : (List.range D.outs.length).map (fun i => V.int (outC D st c (D.outs.getD i "") : Nat)) = D.outs.map fun o => V.int (outC D st c o : Nat) := by
        apply List.ext_getElem
        · simp
        · intro j h1 h2
          have h3 : j < D.outs.length := by simpa using h1
          simp [List.getElem?_eq_getElem h3]
      rw [eb] at he5
      have s45 := s4.trans s5
      exact ⟨e, _, rfl, .inl ⟨SqL.of he5, fun p hp => k p _ ((sb.same s45).same (same_new hp)) (same_new hp _ _ (s45 _ _ hs3)) upd_same⟩⟩
end
end Bc
end
section
set_option Elab.async false
set_option linter.all false
set_option maxRecDepth 100000
set_option maxHeartbeats 4000000
set_option pp.maxSteps 300
/-! The walk: all ways, by letting balls fall. -/
namespace Bc
open PySem L2
def sp_law_all_ways : Sp := fun vs H Q _ => ∃ (t kd id ol sd : Addr) (D : Nd) (g : Str → V) (s0 : List Nat), vs = [.ref t, .ref sd] ∧ ToldAt H t kd id ol D g ∧ D.Ok ∧ SU D.N.names ∧ SU D.ins ∧ SU D.outs ∧ D.ins ≠ [] ∧ H sd = some (.dK (FD D.N.names fun n => .int (stf D.N.names s0 n : Nat))) ∧ OkS D s0 ∧ EndsAll D ∧
  (∀ H', Same H H' → Q .non H') ∧ ∀ n r vs us ol' sl' H', BEnd (nx D) D.ins s0 n → n ≤ 250 → Same H H' → H' r = some (.tup [.ref ol', .ref sl']) → H' ol' = some (.lst vs) → Paired (StandD H' D.N.names) vs (bk (nx D) D.ins s0 n).1 → H' sl' = some (.lst us) → Paired (RowD H' D.ins) us (bk (nx D) D.ins s0 n).2 → Q (.ref r) H'
section
variable {P : Program} {w : World} {K : PySem.W.Frag} {mg : Str → Option Value} {base : Heap}
theorem ok_law_all_ways (T : Tx K mg) : FnOk P w K mg base CX0 3 T.law_all_ways.f T.law_all_ways.fd ["_law_told", "_law_standing"] sp_law_all_ways := by
  refine T.law_all_ways.F.ok sc_law_all_ways (fun vs H Q E h => ?_) (fun cdv A outer s H vs Q E hr h => ?_)
  · obtain ⟨t, kd, id, ol, sd, D, g, s0, rfl, _⟩ := h; rfl
  · obtain ⟨t, kd, id, ol_, sd, D, g, s0, rfl, TA, ok, su1, su2, su3, hin, hsd, hs0, hea, k1, k2⟩ := h
    have hfew := ok.few
    have hfewi := ok.fewi
    refine ⟨_, (pss_cons (ps_set (i := 2) sc_law_all_ways.nd rfl (.inl rfl) (pe_callB (id := "sorted") (cr_sortedS) rfl T.b_sorted (by decide +kernel) (pa_cons (pe_callTy (T := "list") (call_listD rfl) rfl T.b_list (by decide +kernel) (pa_cons (pe_ix ix_tup (pv 0) pe_int (fun _ _ => rfl)) pa_nil)) pa_nil)))
      (pss_cons (ps_asg (pe_tup (pa_cons (pe_dispT (hu_of hr) (pe_call (ok_law_key T) (hr.mono (by decide)) rfl T.law_key.m T.law_key.F.kp T.law_key.b .nil pass0 (pa_cons (pv 1) pa_nil)) pe_int) (pa_cons (pe_lst (pa_cons (pe_callTy (T := "dict") call_dictD rfl T.b_dict (by decide +kernel) (pa_cons (pv 1) pa_nil)) pa_nil)) (pa_cons (pe_lst pa_nil) (pa_cons pe_int pa_nil))))) (pg_tup rfl (pgs_cons (pg_name (i := 3) sc_law_all_ways.nd rfl (.inl rfl)) (pgs_cons (pg_name (i := 4) sc_law_all_ways.nd rfl (.inl rfl)) (pgs_cons (pg_name (i := 5) sc_law_all_ways.nd rfl (.inl rfl)) (pgs_cons (pg_name (i := 6) sc_law_all_ways.nd rfl (.inl rfl)) pgs_nil))))))
      (pss_cons (ps_while PassesOwn.never (pt_cmpR op_lt (pv 6) (pe_callB (id := "len") call_len_seq (by rfl) T.b_len PySem.boot_len (pa_cons (pv 4) pa_nil)) (nomark _)) (pss_cons (ps_set (i := 7) sc_law_all_ways.nd rfl (.inl rfl) pe_dnewK)
        (pss_cons (ps_for PassesOwn.never rfl (pi_list (pv 2)) (pg_name (i := 8) sc_law_all_ways.nd rfl (.inl rfl)) (pss_cons (ps_set (i := 9) sc_law_all_ways.nd rfl (.inl rfl) (pe_callTy (T := "dict") call_dictD rfl T.b_dict (by decide +kernel) (pa_cons (pe_ix ix_list (pv 4) (pv 6) (fun _ _ => rfl)) pa_nil)))
          (pss_cons (ps_set (i := 10) sc_law_all_ways.nd rfl (.inl rfl) (pe_call (ok_law_row T) (hr.mono (by decide)) rfl T.law_row.m T.law_row.F.kp T.law_row.b .nil pass0 (pa_cons (pv 0) (pa_cons (pv 9) (pa_cons (pe_dget (hu_of hr) (pe_ix ix_tup (pv 0) pe_int (fun _ _ => rfl)) (pv 8) (fun _ _ => rfl)) pa_nil)))))
          (pss_cons (ps_if (pt_cmp (pc_dnotin (hu_of hr) (pe_call (ok_law_key T) (hr.mono (by decide)) rfl T.law_key.m T.law_key.F.kp T.law_key.b .nil pass0 (pa_cons (pv 9) pa_nil)) (pv 3))) (pss_cons (ps_dput (hu_of hr) (pv 3) (pe_call (ok_law_key T) (hr.mono (by decide)) rfl T.law_key.m T.law_key.F.kp T.law_key.b .nil pass0 (pa_cons (pv 9) pa_nil)) (pe_callB (id := "len") call_len_seq (by rfl) T.b_len PySem.boot_len (pa_cons (pv 4) pa_nil)) rfl)
            (pss_one (ps_expr (pe_bm PySem.F.plainAttrs_list PySem.F.slot_list_append PySem.F.type_list_append mt_append (pv 4) (pa_cons (pv 9) pa_nil))))) pss_nil)
          (pss_one (ps_dput (hu_of hr) (pv 7) (pv 8) (pe_tup (pa_cons (pe_dget (hu_of hr) (pv 3) (pe_call (ok_law_key T) (hr.mono (by decide)) rfl T.law_key.m T.law_key.F.kp T.law_key.b .nil pass0 (pa_cons (pv 9) pa_nil)) (fun _ _ => rfl)) (pa_cons (pv 10) pa_nil))) rfl))))))
        (pss_cons (ps_expr (pe_bm PySem.F.plainAttrs_list PySem.F.slot_list_append PySem.F.type_list_append mt_append (pv 5) (pa_cons (pv 7) pa_nil)))
        (pss_cons (ps_aug (i := 6) sc_law_all_ways.nd rfl (.inl rfl) pe_int ip_add)
        (pss_one (ps_if (pt_cmpR op_gt (pe_callB (id := "len") call_len_seq (by rfl) T.b_len PySem.boot_len (pa_cons (pv 4) pa_nil)) pe_int (nomark _)) (pss_one (ps_ret pe_non)) pss_nil)))))))
      (pss_one (ps_ret (pe_tup (pa_cons (pv 4) (pa_cons (pv 5) pa_nil)))))))), ?_⟩
    -- the inlets
    refine ⟨_, rfl, t, _, _, _, rfl, rfl, SqT.of TA.t, atI_1, id, _, rfl, .inl TA.id, fun l hl0 => ?_⟩
    have s1 := same_new (o := .lst ((FD D.ins fun i => V.str (D.inl i)).map fun kv => kV kv.1)) hl0
    have hl1 : upd H l (.lst ((FD D.ins fun i => V.str (D.inl i)).map fun kv => kV kv.1)) l = some (.lst (D.ins.map V.str)) := by rw [upd_same, fd_kv]
    refine ⟨l, D.ins, rfl, SqL.of hl1, by omega, fun ys nml hper hso hnm0 => ?_⟩
    have hys : ys = D.ins := su2 ys hper hso
    have s2 := s1.trans (same_new (o := .lst (ys.map V.str)) hnm0)
    have hnml2 : upd (upd H l (.lst ((FD D.ins fun i => V.str (D.inl i)).map fun kv => kV kv.1))) nml (.lst (ys.map V.str)) nml = some (.lst (D.ins.map V.str)) := by rw [upd_same, hys]
    generalize upd (upd H l (.lst ((FD D.ins fun i => V.str (D.inl i)).map fun kv => kV kv.1))) nml (.lst (ys.map V.str)) = H2 at s2 hnml2 ⊢
    -- found, order, steps
    refine fun fd hfd0 => ?_
    have s3 := same_new (o := .dT []) hfd0
    refine ⟨_, rfl, sd, D.N.names, stf D.N.names s0, rfl, s3 _ _ (s2 _ _ hsd), su1, by omega, fun kt H3 s3' hkt => ?_⟩
    have ekt : (D.N.names.map fun n => V.int (stf D.N.names s0 n : Nat)) = (kOf s0).map kV := by
      rw [kOf_kV]
      have := map_stf ok.nd hs0.len
      conv => rhs; rw [← this]
      rw [List.map_map]; rfl
    have hfd3 : H3 fd = some (.dT []) := s3' _ _ upd_same
    refine ⟨kOf s0, kt, rfl, hfd3, by rw [hkt, ekt], ?_⟩
    have hfdn : H fd = none := s2.free hfd0
    have s03 := s2.trans (s3.trans s3')
    have s04 : Same H (upd H3 fd (.dT [(kOf s0, .int 0)])) := same_mut s03 hfdn
    have hfd4 : upd H3 fd (.dT [(kOf s0, .int 0)]) fd = some (.dT (foundT [s0])) := by
      rw [upd_same]
      have : idx [s0] s0 = 0 := by simp [idx]
      unfold foundT; rw [List.map_singleton, this]; rfl
    have hnml4 : upd H3 fd (.dT [(kOf s0, .int 0)]) nml = some (.lst (D.ins.map V.str)) := by
      have e := s3' _ _ (s3 _ _ hnml2)
      exact (upd_ne (ne_of e hfd3 (by intro z; cases z))).trans e
    generalize upd H3 fd (.dT [(kOf s0, .int 0)]) = H4 at s04 hfd4 hnml4 ⊢
    refine ⟨_, rfl, sd, _, rfl, .inl (s04 _ _ hsd), fun fa hfa0 => ⟨sz (by show 1 ≤ 100000; omega), fun ol hol => ⟨Nat.zero_le _, fun sl hsl => ⟨sz (by show 4 ≤ 100000; omega), fun tp htp => ⟨tp, _, rfl, SqT.of upd_same, rfl, _, _, rfl, _, _, rfl, _, _, rfl, _, _, rfl, rfl, ?_⟩⟩⟩⟩⟩
    have s6 := (((same_new (o := .dK (FD D.N.names fun n => .int (stf D.N.names s0 n : Nat))) hfa0).trans (same_new (o := .lst [.ref fa]) hol)).trans (same_new (o := .lst []) hsl)).trans (same_new (o := .tup [.ref fd, .ref ol, .ref sl, .int 0]) htp)
    have s06 := s04.trans s6
    have hon : H ol = none := s04.free ((same_new hfa0).free hol)
    have hsn : H sl = none := s04.free ((same_new hfa0).free ((same_new hol).free hsl))
    have hol6 : upd (upd (upd (upd H4 fa (.dK (FD D.N.names fun n => .int (stf D.N.names s0 n : Nat)))) ol (.lst [.ref fa])) sl (.lst [])) tp (.tup [.ref fd, .ref ol, .ref sl, .int 0]) ol = some (.lst [.ref fa]) := same_new htp _ _ (same_new hsl _ _ upd_same)
    have hsl6 : upd (upd (upd (upd H4 fa (.dK (FD D.N.names fun n => .int (stf D.N.names s0 n : Nat)))) ol (.lst [.ref fa])) sl (.lst [])) tp (.tup [.ref fd, .ref ol, .ref sl, .int 0]) sl = some (.lst []) := same_new htp _ _ upd_same
    have hfa6 : upd (upd (upd (upd H4 fa (.dK (FD D.N.names fun n => .int (stf D.N.names s0 n : Nat)))) ol (.lst [.ref fa])) sl (.lst [])) tp (.tup [.ref fd, .ref ol, .ref sl, .int 0]) fa = some (.dK (FD D.N.names fun n => .int (stf D.N.names s0 n : Nat))) := same_new htp _ _ (same_new hsl _ _ (same_new hol _ _ upd_same))
    have hfd6 := s6 _ _ hfd4
    have hnml6 := s6 _ _ hnml4
    have nos : ol ≠ sl := fun e => by subst e; rw [upd_same] at hsl; cases hsl
    have nmo : nml ≠ ol := fun e => by subst e; rw [same_new hfa0 _ _ hnml4] at hol; cases hol
    have nms : nml ≠ sl := fun e => by subst e; rw [same_new hol _ _ (same_new hfa0 _ _ hnml4)] at hsl; cases hsl
    generalize upd (upd (upd (upd H4 fa (.dK (FD D.N.names fun n => .int (stf D.N.names s0 n : Nat)))) ol (.lst [.ref fa])) sl (.lst [])) tp (.tup [.ref fd, .ref ol, .ref sl, .int 0]) = H6 at s06 hol6 hsl6 hfa6 hfd6 hnml6 ⊢
    -- the loop
    let Inv : Nat → Hp → Prop := fun k H' => Same H H' ∧ H' nml = some (.lst (D.ins.map V.str)) ∧ ∃ vs us, H' ol = some (.lst vs) ∧ Paired (StandD H' D.N.names) vs (bk (nx D) D.ins s0 k).1 ∧ H' fd = some (.dT (foundT (bk (nx D) D.ins s0 k).1)) ∧ H' sl = some (.lst us) ∧ Paired (RowD H' D.ins) us (bk (nx D) D.ins s0 k).2
    have I0 : Inv 0 H6 := ⟨s06, hnml6, [.ref fa], [], hol6, .cons ⟨fa, _, rfl, hfa6, rfl, hs0.len⟩ .nil, hfd6, hsl6, .nil⟩
    have hbk : ∀ k, BOk (OkS D) (fun r => r.length = D.outs.length) D.ins.length (bk (nx D) D.ins s0 k) := bk_ok (nxt := nx D) (ins := D.ins) (P := OkS D) (PR := fun r => r.length = D.outs.length) (fun s a hs _ => nx_ok ok hs a) hs0
    refine ⟨fun μ σ H' => ∃ k x7 x8 x9 x10, σ = [some (.ref t), some (.ref sd), some (.ref nml), some (.ref fd), some (.ref ol), some (.ref sl), some (.int (k : Nat)), x7, x8, x9, x10] ∧ Inv k H' ∧ (bk (nx D) D.ins s0 k).2.length = k ∧ (bk (nx D) D.ins s0 k).1.length ≤ 250 ∧ μ = 251 - k, ⟨_, 0, none, none, none, none, rfl, I0, rfl, by show 1 ≤ 250; omega, rfl⟩, ?_⟩
    rintro μ σ H7 ⟨kk, x7, x8, x9, x10, rfl, ⟨s07, hnml7, vs, us, hol7, hpv, hfd7, hsl7, hpu⟩, hl2, hl1, rfl⟩
    have hvl : vs.length = (bk (nx D) D.ins s0 kk).1.length := Paired.length hpv
    have hul : us.length = kk := (Paired.length hpu).trans hl2
    have hkl := (hbk kk).le
    refine ⟨_, rfl, _, rfl, ol, vs, rfl, .inl (SqL.of hol7), _, _, rfl, rfl, _, rfl, ?_⟩
    refine ite2 (fun hc => ?_) (fun hc => ?_)
    · have hc : (kk : Int) < (vs.length : Nat) := of_decide_eq_true hc
      refine ⟨_, fun σ' H' h => h, ?_⟩
      intro rw_ hrw
      have s8 := same_new (o := .dK []) hrw
      have s08 := s07.trans s8
      have hrn : H rw_ = none := s07.free hrw
      have hnml8 := s8 _ _ hnml7
      have hol8 := s8 _ _ hol7
      have hfd8 := s8 _ _ hfd7
      have hsl8 := s8 _ _ hsl7
      have hpv8 := Paired.mapP hpv fun v b h => DD.mono (mCSt D.N.names) s8 h
      have hpu8 := Paired.mapP hpu fun v b h => DD.mono (mCRo D.ins) s8 h
      have hrw8 : upd H7 rw_ (.dK []) rw_ = some (.dK []) := upd_same
      generalize upd H7 rw_ (.dK []) = H8 at s08 hnml8 hol8 hfd8 hsl8 hpv8 hpu8 hrw8 ⊢
      have hb0 : (bk (nx D) D.ins s0 kk).1.length ≤ 250 := hl1
      have hsk : ∃ s, (bk (nx D) D.ins s0 kk).1[kk]? = some s := ⟨_, List.getElem?_eq_getElem (by omega)⟩
      obtain ⟨s, hsk⟩ := hsk
      have hvk : vs[kk]? = some vs[kk] := List.getElem?_eq_getElem (by omega)
      generalize hvv : vs[kk] = vk at hvk
      have hbok := hbk kk
      have hbok0 := hbok.nd
      have hss : OkS D s := hbok.all s (List.mem_of_getElem? hsk)
      have hstep : bk (nx D) D.ins s0 (kk + 1) = ((visit (nx D) s D.ins (bk (nx D) D.ins s0 kk).1 []).1, (bk (nx D) D.ins s0 kk).2 ++ [(visit (nx D) s D.ins (bk (nx D) D.ins s0 kk).1 []).2]) := by
        show bstep (nx D) D.ins (bk (nx D) D.ins s0 kk) = _
        unfold bstep; rw [hl2, hsk]
      obtain ⟨o0, r0, hx0⟩ : ∃ o0 r0, bk (nx D) D.ins s0 kk = (o0, r0) := ⟨_, _, rfl⟩
      rw [hx0] at hbok0 hstep hsk hpv8 hpu8 hfd8 hl2 hl1 hpu
      dsimp only at hbok0 hstep hsk hpv8 hpu8 hfd8 hl2 hl1 hpu
      have hvl1 : ∀ (i : Nat), i ≤ D.ins.length → (visit (nx D) s (D.ins.take i) o0 []).1.length ≤ o0.length + i := by
        intro i
        induction i with
        | zero => intro _; exact Nat.le_refl _
        | succ i ih =>
          intro hi
          have h1 := ih (by omega)
          rw [List.take_succ_eq_append_getElem (by omega), visit_app]
          have h2 := ins1_len_le (visit (nx D) s (D.ins.take i) o0 []).1 (nx D s D.ins[i]).1
          show (ins1 (visit (nx D) s (D.ins.take i) o0 []).1 (nx D s D.ins[i]).1).length ≤ _
          omega
      refine ⟨_, rfl, nml, rfl, ⟨_, SqL.of hnml8⟩, ?_⟩
      let Inv2 : Nat → Hp → Prop := fun i Hl => Same H Hl ∧ Hl nml = some (.lst (D.ins.map V.str)) ∧ (∃ vs2, Hl ol = some (.lst vs2) ∧ vs2[kk]? = some vk ∧ Paired (StandD Hl D.N.names) vs2 (visit (nx D) s (D.ins.take i) o0 []).1) ∧ Hl fd = some (.dT (foundT (visit (nx D) s (D.ins.take i) o0 []).1)) ∧
        Hl sl = some (.lst us) ∧ Paired (RowD Hl D.ins) us r0 ∧ (∀ v ∈ us, v ≠ .ref rw_) ∧ ∃ f, Hl rw_ = some (.dK (FD (D.ins.take i) f)) ∧ ∀ m ∈ D.ins.take i, StepAt Hl (f m) (stepOf D.ins (visit (nx D) s (D.ins.take i) o0 []).2 m)
      have J0 : Inv2 0 H8 := by
        refine ⟨s08, hnml8, ⟨vs, hol8, hvk, hpv8⟩, hfd8, hsl8, hpu8, fun v hv e => ?_, fun _ => .non, hrw8, fun m hm => by simp at hm⟩
        subst e
        obtain ⟨j, hj⟩ := List.mem_iff_getElem?.mp hv
        have hjl : j < r0.length := by have := (List.getElem?_eq_some_iff.mp hj).1; omega
        obtain ⟨a, kvs, e, h1, h2⟩ := paired_at hpu hj (List.getElem?_eq_getElem hjl)
        cases e
        rw [hrw] at h1; cases h1
      refine for_list (xs := D.ins.map V.str) (fun i σ Hl => ∃ x8 x9 x10, σ = [some (.ref t), some (.ref sd), some (.ref nml), some (.ref fd), some (.ref ol), some (.ref sl), some (.int (kk : Nat)), some (.ref rw_), x8, x9, x10] ∧ Inv2 i Hl) ⟨x8, x9, x10, rfl, J0⟩ (by rintro i σ Hl _ ⟨_, _, _, rfl, h⟩; exact SqL.of h.2.1) ?_ ?_
      · rintro i x σ Hl hx ⟨x8, x9, x10, rfl, hJ⟩
        rw [List.getElem?_map] at hx
        cases et : D.ins[i]? with
        | none => rw [et] at hx; cases hx
        | some nm =>
        rw [et] at hx; cases hx
        have hnmi := et
        have hi := (List.getElem?_eq_some_iff.mp et).1
        have hnm_in : nm ∈ D.ins := List.mem_of_getElem? hnmi
        have hnmt : nm ∉ D.ins.take i := fun hm => by
          obtain ⟨j, hj⟩ := List.mem_iff_getElem?.mp hm
          have hji : j < i := by have := (List.getElem?_eq_some_iff.mp hj).1; rw [List.length_take] at this; omega
          rw [List.getElem?_take_of_lt hji] at hj
          have := get_inj ok.indd hj hnmi
          omega
        obtain ⟨sU, hnmU, ⟨vs2, hol, hvk2, hpv2⟩, hfd, hsl, hpu2, hur, f, hrow, hst⟩ := hJ
        obtain ⟨j0, hj0⟩ : ∃ t, (visit (nx D) s (D.ins.take i) o0 []).1[kk]? = some t := by
          have h1 : kk < vs2.length := (List.getElem?_eq_some_iff.mp hvk2).1
          exact ⟨_, List.getElem?_eq_getElem (by rw [← Paired.length hpv2]; exact h1)⟩
        have hj0s : j0 = s := by
          have hp : ∃ r, (visit (nx D) s (D.ins.take i) o0 []).1 = o0 ++ r := by
            have := visit_ok (nxt := nx D) (ins := D.ins) (P := fun _ => True) (PR := fun _ => True) (fun _ _ _ _ => ⟨trivial, trivial⟩) (s := s) trivial (D.ins.take i) o0 [] (fun a ha => List.mem_of_mem_take ha) hbok0 (fun _ _ => trivial) (fun g hg => nomatch hg)
            exact this.2.2.1
          obtain ⟨r, hr⟩ := hp
          rw [hr, List.getElem?_append_left (by exact (List.getElem?_eq_some_iff.mp hsk).1), hsk] at hj0
          exact (Option.some.inj hj0).symm
        subst hj0s
        obtain ⟨sa, kvs, rfl, hsa, rfl, hsl'⟩ := paired_at hpv2 hvk2 hj0
        have hlc := leastC_ok (hea (stf D.N.names j0) hss.lt nm hnm_in)
        rw [bb_one] at hlc
        have TAl := TA.mono sU
        refine ⟨_, rfl, _, rfl, ol, vs2, _, _, rfl, rfl, SqL.of hol, atI_nat hvk2, sa, _, rfl, .inl hsa, fun ld hld => ?_⟩
        have sld := same_new (o := .dK (FD D.N.names fun n => .int (stf D.N.names j0 n : Nat))) hld
        refine ⟨_, rfl, _, rfl, _, rfl, t, _, _, _, rfl, rfl, SqT.of (sld _ _ TAl.t), atI_1, _, rfl, id, _, rfl, dget_in (.inl (sld _ _ TAl.id)) hnm_in, ?_⟩
        refine ⟨t, kd, id, ol_, ld, D, g, stf D.N.names j0, leastC D (stf D.N.names j0) [nm], D.inl nm, rfl, TAl.mono sld, ok, su3, upd_same, ok.inl nm hnm_in, hss.lt, hlc.1, hlc.2, fun op H10 sb10 hld10 hop10 => ?_⟩
        have sL : Same Hl H10 := fun b o e => sb10 b o (fun z => by subst z; rw [hld] at e; cases e) (sld b o e)
        have e1 : (nx D j0 nm).1 = D.N.names.map fun n => (D.N.kn n).plc (stf D.N.names j0 n) (leastC D (stf D.N.names j0) [nm] n) := rfl
        have e2 : (nx D j0 nm).2 = D.outs.map fun o => outC D (stf D.N.names j0) (leastC D (stf D.N.names j0) [nm]) o := rfl
        have hok' := (nx_ok ok hss nm).1
        have hld10' : H10 ld = some (.dK (FD D.N.names fun n => .int (stf D.N.names (nx D j0 nm).1 n : Nat))) := by
          rw [hld10]
          exact congrArg (fun l => some (HO.dK l)) (fd_congr fun n hn => by rw [e1, stf_map _ hn])
        have hop10' : H10 op = some (.tup ((nx D j0 nm).2.map fun x => V.int (x : Nat))) := by rw [hop10, e2, List.map_map]; rfl
        have ekk : (D.N.names.map fun n => V.int (stf D.N.names (nx D j0 nm).1 n : Nat)) = (kOf (nx D j0 nm).1).map kV := by
          rw [kOf_kV]
          have := map_stf ok.nd hok'.len
          conv => rhs; rw [← this]
          rw [List.map_map]; rfl
        have htk : D.ins.take (i + 1) = D.ins.take i ++ [nm] := by rw [List.take_succ, hnmi]; rfl
        have hvnext : visit (nx D) j0 (D.ins.take (i + 1)) o0 [] = (ins1 (visit (nx D) j0 (D.ins.take i) o0 []).1 (nx D j0 nm).1, (visit (nx D) j0 (D.ins.take i) o0 []).2 ++ [(idx (ins1 (visit (nx D) j0 (D.ins.take i) o0 []).1 (nx D j0 nm).1) (nx D j0 nm).1, (nx D j0 nm).2)]) := by
          rw [htk, visit_app]; rfl
        have hvl0 := hvl1 i (by omega)
        have hrl : (visit (nx D) j0 (D.ins.take i) o0 []).2.length = i := by rw [visit_rlen, List.length_take]; simp; omega
        generalize ho' : (visit (nx D) j0 (D.ins.take i) o0 []).1 = o' at *
        generalize hr' : (visit (nx D) j0 (D.ins.take i) o0 []).2 = r' at *
        generalize hs'' : (nx D j0 nm).1 = s'' at *
        generalize hou : (nx D j0 nm).2 = ou at *
        -- the row's entry
        have rest : ∀ (Dn : Ends) (H5 : Hp), (∀ σ' H', (∃ x8 x9 x10, σ' = [some (.ref t), some (.ref sd), some (.ref nml), some (.ref fd), some (.ref ol), some (.ref sl), some (.int (kk : Nat)), some (.ref rw_), x8, x9, x10] ∧ Inv2 (i + 1) H') → Dn.nx σ' H') →
            Same H H5 → H5 nml = some (.lst (D.ins.map V.str)) → (∃ vs3, H5 ol = some (.lst vs3) ∧ vs3[kk]? = some (.ref sa) ∧ Paired (StandD H5 D.N.names) vs3 (ins1 o' s'')) → H5 fd = some (.dT (foundT (ins1 o' s''))) → H5 sl = some (.lst us) → Paired (RowD H5 D.ins) us r0 →
            H5 rw_ = some (.dK (FD (D.ins.take i) f)) → (∀ m ∈ D.ins.take i, StepAt H5 (f m) (stepOf D.ins r' m)) → H5 ld = some (.dK (FD D.N.names fun n => .int (stf D.N.names s'' n : Nat))) → H5 op = some (.tup (ou.map fun x => V.int (x : Nat))) →
            sDPut (tVar 7) (tVar 8) (tTup (tCons (tDGet (tVar 3) (tCall sp_law_key [] E0 (tCons (tVar 9) tNil))) (tCons (tVar 10) tNil))) Dn
              [some (.ref t), some (.ref sd), some (.ref nml), some (.ref fd), some (.ref ol), some (.ref sl), some (.int (kk : Nat)), some (.ref rw_), some (.str nm), some (.ref ld), some (.ref op)] H5 := by
          intro Dn H5 hD sU5 hnm5 ⟨vs3, hol5, hvk5, hpv5⟩ hfd5 hsl5 hpu5 hrw5 hst5 hld5 hop5
          refine ⟨_, rfl, _, rfl, ld, D.N.names, stf D.N.names s'', rfl, hld5, su1, by omega, fun kt5 H55 s55 hkt5 => ⟨fd, _, rfl, .inr ⟨_, kOf s'', kt5, .inl (s55 _ _ hfd5), rfl, by rw [hkt5, ekk], (found_in (mem_ins1 o' s'')).symm⟩, _, rfl, sz (by show 2 ≤ 100000; omega), fun e he => ?_⟩⟩
          have s6 : Same H5 (upd H55 e (.tup [.int (idx (ins1 o' s'') s'' : Nat), .ref op])) := s55.trans (same_new he)
          have he6 : upd H55 e (.tup [.int (idx (ins1 o' s'') s'' : Nat), .ref op]) e = some (.tup [.int (idx (ins1 o' s'') s'' : Nat), .ref op]) := upd_same
          generalize upd H55 e (.tup [.int (idx (ins1 o' s'') s'' : Nat), .ref op]) = H6 at s6 he6 ⊢
          have hrw6 := s6 _ _ hrw5
          refine ⟨_, rfl, _, rfl, rw_, _, rfl, .inl ⟨_, .inr nm, hrw6, rfl, (by rw [fd_len, List.length_take]; exact small1000 (by omega)), rfl⟩, ?_⟩
          refine hD _ _ ⟨_, _, _, rfl, ?_⟩
          rw [fd_snoc f hnmt, fd_snoc_if hnmt, ← htk]
          have hts : TS H6 (upd H6 rw_ (.dK (FD (D.ins.take (i + 1)) fun m => if m = nm then .ref e else f m))) := ts_upd hrw6 (fun xs z => nomatch z)
          refine ⟨same_mut (sU5.trans s6) hrn, (upd_ne (ne_of (s6 _ _ hnm5) hrw6 (by intro z; cases z))).trans (s6 _ _ hnm5), ⟨vs3, (upd_ne (ne_of (s6 _ _ hol5) hrw6 (by intro z; cases z))).trans (s6 _ _ hol5), hvk5, ?_⟩, ?_, (upd_ne (ne_of (s6 _ _ hsl5) hrw6 (by intro z; cases z))).trans (s6 _ _ hsl5), ?_, hur, fun m => if m = nm then .ref e else f m, upd_same, ?_⟩
          · rw [hvnext]
            exact Paired.mapP hpv5 fun v b h => DD.wr (mCSt _) hrw6 (fun k z hc => fd_ne ok (fun x hx => List.mem_of_mem_take hx) (hc.1.symm.trans (HO.dK.inj z).symm)) (fun xs z => nomatch z) (DD.mono (mCSt _) s6 h)
          · rw [hvnext]
            exact (upd_ne (ne_of (s6 _ _ hfd5) hrw6 (by intro z; cases z))).trans (s6 _ _ hfd5)
          · refine paired_imp_mem hpu5 fun v r hv h => ?_
            obtain ⟨a, k, ev, h1, h2⟩ := h
            have na : a ≠ rw_ := fun z => hur v hv (by rw [ev, z])
            exact ⟨a, k, ev, (upd_ne na).trans (s6 _ _ h1), (h2.mono (ts_of s6)).mono hts⟩
          · intro m hm
            rw [hvnext]
            dsimp only
            rw [htk] at hm
            by_cases em : m = nm
            · subst em
              rw [if_pos rfl]
              have : stepOf D.ins (r' ++ [(idx (ins1 o' s'') s'', ou)]) m = (idx (ins1 o' s'') s'', ou) := by
                unfold stepOf
                have : D.ins.idxOf m = i := idx_at ok.indd hnmi
                rw [this, List.getD, List.getElem?_append_right (by omega), hrl, Nat.sub_self]; rfl
              rw [this]
              exact ⟨e, op, rfl, hts _ _ he6, hts _ _ (s6 _ _ hop5)⟩
            · rw [if_neg em]
              have hm : m ∈ D.ins.take i := (List.mem_append.mp hm).elim (fun h => h) (fun h => absurd (by simpa using h) em)
              have : stepOf D.ins (r' ++ [(idx (ins1 o' s'') s'', ou)]) m = stepOf D.ins r' m := by
                unfold stepOf
                obtain ⟨j, hj⟩ := List.mem_iff_getElem?.mp hm
                have hji : j < i := by have := (List.getElem?_eq_some_iff.mp hj).1; rw [List.length_take] at this; omega
                rw [List.getElem?_take_of_lt hji] at hj
                have : D.ins.idxOf m = j := idx_at ok.indd hj
                rw [this, List.getD, List.getD, List.getElem?_append_left (by omega)]
              rw [this]
              exact ((hst5 m hm).mono (ts_of s6)).mono hts
        refine ⟨_, rfl, ld, D.N.names, stf D.N.names s'', rfl, hld10', su1, by omega, fun kt H11 s11 hkt => ?_⟩
        have hkt' : H11 kt = some (.tup ((kOf s'').map kV)) := by rw [hkt, ekk]
        have sL1 := sL.trans s11
        have hfd11 := sL1 _ _ hfd
        have hol11 := sL1 _ _ hol
        have hld11 := s11 _ _ hld10'
        have hop11 := s11 _ _ hop10'
        refine ⟨_, rfl, fd, _, rfl, .inr ⟨_, kOf s'', kt, .inl hfd11, rfl, hkt', rfl⟩, ?_⟩
        have hpu10 : Paired (RowD H11 D.ins) us r0 := Paired.mapP hpu2 fun v b h => DD.mono (mCRo _) sL1 h
        have hpv10 : Paired (StandD H11 D.N.names) vs2 o' := Paired.mapP hpv2 fun v b h => DD.mono (mCSt _) sL1 h
        have hst10 : ∀ m ∈ D.ins.take i, StepAt H11 (f m) (stepOf D.ins r' m) := fun m hm => (hst m hm).mono (ts_of sL1)
        by_cases hmem : s'' ∈ o'
        · rw [found_in hmem]
          refine ⟨false, rfl, iteF ?_⟩
          have ei : ins1 o' s'' = o' := by unfold ins1; rw [if_pos hmem]
          exact rest _ H11 (fun σ' H' h => h) (sU.trans sL1) (sL1 _ _ hnmU) ⟨vs2, hol11, hvk2, by rw [ei]; exact hpv10⟩ (by rw [ei]; exact hfd11) (sL1 _ _ hsl) hpu10 (sL1 _ _ hrow) hst10 hld11 hop11
        · rw [found_out hmem]
          have ei : ins1 o' s'' = o' ++ [s''] := by unfold ins1; rw [if_neg hmem]
          have hv2l : vs2.length = o'.length := Paired.length hpv2
          refine ⟨true, rfl, iteT ?_⟩
          refine ⟨_, rfl, ol, vs2, rfl, .inl (SqL.of hol11), _, rfl, _, rfl, ld, D.N.names, stf D.N.names s'', rfl, hld11, su1, by omega, fun kt2 H12 s12 hkt2 => ?_⟩
          have sL2 := sL1.trans s12
          have hfd12 := s12 _ _ hfd11
          have hol12 := s12 _ _ hol11
          have hld12 := s12 _ _ hld11
          have hop12 := s12 _ _ hop11
          refine ⟨fd, _, rfl, .inr ⟨_, kOf s'', kt2, hfd12, rfl, by rw [hkt2, ekk], (by unfold foundT; rw [List.length_map]; exact szl (by omega)), rfl⟩, ?_⟩
          rw [hv2l, found_put hmem]
          have nfo : fd ≠ ol := ne_of hfd12 hol12 (by intro z; cases z)
          have U2' : upd H12 fd (.dT (foundT (o' ++ [s'']))) ol = some (.lst vs2) := (upd_ne (Ne.symm nfo)).trans hol12
          refine ⟨_, rfl, .inl ⟨rfl, _, SqL.of U2'⟩, _, rfl, ol, vs2, _, rfl, rfl, U2', szl (by omega), ?_⟩
          have gU : ∀ {a : Addr} {o : HO}, H12 a = some o → a ≠ fd → a ≠ ol → upd (upd H12 fd (.dT (foundT (o' ++ [s''])))) ol (.lst (vs2 ++ [.ref ld])) a = some o := fun h n1 n2 => (upd_ne n2).trans ((upd_ne n1).trans h)
          have gC : ∀ {a : Addr} {o : HO}, H12 a = some o → (∀ k, o ≠ .dT k) → (∀ xs, o ≠ .lst xs) → upd (upd H12 fd (.dT (foundT (o' ++ [s''])))) ol (.lst (vs2 ++ [.ref ld])) a = some o := fun h n1 n2 => gU h (ne_of h hfd12 (n1 _)) (ne_of h hol12 (n2 _))
          have tsA : TS H12 (upd (upd H12 fd (.dT (foundT (o' ++ [s''])))) ol (.lst (vs2 ++ [.ref ld]))) := (ts_upd hfd12 (fun xs z => nomatch z)).trans (ts_upd U2' (fun xs z => nomatch z))
          refine rest _ _ (fun σ' H' h => h) (same_mut (same_mut (sU.trans sL2) hfdn) hon) (gU (sL2 _ _ hnmU) (ne_of (sL2 _ _ hnmU) hfd12 (by intro z; cases z)) nmo) ?_ ?_ ?_ ?_ ?_ ?_ (gC hld12 (fun k z => nomatch z) (fun k z => nomatch z)) (gC hop12 (fun k z => nomatch z) (fun k z => nomatch z))
          · rw [ei]
            refine ⟨vs2 ++ [.ref ld], upd_same, by rw [List.getElem?_append_left (List.getElem?_eq_some_iff.mp hvk2).1]; exact hvk2, paired_app ⟨ld, _, rfl, gC hld12 (fun k z => nomatch z) (fun k z => nomatch z), rfl, hok'.len⟩ (Paired.mapP hpv10 fun v b h => DD.wr (mCSt _) U2' (fun k z => nomatch z) (fun xs z => nomatch z) (DD.wr (mCSt _) hfd12 (fun k z => nomatch z) (fun xs z => nomatch z) (DD.mono (mCSt _) s12 h)))⟩
          · rw [ei]; exact (upd_ne nfo).trans upd_same
          · exact gU (sL2 _ _ hsl) (ne_of (sL2 _ _ hsl) hfd12 (by intro z; cases z)) (Ne.symm nos)
          · exact Paired.mapP hpu10 fun v b h => DD.wr (mCRo _) U2' (fun k z => nomatch z) (fun xs z => nomatch z) (DD.wr (mCRo _) hfd12 (fun k z => nomatch z) (fun xs z => nomatch z) (DD.mono (mCRo _) s12 h))
          · exact gC (sL2 _ _ hrow) (fun k z => nomatch z) (fun k z => nomatch z)
          · exact fun m hm => ((hst10 m hm).mono (ts_of s12)).mono tsA
      · rintro σ Hl ⟨x8, x9, x10, rfl, sU, hnmU, ⟨vs2, hol, hvk2, hpv2⟩, hfd, hsl, hpu2, hur, f, hrow, hst⟩
        rw [List.length_map, List.take_length] at *
        have hrl : (visit (nx D) s D.ins o0 []).2.length = D.ins.length := by rw [visit_rlen]; simp
        have hv2l : vs2.length = (visit (nx D) s D.ins o0 []).1.length := Paired.length hpv2
        refine ⟨_, rfl, .inl ⟨rfl, _, SqL.of hsl⟩, _, rfl, sl, us, _, rfl, rfl, hsl, szl (by omega), ?_⟩
        have sW : Same H (upd Hl sl (.lst (us ++ [.ref rw_]))) := same_mut sU hsn
        have hol9 : upd Hl sl (.lst (us ++ [.ref rw_])) ol = some (.lst vs2) := (upd_ne nos).trans hol
        refine ⟨_, rfl, _, _, rfl, rfl, ?_⟩
        refine ⟨_, rfl, ol, vs2, rfl, .inl (SqL.of hol9), _, _, rfl, rfl, _, rfl, ?_⟩
        refine ite2 (fun hbig => ?_) (fun hbig => ?_)
        · exact k1 _ sW
        · have hbig : ¬ (250 : Int) < (vs2.length : Nat) := fun z => hbig (decide_eq_true z)
          refine ⟨251 - (kk + 1), by omega, kk + 1, some (.ref rw_), x8, x9, x10, rfl, ⟨sW, (upd_ne nms).trans hnmU, vs2, us ++ [.ref rw_], hol9, ?_, (upd_ne (ne_of hfd hsl (by intro z; cases z))).trans ?_, upd_same, ?_⟩, ?_, ?_, rfl⟩
          · rw [hstep]; exact Paired.mapP hpv2 fun v b h => DD.wr (mCSt _) hsl (fun k z => nomatch z) (fun xs z => nomatch z) h
          · rw [hstep]; exact hfd
          · rw [hstep]
            refine paired_app ⟨rw_, _, rfl, (upd_ne (ne_of hrow hsl (by intro z; cases z))).trans hrow, f, rfl, hrl, fun m hm => (hst m hm).mono (ts_upd hsl (fun xs z => nomatch z))⟩ (Paired.mapP hpu2 fun v b h => DD.wr (mCRo _) hsl (fun k z => nomatch z) (fun xs z => nomatch z) h)
          · rw [hstep]; dsimp only; rw [List.length_append, hl2]; rfl
          · rw [hstep]; dsimp only; omega
    · have hc : ¬ (kk : Int) < (vs.length : Nat) := fun z => hc (decide_eq_true z)
      have hE : BEnd (nx D) D.ins s0 kk := ⟨hl2, by omega⟩
      refine ⟨_, rfl, _, rfl, sz (by show 2 ≤ 100000; omega), fun r hr0 => ?_⟩
      have sr := same_new (o := .tup [.ref ol, .ref sl]) hr0
      exact k2 kk r vs us ol sl _ hE (by omega) (s07.trans sr) upd_same (sr _ _ hol7) (Paired.mapP hpv fun v b h => DD.mono (mCSt _) sr h) (sr _ _ hsl7) (Paired.mapP hpu fun v b h => DD.mono (mCRo _) sr h)
end
end Bc
end
section
set_option Elab.async false
set_option linter.all false
set_option maxRecDepth 100000
set_option maxHeartbeats 4000000
set_option pp.maxSteps 300
/-! The nets that the law draws: they are nets, and their balls settle. -/
namespace Bc
open PySem L2
structure KnotLaw (names outs : List Str) (at_ : Nat) (kn : Kn Str) : Prop where
  fl : kn.front.length ≤ 2
  fd : ∀ d ∈ kn.front, DropLaw names outs at_ d
  tu : ∃ ds last t0, ds.length ≤ 2 ∧ (∀ d ∈ ds, DropLaw names outs at_ d) ∧ (last = [] ∨ ∃ o, o ∈ outs ∧ last = [o]) ∧ t0.Perm (ds ++ [last]) ∧ ((∃ n1 o, names[at_ + 1]? = some n1 ∧ o ∈ outs ∧ kn.turn = t0 ++ [[n1], [o]]) ∨ (names[at_ + 1]? = none ∧ kn.turn = t0))
def abc : List Str := ["a", "b", "c"]
def xyz : List Str := ["x", "y", "z"]
structure NetLaw (D : Nd) : Prop where
  nk : ∃ k, k < 3 ∧ D.N.names = abc.take (k + 1)
  no : ∃ j, j < 3 ∧ D.outs = xyz.take (j + 1)
  kn : ∀ at_ n, D.N.names[at_]? = some n → KnotLaw D.N.names D.outs at_ (D.N.kn n)
  ins : D.ins = ([("in" : Str)] : List Str) ∨ D.ins = ([("in" : Str), ("other" : Str)] : List Str)
  top : D.N.names[0]? = some (D.inl ("in" : Str))
  inl : ∀ i ∈ D.ins, D.inl i ∈ D.N.names
theorem two_perm {q r a b : Str} (h : [q, r].Perm [a, b]) : (q = a ∧ r = b) ∨ (q = b ∧ r = a) := by
  have hq : q ∈ [a, b] := h.mem_iff.mp (by simp)
  simp at hq
  rcases hq with e | e
  · subst e
    exact .inl ⟨rfl, by simpa using (List.perm_cons q).mp h⟩
  · subst e
    exact .inr ⟨rfl, by simpa using (List.perm_cons q).mp (h.trans (List.Perm.swap q a []))⟩
theorem su_two {a b : Str} (f : PyProof.Rows.sortedS [b, a] = false) : SU [a, b] := fun ys hp hs => by
  have hl := hp.length_eq
  match ys, hl with
  | [q, r], _ =>
    rcases two_perm hp with ⟨rfl, rfl⟩ | ⟨rfl, rfl⟩
    · rfl
    · rw [f] at hs; cases hs
theorem su_three {a b c : Str} (f1 : PyProof.Rows.sortedS [a, c, b] = false) (f2 : PyProof.Rows.sortedS [b, a, c] = false) (f3 : PyProof.Rows.sortedS [b, c, a] = false) (f4 : PyProof.Rows.sortedS [c, a, b] = false) (f5 : PyProof.Rows.sortedS [c, b, a] = false) : SU [a, b, c] := fun ys hp hs => by
  have hl := hp.length_eq
  match ys, hl with
  | [p, q, r], _ =>
    have hq : p ∈ [a, b, c] := hp.mem_iff.mp (by simp)
    simp at hq
    rcases hq with e | e | e
    · subst e
      rcases two_perm ((List.perm_cons p).mp hp) with ⟨rfl, rfl⟩ | ⟨rfl, rfl⟩
      · rfl
      · rw [f1] at hs; cases hs
    · subst e
      rcases two_perm ((List.perm_cons p).mp (hp.trans (List.Perm.swap p a [c]))) with ⟨rfl, rfl⟩ | ⟨rfl, rfl⟩
      · rw [f2] at hs; cases hs
      · rw [f3] at hs; cases hs
    · subst e
      rcases two_perm ((List.perm_cons p).mp (hp.trans (((List.Perm.swap p b []).cons a).trans (List.Perm.swap p a [b])))) with ⟨rfl, rfl⟩ | ⟨rfl, rfl⟩
      · rw [f4] at hs; cases hs
      · rw [f5] at hs; cases hs
theorem su_abc {k : Nat} (h : k < 3) : SU (abc.take (k + 1)) := by
  match k, h with
  | 0, _ => exact su_one "a"
  | 1, _ => exact su_two (by decide +kernel)
  | 2, _ => exact su_three (by decide +kernel) (by decide +kernel) (by decide +kernel) (by decide +kernel) (by decide +kernel)
theorem su_xyz {k : Nat} (h : k < 3) : SU (xyz.take (k + 1)) := by
  match k, h with
  | 0, _ => exact su_one "x"
  | 1, _ => exact su_two (by decide +kernel)
  | 2, _ => exact su_three (by decide +kernel) (by decide +kernel) (by decide +kernel) (by decide +kernel) (by decide +kernel)
theorem heavy_nil {names : List Str} {wt : Str → Int} : heavy names wt [] = 0 := by
  unfold heavy
  have h0 : sumI names (fun _ : Str => (0 : Int)) = 0 := by rw [sumI_const]; simp
  rw [← h0]; exact sumI_congr fun a _ => by simp
theorem heavy_two {names : List Str} {wt : Str → Int} {x y : Str} : heavy names wt [x, y] = heavy names wt [x] + heavy names wt [y] := by
  unfold heavy
  rw [← sumI_add]
  refine sumI_congr fun a _ => ?_
  have : [x, y].count a = [x].count a + [y].count a := by rw [← List.count_append]; rfl
  rw [this, Int.natCast_add, Int.mul_add]
theorem heavy_in {names : List Str} {wt : Str → Int} {x : Str} (nd : names.Nodup) (h : x ∈ names) : heavy names wt [x] = wt x := by
  unfold heavy
  have h0 : sumI names (fun _ : Str => (0 : Int)) = 0 := by rw [sumI_const]; simp
  rw [sumI_one nd h (f := fun _ => 0), h0]
  · simp
  · intro a ha
    have : [x].count a = 0 := by rw [List.count_singleton, if_neg (by simpa using Ne.symm ha)]
    rw [this]; simp
theorem heavy_out {names : List Str} {wt : Str → Int} {x : Str} (h : x ∉ names) : heavy names wt [x] = 0 := by
  unfold heavy
  have h0 : sumI names (fun _ : Str => (0 : Int)) = 0 := by rw [sumI_const]; simp
  rw [← h0]; exact sumI_congr fun a ha => by
    have : [x].count a = 0 := by rw [List.count_singleton, if_neg (by simpa using fun e : x = a => h (e ▸ ha))]
    rw [this]; simp
theorem costs_perm {names : List Str} {wt : Str → Int} {w : Int} {ds es : List (List Str)} (h : ds.Perm es) : costs names wt w ds = costs names wt w es := by
  induction h with
  | nil => rfl
  | cons a _ ih => rw [costs_cons, costs_cons, ih]
  | swap a b l => rw [costs_cons, costs_cons, costs_cons, costs_cons]; omega
  | trans _ _ h1 h2 => rw [h1, h2]
theorem costs_two {names : List Str} {wt : Str → Int} {w b : Int} (hb : 0 ≤ b) {ds : List (List Str)} (hl : ds.length ≤ 2) (h : ∀ d ∈ ds, cost names wt w d ≤ b) : costs names wt w ds ≤ 2 * b := by
  match ds, hl with
  | [], _ => show (0 : Int) ≤ _; omega
  | [d], _ => have := h d (by simp); rw [costs_cons]; show _ + (0 : Int) ≤ _; omega
  | [d, e], _ => have := h d (by simp); have := h e (by simp); rw [costs_cons, costs_cons]; show _ + (_ + (0 : Int)) ≤ _; omega
section
variable {D : Nd} (L : NetLaw D)
include L
theorem NetLaw.apart : ∀ n ∈ D.N.names, n ∉ D.outs := fun n hn ho => by
  obtain ⟨k, _, e1⟩ := L.nk
  obtain ⟨j, _, e2⟩ := L.no
  rw [e1] at hn; rw [e2] at ho
  have h : ∀ n ∈ abc, n ∉ xyz := by decide +kernel
  exact h n (List.mem_of_mem_take hn) (List.mem_of_mem_take ho)
theorem NetLaw.nd : D.N.names.Nodup := by
  obtain ⟨k, _, e1⟩ := L.nk
  rw [e1]
  exact List.Nodup.sublist (List.take_sublist _ _) (by decide +kernel : abc.Nodup)
theorem NetLaw.ond : D.outs.Nodup := by
  obtain ⟨k, _, e1⟩ := L.no
  rw [e1]
  exact List.Nodup.sublist (List.take_sublist _ _) (by decide +kernel : xyz.Nodup)
theorem NetLaw.few : D.N.names.length ≤ 3 ∧ 1 ≤ D.N.names.length := by
  obtain ⟨k, _, e1⟩ := L.nk
  rw [e1, List.length_take]
  have : abc.length = 3 := rfl
  omega
theorem NetLaw.fewo : D.outs.length ≤ 3 ∧ 1 ≤ D.outs.length := by
  obtain ⟨k, _, e1⟩ := L.no
  rw [e1, List.length_take]
  have : xyz.length = 3 := rfl
  omega
theorem NetLaw.su : SU D.N.names ∧ SU D.ins ∧ SU D.outs := by
  obtain ⟨k, hk, e1⟩ := L.nk
  obtain ⟨j, hj, e2⟩ := L.no
  refine ⟨by rw [e1]; exact su_abc hk, ?_, by rw [e2]; exact su_xyz hj⟩
  rcases L.ins with e | e
  · rw [e]; exact su_one _
  · rw [e]; exact su_two (by decide +kernel)
theorem NetLaw.ine : D.ins ≠ [] := by rcases L.ins with e | e <;> (rw [e]; intro h; cases h)
theorem NetLaw.knot {n : Str} (hn : n ∈ D.N.names) : ∃ at_, D.N.names[at_]? = some n ∧ KnotLaw D.N.names D.outs at_ (D.N.kn n) := by
  obtain ⟨i, hi⟩ := List.mem_iff_getElem?.mp hn
  exact ⟨i, hi, L.kn i n hi⟩
omit L in
theorem DropLaw.sub {names outs : List Str} {at_ : Nat} {d : List Str} (h : DropLaw names outs at_ d) : d.length ≤ 4 ∧ ∀ t ∈ d, t ∈ names ++ outs := by
  rcases h with rfl | ⟨a, b, ha, hb, rfl⟩ | ⟨a, ha, rfl⟩
  · exact ⟨by simp, fun t h => nomatch h⟩
  · refine ⟨by simp, fun t h => ?_⟩
    have up : ∀ x, x ∈ names.drop (at_ + 1) ++ outs → x ∈ names ++ outs := fun x hx => (List.mem_append.mp hx).elim (fun h => List.mem_append_left _ (List.mem_of_mem_drop h)) (fun h => List.mem_append_right _ h)
    simp at h
    rcases h with rfl | rfl
    · exact up _ ha
    · exact up _ hb
  · exact ⟨by simp, fun t h => by simp at h; subst h; exact ha⟩
theorem NetLaw.tgt : ∀ n ∈ D.N.names, ∀ d ∈ (D.N.kn n).rows, d.length ≤ 4 ∧ ∀ t ∈ d, t ∈ D.N.names ++ D.outs := fun n hn d hd => by
  obtain ⟨i, hi, kl⟩ := L.knot hn
  obtain ⟨ds, last, t0, h2, hds, hlast, hp, htu⟩ := kl.tu
  have one : ∀ x, x ∈ D.N.names ++ D.outs → [x].length ≤ 4 ∧ ∀ t ∈ [x], t ∈ D.N.names ++ D.outs := fun x hx => ⟨by simp, fun t h => by simp at h; subst h; exact hx⟩
  have h0 : ∀ d ∈ t0, d.length ≤ 4 ∧ ∀ t ∈ d, t ∈ D.N.names ++ D.outs := fun d hd => by
    rcases List.mem_append.mp (hp.mem_iff.mp hd) with h | h
    · exact (hds d h).sub
    · simp at h; subst h
      rcases hlast with rfl | ⟨o, ho, rfl⟩
      · exact ⟨by simp, fun t h => nomatch h⟩
      · exact one o (List.mem_append_right _ ho)
  rcases List.mem_append.mp hd with h | h
  · exact (kl.fd d h).sub
  · rcases htu with ⟨n1, o, e1, ho, e⟩ | ⟨_, e⟩
    · rw [e] at h
      rcases List.mem_append.mp h with h | h
      · exact h0 d h
      · simp at h
        rcases h with rfl | rfl
        · exact one n1 (List.mem_append_left _ (List.mem_of_getElem? e1))
        · exact one o (List.mem_append_right _ ho)
    · rw [e] at h; exact h0 d h
theorem NetLaw.turn5 {n : Str} (hn : n ∈ D.N.names) : (D.N.kn n).turn ≠ [] ∧ (D.N.kn n).len ≤ 7 := by
  obtain ⟨i, hi, kl⟩ := L.knot hn
  obtain ⟨ds, last, t0, h2, hds, hlast, hp, htu⟩ := kl.tu
  have hl := hp.length_eq
  rw [List.length_append, List.length_singleton] at hl
  have hf := kl.fl
  have hL := (D.N.kn n).len_eq
  rcases htu with ⟨n1, o, e1, ho, e⟩ | ⟨_, e⟩
  · have h1 : (D.N.kn n).turn.length = t0.length + 2 := by rw [e]; simp
    exact ⟨fun z => by rw [z] at h1; simp at h1, by omega⟩
  · have h1 : (D.N.kn n).turn.length = t0.length := by rw [e]
    exact ⟨fun z => by rw [z] at h1; simp at h1; omega, by omega⟩
theorem NetLaw.ok : D.Ok where
  nd := L.nd
  indd := by rcases L.ins with e | e <;> (rw [e]; decide +kernel)
  ond := L.ond
  few := by have := L.few; omega
  fewi := by rcases L.ins with e | e <;> (rw [e]; decide)
  fewo := by have := L.fewo; omega
  ne := fun z => by have := L.few; rw [z] at this; simp at this
  apart := L.apart
  aparti := fun i hi hn => by
    obtain ⟨k, _, e1⟩ := L.nk
    rw [e1] at hn
    have h : ∀ n ∈ (["in", "other"] : List Str), n ∉ abc := by decide +kernel
    refine h i ?_ (List.mem_of_mem_take hn)
    rcases L.ins with e | e
    · rw [e] at hi; simp at hi; subst hi; simp
    · rw [e] at hi; exact hi
  inl := L.inl
  tn := fun n hn => (L.turn5 hn).1
  len := fun n hn => by have := (L.turn5 hn).2; omega
  nm := fun n h => by
    have ha : ∀ n ∈ abc ++ xyz ++ ([("in" : Str), ("other" : Str)] : List Str), NameOk n := by
      intro n hn
      simp [abc, xyz] at hn
      rcases hn with rfl | rfl | rfl | rfl | rfl | rfl | rfl | rfl <;> exact ⟨by decide +kernel, by decide +kernel, by decide +kernel⟩
    refine ha n ?_
    obtain ⟨k, _, e1⟩ := L.nk
    obtain ⟨j, _, e2⟩ := L.no
    rcases h with h | h | h
    · rw [e1] at h; exact List.mem_append_left _ (List.mem_append_left _ (List.mem_of_mem_take h))
    · rw [e2] at h; exact List.mem_append_left _ (List.mem_append_right _ (List.mem_of_mem_take h))
    · refine List.mem_append_right _ ?_
      rcases L.ins with e | e
      · rw [e] at h; simp at h; subst h; simp
      · rw [e] at h; exact h
  apo := fun i hi hn => by
    obtain ⟨k, _, e1⟩ := L.no
    rw [e1] at hn
    have h : ∀ n ∈ (["in", "other"] : List Str), n ∉ xyz := by decide +kernel
    refine h i ?_ (List.mem_of_mem_take hn)
    rcases L.ins with e | e
    · rw [e] at hi; simp at hi; subst hi; simp
    · rw [e] at hi; exact hi
  tgt := L.tgt
end
def wtL (names : List Str) : Str → Int := fun n => 6 + names.length - idx names n
theorem NetLaw.fair {D : Nd} (L : NetLaw D) : Fair D.N (wtL D.N.names) := by
  have nd := L.nd
  have hf := L.few
  have hw : ∀ (i : Nat) (n : Str), D.N.names[i]? = some n → wtL D.N.names n = 6 + D.N.names.length - i ∧ i < D.N.names.length := fun i n h => by
    have h2 := (List.getElem?_eq_some_iff.mp h).1
    unfold wtL; rw [idx_at nd h]; exact ⟨rfl, h2⟩
  have hwm : ∀ n ∈ D.N.names, 7 ≤ wtL D.N.names n ∧ wtL D.N.names n ≤ 9 := fun n hn => by
    obtain ⟨i, hi⟩ := List.mem_iff_getElem?.mp hn
    have := hw i n hi
    omega
  have h1 : ∀ x, heavy D.N.names (wtL D.N.names) [x] ≤ 9 := fun x => by
    by_cases h : x ∈ D.N.names
    · rw [heavy_in nd h]; exact (hwm x h).2
    · rw [heavy_out h]; omega
  have ho : ∀ o ∈ D.outs, heavy D.N.names (wtL D.N.names) [o] = 0 := fun o h => heavy_out fun z => L.apart o z h
  have hd : ∀ (i : Nat) (n : Str), D.N.names[i]? = some n → ∀ x ∈ D.N.names.drop (i + 1) ++ D.outs, heavy D.N.names (wtL D.N.names) [x] ≤ wtL D.N.names n - 1 ∧ (D.N.names.length = i + 1 → heavy D.N.names (wtL D.N.names) [x] = 0) := fun i n hi x hx => by
    have w0 := hw i n hi
    rcases List.mem_append.mp hx with h | h
    · obtain ⟨j, hj⟩ := List.mem_iff_getElem?.mp h
      rw [List.getElem?_drop] at hj
      have w1 := hw _ x hj
      rw [heavy_in nd (List.mem_of_getElem? hj)]
      omega
    · rw [ho x h]; omega
  have hdl : ∀ (i : Nat) (n : Str), D.N.names[i]? = some n → ∀ d, DropLaw D.N.names D.outs i d → heavy D.N.names (wtL D.N.names) d ≤ 2 * (wtL D.N.names n - 1) ∧ (D.N.names.length = i + 1 → heavy D.N.names (wtL D.N.names) d ≤ 9) := fun i n hi d h => by
    have w0 := hw i n hi
    rcases h with rfl | ⟨a, b, ha, hb, rfl⟩ | ⟨a, ha, rfl⟩
    · rw [heavy_nil]; omega
    · rw [heavy_two]
      have p := hd i n hi a ha
      have q := hd i n hi b hb
      exact ⟨by omega, fun e => by rw [p.2 e, q.2 e]; omega⟩
    · have := h1 a; omega
  refine ⟨nd, hf.1, fun u hu => (L.turn5 hu).1, fun u hu => by have := hwm u hu; omega, fun u hu => (hwm u hu).2, fun u hu => (L.turn5 hu).2, fun u hu d hd' => ?_, fun u hu => ?_⟩
  · obtain ⟨i, hi, kl⟩ := L.knot hu
    obtain ⟨ds, last, t0, h2, hds, hlast, hp, htu⟩ := kl.tu
    have w0 := hwm u hu
    have h0 : ∀ d ∈ t0, heavy D.N.names (wtL D.N.names) d ≤ 18 := fun d hd => by
      rcases List.mem_append.mp (hp.mem_iff.mp hd) with h | h
      · have := (hdl i u hi d (hds d h)).1; omega
      · simp at h; subst h
        rcases hlast with rfl | ⟨o, _, rfl⟩
        · rw [heavy_nil]; omega
        · have := h1 o; omega
    rcases List.mem_append.mp hd' with h | h
    · have := (hdl i u hi d (kl.fd d h)).1; omega
    · rcases htu with ⟨n1, o, e1, _, e⟩ | ⟨_, e⟩
      · rw [e] at h
        rcases List.mem_append.mp h with h | h
        · exact h0 d h
        · simp at h
          rcases h with rfl | rfl
          · have := h1 n1; omega
          · have := h1 o; omega
      · rw [e] at h; exact h0 d h
  · obtain ⟨i, hi, kl⟩ := L.knot hu
    obtain ⟨ds, last, t0, h2, hds, hlast, hp, htu⟩ := kl.tu
    have w0 := hw i u hi
    have e0 : costs D.N.names (wtL D.N.names) (wtL D.N.names u) t0 = costs D.N.names (wtL D.N.names) (wtL D.N.names u) ds + (heavy D.N.names (wtL D.N.names) last - (wtL D.N.names u - 1)) := by
      rw [costs_perm hp, costs_append, costs_cons]; show _ + (_ + (0 : Int)) = _; unfold cost; omega
    have hl0 : heavy D.N.names (wtL D.N.names) last = 0 := by
      rcases hlast with rfl | ⟨o, h, rfl⟩
      · exact heavy_nil
      · exact ho o h
    rcases htu with ⟨n1, o, e1, hoo, e⟩ | ⟨e1, e⟩
    · have w1 := hw _ n1 e1
      have c2 := costs_two (names := D.N.names) (wt := wtL D.N.names) (w := wtL D.N.names u) (b := wtL D.N.names u - 1) (by omega) h2 fun d hd => by
        have := (hdl i u hi d (hds d hd)).1
        unfold cost; omega
      rw [e, costs_append, e0, costs_cons, costs_cons]
      have a1 : cost D.N.names (wtL D.N.names) (wtL D.N.names u) [n1] = 0 := by unfold cost; rw [heavy_in nd (List.mem_of_getElem? e1)]; omega
      have a2 : cost D.N.names (wtL D.N.names) (wtL D.N.names u) [o] = -(wtL D.N.names u - 1) := by unfold cost; rw [ho o hoo]; omega
      rw [a1, a2]
      show _ + (_ + (_ + (0 : Int))) ≤ 0
      omega
    · have hlen : D.N.names.length = i + 1 := by have := List.getElem?_eq_none_iff.mp e1; omega
      have c2 := costs_two (names := D.N.names) (wt := wtL D.N.names) (w := wtL D.N.names u) (b := 3) (by omega) h2 fun d hd => by
        have := (hdl i u hi d (hds d hd)).2 hlen
        unfold cost; omega
      rw [e, e0]; omega
theorem NetLaw.reach {D : Nd} (L : NetLaw D) : Reach D := fun F C => by
  have h : ∀ (i : Nat) (n : Str), D.N.names[i]? = some n → n ∈ F := by
    intro i
    induction i with
    | zero =>
      intro n hn
      have e := hn.symm.trans L.top
      cases e
      refine (C.inl ("in" : Str) ?_).elim (fun h => h) (fun h => nomatch h)
      rcases L.ins with e | e <;> (rw [e]; simp)
    | succ i ih =>
      intro n hn
      obtain ⟨m, hm⟩ : ∃ m, D.N.names[i]? = some m := ⟨_, List.getElem?_eq_getElem (by have := (List.getElem?_eq_some_iff.mp hn).1; omega)⟩
      have kl := L.kn i m hm
      obtain ⟨ds, last, t0, _, _, _, _, htu⟩ := kl.tu
      rcases htu with ⟨n1, o, e1, _, e⟩ | ⟨e1, _⟩
      · have e2 := hn.symm.trans e1
        cases e2
        exact (C.cl m (ih m hm) [n] (by rw [e]; simp) n (by simp) (List.mem_of_getElem? hn)).elim (fun h => h) (fun h => nomatch h)
      · rw [hn] at e1; cases e1
  intro n hn
  obtain ⟨i, hi⟩ := List.mem_iff_getElem?.mp hn
  exact h i n hi
theorem NetLaw.ends {D : Nd} (L : NetLaw D) : EndsAll D := fun st hst i hi => by
  rw [bb_one]; exact L.fair.least hst (L.inl i hi)
end Bc
end
section
set_option Elab.async false
set_option linter.all false
set_option maxRecDepth 100000
set_option maxHeartbeats 4000000
set_option pp.maxSteps 400
/-! The walk: a drawn net. -/
namespace Bc
open PySem L2
theorem ToldAt.dw {H H' : Hp} {t kd id ol dr sc : Addr} {D : Nd} {g : Str → V} (h : ToldAt H t kd id ol D g) (hd : ∃ n : Int, H dr = some (.lst [.ref sc, .int n])) (s : DwS dr sc H H') : ToldAt H' t kd id ol D g := by
  obtain ⟨n, e⟩ := hd
  refine ⟨s.1 _ _ (ne_of h.t e (by intro z; cases z)) h.t, s.1 _ _ (ne_of h.kd e (by intro z; cases z)) h.kd, fun n hn => (h.kn n hn).mono (s.1.ts e (fun xs z => nomatch z)), s.1 _ _ (ne_of h.id e (by intro z; cases z)) h.id, s.1 _ _ (ne_of h.ol e (fun z => ?_)) h.ol⟩
  have z := HO.lst.inj z
  match hl : D.outs with
  | [] => rw [hl] at z; cases z
  | a :: r => rw [hl] at z; cases z
def sp_law_net (K : PySem.W.Frag) : Sp := fun vs H Q _ => ∃ (dr sc : Addr) (ns : List Int), vs = [.ref dr, .int 3] ∧ DrawAt K H dr sc ns ∧ ∀ t kd id ol D g H', DwS dr sc H H' → ToldAt H' t kd id ol D g → NetLaw D → Q (.ref t) H'
theorem cut_take {xs : List V} {k : Int} {n : Nat} (h : k = (n : Nat)) (hn : n ≤ xs.length) : cutV xs none (some k) = xs.take n := by
  subst h
  unfold cutV
  rw [HT.sIx_nat, HT.sIx_none, Nat.min_eq_left hn, Nat.sub_zero]; rfl
section
variable {P : Program} {w : World} {K : PySem.W.Frag} {mg : Str → Option Value} {base : Heap}
theorem ok_law_net (T : Tx K mg) : FnOk P w K mg base CX0 6 T.law_net.f T.law_net.fd ["_law_draw", "_law_most"] (sp_law_net K) := by
  refine T.law_net.F.ok sc_law_net (fun vs H Q E h => ?_) (fun cdv A outer s H vs Q E hr h => ?_)
  · obtain ⟨dr, sc, ns, rfl, _⟩ := h; rfl
  · obtain ⟨dr, sc, ns, rfl, hd, k⟩ := h
    have nfd : ∀ {H' : Hp} {a : Addr}, DwS dr sc H H' → H' a = none → a ≠ dr := fun s h z => by subst z; obtain ⟨n, e⟩ := s.2; rw [h] at e; cases e
    refine ⟨_, (pss_cons (ps_set (i := 2) sc_law_net.nd rfl (.inl rfl) (pe_slice sl_list (pe_lst (pa_cons pe_str (pa_cons pe_str (pa_cons pe_str pa_nil)))) po_none (po_some (pe_op op_add pe_int (pe_call (ok_law_take T) (hr.mono (by decide)) rfl T.law_take.m T.law_take.F.kp T.law_take.b .nil pass0 (pa_cons (pv 0) (pa_cons pe_int pa_nil)))))))
      (pss_cons (ps_set (i := 3) sc_law_net.nd rfl (.inl rfl) (pe_slice sl_list (pe_lst (pa_cons pe_str (pa_cons pe_str (pa_cons pe_str (pa_cons pe_str (pa_cons pe_str pa_nil)))))) po_none (po_some (pe_op op_add pe_int (pe_call (ok_law_take T) (hr.mono (by decide)) rfl T.law_take.m T.law_take.F.kp T.law_take.b .nil pass0 (pa_cons (pv 0) (pa_cons (pv 1) pa_nil)))))))
      (pss_cons (ps_set (i := 4) sc_law_net.nd rfl (.inl rfl) pe_dnewK)
      (pss_cons (ps_for PassesOwn.never rfl (pi_enum rfl T.b_enumerate (pa_cons (pv 3) pa_nil)) (pg_tup rfl (pgs_cons (pg_name (i := 5) sc_law_net.nd rfl (.inl rfl)) (pgs_cons (pg_name (i := 6) sc_law_net.nd rfl (.inl rfl)) pgs_nil))) (pss_cons (ps_asg (pe_call (ok_law_rows T) (hr.mono (by decide)) rfl T.law_rows.m T.law_rows.F.kp T.law_rows.b .nil pass0 (pa_cons (pv 0) (pa_cons (pv 3) (pa_cons (pv 2) (pa_cons (pv 5) (pa_cons pe_int pa_nil)))))) (pg_tup rfl (pgs_cons (pg_name (i := 7) sc_law_net.nd rfl (.inl rfl)) (pgs_cons (pg_name (i := 8) sc_law_net.nd rfl (.inl rfl)) pgs_nil))))
        (pss_cons (ps_if (pt_cmpR op_lt (pe_op op_add (pv 5) pe_int) (pe_callB (id := "len") call_len_seq (by rfl) T.b_len PySem.boot_len (pa_cons (pv 3) pa_nil)) (nomark _)) (pss_one (ps_set (i := 8) sc_law_net.nd rfl (.inl rfl) (pe_op op_catA (pv 8) (pe_tup (pa_cons (pe_tup (pa_cons (pe_ix ix_list (pv 3) (pe_op op_add (pv 5) pe_int) (fun _ _ => rfl)) pa_nil)) (pa_cons (pe_tup (pa_cons (pe_ix ix_list (pv 2) pe_int (fun _ _ => rfl)) pa_nil)) pa_nil)))))) pss_nil)
        (pss_one (ps_dput (hu_of hr) (pv 4) (pv 6) (pe_tup (pa_cons (pv 7) (pa_cons (pv 8) pa_nil))) rfl)))))
      (pss_cons (ps_set (i := 9) sc_law_net.nd rfl (.inl rfl) (pe_disp (pps_cons pe_str (pe_ix ix_list (pv 3) pe_int (fun _ _ => rfl)) pps_nil) (by rfl) (by rfl) (fun z => by cases z) (by decide)))
      (pss_cons (ps_if (pt_cmpR op_eq (pe_call (ok_law_take T) (hr.mono (by decide)) rfl T.law_take.m T.law_take.F.kp T.law_take.b .nil pass0 (pa_cons (pv 0) (pa_cons pe_int pa_nil))) pe_int (nomark _)) (pss_one (ps_dput (hu_of hr) (pv 9) pe_str (pe_call (ok_law_pick T) (hr.mono (by decide)) rfl T.law_pick.m T.law_pick.F.kp T.law_pick.b .nil pass0 (pa_cons (pv 0) (pa_cons (pv 3) pa_nil))) rfl)) pss_nil)
      (pss_one (ps_ret (pe_tup (pa_cons (pv 4) (pa_cons (pv 9) (pa_cons (pv 2) pa_nil)))))))))))), ?_⟩
    -- outlets
    refine ⟨sz (by show 3 ≤ 100000; omega), fun l hl => ?_⟩
    have s1 := same_new (o := .lst [.str "x", .str "y", .str "z"]) hl
    have D1 := hd.dw s1
    have hl1 : upd H l (.lst [.str "x", .str "y", .str "z"]) l = some (.lst (xyz.map V.str)) := upd_same
    have nld := nfd (hd.dw (Same.refl H)) hl
    generalize upd H l (.lst [.str "x", .str "y", .str "z"]) = H1 at s1 D1 hl1 ⊢
    refine ⟨_, rfl, dr, sc, ns, 3, rfl, hd.step D1, by omega, fun j H2 j0 j3 D2 => ?_⟩
    have D02 := D1.trans D2
    refine ⟨_, _, rfl, rfl, _, rfl, l, _, rfl, SqL.of (D2.1 _ _ nld hl1), fun ol hol => ?_⟩
    rw [cut_take (n := (1 + j).toNat) (by omega) (by show _ ≤ 3; omega)]
    obtain ⟨jj, rfl⟩ : ∃ jj : Nat, j = (jj : Int) := ⟨j.toNat, by omega⟩
    have hjj : jj < 3 := by omega
    have ej : (1 + (jj : Int)).toNat = jj + 1 := by omega
    rw [ej, ← List.map_take]
    obtain ⟨outs, houts⟩ : ∃ outs, outs = xyz.take (jj + 1) := ⟨_, rfl⟩
    rw [← houts]
    have holen : outs.length ≤ 3 ∧ 1 ≤ outs.length := by rw [houts, List.length_take]; have : xyz.length = 3 := rfl; omega
    have hone : outs ≠ [] := fun z => by rw [z] at holen; simp at holen
    have D03 : DwS dr sc H (upd H2 ol (.lst (outs.map V.str))) := D02.same (same_new hol)
    have nod := nfd D02 hol
    have hol3 : upd H2 ol (.lst (outs.map V.str)) ol = some (.lst (outs.map V.str)) := upd_same
    generalize upd H2 ol (.lst (outs.map V.str)) = H3 at D03 hol3 ⊢
    -- names
    refine ⟨sz (by show 5 ≤ 100000; omega), fun l2 hl2 => ?_⟩
    have s4 := same_new (o := .lst [.str "a", .str "b", .str "c", .str "d", .str "e"]) hl2
    have hl4 : upd H3 l2 (.lst [.str "a", .str "b", .str "c", .str "d", .str "e"]) l2 = some (.lst [.str "a", .str "b", .str "c", .str "d", .str "e"]) := upd_same
    have D04 := D03.same s4
    have nl2d := nfd D03 hl2
    have hol4 := s4 _ _ hol3
    generalize upd H3 l2 (.lst [.str "a", .str "b", .str "c", .str "d", .str "e"]) = H4 at D04 hl4 hol4 ⊢
    refine ⟨_, rfl, _, rfl, dr, sc, ns, 3, rfl, hd.step D04, by omega, fun j2 H5 j20 j23 D5 => ?_⟩
    have D05 := D04.trans D5
    refine ⟨_, _, rfl, rfl, _, rfl, l2, _, rfl, SqL.of (D5.1 _ _ nl2d hl4), fun nl hnl => ?_⟩
    rw [cut_take (n := (1 + j2).toNat) (by omega) (by show _ ≤ 5; omega)]
    obtain ⟨kk, rfl⟩ : ∃ kk : Nat, j2 = (kk : Int) := ⟨j2.toNat, by omega⟩
    have hkk : kk < 3 := by omega
    have ek : (1 + (kk : Int)).toNat = kk + 1 := by omega
    rw [ek]
    have etk : List.take (kk + 1) [V.str "a", .str "b", .str "c", .str "d", .str "e"] = (abc.take (kk + 1)).map V.str := by
      match kk, hkk with
      | 0, _ => rfl
      | 1, _ => rfl
      | 2, _ => rfl
    rw [etk]
    obtain ⟨names, hnames⟩ : ∃ names, names = abc.take (kk + 1) := ⟨_, rfl⟩
    rw [← hnames]
    have hnlen : names.length ≤ 3 ∧ 1 ≤ names.length := by rw [hnames, List.length_take]; have : abc.length = 3 := rfl; omega
    have hnd : names.Nodup := by rw [hnames]; exact List.Nodup.sublist (List.take_sublist _ _) (by decide +kernel : abc.Nodup)
    have hol5 := D5.1 _ _ nod hol4
    have nnd := nfd D05 hnl
    have s6 := same_new (o := .lst (names.map V.str)) hnl
    have D06 := D05.same s6
    have hnl6 : upd H5 nl (.lst (names.map V.str)) nl = some (.lst (names.map V.str)) := upd_same
    have hol6 := s6 _ _ hol5
    generalize upd H5 nl (.lst (names.map V.str)) = H6 at D06 hnl6 hol6 ⊢
    -- knots
    refine fun kd hkd => ?_
    have hkdn := D06.free hkd
    have nkd := nfd D06 hkd
    have s7 := same_new (o := .dK []) hkd
    have D07 := D06.same s7
    have hkd7 : upd H6 kd (.dK []) kd = some (.dK (FD (names.take 0) fun _ => .non)) := upd_same
    have hnl7 := s7 _ _ hnl6
    have hol7 := s7 _ _ hol6
    generalize upd H6 kd (.dK []) = H7 at D07 hkd7 hnl7 hol7 ⊢
    refine ⟨_, rfl, nl, _, rfl, SqL.of hnl7, ?_⟩
    refine for_it walk_enum (fun i σ H' => ∃ x5 x6 x7 x8 g, ∃ kn : Str → Kn Str, σ = [some (.ref dr), some (.int 3), some (.ref ol), some (.ref nl), some (.ref kd), x5, x6, x7, x8, none] ∧ DwS dr sc H H' ∧ H' nl = some (.lst (names.map V.str)) ∧ H' ol = some (.lst (outs.map V.str)) ∧ H' kd = some (.dK (FD (names.take i) g)) ∧ (∀ n ∈ names.take i, KnotAt H' (g n) (kn n)) ∧ ∀ (at_ : Nat) (n : Str), at_ < i → names[at_]? = some n → KnotLaw names outs at_ (kn n))
      ⟨none, none, none, none, _, fun _ => ⟨[], []⟩, rfl, D07, hnl7, hol7, hkd7, (fun n h => by simp at h), fun a n h => by omega⟩ (by rintro i σ H' _ ⟨_, _, _, _, _, _, rfl, _, h, _⟩; exact SqL.of h) ?_ ?_
    · rintro i x σ H8 H9 hi ⟨x5, x6, x7, x8, g, kn, rfl, D8, hnl8, hol8, hkd8, hK, hL⟩ ⟨T', x', y', rfl, hT, rfl, hx, hy⟩
      have hx : some (V.int (i : Nat)) = some x' := hx
      cases hx
      have hy : (names.map V.str)[i]? = some y' := hy
      rw [List.getElem?_map] at hy
      cases et : names[i]? with
      | none => rw [et] at hy; cases hy
      | some n =>
      rw [et] at hy; cases hy
      have hin := (List.getElem?_eq_some_iff.mp et).1
      have t9 := same_new (o := .tup [.int (i : Nat), .str n]) hT
      have D9 := D8.same t9
      have hnl9 := t9 _ _ hnl8
      have hol9 := t9 _ _ hol8
      have hkd9 := t9 _ _ hkd8
      have hK9 : ∀ m ∈ names.take i, KnotAt (upd H8 T' (.tup [.int (i : Nat), .str n])) (g m) (kn m) := fun m hm => (hK m hm).mono (ts_of t9)
      have hT9 : upd H8 T' (.tup [.int (i : Nat), .str n]) T' = some (.tup [.int (i : Nat), .str n]) := upd_same
      refine ⟨T', _, rfl, SqT.of hT9, rfl, _, _, rfl, _, _, rfl, rfl, ?_⟩
      generalize upd H8 T' (.tup [.int (i : Nat), .str n]) = H9 at D9 hnl9 hol9 hkd9 hK9 ⊢
      have hnt : n ∉ names.take i := fun hm => by
        obtain ⟨j, hj⟩ := List.mem_iff_getElem?.mp hm
        have hji : j < i := by have := (List.getElem?_eq_some_iff.mp hj).1; rw [List.length_take] at this; omega
        rw [List.getElem?_take_of_lt hji] at hj
        have := get_inj hnd hj et
        omega
      have htk : names.take (i + 1) = names.take i ++ [n] := by rw [List.take_succ, et]; rfl
      refine ⟨_, rfl, _, rfl, _, rfl, _, rfl, dr, sc, ns, nl, ol, names, outs, i, rfl, hd.step D9, hnl9, hol9, nnd, nod, hone, by omega, by omega, fun t f tu kn' H10 D10 ht hf htu rl => ?_⟩
      have D010 := D9.trans D10
      have hnl10 := D10.1 _ _ nnd hnl9
      have hol10 := D10.1 _ _ nod hol9
      have hkd10 := D10.1 _ _ nkd hkd9
      have hK10 : ∀ m ∈ names.take i, KnotAt H10 (g m) (kn m) := fun m hm => (hK9 m hm).mono (DwS.ts (hd.step D9) D10)
      obtain ⟨ta, ds, rfl, hta, hpt⟩ := htu
      obtain ⟨ds0, last, hds2, hdd, hlo, hperm⟩ := rl.tu
      have hpl := Paired.length hpt
      have hperml := hperm.length_eq
      rw [List.length_append, List.length_singleton] at hperml
      refine ⟨t, _, rfl, SqT.of ht, rfl, _, _, rfl, _, _, rfl, rfl, ?_⟩
      -- the rest of a round
      have rest : ∀ (Dn : Ends) (H11 : Hp) (tv : V) (kt : Kn Str) (x5 x6 : Option V), (∀ σ' H', (∃ x5 x6 x7 x8 g, ∃ kn : Str → Kn Str, σ' = [some (.ref dr), some (.int 3), some (.ref ol), some (.ref nl), some (.ref kd), x5, x6, x7, x8, none] ∧ DwS dr sc H H' ∧ H' nl = some (.lst (names.map V.str)) ∧ H' ol = some (.lst (outs.map V.str)) ∧ H' kd = some (.dK (FD (names.take (i + 1)) g)) ∧ (∀ n ∈ names.take (i + 1), KnotAt H' (g n) (kn n)) ∧ ∀ (at_ : Nat) (n : Str), at_ < i + 1 → names[at_]? = some n → KnotLaw names outs at_ (kn n)) → Dn.nx σ' H') →
          Same H10 H11 → RowAt H11 tv kt.turn → kt.front = kn'.front → KnotLaw names outs i kt →
          sDPut (tVar 4) (tVar 6) (tTup (tCons (tVar 7) (tCons (tVar 8) tNil))) Dn [some (.ref dr), some (.int 3), some (.ref ol), some (.ref nl), some (.ref kd), x5, some (.str n), some f, some tv, none] H11 := by
        intro Dn H11 tv kt x5 x6 hD s11 htv hfr hkl
        refine ⟨_, rfl, _, rfl, sz (by show 2 ≤ 100000; omega), fun p hp => ⟨_, rfl, _, rfl, kd, _, rfl, .inl ⟨_, .inr n, same_new hp _ _ (s11 _ _ hkd10), rfl, (by rw [fd_len, List.length_take]; exact small1000 (by omega)), rfl⟩, ?_⟩⟩
        have s12 := s11.trans (same_new (o := .tup [f, tv]) hp)
        have hp12 : upd H11 p (.tup [f, tv]) p = some (.tup [f, tv]) := upd_same
        have hk12 := s12 _ _ hkd10
        have htv12 := htv.mono (ts_of (same_new (o := .tup [f, tv]) hp))
        generalize upd H11 p (.tup [f, tv]) = H12 at s12 hp12 hk12 htv12 ⊢
        rw [fd_snoc g hnt, fd_snoc_if hnt, ← htk]
        have u := ts_upd (o := .dK (FD (names.take (i + 1)) fun m => if m = n then V.ref p else g m)) hk12 (fun xs z => nomatch z)
        refine hD _ _ ⟨_, _, _, _, fun m => if m = n then V.ref p else g m, fun m => if m = n then kt else kn m, rfl, (D010.same s12).mut hkdn hd.2.1, (upd_ne (ne_of (s12 _ _ hnl10) hk12 (by intro z; cases z))).trans (s12 _ _ hnl10), (upd_ne (ne_of (s12 _ _ hol10) hk12 (by intro z; cases z))).trans (s12 _ _ hol10), upd_same, ?_, ?_⟩
        · intro m hm
          dsimp only
          by_cases em : m = n
          · subst em
            rw [if_pos rfl, if_pos rfl]
            exact ⟨p, f, tv, rfl, u _ _ hp12, by rw [hfr]; exact (hf.mono (ts_of s12)).mono u, htv12.mono u⟩
          · rw [if_neg em, if_neg em]
            rw [htk] at hm
            have hm : m ∈ names.take i := (List.mem_append.mp hm).elim (fun h => h) (fun h => absurd (by simpa using h) em)
            exact ((hK10 m hm).mono (ts_of s12)).mono u
        · intro a m ha hm
          dsimp only
          by_cases em : m = n
          · subst em
            rw [if_pos rfl]
            have := get_inj hnd hm et
            subst this; exact hkl
          · rw [if_neg em]
            refine hL a m ?_ hm
            have : a ≠ i := fun z => by subst z; rw [et] at hm; cases hm; exact em rfl
            omega
      refine ⟨_, rfl, _, _, rfl, rfl, _, rfl, nl, _, rfl, .inl (SqL.of hnl10), _, _, rfl, rfl, _, rfl, ?_⟩
      refine ite2 (fun hc => ?_) (fun hc => ?_)
      · have hc : (i : Int) + 1 < ((names.map V.str).length : Nat) := of_decide_eq_true hc
        rw [List.length_map] at hc
        obtain ⟨n1, hn1⟩ : ∃ n1, names[i + 1]? = some n1 := ⟨_, List.getElem?_eq_getElem (by omega)⟩
        obtain ⟨o0, ho0⟩ : ∃ o0, outs[0]? = some o0 := ⟨_, List.getElem?_eq_getElem (by omega)⟩
        have hat1 : atI (names.map V.str) ((i : Int) + 1) = some (.str n1) := by
          have : (i : Int) + 1 = ((i + 1 : Nat) : Int) := by omega
          rw [this]; exact atI_nat (by rw [List.getElem?_map, hn1]; rfl)
        refine ⟨_, rfl, _, rfl, _, rfl, _, _, rfl, rfl, nl, _, _, .str n1, rfl, rfl, SqL.of hnl10, hat1, sz (by show 1 ≤ 100000; omega), fun a1 ha1 => ?_⟩
        have t1 := same_new (o := .tup [.str n1]) ha1
        refine ⟨_, rfl, ol, _, _, .str o0, rfl, rfl, SqL.of (t1 _ _ hol10), atI_nat (j := 0) (by rw [List.getElem?_map, ho0]; rfl), sz (by show 1 ≤ 100000; omega), fun a2 ha2 => ?_⟩
        have t2 := same_new (o := .tup [.str o0]) ha2
        refine ⟨sz (by show 2 ≤ 100000; omega), fun a3 ha3 => ?_⟩
        have t3 := same_new (o := .tup [.ref a1, .ref a2]) ha3
        have t13 := (t1.trans t2).trans t3
        have A1 : upd (upd (upd H10 a1 (.tup [.str n1])) a2 (.tup [.str o0])) a3 (.tup [.ref a1, .ref a2]) a1 = some (.tup [.str n1]) := t3 _ _ (t2 _ _ upd_same)
        have A2 : upd (upd (upd H10 a1 (.tup [.str n1])) a2 (.tup [.str o0])) a3 (.tup [.ref a1, .ref a2]) a2 = some (.tup [.str o0]) := t3 _ _ upd_same
        have A3 : upd (upd (upd H10 a1 (.tup [.str n1])) a2 (.tup [.str o0])) a3 (.tup [.ref a1, .ref a2]) a3 = some (.tup [.ref a1, .ref a2]) := upd_same
        generalize upd (upd (upd H10 a1 (.tup [.str n1])) a2 (.tup [.str o0])) a3 (.tup [.ref a1, .ref a2]) = H11 at t13 A1 A2 A3 ⊢
        refine ⟨ta, a3, ds, _, rfl, rfl, SqT.of (t13 _ _ hta), SqT.of A3, sz (by show ds.length + 2 ≤ 100000; omega), (fun z => by subst z; simp at hpl; omega), (fun _ z => by cases z), fun _ _ p hp => ?_⟩
        have s4 := same_new (o := .tup (ds ++ [.ref a1, .ref a2])) hp
        refine rest _ _ (.ref p) ⟨kn'.front, kn'.turn ++ [[n1], [o0]]⟩ _ none (fun σ' H' h => h) (t13.trans s4) ⟨p, _, rfl, upd_same, ?_⟩ rfl ⟨rl.fl, rl.fd, ds0, last, kn'.turn, hds2, hdd, hlo, hperm, .inl ⟨n1, o0, hn1, List.mem_of_getElem? ho0, rfl⟩⟩
        exact Paired.appP (Paired.mapP hpt fun _ _ q => q.mono (ts_of (t13.trans s4))) (.cons ⟨a1, rfl, s4 _ _ A1⟩ (.cons ⟨a2, rfl, s4 _ _ A2⟩ .nil))
      · have hc : ¬ (i : Int) + 1 < ((names.map V.str).length : Nat) := fun z => hc (decide_eq_true z)
        rw [List.length_map] at hc
        exact rest _ _ (.ref ta) kn' _ none (fun σ' H' h => h) (Same.refl H10) ⟨ta, ds, rfl, hta, hpt⟩ rfl ⟨rl.fl, rl.fd, ds0, last, kn'.turn, hds2, hdd, hlo, hperm, .inr ⟨List.getElem?_eq_none_iff.mpr (by omega), rfl⟩⟩
    · rintro σ H8 ⟨x5, x6, x7, x8, g, kn, rfl, D8, hnl8, hol8, hkd8, hK, hL⟩
      rw [List.length_map] at hkd8 hK hL
      rw [List.take_length] at hkd8 hK
      have hKL : ∀ at_ n, names[at_]? = some n → KnotLaw names outs at_ (kn n) := fun a n h => hL a n (List.getElem?_eq_some_iff.mp h).1 h
      obtain ⟨n0, hn0⟩ : ∃ n0, names[0]? = some n0 := ⟨_, List.getElem?_eq_getElem (by omega)⟩
      have hn0m := List.mem_of_getElem? hn0
      refine fun id hid => ⟨_, rfl, nl, _, _, .str n0, rfl, rfl, SqL.of (same_new hid _ _ hnl8), atI_nat (j := 0) (by rw [List.getElem?_map, hn0]; rfl), upd_same, [(.inr "in", .str n0)], rfl, by show 1 ≤ 15; omega, ?_⟩
      rw [upd_upd]
      have s9 := same_new (o := .dK (mergeK [] [(.inr "in", .str n0)])) hid
      have hid9 : upd H8 id (.dK (mergeK [] [(.inr "in", .str n0)])) id = some (.dK (FD [("in" : Str)] fun _ => .str n0)) := upd_same
      have D9 := D8.same s9
      have hkd9 := s9 _ _ hkd8
      have hnl9 := s9 _ _ hnl8
      have hol9 := s9 _ _ hol8
      have nidd := nfd D8 hid
      have hidn := D8.free hid
      have hK9 : ∀ n ∈ names, KnotAt (upd H8 id (.dK (mergeK [] [(.inr "in", .str n0)]))) (g n) (kn n) := fun n hn => (hK n hn).mono (ts_of s9)
      generalize upd H8 id (.dK (mergeK [] [(.inr "in", .str n0)])) = H9 at D9 hkd9 hnl9 hol9 hid9 hK9 ⊢
      refine ⟨_, rfl, dr, sc, ns, 2, rfl, hd.step D9, by omega, fun c H10 c0 c1 D10 => ?_⟩
      have D010 := D9.trans D10
      have hd10 := hd.step D010
      have hkd10 := D10.1 _ _ nkd hkd9
      have hnl10 := D10.1 _ _ nnd hnl9
      have hol10 := D10.1 _ _ nod hol9
      have hid10 := D10.1 _ _ nidd hid9
      have hK10 : ∀ n ∈ names, KnotAt H10 (g n) (kn n) := fun n hn => (hK9 n hn).mono (DwS.ts (hd.step D9) D10)
      have fin : ∀ (H11 : Hp) (ins : List Str) (inl : Str → Str), DwS dr sc H H11 → H11 kd = some (.dK (FD names g)) → H11 ol = some (.lst (outs.map V.str)) → H11 id = some (.dK (FD ins fun i => .str (inl i))) → (∀ n ∈ names, KnotAt H11 (g n) (kn n)) → (ins = ([("in" : Str)] : List Str) ∨ ins = ([("in" : Str), ("other" : Str)] : List Str)) → names[0]? = some (inl ("in" : Str)) → (∀ i ∈ ins, inl i ∈ names) →
          ∀ t, H11 t = none → Q (.ref t) (upd H11 t (.tup [.ref kd, .ref id, .ref ol])) := by
        intro H11 ins inl D11 e1 e2 e3 e4 e5 e6 e7 t ht
        have s := same_new (o := .tup [.ref kd, .ref id, .ref ol]) ht
        exact k t kd id ol ⟨⟨names, kn⟩, ins, inl, outs⟩ g _ (D11.same s) ⟨upd_same, s _ _ e1, fun n hn => (e4 n hn).mono (ts_of s), s _ _ e3, s _ _ e2⟩ ⟨⟨kk, hkk, hnames⟩, ⟨jj, hjj, houts⟩, hKL, e5, e6, e7⟩
      refine ⟨rfl, _, rfl, ite2 (fun _ => ?_) (fun _ => ?_)⟩
      · refine ⟨_, rfl, _, rfl, dr, sc, ns, nl, _, rfl, hd10, hnl10, nnd, (fun z => by have h := List.map_eq_nil_iff.mp z; rw [h] at hnlen; simp at hnlen), fun v hv H11 D11 => ?_⟩
        obtain ⟨m, hm, rfl⟩ := List.mem_map.mp hv
        have hid11 := D11.1 _ _ nidd hid10
        have hkd11 := D11.1 _ _ nkd hkd10
        have hol11 := D11.1 _ _ nod hol10
        have t11 := DwS.ts hd10 D11
        refine ⟨_, rfl, id, _, rfl, .inl ⟨_, .inr "other", hid11, rfl, (by rw [fd_len]; exact small1000 (by show 1 ≤ 1000; omega)), rfl⟩, ?_⟩
        refine ⟨_, rfl, _, rfl, _, rfl, sz (by show 3 ≤ 100000; omega), ?_⟩
        have nik : kd ≠ id := fun e => by subst e; rw [hkd8] at hid; cases hid
        refine fin _ ([("in" : Str), ("other" : Str)] : List Str) (fun i => if i = ("other" : Str) then m else n0) ((D010.trans D11).mut hidn hd.2.1) ((upd_ne nik).trans hkd11) ((upd_ne (ne_of hol11 hid11 (by intro z; cases z))).trans hol11) upd_same (fun n hn => ((hK10 n hn).mono t11).mono (ts_upd hid11 (fun xs z => nomatch z))) (.inr rfl) hn0 (fun i hi => ?_)
        by_cases e : i = ("other" : Str)
        · simp [e]; exact hm
        · simp [e]; exact hn0m
      · exact ⟨_, rfl, _, rfl, _, rfl, sz (by show 3 ≤ 100000; omega), fin _ ([("in" : Str)] : List Str) (fun _ => n0) D010 hkd10 hol10 hid10 hK10 (.inl rfl) hn0 (fun i hi => hn0m)⟩
end
end Bc
end
section
set_option Elab.async false
set_option linter.all false
set_option maxRecDepth 100000
set_option maxHeartbeats 4000000
set_option pp.maxSteps 300
/-! What the law's own walk leans on. -/
namespace Bc
open PySem L2
section
variable {K : PySem.W.Frag} {dr sc : Addr} {ns : List Int} {H H' : Hp}
theorem DwS.keep {a : Addr} {o : HO} (s : DwS dr sc H H') (hd : DrawAt K H dr sc ns) (h : H a = some o) (hne : ∀ n, o ≠ .lst [.ref sc, .int n]) : H' a = some o := by
  obtain ⟨n, e⟩ := hd.2.1
  exact s.1 _ _ (fun z => by subst z; rw [e] at h; exact hne n (Option.some.inj h).symm) h
theorem SB.keep {x a : Addr} {u o : HO} (s : SB x H H') (hx : H x = some u) (h : H a = some o) (hne : o ≠ u) : H' a = some o :=
  s _ _ (fun z => by subst z; rw [hx] at h; exact hne (Option.some.inj h).symm) h
theorem strs_ne {xs : List Str} {n : Int} : HO.lst (xs.map V.str) ≠ .lst [.ref sc, .int n] := fun z => by
  match xs, HO.lst.inj z with
  | [], z => cases z
  | a :: r, z => cases z
theorem nats_ne {xs : List Nat} {n : Int} : HO.lst (xs.map fun x => V.int (x : Nat)) ≠ .lst [.ref sc, .int n] := fun z => by
  match xs, HO.lst.inj z with
  | [], z => cases z
  | a :: r, z => cases z
theorem refs_ne {β : Type} {C : Hp → List (Key × V) → β → Prop} {vs : List V} {o : List β} (h : Paired (DD C H) vs o) {n : Int} : HO.lst vs ≠ .lst [.ref sc, .int n] := fun z => by
  have z := HO.lst.inj z
  subst z
  match o, h with
  | _ :: _ :: _, .cons _ (.cons g _) => obtain ⟨a, k, e, _⟩ := g; cases e
theorem DwS.dd {β : Type} {C : Hp → List (Key × V) → β → Prop} (mo : ∀ H H' k b, TS H H' → C H k b → C H' k b) (hd : DrawAt K H dr sc ns) (s : DwS dr sc H H') {v : V} {b : β} (h : DD C H v b) : DD C H' v b := by
  obtain ⟨a, k, e, h1, h2⟩ := h
  exact ⟨a, k, e, s.keep hd h1 (fun n z => nomatch z), mo _ _ _ _ (DwS.ts hd s) h2⟩
theorem WaysAt.dw {CW q : Addr} {nms ins : List Str} {o : List (List Nat)} {rows : List (List (Nat × List Nat))} (hd : DrawAt K H dr sc ns) (s : DwS dr sc H H') (h : WaysAt CW H q nms ins o rows) : WaysAt CW H' q nms ins o rows := by
  obtain ⟨qx, sl, tl, vs, us, h1, h2, h3, h4, h5⟩ := h
  exact ⟨qx, sl, tl, vs, us, s.keep hd h1 (fun n z => nomatch z), s.keep hd h2 (fun n => refs_ne h3), Paired.mapP h3 fun v b h => s.dd (mCSt _) hd h, s.keep hd h4 (fun n => refs_ne h5), Paired.mapP h5 fun v b h => s.dd (mCRo _) hd h⟩
theorem NetU.dw {C p : Addr} {D : Nd} (hd : DrawAt K H dr sc ns) (s : DwS dr sc H H') (h : NetU C H p D) : NetU C H' p D := by
  obtain ⟨dx, kd, id, ot, nl, g, N, hid⟩ := h
  have hid' := s.keep hd hid (fun n z => nomatch z)
  exact ⟨dx, kd, id, ot, nl, g, ⟨s.keep hd N.ob (fun n z => nomatch z), s.keep hd N.kd (fun n z => nomatch z), fun n hn => (N.kn n hn).mono (DwS.ts hd s), .inl hid', s.keep hd N.ot (fun n z => nomatch z), s.keep hd N.nl (fun n => strs_ne)⟩, hid'⟩
end
section
variable {H H' : Hp} {sd : Addr} {D : Nd} {st : Str → Nat}
theorem kn_ne (ok : D.Ok) {g : Str → V} (hk : ∀ n ∈ D.N.names, KnotAt H (g n) (D.N.kn n)) : HO.dK (FD D.N.names g) ≠ .dK (FD D.N.names fun n => V.int (st n : Nat)) := fun z => by
  have h := HO.dK.inj z
  obtain ⟨n, hn⟩ := List.exists_mem_of_ne_nil _ ok.ne
  have h1 := fd_in (f := fun n => V.int (st n : Nat)) hn
  rw [← h, fd_in hn] at h1
  obtain ⟨a, _, _, e, _⟩ := hk n hn
  rw [e] at h1; cases h1
theorem in_ne (ok : D.Ok) : HO.dK (FD D.ins fun i => V.str (D.inl i)) ≠ .dK (FD D.N.names fun n => V.int (st n : Nat)) := fun z => fd_ne ok (fun x h => h) (HO.dK.inj z).symm
theorem ToldAt.sb {t kd id ol : Addr} {g : Str → V} (ok : D.Ok) (s : SB sd H H') (hsd : H sd = some (.dK (FD D.N.names fun n => .int (st n : Nat)))) (h : ToldAt H t kd id ol D g) : ToldAt H' t kd id ol D g :=
  ⟨s.keep hsd h.t (by intro z; cases z), s.keep hsd h.kd (kn_ne ok h.kn), fun n hn => (h.kn n hn).mono (s.ts hsd (fun xs z => nomatch z)), s.keep hsd h.id (in_ne ok), s.keep hsd h.ol (by intro z; cases z)⟩
theorem NetU.sb {C p : Addr} (ok : D.Ok) (s : SB sd H H') (hsd : H sd = some (.dK (FD D.N.names fun n => .int (st n : Nat)))) (h : NetU C H p D) : NetU C H' p D := by
  obtain ⟨dx, kd, id, ot, nl, g, N, hid⟩ := h
  have hid' := s.keep hsd hid (in_ne ok)
  exact ⟨dx, kd, id, ot, nl, g, ⟨s.keep hsd N.ob (by intro z; cases z), s.keep hsd N.kd (kn_ne ok N.kn), fun n hn => (N.kn n hn).mono (s.ts hsd (fun xs z => nomatch z)), .inl hid', s.keep hsd N.ot (by intro z; cases z), s.keep hsd N.nl (by intro z; cases z)⟩, hid'⟩
end
theorem folw_app (rows : List (List (Nat × List Nat))) (ins : List Str) : ∀ (a b : List Str) (n : Nat) (f : List Nat), folw rows ins (a ++ b) n f = folw rows ins b (folw rows ins a n f).1 (folw rows ins a n f).2
  | [], b, n, f => rfl
  | x :: a, b, n, f => folw_app rows ins a b _ _
theorem folw_fst (rows : List (List (Nat × List Nat))) (ins : List Str) : ∀ (a : List Str) (n : Nat) (f g : List Nat), (folw rows ins a n f).1 = (folw rows ins a n g).1
  | [], n, f, g => rfl
  | x :: a, n, f, g => folw_fst rows ins a _ _ _
theorem step_ok {rows : List (List (Nat × List Nat))} {ins : List Str} {m : Nat} (h : ∀ r ∈ rows, r.length = ins.length ∧ ∀ g ∈ r, g.1 < rows.length ∧ g.2.length = m) {n : Nat} (hn : n < rows.length) {x : Str} (hx : x ∈ ins) :
    (stepOf ins (rows.getD n []) x).1 < rows.length ∧ (stepOf ins (rows.getD n []) x).2.length = m := by
  have hrn : rows[n]? = some (rows.getD n []) := get_getD hn
  have hrm := List.mem_of_getElem? hrn
  unfold stepOf
  have hlt : ins.idxOf x < (rows.getD n []).length := by rw [(h _ hrm).1]; exact List.idxOf_lt_length_iff.mpr hx
  rw [List.getD, List.getElem?_eq_getElem hlt]
  exact (h _ hrm).2 _ (List.getElem_mem _)
theorem folw_lt {rows : List (List (Nat × List Nat))} {ins : List Str} {m : Nat} (h : ∀ r ∈ rows, r.length = ins.length ∧ ∀ g ∈ r, g.1 < rows.length ∧ g.2.length = m) : ∀ (a : List Str) (n : Nat) (f : List Nat), n < rows.length → (∀ x ∈ a, x ∈ ins) → (folw rows ins a n f).1 < rows.length
  | [], n, f, hn, _ => hn
  | x :: a, n, f, hn, hx => folw_lt h a _ _ (step_ok h hn (hx x List.mem_cons_self)).1 fun y hy => hx y (List.mem_cons_of_mem _ hy)
/-- the facts of all ways -/
structure BkF (D : Nd) (s0 : List Nat) (n : Nat) : Prop where
  pos : 0 < n
  nd : (bk (nx D) D.ins s0 n).1.Nodup
  rows : ∀ r ∈ (bk (nx D) D.ins s0 n).2, r.length = D.ins.length ∧ ∀ g ∈ r, g.1 < (bk (nx D) D.ins s0 n).2.length ∧ g.2.length = D.outs.length
theorem bkF {D : Nd} (ok : D.Ok) {s0 : List Nat} (hs0 : OkS D s0) {n : Nat} (E : BEnd (nx D) D.ins s0 n) : BkF D s0 n := by
  have h := bk_ok (nxt := nx D) (ins := D.ins) (P := OkS D) (PR := fun r => r.length = D.outs.length) (fun s a hs _ => nx_ok ok hs a) hs0 n
  refine ⟨Nat.pos_of_ne_zero fun z => ?_, h.nd, fun r hr => ⟨(h.rows r hr).1, fun g hg => ⟨?_, ((h.rows r hr).2 g hg).2⟩⟩⟩
  · subst z; have := E.fin; simp [bk] at this
  · have := ((h.rows r hr).2 g hg).1
    rw [E.len]; rw [E.fin] at this; exact this
theorem BkF.table {D : Nd} {s0 : List Nat} {n : Nat} (h : BkF D s0 n) : Table (bk (nx D) D.ins s0 n).2 D.ins.length := ⟨fun r hr => ⟨(h.rows r hr).1, fun g hg => ((h.rows r hr).2 g hg).1⟩⟩
theorem inV_nat (x : Nat) : ∀ l : List Nat, inV (.int (x : Nat)) (l.map fun y => V.int (y : Nat)) = decide (x ∈ l)
  | [] => by simp [inV]
  | y :: l => by
    have ih := inV_nat x l
    unfold inV at ih ⊢
    rw [List.map_cons, List.any_cons, ih]
    have : eqV (V.int (y : Nat)) (V.int (x : Nat)) = decide (y = x) := by
      show ((y : Int) == (x : Int)) = _
      by_cases h : y = x
      · subst h; simp
      · rw [decide_eq_false h]; exact beq_eq_false_iff_ne.mpr (by omega)
    rw [this]
    by_cases h : y = x
    · subst h; simp
    · simp [h, Ne.symm h]
theorem all_flat_nat (l : List Nat) : (l.map fun y => V.int (y : Nat)).all flatV = true := by simp [flatV]
theorem sh_pair (a : Int) (xs : List Nat) : SeqAt.shaped (.tuple [.int a, .tuple (xs.map fun x => PyData.int (x : Nat))]) = true := by
  have h := lay_flat (fun x : Nat => PyData.int (x : Nat)) xs fun x _ => by simp [PyData.canLay0]
  refine shaped_tup ?_ ?_
  · simp [PyData.canLayAll0, PyData.canLay0, h]
  · have e : PyData.depthAll (xs.map fun x => PyData.int (x : Nat)) = 0 := depth_flat _ (fun x => by simp [PyData.depth]) xs
    simp [PyData.depthAll, PyData.depth, e]
theorem eqv_pair (a : Int) (xs : List Nat) : PyData.eqv (.tuple [.int a, .tuple (xs.map fun x => PyData.int (x : Nat))]) (.tuple [.int a, .tuple (xs.map fun x => PyData.int (x : Nat))]) = true := by
  have h := eqv_nats xs xs
  simp [PyData.eqv, PyData.eqvAll, h]
theorem eqv_lstN (xs : List Int) : PyData.eqv (.list (xs.map PyData.int)) (.list (xs.map PyData.int)) = true := by
  show PyData.eqvAll _ _ = true
  induction xs with
  | nil => rfl
  | cons x xs ih =>
    show (PyData.eqv (.int x) (.int x) && PyData.eqvAll _ _) = true
    rw [ih]; simp [PyData.eqv]
theorem paired_refl {α : Type} {R : α → α → Prop} : ∀ l : List α, (∀ x ∈ l, R x x) → Paired R l l
  | [], _ => .nil
  | x :: l, h => .cons (h x List.mem_cons_self) (paired_refl l fun y hy => h y (List.mem_cons_of_mem _ hy))
theorem cut_last {xs : List V} : cutV xs none (some (-1)) = xs.take (xs.length - 1) := by
  unfold cutV
  have : HT.sIx xs.length xs.length (some (-1)) = xs.length - 1 := by
    have h : ((xs.length : Int) + -1).toNat = xs.length - 1 := by omega
    unfold HT.sIx
    simp
    omega
  rw [this, HT.sIx_none, Nat.sub_zero]; rfl
end Bc
end
section
set_option Elab.async false
set_option linter.all false
set_option maxRecDepth 100000
set_option maxHeartbeats 8000000
set_option pp.maxSteps 300
/-! The walk: the law. -/
namespace Bc
open PySem L2
def sp_law (K : PySem.W.Frag) : Sp := fun vs H Q _ => ∃ (sc : Addr) (ns : List Int), vs = [.ref sc] ∧ SqL K H sc (ns.map V.int) ∧ ∀ H', Q (.bl true) H'
theorem SqL.sbk {K : PySem.W.Frag} {H H' : Hp} {x a : Addr} {kvs : List (Key × V)} {xs : List V} (s : SB x H H') (hx : H x = some (.dK kvs)) (h : SqL K H a xs) : SqL K H' a xs := by
  rcases h with (h | ⟨o, h⟩) | h
  · exact .inl (.inl (s.keep hx h (by intro z; cases z)))
  · exact .inl (.inr ⟨o, s.keep hx h (by intro z; cases z)⟩)
  · exact .inr h
theorem cut_lo {xs : List V} {k : Nat} : cutV xs (some (k : Int)) none = xs.drop k := by
  unfold cutV
  rw [HT.sIx_nat, HT.sIx_none]
  by_cases h : k ≤ xs.length
  · rw [Nat.min_eq_left h, List.take_of_length_le (by rw [List.length_drop]; omega)]
  · rw [Nat.min_eq_right (by omega), List.drop_eq_nil_of_le (as := xs) (i := k) (by omega), Nat.sub_self]; simp
theorem cut_hi {xs : List V} {k : Nat} : cutV xs none (some (k : Int)) = xs.take k := by
  unfold cutV
  rw [HT.sIx_nat, HT.sIx_none, Nat.sub_zero]
  show xs.take (min k xs.length) = xs.take k
  by_cases h : k ≤ xs.length
  · rw [Nat.min_eq_left h]
  · rw [Nat.min_eq_right (by omega), List.take_of_length_le (by omega), List.take_of_length_le (by omega)]
section
variable {P : Program} {w : World} {K : PySem.W.Frag} {mg : Str → Option Value} {base : Heap}
theorem ok_law (T : Tx K mg) : FnOk P w K mg base CX0 9 T.law.f T.law.fd ["_law_script"] (sp_law K) := by
  refine T.law.F.ok sc_law (fun vs H Q E h => ?_) (fun cdv A outer s H vs Q E hr h => ?_)
  · obtain ⟨sc, ns, rfl, _⟩ := h; rfl
  · obtain ⟨sc, ns, rfl, hsc, k⟩ := h
    refine ⟨_, PSs.nox (pss_cons (ps_set (i := 1) sc_law.nd rfl (.inr rfl) (pe_lst (pa_cons (pv 0) (pa_cons pe_int pa_nil))))
      (pss_cons (ps_set (i := 2) sc_law.nd rfl (.inr rfl) (pe_call (ok_law_net T) (hr.mono (by decide)) rfl T.law_net.m T.law_net.F.kp T.law_net.b .nil pass0 (pa_cons (pv 1) (pa_cons pe_int pa_nil))))
      (pss_cons (ps_set (i := 3) sc_law.nd rfl (.inl rfl) (pe_make T.k_Net (ok_Net_init T) (hr.mono (by decide)) rfl T.m_Net T.Net_init.b .nil pass0 (pa_cons (pe_ix ix_tup (pv 2) pe_int (fun _ _ => rfl)) (pa_cons (pe_ix ix_tup (pv 2) pe_int (fun _ _ => rfl)) (pa_cons (pe_ix ix_tup (pv 2) pe_int (fun _ _ => rfl)) pa_nil)))))
      (pss_cons (ps_if (pt_not (pt_val (pe_call (ok_ends T) (hr.mono (by decide)) rfl T.ends.m T.ends.F.kp T.ends.b .nil pass0 (pa_cons (pv 3) pa_nil)))) (pss_one (ps_ret pe_bl)) pss_nil)
      (pss_cons (ps_set (i := 4) sc_law.nd rfl (.inl rfl) (pe_call (ok_law_start T) (hr.mono (by decide)) rfl T.law_start.m T.law_start.F.kp T.law_start.b .nil pass0 (pa_cons (pv 2) pa_nil)))
      (pss_cons (ps_for PassesOwn.never rfl (pi_range1 rfl T.b_range (pa_cons (pe_call (ok_law_take T) (hr.mono (by decide)) rfl T.law_take.m T.law_take.F.kp T.law_take.b .nil pass0 (pa_cons (pv 1) (pa_cons pe_int pa_nil))) pa_nil)) (pg_name (i := 5) sc_law.nd rfl (.inl rfl)) (pss_one (ps_expr (pe_call (ok_law_row T) (hr.mono (by decide)) rfl T.law_row.m T.law_row.F.kp T.law_row.b .nil pass0 (pa_cons (pv 2) (pa_cons (pv 4) (pa_cons (pe_dget (hu_of hr) (pe_ix ix_tup (pv 2) pe_int (fun _ _ => rfl)) pe_str (fun _ _ => rfl)) pa_nil)))))))
      (pss_cons (ps_set (i := 6) sc_law.nd rfl (.inl rfl) (pe_call (ok_law_all_ways T) (hr.mono (by decide)) rfl T.law_all_ways.m T.law_all_ways.F.kp T.law_all_ways.b .nil pass0 (pa_cons (pv 2) (pa_cons (pe_callTy (T := "dict") call_dictD rfl T.b_dict (by decide +kernel) (pa_cons (pv 4) pa_nil)) pa_nil))))
      (pss_cons (ps_if (pt_cmpR op_isN (pv 6) pe_non (nomark _)) (pss_one (ps_ret pe_bl)) pss_nil)
      (pss_cons (ps_set (i := 7) sc_law.nd rfl (.inl rfl) (pe_call (ok_ways T) (hr.mono (by decide)) rfl T.ways.m T.ways.F.kp T.ways.b .nil pass0 (pa_cons (pv 3) (pa_cons (pv 4) pa_nil))))
      (pss_cons (ps_if (PW.pt (pw_or (pt_cmpR (op_neLst hr.units) (pe_fld (pv 7) rfl) (pe_ix ix_tup (pv 6) pe_int (fun _ _ => rfl)) (nomark _)) (pw_or (pt_cmpR (op_neLst hr.units) (pe_fld (pv 7) rfl) (pe_ix ix_tup (pv 6) pe_int (fun _ _ => rfl)) (nomark _)) (pw_or (pt_cmpR op_ne (pe_callB (id := "len") (call_lenOwn (ok_Ways_len T) T.Ways_len.m.at_ T.Ways_len.m.fn T.Ways_len.b pass0 (hr.mono (by decide))) (by rfl) T.b_len PySem.boot_len (pa_cons (pv 7) pa_nil)) (pe_callB (id := "len") call_len_seq (by rfl) T.b_len PySem.boot_len (pa_cons (pe_ix ix_tup (pv 6) pe_int (fun _ _ => rfl)) pa_nil)) (nomark _)) (pw_or1 (pt_not (pt_val (pe_meth (pv 7) T.cl_Ways T.Ways_shows.m (ok_Ways_shows T) (hr.mono (by decide)) T.Ways_shows.b .nil pass0 (pa_cons (pv 3) (pa_cons (pv 4) pa_nil)))))))))) (pss_one (ps_ret pe_bl)) pss_nil)
      (pss_cons (ps_set (i := 8) sc_law.nd rfl (.inl rfl) (pe_call (ok_classes_of T) (hr.mono (by decide)) rfl T.classes_of.m T.classes_of.F.kp T.classes_of.b .nil pass0 (pa_cons (pv 7) pa_nil)))
      (pss_cons (ps_for PassesOwn.never rfl (pi_range1 rfl T.b_range (pa_cons pe_int pa_nil)) (pg_name (i := 5) sc_law.nd rfl (.inl rfl)) (pss_cons (ps_par (i := 9) (j := 10) rfl sc_law.nd rfl rfl (by decide) rfl rfl (pa_cons (pe_call (ok_law_take T) (hr.mono (by decide)) rfl T.law_take.m T.law_take.F.kp T.law_take.b .nil pass0 (pa_cons (pv 1) (pa_cons (pe_callB (id := "len") (call_lenOwn (ok_Ways_len T) T.Ways_len.m.at_ T.Ways_len.m.fn T.Ways_len.b pass0 (hr.mono (by decide))) (by rfl) T.b_len PySem.boot_len (pa_cons (pv 7) pa_nil)) pa_nil))) (pa_cons (pe_call (ok_law_take T) (hr.mono (by decide)) rfl T.law_take.m T.law_take.F.kp T.law_take.b .nil pass0 (pa_cons (pv 1) (pa_cons (pe_callB (id := "len") (call_lenOwn (ok_Ways_len T) T.Ways_len.m.at_ T.Ways_len.m.fn T.Ways_len.b pass0 (hr.mono (by decide))) (by rfl) T.b_len PySem.boot_len (pa_cons (pv 7) pa_nil)) pa_nil))) pa_nil)) (by rfl))
        (pss_cons (ps_set (i := 11) sc_law.nd rfl (.inl rfl) (pe_call (ok_law_first_apart T) (hr.mono (by decide)) rfl T.law_first_apart.m T.law_first_apart.F.kp T.law_first_apart.b .nil pass0 (pa_cons (pe_ix ix_tup (pv 6) pe_int (fun _ _ => rfl)) (pa_cons (pv 9) (pa_cons (pv 10) pa_nil)))))
        (pss_one (ps_if (PW.pt (pw_or (pt_cmpR (OpR.or (op_neLst hr.units) op_ne) (pe_call (ok_told_apart T) (hr.mono (by decide)) rfl T.told_apart.m T.told_apart.F.kp T.told_apart.b .nil pass0 (pa_cons (pv 7) (pa_cons (pv 9) (pa_cons (pv 10) pa_nil)))) (pv 11) (nomark _)) (pw_or1 (pt_cmpR op_ne (pe_cmpR op_eq (pe_ix ix_list (pv 8) (pv 9) (fun _ _ => rfl)) (pe_ix ix_list (pv 8) (pv 10) (fun _ _ => rfl)) (nomark _)) (pe_cmpR op_isN (pv 11) pe_non (nomark _)) (nomark _))))) (pss_one (ps_ret pe_bl)) pss_nil)))))
      (pss_cons (ps_set (i := 12) sc_law.nd rfl (.inl rfl) (pe_lst pa_nil))
      (pss_cons (ps_for PassesOwn.never rfl (pi_list (pv 8)) (pg_name (i := 13) sc_law.nd rfl (.inl rfl)) (pss_one (ps_if (pt_cmpR op_notIn_seq (pv 13) (pv 12) (by with_unfolding_all rfl)) (pss_one (ps_expr (pe_bm PySem.F.plainAttrs_list PySem.F.slot_list_append PySem.F.type_list_append mt_append (pv 12) (pa_cons (pv 13) pa_nil)))) pss_nil)))
      (pss_cons (ps_if (pt_cmpR (op_neD hr.units) (pv 12) (pe_listRg rfl rfl T.b_list (prg_1 rfl T.b_range (pe_callB (id := "len") call_len_seq (by rfl) T.b_len PySem.boot_len (pa_cons (pv 12) pa_nil)))) (nomark _)) (pss_one (ps_ret pe_bl)) pss_nil)
      (pss_cons (ps_par3 (i := 14) (j := 15) (l := 16) rfl sc_law.nd rfl rfl rfl (by decide) (by decide) (by decide) rfl rfl rfl (pa_cons pe_int (pa_cons (pe_lc (own := [("_law_turn", 5)]) rfl sc_law.nd (pi_range1 rfl T.b_range (pa_cons (pe_call (ok_law_take T) (hr.mono (by decide)) rfl T.law_take.m T.law_take.F.kp T.law_take.b .nil pass0 (pa_cons (pv 1) (pa_cons pe_int pa_nil))) pa_nil)) (blkOk_by (N := N_law) (sc := defScope s_law) (by decide +kernel)) (fun _ _ _ _ _ => pg_name (i := 5) sc_law.nd rfl (.inl rfl)) (fun _ _ _ _ _ => pts_nil) (fun _ _ _ _ _ => pe_call (ok_law_pick T) (hr.mono (by decide)) rfl T.law_pick.m T.law_pick.F.kp T.law_pick.b .nil pass0 (pa_cons (pv 1) (pa_cons (pe_callB (r := rSortedS K) (id := "sorted") (cr_sortedS) rfl T.b_sorted (by decide +kernel) (pa_cons (pe_callTy (T := "list") (call_listD rfl) rfl T.b_list (by decide +kernel) (pa_cons (pe_ix (r := rIxT K) ix_tup (pv 2) pe_int (fun _ _ => rfl)) pa_nil)) pa_nil)) pa_nil)))) (pa_cons (pe_op op_rep (pe_lst (pa_cons pe_int pa_nil)) (pe_callB (id := "len") call_len_seq (by rfl) T.b_len PySem.boot_len (pa_cons (pe_ix ix_tup (pv 2) pe_int (fun _ _ => rfl)) pa_nil))) pa_nil))) (by rfl))
      (pss_cons (ps_for PassesOwn.never rfl (pi_list (pv 15)) (pg_name (i := 17) sc_law.nd rfl (.inl rfl)) (pss_cons (ps_asg (pe_dget (hu_of hr) (pe_ix ix_list (pe_ix ix_tup (pv 6) pe_int (fun _ _ => rfl)) (pv 14) (fun _ _ => rfl)) (pv 17) (fun _ _ => rfl)) (pg_tup rfl (pgs_cons (pg_name (i := 14) sc_law.nd rfl (.inl rfl)) (pgs_cons (pg_name (i := 18) sc_law.nd rfl (.inl rfl)) pgs_nil))))
        (pss_one (ps_setLc (i := 16) (own := [("_law_one", 9), ("_law_more", 20)]) rfl sc_law.nd rfl rfl (sw_true rfl rfl rfl (by decide +kernel)) (pi_zipM rfl T.b_zip (pa_cons (pv 16) (pa_cons (pv 18) pa_nil))) (blkOk_by (N := N_law) (sc := defScope s_law) (by decide +kernel)) (fun _ _ _ _ _ => pg_tupK (K := K) (n := 2) rfl rfl (pgs_cons (pg_name (i := 9) sc_law.nd rfl (.inl rfl)) (pgs_cons (pg_name (i := 20) sc_law.nd rfl (.inl rfl)) pgs_nil))) (fun _ _ _ _ _ => pts_nil) (fun _ _ _ _ _ => pe_op op_add (pv 9) (pv 20))))))
      (pss_cons (ps_if (PW.pt (pw_or (pt_cmpR (op_neD hr.units) (pe_meth (pv 7) T.cl_Ways T.Ways_follow.m (ok_Ways_follow T) (hr.mono (by decide)) T.Ways_follow.b1 (.cons T.Ways_follow.rd .nil) pass0 (pa_cons (pv 15) pa_nil)) (pe_tup (pa_cons (pv 14) (pa_cons (pe_callTy (T := "tuple") (call_tuple_of) rfl T.b_tuple (by decide +kernel) (pa_cons (pv 16) pa_nil)) pa_nil))) (nomark _)) (pw_or1 (pt_cmpR op_ne (pe_ix ix_tup (pe_meth (pv 7) T.cl_Ways T.Ways_follow.m (ok_Ways_follow T) (hr.mono (by decide)) T.Ways_follow.b .nil pass0 (pa_cons (pe_callTy (T := "tuple") (call_tuple_of) rfl T.b_tuple (by decide +kernel) (pa_cons (pe_slice sl_list (pv 15) (po_some pe_int) po_none) pa_nil)) (pa_cons (pe_ix ix_tup (pe_meth (pv 7) T.cl_Ways T.Ways_follow.m (ok_Ways_follow T) (hr.mono (by decide)) T.Ways_follow.b1 (.cons T.Ways_follow.rd .nil) pass0 (pa_cons (pe_slice sl_list (pv 15) po_none (po_some pe_int)) pa_nil)) pe_int (fun _ _ => rfl)) pa_nil))) pe_int (fun _ _ => rfl)) (pv 14) (nomark _))))) (pss_one (ps_ret pe_bl)) pss_nil)
      (pss_cons (ps_set (i := 19) sc_law.nd rfl (.inl rfl) (pe_make T.k_Ways (ok_Ways_init T) (hr.mono (by decide)) rfl T.m_Ways T.Ways_init.b .nil pass0 (pa_cons (pe_slice sl_list (pe_fld (pv 7) rfl) po_none (po_some (pe_un un_neg pe_int))) (pa_cons (pe_slice sl_list (pe_fld (pv 7) rfl) po_none (po_some (pe_un un_neg pe_int))) pa_nil))))
      (pss_one (ps_ret (pe_and (pe_cmpR (op_eqOwn (ok_Ways_eq T) T.Ways_eq.m.at_ T.Ways_eq.m.fn T.Ways_eq.b pass0 (hr.mono (by decide))) (pe_make T.k_Ways (ok_Ways_init T) (hr.mono (by decide)) rfl T.m_Ways T.Ways_init.b .nil pass0 (pa_cons (pe_callTy (T := "tuple") (call_tuple_of) rfl T.b_tuple (by decide +kernel) (pa_cons (pe_fld (pv 7) rfl) pa_nil)) (pa_cons (pe_callTy (T := "tuple") (call_tuple_of) rfl T.b_tuple (by decide +kernel) (pa_cons (pe_fld (pv 7) rfl) pa_nil)) pa_nil))) (pv 7) (nomark _)) (pe_and (pe_not (pe_meth (pv 19) T.cl_Ways T.Ways_shows.m (ok_Ways_shows T) (hr.mono (by decide)) T.Ways_shows.b .nil pass0 (pa_cons (pv 3) (pa_cons (pv 4) pa_nil)))) (pe_one (pe_cmpR (op_neOwn (ok_Ways_eq T) T.Ways_eq.m.at_ T.ne_Ways T.kWays.mro T.Ways_eq.m.fn T.Ways_eq.b pass0 (hr.mono (by decide))) (pv 19) (pv 7) (nomark _)))))))))))))))))))))))))), ?_⟩
    -- the draw
    refine ⟨_, rfl, sz (by show 2 ≤ 100000; omega), fun dr hdr => ?_⟩
    have s1 := same_new (o := .lst [.ref sc, .int 0]) hdr
    have hd1 : DrawAt K (upd H dr (.lst [.ref sc, .int 0])) dr sc ns := ⟨trivial, ⟨0, upd_same⟩, s1.seq hsc⟩
    generalize upd H dr (.lst [.ref sc, .int 0]) = H1 at s1 hd1 ⊢
    -- told
    refine ⟨_, rfl, dr, sc, ns, rfl, hd1, fun t kd id ol D g H2 D2 TA2 L => ?_⟩
    have hd2 := hd1.step D2
    have ok := L.ok
    have su := L.su
    have h3 := L.few.1
    have hea := L.ends
    have hin := L.ine
    have hinm : ("in" : Str) ∈ D.ins := by rcases L.ins with e | e <;> (rw [e]; simp)
    -- the net
    refine ⟨_, rfl, t, _, _, _, rfl, rfl, SqT.of TA2.t, atI_0, _, rfl, t, _, _, _, rfl, rfl, SqT.of TA2.t, atI_1, _, rfl, t, _, _, _, rfl, rfl, SqT.of TA2.t, atI_2, fun p dx hp hdx npx => ?_⟩
    have s3 := same_pre (o1 := .own p) (o2 := .ins T.kNet.C dx []) (Same.refl H2) hp hdx
    have TA3 := TA2.mono s3
    refine ⟨p, dx, kd, id, ol, D, g, rfl, upd_same, TA3.kd, TA3.kn, TA3.id, TA3.ol, ok, hin, su.1, su.2.1, su.2.2, L.reach, fun H3 NU3 sb3 => ⟨rfl, ?_⟩⟩
    have s23 : Same H2 H3 := same_make (Same.refl H2) hp hdx sb3
    have TA3 := TA2.mono s23
    have hd3 := hd2.same s23
    -- ends
    refine ⟨_, rfl, p, D, rfl, NU3.at, ok, h3, fun H4 s34 => ?_⟩
    have TA4 := TA3.mono s34
    have NU4 := NU3.mono s34
    have hd4 := hd3.same s34
    refine ⟨_, rfl, ?_⟩
    refine ite2 (fun _ => k _) (fun he => ?_)
    have hends : endsB D = true := by cases e : endsB D with | true => rfl | false => rw [e] at he; exact absurd rfl he
    clear TA3 NU3 hd3 TA2 hd2
    -- standing
    refine ⟨_, rfl, t, kd, id, ol, D, g, rfl, TA4, ok, fun sd H5 hsd0 s45 hsd5 => ?_⟩
    have TA5 := TA4.mono s45
    have NU5 := NU4.mono s45
    have hd5 := hd4.same s45
    refine ⟨_, rfl, dr, sc, ns, 4, rfl, hd5, by omega, fun m H6 m0 m4 D6 => ?_⟩
    have TA6 := TA5.dw hd5.2.1 D6
    have NU6 := NU5.dw hd5 D6
    have hd6 := hd5.step D6
    have hsd6 := D6.keep hd5 hsd5 (fun n z => nomatch z)
    have key : ∀ (x5 : Option V) (s : List Nat) (Hx : Hp), ToldAt Hx t kd id ol D g → NetU T.kNet.C Hx p D → DrawAt K Hx dr sc ns → Hx sd = some (.dK (FD D.N.names fun n => .int (stf D.N.names s n : Nat))) → OkS D s → True := fun _ _ _ _ _ _ _ _ => trivial
    refine ⟨_, rfl, by omega, by omega, ?_⟩
    refine for_it (walk_range (lo := 0)) (fun i σ H' => ∃ (x5 : Option V) (s : List Nat), σ = [some (.ref sc), some (.ref dr), some (.ref t), some (.ref p), some (.ref sd), x5, none, none, none, none, none, none, none, none, none, none, none, none, none, none, none] ∧ ToldAt H' t kd id ol D g ∧ NetU T.kNet.C H' p D ∧ DrawAt K H' dr sc ns ∧ H' sd = some (.dK (FD D.N.names fun n => .int (stf D.N.names s n : Nat))) ∧ OkS D s)
      ⟨none, D.N.names.map fun _ => 0, rfl, TA6, NU6, hd6, ?_, ?_⟩ (fun i σ H' _ _ => trivial) ?_ ?_
    · rw [hsd6]
      exact congrArg (fun l => some (HO.dK l)) (fd_congr fun n hn => by rw [stf_map _ hn]; rfl)
    · refine ⟨by simp, fun n hn => ?_⟩
      rw [stf_map _ hn]
      have := ok.tn n hn
      have h1 := (D.N.kn n).len_eq
      have h2 := List.length_pos_iff.mpr this
      omega
    · rintro i x σ H7 H8 hi ⟨x5, s, rfl, TA7, NU7, hd7, hsd7, hs⟩ ⟨rfl, rfl⟩
      have hlc := leastC_ok (hea (stf D.N.names s) hs.lt "in" hinm)
      rw [bb_one] at hlc
      refine ⟨_, rfl, _, rfl, _, rfl, t, _, _, _, rfl, rfl, SqT.of TA7.t, atI_1, id, _, rfl, dget_in (.inl TA7.id) hinm, ?_⟩
      refine ⟨t, kd, id, ol, sd, D, g, stf D.N.names s, leastC D (stf D.N.names s) ["in"], D.inl "in", rfl, TA7, ok, su.2.2, hsd7, ok.inl _ hinm, hs.lt, hlc.1, hlc.2, fun r H9 sb9 hsd9 hr9 => ?_⟩
      obtain ⟨nd, hdr7⟩ := hd7.2.1
      refine ⟨some (.int (0 + i)), (nx D s "in").1, rfl, TA7.sb ok sb9 hsd7, NU7.sb ok sb9 hsd7, ⟨trivial, ⟨nd, sb9.keep hsd7 hdr7 (by intro z; cases z)⟩, ?_⟩, ?_, (nx_ok ok hs "in").1⟩
      · exact SqL.sbk sb9 hsd7 hd7.2.2
      · rw [hsd9]
        refine congrArg (fun l => some (HO.dK l)) (fd_congr fun n hn => ?_)
        show _ = V.int (stf D.N.names (D.N.names.map _) n : Nat)
        rw [stf_map _ hn]
    rintro σ H7 ⟨x5, s0, rfl, TA7, NU7, hd7, hsd7, hs0⟩
    clear TA6 NU6 hd6 hsd6 TA5 NU5 hd5 hsd5 key
    -- due
    refine ⟨_, rfl, _, rfl, sd, _, rfl, .inl hsd7, fun sd2 hsd2 => ?_⟩
    have s8 := same_new (o := .dK (FD D.N.names fun n => .int (stf D.N.names s0 n : Nat))) hsd2
    have hsd28 : upd H7 sd2 (.dK (FD D.N.names fun n => .int (stf D.N.names s0 n : Nat))) sd2 = some (.dK (FD D.N.names fun n => .int (stf D.N.names s0 n : Nat))) := upd_same
    have TA8 := TA7.mono s8
    have NU8 := NU7.mono s8
    have hd8 := hd7.same s8
    have hsd8 := s8 _ _ hsd7
    generalize upd H7 sd2 (.dK (FD D.N.names fun n => .int (stf D.N.names s0 n : Nat))) = H8 at s8 hsd28 TA8 NU8 hd8 hsd8 ⊢
    refine ⟨t, kd, id, ol, sd2, D, g, s0, rfl, TA8, ok, su.1, su.2.1, su.2.2, hin, hsd28, hs0, hea, fun H9 s9 => ?_, fun n du vs us so st H9 hE h250 s9 hdu hso hpv hst hpu => ?_⟩
    · exact ⟨_, rfl, rfl, true, congrArg V.bl (decide_eq_true rfl), iteT (k _)⟩
    refine ⟨_, rfl, rfl, false, congrArg V.bl (decide_eq_false (by intro z; cases z)), iteF ?_⟩
    have TA9 := TA8.mono s9
    have NU9 := NU8.mono s9
    have hd9 := hd8.same s9
    have hsd9 := s9 _ _ hsd8
    have B := bkF ok hs0 hE
    have hn0 := B.pos
    have hlo := hE.fin
    have hlr := hE.len
    have tb := B.table
    have hrf := B.rows
    -- found
    refine ⟨_, rfl, _, rfl, p, sd, D, s0, n, rfl, NU9, ok, hin, h3, hends, hsd9, hs0, hea, hE, h250, fun q H10 s10 W10 => ?_⟩
    have NU10 := NU9.mono s10
    have hd10 := hd9.same s10
    have TA10 := TA9.mono s10
    have hsd10 := s10 _ _ hsd9
    have hdu10 := s10 _ _ hdu
    have hso10 := s10 _ _ hso
    have hst10 := s10 _ _ hst
    have hpv10 := Paired.mapP hpv fun v b h => DD.mono (mCSt D.N.names) s10 h
    have hpu10 := Paired.mapP hpu fun v b h => DD.mono (mCRo D.ins) s10 h
    generalize ho : (bk (nx D) D.ins s0 n).1 = o at *
    generalize hrows : (bk (nx D) D.ins s0 n).2 = rows at *
    clear hpv hpu hso hst hdu TA9 NU9 hd9 hsd9 TA8 NU8 hd8 hsd8 hsd28
    have hvl : vs.length = n := (Paired.length hpv10).trans hlo
    have hul : us.length = n := (Paired.length hpu10).trans hlr
    -- four questions
    have W10c := W10
    obtain ⟨qx, sl, tl, vs', us', w1, w2, w3, w4, w5⟩ := W10c
    refine ⟨_, rfl, q, _, qx, _, _, rfl, w1, T.cl_Ways, T.a_Ways_standings, rfl, _, rfl, du, _, _, _, rfl, rfl, SqT.of hdu10, atI_0, sl, so, vs', vs, rfl, rfl, w2, hso10, ⟨K, paired_two (F := StandD H10 D.N.names) (G := StandD H10 D.N.names) (fun x y c f g => eqT_stand f g 39) w3 hpv10, rfl⟩, false, rfl, iteF ?_⟩
    refine ⟨_, rfl, q, _, qx, _, _, rfl, w1, T.cl_Ways, T.a_Ways_steps, rfl, _, rfl, du, _, _, _, rfl, rfl, SqT.of hdu10, atI_1, tl, st, us', us, rfl, rfl, w4, hst10, ⟨K, paired_two (F := RowD H10 D.ins) (G := RowD H10 D.ins) (fun x y c f g => eqT_row f g 37) w5 hpu10, rfl⟩, false, rfl, iteF ?_⟩
    refine ⟨_, rfl, q, qx, _, rfl, w1, q, D.N.names, D.ins, o, rows, rfl, W10, _, rfl, ⟨by omega, by omega⟩, _, rfl, du, _, _, _, rfl, rfl, SqT.of hdu10, atI_0, so, vs, rfl, .inl (SqL.of hso10), rfl, ?_⟩
    have e3 : (!decide (V.int (o.length : Nat) = V.int (vs.length : Nat))) = false := by rw [hlo, hvl]; simp
    refine ⟨false, congrArg V.bl e3, iteF ?_⟩
    refine ⟨_, rfl, q, qx, _, rfl, w1, rfl, _, rfl, _, rfl, q, p, sd, D, s0, n, o, rows, rfl, NU10, ok, hin, h3, hends, hsd10, hs0, hea, hE, h250, W10, .inl ⟨ho.symm, hrows.symm, fun H11 s11 => ⟨true, rfl, iteF ?_⟩⟩⟩
    have W11 := W10.mono s11
    have NU11 := NU10.mono s11
    have hd11 := hd10.same s11
    have TA11 := TA10.mono s11
    have hsd11 := s11 _ _ hsd10
    have hdu11 := s11 _ _ hdu10
    have hst11 := s11 _ _ hst10
    have hpu11 := Paired.mapP hpu10 fun v b h => DD.mono (mCRo D.ins) s11 h
    clear w1 w2 w3 w4 w5 W10 NU10 hd10 TA10 hsd10 hdu10 hst10 hpu10 hpv10 hso10
    -- classes
    refine ⟨_, rfl, q, D.N.names, D.ins, o, rows, rfl, W11, ok.indd, ok.fewi, tb, by omega, by omega, by omega, fun ka late H12 s12 hka C => ?_⟩
    have W12 := W11.mono s12
    have NU12 := NU11.mono s12
    have hd12 := hd11.same s12
    have TA12 := TA11.mono s12
    have hsd12 := s12 _ _ hsd11
    have hdu12 := s12 _ _ hdu11
    have hst12 := s12 _ _ hst11
    have hpu12 := Paired.mapP hpu11 fun v b h => DD.mono (mCRo D.ins) s12 h
    clear W11 NU11 hd11 TA11 hsd11 hdu11 hst11 hpu11
    let S : Hp → Prop := fun H' => ToldAt H' t kd id ol D g ∧ NetU T.kNet.C H' p D ∧ DrawAt K H' dr sc ns ∧ H' sd = some (.dK (FD D.N.names fun n => .int (stf D.N.names s0 n : Nat))) ∧ H' du = some (.tup [.ref so, .ref st]) ∧ H' st = some (.lst us) ∧ Paired (RowD H' D.ins) us rows ∧ WaysAt T.kWays.C H' q D.N.names D.ins o rows ∧ H' ka = some (.lst (late.map fun x => V.int (x : Nat)))
    have SM : ∀ {H' H'' : Hp}, S H' → Same H' H'' → S H'' := fun h s => ⟨h.1.mono s, h.2.1.mono s, h.2.2.1.same s, s _ _ h.2.2.2.1, s _ _ h.2.2.2.2.1, s _ _ h.2.2.2.2.2.1, Paired.mapP h.2.2.2.2.2.2.1 fun v b h => DD.mono (mCRo D.ins) s h, h.2.2.2.2.2.2.2.1.mono s, s _ _ h.2.2.2.2.2.2.2.2⟩
    have SD : ∀ {H' H'' : Hp}, S H' → DwS dr sc H' H'' → S H'' := fun h s => ⟨h.1.dw h.2.2.1.2.1 s, h.2.1.dw h.2.2.1 s, h.2.2.1.step s, s.keep h.2.2.1 h.2.2.2.1 (fun n z => nomatch z), s.keep h.2.2.1 h.2.2.2.2.1 (fun n z => nomatch z), s.keep h.2.2.1 h.2.2.2.2.2.1 (fun n => refs_ne h.2.2.2.2.2.2.1), Paired.mapP h.2.2.2.2.2.2.1 fun v b h' => s.dd (mCRo D.ins) h.2.2.1 h', h.2.2.2.2.2.2.2.1.dw h.2.2.1 s, s.keep h.2.2.1 h.2.2.2.2.2.2.2.2 (fun n => nats_ne)⟩
    have SQ : ∀ {H' : Hp}, S H' → ∃ qx fs, H' q = some (.ins T.kWays.C qx fs) := fun h => by
      obtain ⟨qx, sl, tl, vs', us', w1, _⟩ := h.2.2.2.2.2.2.2.1
      exact ⟨qx, _, w1⟩
    have S12 : S H12 := ⟨TA12, NU12, hd12, hsd12, hdu12, hst12, hpu12, W12, hka⟩
    have hll : late.length = n := C.len.trans hlr
    refine ⟨_, rfl, by decide, by decide, ?_⟩
    refine for_it (walk_range (lo := 0)) (fun i σ H' => ∃ (x5 x9 x10 x11 : Option V), σ = [some (.ref sc), some (.ref dr), some (.ref t), some (.ref p), some (.ref sd), x5, some (.ref du), some (.ref q), some (.ref ka), x9, x10, x11, none, none, none, none, none, none, none, none, none] ∧ S H') ⟨x5, none, none, none, rfl, S12⟩ (fun i σ H' _ _ => trivial) ?_ ?_
    · rintro i x σ H13 H14 hi ⟨x5, x9, x10, x11, rfl, S13⟩ ⟨rfl, rfl⟩
      obtain ⟨qx, fs, w1⟩ := SQ S13
      refine ⟨_, rfl, _, rfl, q, qx, fs, rfl, w1, q, D.N.names, D.ins, o, rows, rfl, S13.2.2.2.2.2.2.2.1, _, rfl, ⟨by omega, by omega⟩, dr, sc, ns, _, rfl, S13.2.2.1, by omega, fun i1 H14 i10 i1n D14 => ?_⟩
      have S14 := SD S13 D14
      obtain ⟨qx2, fs2, w2⟩ := SQ S14
      refine ⟨_, rfl, _, rfl, q, qx2, fs2, rfl, w2, q, D.N.names, D.ins, o, rows, rfl, S14.2.2.2.2.2.2.2.1, _, rfl, ⟨by omega, by omega⟩, dr, sc, ns, _, rfl, S14.2.2.1, by omega, fun j1 H15 j10 j1n D15 => ?_⟩
      have S15 := SD S14 D15
      obtain ⟨a, rfl⟩ : ∃ a : Nat, i1 = (a : Int) := ⟨i1.toNat, by omega⟩
      obtain ⟨b, rfl⟩ : ∃ b : Nat, j1 = (b : Int) := ⟨j1.toNat, by omega⟩
      have ha : a < rows.length := by omega
      have hb : b < rows.length := by omega
      have TAr : TellArgs rows D.ins a b := ⟨ok.indd, by omega, tb, ha, hb⟩
      have hct := C.tells (ins := D.ins) tb rfl ha hb
      have hla : (late.map fun x => V.int (x : Nat))[a]? = some (.int (late.getD a 0 : Nat)) := by rw [List.getElem?_map, get_getD (by omega)]; rfl
      have hlb : (late.map fun x => V.int (x : Nat))[b]? = some (.int (late.getD b 0 : Nat)) := by rw [List.getElem?_map, get_getD (by omega)]; rfl
      refine ⟨_, _, rfl, _, rfl, du, _, _, _, rfl, rfl, SqT.of S15.2.2.2.2.1, atI_1, _, rfl, _, rfl, st, a, b, us, D.ins, rows, rfl, S15.2.2.2.2.2.1, S15.2.2.2.2.2.2.1, TAr, fun wd l H16 htell s16 hl => ?_, fun htell H16 s16 => ?_⟩
      · have S16 := SM S15 s16
        refine ⟨_, rfl, _, rfl, _, rfl, q, a, b, D.N.names, D.ins, o, rows, rfl, S16.2.2.2.2.2.2.2.1, TAr, fun wd' l' H17 htell' s17 hl' => ?_, fun htell' => by rw [htell] at htell'; cases htell'⟩
        rw [htell] at htell'
        cases htell'
        have S17 := SM S16 s17
        refine ⟨_, rfl, .inl ⟨l', l, _, _, rfl, rfl, hl', s17 _ _ hl, ⟨K, paired_refl _ (fun x hx => ?_), rfl⟩, false, rfl, iteF ?_⟩⟩
        · obtain ⟨y, _, rfl⟩ := List.mem_map.mp hx
          exact .inl ⟨rfl, rfl⟩
        have hne : ¬ late.getD a 0 = late.getD b 0 := fun e => by rw [hct.mp e] at htell; cases htell
        refine ⟨_, rfl, _, rfl, ka, _, _, _, rfl, rfl, SqL.of S17.2.2.2.2.2.2.2.2, atI_nat hla, _, rfl, _, rfl, ka, _, _, _, rfl, rfl, SqL.of S17.2.2.2.2.2.2.2.2, atI_nat hlb, rfl, _, rfl, rfl, rfl, false, congrArg V.bl ?_, iteF ?_⟩
        · have e1 : decide (V.int (late.getD a 0 : Nat) = V.int (late.getD b 0 : Nat)) = false := decide_eq_false fun z => hne (by injection z; omega)
          have e2 : decide (V.ref l = V.non) = false := decide_eq_false (by intro z; cases z)
          rw [e1, e2]; simp
        · exact ⟨_, _, _, _, rfl, S17⟩
      · have S16 := SM S15 s16
        refine ⟨_, rfl, _, rfl, _, rfl, q, a, b, D.N.names, D.ins, o, rows, rfl, S16.2.2.2.2.2.2.2.1, TAr, (fun wd' l' H17 htell' => by rw [htell] at htell'; cases htell'), fun htell' H17 s17 => ?_⟩
        have S17 := SM S16 s17
        refine ⟨_, rfl, .inr ⟨rfl, false, congrArg V.bl (by simp), iteF ?_⟩⟩
        have heq : late.getD a 0 = late.getD b 0 := hct.mpr htell
        refine ⟨_, rfl, _, rfl, ka, _, _, _, rfl, rfl, SqL.of S17.2.2.2.2.2.2.2.2, atI_nat hla, _, rfl, _, rfl, ka, _, _, _, rfl, rfl, SqL.of S17.2.2.2.2.2.2.2.2, atI_nat hlb, rfl, _, rfl, rfl, rfl, false, congrArg V.bl ?_, iteF ?_⟩
        · rw [heq]; simp
        · exact ⟨_, _, _, _, rfl, S17⟩
    rintro σ H13 ⟨x5, x9, x10, x11, rfl, S13⟩
    -- the order
    refine ⟨Nat.zero_le _, fun od hod => ?_⟩
    have s14 := same_new (o := .lst []) hod
    have S14 := SM S13 s14
    have hod14 : upd H13 od (.lst []) od = some (.lst ((late.take 0).foldl ins1 [] |>.map fun x => V.int (x : Nat))) := upd_same
    generalize upd H13 od (.lst []) = H14 at s14 S14 hod14 ⊢
    have odk : od ≠ ka := fun z => by subst z; rw [S13.2.2.2.2.2.2.2.2] at hod; cases hod
    refine ⟨_, rfl, ka, rfl, ⟨_, SqL.of S14.2.2.2.2.2.2.2.2⟩, ?_⟩
    refine for_list (xs := late.map fun x => V.int (x : Nat)) (fun i σ H' => ∃ (x13 : Option V), σ = [some (.ref sc), some (.ref dr), some (.ref t), some (.ref p), some (.ref sd), x5, some (.ref du), some (.ref q), some (.ref ka), x9, x10, x11, some (.ref od), x13, none, none, none, none, none, none, none] ∧ Same H13 H' ∧ H' od = some (.lst ((late.take i).foldl ins1 [] |>.map fun x => V.int (x : Nat)))) ⟨none, rfl, s14, hod14⟩ (by rintro i σ H' _ ⟨_, rfl, sm, _⟩; exact SqL.of (SM S13 sm).2.2.2.2.2.2.2.2) ?_ ?_
    · rintro i x σ H15 hx ⟨x13, rfl, s15, hod15⟩
      have hil : i < late.length := by have := (List.getElem?_eq_some_iff.mp hx).1; simpa using this
      rw [List.getElem?_map, get_getD (d := 0) hil] at hx
      cases hx
      generalize hv : late.getD i 0 = v at *
      have hlen : ∀ (l : List Nat) (acc : List Nat), (l.foldl ins1 acc).length ≤ acc.length + l.length := by
        intro l
        induction l with
        | nil => intro acc; simp
        | cons y l ih => intro acc; have := ih (ins1 acc y); have := ins1_len_le acc y; simp only [List.foldl_cons, List.length_cons]; omega
      have htk : (late.take (i + 1)).foldl ins1 [] = ins1 ((late.take i).foldl ins1 []) v := by
        rw [List.take_succ, get_getD (d := 0) hil, hv, List.foldl_append]; rfl
      have hol := hlen (late.take i) []
      have htl : (late.take i).length ≤ 250 := by rw [List.length_take]; omega
      refine ⟨_, rfl, _, rfl, od, _, rfl, .inl (SqL.of hod15), rfl, all_flat_nat _, ?_⟩
      have ein := inV_nat v ((late.take i).foldl ins1 [])
      rw [ein]
      by_cases hm : v ∈ (late.take i).foldl ins1 []
      · refine ⟨false, congrArg V.bl (by rw [decide_eq_true hm]; rfl), iteF ?_⟩
        exact ⟨_, rfl, s15, by rw [htk, show ins1 ((late.take i).foldl ins1 []) v = (late.take i).foldl ins1 [] from if_pos hm]; exact hod15⟩
      · refine ⟨true, congrArg V.bl (by rw [decide_eq_false hm]; rfl), iteT ?_⟩
        refine ⟨_, rfl, .inl ⟨rfl, _, SqL.of hod15⟩, _, rfl, od, _, _, rfl, rfl, hod15, szl (by rw [List.length_map]; simp at hol; omega), ?_⟩
        exact ⟨_, rfl, same_mut s15 hod, by rw [upd_same, htk, show ins1 ((late.take i).foldl ins1 []) v = (late.take i).foldl ins1 [] ++ [v] from if_neg hm, List.map_append]; rfl⟩
    rintro σ H15 ⟨x13, rfl, s15, hod15⟩
    have S15 := SM S13 s15
    obtain ⟨c, hc⟩ := C.first
    rw [List.length_map, List.take_length, hc] at hod15
    have hcn : c ≤ 250 := by
      have h1 : ∀ (l : List Nat) (acc : List Nat), (l.foldl ins1 acc).length ≤ acc.length + l.length := by
        intro l
        induction l with
        | nil => intro acc; simp
        | cons y l ih => intro acc; have := ih (ins1 acc y); have := ins1_len_le acc y; simp only [List.foldl_cons, List.length_cons]; omega
      have := h1 late []
      rw [hc, List.length_range] at this
      simp at this; omega
    refine ⟨_, rfl, _, rfl, od, _, rfl, .inl (SqL.of hod15), _, rfl, ?_⟩
    obtain ⟨cs, hcs⟩ : ∃ cs : List Int, cs = (List.range c).map fun x => ((x : Nat) : Int) := ⟨_, rfl⟩
    have ecs : (List.range c).map (fun x => V.int (x : Nat)) = cs.map V.int := by rw [hcs, List.map_map]; rfl
    have ecl : ((List.range c).map fun x => V.int (x : Nat)).length = c := by simp
    have erg : rgV 0 (((List.range c).map fun x => V.int (x : Nat)).length : Nat) = cs.map V.int := by
      rw [ecl, ← ecs]
      unfold rgV
      have : ((c : Int) - 0).toNat = c := by omega
      rw [this]
      exact List.map_congr_left fun x _ => by rw [Int.zero_add]
    refine ⟨RgOk.of_le (by omega) (by rw [ecl]; omega) (by omega) (by omega), fun rq hrq => ?_⟩
    rw [erg]
    have s16 := same_new (o := .lst (cs.map V.int)) hrq
    have hrq16 : upd H15 rq (.lst (cs.map V.int)) rq = some (.lst (cs.map V.int)) := upd_same
    have S16 := SM S15 s16
    have hod16 : upd H15 rq (.lst (cs.map V.int)) od = some (.lst (cs.map V.int)) := by rw [← ecs]; rw [ecs]; exact s16 _ _ (by rw [hod15, ecs])
    generalize upd H15 rq (.lst (cs.map V.int)) = H16 at s16 hrq16 S16 hod16 ⊢
    refine ⟨_, _, .lst (SqL.of hod16) (dpI cs), .lst (SqL.of hrq16) (dpI cs), sh_lstI cs, sh_lstI cs, false, congrArg V.bl (by rw [eqv_lstN]; rfl), iteF ?_⟩
    -- a list of inlets
    refine ⟨_, rfl, dr, sc, ns, 9, rfl, S16.2.2.1, by omega, fun m9 H17 m90 m99 D17 => ?_⟩
    have S17 := SD S16 D17
    refine ⟨_, rfl, by omega, by omega, fun rl hrl => ?_⟩
    have nld : rl ≠ dr := fun z => by subst z; obtain ⟨n, e⟩ := S17.2.2.1.2.1; rw [hrl] at e; cases e
    refine lc_it (walk_range (lo := 0)) (fun i H' => ∃ wd : List Str, DwS dr sc H17 H' ∧ H' rl = some (.lst (wd.map V.str)) ∧ wd.length = i ∧ ∀ x ∈ wd, x ∈ D.ins) ⟨[], S17.2.2.1.dw (same_new hrl), upd_same, rfl, fun x h => nomatch h⟩ (fun i H _ _ => trivial) ?_ ?_
    · rintro i x H19 H18 hi ⟨wd, sD, hri, hl, hw⟩ ⟨rfl, rfl⟩
      refine ⟨rfl, ?_⟩
      dsimp only [tYes]
      rw [if_pos rfl]
      have S18 := SD S17 sD
      refine ⟨_, rfl, _, rfl, t, _, _, _, rfl, rfl, SqT.of S18.1.t, atI_1, id, _, rfl, .inl S18.1.id, fun l hl0 => ?_⟩
      have u1 := same_new (o := .lst ((FD D.ins fun i => V.str (D.inl i)).map fun kv => kV kv.1)) hl0
      have hl1 : upd H18 l (.lst ((FD D.ins fun i => V.str (D.inl i)).map fun kv => kV kv.1)) l = some (.lst (D.ins.map V.str)) := by rw [upd_same, fd_kv]
      have hfi := ok.fewi
      refine ⟨l, D.ins, rfl, SqL.of hl1, by omega, fun ys nml hper hso hnm0 => ?_⟩
      have hys : ys = D.ins := su.2.1 ys hper hso
      have u2 := u1.trans (same_new (o := .lst (ys.map V.str)) hnm0)
      have hnml : upd (upd H18 l (.lst ((FD D.ins fun i => V.str (D.inl i)).map fun kv => kV kv.1))) nml (.lst (ys.map V.str)) nml = some (.lst (D.ins.map V.str)) := by rw [upd_same, hys]
      have nnd : nml ≠ dr := fun z => by subst z; obtain ⟨n, e⟩ := S18.2.2.1.2.1; rw [u1 _ _ e] at hnm0; cases hnm0
      generalize upd (upd H18 l (.lst ((FD D.ins fun i => V.str (D.inl i)).map fun kv => kV kv.1))) nml (.lst (ys.map V.str)) = H20 at u2 hnml ⊢
      refine ⟨dr, sc, ns, nml, _, rfl, (SM S18 u2).2.2.1, hnml, nnd, (fun z => hin (List.map_eq_nil_iff.mp z)), fun v hv H21 D21 => ?_⟩
      obtain ⟨z, hz, rfl⟩ := List.mem_map.mp hv
      have hrl21 := D21.1 _ _ nld (u2 _ _ hri)
      refine ⟨_, hrl21, szl (by rw [List.length_map]; omega), wd ++ [z], ((sD.same u2).trans D21).mut hrl S17.2.2.1.2.1, by rw [upd_same, List.map_append]; rfl, by rw [List.length_append, hl]; rfl, fun y hy => ?_⟩
      rcases List.mem_append.mp hy with h | h
      · exact hw y h
      · simp at h; subst h; exact hz
    rintro H18 ⟨wd, D18, hrl18, hwl, hwi⟩
    have S18 := SD S17 D18
    have hwl8 : wd.length ≤ 8 := by omega
    -- sums
    refine ⟨sz (by show 1 ≤ 100000; omega), fun zl hzl => ?_⟩
    have v1 := same_new (o := .lst [.int 0]) hzl
    have hzl1 : upd H18 zl (.lst [.int 0]) zl = some (.lst [.int 0]) := upd_same
    have S19 := SM S18 v1
    have hrl19 := v1 _ _ hrl18
    generalize upd H18 zl (.lst [.int 0]) = H19 at v1 hzl1 S19 hrl19 ⊢
    have hfo := L.fewo
    refine ⟨_, rfl, t, _, _, _, rfl, rfl, SqT.of S19.1.t, atI_2, ol, _, rfl, .inl (SqL.of S19.1.ol), zl, _, _, rfl, rfl, hzl1, by rw [List.length_map]; omega, by rw [List.length_map]; omega, sz (by rw [List.length_map, Int.toNat_natCast]; show 1 * _ ≤ _; omega), fun sm hsm => ?_⟩
    have ez : (List.replicate ((D.outs.map V.str).length : Int).toNat [V.int 0]).flatten = (List.replicate D.outs.length 0).map fun (x : Nat) => V.int (x : Nat) := by
      rw [List.length_map, Int.toNat_natCast, List.map_replicate]
      induction D.outs.length with
      | zero => rfl
      | succ j ih => rw [List.replicate_succ, List.flatten_cons, ih, List.replicate_succ]; rfl
    rw [ez]
    have v2 := same_new (o := .lst ((List.replicate D.outs.length 0).map fun (x : Nat) => V.int (x : Nat))) hsm
    have hsm20 : upd H19 sm (.lst ((List.replicate D.outs.length 0).map fun (x : Nat) => V.int (x : Nat))) sm = some (.lst ((List.replicate D.outs.length 0).map fun (x : Nat) => V.int (x : Nat))) := upd_same
    have S20 := SM S19 v2
    have hrl20 := v2 _ _ hrl19
    generalize upd H19 sm (.lst ((List.replicate D.outs.length 0).map fun (x : Nat) => V.int (x : Nat))) = H20 at v2 hsm20 S20 hrl20 ⊢
    refine ⟨_, _, _, rfl, ?_⟩
    refine ⟨_, rfl, rl, rfl, ⟨_, SqL.of hrl20⟩, ?_⟩
    refine for_list (xs := wd.map V.str) (fun i σ H' => ∃ (nu : Nat) (sm : Addr) (f : List Nat) (x9 x17 x18 x20 : Option V), σ = [some (.ref sc), some (.ref dr), some (.ref t), some (.ref p), some (.ref sd), x5, some (.ref du), some (.ref q), some (.ref ka), x9, x10, x11, some (.ref od), x13, some (.int (nu : Nat)), some (.ref rl), some (.ref sm), x17, x18, none, x20] ∧ Same H20 H' ∧ H' sm = some (.lst (f.map fun x => V.int (x : Nat))) ∧ f.length = D.outs.length ∧ folw rows D.ins (wd.drop i) nu f = folw rows D.ins wd 0 (List.replicate D.outs.length 0) ∧ nu < rows.length)
      ⟨0, sm, _, x9, none, none, none, rfl, Same.refl H20, hsm20, by simp, rfl, by omega⟩ (by rintro i σ H' _ ⟨_, _, _, _, _, _, _, rfl, sm, _⟩; exact SqL.of (sm _ _ hrl20)) ?_ ?_
    · rintro i x σ H21 hx ⟨nu, sm', f, x9, x17, x18, x20, rfl, s21, hsm21, hfl, hfo2, hnu⟩
      have hil : i < wd.length := by have := (List.getElem?_eq_some_iff.mp hx).1; simpa using this
      rw [List.getElem?_map, List.getElem?_eq_getElem hil] at hx
      cases hx
      generalize hnm : wd[i] = nm
      have hdrp : wd.drop i = nm :: wd.drop (i + 1) := by rw [← hnm]; exact List.drop_eq_getElem_cons hil
      have hnmi : nm ∈ D.ins := by rw [← hnm]; exact hwi _ (List.getElem_mem hil)
      rw [hdrp, folw] at hfo2
      have S21 := SM S20 s21
      have hun : us[nu]? = some us[nu] := List.getElem?_eq_getElem (by omega)
      have hrn : rows[nu]? = some (rows.getD nu []) := get_getD hnu
      obtain ⟨ra, kvn, en, hra, fn, rfl, hrl', hstn⟩ := paired_at S21.2.2.2.2.2.2.1 hun hrn
      obtain ⟨c2, d2, ec, hc2, hd2⟩ := hstn nm hnmi
      have hent := step_ok hrf hnu hnmi
      generalize stepOf D.ins (rows.getD nu []) nm = en2 at *
      refine ⟨_, rfl, du, _, _, _, rfl, rfl, SqT.of S21.2.2.2.2.1, atI_1, _, rfl, st, us, _, _, rfl, rfl, SqL.of S21.2.2.2.2.2.1, atI_nat hun, ?_⟩
      rw [en]
      refine ⟨_, rfl, ra, _, rfl, dget_in (.inl hra) hnmi, ?_⟩
      rw [ec]
      refine ⟨c2, _, rfl, SqT.of hc2, rfl, _, _, rfl, _, _, rfl, rfl, ?_⟩
      refine ⟨_, rfl, _, rfl, sm', d2, _, _, D.outs.length, rfl, SqL.of hsm21, SqT.of hd2, by rw [List.length_map, hfl], by rw [List.length_map, hent.2], fun z hz => ?_⟩
      refine lc_it (walk_zipM (n := D.outs.length) (xs := f.map fun x => V.int (x : Nat)) (ys := en2.2.map fun x => V.int (x : Nat)) (by rw [List.length_map, hfl]) (by rw [List.length_map, hent.2])) (fun j H' => Same H21 H' ∧ H' z = some (.lst (((List.zipWith (· + ·) f en2.2).take j).map fun x => V.int (x : Nat)))) ⟨same_new hz, by rw [upd_same]; rfl⟩ (fun j H' _ p => ⟨SqL.of (p.1 _ _ hsm21), SqT.of (p.1 _ _ hd2)⟩) ?_ ?_
      · rintro j x H22 H23 hj ⟨s22, hz22⟩ ⟨T', x, y, rfl, hT, rfl, hx, hy⟩
        have hx' : (f.map fun x => V.int (x : Nat))[j]? = some x := hx
        have hy' : (en2.2.map fun x => V.int (x : Nat))[j]? = some y := hy
        have hj1 : f[j]? = some f[j] := List.getElem?_eq_getElem (by omega)
        have hj2 : en2.2[j]? = some en2.2[j] := List.getElem?_eq_getElem (by omega)
        rw [List.getElem?_map, hj1] at hx'
        rw [List.getElem?_map, hj2] at hy'
        have ex : V.int (f[j] : Nat) = x := Option.some.inj hx'
        have ey : V.int (en2.2[j] : Nat) = y := Option.some.inj hy'
        subst ex ey
        refine ⟨T', _, rfl, SqT.of upd_same, rfl, _, _, rfl, _, _, rfl, rfl, rfl, ?_⟩
        dsimp only [tYes]
        rw [if_pos rfl]
        refine ⟨_, rfl, _, rfl, _, _, rfl, rfl, _, same_new hT _ _ hz22, ?_, same_mut (same_up s22 hT) hz, ?_⟩
        · rw [List.length_map, List.length_take]; exact szl (by omega)
        · rw [upd_same]
          have hzz : (List.zipWith (· + ·) f en2.2)[j]? = some (f[j] + en2.2[j]) := by rw [List.getElem?_zipWith, hj1, hj2]
          rw [List.take_succ, hzz, List.map_append]; rfl
      · rintro H22 ⟨s22, hz22⟩
        rw [List.take_of_length_le (by rw [List.length_zipWith]; omega)] at hz22
        exact ⟨en2.1, z, List.zipWith (· + ·) f en2.2, _, _, _, _, rfl, s21.trans s22, hz22, by rw [List.length_zipWith, hfl, hent.2, Nat.min_self], hfo2, hent.1⟩
    rintro σ H21 ⟨nu, sm', f, x9, x17, x18, x20, rfl, s21, hsm21, hfl, hfo2, hnu⟩
    rw [List.length_map, List.drop_length, folw] at hfo2
    have S21 := SM S20 s21
    have hrl21 := s21 _ _ hrl20
    -- followed
    have W21 := S21.2.2.2.2.2.2.2.1
    have W21c := W21
    obtain ⟨qx, sl, tl, vs', us', w1, w2, w3, w4, w5⟩ := W21c
    refine ⟨_, rfl, q, qx, _, rfl, w1, rfl, _, rfl, q, rl, 0, D.N.names, D.ins, o, rows, wd, D.outs.length, rfl, W21, .inl hrl21, by omega, hin, hwi, by omega, hrf, by omega, fun t1 ft1 H22 s22 ht1 hft1 => ?_⟩
    rw [← hfo2] at ht1 hft1
    refine ⟨_, rfl, _, rfl, sm', _, rfl, .inl ⟨SqL.of (s22 _ _ hsm21), fun ft2 hft2 => ⟨sz (by show 2 ≤ 100000; omega), fun t2 ht2 => ?_⟩⟩⟩
    have v1 := same_new (o := .tup (f.map fun x => V.int (x : Nat))) hft2
    have v2 := same_new (o := .tup [.int (nu : Nat), .ref ft2]) ht2
    have v12 := v1.trans v2
    have a1 := v12 _ _ ht1
    have a2 := v12 _ _ hft1
    have a3 : upd (upd H22 ft2 (.tup (f.map fun x => V.int (x : Nat)))) t2 (.tup [.int (nu : Nat), .ref ft2]) ft2 = some (.tup (f.map fun x => V.int (x : Nat))) := v2 _ _ upd_same
    have a4 : upd (upd H22 ft2 (.tup (f.map fun x => V.int (x : Nat)))) t2 (.tup [.int (nu : Nat), .ref ft2]) t2 = some (.tup [.int (nu : Nat), .ref ft2]) := upd_same
    have s23 := s22.trans v12
    generalize upd (upd H22 ft2 (.tup (f.map fun x => V.int (x : Nat)))) t2 (.tup [.int (nu : Nat), .ref ft2]) = H23 at a1 a2 a3 a4 s23 ⊢
    refine ⟨_, _, .tup (SqT.of a1) (.cons (.int _) (.cons (.tup (SqT.of a2) (dpN f)) .nil)), .tup (SqT.of a4) (.cons (.int _) (.cons (.tup (SqT.of a3) (dpN f)) .nil)), sh_pair _ _, sh_pair _ _, false, congrArg V.bl (by rw [eqv_pair]; rfl), iteF ?_⟩
    have S23 := SM S21 s23
    have W23 := S23.2.2.2.2.2.2.2.1
    have hrl23 := s23 _ _ hrl21
    have ec1 : cutV (wd.map V.str) (some 2) none = (wd.drop 2).map V.str := (cut_lo (k := 2)).trans (by rw [List.map_drop])
    have ec2 : cutV (wd.map V.str) none (some 2) = (wd.take 2).map V.str := (cut_hi (k := 2)).trans (by rw [List.map_take])
    refine ⟨_, rfl, q, qx, _, rfl, s23 _ _ w1, rfl, _, rfl, _, rfl, rl, _, rfl, SqL.of hrl23, fun c1 hc1 => ⟨c1, _, rfl, .inl ⟨SqL.of upd_same, fun c2 hc2 => ?_⟩⟩⟩
    rw [ec1] at hc2 ⊢
    have v1 := same_new (o := .lst ((wd.drop 2).map V.str)) hc1
    have v2 := same_new (o := .tup ((wd.drop 2).map V.str)) hc2
    have s24 := s23.trans (v1.trans v2)
    have hc24 : upd (upd H23 c1 (.lst ((wd.drop 2).map V.str))) c2 (.tup ((wd.drop 2).map V.str)) c2 = some (.tup ((wd.drop 2).map V.str)) := upd_same
    generalize upd (upd H23 c1 (.lst ((wd.drop 2).map V.str))) c2 (.tup ((wd.drop 2).map V.str)) = H24 at s24 hc24 ⊢
    refine ⟨_, rfl, q, qx, _, rfl, s24 _ _ w1, rfl, _, rfl, _, rfl, rl, _, rfl, SqL.of (s24 _ _ hrl21), fun c3 hc3 => ?_⟩
    rw [ec2]
    have s25 := s24.trans (same_new (o := .lst ((wd.take 2).map V.str)) hc3)
    have hc25 := same_new (o := .lst ((wd.take 2).map V.str)) hc3 _ _ hc24
    have hc35 : upd H24 c3 (.lst ((wd.take 2).map V.str)) c3 = some (.lst ((wd.take 2).map V.str)) := upd_same
    generalize upd H24 c3 (.lst ((wd.take 2).map V.str)) = H25 at s25 hc25 hc35 ⊢
    have hl2 : (wd.take 2).length ≤ 1000 := by rw [List.length_take]; omega
    have hl3 : (wd.drop 2).length ≤ 1000 := by rw [List.length_drop]; omega
    refine ⟨q, c3, 0, D.N.names, D.ins, o, rows, wd.take 2, D.outs.length, rfl, W21.mono s25, .inl hc35, hl2, hin, (fun x hx => hwi x (List.mem_of_mem_take hx)), by omega, hrf, by omega, fun t3 ft3 H26 s26 ht3 hft3 => ?_⟩
    have hnu2 := folw_lt hrf (wd.take 2) 0 (List.replicate D.outs.length 0) (by omega) (fun x hx => hwi x (List.mem_of_mem_take hx))
    refine ⟨t3, _, _, _, rfl, rfl, SqT.of ht3, atI_0, ?_⟩
    refine ⟨q, c2, (folw rows D.ins (wd.take 2) 0 (List.replicate D.outs.length 0)).1, D.N.names, D.ins, o, rows, wd.drop 2, D.outs.length, rfl, W21.mono (s25.trans s26), .inr (s26 _ _ hc25), hl3, hin, (fun x hx => hwi x (List.mem_of_mem_drop hx)), hnu2, hrf, by omega, fun t4 ft4 H27 s27 ht4 hft4 => ?_⟩
    have efo : (folw rows D.ins (wd.drop 2) (folw rows D.ins (wd.take 2) 0 (List.replicate D.outs.length 0)).1 (List.replicate D.outs.length 0)).1 = nu := by
      rw [folw_fst rows D.ins (wd.drop 2) _ _ (folw rows D.ins (wd.take 2) 0 (List.replicate D.outs.length 0)).2, ← folw_app, List.take_append_drop, ← hfo2]
    rw [efo] at ht4
    refine ⟨t4, _, _, _, rfl, rfl, SqT.of ht4, atI_0, _, rfl, rfl, false, congrArg V.bl (by simp), iteF ?_⟩
    have s28 := (s25.trans s26).trans s27
    have S28 := SM S21 s28
    have W28 := S28.2.2.2.2.2.2.2.1
    have x1 := s28 _ _ w1
    have x2 := s28 _ _ w2
    have x4 := s28 _ _ w4
    have x3 := Paired.mapP w3 fun v b h => DD.mono (mCSt D.N.names) s28 h
    have x5_ := Paired.mapP w5 fun v b h => DD.mono (mCRo D.ins) s28 h
    have hvl' : vs'.length = n := (Paired.length w3).trans hlo
    have hul' : us'.length = n := (Paired.length w5).trans hlr
    -- a wrong one
    refine ⟨_, rfl, q, _, qx, _, _, rfl, x1, T.cl_Ways, T.a_Ways_standings, rfl, _, rfl, _, rfl, sl, _, rfl, SqL.of x2, fun c4 hc4 => ?_⟩
    rw [cut_last]
    have y1 := same_new (o := .lst (vs'.take (vs'.length - 1))) hc4
    have hc4' : upd H27 c4 (.lst (vs'.take (vs'.length - 1))) c4 = some (.lst (vs'.take (vs'.length - 1))) := upd_same
    generalize upd H27 c4 (.lst (vs'.take (vs'.length - 1))) = H28 at y1 hc4' ⊢
    refine ⟨_, rfl, q, _, qx, _, _, rfl, y1 _ _ x1, T.cl_Ways, T.a_Ways_steps, rfl, _, rfl, _, rfl, tl, _, rfl, SqL.of (y1 _ _ x4), fun c5 hc5 => ?_⟩
    rw [cut_last]
    have y2 := same_new (o := .lst (us'.take (us'.length - 1))) hc5
    have hc5' : upd H28 c5 (.lst (us'.take (us'.length - 1))) c5 = some (.lst (us'.take (us'.length - 1))) := upd_same
    have hc4'' := y2 _ _ hc4'
    have y12 := y1.trans y2
    generalize upd H28 c5 (.lst (us'.take (us'.length - 1))) = H29 at y12 hc5' hc4'' ⊢
    refine fun xw qw hxw hqw nqw => ?_
    have yp := same_pre (o1 := .own xw) (o2 := .ins T.kWays.C qw []) (Same.refl H29) hxw hqw
    have yq := y12.trans yp
    refine ⟨xw, qw, c4, c5, _, _, D.N.names, D.ins, o.take (n - 1), rows.take (n - 1), rfl, upd_same, .inl (yp _ _ hc4''), .inl (yp _ _ hc5'), ?_, ?_, by rw [List.length_take]; omega, by rw [List.length_take]; omega, fun H30 sbw Ww => ⟨rfl, ?_⟩⟩
    · rw [hvl']; exact Paired.takeP (n - 1) (Paired.mapP x3 fun v b h => DD.mono (mCSt D.N.names) yq h)
    · rw [hul']; exact Paired.takeP (n - 1) (Paired.mapP x5_ fun v b h => DD.mono (mCRo D.ins) yq h)
    have s30 : Same H27 H30 := same_make y12 hxw hqw sbw
    have S30 := SM S28 s30
    -- the answer
    refine ⟨_, rfl, q, _, qx, _, _, rfl, s30 _ _ x1, T.cl_Ways, T.a_Ways_standings, rfl, sl, _, rfl, .inl ⟨SqL.of (s30 _ _ x2), fun c6 hc6 => ?_⟩⟩
    have z1 := same_new (o := .tup vs') hc6
    have hc6' : upd H30 c6 (.tup vs') c6 = some (.tup vs') := upd_same
    generalize upd H30 c6 (.tup vs') = H31 at z1 hc6' ⊢
    refine ⟨_, rfl, q, _, qx, _, _, rfl, z1 _ _ (s30 _ _ x1), T.cl_Ways, T.a_Ways_steps, rfl, tl, _, rfl, .inl ⟨SqL.of (z1 _ _ (s30 _ _ x4)), fun c7 hc7 => ?_⟩⟩
    have z2 := same_new (o := .tup us') hc7
    have hc7' : upd H31 c7 (.tup us') c7 = some (.tup us') := upd_same
    have hc6'' := z2 _ _ hc6'
    have z12 := z1.trans z2
    generalize upd H31 c7 (.tup us') = H32 at z12 hc7' hc6'' ⊢
    refine fun xn qn hxn hqn nqn => ?_
    have zp := same_pre (o1 := .own xn) (o2 := .ins T.kWays.C qn []) (Same.refl H32) hxn hqn
    have zq := (s30.trans z12).trans zp
    refine ⟨xn, qn, c6, c7, vs', us', D.N.names, D.ins, o, rows, rfl, upd_same, .inr (zp _ _ hc6''), .inr (zp _ _ hc7'), Paired.mapP x3 (fun v b h => DD.mono (mCSt D.N.names) zq h), Paired.mapP x5_ (fun v b h => DD.mono (mCRo D.ins) zq h), by omega, by omega, fun H33 sbn Wn => ⟨rfl, ?_⟩⟩
    have s33 : Same H30 H33 := same_make z12 hxn hqn sbn
    have S33 := SM S30 s33
    have Wq := S33.2.2.2.2.2.2.2.1
    obtain ⟨qx3, fs3, wq3⟩ := SQ S33
    have Wn' := Wn
    obtain ⟨qx4, _, _, _, _, wn4, _⟩ := Wn'
    refine ⟨_, rfl, xn, q, qx4, qx3, _, fs3, rfl, rfl, wn4, wq3, xn, q, D.N.names, D.ins, o, o, rows, rows, rfl, Wn, Wq, .inl ⟨rfl, rfl, fun H34 s34_ => ⟨true, rfl, ?_⟩⟩⟩
    have S34 := SM S33 s34_
    have Ww34 := (Ww.mono s33).mono s34_
    refine ⟨true, rfl, iteT ?_⟩
    have Ww34' := Ww34
    obtain ⟨qx5, _, _, _, _, ww5, _⟩ := Ww34'
    have hl1 : (o.take (n - 1)).length ≠ n := by rw [List.length_take]; omega
    have hl2' : (rows.take (n - 1)).length ≠ n := by rw [List.length_take]; omega
    refine ⟨_, rfl, xw, qx5, _, rfl, ww5, rfl, _, rfl, _, rfl, xw, p, sd, D, s0, n, o.take (n - 1), rows.take (n - 1), rfl, S34.2.1, ok, hin, h3, hends, S34.2.2.2.1, hs0, hea, hE, h250, Ww34, .inr ⟨hl1, hl2', fun H35 s35 => ?_⟩⟩
    refine ⟨false, rfl, true, rfl, iteT ?_⟩
    have Ww35 := Ww34.mono s35
    have Ww35' := Ww35
    obtain ⟨qx6, _, _, _, _, ww6, _⟩ := Ww35'
    have S35 := SM S34 s35
    obtain ⟨qx7, fs7, wq7⟩ := SQ S35
    exact ⟨_, rfl, _, rfl, xw, q, qx6, qx7, _, fs7, rfl, rfl, ww6, wq7, xw, q, D.N.names, D.ins, o.take (n - 1), o, rows.take (n - 1), rows, rfl, Ww35, S35.2.2.2.2.2.2.2.1, .inr ⟨by rw [hlo]; exact hl1, by rw [hlr]; exact hl2', fun H36 s36 => ⟨false, rfl, k _⟩⟩⟩
end
end Bc
end
section
set_option Elab.async false
set_option linter.all false
set_option maxRecDepth 100000
set_option maxHeartbeats 8000000
set_option pp.maxSteps 1
/-! What the top has written, put together. -/
namespace Bc
open PySem L2
theorem kit_self {K : PySem.W.Frag} {C : Addr} : PySem.W.kitOne K (.ref C) (.ref C) = some true := by
  unfold PySem.W.kitOne
  exact if_pos (beq_self_eq_true _)
theorem all_mk {P : Program} {w : World} {K : PySem.W.Frag} {h : Heap} {mg : Str → Option Value} {fa : Addr} {C_Net C_Board C_Settled C_Ways f_minors_of f_is_number f_is_name f_is_row f_is_knot f_first_wrong f_Net_init f_Net_met f_Net_start f_Net_front f_Net_period f_Net_turned f_Net_check_standing f_Net_place_behind f_Net_dropped f_count f_check_net f_lattice f_ends f_check_balls f_Board_init f_Board_take f_Board_first_waiting f_Settled_init f_begun f_settle td_settle f_Ways_init f_Ways_eq f_Ways_len f_Ways_follow td_Ways_follow f_Ways_shows td_Ways_shows f_ways td_ways f_classes_of f_told_apart f_law_number f_law_take f_law_pick f_law_rows f_law_drop f_law_net f_law_fall f_law_start f_law_row f_law_key f_law_all_ways f_law_first_apart f_law : Addr}
    {oc_minors_of kV_minors_of dc_minors_of pm_minors_of cd_minors_of ct_minors_of oc_is_number kV_is_number dc_is_number pm_is_number cd_is_number ct_is_number oc_is_name kV_is_name dc_is_name pm_is_name cd_is_name ct_is_name oc_is_row kV_is_row dc_is_row pm_is_row cd_is_row ct_is_row oc_is_knot kV_is_knot dc_is_knot pm_is_knot cd_is_knot ct_is_knot oc_first_wrong kV_first_wrong dc_first_wrong pm_first_wrong cd_first_wrong ct_first_wrong oc_Net_init kV_Net_init dc_Net_init pm_Net_init cd_Net_init ct_Net_init oc_Net_met kV_Net_met dc_Net_met pm_Net_met cd_Net_met ct_Net_met oc_Net_start kV_Net_start dc_Net_start pm_Net_start cd_Net_start ct_Net_start oc_Net_front kV_Net_front dc_Net_front pm_Net_front cd_Net_front ct_Net_front oc_Net_period kV_Net_period dc_Net_period pm_Net_period cd_Net_period ct_Net_period oc_Net_turned kV_Net_turned dc_Net_turned pm_Net_turned cd_Net_turned ct_Net_turned oc_Net_check_standing kV_Net_check_standing dc_Net_check_standing pm_Net_check_standing cd_Net_check_standing ct_Net_check_standing oc_Net_place_behind kV_Net_place_behind dc_Net_place_behind pm_Net_place_behind cd_Net_place_behind ct_Net_place_behind oc_Net_dropped kV_Net_dropped dc_Net_dropped pm_Net_dropped cd_Net_dropped ct_Net_dropped oc_count kV_count dc_count pm_count cd_count ct_count oc_check_net kV_check_net dc_check_net pm_check_net cd_check_net ct_check_net oc_lattice kV_lattice dc_lattice pm_lattice cd_lattice ct_lattice oc_ends kV_ends dc_ends pm_ends cd_ends ct_ends oc_check_balls kV_check_balls dc_check_balls pm_check_balls cd_check_balls ct_check_balls oc_Board_init kV_Board_init dc_Board_init pm_Board_init cd_Board_init ct_Board_init oc_Board_take kV_Board_take dc_Board_take pm_Board_take cd_Board_take ct_Board_take oc_Board_first_waiting kV_Board_first_waiting dc_Board_first_waiting pm_Board_first_waiting cd_Board_first_waiting ct_Board_first_waiting oc_Settled_init kV_Settled_init dc_Settled_init pm_Settled_init cd_Settled_init ct_Settled_init oc_begun kV_begun dc_begun pm_begun cd_begun ct_begun oc_settle kV_settle dc_settle pm_settle cd_settle ct_settle tc_settle oc_Ways_init kV_Ways_init dc_Ways_init pm_Ways_init cd_Ways_init ct_Ways_init oc_Ways_eq kV_Ways_eq dc_Ways_eq pm_Ways_eq cd_Ways_eq ct_Ways_eq oc_Ways_len kV_Ways_len dc_Ways_len pm_Ways_len cd_Ways_len ct_Ways_len oc_Ways_follow kV_Ways_follow dc_Ways_follow pm_Ways_follow cd_Ways_follow ct_Ways_follow tc_Ways_follow oc_Ways_shows kV_Ways_shows dc_Ways_shows pm_Ways_shows cd_Ways_shows ct_Ways_shows tc_Ways_shows oc_ways kV_ways dc_ways pm_ways cd_ways ct_ways tc_ways oc_classes_of kV_classes_of dc_classes_of pm_classes_of cd_classes_of ct_classes_of oc_told_apart kV_told_apart dc_told_apart pm_told_apart cd_told_apart ct_told_apart oc_law_number kV_law_number dc_law_number pm_law_number cd_law_number ct_law_number oc_law_take kV_law_take dc_law_take pm_law_take cd_law_take ct_law_take oc_law_pick kV_law_pick dc_law_pick pm_law_pick cd_law_pick ct_law_pick oc_law_rows kV_law_rows dc_law_rows pm_law_rows cd_law_rows ct_law_rows oc_law_drop kV_law_drop dc_law_drop pm_law_drop cd_law_drop ct_law_drop oc_law_net kV_law_net dc_law_net pm_law_net cd_law_net ct_law_net oc_law_fall kV_law_fall dc_law_fall pm_law_fall cd_law_fall ct_law_fall oc_law_start kV_law_start dc_law_start pm_law_start cd_law_start ct_law_start oc_law_row kV_law_row dc_law_row pm_law_row cd_law_row ct_law_row oc_law_key kV_law_key dc_law_key pm_law_key cd_law_key ct_law_key oc_law_all_ways kV_law_all_ways dc_law_all_ways pm_law_all_ways cd_law_all_ways ct_law_all_ways oc_law_first_apart kV_law_first_apart dc_law_first_apart pm_law_first_apart cd_law_first_apart ct_law_first_apart oc_law kV_law dc_law pm_law cd_law ct_law : Value}
    {od_minors_of an_minors_of od_is_number an_is_number od_is_name an_is_name od_is_row an_is_row od_is_knot an_is_knot od_first_wrong an_first_wrong od_Net_init an_Net_init od_Net_met an_Net_met od_Net_start an_Net_start od_Net_front an_Net_front od_Net_period an_Net_period od_Net_turned an_Net_turned od_Net_check_standing an_Net_check_standing od_Net_place_behind an_Net_place_behind od_Net_dropped an_Net_dropped od_count an_count od_check_net an_check_net od_lattice an_lattice od_ends an_ends od_check_balls an_check_balls od_Board_init an_Board_init od_Board_take an_Board_take od_Board_first_waiting an_Board_first_waiting od_Settled_init an_Settled_init od_begun an_begun od_settle an_settle tq_settle od_Ways_init an_Ways_init od_Ways_eq an_Ways_eq od_Ways_len an_Ways_len od_Ways_follow an_Ways_follow tq_Ways_follow od_Ways_shows an_Ways_shows tq_Ways_shows od_ways an_ways tq_ways od_classes_of an_classes_of od_told_apart an_told_apart od_law_number an_law_number od_law_take an_law_take od_law_pick an_law_pick od_law_rows an_law_rows od_law_drop an_law_drop od_law_net an_law_net od_law_fall an_law_fall od_law_start an_law_start od_law_row an_law_row od_law_key an_law_key od_law_all_ways an_law_all_ways od_law_first_apart an_law_first_apart od_law an_law : Option Addr}
    {sl_minors_of sl_is_number sl_is_name sl_is_row sl_is_knot sl_first_wrong sl_Net_init sl_Net_met sl_Net_start sl_Net_front sl_Net_period sl_Net_turned sl_Net_check_standing sl_Net_place_behind sl_Net_dropped sl_count sl_check_net sl_lattice sl_ends sl_check_balls sl_Board_init sl_Board_take sl_Board_first_waiting sl_Settled_init sl_begun sl_settle ts_settle sl_Ways_init sl_Ways_eq sl_Ways_len sl_Ways_follow ts_Ways_follow sl_Ways_shows ts_Ways_shows sl_ways ts_ways sl_classes_of sl_told_apart sl_law_number sl_law_take sl_law_pick sl_law_rows sl_law_drop sl_law_net sl_law_fall sl_law_start sl_law_row sl_law_key sl_law_all_ways sl_law_first_apart sl_law : Array (Option Value)}
    {tn_settle : Nat} {tk_Ways_follow : Tok} {tn_Ways_follow : Nat} {tn_Ways_shows : Nat} {tn_ways : Nat} {tt_MOST_KNOTS : Tok} {tt_MOST_DROPS : Tok} {tt_MOST_TARGETS : Tok} {tt_MOST_SIGNS : Tok} {tt_MOST_STANDINGS : Tok}
    (X : K.In h) (G : h.Ns mainGlobals mg) (hfa : mg "law" = some (.ref fa))
    (g_cn : PySem.W.specialIn K (.builtin "object.__class__") "__get__" = some (some (.builtin "getset_descriptor.__get__")))
    (g_ct : PySem.W.takesIn K (.builtin "object.__class__") = some true)
    (g_Net : PySem.W.nsIn K mainGlobals "Net" = some (some (.ref C_Net)))
    (pg_Net : PySem.W.plainGet K C_Net Str.empty = true)
    (hd_Net : PySem.W.hasDictIn K C_Net = true)
    (po_Net : PySem.W.plainOver K C_Net = true)
    (sa_Net : PySem.W.findIn K (.ref C_Net) "__setattr__" = some (some (.builtin "object.__setattr__")))
    (mr_Net : PySem.W.mroIn K C_Net (.type "object") = some true)
    (ca_Net : PySem.W.findIn K (.ref C_Net) "__class__" = some (some (.builtin "object.__class__")))
    (mk_Net : PySem.W.makesIn K C_Net = true)
    (kc_Net : PySem.W.keepIn K (.ref C_Net) = true)
    (g_Board : PySem.W.nsIn K mainGlobals "Board" = some (some (.ref C_Board)))
    (pg_Board : PySem.W.plainGet K C_Board Str.empty = true)
    (hd_Board : PySem.W.hasDictIn K C_Board = true)
    (po_Board : PySem.W.plainOver K C_Board = true)
    (sa_Board : PySem.W.findIn K (.ref C_Board) "__setattr__" = some (some (.builtin "object.__setattr__")))
    (mr_Board : PySem.W.mroIn K C_Board (.type "object") = some true)
    (ca_Board : PySem.W.findIn K (.ref C_Board) "__class__" = some (some (.builtin "object.__class__")))
    (mk_Board : PySem.W.makesIn K C_Board = true)
    (kc_Board : PySem.W.keepIn K (.ref C_Board) = true)
    (g_Settled : PySem.W.nsIn K mainGlobals "Settled" = some (some (.ref C_Settled)))
    (pg_Settled : PySem.W.plainGet K C_Settled Str.empty = true)
    (hd_Settled : PySem.W.hasDictIn K C_Settled = true)
    (po_Settled : PySem.W.plainOver K C_Settled = true)
    (sa_Settled : PySem.W.findIn K (.ref C_Settled) "__setattr__" = some (some (.builtin "object.__setattr__")))
    (mr_Settled : PySem.W.mroIn K C_Settled (.type "object") = some true)
    (ca_Settled : PySem.W.findIn K (.ref C_Settled) "__class__" = some (some (.builtin "object.__class__")))
    (mk_Settled : PySem.W.makesIn K C_Settled = true)
    (kc_Settled : PySem.W.keepIn K (.ref C_Settled) = true)
    (g_Ways : PySem.W.nsIn K mainGlobals "Ways" = some (some (.ref C_Ways)))
    (pg_Ways : PySem.W.plainGet K C_Ways Str.empty = true)
    (hd_Ways : PySem.W.hasDictIn K C_Ways = true)
    (po_Ways : PySem.W.plainOver K C_Ways = true)
    (sa_Ways : PySem.W.findIn K (.ref C_Ways) "__setattr__" = some (some (.builtin "object.__setattr__")))
    (mr_Ways : PySem.W.mroIn K C_Ways (.type "object") = some true)
    (ca_Ways : PySem.W.findIn K (.ref C_Ways) "__class__" = some (some (.builtin "object.__class__")))
    (mk_Ways : PySem.W.makesIn K C_Ways = true)
    (kc_Ways : PySem.W.keepIn K (.ref C_Ways) = true)
    (m_minors_of : PySem.W.nsIn K mainGlobals "minors_of" = some (some (.ref f_minors_of)))
    (l_minors_of : K.lookup f_minors_of = some ⟨oc_minors_of, od_minors_of, .func (PySem.W.fnOf "minors_of" "minors_of" (defArgs s_minors_of) (defBody s_minors_of) (defScope s_minors_of) .none kV_minors_of dc_minors_of pm_minors_of an_minors_of cd_minors_of ct_minors_of), sl_minors_of⟩)
    (c_minors_of : PySem.W.codeIn K cd_minors_of "minors_of" = true)
    (k_minors_of : PySem.W.keepIn K (.ref f_minors_of) = true)
    (m_is_number : PySem.W.nsIn K mainGlobals "is_number" = some (some (.ref f_is_number)))
    (l_is_number : K.lookup f_is_number = some ⟨oc_is_number, od_is_number, .func (PySem.W.fnOf "is_number" "is_number" (defArgs s_is_number) (defBody s_is_number) (defScope s_is_number) .none kV_is_number dc_is_number pm_is_number an_is_number cd_is_number ct_is_number), sl_is_number⟩)
    (c_is_number : PySem.W.codeIn K cd_is_number "is_number" = true)
    (k_is_number : PySem.W.keepIn K (.ref f_is_number) = true)
    (m_is_name : PySem.W.nsIn K mainGlobals "is_name" = some (some (.ref f_is_name)))
    (l_is_name : K.lookup f_is_name = some ⟨oc_is_name, od_is_name, .func (PySem.W.fnOf "is_name" "is_name" (defArgs s_is_name) (defBody s_is_name) (defScope s_is_name) .none kV_is_name dc_is_name pm_is_name an_is_name cd_is_name ct_is_name), sl_is_name⟩)
    (c_is_name : PySem.W.codeIn K cd_is_name "is_name" = true)
    (k_is_name : PySem.W.keepIn K (.ref f_is_name) = true)
    (m_is_row : PySem.W.nsIn K mainGlobals "is_row" = some (some (.ref f_is_row)))
    (l_is_row : K.lookup f_is_row = some ⟨oc_is_row, od_is_row, .func (PySem.W.fnOf "is_row" "is_row" (defArgs s_is_row) (defBody s_is_row) (defScope s_is_row) .none kV_is_row dc_is_row pm_is_row an_is_row cd_is_row ct_is_row), sl_is_row⟩)
    (c_is_row : PySem.W.codeIn K cd_is_row "is_row" = true)
    (k_is_row : PySem.W.keepIn K (.ref f_is_row) = true)
    (m_is_knot : PySem.W.nsIn K mainGlobals "is_knot" = some (some (.ref f_is_knot)))
    (l_is_knot : K.lookup f_is_knot = some ⟨oc_is_knot, od_is_knot, .func (PySem.W.fnOf "is_knot" "is_knot" (defArgs s_is_knot) (defBody s_is_knot) (defScope s_is_knot) .none kV_is_knot dc_is_knot pm_is_knot an_is_knot cd_is_knot ct_is_knot), sl_is_knot⟩)
    (c_is_knot : PySem.W.codeIn K cd_is_knot "is_knot" = true)
    (k_is_knot : PySem.W.keepIn K (.ref f_is_knot) = true)
    (m_first_wrong : PySem.W.nsIn K mainGlobals "first_wrong" = some (some (.ref f_first_wrong)))
    (l_first_wrong : K.lookup f_first_wrong = some ⟨oc_first_wrong, od_first_wrong, .func (PySem.W.fnOf "first_wrong" "first_wrong" (defArgs s_first_wrong) (defBody s_first_wrong) (defScope s_first_wrong) .none kV_first_wrong dc_first_wrong pm_first_wrong an_first_wrong cd_first_wrong ct_first_wrong), sl_first_wrong⟩)
    (c_first_wrong : PySem.W.codeIn K cd_first_wrong "first_wrong" = true)
    (k_first_wrong : PySem.W.keepIn K (.ref f_first_wrong) = true)
    (m_Net_init : PySem.W.findIn K (.ref C_Net) "__init__" = some (some (.ref f_Net_init)))
    (i_Net_init : PySem.W.isFn K (.ref f_Net_init) = true)
    (l_Net_init : K.lookup f_Net_init = some ⟨oc_Net_init, od_Net_init, .func (PySem.W.fnOf "__init__" "Net.__init__" (defArgs s_Net_init) (defBody s_Net_init) (defScope s_Net_init) .none kV_Net_init dc_Net_init pm_Net_init an_Net_init cd_Net_init ct_Net_init), sl_Net_init⟩)
    (c_Net_init : PySem.W.codeIn K cd_Net_init "Net.__init__" = true)
    (k_Net_init : PySem.W.keepIn K (.ref f_Net_init) = true)
    (m_Net_met : PySem.W.findIn K (.ref C_Net) "met" = some (some (.ref f_Net_met)))
    (i_Net_met : PySem.W.isFn K (.ref f_Net_met) = true)
    (l_Net_met : K.lookup f_Net_met = some ⟨oc_Net_met, od_Net_met, .func (PySem.W.fnOf "met" "Net.met" (defArgs s_Net_met) (defBody s_Net_met) (defScope s_Net_met) .none kV_Net_met dc_Net_met pm_Net_met an_Net_met cd_Net_met ct_Net_met), sl_Net_met⟩)
    (c_Net_met : PySem.W.codeIn K cd_Net_met "Net.met" = true)
    (k_Net_met : PySem.W.keepIn K (.ref f_Net_met) = true)
    (m_Net_start : PySem.W.findIn K (.ref C_Net) "start" = some (some (.ref f_Net_start)))
    (i_Net_start : PySem.W.isFn K (.ref f_Net_start) = true)
    (l_Net_start : K.lookup f_Net_start = some ⟨oc_Net_start, od_Net_start, .func (PySem.W.fnOf "start" "Net.start" (defArgs s_Net_start) (defBody s_Net_start) (defScope s_Net_start) .none kV_Net_start dc_Net_start pm_Net_start an_Net_start cd_Net_start ct_Net_start), sl_Net_start⟩)
    (c_Net_start : PySem.W.codeIn K cd_Net_start "Net.start" = true)
    (k_Net_start : PySem.W.keepIn K (.ref f_Net_start) = true)
    (m_Net_front : PySem.W.findIn K (.ref C_Net) "front" = some (some (.ref f_Net_front)))
    (i_Net_front : PySem.W.isFn K (.ref f_Net_front) = true)
    (l_Net_front : K.lookup f_Net_front = some ⟨oc_Net_front, od_Net_front, .func (PySem.W.fnOf "front" "Net.front" (defArgs s_Net_front) (defBody s_Net_front) (defScope s_Net_front) .none kV_Net_front dc_Net_front pm_Net_front an_Net_front cd_Net_front ct_Net_front), sl_Net_front⟩)
    (c_Net_front : PySem.W.codeIn K cd_Net_front "Net.front" = true)
    (k_Net_front : PySem.W.keepIn K (.ref f_Net_front) = true)
    (m_Net_period : PySem.W.findIn K (.ref C_Net) "period" = some (some (.ref f_Net_period)))
    (i_Net_period : PySem.W.isFn K (.ref f_Net_period) = true)
    (l_Net_period : K.lookup f_Net_period = some ⟨oc_Net_period, od_Net_period, .func (PySem.W.fnOf "period" "Net.period" (defArgs s_Net_period) (defBody s_Net_period) (defScope s_Net_period) .none kV_Net_period dc_Net_period pm_Net_period an_Net_period cd_Net_period ct_Net_period), sl_Net_period⟩)
    (c_Net_period : PySem.W.codeIn K cd_Net_period "Net.period" = true)
    (k_Net_period : PySem.W.keepIn K (.ref f_Net_period) = true)
    (m_Net_turned : PySem.W.findIn K (.ref C_Net) "turned" = some (some (.ref f_Net_turned)))
    (i_Net_turned : PySem.W.isFn K (.ref f_Net_turned) = true)
    (l_Net_turned : K.lookup f_Net_turned = some ⟨oc_Net_turned, od_Net_turned, .func (PySem.W.fnOf "turned" "Net.turned" (defArgs s_Net_turned) (defBody s_Net_turned) (defScope s_Net_turned) .none kV_Net_turned dc_Net_turned pm_Net_turned an_Net_turned cd_Net_turned ct_Net_turned), sl_Net_turned⟩)
    (c_Net_turned : PySem.W.codeIn K cd_Net_turned "Net.turned" = true)
    (k_Net_turned : PySem.W.keepIn K (.ref f_Net_turned) = true)
    (m_Net_check_standing : PySem.W.findIn K (.ref C_Net) "check_standing" = some (some (.ref f_Net_check_standing)))
    (i_Net_check_standing : PySem.W.isFn K (.ref f_Net_check_standing) = true)
    (l_Net_check_standing : K.lookup f_Net_check_standing = some ⟨oc_Net_check_standing, od_Net_check_standing, .func (PySem.W.fnOf "check_standing" "Net.check_standing" (defArgs s_Net_check_standing) (defBody s_Net_check_standing) (defScope s_Net_check_standing) .none kV_Net_check_standing dc_Net_check_standing pm_Net_check_standing an_Net_check_standing cd_Net_check_standing ct_Net_check_standing), sl_Net_check_standing⟩)
    (c_Net_check_standing : PySem.W.codeIn K cd_Net_check_standing "Net.check_standing" = true)
    (k_Net_check_standing : PySem.W.keepIn K (.ref f_Net_check_standing) = true)
    (m_Net_place_behind : PySem.W.findIn K (.ref C_Net) "place_behind" = some (some (.ref f_Net_place_behind)))
    (i_Net_place_behind : PySem.W.isFn K (.ref f_Net_place_behind) = true)
    (l_Net_place_behind : K.lookup f_Net_place_behind = some ⟨oc_Net_place_behind, od_Net_place_behind, .func (PySem.W.fnOf "place_behind" "Net.place_behind" (defArgs s_Net_place_behind) (defBody s_Net_place_behind) (defScope s_Net_place_behind) .none kV_Net_place_behind dc_Net_place_behind pm_Net_place_behind an_Net_place_behind cd_Net_place_behind ct_Net_place_behind), sl_Net_place_behind⟩)
    (c_Net_place_behind : PySem.W.codeIn K cd_Net_place_behind "Net.place_behind" = true)
    (k_Net_place_behind : PySem.W.keepIn K (.ref f_Net_place_behind) = true)
    (m_Net_dropped : PySem.W.findIn K (.ref C_Net) "dropped" = some (some (.ref f_Net_dropped)))
    (i_Net_dropped : PySem.W.isFn K (.ref f_Net_dropped) = true)
    (l_Net_dropped : K.lookup f_Net_dropped = some ⟨oc_Net_dropped, od_Net_dropped, .func (PySem.W.fnOf "dropped" "Net.dropped" (defArgs s_Net_dropped) (defBody s_Net_dropped) (defScope s_Net_dropped) .none kV_Net_dropped dc_Net_dropped pm_Net_dropped an_Net_dropped cd_Net_dropped ct_Net_dropped), sl_Net_dropped⟩)
    (c_Net_dropped : PySem.W.codeIn K cd_Net_dropped "Net.dropped" = true)
    (k_Net_dropped : PySem.W.keepIn K (.ref f_Net_dropped) = true)
    (m_count : PySem.W.nsIn K mainGlobals "count" = some (some (.ref f_count)))
    (l_count : K.lookup f_count = some ⟨oc_count, od_count, .func (PySem.W.fnOf "count" "count" (defArgs s_count) (defBody s_count) (defScope s_count) .none kV_count dc_count pm_count an_count cd_count ct_count), sl_count⟩)
    (c_count : PySem.W.codeIn K cd_count "count" = true)
    (k_count : PySem.W.keepIn K (.ref f_count) = true)
    (m_check_net : PySem.W.nsIn K mainGlobals "check_net" = some (some (.ref f_check_net)))
    (l_check_net : K.lookup f_check_net = some ⟨oc_check_net, od_check_net, .func (PySem.W.fnOf "check_net" "check_net" (defArgs s_check_net) (defBody s_check_net) (defScope s_check_net) .none kV_check_net dc_check_net pm_check_net an_check_net cd_check_net ct_check_net), sl_check_net⟩)
    (c_check_net : PySem.W.codeIn K cd_check_net "check_net" = true)
    (k_check_net : PySem.W.keepIn K (.ref f_check_net) = true)
    (m_lattice : PySem.W.nsIn K mainGlobals "lattice" = some (some (.ref f_lattice)))
    (l_lattice : K.lookup f_lattice = some ⟨oc_lattice, od_lattice, .func (PySem.W.fnOf "lattice" "lattice" (defArgs s_lattice) (defBody s_lattice) (defScope s_lattice) .none kV_lattice dc_lattice pm_lattice an_lattice cd_lattice ct_lattice), sl_lattice⟩)
    (c_lattice : PySem.W.codeIn K cd_lattice "lattice" = true)
    (k_lattice : PySem.W.keepIn K (.ref f_lattice) = true)
    (m_ends : PySem.W.nsIn K mainGlobals "ends" = some (some (.ref f_ends)))
    (l_ends : K.lookup f_ends = some ⟨oc_ends, od_ends, .func (PySem.W.fnOf "ends" "ends" (defArgs s_ends) (defBody s_ends) (defScope s_ends) .none kV_ends dc_ends pm_ends an_ends cd_ends ct_ends), sl_ends⟩)
    (c_ends : PySem.W.codeIn K cd_ends "ends" = true)
    (k_ends : PySem.W.keepIn K (.ref f_ends) = true)
    (m_check_balls : PySem.W.nsIn K mainGlobals "check_balls" = some (some (.ref f_check_balls)))
    (l_check_balls : K.lookup f_check_balls = some ⟨oc_check_balls, od_check_balls, .func (PySem.W.fnOf "check_balls" "check_balls" (defArgs s_check_balls) (defBody s_check_balls) (defScope s_check_balls) .none kV_check_balls dc_check_balls pm_check_balls an_check_balls cd_check_balls ct_check_balls), sl_check_balls⟩)
    (c_check_balls : PySem.W.codeIn K cd_check_balls "check_balls" = true)
    (k_check_balls : PySem.W.keepIn K (.ref f_check_balls) = true)
    (m_Board_init : PySem.W.findIn K (.ref C_Board) "__init__" = some (some (.ref f_Board_init)))
    (i_Board_init : PySem.W.isFn K (.ref f_Board_init) = true)
    (l_Board_init : K.lookup f_Board_init = some ⟨oc_Board_init, od_Board_init, .func (PySem.W.fnOf "__init__" "Board.__init__" (defArgs s_Board_init) (defBody s_Board_init) (defScope s_Board_init) .none kV_Board_init dc_Board_init pm_Board_init an_Board_init cd_Board_init ct_Board_init), sl_Board_init⟩)
    (c_Board_init : PySem.W.codeIn K cd_Board_init "Board.__init__" = true)
    (k_Board_init : PySem.W.keepIn K (.ref f_Board_init) = true)
    (m_Board_take : PySem.W.findIn K (.ref C_Board) "take" = some (some (.ref f_Board_take)))
    (i_Board_take : PySem.W.isFn K (.ref f_Board_take) = true)
    (l_Board_take : K.lookup f_Board_take = some ⟨oc_Board_take, od_Board_take, .func (PySem.W.fnOf "take" "Board.take" (defArgs s_Board_take) (defBody s_Board_take) (defScope s_Board_take) .none kV_Board_take dc_Board_take pm_Board_take an_Board_take cd_Board_take ct_Board_take), sl_Board_take⟩)
    (c_Board_take : PySem.W.codeIn K cd_Board_take "Board.take" = true)
    (k_Board_take : PySem.W.keepIn K (.ref f_Board_take) = true)
    (m_Board_first_waiting : PySem.W.findIn K (.ref C_Board) "first_waiting" = some (some (.ref f_Board_first_waiting)))
    (i_Board_first_waiting : PySem.W.isFn K (.ref f_Board_first_waiting) = true)
    (l_Board_first_waiting : K.lookup f_Board_first_waiting = some ⟨oc_Board_first_waiting, od_Board_first_waiting, .func (PySem.W.fnOf "first_waiting" "Board.first_waiting" (defArgs s_Board_first_waiting) (defBody s_Board_first_waiting) (defScope s_Board_first_waiting) .none kV_Board_first_waiting dc_Board_first_waiting pm_Board_first_waiting an_Board_first_waiting cd_Board_first_waiting ct_Board_first_waiting), sl_Board_first_waiting⟩)
    (c_Board_first_waiting : PySem.W.codeIn K cd_Board_first_waiting "Board.first_waiting" = true)
    (k_Board_first_waiting : PySem.W.keepIn K (.ref f_Board_first_waiting) = true)
    (m_Settled_init : PySem.W.findIn K (.ref C_Settled) "__init__" = some (some (.ref f_Settled_init)))
    (i_Settled_init : PySem.W.isFn K (.ref f_Settled_init) = true)
    (l_Settled_init : K.lookup f_Settled_init = some ⟨oc_Settled_init, od_Settled_init, .func (PySem.W.fnOf "__init__" "Settled.__init__" (defArgs s_Settled_init) (defBody s_Settled_init) (defScope s_Settled_init) .none kV_Settled_init dc_Settled_init pm_Settled_init an_Settled_init cd_Settled_init ct_Settled_init), sl_Settled_init⟩)
    (c_Settled_init : PySem.W.codeIn K cd_Settled_init "Settled.__init__" = true)
    (k_Settled_init : PySem.W.keepIn K (.ref f_Settled_init) = true)
    (m_begun : PySem.W.nsIn K mainGlobals "begun" = some (some (.ref f_begun)))
    (l_begun : K.lookup f_begun = some ⟨oc_begun, od_begun, .func (PySem.W.fnOf "begun" "begun" (defArgs s_begun) (defBody s_begun) (defScope s_begun) .none kV_begun dc_begun pm_begun an_begun cd_begun ct_begun), sl_begun⟩)
    (c_begun : PySem.W.codeIn K cd_begun "begun" = true)
    (k_begun : PySem.W.keepIn K (.ref f_begun) = true)
    (m_settle : PySem.W.nsIn K mainGlobals "settle" = some (some (.ref f_settle)))
    (l_settle : K.lookup f_settle = some ⟨oc_settle, od_settle, .func (PySem.W.fnOf "settle" "settle" (defArgs s_settle) (defBody s_settle) (defScope s_settle) (.ref td_settle) kV_settle dc_settle pm_settle an_settle cd_settle ct_settle), sl_settle⟩)
    (c_settle : PySem.W.codeIn K cd_settle "settle" = true)
    (k_settle : PySem.W.keepIn K (.ref f_settle) = true)
    (t_settle : K.lookup td_settle = some ⟨tc_settle, tq_settle, .seq #[.none] tn_settle, ts_settle⟩)
    (m_Ways_init : PySem.W.findIn K (.ref C_Ways) "__init__" = some (some (.ref f_Ways_init)))
    (i_Ways_init : PySem.W.isFn K (.ref f_Ways_init) = true)
    (l_Ways_init : K.lookup f_Ways_init = some ⟨oc_Ways_init, od_Ways_init, .func (PySem.W.fnOf "__init__" "Ways.__init__" (defArgs s_Ways_init) (defBody s_Ways_init) (defScope s_Ways_init) .none kV_Ways_init dc_Ways_init pm_Ways_init an_Ways_init cd_Ways_init ct_Ways_init), sl_Ways_init⟩)
    (c_Ways_init : PySem.W.codeIn K cd_Ways_init "Ways.__init__" = true)
    (k_Ways_init : PySem.W.keepIn K (.ref f_Ways_init) = true)
    (m_Ways_eq : PySem.W.findIn K (.ref C_Ways) "__eq__" = some (some (.ref f_Ways_eq)))
    (i_Ways_eq : PySem.W.isFn K (.ref f_Ways_eq) = true)
    (l_Ways_eq : K.lookup f_Ways_eq = some ⟨oc_Ways_eq, od_Ways_eq, .func (PySem.W.fnOf "__eq__" "Ways.__eq__" (defArgs s_Ways_eq) (defBody s_Ways_eq) (defScope s_Ways_eq) .none kV_Ways_eq dc_Ways_eq pm_Ways_eq an_Ways_eq cd_Ways_eq ct_Ways_eq), sl_Ways_eq⟩)
    (c_Ways_eq : PySem.W.codeIn K cd_Ways_eq "Ways.__eq__" = true)
    (k_Ways_eq : PySem.W.keepIn K (.ref f_Ways_eq) = true)
    (m_Ways_len : PySem.W.findIn K (.ref C_Ways) "__len__" = some (some (.ref f_Ways_len)))
    (i_Ways_len : PySem.W.isFn K (.ref f_Ways_len) = true)
    (l_Ways_len : K.lookup f_Ways_len = some ⟨oc_Ways_len, od_Ways_len, .func (PySem.W.fnOf "__len__" "Ways.__len__" (defArgs s_Ways_len) (defBody s_Ways_len) (defScope s_Ways_len) .none kV_Ways_len dc_Ways_len pm_Ways_len an_Ways_len cd_Ways_len ct_Ways_len), sl_Ways_len⟩)
    (c_Ways_len : PySem.W.codeIn K cd_Ways_len "Ways.__len__" = true)
    (k_Ways_len : PySem.W.keepIn K (.ref f_Ways_len) = true)
    (m_Ways_follow : PySem.W.findIn K (.ref C_Ways) "follow" = some (some (.ref f_Ways_follow)))
    (i_Ways_follow : PySem.W.isFn K (.ref f_Ways_follow) = true)
    (l_Ways_follow : K.lookup f_Ways_follow = some ⟨oc_Ways_follow, od_Ways_follow, .func (PySem.W.fnOf "follow" "Ways.follow" (defArgs s_Ways_follow) (defBody s_Ways_follow) (defScope s_Ways_follow) (.ref td_Ways_follow) kV_Ways_follow dc_Ways_follow pm_Ways_follow an_Ways_follow cd_Ways_follow ct_Ways_follow), sl_Ways_follow⟩)
    (c_Ways_follow : PySem.W.codeIn K cd_Ways_follow "Ways.follow" = true)
    (k_Ways_follow : PySem.W.keepIn K (.ref f_Ways_follow) = true)
    (t_Ways_follow : K.lookup td_Ways_follow = some ⟨tc_Ways_follow, tq_Ways_follow, .seq #[(.int 0 tk_Ways_follow)] tn_Ways_follow, ts_Ways_follow⟩)
    (m_Ways_shows : PySem.W.findIn K (.ref C_Ways) "shows" = some (some (.ref f_Ways_shows)))
    (i_Ways_shows : PySem.W.isFn K (.ref f_Ways_shows) = true)
    (l_Ways_shows : K.lookup f_Ways_shows = some ⟨oc_Ways_shows, od_Ways_shows, .func (PySem.W.fnOf "shows" "Ways.shows" (defArgs s_Ways_shows) (defBody s_Ways_shows) (defScope s_Ways_shows) (.ref td_Ways_shows) kV_Ways_shows dc_Ways_shows pm_Ways_shows an_Ways_shows cd_Ways_shows ct_Ways_shows), sl_Ways_shows⟩)
    (c_Ways_shows : PySem.W.codeIn K cd_Ways_shows "Ways.shows" = true)
    (k_Ways_shows : PySem.W.keepIn K (.ref f_Ways_shows) = true)
    (t_Ways_shows : K.lookup td_Ways_shows = some ⟨tc_Ways_shows, tq_Ways_shows, .seq #[.none] tn_Ways_shows, ts_Ways_shows⟩)
    (m_ways : PySem.W.nsIn K mainGlobals "ways" = some (some (.ref f_ways)))
    (l_ways : K.lookup f_ways = some ⟨oc_ways, od_ways, .func (PySem.W.fnOf "ways" "ways" (defArgs s_ways) (defBody s_ways) (defScope s_ways) (.ref td_ways) kV_ways dc_ways pm_ways an_ways cd_ways ct_ways), sl_ways⟩)
    (c_ways : PySem.W.codeIn K cd_ways "ways" = true)
    (k_ways : PySem.W.keepIn K (.ref f_ways) = true)
    (t_ways : K.lookup td_ways = some ⟨tc_ways, tq_ways, .seq #[.none] tn_ways, ts_ways⟩)
    (m_classes_of : PySem.W.nsIn K mainGlobals "classes_of" = some (some (.ref f_classes_of)))
    (l_classes_of : K.lookup f_classes_of = some ⟨oc_classes_of, od_classes_of, .func (PySem.W.fnOf "classes_of" "classes_of" (defArgs s_classes_of) (defBody s_classes_of) (defScope s_classes_of) .none kV_classes_of dc_classes_of pm_classes_of an_classes_of cd_classes_of ct_classes_of), sl_classes_of⟩)
    (c_classes_of : PySem.W.codeIn K cd_classes_of "classes_of" = true)
    (k_classes_of : PySem.W.keepIn K (.ref f_classes_of) = true)
    (m_told_apart : PySem.W.nsIn K mainGlobals "told_apart" = some (some (.ref f_told_apart)))
    (l_told_apart : K.lookup f_told_apart = some ⟨oc_told_apart, od_told_apart, .func (PySem.W.fnOf "told_apart" "told_apart" (defArgs s_told_apart) (defBody s_told_apart) (defScope s_told_apart) .none kV_told_apart dc_told_apart pm_told_apart an_told_apart cd_told_apart ct_told_apart), sl_told_apart⟩)
    (c_told_apart : PySem.W.codeIn K cd_told_apart "told_apart" = true)
    (k_told_apart : PySem.W.keepIn K (.ref f_told_apart) = true)
    (m_law_number : PySem.W.nsIn K mainGlobals "_law_number" = some (some (.ref f_law_number)))
    (l_law_number : K.lookup f_law_number = some ⟨oc_law_number, od_law_number, .func (PySem.W.fnOf "_law_number" "_law_number" (defArgs s_law_number) (defBody s_law_number) (defScope s_law_number) .none kV_law_number dc_law_number pm_law_number an_law_number cd_law_number ct_law_number), sl_law_number⟩)
    (c_law_number : PySem.W.codeIn K cd_law_number "_law_number" = true)
    (k_law_number : PySem.W.keepIn K (.ref f_law_number) = true)
    (m_law_take : PySem.W.nsIn K mainGlobals "_law_take" = some (some (.ref f_law_take)))
    (l_law_take : K.lookup f_law_take = some ⟨oc_law_take, od_law_take, .func (PySem.W.fnOf "_law_take" "_law_take" (defArgs s_law_take) (defBody s_law_take) (defScope s_law_take) .none kV_law_take dc_law_take pm_law_take an_law_take cd_law_take ct_law_take), sl_law_take⟩)
    (c_law_take : PySem.W.codeIn K cd_law_take "_law_take" = true)
    (k_law_take : PySem.W.keepIn K (.ref f_law_take) = true)
    (m_law_pick : PySem.W.nsIn K mainGlobals "_law_pick" = some (some (.ref f_law_pick)))
    (l_law_pick : K.lookup f_law_pick = some ⟨oc_law_pick, od_law_pick, .func (PySem.W.fnOf "_law_pick" "_law_pick" (defArgs s_law_pick) (defBody s_law_pick) (defScope s_law_pick) .none kV_law_pick dc_law_pick pm_law_pick an_law_pick cd_law_pick ct_law_pick), sl_law_pick⟩)
    (c_law_pick : PySem.W.codeIn K cd_law_pick "_law_pick" = true)
    (k_law_pick : PySem.W.keepIn K (.ref f_law_pick) = true)
    (m_law_rows : PySem.W.nsIn K mainGlobals "_law_rows" = some (some (.ref f_law_rows)))
    (l_law_rows : K.lookup f_law_rows = some ⟨oc_law_rows, od_law_rows, .func (PySem.W.fnOf "_law_rows" "_law_rows" (defArgs s_law_rows) (defBody s_law_rows) (defScope s_law_rows) .none kV_law_rows dc_law_rows pm_law_rows an_law_rows cd_law_rows ct_law_rows), sl_law_rows⟩)
    (c_law_rows : PySem.W.codeIn K cd_law_rows "_law_rows" = true)
    (k_law_rows : PySem.W.keepIn K (.ref f_law_rows) = true)
    (m_law_drop : PySem.W.nsIn K mainGlobals "_law_drop" = some (some (.ref f_law_drop)))
    (l_law_drop : K.lookup f_law_drop = some ⟨oc_law_drop, od_law_drop, .func (PySem.W.fnOf "_law_drop" "_law_drop" (defArgs s_law_drop) (defBody s_law_drop) (defScope s_law_drop) .none kV_law_drop dc_law_drop pm_law_drop an_law_drop cd_law_drop ct_law_drop), sl_law_drop⟩)
    (c_law_drop : PySem.W.codeIn K cd_law_drop "_law_drop" = true)
    (k_law_drop : PySem.W.keepIn K (.ref f_law_drop) = true)
    (m_law_net : PySem.W.nsIn K mainGlobals "_law_net" = some (some (.ref f_law_net)))
    (l_law_net : K.lookup f_law_net = some ⟨oc_law_net, od_law_net, .func (PySem.W.fnOf "_law_net" "_law_net" (defArgs s_law_net) (defBody s_law_net) (defScope s_law_net) .none kV_law_net dc_law_net pm_law_net an_law_net cd_law_net ct_law_net), sl_law_net⟩)
    (c_law_net : PySem.W.codeIn K cd_law_net "_law_net" = true)
    (k_law_net : PySem.W.keepIn K (.ref f_law_net) = true)
    (m_law_fall : PySem.W.nsIn K mainGlobals "_law_fall" = some (some (.ref f_law_fall)))
    (l_law_fall : K.lookup f_law_fall = some ⟨oc_law_fall, od_law_fall, .func (PySem.W.fnOf "_law_fall" "_law_fall" (defArgs s_law_fall) (defBody s_law_fall) (defScope s_law_fall) .none kV_law_fall dc_law_fall pm_law_fall an_law_fall cd_law_fall ct_law_fall), sl_law_fall⟩)
    (c_law_fall : PySem.W.codeIn K cd_law_fall "_law_fall" = true)
    (k_law_fall : PySem.W.keepIn K (.ref f_law_fall) = true)
    (m_law_start : PySem.W.nsIn K mainGlobals "_law_start" = some (some (.ref f_law_start)))
    (l_law_start : K.lookup f_law_start = some ⟨oc_law_start, od_law_start, .func (PySem.W.fnOf "_law_start" "_law_start" (defArgs s_law_start) (defBody s_law_start) (defScope s_law_start) .none kV_law_start dc_law_start pm_law_start an_law_start cd_law_start ct_law_start), sl_law_start⟩)
    (c_law_start : PySem.W.codeIn K cd_law_start "_law_start" = true)
    (k_law_start : PySem.W.keepIn K (.ref f_law_start) = true)
    (m_law_row : PySem.W.nsIn K mainGlobals "_law_row" = some (some (.ref f_law_row)))
    (l_law_row : K.lookup f_law_row = some ⟨oc_law_row, od_law_row, .func (PySem.W.fnOf "_law_row" "_law_row" (defArgs s_law_row) (defBody s_law_row) (defScope s_law_row) .none kV_law_row dc_law_row pm_law_row an_law_row cd_law_row ct_law_row), sl_law_row⟩)
    (c_law_row : PySem.W.codeIn K cd_law_row "_law_row" = true)
    (k_law_row : PySem.W.keepIn K (.ref f_law_row) = true)
    (m_law_key : PySem.W.nsIn K mainGlobals "_law_key" = some (some (.ref f_law_key)))
    (l_law_key : K.lookup f_law_key = some ⟨oc_law_key, od_law_key, .func (PySem.W.fnOf "_law_key" "_law_key" (defArgs s_law_key) (defBody s_law_key) (defScope s_law_key) .none kV_law_key dc_law_key pm_law_key an_law_key cd_law_key ct_law_key), sl_law_key⟩)
    (c_law_key : PySem.W.codeIn K cd_law_key "_law_key" = true)
    (k_law_key : PySem.W.keepIn K (.ref f_law_key) = true)
    (m_law_all_ways : PySem.W.nsIn K mainGlobals "_law_all_ways" = some (some (.ref f_law_all_ways)))
    (l_law_all_ways : K.lookup f_law_all_ways = some ⟨oc_law_all_ways, od_law_all_ways, .func (PySem.W.fnOf "_law_all_ways" "_law_all_ways" (defArgs s_law_all_ways) (defBody s_law_all_ways) (defScope s_law_all_ways) .none kV_law_all_ways dc_law_all_ways pm_law_all_ways an_law_all_ways cd_law_all_ways ct_law_all_ways), sl_law_all_ways⟩)
    (c_law_all_ways : PySem.W.codeIn K cd_law_all_ways "_law_all_ways" = true)
    (k_law_all_ways : PySem.W.keepIn K (.ref f_law_all_ways) = true)
    (m_law_first_apart : PySem.W.nsIn K mainGlobals "_law_first_apart" = some (some (.ref f_law_first_apart)))
    (l_law_first_apart : K.lookup f_law_first_apart = some ⟨oc_law_first_apart, od_law_first_apart, .func (PySem.W.fnOf "_law_first_apart" "_law_first_apart" (defArgs s_law_first_apart) (defBody s_law_first_apart) (defScope s_law_first_apart) .none kV_law_first_apart dc_law_first_apart pm_law_first_apart an_law_first_apart cd_law_first_apart ct_law_first_apart), sl_law_first_apart⟩)
    (c_law_first_apart : PySem.W.codeIn K cd_law_first_apart "_law_first_apart" = true)
    (k_law_first_apart : PySem.W.keepIn K (.ref f_law_first_apart) = true)
    (m_law : PySem.W.nsIn K mainGlobals "law" = some (some (.ref f_law)))
    (l_law : K.lookup f_law = some ⟨oc_law, od_law, .func (PySem.W.fnOf "law" "law" (defArgs s_law) (defBody s_law) (defScope s_law) .none kV_law dc_law pm_law an_law cd_law ct_law), sl_law⟩)
    (c_law : PySem.W.codeIn K cd_law "law" = true)
    (k_law : PySem.W.keepIn K (.ref f_law) = true)
    (a_Net_knots : PySem.W.findIn K (.ref C_Net) "knots" = some none)
    (a_Net_inlets : PySem.W.findIn K (.ref C_Net) "inlets" = some none)
    (a_Net_outlets : PySem.W.findIn K (.ref C_Net) "outlets" = some none)
    (a_Net_names : PySem.W.findIn K (.ref C_Net) "names" = some none)
    (a_Board_net : PySem.W.findIn K (.ref C_Board) "net" = some none)
    (a_Board_standing : PySem.W.findIn K (.ref C_Board) "standing" = some none)
    (a_Board_waiting : PySem.W.findIn K (.ref C_Board) "waiting" = some none)
    (a_Board_out : PySem.W.findIn K (.ref C_Board) "out" = some none)
    (a_Board_taken : PySem.W.findIn K (.ref C_Board) "taken" = some none)
    (a_Settled_taken : PySem.W.findIn K (.ref C_Settled) "taken" = some none)
    (a_Settled_out : PySem.W.findIn K (.ref C_Settled) "out" = some none)
    (a_Settled_standing : PySem.W.findIn K (.ref C_Settled) "standing" = some none)
    (a_Settled_order : PySem.W.findIn K (.ref C_Settled) "order" = some none)
    (a_Ways_standings : PySem.W.findIn K (.ref C_Ways) "standings" = some none)
    (a_Ways_steps : PySem.W.findIn K (.ref C_Ways) "steps" = some none)
    (ne_Ways : PySem.W.findIn K (.ref C_Ways) "__ne__" = some (some (.builtin "object.__ne__")))
    (z_MOST_KNOTS : PySem.W.nsIn K mainGlobals "MOST_KNOTS" = some (some (.int 12 tt_MOST_KNOTS)))
    (z_MOST_DROPS : PySem.W.nsIn K mainGlobals "MOST_DROPS" = some (some (.int 12 tt_MOST_DROPS)))
    (z_MOST_TARGETS : PySem.W.nsIn K mainGlobals "MOST_TARGETS" = some (some (.int 4 tt_MOST_TARGETS)))
    (z_MOST_SIGNS : PySem.W.nsIn K mainGlobals "MOST_SIGNS" = some (some (.int 16 tt_MOST_SIGNS)))
    (z_MOST_STANDINGS : PySem.W.nsIn K mainGlobals "MOST_STANDINGS" = some (some (.int 1500 tt_MOST_STANDINGS)))
    (y_len : PySem.W.nsIn K mainGlobals "len" = some none)
    (y_isinstance : PySem.W.nsIn K mainGlobals "isinstance" = some none)
    (y_sorted : PySem.W.nsIn K mainGlobals "sorted" = some none)
    (y_all : PySem.W.nsIn K mainGlobals "all" = some none)
    (y_abs : PySem.W.nsIn K mainGlobals "abs" = some none)
    (y_int : PySem.W.nsIn K mainGlobals "int" = some none)
    (y_bool : PySem.W.nsIn K mainGlobals "bool" = some none)
    (y_str : PySem.W.nsIn K mainGlobals "str" = some none)
    (y_tuple : PySem.W.nsIn K mainGlobals "tuple" = some none)
    (y_dict : PySem.W.nsIn K mainGlobals "dict" = some none)
    (y_list : PySem.W.nsIn K mainGlobals "list" = some none)
    (y_range : PySem.W.nsIn K mainGlobals "range" = some none)
    (y_enumerate : PySem.W.nsIn K mainGlobals "enumerate" = some none)
    (y_zip : PySem.W.nsIn K mainGlobals "zip" = some none) :
    ∃ fd : FuncData, (∀ (s : Shared) (v : Value), BindsTo s fd ⟨[v], []⟩ [("_law_script", v)]) ∧ ∀ base : Heap, K.In base → base.Ns mainGlobals mg → FnOk P w K mg base CX0 9 fa fd ["_law_script"] (sp_law K) := by
  have e := hfa.symm.trans (PySem.W.mg_of X G m_law)
  cases e
  have F_minors_of := fun_mk (st := s_minors_of) l_minors_of c_minors_of k_minors_of
  have b_minors_of := F_minors_of.binds (ps := ["rows"]) fun _ _ _ _ _ _ us hl => match us, hl with | [_], _ => rfl
  have F_is_number := fun_mk (st := s_is_number) l_is_number c_is_number k_is_number
  have b_is_number := F_is_number.binds (ps := ["thing"]) fun _ _ _ _ _ _ us hl => match us, hl with | [_], _ => rfl
  have F_is_name := fun_mk (st := s_is_name) l_is_name c_is_name k_is_name
  have b_is_name := F_is_name.binds (ps := ["thing"]) fun _ _ _ _ _ _ us hl => match us, hl with | [_], _ => rfl
  have F_is_row := fun_mk (st := s_is_row) l_is_row c_is_row k_is_row
  have b_is_row := F_is_row.binds (ps := ["thing", "known"]) fun _ _ _ _ _ _ us hl => match us, hl with | [_, _], _ => rfl
  have F_is_knot := fun_mk (st := s_is_knot) l_is_knot c_is_knot k_is_knot
  have b_is_knot := F_is_knot.binds (ps := ["thing", "known"]) fun _ _ _ _ _ _ us hl => match us, hl with | [_, _], _ => rfl
  have F_first_wrong := fun_mk (st := s_first_wrong) l_first_wrong c_first_wrong k_first_wrong
  have b_first_wrong := F_first_wrong.binds (ps := ["names"]) fun _ _ _ _ _ _ us hl => match us, hl with | [_], _ => rfl
  have F_Net_init := fun_mk (st := s_Net_init) l_Net_init c_Net_init k_Net_init
  have b_Net_init := F_Net_init.binds (ps := ["self", "knots", "inlets", "outlets"]) fun _ _ _ _ _ _ us hl => match us, hl with | [_, _, _, _], _ => rfl
  have F_Net_met := fun_mk (st := s_Net_met) l_Net_met c_Net_met k_Net_met
  have b_Net_met := F_Net_met.binds (ps := ["self"]) fun _ _ _ _ _ _ us hl => match us, hl with | [_], _ => rfl
  have F_Net_start := fun_mk (st := s_Net_start) l_Net_start c_Net_start k_Net_start
  have b_Net_start := F_Net_start.binds (ps := ["self"]) fun _ _ _ _ _ _ us hl => match us, hl with | [_], _ => rfl
  have F_Net_front := fun_mk (st := s_Net_front) l_Net_front c_Net_front k_Net_front
  have b_Net_front := F_Net_front.binds (ps := ["self", "name"]) fun _ _ _ _ _ _ us hl => match us, hl with | [_, _], _ => rfl
  have F_Net_period := fun_mk (st := s_Net_period) l_Net_period c_Net_period k_Net_period
  have b_Net_period := F_Net_period.binds (ps := ["self", "name"]) fun _ _ _ _ _ _ us hl => match us, hl with | [_, _], _ => rfl
  have F_Net_turned := fun_mk (st := s_Net_turned) l_Net_turned c_Net_turned k_Net_turned
  have b_Net_turned := F_Net_turned.binds (ps := ["self", "name"]) fun _ _ _ _ _ _ us hl => match us, hl with | [_, _], _ => rfl
  have F_Net_check_standing := fun_mk (st := s_Net_check_standing) l_Net_check_standing c_Net_check_standing k_Net_check_standing
  have b_Net_check_standing := F_Net_check_standing.binds (ps := ["self", "standing"]) fun _ _ _ _ _ _ us hl => match us, hl with | [_, _], _ => rfl
  have F_Net_place_behind := fun_mk (st := s_Net_place_behind) l_Net_place_behind c_Net_place_behind k_Net_place_behind
  have b_Net_place_behind := F_Net_place_behind.binds (ps := ["self", "name", "place", "many"]) fun _ _ _ _ _ _ us hl => match us, hl with | [_, _, _, _], _ => rfl
  have F_Net_dropped := fun_mk (st := s_Net_dropped) l_Net_dropped c_Net_dropped k_Net_dropped
  have b_Net_dropped := F_Net_dropped.binds (ps := ["self", "name", "place", "many"]) fun _ _ _ _ _ _ us hl => match us, hl with | [_, _, _, _], _ => rfl
  have F_count := fun_mk (st := s_count) l_count c_count k_count
  have b_count := F_count.binds (ps := ["found", "drop", "many"]) fun _ _ _ _ _ _ us hl => match us, hl with | [_, _, _], _ => rfl
  have F_check_net := fun_mk (st := s_check_net) l_check_net c_check_net k_check_net
  have b_check_net := F_check_net.binds (ps := ["thing"]) fun _ _ _ _ _ _ us hl => match us, hl with | [_], _ => rfl
  have F_lattice := fun_mk (st := s_lattice) l_lattice c_lattice k_lattice
  have b_lattice := F_lattice.binds (ps := ["net"]) fun _ _ _ _ _ _ us hl => match us, hl with | [_], _ => rfl
  have F_ends := fun_mk (st := s_ends) l_ends c_ends k_ends
  have b_ends := F_ends.binds (ps := ["net"]) fun _ _ _ _ _ _ us hl => match us, hl with | [_], _ => rfl
  have F_check_balls := fun_mk (st := s_check_balls) l_check_balls c_check_balls k_check_balls
  have b_check_balls := F_check_balls.binds (ps := ["net", "balls"]) fun _ _ _ _ _ _ us hl => match us, hl with | [_, _], _ => rfl
  have F_Board_init := fun_mk (st := s_Board_init) l_Board_init c_Board_init k_Board_init
  have b_Board_init := F_Board_init.binds (ps := ["self", "net", "standing", "waiting"]) fun _ _ _ _ _ _ us hl => match us, hl with | [_, _, _, _], _ => rfl
  have F_Board_take := fun_mk (st := s_Board_take) l_Board_take c_Board_take k_Board_take
  have b_Board_take := F_Board_take.binds (ps := ["self", "name", "many"]) fun _ _ _ _ _ _ us hl => match us, hl with | [_, _, _], _ => rfl
  have F_Board_first_waiting := fun_mk (st := s_Board_first_waiting) l_Board_first_waiting c_Board_first_waiting k_Board_first_waiting
  have b_Board_first_waiting := F_Board_first_waiting.binds (ps := ["self"]) fun _ _ _ _ _ _ us hl => match us, hl with | [_], _ => rfl
  have F_Settled_init := fun_mk (st := s_Settled_init) l_Settled_init c_Settled_init k_Settled_init
  have b_Settled_init := F_Settled_init.binds (ps := ["self", "taken", "out", "standing", "order"]) fun _ _ _ _ _ _ us hl => match us, hl with | [_, _, _, _, _], _ => rfl
  have F_begun := fun_mk (st := s_begun) l_begun c_begun k_begun
  have b_begun := F_begun.binds (ps := ["net", "balls", "standing"]) fun _ _ _ _ _ _ us hl => match us, hl with | [_, _, _], _ => rfl
  have F_settle : FunD K "settle" "settle" (defArgs s_settle) (defBody s_settle) (defScope s_settle) [.non] [] f_settle (PySem.W.fnOf "settle" "settle" (defArgs s_settle) (defBody s_settle) (defScope s_settle) (.ref td_settle) kV_settle dc_settle pm_settle an_settle cd_settle ct_settle) := ⟨⟨oc_settle, od_settle, _, kV_settle, dc_settle, pm_settle, an_settle, cd_settle, ct_settle, sl_settle, rfl, l_settle, c_settle, .inr ⟨List.cons_ne_nil _ _, td_settle, _, [.none], tn_settle, rfl, t_settle, rfl, .cons (by first | exact ⟨_, rfl⟩ | constructor) .nil⟩, .inl rfl⟩, k_settle⟩
  have b_settle : Binds K (PySem.W.fnOf "settle" "settle" (defArgs s_settle) (defBody s_settle) (defScope s_settle) (.ref td_settle) kV_settle dc_settle pm_settle an_settle cd_settle ct_settle) ["net", "balls", "standing"] [] := by
    obtain ⟨ds, hv, hb⟩ := F_settle.binds1 (ps := ["net", "balls", "standing"]) 3 1 (List.cons_ne_nil _ _) rfl fun _ _ _ _ _ _ _ us its h1 h2 => match us, h1, its, h2 with | [_, _, _], _, [_], _ => ⟨_, rfl, rfl⟩
    cases hv
    exact hb
  have F_Ways_init := fun_mk (st := s_Ways_init) l_Ways_init c_Ways_init k_Ways_init
  have b_Ways_init := F_Ways_init.binds (ps := ["self", "standings", "steps"]) fun _ _ _ _ _ _ us hl => match us, hl with | [_, _, _], _ => rfl
  have F_Ways_eq := fun_mk (st := s_Ways_eq) l_Ways_eq c_Ways_eq k_Ways_eq
  have b_Ways_eq := F_Ways_eq.binds (ps := ["self", "other"]) fun _ _ _ _ _ _ us hl => match us, hl with | [_, _], _ => rfl
  have F_Ways_len := fun_mk (st := s_Ways_len) l_Ways_len c_Ways_len k_Ways_len
  have b_Ways_len := F_Ways_len.binds (ps := ["self"]) fun _ _ _ _ _ _ us hl => match us, hl with | [_], _ => rfl
  have F_Ways_follow : FunD K "follow" "Ways.follow" (defArgs s_Ways_follow) (defBody s_Ways_follow) (defScope s_Ways_follow) [(.int 0)] [] f_Ways_follow (PySem.W.fnOf "follow" "Ways.follow" (defArgs s_Ways_follow) (defBody s_Ways_follow) (defScope s_Ways_follow) (.ref td_Ways_follow) kV_Ways_follow dc_Ways_follow pm_Ways_follow an_Ways_follow cd_Ways_follow ct_Ways_follow) := ⟨⟨oc_Ways_follow, od_Ways_follow, _, kV_Ways_follow, dc_Ways_follow, pm_Ways_follow, an_Ways_follow, cd_Ways_follow, ct_Ways_follow, sl_Ways_follow, rfl, l_Ways_follow, c_Ways_follow, .inr ⟨List.cons_ne_nil _ _, td_Ways_follow, _, [(.int 0 tk_Ways_follow)], tn_Ways_follow, rfl, t_Ways_follow, rfl, .cons (by first | exact ⟨_, rfl⟩ | constructor) .nil⟩, .inl rfl⟩, k_Ways_follow⟩
  have b_Ways_follow : Binds K (PySem.W.fnOf "follow" "Ways.follow" (defArgs s_Ways_follow) (defBody s_Ways_follow) (defScope s_Ways_follow) (.ref td_Ways_follow) kV_Ways_follow dc_Ways_follow pm_Ways_follow an_Ways_follow cd_Ways_follow ct_Ways_follow) ["self", "rows", "number"] [] := by
    obtain ⟨ds, hv, hb⟩ := F_Ways_follow.binds1 (ps := ["self", "rows", "number"]) 3 1 (List.cons_ne_nil _ _) rfl fun _ _ _ _ _ _ _ us its h1 h2 => match us, h1, its, h2 with | [_, _, _], _, [_], _ => ⟨_, rfl, rfl⟩
    cases hv
    exact hb
  obtain ⟨e_Ways_follow, r_Ways_follow, n_Ways_follow⟩ : ∃ e, RelV (.int 0) e ∧ Binds K (PySem.W.fnOf "follow" "Ways.follow" (defArgs s_Ways_follow) (defBody s_Ways_follow) (defScope s_Ways_follow) (.ref td_Ways_follow) kV_Ways_follow dc_Ways_follow pm_Ways_follow an_Ways_follow cd_Ways_follow ct_Ways_follow) ["self", "rows", "number"] [e] := by
    obtain ⟨ds, hv, hb⟩ := F_Ways_follow.binds1 (ps := ["self", "rows", "number"]) 2 0 (List.cons_ne_nil _ _) rfl fun _ _ _ _ _ _ _ us its h1 h2 => match us, h1, its, h2 with | [_, _], _, [_], _ => ⟨_, rfl, rfl⟩
    cases hv with
    | cons r t =>
      cases t
      exact ⟨_, r, hb⟩
  have F_Ways_shows : FunD K "shows" "Ways.shows" (defArgs s_Ways_shows) (defBody s_Ways_shows) (defScope s_Ways_shows) [.non] [] f_Ways_shows (PySem.W.fnOf "shows" "Ways.shows" (defArgs s_Ways_shows) (defBody s_Ways_shows) (defScope s_Ways_shows) (.ref td_Ways_shows) kV_Ways_shows dc_Ways_shows pm_Ways_shows an_Ways_shows cd_Ways_shows ct_Ways_shows) := ⟨⟨oc_Ways_shows, od_Ways_shows, _, kV_Ways_shows, dc_Ways_shows, pm_Ways_shows, an_Ways_shows, cd_Ways_shows, ct_Ways_shows, sl_Ways_shows, rfl, l_Ways_shows, c_Ways_shows, .inr ⟨List.cons_ne_nil _ _, td_Ways_shows, _, [.none], tn_Ways_shows, rfl, t_Ways_shows, rfl, .cons (by first | exact ⟨_, rfl⟩ | constructor) .nil⟩, .inl rfl⟩, k_Ways_shows⟩
  have b_Ways_shows : Binds K (PySem.W.fnOf "shows" "Ways.shows" (defArgs s_Ways_shows) (defBody s_Ways_shows) (defScope s_Ways_shows) (.ref td_Ways_shows) kV_Ways_shows dc_Ways_shows pm_Ways_shows an_Ways_shows cd_Ways_shows ct_Ways_shows) ["self", "net", "standing"] [] := by
    obtain ⟨ds, hv, hb⟩ := F_Ways_shows.binds1 (ps := ["self", "net", "standing"]) 3 1 (List.cons_ne_nil _ _) rfl fun _ _ _ _ _ _ _ us its h1 h2 => match us, h1, its, h2 with | [_, _, _], _, [_], _ => ⟨_, rfl, rfl⟩
    cases hv
    exact hb
  obtain ⟨e_Ways_shows, r_Ways_shows, n_Ways_shows⟩ : ∃ e, RelV .non e ∧ Binds K (PySem.W.fnOf "shows" "Ways.shows" (defArgs s_Ways_shows) (defBody s_Ways_shows) (defScope s_Ways_shows) (.ref td_Ways_shows) kV_Ways_shows dc_Ways_shows pm_Ways_shows an_Ways_shows cd_Ways_shows ct_Ways_shows) ["self", "net", "standing"] [e] := by
    obtain ⟨ds, hv, hb⟩ := F_Ways_shows.binds1 (ps := ["self", "net", "standing"]) 2 0 (List.cons_ne_nil _ _) rfl fun _ _ _ _ _ _ _ us its h1 h2 => match us, h1, its, h2 with | [_, _], _, [_], _ => ⟨_, rfl, rfl⟩
    cases hv with
    | cons r t =>
      cases t
      exact ⟨_, r, hb⟩
  have F_ways : FunD K "ways" "ways" (defArgs s_ways) (defBody s_ways) (defScope s_ways) [.non] [] f_ways (PySem.W.fnOf "ways" "ways" (defArgs s_ways) (defBody s_ways) (defScope s_ways) (.ref td_ways) kV_ways dc_ways pm_ways an_ways cd_ways ct_ways) := ⟨⟨oc_ways, od_ways, _, kV_ways, dc_ways, pm_ways, an_ways, cd_ways, ct_ways, sl_ways, rfl, l_ways, c_ways, .inr ⟨List.cons_ne_nil _ _, td_ways, _, [.none], tn_ways, rfl, t_ways, rfl, .cons (by first | exact ⟨_, rfl⟩ | constructor) .nil⟩, .inl rfl⟩, k_ways⟩
  have b_ways : Binds K (PySem.W.fnOf "ways" "ways" (defArgs s_ways) (defBody s_ways) (defScope s_ways) (.ref td_ways) kV_ways dc_ways pm_ways an_ways cd_ways ct_ways) ["net", "standing"] [] := by
    obtain ⟨ds, hv, hb⟩ := F_ways.binds1 (ps := ["net", "standing"]) 2 1 (List.cons_ne_nil _ _) rfl fun _ _ _ _ _ _ _ us its h1 h2 => match us, h1, its, h2 with | [_, _], _, [_], _ => ⟨_, rfl, rfl⟩
    cases hv
    exact hb
  have F_classes_of := fun_mk (st := s_classes_of) l_classes_of c_classes_of k_classes_of
  have b_classes_of := F_classes_of.binds (ps := ["ways"]) fun _ _ _ _ _ _ us hl => match us, hl with | [_], _ => rfl
  have F_told_apart := fun_mk (st := s_told_apart) l_told_apart c_told_apart k_told_apart
  have b_told_apart := F_told_apart.binds (ps := ["ways", "one", "other"]) fun _ _ _ _ _ _ us hl => match us, hl with | [_, _, _], _ => rfl
  have F_law_number := fun_mk (st := s_law_number) l_law_number c_law_number k_law_number
  have b_law_number := F_law_number.binds (ps := ["_law_script", "_law_index"]) fun _ _ _ _ _ _ us hl => match us, hl with | [_, _], _ => rfl
  have F_law_take := fun_mk (st := s_law_take) l_law_take c_law_take k_law_take
  have b_law_take := F_law_take.binds (ps := ["_law_draw", "_law_many"]) fun _ _ _ _ _ _ us hl => match us, hl with | [_, _], _ => rfl
  have F_law_pick := fun_mk (st := s_law_pick) l_law_pick c_law_pick k_law_pick
  have b_law_pick := F_law_pick.binds (ps := ["_law_draw", "_law_items"]) fun _ _ _ _ _ _ us hl => match us, hl with | [_, _], _ => rfl
  have F_law_rows := fun_mk (st := s_law_rows) l_law_rows c_law_rows k_law_rows
  have b_law_rows := F_law_rows.binds (ps := ["_law_draw", "_law_names", "_law_outlets", "_law_at", "_law_most"]) fun _ _ _ _ _ _ us hl => match us, hl with | [_, _, _, _, _], _ => rfl
  have F_law_drop := fun_mk (st := s_law_drop) l_law_drop c_law_drop k_law_drop
  have b_law_drop := F_law_drop.binds (ps := ["_law_draw", "_law_names", "_law_outlets", "_law_at"]) fun _ _ _ _ _ _ us hl => match us, hl with | [_, _, _, _], _ => rfl
  have F_law_net := fun_mk (st := s_law_net) l_law_net c_law_net k_law_net
  have b_law_net := F_law_net.binds (ps := ["_law_draw", "_law_most"]) fun _ _ _ _ _ _ us hl => match us, hl with | [_, _], _ => rfl
  have F_law_fall := fun_mk (st := s_law_fall) l_law_fall c_law_fall k_law_fall
  have b_law_fall := F_law_fall.binds (ps := ["_law_told", "_law_standing", "_law_knot", "_law_out"]) fun _ _ _ _ _ _ us hl => match us, hl with | [_, _, _, _], _ => rfl
  have F_law_start := fun_mk (st := s_law_start) l_law_start c_law_start k_law_start
  have b_law_start := F_law_start.binds (ps := ["_law_told"]) fun _ _ _ _ _ _ us hl => match us, hl with | [_], _ => rfl
  have F_law_row := fun_mk (st := s_law_row) l_law_row c_law_row k_law_row
  have b_law_row := F_law_row.binds (ps := ["_law_told", "_law_standing", "_law_knot"]) fun _ _ _ _ _ _ us hl => match us, hl with | [_, _, _], _ => rfl
  have F_law_key := fun_mk (st := s_law_key) l_law_key c_law_key k_law_key
  have b_law_key := F_law_key.binds (ps := ["_law_standing"]) fun _ _ _ _ _ _ us hl => match us, hl with | [_], _ => rfl
  have F_law_all_ways := fun_mk (st := s_law_all_ways) l_law_all_ways c_law_all_ways k_law_all_ways
  have b_law_all_ways := F_law_all_ways.binds (ps := ["_law_told", "_law_standing"]) fun _ _ _ _ _ _ us hl => match us, hl with | [_, _], _ => rfl
  have F_law_first_apart := fun_mk (st := s_law_first_apart) l_law_first_apart c_law_first_apart k_law_first_apart
  have b_law_first_apart := F_law_first_apart.binds (ps := ["_law_steps", "_law_one", "_law_other"]) fun _ _ _ _ _ _ us hl => match us, hl with | [_, _, _], _ => rfl
  have F_law := fun_mk (st := s_law) l_law c_law k_law
  have b_law := F_law.binds (ps := ["_law_script"]) fun _ _ _ _ _ _ us hl => match us, hl with | [_], _ => rfl
  let T : Tx K mg := {
    kNet := { C := C_Net, cl := ⟨pg_Net, hd_Net, po_Net, sa_Net⟩, m := PySem.W.mg_of X G g_Net, mro := mr_Net, ca := ca_Net, cn := g_cn, ct := g_ct, kit := kit_self },
    kBoard := { C := C_Board, cl := ⟨pg_Board, hd_Board, po_Board, sa_Board⟩, m := PySem.W.mg_of X G g_Board, mro := mr_Board, ca := ca_Board, cn := g_cn, ct := g_ct, kit := kit_self },
    kSettled := { C := C_Settled, cl := ⟨pg_Settled, hd_Settled, po_Settled, sa_Settled⟩, m := PySem.W.mg_of X G g_Settled, mro := mr_Settled, ca := ca_Settled, cn := g_cn, ct := g_ct, kit := kit_self },
    kWays := { C := C_Ways, cl := ⟨pg_Ways, hd_Ways, po_Ways, sa_Ways⟩, m := PySem.W.mg_of X G g_Ways, mro := mr_Ways, ca := ca_Ways, cn := g_cn, ct := g_ct, kit := kit_self },
    minors_of := ⟨f_minors_of, _, F_minors_of, PySem.W.mg_of X G m_minors_of, b_minors_of⟩,
    is_number := ⟨f_is_number, _, F_is_number, PySem.W.mg_of X G m_is_number, b_is_number⟩,
    is_name := ⟨f_is_name, _, F_is_name, PySem.W.mg_of X G m_is_name, b_is_name⟩,
    is_row := ⟨f_is_row, _, F_is_row, PySem.W.mg_of X G m_is_row, b_is_row⟩,
    is_knot := ⟨f_is_knot, _, F_is_knot, PySem.W.mg_of X G m_is_knot, b_is_knot⟩,
    first_wrong := ⟨f_first_wrong, _, F_first_wrong, PySem.W.mg_of X G m_first_wrong, b_first_wrong⟩,
    Net_init := ⟨f_Net_init, _, F_Net_init, ⟨m_Net_init, i_Net_init, k_Net_init⟩, b_Net_init⟩,
    Net_met := ⟨f_Net_met, _, F_Net_met, ⟨m_Net_met, i_Net_met, k_Net_met⟩, b_Net_met⟩,
    Net_start := ⟨f_Net_start, _, F_Net_start, ⟨m_Net_start, i_Net_start, k_Net_start⟩, b_Net_start⟩,
    Net_front := ⟨f_Net_front, _, F_Net_front, ⟨m_Net_front, i_Net_front, k_Net_front⟩, b_Net_front⟩,
    Net_period := ⟨f_Net_period, _, F_Net_period, ⟨m_Net_period, i_Net_period, k_Net_period⟩, b_Net_period⟩,
    Net_turned := ⟨f_Net_turned, _, F_Net_turned, ⟨m_Net_turned, i_Net_turned, k_Net_turned⟩, b_Net_turned⟩,
    Net_check_standing := ⟨f_Net_check_standing, _, F_Net_check_standing, ⟨m_Net_check_standing, i_Net_check_standing, k_Net_check_standing⟩, b_Net_check_standing⟩,
    Net_place_behind := ⟨f_Net_place_behind, _, F_Net_place_behind, ⟨m_Net_place_behind, i_Net_place_behind, k_Net_place_behind⟩, b_Net_place_behind⟩,
    Net_dropped := ⟨f_Net_dropped, _, F_Net_dropped, ⟨m_Net_dropped, i_Net_dropped, k_Net_dropped⟩, b_Net_dropped⟩,
    count := ⟨f_count, _, F_count, PySem.W.mg_of X G m_count, b_count⟩,
    check_net := ⟨f_check_net, _, F_check_net, PySem.W.mg_of X G m_check_net, b_check_net⟩,
    lattice := ⟨f_lattice, _, F_lattice, PySem.W.mg_of X G m_lattice, b_lattice⟩,
    ends := ⟨f_ends, _, F_ends, PySem.W.mg_of X G m_ends, b_ends⟩,
    check_balls := ⟨f_check_balls, _, F_check_balls, PySem.W.mg_of X G m_check_balls, b_check_balls⟩,
    Board_init := ⟨f_Board_init, _, F_Board_init, ⟨m_Board_init, i_Board_init, k_Board_init⟩, b_Board_init⟩,
    Board_take := ⟨f_Board_take, _, F_Board_take, ⟨m_Board_take, i_Board_take, k_Board_take⟩, b_Board_take⟩,
    Board_first_waiting := ⟨f_Board_first_waiting, _, F_Board_first_waiting, ⟨m_Board_first_waiting, i_Board_first_waiting, k_Board_first_waiting⟩, b_Board_first_waiting⟩,
    Settled_init := ⟨f_Settled_init, _, F_Settled_init, ⟨m_Settled_init, i_Settled_init, k_Settled_init⟩, b_Settled_init⟩,
    begun := ⟨f_begun, _, F_begun, PySem.W.mg_of X G m_begun, b_begun⟩,
    settle := ⟨f_settle, _, F_settle, PySem.W.mg_of X G m_settle, b_settle⟩,
    Ways_init := ⟨f_Ways_init, _, F_Ways_init, ⟨m_Ways_init, i_Ways_init, k_Ways_init⟩, b_Ways_init⟩,
    Ways_eq := ⟨f_Ways_eq, _, F_Ways_eq, ⟨m_Ways_eq, i_Ways_eq, k_Ways_eq⟩, b_Ways_eq⟩,
    Ways_len := ⟨f_Ways_len, _, F_Ways_len, ⟨m_Ways_len, i_Ways_len, k_Ways_len⟩, b_Ways_len⟩,
    Ways_follow := ⟨f_Ways_follow, _, F_Ways_follow, ⟨m_Ways_follow, i_Ways_follow, k_Ways_follow⟩, b_Ways_follow, e_Ways_follow, r_Ways_follow, n_Ways_follow⟩,
    Ways_shows := ⟨f_Ways_shows, _, F_Ways_shows, ⟨m_Ways_shows, i_Ways_shows, k_Ways_shows⟩, b_Ways_shows, e_Ways_shows, r_Ways_shows, n_Ways_shows⟩,
    ways := ⟨f_ways, _, F_ways, PySem.W.mg_of X G m_ways, b_ways⟩,
    classes_of := ⟨f_classes_of, _, F_classes_of, PySem.W.mg_of X G m_classes_of, b_classes_of⟩,
    told_apart := ⟨f_told_apart, _, F_told_apart, PySem.W.mg_of X G m_told_apart, b_told_apart⟩,
    law_number := ⟨f_law_number, _, F_law_number, PySem.W.mg_of X G m_law_number, b_law_number⟩,
    law_take := ⟨f_law_take, _, F_law_take, PySem.W.mg_of X G m_law_take, b_law_take⟩,
    law_pick := ⟨f_law_pick, _, F_law_pick, PySem.W.mg_of X G m_law_pick, b_law_pick⟩,
    law_rows := ⟨f_law_rows, _, F_law_rows, PySem.W.mg_of X G m_law_rows, b_law_rows⟩,
    law_drop := ⟨f_law_drop, _, F_law_drop, PySem.W.mg_of X G m_law_drop, b_law_drop⟩,
    law_net := ⟨f_law_net, _, F_law_net, PySem.W.mg_of X G m_law_net, b_law_net⟩,
    law_fall := ⟨f_law_fall, _, F_law_fall, PySem.W.mg_of X G m_law_fall, b_law_fall⟩,
    law_start := ⟨f_law_start, _, F_law_start, PySem.W.mg_of X G m_law_start, b_law_start⟩,
    law_row := ⟨f_law_row, _, F_law_row, PySem.W.mg_of X G m_law_row, b_law_row⟩,
    law_key := ⟨f_law_key, _, F_law_key, PySem.W.mg_of X G m_law_key, b_law_key⟩,
    law_all_ways := ⟨f_law_all_ways, _, F_law_all_ways, PySem.W.mg_of X G m_law_all_ways, b_law_all_ways⟩,
    law_first_apart := ⟨f_law_first_apart, _, F_law_first_apart, PySem.W.mg_of X G m_law_first_apart, b_law_first_apart⟩,
    law := ⟨fa, _, F_law, PySem.W.mg_of X G m_law, b_law⟩,
    k_Net := ⟨mk_Net, m_Net_init, i_Net_init, kc_Net⟩,
    k_Board := ⟨mk_Board, m_Board_init, i_Board_init, kc_Board⟩,
    k_Settled := ⟨mk_Settled, m_Settled_init, i_Settled_init, kc_Settled⟩,
    k_Ways := ⟨mk_Ways, m_Ways_init, i_Ways_init, kc_Ways⟩,
    a_Net_knots := a_Net_knots,
    a_Net_inlets := a_Net_inlets,
    a_Net_outlets := a_Net_outlets,
    a_Net_names := a_Net_names,
    a_Board_net := a_Board_net,
    a_Board_standing := a_Board_standing,
    a_Board_waiting := a_Board_waiting,
    a_Board_out := a_Board_out,
    a_Board_taken := a_Board_taken,
    a_Settled_taken := a_Settled_taken,
    a_Settled_out := a_Settled_out,
    a_Settled_standing := a_Settled_standing,
    a_Settled_order := a_Settled_order,
    a_Ways_standings := a_Ways_standings,
    a_Ways_steps := a_Ways_steps,
    ne_Ways := ne_Ways,
    t_MOST_KNOTS := tt_MOST_KNOTS,
    c_MOST_KNOTS := PySem.W.mg_of X G z_MOST_KNOTS,
    t_MOST_DROPS := tt_MOST_DROPS,
    c_MOST_DROPS := PySem.W.mg_of X G z_MOST_DROPS,
    t_MOST_TARGETS := tt_MOST_TARGETS,
    c_MOST_TARGETS := PySem.W.mg_of X G z_MOST_TARGETS,
    t_MOST_SIGNS := tt_MOST_SIGNS,
    c_MOST_SIGNS := PySem.W.mg_of X G z_MOST_SIGNS,
    t_MOST_STANDINGS := tt_MOST_STANDINGS,
    c_MOST_STANDINGS := PySem.W.mg_of X G z_MOST_STANDINGS,
    b_len := PySem.W.mg_none_of X G y_len,
    b_isinstance := PySem.W.mg_none_of X G y_isinstance,
    b_sorted := PySem.W.mg_none_of X G y_sorted,
    b_all := PySem.W.mg_none_of X G y_all,
    b_abs := PySem.W.mg_none_of X G y_abs,
    b_int := PySem.W.mg_none_of X G y_int,
    b_bool := PySem.W.mg_none_of X G y_bool,
    b_str := PySem.W.mg_none_of X G y_str,
    b_tuple := PySem.W.mg_none_of X G y_tuple,
    b_dict := PySem.W.mg_none_of X G y_dict,
    b_list := PySem.W.mg_none_of X G y_list,
    b_range := PySem.W.mg_none_of X G y_range,
    b_enumerate := PySem.W.mg_none_of X G y_enumerate,
    b_zip := PySem.W.mg_none_of X G y_zip }
  exact ⟨T.law.fd, fun s v => .of_eq rfl, fun base _ _ => ok_law T⟩
end Bc
end
section
set_option Elab.async false
set_option maxRecDepth 100000
set_option pp.maxSteps 100
open PySem PySem.W PyProof.Rows
set_option maxRecDepth 100000 in
set_option maxHeartbeats 0 in
theorem PySem.Challenge.cw_ballchutes_k42_whole_ways_holds : PySem.Challenge.rw_ballchutes_k42_whole_ways.Holds := by
  w_on; o_law; k_head; (case hw => w_witness2)
  k_fill
  refine L2.walk_ofK (l := PySem.Challenge.rw_ballchutes_k42_whole_ways) (n := 63) (k := 9) (x := "_law_script") (CX := L2.CX0) (sp := Bc.sp_law) rfl (by decide) rfl ⟨rfl, by decide, by decide⟩ (fun w h Y => PySem.W.kIn_of Y) ?F (fun _ _ a ns hl _ hS => ⟨a, ns, rfl, hS, fun _ => rfl⟩) (fun _ _ _ _ z => z)
  case F =>
    intro w mg fa h KX G hmg
    refine' Bc.all_mk KX G hmg ?g_cn ?g_ct ?g_Net ?pg_Net ?hd_Net ?po_Net ?sa_Net ?mr_Net ?ca_Net ?mk_Net ?kc_Net ?g_Board ?pg_Board ?hd_Board ?po_Board ?sa_Board ?mr_Board ?ca_Board ?mk_Board ?kc_Board ?g_Settled ?pg_Settled ?hd_Settled ?po_Settled ?sa_Settled ?mr_Settled ?ca_Settled ?mk_Settled ?kc_Settled ?g_Ways ?pg_Ways ?hd_Ways ?po_Ways ?sa_Ways ?mr_Ways ?ca_Ways ?mk_Ways ?kc_Ways ?m_minors_of ?l_minors_of ?c_minors_of ?k_minors_of ?m_is_number ?l_is_number ?c_is_number ?k_is_number ?m_is_name ?l_is_name ?c_is_name ?k_is_name ?m_is_row ?l_is_row ?c_is_row ?k_is_row ?m_is_knot ?l_is_knot ?c_is_knot ?k_is_knot ?m_first_wrong ?l_first_wrong ?c_first_wrong ?k_first_wrong ?m_Net_init ?i_Net_init ?l_Net_init ?c_Net_init ?k_Net_init ?m_Net_met ?i_Net_met ?l_Net_met ?c_Net_met ?k_Net_met ?m_Net_start ?i_Net_start ?l_Net_start ?c_Net_start ?k_Net_start ?m_Net_front ?i_Net_front ?l_Net_front ?c_Net_front ?k_Net_front ?m_Net_period ?i_Net_period ?l_Net_period ?c_Net_period ?k_Net_period ?m_Net_turned ?i_Net_turned ?l_Net_turned ?c_Net_turned ?k_Net_turned ?m_Net_check_standing ?i_Net_check_standing ?l_Net_check_standing ?c_Net_check_standing ?k_Net_check_standing ?m_Net_place_behind ?i_Net_place_behind ?l_Net_place_behind ?c_Net_place_behind ?k_Net_place_behind ?m_Net_dropped ?i_Net_dropped ?l_Net_dropped ?c_Net_dropped ?k_Net_dropped ?m_count ?l_count ?c_count ?k_count ?m_check_net ?l_check_net ?c_check_net ?k_check_net ?m_lattice ?l_lattice ?c_lattice ?k_lattice ?m_ends ?l_ends ?c_ends ?k_ends ?m_check_balls ?l_check_balls ?c_check_balls ?k_check_balls ?m_Board_init ?i_Board_init ?l_Board_init ?c_Board_init ?k_Board_init ?m_Board_take ?i_Board_take ?l_Board_take ?c_Board_take ?k_Board_take ?m_Board_first_waiting ?i_Board_first_waiting ?l_Board_first_waiting ?c_Board_first_waiting ?k_Board_first_waiting ?m_Settled_init ?i_Settled_init ?l_Settled_init ?c_Settled_init ?k_Settled_init ?m_begun ?l_begun ?c_begun ?k_begun ?m_settle ?l_settle ?c_settle ?k_settle ?t_settle ?m_Ways_init ?i_Ways_init ?l_Ways_init ?c_Ways_init ?k_Ways_init ?m_Ways_eq ?i_Ways_eq ?l_Ways_eq ?c_Ways_eq ?k_Ways_eq ?m_Ways_len ?i_Ways_len ?l_Ways_len ?c_Ways_len ?k_Ways_len ?m_Ways_follow ?i_Ways_follow ?l_Ways_follow ?c_Ways_follow ?k_Ways_follow ?t_Ways_follow ?m_Ways_shows ?i_Ways_shows ?l_Ways_shows ?c_Ways_shows ?k_Ways_shows ?t_Ways_shows ?m_ways ?l_ways ?c_ways ?k_ways ?t_ways ?m_classes_of ?l_classes_of ?c_classes_of ?k_classes_of ?m_told_apart ?l_told_apart ?c_told_apart ?k_told_apart ?m_law_number ?l_law_number ?c_law_number ?k_law_number ?m_law_take ?l_law_take ?c_law_take ?k_law_take ?m_law_pick ?l_law_pick ?c_law_pick ?k_law_pick ?m_law_rows ?l_law_rows ?c_law_rows ?k_law_rows ?m_law_drop ?l_law_drop ?c_law_drop ?k_law_drop ?m_law_net ?l_law_net ?c_law_net ?k_law_net ?m_law_fall ?l_law_fall ?c_law_fall ?k_law_fall ?m_law_start ?l_law_start ?c_law_start ?k_law_start ?m_law_row ?l_law_row ?c_law_row ?k_law_row ?m_law_key ?l_law_key ?c_law_key ?k_law_key ?m_law_all_ways ?l_law_all_ways ?c_law_all_ways ?k_law_all_ways ?m_law_first_apart ?l_law_first_apart ?c_law_first_apart ?k_law_first_apart ?m_law ?l_law ?c_law ?k_law ?a_Net_knots ?a_Net_inlets ?a_Net_outlets ?a_Net_names ?a_Board_net ?a_Board_standing ?a_Board_waiting ?a_Board_out ?a_Board_taken ?a_Settled_taken ?a_Settled_out ?a_Settled_standing ?a_Settled_order ?a_Ways_standings ?a_Ways_steps ?ne_Ways ?z_MOST_KNOTS ?z_MOST_DROPS ?z_MOST_TARGETS ?z_MOST_SIGNS ?z_MOST_STANDINGS ?y_len ?y_isinstance ?y_sorted ?y_all ?y_abs ?y_int ?y_bool ?y_str ?y_tuple ?y_dict ?y_list ?y_range ?y_enumerate ?y_zip
    (case g_cn => k_is)
    (case g_ct => k_is)
    (case g_Net => k_is)
    (case pg_Net => k_is)
    (case hd_Net => k_is)
    (case po_Net => k_is)
    (case sa_Net => k_is)
    (case mr_Net => k_is)
    (case ca_Net => k_is)
    (case mk_Net => k_is)
    (case kc_Net => k_is)
    (case g_Board => k_is)
    (case pg_Board => k_is)
    (case hd_Board => k_is)
    (case po_Board => k_is)
    (case sa_Board => k_is)
    (case mr_Board => k_is)
    (case ca_Board => k_is)
    (case mk_Board => k_is)
    (case kc_Board => k_is)
    (case g_Settled => k_is)
    (case pg_Settled => k_is)
    (case hd_Settled => k_is)
    (case po_Settled => k_is)
    (case sa_Settled => k_is)
    (case mr_Settled => k_is)
    (case ca_Settled => k_is)
    (case mk_Settled => k_is)
    (case kc_Settled => k_is)
    (case g_Ways => k_is)
    (case pg_Ways => k_is)
    (case hd_Ways => k_is)
    (case po_Ways => k_is)
    (case sa_Ways => k_is)
    (case mr_Ways => k_is)
    (case ca_Ways => k_is)
    (case mk_Ways => k_is)
    (case kc_Ways => k_is)
    (case m_minors_of => k_is)
    (case l_minors_of => k_is)
    (case c_minors_of => k_is)
    (case k_minors_of => k_is)
    (case m_is_number => k_is)
    (case l_is_number => k_is)
    (case c_is_number => k_is)
    (case k_is_number => k_is)
    (case m_is_name => k_is)
    (case l_is_name => k_is)
    (case c_is_name => k_is)
    (case k_is_name => k_is)
    (case m_is_row => k_is)
    (case l_is_row => k_is)
    (case c_is_row => k_is)
    (case k_is_row => k_is)
    (case m_is_knot => k_is)
    (case l_is_knot => k_is)
    (case c_is_knot => k_is)
    (case k_is_knot => k_is)
    (case m_first_wrong => k_is)
    (case l_first_wrong => k_is)
    (case c_first_wrong => k_is)
    (case k_first_wrong => k_is)
    (case m_Net_init => k_is)
    (case i_Net_init => k_is)
    (case l_Net_init => k_is)
    (case c_Net_init => k_is)
    (case k_Net_init => k_is)
    (case m_Net_met => k_is)
    (case i_Net_met => k_is)
    (case l_Net_met => k_is)
    (case c_Net_met => k_is)
    (case k_Net_met => k_is)
    (case m_Net_start => k_is)
    (case i_Net_start => k_is)
    (case l_Net_start => k_is)
    (case c_Net_start => k_is)
    (case k_Net_start => k_is)
    (case m_Net_front => k_is)
    (case i_Net_front => k_is)
    (case l_Net_front => k_is)
    (case c_Net_front => k_is)
    (case k_Net_front => k_is)
    (case m_Net_period => k_is)
    (case i_Net_period => k_is)
    (case l_Net_period => k_is)
    (case c_Net_period => k_is)
    (case k_Net_period => k_is)
    (case m_Net_turned => k_is)
    (case i_Net_turned => k_is)
    (case l_Net_turned => k_is)
    (case c_Net_turned => k_is)
    (case k_Net_turned => k_is)
    (case m_Net_check_standing => k_is)
    (case i_Net_check_standing => k_is)
    (case l_Net_check_standing => k_is)
    (case c_Net_check_standing => k_is)
    (case k_Net_check_standing => k_is)
    (case m_Net_place_behind => k_is)
    (case i_Net_place_behind => k_is)
    (case l_Net_place_behind => k_is)
    (case c_Net_place_behind => k_is)
    (case k_Net_place_behind => k_is)
    (case m_Net_dropped => k_is)
    (case i_Net_dropped => k_is)
    (case l_Net_dropped => k_is)
    (case c_Net_dropped => k_is)
    (case k_Net_dropped => k_is)
    (case m_count => k_is)
    (case l_count => k_is)
    (case c_count => k_is)
    (case k_count => k_is)
    (case m_check_net => k_is)
    (case l_check_net => k_is)
    (case c_check_net => k_is)
    (case k_check_net => k_is)
    (case m_lattice => k_is)
    (case l_lattice => k_is)
    (case c_lattice => k_is)
    (case k_lattice => k_is)
    (case m_ends => k_is)
    (case l_ends => k_is)
    (case c_ends => k_is)
    (case k_ends => k_is)
    (case m_check_balls => k_is)
    (case l_check_balls => k_is)
    (case c_check_balls => k_is)
    (case k_check_balls => k_is)
    (case m_Board_init => k_is)
    (case i_Board_init => k_is)
    (case l_Board_init => k_is)
    (case c_Board_init => k_is)
    (case k_Board_init => k_is)
    (case m_Board_take => k_is)
    (case i_Board_take => k_is)
    (case l_Board_take => k_is)
    (case c_Board_take => k_is)
    (case k_Board_take => k_is)
    (case m_Board_first_waiting => k_is)
    (case i_Board_first_waiting => k_is)
    (case l_Board_first_waiting => k_is)
    (case c_Board_first_waiting => k_is)
    (case k_Board_first_waiting => k_is)
    (case m_Settled_init => k_is)
    (case i_Settled_init => k_is)
    (case l_Settled_init => k_is)
    (case c_Settled_init => k_is)
    (case k_Settled_init => k_is)
    (case m_begun => k_is)
    (case l_begun => k_is)
    (case c_begun => k_is)
    (case k_begun => k_is)
    (case m_settle => k_is)
    (case l_settle => k_is)
    (case c_settle => k_is)
    (case k_settle => k_is)
    (case t_settle => k_is)
    (case m_Ways_init => k_is)
    (case i_Ways_init => k_is)
    (case l_Ways_init => k_is)
    (case c_Ways_init => k_is)
    (case k_Ways_init => k_is)
    (case m_Ways_eq => k_is)
    (case i_Ways_eq => k_is)
    (case l_Ways_eq => k_is)
    (case c_Ways_eq => k_is)
    (case k_Ways_eq => k_is)
    (case m_Ways_len => k_is)
    (case i_Ways_len => k_is)
    (case l_Ways_len => k_is)
    (case c_Ways_len => k_is)
    (case k_Ways_len => k_is)
    (case m_Ways_follow => k_is)
    (case i_Ways_follow => k_is)
    (case l_Ways_follow => k_is)
    (case c_Ways_follow => k_is)
    (case k_Ways_follow => k_is)
    (case t_Ways_follow => k_is)
    (case m_Ways_shows => k_is)
    (case i_Ways_shows => k_is)
    (case l_Ways_shows => k_is)
    (case c_Ways_shows => k_is)
    (case k_Ways_shows => k_is)
    (case t_Ways_shows => k_is)
    (case m_ways => k_is)
    (case l_ways => k_is)
    (case c_ways => k_is)
    (case k_ways => k_is)
    (case t_ways => k_is)
    (case m_classes_of => k_is)
    (case l_classes_of => k_is)
    (case c_classes_of => k_is)
    (case k_classes_of => k_is)
    (case m_told_apart => k_is)
    (case l_told_apart => k_is)
    (case c_told_apart => k_is)
    (case k_told_apart => k_is)
    (case m_law_number => k_is)
    (case l_law_number => k_is)
    (case c_law_number => k_is)
    (case k_law_number => k_is)
    (case m_law_take => k_is)
    (case l_law_take => k_is)
    (case c_law_take => k_is)
    (case k_law_take => k_is)
    (case m_law_pick => k_is)
    (case l_law_pick => k_is)
    (case c_law_pick => k_is)
    (case k_law_pick => k_is)
    (case m_law_rows => k_is)
    (case l_law_rows => k_is)
    (case c_law_rows => k_is)
    (case k_law_rows => k_is)
    (case m_law_drop => k_is)
    (case l_law_drop => k_is)
    (case c_law_drop => k_is)
    (case k_law_drop => k_is)
    (case m_law_net => k_is)
    (case l_law_net => k_is)
    (case c_law_net => k_is)
    (case k_law_net => k_is)
    (case m_law_fall => k_is)
    (case l_law_fall => k_is)
    (case c_law_fall => k_is)
    (case k_law_fall => k_is)
    (case m_law_start => k_is)
    (case l_law_start => k_is)
    (case c_law_start => k_is)
    (case k_law_start => k_is)
    (case m_law_row => k_is)
    (case l_law_row => k_is)
    (case c_law_row => k_is)
    (case k_law_row => k_is)
    (case m_law_key => k_is)
    (case l_law_key => k_is)
    (case c_law_key => k_is)
    (case k_law_key => k_is)
    (case m_law_all_ways => k_is)
    (case l_law_all_ways => k_is)
    (case c_law_all_ways => k_is)
    (case k_law_all_ways => k_is)
    (case m_law_first_apart => k_is)
    (case l_law_first_apart => k_is)
    (case c_law_first_apart => k_is)
    (case k_law_first_apart => k_is)
    (case m_law => k_is)
    (case l_law => k_is)
    (case c_law => k_is)
    (case k_law => k_is)
    (case a_Net_knots => k_is)
    (case a_Net_inlets => k_is)
    (case a_Net_outlets => k_is)
    (case a_Net_names => k_is)
    (case a_Board_net => k_is)
    (case a_Board_standing => k_is)
    (case a_Board_waiting => k_is)
    (case a_Board_out => k_is)
    (case a_Board_taken => k_is)
    (case a_Settled_taken => k_is)
    (case a_Settled_out => k_is)
    (case a_Settled_standing => k_is)
    (case a_Settled_order => k_is)
    (case a_Ways_standings => k_is)
    (case a_Ways_steps => k_is)
    (case ne_Ways => k_is)
    (case z_MOST_KNOTS => k_is)
    (case z_MOST_DROPS => k_is)
    (case z_MOST_TARGETS => k_is)
    (case z_MOST_SIGNS => k_is)
    (case z_MOST_STANDINGS => k_is)
    (case y_len => k_is)
    (case y_isinstance => k_is)
    (case y_sorted => k_is)
    (case y_all => k_is)
    (case y_abs => k_is)
    (case y_int => k_is)
    (case y_bool => k_is)
    (case y_str => k_is)
    (case y_tuple => k_is)
    (case y_dict => k_is)
    (case y_list => k_is)
    (case y_range => k_is)
    (case y_enumerate => k_is)
    (case y_zip => k_is)
end
