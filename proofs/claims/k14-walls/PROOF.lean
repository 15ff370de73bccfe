import PyProof.Rows.All
import Wide.All
import OpenK.AllK
import Wide.FinOn
import HandS.ForMost
import HandS.Evl
import HandS.Walk
import HandS.Zip
import KE.GoesEnum
import KE.DataMinMax
import HandS.Lambda
import HandS.SortKw
import KE.SortKeyHeap
import HandS.More
import HandS.SortRule
import HandS.SetKeys
import HandS.Deep
import HandS.TupAny
import HandS.WordsDict
import HandS.EndTab
import PySem.Challenge.RW_pagepart_k14_whole_walls_and_boxes
set_option Elab.async false
set_option linter.all false
set_option maxRecDepth 100000
set_option autoImplicit false
set_option maxHeartbeats 8000000
/-! The mathematics of the claim: pages parted into boxes, walls; core Lean alone. -/
namespace K14

/-! ### boxes, partitions by cells -/
structure Bx where
  l : Int
  t : Int
  r : Int
  b : Int

def Bx.mem (c : Bx) (x y : Int) : Prop := c.l ≤ x ∧ x < c.r ∧ c.t ≤ y ∧ y < c.b
def Bx.ins (W H : Int) (c : Bx) : Prop := 0 ≤ c.l ∧ c.l < c.r ∧ c.r ≤ W ∧ 0 ≤ c.t ∧ c.t < c.b ∧ c.b ≤ H
def Bx.tr (c : Bx) : Bx := ⟨c.t, c.l, c.b, c.r⟩
def Dj (c d : Bx) : Prop := ∀ x y, c.mem x y → d.mem x y → False
theorem Dj.symm {c d : Bx} (h : Dj c d) : Dj d c := fun x y a b => h x y b a

structure Part (W H : Int) (bs : List Bx) : Prop where
  w : 0 < W
  h : 0 < H
  ins : ∀ c ∈ bs, c.ins W H
  dj : bs.Pairwise Dj
  cov : ∀ x y, 0 ≤ x → x < W → 0 ≤ y → y < H → ∃ c ∈ bs, c.mem x y

theorem Part.perm {W H : Int} {bs cs : List Bx} (p : Part W H bs) (e : cs.Perm bs) : Part W H cs where
  w := p.w
  h := p.h
  ins := fun c hc => p.ins c (e.mem_iff.mp hc)
  dj := (e.pairwise_iff (fun {_ _} h => Dj.symm h)).mpr p.dj
  cov := fun x y a b c d => by
    obtain ⟨c, hc, hm⟩ := p.cov x y a b c d
    exact ⟨c, e.mem_iff.mpr hc, hm⟩

theorem Part.tr {W H : Int} {bs : List Bx} (p : Part W H bs) : Part H W (bs.map Bx.tr) where
  w := p.h
  h := p.w
  ins := fun c hc => by
    obtain ⟨d, hd, rfl⟩ := List.mem_map.mp hc
    obtain ⟨h1, h2, h3, h4, h5, h6⟩ := p.ins d hd
    exact ⟨h4, h5, h6, h1, h2, h3⟩
  dj := List.pairwise_map.mpr (p.dj.imp fun {c d} h x y hc hd => by
    obtain ⟨a1, a2, a3, a4⟩ := hc
    obtain ⟨b1, b2, b3, b4⟩ := hd
    exact h y x ⟨a3, a4, a1, a2⟩ ⟨b3, b4, b1, b2⟩)
  cov := fun x y a b c d => by
    obtain ⟨e, he, h1, h2, h3, h4⟩ := p.cov y x c d a b
    exact ⟨e.tr, List.mem_map.mpr ⟨e, he, rfl⟩, h3, h4, h1, h2⟩

theorem Part.one {N : Int} (h : 0 < N) : Part N N [⟨0, 0, N, N⟩] where
  w := h
  h := h
  ins := fun c hc => by
    rw [List.mem_singleton] at hc
    subst hc
    exact ⟨Int.le_refl _, h, Int.le_refl _, Int.le_refl _, h, Int.le_refl _⟩
  dj := List.pairwise_singleton _ _
  cov := fun x y a b c d => ⟨_, List.mem_singleton.mpr rfl, a, b, c, d⟩

theorem Part.ne {W H : Int} {bs : List Bx} (p : Part W H bs) : 0 < bs.length := by
  obtain ⟨c, hc, _⟩ := p.cov 0 0 (Int.le_refl _) p.w (Int.le_refl _) p.h
  exact List.length_pos_of_mem hc

/-- two boxes of a page that have a cell in common are one -/
theorem Part.inj {W H : Int} {bs : List Bx} (p : Part W H bs) {c d : Bx} (hc : c ∈ bs) (hd : d ∈ bs) {x y : Int} (mc : c.mem x y) (md : d.mem x y) : c = d := by
  obtain ⟨i, hi, rfl⟩ := List.mem_iff_getElem.mp hc
  obtain ⟨j, hj, rfl⟩ := List.mem_iff_getElem.mp hd
  have q := List.pairwise_iff_getElem.mp p.dj
  rcases Nat.lt_trichotomy i j with h | h | h
  · exact (q i j hi hj h x y mc md).elim
  · subst h
    rfl
  · exact (q j i hj hi h x y md mc).elim
theorem Part.injI {W H : Int} {bs : List Bx} (p : Part W H bs) {i j : Nat} {c d : Bx} (hc : bs[i]? = some c) (hd : bs[j]? = some d) {x y : Int} (mc : c.mem x y) (md : d.mem x y) : i = j := by
  obtain ⟨hi, rfl⟩ := List.getElem?_eq_some_iff.mp hc
  obtain ⟨hj, rfl⟩ := List.getElem?_eq_some_iff.mp hd
  have q := List.pairwise_iff_getElem.mp p.dj
  rcases Nat.lt_trichotomy i j with h | h | h
  · exact (q i j hi hj h x y mc md).elim
  · exact h
  · exact (q j i hj hi h x y md mc).elim

/-! ### a box replaced by tiles -/
structure Tiles (c : Bx) (new : List Bx) : Prop where
  pos : ∀ d ∈ new, d.l < d.r ∧ d.t < d.b
  sub : ∀ d ∈ new, ∀ x y, d.mem x y → c.mem x y
  dj : new.Pairwise Dj
  cov : ∀ x y, c.mem x y → ∃ d ∈ new, d.mem x y

theorem Part.repl {W H : Int} {A B new : List Bx} {c : Bx} (p : Part W H (A ++ c :: B)) (t : Tiles c new) : Part W H (A ++ B ++ new) where
  w := p.w
  h := p.h
  ins := fun d hd => by
    rcases List.mem_append.mp hd with h | h
    · refine p.ins d ?_
      rcases (List.mem_append.mp h) with h | h
      · exact List.mem_append_left _ h
      · exact List.mem_append_right _ (List.mem_cons_of_mem _ h)
    · obtain ⟨a1, a2⟩ := t.pos d h
      have q1 := t.sub d h d.l d.t ⟨Int.le_refl _, a1, Int.le_refl _, a2⟩
      have q2 := t.sub d h (d.r - 1) (d.b - 1) ⟨by omega, by omega, by omega, by omega⟩
      obtain ⟨b1, b2, b3, b4⟩ := q1
      obtain ⟨c1, c2, c3, c4⟩ := q2
      obtain ⟨e1, e2, e3, e4, e5, e6⟩ := p.ins c (by simp)
      exact ⟨by omega, a1, by omega, by omega, a2, by omega⟩
  dj := by
    obtain ⟨hA, hcB, hX⟩ := List.pairwise_append.mp p.dj
    obtain ⟨hc, hB⟩ := List.pairwise_cons.mp hcB
    refine List.pairwise_append.mpr ⟨List.pairwise_append.mpr ⟨hA, hB, fun a ha b hb => hX a ha b (List.mem_cons_of_mem _ hb)⟩, t.dj, fun a ha d hd x y m1 m2 => ?_⟩
    have mc := t.sub d hd x y m2
    rcases List.mem_append.mp ha with h | h
    · exact hX a h c List.mem_cons_self x y m1 mc
    · exact hc a h x y mc m1
  cov := fun x y a b e f => by
    obtain ⟨d, hd, hm⟩ := p.cov x y a b e f
    rcases List.mem_append.mp hd with h | h
    · exact ⟨d, List.mem_append_left _ (List.mem_append_left _ h), hm⟩
    · rcases List.mem_cons.mp h with h | h
      · subst h
        obtain ⟨g, hg, hgm⟩ := t.cov x y hm
        exact ⟨g, List.mem_append_right _ hg, hgm⟩
      · exact ⟨d, List.mem_append_left _ (List.mem_append_right _ h), hm⟩

theorem split_at {bs : List Bx} {i : Nat} {c : Bx} (h : bs[i]? = some c) : bs = bs.take i ++ c :: bs.drop (i + 1) := by
  obtain ⟨hi, rfl⟩ := List.getElem?_eq_some_iff.mp h
  rw [← List.drop_eq_getElem_cons hi, List.take_append_drop]

theorem Part.replAt {W H : Int} {bs new : List Bx} {i : Nat} {c : Bx} (p : Part W H bs) (h : bs[i]? = some c) (t : Tiles c new) : Part W H (bs.take i ++ bs.drop (i + 1) ++ new) := by
  have e := split_at h
  rw [e] at p
  exact p.repl t

theorem tiles_x {c : Bx} {x : Int} (h1 : c.l < x) (h2 : x < c.r) (h3 : c.t < c.b) : Tiles c [⟨c.l, c.t, x, c.b⟩, ⟨x, c.t, c.r, c.b⟩] where
  pos := by
    simp only [List.mem_cons, List.not_mem_nil, or_false, forall_eq_or_imp, forall_eq]
    omega
  sub := by
    simp only [List.mem_cons, List.not_mem_nil, or_false, forall_eq_or_imp, forall_eq, Bx.mem]
    refine ⟨fun _ _ _ => by omega, fun _ _ _ => by omega⟩
  dj := by
    simp only [List.pairwise_cons, List.mem_cons, List.not_mem_nil, or_false, forall_eq, Dj, Bx.mem, List.Pairwise.nil, and_true, false_imp_iff, implies_true]
    intro _ _ _ _
    omega
  cov := fun p q hm => by
    obtain ⟨a1, a2, a3, a4⟩ := hm
    by_cases h : p < x
    · exact ⟨_, List.mem_cons_self, a1, h, a3, a4⟩
    · exact ⟨_, List.mem_cons_of_mem _ List.mem_cons_self, by show x ≤ p; omega, a2, a3, a4⟩

theorem tiles_y {c : Bx} {y : Int} (h1 : c.t < y) (h2 : y < c.b) (h3 : c.l < c.r) : Tiles c [⟨c.l, c.t, c.r, y⟩, ⟨c.l, y, c.r, c.b⟩] where
  pos := by
    simp only [List.mem_cons, List.not_mem_nil, or_false, forall_eq_or_imp, forall_eq]
    omega
  sub := by
    simp only [List.mem_cons, List.not_mem_nil, or_false, forall_eq_or_imp, forall_eq, Bx.mem]
    refine ⟨fun _ _ _ => by omega, fun _ _ _ => by omega⟩
  dj := by
    simp only [List.pairwise_cons, List.mem_cons, List.not_mem_nil, or_false, forall_eq, Dj, Bx.mem, List.Pairwise.nil, and_true, false_imp_iff, implies_true]
    intro _ _ _ _
    omega
  cov := fun p q hm => by
    obtain ⟨a1, a2, a3, a4⟩ := hm
    by_cases h : q < y
    · exact ⟨_, List.mem_cons_self, a1, a2, a3, h⟩
    · exact ⟨_, List.mem_cons_of_mem _ List.mem_cons_self, a1, a2, by show y ≤ q; omega, a4⟩

def wheel0 (c : Bx) (x y u v : Int) : List Bx := [⟨c.l, c.t, u, y⟩, ⟨u, c.t, c.r, v⟩, ⟨x, v, c.r, c.b⟩, ⟨c.l, y, x, c.b⟩, ⟨x, y, u, v⟩]
def wheel1 (c : Bx) (x y u v : Int) : List Bx := [⟨x, c.t, c.r, y⟩, ⟨u, y, c.r, c.b⟩, ⟨c.l, v, u, c.b⟩, ⟨c.l, c.t, x, v⟩, ⟨x, y, u, v⟩]
theorem tiles_w0 {c : Bx} {x y u v : Int} (h1 : c.l < x) (h2 : x < u) (h3 : u < c.r) (h4 : c.t < y) (h5 : y < v) (h6 : v < c.b) : Tiles c (wheel0 c x y u v) where
  pos := by
    simp only [wheel0, List.mem_cons, List.not_mem_nil, or_false, forall_eq_or_imp, forall_eq]
    omega
  sub := by
    simp only [wheel0, List.mem_cons, List.not_mem_nil, or_false, forall_eq_or_imp, forall_eq, Bx.mem]
    refine ⟨?_, ?_, ?_, ?_, ?_⟩ <;> (intro _ _ _; omega)
  dj := by
    simp only [wheel0, List.pairwise_cons, List.mem_cons, List.not_mem_nil, or_false, forall_eq_or_imp, forall_eq, Dj, Bx.mem, List.Pairwise.nil, and_true, false_imp_iff, implies_true]
    refine ⟨⟨?_, ?_, ?_, ?_⟩, ⟨?_, ?_, ?_⟩, ⟨?_, ?_⟩, ?_⟩ <;> (intro _ _ _ _; omega)
  cov := fun p q hm => by
    obtain ⟨a1, a2, a3, a4⟩ := hm
    unfold wheel0
    by_cases k1 : p < u ∧ q < y
    · exact ⟨_, List.mem_cons_self, a1, k1.1, a3, k1.2⟩
    by_cases k2 : u ≤ p ∧ q < v
    · exact ⟨_, .tail _ (.head _), k2.1, a2, a3, k2.2⟩
    by_cases k3 : x ≤ p ∧ v ≤ q
    · exact ⟨_, .tail _ (.tail _ (.head _)), k3.1, a2, k3.2, a4⟩
    by_cases k4 : p < x ∧ y ≤ q
    · exact ⟨_, .tail _ (.tail _ (.tail _ (.head _))), a1, k4.1, k4.2, a4⟩
    · refine ⟨_, .tail _ (.tail _ (.tail _ (.tail _ (.head _)))), ?_, ?_, ?_, ?_⟩
      · show x ≤ p; omega
      · show p < u; omega
      · show y ≤ q; omega
      · show q < v; omega
theorem tiles_w1 {c : Bx} {x y u v : Int} (h1 : c.l < x) (h2 : x < u) (h3 : u < c.r) (h4 : c.t < y) (h5 : y < v) (h6 : v < c.b) : Tiles c (wheel1 c x y u v) where
  pos := by
    simp only [wheel1, List.mem_cons, List.not_mem_nil, or_false, forall_eq_or_imp, forall_eq]
    omega
  sub := by
    simp only [wheel1, List.mem_cons, List.not_mem_nil, or_false, forall_eq_or_imp, forall_eq, Bx.mem]
    refine ⟨?_, ?_, ?_, ?_, ?_⟩ <;> (intro _ _ _; omega)
  dj := by
    simp only [wheel1, List.pairwise_cons, List.mem_cons, List.not_mem_nil, or_false, forall_eq_or_imp, forall_eq, Dj, Bx.mem, List.Pairwise.nil, and_true, false_imp_iff, implies_true]
    refine ⟨⟨?_, ?_, ?_, ?_⟩, ⟨?_, ?_, ?_⟩, ⟨?_, ?_⟩, ?_⟩ <;> (intro _ _ _ _; omega)
  cov := fun p q hm => by
    obtain ⟨a1, a2, a3, a4⟩ := hm
    unfold wheel1
    by_cases k1 : x ≤ p ∧ q < y
    · exact ⟨_, List.mem_cons_self, k1.1, a2, a3, k1.2⟩
    by_cases k2 : u ≤ p ∧ y ≤ q
    · exact ⟨_, .tail _ (.head _), k2.1, a2, k2.2, a4⟩
    by_cases k3 : p < u ∧ v ≤ q
    · exact ⟨_, .tail _ (.tail _ (.head _)), a1, k3.1, k3.2, a4⟩
    by_cases k4 : p < x ∧ q < v
    · exact ⟨_, .tail _ (.tail _ (.tail _ (.head _))), a1, k4.1, a3, k4.2⟩
    · refine ⟨_, .tail _ (.tail _ (.tail _ (.tail _ (.head _)))), ?_, ?_, ?_, ?_⟩
      · show x ≤ p; omega
      · show p < u; omega
      · show y ≤ q; omega
      · show q < v; omega

/-! ### a box grown by a strip -/
def strip (c : Bx) : Nat → Bx
  | 0 => ⟨c.r, c.t, c.r + 1, c.b⟩
  | 1 => ⟨c.l - 1, c.t, c.l, c.b⟩
  | 2 => ⟨c.l, c.b, c.r, c.b + 1⟩
  | _ => ⟨c.l, c.t - 1, c.r, c.t⟩
def mn (a b : Int) : Int := if b < a then b else a
def mx (a b : Int) : Int := if b > a then b else a
def hull (a s : Bx) : Bx := ⟨mn a.l s.l, mn a.t s.t, mx a.r s.r, mx a.b s.b⟩
def meets (d s : Bx) : Prop := d.l < s.r ∧ s.l < d.r ∧ d.t < s.b ∧ s.t < d.b
instance (d s : Bx) : Decidable (meets d s) := by unfold meets; infer_instance
def sticks (c : Bx) (way : Nat) (d : Bx) : Prop := (way < 2 ∧ (d.t < c.t ∨ c.b < d.b)) ∨ (1 < way ∧ (d.l < c.l ∨ c.r < d.r))
instance (c : Bx) (way : Nat) (d : Bx) : Decidable (sticks c way d) := by unfold sticks; infer_instance
def clip (s : Bx) (way : Nat) (d : Bx) : Bx := match way with
  | 0 => ⟨s.r, d.t, d.r, d.b⟩
  | 1 => ⟨d.l, d.t, s.l, d.b⟩
  | 2 => ⟨d.l, s.b, d.r, d.b⟩
  | _ => ⟨d.l, d.t, d.r, s.t⟩
def newb (s : Bx) (at_ way k : Nat) (d : Bx) : Bx := if k = at_ then hull d s else if meets d s then clip s way d else d
def keepb (e : Bx) : Option Bx := if e.l < e.r ∧ e.t < e.b then some e else none
def gro (bs : List Bx) (s : Bx) (at_ way k : Nat) : List Bx := (List.range k).filterMap fun j => (bs[j]?).bind fun d => keepb (newb s at_ way j d)
theorem gro_zero (bs : List Bx) (s : Bx) (at_ way : Nat) : gro bs s at_ way 0 = [] := rfl
theorem gro_yes {bs : List Bx} {s d : Bx} {at_ way k : Nat} (h : bs[k]? = some d) (hk : (newb s at_ way k d).l < (newb s at_ way k d).r ∧ (newb s at_ way k d).t < (newb s at_ way k d).b) :
    gro bs s at_ way (k + 1) = gro bs s at_ way k ++ [newb s at_ way k d] := by
  unfold gro
  rw [List.range_succ, List.filterMap_append]
  congr 1
  simp [h, keepb, hk]
theorem gro_no {bs : List Bx} {s d : Bx} {at_ way k : Nat} (h : bs[k]? = some d) (hk : ¬ ((newb s at_ way k d).l < (newb s at_ way k d).r ∧ (newb s at_ way k d).t < (newb s at_ way k d).b)) :
    gro bs s at_ way (k + 1) = gro bs s at_ way k := by
  unfold gro
  rw [List.range_succ, List.filterMap_append]
  have e : List.filterMap (fun j => (bs[j]?).bind fun d => keepb (newb s at_ way j d)) [k] = [] := by simp [h, keepb, hk]
  rw [e, List.append_nil]
theorem gro_len (bs : List Bx) (s : Bx) (at_ way k : Nat) : (gro bs s at_ way k).length ≤ k := by
  have h := List.length_filterMap_le (fun j => (bs[j]?).bind fun d => keepb (newb s at_ way j d)) (List.range k)
  rw [List.length_range] at h
  exact h

theorem mn_le (a b : Int) : mn a b = a ∧ a ≤ b ∨ mn a b = b ∧ b ≤ a := by unfold mn; split <;> omega
theorem mx_le (a b : Int) : mx a b = a ∧ b ≤ a ∨ mx a b = b ∧ a ≤ b := by unfold mx; split <;> omega

theorem hull_mem {c : Bx} (h1 : c.l < c.r) (h2 : c.t < c.b) (way : Nat) (x y : Int) : (hull c (strip c way)).mem x y ↔ c.mem x y ∨ (strip c way).mem x y := by
  have a1 := mn_le c.l (strip c way).l
  have a2 := mn_le c.t (strip c way).t
  have a3 := mx_le c.r (strip c way).r
  have a4 := mx_le c.b (strip c way).b
  unfold hull Bx.mem
  dsimp only
  match way with
  | 0 => simp only [strip] at *; omega
  | 1 => simp only [strip] at *; omega
  | 2 => simp only [strip] at *; omega
  | n + 3 => simp only [strip] at *; omega
theorem other_mem {c d : Bx} (hc1 : c.l < c.r) (hc2 : c.t < c.b) (hd1 : d.l < d.r) (hd2 : d.t < d.b) (dj : Dj c d) {way : Nat} (hm : meets d (strip c way)) (hs : ¬ sticks c way d) (x y : Int) :
    (clip (strip c way) way d).mem x y ↔ d.mem x y ∧ ¬ (strip c way).mem x y := by
  unfold Bx.mem
  unfold meets at hm
  unfold sticks at hs
  unfold Dj Bx.mem at dj
  obtain rfl | rfl | rfl | ⟨n, rfl⟩ : way = 0 ∨ way = 1 ∨ way = 2 ∨ ∃ n, way = n + 3 := by
    match way with
    | 0 => exact .inl rfl
    | 1 => exact .inr (.inl rfl)
    | 2 => exact .inr (.inr (.inl rfl))
    | n + 3 => exact .inr (.inr (.inr ⟨n, rfl⟩))
  · have q := not_and.mpr (dj (c.r - 1) d.t)
    clear dj
    simp only [strip, clip] at *
    omega
  · have q := not_and.mpr (dj c.l d.t)
    clear dj
    simp only [strip, clip] at *
    omega
  · have q := not_and.mpr (dj d.l (c.b - 1))
    clear dj
    simp only [strip, clip] at *
    omega
  · have q := not_and.mpr (dj d.l c.t)
    clear dj
    simp only [strip, clip] at *
    omega
theorem apart_mem {d s : Bx} (hm : ¬ meets d s) (x y : Int) : d.mem x y ↔ d.mem x y ∧ ¬ s.mem x y := by
  unfold Bx.mem
  unfold meets at hm
  omega

theorem gro_mem {bs : List Bx} {s : Bx} {at_ way k : Nat} {e : Bx} : e ∈ gro bs s at_ way k ↔ ∃ j d, j < k ∧ bs[j]? = some d ∧ e = newb s at_ way j d ∧ e.l < e.r ∧ e.t < e.b := by
  unfold gro
  rw [List.mem_filterMap]
  constructor
  · rintro ⟨j, hj, he⟩
    rw [List.mem_range] at hj
    obtain ⟨d, hd, he⟩ := Option.bind_eq_some_iff.mp he
    unfold keepb at he
    split at he
    · rename_i hp
      cases he
      exact ⟨j, d, hj, hd, rfl, hp⟩
    · cases he
  · rintro ⟨j, d, hj, hd, rfl, hp⟩
    refine ⟨j, (List.mem_range.mpr hj), ?_⟩
    rw [hd]
    simp [keepb, hp]

theorem gro_part {N : Int} {bs : List Bx} {c : Bx} {at_ way : Nat} (p : Part N N bs) (hc : bs[at_]? = some c)
    (h1 : 0 ≤ (strip c way).l) (h2 : 0 ≤ (strip c way).t) (h3 : (strip c way).r ≤ N) (h4 : (strip c way).b ≤ N)
    (ns : ∀ j d, bs[j]? = some d → j ≠ at_ → meets d (strip c way) → ¬ sticks c way d) : Part N N (gro bs (strip c way) at_ way bs.length) := by
  have q := List.pairwise_iff_getElem.mp p.dj
  have pos : ∀ {j : Nat} {d : Bx}, bs[j]? = some d → d.l < d.r ∧ d.t < d.b := fun {j d} h => by
    obtain ⟨a1, a2, a3, a4, a5, a6⟩ := p.ins d (List.mem_of_getElem? h)
    exact ⟨a2, a5⟩
  have djI : ∀ {i j : Nat} {c d : Bx}, bs[i]? = some c → bs[j]? = some d → i ≠ j → Dj c d := fun {i j c d} h1 h2 hne x y m1 m2 => hne (p.injI h1 h2 m1 m2)
  have cells : ∀ {j : Nat} {d : Bx}, bs[j]? = some d → ∀ x y, (newb (strip c way) at_ way j d).mem x y ↔ (if j = at_ then c.mem x y ∨ (strip c way).mem x y else d.mem x y ∧ ¬ (strip c way).mem x y) := by
    intro j d hd x y
    unfold newb
    by_cases e : j = at_
    · subst e
      rw [hc] at hd
      cases hd
      rw [if_pos rfl, if_pos rfl]
      exact hull_mem (pos hc).1 (pos hc).2 way x y
    · rw [if_neg e, if_neg e]
      by_cases hm : meets d (strip c way)
      · rw [if_pos hm]
        exact other_mem (pos hc).1 (pos hc).2 (pos hd).1 (pos hd).2 (djI hc hd (fun z => e z.symm)) hm (ns j d hd e hm) x y
      · rw [if_neg hm]
        exact apart_mem hm x y
  have inC : ∀ x y, (strip c way).mem x y → 0 ≤ x ∧ x < N ∧ 0 ≤ y ∧ y < N := fun x y hm => by
    obtain ⟨a1, a2, a3, a4⟩ := hm
    omega
  have inD : ∀ {j : Nat} {d : Bx}, bs[j]? = some d → ∀ x y, d.mem x y → 0 ≤ x ∧ x < N ∧ 0 ≤ y ∧ y < N := fun {j d} h x y hm => by
    obtain ⟨a1, a2, a3, a4⟩ := hm
    obtain ⟨b1, b2, b3, b4, b5, b6⟩ := p.ins d (List.mem_of_getElem? h)
    omega
  refine ⟨p.w, p.h, fun e he => ?_, ?_, fun x y a b e f => ?_⟩
  · obtain ⟨j, d, hj, hd, rfl, hp1, hp2⟩ := gro_mem.mp he
    have inE : ∀ x y, (newb (strip c way) at_ way j d).mem x y → 0 ≤ x ∧ x < N ∧ 0 ≤ y ∧ y < N := fun x y hm => by
      have hm' := (cells hd x y).mp hm
      split at hm'
      · rcases hm' with z | z
        · exact inD hc x y z
        · exact inC x y z
      · exact inD hd x y hm'.1
    have k1 := inE (newb (strip c way) at_ way j d).l (newb (strip c way) at_ way j d).t ⟨Int.le_refl _, hp1, Int.le_refl _, hp2⟩
    have k2 := inE ((newb (strip c way) at_ way j d).r - 1) ((newb (strip c way) at_ way j d).b - 1) ⟨by omega, by omega, by omega, by omega⟩
    exact ⟨k1.1, hp1, by omega, k1.2.2.1, hp2, by omega⟩
  · unfold gro
    rw [List.pairwise_filterMap]
    refine List.Pairwise.imp ?_ (List.pairwise_lt_range (n := bs.length))
    intro i j hij e1 h1' e2 h2' x y m1 m2
    obtain ⟨d1, hd1, g1⟩ := Option.bind_eq_some_iff.mp h1'
    obtain ⟨d2, hd2, g2⟩ := Option.bind_eq_some_iff.mp h2'
    unfold keepb at g1 g2
    split at g1
    · split at g2
      · cases g1
        cases g2
        have z1 := (cells hd1 x y).mp m1
        have z2 := (cells hd2 x y).mp m2
        have hne : i ≠ j := Nat.ne_of_lt hij
        by_cases e1 : i = at_
        · rw [if_pos e1] at z1
          rw [if_neg (fun z => hne (e1.trans z.symm))] at z2
          rcases z1 with z1 | z1
          · exact hne (e1.trans (p.injI hc hd2 z1 z2.1))
          · exact z2.2 z1
        · rw [if_neg e1] at z1
          by_cases e2 : j = at_
          · rw [if_pos e2] at z2
            rcases z2 with z2 | z2
            · exact hne ((p.injI hd1 hc z1.1 z2).trans e2.symm)
            · exact z1.2 z2
          · rw [if_neg e2] at z2
            exact hne (p.injI hd1 hd2 z1.1 z2.1)
      · cases g2
    · cases g1
  · have hat : at_ < bs.length := (List.getElem?_eq_some_iff.mp hc).1
    have got : ∀ {j : Nat} {d : Bx}, bs[j]? = some d → (newb (strip c way) at_ way j d).mem x y → ∃ g ∈ gro bs (strip c way) at_ way bs.length, g.mem x y := fun {j d} hd hm => by
      refine ⟨_, gro_mem.mpr ⟨j, d, (List.getElem?_eq_some_iff.mp hd).1, hd, rfl, ?_, ?_⟩, hm⟩
      · obtain ⟨a1, a2, a3, a4⟩ := hm
        omega
      · obtain ⟨a1, a2, a3, a4⟩ := hm
        omega
    by_cases hs : (strip c way).mem x y
    · exact got hc ((cells hc x y).mpr (by rw [if_pos rfl]; exact .inr hs))
    · obtain ⟨d, hd, hm⟩ := p.cov x y a b e f
      obtain ⟨j, hj⟩ := List.mem_iff_getElem?.mp hd
      refine got hj ((cells hj x y).mpr ?_)
      by_cases ej : j = at_
      · rw [if_pos ej]
        subst ej
        rw [hc] at hj
        cases hj
        exact .inl hm
      · rw [if_neg ej]
        exact ⟨hm, hs⟩

end K14

/-! The mathematics, second part: lines, stretches, walls. -/
namespace K14

/-! ### laid on lines -/
/-- thirteen places, rising from 0 -/
structure Lns (xs : List Int) : Prop where
  len : xs.length = 13
  zero : xs[0]? = some 0
  up : xs.Pairwise (· < ·)
def ln (xs : List Int) (i : Int) : Int := xs.getD i.toNat 0
theorem ln_at {xs : List Int} {i : Int} (h : Lns xs) (h0 : 0 ≤ i) (h1 : i ≤ 12) : xs[i.toNat]? = some (ln xs i) := by
  have e : i.toNat < xs.length := by rw [h.len]; omega
  unfold ln
  rw [List.getD_eq_getElem?_getD, List.getElem?_eq_getElem e]
  rfl
theorem ln_lt {xs : List Int} {i j : Int} (h : Lns xs) (h0 : 0 ≤ i) (h1 : i < j) (h2 : j ≤ 12) : ln xs i < ln xs j := by
  have e1 : i.toNat < xs.length := by rw [h.len]; omega
  have e2 : j.toNat < xs.length := by rw [h.len]; omega
  have q := List.pairwise_iff_getElem.mp h.up i.toNat j.toNat e1 e2 (by omega)
  have a1 := ln_at h h0 (by omega)
  have a2 := ln_at h (by omega) h2
  rw [List.getElem?_eq_getElem e1] at a1
  rw [List.getElem?_eq_getElem e2] at a2
  rw [← Option.some.inj a1, ← Option.some.inj a2]
  exact q
theorem ln_le {xs : List Int} {i j : Int} (h : Lns xs) (h0 : 0 ≤ i) (h1 : i ≤ j) (h2 : j ≤ 12) : ln xs i ≤ ln xs j := by
  by_cases e : i = j
  · subst e
    exact Int.le_refl _
  · exact Int.le_of_lt (ln_lt h h0 (by omega) h2)
theorem ln_back {xs : List Int} {i j : Int} (h : Lns xs) (i0 : 0 ≤ i) (i1 : i ≤ 12) (j0 : 0 ≤ j) (j1 : j ≤ 12) (hl : ln xs i < ln xs j) : i < j := by
  by_cases e : i < j
  · exact e
  · have := ln_le h j0 (show j ≤ i by omega) i1
    omega
theorem ln_zero {xs : List Int} (h : Lns xs) : ln xs 0 = 0 := by
  have := ln_at h (Int.le_refl 0) (by omega)
  exact (Option.some.inj (this.symm.trans h.zero))
/-- each place lies between two lines -/
theorem ln_find {xs : List Int} (h : Lns xs) {x : Int} (h0 : 0 ≤ x) (h1 : x < ln xs 12) : ∃ i, 0 ≤ i ∧ i < 12 ∧ ln xs i ≤ x ∧ x < ln xs (i + 1) := by
  have key : ∀ n : Nat, (n : Int) ≤ 12 → x < ln xs n → ∃ i, 0 ≤ i ∧ i < 12 ∧ ln xs i ≤ x ∧ x < ln xs (i + 1) := by
    intro n
    induction n with
    | zero =>
      intro _ hx
      have e := ln_zero h
      have e' : ln xs ((0 : Nat) : Int) = ln xs 0 := rfl
      rw [e', e] at hx
      omega
    | succ n ih =>
      intro hn hx
      by_cases hc : x < ln xs n
      · exact ih (by omega) hc
      · refine ⟨n, by omega, by omega, by omega, ?_⟩
        have e : ((n + 1 : Nat) : Int) = (n : Int) + 1 := (by omega)
        rw [e] at hx
        exact hx
  exact key 12 (by omega) h1
def lay (xs ys : List Int) (c : Bx) : Bx := ⟨ln xs c.l, ln ys c.t, ln xs c.r, ln ys c.b⟩
theorem lay_part {xs ys : List Int} {bs : List Bx} (hx : Lns xs) (hy : Lns ys) (p : Part 12 12 bs) : Part (ln xs 12) (ln ys 12) (bs.map (lay xs ys)) where
  w := by
    have a := ln_lt hx (Int.le_refl 0) (show (0 : Int) < 12 by omega) (Int.le_refl 12)
    rw [ln_zero hx] at a
    exact a
  h := by
    have a := ln_lt hy (Int.le_refl 0) (show (0 : Int) < 12 by omega) (Int.le_refl 12)
    rw [ln_zero hy] at a
    exact a
  ins := fun c hc => by
    obtain ⟨d, hd, rfl⟩ := List.mem_map.mp hc
    obtain ⟨h1, h2, h3, h4, h5, h6⟩ := p.ins d hd
    have z1 := ln_le hx (Int.le_refl 0) h1 (by omega)
    have z2 := ln_le hy (Int.le_refl 0) h4 (by omega)
    rw [ln_zero hx] at z1
    rw [ln_zero hy] at z2
    exact ⟨z1, ln_lt hx h1 h2 h3, ln_le hx (by omega) h3 (Int.le_refl 12), z2, ln_lt hy h4 h5 h6, ln_le hy (by omega) h6 (Int.le_refl 12)⟩
  dj := List.pairwise_map.mpr (List.Pairwise.imp_of_mem (fun {c d} hc hd h x y m1 m2 => by
    obtain ⟨a1, a2, a3, a4⟩ := m1
    obtain ⟨b1, b2, b3, b4⟩ := m2
    obtain ⟨c1, c2, c3, c4, c5, c6⟩ := p.ins c hc
    obtain ⟨d1, d2, d3, d4, d5, d6⟩ := p.ins d hd
    dsimp only [lay] at a1 a2 a3 a4 b1 b2 b3 b4
    have z1 := ln_le hx (Int.le_refl 0) c1 (by omega)
    have z2 := ln_le hy (Int.le_refl 0) c4 (by omega)
    rw [ln_zero hx] at z1
    rw [ln_zero hy] at z2
    have y1 := ln_le hx (show 0 ≤ c.r by omega) c3 (Int.le_refl 12)
    have y2 := ln_le hy (show 0 ≤ c.b by omega) c6 (Int.le_refl 12)
    obtain ⟨i, i0, i1, i2, i3⟩ := ln_find hx (x := x) (by omega) (by omega)
    obtain ⟨j, j0, j1, j2, j3⟩ := ln_find hy (x := y) (by omega) (by omega)
    have w1 := ln_back hx (i := c.l) (j := i + 1) c1 (by omega) (by omega) (by omega) (by omega)
    have w2 := ln_back hx (i := i) (j := c.r) i0 (by omega) (by omega) c3 (by omega)
    have w3 := ln_back hy (i := c.t) (j := j + 1) c4 (by omega) (by omega) (by omega) (by omega)
    have w4 := ln_back hy (i := j) (j := c.b) j0 (by omega) (by omega) c6 (by omega)
    have v1 := ln_back hx (i := d.l) (j := i + 1) d1 (by omega) (by omega) (by omega) (by omega)
    have v2 := ln_back hx (i := i) (j := d.r) i0 (by omega) (by omega) d3 (by omega)
    have v3 := ln_back hy (i := d.t) (j := j + 1) d4 (by omega) (by omega) (by omega) (by omega)
    have v4 := ln_back hy (i := j) (j := d.b) j0 (by omega) (by omega) d6 (by omega)
    exact h i j ⟨by omega, w2, by omega, w4⟩ ⟨by omega, v2, by omega, v4⟩) p.dj)
  cov := fun x y x0 x1 y0 y1 => by
    obtain ⟨i, i0, i1, i2, i3⟩ := ln_find hx x0 x1
    obtain ⟨j, j0, j1, j2, j3⟩ := ln_find hy y0 y1
    obtain ⟨c, hc, m1, m2, m3, m4⟩ := p.cov i j i0 i1 j0 j1
    obtain ⟨c1, c2, c3, c4, c5, c6⟩ := p.ins c hc
    refine ⟨lay xs ys c, List.mem_map.mpr ⟨c, hc, rfl⟩, ?_, ?_, ?_, ?_⟩
    · have := ln_le hx c1 m1 (by omega)
      exact Int.le_trans this i2
    · have := ln_le hx (show 0 ≤ i + 1 by omega) (show i + 1 ≤ c.r by omega) c3
      exact Int.lt_of_lt_of_le i3 this
    · have := ln_le hy c4 m3 (by omega)
      exact Int.le_trans this j2
    · have := ln_le hy (show 0 ≤ j + 1 by omega) (show j + 1 ≤ c.b by omega) c6
      exact Int.lt_of_lt_of_le j3 this

/-! ### stretches -/
abbrev Sp2 := Int × Int
structure Part1 (f l : Int) (ss : List Sp2) : Prop where
  le : f ≤ l
  ins : ∀ s ∈ ss, f ≤ s.1 ∧ s.1 < s.2 ∧ s.2 ≤ l
  dj : ss.Pairwise fun a b => a.2 ≤ b.1 ∨ b.2 ≤ a.1
  cov : ∀ y, f ≤ y → y < l → ∃ s ∈ ss, s.1 ≤ y ∧ y < s.2
theorem Part1.perm {f l : Int} {ss ts : List Sp2} (p : Part1 f l ss) (e : ts.Perm ss) : Part1 f l ts where
  le := p.le
  ins := fun c hc => p.ins c (e.mem_iff.mp hc)
  dj := (e.pairwise_iff (fun {_ _} h => h.symm)).mpr p.dj
  cov := fun y a b => by
    obtain ⟨c, hc, hm⟩ := p.cov y a b
    exact ⟨c, e.mem_iff.mpr hc, hm⟩
def chain : Int → List Sp2 → Int → Prop
  | f, [], l => f = l
  | f, s :: r, l => s.1 = f ∧ chain s.2 r l
theorem chain_of : ∀ {ys : List Sp2} {f l : Int}, ys.Pairwise (fun a b => a.1 ≤ b.1) → Part1 f l ys → chain f ys l
  | [], f, l, _, p => by
    show f = l
    by_cases h : f < l
    · obtain ⟨s, hs, _⟩ := p.cov f (Int.le_refl _) h
      cases hs
    · have := p.le
      omega
  | s :: r, f, l, hp, p => by
    obtain ⟨h1, h2⟩ := (List.pairwise_cons.mp hp)
    obtain ⟨d1, d2⟩ := List.pairwise_cons.mp p.dj
    obtain ⟨i1, i2, i3⟩ := p.ins s List.mem_cons_self
    have e : s.1 = f := by
      obtain ⟨u, hu, u1, u2⟩ := p.cov f (Int.le_refl _) (by omega)
      rcases List.mem_cons.mp hu with z | z
      · subst z
        omega
      · have := h1 u z
        omega
    refine ⟨e, chain_of h2 ⟨i3, fun u hu => ?_, d2, fun y y1 y2 => ?_⟩⟩
    · obtain ⟨j1, j2, j3⟩ := p.ins u (List.mem_cons_of_mem _ hu)
      have := h1 u hu
      have := d1 u hu
      omega
    · obtain ⟨u, hu, u1, u2⟩ := p.cov y (by omega) y2
      rcases List.mem_cons.mp hu with z | z
      · subst z
        omega
      · exact ⟨u, z, u1, u2⟩

/-! ### sorted pairs and numbers -/
theorem uniq_sorted {α : Type} {le : α → α → Prop} (anti : ∀ a b, le a b → le b a → a = b) : ∀ {l m : List α}, l.Perm m → l.Pairwise le → m.Pairwise le → l = m
  | [], m, e, _, _ => e.nil_eq
  | a :: l, [], e, _, _ => by
    have := e.length_eq
    simp at this
  | a :: l, b :: m, e, hl, hm => by
    obtain ⟨l1, l2⟩ := List.pairwise_cons.mp hl
    obtain ⟨m1, m2⟩ := List.pairwise_cons.mp hm
    have eab : a = b := by
      rcases List.mem_cons.mp (e.mem_iff.mp (List.mem_cons_self (a := a) (l := l))) with z | z
      · exact z
      · rcases List.mem_cons.mp (e.mem_iff.mpr (List.mem_cons_self (a := b) (l := m))) with z' | z'
        · exact z'.symm
        · exact anti a b (l1 b z') (m1 a z)
    subst eab
    rw [uniq_sorted anti (List.Perm.cons_inv e) l2 m2]
def leP (a b : Sp2) : Bool := decide (a.1 < b.1 ∨ (a.1 = b.1 ∧ a.2 ≤ b.2))
theorem leP_iff {a b : Sp2} : leP a b = true ↔ a.1 < b.1 ∨ (a.1 = b.1 ∧ a.2 ≤ b.2) := by
  unfold leP
  exact decide_eq_true_iff
def sortP (l : List Sp2) : List Sp2 := l.mergeSort leP
theorem sortP_perm (l : List Sp2) : (sortP l).Perm l := List.mergeSort_perm l leP
theorem sortP_up (l : List Sp2) : (sortP l).Pairwise fun a b => leP a b = true := by
  refine List.pairwise_mergeSort (fun a b c h1 h2 => ?_) (fun a b => ?_) l
  · rw [leP_iff] at h1 h2 ⊢
    omega
  · by_cases h : leP a b = true
    · rw [h]
      rfl
    · have h' : leP b a = true := by
        rw [leP_iff] at h ⊢
        omega
      rw [h', Bool.or_true]
theorem sortP_uniq {l m : List Sp2} (e : m.Perm l) (h : m.Pairwise fun a b => leP a b = true) : m = sortP l := by
  refine uniq_sorted (fun a b h1 h2 => ?_) (e.trans (sortP_perm l).symm) h (sortP_up l)
  rw [leP_iff] at h1 h2
  exact Prod.ext (by omega) (by omega)
theorem sortP_fst (l : List Sp2) : (sortP l).Pairwise fun a b => a.1 ≤ b.1 := (sortP_up l).imp fun {a b} h => by
  rw [leP_iff] at h
  omega
def sortI (l : List Int) : List Int := l.mergeSort fun a b => decide (a ≤ b)
theorem sortI_perm (l : List Int) : (sortI l).Perm l := List.mergeSort_perm l _
theorem sortI_up (l : List Int) : (sortI l).Pairwise fun a b => a ≤ b := by
  have h := List.pairwise_mergeSort (le := fun a b : Int => decide (a ≤ b)) (fun a b c h1 h2 => by
    simp only [decide_eq_true_eq] at h1 h2 ⊢
    omega) (fun a b => by
    simp only [Bool.or_eq_true, decide_eq_true_eq]
    omega) l
  exact h.imp fun {a b} q => by simpa using q
theorem sortI_uniq {l m : List Int} (e : m.Perm l) (h : m.Pairwise fun a b => a ≤ b) : m = sortI l :=
  uniq_sorted (fun a b h1 h2 => by omega) (e.trans (sortI_perm l).symm) h (sortI_up l)

/-! ### stretches joined -/
def jn (acc : List Sp2) (s : Sp2) : List Sp2 := match acc.getLast? with
  | some q => if q.2 = s.1 then acc.dropLast ++ [(q.1, s.2)] else acc ++ [s]
  | none => [s]
theorem jn_nil (s : Sp2) : jn [] s = [s] := rfl
theorem jn_yes {A : List Sp2} {q s : Sp2} (h : q.2 = s.1) : jn (A ++ [q]) s = A ++ [(q.1, s.2)] := by
  unfold jn
  rw [List.getLast?_append]
  simp [h]
theorem jn_no {A : List Sp2} {q s : Sp2} (h : q.2 ≠ s.1) : jn (A ++ [q]) s = A ++ [q] ++ [s] := by
  unfold jn
  rw [List.getLast?_append]
  simp [h]
def joined (ys : List Sp2) : List Sp2 := ys.foldl jn []
theorem jn_len (acc : List Sp2) (s : Sp2) : (jn acc s).length ≤ acc.length + 1 := by
  rcases List.eq_nil_or_concat acc with e | ⟨A, q, e⟩
  · subst e
    exact Nat.le_refl _
  · rw [List.concat_eq_append] at e
    subst e
    by_cases h : q.2 = s.1
    · rw [jn_yes h]
      simp
    · rw [jn_no h]
      simp
theorem fold_jn_len : ∀ (ys acc : List Sp2), (ys.foldl jn acc).length ≤ acc.length + ys.length
  | [], acc => Nat.le_refl _
  | s :: r, acc => by
    have h1 := fold_jn_len r (jn acc s)
    have h2 := jn_len acc s
    rw [List.length_cons, List.foldl_cons]
    omega
def covd (l : List Sp2) (y : Int) : Prop := ∃ q ∈ l, q.1 ≤ y ∧ y < q.2
theorem covd_app (a b : List Sp2) (y : Int) : covd (a ++ b) y ↔ covd a y ∨ covd b y := by
  unfold covd
  constructor
  · rintro ⟨q, hq, h⟩
    rcases List.mem_append.mp hq with z | z
    · exact .inl ⟨q, z, h⟩
    · exact .inr ⟨q, z, h⟩
  · rintro (⟨q, hq, h⟩ | ⟨q, hq, h⟩)
    · exact ⟨q, List.mem_append_left _ hq, h⟩
    · exact ⟨q, List.mem_append_right _ hq, h⟩
theorem covd_one (s : Sp2) (y : Int) : covd [s] y ↔ s.1 ≤ y ∧ y < s.2 := by
  unfold covd
  simp
theorem covd_cons (s : Sp2) (l : List Sp2) (y : Int) : covd (s :: l) y ↔ (s.1 ≤ y ∧ y < s.2) ∨ covd l y := by
  rw [← List.singleton_append, covd_app, covd_one]
structure Sep (l : List Sp2) : Prop where
  pos : ∀ q ∈ l, q.1 < q.2
  sep : l.Pairwise fun a b => a.2 < b.1
theorem Sep.snoc {A : List Sp2} {s : Sp2} (h : Sep A) (hs : s.1 < s.2) (ha : ∀ q ∈ A, q.2 < s.1) : Sep (A ++ [s]) where
  pos := fun q hq => by
    rcases List.mem_append.mp hq with z | z
    · exact h.pos q z
    · rw [List.mem_singleton] at z
      rw [z]
      exact hs
  sep := List.pairwise_append.mpr ⟨h.sep, List.pairwise_singleton _ _, fun a ha' b hb => by
    rw [List.mem_singleton] at hb
    rw [hb]
    exact ha a ha'⟩
theorem fold_jn : ∀ {ys acc : List Sp2}, Sep acc → (∀ s ∈ ys, s.1 < s.2) → ys.Pairwise (fun a b => a.2 ≤ b.1) → (∀ q ∈ acc, ∀ s ∈ ys, q.2 ≤ s.1) →
    Sep (ys.foldl jn acc) ∧ ∀ y, covd (ys.foldl jn acc) y ↔ covd acc y ∨ covd ys y
  | [], acc, h, _, _, _ => ⟨h, fun y => by
    show covd acc y ↔ _
    have e : covd [] y ↔ False := by simp [covd]
    rw [e, or_false]⟩
  | s :: r, acc, h, hp, hw, hx => by
    obtain ⟨w1, w2⟩ := List.pairwise_cons.mp hw
    have ps := hp s List.mem_cons_self
    have step : Sep (jn acc s) ∧ (∀ q ∈ jn acc s, ∀ u ∈ r, q.2 ≤ u.1) ∧ ∀ y, covd (jn acc s) y ↔ covd acc y ∨ (s.1 ≤ y ∧ y < s.2) := by
      rcases List.eq_nil_or_concat acc with e | ⟨A, q, e⟩
      · subst e
        rw [jn_nil]
        refine ⟨⟨fun q hq => ?_, List.pairwise_singleton _ _⟩, fun q hq u hu => ?_, fun y => ?_⟩
        · replace hq := List.mem_singleton.mp hq
          rw [hq]
          exact ps
        · replace hq := List.mem_singleton.mp hq
          rw [hq]
          exact w1 u hu
        · have e : covd [] y ↔ False := by simp [covd]
          rw [covd_one, e, false_or]
      · rw [List.concat_eq_append] at e
        subst e
        have hq := hx q (List.mem_append_right _ (List.mem_singleton.mpr rfl)) s List.mem_cons_self
        have pq := h.pos q (List.mem_append_right _ (List.mem_singleton.mpr rfl))
        obtain ⟨sA, _, sX⟩ := List.pairwise_append.mp h.sep
        have hA : Sep A := ⟨fun a ha => h.pos a (List.mem_append_left _ ha), sA⟩
        have xA : ∀ a ∈ A, a.2 < q.1 := fun a ha => sX a ha q (List.mem_singleton.mpr rfl)
        by_cases e : q.2 = s.1
        · rw [jn_yes e]
          refine ⟨hA.snoc (by show q.1 < s.2; omega) xA, fun u hu v hv => ?_, fun y => ?_⟩
          · rcases List.mem_append.mp hu with z | z
            · exact hx u (List.mem_append_left _ z) v (List.mem_cons_of_mem _ hv)
            · rw [List.mem_singleton] at z
              rw [z]
              exact w1 v hv
          · rw [covd_app, covd_app, covd_one, covd_one]
            show covd A y ∨ (q.1 ≤ y ∧ y < s.2) ↔ _
            constructor
            · rintro (z | z)
              · exact .inl (.inl z)
              · by_cases hy : y < q.2
                · exact .inl (.inr ⟨z.1, hy⟩)
                · exact .inr ⟨by omega, z.2⟩
            · rintro ((z | z) | z)
              · exact .inl z
              · exact .inr ⟨z.1, by omega⟩
              · exact .inr ⟨by omega, z.2⟩
        · rw [jn_no e]
          refine ⟨h.snoc ps fun u hu => ?_, fun u hu v hv => ?_, fun y => by rw [covd_app (A ++ [q]), covd_one]⟩
          · rcases List.mem_append.mp hu with z | z
            · have := xA u z
              omega
            · rw [List.mem_singleton] at z
              rw [z]
              omega
          · rcases List.mem_append.mp hu with z | z
            · exact hx u z v (List.mem_cons_of_mem _ hv)
            · rw [List.mem_singleton] at z
              rw [z]
              exact w1 v hv
    obtain ⟨s1, s2, s3⟩ := step
    obtain ⟨r1, r2⟩ := fold_jn s1 (fun u hu => hp u (List.mem_cons_of_mem _ hu)) w2 s2
    refine ⟨r1, fun y => ?_⟩
    show covd (r.foldl jn (jn acc s)) y ↔ _
    rw [r2 y, s3 y, covd_cons, or_assoc]
theorem joined_sep {ys : List Sp2} (hp : ∀ s ∈ ys, s.1 < s.2) (hw : ys.Pairwise fun a b => a.2 ≤ b.1) : Sep (joined ys) ∧ ∀ y, covd (joined ys) y ↔ covd ys y := by
  obtain ⟨a, b⟩ := fold_jn (acc := []) ⟨fun _ h => (nomatch h), List.Pairwise.nil⟩ hp hw (fun _ h => (nomatch h))
  refine ⟨a, fun y => ?_⟩
  have e : covd [] y ↔ False := by simp [covd]
  have := b y
  rw [e, false_or] at this
  exact this

/-! ### walls -/
abbrev Wl := Int × Int × Int
def spansAt (p : Int) (ends : List Wl) : List Sp2 := (ends.filter fun e => decide (e.1 = p)).map (·.2)
def addKey (border : Int) (acc : List Int) (p : Int) : List Int := if p = border ∨ p ∈ acc then acc else acc ++ [p]
def places (border : Int) (ends : List Wl) : List Int := ends.foldl (fun acc e => addKey border acc e.1) []
theorem places_snoc (border : Int) (ends : List Wl) (e : Wl) : places border (ends ++ [e]) = addKey border (places border ends) e.1 := by
  unfold places
  rw [List.foldl_append]
  rfl
theorem spansAt_snoc (p : Int) (ends : List Wl) (e : Wl) : spansAt p (ends ++ [e]) = if e.1 = p then spansAt p ends ++ [e.2] else spansAt p ends := by
  unfold spansAt
  rw [List.filter_append, List.map_append]
  by_cases h : e.1 = p
  · rw [if_pos h]
    simp [h]
  · rw [if_neg h]
    simp [h]
theorem fold_places (border : Int) : ∀ (ends : List Wl) (acc : List Int), acc.Nodup → (∀ p ∈ acc, p ≠ border) →
    (ends.foldl (fun acc e => addKey border acc e.1) acc).Nodup ∧ ∀ p, p ∈ ends.foldl (fun acc e => addKey border acc e.1) acc ↔ p ∈ acc ∨ (p ≠ border ∧ ∃ e ∈ ends, e.1 = p)
  | [], acc, h, _ => ⟨h, fun p => by simp⟩
  | e :: r, acc, h, hb => by
    have step : (addKey border acc e.1).Nodup ∧ ∀ p, p ∈ addKey border acc e.1 ↔ p ∈ acc ∨ (p ≠ border ∧ e.1 = p) := by
      unfold addKey
      by_cases c : e.1 = border ∨ e.1 ∈ acc
      · rw [if_pos c]
        refine ⟨h, fun p => ⟨.inl, fun z => ?_⟩⟩
        rcases z with z | ⟨z1, z2⟩
        · exact z
        · rcases c with c | c
          · exact (z1 (z2.symm.trans c)).elim
          · rw [← z2]
            exact c
      · rw [if_neg c]
        refine ⟨List.nodup_append.mpr ⟨h, by simp, fun a ha b hb' z => ?_⟩, fun p => ?_⟩
        · rw [List.mem_singleton] at hb'
          exact c (.inr (by rw [← hb', ← z]; exact ha))
        · rw [List.mem_append, List.mem_singleton]
          constructor
          · rintro (z | z)
            · exact .inl z
            · exact .inr ⟨fun q => c (.inl (z.symm.trans q)), z.symm⟩
          · rintro (z | z)
            · exact .inl z
            · exact .inr z.2.symm
    obtain ⟨s1, s2⟩ := step
    obtain ⟨r1, r2⟩ := fold_places border r (addKey border acc e.1) s1 (fun p hp => by
      rcases (s2 p).mp hp with z | z
      · exact hb p z
      · exact z.1)
    refine ⟨r1, fun p => ?_⟩
    show p ∈ r.foldl (fun acc e => addKey border acc e.1) (addKey border acc e.1) ↔ _
    rw [r2 p, s2 p, or_assoc]
    constructor
    · rintro (z | z | z)
      · exact .inl z
      · exact .inr ⟨z.1, e, List.mem_cons_self, z.2⟩
      · obtain ⟨z1, u, hu, z2⟩ := z
        exact .inr ⟨z1, u, List.mem_cons_of_mem _ hu, z2⟩
    · rintro (z | ⟨z1, u, hu, z2⟩)
      · exact .inl z
      · rcases List.mem_cons.mp hu with q | q
        · subst q
          exact .inr (.inl ⟨z1, z2⟩)
        · exact .inr (.inr ⟨z1, u, q, z2⟩)
theorem places_nodup (border : Int) (ends : List Wl) : (places border ends).Nodup := (fold_places border ends [] .nil (fun _ h => nomatch h)).1
theorem mem_places {border p : Int} {ends : List Wl} : p ∈ places border ends ↔ p ≠ border ∧ ∃ e ∈ ends, e.1 = p := by
  have := (fold_places border ends [] .nil (fun _ h => nomatch h)).2 p
  simp only [List.not_mem_nil, false_or] at this
  exact this
theorem fold_places_len (border : Int) : ∀ (ends : List Wl) (acc : List Int), (ends.foldl (fun acc e => addKey border acc e.1) acc).length ≤ acc.length + ends.length
  | [], acc => Nat.le_refl _
  | e :: r, acc => by
    have h1 := fold_places_len border r (addKey border acc e.1)
    have h2 : (addKey border acc e.1).length ≤ acc.length + 1 := by
      unfold addKey
      split
      · omega
      · simp
    rw [List.length_cons, List.foldl_cons]
    omega
theorem places_len (border : Int) (ends : List Wl) : (places border ends).length ≤ ends.length := by
  have := fold_places_len border ends []
  rw [List.length_nil, Nat.zero_add] at this
  exact this
theorem spansAt_len (p : Int) (ends : List Wl) : (spansAt p ends).length ≤ ends.length := by
  unfold spansAt
  rw [List.length_map]
  exact List.length_filter_le _ _
def wallsAt (ends : List Wl) (p : Int) : List Wl := (joined (sortP (spansAt p ends))).map fun q => (p, q)
theorem wallsAt_len (ends : List Wl) (p : Int) : (wallsAt ends p).length ≤ ends.length := by
  unfold wallsAt joined
  rw [List.length_map]
  have h1 := fold_jn_len (sortP (spansAt p ends)) []
  have h2 := (sortP_perm (spansAt p ends)).length_eq
  have h3 := spansAt_len p ends
  rw [List.length_nil] at h1
  omega
theorem wallsAll_len (ends : List Wl) : ∀ l : List Int, (l.flatMap (wallsAt ends)).length ≤ l.length * ends.length
  | [] => by simp
  | p :: l => by
    have h1 := wallsAll_len ends l
    have h2 := wallsAt_len ends p
    rw [List.flatMap_cons, List.length_append, List.length_cons, Nat.add_mul, Nat.one_mul]
    omega
def wallsOf (ends : List Wl) (border : Int) : List Wl := (sortI (places border ends)).flatMap (wallsAt ends)
def rends (bs : List Bx) : List Wl := bs.map fun c => (c.r, c.t, c.b)
def walls (W : Int) (bs : List Bx) : List Wl := wallsOf (rends bs) W

/-- what is known of the walls of a page -/
structure Wls (W : Int) (bs : List Bx) (ws : List Wl) : Prop where
  pos : ∀ w ∈ ws, 0 < w.1 ∧ w.1 ≠ W ∧ w.2.1 < w.2.2
  cov : ∀ x y, x ≠ W → ((∃ w ∈ ws, w.1 = x ∧ w.2.1 ≤ y ∧ y < w.2.2) ↔ ∃ c ∈ bs, c.r = x ∧ c.t ≤ y ∧ y < c.b)
  sep : ws.Pairwise fun a b => a.1 = b.1 → a.2.2 < b.2.1
theorem mem_spansAt {p : Int} {bs : List Bx} {s : Sp2} : s ∈ spansAt p (rends bs) ↔ ∃ c ∈ bs, c.r = p ∧ s = (c.t, c.b) := by
  unfold spansAt rends
  constructor
  · intro h
    obtain ⟨e, he, rfl⟩ := List.mem_map.mp h
    obtain ⟨he, hp⟩ := List.mem_filter.mp he
    obtain ⟨c, hc, rfl⟩ := List.mem_map.mp he
    exact ⟨c, hc, of_decide_eq_true hp, rfl⟩
  · rintro ⟨c, hc, h1, rfl⟩
    exact List.mem_map.mpr ⟨(c.r, c.t, c.b), List.mem_filter.mpr ⟨List.mem_map.mpr ⟨c, hc, rfl⟩, decide_eq_true h1⟩, rfl⟩
theorem spansAt_dj {W H : Int} {bs : List Bx} (p : Part W H bs) (x : Int) : (spansAt x (rends bs)).Pairwise fun a b => a.2 ≤ b.1 ∨ b.2 ≤ a.1 := by
  unfold spansAt rends
  rw [List.filter_map, List.map_map, List.pairwise_map]
  refine List.Pairwise.imp_of_mem (fun {c d} hc hd h => ?_) (p.dj.filter _)
  obtain ⟨hc1, hc2⟩ := List.mem_filter.mp hc
  obtain ⟨hd1, hd2⟩ := List.mem_filter.mp hd
  have ec : c.r = x := of_decide_eq_true hc2
  have ed : d.r = x := of_decide_eq_true hd2
  obtain ⟨a1, a2, a3, a4, a5, a6⟩ := p.ins c hc1
  obtain ⟨b1, b2, b3, b4, b5, b6⟩ := p.ins d hd1
  show c.b ≤ d.t ∨ d.b ≤ c.t
  by_cases z1 : c.b ≤ d.t
  · exact .inl z1
  by_cases z2 : d.b ≤ c.t
  · exact .inr z2
  exfalso
  by_cases z3 : c.t ≤ d.t
  · exact h (x - 1) d.t ⟨by omega, by omega, by omega, by omega⟩ ⟨by omega, by omega, by omega, by omega⟩
  · exact h (x - 1) c.t ⟨by omega, by omega, by omega, by omega⟩ ⟨by omega, by omega, by omega, by omega⟩
theorem sorted_walls {W H : Int} {bs : List Bx} (p : Part W H bs) (x : Int) : Sep (joined (sortP (spansAt x (rends bs)))) ∧ ∀ y, covd (joined (sortP (spansAt x (rends bs)))) y ↔ ∃ c ∈ bs, c.r = x ∧ c.t ≤ y ∧ y < c.b := by
  have pm := sortP_perm (spansAt x (rends bs))
  have hp : ∀ s ∈ sortP (spansAt x (rends bs)), s.1 < s.2 := fun s hs => by
    obtain ⟨c, hc, _, rfl⟩ := mem_spansAt.mp (pm.mem_iff.mp hs)
    obtain ⟨a1, a2, a3, a4, a5, a6⟩ := p.ins c hc
    exact a5
  have hd := (pm.pairwise_iff (R := fun a b : Sp2 => a.2 ≤ b.1 ∨ b.2 ≤ a.1) (fun {_ _} h => h.symm)).mpr (spansAt_dj p x)
  have hw : (sortP (spansAt x (rends bs))).Pairwise fun a b => a.2 ≤ b.1 := by
    refine List.Pairwise.imp_of_mem (fun {a b} ha hb h => ?_) (hd.and (sortP_fst (spansAt x (rends bs))))
    have := hp a ha
    have := hp b hb
    omega
  obtain ⟨s1, s2⟩ := joined_sep hp hw
  refine ⟨s1, fun y => (s2 y).trans ⟨?_, ?_⟩⟩
  · rintro ⟨q, hq, h⟩
    obtain ⟨c, hc, e, rfl⟩ := mem_spansAt.mp (pm.mem_iff.mp hq)
    exact ⟨c, hc, e, h⟩
  · rintro ⟨c, hc, e, h⟩
    exact ⟨(c.t, c.b), pm.mem_iff.mpr (mem_spansAt.mpr ⟨c, hc, e, rfl⟩), h⟩
theorem walls_ok {W H : Int} {bs : List Bx} (p : Part W H bs) : Wls W bs (walls W bs) where
  pos := fun w hw => by
    obtain ⟨x, hx, hw⟩ := List.mem_flatMap.mp hw
    obtain ⟨q, hq, rfl⟩ := List.mem_map.mp hw
    obtain ⟨h1, e, he, h2⟩ := mem_places.mp ((sortI_perm _).mem_iff.mp hx)
    obtain ⟨c, hc, rfl⟩ := List.mem_map.mp he
    obtain ⟨a1, a2, a3, a4, a5, a6⟩ := p.ins c hc
    refine ⟨?_, h1, (sorted_walls p x).1.pos q hq⟩
    show 0 < x
    have h2' : c.r = x := h2
    omega
  cov := fun x y hx => by
    constructor
    · rintro ⟨w, hw, e, h⟩
      obtain ⟨x', _, hw⟩ := List.mem_flatMap.mp hw
      obtain ⟨q, hq, rfl⟩ := List.mem_map.mp hw
      have e' : x' = x := e
      subst e'
      exact ((sorted_walls p x').2 y).mp ⟨q, hq, h⟩
    · rintro ⟨c, hc, e, h⟩
      obtain ⟨q, hq, h'⟩ := ((sorted_walls p x).2 y).mpr ⟨c, hc, e, h⟩
      exact ⟨(x, q), List.mem_flatMap.mpr ⟨x, (sortI_perm _).mem_iff.mpr (mem_places.mpr ⟨hx, _, List.mem_map.mpr ⟨c, hc, rfl⟩, e⟩), List.mem_map.mpr ⟨q, hq, rfl⟩⟩, rfl, h'⟩
  sep := by
    unfold walls wallsOf
    rw [List.pairwise_flatMap]
    constructor
    · intro x _
      unfold wallsAt
      rw [List.pairwise_map]
      exact List.Pairwise.imp (fun {a b} (h : a.2 < b.1) (_ : x = x) => h) (sorted_walls p x).1.sep
    · have nd : (sortI (places W (rends bs))).Nodup := (sortI_perm _).nodup_iff.mpr (places_nodup _ _)
      refine List.Pairwise.imp (fun {x y} hne => ?_) nd
      intro a ha b hb e
      obtain ⟨_, _, rfl⟩ := List.mem_map.mp ha
      obtain ⟨_, _, rfl⟩ := List.mem_map.mp hb
      exact (hne e).elim

/-! ### the wall at a side -/
def hitW (place first : Int) (w : Wl) : Prop := w.1 = place ∧ w.2.1 ≤ first ∧ first < w.2.2
def At (ws : List Wl) (place first border k : Int) : Prop :=
  (place = 0 ∧ k = -1) ∨ (place ≠ 0 ∧ place = border ∧ k = (ws.length : Int)) ∨
    (place ≠ 0 ∧ place ≠ border ∧ ∃ (i : Nat) (w : Wl), k = (i : Int) ∧ ws[i]? = some w ∧ hitW place first w ∧ ∀ j v, j < i → ws[j]? = some v → ¬ hitW place first v)
theorem At.fn {ws : List Wl} {place first border k k' : Int} (h : At ws place first border k) (h' : At ws place first border k') : k = k' := by
  rcases h with ⟨a1, a2⟩ | ⟨a1, a2, a3⟩ | ⟨a1, a2, i, w, rfl, hi, hh, hf⟩
  · rcases h' with ⟨b1, b2⟩ | ⟨b1, _⟩ | ⟨b1, _⟩
    · exact a2.trans b2.symm
    · exact (b1 a1).elim
    · exact (b1 a1).elim
  · rcases h' with ⟨b1, b2⟩ | ⟨b1, b2, b3⟩ | ⟨b1, b2, _⟩
    · exact (a1 b1).elim
    · exact a3.trans b3.symm
    · exact (b2 a2).elim
  · rcases h' with ⟨b1, b2⟩ | ⟨b1, b2, b3⟩ | ⟨b1, b2, j, v, rfl, hj, gh, gf⟩
    · exact (a1 b1).elim
    · exact (a2 b2).elim
    · rcases Nat.lt_trichotomy i j with z | z | z
      · exact (gf i w z hi hh).elim
      · rw [z]
      · exact (hf j v z hj gh).elim
theorem first_hit {α : Type} (P : α → Prop) : ∀ (l : List α), (∃ x ∈ l, P x) → ∃ (i : Nat) (x : α), l[i]? = some x ∧ P x ∧ ∀ j y, j < i → l[j]? = some y → ¬ P y
  | [], ⟨_, h, _⟩ => by cases h
  | a :: l, ⟨x, hx, hp⟩ => by
    by_cases ha : P a
    · exact ⟨0, a, rfl, ha, fun j y hj => absurd hj (Nat.not_lt_zero j)⟩
    · have hx' : ∃ x ∈ l, P x := by
        rcases List.mem_cons.mp hx with z | z
        · rw [z] at hp
          exact (ha hp).elim
        · exact ⟨x, z, hp⟩
      obtain ⟨i, z, h1, h2, h3⟩ := first_hit P l hx'
      refine ⟨i + 1, z, by simpa using h1, h2, fun j y hj hy => ?_⟩
      cases j with
      | zero =>
        have e : a = y := by simpa using hy
        rw [← e]
        exact ha
      | succ j => exact h3 j y (by omega) (by simpa using hy)

section
variable {W H : Int} {bs : List Bx} {ws : List Wl}
/-- two walls at one place that have a place in common are one -/
theorem Wls.inj (q : Wls W bs ws) {i j : Nat} {v w : Wl} (hv : ws[i]? = some v) (hw : ws[j]? = some w) {p a b : Int} (h1 : v.1 = p) (h2 : w.1 = p) (va : v.2.1 ≤ a) (vb : a < v.2.2) (wa : w.2.1 ≤ b) (wb : b < w.2.2) (e : a = b) : i = j := by
  obtain ⟨hi, rfl⟩ := List.getElem?_eq_some_iff.mp hv
  obtain ⟨hj, rfl⟩ := List.getElem?_eq_some_iff.mp hw
  have s := List.pairwise_iff_getElem.mp q.sep
  rcases Nat.lt_trichotomy i j with z | z | z
  · have := s i j hi hj z (h1.trans h2.symm)
    omega
  · exact z
  · have := s j i hj hi z (h2.trans h1.symm)
    omega
/-- a stretch all of whose places lie on walls at x lies on one wall -/
theorem Wls.inside (q : Wls W bs ws) {x s e : Int} (hx : x ≠ W) (hse : s < e) (hc : ∀ y, s ≤ y → y < e → ∃ c ∈ bs, c.r = x ∧ c.t ≤ y ∧ y < c.b) {i : Nat} {w : Wl} (hw : ws[i]? = some w) (hh : hitW x s w) : e ≤ w.2.2 := by
  obtain ⟨h1, h2, h3⟩ := hh
  by_cases z : e ≤ w.2.2
  · exact z
  exfalso
  obtain ⟨v, hv, g1, g2, g3⟩ := (q.cov x w.2.2 hx).mpr (hc w.2.2 (by omega) (by omega))
  obtain ⟨j, hj, rfl⟩ := List.mem_iff_getElem.mp hv
  obtain ⟨hi, rfl⟩ := List.getElem?_eq_some_iff.mp hw
  have sp := List.pairwise_iff_getElem.mp q.sep
  rcases Nat.lt_trichotomy i j with z | z | z
  · have := sp i j hi hj z (h1.trans g1.symm)
    omega
  · subst z
    omega
  · have := sp j i hj hi z (g1.trans h1.symm)
    omega
/-- rows along the left side of a box, not at the border, are rows along right sides -/
theorem left_rows (p : Part W H bs) {c : Bx} (hc : c ∈ bs) (h0 : c.l ≠ 0) : ∀ y, c.t ≤ y → y < c.b → ∃ d ∈ bs, d.r = c.l ∧ d.t ≤ y ∧ y < d.b := fun y h1 h2 => by
  obtain ⟨a1, a2, a3, a4, a5, a6⟩ := p.ins c hc
  obtain ⟨d, hd, m1, m2, m3, m4⟩ := p.cov (c.l - 1) y (by omega) (by omega) (by omega) (by omega)
  refine ⟨d, hd, ?_, m3, m4⟩
  by_cases z : d.r = c.l
  · exact z
  · have e := p.inj hc hd (x := c.l) (y := y) ⟨Int.le_refl _, a2, h1, h2⟩ ⟨by omega, by omega, m3, m4⟩
    subst e
    omega
theorem right_rows {c : Bx} (hc : c ∈ bs) : ∀ y, c.t ≤ y → y < c.b → ∃ d ∈ bs, d.r = c.r ∧ d.t ≤ y ∧ y < d.b := fun _ h1 h2 => ⟨c, hc, rfl, h1, h2⟩
/-- the wall at a side is there -/
theorem at_some (q : Wls W bs ws) {x s e : Int} (h0 : x ≠ 0) (hx : x ≠ W) (hse : s < e) (hc : ∀ y, s ≤ y → y < e → ∃ c ∈ bs, c.r = x ∧ c.t ≤ y ∧ y < c.b) :
    ∃ (i : Nat) (w : Wl), At ws x s W (i : Int) ∧ ws[i]? = some w ∧ hitW x s w ∧ e ≤ w.2.2 := by
  obtain ⟨w, hw, h⟩ := (q.cov x s hx).mpr (hc s (Int.le_refl _) hse)
  obtain ⟨i, v, hi, hv, hf⟩ := first_hit (hitW x s) ws ⟨w, hw, h⟩
  exact ⟨i, v, .inr (.inr ⟨h0, hx, i, v, rfl, hi, hv, hf⟩), hi, hv, q.inside hx hse hc hi hv⟩
theorem at_left (p : Part W H bs) (q : Wls W bs ws) {c : Bx} (hc : c ∈ bs) : (c.l = 0 ∧ At ws c.l c.t W (-1)) ∨ (c.l ≠ 0 ∧ ∃ (i : Nat) (w : Wl), At ws c.l c.t W (i : Int) ∧ ws[i]? = some w ∧ hitW c.l c.t w ∧ c.b ≤ w.2.2) := by
  obtain ⟨a1, a2, a3, a4, a5, a6⟩ := p.ins c hc
  by_cases h0 : c.l = 0
  · exact .inl ⟨h0, .inl ⟨h0, rfl⟩⟩
  · exact .inr ⟨h0, at_some q h0 (by omega) a5 (left_rows p hc h0)⟩
theorem at_right (p : Part W H bs) (q : Wls W bs ws) {c : Bx} (hc : c ∈ bs) : (c.r = W ∧ At ws c.r c.t W (ws.length : Int)) ∨ (c.r ≠ W ∧ ∃ (i : Nat) (w : Wl), At ws c.r c.t W (i : Int) ∧ ws[i]? = some w ∧ hitW c.r c.t w ∧ c.b ≤ w.2.2) := by
  obtain ⟨a1, a2, a3, a4, a5, a6⟩ := p.ins c hc
  by_cases hw : c.r = W
  · exact .inl ⟨hw, .inr (.inl ⟨by omega, hw, rfl⟩)⟩
  · exact .inr ⟨hw, at_some q (by omega) hw a5 (right_rows hc)⟩
/-- boxes side by side have that side at one wall -/
theorem beside_one (p : Part W H bs) (q : Wls W bs ws) {c d : Bx} (hc : c ∈ bs) (hd : d ∈ bs) (e : c.r = d.l) (h1 : c.t < d.b) (h2 : d.t < c.b) {k k' : Int} (a : At ws c.r c.t W k) (b : At ws d.l d.t W k') : k = k' := by
  obtain ⟨c1, c2, c3, c4, c5, c6⟩ := p.ins c hc
  obtain ⟨d1, d2, d3, d4, d5, d6⟩ := p.ins d hd
  rcases at_right p q hc with ⟨z, _⟩ | ⟨_, i, w, ai, wi, ⟨w1, w2, w3⟩, w4⟩
  · omega
  rcases at_left p q hd with ⟨z, _⟩ | ⟨_, j, v, aj, vj, ⟨v1, v2, v3⟩, v4⟩
  · omega
  rw [a.fn ai, b.fn aj]
  have : i = j := by
    by_cases z : c.t ≤ d.t
    · exact q.inj (a := d.t) (b := d.t) wi vj (w1.trans e) v1 (by omega) (by omega) (by omega) (by omega) rfl
    · exact q.inj (a := c.t) (b := c.t) wi vj (w1.trans e) v1 (by omega) (by omega) (by omega) (by omega) rfl
  rw [this]

/-! ### along walls: ps are the boxes with the walls of their left and right sides -/
structure Lies (W H : Int) (bs : List Bx) (ws : List Wl) (ps : List (Bx × Int × Int)) : Prop where
  box : ps.map (·.1) = bs
  lo : ∀ p ∈ ps, At ws p.1.l p.1.t W p.2.1
  hi : ∀ p ∈ ps, At ws p.1.r p.1.t W p.2.2
def spL (ps : List (Bx × Int × Int)) (k : Int) : List Sp2 := (ps.filter fun p => decide (p.2.1 = k)).map fun p => (p.1.t, p.1.b)
def spR (ps : List (Bx × Int × Int)) (k : Int) : List Sp2 := (ps.filter fun p => decide (p.2.2 = k)).map fun p => (p.1.t, p.1.b)
theorem mem_spL {ps : List (Bx × Int × Int)} {k : Int} {s : Sp2} : s ∈ spL ps k ↔ ∃ p ∈ ps, p.2.1 = k ∧ s = (p.1.t, p.1.b) := by
  unfold spL
  constructor
  · intro h
    obtain ⟨p, hp, rfl⟩ := (List.mem_map.mp h)
    obtain ⟨h1, h2⟩ := List.mem_filter.mp hp
    exact ⟨p, h1, of_decide_eq_true h2, rfl⟩
  · rintro ⟨p, h1, h2, rfl⟩
    exact List.mem_map.mpr ⟨p, List.mem_filter.mpr ⟨h1, decide_eq_true h2⟩, rfl⟩
theorem mem_spR {ps : List (Bx × Int × Int)} {k : Int} {s : Sp2} : s ∈ spR ps k ↔ ∃ p ∈ ps, p.2.2 = k ∧ s = (p.1.t, p.1.b) := by
  unfold spR
  constructor
  · intro h
    obtain ⟨p, hp, rfl⟩ := (List.mem_map.mp h)
    obtain ⟨h1, h2⟩ := List.mem_filter.mp hp
    exact ⟨p, h1, of_decide_eq_true h2, rfl⟩
  · rintro ⟨p, h1, h2, rfl⟩
    exact List.mem_map.mpr ⟨p, List.mem_filter.mpr ⟨h1, decide_eq_true h2⟩, rfl⟩
theorem rows_dj (p : Part W H bs) {c d : Bx} (hc : c ∈ bs) (hd : d ∈ bs) (dj : Dj c d) {x : Int} (c1 : c.l ≤ x) (c2 : x < c.r) (d1 : d.l ≤ x) (d2 : x < d.r) : c.b ≤ d.t ∨ d.b ≤ c.t := by
  obtain ⟨_, _, _, c4, c5, c6⟩ := p.ins c hc
  obtain ⟨_, _, _, d4, d5, d6⟩ := p.ins d hd
  by_cases z1 : c.b ≤ d.t
  · exact .inl z1
  by_cases z2 : d.b ≤ c.t
  · exact .inr z2
  exfalso
  by_cases z3 : c.t ≤ d.t
  · exact dj x d.t ⟨c1, c2, by omega, by omega⟩ ⟨d1, d2, by omega, by omega⟩
  · exact dj x c.t ⟨c1, c2, by omega, by omega⟩ ⟨d1, d2, by omega, by omega⟩
variable {ps : List (Bx × Int × Int)}
theorem Lies.mem (L : Lies W H bs ws ps) {p : Bx × Int × Int} (hp : p ∈ ps) : p.1 ∈ bs := by
  rw [← L.box]
  exact List.mem_map.mpr ⟨p, hp, rfl⟩
theorem Lies.of (L : Lies W H bs ws ps) {c : Bx} (hc : c ∈ bs) : ∃ p ∈ ps, p.1 = c := by
  rw [← L.box] at hc
  obtain ⟨p, hp, e⟩ := List.mem_map.mp hc
  exact ⟨p, hp, e⟩
theorem Lies.dj (L : Lies W H bs ws ps) (p : Part W H bs) : ps.Pairwise fun a b => Dj a.1 b.1 := by
  have := p.dj
  rw [← L.box, List.pairwise_map] at this
  exact this
/-- what lies at one number on the left: all at one place -/
theorem spL_dj (L : Lies W H bs ws ps) (p : Part W H bs) {k x : Int} (hx : ∀ u ∈ ps, u.2.1 = k → u.1.l = x) : (spL ps k).Pairwise fun a b => a.2 ≤ b.1 ∨ b.2 ≤ a.1 := by
  unfold spL
  rw [List.pairwise_map]
  refine List.Pairwise.imp_of_mem (fun {u v} hu hv h => ?_) ((L.dj p).filter _)
  obtain ⟨u1, u2⟩ := List.mem_filter.mp hu
  obtain ⟨v1, v2⟩ := List.mem_filter.mp hv
  have eu := hx u u1 (of_decide_eq_true u2)
  have ev := hx v v1 (of_decide_eq_true v2)
  obtain ⟨_, a2, _⟩ := p.ins _ (L.mem u1)
  obtain ⟨_, b2, _⟩ := p.ins _ (L.mem v1)
  exact rows_dj p (L.mem u1) (L.mem v1) h (x := x) (by omega) (by omega) (by omega) (by omega)
theorem spR_dj (L : Lies W H bs ws ps) (p : Part W H bs) {k x : Int} (hx : ∀ u ∈ ps, u.2.2 = k → u.1.r = x) : (spR ps k).Pairwise fun a b => a.2 ≤ b.1 ∨ b.2 ≤ a.1 := by
  unfold spR
  rw [List.pairwise_map]
  refine List.Pairwise.imp_of_mem (fun {u v} hu hv h => ?_) ((L.dj p).filter _)
  obtain ⟨u1, u2⟩ := List.mem_filter.mp hu
  obtain ⟨v1, v2⟩ := List.mem_filter.mp hv
  have eu := hx u u1 (of_decide_eq_true u2)
  have ev := hx v v1 (of_decide_eq_true v2)
  obtain ⟨_, a2, _⟩ := p.ins _ (L.mem u1)
  obtain ⟨_, b2, _⟩ := p.ins _ (L.mem v1)
  exact rows_dj p (L.mem u1) (L.mem v1) h (x := x - 1) (by omega) (by omega) (by omega) (by omega)
/-- the left border -/
theorem left_border (L : Lies W H bs ws ps) (p : Part W H bs) (q : Wls W bs ws) : Part1 0 H (spL ps (-1)) := by
  have hx : ∀ u ∈ ps, u.2.1 = -1 → u.1.l = 0 := fun u hu e => by
    rcases at_left p q (L.mem hu) with ⟨z, _⟩ | ⟨_, i, w, ai, _⟩
    · exact z
    · have := (L.lo u hu).fn ai
      omega
  refine ⟨Int.le_of_lt p.h, fun s hs => ?_, spL_dj L p hx, fun y y0 y1 => ?_⟩
  · obtain ⟨u, hu, e, rfl⟩ := mem_spL.mp hs
    obtain ⟨a1, a2, a3, a4, a5, a6⟩ := p.ins _ (L.mem hu)
    exact ⟨a4, a5, a6⟩
  · obtain ⟨c, hc, m1, m2, m3, m4⟩ := p.cov 0 y (Int.le_refl _) p.w y0 y1
    obtain ⟨u, hu, rfl⟩ := L.of hc
    obtain ⟨a1, a2, a3, a4, a5, a6⟩ := p.ins _ hc
    have e0 : u.1.l = 0 := by omega
    exact ⟨_, mem_spL.mpr ⟨u, hu, (L.lo u hu).fn (.inl ⟨e0, rfl⟩), rfl⟩, m3, m4⟩
/-- the right border -/
theorem right_border (L : Lies W H bs ws ps) (p : Part W H bs) (q : Wls W bs ws) : Part1 0 H (spR ps (ws.length : Int)) := by
  have hx : ∀ u ∈ ps, u.2.2 = (ws.length : Int) → u.1.r = W := fun u hu e => by
    rcases at_right p q (L.mem hu) with ⟨z, _⟩ | ⟨_, i, w, ai, wi, _⟩
    · exact z
    · have e1 := (L.hi u hu).fn ai
      have e2 := (List.getElem?_eq_some_iff.mp wi).1
      omega
  refine ⟨Int.le_of_lt p.h, fun s hs => ?_, spR_dj L p hx, fun y y0 y1 => ?_⟩
  · obtain ⟨u, hu, e, rfl⟩ := mem_spR.mp hs
    obtain ⟨a1, a2, a3, a4, a5, a6⟩ := p.ins _ (L.mem hu)
    exact ⟨a4, a5, a6⟩
  · have pw := p.w
    obtain ⟨c, hc, m1, m2, m3, m4⟩ := p.cov (W - 1) y (by omega) (by omega) y0 y1
    obtain ⟨u, hu, rfl⟩ := L.of hc
    obtain ⟨a1, a2, a3, a4, a5, a6⟩ := p.ins _ hc
    have e0 : u.1.r = W := by omega
    exact ⟨_, mem_spR.mpr ⟨u, hu, (L.hi u hu).fn (.inr (.inl ⟨by omega, e0, rfl⟩)), rfl⟩, m3, m4⟩
theorem no_right (L : Lies W H bs ws ps) (p : Part W H bs) (q : Wls W bs ws) : spR ps (-1) = [] := by
  refine List.eq_nil_iff_forall_not_mem.mpr fun s hs => ?_
  obtain ⟨u, hu, e, rfl⟩ := mem_spR.mp hs
  rcases at_right p q (L.mem hu) with ⟨_, ai⟩ | ⟨_, i, w, ai, _⟩
  · have := (L.hi u hu).fn ai
    omega
  · have := (L.hi u hu).fn ai
    omega
theorem no_left (L : Lies W H bs ws ps) (p : Part W H bs) (q : Wls W bs ws) : spL ps (ws.length : Int) = [] := by
  refine List.eq_nil_iff_forall_not_mem.mpr fun s hs => ?_
  obtain ⟨u, hu, e, rfl⟩ := mem_spL.mp hs
  rcases at_left p q (L.mem hu) with ⟨_, ai⟩ | ⟨_, i, w, ai, wi, _⟩
  · have := (L.lo u hu).fn ai
    omega
  · have e1 := (L.lo u hu).fn ai
    have e2 := (List.getElem?_eq_some_iff.mp wi).1
    omega
/-- along a wall, on its left: the boxes that have their right side there -/
theorem along_right (L : Lies W H bs ws ps) (p : Part W H bs) (q : Wls W bs ws) {k : Nat} {w : Wl} (hw : ws[k]? = some w) : Part1 w.2.1 w.2.2 (spR ps (k : Int)) := by
  have hk := (List.getElem?_eq_some_iff.mp hw).1
  obtain ⟨p1, p2, p3⟩ := q.pos w (List.mem_of_getElem? hw)
  have hx : ∀ u ∈ ps, u.2.2 = (k : Int) → u.1.r = w.1 ∧ w.2.1 ≤ u.1.t ∧ u.1.b ≤ w.2.2 := fun u hu e => by
    rcases at_right p q (L.mem hu) with ⟨_, ai⟩ | ⟨_, i, v, ai, vi, ⟨v1, v2, v3⟩, v4⟩
    · have := (L.hi u hu).fn ai
      omega
    · have e1 := (L.hi u hu).fn ai
      have e2 : i = k := by omega
      subst e2
      rw [hw] at vi
      cases vi
      exact ⟨v1.symm, v2, v4⟩
  refine ⟨Int.le_of_lt p3, fun s hs => ?_, spR_dj L p (fun u hu e => (hx u hu e).1), fun y y0 y1 => ?_⟩
  · obtain ⟨u, hu, e, rfl⟩ := mem_spR.mp hs
    obtain ⟨a1, a2, a3, a4, a5, a6⟩ := p.ins _ (L.mem hu)
    obtain ⟨b1, b2, b3⟩ := hx u hu e
    exact ⟨b2, a5, b3⟩
  · obtain ⟨c, hc, c1, c2, c3⟩ := (q.cov w.1 y p2).mp ⟨w, List.mem_of_getElem? hw, rfl, y0, y1⟩
    obtain ⟨u, hu, rfl⟩ := L.of hc
    rcases at_right p q hc with ⟨z, _⟩ | ⟨_, i, v, ai, vi, ⟨v1, v2, v3⟩, v4⟩
    · exact (p2 (c1.symm.trans z)).elim
    · have e2 : i = k := q.inj (a := y) (b := y) vi hw (v1.trans c1) rfl (by omega) (by omega) y0 y1 rfl
      subst e2
      exact ⟨_, mem_spR.mpr ⟨u, hu, (L.hi u hu).fn ai, rfl⟩, c2, c3⟩
/-- along a wall, on its right: the boxes that have their left side there -/
theorem along_left (L : Lies W H bs ws ps) (p : Part W H bs) (q : Wls W bs ws) {k : Nat} {w : Wl} (hw : ws[k]? = some w) : Part1 w.2.1 w.2.2 (spL ps (k : Int)) := by
  have hk := (List.getElem?_eq_some_iff.mp hw).1
  obtain ⟨p1, p2, p3⟩ := q.pos w (List.mem_of_getElem? hw)
  have hx : ∀ u ∈ ps, u.2.1 = (k : Int) → u.1.l = w.1 ∧ w.2.1 ≤ u.1.t ∧ u.1.b ≤ w.2.2 := fun u hu e => by
    rcases at_left p q (L.mem hu) with ⟨_, ai⟩ | ⟨_, i, v, ai, vi, ⟨v1, v2, v3⟩, v4⟩
    · have := (L.lo u hu).fn ai
      omega
    · have e1 := (L.lo u hu).fn ai
      have e2 : i = k := by omega
      subst e2
      rw [hw] at vi
      cases vi
      exact ⟨v1.symm, v2, v4⟩
  refine ⟨Int.le_of_lt p3, fun s hs => ?_, spL_dj L p (fun u hu e => (hx u hu e).1), fun y y0 y1 => ?_⟩
  · obtain ⟨u, hu, e, rfl⟩ := mem_spL.mp hs
    obtain ⟨a1, a2, a3, a4, a5, a6⟩ := p.ins _ (L.mem hu)
    obtain ⟨b1, b2, b3⟩ := hx u hu e
    exact ⟨b2, a5, b3⟩
  · obtain ⟨d, hd, d1, d2, d3⟩ := (q.cov w.1 y p2).mp ⟨w, List.mem_of_getElem? hw, rfl, y0, y1⟩
    obtain ⟨b1, b2, b3, b4, b5, b6⟩ := p.ins d hd
    obtain ⟨c, hc, c1, c2, c3, c4⟩ := p.cov w.1 y (by omega) (by omega) (by omega) (by omega)
    obtain ⟨u, hu, rfl⟩ := L.of hc
    have el : u.1.l = w.1 := by
      by_cases z : u.1.l = w.1
      · exact z
      · have e := p.inj hc hd (x := w.1 - 1) (y := y) ⟨by omega, by omega, c3, c4⟩ ⟨by omega, by omega, d2, d3⟩
        rw [e] at c2
        omega
    rcases at_left p q hc with ⟨z, _⟩ | ⟨_, i, v, ai, vi, ⟨v1, v2, v3⟩, v4⟩
    · omega
    · have e2 : i = k := q.inj (a := y) (b := y) vi hw (v1.trans el) rfl (by omega) (by omega) y0 y1 rfl
      subst e2
      exact ⟨_, mem_spL.mpr ⟨u, hu, (L.lo u hu).fn ai, rfl⟩, c3, c4⟩
end

/-! ### neighbours -/
def bes (c d : Bx) : Prop := c.r = d.l ∧ c.t < d.b ∧ d.t < c.b
def bnt (c d : Bx) : Prop := c.b = d.t ∧ c.l < d.r ∧ d.l < c.r
instance (c d : Bx) : Decidable (bes c d) := by unfold bes; infer_instance
instance (c d : Bx) : Decidable (bnt c d) := by unfold bnt; infer_instance
theorem bes_no {W H : Int} {c d : Bx} (hc : c.ins W H) (hd : d.ins W H) (h : bes c d) (h' : bes d c) : False := by
  obtain ⟨c1, c2, c3, c4, c5, c6⟩ := hc
  obtain ⟨d1, d2, d3, d4, d5, d6⟩ := hd
  have a1 := h.1
  have a2 := h'.1
  omega
theorem bnt_no {W H : Int} {c d : Bx} (hc : c.ins W H) (hd : d.ins W H) (h : bnt c d) (h' : bnt d c) : False := by
  obtain ⟨c1, c2, c3, c4, c5, c6⟩ := hc
  obtain ⟨d1, d2, d3, d4, d5, d6⟩ := hd
  have a1 := h.1
  have a2 := h'.1
  omega
theorem bes_bnt {c d : Bx} (h : bes c d) (h' : bnt c d) : False := by
  obtain ⟨a1, a2, a3⟩ := h
  obtain ⟨b1, b2, b3⟩ := h'
  omega
/-- each box but one has a neighbour -/
theorem met_all {W H : Int} {bs : List Bx} (p : Part W H bs) (h2 : bs.length ≠ 1) {i : Nat} {c : Bx} (hc : bs[i]? = some c) :
    ∃ (j : Nat) (d : Bx), bs[j]? = some d ∧ (bes c d ∨ bes d c ∨ bnt c d ∨ bnt d c) := by
  obtain ⟨c1, c2, c3, c4, c5, c6⟩ := p.ins c (List.mem_of_getElem? hc)
  by_cases a : 0 < c.l
  · obtain ⟨d, hd, m1, m2, m3, m4⟩ := p.cov (c.l - 1) c.t (by omega) (by omega) (by omega) (by omega)
    obtain ⟨j, hj⟩ := List.mem_iff_getElem?.mp hd
    obtain ⟨d1, d2, d3, d4, d5, d6⟩ := p.ins d hd
    refine ⟨j, d, hj, .inr (.inl ⟨?_, by omega, by omega⟩)⟩
    by_cases z : d.r = c.l
    · exact z
    · have e := p.injI hc hj (x := c.l) (y := c.t) ⟨by omega, by omega, by omega, by omega⟩ ⟨by omega, by omega, by omega, by omega⟩
      subst e
      rw [hc] at hj
      cases hj
      omega
  by_cases b : c.r < W
  · obtain ⟨d, hd, m1, m2, m3, m4⟩ := p.cov c.r c.t (by omega) (by omega) (by omega) (by omega)
    obtain ⟨j, hj⟩ := List.mem_iff_getElem?.mp hd
    obtain ⟨d1, d2, d3, d4, d5, d6⟩ := p.ins d hd
    refine ⟨j, d, hj, .inl ⟨?_, by omega, by omega⟩⟩
    by_cases z : c.r = d.l
    · exact z
    · have e := p.injI hc hj (x := c.r - 1) (y := c.t) ⟨by omega, by omega, by omega, by omega⟩ ⟨by omega, by omega, by omega, by omega⟩
      subst e
      rw [hc] at hj
      cases hj
      omega
  by_cases e : 0 < c.t
  · obtain ⟨d, hd, m1, m2, m3, m4⟩ := p.cov c.l (c.t - 1) (by omega) (by omega) (by omega) (by omega)
    obtain ⟨j, hj⟩ := List.mem_iff_getElem?.mp hd
    obtain ⟨d1, d2, d3, d4, d5, d6⟩ := p.ins d hd
    refine ⟨j, d, hj, .inr (.inr (.inr ⟨?_, by omega, by omega⟩))⟩
    by_cases z : d.b = c.t
    · exact z
    · have e := p.injI hc hj (x := c.l) (y := c.t) ⟨by omega, by omega, by omega, by omega⟩ ⟨by omega, by omega, by omega, by omega⟩
      subst e
      rw [hc] at hj
      cases hj
      omega
  by_cases f : c.b < H
  · obtain ⟨d, hd, m1, m2, m3, m4⟩ := p.cov c.l c.b (by omega) (by omega) (by omega) (by omega)
    obtain ⟨j, hj⟩ := List.mem_iff_getElem?.mp hd
    obtain ⟨d1, d2, d3, d4, d5, d6⟩ := p.ins d hd
    refine ⟨j, d, hj, .inr (.inr (.inl ⟨?_, by omega, by omega⟩))⟩
    by_cases z : c.b = d.t
    · exact z
    · have e := p.injI hc hj (x := c.l) (y := c.b - 1) ⟨by omega, by omega, by omega, by omega⟩ ⟨by omega, by omega, by omega, by omega⟩
      subst e
      rw [hc] at hj
      cases hj
      omega
  · exfalso
    obtain ⟨hi, _⟩ := List.getElem?_eq_some_iff.mp hc
    -- another box would have its first cell in c
    have other : ∀ j d, bs[j]? = some d → j = i := fun j d hj => by
      obtain ⟨d1, d2, d3, d4, d5, d6⟩ := p.ins d (List.mem_of_getElem? hj)
      exact p.injI hj hc (x := d.l) (y := d.t) ⟨by omega, by omega, by omega, by omega⟩ ⟨by omega, by omega, by omega, by omega⟩
    have e0 := other 0 _ (List.getElem?_eq_getElem (show 0 < bs.length by omega))
    have e1 := other 1 _ (List.getElem?_eq_getElem (show 1 < bs.length by omega))
    omega

/-! ### the pairs told -/
def nbrRow (R : Bx → Bx → Prop) [DecidableRel R] (bs : List Bx) (i : Nat) (c : Bx) (k : Nat) : List Sp2 := (List.range k).filterMap fun j : Nat => (bs[j]?).bind fun d => if R c d then some ((i : Int), (j : Int)) else none
def nbr (R : Bx → Bx → Prop) [DecidableRel R] (bs : List Bx) (k : Nat) : List Sp2 := (List.range k).flatMap fun i : Nat => match bs[i]? with
  | some c => nbrRow R bs i c bs.length
  | none => []
section
variable {R : Bx → Bx → Prop} [DecidableRel R] {bs : List Bx} {i k : Nat} {c d : Bx}
theorem nbrRow_yes (h : bs[k]? = some d) (hr : R c d) : nbrRow R bs i c (k + 1) = nbrRow R bs i c k ++ [((i : Int), (k : Int))] := by
  unfold nbrRow
  rw [List.range_succ, List.filterMap_append]
  congr 1
  simp [h, hr]
theorem nbrRow_no (h : bs[k]? = some d) (hr : ¬ R c d) : nbrRow R bs i c (k + 1) = nbrRow R bs i c k := by
  unfold nbrRow
  rw [List.range_succ, List.filterMap_append]
  have e : List.filterMap (fun j : Nat => (bs[j]?).bind fun d => if R c d then some ((i : Int), (j : Int)) else none) [k] = [] := by simp [h, hr]
  rw [e, List.append_nil]
theorem nbr_succ (h : bs[k]? = some c) : nbr R bs (k + 1) = nbr R bs k ++ nbrRow R bs k c bs.length := by
  unfold nbr
  rw [List.range_succ, List.flatMap_append]
  congr 1
  simp [h]
theorem nbrRow_len (k : Nat) : (nbrRow R bs i c k).length ≤ k := by
  have h := List.length_filterMap_le (fun j : Nat => (bs[j]?).bind fun d => if R c d then some ((i : Int), (j : Int)) else none) (List.range k)
  rw [List.length_range] at h
  exact h
theorem nbr_len (bs : List Bx) : ∀ k : Nat, (nbr R bs k).length ≤ k * bs.length
  | 0 => Nat.zero_le _
  | k + 1 => by
    have h1 := nbr_len bs k
    rw [Nat.add_mul, Nat.one_mul]
    cases q : bs[k]? with
    | none =>
      have e : nbr R bs (k + 1) = nbr R bs k := by
        unfold nbr
        rw [List.range_succ, List.flatMap_append]
        simp [q]
      rw [e]
      omega
    | some c =>
      have h2 := nbrRow_len (R := R) (bs := bs) (i := k) (c := c) bs.length
      rw [nbr_succ q, List.length_append]
      omega
theorem mem_nbr {p : Sp2} : p ∈ nbr R bs bs.length ↔ ∃ (i j : Nat) (c d : Bx), bs[i]? = some c ∧ bs[j]? = some d ∧ R c d ∧ p = ((i : Int), (j : Int)) := by
  unfold nbr nbrRow
  constructor
  · intro h
    obtain ⟨i, hi, h⟩ := List.mem_flatMap.mp h
    cases q : bs[i]? with
    | none => rw [q] at h; cases h
    | some c =>
      rw [q] at h
      obtain ⟨j, hj, h⟩ := List.mem_filterMap.mp h
      obtain ⟨d, hd, h⟩ := Option.bind_eq_some_iff.mp h
      split at h
      · rename_i hr
        exact ⟨i, j, c, d, q, hd, hr, (Option.some.inj h).symm⟩
      · cases h
  · rintro ⟨i, j, c, d, hc, hd, hr, rfl⟩
    have li := (List.getElem?_eq_some_iff.mp hc).1
    have lj := (List.getElem?_eq_some_iff.mp hd).1
    refine List.mem_flatMap.mpr ⟨i, List.mem_range.mpr li, ?_⟩
    rw [hc]
    exact List.mem_filterMap.mpr ⟨j, List.mem_range.mpr lj, by rw [hd]; simp [hr]⟩
end
end K14

/-! Own rules: enumerate of a tuple, zip of a tuple and a list, min and max of a tuple of ints. -/
namespace K14
open PySem PySem.Spec L2 PyProof.Rows

/-! ### enumerate(tuple) -/
theorem enum_new1 {v : Value} {o : Obj} {G : Heap → Prop} (B : Begins v o G) :
    Meets (Builtin.«enumerate.__new__» ⟨[.type "enumerate", v], []⟩) (fun _ R s => G s.heap ∧
      R (.ok (.ret (.ref (s.heap.push o).objs.size))) { s with heap := (s.heap.push o).push { cls := .type "enumerate", data := .fields #[.none, .bool false, .ref s.heap.objs.size, rawInt 0, .none, .none] } }) :=
  .of_wp fun prog wd A R s h => by
    obtain ⟨hp, g, d, tk, os⟩ := s; obtain ⟨h1, h⟩ := h; have hsub := sub_enumerate
    have q1 : ∀ {A' : Around} {E' Q' : Value → Shared → Prop}, Q' (.ref hp.objs.size) ⟨hp.push o, g, d, tk, os⟩ → wpAny (model prog wd) A' (pyIter v) Q' E' ⟨hp, g, d, tk, os⟩ :=
      fun q => B.iter prog wd _ _ ⟨hp, g, d, tk, os⟩ _ h1 q
    wp_walk using q1
    refine wpAny_stack_any (fun _ => wpAny_pure ?_); split
    · rename_i c _ _ _ _ _
      cases (c == Value.type "enumerate") <;> (wp_walk using q1; exact ⟨_, rfl, h⟩)
    · wp_walk using q1; exact ⟨_, rfl, h⟩
theorem call_enum1 {prog : Program} {w : World} {A : Around} {E : Value → Shared → Prop} {s : Shared} {v : Value} {o : Obj} {G : Heap → Prop} {Q : Value → Shared → Prop} (B : Begins v o G) (h1 : G s.heap)
    (h : ∀ h', IsEnum h' (s.heap.objs.size + 1) s.heap.objs.size 0 .none → h'.get? s.heap.objs.size = some o → (∀ b ob, s.heap.get? b = some ob → h'.get? b = some ob) → Q (.ref (s.heap.objs.size + 1)) { s with heap := h' }) :
    wpAny (model prog w) A (call (.type "enumerate") [v]) Q E s := by
  refine callType_new F.called_enumerate (by decide) (F.typeCall_enumerate_1 _) (F.newCall_enumerate_1 _) (fun z => F.args_object_init_2 z _) F.entry_enumerate_new (enum_new1 B) ⟨h1, ?_⟩
  have grew : (s.heap.push o).objs.size = s.heap.objs.size + 1 := Heap.size_push ..
  show _ ∧ _; rw [grew]
  have he : IsEnum ((s.heap.push o).push ⟨.type "enumerate", none, .fields #[.none, .bool false, .ref s.heap.objs.size, rawInt 0, .none, .none], #[]⟩) (s.heap.objs.size + 1) s.heap.objs.size 0 .none := by
    have q := Heap.get?_push_size (s.heap.push o) (o := ⟨.type "enumerate", none, .fields #[.none, .bool false, .ref s.heap.objs.size, rawInt 0, .none, .none], #[]⟩) rfl
    rw [grew] at q; exact q
  exact ⟨⟨_, he, rfl⟩, h _ he (Heap.get?_push_of_some _ (Heap.get?_push_size _ B.free)) fun b ob x => Heap.get?_push_of_some _ (Heap.get?_push_of_some _ x)⟩

def IteT (K : PySem.W.Frag) (a : Addr) : It :=
  ⟨fun i H => ∃ xs x, SqT K H a xs ∧ xs[i]? = some x, fun i H v H' => ∃ T x, v = .ref T ∧ H T = none ∧ H' = upd H T (.tup [.int (i : Nat), x]) ∧ ∀ xs, SqT K H a xs → xs[i]? = some x, fun i H => ∃ xs, SqT K H a xs ∧ xs.length = i⟩
theorem turn_enumT {P : Program} {w : World} {K : PySem.W.Frag} {elts : List Expr} {kk : Nat} {tpos : Pos} {a e it : Addr} (nEI : e ≠ it) (nEA : e ≠ a) (nIA : a ≠ it) :
    Turn P w K (.Tuple elts kk tpos) (IteT K a) [e, it] e (fun i h => (∃ old, IsEnum h e it ((i : Nat) : Int) old) ∧ h.IsTupleIter it a i) where
  mem := by simp
  obj := fun i h st b hb => by
    obtain ⟨⟨old, he⟩, o, ho, _, hd⟩ := st
    rcases List.mem_cons.mp hb with first | second
    · rw [first]; exact ⟨_, he, fun _ q => nomatch q⟩
    · rw [List.mem_singleton.mp second]; exact ⟨o, ho, fun _ q => by rw [hd] at q; cases q⟩
  keep := fun i h h' st k => let ⟨⟨old, he⟩, hi⟩ := st; ⟨⟨old, k e (by simp) _ he⟩, hi.at fun o q => k it (by simp) o q⟩
  item := by
    intro X hP hw hK hc i pins s σ H E I hf st hg; subst hP hw hK
    obtain ⟨⟨old, he⟩, hit⟩ := st; obtain ⟨xs, x, hq, hx⟩ := hg
    obtain ⟨cells, vr, p, hz⟩ := I.tuple hq; obtain ⟨u, hu, ofU⟩ := vr.get hx
    have eLt : e < s.heap.objs.size := Heap.lt_size he
    have itLt : it < s.heap.objs.size := by obtain ⟨_, q, _⟩ := hit; exact Heap.lt_size q
    have ixLt : i < cells.toArray.size := by have := (List.getElem?_eq_some_iff.mp hu).1; simpa using this
    have D := Draws.tuple (prog := X.prog) (w := X.w) (A := X.A.in1) (I.ok.hd hc) it a nIA cells.toArray
    refine wpAny_pyNext_enum_itemC D he ⟨hit, p⟩ ixLt nEI (by simp [nEI, nEA]) fun x' h' tk hP ho hit' hT hsz hk => ?_
    have ex : x' = u := by
      have h1 : cells[i]? = some x' := by simpa using hP
      rw [hu] at h1; exact (Option.some.inj h1).symm
    subst ex
    refine ⟨_, rfl, wpAny_letOwnedTupleGo_enum (s := { s with heap := h', toks := tk + 1 }) ho fun g he' sb => ?_⟩
    have hT2 := (sb.2 s.heap.objs.size (Nat.ne_of_gt eLt)).trans hT
    have new : ObjOk X.prog X.w (upd H s.heap.objs.size (.tup [.int (i : Nat), x])) g s.heap.objs.size (.tup [.int (i : Nat), x]) :=
      ⟨by show (2 : Nat) ≤ sizeLine; decide, [.int i tk, x'], .cons ⟨_, rfl⟩ (.cons ofU .nil), ⟨_, hT2, rfl, _, rfl⟩⟩
    have I1 := I.turnedNew (t' := tk + 1) (ch := [e, it]) (fun b ob hb q => (sb.2 b (fun z => hb (by simp [z]))).trans (hk b ob (fun z => hb (by simp [z])) (fun z => hb (by simp [z])) q)) hf (Nat.le_refl _) new
    refine ⟨.ref s.heap.objs.size, _, I1, rfl, ⟨_, x, rfl, I.hok.fresh (Nat.le_refl _), rfl, fun ys hy => by rw [I.tuple_inj hy hq]; exact hx⟩, ⟨⟨x', ?_⟩, hit'.1.at fun o q => (sb.2 it (Ne.symm nEI)).trans q⟩, fun b hb => ?_⟩
    · rw [show ((i + 1 : Nat) : Int) = (i : Int) + 1 by omega]; exact he'
    · have old : b < s.heap.objs.size := by
        rcases List.mem_cons.mp hb with first | second
        · rw [first]; exact eLt
        · rw [List.mem_singleton.mp second]; exact itLt
      rw [upd_ne (Nat.ne_of_lt old)]; exact (hf b hb).1
  done := by
    intro X hP hw hK hc i pins s σ H E I hf st hg; subst hP hw hK
    obtain ⟨⟨old, he⟩, hit⟩ := st; obtain ⟨xs, hq, hx⟩ := hg
    obtain ⟨cells, vr, p, hz⟩ := I.tuple hq
    obtain ⟨u0, u1, u2, u3, u4, u5⟩ := hf it (by simp)
    have D := Draws.tuple (prog := X.prog) (w := X.w) (A := X.A.in1) (I.ok.hd hc) it a nIA cells.toArray
    have ei : cells.toArray.size = i := by have := vr.length; simp; omega
    refine wpAny_pyNext_enum_endD D he (by rw [ei]; exact ⟨hit, p⟩) fun h' eb => ⟨rfl, I.turned (t' := s.toks) (fun b o hb q => eb b o hb q) u0 u1 u3 u4 u5⟩
  self := fun A i s Q E st h => let ⟨⟨_, isE⟩, _⟩ := st; wpAny_pyIter_enum isE h
def iEnumT (K : PySem.W.Frag) (ta : TA) : TI := fun σ H R => ta σ H fun vs H1 => ∃ a xs, vs = [.ref a] ∧ SqT K H1 a xs ∧ R (IteT K a) H1
theorem pi_enumT {X : Cx} {e : Expr} {ta : TA} {p pos tpos : Pos} {elts : List Expr} {kk : Nat} (hg : Gl X "enumerate") (hm : X.mg "enumerate" = none) (ha : PA X [e] ta) (hs : starEach [e] X.env = [(false, eval e X.env)] := by rfl) :
    PI X (.Tuple elts kk tpos) (.Call (.Name "enumerate" p) [e] [] pos) (iEnumT X.K ta) := by
  refine ⟨fun pins s σ H R I h => Call_ (ld_blt I hg hm boot_enumerate (PyProof.Rows.callWith_type1 (thn (ha.run pos pins s σ H _ I h) fun us s1 ⟨vs, H1, I1, r1, q1⟩ => ?_) hs rfl))⟩
  obtain ⟨a, xs, rfl, hq, q⟩ := q1
  obtain ⟨u, rfl, r⟩ := vals1 r1
  cases r
  obtain ⟨cells, vr, pt, hz⟩ := I1.tuple hq
  have below0 : a < s1.heap.objs.size := pt.lt
  refine call_enum1 (begins_tuple a cells.toArray) pt fun h' he ho hk => wpAny_pyIter_enum he ?_
  have J2 : Inv X pins σ H1 { s1 with heap := h' } := I1.kept (t' := s1.toks) hk
  refine ⟨s1.heap.objs.size + 1, [s1.heap.objs.size + 1, s1.heap.objs.size], _, _, H1, rfl, J2, turn_enumT (a := a) (it := s1.heap.objs.size) (Nat.succ_ne_self _) (Nat.ne_of_gt (Nat.lt_succ_of_lt below0)) (Nat.ne_of_lt below0), ⟨⟨.none, he⟩, _, ho, rfl, rfl⟩, fun b hb => ?_, q⟩
  have atLeast : s1.heap.objs.size ≤ b := by
    rcases List.mem_cons.mp hb with first | second
    · rw [first]; exact Nat.le_succ _
    · rw [List.mem_singleton.mp second]; exact Nat.le_refl _
  exact I1.fpOk atLeast (I1.hok.fresh atLeast)
theorem walk_enumT {K : PySem.W.Frag} {a : Addr} {xs : List V} : Walk (IteT K a) xs.length (fun H => SqT K H a xs) (YPair (fun i => some (.int (i : Nat))) (fun i => xs[i]?)) :=
  ⟨fun i H hi h => ⟨xs, xs[i], h, List.getElem?_eq_getElem hi⟩, fun H h => ⟨xs, h, rfl⟩, fun i H v H' hi h y => by
    obtain ⟨T, x, e1, e2, e3, e4⟩ := y
    exact ⟨T, _, x, e1, e2, e3, rfl, e4 xs h⟩⟩

/-! ### zip(tuple, list) -/
def ItzM (K : PySem.W.Frag) (a b : Addr) : It :=
  ⟨fun i H => ∃ (xs ys : List V) (x y : V), SqT K H a xs ∧ SqL K H b ys ∧ xs[i]? = some x ∧ ys[i]? = some y,
    fun i H v H' => ∃ T x y, v = .ref T ∧ H T = none ∧ H' = upd H T (.tup [x, y]) ∧ (∀ xs, SqT K H a xs → xs[i]? = some x) ∧ ∀ ys, SqL K H b ys → ys[i]? = some y,
    fun i H => ∃ xs ys : List V, SqT K H a xs ∧ SqL K H b ys ∧ xs.length = i ∧ ys.length = i⟩
theorem turn_zipM {P : Program} {w : World} {K : PySem.W.Frag} {elts : List Expr} {kk : Nat} {tpos : Pos} {a b z TI TO i1 i2 : Addr} (S : ZipSep2 z TI TO i1 i2 [i1, a] [i2, b]) (h1a : a ≠ i1) (h2b : b ≠ i2) :
    Turn P w K (.Tuple elts kk tpos) (ItzM K a b) [z, TI, TO, i1, i2] z (fun i h => IsZip h z TI TO .none ∧ IsTupOf2 h TI (.ref i1) (.ref i2) ∧ (∃ x y, IsTupOf2 h TO x y) ∧ h.IsTupleIter i1 a i ∧ h.IsListIter i2 b i) where
  mem := by simp
  obj := fun i h st c hc => by
    obtain ⟨hz, atTI, ⟨x, y, atTO⟩, ⟨o1, e1, _, d1⟩, ⟨o2, e2, _, d2⟩⟩ := st
    simp only [List.mem_cons, List.not_mem_nil, or_false] at hc
    rcases hc with q | q | q | q | q <;> subst q
    · exact ⟨_, hz, fun _ q => nomatch q⟩
    · exact ⟨_, atTI, fun _ q => nomatch q⟩
    · exact ⟨_, atTO, fun _ q => nomatch q⟩
    · exact ⟨o1, e1, fun _ q => by rw [d1] at q; cases q⟩
    · exact ⟨o2, e2, fun _ q => by rw [d2] at q; cases q⟩
  keep := fun i h h' st k => let ⟨hz, atTI, ⟨x, y, atTO⟩, h1, h2⟩ := st; ⟨k z (by simp) _ hz, k TI (by simp) _ atTI, ⟨x, y, k TO (by simp) _ atTO⟩, h1.at fun o q => k i1 (by simp) o q, h2.at fun o q => k i2 (by simp) o q⟩
  item := by
    intro X hP hw hK hc i pins s σ H E I hf st hg; subst hP hw hK
    obtain ⟨hz, atTI, ⟨x0, y0, atTO⟩, h1, h2⟩ := st; obtain ⟨xs, ys, x, y, hqx, hqy, hx, hy⟩ := hg
    obtain ⟨cells, vr, p, _⟩ := I.tuple hqx; obtain ⟨cells2, vr2, p2, _⟩ := I.list hqy
    obtain ⟨u, hu, ofU⟩ := vr.get hx; obtain ⟨u2, hu2, ofU2⟩ := vr2.get hy
    have zLt : z < s.heap.objs.size := Heap.lt_size hz
    have l1 : i < cells.toArray.size := by have := (List.getElem?_eq_some_iff.mp hu).1; simpa using this
    have l2 : i < cells2.toArray.size := by have := (List.getElem?_eq_some_iff.mp hu2).1; simpa using this
    have D1 := Draws.tuple (prog := X.prog) (w := X.w) (A := X.A.in1) (I.ok.hd hc) i1 a h1a cells.toArray
    have D2 := Draws.list (prog := X.prog) (w := X.w) (A := X.A.in1) (I.ok.hd hc) i2 b h2b cells2.toArray
    refine wpAny_pyNext_zipD2_item S D1 D2 hz atTI atTO ⟨h1, p⟩ ⟨h2, p2.isList⟩ l1 l2 fun v1 v2 h' tk hP1 hP2 z' TO' h1' h2' hT hsz hk => ?_
    have e1 : v1 = u := by
      have q : cells[i]? = some v1 := by simpa using hP1
      rw [hu] at q; exact (Option.some.inj q).symm
    have e2 : v2 = u2 := by
      have q : cells2[i]? = some v2 := by simpa using hP2
      rw [hu2] at q; exact (Option.some.inj q).symm
    subst e1 e2
    refine ⟨_, rfl, wpAny_letOwnedTupleGo_zip (s := { s with heap := h', toks := tk }) z' fun g z'' sb => ?_⟩
    have hT2 := (sb.2 s.heap.objs.size (Nat.ne_of_gt zLt)).trans hT
    have new : ObjOk X.prog X.w (upd H s.heap.objs.size (.tup [x, y])) g s.heap.objs.size (.tup [x, y]) :=
      ⟨by show (2 : Nat) ≤ sizeLine; decide, [v1, v2], .cons ofU (.cons ofU2 .nil), ⟨_, hT2, rfl, _, rfl⟩⟩
    have I1 := I.turnedNew (t' := tk) (ch := [z, TI, TO, i1, i2]) (fun c o hb q => (sb.2 c (fun q' => hb (by simp [q']))).trans (hk c o (fun q' => hb (by simp [q'])) (fun q' => hb (by simp [q'])) (fun q' => hb (by simp [q'])) (fun q' => hb (by simp [q'])) q)) hf (Nat.le_refl _) new
    have TIi2 := S.TIi2
    refine ⟨.ref s.heap.objs.size, _, I1, rfl, ⟨_, x, y, rfl, I.hok.fresh (Nat.le_refl _), rfl, fun l hl => by rw [I.tuple_inj hl hqx]; exact hx, fun l hl => by rw [I.list_inj hl hqy]; exact hy⟩, ⟨z'', ?_, ⟨v1, v2, ?_⟩, ?_, ?_⟩, fun c hcm => ?_⟩
    · exact (sb.2 _ S.TIz).trans (hk _ _ S.TIz S.TITO S.TIi1 S.TIi2 atTI)
    · exact (sb.2 _ S.TOz).trans TO'
    · exact h1'.1.at fun o q => (sb.2 _ (Ne.symm S.zi1)).trans q
    · exact h2'.1.at fun o q => (sb.2 _ (Ne.symm S.zi2)).trans q
    · have below0 : c < s.heap.objs.size := by
        have hcm' := hcm
        simp only [List.mem_cons, List.not_mem_nil, or_false] at hcm'
        rcases hcm' with q | q | q | q | q <;> subst q
        · exact zLt
        · exact Heap.lt_size atTI
        · exact Heap.lt_size atTO
        · obtain ⟨_, e1, _⟩ := h1; exact Heap.lt_size e1
        · obtain ⟨_, e2, _⟩ := h2; exact Heap.lt_size e2
      rw [upd_ne (Nat.ne_of_lt below0)]; exact (hf c hcm).1
  done := by
    intro X hP hw hK hc i pins s σ H E I hf st hg; subst hP hw hK
    obtain ⟨hz, atTI, ⟨x0, y0, atTO⟩, h1, h2⟩ := st; obtain ⟨xs, ys, hqx, hqy, l1, l2⟩ := hg
    obtain ⟨cells, vr, p, _⟩ := I.tuple hqx; obtain ⟨cells2, vr2, p2, _⟩ := I.list hqy
    have D1 := Draws.tuple (prog := X.prog) (w := X.w) (A := X.A.in1) (I.ok.hd hc) i1 a h1a cells.toArray
    have D2 := Draws.list (prog := X.prog) (w := X.w) (A := X.A.in1) (I.ok.hd hc) i2 b h2b cells2.toArray
    have n1 : cells.toArray.size = i := by have := vr.length; simp; omega
    have n2 : cells2.toArray.size = i := by have := vr2.length; simp; omega
    exact wpAny_pyNext_zipD2_end S D1 D2 hz atTI atTO ⟨h1, p⟩ ⟨h2, p2.isList⟩ (Nat.le_of_eq n1.symm) (Nat.le_of_eq n2.symm) (.inl n1.symm) fun h' tk hk => ⟨rfl, I.turnedL (t' := tk) (ch := [z, TI, TO, i1, i2]) (fun c o hb q =>
      hk c o (fun z' => hb (by simp [z'])) (fun z' => hb (by simp [z'])) (fun z' => hb (by simp [z'])) (fun z' => hb (by simp [z'])) q) hf⟩
  self := fun A i s Q E stands h => wpAny_pyIter_zip stands.1 h
def iZipM (K : PySem.W.Frag) (ta : TA) : TI := fun σ H R => ta σ H fun vs H1 => ∃ a b xs ys, vs = [.ref a, .ref b] ∧ SqT K H1 a xs ∧ SqL K H1 b ys ∧ R (ItzM K a b) H1
theorem pi_zipM {X : Cx} {e e2 : Expr} {ta : TA} {p pos tpos : Pos} {elts : List Expr} {kk : Nat} (hg : Gl X "zip") (hm : X.mg "zip" = none) (ha : PA X [e, e2] ta)
    (hs : starEach [e, e2] X.env = (false, eval e X.env) :: starEach [e2] X.env := by rfl)
    (hpl : (backTo pos (starEach [e2] X.env)).any (·.1) = false := by rfl) :
    PI X (.Tuple elts kk tpos) (.Call (.Name "zip" p) [e, e2] [] pos) (iZipM X.K ta) := by
  refine ⟨fun pins s σ H R I h => Call_ (ld_blt I hg hm PyProof.Rows.boot_zip (PyProof.Rows.callWith_type1 (thn (ha.run pos pins s σ H _ I h) fun us s1 ⟨vs, H1, I1, r1, q1⟩ => ?_) hs hpl))⟩
  obtain ⟨a, b, xs, ys, rfl, hqx, hqy, q⟩ := q1
  obtain ⟨u1, u2, rfl, r, r'⟩ := vals2 r1
  cases r; cases r'
  obtain ⟨cells, vr, p1, _⟩ := I1.tuple hqx
  obtain ⟨cells2, vr2, p2, _⟩ := I1.list hqy
  have aLt : a < s1.heap.objs.size := p1.lt
  have bLt : b < s1.heap.objs.size := p2.lt
  refine zip_begins2 (begins_tuple a cells.toArray) (begins_list b cells2.toArray) p1 p2.isList fun h' hz atTI atTO o1 o2 hsz hk => wpAny_pyIter_zip hz ?_
  have J2 : Inv X pins σ H1 { s1 with heap := h' } := I1.kept (t' := s1.toks) hk
  refine ⟨s1.heap.objs.size + 4, [s1.heap.objs.size + 4, s1.heap.objs.size + 2, s1.heap.objs.size + 3, s1.heap.objs.size, s1.heap.objs.size + 1], _, _, H1, rfl, J2,
    turn_zipM (zip_sep2 (fun c hc => by rw [List.mem_singleton.mp hc]; exact aLt) (fun c hc => by rw [List.mem_singleton.mp hc]; exact bLt)) (Nat.ne_of_lt aLt) (Nat.ne_of_lt (Nat.lt_succ_of_lt bLt)),
    ⟨hz, atTI, ⟨_, _, atTO⟩, ⟨_, o1, rfl, rfl⟩, ⟨_, o2, rfl, rfl⟩⟩, fun c hcm => ?_, q⟩
  have atLeast : s1.heap.objs.size ≤ c := by
    simp only [List.mem_cons, List.not_mem_nil, or_false] at hcm
    rcases hcm with z | z | z | z | z <;> subst z <;> first | exact Nat.le_add_right _ _ | exact Nat.le_refl _
  exact I1.fpOk atLeast (I1.hok.fresh atLeast)
theorem walk_zipM {K : PySem.W.Frag} {a b : Addr} {xs ys : List V} (hl : xs.length = ys.length) : Walk (ItzM K a b) xs.length (fun H => SqT K H a xs ∧ SqL K H b ys) (YPair (fun i => xs[i]?) (fun i => ys[i]?)) :=
  ⟨fun i H hi h => ⟨xs, ys, xs[i], ys[i]'(by omega), h.1, h.2, List.getElem?_eq_getElem hi, List.getElem?_eq_getElem (by omega)⟩, fun H h => ⟨xs, ys, h.1, h.2, rfl, hl.symm⟩, fun i H v H' hi h y => by
    obtain ⟨T, x, y, e1, e2, e3, e4, e5⟩ := y
    exact ⟨T, x, y, e1, e2, e3, e4 xs h.1, e5 ys h.2⟩⟩

/-! ### min, max of a tuple of ints -/
theorem readsAll_ints {h : Heap} : ∀ {ns : List Int} {us : List Value}, Vals (ns.map V.int) us → ReadsAll h us (ns.map PyData.int) []
  | [], us, r => by cases r; exact .nil
  | n :: ns, us, r => by
    cases r with
    | cons r1 r2 =>
      obtain ⟨t, rfl⟩ := r1
      exact ReadsAll.cons (as := []) (bs := []) (.int n t) (readsAll_ints r2)
theorem alike_ints' (ns : List Int) : PySem.W.AlikeAll (ns.map PyData.int) := by
  refine ⟨fun x hx y hy => ?_, fun x hx => ?_⟩
  · obtain ⟨a, _, rfl⟩ := List.mem_map.mp hx; obtain ⟨b, _, rfl⟩ := List.mem_map.mp hy; rfl
  · obtain ⟨a, _, rfl⟩ := List.mem_map.mp hx; intro z; cases z
theorem depth_ints' : ∀ ns : List Int, PyData.depthAll (ns.map PyData.int) = 0
  | [] => rfl
  | n :: ns => by
    show max (PyData.depth (.int n)) (PyData.depthAll (ns.map PyData.int)) = 0
    rw [depth_ints' ns]; rfl
def rMinT (K : PySem.W.Frag) : List V → Hp → VK → Prop := fun vs H Q => ∃ (a : Addr) (n : Int) (ns : List Int), vs = [V.ref a] ∧ SqT K H a ((n :: ns).map V.int) ∧ Q (.int (ns.foldl min n)) H
def rMaxT (K : PySem.W.Frag) : List V → Hp → VK → Prop := fun vs H Q => ∃ (a : Addr) (n : Int) (ns : List Int), vs = [V.ref a] ∧ SqT K H a ((n :: ns).map V.int) ∧ Q (.int (ns.foldl max n)) H
theorem cr_minT {X : Cx} (hc : X.calm = true) (hu : X.A.units + 1 < cLine) : CallR X (.builtin "min") (rMinT X.K) := by
  intro pins s σ H args us Q I r h
  obtain ⟨a, n, ns, rfl, hs, q⟩ := h
  obtain ⟨u, rfl, ofU⟩ := vals1 r
  cases ofU
  obtain ⟨cells, vr, pt, _⟩ := I.tuple hs
  refine PySem.W.min_tuple_data (x := .int n) (xs := ns.map .int) (as := []) (I.ok.hd hc) pt (readsAll_ints vr) (alike_ints' (n :: ns)) ?_ fun i v h' tk bs hi rd hk => ?_
  · have e := depth_ints' (n :: ns)
    rw [show PyData.depthAll (PyData.int n :: ns.map .int) = 0 from e]; exact hu
  · rw [PySem.W.minD_ints] at rd
    cases rd with
    | int _ t => exact ⟨.int _, H, I.kept hk, ⟨t, rfl⟩, q⟩
theorem cr_maxT {X : Cx} (hc : X.calm = true) (hu : X.A.units + 1 < cLine) : CallR X (.builtin "max") (rMaxT X.K) := by
  intro pins s σ H args us Q I r h
  obtain ⟨a, n, ns, rfl, hs, q⟩ := h
  obtain ⟨u, rfl, ofU⟩ := vals1 r
  cases ofU
  obtain ⟨cells, vr, pt, _⟩ := I.tuple hs
  refine PySem.W.max_tuple_data (x := .int n) (xs := ns.map .int) (as := []) (I.ok.hd hc) pt (readsAll_ints vr) (alike_ints' (n :: ns)) ?_ fun i v h' tk bs hi rd hk => ?_
  · have e := depth_ints' (n :: ns)
    rw [show PyData.depthAll (PyData.int n :: ns.map .int) = 0 from e]; exact hu
  · rw [PySem.W.maxD_ints] at rd
    cases rd with
    | int _ t => exact ⟨.int _, H, I.kept hk, ⟨t, rfl⟩, q⟩
end K14

/-! sorted(found, key=lambda box: (box[1], box[0])): the lambda's call, the sort (a permutation). -/
namespace K14
open PySem PySem.Spec L2 PyProof.Rows

def lamP (pp : Pos) : Arguments := { posonlyargs := [], args := [{ arg := "box", annotation := none, pos := pp }], vararg := none, kwonlyargs := [], kw_defaults := [], kwarg := none, defaults := [] }
def lamSc : Scope := { kind := .function, names := [(Str.ofString "box", .local)], isGenerator := false, isCoroutine := false, more := [] }
def lamB (p1 p2 p3 p4 p5 p6 p7 : Pos) : Expr := .Tuple [.Subscript (.Name "box" p1) (.Constant (.int 1) 0 p2) p3, .Subscript (.Name "box" p4) (.Constant (.int 0) 0 p5) p6] 0 p7

section
variable {P : Program} {w : World} {A : Around} {s : Shared}
/-- box[j] in the lambda's frame -/
theorem lam_ix {env : Env} {E : Value → Shared → Prop} {p1 p2 p3 : Pos} {m : Str → Option Value} {b : Addr} {its : Array Value} {j : Nat} {u : Value} {Q : Value → Shared → Prop} (hk : env.scope.kind = .function) (hl : env.kindOf "box" = some .local) (hn : s.heap.Ns env.locals m) (hm : m "box" = some (.ref b))
    (pt : IsTup s.heap b its) (hj : j < its.size) (hu : its[j]? = some u) (hs : its.size ≤ 100) (q : Q u { s with toks := s.toks + 1 }) : wpAny (model P w) A (eval (.Subscript (.Name "box" p1) (.Constant (.int (j : Int)) 0 p2) p3) env) Q E s := by
  refine Subscript_ (wpAny_Name (wpAny_loadName_local hk hl hn hm ?_) (by decide))
  refine wpAny_Constant_int ?_
  exact subscriptTail_builtinR (x := u) pt.typeIs slot_tuple_getitem.lookup (getItem_tuple (j := j) (Q := fun r s' => r = u ∧ Q r s') pt (by omega) (by omega) (by simp [PySem.seqIndex?]; omega) hu ⟨rfl, q⟩) rfl
/-- the lambda's call: a new pair, all else stands -/
theorem lam_turn {f c' b : Addr} {qual : Str} {pm ctv : Value} {pp p1 p2 p3 p4 p5 p6 p7 : Pos} {l t r u : Int} {k0 k1 k2 k3 : Tok} (hroom : A.depth < recursionLimit)
    (hof : s.heap.get? f = some (PySem.W.kla_obj "<lambda>" qual (lamP pp) (lamB p1 p2 p3 p4 p5 p6 p7) lamSc [] pm c' ctv)) (hrec : ∃ (oc : Obj) (vs : Array Value) (tq : Tok), s.heap.get? c' = some oc ∧ oc.data = .fields vs ∧ vs[1]? = some (.str qual tq))
    (hlim : s.heap.NoLimit) (hb : IsTup s.heap b #[.int l k0, .int t k1, .int r k2, .int u k3]) :
    wpAny (model P w) A (call (.ref f) [.ref b]) (PySem.W.KeyPure (.tuple [.int t, .int l]) s) (fun _ _ => False) s := by
  obtain ⟨oc, vs, tq, h1, h2, h3⟩ := hrec
  refine wpAny_call (PySem.W.kla_callFunE hroom hof rfl rfl rfl rfl ⟨c', oc, vs, tq, rfl, h1, h2, h3⟩ ?_)
  rw [show bindArgs (PySem.W.kla_fn "<lambda>" qual (lamP pp) (lamB p1 p2 p3 p4 p5 p6 p7) lamSc [] pm (.ref c') ctv) ⟨[.ref b], []⟩ = pure [(Str.ofString "box", Value.ref b)] from rfl]
  refine wpAny_pure (wpAny_newFunctionEnv (show ∀ y ∈ lamSc.names, y.2 ≠ NameKind.cell by decide) (by intro x hx; rw [List.mem_singleton] at hx; subst hx; rfl) (fun g hns hsb => ⟨hlim.fresh _ hsb, ?_⟩) rfl)
  have kp : ∀ a o, s.heap.get? a = some o → g.get? a = some o := fun a o e => hsb.extBut a o (Nat.ne_of_lt (Heap.lt_size e)) (Heap.get?_push_of_some _ e)
  have hb' : IsTup g b #[.int l k0, .int t k1, .int r k2, .int u k3] := (let ⟨o, e, z⟩ := hb; ⟨o, kp b o e, z⟩)
  refine PySem.W.kla_codeExpr (wpAny_Tuple_spliced ?_)
  show wpAny _ _ (spliced [(false, eval (.Subscript (.Name "box" p1) (.Constant (.int ((1 : Nat) : Int)) 0 p2) p3) _), (false, eval (.Subscript (.Name "box" p4) (.Constant (.int ((0 : Nat) : Int)) 0 p5) p6) _)]) _ _ _
  refine Calls.spliced_cons (lam_ix rfl rfl hns rfl hb' (by simp) rfl (by simp) ?_)
  refine Calls.spliced_cons (lam_ix rfl rfl hns rfl hb' (by simp) rfl (by simp) ?_)
  refine Calls.spliced_nil ⟨by show (2 : Nat) ≤ sizeLine; decide, _, _, rfl, fun a o e => Heap.get?_push_of_some _ (kp a o e), ?_⟩
  exact Reads.tuple (as := []) (Heap.get?_push_size _ rfl) rfl rfl (ReadsAll.cons (as := []) (bs := []) (.int t k1) (ReadsAll.cons (as := []) (bs := []) (.int l k0) .nil))
end

theorem each_vals : ∀ {xs : List V} {us : List Value}, Vals xs us → PySem.W.EachIs (fun u x => RelV x u) us xs
  | _, _, .nil => .nil
  | _, _, .cons r t => .cons r (each_vals t)
theorem vals_each : ∀ {us : List Value} {xs : List V}, PySem.W.EachIs (fun u x => RelV x u) us xs → Vals xs us
  | _, _, .nil => .nil
  | _, _, .cons r t => .cons r (vals_each t)

/-- four ints at an address -/
def Is4 (H : Hp) (v : V) (κ : V → Int × Int) : Prop := ∃ (a : Addr) (l t r u : Int), v = .ref a ∧ H a = some (.tup [.int l, .int t, .int r, .int u]) ∧ κ v = (t, l)
/-- the sort by the lambda: some arrangement, a new list -/
def tSortLam (K : PySem.W.Frag) (T : List (Addr × Str)) (ta : TE) : TE := fun σ H Q => ta σ H fun v H1 => ∃ (a : Addr) (xs : List V) (κ : V → Int × Int), v = .ref a ∧ SqL K H1 a xs ∧ (∀ x ∈ xs, Is4 H1 x κ) ∧ LamX.Tabs T H1 ∧
  ∀ (ys : List V) (p : Addr) (H2 : Hp), ys.Perm xs → LamX.ExtN H1 H2 → H2 p = some (.lst ys) → Q (.ref p) H2
theorem pe_sortlam {X : Cx} {T : List (Addr × Str)} {c Pt : Addr} {e : Expr} {ta : TE} {p pos lpos kpos pp p1 p2 p3 p4 p5 p6 p7 : Pos} (hg : Gl X "sorted") (hm : X.mg "sorted" = none) (hc : X.calm = true) (TB : LamX.TabB X.base X.mg c Pt) (hcode : X.env.code = .ref c)
    (hmT : (Pt, X.env.qual ++ "<lambda>") ∈ T) (hu : ∀ q ∈ T, q.1 = Pt → q.2 = X.env.qual ++ "<lambda>") (hr : Room 1 X.A) (he : PE X e ta)
    (hs : backTo pos (starEach [e] X.env) = (false, eval e X.env) :: backTo pos (starEach [] X.env) := by rfl) (hpl : (backTo pos (starEach [e] X.env)).any (·.1) = false := by rfl) :
    PE X (.Call (.Name "sorted" p) [e] [⟨some "key", .Lambda (lamP pp) (lamB p1 p2 p3 p4 p5 p6 p7) lamSc lpos, kpos⟩] pos) (tSortLam X.K T ta) := by
  refine ⟨fun pins s σ H Q inv h => ?_⟩
  have I := inv
  refine wpAny_Call_Name_kw (ld_blt I hg hm (by decide +kernel : bootBuiltins "sorted" = some (.builtin "sorted")) ?_)
  refine PyProof.Rows.callWith_kw ?_ hs hpl
  rw [hs]
  refine Calls.spliced_cons (thn (he.run pins s σ H _ I h) fun u s1 ⟨v, H1, I1, rv, a, xs, κ, ev, hq, h4, hT, hQ⟩ => Calls.spliced_nil ?_)
  subst ev; cases rv
  show wpAny _ _ (evalAll [(do let v ← eval (.Lambda (lamP pp) (lamB p1 p2 p3 p4 p5 p6 p7) lamSc lpos) X.env; standAt pos; pure v)]) _ _ s1
  refine wpAny_evalAll_cons (wpAny_bind (LamX.lam_make2 I1 TB hcode hmT hu hT rfl (fun y hy hf => by
    rw [show lamSc.names = [(Str.ofString "box", NameKind.local)] from rfl, List.mem_singleton] at hy
    subst hy; cases hf) fun f c' pm ctv H2 s2 I2 eN T2 hof hfn hfr hco => wpAny_bind (wpAny_standAt (wpAny_pure (wpAny_evalAll_nil ?_)))))
  show wpAny _ _ (call (.builtin "sorted") [.ref a] [(Str.ofString "key", .ref f)]) _ _ s2
  have hq2 : SqL X.K H2 a xs := by
    rcases hq with (z | ⟨o, z⟩) | z
    · exact .inl (.inl (eN _ _ z fun _ q => by cases q))
    · exact .inl (.inr ⟨o, eN _ _ z fun _ q => by cases q⟩)
    · exact .inr z
  have h42 : ∀ x ∈ xs, Is4 H2 x κ := fun x hx => by
    obtain ⟨b, l, t, r, q, e1, e2, e3⟩ := h4 x hx
    exact ⟨b, l, t, r, q, e1, eN _ _ e2 (fun _ z => by cases z), e3⟩
  obtain ⟨its, rits, pl, hz⟩ := I2.list hq2
  obtain ⟨⟨oc, vs, tq, hoc, hdc, hvc⟩, _, _⟩ := I2.hok c' _ hco
  have hof' : s2.heap.get? f = some (PySem.W.kla_obj "<lambda>" (X.env.qual ++ "<lambda>") (lamP pp) (lamB p1 p2 p3 p4 p5 p6 p7) lamSc [] pm c' ctv) := hof
  have un := hr.units
  refine PySem.W.sorted_key_data (b := false) (R := fun u x => RelV x u) (bs := xs) (fun x => .tuple [.int (κ x).1, .int (κ x).2]) pl.isList (each_vals rits) (PySem.W.AllAlike.of fun x y => rfl) (PySem.W.Sortable.tuples fun x => ⟨_, _, rfl⟩) hz
    (fun x _ => ?_) (ksk_s1 _ _) (fun x => ksk_l1 _ _) (fun x => ksk_t1 _ _) (fun v x rx hx g tk hk => ?_) fun out cc g tk hk hn hd hl ho => ?_
  · show X.A.units + 2 + 1 < cLine
    omega
  · obtain ⟨b, l, t, r, q, rfl, e2, e3⟩ := h42 x hx
    cases rx
    obtain ⟨_, bs, rb, pb⟩ := I2.hok b _ e2
    obtain ⟨k0, k1, k2, k3, rfl⟩ : ∃ k0 k1 k2 k3, bs = [.int l k0, .int t k1, .int r k2, .int q k3] := by
      cases rb with
      | cons r0 rb =>
        cases rb with
        | cons r1 rb =>
          cases rb with
          | cons r2 rb =>
            cases rb with
            | cons r3 rb =>
              cases rb
              obtain ⟨k0, rfl⟩ := r0; obtain ⟨k1, rfl⟩ := r1; obtain ⟨k2, rfl⟩ := r2; obtain ⟨k3, rfl⟩ := r3
              exact ⟨k0, k1, k2, k3, rfl⟩
    rw [e3]
    exact lam_turn (s := { s2 with heap := g, toks := tk }) hr.depth (hk _ _ hof') ⟨oc, vs, tq, hk _ _ hoc, hdc, hvc⟩ (I2.nolimit.keeps hk) (let ⟨o, e, z⟩ := pb; ⟨o, hk _ o e, z⟩)
  · have I3 : Inv X pins σ (upd H2 (s2.heap.objs.size + 1) (.lst (xs.mergeSort (PySem.W.dataLe false fun x => .tuple [.int (κ x).1, .int (κ x).2])))) { s2 with heap := g, toks := tk } :=
      I2.laid hk (Nat.le_succ _) ⟨by rw [List.length_mergeSort]; exact hz, out, cc, vals_each ho, hd⟩
    have nf : H2 (s2.heap.objs.size + 1) = none := I2.hok.fresh (Nat.le_succ _)
    exact ⟨.ref (s2.heap.objs.size + 1), _, I3, rfl, hQ _ _ _ (List.mergeSort_perm _ _) (eN.trans (LamX.ExtN.of fun b o e => by rw [upd_ne (ne_of_none e nf)]; exact e)) upd_same⟩
end K14

/-! The base of the walks: the text, what stands in the heap, evaluations with a post. -/
namespace K14
open PySem PySem.Spec PyProof.Rows L2 Evl

def topS (i : Nat) : Stmt := PySem.Challenge.pw_pagepart_k14_whole_walls_and_boxes.main.body.getD i (.Pass ⟨0, 0, 0, 0⟩)

/-- built-in names stand -/
structure Txt (mg : Str → Option Value) : Prop where
  sorted : mg "sorted" = none
  len : mg "len" = none
  range : mg "range" = none
  enumerate : mg "enumerate" = none
  min : mg "min" = none
  max : mg "max" = none
  zip : mg "zip" = none
  tuple : mg "tuple" = none

/-! ### what stands in the heap -/
def I2 (H : Hp) (v : V) (p : Sp2) : Prop := ∃ a, v = .ref a ∧ H a = some (.tup [.int p.1, .int p.2])
def I3 (H : Hp) (v : V) (p : Wl) : Prop := ∃ a, v = .ref a ∧ H a = some (.tup [.int p.1, .int p.2.1, .int p.2.2])
def I4 (H : Hp) (v : V) (c : Bx) : Prop := ∃ a, v = .ref a ∧ H a = some (.tup [.int c.l, .int c.t, .int c.r, .int c.b])
abbrev Q4 := Int × Int × Int × Int
def IQ (H : Hp) (v : V) (q : Q4) : Prop := ∃ a, v = .ref a ∧ H a = some (.tup [.int q.1, .int q.2.1, .int q.2.2.1, .int q.2.2.2])
theorem I2.mono {H H' : Hp} {v : V} {p : Sp2} (e : Ex H H') (h : I2 H v p) : I2 H' v p := let ⟨a, h1, h2⟩ := h; ⟨a, h1, e _ _ h2⟩
theorem I3.mono {H H' : Hp} {v : V} {p : Wl} (e : Ex H H') (h : I3 H v p) : I3 H' v p := let ⟨a, h1, h2⟩ := h; ⟨a, h1, e _ _ h2⟩
theorem I4.mono {H H' : Hp} {v : V} {p : Bx} (e : Ex H H') (h : I4 H v p) : I4 H' v p := let ⟨a, h1, h2⟩ := h; ⟨a, h1, e _ _ h2⟩
theorem IQ.mono {H H' : Hp} {v : V} {p : Q4} (e : Ex H H') (h : IQ H v p) : IQ H' v p := let ⟨a, h1, h2⟩ := h; ⟨a, h1, e _ _ h2⟩

section
variable {α β : Type} {R R' : α → β → Prop}
theorem pd_len : ∀ {xs : List α} {ys : List β}, Paired R xs ys → xs.length = ys.length
  | _, _, .nil => rfl
  | _, _, .cons _ t => congrArg (· + 1) (pd_len t)
theorem pd_mono (f : ∀ a b, R a b → R' a b) : ∀ {xs : List α} {ys : List β}, Paired R xs ys → Paired R' xs ys
  | _, _, .nil => .nil
  | _, _, .cons r t => .cons (f _ _ r) (pd_mono f t)
theorem pd_app : ∀ {xs xs' : List α} {ys ys' : List β}, Paired R xs ys → Paired R xs' ys' → Paired R (xs ++ xs') (ys ++ ys')
  | _, _, _, _, .nil, s => s
  | _, _, _, _, .cons r t, s => .cons r (pd_app t s)
theorem pd_one {a : α} {b : β} (h : R a b) : Paired R [a] [b] := .cons h .nil
theorem pd_at : ∀ {xs : List α} {ys : List β} {i : Nat} {x : α}, Paired R xs ys → xs[i]? = some x → ∃ y, ys[i]? = some y ∧ R x y
  | _, _, _, _, .nil, none_ => by simp at none_
  | _, _, 0, _, .cons r _, here => by simp at here; subst here; exact ⟨_, rfl, r⟩
  | _, _, i + 1, _, .cons _ t, e => by
    obtain ⟨y, h1, h2⟩ := pd_at t (by simpa using e)
    exact ⟨y, by simpa using h1, h2⟩
theorem pd_of : ∀ {xs : List α} {ys : List β} {i : Nat} {y : β}, Paired R xs ys → ys[i]? = some y → ∃ x, xs[i]? = some x ∧ R x y
  | _, _, _, _, .nil, none_ => by simp at none_
  | _, _, 0, _, .cons r _, here => by simp at here; subst here; exact ⟨_, rfl, r⟩
  | _, _, i + 1, _, .cons _ t, e => by
    obtain ⟨y, h1, h2⟩ := pd_of t (by simpa using e)
    exact ⟨y, by simpa using h1, h2⟩
theorem pd_take : ∀ {xs : List α} {ys : List β} (n : Nat), Paired R xs ys → Paired R (xs.take n) (ys.take n)
  | _, _, 0, _ => .nil
  | _, _, _ + 1, .nil => .nil
  | _, _, n + 1, .cons r t => .cons r (pd_take n t)
theorem pd_drop : ∀ {xs : List α} {ys : List β} (n : Nat), Paired R xs ys → Paired R (xs.drop n) (ys.drop n)
  | _, _, 0, r => r
  | _, _, _ + 1, .nil => .nil
  | _, _, n + 1, .cons _ t => pd_drop n t
theorem pd_mem : ∀ {xs : List α} {ys : List β} {x : α}, Paired R xs ys → x ∈ xs → ∃ y ∈ ys, R x y
  | _, _, _, .nil, h => by cases h
  | _, _, _, .cons r t, h => by
    rcases (List.mem_cons.mp h) with e | e
    · subst e; exact ⟨_, List.mem_cons_self, r⟩
    · obtain ⟨y, hy, q⟩ := pd_mem t e
      exact ⟨y, List.mem_cons_of_mem _ hy, q⟩
theorem pd_split : ∀ {ys : List β} {xs : List α} {z : β}, Paired R xs (ys ++ [z]) → ∃ xs' x, xs = xs' ++ [x] ∧ Paired R xs' ys ∧ R x z
  | [], _, _, h => by
    cases h with
    | cons r t => cases t; exact ⟨[], _, rfl, .nil, r⟩
  | y :: ys, _, _, h => by
    cases h with
    | cons r t =>
      obtain ⟨xs', x, e, p, q⟩ := pd_split t
      exact ⟨_ :: xs', x, by rw [e]; rfl, .cons r p, q⟩
/-- an arrangement of the left, told on the right -/
theorem pd_perm : ∀ {xs xs' : List α}, xs'.Perm xs → ∀ {ys : List β}, Paired R xs ys → ∃ ys', ys'.Perm ys ∧ Paired R xs' ys' := by
  intro xs xs' h
  induction h with
  | nil => intro ys p; exact ⟨ys, .refl _, p⟩
  | cons x _ ih =>
    intro ys p
    cases p with
    | cons r t =>
      obtain ⟨zs, q1, q2⟩ := ih t
      exact ⟨_ :: zs, .cons _ q1, .cons r q2⟩
  | swap x y l =>
    intro ys p
    cases p with
    | cons r t =>
      cases t with
      | cons r2 t2 => exact ⟨_, .swap _ _ _, .cons r2 (.cons r t2)⟩
  | trans _ _ ih1 ih2 =>
    intro ys p
    obtain ⟨zs, q1, q2⟩ := ih2 p
    obtain ⟨us, q3, q4⟩ := ih1 q2
    exact ⟨us, q3.trans q1, q4⟩
end

/-- lists and tuples of such things -/
def Mono {α : Type} (R : Hp → V → α → Prop) : Prop := ∀ (H H' : Hp) (v : V) (x : α), Ex H H' → R H v x → R H' v x
theorem mI2 : Mono I2 := fun _ _ _ _ => I2.mono
theorem mI3 : Mono I3 := fun _ _ _ _ => I3.mono
theorem mI4 : Mono I4 := fun _ _ _ _ => I4.mono
theorem mIQ : Mono IQ := fun _ _ _ _ => IQ.mono
theorem Mono.pd {α : Type} {R : Hp → V → α → Prop} (m : Mono R) {H H' : Hp} {vs : List V} {xs : List α} (e : Ex H H') (h : Paired (R H) vs xs) : Paired (R H') vs xs := pd_mono (fun v x => m H H' v x e) h
def LsI {α : Type} (R : Hp → V → α → Prop) (H : Hp) (a : Addr) (xs : List α) : Prop := ∃ vs, H a = some (.lst vs) ∧ Paired (R H) vs xs
def TpI {α : Type} (R : Hp → V → α → Prop) (H : Hp) (a : Addr) (xs : List α) : Prop := ∃ vs, H a = some (.tup vs) ∧ Paired (R H) vs xs
theorem LsI.mono {α : Type} {R : Hp → V → α → Prop} (m : Mono R) {H H' : Hp} {a : Addr} {xs : List α} (e : Ex H H') (h : LsI R H a xs) : LsI R H' a xs :=
  let ⟨vs, h1, h2⟩ := h; ⟨vs, e _ _ h1, m.pd e h2⟩
theorem TpI.mono {α : Type} {R : Hp → V → α → Prop} (m : Mono R) {H H' : Hp} {a : Addr} {xs : List α} (e : Ex H H') (h : TpI R H a xs) : TpI R H' a xs :=
  let ⟨vs, h1, h2⟩ := h; ⟨vs, e _ _ h1, m.pd e h2⟩
/-- a page -/
def Pg (H : Hp) (v : V) (W Hh : Int) (bs : List Bx) : Prop := ∃ a b, v = .ref a ∧ H a = some (.tup [.int W, .int Hh, .ref b]) ∧ TpI I4 H b bs
theorem Pg.mono {H H' : Hp} {v : V} {W Hh : Int} {bs : List Bx} (e : Ex H H') (h : Pg H v W Hh bs) : Pg H' v W Hh bs :=
  let ⟨a, b, h1, h2, h3⟩ := h; ⟨a, b, h1, e _ _ h2, h3.mono mI4 e⟩

/-! ### evaluations with a post -/
def EvP (te : TE) (σ : L2.St) (H : Hp) (P : V → Hp → Prop) : Prop := ∀ H1, Ex H H1 → ∀ Q : VK, (∀ v H2, Ex H1 H2 → P v H2 → Q v H2) → te σ H1 Q
section
variable {te : TE} {σ : L2.St} {H H' : Hp} {P P' : V → Hp → Prop} {D : Ends} {tz : TS} {v : V} {i : Nat} {ta : TA} {vs dvs : List V} {sp : Sp} {E : XK}
theorem EvP.mono (e : Ex H H') (h : EvP te σ H P) : EvP te σ H' P := fun H1 a Q q => h H1 (e.trans a) Q q
theorem ev_p (h : Ev te σ H v) : EvP te σ H fun u _ => u = v := fun H1 a Q q => h H1 a Q fun H2 e => q v H2 e rfl
theorem p_asg (h : EvP te σ H P) (k : ∀ v H1, Ex H H1 → P v H1 → tz D (σ.set i (some v)) H1) : tSeq (tAsg te (gName i)) tz D σ H := h H (Ex.refl H) _ fun v H1 e hp => k v H1 e hp
theorem p_asg1 (h : EvP te σ H P) (k : ∀ v H1, Ex H H1 → P v H1 → D.nx (σ.set i (some v)) H1) : tAsg te (gName i) D σ H := h H (Ex.refl H) _ fun v H1 e hp => k v H1 e hp
theorem p_ret (h : EvP te σ H P) (k : ∀ v H1, Ex H H1 → P v H1 → D.rt v H1) : tRet te D σ H := h H (Ex.refl H) _ fun v H1 e hp => k v H1 e hp
theorem p_call (h : EvA ta σ H vs) (hs : ∀ H1, Ex H H1 → ∀ Q : VK, (∀ v H2, Ex H1 H2 → P v H2 → Q v H2) → sp (vs ++ dvs) H1 Q E) : EvP (tCall sp dvs E ta) σ H P := fun H1 e Q q =>
  h H1 e _ fun H2 e2 => hs H2 (e.trans e2) Q fun v H3 e3 hp => q v H3 (e2.trans e3) hp
/-- a, b, .. = e, e a tuple there -/
theorem q_unp {n : Nat} {a : Addr} {xs : List V} {tg : TGs} {K : PySem.W.Frag} (h : Ev te σ H (.ref a)) (hx : H a = some (.tup xs)) (hn : xs.length = n) (k : ∀ H1, Ex H H1 → tg xs σ H1 (fun σ' H' => tz D σ' H')) : tSeq (tAsg te (gTup K n tg)) tz D σ H :=
  h H (Ex.refl H) _ fun H1 e => ⟨a, xs, rfl, st_of (e _ _ hx), hn, k H1 e⟩
/-- .. a pair or the like that is made on the way -/
theorem q_unpU {n : Nat} {xs : List V} {tg : TGs} {K : PySem.W.Frag} (h : EvU te σ H xs) (hn : xs.length = n) (k : ∀ H1, Ex H H1 → tg xs σ H1 (fun σ' H' => tz D σ' H')) : tSeq (tAsg te (gTup K n tg)) tz D σ H :=
  h H (Ex.refl H) _ fun p H1 hp e hx => ⟨p, xs, rfl, st_of hx, hn, k H1 e⟩
/-- len of a list or tuple by call_len_seq -/
theorem ev_lenS {tb : TE} {K : PySem.W.Frag} {p : Addr} {xs : List V} (ha : Ev tb σ H (.ref p)) (h : SqL K H p xs ∨ SqT K H p xs) : Ev (tCB (rLenS K) (tCons tb tNil)) σ H (.int (xs.length : Int)) := fun H1 e Q q =>
  ha H1 e _ fun H2 e2 => ⟨p, xs, rfl, h.imp (ex_l (e.trans e2)) (ex_t (e.trans e2)), q H2 e2⟩
end
/-! one subscript of a tuple, a list -/
section
variable {K : PySem.W.Frag} {σ : L2.St} {H : Hp} {ta tb : TE} {v : V}
theorem ev_ixT {p : Addr} {xs : List V} {i : Int} (ha : Ev ta σ H (.ref p)) (hb : Ev tb σ H (.int i)) (h : H p = some (.tup xs)) (hv : atI xs i = some v) : Ev (tOp (rIxT K) ta tb) σ H v := ev_op ha hb (rv_ixT (st_of h) hv)
theorem ev_ixL {p : Addr} {xs : List V} {i : Int} (ha : Ev ta σ H (.ref p)) (hb : Ev tb σ H (.int i)) (h : SqL K H p xs) (hv : atI xs i = some v) : Ev (tOp (rIxL K) ta tb) σ H v := ev_op ha hb (rv_ixL h hv)
end
section
variable {te : TE} {σ : L2.St} {H H' : Hp} {P P' : V → Hp → Prop} {D : Ends} {tz : TS} {K : PySem.W.Frag} {ta tb : TE} {C1 C2 C3 : Int → Prop}
theorem p_app {l : Addr} {xs : List V} (hl : H l = some (.lst xs)) (ha : Ev ta σ H (.ref l)) (h : EvP te σ H P) (hz : xs.length < 100000) (k : ∀ v H1, Ex H H1 → P v H1 → D.nx σ (upd H1 l (.lst (xs ++ [v])))) :
    tDrop (tBM K "list" rAppend ta (tCons te tNil)) D σ H :=
  ha H (Ex.refl H) _ fun H1 e1 =>
  ⟨Or.inl ⟨rfl, xs, sq_of (e1 l _ hl)⟩, (h.mono e1) H1 (Ex.refl H1) _ fun v H2 e2 hp => ⟨l, xs, v, rfl, rfl, e2 l _ (e1 l _ hl), sz_lt hz, k v H2 (e1.trans e2) hp⟩⟩
/-- an int of a kind -/
def EvI (te : TE) (σ : L2.St) (H : Hp) (C : Int → Prop) : Prop := EvP te σ H fun v _ => ∃ n, v = .int n ∧ C n
theorem evi_of {n : Int} (h : Ev te σ H (.int n)) (hc : C1 n) : EvI te σ H C1 := fun H1 e Q q => h H1 e Q fun H2 e2 => q _ H2 e2 ⟨n, rfl, hc⟩
theorem evi_op0 {g : Int → Int → Int} (ha : EvI ta σ H C1) (hb : EvI tb σ H C2) (hr : ∀ i j, C1 i → C2 j → C3 (g i j)) : EvI (tOp (rI0 fun i j => .int (g i j)) ta tb) σ H C3 := fun H1 e Q q =>
  ha H1 e _ fun x H2 e2 ⟨i, ei, ci⟩ => hb H2 (e.trans e2) _ fun y H3 e3 ⟨j, ej, cj⟩ => ⟨i, j, ei, ej, q _ H3 (e2.trans e3) ⟨_, rfl, hr i j ci cj⟩⟩
theorem evi_op {C : Int → Int → Prop} {g : Int → Int → Int} (ha : EvI ta σ H C1) (hb : EvI tb σ H C2) (hr : ∀ i j, C1 i → C2 j → C i j ∧ C3 (g i j)) : EvI (tOp (rI C fun i j => .int (g i j)) ta tb) σ H C3 := fun H1 e Q q =>
  ha H1 e _ fun x H2 e2 ⟨i, ei, ci⟩ => hb H2 (e.trans e2) _ fun y H3 e3 ⟨j, ej, cj⟩ => ⟨i, j, ei, ej, (hr i j ci cj).1, q _ H3 (e2.trans e3) ⟨_, rfl, (hr i j ci cj).2⟩⟩
theorem ev_add {i j : Int} (ha : Ev ta σ H (.int i)) (hb : Ev tb σ H (.int j)) : Ev (tOp (rI0 fun i j => .int (i + j)) ta tb) σ H (.int (i + j)) := ev_op ha hb rv_I0
theorem ev_sub {i j : Int} (ha : Ev ta σ H (.int i)) (hb : Ev tb σ H (.int j)) : Ev (tOp (rI0 fun i j => .int (i - j)) ta tb) σ H (.int (i - j)) := ev_op ha hb rv_I0
theorem ev_mul {i j : Int} (ha : Ev ta σ H (.int i)) (hb : Ev tb σ H (.int j)) (hc : CMul i j) : Ev (tOp (rI CMul fun i j => .int (i * j)) ta tb) σ H (.int (i * j)) := ev_op ha hb (rv_I hc)
theorem ev_mod {i j : Int} (ha : Ev ta σ H (.int i)) (hb : Ev tb σ H (.int j)) (hc : 0 < j) : Ev (tOp (rI (fun _ j => 0 < j) fun i j => .int (i % j)) ta tb) σ H (.int (i % j)) := ev_op ha hb (rv_I hc)
theorem ev_div {i j : Int} (ha : Ev ta σ H (.int i)) (hb : Ev tb σ H (.int j)) (hc : CDiv i j) : Ev (tOp (rI CDiv fun i j => .int (i / j)) ta tb) σ H (.int (i / j)) := ev_op ha hb (rv_I hc)
end
theorem at0 {a : V} {l : List V} : atI (a :: l) 0 = some a := atI_nat (j := 0) rfl
theorem at1 {a b : V} {l : List V} : atI (a :: b :: l) 1 = some b := atI_nat (j := 1) rfl
theorem at2 {a b c : V} {l : List V} : atI (a :: b :: c :: l) 2 = some c := atI_nat (j := 2) rfl
theorem at3 {a b c d : V} {l : List V} : atI (a :: b :: c :: d :: l) 3 = some d := atI_nat (j := 3) rfl
theorem cD {n : Int} (h : 0 < n ∧ n < 1073741824) : CDiv 5 n := h
theorem at_nat {xs : List V} {z : Int} {v : V} (h0 : 0 ≤ z) (h : xs[z.toNat]? = some v) : atI xs z = some v := at_of (j := z.toNat) (by omega) h
theorem ExtN.ex {H H' : Hp} (e : Ex H H') : LamX.ExtN H H' := LamX.ExtN.of e

/-! ### displays whose items are made on the way -/
section
variable {α : Type} {R : Hp → V → α → Prop} {σ : L2.St} {H H' : Hp} {te : TE} {ta tr : TA} {x : α} {xs : List α} {D : Ends} {tz tu : TS} {K : PySem.W.Frag}
def EvAs {α : Type} (R : Hp → V → α → Prop) (ta : TA) (σ : L2.St) (H : Hp) (xs : List α) : Prop := ∀ H1, Ex H H1 → ∀ Q : List V → Hp → Prop, (∀ vs H2, Ex H1 H2 → Paired (R H2) vs xs → Q vs H2) → ta σ H1 Q
theorem eas_nil : EvAs R tNil σ H [] := fun H1 _ _ q => q [] H1 (Ex.refl H1) .nil
theorem eas_cons (m : Mono R) (h : EvP te σ H fun v H' => R H' v x) (hr : EvAs R tr σ H xs) : EvAs R (tCons te tr) σ H (x :: xs) := fun H1 e Q q =>
  h H1 e _ fun v H2 e2 hv => hr H2 (e.trans e2) _ fun vs H3 e3 hs => q (v :: vs) H3 (e2.trans e3) (.cons (m _ _ _ _ e3 hv) hs)
/-- a new list of such things -/
def IsL {α : Type} (R : Hp → V → α → Prop) (H : Hp) (xs : List α) : V → Hp → Prop := fun v H' => ∃ p, v = .ref p ∧ H p = none ∧ LsI R H' p xs
theorem evp_lst (m : Mono R) (h : EvAs R ta σ H xs) (hl : xs.length ≤ 100000) : EvP (tLst ta) σ H (IsL R H xs) := fun H1 e Q q =>
  h H1 e _ fun vs H2 e2 hs => ⟨by rw [pd_len hs]; exact sz_of hl, fun p hp => q _ _ (e2.trans (Ex.new hp)) ⟨p, rfl, fresh_back (e.trans e2) hp, vs, upd_same, m.pd (Ex.new hp) hs⟩⟩
theorem evp_i4 {l t r b : Int} (h : EvA ta σ H [.int l, .int t, .int r, .int b]) : EvP (tTup ta) σ H fun v H' => I4 H' v ⟨l, t, r, b⟩ := fun H1 e Q q =>
  h H1 e _ fun H2 e2 => ⟨sz_of (show (4 : Nat) ≤ 100000 by decide), fun p hp => q _ _ (e2.trans (Ex.new hp)) ⟨p, rfl, upd_same⟩⟩
theorem evp_iq {l t r b : Int} (h : EvA ta σ H [.int l, .int t, .int r, .int b]) : EvP (tTup ta) σ H fun v H' => IQ H' v (l, t, r, b) := fun H1 e Q q =>
  h H1 e _ fun H2 e2 => ⟨sz_of (show (4 : Nat) ≤ 100000 by decide), fun p hp => q _ _ (e2.trans (Ex.new hp)) ⟨p, rfl, upd_same⟩⟩
theorem evp_i3 {a b c : Int} (h : EvA ta σ H [.int a, .int b, .int c]) : EvP (tTup ta) σ H fun v H' => I3 H' v (a, b, c) := fun H1 e Q q =>
  h H1 e _ fun H2 e2 => ⟨sz_of (show (3 : Nat) ≤ 100000 by decide), fun p hp => q _ _ (e2.trans (Ex.new hp)) ⟨p, rfl, upd_same⟩⟩
theorem evp_i2 {a b : Int} (h : EvA ta σ H [.int a, .int b]) : EvP (tTup ta) σ H fun v H' => I2 H' v (a, b) := fun H1 e Q q =>
  h H1 e _ fun H2 e2 => ⟨sz_of (show (2 : Nat) ≤ 100000 by decide), fun p hp => q _ _ (e2.trans (Ex.new hp)) ⟨p, rfl, upd_same⟩⟩
/-! ### targets -/
theorem g2 {i j : Nat} {p : Sp2} {v : V} {Q : L2.St → Hp → Prop} (h : I2 H v p) (k : Q ((σ.set i (some (.int p.1))).set j (some (.int p.2))) H) : gTup K 2 (gCons (gName i) (gCons (gName j) gNil)) v σ H Q :=
  let ⟨a, e1, e2⟩ := h; ⟨a, _, e1, st_of e2, rfl, _, _, rfl, _, _, rfl, rfl, k⟩
theorem g3 {i j l : Nat} {p : Wl} {v : V} {Q : L2.St → Hp → Prop} (h : I3 H v p) (k : Q (((σ.set i (some (.int p.1))).set j (some (.int p.2.1))).set l (some (.int p.2.2))) H) : gTup K 3 (gCons (gName i) (gCons (gName j) (gCons (gName l) gNil))) v σ H Q :=
  let ⟨a, e1, e2⟩ := h; ⟨a, _, e1, st_of e2, rfl, _, _, rfl, _, _, rfl, _, _, rfl, rfl, k⟩
theorem g4 {i j l m : Nat} {c : Bx} {v : V} {Q : L2.St → Hp → Prop} (h : I4 H v c) (k : Q ((((σ.set i (some (.int c.l))).set j (some (.int c.t))).set l (some (.int c.r))).set m (some (.int c.b))) H) : gTup K 4 (gCons (gName i) (gCons (gName j) (gCons (gName l) (gCons (gName m) gNil)))) v σ H Q :=
  let ⟨a, e1, e2⟩ := h; ⟨a, _, e1, st_of e2, rfl, _, _, rfl, _, _, rfl, _, _, rfl, _, _, rfl, rfl, k⟩
/-- a new pair (of an enumerate, a zip) -/
theorem gp {i j : Nat} {T : Addr} {x y : V} {Q : L2.St → Hp → Prop} (h : H T = some (.tup [x, y])) (k : Q ((σ.set i (some x)).set j (some y)) H) : gTup K 2 (gCons (gName i) (gCons (gName j) gNil)) (.ref T) σ H Q :=
  ⟨T, _, rfl, st_of h, rfl, _, _, rfl, _, _, rfl, rfl, k⟩
theorem p_unp {g : TG} {P : V → Hp → Prop} (h : EvP te σ H P) (k : ∀ v H1, Ex H H1 → P v H1 → g v σ H1 (fun σ' H' => tz D σ' H')) : tSeq (tAsg te g) tz D σ H := h H (Ex.refl H) _ fun v H1 e hp => k v H1 e hp
/-! ### a loop over a list -/
theorem q_forV {tl : TE} {g : TG} {C : Addr → List V → Hp → Prop} (h : EvP tl σ H fun v H' => ∃ p vs, v = .ref p ∧ SqL K H' p vs ∧ C p vs H')
    (k : ∀ p vs H1, Ex H H1 → SqL K H1 p vs → C p vs H1 → ∃ Pv : Nat → L2.St → Hp → Prop, Pv 0 σ H1 ∧ (∀ i σ' H', Pv i σ' H' → SqL K H' p vs) ∧
      (∀ i x σ' H', vs[i]? = some x → Pv i σ' H' → g x σ' H' fun σ2 H2 => tu { D with nx := Pv (i + 1), ct := Pv (i + 1), bk := tz D } σ2 H2) ∧ ∀ σ' H', Pv vs.length σ' H' → tz D σ' H') : tSeq (tFor (iList K tl) g tu) tz D σ H :=
  h H (Ex.refl H) _ fun v H1 e ⟨p, vs, ev, hq, hc⟩ => by
    obtain ⟨Pv, h0, hl, hs, hd⟩ := k p vs H1 e hq hc
    exact ⟨p, ev, ⟨vs, hq⟩, for_list (D := { D with nx := tz D }) Pv h0 (fun i σ' H' _ p' => hl i σ' H' p') hs hd⟩
end

/-! ### sorted pairs -/
def kOf (H : Hp) : V → Sp2
  | .ref t => match H t with
    | some (.tup [.int i, .int j]) => (i, j)
    | _ => (0, 0)
  | _ => (0, 0)
theorem I2.k {H : Hp} {v : V} {p : Sp2} (h : I2 H v p) : kOf H v = p := by
  obtain ⟨a, rfl, h⟩ := h
  show (match H a with
    | some (.tup [.int i, .int j]) => (i, j)
    | _ => (0, 0)) = p
  rw [h]
theorem pd_k {H : Hp} : ∀ {vs : List V} {ps : List Sp2}, Paired (I2 H) vs ps → vs.map (kOf H) = ps
  | _, _, .nil => rfl
  | _, _, .cons r t => by rw [List.map_cons, r.k, pd_k t]
theorem evp_sortP {K : PySem.W.Frag} {σ : L2.St} {H : Hp} {ta : TE} {a : Addr} {ps : List Sp2} (ha : Ev ta σ H (.ref a)) (h : LsI I2 H a ps) : EvP (tCB (rSortedPO K) (tCons ta tNil)) σ H (IsL I2 H (sortP ps)) := fun H1 e Q q =>
  ha H1 e _ fun H2 e2 => by
    obtain ⟨vs, hv, hp⟩ := h.mono mI2 (e.trans e2)
    refine ⟨a, vs, kOf H2, rfl, sq_of hv, fun x hx => ?_, fun ys p s1 s2 hn => ?_⟩
    · obtain ⟨y, _, t, rfl, ht⟩ := pd_mem hp hx
      have ek : kOf H2 (.ref t) = y := I2.k ⟨t, rfl, ht⟩
      exact ⟨t, rfl, by rw [ek]; exact ht⟩
    · obtain ⟨zs, z1, z2⟩ := pd_perm s2.perm hp
      have ez : zs = sortP ps := by
        refine sortP_uniq z1 ?_
        rw [← pd_k z2, List.pairwise_map]
        refine List.Pairwise.imp (fun {x y} hxy => ?_) s1
        have := SrtO.lexB_no.mp hxy
        rw [leP_iff]; omega
      rw [ez] at z2
      exact q _ _ (e2.trans (Ex.new hn)) ⟨p, rfl, fresh_back (e.trans e2) hn, ys, upd_same, mI2.pd (Ex.new hn) z2⟩

/-! ### the readings opened -/
section
variable {te : TE} {ta tr : TA} {σ : L2.St} {H : Hp} {D : Ends} {sp : Sp} {dvs : List V} {E : XK} {Q : VK} {g : TG} {tz : TS}
theorem o_ret (h : te σ H D.rt) : tRet te D σ H := h
theorem o_call (h : ta σ H fun vs H1 => sp (vs ++ dvs) H1 Q E) : tCall sp dvs E ta σ H Q := h
theorem o_cons {Q : List V → Hp → Prop} (h : te σ H fun x H1 => tr σ H1 fun xs H2 => Q (x :: xs) H2) : tCons te tr σ H Q := h
theorem o_nil {Q : List V → Hp → Prop} (h : Q [] H) : tNil σ H Q := h
theorem o_asg (h : te σ H fun x H1 => g x σ H1 (fun σ' H' => tz D σ' H')) : tSeq (tAsg te g) tz D σ H := h
theorem o_drop (h : te σ H fun _ H1 => D.nx σ H1) : tDrop te D σ H := h
end

theorem o_op {r : R2} {ta tb : TE} {σ : L2.St} {H : Hp} {Q : VK} (h : ta σ H fun x H1 => tb σ H1 fun y H2 => r x y H2 Q) : tOp r ta tb σ H Q := h
/-! ### chains; int tuples; loops over enumerate -/
section
variable {σ : L2.St} {H : Hp} {ta tb tc : TE} {tr : TA} {D : Ends} {tu tz : TS} {K : PySem.W.Frag} {g : TG}
theorem ev_chain {r r' : R2} {x y z : V} {k1 k2 : Bool} (ha : Ev ta σ H x) (hb : Ev tb σ H y) (h1 : RV r x y H (.bl k1)) (hc : Ev tc σ H z) (h2 : RV r' y z H (.bl k2)) : Ev (tChain r r' ta tb tc) σ H (.bl (k1 && k2)) := fun H1 e Q q =>
  ha H1 e _ fun H2 e2 => hb H2 (e.trans e2) _ fun H3 e3 => h1 H3 ((e.trans e2).trans e3) _ fun H4 e4 => ⟨k1, rfl, by
    have e5 := (e2.trans e3).trans e4
    cases k1 with
    | true => exact iteT (hc H4 (e.trans e5) _ fun H5 e6 => h2 H5 ((e.trans e5).trans e6) Q fun H6 e7 => q H6 ((e5.trans e6).trans e7))
    | false => exact iteF (q H4 e5)⟩
def RInt : Hp → V → Int → Prop := fun _ v n => v = .int n
theorem mInt : Mono RInt := fun _ _ _ _ _ h => h
theorem pd_int {H : Hp} : ∀ {vs : List V} {ns : List Int}, Paired (RInt H) vs ns → vs = ns.map V.int
  | _, _, .nil => rfl
  | _, _, .cons r t => by rw [List.map_cons, ← pd_int t, ← (show _ = _ from r)]
theorem evp_tupI {ns : List Int} (h : EvAs RInt tr σ H ns) (hl : ns.length ≤ 1000) : EvP (tTup tr) σ H fun v H' => ∃ p, v = .ref p ∧ H p = none ∧ H' p = some (.tup (ns.map V.int)) := fun H1 e Q q =>
  h H1 e _ fun vs H2 e2 hs => ⟨by rw [pd_len hs]; exact sz_of (Nat.le_trans hl (by decide)), fun p hp => q _ _ (e2.trans (Ex.new hp)) ⟨p, rfl, fresh_back (e.trans e2) hp, by rw [upd_same, pd_int hs]⟩⟩
theorem s_forEL {a : Addr} {vs : List V} (h : Ev ta σ H (.ref a)) (hx : H a = some (.lst vs)) (Pv : Nat → L2.St → Hp → Prop) (h0 : ∀ H1, Ex H H1 → Pv 0 σ H1) (hG : ∀ i σ' H', Pv i σ' H' → H' a = some (.lst vs))
    (hs : ∀ (i : Nat) (x : V) (T : Addr) σ' H', vs[i]? = some x → Pv i σ' H' → H' T = none → g (.ref T) σ' (upd H' T (.tup [.int (i : Nat), x])) fun σ2 H2 => tu { D with nx := Pv (i + 1), ct := Pv (i + 1), bk := D.nx } σ2 H2)
    (hd : ∀ σ' H', Pv vs.length σ' H' → D.nx σ' H') : tFor (iEnum K (tCons ta tNil)) g tu D σ H :=
  h H (Ex.refl H) _ fun H1 e => ⟨a, vs, rfl, sq_of (e _ _ hx), for_it walk_enum Pv (h0 H1 e) (fun i σ' H' _ p => sq_of (hG i σ' H' p)) (fun i x σ' H' H2 hi p y => by
    obtain ⟨T, x1, x2, rfl, nT, rfl, e1, e2⟩ := y
    rw [← Option.some.inj e1]
    exact hs i x2 T σ' H' e2 p nT) hd⟩
theorem s_forET {a : Addr} {vs : List V} (h : Ev ta σ H (.ref a)) (hx : H a = some (.tup vs)) (Pv : Nat → L2.St → Hp → Prop) (h0 : ∀ H1, Ex H H1 → Pv 0 σ H1) (hG : ∀ i σ' H', Pv i σ' H' → H' a = some (.tup vs))
    (hs : ∀ (i : Nat) (x : V) (T : Addr) σ' H', vs[i]? = some x → Pv i σ' H' → H' T = none → g (.ref T) σ' (upd H' T (.tup [.int (i : Nat), x])) fun σ2 H2 => tu { D with nx := Pv (i + 1), ct := Pv (i + 1), bk := D.nx } σ2 H2)
    (hd : ∀ σ' H', Pv vs.length σ' H' → D.nx σ' H') : tFor (iEnumT K (tCons ta tNil)) g tu D σ H :=
  h H (Ex.refl H) _ fun H1 e => ⟨a, vs, rfl, st_of (e _ _ hx), for_it walk_enumT Pv (h0 H1 e) (fun i σ' H' _ p => st_of (hG i σ' H' p)) (fun i x σ' H' H2 hi p y => by
    obtain ⟨T, x1, x2, rfl, nT, rfl, e1, e2⟩ := y
    rw [← Option.some.inj e1]
    exact hs i x2 T σ' H' e2 p nT) hd⟩
theorem s_forZM {a b : Addr} {xs ys : List V} {tb : TE} (ha : Ev ta σ H (.ref a)) (hb : Ev tb σ H (.ref b)) (hx : H a = some (.tup xs)) (hy : H b = some (.lst ys)) (hl : xs.length = ys.length) (Pv : Nat → L2.St → Hp → Prop) (h0 : ∀ H1, Ex H H1 → Pv 0 σ H1) (hG : ∀ i σ' H', Pv i σ' H' → H' a = some (.tup xs) ∧ H' b = some (.lst ys))
    (hs : ∀ (i : Nat) (x y : V) (T : Addr) σ' H', xs[i]? = some x → ys[i]? = some y → Pv i σ' H' → H' T = none → g (.ref T) σ' (upd H' T (.tup [x, y])) fun σ2 H2 => tu { D with nx := Pv (i + 1), ct := Pv (i + 1), bk := D.nx } σ2 H2)
    (hd : ∀ σ' H', Pv xs.length σ' H' → D.nx σ' H') : tFor (iZipM K (tCons ta (tCons tb tNil))) g tu D σ H :=
  ha H (Ex.refl H) _ fun H1 e => hb H1 e _ fun H2 e2 => ⟨a, b, xs, ys, rfl, st_of ((e.trans e2) _ _ hx), sq_of ((e.trans e2) _ _ hy), for_it (walk_zipM hl) Pv (h0 H2 (e.trans e2)) (fun i σ' H' _ p => ⟨st_of (hG i σ' H' p).1, sq_of (hG i σ' H' p).2⟩) (fun i x σ' H' H2 hi p y => by
    obtain ⟨T, x1, x2, rfl, nT, rfl, e1, e2⟩ := y
    exact hs i x1 x2 T σ' H' e1 e2 p nT) hd⟩
theorem o_seq {tu tz : TS} (h : tu { D with nx := tz D } σ H) : tSeq tu tz D σ H := h
end
end K14

/-! Walks: _law_stir, _law_cell, _law_lines, _law_wheel, _law_filled. -/
namespace K14
open PySem PySem.Spec PyProof.Rows L2 Evl
abbrev sStir : Stmt := topS 13
abbrev sCell : Stmt := topS 14
abbrev sWheel : Stmt := topS 16
abbrev sLines : Stmt := topS 18
abbrev sFilled : Stmt := topS 20
theorem scStir : FnScope ["cell", "k", "number"] ["cell", "k"] (defScope sStir) := ⟨rfl, rfl, rfl, by decide +kernel, rfl, by decide +kernel, by decide +kernel⟩
theorem scCell : FnScope ["script", "k"] ["script", "k"] (defScope sCell) := ⟨rfl, rfl, rfl, by decide +kernel, rfl, by decide +kernel, by decide +kernel⟩
theorem scWheel : FnScope ["box", "rest", "left", "top", "right", "below", "x", "y", "u", "v"] ["box", "rest"] (defScope sWheel) := ⟨rfl, rfl, rfl, by decide +kernel, rfl, by decide +kernel, by decide +kernel⟩
theorem scLines : FnScope ["script", "first", "many", "most", "found", "k"] ["script", "first", "many", "most"] (defScope sLines) := ⟨rfl, rfl, rfl, by decide +kernel, rfl, by decide +kernel, by decide +kernel⟩
theorem scFilled : FnScope ["spans", "first", "last", "at", "begin", "end"] ["spans", "first", "last"] (defScope sFilled) := ⟨rfl, rfl, rfl, by decide +kernel, rfl, by decide +kernel, by decide +kernel⟩

section
variable {P : Program} {w : World} {base : Heap} {mg : Str → Option Value} {K : PySem.W.Frag}
/-! ### _law_stir -/
def spStir : Sp := fun vs H Q _ => ∃ c k : Int, vs = [.int c, .int k] ∧ ∀ n H', Ex H H' → Q (.int n) H'
theorem ok_stir {f : Addr} {fd : FuncData} {k : Nat} (F : Fun K "_law_stir" "_law_stir" sStir f fd) : FnOk P w K mg base CX0 (k + 1) f fd ["cell", "k"] spStir := by
  refine F.ok scStir (fun vs H Q E h => ?_) (fun cdv A outer s H vs Q E hr h => ?_)
  · obtain ⟨c, k, rfl, _⟩ := h; rfl
  · obtain ⟨c, k, rfl, q⟩ := h
    refine ⟨_, pss_cons (ps_set (i := 2) scStir.nd rfl (.inl rfl) (pe_op op_mod (pe_op op_mul (pe_op op_add (pe_op op_add (pe_op op_mod (pv 0) pe_int) (pe_op op_mul pe_int (pv 1))) pe_int) pe_int) pe_int))
      (pss_cons (ps_set (i := 2) scStir.nd rfl (.inl rfl) (pe_op op_mod (pe_op op_mul (pv 2) (pv 2)) pe_int))
      (pss_one (ps_ret (pe_op op_mod (pe_op op_mul (pv 2) pe_int) pe_int)))), ?_⟩
    refine q_asg (ev_mod (ev_mul (ev_add (ev_add (ev_mod (ev_var rfl) ev_c (by decide)) (ev_mul ev_c (ev_var rfl) (.inl ⟨by decide, by decide⟩))) ev_c) ev_c (.inr ⟨by decide, by decide⟩)) ev_c (by decide)) fun H1 e1 => ?_
    refine q_asg (ev_mod (ev_mul (ev_var rfl) (ev_var rfl) (.inl ?_)) ev_c (by decide)) fun H2 e2 => ?_
    · omega
    refine s_ret (ev_mod (ev_mul (ev_var rfl) ev_c (.inr ⟨by decide, by decide⟩)) ev_c (by decide)) fun H3 e3 => ?_
    exact q _ _ ((e1.trans e2).trans e3)

/-! ### _law_cell -/
def spCell (K : PySem.W.Frag) : Sp := fun vs H Q _ => ∃ (a : Addr) (ns : List Int) (k : Int), vs = [.ref a, .int k] ∧ SqL K H a (ns.map V.int) ∧ 0 ≤ k ∧ k ≤ 1000 ∧ ∀ n H', Ex H H' → Q (.int n) H'
theorem ok_cell {f fS : Addr} {fd fdS : FuncData} {k : Nat} (F : Fun K "_law_cell" "_law_cell" sCell f fd) (FS : Fun K "_law_stir" "_law_stir" sStir fS fdS) (bS : Binds K fdS ["cell", "k"] []) (gS : mg "_law_stir" = some (.ref fS)) (T : Txt mg) :
    FnOk P w K mg base CX0 (k + 2) f fd ["script", "k"] (spCell K) := by
  have GS : FnOk P w K mg base CX0 (k + 1) fS fdS ["cell", "k"] spStir := ok_stir FS
  refine F.ok scCell (fun vs H Q E h => ?_) (fun cdv A outer s H vs Q E hr h => ?_)
  · obtain ⟨a, ns, k, rfl, _⟩ := h; rfl
  · obtain ⟨a, ns, k, rfl, hS, k0, k1, q⟩ := h
    refine ⟨_, pss_cons (ps_if (pt_cmpR op_lt (pv 1) (pe_callB call_len_seq (by rfl) T.len PySem.boot_len (pa_cons (pv 0) pa_nil)) (nomark _)) (pss_one (ps_ret (pe_ix ix_list (pv 0) (pv 1) (fun _ _ => rfl)))) pss_nil)
      (pss_cons (ps_if (pt_cmpR op_eq (pe_callB call_len_seq (by rfl) T.len PySem.boot_len (pa_cons (pv 0) pa_nil)) pe_int (nomark _)) (pss_one (ps_ret (pe_call GS hr (by rfl) gS FS.kp bS .nil pass0 (pa_cons (pe_op op_mul (pv 1) (pv 1)) (pa_cons (pv 1) pa_nil))))) pss_nil)
      (pss_one (ps_ret (pe_call GS hr (by rfl) gS FS.kp bS .nil pass0 (pa_cons (pe_ix ix_list (pv 0) (pe_op op_mod (pv 1) (pe_callB call_len_seq (by rfl) T.len PySem.boot_len (pa_cons (pv 0) pa_nil))) (fun _ _ => rfl)) (pa_cons (pv 1) pa_nil)))))), ?_⟩
    have lenE : ∀ {H1 : Hp}, Ex H H1 → Ev (tCB (rLenS K) (tCons (tVar 0) tNil)) (start ["script", "k"] [.ref a, .int k]) H1 (.int ((ns.map V.int).length : Int)) := fun {H1} e => ev_lenS (ev_var rfl) (.inl (ex_l e hS))
    have el : (ns.map V.int).length = ns.length := List.length_map ..
    refine q_when (b := decide (k < ((ns.map V.int).length : Int))) (et_test (ev_op (ev_var rfl) (lenE (Ex.refl H)) rv_I0)) (fun hb H1 e1 => ?_) (fun hb H1 e1 => ?_)
    · have hk : k.toNat < ns.length := by have := of_decide_eq_true hb; omega
      refine s_ret (ev_ixL (v := .int ns[k.toNat]) (ev_var rfl) (ev_var rfl) (ex_l e1 hS) (at_nat k0 (by rw [List.getElem?_map, List.getElem?_eq_getElem hk]; rfl))) fun H2 e2 => q _ _ (e1.trans e2)
    refine q_when (b := decide (V.int ((ns.map V.int).length : Int) = V.int 0)) (et_test (ev_op (lenE e1) ev_c (rv_eq rfl))) (fun hb H2 e2 => ?_) (fun hb2 H2 e2 => ?_)
    · refine p_ret (P := fun v _ => ∃ n, v = .int n) (p_call (ea_cons (ev_mul (ev_var rfl) (ev_var rfl) (.inl ⟨by omega, by omega⟩)) (ea_cons (ev_var rfl) ea_nil)) fun H3 e3 Q' q' => ⟨_, k, rfl, fun n H4 e4 => q' _ _ e4 ⟨n, rfl⟩⟩) fun v H3 e3 hv => ?_
      obtain ⟨n, rfl⟩ := hv
      exact q n _ ((e1.trans e2).trans e3)
    · have h0 : ns.length ≠ 0 := fun z => by
        have := of_decide_eq_false hb2
        rw [el, z] at this
        exact this rfl
      have hm : 0 ≤ k % ((ns.map V.int).length : Int) ∧ k % ((ns.map V.int).length : Int) < ns.length := by
        rw [el]; exact ⟨Int.emod_nonneg _ (by omega), Int.emod_lt_of_pos _ (by omega)⟩
      have hi : (k % ((ns.map V.int).length : Int)).toNat < ns.length := by omega
      refine p_ret (P := fun v _ => ∃ n, v = .int n) (p_call (ea_cons (ev_ixL (v := .int ns[(k % ((ns.map V.int).length : Int)).toNat]) (ev_var rfl) (ev_mod (ev_var rfl) (lenE (e1.trans e2)) (by rw [el]; omega)) (ex_l (e1.trans e2) hS) (at_nat hm.1 (by rw [List.getElem?_map, List.getElem?_eq_getElem hi]; rfl))) (ea_cons (ev_var rfl) ea_nil))
        fun H3 e3 Q' q' => ⟨_, k, rfl, fun n H4 e4 => q' _ _ e4 ⟨n, rfl⟩⟩) fun v H3 e3 hv => ?_
      obtain ⟨n, rfl⟩ := hv
      exact q n _ ((e1.trans e2).trans e3)

/-! ### _law_lines -/
def spLines (K : PySem.W.Frag) : Sp := fun vs H Q _ => ∃ (a : Addr) (ns : List Int) (f m : Int), vs = [.ref a, .int f, .int 12, .int m] ∧ SqL K H a (ns.map V.int) ∧ 0 ≤ f ∧ f ≤ 100 ∧ 0 < m ∧ ∀ (p : Addr) (xs : List Int) H', Ex H H' → H' p = some (.lst (xs.map V.int)) → Lns xs → Q (.ref p) H'
theorem ok_lines {f fC fS : Addr} {fd fdC fdS : FuncData} {k : Nat} (F : Fun K "_law_lines" "_law_lines" sLines f fd) (FC : Fun K "_law_cell" "_law_cell" sCell fC fdC) (bC : Binds K fdC ["script", "k"] []) (gC : mg "_law_cell" = some (.ref fC))
    (FS : Fun K "_law_stir" "_law_stir" sStir fS fdS) (bS : Binds K fdS ["cell", "k"] []) (gS : mg "_law_stir" = some (.ref fS)) (T : Txt mg) : FnOk P w K mg base CX0 (k + 3) f fd ["script", "first", "many", "most"] (spLines K) := by
  have GC : FnOk P w K mg base CX0 (k + 2) fC fdC ["script", "k"] (spCell K) := ok_cell FC FS bS gS T
  refine F.ok scLines (fun vs H Q E h => ?_) (fun cdv A outer s H vs Q E hr h => ?_)
  · obtain ⟨a, ns, f, m, rfl, _⟩ := h; rfl
  · obtain ⟨a, ns, f, m, rfl, hS, f0, f1, m0, q⟩ := h
    refine ⟨_, pss_cons (ps_set (i := 4) scLines.nd rfl (.inl rfl) (pe_lst (pa_cons pe_int pa_nil)))
      (pss_cons (ps_for PassesOwn.never rfl (pi_range1 rfl T.range (pa_cons (pv 2) pa_nil)) (pg_name (i := 5) scLines.nd rfl (.inl rfl))
        (pss_one (ps_expr (pe_bm PySem.F.plainAttrs_list PySem.F.slot_list_append PySem.F.type_list_append mt_append (pv 4)
          (pa_cons (pe_op op_add (pe_op op_add (pe_ix ix_list (pv 4) (pe_un un_neg pe_int) (fun _ _ => rfl)) pe_int)
            (pe_op op_mod (pe_op op_fdiv (pe_call GC hr (by rfl) gC FC.kp bC .nil pass0 (pa_cons (pv 0) (pa_cons (pe_op op_add (pv 1) (pv 5)) pa_nil))) pe_int) (pv 3))) pa_nil)))))
      (pss_one (ps_ret (pv 4)))), ?_⟩
    refine q_asgL (el_lst (vs := [.int 0]) (ea_cons ev_c ea_nil) (by decide)) fun p H1 np e1 hp => ?_
    refine q_forR1 (n := 12) (ea_cons (ev_var rfl) ea_nil) ⟨by decide, by decide⟩ (fun i σ H' => ∃ y, σ = [some (.ref a), some (.int f), some (.int 12), some (.int m), some (.ref p), y] ∧ Ex H H' ∧ ∃ xs : List Int, H' p = some (.lst (xs.map V.int)) ∧ xs.length = i + 1 ∧ xs[0]? = some 0 ∧ xs.Pairwise (· < ·))
      (fun H2 e2 => ⟨none, rfl, e1.trans e2, [0], e2 _ _ hp, rfl, rfl, List.pairwise_singleton _ _⟩) (fun i σ' H' hi hv => ?_) (fun σ' H' hv => ?_)
    · obtain ⟨y, rfl, eH, xs, hx, hl, h0, hw⟩ := hv
      obtain ⟨A', z, ez⟩ : ∃ A' z, xs = A' ++ [z] := by
        rcases List.eq_nil_or_concat xs with e | ⟨A', z, e⟩
        · subst e; simp at hl
        · exact ⟨A', z, by rw [e, List.concat_eq_append]⟩
      have hlast : atI (xs.map V.int) (-1) = some (.int z) := by
        rw [ez, List.map_append]; exact atI_last _ _
      refine p_app (P := fun v _ => ∃ n, v = .int n ∧ z < n) hx (ev_var rfl) ?_ (by rw [List.length_map, hl]; omega) (fun v H2 e2 hv => ?_)
      · refine evi_op0 (C1 := fun n => n = z + 1) (C2 := fun n => 0 ≤ n) (evi_of (ev_add (ev_ixL (ev_var rfl) (ev_un ev_c ru_neg) (sq_of hx) hlast) ev_c) rfl) ?_ (fun i j h1 h2 => by omega)
        refine evi_op (C1 := fun _ => True) (C2 := fun n => n = m) ?_ (evi_of (ev_var rfl) rfl) (fun i j _ h2 => ?_)
        · refine evi_op (C1 := fun _ => True) (C2 := fun n => n = 7) ?_ (evi_of ev_c rfl) (fun i j _ h2 => ⟨?_, trivial⟩)
          · refine p_call (ea_cons (ev_var rfl) (ea_cons (ev_add (ev_var rfl) (ev_var rfl)) ea_nil)) fun H3 e3 Q' q' => ⟨a, ns, _, rfl, ex_l (eH.trans e3) hS, by omega, by omega, fun n H4 e4 => q' _ _ e4 ⟨n, rfl, trivial⟩⟩
          · subst h2; exact ⟨by decide, by decide⟩
        · subst h2; exact ⟨m0, Int.emod_nonneg _ (by omega)⟩
      · obtain ⟨n, rfl, hn⟩ := hv
        refine ⟨_, rfl, Ex.mut (eH.trans e2) np, xs ++ [n], ?_, by simp [hl], ?_, ?_⟩
        · rw [upd_same, List.map_append]; rfl
        · rw [List.getElem?_append_left (by omega)]; exact h0
        · refine List.pairwise_append.mpr ⟨hw, List.pairwise_singleton _ _, fun x hx' y hy => ?_⟩
          rw [List.mem_singleton] at hy; subst hy
          rw [ez] at hx' hw
          rcases List.mem_append.mp hx' with h | h
          · have := (List.pairwise_append.mp hw).2.2 x h z (List.mem_singleton.mpr rfl); omega
          · rw [List.mem_singleton] at h; omega
    · obtain ⟨y, rfl, eH, xs, hx, hl, h0, hw⟩ := hv
      exact s_ret (ev_var rfl) fun H2 e2 => q p xs _ (eH.trans e2) (e2 _ _ hx) ⟨hl, h0, hw⟩

/-! ### _law_wheel -/
def spWheel : Sp := fun vs H Q _ => ∃ (v : V) (c : Bx) (n : Int), vs = [v, .int n] ∧ I4 H v c ∧ 2 < c.r - c.l ∧ 2 < c.b - c.t ∧ ∀ (p : Addr) (new : List Bx) H', Ex H H' → LsI I4 H' p new → Tiles c new → new.length = 5 → Q (.ref p) H'
theorem mod_in {a m lo : Int} (h : 0 < m) : lo < lo + 1 + a % m ∧ lo + 1 + a % m < lo + 1 + m := by
  have h1 := Int.emod_nonneg a (show m ≠ 0 by omega)
  have h2 := Int.emod_lt_of_pos a h
  omega
theorem ok_wheel {f : Addr} {fd : FuncData} {k : Nat} (F : Fun K "_law_wheel" "_law_wheel" sWheel f fd) : FnOk P w K mg base CX0 (k + 1) f fd ["box", "rest"] spWheel := by
  refine F.ok scWheel (fun vs H Q E h => ?_) (fun cdv A outer s H vs Q E hr h => ?_)
  · obtain ⟨v, c, n, rfl, _⟩ := h; rfl
  · obtain ⟨v, c, n, rfl, hb, hw, hh, q⟩ := h
    refine ⟨_, (pss_cons (ps_asg (pv 0) (pg_tup rfl (pgs_cons (pg_name (i := 2) scWheel.nd rfl (.inl rfl)) (pgs_cons (pg_name (i := 3) scWheel.nd rfl (.inl rfl)) (pgs_cons (pg_name (i := 4) scWheel.nd rfl (.inl rfl)) (pgs_cons (pg_name (i := 5) scWheel.nd rfl (.inl rfl)) pgs_nil))))))
 (pss_cons (ps_set (i := 6) scWheel.nd rfl (.inl rfl) (pe_op op_add (pe_op op_add (pv 2) pe_int) (pe_op op_mod (pe_op op_fdiv (pv 1) pe_int) (pe_op op_sub (pe_op op_sub (pv 4) (pv 2)) pe_int))))
 (pss_cons (ps_set (i := 7) scWheel.nd rfl (.inl rfl) (pe_op op_add (pe_op op_add (pv 3) pe_int) (pe_op op_mod (pe_op op_fdiv (pv 1) pe_int) (pe_op op_sub (pe_op op_sub (pv 5) (pv 3)) pe_int))))
 (pss_cons (ps_set (i := 8) scWheel.nd rfl (.inl rfl) (pe_op op_add (pe_op op_add (pv 6) pe_int) (pe_op op_mod (pe_op op_fdiv (pv 1) pe_int) (pe_op op_sub (pe_op op_sub (pv 4) (pv 6)) pe_int))))
 (pss_cons (ps_set (i := 9) scWheel.nd rfl (.inl rfl) (pe_op op_add (pe_op op_add (pv 7) pe_int) (pe_op op_mod (pe_op op_fdiv (pv 1) pe_int) (pe_op op_sub (pe_op op_sub (pv 5) (pv 7)) pe_int))))
 (pss_cons (ps_if (pt_cmpR op_eq (pe_op op_mod (pv 1) pe_int) pe_int (nomark _)) (pss_one (ps_ret (pe_lst (pa_cons (pe_tup (pa_cons (pv 2) (pa_cons (pv 3) (pa_cons (pv 8) (pa_cons (pv 7) pa_nil))))) (pa_cons (pe_tup (pa_cons (pv 8) (pa_cons (pv 3) (pa_cons (pv 4) (pa_cons (pv 9) pa_nil))))) (pa_cons (pe_tup (pa_cons (pv 6) (pa_cons (pv 9) (pa_cons (pv 4) (pa_cons (pv 5) pa_nil))))) (pa_cons (pe_tup (pa_cons (pv 2) (pa_cons (pv 7) (pa_cons (pv 6) (pa_cons (pv 5) pa_nil))))) (pa_cons (pe_tup (pa_cons (pv 6) (pa_cons (pv 7) (pa_cons (pv 8) (pa_cons (pv 9) pa_nil))))) pa_nil)))))))) pss_nil)
 (pss_one (ps_ret (pe_lst (pa_cons (pe_tup (pa_cons (pv 6) (pa_cons (pv 3) (pa_cons (pv 4) (pa_cons (pv 7) pa_nil))))) (pa_cons (pe_tup (pa_cons (pv 8) (pa_cons (pv 7) (pa_cons (pv 4) (pa_cons (pv 5) pa_nil))))) (pa_cons (pe_tup (pa_cons (pv 2) (pa_cons (pv 9) (pa_cons (pv 8) (pa_cons (pv 5) pa_nil))))) (pa_cons (pe_tup (pa_cons (pv 2) (pa_cons (pv 3) (pa_cons (pv 6) (pa_cons (pv 9) pa_nil))))) (pa_cons (pe_tup (pa_cons (pv 6) (pa_cons (pv 7) (pa_cons (pv 8) (pa_cons (pv 9) pa_nil))))) pa_nil)))))))))))))), ?_⟩
    refine p_unp (P := fun u _ => u = v) (ev_p (ev_var rfl)) fun u H0 e0 eu => ?_
    subst eu
    refine g4 (hb.mono e0) ?_
    refine p_asg (P := fun v _ => ∃ x, v = .int x ∧ (c.l < x ∧ x < c.r - 1)) (evi_of (ev_add (ev_add (ev_var rfl) ev_c) (ev_mod (ev_div (ev_var rfl) ev_c ⟨by decide, by decide⟩) (ev_sub (ev_sub (ev_var rfl) (ev_var rfl)) ev_c) (by omega))) (by have := mod_in (a := n / 2) (lo := c.l) (show 0 < c.r - c.l - 2 by omega); omega)) fun v1 H1 e1 ⟨x, ex, x0, x1⟩ => ?_
    subst ex
    refine p_asg (P := fun v _ => ∃ y, v = .int y ∧ (c.t < y ∧ y < c.b - 1)) (evi_of (ev_add (ev_add (ev_var rfl) ev_c) (ev_mod (ev_div (ev_var rfl) ev_c ⟨by decide, by decide⟩) (ev_sub (ev_sub (ev_var rfl) (ev_var rfl)) ev_c) (by omega))) (by have := mod_in (a := n / 24) (lo := c.t) (show 0 < c.b - c.t - 2 by omega); omega)) fun v2 H2 e2 ⟨y, ey, y0, y1⟩ => ?_
    subst ey
    refine p_asg (P := fun v _ => ∃ u, v = .int u ∧ (x < u ∧ u < c.r)) (evi_of (ev_add (ev_add (ev_var rfl) ev_c) (ev_mod (ev_div (ev_var rfl) ev_c ⟨by decide, by decide⟩) (ev_sub (ev_sub (ev_var rfl) (ev_var rfl)) ev_c) (by omega))) (by have := mod_in (a := n / 288) (lo := x) (show 0 < c.r - x - 1 by omega); omega)) fun v3 H3 e3 ⟨u', eu, u0, u1⟩ => ?_
    subst eu
    refine p_asg (P := fun v _ => ∃ z, v = .int z ∧ (y < z ∧ z < c.b)) (evi_of (ev_add (ev_add (ev_var rfl) ev_c) (ev_mod (ev_div (ev_var rfl) ev_c ⟨by decide, by decide⟩) (ev_sub (ev_sub (ev_var rfl) (ev_var rfl)) ev_c) (by omega))) (by have := mod_in (a := n / 3456) (lo := y) (show 0 < c.b - y - 1 by omega); omega)) fun v4 H4 e4 ⟨z, ez, z0, z1⟩ => ?_
    subst ez
    have box : ∀ {σ : L2.St} {H' : Hp} {i j l m : Nat} {a b d e : Int}, σ[i]? = some (some (.int a)) → σ[j]? = some (some (.int b)) → σ[l]? = some (some (.int d)) → σ[m]? = some (some (.int e)) → EvP (tTup (tCons (tVar i) (tCons (tVar j) (tCons (tVar l) (tCons (tVar m) tNil))))) σ H' fun v H' => I4 H' v ⟨a, b, d, e⟩ :=
      fun h1 h2 h3 h4 => evp_i4 (ea_cons (ev_var h1) (ea_cons (ev_var h2) (ea_cons (ev_var h3) (ea_cons (ev_var h4) ea_nil))))
    refine q_when (et_test (ev_op (ev_mod (ev_var rfl) ev_c (by decide)) ev_c (rv_eq rfl))) (fun hb H5 e5 => ?_) (fun hb H5 e5 => ?_)
    · refine p_ret (evp_lst (xs := wheel0 c x y u' z) mI4 (eas_cons mI4 (box rfl rfl rfl rfl) (eas_cons mI4 (box rfl rfl rfl rfl) (eas_cons mI4 (box rfl rfl rfl rfl) (eas_cons mI4 (box rfl rfl rfl rfl) (eas_cons mI4 (box rfl rfl rfl rfl) eas_nil))))) (by show (5 : Nat) ≤ 100000; decide)) fun v5 H6 e6 ⟨p, ep, _, hp⟩ => ?_
      subst ep
      exact q p _ _ ((((((e0.trans e1).trans e2).trans e3).trans e4).trans e5).trans e6) hp (tiles_w0 (by omega) (by omega) (by omega) (by omega) (by omega) (by omega)) rfl
    · refine p_ret (evp_lst (xs := wheel1 c x y u' z) mI4 (eas_cons mI4 (box rfl rfl rfl rfl) (eas_cons mI4 (box rfl rfl rfl rfl) (eas_cons mI4 (box rfl rfl rfl rfl) (eas_cons mI4 (box rfl rfl rfl rfl) (eas_cons mI4 (box rfl rfl rfl rfl) eas_nil))))) (by show (5 : Nat) ≤ 100000; decide)) fun v5 H6 e6 ⟨p, ep, _, hp⟩ => ?_
      subst ep
      exact q p _ _ ((((((e0.trans e1).trans e2).trans e3).trans e4).trans e5).trans e6) hp (tiles_w1 (by omega) (by omega) (by omega) (by omega) (by omega) (by omega)) rfl

/-! ### _law_filled -/
def spFilled : Sp := fun vs H Q _ => ∃ (a : Addr) (ps : List Sp2) (f l : Int), vs = [.ref a, .int f, .int l] ∧ LsI I2 H a ps ∧ Part1 f l ps ∧ ∀ H', Ex H H' → Q (.bl true) H'
theorem ok_filled {f : Addr} {fd : FuncData} {k : Nat} (F : Fun K "_law_filled" "_law_filled" sFilled f fd) (T : Txt mg) : FnOk P w K mg base CX0 (k + 1) f fd ["spans", "first", "last"] spFilled := by
  refine F.ok scFilled (fun vs H Q E h => ?_) (fun cdv A outer s H vs Q E hr h => ?_)
  · obtain ⟨a, ps, f, l, rfl, _⟩ := h; rfl
  · obtain ⟨a, ps, f, l, rfl, ha, hp, q⟩ := h
    refine ⟨_, pss_cons (ps_set (i := 3) scFilled.nd rfl (.inl rfl) (pv 1))
      (pss_cons (ps_for PassesOwn.never rfl (pi_list (pe_callB cr_sortedPO (by rfl) T.sorted (by decide +kernel) (pa_cons (pv 0) pa_nil))) (pg_tup rfl (pgs_cons (pg_name (i := 4) scFilled.nd rfl (.inl rfl)) (pgs_cons (pg_name (i := 5) scFilled.nd rfl (.inl rfl)) pgs_nil)))
        (pss_cons (ps_if (pt_cmpR op_ne (pv 4) (pv 3) (nomark _)) (pss_one (ps_ret pe_bl)) pss_nil) (pss_one (ps_set (i := 3) scFilled.nd rfl (.inl rfl) (pv 5)))))
      (pss_one (ps_ret (pe_cmpR op_eq (pv 3) (pv 2) (nomark _))))), ?_⟩
    refine q_asg (ev_var rfl) fun H1 e1 => ?_
    have ch : chain f (sortP ps) l := chain_of (sortP_fst ps) (hp.perm (sortP_perm ps))
    refine q_forV (C := fun p vs H' => Paired (I2 H') vs (sortP ps)) (fun H2 e2 Q' q' => evp_sortP (ev_var rfl) (ha.mono mI2 e1) H2 e2 Q' fun v H3 e3 ⟨p, ep, _, vs, hv, hs⟩ => q' v H3 e3 ⟨p, vs, ep, sq_of hv, hs⟩) fun p vs H2 e2 hv hs => ?_
    refine ⟨fun i σ H' => ∃ at_ y4 y5, σ = [some (.ref a), some (.int f), some (.int l), some (.int at_), y4, y5] ∧ Ex H2 H' ∧ chain at_ ((sortP ps).drop i) l, ⟨f, none, none, rfl, Ex.refl _, ch⟩, fun i σ' H' ⟨_, _, _, _, e, _⟩ => ex_l e hv, fun i x σ' H' hx ⟨at_, y4, y5, eσ, e, hc⟩ => ?_, fun σ' H' ⟨at_, y4, y5, eσ, e, hc⟩ => ?_⟩
    · subst eσ
      obtain ⟨u, hu, hxu⟩ := pd_at hs hx
      have hi : i < (sortP ps).length := (List.getElem?_eq_some_iff.mp hu).1
      have ed : (sortP ps).drop i = u :: (sortP ps).drop (i + 1) := by
        rw [List.drop_eq_getElem_cons hi]
        congr 1
        rw [List.getElem?_eq_getElem hi] at hu
        exact Option.some.inj hu
      rw [ed] at hc
      obtain ⟨c1, c2⟩ := hc
      refine g2 (hxu.mono e) ?_
      refine q_when (et_test (ev_op (ev_var rfl) (ev_var rfl) (rv_ne rfl))) (fun hb H3 e3 => ?_) (fun hb H3 e3 => ?_)
      · rw [c1] at hb
        simp at hb
      · exact s_asg (ev_var rfl) fun H4 e4 => ⟨u.2, _, _, rfl, (e.trans e3).trans e4, c2⟩
    · subst eσ
      rw [pd_len hs, List.drop_length] at hc
      have hc' : at_ = l := hc
      subst hc'
      refine s_ret (ev_op (ev_var rfl) (ev_var rfl) (rv_eq rfl)) fun H3 e3 => ?_
      rw [decide_eq_true (rfl : V.int at_ = V.int at_)]
      exact q _ (((e1.trans e2).trans e).trans e3)
end
end K14

/-! Walks: joined_spans, ends_joined, uprights, levels. -/
namespace K14
open PySem PySem.Spec PyProof.Rows L2 Evl

/-! ### all but one list stands -/
def ExB (o : Addr) (H H' : Hp) : Prop := ∀ b x, b ≠ o → H b = some x → H' b = some x
section
variable {o : Addr} {H H1 H' : Hp}
theorem ExB.refl (o : Addr) (H : Hp) : ExB o H H := fun _ _ _ h => h
theorem ExB.of (e : Ex H H') : ExB o H H' := fun b x _ h => e b x h
theorem ExB.ex (a : ExB o H H1) (e : Ex H1 H') : ExB o H H' := fun b x h1 h2 => e b x (a b x h1 h2)
theorem ExB.upd {x : HO} (a : ExB o H H') : ExB o H (upd H' o x) := fun b y h1 h2 => by rw [upd_ne h1]; exact a b y h1 h2
theorem ExB.back (e : Ex H H1) (n : H o = none) (a : ExB o H1 H') : Ex H H' := fun b x h => a b x (ne_of_none h n) (e b x h)
def MonoB {α : Type} (R : Hp → V → α → Prop) : Prop := ∀ (o : Addr) (H H' : Hp) (v : V) (x : α) (ys : List V), H o = some (.lst ys) → ExB o H H' → R H v x → R H' v x
theorem bI2 : MonoB I2 := fun _ _ _ _ _ _ h e ⟨a, h1, h2⟩ => ⟨a, h1, e _ _ (ne_of h2 h (by intro z; cases z)) h2⟩
theorem bI3 : MonoB I3 := fun _ _ _ _ _ _ h e ⟨a, h1, h2⟩ => ⟨a, h1, e _ _ (ne_of h2 h (by intro z; cases z)) h2⟩
theorem bI4 : MonoB I4 := fun _ _ _ _ _ _ h e ⟨a, h1, h2⟩ => ⟨a, h1, e _ _ (ne_of h2 h (by intro z; cases z)) h2⟩
theorem MonoB.pd {α : Type} {R : Hp → V → α → Prop} (m : MonoB R) {ys vs : List V} {xs : List α} (h : H o = some (.lst ys)) (e : ExB o H H') (p : Paired (R H) vs xs) : Paired (R H') vs xs := pd_mono (fun v x => m o H H' v x ys h e) p
end

/-! ### pairs as data -/
def dP (p : Sp2) : PyData := .tuple [.int p.1, .int p.2]
theorem dp_i2 {K : PySem.W.Frag} {H : Hp} {v : V} {p : Sp2} (h : I2 H v p) : Dp K H v (dP p) := by
  obtain ⟨a, rfl, h⟩ := h
  exact .tup (st_of h) (.cons (.int _) (.cons (.int _) .nil))
theorem dp_all {K : PySem.W.Frag} {H : Hp} : ∀ {vs : List V} {ps : List Sp2}, Paired (I2 H) vs ps → DpAll K H vs (ps.map dP)
  | _, _, .nil => .nil
  | _, _, .cons r t => .cons (dp_i2 r) (dp_all t)
theorem can_ps : ∀ ps : List Sp2, PyData.canLayAll0 (ps.map dP) = true
  | [] => by rw [List.map_nil]; simp [PyData.canLayAll0]
  | p :: ps => by
    have := can_ps ps
    simp [PyData.canLayAll0, PyData.canLay0, dP, this]
theorem dep_ps : ∀ ps : List Sp2, PyData.depthAll (ps.map dP) ≤ 1
  | [] => by rw [List.map_nil]; simp [PyData.depthAll]
  | p :: ps => by
    have := dep_ps ps
    simp [PyData.depthAll, PyData.depth, dP, this]
theorem shaped_ps (ps : List Sp2) : SeqAt.shaped (.list (ps.map dP)) = true := by
  have h1 := can_ps ps
  have h2 := dep_ps ps
  have h3 : (PyData.list (ps.map dP)).canLay0 = true := by rw [PyData.canLay0]; exact h1
  have h4 : (PyData.list (ps.map dP)).depth ≤ 64 := by rw [PyData.depth]; omega
  unfold SeqAt.shaped
  rw [h3, decide_eq_true h4]; rfl
theorem shaped_p (p : Sp2) : SeqAt.shaped (dP p) = true := by
  unfold SeqAt.shaped dP
  simp [PyData.canLay0, PyData.canLayAll0, PyData.depth, PyData.depthAll]
theorem eqv_dP (p q : Sp2) : PyData.eqv (dP q) (dP p) = decide (q = p) := by
  obtain ⟨a, b⟩ := p
  obtain ⟨c, d⟩ := q
  unfold dP
  rw [Bool.eq_iff_iff]
  simp [PyData.eqv, PyData.eqvAll]
theorem eqv_nil (ds : List PyData) : PyData.eqv (.list ds) (.list []) = ds.isEmpty := by
  cases ds <;> simp [PyData.eqv, PyData.eqvAll]
section
variable {K : PySem.W.Frag} {σ : L2.St} {H : Hp} {ta tb : TE} {a : Addr} {ps : List Sp2}
/-- xs != [] -/
theorem ev_neNil (ha : Ev ta σ H (.ref a)) (h : LsI I2 H a ps) : Ev (tOp (rNeD K) ta (tLst tNil)) σ H (.bl (!ps.isEmpty)) :=
  ev_opL ha (el_lst ea_nil (by decide)) fun p H1 hp e H2 e2 Q q => by
    obtain ⟨vs, hv, hs⟩ := h.mono mI2 (e.trans e2)
    refine ⟨.list (ps.map dP), .list [], .lst (sq_of hv) (dp_all hs), .lst (sq_of (e2 _ _ hp)) .nil, shaped_ps ps, shaped_ps [], ?_⟩
    rw [eqv_nil]
    have e3 : (ps.map dP).isEmpty = ps.isEmpty := by cases ps <;> rfl
    rw [e3]
    exact q _ (Ex.refl _)
end

/-! ### stores by place; comprehensions -/
section
variable {K : PySem.W.Frag} {σ : L2.St} {H : Hp} {te ta tb tl : TE} {P : V → Hp → Prop} {D : Ends} {α β : Type} {R : Hp → V → α → Prop} {R2 : Hp → V → β → Prop} {g : TG}
theorem p_setI {l : Addr} {xs : List V} {i : Int} {j : Nat} (hl : H l = some (.lst xs)) (h : EvP te σ H P) (ho : Ev ta σ H (.ref l)) (hi : Ev tb σ H (.int i)) (hj : ixN xs.length i = some j)
    (k : ∀ v H1, Ex H H1 → P v H1 → D.nx σ (upd H1 l (.lst (xs.set j v)))) (mP : ∀ v H1 H2, Ex H1 H2 → P v H1 → P v H2) : tAsg te (gSub ta tb rSetL) D σ H := h H (Ex.refl H) _ fun v H1 e1 hp => ho H1 e1 _ fun H2 e2 => hi H2 (e1.trans e2) _ fun H3 e3 =>
  ⟨l, xs, i, j, rfl, rfl, ((e1.trans e2).trans e3) l _ hl, hj, k v H3 ((e1.trans e2).trans e3) (mP _ _ _ (e2.trans e3) hp)⟩
/-- [e for x in xs] over a list, each item of xs giving one -/
theorem lc_step {Dl : Addr} {H2 H' : Hp} {xs : List α} {f : α → β} {i : Nat} {x : α} {ds : List V} (m2 : Mono R2) (b2 : MonoB R2) (hD : H2 Dl = none) (hz : xs.length ≤ 50000) (hx : xs[i]? = some x) (eH : Ex H2 H') (hds : H' Dl = some (.lst ds)) (hpd : Paired (R2 H') ds ((xs.take i).map f))
    (u : V) (H4 : Hp) (e4 : Ex H' H4) (hu : R2 H4 u (f x)) : ∃ acc, H4 Dl = some (.lst acc) ∧ acc.length < sizeLine ∧ Ex H2 (upd H4 Dl (.lst (acc ++ [u]))) ∧ ∃ ds', upd H4 Dl (.lst (acc ++ [u])) Dl = some (.lst ds') ∧ Paired (R2 (upd H4 Dl (.lst (acc ++ [u])))) ds' ((xs.take (i + 1)).map f) := by
  have h4 := e4 _ _ hds
  refine ⟨ds, h4, ?_, Ex.mut (eH.trans e4) hD, ds ++ [u], upd_same, ?_⟩
  · have l1 := pd_len hpd
    have l2 := (List.getElem?_eq_some_iff.mp hx).1
    rw [List.length_map, List.length_take] at l1
    exact sz_lt (by omega)
  · rw [List.take_add_one, hx, List.map_append]
    exact b2.pd h4 (ExB.upd (ExB.refl _ _)) (pd_app (m2.pd e4 hpd) (pd_one hu))
theorem evp_lcL {ws : List Nat} {xs : List α} {f : α → β} (mR : Mono R) (m2 : Mono R2) (b2 : MonoB R2) (h : EvP tl σ H fun v H' => ∃ p vs, v = .ref p ∧ SqL K H' p vs ∧ Paired (R H') vs xs) (hz : xs.length ≤ 50000)
    (hs : ∀ (x : α) (v : V) H1, Ex H H1 → x ∈ xs → R H1 v x → ∀ Q : VK, (∀ u H', Ex H1 H' → R2 H' u (f x) → Q u H') → g v (wipe σ ws) H1 fun σ2 H2 => wipe σ2 ws = wipe σ ws ∧ te σ2 H2 Q) :
    EvP (tLc (iList K tl) g tYes te ws) σ H (IsL R2 H (xs.map f)) := fun H1 e Q q => h H1 e _ fun u H2 e2 ⟨p, vs, eu, hq, hp⟩ => by
  refine ⟨p, eu, ⟨vs, hq⟩, fun Dl hD => lc_list (xs := vs) (fun i H' => Ex H2 H' ∧ ∃ ds, H' Dl = some (.lst ds) ∧ Paired (R2 H') ds ((xs.take i).map f)) ⟨Ex.new hD, [], upd_same, .nil⟩ (fun i H' _ p' => ex_l p'.1 hq) (fun i v H' hv ⟨eH, ds, hds, hpd⟩ => ?_) (fun H' ⟨eH, ds, hds, hpd⟩ => ?_)⟩
  · obtain ⟨x, hx, hxv⟩ := pd_at hp hv
    exact hs x v H' ((e.trans e2).trans eH) (List.mem_of_getElem? hx) (mR _ _ _ _ eH hxv) _ fun u H4 e4 hu => lc_step m2 b2 hD hz hx eH hds hpd u H4 e4 hu
  · rw [pd_len hp, List.take_length] at hpd
    exact q _ _ (e2.trans eH) ⟨Dl, rfl, fresh_back (e.trans e2) hD, ds, hds, hpd⟩
/-- .. over a tuple -/
theorem evp_lcT {ws : List Nat} {xs : List α} {f : α → β} (mR : Mono R) (m2 : Mono R2) (b2 : MonoB R2) (h : EvP tl σ H fun v H' => ∃ p vs, v = .ref p ∧ SqT K H' p vs ∧ Paired (R H') vs xs) (hz : xs.length ≤ 50000)
    (hs : ∀ (x : α) (v : V) H1, Ex H H1 → x ∈ xs → R H1 v x → ∀ Q : VK, (∀ u H', Ex H1 H' → R2 H' u (f x) → Q u H') → g v (wipe σ ws) H1 fun σ2 H2 => wipe σ2 ws = wipe σ ws ∧ te σ2 H2 Q) :
    EvP (tLc (iTup K tl) g tYes te ws) σ H (IsL R2 H (xs.map f)) := fun H1 e Q q => h H1 e _ fun u H2 e2 ⟨p, vs, eu, hq, hp⟩ => by
  refine ⟨p, eu, ⟨vs, hq⟩, fun Dl hD => lc_tup (xs := vs) (fun i H' => Ex H2 H' ∧ ∃ ds, H' Dl = some (.lst ds) ∧ Paired (R2 H') ds ((xs.take i).map f)) ⟨Ex.new hD, [], upd_same, .nil⟩ (fun i H' _ p' => ex_t p'.1 hq) (fun i v H' hv ⟨eH, ds, hds, hpd⟩ => ?_) (fun H' ⟨eH, ds, hds, hpd⟩ => ?_)⟩
  · obtain ⟨x, hx, hxv⟩ := pd_at hp hv
    exact hs x v H' ((e.trans e2).trans eH) (List.mem_of_getElem? hx) (mR _ _ _ _ eH hxv) _ fun u H4 e4 hu => lc_step m2 b2 hD hz hx eH hds hpd u H4 e4 hu
  · rw [pd_len hp, List.take_length] at hpd
    exact q _ _ (e2.trans eH) ⟨Dl, rfl, fresh_back (e.trans e2) hD, ds, hds, hpd⟩
end

section
variable {P : Program} {w : World} {base : Heap} {mg : Str → Option Value} {K : PySem.W.Frag}
/-! ### joined_spans -/
abbrev sJoined : Stmt := topS 4
abbrev NJoined : List Str := ["spans", "found", "first", "last"]
theorem scJoined : FnScope ["spans", "found", "first", "last"] ["spans"] (defScope sJoined) := ⟨rfl, rfl, rfl, by decide +kernel, rfl, by decide +kernel, by decide +kernel⟩
def spJoined : Sp := fun vs H Q _ => ∃ (a : Addr) (ps : List Sp2), vs = [.ref a] ∧ LsI I2 H a ps ∧ ps.length ≤ 1000 ∧ ∀ (p : Addr) H', Ex H H' → H p = none → LsI I2 H' p (joined (sortP ps)) → Q (.ref p) H'
theorem ixN_last {n : Nat} : ixN (n + 1) (-1) = some n := by
  unfold ixN
  rw [if_neg (by decide), if_pos (by omega)]
  congr 1; omega
theorem ok_joined {f : Addr} {fd : FuncData} {k : Nat} (F : Fun K "joined_spans" "joined_spans" sJoined f fd) (T : Txt mg) : FnOk P w K mg base CX0 (k + 1) f fd ["spans"] spJoined := by
  refine F.ok scJoined (fun vs H Q E h => ?_) (fun cdv A outer s H vs Q E hr h => ?_)
  · obtain ⟨a, ps, rfl, _⟩ := h; rfl
  · obtain ⟨a, ps, rfl, ha, hz, q⟩ := h
    refine ⟨_, (pss_cons (ps_set (i := 1) scJoined.nd rfl (.inl rfl) (pe_lst pa_nil))
 (pss_cons (ps_for PassesOwn.never rfl (pi_list (pe_callB cr_sortedPO (by rfl) T.sorted (by decide +kernel) (pa_cons (pv 0) pa_nil))) (pg_tup rfl (pgs_cons (pg_name (i := 2) scJoined.nd rfl (.inl rfl)) (pgs_cons (pg_name (i := 3) scJoined.nd rfl (.inl rfl)) pgs_nil))) (pss_one (ps_if (PW.pt (pw_and (pt_cmpR (op_neD hr.units) (pv 1) (pe_lst pa_nil) (nomark _)) (pw_and1 (pt_cmpR op_eq (pe_ix ix_tup (pe_ix ix_list (pv 1) (pe_un un_neg pe_int) (fun _ _ => rfl)) pe_int (fun _ _ => rfl)) (pv 2) (nomark _))))) (pss_one (ps_asg (pe_tup (pa_cons (pe_ix ix_tup (pe_ix ix_list (pv 1) (pe_un un_neg pe_int) (fun _ _ => rfl)) pe_int (fun _ _ => rfl)) (pa_cons (pv 3) pa_nil))) (pg_sub (pv 1) (pe_un un_neg pe_int) set_list))) (pss_one (ps_expr (pe_bm PySem.F.plainAttrs_list PySem.F.slot_list_append PySem.F.type_list_append mt_append (pv 1) (pa_cons (pe_tup (pa_cons (pv 2) (pa_cons (pv 3) pa_nil))) pa_nil)))))))
 (pss_one (ps_ret (pv 1))))), ?_⟩
    refine q_asgL (el_lst ea_nil (by decide)) fun o H1 no e1 ho => ?_
    refine q_forV (C := fun p vs H' => Paired (I2 H') vs (sortP ps) ∧ ∃ vs', H' p = some (.lst vs') ∧ vs' = vs ∧ H1 p = none) (fun H2 e2 Q' q' => evp_sortP (ev_var rfl) (ha.mono mI2 e1) H2 e2 Q' fun v H3 e3 ⟨p, ep, np, vs, hv, hs⟩ => q' v H3 e3 ⟨p, vs, ep, sq_of hv, hs, vs, hv, rfl, np⟩) fun p vs H2 e2 hv ⟨hs, vs', hv', ev', np⟩ => ?_
    subst ev'
    have hop : p ≠ o := fun z => by rw [z, ho] at np; cases np
    have ho2 := e2 _ _ ho
    have lz : (sortP ps).length ≤ 1000 := by rw [(sortP_perm ps).length_eq]; exact hz
    refine ⟨fun i σ H' => ∃ y2 y3, σ = [some (.ref a), some (.ref o), y2, y3] ∧ ExB o H2 H' ∧ ∃ fv, H' o = some (.lst fv) ∧ Paired (I2 H') fv (((sortP ps).take i).foldl jn []), ⟨none, none, rfl, ExB.refl _ _, [], ho2, .nil⟩,
      fun i σ' H' ⟨_, _, _, e, _⟩ => sq_of (e _ _ hop hv'), fun i x σ' H' hx ⟨y2, y3, eσ, e, fv, hf, hp⟩ => ?_, fun σ' H' ⟨y2, y3, eσ, e, fv, hf, hp⟩ => ?_⟩
    · subst eσ
      obtain ⟨u, hu, hxu⟩ := pd_at hs hx
      have hi : i < (sortP ps).length := (List.getElem?_eq_some_iff.mp hu).1
      refine g2 (bI2 o H2 H' _ _ _ ho2 e hxu) ?_
      have step : ((sortP ps).take (i + 1)).foldl jn [] = jn (((sortP ps).take i).foldl jn []) u := by
        rw [List.take_add_one, hu, List.foldl_append]; rfl
      have la := fold_jn_len ((sortP ps).take i) []
      generalize ((sortP ps).take i).foldl jn [] = acc at hp step la
      have lf : fv.length < 100000 := by
        have h1 := pd_len hp
        rw [List.length_take, List.length_nil] at la
        omega
      have app : ∀ {D : Ends} {H3 : Hp}, Ex H' H3 → (∀ H4, (∃ fv', ExB o H2 H4 ∧ H4 o = some (.lst fv') ∧ Paired (I2 H4) fv' (acc ++ [u])) → D.nx ([some (.ref a), some (.ref o), some (.int u.1), some (.int u.2)]) H4) →
          (tDrop (tBM K "list" rAppend (tVar 1) (tCons (tTup (tCons (tVar 2) (tCons (tVar 3) tNil))) tNil))) D ([some (.ref a), some (.ref o), some (.int u.1), some (.int u.2)]) H3 := fun {D H3} e3 kk => by
        refine p_app (P := fun v H' => I2 H' v u) (e3 _ _ hf) (ev_var rfl) (evp_i2 (ea_cons (ev_var rfl) (ea_cons (ev_var rfl) ea_nil))) lf fun v H4 e4 hv4 => kk _ ⟨fv ++ [v], (e.ex (e3.trans e4)).upd, upd_same, ?_⟩
        exact bI2.pd (e4 _ _ (e3 _ _ hf)) (ExB.upd (ExB.refl _ _)) (pd_app (mI2.pd (e3.trans e4) hp) (pd_one hv4))
      rcases List.eq_nil_or_concat acc with ea | ⟨A', z, ea⟩
      · subst ea
        refine s_if (b := false) (et_and (a := false) (b := true) (et_test (ev_neNil (ev_var rfl) ⟨fv, hf, hp⟩)) (fun z => by cases z)) (fun z => by cases z) fun _ H3 e3 => app e3 fun H4 ⟨fv', k1, k2, k3⟩ => ⟨_, _, rfl, k1, fv', k2, ?_⟩
        rw [step, jn_nil]; exact k3
      · rw [List.concat_eq_append] at ea
        subst ea
        obtain ⟨fA, fz, efv, pA, pz⟩ : ∃ fA fz, fv = fA ++ [fz] ∧ Paired (I2 H') fA A' ∧ I2 H' fz z := pd_split hp
        subst efv
        have hz' := pz
        obtain ⟨tz, etz, htz⟩ := pz
        have last : atI (fA ++ [fz]) (-1) = some fz := atI_last _ _
        have t1 : ∀ {H3 : Hp}, Ex H' H3 → Ev (tOp (rIxT K) (tOp (rIxL K) (tVar 1) (tUn (rU fun i => .int (-i)) (tC (.int 1)))) (tC (.int 1))) ([some (.ref a), some (.ref o), some (.int u.1), some (.int u.2)]) H3 (.int z.2) := fun {H3} e3 =>
          ev_ixT (p := tz) (by have := ev_ixL (K := K) (ta := tVar 1) (tb := tUn (rU fun i => .int (-i)) (tC (.int 1))) (σ := [some (.ref a), some (.ref o), some (.int u.1), some (.int u.2)]) (ev_var rfl) (ev_un ev_c ru_neg) (sq_of (e3 _ _ hf)) last; rw [etz] at this; exact this) ev_c (e3 _ _ htz) at1
        by_cases c : z.2 = u.1
        · refine s_if (b := true) (et_and (a := true) (b := true) (et_is (et_test (ev_neNil (ev_var rfl) ⟨_, hf, hp⟩)) (by cases A' <;> rfl)) (fun _ => et_is (et_test (ev_op (t1 (Ex.refl _)) (ev_var rfl) (rv_eq rfl))) (decide_eq_true (congrArg V.int c)))) (fun _ H3 e3 => ?_) (fun z => by cases z)
          refine p_setI (P := fun v H' => I2 H' v (z.1, u.2)) (e3 _ _ hf) (evp_i2 (ea_cons (ev_ixT (p := tz) (by have := ev_ixL (K := K) (ta := tVar 1) (tb := tUn (rU fun i => .int (-i)) (tC (.int 1))) (σ := [some (.ref a), some (.ref o), some (.int u.1), some (.int u.2)]) (ev_var rfl) (ev_un ev_c ru_neg) (sq_of (e3 _ _ hf)) last; rw [etz] at this; exact this) ev_c (e3 _ _ htz) at0) (ea_cons (ev_var rfl) ea_nil))) (ev_var rfl) (ev_un ev_c ru_neg) (j := fA.length) (by rw [List.length_append]; exact ixN_last)
            (fun v H4 e4 hv4 => ⟨_, _, rfl, (e.ex (e3.trans e4)).upd, fA ++ [v], ?_, ?_⟩) (fun _ _ _ => I2.mono)
          · rw [upd_same]; simp
          · rw [step, jn_yes c]
            refine bI2.pd (e4 _ _ (e3 _ _ hf)) (ExB.upd (ExB.refl _ _)) (pd_app (mI2.pd (e3.trans e4) pA) (pd_one hv4))
        · refine s_if (b := false) (et_and (a := true) (b := false) (et_is (et_test (ev_neNil (ev_var rfl) ⟨_, hf, hp⟩)) (by cases A' <;> rfl)) (fun _ => et_is (et_test (ev_op (t1 (Ex.refl _)) (ev_var rfl) (rv_eq rfl))) (decide_eq_false fun q => c (V.int.inj q)))) (fun z => by cases z) fun _ H3 e3 => app e3 fun H4 ⟨fv', k1, k2, k3⟩ => ⟨_, _, rfl, k1, fv', k2, ?_⟩
          rw [step, jn_no c]; exact k3
    · subst eσ
      rw [pd_len hs, List.take_length] at hp
      exact s_ret (ev_var rfl) fun H3 e3 => q o _ ((ExB.back (e1.trans e2) no e).trans e3) no ⟨fv, e3 _ _ hf, mI2.pd e3 hp⟩

/-! ### ends_joined -/
abbrev sEnds : Stmt := topS 5
abbrev NEnds : List Str := ["ends", "border", "spans", "place", "first", "last", "found"]
theorem scEnds : FnScope ["ends", "border", "spans", "place", "first", "last", "found"] ["ends", "border"] (defScope sEnds) := ⟨rfl, rfl, rfl, by decide +kernel, rfl, by decide +kernel, by decide +kernel⟩
structure DictI (H0 : Hp) (d : Addr) (H' : Hp) (ks : List Int) (sp : Int → List Sp2) (adr : Int → Addr) : Prop where
  dict : H' d = some (.dK (ks.map fun p => (Sum.inl p, V.ref (adr p))))
  new : ∀ p ∈ ks, H0 (adr p) = none
  inj : ∀ p ∈ ks, ∀ q ∈ ks, adr p = adr q → p = q
  lst : ∀ p ∈ ks, LsI I2 H' (adr p) (sp p)
theorem DictI.mono {H0 H' H1 : Hp} {d : Addr} {ks : List Int} {sp : Int → List Sp2} {adr : Int → Addr} (e : Ex H' H1) (h : DictI H0 d H' ks sp adr) : DictI H0 d H1 ks sp adr :=
  ⟨e _ _ h.dict, h.new, h.inj, fun p hp => (h.lst p hp).mono mI2 e⟩
theorem DictI.to {H0 H' : Hp} {d : Addr} {ks : List Int} {sp sp' : Int → List Sp2} {adr : Int → Addr} (h : DictI H0 d H' ks sp adr) (e : ∀ p ∈ ks, sp' p = sp p) : DictI H0 d H' ks sp' adr :=
  ⟨h.dict, h.new, h.inj, fun p hp => by rw [e p hp]; exact h.lst p hp⟩
theorem val_map (f : Int → V) (q : Int) : ∀ ks : List Int, valV (ks.map fun p => ((Sum.inl p : Key), f p)) (Sum.inl q) = if q ∈ ks then some (f q) else none
  | [] => rfl
  | k :: ks => by
    rw [List.map_cons]
    by_cases h : k = q
    · subst h
      rw [valV_pos rfl, if_pos List.mem_cons_self]
    · rw [valV_neg (fun z => h (Sum.inl.inj z)), val_map f q ks]
      have : (q ∈ k :: ks) ↔ q ∈ ks := by
        rw [List.mem_cons]
        exact ⟨fun z => z.elim (fun e => (h e.symm).elim) id, .inr⟩
      by_cases m : q ∈ ks
      · rw [if_pos m, if_pos (this.mpr m)]
      · rw [if_neg m, if_neg (fun z => m (this.mp z))]
theorem put_new {kvs : List (Key × V)} {k : Key} {v : V} (h : valV kvs k = none) : putK kvs k v = kvs ++ [(k, v)] := by
  unfold putK
  rw [valV_any, h]
  rfl
theorem DictI.old {H0 H' : Hp} {d : Addr} {ks : List Int} {sp sp' : Int → List Sp2} {adr : Int → Addr} {p0 : Int} {s : Sp2} {fv : List V} {v : V} (h : DictI H0 d H' ks sp adr) (hp : p0 ∈ ks) (hf : H' (adr p0) = some (.lst fv)) (hv : I2 H' v s)
    (e : ∀ p ∈ ks, sp' p = if p = p0 then sp p ++ [s] else sp p) : DictI H0 d (upd H' (adr p0) (.lst (fv ++ [v]))) ks sp' adr where
  dict := by rw [upd_ne (ne_of h.dict hf (by intro z; cases z))]; exact h.dict
  new := h.new
  inj := h.inj
  lst := fun p hp' => by
    obtain ⟨us, h1, h2⟩ := h.lst p hp'
    rw [e p hp']
    by_cases c : p = p0
    · subst c
      rw [if_pos rfl]
      rw [hf] at h1
      cases h1
      exact ⟨_, upd_same, bI2.pd hf (ExB.upd (ExB.refl _ _)) (pd_app h2 (pd_one hv))⟩
    · rw [if_neg c]
      exact ⟨us, by rw [upd_ne (fun z => c (h.inj p hp' p0 hp z))]; exact h1, bI2.pd hf (ExB.upd (ExB.refl _ _)) h2⟩
theorem DictI.add {H0 H' H5 : Hp} {d b : Addr} {ks : List Int} {sp sp' : Int → List Sp2} {adr : Int → Addr} {p0 : Int} {s : Sp2} {v : V} (h : DictI H0 d H' ks sp adr) (hp : p0 ∉ ks) (nb : H' b = none) (n0 : H0 b = none)
    (e5 : Ex (upd (upd H' b (.lst [])) d (.dK ((ks.map fun p => (Sum.inl p, V.ref (adr p))) ++ [(Sum.inl p0, V.ref b)]))) H5) (hv : I2 H5 v s)
    (e : ∀ p, p ∈ ks → sp' p = sp p) (e0 : sp' p0 = [s]) : DictI H0 d (upd H5 b (.lst ([] ++ [v]))) (ks ++ [p0]) sp' (fun q => if q = p0 then b else adr q) := by
  have hdb : d ≠ b := ne_of_none h.dict nb
  have h5d := e5 d _ upd_same
  have h5b : H5 b = some (.lst []) := e5 b _ (by rw [upd_ne (Ne.symm hdb), upd_same])
  have old : ∀ c x, c ≠ d → H' c = some x → H5 c = some x := fun c x hc hx => e5 c x (by rw [upd_ne hc, upd_ne (ne_of_none hx nb)]; exact hx)
  have hne : ∀ p ∈ ks, p ≠ p0 := fun p hp' z => hp (z ▸ hp')
  refine ⟨?_, fun p hp' => ?_, fun p hp' q hq => ?_, fun p hp' => ?_⟩
  · rw [upd_ne hdb, h5d, List.map_append]
    congr 3
    · exact List.map_congr_left fun p hp' => by rw [if_neg (hne p hp')]
    · show [((Sum.inl p0 : Key), V.ref b)] = [((Sum.inl p0 : Key), V.ref (if p0 = p0 then b else adr p0))]
      rw [if_pos rfl]
  · rcases List.mem_append.mp hp' with z | z
    · rw [if_neg (hne p z)]; exact h.new p z
    · rw [List.mem_singleton.mp z, if_pos rfl]; exact n0
  · have nb' : ∀ p ∈ ks, adr p ≠ b := fun p z => by
      obtain ⟨us, h1, _⟩ := h.lst p z
      exact ne_of_none h1 nb
    rcases List.mem_append.mp hp' with z | z
    · rcases List.mem_append.mp hq with y | y
      · rw [if_neg (hne p z), if_neg (hne q y)]; exact h.inj p z q y
      · rw [if_neg (hne p z), List.mem_singleton.mp y, if_pos rfl]
        exact fun w => (nb' p z w).elim
    · rcases List.mem_append.mp hq with y | y
      · rw [if_neg (hne q y), List.mem_singleton.mp z, if_pos rfl]
        exact fun w => (nb' q y w.symm).elim
      · rw [List.mem_singleton.mp z, List.mem_singleton.mp y]
        exact fun _ => rfl
  · rcases List.mem_append.mp hp' with z | z
    · obtain ⟨us, h1, h2⟩ := h.lst p z
      have hbd : adr p ≠ d := ne_of h1 h.dict (by intro z; cases z)
      rw [if_neg (hne p z), e p z]
      refine ⟨us, by rw [upd_ne (ne_of_none h1 nb)]; exact old _ _ hbd h1, ?_⟩
      refine bI2.pd h5b (ExB.upd (ExB.refl _ _)) (pd_mono (fun v x hvx => ?_) h2)
      obtain ⟨t, rfl, ht⟩ := hvx
      exact ⟨t, rfl, old _ _ (ne_of ht h.dict (by intro z; cases z)) ht⟩
    · rw [List.mem_singleton.mp z, if_pos rfl, e0]
      exact ⟨[v], upd_same, bI2.pd h5b (ExB.upd (ExB.refl _ _)) (pd_one hv)⟩
/-- sorted(d) of a dict with int keys -/
def rSortDI : List V → Hp → VK → Prop := fun xs H Q => ∃ (a : Addr) (kvs : List (Key × V)) (ks : List Int), xs = [.ref a] ∧ Rd H a (.dK kvs) ∧ kvs.map (·.1) = ks.map Sum.inl ∧ ks.length < 64 ∧
    ∀ (ys : List Int) (p : Addr), ys.Perm ks → ys.Pairwise (· ≤ ·) → H p = none → Q (.ref p) (upd H p (.lst (ys.map V.int)))
theorem cr_sortDI {X : Cx} (hc : X.calm = true) : CallR X (.builtin "sorted") rSortDI := call_sortedDI hc
theorem evp_sortD {σ : L2.St} {H : Hp} {ta : TE} {d : Addr} {ks : List Int} {f : Int → V} (ha : Ev ta σ H (.ref d)) (h : H d = some (.dK (ks.map fun p => (Sum.inl p, f p)))) (hz : ks.length < 64) :
    EvP (tCB rSortDI (tCons ta tNil)) σ H fun v H' => ∃ p, v = .ref p ∧ H p = none ∧ H' p = some (.lst ((sortI ks).map V.int)) := fun H1 e Q q => ha H1 e _ fun H2 e2 =>
  ⟨d, _, ks, rfl, .inl ((e.trans e2) _ _ h), by rw [List.map_map]; rfl, hz, fun ys p hp hw hn => by
    rw [sortI_uniq hp hw]
    exact q _ _ (e2.trans (Ex.new hn)) ⟨p, rfl, fresh_back (e.trans e2) hn, upd_same⟩⟩
theorem ev_dget {σ : L2.St} {H : Hp} {td ty : TE} {d : Addr} {kvs : List (Key × V)} {k : Int} {v : V} (hd : Ev td σ H (.ref d)) (hy : Ev ty σ H (.int k)) (h : H d = some (.dK kvs)) (hv : valV kvs (Sum.inl k) = some v) : Ev (tDGet td ty) σ H v := fun H1 e Q q =>
  hd H1 e _ fun H2 e2 => hy H2 (e.trans e2) _ fun H3 e3 => ⟨d, v, rfl, .inl ⟨kvs, Sum.inl k, .inl (((e.trans e2).trans e3) _ _ h), rfl, hv.symm⟩, q _ (e2.trans e3)⟩
def spEnds : Sp := fun vs H Q _ => ∃ (a : Addr) (es : List Wl) (W : Int), vs = [.ref a, .int W] ∧ LsI I3 H a es ∧ es.length ≤ 60 ∧ ∀ (p : Addr) H', Ex H H' → H p = none → LsI I3 H' p (wallsOf es W) → Q (.ref p) H'
theorem ok_ends {f fJoined : Addr} {fd fdJoined : FuncData} {k : Nat} (F : Fun K "ends_joined" "ends_joined" sEnds f fd) (FJoined : Fun K "joined_spans" "joined_spans" sJoined fJoined fdJoined) (bJoined : Binds K fdJoined ["spans"] []) (gJoined : mg "joined_spans" = some (.ref fJoined)) (T : Txt mg) :
    FnOk P w K mg base CX0 (k + 2) f fd ["ends", "border"] spEnds := by
  have GJoined : FnOk P w K mg base CX0 (k + 1) fJoined fdJoined ["spans"] spJoined := ok_joined FJoined T
  refine F.ok scEnds (fun vs H Q E h => ?_) (fun cdv A outer s H vs Q E hr h => ?_)
  · obtain ⟨a, es, W, rfl, _⟩ := h; rfl
  · obtain ⟨a, es, W, rfl, ha, hz, q⟩ := h
    refine ⟨_, (pss_cons (ps_set (i := 2) scEnds.nd rfl (.inl rfl) pe_dnewK)
 (pss_cons (ps_for PassesOwn.never rfl (pi_list (pv 0)) (pg_tup rfl (pgs_cons (pg_name (i := 3) scEnds.nd rfl (.inr rfl)) (pgs_cons (pg_name (i := 4) scEnds.nd rfl (.inl rfl)) (pgs_cons (pg_name (i := 5) scEnds.nd rfl (.inl rfl)) pgs_nil)))) (pss_one (ps_if (pt_cmpR op_ne (pv 3) (pv 1) (nomark _)) (pss_one (ps_expr (pe_bm PySem.F.plainAttrs_list PySem.F.slot_list_append PySem.F.type_list_append mt_append (pe_dsetd (pv 2) (pv 3) (pe_lst pa_nil) ⟨rfl, rfl, rfl, rfl⟩) (pa_cons (pe_tup (pa_cons (pv 4) (pa_cons (pv 5) pa_nil))) pa_nil)))) pss_nil)))
 (pss_cons (ps_set (i := 6) scEnds.nd rfl (.inl rfl) (pe_lst pa_nil))
 (pss_cons (ps_for PassesOwn.never rfl (pi_list (pe_callB (cr_sortDI rfl) (by rfl) T.sorted (by decide +kernel) (pa_cons (pv 2) pa_nil))) (pg_name (i := 3) scEnds.nd rfl (.inr rfl)) (pss_one (ps_expr (pe_bm PySem.F.plainAttrs_list PySem.F.slot_list_extend PySem.F.type_list_extend mt_extend (pv 6) (pa_cons (pe_lc (own := [("first", 4), ("last", 5)]) (g := (gTup K 2 (gCons (gName 4) (gCons (gName 5) gNil)))) (tt := tYes) (te := tTup (tCons (tVar 3) (tCons (tVar 4) (tCons (tVar 5) tNil)))) rfl scEnds.nd (pi_list (pe_call GJoined hr (by rfl) gJoined FJoined.kp bJoined .nil pass0 (pa_cons (pe_dget (hu_of hr) (pv 2) (pv 3) (fun _ _ => rfl)) pa_nil))) (blkOk_by (own := [("first", 4), ("last", 5)]) (N := NEnds) (sc := defScope sEnds) (by decide +kernel)) (fun _ _ _ _ _ => (pg_tup rfl (pgs_cons (pg_name (i := 4) scEnds.nd rfl (.inl rfl) (.inr rfl)) (pgs_cons (pg_name (i := 5) scEnds.nd rfl (.inl rfl) (.inr rfl)) pgs_nil)))) (fun _ _ _ _ _ => pts_nil) (fun _ _ _ _ _ => (pe_tup (pa_cons (pv 3) (pa_cons (pv 4) (pa_cons (pv 5) pa_nil)))))) pa_nil)))))
 (pss_one (ps_ret (pv 6))))))), ?_⟩
    obtain ⟨va, hva, hpa⟩ := ha
    -- spans = {}
    refine (fun d nd => ?_ : ∀ d, H d = none → _)
    have e1 : Ex H (upd H d (.dK [])) := Ex.new nd
    refine q_forV (C := fun p vs H' => p = a ∧ vs = va ∧ Ex (upd H d (.dK [])) H') (fun H2 e2 Q' q' => ev_var (i := 0) rfl H2 e2 Q' fun H3 e3 => q' _ _ e3 ⟨a, va, rfl, sq_of ((e1.trans (e2.trans e3)) _ _ hva), rfl, rfl, e2.trans e3⟩) fun p vs H2 e2 hv ⟨ep, ev, e2'⟩ => ?_
    subst ep; subst ev
    refine ⟨fun i σ H' => ∃ y3 y4 y5 y6, σ = [some (.ref p), some (.int W), some (.ref d), y3, y4, y5, y6] ∧ Ex H H' ∧ ∃ adr, DictI H d H' (places W (es.take i)) (fun p => spansAt p (es.take i)) adr,
      ⟨none, none, none, none, rfl, e1.trans e2, fun _ => 0, e2 _ _ upd_same, fun _ h => (nomatch h), fun _ h => (nomatch h), fun _ h => (nomatch h)⟩, fun i σ' H' ⟨_, _, _, _, _, e, _⟩ => sq_of (e _ _ hva), fun i x σ' H' hx ⟨y3, y4, y5, y6, eσ, eH, adr, dI⟩ => ?_, fun σ' H' ⟨y3, y4, y5, y6, eσ, eH, adr, dI⟩ => ?_⟩
    · subst eσ
      obtain ⟨u, hu, hxu⟩ := pd_at hpa hx
      have et : es.take (i + 1) = es.take i ++ [u] := by rw [List.take_add_one, hu]; rfl
      refine g3 (hxu.mono eH) ?_
      refine s_when (et_test (ev_op (ev_var rfl) (ev_var rfl) (rv_ne rfl))) (fun hb H3 e3 => ?_) (fun hb H3 e3 => ?_)
      · have hne : u.1 ≠ W := fun z => by simp [z] at hb
        have dI3 := dI.mono e3
        have dI3d := dI3.dict
        show (tBM K "list" rAppend _ _) _ H3 _
        refine ⟨_, rfl, d, rfl, .inl ⟨_, .inl dI3d⟩, _, rfl, Nat.zero_le _, fun b nb => ⟨_, Sum.inl u.1, by rw [upd_ne (ne_of_none dI3d nb)]; exact dI3d, rfl, ?_, fun v hv => ?_, fun hn => ?_⟩⟩
        · rw [List.length_map]
          have := places_len W (es.take i)
          rw [List.length_take] at this
          exact sz_lt (by omega)
        · rw [val_map] at hv
          split at hv
          · rename_i hm
            cases hv
            have dI4 := dI3.mono (Ex.new (o := .lst []) nb)
            obtain ⟨fv, hf, hpf⟩ := dI4.lst u.1 hm
            refine ⟨.inl ⟨rfl, fv, sq_of hf⟩, evp_i2 (a := u.2.1) (b := u.2.2) (ea_cons (ev_var rfl) (ea_cons (ev_var rfl) ea_nil)) _ (Ex.refl _) _ fun v H5 e5 hv => ⟨adr u.1, fv, v, rfl, rfl, e5 _ _ hf, ?_, ?_⟩⟩
            · rw [pd_len hpf]
              have := spansAt_len u.1 (es.take i)
              rw [List.length_take] at this
              exact sz_lt (by omega)
            · refine ⟨_, _, _, _, rfl, Ex.mut ((eH.trans e3).trans ((Ex.new nb).trans e5)) (dI.new _ hm), adr, ?_⟩
              have hpl : places W (es.take (i + 1)) = places W (es.take i) := by rw [et, places_snoc, addKey, if_pos (.inr hm)]
              rw [hpl]
              refine (dI4.mono e5).old hm (e5 _ _ hf) hv fun p _ => ?_
              rw [et, spansAt_snoc]
              by_cases c : u.1 = p
              · rw [if_pos c, if_pos c.symm]
              · rw [if_neg c, if_neg (fun z => c z.symm)]
          · cases hv
        · rw [val_map] at hn
          split at hn
          · cases hn
          · rename_i hm
            rw [put_new (by rw [val_map, if_neg hm])]
            have hdb : d ≠ b := ne_of_none dI3d nb
            refine ⟨.inl ⟨rfl, [], sq_of (by rw [upd_ne (Ne.symm hdb), upd_same])⟩, evp_i2 (a := u.2.1) (b := u.2.2) (ea_cons (ev_var rfl) (ea_cons (ev_var rfl) ea_nil)) _ (Ex.refl _) _ fun v H5 e5 hv => ⟨b, [], v, rfl, rfl, e5 _ _ (by rw [upd_ne (Ne.symm hdb), upd_same]), sz_lt (by decide), ?_⟩⟩
            have n0 : H b = none := fresh_back (eH.trans e3) nb
            refine ⟨_, _, _, _, rfl, Ex.mut ((Ex.mut ((eH.trans e3).trans (Ex.new nb)) nd).trans e5) n0, fun q => if q = u.1 then b else adr q, ?_⟩
            have hpl : places W (es.take (i + 1)) = places W (es.take i) ++ [u.1] := by rw [et, places_snoc, addKey, if_neg (fun z => z.elim hne hm)]
            rw [hpl]
            refine dI3.add hm nb n0 e5 hv (fun p hp => ?_) ?_
            · rw [et, spansAt_snoc, if_neg (fun z => hm (by rw [z]; exact hp))]
            · rw [et, spansAt_snoc, if_pos rfl]
              have : spansAt u.1 (es.take i) = [] := by
                unfold spansAt
                rw [List.map_eq_nil_iff, List.filter_eq_nil_iff]
                intro e he hd
                exact hm (mem_places.mpr ⟨hne, e, he, of_decide_eq_true hd⟩)
              rw [this]; rfl
      · have hW : u.1 = W := by
          have : decide (V.int u.1 = V.int W) = true := by simpa using hb
          exact V.int.inj (of_decide_eq_true this)
        refine ⟨_, _, _, _, rfl, eH.trans e3, adr, ?_⟩
        have hpl : places W (es.take (i + 1)) = places W (es.take i) := by rw [et, places_snoc, addKey, if_pos (.inl hW)]
        rw [hpl]
        refine (dI.mono e3).to fun p hp => ?_
        rw [et, spansAt_snoc, if_neg (fun z => (mem_places.mp hp).1 (z.symm.trans hW))]
    · subst eσ
      rw [pd_len hpa, List.take_length] at dI
      refine q_asgL (el_lst ea_nil (by decide)) fun o H3 no e3 ho => ?_
      have dI3 := dI.mono e3
      have lp := places_len W es
      refine q_forV (C := fun p vs H' => vs = (sortI (places W es)).map V.int ∧ H3 p = none ∧ H' p = some (.lst vs)) (fun H4 e4 Q' q' => evp_sortD (ev_var rfl) dI3.dict (by omega) H4 e4 Q' fun v H5 e5 ⟨p, ep, np, hp⟩ => q' v H5 e5 ⟨p, _, ep, sq_of hp, rfl, np, hp⟩) fun p1 vs1 H4 e4 hv1 ⟨ev1, np1, hp1⟩ => ?_
      subst ev1
      have dI4 := dI3.mono e4
      have ho4 := e4 _ _ ho
      have nH : H o = none := fresh_back eH no
      refine ⟨fun i σ H' => ∃ y3 y4 y5, σ = [some (.ref p), some (.int W), some (.ref d), y3, y4, y5, some (.ref o)] ∧ ExB o H4 H' ∧ ∃ fv, H' o = some (.lst fv) ∧ Paired (I3 H') fv (((sortI (places W es)).take i).flatMap (wallsAt es)),
        ⟨y3, y4, y5, rfl, ExB.refl _ _, [], ho4, .nil⟩, fun i σ' H' ⟨_, _, _, _, e, _⟩ => sq_of (e _ _ (fun z => by rw [z, ho] at np1; cases np1) hp1), fun i x σ' H' hx ⟨z3, z4, z5, eσ, e, fv, hf, hpf⟩ => ?_, fun σ' H' ⟨z3, z4, z5, eσ, e, fv, hf, hpf⟩ => ?_⟩
      · subst eσ
        rw [List.getElem?_map] at hx
        obtain ⟨pl, hpl, rfl⟩ : ∃ pl, (sortI (places W es))[i]? = some pl ∧ V.int pl = x := by
          cases q : (sortI (places W es))[i]? with
          | none => rw [q] at hx; cases hx
          | some z => rw [q] at hx; exact ⟨z, rfl, Option.some.inj hx⟩
        have hm : pl ∈ places W es := (sortI_perm _).mem_iff.mp (List.mem_of_getElem? hpl)
        have hil : i < (sortI (places W es)).length := (List.getElem?_eq_some_iff.mp hpl).1
        have lsp := (sortI_perm (places W es)).length_eq
        obtain ⟨us, hus, hpu⟩ := dI4.lst pl hm
        have hao : adr pl ≠ o := fun z => by
          have := dI.new pl hm
          obtain ⟨us', h1, _⟩ := dI.lst pl hm
          rw [z] at h1
          rw [no] at h1; cases h1
        have hus' := e _ _ hao hus
        have hpu' := bI2.pd ho4 e hpu
        have hdo : d ≠ o := fun z => by rw [z] at dI; have := dI.dict; rw [no] at this; cases this
        have hd' := e _ _ hdo dI4.dict
        have lsz := spansAt_len pl es
        show (tBM K "list" rExtend _ _) _ H' _
        refine ⟨_, rfl, .inl ⟨rfl, fv, sq_of hf⟩, ?_⟩
        have ljn : (joined (sortP (spansAt pl es))).length ≤ es.length := by
          have := wallsAt_len es pl
          unfold wallsAt at this
          rw [List.length_map] at this
          exact this
        refine evp_lcL (R := I2) (R2 := I3) (xs := joined (sortP (spansAt pl es))) (f := fun q => (pl, q)) mI2 mI3 bI3 (p_call (ea_cons (ev_dget (v := .ref (adr pl)) (ev_var rfl) (ev_var rfl) hd' (by rw [val_map, if_pos hm])) ea_nil) fun H6 e6 Q' q' => ⟨adr pl, spansAt pl es, rfl, ⟨us, e6 _ _ hus', mI2.pd e6 hpu'⟩, by omega, fun p' H7 e7 np ⟨vs, h1, h2⟩ => q' _ _ e7 ⟨p', vs, rfl, sq_of h1, h2⟩⟩)
          (by omega) (fun y v H6 e6 hy hv Q' q' => g2 hv ⟨rfl, evp_i3 (ea_cons (ev_var rfl) (ea_cons (ev_var rfl) (ea_cons (ev_var rfl) ea_nil))) _ (Ex.refl _) Q' fun u H7 e7 hu => q' u H7 e7 hu⟩) H' (Ex.refl _) _ fun v H5 e5 ⟨b, eb, nb, ds, hds, hpd⟩ => ?_
        · subst eb
          have l1 := pd_len hpf
          have l2 := pd_len hpd
          have l3 := wallsAll_len es ((sortI (places W es)).take i)
          rw [List.length_take] at l3
          rw [List.length_map] at l2
          have l4 : min i (sortI (places W es)).length * es.length ≤ 60 * 60 := Nat.mul_le_mul (by omega) hz
          refine ⟨o, b, fv, ds, rfl, rfl, e5 _ _ hf, hds, sz_of (by omega), _, _, _, rfl, (e.ex e5).upd, fv ++ ds, upd_same, ?_⟩
          rw [List.take_add_one, hpl, List.flatMap_append]
          refine bI3.pd (e5 _ _ hf) (ExB.upd (ExB.refl _ _)) (pd_app (mI3.pd e5 hpf) ?_)
          show Paired (I3 H5) ds (List.flatMap (wallsAt es) [pl])
          rw [List.flatMap_singleton]
          exact hpd
      · subst eσ
        rw [List.length_map, List.take_length] at hpf
        exact s_ret (ev_var rfl) fun H5 e5 => q o _ ((ExB.back ((eH.trans e3).trans e4) nH e).trans e5) nH ⟨fv, e5 _ _ hf, mI3.pd e5 hpf⟩

/-! ### uprights, levels -/
abbrev sUpr : Stmt := topS 6
abbrev NUpr : List Str := ["page", "box"]
theorem scUpr : FnScope ["page", "box"] ["page"] (defScope sUpr) := ⟨rfl, rfl, rfl, by decide +kernel, rfl, by decide +kernel, by decide +kernel⟩
abbrev sLev : Stmt := topS 7
abbrev NLev : List Str := ["page", "box"]
theorem scLev : FnScope ["page", "box"] ["page"] (defScope sLev) := ⟨rfl, rfl, rfl, by decide +kernel, rfl, by decide +kernel, by decide +kernel⟩
def spUpr : Sp := fun vs H Q _ => ∃ (v : V) (W Hh : Int) (bs : List Bx), vs = [v] ∧ Pg H v W Hh bs ∧ bs.length ≤ 24 ∧ ∀ (p : Addr) H', Ex H H' → H p = none → LsI I3 H' p (walls W bs) → Q (.ref p) H'
def spLev : Sp := fun vs H Q _ => ∃ (v : V) (W Hh : Int) (bs : List Bx), vs = [v] ∧ Pg H v W Hh bs ∧ bs.length ≤ 24 ∧ ∀ (p : Addr) H', Ex H H' → H p = none → LsI I3 H' p (walls Hh (bs.map Bx.tr)) → Q (.ref p) H'
theorem ev_box {σ : L2.St} {H : Hp} {i : Nat} {v : V} {c : Bx} (hσ : σ[i]? = some (some v)) (h : I4 H v c) : Ev (tOp (rIxT K) (tVar i) (tC (.int 0))) σ H (.int c.l) ∧ Ev (tOp (rIxT K) (tVar i) (tC (.int 1))) σ H (.int c.t) ∧ Ev (tOp (rIxT K) (tVar i) (tC (.int 2))) σ H (.int c.r) ∧ Ev (tOp (rIxT K) (tVar i) (tC (.int 3))) σ H (.int c.b) := by
  obtain ⟨a, rfl, h⟩ := h
  exact ⟨ev_ixT (ev_var hσ) ev_c h at0, ev_ixT (ev_var hσ) ev_c h at1, ev_ixT (ev_var hσ) ev_c h at2, ev_ixT (ev_var hσ) ev_c h at3⟩
theorem ev_page {σ : L2.St} {H : Hp} {i : Nat} {v : V} {W Hh : Int} {bs : List Bx} (hσ : σ[i]? = some (some v)) (h : Pg H v W Hh bs) : Ev (tOp (rIxT K) (tVar i) (tC (.int 0))) σ H (.int W) ∧ Ev (tOp (rIxT K) (tVar i) (tC (.int 1))) σ H (.int Hh) ∧ ∃ b, TpI I4 H b bs ∧ Ev (tOp (rIxT K) (tVar i) (tC (.int 2))) σ H (.ref b) := by
  obtain ⟨a, b, rfl, h, ht⟩ := h
  exact ⟨ev_ixT (ev_var hσ) ev_c h at0, ev_ixT (ev_var hσ) ev_c h at1, b, ht, ev_ixT (ev_var hσ) ev_c h at2⟩
theorem ok_upr {f fEnds fJoined : Addr} {fd fdEnds fdJoined : FuncData} {k : Nat} (F : Fun K "uprights" "uprights" sUpr f fd) (FEnds : Fun K "ends_joined" "ends_joined" sEnds fEnds fdEnds) (bEnds : Binds K fdEnds ["ends", "border"] []) (gEnds : mg "ends_joined" = some (.ref fEnds))
    (FJoined : Fun K "joined_spans" "joined_spans" sJoined fJoined fdJoined) (bJoined : Binds K fdJoined ["spans"] []) (gJoined : mg "joined_spans" = some (.ref fJoined)) (T : Txt mg) : FnOk P w K mg base CX0 (k + 3) f fd ["page"] spUpr := by
  have GEnds : FnOk P w K mg base CX0 (k + 2) fEnds fdEnds ["ends", "border"] spEnds := ok_ends FEnds FJoined bJoined gJoined T
  refine F.ok scUpr (fun vs H Q E h => ?_) (fun cdv A outer s H vs Q E hr h => ?_)
  · obtain ⟨v, W, Hh, bs, rfl, _⟩ := h; rfl
  · obtain ⟨v, W, Hh, bs, rfl, hp, hz, q⟩ := h
    refine ⟨_, (pss_one (ps_ret (pe_call GEnds hr (by rfl) gEnds FEnds.kp bEnds .nil pass0 (pa_cons (pe_lc (own := [("box", 1)]) (g := (gName 1)) (tt := tYes) (te := tTup (tCons (tOp (rIxT K) (tVar 1) (tC (.int 2))) (tCons (tOp (rIxT K) (tVar 1) (tC (.int 1))) (tCons (tOp (rIxT K) (tVar 1) (tC (.int 3))) tNil)))) rfl scUpr.nd (pi_tup (pe_ix ix_tup (pv 0) pe_int (fun _ _ => rfl))) (blkOk_by (own := [("box", 1)]) (N := NUpr) (sc := defScope sUpr) (by decide +kernel)) (fun _ _ _ _ _ => (pg_name (i := 1) scUpr.nd rfl (.inl rfl) (.inr rfl))) (fun _ _ _ _ _ => pts_nil) (fun _ _ _ _ _ => (pe_tup (pa_cons (pe_ix ix_tup (pv 1) pe_int (fun _ _ => rfl)) (pa_cons (pe_ix ix_tup (pv 1) pe_int (fun _ _ => rfl)) (pa_cons (pe_ix ix_tup (pv 1) pe_int (fun _ _ => rfl)) pa_nil)))))) (pa_cons (pe_ix ix_tup (pv 0) pe_int (fun _ _ => rfl)) pa_nil))))), ?_⟩
    obtain ⟨_, _, b, ht, hb⟩ := ev_page (K := K) (i := 0) (σ := start ["page", "box"] [v]) rfl hp
    refine o_ret (o_call (o_cons ?_))
    refine evp_lcT (R := I4) (R2 := I3) (xs := bs) (f := fun c => (c.r, c.t, c.b)) mI4 mI3 bI3 (fun H1 e1 Q' q' => hb H1 e1 Q' fun H2 e2 => let ⟨vs, h1, h2⟩ := ht.mono mI4 (e1.trans e2); q' _ _ e2 ⟨b, vs, rfl, st_of h1, h2⟩) (by omega)
      (fun c u H1 e1 hc hu Q' q' => ⟨rfl, evp_i3 (ea_cons (ev_box rfl hu).2.2.1 (ea_cons (ev_box rfl hu).2.1 (ea_cons (ev_box rfl hu).2.2.2 ea_nil))) _ (Ex.refl _) Q' fun u' H2 e2 hu' => q' u' H2 e2 hu'⟩) H (Ex.refl _) _ fun u H1 e1 ⟨o, eo, no, hl⟩ => ?_
    subst eo
    refine o_cons ?_
    refine (ev_page (K := K) (i := 0) (σ := start ["page", "box"] [v]) rfl hp).1 H1 e1 _ fun H2 e2 => ⟨o, rends bs, W, rfl, hl.mono mI3 e2, ?_, fun p H3 e3 np hw => q p H3 ((e1.trans e2).trans e3) (fresh_back (e1.trans e2) np) hw⟩
    unfold rends; rw [List.length_map]; omega
theorem ok_lev {f fEnds fJoined : Addr} {fd fdEnds fdJoined : FuncData} {k : Nat} (F : Fun K "levels" "levels" sLev f fd) (FEnds : Fun K "ends_joined" "ends_joined" sEnds fEnds fdEnds) (bEnds : Binds K fdEnds ["ends", "border"] []) (gEnds : mg "ends_joined" = some (.ref fEnds))
    (FJoined : Fun K "joined_spans" "joined_spans" sJoined fJoined fdJoined) (bJoined : Binds K fdJoined ["spans"] []) (gJoined : mg "joined_spans" = some (.ref fJoined)) (T : Txt mg) : FnOk P w K mg base CX0 (k + 3) f fd ["page"] spLev := by
  have GEnds : FnOk P w K mg base CX0 (k + 2) fEnds fdEnds ["ends", "border"] spEnds := ok_ends FEnds FJoined bJoined gJoined T
  refine F.ok scLev (fun vs H Q E h => ?_) (fun cdv A outer s H vs Q E hr h => ?_)
  · obtain ⟨v, W, Hh, bs, rfl, _⟩ := h; rfl
  · obtain ⟨v, W, Hh, bs, rfl, hp, hz, q⟩ := h
    refine ⟨_, (pss_one (ps_ret (pe_call GEnds hr (by rfl) gEnds FEnds.kp bEnds .nil pass0 (pa_cons (pe_lc (own := [("box", 1)]) (g := (gName 1)) (tt := tYes) (te := tTup (tCons (tOp (rIxT K) (tVar 1) (tC (.int 3))) (tCons (tOp (rIxT K) (tVar 1) (tC (.int 0))) (tCons (tOp (rIxT K) (tVar 1) (tC (.int 2))) tNil)))) rfl scLev.nd (pi_tup (pe_ix ix_tup (pv 0) pe_int (fun _ _ => rfl))) (blkOk_by (own := [("box", 1)]) (N := NLev) (sc := defScope sLev) (by decide +kernel)) (fun _ _ _ _ _ => (pg_name (i := 1) scLev.nd rfl (.inl rfl) (.inr rfl))) (fun _ _ _ _ _ => pts_nil) (fun _ _ _ _ _ => (pe_tup (pa_cons (pe_ix ix_tup (pv 1) pe_int (fun _ _ => rfl)) (pa_cons (pe_ix ix_tup (pv 1) pe_int (fun _ _ => rfl)) (pa_cons (pe_ix ix_tup (pv 1) pe_int (fun _ _ => rfl)) pa_nil)))))) (pa_cons (pe_ix ix_tup (pv 0) pe_int (fun _ _ => rfl)) pa_nil))))), ?_⟩
    obtain ⟨_, _, b, ht, hb⟩ := ev_page (K := K) (i := 0) (σ := start ["page", "box"] [v]) rfl hp
    refine o_ret (o_call (o_cons ?_))
    refine evp_lcT (R := I4) (R2 := I3) (xs := bs) (f := fun c => (c.b, c.l, c.r)) mI4 mI3 bI3 (fun H1 e1 Q' q' => hb H1 e1 Q' fun H2 e2 => let ⟨vs, h1, h2⟩ := ht.mono mI4 (e1.trans e2); q' _ _ e2 ⟨b, vs, rfl, st_of h1, h2⟩) (by omega)
      (fun c u H1 e1 hc hu Q' q' => ⟨rfl, evp_i3 (ea_cons (ev_box rfl hu).2.2.2 (ea_cons (ev_box rfl hu).1 (ea_cons (ev_box rfl hu).2.2.1 ea_nil))) _ (Ex.refl _) Q' fun u' H2 e2 hu' => q' u' H2 e2 hu'⟩) H (Ex.refl _) _ fun u H1 e1 ⟨o, eo, no, hl⟩ => ?_
    subst eo
    have er : bs.map (fun c => (c.b, c.l, c.r)) = rends (bs.map Bx.tr) := by unfold rends; rw [List.map_map]; rfl
    rw [er] at hl
    refine o_cons ?_
    refine (ev_page (K := K) (i := 0) (σ := start ["page", "box"] [v]) rfl hp).2.1 H1 e1 _ fun H2 e2 => ⟨o, rends (bs.map Bx.tr), Hh, rfl, hl.mono mI3 e2, ?_, fun p H3 e3 np hw => q p H3 ((e1.trans e2).trans e3) (fresh_back (e1.trans e2) np) hw⟩
    unfold rends; rw [List.length_map, List.length_map]; omega
end
end K14

/-! Walks: wall_at, sides, beside, beneath. -/
namespace K14
open PySem PySem.Spec PyProof.Rows L2 Evl
section
variable {P : Program} {w : World} {base : Heap} {mg : Str → Option Value} {K : PySem.W.Frag}
/-! ### wall_at -/
abbrev sWall : Stmt := topS 8
abbrev NWall : List Str := ["some", "place", "first", "border", "number", "wall"]
theorem scWall : FnScope ["some", "place", "first", "border", "number", "wall"] ["some", "place", "first", "border"] (defScope sWall) := ⟨rfl, rfl, rfl, by decide +kernel, rfl, by decide +kernel, by decide +kernel⟩
def spWall : Sp := fun vs H Q _ => ∃ (a : Addr) (ws : List Wl) (place first border k : Int), vs = [.ref a, .int place, .int first, .int border] ∧ LsI I3 H a ws ∧ At ws place first border k ∧ ∀ H', Ex H H' → Q (.int k) H'
theorem ev_w3 {σ : L2.St} {H : Hp} {i : Nat} {v : V} {w : Wl} (hσ : σ[i]? = some (some v)) (h : I3 H v w) : Ev (tOp (rIxT K) (tVar i) (tC (.int 0))) σ H (.int w.1) ∧ Ev (tOp (rIxT K) (tVar i) (tC (.int 1))) σ H (.int w.2.1) ∧ Ev (tOp (rIxT K) (tVar i) (tC (.int 2))) σ H (.int w.2.2) := by
  obtain ⟨a, rfl, h⟩ := h
  exact ⟨ev_ixT (ev_var hσ) ev_c h at0, ev_ixT (ev_var hσ) ev_c h at1, ev_ixT (ev_var hσ) ev_c h at2⟩
theorem ok_wall {f : Addr} {fd : FuncData} {k : Nat} (F : Fun K "wall_at" "wall_at" sWall f fd) (T : Txt mg) : FnOk P w K mg base CX0 (k + 1) f fd ["some", "place", "first", "border"] spWall := by
  refine F.ok scWall (fun vs H Q E h => ?_) (fun cdv A outer s H vs Q E hr h => ?_)
  · obtain ⟨a, ws, place, first, border, k, rfl, _⟩ := h; rfl
  · obtain ⟨a, ws, place, first, border, k, rfl, hws, hat, q⟩ := h
    refine ⟨_, (pss_cons (ps_if (pt_cmpR op_eq (pv 1) pe_int (nomark _)) (pss_one (ps_ret (pe_un un_neg pe_int))) pss_nil)
 (pss_cons (ps_if (pt_cmpR op_eq (pv 1) (pv 3) (nomark _)) (pss_one (ps_ret (pe_callB call_len_seq (by rfl) T.len PySem.boot_len (pa_cons (pv 0) pa_nil)))) pss_nil)
 (pss_cons (ps_for PassesOwn.never rfl (pi_enum rfl T.enumerate (pa_cons (pv 0) pa_nil)) (pg_tup rfl (pgs_cons (pg_name (i := 4) scWall.nd rfl (.inl rfl)) (pgs_cons (pg_name (i := 5) scWall.nd rfl (.inl rfl)) pgs_nil))) (pss_one (ps_if (PW.pt (pw_and (pt_cmpR op_eq (pe_ix ix_tup (pv 5) pe_int (fun _ _ => rfl)) (pv 1) (nomark _)) (pw_and1 (pt_chain op_le op_lt (pe_ix ix_tup (pv 5) pe_int (fun _ _ => rfl)) (pv 2) (pe_ix ix_tup (pv 5) pe_int (fun _ _ => rfl)))))) (pss_one (ps_ret (pv 4))) pss_nil)))
 (pss_one (ps_ret pe_non))))), ?_⟩
    obtain ⟨vs, hvs, hpd⟩ := hws
    have hl := pd_len hpd
    refine q_when (b := decide (V.int place = V.int 0)) (et_test (ev_op (ev_var rfl) ev_c (rv_eq rfl))) (fun hb H1 e1 => ?_) (fun hb H1 e1 => ?_)
    · have h0 : place = 0 := V.int.inj (of_decide_eq_true hb)
      refine s_ret (ev_un ev_c ru_neg) fun H2 e2 => ?_
      rw [At.fn hat (.inl ⟨h0, rfl⟩)] at q
      exact q _ (e1.trans e2)
    have h0 : place ≠ 0 := fun z => of_decide_eq_false hb (congrArg V.int z)
    refine q_when (b := decide (V.int place = V.int border)) (et_test (ev_op (ev_var rfl) (ev_var rfl) (rv_eq rfl))) (fun hb H2 e2 => ?_) (fun hb H2 e2 => ?_)
    · have h1 : place = border := V.int.inj (of_decide_eq_true hb)
      rw [At.fn hat (.inr (.inl ⟨h0, h1, rfl⟩))] at q
      refine s_ret (ev_lenS (ev_var rfl) (.inl (sq_of ((e1.trans e2) _ _ hvs)))) fun H3 e3 => ?_
      rw [hl]
      exact q _ ((e1.trans e2).trans e3)
    have h1 : place ≠ border := fun z => of_decide_eq_false hb (congrArg V.int z)
    obtain ⟨n, wn, rfl, hn, hh, hf⟩ : ∃ (i : Nat) (w : Wl), k = (i : Int) ∧ ws[i]? = some w ∧ hitW place first w ∧ ∀ j v, j < i → ws[j]? = some v → ¬ hitW place first v := by
      rcases hat with ⟨z, _⟩ | ⟨_, z, _⟩ | ⟨_, _, z⟩
      · exact (h0 z).elim
      · exact (h1 z).elim
      · exact z
    refine o_seq (s_forEL (ev_var rfl) ((e1.trans e2) _ _ hvs) (fun i σ H' => ∃ y4 y5, σ = [some (.ref a), some (.int place), some (.int first), some (.int border), y4, y5] ∧ Ex H H' ∧ i ≤ n) (fun H3 e3 => ⟨none, none, rfl, (e1.trans e2).trans e3, Nat.zero_le _⟩) (fun i σ' H' ⟨_, _, _, e, _⟩ => e _ _ hvs)
      (fun i x T' σ' H' hx ⟨y4, y5, eσ, eH, hin⟩ hT => ?_) (fun σ' H' ⟨y4, y5, eσ, eH, hin⟩ => ?_))
    · subst eσ
      obtain ⟨u, hu, hxu⟩ := pd_at hpd hx
      have hxu' := hxu.mono (eH.trans (Ex.new hT (o := .tup [.int (i : Nat), x])))
      refine gp upd_same ?_
      have E3 := ev_w3 (K := K) (i := 5) (σ := [some (.ref a), some (.int place), some (.int first), some (.int border), some (.int (i : Nat)), some x]) rfl hxu'
      have test := et_and (et_test (ev_op E3.1 (ev_var (i := 1) (σ := [some (.ref a), some (.int place), some (.int first), some (.int border), some (.int (i : Nat)), some x]) rfl) (rv_eq rfl))) (fun _ => et_test (ev_chain E3.2.1 (ev_var (i := 2) rfl) (rv_I0 (g := fun i j => .bl (decide (i ≤ j)))) E3.2.2 (rv_I0 (g := fun i j => .bl (decide (i < j))))))
      refine s_if test (fun hb H3 e3 => ?_) (fun hb H3 e3 => ?_)
      · have hb := (Bool.and_eq_true _ _).mp hb
        have hb2 := (Bool.and_eq_true _ _).mp hb.2
        have hit : hitW place first u := ⟨V.int.inj (of_decide_eq_true hb.1), of_decide_eq_true hb2.1, of_decide_eq_true hb2.2⟩
        have ein : i = n := by
          rcases Nat.lt_or_ge i n with z | z
          · exact (hf i u z hu hit).elim
          · omega
        subst ein
        exact s_ret (ev_var rfl) fun H4 e4 => q _ ((eH.trans (Ex.new hT)).trans (e3.trans e4))
      · refine ⟨_, _, rfl, (eH.trans (Ex.new hT)).trans e3, ?_⟩
        rcases Nat.lt_or_ge i n with z | z
        · exact z
        · have ein : i = n := by omega
          subst ein
          rw [hn] at hu
          have := Option.some.inj hu
          subst this
          exfalso
          obtain ⟨g1, g2, g3⟩ := hh
          subst g1
          rw [decide_eq_true (show V.int wn.1 = V.int wn.1 from rfl), decide_eq_true g2, decide_eq_true g3] at hb
          cases hb
    · have := (List.getElem?_eq_some_iff.mp hn).1
      omega

/-! ### sides -/
abbrev sSides : Stmt := topS 9
abbrev NSides : List Str := ["page", "box", "left", "top", "right", "below", "upright", "level", "across"]
theorem scSides : FnScope ["page", "box", "left", "top", "right", "below", "upright", "level", "across"] ["page", "box"] (defScope sSides) := ⟨rfl, rfl, rfl, by decide +kernel, rfl, by decide +kernel, by decide +kernel⟩
def SidesOf (W Hh : Int) (bs : List Bx) (c : Bx) (q : Q4) : Prop := At (walls W bs) c.l c.t W q.1 ∧ At (walls W bs) c.r c.t W q.2.1 ∧ At (walls Hh (bs.map Bx.tr)) c.t c.l Hh q.2.2.1 ∧ At (walls Hh (bs.map Bx.tr)) c.b c.l Hh q.2.2.2
theorem sides_ex {W Hh : Int} {bs : List Bx} (p : Part W Hh bs) {c : Bx} (hc : c ∈ bs) : ∃ q, SidesOf W Hh bs c q := by
  have w1 := walls_ok p
  have w2 := walls_ok p.tr
  have hc2 : c.tr ∈ bs.map Bx.tr := List.mem_map_of_mem hc
  obtain ⟨k1, h1⟩ : ∃ k, At (walls W bs) c.l c.t W k := by
    rcases at_left p w1 hc with ⟨_, h⟩ | ⟨_, i, _, h, _⟩ <;> exact ⟨_, h⟩
  obtain ⟨k2, h2⟩ : ∃ k, At (walls W bs) c.r c.t W k := by
    rcases at_right p w1 hc with ⟨_, h⟩ | ⟨_, i, _, h, _⟩ <;> exact ⟨_, h⟩
  obtain ⟨k3, h3⟩ : ∃ k, At (walls Hh (bs.map Bx.tr)) c.t c.l Hh k := by
    rcases at_left p.tr w2 hc2 with ⟨_, h⟩ | ⟨_, i, _, h, _⟩ <;> exact ⟨_, h⟩
  obtain ⟨k4, h4⟩ : ∃ k, At (walls Hh (bs.map Bx.tr)) c.b c.l Hh k := by
    rcases at_right p.tr w2 hc2 with ⟨_, h⟩ | ⟨_, i, _, h, _⟩ <;> exact ⟨_, h⟩
  exact ⟨(k1, k2, k3, k4), h1, h2, h3, h4⟩
def spSides : Sp := fun vs H Q _ => ∃ (v : V) (W Hh : Int) (bs : List Bx) (i : Nat) (c : Bx), vs = [v, .int (i : Int)] ∧ Pg H v W Hh bs ∧ Part W Hh bs ∧ bs.length ≤ 24 ∧ bs[i]? = some c ∧ ∀ u q H', Ex H H' → IQ H' u q → SidesOf W Hh bs c q → Q u H'
theorem ok_sides {f fUpr fLev fWall fEnds fJoined : Addr} {fd fdUpr fdLev fdWall fdEnds fdJoined : FuncData} {k : Nat} (F : Fun K "sides" "sides" sSides f fd)
    (FUpr : Fun K "uprights" "uprights" sUpr fUpr fdUpr) (bUpr : Binds K fdUpr ["page"] []) (gUpr : mg "uprights" = some (.ref fUpr))
    (FLev : Fun K "levels" "levels" sLev fLev fdLev) (bLev : Binds K fdLev ["page"] []) (gLev : mg "levels" = some (.ref fLev))
    (FWall : Fun K "wall_at" "wall_at" sWall fWall fdWall) (bWall : Binds K fdWall ["some", "place", "first", "border"] []) (gWall : mg "wall_at" = some (.ref fWall))
    (FEnds : Fun K "ends_joined" "ends_joined" sEnds fEnds fdEnds) (bEnds : Binds K fdEnds ["ends", "border"] []) (gEnds : mg "ends_joined" = some (.ref fEnds))
    (FJoined : Fun K "joined_spans" "joined_spans" sJoined fJoined fdJoined) (bJoined : Binds K fdJoined ["spans"] []) (gJoined : mg "joined_spans" = some (.ref fJoined)) (T : Txt mg) : FnOk P w K mg base CX0 (k + 4) f fd ["page", "box"] spSides := by
  have GUpr : FnOk P w K mg base CX0 (k + 3) fUpr fdUpr ["page"] spUpr := ok_upr FUpr FEnds bEnds gEnds FJoined bJoined gJoined T
  have GLev : FnOk P w K mg base CX0 (k + 3) fLev fdLev ["page"] spLev := ok_lev FLev FEnds bEnds gEnds FJoined bJoined gJoined T
  have GWall : FnOk P w K mg base CX0 (k + 3) fWall fdWall ["some", "place", "first", "border"] spWall := ok_wall (k := k + 2) FWall T
  refine F.ok scSides (fun vs H Q E h => ?_) (fun cdv A outer s H vs Q E hr h => ?_)
  · obtain ⟨v, W, Hh, bs, i, c, rfl, _⟩ := h; rfl
  · obtain ⟨v, W, Hh, bs, i, c, rfl, hp, part, hz, hi, q⟩ := h
    refine ⟨_, (pss_cons (ps_if (PW.pt (pw_or (pt_cmpR op_lt (pv 1) pe_int (nomark _)) (pw_or1 (pt_cmpR op_ge (pv 1) (pe_callB call_len_seq (by rfl) T.len PySem.boot_len (pa_cons (pe_ix ix_tup (pv 0) pe_int (fun _ _ => rfl)) pa_nil)) (nomark _))))) (pss_one ps_never) pss_nil)
 (pss_cons (ps_asg (pe_ix ix_tup (pe_ix ix_tup (pv 0) pe_int (fun _ _ => rfl)) (pv 1) (fun _ _ => rfl)) (pg_tup rfl (pgs_cons (pg_name (i := 2) scSides.nd rfl (.inl rfl)) (pgs_cons (pg_name (i := 3) scSides.nd rfl (.inl rfl)) (pgs_cons (pg_name (i := 4) scSides.nd rfl (.inl rfl)) (pgs_cons (pg_name (i := 5) scSides.nd rfl (.inl rfl)) pgs_nil))))))
 (pss_cons (ps_set (i := 6) scSides.nd rfl (.inl rfl) (pe_call GUpr hr (by rfl) gUpr FUpr.kp bUpr .nil pass0 (pa_cons (pv 0) pa_nil)))
 (pss_cons (ps_set (i := 7) scSides.nd rfl (.inl rfl) (pe_call GLev hr (by rfl) gLev FLev.kp bLev .nil pass0 (pa_cons (pv 0) pa_nil)))
 (pss_cons (ps_set (i := 8) scSides.nd rfl (.inl rfl) (pe_tup (pa_cons (pe_call GWall hr (by rfl) gWall FWall.kp bWall .nil pass0 (pa_cons (pv 6) (pa_cons (pv 2) (pa_cons (pv 3) (pa_cons (pe_ix ix_tup (pv 0) pe_int (fun _ _ => rfl)) pa_nil))))) (pa_cons (pe_call GWall hr (by rfl) gWall FWall.kp bWall .nil pass0 (pa_cons (pv 6) (pa_cons (pv 4) (pa_cons (pv 3) (pa_cons (pe_ix ix_tup (pv 0) pe_int (fun _ _ => rfl)) pa_nil))))) pa_nil))))
 (pss_one (ps_ret (pe_op op_catT (pv 8) (pe_tup (pa_cons (pe_call GWall hr (by rfl) gWall FWall.kp bWall .nil pass0 (pa_cons (pv 7) (pa_cons (pv 3) (pa_cons (pv 2) (pa_cons (pe_ix ix_tup (pv 0) pe_int (fun _ _ => rfl)) pa_nil))))) (pa_cons (pe_call GWall hr (by rfl) gWall FWall.kp bWall .nil pass0 (pa_cons (pv 7) (pa_cons (pv 5) (pa_cons (pv 2) (pa_cons (pe_ix ix_tup (pv 0) pe_int (fun _ _ => rfl)) pa_nil))))) pa_nil))))))))))), ?_⟩
    obtain ⟨qq, s1, s2, s3, s4⟩ := sides_ex part (List.mem_of_getElem? hi)
    have hil := (List.getElem?_eq_some_iff.mp hi).1
    obtain ⟨b, ht, hb⟩ : ∃ b, TpI I4 H b bs ∧ ∀ {σ : L2.St} {H' : Hp}, Ex H H' → σ[0]? = some (some v) → Ev (tOp (rIxT K) (tVar 0) (tC (.int 2))) σ H' (.ref b) := by
      obtain ⟨_, b, rfl, h, ht⟩ := hp
      exact ⟨b, ht, fun e hσ => ev_ixT (ev_var hσ) ev_c (e _ _ h) at2⟩
    obtain ⟨vs, hvs, hpd⟩ := ht
    have hl := pd_len hpd
    have pg : ∀ {σ : L2.St} {H' : Hp}, Ex H H' → σ[0]? = some (some v) → Ev (tOp (rIxT K) (tVar 0) (tC (.int 0))) σ H' (.int W) ∧ Ev (tOp (rIxT K) (tVar 0) (tC (.int 1))) σ H' (.int Hh) := fun e hσ => ⟨(ev_page hσ (hp.mono e)).1, (ev_page hσ (hp.mono e)).2.1⟩
    refine q_when (b := false) (et_is (et_or (et_test (ev_op (ev_var rfl) ev_c (rv_I0 (g := fun i j => .bl (decide (i < j)))))) (fun _ => et_test (ev_op (ev_var rfl) (ev_lenS (hb (Ex.refl H) rfl) (.inr (st_of hvs))) (rv_I0 (g := fun i j => .bl (decide (j ≤ i))))))) ?_) (fun z => by cases z) (fun _ H1 e1 => ?_)
    · rw [hl, decide_eq_false (by omega), decide_eq_false (by omega)]; rfl
    obtain ⟨u, hu, huc⟩ := pd_of hpd hi
    refine p_unp (P := fun z _ => z = u) (ev_p (ev_ixT (hb e1 rfl) (ev_var rfl) (e1 _ _ hvs) (at_nat (by omega) (by rw [Int.toNat_natCast]; exact hu)))) fun z H2 e2 ez => ?_
    subst ez
    refine g4 (huc.mono (e1.trans e2)) ?_
    refine p_asg (P := fun z H' => ∃ o, z = .ref o ∧ LsI I3 H' o (walls W bs)) (p_call (ea_cons (ev_var rfl) ea_nil) fun H3 e3 Q' q' => ⟨v, W, Hh, bs, rfl, hp.mono ((e1.trans e2).trans e3), hz, fun o H4 e4 _ h4 => q' _ _ e4 ⟨o, rfl, h4⟩⟩) fun z H3 e3 ⟨o, ez, ho⟩ => ?_
    subst ez
    refine p_asg (P := fun z H' => ∃ o, z = .ref o ∧ LsI I3 H' o (walls Hh (bs.map Bx.tr))) (p_call (ea_cons (ev_var rfl) ea_nil) fun H4 e4 Q' q' => ⟨v, W, Hh, bs, rfl, hp.mono (((e1.trans e2).trans e3).trans e4), hz, fun o H5 e5 _ h5 => q' _ _ e5 ⟨o, rfl, h5⟩⟩) fun z H4 e4 ⟨o2, ez, ho2⟩ => ?_
    subst ez
    have ho := ho.mono mI3 e4
    have e04 := ((e1.trans e2).trans e3).trans e4
    have one : ∀ {σ : L2.St} {ta tb tc td : TE} {H' : Hp} {o : Addr} {ws : List Wl} {pl fi bo k : Int} {E : XK}, LsI I3 H' o ws → At ws pl fi bo k → Ev ta σ H' (.ref o) → Ev tb σ H' (.int pl) → Ev tc σ H' (.int fi) → Ev td σ H' (.int bo) →
        EvP (tCall spWall [] E (tCons ta (tCons tb (tCons tc (tCons td tNil))))) σ H' fun v H'' => RInt H'' v k := fun hw ha h1 h2 h3 h4 => p_call (ea_cons h1 (ea_cons h2 (ea_cons h3 (ea_cons h4 ea_nil)))) fun H5 e5 Q' q' => ⟨_, _, _, _, _, _, rfl, hw.mono mI3 e5, ha, fun H6 e6 => q' _ _ e6 rfl⟩
    refine p_asg (evp_tupI (ns := [qq.1, qq.2.1]) (eas_cons mInt (one ho s1 (ev_var rfl) (ev_var rfl) (ev_var rfl) (pg e04 rfl).1) (eas_cons mInt (one ho s2 (ev_var rfl) (ev_var rfl) (ev_var rfl) (pg e04 rfl).1) eas_nil)) (by show (2 : Nat) ≤ 1000; decide)) fun z H5 e5 ⟨p5, ez, _, hp5⟩ => ?_
    subst ez
    refine o_ret (o_op ?_)
    refine ev_var (v := .ref p5) rfl H5 (Ex.refl _) _ fun H6 e6 => ?_
    refine evp_tupI (ns := [qq.2.2.1, qq.2.2.2]) (eas_cons mInt (one (ho2.mono mI3 e5) s3 (ev_var rfl) (ev_var rfl) (ev_var rfl) (pg (e04.trans e5) rfl).2) (eas_cons mInt (one (ho2.mono mI3 e5) s4 (ev_var rfl) (ev_var rfl) (ev_var rfl) (pg (e04.trans e5) rfl).2) eas_nil)) (by show (2 : Nat) ≤ 1000; decide) H6 e6 _ fun z H7 e7 ⟨p7, ez, _, hp7⟩ => ?_
    subst ez
    refine ⟨p5, p7, _, _, rfl, rfl, st_of ((e6.trans e7) _ _ hp5), st_of hp7, by simp, sz_of (show (4 : Nat) ≤ 100000 by decide), (fun z => by cases z), fun _ p hpn => q _ qq _ ((e04.trans e5).trans ((e6.trans e7).trans (Ex.new hpn))) ⟨p, rfl, upd_same⟩ ⟨s1, s2, s3, s4⟩⟩

/-! ### beside -/
abbrev sBes : Stmt := topS 10
abbrev NBes : List Str := ["page", "found", "one", "box", "other", "right"]
theorem scBes : FnScope ["page", "found", "one", "box", "other", "right"] ["page"] (defScope sBes) := ⟨rfl, rfl, rfl, by decide +kernel, rfl, by decide +kernel, by decide +kernel⟩
def spBes : Sp := fun vs H Q _ => ∃ (v : V) (W Hh : Int) (bs : List Bx), vs = [v] ∧ Pg H v W Hh bs ∧ bs.length ≤ 24 ∧ ∀ (p : Addr) H', Ex H H' → H p = none → LsI I2 H' p (nbr bes bs bs.length) → Q (.ref p) H'
theorem ok_bes {f : Addr} {fd : FuncData} {k : Nat} (F : Fun K "beside" "beside" sBes f fd) (T : Txt mg) : FnOk P w K mg base CX0 (k + 1) f fd ["page"] spBes := by
  refine F.ok scBes (fun vs H Q E h => ?_) (fun cdv A outer s H vs Q E hr h => ?_)
  · obtain ⟨v, W, Hh, bs, rfl, _⟩ := h; rfl
  · obtain ⟨v, W, Hh, bs, rfl, hp, hz, q⟩ := h
    refine ⟨_, (pss_cons (ps_set (i := 1) scBes.nd rfl (.inl rfl) (pe_lst pa_nil))
 (pss_cons (ps_for PassesOwn.never rfl (pi_enumT rfl T.enumerate (pa_cons (pe_ix ix_tup (pv 0) pe_int (fun _ _ => rfl)) pa_nil)) (pg_tup rfl (pgs_cons (pg_name (i := 2) scBes.nd rfl (.inl rfl)) (pgs_cons (pg_name (i := 3) scBes.nd rfl (.inl rfl)) pgs_nil))) (pss_one (ps_for PassesOwn.never rfl (pi_enumT rfl T.enumerate (pa_cons (pe_ix ix_tup (pv 0) pe_int (fun _ _ => rfl)) pa_nil)) (pg_tup rfl (pgs_cons (pg_name (i := 4) scBes.nd rfl (.inl rfl)) (pgs_cons (pg_name (i := 5) scBes.nd rfl (.inl rfl)) pgs_nil))) (pss_one (ps_if (PW.pt (pw_and (pt_cmpR op_eq (pe_ix ix_tup (pv 3) pe_int (fun _ _ => rfl)) (pe_ix ix_tup (pv 5) pe_int (fun _ _ => rfl)) (nomark _)) (pw_and (pt_cmpR op_lt (pe_ix ix_tup (pv 3) pe_int (fun _ _ => rfl)) (pe_ix ix_tup (pv 5) pe_int (fun _ _ => rfl)) (nomark _)) (pw_and1 (pt_cmpR op_lt (pe_ix ix_tup (pv 5) pe_int (fun _ _ => rfl)) (pe_ix ix_tup (pv 3) pe_int (fun _ _ => rfl)) (nomark _)))))) (pss_one (ps_expr (pe_bm PySem.F.plainAttrs_list PySem.F.slot_list_append PySem.F.type_list_append mt_append (pv 1) (pa_cons (pe_tup (pa_cons (pv 2) (pa_cons (pv 4) pa_nil))) pa_nil)))) pss_nil)))))
 (pss_one (ps_ret (pv 1))))), ?_⟩
    obtain ⟨pa, b, rfl, hpa, vs, hvs, hpd⟩ := hp
    have hl := pd_len hpd
    refine q_asgL (el_lst ea_nil (by decide)) fun o H1 no e1 ho => ?_
    have nb : b ≠ o := ne_of_none hvs no
    have hb : ∀ {σ : L2.St} {H' : Hp}, ExB o H1 H' → σ[0]? = some (some (.ref pa)) → Ev (tOp (rIxT K) (tVar 0) (tC (.int 2))) σ H' (.ref b) := fun e hσ => ev_ixT (ev_var hσ) ev_c (e _ _ (ne_of_none hpa no) (e1 _ _ hpa)) at2
    have hvs1 : ∀ {H' : Hp}, ExB o H1 H' → H' b = some (.tup vs) := fun e => e _ _ nb (e1 _ _ hvs)
    have bxs : ∀ {H' : Hp} {v : V} {c : Bx}, ExB o H1 H' → I4 H v c → I4 H' v c := fun e h => bI4 o H1 _ _ _ _ ho e (h.mono e1)
    refine o_seq (s_forET (hb (ExB.refl o H1) rfl) (hvs1 (ExB.refl o H1)) (fun i σ H' => ∃ y2 y3 y4 y5, σ = [some (.ref pa), some (.ref o), y2, y3, y4, y5] ∧ ExB o H1 H' ∧ ∃ fv, H' o = some (.lst fv) ∧ Paired (I2 H') fv (nbr bes bs i))
      (fun H2 e2 => ⟨none, none, none, none, rfl, ExB.of e2, [], e2 _ _ ho, .nil⟩) (fun i σ' H' ⟨_, _, _, _, _, e, _⟩ => hvs1 e) (fun i x T' σ' H' hx ⟨y2, y3, y4, y5, eσ, e, fv, hf, hp⟩ hT => ?_) (fun σ' H' ⟨y2, y3, y4, y5, eσ, e, fv, hf, hp⟩ => ?_))
    · subst eσ
      obtain ⟨c, hc, hxc⟩ := pd_at hpd hx
      have il : i < bs.length := (List.getElem?_eq_some_iff.mp hc).1
      refine gp upd_same ?_
      have eT := e.ex (Ex.new hT (o := .tup [.int (i : Nat), x]))
      refine s_forET (hb eT rfl) (hvs1 eT) (fun j σ H' => ∃ y4 y5, σ = [some (.ref pa), some (.ref o), some (.int (i : Nat)), some x, y4, y5] ∧ ExB o H1 H' ∧ ∃ fv, H' o = some (.lst fv) ∧ Paired (I2 H') fv (nbr bes bs i ++ nbrRow bes bs i c j))
        (fun H2 e2 => ⟨y4, y5, rfl, eT.ex e2, fv, ((Ex.new hT).trans e2) _ _ hf, by
          have e0 : nbrRow bes bs i c 0 = [] := rfl
          rw [e0, List.append_nil]
          exact mI2.pd ((Ex.new hT).trans e2) hp⟩) (fun j σ' H' ⟨_, _, _, e, _⟩ => hvs1 e) (fun j x' T2 σ' H2 hx' ⟨y4, y5, eσ, e2, fv2, hf2, hp2⟩ hT2 => ?_) (fun σ' H2 ⟨y4, y5, eσ, e2, fv2, hf2, hp2⟩ => ⟨_, _, _, _, eσ, e2, fv2, hf2, ?_⟩)
      · subst eσ
        obtain ⟨d, hd, hxd⟩ := pd_at hpd hx'
        have jl : j < bs.length := (List.getElem?_eq_some_iff.mp hd).1
        refine gp upd_same ?_
        have e3 := e2.ex (Ex.new hT2 (o := .tup [.int (j : Nat), x']))
        have C := ev_box (K := K) (i := 3) (σ := [some (.ref pa), some (.ref o), some (.int (i : Nat)), some x, some (.int (j : Nat)), some x']) rfl (bxs e3 hxc)
        have D' := ev_box (K := K) (i := 5) (σ := [some (.ref pa), some (.ref o), some (.int (i : Nat)), some x, some (.int (j : Nat)), some x']) rfl (bxs e3 hxd)
        have hf3 := (Ex.new hT2 (o := .tup [.int (j : Nat), x'])) _ _ hf2
        have hp3 := mI2.pd (Ex.new hT2 (o := .tup [.int (j : Nat), x'])) hp2
        refine s_if (et_and (et_test (ev_op C.2.2.1 D'.1 (rv_eq rfl))) (fun _ => et_and (et_test (ev_op C.2.1 D'.2.2.2 (rv_I0 (g := fun i j => .bl (decide (i < j)))))) (fun _ => et_test (ev_op D'.2.1 C.2.2.2 (rv_I0 (g := fun i j => .bl (decide (i < j)))))))) (fun hb' H4 e4 => ?_) (fun hb' H4 e4 => ?_)
        · have h1 := (Bool.and_eq_true _ _).mp hb'
          have h2 := (Bool.and_eq_true _ _).mp h1.2
          have hR : bes c d := ⟨V.int.inj (of_decide_eq_true h1.1), of_decide_eq_true h2.1, of_decide_eq_true h2.2⟩
          have lf : fv2.length < 100000 := by
            have l1 := pd_len hp2
            rw [List.length_append] at l1
            have l2 := nbr_len (R := bes) bs i
            have l3 := nbrRow_len (R := bes) (bs := bs) (i := i) (c := c) j
            have l4 := Nat.mul_le_mul (Nat.le_of_lt il) (Nat.le_refl bs.length)
            have l5 := Nat.mul_le_mul hz hz
            omega
          refine p_app (P := fun v H' => I2 H' v ((i : Int), (j : Int))) (e4 _ _ hf3) (ev_var rfl) (evp_i2 (ea_cons (ev_var rfl) (ea_cons (ev_var rfl) ea_nil))) lf fun v H5 e5 hv5 => ⟨_, _, rfl, (e3.ex (e4.trans e5)).upd, fv2 ++ [v], upd_same, ?_⟩
          rw [nbrRow_yes hd hR, ← List.append_assoc]
          exact bI2.pd (e5 _ _ (e4 _ _ hf3)) (ExB.upd (ExB.refl _ _)) (pd_app (mI2.pd (e4.trans e5) hp3) (pd_one hv5))
        · refine ⟨_, _, rfl, e3.ex e4, fv2, e4 _ _ hf3, ?_⟩
          rw [nbrRow_no hd (fun ⟨g1, g2, g3⟩ => by
            rw [decide_eq_true (congrArg V.int g1), decide_eq_true g2, decide_eq_true g3] at hb'
            cases hb')]
          exact mI2.pd e4 hp3
      · rw [nbr_succ hc, ← hl]; exact hp2
    · subst eσ
      rw [hl] at hp
      exact s_ret (ev_var rfl) fun H3 e3 => q o _ ((ExB.back e1 no e).trans e3) no ⟨fv, e3 _ _ hf, mI2.pd e3 hp⟩

/-! ### beneath -/
abbrev sBen : Stmt := topS 11
abbrev NBen : List Str := ["page", "found", "one", "box", "other", "lower"]
theorem scBen : FnScope ["page", "found", "one", "box", "other", "lower"] ["page"] (defScope sBen) := ⟨rfl, rfl, rfl, by decide +kernel, rfl, by decide +kernel, by decide +kernel⟩
def spBen : Sp := fun vs H Q _ => ∃ (v : V) (W Hh : Int) (bs : List Bx), vs = [v] ∧ Pg H v W Hh bs ∧ bs.length ≤ 24 ∧ ∀ (p : Addr) H', Ex H H' → H p = none → LsI I2 H' p (nbr bnt bs bs.length) → Q (.ref p) H'
theorem ok_ben {f : Addr} {fd : FuncData} {k : Nat} (F : Fun K "beneath" "beneath" sBen f fd) (T : Txt mg) : FnOk P w K mg base CX0 (k + 1) f fd ["page"] spBen := by
  refine F.ok scBen (fun vs H Q E h => ?_) (fun cdv A outer s H vs Q E hr h => ?_)
  · obtain ⟨v, W, Hh, bs, rfl, _⟩ := h; rfl
  · obtain ⟨v, W, Hh, bs, rfl, hp, hz, q⟩ := h
    refine ⟨_, (pss_cons (ps_set (i := 1) scBen.nd rfl (.inl rfl) (pe_lst pa_nil))
 (pss_cons (ps_for PassesOwn.never rfl (pi_enumT rfl T.enumerate (pa_cons (pe_ix ix_tup (pv 0) pe_int (fun _ _ => rfl)) pa_nil)) (pg_tup rfl (pgs_cons (pg_name (i := 2) scBen.nd rfl (.inl rfl)) (pgs_cons (pg_name (i := 3) scBen.nd rfl (.inl rfl)) pgs_nil))) (pss_one (ps_for PassesOwn.never rfl (pi_enumT rfl T.enumerate (pa_cons (pe_ix ix_tup (pv 0) pe_int (fun _ _ => rfl)) pa_nil)) (pg_tup rfl (pgs_cons (pg_name (i := 4) scBen.nd rfl (.inl rfl)) (pgs_cons (pg_name (i := 5) scBen.nd rfl (.inl rfl)) pgs_nil))) (pss_one (ps_if (PW.pt (pw_and (pt_cmpR op_eq (pe_ix ix_tup (pv 3) pe_int (fun _ _ => rfl)) (pe_ix ix_tup (pv 5) pe_int (fun _ _ => rfl)) (nomark _)) (pw_and (pt_cmpR op_lt (pe_ix ix_tup (pv 3) pe_int (fun _ _ => rfl)) (pe_ix ix_tup (pv 5) pe_int (fun _ _ => rfl)) (nomark _)) (pw_and1 (pt_cmpR op_lt (pe_ix ix_tup (pv 5) pe_int (fun _ _ => rfl)) (pe_ix ix_tup (pv 3) pe_int (fun _ _ => rfl)) (nomark _)))))) (pss_one (ps_expr (pe_bm PySem.F.plainAttrs_list PySem.F.slot_list_append PySem.F.type_list_append mt_append (pv 1) (pa_cons (pe_tup (pa_cons (pv 2) (pa_cons (pv 4) pa_nil))) pa_nil)))) pss_nil)))))
 (pss_one (ps_ret (pv 1))))), ?_⟩
    obtain ⟨pa, b, rfl, hpa, vs, hvs, hpd⟩ := hp
    have hl := pd_len hpd
    refine q_asgL (el_lst ea_nil (by decide)) fun o H1 no e1 ho => ?_
    have nb : b ≠ o := ne_of_none hvs no
    have hb : ∀ {σ : L2.St} {H' : Hp}, ExB o H1 H' → σ[0]? = some (some (.ref pa)) → Ev (tOp (rIxT K) (tVar 0) (tC (.int 2))) σ H' (.ref b) := fun e hσ => ev_ixT (ev_var hσ) ev_c (e _ _ (ne_of_none hpa no) (e1 _ _ hpa)) at2
    have hvs1 : ∀ {H' : Hp}, ExB o H1 H' → H' b = some (.tup vs) := fun e => e _ _ nb (e1 _ _ hvs)
    have bxs : ∀ {H' : Hp} {v : V} {c : Bx}, ExB o H1 H' → I4 H v c → I4 H' v c := fun e h => bI4 o H1 _ _ _ _ ho e (h.mono e1)
    refine o_seq (s_forET (hb (ExB.refl o H1) rfl) (hvs1 (ExB.refl o H1)) (fun i σ H' => ∃ y2 y3 y4 y5, σ = [some (.ref pa), some (.ref o), y2, y3, y4, y5] ∧ ExB o H1 H' ∧ ∃ fv, H' o = some (.lst fv) ∧ Paired (I2 H') fv (nbr bnt bs i))
      (fun H2 e2 => ⟨none, none, none, none, rfl, ExB.of e2, [], e2 _ _ ho, .nil⟩) (fun i σ' H' ⟨_, _, _, _, _, e, _⟩ => hvs1 e) (fun i x T' σ' H' hx ⟨y2, y3, y4, y5, eσ, e, fv, hf, hp⟩ hT => ?_) (fun σ' H' ⟨y2, y3, y4, y5, eσ, e, fv, hf, hp⟩ => ?_))
    · subst eσ
      obtain ⟨c, hc, hxc⟩ := pd_at hpd hx
      have il : i < bs.length := (List.getElem?_eq_some_iff.mp hc).1
      refine gp upd_same ?_
      have eT := e.ex (Ex.new hT (o := .tup [.int (i : Nat), x]))
      refine s_forET (hb eT rfl) (hvs1 eT) (fun j σ H' => ∃ y4 y5, σ = [some (.ref pa), some (.ref o), some (.int (i : Nat)), some x, y4, y5] ∧ ExB o H1 H' ∧ ∃ fv, H' o = some (.lst fv) ∧ Paired (I2 H') fv (nbr bnt bs i ++ nbrRow bnt bs i c j))
        (fun H2 e2 => ⟨y4, y5, rfl, eT.ex e2, fv, ((Ex.new hT).trans e2) _ _ hf, by
          have e0 : nbrRow bnt bs i c 0 = [] := rfl
          rw [e0, List.append_nil]
          exact mI2.pd ((Ex.new hT).trans e2) hp⟩) (fun j σ' H' ⟨_, _, _, e, _⟩ => hvs1 e) (fun j x' T2 σ' H2 hx' ⟨y4, y5, eσ, e2, fv2, hf2, hp2⟩ hT2 => ?_) (fun σ' H2 ⟨y4, y5, eσ, e2, fv2, hf2, hp2⟩ => ⟨_, _, _, _, eσ, e2, fv2, hf2, ?_⟩)
      · subst eσ
        obtain ⟨d, hd, hxd⟩ := pd_at hpd hx'
        have jl : j < bs.length := (List.getElem?_eq_some_iff.mp hd).1
        refine gp upd_same ?_
        have e3 := e2.ex (Ex.new hT2 (o := .tup [.int (j : Nat), x']))
        have C := ev_box (K := K) (i := 3) (σ := [some (.ref pa), some (.ref o), some (.int (i : Nat)), some x, some (.int (j : Nat)), some x']) rfl (bxs e3 hxc)
        have D' := ev_box (K := K) (i := 5) (σ := [some (.ref pa), some (.ref o), some (.int (i : Nat)), some x, some (.int (j : Nat)), some x']) rfl (bxs e3 hxd)
        have hf3 := (Ex.new hT2 (o := .tup [.int (j : Nat), x'])) _ _ hf2
        have hp3 := mI2.pd (Ex.new hT2 (o := .tup [.int (j : Nat), x'])) hp2
        refine s_if (et_and (et_test (ev_op C.2.2.2 D'.2.1 (rv_eq rfl))) (fun _ => et_and (et_test (ev_op C.1 D'.2.2.1 (rv_I0 (g := fun i j => .bl (decide (i < j)))))) (fun _ => et_test (ev_op D'.1 C.2.2.1 (rv_I0 (g := fun i j => .bl (decide (i < j)))))))) (fun hb' H4 e4 => ?_) (fun hb' H4 e4 => ?_)
        · have h1 := (Bool.and_eq_true _ _).mp hb'
          have h2 := (Bool.and_eq_true _ _).mp h1.2
          have hR : bnt c d := ⟨V.int.inj (of_decide_eq_true h1.1), of_decide_eq_true h2.1, of_decide_eq_true h2.2⟩
          have lf : fv2.length < 100000 := by
            have l1 := pd_len hp2
            rw [List.length_append] at l1
            have l2 := nbr_len (R := bnt) bs i
            have l3 := nbrRow_len (R := bnt) (bs := bs) (i := i) (c := c) j
            have l4 := Nat.mul_le_mul (Nat.le_of_lt il) (Nat.le_refl bs.length)
            have l5 := Nat.mul_le_mul hz hz
            omega
          refine p_app (P := fun v H' => I2 H' v ((i : Int), (j : Int))) (e4 _ _ hf3) (ev_var rfl) (evp_i2 (ea_cons (ev_var rfl) (ea_cons (ev_var rfl) ea_nil))) lf fun v H5 e5 hv5 => ⟨_, _, rfl, (e3.ex (e4.trans e5)).upd, fv2 ++ [v], upd_same, ?_⟩
          rw [nbrRow_yes hd hR, ← List.append_assoc]
          exact bI2.pd (e5 _ _ (e4 _ _ hf3)) (ExB.upd (ExB.refl _ _)) (pd_app (mI2.pd (e4.trans e5) hp3) (pd_one hv5))
        · refine ⟨_, _, rfl, e3.ex e4, fv2, e4 _ _ hf3, ?_⟩
          rw [nbrRow_no hd (fun ⟨g1, g2, g3⟩ => by
            rw [decide_eq_true (congrArg V.int g1), decide_eq_true g2, decide_eq_true g3] at hb'
            cases hb')]
          exact mI2.pd e4 hp3
      · rw [nbr_succ hc, ← hl]; exact hp2
    · subst eσ
      rw [hl] at hp
      exact s_ret (ev_var rfl) fun H3 e3 => q o _ ((ExB.back e1 no e).trans e3) no ⟨fv, e3 _ _ hf, mI2.pd e3 hp⟩
end
end K14

/-! Walks: _law_grown, _law_grid. -/
namespace K14
open PySem PySem.Spec PyProof.Rows L2 Evl
section
variable {P : Program} {w : World} {base : Heap} {mg : Str → Option Value} {K : PySem.W.Frag}
/-! ### _law_grown -/
abbrev sGrown : Stmt := topS 15
abbrev NGrown : List Str := ["boxes", "at", "way", "many", "left", "top", "right", "below", "strip", "found", "k", "a", "b", "c", "d"]
theorem scGrown : FnScope ["boxes", "at", "way", "many", "left", "top", "right", "below", "strip", "found", "k", "a", "b", "c", "d"] ["boxes", "at", "way", "many"] (defScope sGrown) := ⟨rfl, rfl, rfl, by decide +kernel, rfl, by decide +kernel, by decide +kernel⟩
def pick (a b c d : Int) : Nat → Int
  | 0 => a
  | 1 => b
  | 2 => c
  | _ => d
theorem at_pick {a b c d : Int} {way : Nat} (h : way < 4) : atI [V.int a, V.int b, V.int c, V.int d] (way : Int) = some (V.int (pick a b c d way)) := by
  match way, h with
  | 0, _ => exact atI_nat (j := 0) rfl
  | 1, _ => exact atI_nat (j := 1) rfl
  | 2, _ => exact atI_nat (j := 2) rfl
  | 3, _ => exact atI_nat (j := 3) rfl
theorem clip_pick {s d : Bx} {way : Nat} (h : way < 4) : clip s way d = ⟨pick s.r d.l d.l d.l way, pick d.t d.t s.b d.t way, pick d.r s.l d.r d.r way, pick d.b d.b d.b s.t way⟩ := by
  match way, h with
  | 0, _ => rfl
  | 1, _ => rfl
  | 2, _ => rfl
  | 3, _ => rfl
theorem ev_pick {σ : L2.St} {H : Hp} {ta : TA} {tb : TE} {a b c d : Int} {way : Nat} (ha : EvA ta σ H [.int a, .int b, .int c, .int d]) (hb : ∀ H1, Ex H H1 → Ev tb σ H1 (.int (way : Int))) (h : way < 4) : Ev (tOp (rIxL K) (tLst ta) tb) σ H (.int (pick a b c d way)) :=
  ev_opL1 (el_lst ha (by show (4 : Nat) ≤ 100000; decide)) hb fun p H1 hp _ => rv_ixL (sq_of hp) (at_pick h)
theorem ev_min2 {σ : L2.St} {H : Hp} {ta tb : TE} {i j : Int} (ha : Ev ta σ H (.int i)) (hb : Ev tb σ H (.int j)) : Ev (tCB (fun xs H Q => ∃ i j, xs = [.int i, .int j] ∧ Q (.int (if j < i then j else i)) H) (tCons ta (tCons tb tNil))) σ H (.int (mn i j)) :=
  ev_cb (ea_cons ha (ea_cons hb ea_nil)) fun H1 _ Q q => ⟨i, j, rfl, q H1 (Ex.refl H1)⟩
theorem ev_max2 {σ : L2.St} {H : Hp} {ta tb : TE} {i j : Int} (ha : Ev ta σ H (.int i)) (hb : Ev tb σ H (.int j)) : Ev (tCB (fun xs H Q => ∃ i j, xs = [.int i, .int j] ∧ Q (.int (if j > i then j else i)) H) (tCons ta (tCons tb tNil))) σ H (.int (mx i j)) :=
  ev_cb (ea_cons ha (ea_cons hb ea_nil)) fun H1 _ Q q => ⟨i, j, rfl, q H1 (Ex.refl H1)⟩
theorem ev_minT {σ : L2.St} {H : Hp} {ta : TE} {a : Addr} {x y z u : Int} (ha : Ev ta σ H (.ref a)) (h : H a = some (.tup [.int x, .int y, .int z, .int u])) : Ev (tCB (rMinT K) (tCons ta tNil)) σ H (.int (min (min (min x y) z) u)) :=
  ev_cb (ea_cons ha ea_nil) fun H1 e Q q => ⟨a, x, [y, z, u], rfl, st_of (e _ _ h), q H1 (Ex.refl H1)⟩
theorem ev_maxT {σ : L2.St} {H : Hp} {ta : TE} {a : Addr} {x y z u : Int} (ha : Ev ta σ H (.ref a)) (h : H a = some (.tup [.int x, .int y, .int z, .int u])) : Ev (tCB (rMaxT K) (tCons ta tNil)) σ H (.int (max (max (max x y) z) u)) :=
  ev_cb (ea_cons ha ea_nil) fun H1 e Q q => ⟨a, x, [y, z, u], rfl, st_of (e _ _ h), q H1 (Ex.refl H1)⟩
/-- an if whose ways meet -/
theorem q_mid {tu tz : TS} {D : Ends} {σ : L2.St} {H : Hp} (Mid : L2.St → Hp → Prop) (h : ∀ nx : L2.St → Hp → Prop, (∀ σ' H', Mid σ' H' → nx σ' H') → tu { D with nx := nx } σ H) (k : ∀ σ' H', Mid σ' H' → tz D σ' H') : tSeq tu tz D σ H := h _ k
def spGrown : Sp := fun vs H Q _ => ∃ (a : Addr) (bs : List Bx) (i way : Nat) (c : Bx), vs = [.ref a, .int (i : Int), .int (way : Int), .int 12] ∧ LsI I4 H a bs ∧ Part 12 12 bs ∧ bs.length ≤ 24 ∧ bs[i]? = some c ∧ way < 4 ∧
  ∀ (p : Addr) (bs' : List Bx) H', Ex H H' → LsI I4 H' p bs' → Part 12 12 bs' → bs'.length ≤ 24 → Q (.ref p) H'
theorem ok_grown {f : Addr} {fd : FuncData} {k : Nat} (F : Fun K "_law_grown" "_law_grown" sGrown f fd) (T : Txt mg) : FnOk P w K mg base CX0 (k + 1) f fd ["boxes", "at", "way", "many"] spGrown := by
  refine F.ok scGrown (fun vs H Q E h => ?_) (fun cdv A outer s H vs Q E hr h => ?_)
  · obtain ⟨a, bs, i, way, c, rfl, _⟩ := h; rfl
  · obtain ⟨a, bs, i, way, c, rfl, ⟨vs, hvs, hpd⟩, part, hz, hc, hw, q⟩ := h
    refine ⟨_, (pss_cons (ps_asg (pe_ix ix_list (pv 0) (pv 1) (fun _ _ => rfl)) (pg_tup rfl (pgs_cons (pg_name (i := 4) scGrown.nd rfl (.inl rfl)) (pgs_cons (pg_name (i := 5) scGrown.nd rfl (.inl rfl)) (pgs_cons (pg_name (i := 6) scGrown.nd rfl (.inl rfl)) (pgs_cons (pg_name (i := 7) scGrown.nd rfl (.inl rfl)) pgs_nil))))))
 (pss_cons (ps_set (i := 8) scGrown.nd rfl (.inl rfl) (pe_lst (pa_cons (pe_tup (pa_cons (pv 6) (pa_cons (pv 5) (pa_cons (pe_op op_add (pv 6) pe_int) (pa_cons (pv 7) pa_nil))))) (pa_cons (pe_tup (pa_cons (pe_op op_sub (pv 4) pe_int) (pa_cons (pv 5) (pa_cons (pv 4) (pa_cons (pv 7) pa_nil))))) pa_nil))))
 (pss_cons (ps_set (i := 8) scGrown.nd rfl (.inl rfl) (pe_ix ix_list (pe_op op_cat (pv 8) (pe_lst (pa_cons (pe_tup (pa_cons (pv 4) (pa_cons (pv 7) (pa_cons (pv 6) (pa_cons (pe_op op_add (pv 7) pe_int) pa_nil))))) (pa_cons (pe_tup (pa_cons (pv 4) (pa_cons (pe_op op_sub (pv 5) pe_int) (pa_cons (pv 6) (pa_cons (pv 5) pa_nil))))) pa_nil)))) (pv 2) (fun _ _ => rfl)))
 (pss_cons (ps_if (PW.pt (pw_or (pt_cmpR op_lt (pe_callB (cr_minT rfl (hu_of hr)) (by rfl) T.min (by decide +kernel) (pa_cons (pv 8) pa_nil)) pe_int (nomark _)) (pw_or1 (pt_cmpR op_gt (pe_callB (cr_maxT rfl (hu_of hr)) (by rfl) T.max (by decide +kernel) (pa_cons (pv 8) pa_nil)) (pv 3) (nomark _))))) (pss_one (ps_ret (pv 0))) pss_nil)
 (pss_cons (ps_set (i := 9) scGrown.nd rfl (.inl rfl) (pe_lst pa_nil))
 (pss_cons (ps_for PassesOwn.never rfl (pi_range1 rfl T.range (pa_cons (pe_callB call_len_seq (by rfl) T.len PySem.boot_len (pa_cons (pv 0) pa_nil)) pa_nil)) (pg_name (i := 10) scGrown.nd rfl (.inl rfl)) (pss_cons (ps_asg (pe_ix ix_list (pv 0) (pv 10) (fun _ _ => rfl)) (pg_tup rfl (pgs_cons (pg_name (i := 11) scGrown.nd rfl (.inl rfl)) (pgs_cons (pg_name (i := 12) scGrown.nd rfl (.inl rfl)) (pgs_cons (pg_name (i := 13) scGrown.nd rfl (.inl rfl)) (pgs_cons (pg_name (i := 14) scGrown.nd rfl (.inl rfl)) pgs_nil))))))
 (pss_cons (ps_if (pt_cmpR op_eq (pv 10) (pv 1) (nomark _)) (pss_one (ps_asg (pe_tup (pa_cons (pe_callB (call_min2 rfl) (by rfl) T.min (by decide +kernel) (pa_cons (pv 11) (pa_cons (pe_ix ix_tup (pv 8) pe_int (fun _ _ => rfl)) pa_nil))) (pa_cons (pe_callB (call_min2 rfl) (by rfl) T.min (by decide +kernel) (pa_cons (pv 12) (pa_cons (pe_ix ix_tup (pv 8) pe_int (fun _ _ => rfl)) pa_nil))) (pa_cons (pe_callB (call_max2 rfl) (by rfl) T.max (by decide +kernel) (pa_cons (pv 13) (pa_cons (pe_ix ix_tup (pv 8) pe_int (fun _ _ => rfl)) pa_nil))) (pa_cons (pe_callB (call_max2 rfl) (by rfl) T.max (by decide +kernel) (pa_cons (pv 14) (pa_cons (pe_ix ix_tup (pv 8) pe_int (fun _ _ => rfl)) pa_nil))) pa_nil))))) (pg_tup rfl (pgs_cons (pg_name (i := 11) scGrown.nd rfl (.inl rfl)) (pgs_cons (pg_name (i := 12) scGrown.nd rfl (.inl rfl)) (pgs_cons (pg_name (i := 13) scGrown.nd rfl (.inl rfl)) (pgs_cons (pg_name (i := 14) scGrown.nd rfl (.inl rfl)) pgs_nil))))))) (pss_one (ps_if (PW.pt (pw_and (pt_cmpR op_lt (pv 11) (pe_ix ix_tup (pv 8) pe_int (fun _ _ => rfl)) (nomark _)) (pw_and (pt_cmpR op_lt (pe_ix ix_tup (pv 8) pe_int (fun _ _ => rfl)) (pv 13) (nomark _)) (pw_and (pt_cmpR op_lt (pv 12) (pe_ix ix_tup (pv 8) pe_int (fun _ _ => rfl)) (nomark _)) (pw_and1 (pt_cmpR op_lt (pe_ix ix_tup (pv 8) pe_int (fun _ _ => rfl)) (pv 14) (nomark _))))))) (pss_cons (ps_if (PW.pt (pw_or (PW.pt (pw_and (pt_cmpR op_lt (pv 2) pe_int (nomark _)) (pw_and1 (PW.pt (pw_or (pt_cmpR op_lt (pv 12) (pv 5) (nomark _)) (pw_or1 (pt_cmpR op_gt (pv 14) (pv 7) (nomark _)))))))) (pw_or1 (PW.pt (pw_and (pt_cmpR op_gt (pv 2) pe_int (nomark _)) (pw_and1 (PW.pt (pw_or (pt_cmpR op_lt (pv 11) (pv 4) (nomark _)) (pw_or1 (pt_cmpR op_gt (pv 13) (pv 6) (nomark _))))))))))) (pss_one (ps_ret (pv 0))) pss_nil)
 (pss_cons (ps_set (i := 11) scGrown.nd rfl (.inl rfl) (pe_ix ix_list (pe_lst (pa_cons (pe_ix ix_tup (pv 8) pe_int (fun _ _ => rfl)) (pa_cons (pv 11) (pa_cons (pv 11) (pa_cons (pv 11) pa_nil))))) (pv 2) (fun _ _ => rfl)))
 (pss_cons (ps_set (i := 13) scGrown.nd rfl (.inl rfl) (pe_ix ix_list (pe_lst (pa_cons (pv 13) (pa_cons (pe_ix ix_tup (pv 8) pe_int (fun _ _ => rfl)) (pa_cons (pv 13) (pa_cons (pv 13) pa_nil))))) (pv 2) (fun _ _ => rfl)))
 (pss_cons (ps_set (i := 12) scGrown.nd rfl (.inl rfl) (pe_ix ix_list (pe_lst (pa_cons (pv 12) (pa_cons (pv 12) (pa_cons (pe_ix ix_tup (pv 8) pe_int (fun _ _ => rfl)) (pa_cons (pv 12) pa_nil))))) (pv 2) (fun _ _ => rfl)))
 (pss_one (ps_set (i := 14) scGrown.nd rfl (.inl rfl) (pe_ix ix_list (pe_lst (pa_cons (pv 14) (pa_cons (pv 14) (pa_cons (pv 14) (pa_cons (pe_ix ix_tup (pv 8) pe_int (fun _ _ => rfl)) pa_nil))))) (pv 2) (fun _ _ => rfl)))))))) pss_nil)))
 (pss_one (ps_if (PW.pt (pw_and (pt_cmpR op_lt (pv 11) (pv 13) (nomark _)) (pw_and1 (pt_cmpR op_lt (pv 12) (pv 14) (nomark _))))) (pss_one (ps_expr (pe_bm PySem.F.plainAttrs_list PySem.F.slot_list_append PySem.F.type_list_append mt_append (pv 9) (pa_cons (pe_tup (pa_cons (pv 11) (pa_cons (pv 12) (pa_cons (pv 13) (pa_cons (pv 14) pa_nil))))) pa_nil)))) pss_nil)))))
 (pss_one (ps_ret (pv 9))))))))), ?_⟩
    have hl := pd_len hpd
    have il := (List.getElem?_eq_some_iff.mp hc).1
    obtain ⟨u, hu, huc⟩ := pd_of hpd hc
    refine p_unp (P := fun z _ => z = u) (ev_p (ev_ixL (ev_var rfl) (ev_var rfl) (sq_of hvs) (atI_nat hu))) fun z H1 e1 ez => ?_
    subst ez
    refine g4 (huc.mono e1) ?_
    have box : ∀ {σ : L2.St} {H' : Hp} {ta tb tc td : TE} {a b d e : Int}, Ev ta σ H' (.int a) → Ev tb σ H' (.int b) → Ev tc σ H' (.int d) → Ev td σ H' (.int e) → EvP (tTup (tCons ta (tCons tb (tCons tc (tCons td tNil))))) σ H' fun v H' => I4 H' v ⟨a, b, d, e⟩ :=
      fun h1 h2 h3 h4 => evp_i4 (ea_cons h1 (ea_cons h2 (ea_cons h3 (ea_cons h4 ea_nil))))
    refine p_asg (evp_lst (xs := [strip c 0, strip c 1]) mI4 (eas_cons mI4 (box (ev_var rfl) (ev_var rfl) (ev_add (ev_var rfl) ev_c) (ev_var rfl)) (eas_cons mI4 (box (ev_sub (ev_var rfl) ev_c) (ev_var rfl) (ev_var rfl) (ev_var rfl)) eas_nil)) (by show (2 : Nat) ≤ 100000; decide)) fun z H2 e2 ⟨p2, ez, _, hp2⟩ => ?_
    subst ez
    refine p_asg (P := fun v H' => I4 H' v (strip c way)) (fun H3 e3 Q' q' => ?_) fun sv H3 e3 hs => ?_
    · refine o_op (o_op ?_)
      refine ev_var (v := .ref p2) rfl H3 (Ex.refl _) _ fun H4 e4 => ?_
      refine evp_lst (xs := [strip c 2, strip c 3]) mI4 (eas_cons mI4 (box (ev_var rfl) (ev_var rfl) (ev_var rfl) (ev_add (ev_var rfl) ev_c)) (eas_cons mI4 (box (ev_var rfl) (ev_sub (ev_var rfl) ev_c) (ev_var rfl) (ev_var rfl)) eas_nil)) (by show (2 : Nat) ≤ 100000; decide) H4 (Ex.refl _) _ fun z H5 e5 ⟨p5, ez, _, v5, hv5, hd5⟩ => ?_
      subst ez
      obtain ⟨v2, hv2, hd2⟩ := hp2.mono mI4 ((e3.trans e4).trans e5)
      refine ⟨p2, p5, v2, v5, rfl, rfl, hv2, hv5, by rw [pd_len hd2, pd_len hd5]; exact sz_of (show (4 : Nat) ≤ 100000 by decide), fun p hpn => ?_⟩
      have hall := pd_app hd2 hd5
      refine ev_var (v := .int (way : Int)) rfl _ (Ex.refl _) _ fun H6 e6 => ?_
      have hstr : ([strip c 0, strip c 1] ++ [strip c 2, strip c 3])[way]? = some (strip c way) := by
        match way, hw with
        | 0, _ => rfl
        | 1, _ => rfl
        | 2, _ => rfl
        | 3, _ => rfl
      obtain ⟨sv, hsv, hsv'⟩ := pd_of hall hstr
      refine ⟨p, v2 ++ v5, (way : Int), sv, rfl, rfl, sq_of (e6 _ _ upd_same), atI_nat hsv, q' _ _ ((e4.trans e5).trans ((Ex.new hpn).trans e6)) (hsv'.mono ((Ex.new hpn).trans e6))⟩
    obtain ⟨pS, es, hS⟩ := hs
    subst es
    have e03 := (e1.trans e2).trans e3
    refine q_when (et_or (et_test (ev_op (ev_minT (ev_var rfl) hS) ev_c (rv_I0 (g := fun i j => .bl (decide (i < j)))))) (fun _ => et_test (ev_op (ev_maxT (ev_var rfl) hS) (ev_var rfl) (rv_I0 (g := fun i j => .bl (decide (j < i))))))) (fun _ H4 e4 => ?_) (fun hb H4 e4 => ?_)
    · exact s_ret (ev_var rfl) fun H5 e5 => q a bs _ ((e03.trans e4).trans e5) (LsI.mono mI4 ((e03.trans e4).trans e5) ⟨vs, hvs, hpd⟩) part hz
    have hlim : 0 ≤ (strip c way).l ∧ 0 ≤ (strip c way).t ∧ (strip c way).r ≤ 12 ∧ (strip c way).b ≤ 12 := by
      have h1 := Bool.or_eq_false_iff.mp hb
      have h2 := of_decide_eq_false h1.1
      have h3 := of_decide_eq_false h1.2
      omega
    clear hb
    refine q_asgL (el_lst ea_nil (by decide)) fun o H5 no e5 ho => ?_
    have e04 := e03.trans e4
    have e05 := e04.trans e5
    have nao : a ≠ o := ne_of_none (e04 _ _ hvs) no
    have hvs5 : ∀ {H' : Hp}, ExB o H5 H' → H' a = some (.lst vs) := fun e => e _ _ nao (e05 _ _ hvs)
    have hS5 : ∀ {H' : Hp}, ExB o H5 H' → H' pS = some (.tup [.int (strip c way).l, .int (strip c way).t, .int (strip c way).r, .int (strip c way).b]) := fun e => e _ _ (ne_of_none (e4 _ _ hS) no) ((e4.trans e5) _ _ hS)
    have bxs : ∀ {H' : Hp} {v : V} {c : Bx}, ExB o H5 H' → I4 H v c → I4 H' v c := fun e h => bI4 o H5 _ _ _ _ ho e (h.mono e05)
    have ebs : ∀ {H' : Hp}, ExB o H5 H' → Ex H H' := fun e => e04.trans (ExB.back e5 no e)
    generalize hs : strip c way = s at hlim hS5
    refine q_forR1 (n := (bs.length : Int)) (ea_cons (by rw [← hl]; exact ev_lenS (ev_var rfl) (.inl (sq_of (e05 _ _ hvs)))) ea_nil) (by omega) (fun j σ H' => ∃ y10 y11 y12 y13 y14, σ = [some (.ref a), some (.int (i : Int)), some (.int (way : Int)), some (.int 12), some (.int c.l), some (.int c.t), some (.int c.r), some (.int c.b), some (.ref pS), some (.ref o), y10, y11, y12, y13, y14] ∧ ExB o H5 H' ∧
      (∃ fv, H' o = some (.lst fv) ∧ Paired (I4 H') fv (gro bs s i way j)) ∧ ∀ m d, m < j → bs[m]? = some d → m ≠ i → meets d s → ¬ sticks c way d)
      (fun H6 e6 => ⟨none, none, none, none, none, rfl, ExB.of e6, ⟨[], e6 _ _ ho, .nil⟩, fun m d z => absurd z (Nat.not_lt_zero m)⟩) (fun j σ' H' hj ⟨y10, y11, y12, y13, y14, eσ, e, ⟨fv, hf, hp⟩, hst⟩ => ?_) (fun σ' H' ⟨y10, y11, y12, y13, y14, eσ, e, ⟨fv, hf, hp⟩, hst⟩ => ?_)
    · subst eσ
      have jl : j < bs.length := by omega
      obtain ⟨d, hd⟩ : ∃ d, bs[j]? = some d := ⟨_, List.getElem?_eq_getElem jl⟩
      obtain ⟨u, hu, hud⟩ := pd_of hpd hd
      refine p_unp (P := fun z _ => z = u) (ev_p (ev_ixL (ev_var rfl) (ev_var rfl) (sq_of (hvs5 e)) (atI_nat hu))) fun z H6 e6 ez => ?_
      subst ez
      have e6' := e.ex e6
      refine g4 (bxs e6' hud) ?_
      have S : ∀ {σ : L2.St} {H' : Hp}, ExB o H5 H' → σ[8]? = some (some (.ref pS)) → Ev (tOp (rIxT K) (tVar 8) (tC (.int 0))) σ H' (.int s.l) ∧ Ev (tOp (rIxT K) (tVar 8) (tC (.int 1))) σ H' (.int s.t) ∧ Ev (tOp (rIxT K) (tVar 8) (tC (.int 2))) σ H' (.int s.r) ∧ Ev (tOp (rIxT K) (tVar 8) (tC (.int 3))) σ H' (.int s.b) := fun e hσ => ev_box hσ ⟨pS, rfl, hS5 e⟩
      refine q_mid (fun σ' H' => ∃ g : Bx, g = newb s i way j d ∧ σ' = [some (.ref a), some (.int (i : Int)), some (.int (way : Int)), some (.int 12), some (.int c.l), some (.int c.t), some (.int c.r), some (.int c.b), some (.ref pS), some (.ref o), some (.int (j : Int)), some (.int g.l), some (.int g.t), some (.int g.r), some (.int g.b)] ∧ Ex H6 H' ∧ (j ≠ i → meets d s → ¬ sticks c way d)) (fun nx hnx => ?_) (fun σ' H' ⟨g, eg, eσ, e7, hns⟩ => ?_)
      · refine s_if (b := decide (V.int (j : Int) = V.int (i : Int))) (et_test (ev_op (ev_var rfl) (ev_var rfl) (rv_eq rfl))) (fun hb H7 e7 => ?_) (fun hb H7 e7 => ?_)
        · have eji : j = i := by have := V.int.inj (of_decide_eq_true hb); omega
          have S7 := S (σ := [some (.ref a), some (.int (i : Int)), some (.int (way : Int)), some (.int 12), some (.int c.l), some (.int c.t), some (.int c.r), some (.int c.b), some (.ref pS), some (.ref o), some (.int (j : Int)), some (.int d.l), some (.int d.t), some (.int d.r), some (.int d.b)]) (e6'.ex e7) rfl
          refine box (a := (hull d s).l) (b := (hull d s).t) (d := (hull d s).r) (e := (hull d s).b) (ev_min2 (ev_var rfl) S7.1) (ev_min2 (ev_var rfl) S7.2.1) (ev_max2 (ev_var rfl) S7.2.2.1) (ev_max2 (ev_var rfl) S7.2.2.2) H7 (Ex.refl _) _ fun z H8 e8 hz8 => ?_
          refine g4 hz8 (hnx _ _ ⟨hull d s, by unfold newb; rw [if_pos eji], rfl, e7.trans e8, fun z => (z eji).elim⟩)
        · have eji : j ≠ i := fun z => of_decide_eq_false hb (by rw [z])
          have S7 := S (σ := [some (.ref a), some (.int (i : Int)), some (.int (way : Int)), some (.int 12), some (.int c.l), some (.int c.t), some (.int c.r), some (.int c.b), some (.ref pS), some (.ref o), some (.int (j : Int)), some (.int d.l), some (.int d.t), some (.int d.r), some (.int d.b)]) (e6'.ex e7) rfl
          refine s_if (et_and (et_test (ev_op (ev_var rfl) S7.2.2.1 (rv_I0 (g := fun i j => .bl (decide (i < j)))))) (fun _ => et_and (et_test (ev_op S7.1 (ev_var rfl) (rv_I0 (g := fun i j => .bl (decide (i < j)))))) (fun _ => et_and (et_test (ev_op (ev_var rfl) S7.2.2.2 (rv_I0 (g := fun i j => .bl (decide (i < j)))))) (fun _ => et_test (ev_op S7.2.1 (ev_var rfl) (rv_I0 (g := fun i j => .bl (decide (i < j))))))))) (fun hb' H8 e8 => ?_) (fun hb' H8 e8 => ?_)
          · have h1 := (Bool.and_eq_true _ _).mp hb'
            have h2 := (Bool.and_eq_true _ _).mp h1.2
            have h3 := (Bool.and_eq_true _ _).mp h2.2
            have hm : meets d s := ⟨of_decide_eq_true h1.1, of_decide_eq_true h2.1, of_decide_eq_true h3.1, of_decide_eq_true h3.2⟩
            refine q_when (et_or (et_and (et_test (ev_op (ev_var rfl) ev_c (rv_I0 (g := fun i j => .bl (decide (i < j)))))) (fun _ => et_or (et_test (ev_op (ev_var rfl) (ev_var rfl) (rv_I0 (g := fun i j => .bl (decide (i < j)))))) (fun _ => et_test (ev_op (ev_var rfl) (ev_var rfl) (rv_I0 (g := fun i j => .bl (decide (j < i)))))))) (fun _ => et_and (et_test (ev_op (ev_var rfl) ev_c (rv_I0 (g := fun i j => .bl (decide (j < i)))))) (fun _ => et_or (et_test (ev_op (ev_var rfl) (ev_var rfl) (rv_I0 (g := fun i j => .bl (decide (i < j)))))) (fun _ => et_test (ev_op (ev_var rfl) (ev_var rfl) (rv_I0 (g := fun i j => .bl (decide (j < i))))))))) (fun _ H9 e9 => ?_) (fun hb9 H9 e9 => ?_)
            · have eF := ebs (e6'.ex ((e7.trans e8).trans e9))
              exact s_ret (ev_var rfl) fun H10 e10 => q a bs _ (eF.trans e10) (LsI.mono mI4 (eF.trans e10) ⟨vs, hvs, hpd⟩) part hz
            · have hns : ¬ sticks c way d := by
                intro hsk
                rw [Bool.or_eq_false_iff, Bool.and_eq_false_iff, Bool.and_eq_false_iff, Bool.or_eq_false_iff, Bool.or_eq_false_iff] at hb9
                simp only [decide_eq_false_iff_not] at hb9
                unfold sticks at hsk
                omega
              have S9 : ∀ {x11 x12 x13 x14 : Option V} {H' : Hp}, Ex H9 H' → _ := fun {x11 x12 x13 x14 H'} e' => S (H' := H') (σ := [some (.ref a), some (.int (i : Int)), some (.int (way : Int)), some (.int 12), some (.int c.l), some (.int c.t), some (.int c.r), some (.int c.b), some (.ref pS), some (.ref o), some (.int (j : Int)), x11, x12, x13, x14]) (e6'.ex (((e7.trans e8).trans e9).trans e')) rfl
              refine q_asg (ev_pick (ea_cons (S9 (Ex.refl _)).2.2.1 (ea_cons (ev_var rfl) (ea_cons (ev_var rfl) (ea_cons (ev_var rfl) ea_nil)))) (fun _ _ => ev_var rfl) hw) fun H10 e10 => ?_
              refine q_asg (ev_pick (ea_cons (ev_var rfl) (ea_cons (S9 e10).1 (ea_cons (ev_var rfl) (ea_cons (ev_var rfl) ea_nil)))) (fun _ _ => ev_var rfl) hw) fun H11 e11 => ?_
              refine q_asg (ev_pick (ea_cons (ev_var rfl) (ea_cons (ev_var rfl) (ea_cons (S9 (e10.trans e11)).2.2.2 (ea_cons (ev_var rfl) ea_nil)))) (fun _ _ => ev_var rfl) hw) fun H12 e12 => ?_
              refine s_asg (ev_pick (ea_cons (ev_var rfl) (ea_cons (ev_var rfl) (ea_cons (ev_var rfl) (ea_cons (S9 ((e10.trans e11).trans e12)).2.1 ea_nil)))) (fun _ _ => ev_var rfl) hw) fun H13 e13 => ?_
              refine hnx _ _ ⟨clip s way d, by unfold newb; rw [if_neg eji, if_pos hm], ?_, (((e7.trans e8).trans e9).trans ((e10.trans e11).trans (e12.trans e13))), fun _ _ => hns⟩
              rw [clip_pick hw]; rfl
          · have hm : ¬ meets d s := fun ⟨g1, g2, g3, g4⟩ => by
              rw [decide_eq_true g1, decide_eq_true g2, decide_eq_true g3, decide_eq_true g4] at hb'
              cases hb'
            exact hnx _ _ ⟨d, by unfold newb; rw [if_neg eji, if_neg hm], rfl, e7.trans e8, fun _ z => (hm z).elim⟩
      · subst eσ
        have hst' : ∀ m d, m < j + 1 → bs[m]? = some d → m ≠ i → meets d s → ¬ sticks c way d := fun m d' hm hd' => by
          rcases Nat.lt_or_ge m j with z | z
          · exact hst m d' z hd'
          · have em : m = j := by omega
            subst em
            rw [hd] at hd'
            cases hd'
            exact hns
        have e7' := e6.trans e7
        refine s_if (et_and (et_test (ev_op (ev_var rfl) (ev_var rfl) (rv_I0 (g := fun i j => .bl (decide (i < j)))))) (fun _ => et_test (ev_op (ev_var rfl) (ev_var rfl) (rv_I0 (g := fun i j => .bl (decide (i < j))))))) (fun hb' H8 e8 => ?_) (fun hb' H8 e8 => ?_)
        · have h1 := (Bool.and_eq_true _ _).mp hb'
          have hk : g.l < g.r ∧ g.t < g.b := ⟨of_decide_eq_true h1.1, of_decide_eq_true h1.2⟩
          have lf : fv.length < 100000 := by
            have l1 := pd_len hp
            have l2 := gro_len bs s i way j
            omega
          refine p_app (P := fun v H' => I4 H' v g) ((e7'.trans e8) _ _ hf) (ev_var rfl) (box (ev_var rfl) (ev_var rfl) (ev_var rfl) (ev_var rfl)) lf fun v H9 e9 hv9 => ⟨_, _, _, _, _, rfl, (e.ex ((e7'.trans e8).trans e9)).upd, ⟨fv ++ [v], upd_same, ?_⟩, hst'⟩
          subst eg
          rw [gro_yes hd hk]
          exact bI4.pd (((e7'.trans e8).trans e9) _ _ hf) (ExB.upd (ExB.refl _ _)) (pd_app (mI4.pd ((e7'.trans e8).trans e9) hp) (pd_one hv9))
        · refine ⟨_, _, _, _, _, rfl, e.ex (e7'.trans e8), ⟨fv, (e7'.trans e8) _ _ hf, ?_⟩, hst'⟩
          subst eg
          rw [gro_no hd (fun ⟨g1, g2⟩ => by
            rw [decide_eq_true g1, decide_eq_true g2] at hb'
            cases hb')]
          exact mI4.pd (e7'.trans e8) hp
    · subst eσ
      have en : ((bs.length : Int)).toNat = bs.length := Int.toNat_natCast _
      rw [en] at hp hst
      subst hs
      have l2 := gro_len bs (strip c way) i way bs.length
      exact s_ret (ev_var rfl) fun H6 e6 => q o _ _ ((ebs e).trans e6) ⟨fv, e6 _ _ hf, mI4.pd e6 hp⟩ (gro_part part hc hlim.1 hlim.2.1 hlim.2.2.1 hlim.2.2.2 (fun m d hd => hst m d (List.getElem?_eq_some_iff.mp hd).1 hd)) (by omega)

/-! ### _law_grid -/
abbrev sGrid : Stmt := topS 17
abbrev NGrid : List Str := ["cells", "many", "boxes", "cell", "at", "left", "top", "right", "below", "rest", "others", "x", "y"]
theorem scGrid : FnScope ["cells", "many", "boxes", "cell", "at", "left", "top", "right", "below", "rest", "others", "x", "y"] ["cells", "many"] (defScope sGrid) := ⟨rfl, rfl, rfl, by decide +kernel, rfl, by decide +kernel, by decide +kernel⟩
theorem cut_take {xs : List V} {i : Nat} (h : i ≤ xs.length) : cutV xs none (some (i : Int)) = xs.take i := by
  have e1 : HT.sIx xs.length 0 none = 0 := rfl
  have e2 : HT.sIx xs.length xs.length (some (i : Int)) = i := by rw [HT.sIx_nat]; omega
  unfold cutV
  rw [e1, e2]; rfl
theorem cut_drop {xs : List V} {i : Nat} (h : i < xs.length) : cutV xs (some ((i : Int) + 1)) none = xs.drop (i + 1) := by
  have e1 : HT.sIx xs.length xs.length none = xs.length := rfl
  have e2 : HT.sIx xs.length 0 (some ((i : Int) + 1)) = i + 1 := by
    rw [show (i : Int) + 1 = ((i + 1 : Nat) : Int) by omega, HT.sIx_nat]; omega
  unfold cutV
  rw [e1, e2]
  exact List.take_of_length_le (Nat.le_of_eq (by rw [List.length_drop]))
theorem mem_cut {xs : List V} {lo hi : Option Int} {x : V} (h : x ∈ cutV xs lo hi) : x ∈ xs := List.mem_of_mem_drop (List.mem_of_mem_take h)
def HasL {α : Type} (R : Hp → V → α → Prop) (xs : List α) : V → Hp → Prop := fun v H' => ∃ p, v = .ref p ∧ LsI R H' p xs
theorem o_name {i : Nat} {v : V} {σ : L2.St} {H : Hp} {Q : L2.St → Hp → Prop} (h : Q (σ.set i (some v)) H) : gName i v σ H Q := h
theorem evp_cat {α : Type} {R : Hp → V → α → Prop} {σ : L2.St} {H : Hp} {ta tb : TE} {xs ys : List α} (m : Mono R) (ha : EvP ta σ H (HasL R xs)) (hb : EvP tb σ H (HasL R ys)) (hz : xs.length + ys.length ≤ 100000) : EvP (tOp rCat ta tb) σ H (HasL R (xs ++ ys)) := fun H1 e Q q =>
  ha H1 e _ fun v H2 e2 ⟨p, ev, hp⟩ => hb H2 (e.trans e2) _ fun u H3 e3 ⟨r, eu, vr, h2, d2⟩ => by
    obtain ⟨vp, h1, d1⟩ := hp.mono m e3
    refine ⟨p, r, vp, vr, ev, eu, h1, h2, by rw [pd_len d1, pd_len d2]; exact sz_of hz, fun o ho => q _ _ ((e2.trans e3).trans (Ex.new ho)) ⟨o, rfl, _, upd_same, pd_app (m.pd (Ex.new ho) d1) (m.pd (Ex.new ho) d2)⟩⟩
theorem evp_has {α : Type} {R : Hp → V → α → Prop} {σ : L2.St} {H : Hp} {te : TE} {xs : List α} (h : EvP te σ H (IsL R H xs)) : EvP te σ H (HasL R xs) := fun H1 e Q q => h H1 e Q fun v H2 e2 ⟨p, ev, _, hp⟩ => q v H2 e2 ⟨p, ev, hp⟩
theorem evp_el {α : Type} {R : Hp → V → α → Prop} {σ : L2.St} {H : Hp} {te : TE} {vs : List V} {xs : List α} (m : Mono R) (h : EvL te σ H vs) (hp : Paired (R H) vs xs) : EvP te σ H (HasL R xs) := fun H1 e Q q => h H1 e Q fun p H2 _ e2 hv => q _ H2 e2 ⟨p, rfl, vs, hv, m.pd (e.trans e2) hp⟩
def spGrid (K : PySem.W.Frag) : Sp := fun vs H Q _ => ∃ (a : Addr) (xs : List V), vs = [.ref a, .int 12] ∧ SqL K H a xs ∧ (∀ x ∈ xs, ∃ n, x = V.int n) ∧ ∀ (p : Addr) (bs : List Bx) H', Ex H H' → LsI I4 H' p bs → Part 12 12 bs → bs.length ≤ 24 → Q (.ref p) H'
theorem ok_grid {f fWheel fGrown : Addr} {fd fdWheel fdGrown : FuncData} {k : Nat} (F : Fun K "_law_grid" "_law_grid" sGrid f fd) (FWheel : Fun K "_law_wheel" "_law_wheel" sWheel fWheel fdWheel) (bWheel : Binds K fdWheel ["box", "rest"] []) (gWheel : mg "_law_wheel" = some (.ref fWheel))
    (FGrown : Fun K "_law_grown" "_law_grown" sGrown fGrown fdGrown) (bGrown : Binds K fdGrown ["boxes", "at", "way", "many"] []) (gGrown : mg "_law_grown" = some (.ref fGrown)) (T : Txt mg) : FnOk P w K mg base CX0 (k + 2) f fd ["cells", "many"] (spGrid K) := by
  have GWheel : FnOk P w K mg base CX0 (k + 1) fWheel fdWheel ["box", "rest"] spWheel := ok_wheel FWheel
  have GGrown : FnOk P w K mg base CX0 (k + 1) fGrown fdGrown ["boxes", "at", "way", "many"] spGrown := ok_grown FGrown T
  refine F.ok scGrid (fun vs H Q E h => ?_) (fun cdv A outer s H vs Q E hr h => ?_)
  · obtain ⟨a, xs, rfl, _⟩ := h; rfl
  · obtain ⟨a, xs, rfl, hS, hI, q⟩ := h
    refine ⟨_, (pss_cons (ps_set (i := 2) scGrid.nd rfl (.inl rfl) (pe_lst (pa_cons (pe_tup (pa_cons pe_int (pa_cons pe_int (pa_cons (pv 1) (pa_cons (pv 1) pa_nil))))) pa_nil)))
 (pss_cons (ps_for PassesOwn.never rfl (pi_list (pv 0)) (pg_name (i := 3) scGrid.nd rfl (.inl rfl)) (pss_cons (ps_set (i := 4) scGrid.nd rfl (.inl rfl) (pe_op op_mod (pe_op op_fdiv (pv 3) pe_int) (pe_callB call_len_seq (by rfl) T.len PySem.boot_len (pa_cons (pv 2) pa_nil))))
 (pss_cons (ps_asg (pe_ix ix_list (pv 2) (pv 4) (fun _ _ => rfl)) (pg_tup rfl (pgs_cons (pg_name (i := 5) scGrid.nd rfl (.inl rfl)) (pgs_cons (pg_name (i := 6) scGrid.nd rfl (.inl rfl)) (pgs_cons (pg_name (i := 7) scGrid.nd rfl (.inl rfl)) (pgs_cons (pg_name (i := 8) scGrid.nd rfl (.inl rfl)) pgs_nil))))))
 (pss_cons (ps_set (i := 9) scGrid.nd rfl (.inl rfl) (pe_op op_fdiv (pv 3) pe_int))
 (pss_cons (ps_set (i := 10) scGrid.nd rfl (.inl rfl) (pe_op op_cat (pe_slice sl_list (pv 2) po_none (po_some (pv 4))) (pe_slice sl_list (pv 2) (po_some (pe_op op_add (pv 4) pe_int)) po_none)))
 (pss_one (ps_if (PW.pt (pw_and (pt_cmpR op_eq (pe_op op_mod (pv 3) pe_int) pe_int (nomark _)) (pw_and (pt_cmpR op_gt (pe_op op_sub (pv 7) (pv 5)) pe_int (nomark _)) (pw_and1 (pt_cmpR op_lt (pe_callB call_len_seq (by rfl) T.len PySem.boot_len (pa_cons (pv 2) pa_nil)) pe_int (nomark _)))))) (pss_cons (ps_set (i := 11) scGrid.nd rfl (.inl rfl) (pe_op op_add (pe_op op_add (pv 5) pe_int) (pe_op op_mod (pv 9) (pe_op op_sub (pe_op op_sub (pv 7) (pv 5)) pe_int))))
 (pss_one (ps_set (i := 2) scGrid.nd rfl (.inl rfl) (pe_op op_cat (pv 10) (pe_lst (pa_cons (pe_tup (pa_cons (pv 5) (pa_cons (pv 6) (pa_cons (pv 11) (pa_cons (pv 8) pa_nil))))) (pa_cons (pe_tup (pa_cons (pv 11) (pa_cons (pv 6) (pa_cons (pv 7) (pa_cons (pv 8) pa_nil))))) pa_nil))))))) (pss_one (ps_if (PW.pt (pw_and (pt_cmpR op_eq (pe_op op_mod (pv 3) pe_int) pe_int (nomark _)) (pw_and (pt_cmpR op_gt (pe_op op_sub (pv 8) (pv 6)) pe_int (nomark _)) (pw_and1 (pt_cmpR op_lt (pe_callB call_len_seq (by rfl) T.len PySem.boot_len (pa_cons (pv 2) pa_nil)) pe_int (nomark _)))))) (pss_cons (ps_set (i := 12) scGrid.nd rfl (.inl rfl) (pe_op op_add (pe_op op_add (pv 6) pe_int) (pe_op op_mod (pv 9) (pe_op op_sub (pe_op op_sub (pv 8) (pv 6)) pe_int))))
 (pss_one (ps_set (i := 2) scGrid.nd rfl (.inl rfl) (pe_op op_cat (pv 10) (pe_lst (pa_cons (pe_tup (pa_cons (pv 5) (pa_cons (pv 6) (pa_cons (pv 7) (pa_cons (pv 12) pa_nil))))) (pa_cons (pe_tup (pa_cons (pv 5) (pa_cons (pv 12) (pa_cons (pv 7) (pa_cons (pv 8) pa_nil))))) pa_nil))))))) (pss_one (ps_if (PW.pt (pw_and (pt_cmpR op_eq (pe_op op_mod (pv 3) pe_int) pe_int (nomark _)) (pw_and (pt_cmpR op_gt (pe_op op_sub (pv 7) (pv 5)) pe_int (nomark _)) (pw_and (pt_cmpR op_gt (pe_op op_sub (pv 8) (pv 6)) pe_int (nomark _)) (pw_and1 (pt_cmpR op_lt (pe_callB call_len_seq (by rfl) T.len PySem.boot_len (pa_cons (pv 2) pa_nil)) pe_int (nomark _))))))) (pss_one (ps_set (i := 2) scGrid.nd rfl (.inl rfl) (pe_op op_cat (pv 10) (pe_call GWheel hr (by rfl) gWheel FWheel.kp bWheel .nil pass0 (pa_cons (pe_ix ix_list (pv 2) (pv 4) (fun _ _ => rfl)) (pa_cons (pv 9) pa_nil)))))) (pss_one (ps_set (i := 2) scGrid.nd rfl (.inl rfl) (pe_call GGrown hr (by rfl) gGrown FGrown.kp bGrown .nil pass0 (pa_cons (pv 2) (pa_cons (pv 4) (pa_cons (pe_op op_mod (pv 9) pe_int) (pa_cons (pv 1) pa_nil))))))))))))))))))
 (pss_one (ps_ret (pv 2))))), ?_⟩
    have box : ∀ {σ : L2.St} {H' : Hp} {ta tb tc td : TE} {a b d e : Int}, Ev ta σ H' (.int a) → Ev tb σ H' (.int b) → Ev tc σ H' (.int d) → Ev td σ H' (.int e) → EvP (tTup (tCons ta (tCons tb (tCons tc (tCons td tNil))))) σ H' fun v H' => I4 H' v ⟨a, b, d, e⟩ :=
      fun h1 h2 h3 h4 => evp_i4 (ea_cons h1 (ea_cons h2 (ea_cons h3 (ea_cons h4 ea_nil))))
    refine p_asg (evp_lst (xs := [⟨0, 0, 12, 12⟩]) mI4 (eas_cons mI4 (box ev_c ev_c (ev_var rfl) (ev_var rfl)) eas_nil) (by show (1 : Nat) ≤ 100000; decide)) fun z H1 e1 ⟨b0, ez, _, hb0⟩ => ?_
    subst ez
    refine q_forV (C := fun p vs _ => p = a ∧ vs = xs) (fun H2 e2 Q' q' => ev_var (v := .ref a) rfl H2 e2 _ fun H3 e3 => q' _ _ e3 ⟨a, xs, rfl, ex_l ((e1.trans e2).trans e3) hS, rfl, rfl⟩) fun p vs H2 e2 hv ⟨ep, ev⟩ => ?_
    subst ep ev
    refine ⟨fun i σ H' => ∃ b bs y3 y4 y5 y6 y7 y8 y9 y10 y11 y12, σ = [some (.ref p), some (.int 12), some (.ref b), y3, y4, y5, y6, y7, y8, y9, y10, y11, y12] ∧ Ex H2 H' ∧ LsI I4 H' b bs ∧ Part 12 12 bs ∧ bs.length ≤ 24, ⟨b0, _, none, none, none, none, none, none, none, none, none, none, rfl, Ex.refl _, hb0.mono mI4 e2, Part.one (by decide), by show (1 : Nat) ≤ 24; decide⟩,
      fun i σ' H' ⟨_, _, _, _, _, _, _, _, _, _, _, _, _, e, _⟩ => ex_l e hv, fun j x σ' H' hx ⟨b, bs, y3, y4, y5, y6, y7, y8, y9, y10, y11, y12, eσ, e, hb, part, hz⟩ => ?_, fun σ' H' ⟨b, bs, y3, y4, y5, y6, y7, y8, y9, y10, y11, y12, eσ, e, hb, part, hz⟩ => ?_⟩
    · subst eσ
      obtain ⟨cell, rfl⟩ := hI x (List.mem_of_getElem? hx)
      refine o_name ?_
      have hne := part.ne
      obtain ⟨bv, hbv, hbd⟩ := hb
      have hbl := pd_len hbd
      have e0 : ∀ {H' : Hp}, Ex H2 H' → Ex H H' := fun e' => (e1.trans e2).trans e'
      refine p_asg (P := fun v _ => ∃ i : Nat, v = .int (i : Int) ∧ i < bs.length) (fun H3 e3 Q' q' => ev_mod (i := cell / 5) (j := (bv.length : Int)) (ev_div (i := cell) (j := 5) (ev_var rfl) ev_c ⟨by decide, by decide⟩) (ev_lenS (ev_var rfl) (.inl (sq_of hbv))) (by omega) H3 e3 Q' fun H4 e4 => q' _ _ e4 ⟨(cell / 5 % (bv.length : Int)).toNat, ?_, ?_⟩) fun z H3 e3 ⟨i, ez, hi⟩ => ?_
      · have := Int.emod_nonneg (cell / 5) (show (bv.length : Int) ≠ 0 by omega)
        rw [Int.toNat_of_nonneg this]
      · have h1 := Int.emod_nonneg (cell / 5) (show (bv.length : Int) ≠ 0 by omega)
        have h2 := Int.emod_lt_of_pos (cell / 5) (show 0 < (bv.length : Int) by omega)
        omega
      subst ez
      obtain ⟨c, hc⟩ : ∃ c, bs[i]? = some c := ⟨_, List.getElem?_eq_getElem hi⟩
      obtain ⟨u, hu, huc⟩ := pd_of hbd hc
      have ci := part.ins c (List.mem_of_getElem? hc)
      refine p_unp (P := fun z _ => z = u) (ev_p (ev_ixL (ev_var rfl) (ev_var rfl) (sq_of (e3 _ _ hbv)) (atI_nat hu))) fun z H4 e4 ez => ?_
      subst ez
      have e34 := e3.trans e4
      refine g4 (huc.mono e34) ?_
      refine q_asg (ev_div (i := cell) (j := 120) (ev_var rfl) ev_c ⟨by decide, by decide⟩) fun H5 e5 => ?_
      have e35 := e34.trans e5
      have hbd5 := mI4.pd e35 hbd
      refine p_asg (evp_cat (xs := bs.take i) (ys := bs.drop (i + 1)) mI4 (evp_el (vs := bv.take i) mI4 (by
          have := el_sl (K := K) (te := tVar 2) (tl := tNoPart) (th := tPart (tVar 4)) (lo := none) (hi := some (i : Int)) (ev_var (i := 2) (v := .ref b) (σ := [some (.ref p), some (.int 12), some (.ref b), some (.int cell), some (.int (i : Int)), some (.int c.l), some (.int c.t), some (.int c.r), some (.int c.b), some (.int (cell / 120)), y10, y11, y12]) rfl) eo_none (eo_some (ev_var rfl)) (sq_of (e35 _ _ hbv))
          rw [cut_take (by omega)] at this
          exact this) (pd_take i hbd5)) (evp_el (vs := bv.drop (i + 1)) mI4 (by
          have := el_sl (K := K) (te := tVar 2) (tl := tPart (tOp (rI0 fun i j => .int (i + j)) (tVar 4) (tC (.int 1)))) (th := tNoPart) (lo := some ((i : Int) + 1)) (hi := none) (ev_var (i := 2) (v := .ref b) (σ := [some (.ref p), some (.int 12), some (.ref b), some (.int cell), some (.int (i : Int)), some (.int c.l), some (.int c.t), some (.int c.r), some (.int c.b), some (.int (cell / 120)), y10, y11, y12]) rfl) (eo_some (ev_add (ev_var rfl) ev_c)) eo_none (sq_of (e35 _ _ hbv))
          rw [cut_drop (by omega)] at this
          exact this) (pd_drop (i + 1) hbd5)) (by rw [List.length_take, List.length_drop]; omega)) fun z H6 e6 ⟨o, ez, ho⟩ => ?_
      subst ez
      have e36 := e35.trans e6
      have lo : (bs.take i ++ bs.drop (i + 1)).length + 1 = bs.length := by rw [List.length_append, List.length_take, List.length_drop]; omega
      have lenE : ∀ {σ : L2.St} {H' : Hp}, Ex H' H' → Ex H6 H' → σ[2]? = some (some (.ref b)) → Ev (tCB (rLenS K) (tCons (tVar 2) tNil)) σ H' (.int (bs.length : Int)) := fun _ e hσ => by
        rw [← hbl]; exact ev_lenS (ev_var hσ) (.inl (sq_of ((e36.trans e) _ _ hbv)))
      refine s_if (et_and (et_test (ev_op (ev_mod (i := cell) (j := 5) (ev_var rfl) ev_c (by decide)) ev_c (rv_eq rfl))) (fun _ => et_and (et_test (ev_op (ev_sub (i := c.r) (j := c.l) (ev_var rfl) (ev_var rfl)) ev_c (rv_I0 (g := fun i j => .bl (decide (j < i)))))) (fun _ => et_test (ev_op (lenE (Ex.refl _) (Ex.refl _) rfl) ev_c (rv_I0 (g := fun i j => .bl (decide (i < j)))))))) (fun hb' H7 e7 => ?_) (fun hb' H7 e7 => ?_)
      · have h1 := (Bool.and_eq_true _ _).mp hb'
        have h2 := (Bool.and_eq_true _ _).mp h1.2
        have h3 := of_decide_eq_true h2.1
        have h4 := of_decide_eq_true h2.2
        refine p_asg (P := fun v _ => ∃ x, v = .int x ∧ (c.l < x ∧ x < c.r)) (evi_of (ev_add (ev_add (ev_var rfl) ev_c) (ev_mod (i := cell / 120) (ev_var rfl) (ev_sub (ev_sub (ev_var rfl) (ev_var rfl)) ev_c) (by omega))) (by have := mod_in (a := cell / 120) (lo := c.l) (show 0 < c.r - c.l - 1 by omega); omega)) fun v1 H8 e8 ⟨x, ex, x0, x1⟩ => ?_
        subst ex
        refine p_asg1 (evp_cat (xs := bs.take i ++ bs.drop (i + 1)) (ys := [⟨c.l, c.t, x, c.b⟩, ⟨x, c.t, c.r, c.b⟩]) mI4 (fun H9 e9 Q' q' => ev_var (v := .ref o) rfl H9 e9 _ fun H10 e10 => q' _ _ e10 ⟨o, rfl, ho.mono mI4 (((e7.trans e8).trans e9).trans e10)⟩) (evp_has (evp_lst mI4 (eas_cons mI4 (box (ev_var rfl) (ev_var rfl) (ev_var rfl) (ev_var rfl)) (eas_cons mI4 (box (ev_var rfl) (ev_var rfl) (ev_var rfl) (ev_var rfl)) eas_nil)) (by show (2 : Nat) ≤ 100000; decide))) (by show _ + 2 ≤ _; omega)) fun v2 H9 e9 ⟨o2, ez, ho2⟩ => ?_
        subst ez
        exact ⟨_, _, _, _, _, _, _, _, _, _, _, _, rfl, (((e.trans e36).trans e7).trans e8).trans e9, ho2, part.replAt hc (tiles_x x0 x1 ci.2.2.2.2.1), by rw [List.length_append]; show _ + 2 ≤ _; omega⟩
      refine s_if (et_and (et_test (ev_op (ev_mod (i := cell) (j := 5) (ev_var rfl) ev_c (by decide)) ev_c (rv_eq rfl))) (fun _ => et_and (et_test (ev_op (ev_sub (i := c.b) (j := c.t) (ev_var rfl) (ev_var rfl)) ev_c (rv_I0 (g := fun i j => .bl (decide (j < i)))))) (fun _ => et_test (ev_op (lenE (Ex.refl _) e7 rfl) ev_c (rv_I0 (g := fun i j => .bl (decide (i < j)))))))) (fun hb' H8 e8 => ?_) (fun hb' H8 e8 => ?_)
      · have h1 := (Bool.and_eq_true _ _).mp hb'
        have h2 := (Bool.and_eq_true _ _).mp h1.2
        have h3 := of_decide_eq_true h2.1
        have h4 := of_decide_eq_true h2.2
        refine p_asg (P := fun v _ => ∃ x, v = .int x ∧ (c.t < x ∧ x < c.b)) (evi_of (ev_add (ev_add (ev_var rfl) ev_c) (ev_mod (i := cell / 120) (ev_var rfl) (ev_sub (ev_sub (ev_var rfl) (ev_var rfl)) ev_c) (by omega))) (by have := mod_in (a := cell / 120) (lo := c.t) (show 0 < c.b - c.t - 1 by omega); omega)) fun v1 H9 e9 ⟨x, ex, x0, x1⟩ => ?_
        subst ex
        refine p_asg1 (evp_cat (xs := bs.take i ++ bs.drop (i + 1)) (ys := [⟨c.l, c.t, c.r, x⟩, ⟨c.l, x, c.r, c.b⟩]) mI4 (fun H10 e10 Q' q' => ev_var (v := .ref o) rfl H10 e10 _ fun H11 e11 => q' _ _ e11 ⟨o, rfl, ho.mono mI4 ((((e7.trans e8).trans e9).trans e10).trans e11)⟩) (evp_has (evp_lst mI4 (eas_cons mI4 (box (ev_var rfl) (ev_var rfl) (ev_var rfl) (ev_var rfl)) (eas_cons mI4 (box (ev_var rfl) (ev_var rfl) (ev_var rfl) (ev_var rfl)) eas_nil)) (by show (2 : Nat) ≤ 100000; decide))) (by show _ + 2 ≤ _; omega)) fun v2 H10 e10 ⟨o2, ez, ho2⟩ => ?_
        subst ez
        exact ⟨_, _, _, _, _, _, _, _, _, _, _, _, rfl, ((((e.trans e36).trans e7).trans e8).trans e9).trans e10, ho2, part.replAt hc (tiles_y x0 x1 ci.2.1), by rw [List.length_append]; show _ + 2 ≤ _; omega⟩
      refine s_if (et_and (et_test (ev_op (ev_mod (i := cell) (j := 5) (ev_var rfl) ev_c (by decide)) ev_c (rv_eq rfl))) (fun _ => et_and (et_test (ev_op (ev_sub (i := c.r) (j := c.l) (ev_var rfl) (ev_var rfl)) ev_c (rv_I0 (g := fun i j => .bl (decide (j < i)))))) (fun _ => et_and (et_test (ev_op (ev_sub (i := c.b) (j := c.t) (ev_var rfl) (ev_var rfl)) ev_c (rv_I0 (g := fun i j => .bl (decide (j < i)))))) (fun _ => et_test (ev_op (lenE (Ex.refl _) (e7.trans e8) rfl) ev_c (rv_I0 (g := fun i j => .bl (decide (i < j))))))))) (fun hb' H9 e9 => ?_) (fun hb' H9 e9 => ?_)
      · have h1 := (Bool.and_eq_true _ _).mp hb'
        have h2 := (Bool.and_eq_true _ _).mp h1.2
        have h3 := (Bool.and_eq_true _ _).mp h2.2
        have g1 := of_decide_eq_true h2.1
        have g2 := of_decide_eq_true h3.1
        have g3 := of_decide_eq_true h3.2
        have e79 := (e7.trans e8).trans e9
        have eA := (e.trans e36).trans e79
        refine o_op (ev_var (v := .ref o) rfl H9 (Ex.refl _) _ fun H10 e10 => ?_)
        refine p_call (P := fun v H' => ∃ (p : Addr) (new : List Bx), v = .ref p ∧ LsI I4 H' p new ∧ Tiles c new ∧ new.length = 5) (ea_cons (ev_ixL (ev_var rfl) (ev_var rfl) (sq_of (((e36.trans e79).trans e10) _ _ hbv)) (atI_nat hu)) (ea_cons (ev_var rfl) ea_nil)) (fun H11 e11 Q' q' => ⟨_, c, _, rfl, huc.mono (((e36.trans e79).trans e10).trans e11), by omega, by omega, fun p new H12 e12 h12 ht hl => q' _ _ e12 ⟨p, new, rfl, h12, ht, hl⟩⟩) H10 (Ex.refl _) _ fun v H11 e11 ⟨p2, new, ez, ⟨vn, hvn, hdn⟩, ht, hln⟩ => ?_
        subst ez
        obtain ⟨vo, hvo, hdo⟩ := ho.mono mI4 ((e79.trans e10).trans e11)
        refine ⟨o, p2, vo, vn, rfl, rfl, hvo, hvn, by rw [pd_len hdo, pd_len hdn]; exact sz_of (by omega), fun o2 ho2 => ?_⟩
        exact ⟨_, _, _, _, _, _, _, _, _, _, _, _, rfl, ((eA.trans e10).trans e11).trans (Ex.new ho2), ⟨_, upd_same, pd_app (mI4.pd (Ex.new ho2) hdo) (mI4.pd (Ex.new ho2) hdn)⟩, part.replAt hc ht, by rw [List.length_append]; omega⟩
      · have e79 := (e7.trans e8).trans e9
        have eA := (e.trans e36).trans e79
        have hm := Int.emod_nonneg (cell / 120) (show (4 : Int) ≠ 0 by decide)
        have hm2 := Int.emod_lt_of_pos (cell / 120) (show (0 : Int) < 4 by decide)
        refine p_asg1 (P := fun v H' => ∃ (p : Addr) (bs' : List Bx), v = .ref p ∧ LsI I4 H' p bs' ∧ Part 12 12 bs' ∧ bs'.length ≤ 24) (p_call (ea_cons (ev_var rfl) (ea_cons (ev_var rfl) (ea_cons (ev_mod (i := cell / 120) (j := 4) (ev_var rfl) ev_c (by decide)) (ea_cons (ev_var rfl) ea_nil)))) fun H10 e10 Q' q' => ⟨b, bs, i, (cell / 120 % 4).toNat, c, by rw [Int.toNat_of_nonneg hm]; rfl, LsI.mono mI4 ((e36.trans e79).trans e10) ⟨bv, hbv, hbd⟩, part, hz, hc, by omega, fun p bs' H11 e11 h1 h2 h3 => q' _ _ e11 ⟨p, bs', rfl, h1, h2, h3⟩⟩) fun v H10 e10 ⟨p2, bs', ez, h1, h2, h3⟩ => ?_
        subst ez
        exact ⟨_, _, _, _, _, _, _, _, _, _, _, _, rfl, eA.trans e10, h1, h2, h3⟩
    · subst eσ
      exact s_ret (ev_var rfl) fun H3 e3 => q b bs _ (((e1.trans e2).trans e).trans e3) (hb.mono mI4 e3) part hz
end
end K14

/-! Walks: _law_laid. -/
namespace K14
open PySem PySem.Spec PyProof.Rows L2 Evl
section
variable {P : Program} {w : World} {base : Heap} {mg : Str → Option Value} {K : PySem.W.Frag}
/-! ### _law_laid -/
abbrev sLaid : Stmt := topS 19
abbrev NLaid : List Str := ["boxes", "xs", "ys", "found", "left", "top", "right", "below"]
theorem scLaid : FnScope ["boxes", "xs", "ys", "found", "left", "top", "right", "below"] ["boxes", "xs", "ys"] (defScope sLaid) := ⟨rfl, rfl, rfl, by decide +kernel, rfl, by decide +kernel, by decide +kernel⟩
def lamQ : Str := "_law_laid" ++ ".<locals>." ++ "<lambda>"
def tabT (Pt : Addr) : List (Addr × Str) := [(Pt, lamQ)]
def MonoN {α : Type} (R : Hp → V → α → Prop) : Prop := ∀ (H H' : Hp) (v : V) (x : α), LamX.ExtN H H' → R H v x → R H' v x
theorem nI4 : MonoN I4 := fun _ _ _ _ e ⟨a, h1, h2⟩ => ⟨a, h1, e _ _ h2 fun _ z => by cases z⟩
theorem MonoN.pd {α : Type} {R : Hp → V → α → Prop} (m : MonoN R) {H H' : Hp} {vs : List V} {xs : List α} (e : LamX.ExtN H H') (h : Paired (R H) vs xs) : Paired (R H') vs xs := pd_mono (fun v x => m H H' v x e) h
def kLam (H : Hp) : V → Int × Int
  | .ref t => match H t with
    | some (.tup [.int i, .int j, .int _, .int _]) => (j, i)
    | _ => (0, 0)
  | _ => (0, 0)
theorem is4_of {H : Hp} {v : V} {c : Bx} (h : I4 H v c) : Is4 H v (kLam H) := by
  obtain ⟨a, rfl, h⟩ := h
  refine ⟨a, c.l, c.t, c.r, c.b, rfl, h, ?_⟩
  show (match H a with
    | some (.tup [.int i, .int j, .int _, .int _]) => (j, i)
    | _ => (0, 0)) = (c.t, c.l)
  rw [h]
def spLaid (Pt : Addr) : Sp := fun vs H Q _ => ∃ (a b c : Addr) (bs : List Bx) (xs ys : List Int), vs = [.ref a, .ref b, .ref c] ∧ LsI I4 H a bs ∧ H b = some (.lst (xs.map V.int)) ∧ H c = some (.lst (ys.map V.int)) ∧ Lns xs ∧ Lns ys ∧ Part 12 12 bs ∧ bs.length ≤ 24 ∧ LamX.Tabs (tabT Pt) H ∧
  ∀ (p : Addr) (bs' : List Bx) H', bs'.Perm (bs.map (lay xs ys)) → LamX.ExtN H H' → LsI I4 H' p bs' → Q (.ref p) H'
theorem ev_ln {σ : L2.St} {H : Hp} {i j : Nat} {b : Addr} {xs : List Int} {z : Int} (hσ : σ[i]? = some (some (.ref b))) (hτ : σ[j]? = some (some (.int z))) (h : H b = some (.lst (xs.map V.int))) (L : Lns xs) (h0 : 0 ≤ z) (h1 : z ≤ 12) : Ev (tOp (rIxL K) (tVar i) (tVar j)) σ H (.int (ln xs z)) :=
  ev_ixL (ev_var hσ) (ev_var hτ) (sq_of h) (at_nat h0 (by rw [List.getElem?_map, ln_at L h0 h1]; rfl))
theorem ok_laid {f c0 Pt : Addr} {fd : FuncData} {k : Nat} (F : Fun K "_law_laid" "_law_laid" sLaid f fd) (hcode : fd.code = .ref c0) (TB : LamX.TabB base mg c0 Pt) (T : Txt mg) : FnOk P w K mg base CX0 (k + 2) f fd ["boxes", "xs", "ys"] (spLaid Pt) := by
  obtain ⟨oc, od, kV, doc, pm, an, cdv, ct, osl, rfl, stands, hcd⟩ := F.ex
  refine fn_of stands hcd scLaid (fun vs H Q E h => ?_) fun A outer s H vs Q E hr h => ?_
  · obtain ⟨a, b, c, bs, xs, ys, rfl, _⟩ := h; rfl
  · obtain ⟨a, b, c, bs, xs, ys, rfl, ha, hx, hy, Lx, Ly, part, hz, hT, q⟩ := h
    have hcode' : cdv = .ref c0 := hcode
    suffices hh : ∃ t, PSs (cxOf CX0 P w K mg base NLaid "_law_laid" (defScope sLaid) f cdv A outer s H E).nox (defBody sLaid) t ∧ t { nx := fun _ H' => Q .non H', rt := Q } (start NLaid [.ref a, .ref b, .ref c]) H by
      obtain ⟨t, h, q⟩ := hh
      exact ⟨t, h.nox, q⟩
    refine ⟨_, (pss_cons (ps_set (i := 3) scLaid.nd rfl (.inl rfl) (pe_lst pa_nil))
 (pss_cons (ps_for PassesOwn.never rfl (pi_list (pv 0)) (pg_tup rfl (pgs_cons (pg_name (i := 4) scLaid.nd rfl (.inl rfl)) (pgs_cons (pg_name (i := 5) scLaid.nd rfl (.inl rfl)) (pgs_cons (pg_name (i := 6) scLaid.nd rfl (.inl rfl)) (pgs_cons (pg_name (i := 7) scLaid.nd rfl (.inl rfl)) pgs_nil))))) (pss_one (ps_expr (pe_bm PySem.F.plainAttrs_list PySem.F.slot_list_append PySem.F.type_list_append mt_append (pv 3) (pa_cons (pe_tup (pa_cons (pe_ix ix_list (pv 1) (pv 4) (fun _ _ => rfl)) (pa_cons (pe_ix ix_list (pv 2) (pv 5) (fun _ _ => rfl)) (pa_cons (pe_ix ix_list (pv 1) (pv 6) (fun _ _ => rfl)) (pa_cons (pe_ix ix_list (pv 2) (pv 7) (fun _ _ => rfl)) pa_nil))))) pa_nil)))))
 (pss_one (ps_ret (pe_sortlam (T := tabT Pt) rfl T.sorted rfl TB hcode' List.mem_cons_self (fun q hq _ => by rw [List.mem_singleton.mp hq]; rfl) (hr.mono (by omega)) (pv 3)))))), ?_⟩
    refine q_asgL (el_lst ea_nil (by decide)) fun o H1 no e1 ho => ?_
    obtain ⟨vs, hvs, hpd⟩ := ha
    have hl := pd_len hpd
    have nao : a ≠ o := ne_of_none hvs no
    refine q_forV (C := fun p vs' _ => p = a ∧ vs' = vs) (fun H2 e2 Q' q' => ev_var (v := .ref a) rfl H2 e2 _ fun H3 e3 => q' _ _ e3 ⟨a, vs, rfl, sq_of (((e1.trans e2).trans e3) _ _ hvs), rfl, rfl⟩) fun p vs' H2 e2 hv ⟨ep, ev⟩ => ?_
    subst ep ev
    have e12 := e1.trans e2
    have ho2 := e2 _ _ ho
    refine ⟨fun i σ H' => ∃ y4 y5 y6 y7, σ = [some (.ref p), some (.ref b), some (.ref c), some (.ref o), y4, y5, y6, y7] ∧ ExB o H2 H' ∧ ∃ fv, H' o = some (.lst fv) ∧ Paired (I4 H') fv ((bs.take i).map (lay xs ys)), ⟨none, none, none, none, rfl, ExB.refl _ _, [], ho2, .nil⟩,
      fun i σ' H' ⟨_, _, _, _, _, e, _⟩ => sq_of (e _ _ nao (e12 _ _ hvs)), fun i x σ' H' hx' ⟨y4, y5, y6, y7, eσ, e, fv, hf, hp⟩ => ?_, fun σ' H' ⟨y4, y5, y6, y7, eσ, e, fv, hf, hp⟩ => ?_⟩
    · subst eσ
      obtain ⟨d, hd, hxd⟩ := pd_at hpd hx'
      have il := (List.getElem?_eq_some_iff.mp hd).1
      refine g4 (bI4 o H2 H' _ _ _ ho2 e (hxd.mono e12)) ?_
      obtain ⟨d1, d2, d3, d4, d5, d6⟩ := part.ins d (List.mem_of_getElem? hd)
      have lf : fv.length < 100000 := by
        have h1 := pd_len hp
        rw [List.length_map, List.length_take] at h1
        omega
      have hbx := e b _ (ne_of_none hx no) (e12 _ _ hx)
      have hcy := e c _ (ne_of_none hy no) (e12 _ _ hy)
      refine p_app (P := fun v H' => I4 H' v (lay xs ys d)) hf (ev_var rfl) (evp_i4 (ea_cons (ev_ln rfl rfl hbx Lx d1 (by omega)) (ea_cons (ev_ln rfl rfl hcy Ly d4 (by omega)) (ea_cons (ev_ln rfl rfl hbx Lx (by omega) d3) (ea_cons (ev_ln rfl rfl hcy Ly (by omega) d6) ea_nil))))) lf fun v H4 e4 hv4 => ⟨_, _, _, _, rfl, (e.ex e4).upd, fv ++ [v], upd_same, ?_⟩
      rw [List.take_add_one, hd, List.map_append]
      exact bI4.pd (e4 _ _ hf) (ExB.upd (ExB.refl _ _)) (pd_app (mI4.pd e4 hp) (pd_one hv4))
    · subst eσ
      rw [hl, List.take_length] at hp
      refine o_ret (ev_var (v := .ref o) rfl H' (Ex.refl _) _ fun H3 e3 => ?_)
      have eF := (ExB.back e12 no e).trans e3
      have hp3 := mI4.pd e3 hp
      refine ⟨o, fv, kLam H3, rfl, sq_of (e3 _ _ hf), fun x hx => ?_, hT.ext eF, fun zs p2 H4 hz4 eN h4 => ?_⟩
      · obtain ⟨d, _, hd⟩ := pd_mem hp3 hx
        exact is4_of hd
      · obtain ⟨bs', hb1, hb2⟩ := pd_perm hz4 hp3
        exact q p2 bs' H4 hb1 ((ExtN.ex eF).trans eN) ⟨zs, h4, nI4.pd eN hb2⟩
end
end K14

/-! Walks: _law_along. -/
namespace K14
open PySem PySem.Spec PyProof.Rows L2 Evl
/-! ### what _law_along asks -/
def pickQ (q : Q4) (side : Nat) : Int := pick q.1 q.2.1 q.2.2.1 q.2.2.2 side
def spanW (way : Nat) (c : Bx) : Sp2 := (pick c.l c.t c.r c.b (1 - way / 2), pick c.l c.t c.r c.b (3 - way / 2))
def colS (way side : Nat) (k : Int) (zs : List (Bx × Q4)) : List Sp2 := (zs.filter fun p => decide (pickQ p.2 side = k)).map fun p => spanW way p.1
theorem colS_snoc (way side : Nat) (k : Int) (zs : List (Bx × Q4)) (c : Bx) (q : Q4) : colS way side k (zs ++ [(c, q)]) = if pickQ q side = k then colS way side k zs ++ [spanW way c] else colS way side k zs := by
  unfold colS
  rw [List.filter_append, List.map_append]
  by_cases h : pickQ q side = k
  · rw [if_pos h]; simp [h]
  · rw [if_neg h]; simp [h]
theorem colS_len (way side : Nat) (k : Int) (zs : List (Bx × Q4)) : (colS way side k zs).length ≤ zs.length := by
  unfold colS
  rw [List.length_map]
  exact List.length_filter_le _ _
structure Tells (way : Nat) (ws : List Wl) (len : Int) (zs : List (Bx × Q4)) : Prop where
  left : Part1 0 len (colS way way (-1) zs)
  noR : colS way (way + 1) (-1) zs = []
  noL : colS way way (ws.length : Int) zs = []
  right : Part1 0 len (colS way (way + 1) (ws.length : Int) zs)
  all : ∀ (k : Nat) (w : Wl), ws[k]? = some w → Part1 w.2.1 w.2.2 (colS way way (k : Int) zs) ∧ Part1 w.2.1 w.2.2 (colS way (way + 1) (k : Int) zs)
/-- the span that the wall k tells -/
def toldSpan (ws : List Wl) (len k : Int) : Sp2 := if 0 ≤ k ∧ k < (ws.length : Int) then (ws.getD k.toNat (0, 0, 0)).2 else (0, len)
def noSide (ws : List Wl) (way side : Nat) (k : Int) : Bool := (decide (k = -1) && decide (side = way + 1)) || (decide (k = (ws.length : Int)) && decide (side = way))
theorem Tells.at {way : Nat} {ws : List Wl} {len : Int} {zs : List (Bx × Q4)} (h : Tells way ws len zs) {side : Nat} {k : Int} (hs : side = way ∨ side = way + 1) (h0 : -1 ≤ k) (h1 : k ≤ (ws.length : Int)) :
    (noSide ws way side k = true → colS way side k zs = []) ∧ (noSide ws way side k = false → Part1 (toldSpan ws len k).1 (toldSpan ws len k).2 (colS way side k zs)) := by
  unfold noSide toldSpan
  by_cases c1 : k = -1
  · subst c1
    rw [if_neg (by omega)]
    rcases hs with rfl | rfl
    · refine ⟨fun z => ?_, fun _ => h.left⟩
      rw [decide_eq_false (show ¬ side = side + 1 by omega), decide_eq_false (show ¬ (-1 : Int) = (ws.length : Int) by omega)] at z
      simp at z
    · refine ⟨fun _ => h.noR, fun z => ?_⟩
      simp at z
  · by_cases c2 : k = (ws.length : Int)
    · subst c2
      rw [if_neg (by omega)]
      rcases hs with rfl | rfl
      · refine ⟨fun _ => h.noL, fun z => ?_⟩
        simp at z
      · refine ⟨fun z => ?_, fun _ => h.right⟩
        rw [decide_eq_false c1, decide_eq_false (show ¬ way + 1 = way by omega)] at z
        simp at z
    · have hk : k.toNat < ws.length := by omega
      have ek : ((k.toNat : Nat) : Int) = k := by omega
      have hw : ws[k.toNat]? = some (ws.getD k.toNat (0, 0, 0)) := by
        rw [List.getD_eq_getElem?_getD, List.getElem?_eq_getElem hk]; rfl
      have ha := h.all _ _ hw
      rw [ek] at ha
      rw [if_pos (by omega), decide_eq_false c1, decide_eq_false c2]
      refine ⟨fun z => by simp at z, fun _ => ?_⟩
      rcases hs with rfl | rfl
      · exact ha.1
      · exact ha.2

section
variable {P : Program} {w : World} {base : Heap} {mg : Str → Option Value} {K : PySem.W.Frag}
section
variable {σ : L2.St} {H : Hp} {te : TE} {ta : TA} {D : Ends} {tz tu : TS}
theorem et_p {b : Bool} (h : EvP te σ H fun v _ => v = .bl b) : EvT (tTest te) σ H b := fun H1 e Q q => h H1 e _ fun v H2 e2 ev => ⟨b, ev, q H2 e2⟩
theorem q_par {i j : Nat} {v u : V} (h : EvA ta σ H [v, u]) (k : ∀ H1, Ex H H1 → tz D ((σ.set i (some v)).set j (some u)) H1) : tSeq (tPar i j ta) tz D σ H := h H (Ex.refl H) _ fun H1 e => ⟨v, u, rfl, k H1 e⟩
theorem ev_is {v u : V} (h : Ev te σ H v) (e : v = u) : Ev te σ H u := e ▸ h
theorem dI {i j : Int} : decide (V.int i = V.int j) = decide (i = j) := by
  by_cases h : i = j
  · rw [h, decide_eq_true rfl, decide_eq_true rfl]
  · rw [decide_eq_false h, decide_eq_false fun z => h (V.int.inj z)]
theorem dN {i j : Nat} : decide ((i : Int) = (j : Int)) = decide (i = j) := by
  by_cases h : i = j
  · rw [h, decide_eq_true rfl, decide_eq_true rfl]
  · rw [decide_eq_false h, decide_eq_false (by omega)]
theorem dN1 {i j : Nat} : decide ((i : Int) = (j : Int) + 1) = decide (i = j + 1) := by
  by_cases h : i = j + 1
  · rw [decide_eq_true h, decide_eq_true (by omega)]
  · rw [decide_eq_false h, decide_eq_false (by omega)]
/-- for x in range(-1, n) -/
theorem q_forM1 {j : Nat} {n : Nat} (h : EvA ta σ H [.int (-1), .int ((n : Int) + 1)]) (hn : n ≤ 100000) (Pv : Nat → L2.St → Hp → Prop) (h0 : ∀ H1, Ex H H1 → Pv 0 σ H1)
    (hs : ∀ (i : Nat) σ' H', i < n + 2 → Pv i σ' H' → tu { D with nx := Pv (i + 1), ct := Pv (i + 1), bk := tz D } (σ'.set j (some (.int (-1 + (i : Int))))) H') (hd : ∀ σ' H', Pv (n + 2) σ' H' → tz D σ' H') : tSeq (tFor (iRng2 ta) (gName j) tu) tz D σ H :=
  h H (Ex.refl H) _ fun H1 e => ⟨-1, (n : Int) + 1, rfl, ⟨by decide, by decide, by omega, by omega⟩, by
    rw [show (((n : Int) + 1) - (-1)).toNat = n + 2 by omega]
    exact for_range (D := { D with nx := tz D }) Pv (h0 H1 e) (fun i σ' H' hi p => hs i σ' H' hi p) hd⟩
end
/-! ### _law_along -/
abbrev sAlong : Stmt := topS 21
abbrev NAlong : List Str := ["page", "told", "lies", "way", "length", "k", "first", "last", "side", "spans", "box", "some", "empty"]
theorem scAlong : FnScope ["page", "told", "lies", "way", "length", "k", "first", "last", "side", "spans", "box", "some", "empty"] ["page", "told", "lies", "way", "length"] (defScope sAlong) := ⟨rfl, rfl, rfl, by decide +kernel, rfl, by decide +kernel, by decide +kernel⟩
def spAlong : Sp := fun vs H Q _ => ∃ (v : V) (W Hh : Int) (bs : List Bx) (pT lA : Addr) (ws : List Wl) (qs : List Q4) (way : Nat) (len : Int), vs = [v, .ref pT, .ref lA, .int (way : Int), .int len] ∧ Pg H v W Hh bs ∧ bs.length ≤ 24 ∧ LsI I3 H pT ws ∧ ws.length ≤ 10000 ∧ LsI IQ H lA qs ∧ qs.length = bs.length ∧
  (way = 0 ∨ way = 2) ∧ Tells way ws len (bs.zip qs) ∧ ∀ H', Ex H H' → Q (.bl true) H'
theorem ev_q4 {σ : L2.St} {H : Hp} {i : Nat} {v : V} {q : Q4} {tb : TE} {side : Nat} (hσ : σ[i]? = some (some v)) (h : IQ H v q) (hb : Ev tb σ H (.int (side : Int))) (hs : side < 4) : Ev (tOp (rIxT K) (tVar i) tb) σ H (.int (pickQ q side)) := by
  obtain ⟨a, rfl, h⟩ := h
  exact ev_ixT (ev_var hσ) hb h (at_pick hs)
theorem ev_b4 {σ : L2.St} {H : Hp} {i : Nat} {v : V} {c : Bx} {tb : TE} {side : Nat} (hσ : σ[i]? = some (some v)) (h : I4 H v c) (hb : Ev tb σ H (.int (side : Int))) (hs : side < 4) : Ev (tOp (rIxT K) (tVar i) tb) σ H (.int (pick c.l c.t c.r c.b side)) := by
  obtain ⟨a, rfl, h⟩ := h
  exact ev_ixT (ev_var hσ) hb h (at_pick hs)
theorem ok_along {f fFilled : Addr} {fd fdFilled : FuncData} {k : Nat} (F : Fun K "_law_along" "_law_along" sAlong f fd) (FFilled : Fun K "_law_filled" "_law_filled" sFilled fFilled fdFilled) (bFilled : Binds K fdFilled ["spans", "first", "last"] []) (gFilled : mg "_law_filled" = some (.ref fFilled)) (T : Txt mg) :
    FnOk P w K mg base CX0 (k + 2) f fd ["page", "told", "lies", "way", "length"] spAlong := by
  have GFilled : FnOk P w K mg base CX0 (k + 1) fFilled fdFilled ["spans", "first", "last"] spFilled := ok_filled FFilled T
  refine F.ok scAlong (fun vs H Q E h => ?_) (fun cdv A outer s H vs Q E hr h => ?_)
  · obtain ⟨v, W, Hh, bs, pT, lA, ws, qs, way, len, rfl, _⟩ := h; rfl
  · obtain ⟨v, W, Hh, bs, pT, lA, ws, qs, way, len, rfl, hp, hz, hT, hwz, hL, hqs, hway, tells, q⟩ := h
    refine ⟨_, (pss_cons (ps_for PassesOwn.never rfl (pi_range2 rfl T.range (pa_cons (pe_un un_neg pe_int) (pa_cons (pe_op op_add (pe_callB call_len_seq (by rfl) T.len PySem.boot_len (pa_cons (pv 1) pa_nil)) pe_int) pa_nil))) (pg_name (i := 5) scAlong.nd rfl (.inl rfl)) (pss_cons (ps_par (i := 6) (j := 7) rfl scAlong.nd rfl rfl (by decide) rfl rfl (pa_cons pe_int (pa_cons (pv 4) pa_nil)) rfl)
 (pss_cons (ps_if (PW.pt (pw_and (pt_cmpR op_le pe_int (pv 5) (nomark _)) (pw_and1 (pt_cmpR op_lt (pv 5) (pe_callB call_len_seq (by rfl) T.len PySem.boot_len (pa_cons (pv 1) pa_nil)) (nomark _))))) (pss_one (ps_asg (pe_slice sl_tup (pe_ix ix_list (pv 1) (pv 5) (fun _ _ => rfl)) (po_some pe_int) po_none) (pg_tup rfl (pgs_cons (pg_name (i := 6) scAlong.nd rfl (.inl rfl)) (pgs_cons (pg_name (i := 7) scAlong.nd rfl (.inl rfl)) pgs_nil))))) pss_nil)
 (pss_one (ps_for PassesOwn.never rfl (pi_list (pe_lst (pa_cons (pv 3) (pa_cons (pe_op op_add (pv 3) pe_int) pa_nil)))) (pg_name (i := 8) scAlong.nd rfl (.inl rfl)) (pss_cons (ps_set (i := 9) scAlong.nd rfl (.inl rfl) (pe_lst pa_nil))
 (pss_cons (ps_for PassesOwn.never rfl (pi_zipM rfl T.zip (pa_cons (pe_ix ix_tup (pv 0) pe_int (fun _ _ => rfl)) (pa_cons (pv 2) pa_nil))) (pg_tup rfl (pgs_cons (pg_name (i := 10) scAlong.nd rfl (.inl rfl)) (pgs_cons (pg_name (i := 11) scAlong.nd rfl (.inl rfl)) pgs_nil))) (pss_one (ps_if (pt_cmpR op_eq (pe_ix ix_tup (pv 11) (pv 8) (fun _ _ => rfl)) (pv 5) (nomark _)) (pss_one (ps_expr (pe_bm PySem.F.plainAttrs_list PySem.F.slot_list_append PySem.F.type_list_append mt_append (pv 9) (pa_cons (pe_tup (pa_cons (pe_ix ix_tup (pv 10) (pe_op op_sub pe_int (pe_op op_fdiv (pv 3) pe_int)) (fun _ _ => rfl)) (pa_cons (pe_ix ix_tup (pv 10) (pe_op op_sub pe_int (pe_op op_fdiv (pv 3) pe_int)) (fun _ _ => rfl)) pa_nil))) pa_nil)))) pss_nil)))
 (pss_cons (ps_set (i := 12) scAlong.nd rfl (.inl rfl) (pe_or (pe_and (pe_cmpR op_eq (pv 5) (pe_un un_neg pe_int) (nomark _)) (pe_one (pe_cmpR op_eq (pv 8) (pe_op op_add (pv 3) pe_int) (nomark _)))) (pe_one (pe_and (pe_cmpR op_eq (pv 5) (pe_callB call_len_seq (by rfl) T.len PySem.boot_len (pa_cons (pv 1) pa_nil)) (nomark _)) (pe_one (pe_cmpR op_eq (pv 8) (pv 3) (nomark _)))))))
 (pss_one (ps_if (PW.pt (pw_or (PW.pt (pw_and (pt_val (pv 12)) (pw_and1 (pt_cmpR (op_neD hr.units) (pv 9) (pe_lst pa_nil) (nomark _))))) (pw_or1 (PW.pt (pw_and (pt_not (pt_val (pv 12))) (pw_and1 (pt_not (pt_val (pe_call GFilled hr (by rfl) gFilled FFilled.kp bFilled .nil pass0 (pa_cons (pv 9) (pa_cons (pv 6) (pa_cons (pv 7) pa_nil)))))))))))) (pss_one (ps_ret pe_bl)) pss_nil)))))))))) (pss_one (ps_ret pe_bl))), ?_⟩
    obtain ⟨pa, b, rfl, hpa, bvs, hb, hbd⟩ := hp
    obtain ⟨wvs, hw, hwd⟩ := hT
    obtain ⟨qvs, hq, hqd⟩ := hL
    have lb := pd_len hbd
    have lw := pd_len hwd
    have lq := pd_len hqd
    have lenT : ∀ {σ : L2.St} {H' : Hp}, Ex H H' → σ[1]? = some (some (.ref pT)) → Ev (tCB (rLenS K) (tCons (tVar 1) tNil)) σ H' (.int (ws.length : Int)) := fun e hσ => by
      rw [← lw]; exact ev_lenS (ev_var hσ) (.inl (sq_of (e _ _ hw)))
    refine q_forM1 (n := ws.length) (ea_cons (ev_un ev_c ru_neg) (ea_cons (ev_add (lenT (Ex.refl H) rfl) ev_c) ea_nil)) (by omega) (fun i σ H' => ∃ y5 y6 y7 y8 y9 y10 y11 y12, σ = [some (.ref pa), some (.ref pT), some (.ref lA), some (.int (way : Int)), some (.int len), y5, y6, y7, y8, y9, y10, y11, y12] ∧ Ex H H')
      (fun H1 e1 => ⟨none, none, none, none, none, none, none, none, rfl, e1⟩) (fun i σ' H1 hi ⟨y5, y6, y7, y8, y9, y10, y11, y12, eσ, e1⟩ => ?_) (fun σ' H' ⟨y5, y6, y7, y8, y9, y10, y11, y12, eσ, e1⟩ => ?_)
    · subst eσ
      generalize hk : (-1 + (i : Int)) = kk
      have k0 : -1 ≤ kk := by omega
      have k1 : kk ≤ (ws.length : Int) := by omega
      refine q_par (ea_cons ev_c (ea_cons (ev_var rfl) ea_nil)) fun H2 e2 => ?_
      refine q_mid (fun σ' H' => σ' = [some (.ref pa), some (.ref pT), some (.ref lA), some (.int (way : Int)), some (.int len), some (.int kk), some (.int (toldSpan ws len kk).1), some (.int (toldSpan ws len kk).2), y8, y9, y10, y11, y12] ∧ Ex H H') (fun nx hnx => ?_) (fun σ' H3 ⟨eσ, e3⟩ => ?_)
      · refine s_if (et_and (et_test (ev_op ev_c (ev_var rfl) (rv_I0 (g := fun i j => .bl (decide (i ≤ j)))))) (fun _ => et_test (ev_op (ev_var rfl) (lenT (e1.trans e2) rfl) (rv_I0 (g := fun i j => .bl (decide (i < j))))))) (fun hb' H3 e3 => ?_) (fun hb' H3 e3 => ?_)
        · have h1 := (Bool.and_eq_true _ _).mp hb'
          have h2 : 0 ≤ kk ∧ kk < (ws.length : Int) := ⟨of_decide_eq_true h1.1, of_decide_eq_true h1.2⟩
          have hkn : kk.toNat < ws.length := by omega
          have hwk : ws[kk.toNat]? = some (ws.getD kk.toNat (0, 0, 0)) := by rw [List.getD_eq_getElem?_getD, List.getElem?_eq_getElem hkn]; rfl
          have eT : toldSpan ws len kk = (ws.getD kk.toNat (0, 0, 0)).2 := if_pos h2
          generalize ws.getD kk.toNat (0, 0, 0) = wk at hwk eT
          obtain ⟨u, hu, huw⟩ := pd_of hwd hwk
          obtain ⟨aw, eaw, haw⟩ := huw
          have e03 := (e1.trans e2).trans e3
          have E1 : Ev (tOp (rIxL K) (tVar 1) (tVar 5)) [some (.ref pa), some (.ref pT), some (.ref lA), some (.int (way : Int)), some (.int len), some (.int kk), some (.int 0), some (.int len), y8, y9, y10, y11, y12] H3 (.ref aw) := by
            have := ev_ixL (K := K) (v := u) (ta := tVar 1) (tb := tVar 5) (H := H3) (σ := [some (.ref pa), some (.ref pT), some (.ref lA), some (.int (way : Int)), some (.int len), some (.int kk), some (.int 0), some (.int len), y8, y9, y10, y11, y12]) (ev_var rfl) (ev_var rfl) (sq_of (e03 _ _ hw)) (at_nat h2.1 hu)
            rw [eaw] at this; exact this
          refine E1 H3 (Ex.refl _) _ fun H4 e4 => ?_
          refine eo_some (i := 1) ev_c H4 (Ex.refl _) _ fun H5 e5 => ?_
          refine eo_none H5 (Ex.refl _) _ fun H6 e6 => ?_
          refine ⟨aw, _, rfl, st_of (((e03.trans e4).trans (e5.trans e6)) _ _ haw), fun z => ?_, fun p hpn => ?_⟩
          · exact absurd z.1 (by show ¬ HT.sIx 3 0 (some ((1 : Nat) : Int)) = 0; rw [HT.sIx_nat]; decide)
          · refine g2 (p := wk.2) ⟨p, rfl, ?_⟩ (hnx _ _ ⟨by rw [eT]; rfl, ((e03.trans e4).trans (e5.trans e6)).trans (Ex.new hpn)⟩)
            rw [upd_same]; rfl
        · have h2 : ¬ (0 ≤ kk ∧ kk < (ws.length : Int)) := fun ⟨g1, g2⟩ => by
            rw [decide_eq_true g1, decide_eq_true g2] at hb'; cases hb'
          have eT : toldSpan ws len kk = (0, len) := if_neg h2
          exact hnx _ _ ⟨by rw [eT]; rfl, (e1.trans e2).trans e3⟩
      · subst eσ
        generalize hF : toldSpan ws len kk = fl
        refine s_forNL (el_lst (vs := [.int (way : Int), .int ((way : Int) + 1)]) (ea_cons (ev_var rfl) (ea_cons (ev_add (ev_var rfl) ev_c) ea_nil)) (by show (2 : Nat) ≤ 100000; decide)) (fun p _ σ H' => ∃ y8 y9 y10 y11 y12, σ = [some (.ref pa), some (.ref pT), some (.ref lA), some (.int (way : Int)), some (.int len), some (.int kk), some (.int fl.1), some (.int fl.2), y8, y9, y10, y11, y12] ∧ Ex H H' ∧ H' p = some (.lst [.int (way : Int), .int ((way : Int) + 1)]))
          (fun p H4 np e4 h4 => ⟨y8, y9, y10, y11, y12, rfl, e3.trans e4, h4⟩) (fun p i σ' H' _ ⟨_, _, _, _, _, _, _, h⟩ => sq_of h) (fun p j x σ' H4 hx ⟨y8, y9, y10, y11, y12, eσ, e4, h4⟩ => ?_) (fun p σ' H4 ⟨y8, y9, y10, y11, y12, eσ, e4, h4⟩ => ⟨_, _, _, _, _, _, _, _, eσ, e4⟩)
        subst eσ
        obtain ⟨side, rfl, hside⟩ : ∃ side : Nat, x = .int (side : Int) ∧ (side = way ∨ side = way + 1) := by
          match j, hx with
          | 0, hx => exact ⟨way, (Option.some.inj hx).symm, .inl rfl⟩
          | 1, hx => exact ⟨way + 1, (Option.some.inj hx).symm, .inr rfl⟩
          | j + 2, hx => simp at hx
        have hs4 : side < 4 := by omega
        refine o_name ?_
        refine q_asgL (el_lst ea_nil (by decide)) fun o H5 no e5 ho => ?_
        have e45 := e4.trans e5
        have np : p ≠ o := ne_of_none h4 no
        have S : ∀ {H' : Hp} {a : Addr} {x : HO}, ExB o H5 H' → H a = some x → H' a = some x := fun e h => e _ _ (ne_of_none (e4 _ _ h) no) (e45 _ _ h)
        refine o_seq (s_forZM (K := K) (ev_ixT (ev_var rfl) ev_c (e45 _ _ hpa) at2) (ev_var rfl) (e45 _ _ hb) (e45 _ _ hq) (by omega) (fun m σ H' => ∃ y10 y11, σ = [some (.ref pa), some (.ref pT), some (.ref lA), some (.int (way : Int)), some (.int len), some (.int kk), some (.int fl.1), some (.int fl.2), some (.int (side : Int)), some (.ref o), y10, y11, y12] ∧ ExB o H5 H' ∧ ∃ fv, H' o = some (.lst fv) ∧ Paired (I2 H') fv (colS way side kk ((bs.zip qs).take m)))
          (fun H6 e6 => ⟨y10, y11, rfl, ExB.of e6, [], e6 _ _ ho, .nil⟩) (fun m σ' H' ⟨_, _, _, e, _⟩ => ⟨S e hb, S e hq⟩) (fun m x y T' σ' H6 hx hy ⟨y10, y11, eσ, e6, fv, hf, hp⟩ hT6 => ?_) (fun σ' H6 ⟨y10, y11, eσ, e6, fv, hf, hp⟩ => ?_))
        · subst eσ
          obtain ⟨c, hc, hxc⟩ := pd_at hbd hx
          obtain ⟨qq, hqq, hyq⟩ := pd_at hqd hy
          have hzip : (bs.zip qs)[m]? = some (c, qq) := by rw [List.getElem?_zip_eq_some]; exact ⟨hc, hqq⟩
          have hm := (List.getElem?_eq_some_iff.mp hzip).1
          have step : (bs.zip qs).take (m + 1) = (bs.zip qs).take m ++ [(c, qq)] := by rw [List.take_add_one, hzip]; rfl
          refine gp upd_same ?_
          have e7 := e6.ex (Ex.new hT6 (o := .tup [x, y]))
          have hf7 := (Ex.new hT6 (o := .tup [x, y])) _ _ hf
          have hp7 := mI2.pd (Ex.new hT6 (o := .tup [x, y])) hp
          have hxc7 : I4 (upd H6 T' (.tup [x, y])) x c := let ⟨a, h1, h2⟩ := hxc; ⟨a, h1, S e7 h2⟩
          have hyq7 : IQ (upd H6 T' (.tup [x, y])) y qq := let ⟨a, h1, h2⟩ := hyq; ⟨a, h1, S e7 h2⟩
          refine s_if (b := decide (V.int (pickQ qq side) = V.int kk)) (et_test (ev_op (ev_q4 rfl hyq7 (ev_var rfl) hs4) (ev_var rfl) (rv_eq rfl))) (fun hb' H8 e8 => ?_) (fun hb' H8 e8 => ?_)
          · have hk' : pickQ qq side = kk := V.int.inj (of_decide_eq_true hb')
            have lf : fv.length < 100000 := by
              have l1 := pd_len hp
              have l2 := colS_len way side kk ((bs.zip qs).take m)
              rw [List.length_take, List.length_zip] at l2
              omega
            have hw2 : ((way : Int) / 2) = ((way / 2 : Nat) : Int) := by omega
            have one : ∀ {n : Nat} {H' : Hp} {σ : L2.St}, (n = 1 ∨ n = 3) → σ[3]? = some (some (.int (way : Int))) → Ev (tOp (rI0 fun i j => .int (i - j)) (tC (.int (n : Int))) (tOp (rI CDiv fun i j => .int (i / j)) (tVar 3) (tC (.int 2)))) σ H' (.int ((n - way / 2 : Nat) : Int)) := fun {n H' σ} hn hσ => by
              have := ev_sub (i := (n : Int)) (σ := σ) (H := H') (ta := tC (.int (n : Int))) ev_c (ev_div (ev_var (i := 3) (v := .int (way : Int)) hσ) (tb := tC (.int 2)) (j := 2) ev_c ⟨by decide, by decide⟩)
              rw [show (n : Int) - (way : Int) / 2 = ((n - way / 2 : Nat) : Int) by omega] at this
              exact this
            refine p_app (P := fun v H' => I2 H' v (spanW way c)) (e8 _ _ hf7) (ev_var rfl) (evp_i2 (ea_cons (ev_b4 rfl (hxc7.mono e8) (one (n := 1) (.inl rfl) rfl) (by omega)) (ea_cons (ev_b4 rfl (hxc7.mono e8) (one (n := 3) (.inr rfl) rfl) (by omega)) ea_nil))) lf fun v H9 e9 hv9 => ⟨_, _, rfl, (e7.ex (e8.trans e9)).upd, fv ++ [v], upd_same, ?_⟩
            rw [step, colS_snoc, if_pos hk']
            exact bI2.pd (e9 _ _ (e8 _ _ hf7)) (ExB.upd (ExB.refl _ _)) (pd_app (mI2.pd (e8.trans e9) hp7) (pd_one hv9))
          · have hk' : pickQ qq side ≠ kk := fun z => of_decide_eq_false hb' (congrArg V.int z)
            refine ⟨_, _, rfl, e7.ex e8, fv, e8 _ _ hf7, ?_⟩
            rw [step, colS_snoc, if_neg hk']
            exact mI2.pd e8 hp7
        · subst eσ
          have et : (bs.zip qs).take bvs.length = bs.zip qs := List.take_of_length_le (by rw [List.length_zip]; omega)
          rw [et] at hp
          have e06 := e4.trans (ExB.back e5 no e6)
          have h6 := (ExB.back e5 no e6) _ _ h4
          have tat := tells.at hside k0 k1
          rw [hF] at tat
          refine q_asg (v := .bl (noSide ws way side kk)) (ev_is (ev_orV (ev_andV (ev_op (ev_var rfl) (ev_un ev_c ru_neg) (rv_eq rfl)) (fun _ => ev_op (ev_var rfl) (ev_add (ev_var rfl) ev_c) (rv_eq rfl))) (fun _ => ev_andV (ev_op (ev_var rfl) (lenT e06 rfl) (rv_eq rfl)) (fun _ => ev_op (ev_var rfl) (ev_var rfl) (rv_eq rfl)))) ?_) fun H7 e7 => ?_
          · unfold noSide
            rw [dI, dI, dI, dI, dN, dN1]
          have hp7 := mI2.pd e7 hp
          have hf7 := e7 _ _ hf
          generalize noSide ws way side kk = EE at tat
          refine s_if (b := false) ?_ (fun z => by cases z) (fun _ H8 e8 => ⟨_, _, _, _, _, rfl, (e06.trans e7).trans e8, (e7.trans e8) _ _ h6⟩)
          cases EE with
          | true =>
            have hnil := tat.1 rfl
            refine et_or (a := false) (b := false) (et_is (et_and (a := true) (b := false) (et_test (ev_var rfl)) (fun _ => et_is (et_test (ev_neNil (ev_var rfl) ⟨fv, hf7, hp7⟩)) (by rw [hnil]; rfl))) rfl) (fun _ => et_and (a := false) (b := false) (et_is (et_not (et_test (ev_var (v := .bl true) rfl))) rfl) (fun z => by cases z))
          | false =>
            have hpart := tat.2 rfl
            refine et_or (a := false) (b := false) (et_and (a := false) (b := false) (et_test (ev_var rfl)) (fun z => by cases z)) (fun _ => et_is (et_and (a := true) (b := false) (et_is (et_not (et_test (ev_var (v := .bl false) rfl))) rfl) (fun _ => et_is (et_not (a := true) (et_p (p_call (ea_cons (ev_var rfl) (ea_cons (ev_var rfl) (ea_cons (ev_var rfl) ea_nil))) fun H8 e8 Q' q' => ⟨o, _, _, _, rfl, LsI.mono mI2 e8 ⟨fv, hf7, hp7⟩, hpart, fun H9 e9 => q' _ _ e9 rfl⟩))) rfl)) rfl)
    · subst eσ
      exact s_ret ev_c fun H2 e2 => q _ (e1.trans e2)
end
end K14

/-! What law asks, in plain lists. -/
namespace K14
structure AllSides (W Hh : Int) (bs : List Bx) (qs : List Q4) : Prop where
  len : qs.length = bs.length
  of : ∀ (i : Nat) (c : Bx) (q : Q4), bs[i]? = some c → qs[i]? = some q → SidesOf W Hh bs c q
section
variable {W Hh : Int} {bs : List Bx} {qs : List Q4}
theorem AllSides.mem (h : AllSides W Hh bs qs) {p : Bx × Q4} (hp : p ∈ bs.zip qs) : SidesOf W Hh bs p.1 p.2 := by
  obtain ⟨i, hi⟩ := List.mem_iff_getElem?.mp hp
  obtain ⟨h1, h2⟩ := List.getElem?_zip_eq_some.mp hi
  exact h.of i _ _ h1 h2
theorem AllSides.fst (h : AllSides W Hh bs qs) : (bs.zip qs).map (fun z => z.1) = bs := List.map_fst_zip (Nat.le_of_eq h.len.symm)
theorem tells0 (p : Part W Hh bs) (h : AllSides W Hh bs qs) : Tells 0 (walls W bs) Hh (bs.zip qs) := by
  have L : Lies W Hh bs (walls W bs) ((bs.zip qs).map fun z => (z.1, z.2.1, z.2.2.1)) := by
    refine ⟨?_, fun u hu => ?_, fun u hu => ?_⟩
    · rw [List.map_map]; exact h.fst
    · obtain ⟨z, hz, rfl⟩ := List.mem_map.mp hu
      exact (h.mem hz).1
    · obtain ⟨z, hz, rfl⟩ := List.mem_map.mp hu
      exact (h.mem hz).2.1
  have w1 := walls_ok p
  have eL : ∀ k, colS 0 0 k (bs.zip qs) = spL ((bs.zip qs).map fun z => (z.1, z.2.1, z.2.2.1)) k := fun k => by
    unfold spL
    rw [List.filter_map, List.map_map]
    rfl
  have eR : ∀ k, colS 0 (0 + 1) k (bs.zip qs) = spR ((bs.zip qs).map fun z => (z.1, z.2.1, z.2.2.1)) k := fun k => by
    unfold spR
    rw [List.filter_map, List.map_map]
    rfl
  refine ⟨?_, ?_, ?_, ?_, fun k w hw => ⟨?_, ?_⟩⟩
  · rw [eL]; exact left_border L p w1
  · rw [eR]; exact no_right L p w1
  · rw [eL]; exact no_left L p w1
  · rw [eR]; exact right_border L p w1
  · rw [eL]; exact along_left L p w1 hw
  · rw [eR]; exact along_right L p w1 hw
theorem tells2 (p : Part W Hh bs) (h : AllSides W Hh bs qs) : Tells 2 (walls Hh (bs.map Bx.tr)) W (bs.zip qs) := by
  have L : Lies Hh W (bs.map Bx.tr) (walls Hh (bs.map Bx.tr)) ((bs.zip qs).map fun z => (z.1.tr, z.2.2.2.1, z.2.2.2.2)) := by
    refine ⟨?_, fun u hu => ?_, fun u hu => ?_⟩
    · rw [List.map_map]
      have e : (bs.zip qs).map ((fun x => x.1) ∘ fun z : Bx × Q4 => (z.1.tr, z.2.2.2.1, z.2.2.2.2)) = ((bs.zip qs).map fun z => z.1).map Bx.tr := by rw [List.map_map]; rfl
      rw [e, h.fst]
    · obtain ⟨z, hz, rfl⟩ := List.mem_map.mp hu
      exact (h.mem hz).2.2.1
    · obtain ⟨z, hz, rfl⟩ := List.mem_map.mp hu
      exact (h.mem hz).2.2.2
  have w1 := walls_ok p.tr
  have eL : ∀ k, colS 2 2 k (bs.zip qs) = spL ((bs.zip qs).map fun z => (z.1.tr, z.2.2.2.1, z.2.2.2.2)) k := fun k => by
    unfold spL
    rw [List.filter_map, List.map_map]
    rfl
  have eR : ∀ k, colS 2 (2 + 1) k (bs.zip qs) = spR ((bs.zip qs).map fun z => (z.1.tr, z.2.2.2.1, z.2.2.2.2)) k := fun k => by
    unfold spR
    rw [List.filter_map, List.map_map]
    rfl
  refine ⟨?_, ?_, ?_, ?_, fun k w hw => ⟨?_, ?_⟩⟩
  · rw [eL]; exact left_border L p.tr w1
  · rw [eR]; exact no_right L p.tr w1
  · rw [eL]; exact no_left L p.tr w1
  · rw [eR]; exact right_border L p.tr w1
  · rw [eL]; exact along_left L p.tr w1 hw
  · rw [eR]; exact along_right L p.tr w1 hw
theorem walls_len (W : Int) (bs : List Bx) (h : bs.length ≤ 24) : (walls W bs).length ≤ 10000 := by
  unfold walls wallsOf
  have h1 := wallsAll_len (rends bs) (sortI (places W (rends bs)))
  have h2 := (sortI_perm (places W (rends bs))).length_eq
  have h3 := places_len W (rends bs)
  have h4 : (rends bs).length = bs.length := by unfold rends; rw [List.length_map]
  have h5 := Nat.mul_le_mul (show (sortI (places W (rends bs))).length ≤ 24 by omega) (show (rends bs).length ≤ 24 by omega)
  omega

/-! ### the pairs told -/
def GoodP (ps : List Sp2) (qs : List Q4) (side : Nat) : Prop := ∀ p ∈ ps, ∃ (i j : Nat) (q q' : Q4), p = ((i : Int), (j : Int)) ∧ qs[i]? = some q ∧ qs[j]? = some q' ∧ pickQ q (side + 1) = pickQ q' side ∧ (p.2, p.1) ∉ ps
theorem AllSides.at (h : AllSides W Hh bs qs) {i : Nat} {c : Bx} (hc : bs[i]? = some c) : ∃ q, qs[i]? = some q ∧ SidesOf W Hh bs c q := by
  have hi := (List.getElem?_eq_some_iff.mp hc).1
  have hq : qs[i]? = some (qs[i]'(by rw [h.len]; exact hi)) := List.getElem?_eq_getElem _
  exact ⟨_, hq, h.of i c _ hc hq⟩
theorem good_bes (p : Part W Hh bs) (h : AllSides W Hh bs qs) : GoodP (nbr bes bs bs.length) qs 0 := by
  intro u hu
  obtain ⟨i, j, c, d, hc, hd, hr, rfl⟩ := mem_nbr.mp hu
  obtain ⟨q, hq, sq⟩ := h.at hc
  obtain ⟨q', hq', sq'⟩ := h.at hd
  refine ⟨i, j, q, q', rfl, hq, hq', ?_, fun hm => ?_⟩
  · exact beside_one p (walls_ok p) (List.mem_of_getElem? hc) (List.mem_of_getElem? hd) hr.1 hr.2.1 hr.2.2 sq.2.1 sq'.1
  · obtain ⟨i', j', c', d', hc', hd', hr', e⟩ := mem_nbr.mp hm
    have e1 : j = i' := by have := (Prod.mk.inj e).1; omega
    have e2 : i = j' := by have := (Prod.mk.inj e).2; omega
    subst e1 e2
    rw [hd] at hc'
    rw [hc] at hd'
    cases hc'
    cases hd'
    exact bes_no (p.ins _ (List.mem_of_getElem? hc)) (p.ins _ (List.mem_of_getElem? hd)) hr hr'
theorem good_bnt (p : Part W Hh bs) (h : AllSides W Hh bs qs) : GoodP (nbr bnt bs bs.length) qs 2 := by
  intro u hu
  obtain ⟨i, j, c, d, hc, hd, hr, rfl⟩ := mem_nbr.mp hu
  obtain ⟨q, hq, sq⟩ := h.at hc
  obtain ⟨q', hq', sq'⟩ := h.at hd
  refine ⟨i, j, q, q', rfl, hq, hq', ?_, fun hm => ?_⟩
  · exact beside_one p.tr (walls_ok p.tr) (List.mem_map_of_mem (List.mem_of_getElem? hc)) (List.mem_map_of_mem (List.mem_of_getElem? hd)) (c := c.tr) (d := d.tr) hr.1 hr.2.1 hr.2.2 sq.2.2.2 sq'.2.2.1
  · obtain ⟨i', j', c', d', hc', hd', hr', e⟩ := mem_nbr.mp hm
    have e1 : j = i' := by have := (Prod.mk.inj e).1; omega
    have e2 : i = j' := by have := (Prod.mk.inj e).2; omega
    subst e1 e2
    rw [hd] at hc'
    rw [hc] at hd'
    cases hc'
    cases hd'
    exact bnt_no (p.ins _ (List.mem_of_getElem? hc)) (p.ins _ (List.mem_of_getElem? hd)) hr hr'
theorem nbr_apart {p : Sp2} (h1 : p ∈ nbr bes bs bs.length) (h2 : p ∈ nbr bnt bs bs.length) : False := by
  obtain ⟨i, j, c, d, hc, hd, hr, rfl⟩ := mem_nbr.mp h1
  obtain ⟨i', j', c', d', hc', hd', hr', e⟩ := mem_nbr.mp h2
  have e1 : i = i' := by have := (Prod.mk.inj e).1; omega
  have e2 : j = j' := by have := (Prod.mk.inj e).2; omega
  subst e1 e2
  rw [hc] at hc'
  rw [hd] at hd'
  cases hc'
  cases hd'
  exact bes_bnt hr hr'
/-- as many names as boxes -/
theorem met_len (p : Part W Hh bs) (h1 : bs.length ≠ 1) {ks : List Int} (nd : ks.Nodup) (hm : ∀ x, x ∈ ks ↔ ∃ u ∈ nbr bes bs bs.length ++ nbr bnt bs bs.length, x = u.1 ∨ x = u.2) : ks.length = bs.length := by
  have hR : ((List.range bs.length).map fun i : Nat => (i : Int)).Nodup := by
    refine List.Pairwise.map _ (fun a b hab => ?_) (List.nodup_range (n := bs.length))
    omega
  have e := (List.perm_ext_iff_of_nodup nd hR).mpr fun x => by
    rw [hm]
    constructor
    · rintro ⟨u, hu, hx⟩
      have key : ∃ (i j : Nat), i < bs.length ∧ j < bs.length ∧ u = ((i : Int), (j : Int)) := by
        rcases (List.mem_append.mp hu) with hu | hu
        · obtain ⟨i, j, c, d, hc, hd, _, e⟩ := mem_nbr.mp hu
          exact ⟨i, j, (List.getElem?_eq_some_iff.mp hc).1, (List.getElem?_eq_some_iff.mp hd).1, e⟩
        · obtain ⟨i, j, c, d, hc, hd, _, e⟩ := mem_nbr.mp hu
          exact ⟨i, j, (List.getElem?_eq_some_iff.mp hc).1, (List.getElem?_eq_some_iff.mp hd).1, e⟩
      obtain ⟨i, j, hi, hj, rfl⟩ := key
      rcases hx with rfl | rfl
      · exact List.mem_map.mpr ⟨i, List.mem_range.mpr hi, rfl⟩
      · exact List.mem_map.mpr ⟨j, List.mem_range.mpr hj, rfl⟩
    · intro hx
      obtain ⟨i, hi, rfl⟩ := List.mem_map.mp hx
      have hi := List.mem_range.mp hi
      have hc : bs[i]? = some bs[i] := List.getElem?_eq_getElem hi
      obtain ⟨j, d, hd, hr⟩ := met_all p h1 hc
      rcases hr with hr | hr | hr | hr
      · exact ⟨_, List.mem_append_left _ (mem_nbr.mpr ⟨i, j, _, d, hc, hd, hr, rfl⟩), .inl rfl⟩
      · exact ⟨_, List.mem_append_left _ (mem_nbr.mpr ⟨j, i, d, _, hd, hc, hr, rfl⟩), .inr rfl⟩
      · exact ⟨_, List.mem_append_right _ (mem_nbr.mpr ⟨i, j, _, d, hc, hd, hr, rfl⟩), .inl rfl⟩
      · exact ⟨_, List.mem_append_right _ (mem_nbr.mpr ⟨j, i, d, _, hd, hc, hr, rfl⟩), .inr rfl⟩
  have := e.length_eq
  rw [List.length_map, List.length_range] at this
  exact this
end
end K14

/-! Walk: law. -/
namespace K14
open PySem PySem.Spec PyProof.Rows L2 Evl
theorem hu65 {k : Nat} {A : Around} (r : Room k A) : A.units + 65 < cLine := by have := r.un; omega
section
variable {P : Program} {w : World} {base : Heap} {mg : Str → Option Value} {K : PySem.W.Frag}

/-! ### the names met -/
def kT (k : Int) : Key × V := (Sum.inl k, V.bl true)
def addK (ks : List Int) (x : Int) : List Int := if x ∈ ks then ks else ks ++ [x]
theorem any_kT (x : Int) (ks : List Int) : ((ks.map kT).any fun kv => decide (kv.1 = (Sum.inl x : Key))) = decide (x ∈ ks) := by
  induction ks with
  | nil => rfl
  | cons a ks ih =>
    rw [List.map_cons, List.any_cons, ih]
    by_cases h : x = a
    · subst h
      have e1 : decide ((kT x).1 = (Sum.inl x : Key)) = true := decide_eq_true rfl
      rw [e1, decide_eq_true List.mem_cons_self]; rfl
    · have e1 : decide ((kT a).1 = (Sum.inl x : Key)) = false := decide_eq_false fun z => h (Sum.inl.inj z).symm
      rw [e1, Bool.false_or]
      by_cases m : x ∈ ks
      · rw [decide_eq_true m, decide_eq_true (List.mem_cons_of_mem _ m)]
      · rw [decide_eq_false m, decide_eq_false fun z => (List.mem_cons.mp z).elim h m]
theorem put_met (ks : List Int) (x : Int) : putK (ks.map kT) (Sum.inl x) (V.bl true) = (addK ks x).map kT := by
  unfold putK addK
  rw [any_kT]
  by_cases m : x ∈ ks
  · rw [if_pos (decide_eq_true m), if_pos m, List.map_map]
    refine List.map_congr_left fun y _ => ?_
    show (if (kT y).1 = Sum.inl x then ((kT y).1, V.bl true) else kT y) = kT y
    split <;> rfl
  · rw [if_neg (fun z => m (of_decide_eq_true z)), if_neg m, List.map_append]; rfl
theorem mem_addK {ks : List Int} {x y : Int} : y ∈ addK ks x ↔ y ∈ ks ∨ y = x := by
  unfold addK
  split
  · rename_i h
    exact ⟨.inl, fun z => z.elim id fun e => e ▸ h⟩
  · rw [List.mem_append, List.mem_singleton]
theorem nodup_addK {ks : List Int} {x : Int} (h : ks.Nodup) : (addK ks x).Nodup := by
  unfold addK
  split
  · exact h
  · rename_i m
    refine List.nodup_append.mpr ⟨h, by simp, fun a ha b hb => ?_⟩
    rw [List.mem_singleton] at hb
    intro z
    subst z hb
    exact m ha
theorem len_addK (ks : List Int) (x : Int) : (addK ks x).length ≤ ks.length + 1 := by
  unfold addK
  split
  · omega
  · rw [List.length_append]; exact Nat.le_refl _
structure Met (L : List Sp2) (ks : List Int) : Prop where
  nd : ks.Nodup
  len : ks.length ≤ 2 * L.length
  mem : ∀ x, x ∈ ks ↔ ∃ u ∈ L, x = u.1 ∨ x = u.2
theorem Met.nil : Met [] [] := ⟨.nil, Nat.le_refl _, fun x => ⟨fun z => (nomatch z), fun ⟨_, z, _⟩ => (nomatch z)⟩⟩
theorem Met.snoc {L : List Sp2} {ks : List Int} (h : Met L ks) (p : Sp2) : Met (L ++ [p]) (addK (addK ks p.1) p.2) where
  nd := nodup_addK (nodup_addK h.nd)
  len := by
    have h1 := len_addK (addK ks p.1) p.2
    have h2 := len_addK ks p.1
    have h3 := h.len
    rw [List.length_append, show [p].length = 1 from rfl]
    omega
  mem := fun x => by
    rw [mem_addK, mem_addK, h.mem]
    constructor
    · rintro ((⟨u, hu, z⟩ | z) | z)
      · exact ⟨u, List.mem_append_left _ hu, z⟩
      · exact ⟨p, List.mem_append_right _ (List.mem_singleton.mpr rfl), .inl z⟩
      · exact ⟨p, List.mem_append_right _ (List.mem_singleton.mpr rfl), .inr z⟩
    · rintro ⟨u, hu, z⟩
      rcases (List.mem_append.mp hu) with hu | hu
      · exact .inl (.inl ⟨u, hu, z⟩)
      · rw [List.mem_singleton] at hu
        subst hu
        rcases z with z | z
        · exact .inl (.inr z)
        · exact .inr z
theorem any_dP (ps : List Sp2) (p : Sp2) : ((ps.map dP).any fun z => PyData.eqv z (dP p)) = decide (p ∈ ps) := by
  induction ps with
  | nil => rfl
  | cons q ps ih =>
    rw [List.map_cons, List.any_cons, ih, eqv_dP]
    by_cases h : q = p
    · rw [decide_eq_true h, decide_eq_true (List.mem_cons.mpr (.inl h.symm))]; rfl
    · rw [decide_eq_false h, Bool.false_or]
      by_cases m : p ∈ ps
      · rw [decide_eq_true m, decide_eq_true (List.mem_cons_of_mem _ m)]
      · rw [decide_eq_false m, decide_eq_false fun z => (List.mem_cons.mp z).elim (fun e => h e.symm) m]
/-! ### readings for law -/
def IP (H : Hp) (v : V) (p : Addr × Int) : Prop := ∃ a, v = .ref a ∧ H a = some (.tup [.ref p.1, .int p.2])
theorem mIP : Mono IP := fun _ _ _ _ e ⟨a, h1, h2⟩ => ⟨a, h1, e _ _ h2⟩
theorem last13 {xs : List Int} (L : Lns xs) : atI (xs.map V.int) (-1) = some (.int (ln xs 12)) := by
  have hl := L.len
  have h12 := ln_at L (i := 12) (by decide) (by decide)
  rcases List.eq_nil_or_concat xs with e | ⟨A', z, e⟩
  · subst e; simp at hl
  · rw [List.concat_eq_append] at e
    subst e
    rw [List.length_append, show [z].length = 1 from rfl] at hl
    have e2 : ((12 : Int)).toNat = A'.length := by
      have : ((12 : Int)).toNat = 12 := rfl
      omega
    rw [e2, List.getElem?_append_right (Nat.le_refl _), Nat.sub_self] at h12
    have e3 : z = ln (A' ++ [z]) 12 := Option.some.inj h12
    rw [← e3, List.map_append]
    exact atI_last _ _
section
variable {σ : L2.St} {H : Hp} {te ta tb td ty tv tZ tU : TE} {tA : TA} {D : Ends} {Q : VK} {r : List V → Hp → VK → Prop}
theorem el_lcNone {a : Addr} {vs : List V} {j : Nat} {ws : List Nat} {tt : TT} {tl : TE} (h : Ev tl σ H (.ref a)) (hx : H a = some (.lst vs)) (hw : ∀ x, wipe ((wipe σ ws).set j (some x)) ws = wipe σ ws)
    (hs : ∀ (i : Nat) x H', Ex H H' → vs[i]? = some x → EvT tt ((wipe σ ws).set j (some x)) H' false) : EvL (tLc (iList K tl) (gName j) tt te ws) σ H [] := fun H1 e Q q => h H1 e _ fun H2 e2 =>
  ⟨a, rfl, ⟨vs, sq_of ((e.trans e2) _ _ hx)⟩, fun Dl hD => lc_list (xs := vs) (fun i H' => Ex H2 H' ∧ H' Dl = some (.lst [])) ⟨Ex.new hD, upd_same⟩ (fun i H' _ p' => sq_of (((e.trans e2).trans p'.1) _ _ hx)) (fun i x H' hi p' =>
    ⟨hw x, hs i x H' ((e.trans e2).trans p'.1) hi H' (Ex.refl H') _ fun H3 e3 => iteF ⟨p'.1.trans e3, e3 _ _ p'.2⟩⟩) fun H' p' => q Dl H' (fresh_back e2 hD) (e2.trans p'.1) p'.2⟩
theorem ev_lq {l j : Nat} {lA : Addr} {qv : List V} {qs : List Q4} {n side : Nat} {q : Q4} (h5 : σ[l]? = some (some (.ref lA))) (hj : σ[j]? = some (some (.int (n : Int)))) (h : H lA = some (.lst qv)) (hp : Paired (IQ H) qv qs) (hq : qs[n]? = some q) (hb : Ev tb σ H (.int (side : Int))) (hs : side < 4) :
    Ev (tOp (rIxT K) (tOp (rIxL K) (tVar l) (tVar j)) tb) σ H (.int (pickQ q side)) := by
  obtain ⟨u, hu, aq, eu, haq⟩ := pd_of hp hq
  subst eu
  exact ev_ixT (p := aq) (ev_ixL (ev_var h5) (ev_var hj) (sq_of h) (atI_nat hu)) hb haq (at_pick hs)
theorem s_lcR {n : Nat} {g : TG} {tt : TT} {ws : List Nat} (h : EvA tA σ H [.int (n : Int)]) (hn : n ≤ 100000)
    (k : ∀ H1, Ex H H1 → ∀ Dl, H1 Dl = none → ∃ Pv : Nat → Hp → Prop, Pv 0 (upd H1 Dl (.lst [])) ∧ (∀ (i : Nat) H', i < n → Pv i H' → g (.int (i : Int)) (wipe σ ws) H' fun σ2 H2 => wipe σ2 ws = wipe σ ws ∧ tt σ2 H2 fun b H3 => if b = true then te σ2 H3 fun y H4 => ∃ acc, H4 Dl = some (.lst acc) ∧ acc.length < sizeLine ∧ Pv (i + 1) (upd H4 Dl (.lst (acc ++ [y]))) else Pv (i + 1) H3) ∧ ∀ H', Pv n H' → Q (.ref Dl) H') :
    tLc (iRng1 tA) g tt te ws σ H Q := h H (Ex.refl H) _ fun H1 e => ⟨(n : Int), rfl, by omega, by omega, fun Dl hD => by
    obtain ⟨Pv, h0, hs, hd⟩ := k H1 e Dl hD
    rw [Int.toNat_natCast]
    exact lc_range (lo := 0) (n := n) Pv h0 (fun i H' hi p => by rw [Int.zero_add]; exact hs i H' hi p) hd⟩
theorem EvA.mono {vs : List V} {H' : Hp} (h : EvA tA σ H vs) (e : Ex H H') : EvA tA σ H' vs := fun H1 e1 Q q => h H1 (e.trans e1) Q q
theorem o_tup (h : tA σ H fun xs H1 => xs.length ≤ sizeLine ∧ ∀ p, H1 p = none → Q (.ref p) (upd H1 p (.tup xs))) : tTup tA σ H Q := h
theorem o_cb (h : tA σ H fun vs H1 => r vs H1 Q) : tCB r tA σ H Q := h
theorem ev_lastL {i : Nat} {b : Addr} {xs : List Int} (hσ : σ[i]? = some (some (.ref b))) (h : H b = some (.lst (xs.map V.int))) (L : Lns xs) : Ev (tOp (rIxL K) (tVar i) (tUn (rU fun i => .int (-i)) (tC (.int 1)))) σ H (.int (ln xs 12)) :=
  ev_ixL (ev_var hσ) (ev_un ev_c ru_neg) (sq_of h) (last13 L)
theorem s_dput {d : Addr} {kvs : List (Key × V)} {k : Int} {v : V} (hv : Ev tv σ H v) (hd : Ev td σ H (.ref d)) (hy : Ev ty σ H (.int k)) (h : H d = some (.dK kvs)) (hl : kvs.length < 100000) (k' : ∀ H1, Ex H H1 → D.nx σ (upd H1 d (.dK (putK kvs (Sum.inl k) v)))) : sDPut td ty tv D σ H :=
  hv H (Ex.refl H) _ fun H1 e1 => hd H1 e1 _ fun H2 e2 => hy H2 (e1.trans e2) _ fun H3 e3 => ⟨d, _, rfl, DPut.k (k := Sum.inl k) (((e1.trans e2).trans e3) _ _ h) (sz_lt hl), k' H3 ((e1.trans e2).trans e3)⟩
theorem ev_lenD {d : Addr} {kvs : List (Key × V)} (ha : Ev ta σ H (.ref d)) (h : H d = some (.dK kvs)) : Ev (tCB (fun xs H Q => ∃ a kvs, xs = [V.ref a] ∧ H a = some (.dK kvs) ∧ Q (.int (List.length kvs : Int)) H) (tCons ta tNil)) σ H (.int (kvs.length : Int)) :=
  ev_cb (ea_cons ha ea_nil) fun H1 e Q q => ⟨d, kvs, rfl, e _ _ h, q H1 (Ex.refl H1)⟩
/-- a pair in a list of pairs -/
theorem evp_inP {a : Addr} {ps : List Sp2} {p : Sp2} (h1 : EvP ta σ H fun v H' => I2 H' v p) (h2 : Ev tb σ H (.ref a)) (h : LsI I2 H a ps) : EvP (tOp (rInD K) ta tb) σ H fun v _ => v = .bl (decide (p ∈ ps)) := fun H1 e Q q =>
  h1 H1 e _ fun v H2 e2 hv => h2 H2 (e.trans e2) _ fun H3 e3 => by
    obtain ⟨vs, hvs, hpd⟩ := h.mono mI2 ((e.trans e2).trans e3)
    refine ⟨dP p, ps.map dP, dp_i2 (hv.mono e3), .lst (sq_of hvs) (dp_all hpd), shaped_p p, shaped_ps ps, ?_⟩
    rw [any_dP]
    exact q _ _ (e2.trans e3) rfl
theorem evp_along {E : XK} {pg : V} {lA : Addr} {W Hh len : Int} {bs : List Bx} {ws : List Wl} {qs : List Q4} {way : Nat} (h4 : σ[4]? = some (some pg)) (hU : EvP tU σ H (HasL I3 ws)) (h5 : σ[5]? = some (some (.ref lA))) (hZ : Ev tZ σ H (.int len))
    (hp : Pg H pg W Hh bs) (hz : bs.length ≤ 24) (hw : ws.length ≤ 10000) (hL : LsI IQ H lA qs) (hq : qs.length = bs.length) (hway : way = 0 ∨ way = 2) (ht : Tells way ws len (bs.zip qs)) :
    EvP (tCall spAlong [] E (tCons (tVar 4) (tCons tU (tCons (tVar 5) (tCons (tC (.int (way : Int))) (tCons tZ tNil)))))) σ H fun v _ => v = .bl true := fun H1 e1 Q q => by
  refine o_call (o_cons (ev_var h4 H1 e1 _ fun H2 e2 => o_cons (hU H2 (e1.trans e2) _ fun v H3 e3 ⟨pT, ev, hT⟩ => o_cons (ev_var h5 H3 ((e1.trans e2).trans e3) _ fun H4 e4 => o_cons (ev_c H4 (((e1.trans e2).trans e3).trans e4) _ fun H5 e5 => o_cons (hZ H5 ((((e1.trans e2).trans e3).trans e4).trans e5) _ fun H6 e6 => o_nil ?_))))))
  subst ev
  have e26 := (((e2.trans e3).trans e4).trans e5).trans e6
  exact ⟨pg, W, Hh, bs, pT, lA, ws, qs, way, len, rfl, hp.mono (e1.trans e26), hz, hT.mono mI3 ((e4.trans e5).trans e6), hw, hL.mono mIQ (e1.trans e26), hq, hway, ht, fun H7 e7 => q _ _ (e26.trans e7) rfl⟩
end
abbrev sLaw : Stmt := topS 22
abbrev NLaw : List Str := ["script", "most", "xs", "ys", "page", "lies", "across", "down", "met", "pairs", "side", "one", "other", "k", "pair"]
theorem scLaw : FnScope ["script", "most", "xs", "ys", "page", "lies", "across", "down", "met", "pairs", "side", "one", "other", "k", "pair"] ["script"] (defScope sLaw) := ⟨rfl, rfl, rfl, by decide +kernel, rfl, by decide +kernel, by decide +kernel⟩
def spLaw (K : PySem.W.Frag) (Pt : Addr) : Sp := fun vs H Q _ => ∃ (a : Addr) (ns : List Int), vs = [.ref a] ∧ SqL K H a (ns.map V.int) ∧ LamX.Tabs (tabT Pt) H ∧ ∀ H', Q (.bl true) H'
theorem ok_law {f c0 Pt : Addr} {fd : FuncData} {k : Nat}
    {fJoined fEnds fUpr fLev fWall fSides fBes fBen fStir fCell fGrown fWheel fGrid fLines fLaid fFilled fAlong : Addr} {fdJoined fdEnds fdUpr fdLev fdWall fdSides fdBes fdBen fdStir fdCell fdGrown fdWheel fdGrid fdLines fdLaid fdFilled fdAlong : FuncData}
    (F : Fun K "law" "law" sLaw f fd)
    (FJoined : Fun K "joined_spans" "joined_spans" sJoined fJoined fdJoined) (bJoined : Binds K fdJoined ["spans"] []) (gJoined : mg "joined_spans" = some (.ref fJoined))
    (FEnds : Fun K "ends_joined" "ends_joined" sEnds fEnds fdEnds) (bEnds : Binds K fdEnds ["ends", "border"] []) (gEnds : mg "ends_joined" = some (.ref fEnds))
    (FUpr : Fun K "uprights" "uprights" sUpr fUpr fdUpr) (bUpr : Binds K fdUpr ["page"] []) (gUpr : mg "uprights" = some (.ref fUpr))
    (FLev : Fun K "levels" "levels" sLev fLev fdLev) (bLev : Binds K fdLev ["page"] []) (gLev : mg "levels" = some (.ref fLev))
    (FWall : Fun K "wall_at" "wall_at" sWall fWall fdWall) (bWall : Binds K fdWall ["some", "place", "first", "border"] []) (gWall : mg "wall_at" = some (.ref fWall))
    (FSides : Fun K "sides" "sides" sSides fSides fdSides) (bSides : Binds K fdSides ["page", "box"] []) (gSides : mg "sides" = some (.ref fSides))
    (FBes : Fun K "beside" "beside" sBes fBes fdBes) (bBes : Binds K fdBes ["page"] []) (gBes : mg "beside" = some (.ref fBes))
    (FBen : Fun K "beneath" "beneath" sBen fBen fdBen) (bBen : Binds K fdBen ["page"] []) (gBen : mg "beneath" = some (.ref fBen))
    (FStir : Fun K "_law_stir" "_law_stir" sStir fStir fdStir) (bStir : Binds K fdStir ["cell", "k"] []) (gStir : mg "_law_stir" = some (.ref fStir))
    (FCell : Fun K "_law_cell" "_law_cell" sCell fCell fdCell) (bCell : Binds K fdCell ["script", "k"] []) (gCell : mg "_law_cell" = some (.ref fCell))
    (FGrown : Fun K "_law_grown" "_law_grown" sGrown fGrown fdGrown) (bGrown : Binds K fdGrown ["boxes", "at", "way", "many"] []) (gGrown : mg "_law_grown" = some (.ref fGrown))
    (FWheel : Fun K "_law_wheel" "_law_wheel" sWheel fWheel fdWheel) (bWheel : Binds K fdWheel ["box", "rest"] []) (gWheel : mg "_law_wheel" = some (.ref fWheel))
    (FGrid : Fun K "_law_grid" "_law_grid" sGrid fGrid fdGrid) (bGrid : Binds K fdGrid ["cells", "many"] []) (gGrid : mg "_law_grid" = some (.ref fGrid))
    (FLines : Fun K "_law_lines" "_law_lines" sLines fLines fdLines) (bLines : Binds K fdLines ["script", "first", "many", "most"] []) (gLines : mg "_law_lines" = some (.ref fLines))
    (FLaid : Fun K "_law_laid" "_law_laid" sLaid fLaid fdLaid) (bLaid : Binds K fdLaid ["boxes", "xs", "ys"] []) (gLaid : mg "_law_laid" = some (.ref fLaid)) (hcode : fdLaid.code = .ref c0) (TB : LamX.TabB base mg c0 Pt)
    (FFilled : Fun K "_law_filled" "_law_filled" sFilled fFilled fdFilled) (bFilled : Binds K fdFilled ["spans", "first", "last"] []) (gFilled : mg "_law_filled" = some (.ref fFilled))
    (FAlong : Fun K "_law_along" "_law_along" sAlong fAlong fdAlong) (bAlong : Binds K fdAlong ["page", "told", "lies", "way", "length"] []) (gAlong : mg "_law_along" = some (.ref fAlong))
    (T : Txt mg) : FnOk P w K mg base CX0 (k + 5) f fd ["script"] (spLaw K Pt) := by
  have GCell : FnOk P w K mg base CX0 (k + 4) fCell fdCell ["script", "k"] (spCell K) := ok_cell (k := k + 2) FCell FStir bStir gStir T
  have GLines : FnOk P w K mg base CX0 (k + 4) fLines fdLines ["script", "first", "many", "most"] (spLines K) := ok_lines (k := k + 1) FLines FCell bCell gCell FStir bStir gStir T
  have GGrid : FnOk P w K mg base CX0 (k + 4) fGrid fdGrid ["cells", "many"] (spGrid K) := ok_grid (k := k + 2) FGrid FWheel bWheel gWheel FGrown bGrown gGrown T
  have GLaid : FnOk P w K mg base CX0 (k + 4) fLaid fdLaid ["boxes", "xs", "ys"] (spLaid Pt) := ok_laid (k := k + 2) FLaid hcode TB T
  have GSides : FnOk P w K mg base CX0 (k + 4) fSides fdSides ["page", "box"] spSides := ok_sides FSides FUpr bUpr gUpr FLev bLev gLev FWall bWall gWall FEnds bEnds gEnds FJoined bJoined gJoined T
  have GUpr : FnOk P w K mg base CX0 (k + 4) fUpr fdUpr ["page"] spUpr := ok_upr (k := k + 1) FUpr FEnds bEnds gEnds FJoined bJoined gJoined T
  have GLev : FnOk P w K mg base CX0 (k + 4) fLev fdLev ["page"] spLev := ok_lev (k := k + 1) FLev FEnds bEnds gEnds FJoined bJoined gJoined T
  have GAlong : FnOk P w K mg base CX0 (k + 4) fAlong fdAlong ["page", "told", "lies", "way", "length"] spAlong := ok_along (k := k + 2) FAlong FFilled bFilled gFilled T
  have GBes : FnOk P w K mg base CX0 (k + 4) fBes fdBes ["page"] spBes := ok_bes (k := k + 3) FBes T
  have GBen : FnOk P w K mg base CX0 (k + 4) fBen fdBen ["page"] spBen := ok_ben (k := k + 3) FBen T
  refine F.ok scLaw (fun vs H Q E h => ?_) (fun cdv A outer s H vs Q E hr h => ?_)
  · obtain ⟨a, ns, rfl, _⟩ := h; rfl
  · obtain ⟨a, ns, rfl, hS, hT, q⟩ := h
    refine ⟨_, (pss_cons (ps_set (i := 1) scLaw.nd rfl (.inl rfl) (pe_ix ix_list (pe_lst (pa_cons pe_int (pa_cons pe_int pa_nil))) (pe_op op_mod (pe_call GCell hr (by rfl) gCell FCell.kp bCell .nil pass0 (pa_cons (pv 0) (pa_cons pe_int pa_nil))) pe_int) (fun _ _ => rfl)))
 (pss_cons (ps_set (i := 2) scLaw.nd rfl (.inl rfl) (pe_call GLines hr (by rfl) gLines FLines.kp bLines .nil pass0 (pa_cons (pv 0) (pa_cons pe_int (pa_cons pe_int (pa_cons (pv 1) pa_nil))))))
 (pss_cons (ps_set (i := 3) scLaw.nd rfl (.inl rfl) (pe_call GLines hr (by rfl) gLines FLines.kp bLines .nil pass0 (pa_cons (pv 0) (pa_cons pe_int (pa_cons pe_int (pa_cons (pv 1) pa_nil))))))
 (pss_cons (ps_set (i := 4) scLaw.nd rfl (.inr rfl) (pe_tup (pa_cons (pe_ix ix_list (pv 2) (pe_un un_neg pe_int) (fun _ _ => rfl)) (pa_cons (pe_ix ix_list (pv 3) (pe_un un_neg pe_int) (fun _ _ => rfl)) (pa_cons (pe_callTy call_tuple_of (by rfl) T.tuple (by decide +kernel) (pa_cons (pe_call GLaid hr (by rfl) gLaid FLaid.kp bLaid .nil pass0 (pa_cons (pe_call GGrid hr (by rfl) gGrid FGrid.kp bGrid .nil pass0 (pa_cons (pe_slice sl_list (pv 0) (po_some pe_int) (po_some pe_int)) (pa_cons pe_int pa_nil))) (pa_cons (pv 2) (pa_cons (pv 3) pa_nil)))) pa_nil)) pa_nil)))))
 (pss_cons ((ps_setLc (i := 5) (own := [("k", 13)]) (g := (gName 13)) (tt := tYes) (te := tCall spSides [] E0 (tCons (tVar 4) (tCons (tVar 13) tNil))) rfl scLaw.nd rfl rfl rfl (pi_range1 rfl T.range (pa_cons (pe_callB call_len_seq (by rfl) T.len PySem.boot_len (pa_cons (pe_ix ix_tup (pv 4) pe_int (fun _ _ => rfl)) pa_nil)) pa_nil)) (blkOk_by (own := [("k", 13)]) (N := NLaw) (sc := defScope sLaw) (by decide +kernel)) (fun _ _ _ _ _ => (pg_name (i := 13) scLaw.nd rfl (.inl rfl) (.inr rfl))) (fun _ _ _ _ _ => pts_nil) (fun _ _ _ _ _ => (pe_call GSides hr (by rfl) gSides FSides.kp bSides .nil pass0 (pa_cons (pv 4) (pa_cons (pv 13) pa_nil))))))
 (pss_cons (ps_if (pt_not (pt_val (pe_call GAlong hr (by rfl) gAlong FAlong.kp bAlong .nil pass0 (pa_cons (pv 4) (pa_cons (pe_call GUpr hr (by rfl) gUpr FUpr.kp bUpr .nil pass0 (pa_cons (pv 4) pa_nil)) (pa_cons (pv 5) (pa_cons pe_int (pa_cons (pe_ix ix_list (pv 3) (pe_un un_neg pe_int) (fun _ _ => rfl)) pa_nil)))))))) (pss_one (ps_ret pe_bl)) pss_nil)
 (pss_cons (ps_if (pt_not (pt_val (pe_call GAlong hr (by rfl) gAlong FAlong.kp bAlong .nil pass0 (pa_cons (pv 4) (pa_cons (pe_call GLev hr (by rfl) gLev FLev.kp bLev .nil pass0 (pa_cons (pv 4) pa_nil)) (pa_cons (pv 5) (pa_cons pe_int (pa_cons (pe_ix ix_list (pv 2) (pe_un un_neg pe_int) (fun _ _ => rfl)) pa_nil)))))))) (pss_one (ps_ret pe_bl)) pss_nil)
 (pss_cons (ps_set (i := 6) scLaw.nd rfl (.inl rfl) (pe_call GBes hr (by rfl) gBes FBes.kp bBes .nil pass0 (pa_cons (pv 4) pa_nil)))
 (pss_cons (ps_set (i := 7) scLaw.nd rfl (.inr rfl) (pe_call GBen hr (by rfl) gBen FBen.kp bBen .nil pass0 (pa_cons (pv 4) pa_nil)))
 (pss_cons (ps_set (i := 8) scLaw.nd rfl (.inl rfl) pe_dnewK)
 (pss_cons (ps_for PassesOwn.never rfl (pi_list (pe_lst (pa_cons (pe_tup (pa_cons (pv 6) (pa_cons pe_int pa_nil))) (pa_cons (pe_tup (pa_cons (pv 7) (pa_cons pe_int pa_nil))) pa_nil)))) (pg_tup rfl (pgs_cons (pg_name (i := 9) scLaw.nd rfl (.inl rfl)) (pgs_cons (pg_name (i := 10) scLaw.nd rfl (.inl rfl)) pgs_nil))) (pss_one (ps_for PassesOwn.never rfl (pi_list (pv 9)) (pg_tup rfl (pgs_cons (pg_name (i := 11) scLaw.nd rfl (.inl rfl)) (pgs_cons (pg_name (i := 12) scLaw.nd rfl (.inl rfl)) pgs_nil))) (pss_cons (ps_if (PW.pt (pw_or (pt_cmpR op_ne (pe_ix ix_tup (pe_ix ix_list (pv 5) (pv 11) (fun _ _ => rfl)) (pe_op op_add (pv 10) pe_int) (fun _ _ => rfl)) (pe_ix ix_tup (pe_ix ix_list (pv 5) (pv 12) (fun _ _ => rfl)) (pv 10) (fun _ _ => rfl)) (nomark _)) (pw_or1 (pt_cmpR (op_inD (hu65 hr)) (pe_tup (pa_cons (pv 12) (pa_cons (pv 11) pa_nil))) (pv 9) rfl)))) (pss_one (ps_ret pe_bl)) pss_nil)
 (pss_cons (ps_dput (hu_of hr) (pv 8) (pv 11) pe_bl rfl)
 (pss_one (ps_dput (hu_of hr) (pv 8) (pv 12) pe_bl rfl)))))))
 (pss_cons (ps_if (pt_cmpR (op_neD hr.units) (pe_lc (own := [("pair", 14)]) (g := (gName 14)) (tt := tTest (tOp (rInD K) (tVar 14) (tVar 7))) (te := tVar 14) rfl scLaw.nd (pi_list (pv 6)) (blkOk_by (own := [("pair", 14)]) (N := NLaw) (sc := defScope sLaw) (by decide +kernel)) (fun _ _ _ _ _ => (pg_name (i := 14) scLaw.nd rfl (.inl rfl) (.inr rfl))) (fun _ _ _ _ _ => pts_one (pt_cmpR (op_inD (hu65 hr)) (pv 14) (pv 7) rfl)) (fun _ _ _ _ _ => (pv 14))) (pe_lst pa_nil) (nomark _)) (pss_one (ps_ret pe_bl)) pss_nil)
 (pss_one (ps_ret (pe_or (pe_cmpR op_eq (pe_callB call_lenD (by rfl) T.len PySem.boot_len (pa_cons (pv 8) pa_nil)) (pe_callB call_len_seq (by rfl) T.len PySem.boot_len (pa_cons (pe_ix ix_tup (pv 4) pe_int (fun _ _ => rfl)) pa_nil)) (nomark _)) (pe_one (pe_cmpR op_eq (pe_callB call_len_seq (by rfl) T.len PySem.boot_len (pa_cons (pe_ix ix_tup (pv 4) pe_int (fun _ _ => rfl)) pa_nil)) pe_int (nomark _)))))))))))))))))), ?_⟩
    refine p_asg (P := fun v _ => ∃ m, v = .int m ∧ 0 < m) (fun H1 e1 Q' q' => ?_) fun v H1 e1 ⟨m, ev, hm⟩ => ?_
    · refine o_op (el_lst (vs := [.int 3, .int 4000]) (ea_cons ev_c (ea_cons ev_c ea_nil)) (by decide) H1 e1 _ fun p H2 np e2 hp => ?_)
      refine evi_op (C1 := fun _ => True) (C2 := fun n => n = 2) (C3 := fun n => n = 0 ∨ n = 1) (p_call (ea_cons (ev_var rfl) (ea_cons ev_c ea_nil)) fun H3 e3 Q2 q2 => ⟨a, ns, 0, rfl, ex_l e3 hS, by decide, by decide, fun n H4 e4 => q2 _ _ e4 ⟨n, rfl, trivial⟩⟩) (evi_of ev_c rfl) (fun i j _ hj => by
        subst hj
        have h1 := Int.emod_nonneg i (show (2 : Int) ≠ 0 by decide)
        have h2 := Int.emod_lt_of_pos i (show (0 : Int) < 2 by decide)
        exact ⟨by decide, by omega⟩) H2 (e1.trans e2) _ fun v H3 e3 ⟨n, ev, hn⟩ => ?_
      subst ev
      rcases hn with rfl | rfl
      · exact ⟨p, _, 0, .int 3, rfl, rfl, sq_of (e3 _ _ hp), at0, q' _ _ (e2.trans e3) ⟨3, rfl, by decide⟩⟩
      · exact ⟨p, _, 1, .int 4000, rfl, rfl, sq_of (e3 _ _ hp), at1, q' _ _ (e2.trans e3) ⟨4000, rfl, by decide⟩⟩
    subst ev
    refine p_asg (P := fun v H' => ∃ p xs, v = .ref p ∧ H' p = some (.lst (List.map V.int xs)) ∧ Lns xs) (p_call (ea_cons (ev_var rfl) (ea_cons ev_c (ea_cons ev_c (ea_cons (ev_var rfl) ea_nil)))) fun H2 e2 Q' q' => ⟨a, ns, 2, m, rfl, ex_l (e1.trans e2) hS, by decide, by decide, hm, fun p xs H3 e3 h1 h2 => q' _ _ e3 ⟨p, xs, rfl, h1, h2⟩⟩) fun v H2 e2 ⟨px, xs, ev, hx, Lx⟩ => ?_
    subst ev
    refine p_asg (P := fun v H' => ∃ p xs, v = .ref p ∧ H' p = some (.lst (List.map V.int xs)) ∧ Lns xs) (p_call (ea_cons (ev_var rfl) (ea_cons ev_c (ea_cons ev_c (ea_cons (ev_var rfl) ea_nil)))) fun H3 e3 Q' q' => ⟨a, ns, 17, m, rfl, ex_l ((e1.trans e2).trans e3) hS, by decide, by decide, hm, fun p xs H4 e4 h1 h2 => q' _ _ e4 ⟨p, xs, rfl, h1, h2⟩⟩) fun v H3 e3 ⟨py, ys, ev, hy, Ly⟩ => ?_
    subst ev
    have hx3 := e3 _ _ hx
    have e03 := (e1.trans e2).trans e3
    -- the page
    refine o_asg (o_tup (o_cons (ev_lastL rfl hx3 Lx H3 (Ex.refl _) _ fun H4 e4 => o_cons (ev_lastL rfl (e4 _ _ hy) Ly H4 (Ex.refl _) _ fun H5 e5 => o_cons (o_cb (o_cons ?_))))))
    have e05 := (e03.trans e4).trans e5
    refine o_call (o_cons (o_call (o_cons ?_)))
    refine el_sl (K := K) (lo := some 2) (hi := some 62) (ev_var (v := .ref a) rfl) (eo_some ev_c) (eo_some ev_c) (ex_l e05 hS) H5 (Ex.refl _) _ fun pc H6 np6 e6 hc6 => ?_
    refine o_cons (ev_c (v := .int 12) H6 (Ex.refl _) _ fun H7 e7 => o_nil ?_)
    refine ⟨pc, _, rfl, sq_of (e7 _ _ hc6), fun x hxm => ?_, fun pG bs0 H8 e8 hG part hz => ?_⟩
    · obtain ⟨n, _, e⟩ := List.mem_map.mp (mem_cut hxm)
      exact ⟨n, e.symm⟩
    refine o_cons (ev_var (v := .ref px) rfl H8 (Ex.refl _) _ fun H9 e9 => o_cons (ev_var (v := .ref py) rfl H9 (Ex.refl _) _ fun H10 e10 => o_nil ?_))
    have e310 := ((((e4.trans e5).trans e6).trans e7).trans e8).trans (e9.trans e10)
    refine ⟨pG, px, py, bs0, xs, ys, rfl, hG.mono mI4 (e9.trans e10), e310 _ _ hx3, e310 _ _ hy, Lx, Ly, part, hz, hT.ext (e03.trans e310), fun pL bs H11 hperm eN hL => ?_⟩
    refine o_nil ⟨pL, ?_⟩
    obtain ⟨vL, hvL, hdL⟩ := hL
    have hxN := eN _ _ (e310 _ _ hx3) (fun _ z => by cases z)
    have hyN := eN _ _ (e310 _ _ hy) (fun _ z => by cases z)
    refine ⟨vL, rfl, .inl ⟨sq_of hvL, fun pt npt => o_nil ⟨sz_of (show (3 : Nat) ≤ 100000 by decide), fun pP npP => o_name ?_⟩⟩⟩
    have eP := (Ex.new (o := .tup vL) npt).trans (Ex.new (o := .tup [.int (ln xs 12), .int (ln ys 12), .ref pt]) npP)
    have hpg : Pg (upd (upd H11 pt (.tup vL)) pP (.tup [.int (ln xs 12), .int (ln ys 12), .ref pt])) (.ref pP) (ln xs 12) (ln ys 12) bs := ⟨pP, pt, rfl, upd_same, vL, Ex.new npP _ _ upd_same, mI4.pd eP hdL⟩
    have hxP := eP _ _ hxN
    have hyP := eP _ _ hyN
    have partL : Part (ln xs 12) (ln ys 12) bs := (lay_part Lx Ly part).perm hperm
    have hzL : bs.length ≤ 24 := by rw [hperm.length_eq, List.length_map]; exact hz
    generalize upd (upd H11 pt (.tup vL)) pP (.tup [.int (ln xs 12), .int (ln ys 12), .ref pt]) = H0 at hpg hxP hyP
    clear eP hxN hyN hvL hdL hperm eN e310 e05 e03 hx3 hG
    generalize hW : ln xs 12 = W at hpg partL
    generalize hHh : ln ys 12 = Hh at hpg partL
    -- the sides
    obtain ⟨pP', b, ePP, hpP, bvs, hb, hbd⟩ := hpg
    cases ePP
    have lb := pd_len hbd
    have hpg : Pg H0 (.ref pP) W Hh bs := ⟨pP, b, rfl, hpP, bvs, hb, hbd⟩
    have lenP : ∀ {σ : L2.St} {H' : Hp}, Ex H0 H' → σ[4]? = some (some (.ref pP)) → Ev (tCB (rLenS K) (tCons (tOp (rIxT K) (tVar 4) (tC (.int 2))) tNil)) σ H' (.int (bs.length : Int)) := fun e hσ => by
      rw [← lb]; exact ev_lenS (ev_ixT (ev_var hσ) ev_c (e _ _ hpP) at2) (.inr (st_of (e _ _ hb)))
    refine p_asg (P := fun v H' => ∃ p qs, v = .ref p ∧ LsI IQ H' p qs ∧ AllSides W Hh bs qs) (fun H1 e1 Q' q' => ?_) fun v H1 e1 ⟨lA, qs, ev, hL, hsd⟩ => ?_
    · refine s_lcR (n := bs.length) (ea_cons (lenP e1 rfl) ea_nil) (by omega) fun H2 e2 Dl hD => ⟨fun i H' => Ex H2 H' ∧ ∃ ds qs, H' Dl = some (.lst ds) ∧ Paired (IQ H') ds qs ∧ qs.length = i ∧ ∀ (j : Nat) (c : Bx) (q : Q4), bs[j]? = some c → qs[j]? = some q → SidesOf W Hh bs c q, ⟨Ex.new hD, [], [], upd_same, .nil, rfl, fun j c q _ z => by simp at z⟩, fun i H' hi ⟨eH, ds, qs, hds, hpd, hql, hqs⟩ => ?_, fun H' ⟨eH, ds, qs, hds, hpd, hql, hqs⟩ => ?_⟩
      · have hc : bs[i]? = some bs[i] := List.getElem?_eq_getElem hi
        refine ⟨rfl, ?_⟩
        show tCall spSides [] E0 (tCons (tVar 4) (tCons (tVar 13) tNil)) _ _ _
        refine p_call (P := fun v H' => ∃ q, IQ H' v q ∧ SidesOf W Hh bs bs[i] q) (ea_cons (ev_var (v := .ref pP) rfl) (ea_cons (ev_var (v := .int (i : Int)) rfl) ea_nil)) (fun H3 e3 Q2 q2 => ⟨.ref pP, W, Hh, bs, i, bs[i], rfl, hpg.mono (((e1.trans e2).trans eH).trans e3), partL, hzL, hc, fun u q H4 e4 h1 h2 => q2 _ _ e4 ⟨q, h1, h2⟩⟩) H' (Ex.refl _) _ fun u H4 e4 ⟨qq, hu, hq⟩ => ?_
        refine ⟨ds, e4 _ _ hds, sz_lt (by have := pd_len hpd; omega), Ex.mut (eH.trans e4) hD, ds ++ [u], qs ++ [qq], upd_same, ?_, by rw [List.length_append, hql]; rfl, fun j c q hj hqj => ?_⟩
        · exact pd_mono (fun v x ⟨a, h1, h2⟩ => ⟨a, h1, by rw [upd_ne (ne_of h2 (e4 _ _ hds) (by intro z; cases z))]; exact h2⟩) (pd_app (mIQ.pd e4 hpd) (pd_one hu))
        · rcases Nat.lt_or_ge j qs.length with z | z
          · rw [List.getElem?_append_left z] at hqj
            exact hqs j c q hj hqj
          · have hj2 := (List.getElem?_eq_some_iff.mp hqj).1
            rw [List.length_append, List.length_singleton] at hj2
            have ej : j = i := by omega
            subst ej
            rw [List.getElem?_append_right z, hql, Nat.sub_self] at hqj
            rw [hc] at hj
            cases hj
            cases hqj
            exact hq
      · exact q' _ _ (e2.trans eH) ⟨Dl, qs, rfl, ⟨ds, hds, hpd⟩, hql, hqs⟩
    subst ev
    -- along
    refine q_when (b := false) (et_is (et_not (a := true) (et_p (evp_along (way := 0) rfl (fun H2 e2 Q' q' => p_call (P := HasL I3 (walls W bs)) (ea_cons (ev_var (v := .ref pP) rfl) ea_nil) (fun H3 e3 Q2 q2 => ⟨.ref pP, W, Hh, bs, rfl, hpg.mono ((e1.trans e2).trans e3), hzL, fun p H4 e4 _ h4 => q2 _ _ e4 ⟨p, rfl, h4⟩⟩) H2 (Ex.refl _) Q' q') rfl (ev_lastL rfl (e1 _ _ hyP) Ly) (hpg.mono e1) hzL (walls_len W bs hzL) hL hsd.len (.inl rfl) (by rw [hHh]; exact tells0 partL hsd)))) rfl) (fun z => by cases z) fun _ H2 e2 => ?_
    have e02 := e1.trans e2
    refine q_when (b := false) (et_is (et_not (a := true) (et_p (evp_along (way := 2) rfl (fun H3 e3 Q' q' => p_call (P := HasL I3 (walls Hh (bs.map Bx.tr))) (ea_cons (ev_var (v := .ref pP) rfl) ea_nil) (fun H4 e4 Q2 q2 => ⟨.ref pP, W, Hh, bs, rfl, hpg.mono ((e02.trans e3).trans e4), hzL, fun p H5 e5 _ h5 => q2 _ _ e5 ⟨p, rfl, h5⟩⟩) H3 (Ex.refl _) Q' q') rfl (ev_lastL rfl (e02 _ _ hxP) Lx) (hpg.mono e02) hzL (walls_len Hh (bs.map Bx.tr) (by rw [List.length_map]; exact hzL)) (hL.mono mIQ e2) hsd.len (.inr rfl) (by rw [hW]; exact tells2 partL hsd)))) rfl) (fun z => by cases z) fun _ H3 e3 => ?_
    have e03 := e02.trans e3
    -- the pairs
    refine p_asg (P := HasL I2 (nbr bes bs bs.length)) (p_call (ea_cons (ev_var rfl) ea_nil) fun H4 e4 Q' q' => ⟨.ref pP, W, Hh, bs, rfl, hpg.mono (e03.trans e4), hzL, fun p H5 e5 _ h5 => q' _ _ e5 ⟨p, rfl, h5⟩⟩) fun v H4 e4 ⟨pA, ev, hA⟩ => ?_
    subst ev
    refine p_asg (P := HasL I2 (nbr bnt bs bs.length)) (p_call (ea_cons (ev_var rfl) ea_nil) fun H5 e5 Q' q' => ⟨.ref pP, W, Hh, bs, rfl, hpg.mono ((e03.trans e4).trans e5), hzL, fun p H6 e6 _ h6 => q' _ _ e6 ⟨p, rfl, h6⟩⟩) fun v H5 e5 ⟨pD, ev, hD⟩ => ?_
    subst ev
    have hA5 := hA.mono mI2 e5
    have hL5 := hL.mono mIQ (((e2.trans e3).trans e4).trans e5)
    have e05 := (e03.trans e4).trans e5
    have gA := good_bes partL hsd
    have gD := good_bnt partL hsd
    have lA' := nbr_len (R := bes) bs bs.length
    have lD' := nbr_len (R := bnt) bs bs.length
    have l24 := Nat.mul_le_mul hzL hzL
    generalize hAe : nbr bes bs bs.length = A at hA5 gA lA'
    generalize hDe : nbr bnt bs bs.length = B at hD gD lD'
    clear hA hL
    refine o_asg (fun d nd => o_name ?_)
    have eD : Ex H5 (upd H5 d (.dK [])) := Ex.new nd
    refine q_forV (C := fun p vs H' => Paired (IP H') vs [(pA, 0), (pD, 2)] ∧ H' p = some (.lst vs) ∧ upd H5 d (.dK []) p = none) (fun H6 e6 Q' q' => evp_lst (R := IP) (xs := [(pA, 0), (pD, 2)]) mIP (eas_cons mIP (fun H7 e7 Q2 q2 => ea_cons (ev_var (v := .ref pA) rfl) (ea_cons (ev_c (v := .int 0)) ea_nil) H7 e7 _ fun H8 e8 => ⟨sz_of (show (2 : Nat) ≤ 100000 by decide), fun p hp => q2 _ _ (e8.trans (Ex.new hp)) ⟨p, rfl, upd_same⟩⟩) (eas_cons mIP (fun H7 e7 Q2 q2 => ea_cons (ev_var (v := .ref pD) rfl) (ea_cons (ev_c (v := .int 2)) ea_nil) H7 e7 _ fun H8 e8 => ⟨sz_of (show (2 : Nat) ≤ 100000 by decide), fun p hp => q2 _ _ (e8.trans (Ex.new hp)) ⟨p, rfl, upd_same⟩⟩) eas_nil)) (by show (2 : Nat) ≤ 100000; decide) H6 e6 _ fun v H7 e7 ⟨p, ep, np, vs, hv, hpd⟩ => q' _ _ e7 ⟨p, vs, ep, sq_of hv, hpd, hv, np⟩) fun p vs H6 e6 hv ⟨hpd, hvs, np⟩ => ?_
    have hd6 := e6 d _ upd_same
    have npd : p ≠ d := fun z => by rw [z, upd_same] at np; cases np
    have lvs := pd_len hpd
    refine ⟨fun i σ H' => ∃ y9 y10 y11 y12 y13 y14, σ = [some (.ref a), some (.int m), some (.ref px), some (.ref py), some (.ref pP), some (.ref lA), some (.ref pA), some (.ref pD), some (.ref d), y9, y10, y11, y12, y13, y14] ∧ ExB d H6 H' ∧ ∃ ks, H' d = some (.dK (ks.map kT)) ∧ Met (if i = 0 then [] else if i = 1 then A else A ++ B) ks, ⟨none, none, none, none, none, none, rfl, ExB.refl _ _, [], hd6, Met.nil⟩,
      fun i σ' H' ⟨_, _, _, _, _, _, _, e, _⟩ => sq_of (e _ _ npd hvs), fun i x σ' H' hx ⟨y9, y10, y11, y12, y13, y14, eσ, e, ks, hks, hmet⟩ => ?_, fun σ' H' ⟨y9, y10, y11, y12, y13, y14, eσ, e, ks, hks, hmet⟩ => ?_⟩
    · subst eσ
      obtain ⟨⟨u1, u2⟩, hu, t, rfl, hxu⟩ := pd_at hpd hx
      obtain ⟨C, hCl, hC, gC, lC, hnext, side, hside, hs2⟩ : ∃ C : List Sp2, LsI I2 H5 u1 C ∧ (if i + 1 = 0 then [] else if i + 1 = 1 then A else A ++ B) = (if i = 0 then [] else if i = 1 then A else A ++ B) ++ C ∧ True ∧ C.length ≤ 576 ∧ (if i = 0 then [] else if i = 1 then A else A ++ B).length ≤ 576 ∧ ∃ side : Nat, u2 = (side : Int) ∧ GoodP C qs side ∧ side + 1 < 4 := by
        match i, hu with
        | 0, hu =>
          cases hu
          exact ⟨A, hA5, rfl, trivial, by omega, by show (0 : Nat) ≤ 576; omega, 0, rfl, gA, by decide⟩
        | 1, hu =>
          cases hu
          exact ⟨B, hD, rfl, trivial, by omega, by show A.length ≤ 576; omega, 2, rfl, gD, by decide⟩
        | i + 2, hu => simp at hu
      generalize (if i = 0 then [] else if i = 1 then A else A ++ B) = L at hmet hC hnext
      obtain ⟨hC, -, lC', -⟩ : _ ∧ _ ∧ _ ∧ _ := ⟨hC, trivial, lC, trivial⟩
      have hxu' := e _ _ (ne_of hxu hd6 (by intro z; cases z)) hxu
      refine gp hxu' ?_
      subst hside
      obtain ⟨cv, hcv, hcd⟩ := hCl
      obtain ⟨qv, hqv, hqd⟩ := hL5
      have toE : ∀ {H' : Hp}, ExB d H6 H' → Ex H5 H' := fun e' => ExB.back (eD.trans e6) nd e'
      have lcv := pd_len hcd
      refine s_forL (K := K) (ev_var rfl) (sq_of (toE e _ _ hcv)) (fun j σ H' => ∃ y11 y12, σ = [some (.ref a), some (.int m), some (.ref px), some (.ref py), some (.ref pP), some (.ref lA), some (.ref pA), some (.ref pD), some (.ref d), some (.ref u1), some (.int (side : Int)), y11, y12, y13, y14] ∧ ExB d H6 H' ∧ ∃ ks, H' d = some (.dK (ks.map kT)) ∧ Met (L ++ C.take j) ks)
        (fun H7 e7 => ⟨y11, y12, rfl, e.ex e7, ks, e7 _ _ hks, by rw [List.take_zero, List.append_nil]; exact hmet⟩) (fun j σ' H' _ ⟨_, _, _, e', _⟩ => sq_of (toE e' _ _ hcv)) (fun j x' σ' H7 hx' ⟨y11, y12, eσ, e7, ks, hks, hmet⟩ => ?_) (fun σ' H7 ⟨y11, y12, eσ, e7, ks, hks, hmet⟩ => ⟨_, _, _, _, _, _, eσ, e7, ks, hks, ?_⟩)
      · subst eσ
        obtain ⟨p', hp', hxp⟩ := pd_at hcd hx'
        have jl := (List.getElem?_eq_some_iff.mp hp').1
        obtain ⟨i1, i2, q1, q2, ep', hq1, hq2, hpk, hnot⟩ := hs2.1 p' (List.mem_of_getElem? hp')
        subst ep'
        refine g2 (hxp.mono (toE e7)) ?_
        have lks : (ks.map kT).length < 1000 * 3 := by
          have h1 := hmet.len
          rw [List.length_append, List.length_take] at h1
          rw [List.length_map]
          have h2 := lC
          omega
        refine q_when (b := false) (et_is (et_or (a := false) (b := false) (et_is (et_test (ev_op (ev_lq rfl rfl (toE e7 _ _ hqv) (mIQ.pd (toE e7) hqd) hq1 (side := side + 1) (ev_add (i := (side : Int)) (j := 1) (ev_var rfl) ev_c) hs2.2) (ev_lq rfl rfl (toE e7 _ _ hqv) (mIQ.pd (toE e7) hqd) hq2 (side := side) (ev_var rfl) (by omega)) (rv_ne rfl))) (by rw [hpk, decide_eq_true rfl]; rfl)) (fun _ => et_is (et_p (evp_inP (p := ((i2 : Int), (i1 : Int))) (evp_i2 (ea_cons (ev_var rfl) (ea_cons (ev_var rfl) ea_nil))) (ev_var rfl) ⟨cv, toE e7 _ _ hcv, mI2.pd (toE e7) hcd⟩)) (decide_eq_false hnot))) rfl) (fun z => by cases z) fun _ H8 e8 => ?_
        refine o_seq (s_dput ev_c (ev_var rfl) (ev_var rfl) (e8 _ _ hks) (by omega) fun H9 e9 => ?_)
        rw [put_met]
        have lk2 := len_addK ks (i1 : Int)
        rw [List.length_map] at lks
        refine s_dput ev_c (ev_var rfl) (ev_var rfl) upd_same (by rw [List.length_map]; show (addK ks (i1 : Int)).length < 100000; omega) fun H10 e10 => ?_
        refine ⟨_, _, rfl, ((((e7.ex e8).ex e9).upd).ex e10).upd, addK (addK ks (i1 : Int)) (i2 : Int), by rw [upd_same]; exact congrArg (fun z => some (HO.dK z)) (put_met _ _), ?_⟩
        have step : C.take (j + 1) = C.take j ++ [((i1 : Int), (i2 : Int))] := by rw [List.take_add_one, hp']; rfl
        rw [step, ← List.append_assoc]
        exact hmet.snoc _
      · rw [lcv, List.take_length] at hmet
        rw [hC]; exact hmet
    · subst eσ
      have hmet : Met (A ++ B) ks := by rw [lvs] at hmet; exact hmet
      have e5 : Ex H5 H' := ExB.back (eD.trans e6) nd e
      obtain ⟨av, hav, had⟩ := hA5
      refine q_when (b := false) (et_test (ev_opLL (xs := []) (ys := []) (el_lcNone (ev_var rfl) (e5 _ _ hav) (fun _ => rfl) fun i x H1 e1 hx => ?_) (el_lst ea_nil (by decide)) fun p q H1 hp hq _ => ?_)) (fun z => by cases z) fun _ H1 e1 => ?_
      · obtain ⟨u, hu, hxu⟩ := pd_at had hx
        refine et_is (et_p (evp_inP (p := u) (fun H2 e2 Q2 q2 => ev_var (v := x) rfl H2 e2 _ fun H3 e3 => q2 _ _ e3 (hxu.mono (((e5.trans e1).trans e2).trans e3))) (ev_var rfl) (hD.mono mI2 (e5.trans e1)))) (decide_eq_false fun hm => ?_)
        rw [← hDe] at hm
        have hm2 := List.mem_of_getElem? hu
        rw [← hAe] at hm2
        exact nbr_apart hm2 hm
      · refine rv_val fun H2 e2 Q2 q2 => ⟨.list [], .list [], .lst (sq_of (e2 _ _ hp)) .nil, .lst (sq_of (e2 _ _ hq)) .nil, shaped_ps [], shaped_ps [], ?_⟩
        rw [eqv_nil]; exact q2
      · have e0 : Ex H0 H' := e05.trans e5
        refine s_ret (ev_is (ev_orV (ev_op (ev_lenD (ev_var rfl) (e1 _ _ hks)) (lenP (e0.trans e1) rfl) (rv_eq rfl)) (fun _ => ev_op (lenP (e0.trans e1) rfl) ev_c (rv_eq rfl))) ?_) fun H2 e2 => q H2
        rw [dI, dI]
        by_cases h1 : bs.length = 1
        · rw [decide_eq_true (show ((bs.length : Nat) : Int) = 1 by omega), Bool.or_true]
        · rw [decide_eq_true (show (((ks.map kT).length : Nat) : Int) = ((bs.length : Nat) : Int) by
            rw [List.length_map, met_len partL h1 hmet.nd (fun x => by rw [hAe, hDe]; exact hmet.mem x)])]
          rfl
end
end K14

/-! What the top has written, the head. -/
namespace K14
open PySem PySem.Spec PyProof.Rows L2 Evl

theorem all_mk {l : PySem.W.OpenLaw} {w : World} {K : PySem.W.Frag} {h : Heap} {mg : Str → Option Value} {fa c0 Pt : Addr} {fJoined fEnds fUpr fLev fWall fSides fBes fBen fStir fCell fGrown fWheel fGrid fLines fLaid fFilled fAlong fLaw : Addr} {odJoined anJoined odEnds anEnds odUpr anUpr odLev anLev odWall anWall odSides anSides odBes anBes odBen anBen odStir anStir odCell anCell odGrown anGrown odWheel anWheel odGrid anGrid odLines anLines odLaid anLaid odFilled anFilled odAlong anAlong odLaw anLaw : Option Addr} {slJoined slEnds slUpr slLev slWall slSides slBes slBen slStir slCell slGrown slWheel slGrid slLines slLaid slFilled slAlong slLaw : Array (Option Value)} {ocJoined kVJoined dcJoined pmJoined cdJoined ctJoined ocEnds kVEnds dcEnds pmEnds cdEnds ctEnds ocUpr kVUpr dcUpr pmUpr cdUpr ctUpr ocLev kVLev dcLev pmLev cdLev ctLev ocWall kVWall dcWall pmWall cdWall ctWall ocSides kVSides dcSides pmSides cdSides ctSides ocBes kVBes dcBes pmBes cdBes ctBes ocBen kVBen dcBen pmBen cdBen ctBen ocStir kVStir dcStir pmStir cdStir ctStir ocCell kVCell dcCell pmCell cdCell ctCell ocGrown kVGrown dcGrown pmGrown cdGrown ctGrown ocWheel kVWheel dcWheel pmWheel cdWheel ctWheel ocGrid kVGrid dcGrid pmGrid cdGrid ctGrid ocLines kVLines dcLines pmLines cdLines ctLines ocLaid kVLaid dcLaid pmLaid cdLaid ctLaid ocFilled kVFilled dcFilled pmFilled cdFilled ctFilled ocAlong kVAlong dcAlong pmAlong cdAlong ctAlong ocLaw kVLaw dcLaw pmLaw cdLaw ctLaw : Value}
    (inK : K.In h) (G : h.Ns mainGlobals mg) (hfa : mg "law" = some (.ref fa)) (tb2 : h.get? Pt = some (PySem.W.tabObj #[]))
    (aJoined : PySem.W.nsIn K mainGlobals "joined_spans" = some (some (.ref fJoined))) (lJoined : K.lookup fJoined = some ⟨ocJoined, odJoined, .func (PySem.W.fnOf "joined_spans" "joined_spans" (defArgs sJoined) (defBody sJoined) (defScope sJoined) .none kVJoined dcJoined pmJoined anJoined cdJoined ctJoined), slJoined⟩) (cJoined : PySem.W.codeIn K cdJoined "joined_spans" = true) (kJoined : PySem.W.keepIn K (.ref fJoined) = true)
    (aEnds : PySem.W.nsIn K mainGlobals "ends_joined" = some (some (.ref fEnds))) (lEnds : K.lookup fEnds = some ⟨ocEnds, odEnds, .func (PySem.W.fnOf "ends_joined" "ends_joined" (defArgs sEnds) (defBody sEnds) (defScope sEnds) .none kVEnds dcEnds pmEnds anEnds cdEnds ctEnds), slEnds⟩) (cEnds : PySem.W.codeIn K cdEnds "ends_joined" = true) (kEnds : PySem.W.keepIn K (.ref fEnds) = true)
    (aUpr : PySem.W.nsIn K mainGlobals "uprights" = some (some (.ref fUpr))) (lUpr : K.lookup fUpr = some ⟨ocUpr, odUpr, .func (PySem.W.fnOf "uprights" "uprights" (defArgs sUpr) (defBody sUpr) (defScope sUpr) .none kVUpr dcUpr pmUpr anUpr cdUpr ctUpr), slUpr⟩) (cUpr : PySem.W.codeIn K cdUpr "uprights" = true) (kUpr : PySem.W.keepIn K (.ref fUpr) = true)
    (aLev : PySem.W.nsIn K mainGlobals "levels" = some (some (.ref fLev))) (lLev : K.lookup fLev = some ⟨ocLev, odLev, .func (PySem.W.fnOf "levels" "levels" (defArgs sLev) (defBody sLev) (defScope sLev) .none kVLev dcLev pmLev anLev cdLev ctLev), slLev⟩) (cLev : PySem.W.codeIn K cdLev "levels" = true) (kLev : PySem.W.keepIn K (.ref fLev) = true)
    (aWall : PySem.W.nsIn K mainGlobals "wall_at" = some (some (.ref fWall))) (lWall : K.lookup fWall = some ⟨ocWall, odWall, .func (PySem.W.fnOf "wall_at" "wall_at" (defArgs sWall) (defBody sWall) (defScope sWall) .none kVWall dcWall pmWall anWall cdWall ctWall), slWall⟩) (cWall : PySem.W.codeIn K cdWall "wall_at" = true) (kWall : PySem.W.keepIn K (.ref fWall) = true)
    (aSides : PySem.W.nsIn K mainGlobals "sides" = some (some (.ref fSides))) (lSides : K.lookup fSides = some ⟨ocSides, odSides, .func (PySem.W.fnOf "sides" "sides" (defArgs sSides) (defBody sSides) (defScope sSides) .none kVSides dcSides pmSides anSides cdSides ctSides), slSides⟩) (cSides : PySem.W.codeIn K cdSides "sides" = true) (kSides : PySem.W.keepIn K (.ref fSides) = true)
    (aBes : PySem.W.nsIn K mainGlobals "beside" = some (some (.ref fBes))) (lBes : K.lookup fBes = some ⟨ocBes, odBes, .func (PySem.W.fnOf "beside" "beside" (defArgs sBes) (defBody sBes) (defScope sBes) .none kVBes dcBes pmBes anBes cdBes ctBes), slBes⟩) (cBes : PySem.W.codeIn K cdBes "beside" = true) (kBes : PySem.W.keepIn K (.ref fBes) = true)
    (aBen : PySem.W.nsIn K mainGlobals "beneath" = some (some (.ref fBen))) (lBen : K.lookup fBen = some ⟨ocBen, odBen, .func (PySem.W.fnOf "beneath" "beneath" (defArgs sBen) (defBody sBen) (defScope sBen) .none kVBen dcBen pmBen anBen cdBen ctBen), slBen⟩) (cBen : PySem.W.codeIn K cdBen "beneath" = true) (kBen : PySem.W.keepIn K (.ref fBen) = true)
    (aStir : PySem.W.nsIn K mainGlobals "_law_stir" = some (some (.ref fStir))) (lStir : K.lookup fStir = some ⟨ocStir, odStir, .func (PySem.W.fnOf "_law_stir" "_law_stir" (defArgs sStir) (defBody sStir) (defScope sStir) .none kVStir dcStir pmStir anStir cdStir ctStir), slStir⟩) (cStir : PySem.W.codeIn K cdStir "_law_stir" = true) (kStir : PySem.W.keepIn K (.ref fStir) = true)
    (aCell : PySem.W.nsIn K mainGlobals "_law_cell" = some (some (.ref fCell))) (lCell : K.lookup fCell = some ⟨ocCell, odCell, .func (PySem.W.fnOf "_law_cell" "_law_cell" (defArgs sCell) (defBody sCell) (defScope sCell) .none kVCell dcCell pmCell anCell cdCell ctCell), slCell⟩) (cCell : PySem.W.codeIn K cdCell "_law_cell" = true) (kCell : PySem.W.keepIn K (.ref fCell) = true)
    (aGrown : PySem.W.nsIn K mainGlobals "_law_grown" = some (some (.ref fGrown))) (lGrown : K.lookup fGrown = some ⟨ocGrown, odGrown, .func (PySem.W.fnOf "_law_grown" "_law_grown" (defArgs sGrown) (defBody sGrown) (defScope sGrown) .none kVGrown dcGrown pmGrown anGrown cdGrown ctGrown), slGrown⟩) (cGrown : PySem.W.codeIn K cdGrown "_law_grown" = true) (kGrown : PySem.W.keepIn K (.ref fGrown) = true)
    (aWheel : PySem.W.nsIn K mainGlobals "_law_wheel" = some (some (.ref fWheel))) (lWheel : K.lookup fWheel = some ⟨ocWheel, odWheel, .func (PySem.W.fnOf "_law_wheel" "_law_wheel" (defArgs sWheel) (defBody sWheel) (defScope sWheel) .none kVWheel dcWheel pmWheel anWheel cdWheel ctWheel), slWheel⟩) (cWheel : PySem.W.codeIn K cdWheel "_law_wheel" = true) (kWheel : PySem.W.keepIn K (.ref fWheel) = true)
    (aGrid : PySem.W.nsIn K mainGlobals "_law_grid" = some (some (.ref fGrid))) (lGrid : K.lookup fGrid = some ⟨ocGrid, odGrid, .func (PySem.W.fnOf "_law_grid" "_law_grid" (defArgs sGrid) (defBody sGrid) (defScope sGrid) .none kVGrid dcGrid pmGrid anGrid cdGrid ctGrid), slGrid⟩) (cGrid : PySem.W.codeIn K cdGrid "_law_grid" = true) (kGrid : PySem.W.keepIn K (.ref fGrid) = true)
    (aLines : PySem.W.nsIn K mainGlobals "_law_lines" = some (some (.ref fLines))) (lLines : K.lookup fLines = some ⟨ocLines, odLines, .func (PySem.W.fnOf "_law_lines" "_law_lines" (defArgs sLines) (defBody sLines) (defScope sLines) .none kVLines dcLines pmLines anLines cdLines ctLines), slLines⟩) (cLines : PySem.W.codeIn K cdLines "_law_lines" = true) (kLines : PySem.W.keepIn K (.ref fLines) = true)
    (aLaid : PySem.W.nsIn K mainGlobals "_law_laid" = some (some (.ref fLaid))) (lLaid : K.lookup fLaid = some ⟨ocLaid, odLaid, .func (PySem.W.fnOf "_law_laid" "_law_laid" (defArgs sLaid) (defBody sLaid) (defScope sLaid) .none kVLaid dcLaid pmLaid anLaid cdLaid ctLaid), slLaid⟩) (cLaid : PySem.W.codeIn K cdLaid "_law_laid" = true) (kLaid : PySem.W.keepIn K (.ref fLaid) = true)
    (aFilled : PySem.W.nsIn K mainGlobals "_law_filled" = some (some (.ref fFilled))) (lFilled : K.lookup fFilled = some ⟨ocFilled, odFilled, .func (PySem.W.fnOf "_law_filled" "_law_filled" (defArgs sFilled) (defBody sFilled) (defScope sFilled) .none kVFilled dcFilled pmFilled anFilled cdFilled ctFilled), slFilled⟩) (cFilled : PySem.W.codeIn K cdFilled "_law_filled" = true) (kFilled : PySem.W.keepIn K (.ref fFilled) = true)
    (aAlong : PySem.W.nsIn K mainGlobals "_law_along" = some (some (.ref fAlong))) (lAlong : K.lookup fAlong = some ⟨ocAlong, odAlong, .func (PySem.W.fnOf "_law_along" "_law_along" (defArgs sAlong) (defBody sAlong) (defScope sAlong) .none kVAlong dcAlong pmAlong anAlong cdAlong ctAlong), slAlong⟩) (cAlong : PySem.W.codeIn K cdAlong "_law_along" = true) (kAlong : PySem.W.keepIn K (.ref fAlong) = true)
    (aLaw : PySem.W.nsIn K mainGlobals "law" = some (some (.ref fLaw))) (lLaw : K.lookup fLaw = some ⟨ocLaw, odLaw, .func (PySem.W.fnOf "law" "law" (defArgs sLaw) (defBody sLaw) (defScope sLaw) .none kVLaw dcLaw pmLaw anLaw cdLaw ctLaw), slLaw⟩) (cLaw : PySem.W.codeIn K cdLaw "law" = true) (kLaw : PySem.W.keepIn K (.ref fLaw) = true)
    (zsorted : PySem.W.nsIn K mainGlobals "sorted" = some none)
    (zlen : PySem.W.nsIn K mainGlobals "len" = some none)
    (zrange : PySem.W.nsIn K mainGlobals "range" = some none)
    (zenumerate : PySem.W.nsIn K mainGlobals "enumerate" = some none)
    (zmin : PySem.W.nsIn K mainGlobals "min" = some none)
    (zmax : PySem.W.nsIn K mainGlobals "max" = some none)
    (zzip : PySem.W.nsIn K mainGlobals "zip" = some none)
    (ztuple : PySem.W.nsIn K mainGlobals "tuple" = some none)
    (hcd : cdLaid = .ref c0) (hhd : PySem.W.codeHdIn K c0 Pt = true) (nP : K.lookup Pt = none) :
    LamX.LawAtS l w K CX0 5 63 "script" mg fa h := by
  have e := hfa.symm.trans (PySem.W.mg_of inK G aLaw)
  cases e
  subst hcd
  have tb1 := PySem.W.codeHd_of_K inK hhd
  have T : Txt mg := ⟨PySem.W.mg_none_of inK G zsorted, PySem.W.mg_none_of inK G zlen, PySem.W.mg_none_of inK G zrange, PySem.W.mg_none_of inK G zenumerate, PySem.W.mg_none_of inK G zmin, PySem.W.mg_none_of inK G zmax, PySem.W.mg_none_of inK G zzip, PySem.W.mg_none_of inK G ztuple⟩
  have FJoined := fun_mk (st := sJoined) lJoined cJoined kJoined
  have bJoined := FJoined.binds (ps := ["spans"]) fun _ _ _ _ _ _ us hl => match us, hl with | [_], _ => rfl
  have FEnds := fun_mk (st := sEnds) lEnds cEnds kEnds
  have bEnds := FEnds.binds (ps := ["ends", "border"]) fun _ _ _ _ _ _ us hl => match us, hl with | [_, _], _ => rfl
  have FUpr := fun_mk (st := sUpr) lUpr cUpr kUpr
  have bUpr := FUpr.binds (ps := ["page"]) fun _ _ _ _ _ _ us hl => match us, hl with | [_], _ => rfl
  have FLev := fun_mk (st := sLev) lLev cLev kLev
  have bLev := FLev.binds (ps := ["page"]) fun _ _ _ _ _ _ us hl => match us, hl with | [_], _ => rfl
  have FWall := fun_mk (st := sWall) lWall cWall kWall
  have bWall := FWall.binds (ps := ["some", "place", "first", "border"]) fun _ _ _ _ _ _ us hl => match us, hl with | [_, _, _, _], _ => rfl
  have FSides := fun_mk (st := sSides) lSides cSides kSides
  have bSides := FSides.binds (ps := ["page", "box"]) fun _ _ _ _ _ _ us hl => match us, hl with | [_, _], _ => rfl
  have FBes := fun_mk (st := sBes) lBes cBes kBes
  have bBes := FBes.binds (ps := ["page"]) fun _ _ _ _ _ _ us hl => match us, hl with | [_], _ => rfl
  have FBen := fun_mk (st := sBen) lBen cBen kBen
  have bBen := FBen.binds (ps := ["page"]) fun _ _ _ _ _ _ us hl => match us, hl with | [_], _ => rfl
  have FStir := fun_mk (st := sStir) lStir cStir kStir
  have bStir := FStir.binds (ps := ["cell", "k"]) fun _ _ _ _ _ _ us hl => match us, hl with | [_, _], _ => rfl
  have FCell := fun_mk (st := sCell) lCell cCell kCell
  have bCell := FCell.binds (ps := ["script", "k"]) fun _ _ _ _ _ _ us hl => match us, hl with | [_, _], _ => rfl
  have FGrown := fun_mk (st := sGrown) lGrown cGrown kGrown
  have bGrown := FGrown.binds (ps := ["boxes", "at", "way", "many"]) fun _ _ _ _ _ _ us hl => match us, hl with | [_, _, _, _], _ => rfl
  have FWheel := fun_mk (st := sWheel) lWheel cWheel kWheel
  have bWheel := FWheel.binds (ps := ["box", "rest"]) fun _ _ _ _ _ _ us hl => match us, hl with | [_, _], _ => rfl
  have FGrid := fun_mk (st := sGrid) lGrid cGrid kGrid
  have bGrid := FGrid.binds (ps := ["cells", "many"]) fun _ _ _ _ _ _ us hl => match us, hl with | [_, _], _ => rfl
  have FLines := fun_mk (st := sLines) lLines cLines kLines
  have bLines := FLines.binds (ps := ["script", "first", "many", "most"]) fun _ _ _ _ _ _ us hl => match us, hl with | [_, _, _, _], _ => rfl
  have FLaid := fun_mk (st := sLaid) lLaid cLaid kLaid
  have bLaid := FLaid.binds (ps := ["boxes", "xs", "ys"]) fun _ _ _ _ _ _ us hl => match us, hl with | [_, _, _], _ => rfl
  have FFilled := fun_mk (st := sFilled) lFilled cFilled kFilled
  have bFilled := FFilled.binds (ps := ["spans", "first", "last"]) fun _ _ _ _ _ _ us hl => match us, hl with | [_, _, _], _ => rfl
  have FAlong := fun_mk (st := sAlong) lAlong cAlong kAlong
  have bAlong := FAlong.binds (ps := ["page", "told", "lies", "way", "length"]) fun _ _ _ _ _ _ us hl => match us, hl with | [_, _, _, _, _], _ => rfl
  refine ⟨PySem.W.fnOf "law" "law" (defArgs sLaw) (defBody sLaw) (defScope sLaw) .none kVLaw dcLaw pmLaw anLaw cdLaw ctLaw, [(c0, Pt)], spLaw K Pt, ?_, ?_, ?_, fun s v => .of_eq rfl, fun H a ns _ _ hT hS => ?_, fun base _ _ TB => ?_⟩
  · intro p hp; rw [List.mem_singleton.mp hp]; exact tb2
  · intro p hp; rw [List.mem_singleton.mp hp]; exact nP
  · intro p hp; rw [List.mem_singleton.mp hp]; exact tb1
  · exact ⟨a, ns, rfl, hS, fun p hp => by rw [List.mem_singleton.mp hp]; exact .nil (hT _ (List.mem_singleton.mpr rfl)), fun _ => rfl⟩
  · exact ok_law (k := 0) (fun_mk (st := sLaw) lLaw cLaw kLaw) FJoined bJoined (PySem.W.mg_of inK G aJoined) FEnds bEnds (PySem.W.mg_of inK G aEnds) FUpr bUpr (PySem.W.mg_of inK G aUpr) FLev bLev (PySem.W.mg_of inK G aLev) FWall bWall (PySem.W.mg_of inK G aWall) FSides bSides (PySem.W.mg_of inK G aSides) FBes bBes (PySem.W.mg_of inK G aBes) FBen bBen (PySem.W.mg_of inK G aBen) FStir bStir (PySem.W.mg_of inK G aStir) FCell bCell (PySem.W.mg_of inK G aCell) FGrown bGrown (PySem.W.mg_of inK G aGrown) FWheel bWheel (PySem.W.mg_of inK G aWheel) FGrid bGrid (PySem.W.mg_of inK G aGrid) FLines bLines (PySem.W.mg_of inK G aLines) FLaid bLaid (PySem.W.mg_of inK G aLaid) rfl (TB _ (List.mem_singleton.mpr rfl)) FFilled bFilled (PySem.W.mg_of inK G aFilled) FAlong bAlong (PySem.W.mg_of inK G aAlong) T
end K14

open PySem PyProof.Rows PySem.W in
set_option maxHeartbeats 0 in
theorem PySem.Challenge.cw_pagepart_k14_whole_walls_and_boxes_holds : PySem.Challenge.rw_pagepart_k14_whole_walls_and_boxes.Holds := by
  w_on; o_law; k_head
  (case hw => w_witness2)
  k_fill
  refine LamX.walk_ofTs (l := PySem.Challenge.rw_pagepart_k14_whole_walls_and_boxes) (n := 63) (k := 5) (x := "script") (CX := fun _ => L2.CX0) rfl (by decide) rfl ⟨rfl, by decide, by decide⟩ (fun w h Y => PySem.W.km_in_of Y) ?F (fun _ _ _ _ _ z => z)
  case F =>
    intro w mg fa h Y inK G hmg
    refine' K14.all_mk inK G hmg (PySem.W.km_tabs_of Y _ (List.mem_singleton.mpr rfl)) ?aJoined ?lJoined ?cJoined ?kJoined ?aEnds ?lEnds ?cEnds ?kEnds ?aUpr ?lUpr ?cUpr ?kUpr ?aLev ?lLev ?cLev ?kLev ?aWall ?lWall ?cWall ?kWall ?aSides ?lSides ?cSides ?kSides ?aBes ?lBes ?cBes ?kBes ?aBen ?lBen ?cBen ?kBen ?aStir ?lStir ?cStir ?kStir ?aCell ?lCell ?cCell ?kCell ?aGrown ?lGrown ?cGrown ?kGrown ?aWheel ?lWheel ?cWheel ?kWheel ?aGrid ?lGrid ?cGrid ?kGrid ?aLines ?lLines ?cLines ?kLines ?aLaid ?lLaid ?cLaid ?kLaid ?aFilled ?lFilled ?cFilled ?kFilled ?aAlong ?lAlong ?cAlong ?kAlong ?aLaw ?lLaw ?cLaw ?kLaw ?zsorted ?zlen ?zrange ?zenumerate ?zmin ?zmax ?zzip ?ztuple ?hcd ?hhd ?nP
    (case aJoined => k_is)
    (case lJoined => k_is)
    (case cJoined => k_is)
    (case kJoined => k_is)
    (case aEnds => k_is)
    (case lEnds => k_is)
    (case cEnds => k_is)
    (case kEnds => k_is)
    (case aUpr => k_is)
    (case lUpr => k_is)
    (case cUpr => k_is)
    (case kUpr => k_is)
    (case aLev => k_is)
    (case lLev => k_is)
    (case cLev => k_is)
    (case kLev => k_is)
    (case aWall => k_is)
    (case lWall => k_is)
    (case cWall => k_is)
    (case kWall => k_is)
    (case aSides => k_is)
    (case lSides => k_is)
    (case cSides => k_is)
    (case kSides => k_is)
    (case aBes => k_is)
    (case lBes => k_is)
    (case cBes => k_is)
    (case kBes => k_is)
    (case aBen => k_is)
    (case lBen => k_is)
    (case cBen => k_is)
    (case kBen => k_is)
    (case aStir => k_is)
    (case lStir => k_is)
    (case cStir => k_is)
    (case kStir => k_is)
    (case aCell => k_is)
    (case lCell => k_is)
    (case cCell => k_is)
    (case kCell => k_is)
    (case aGrown => k_is)
    (case lGrown => k_is)
    (case cGrown => k_is)
    (case kGrown => k_is)
    (case aWheel => k_is)
    (case lWheel => k_is)
    (case cWheel => k_is)
    (case kWheel => k_is)
    (case aGrid => k_is)
    (case lGrid => k_is)
    (case cGrid => k_is)
    (case kGrid => k_is)
    (case aLines => k_is)
    (case lLines => k_is)
    (case cLines => k_is)
    (case kLines => k_is)
    (case aLaid => k_is)
    (case lLaid => k_is)
    (case cLaid => k_is)
    (case kLaid => k_is)
    (case aFilled => k_is)
    (case lFilled => k_is)
    (case cFilled => k_is)
    (case kFilled => k_is)
    (case aAlong => k_is)
    (case lAlong => k_is)
    (case cAlong => k_is)
    (case kAlong => k_is)
    (case aLaw => k_is)
    (case lLaw => k_is)
    (case cLaw => k_is)
    (case kLaw => k_is)
    (case zsorted => k_is)
    (case zlen => k_is)
    (case zrange => k_is)
    (case zenumerate => k_is)
    (case zmin => k_is)
    (case zmax => k_is)
    (case zzip => k_is)
    (case ztuple => k_is)
    (case hcd => rfl)
    (case hhd => first | kernel_rfl | decide +kernel)
    (case nP => first | kernel_rfl | decide +kernel)
