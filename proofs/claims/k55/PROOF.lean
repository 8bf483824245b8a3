import PyProof.Rows.All
import Wide.All
import OpenK.AllK
import Wide.FinOn
import HandS.ForMost
import HandS.Walk
import HandS.Zip
import HandS.OwnEq
import HandS.IsInst
import HandS.TupAny
import HandS.Style
import HandS.Conv
import HandS.NoneIn
import HandS.Wide
import HandS.EndBits
import KE.GoesMore
import KE.SortData
import KE.LtData
import HandS.Codes
import HandS.Words
import PySem.Challenge.RW_willinglift_k55_whole_wishes_in_order_an
namespace Wl
abbrev Grp := Int × Int × Int
def nw : List (Int × Int) → List (Int × Int) → List Grp
  | [], _ => []
  | _ :: _, [] => []
  | (s, a) :: A, (w, b) :: B =>
    if a ≤ 0 then nw A ((w, b) :: B)
    else if b ≤ 0 then nw ((s, a) :: A) B
    else if a < b then (s, w, a) :: nw A ((w, b - a) :: B)
    else (s, w, b) :: nw ((s, a - b) :: A) B
termination_by A B => A.length + B.length
decreasing_by all_goals (simp only [List.length_cons]; omega)
theorem nw_nil (B : List (Int × Int)) : nw [] B = [] := by rw [nw]
theorem nw_nil_right : ∀ A : List (Int × Int), nw A [] = []
  | [] => by rw [nw]
  | _ :: _ => by rw [nw]
theorem nw_a0 {s a : Int} (A : List (Int × Int)) (h : a ≤ 0) : ∀ B, nw ((s, a) :: A) B = nw A B
  | [] => by rw [nw_nil_right, nw_nil_right]
  | (w, b) :: B => by rw [nw, if_pos h]
theorem nw_b0 {w b : Int} (B : List (Int × Int)) (h : b ≤ 0) : ∀ A, nw A ((w, b) :: B) = nw A B
  | [] => by rw [nw_nil, nw_nil]
  | (s, a) :: A => by
    by_cases ha : a ≤ 0
    · rw [nw_a0 A ha, nw_a0 A ha, nw_b0 B h A]
    · rw [nw, if_neg ha, if_pos h]
theorem nw_lt {s a w b : Int} (A B : List (Int × Int)) (ha : 0 < a) (h : a < b) : nw ((s, a) :: A) ((w, b) :: B) = (s, w, a) :: nw A ((w, b - a) :: B) := by
  rw [nw, if_neg (by omega), if_neg (by omega), if_pos h]
theorem nw_ge {s a w b : Int} (A B : List (Int × Int)) (hb : 0 < b) (h : b ≤ a) : nw ((s, a) :: A) ((w, b) :: B) = (s, w, b) :: nw ((s, a - b) :: A) B := by
  rw [nw, if_neg (by omega), if_neg (by omega), if_neg (by omega)]
theorem nw_step {s a w b : Int} (A B : List (Int × Int)) (ha : 0 < a) (hb : 0 < b) :
    nw ((s, a) :: A) ((w, b) :: B) = (s, w, min a b) :: nw ((s, a - min a b) :: A) ((w, b - min a b) :: B) := by
  rcases Int.lt_or_le a b with h | h
  · have e : min a b = a := by omega
    rw [nw_lt A B ha h, e, nw_a0 A (by omega)]
  · have e : min a b = b := by omega
    rw [nw_ge A B hb h, e, nw_b0 B (by omega)]
theorem nw_filter : ∀ (A B : List (Int × Int)), nw (A.filter fun x => decide (0 < x.2)) B = nw A B
  | [], B => by rw [List.filter_nil]
  | (s, a) :: A, B => by
    by_cases ha : 0 < a
    · rw [List.filter_cons_of_pos (by simpa using ha)]
      induction B generalizing s a with
      | nil => rw [nw_nil_right, nw_nil_right]
      | cons p B ih =>
        obtain ⟨w, b⟩ := p
        by_cases hb : b ≤ 0
        · rw [nw_b0 B hb, nw_b0 B hb, ih s a ha]
        · rcases Int.lt_or_le a b with h | h
          · rw [nw_lt _ _ ha h, nw_lt _ _ ha h, nw_filter A]
          · rw [nw_ge _ _ (by omega) h, nw_ge _ _ (by omega) h]
            by_cases h2 : a - b ≤ 0
            · rw [nw_a0 _ h2, nw_a0 _ h2, nw_filter A]
            · rw [ih s (a - b) (by omega)]
    · rw [List.filter_cons_of_neg (by simpa using ha), nw_a0 A (by omega), nw_filter A]
theorem nw_induct {P : List (Int × Int) → List (Int × Int) → List Grp → Prop}
    (h1 : ∀ B, P [] B []) (h2 : ∀ x A, P (x :: A) [] [])
    (h3 : ∀ s a A w b B, a ≤ 0 → P A ((w, b) :: B) (nw A ((w, b) :: B)) → P ((s, a) :: A) ((w, b) :: B) (nw A ((w, b) :: B)))
    (h4 : ∀ s a A w b B, 0 < a → b ≤ 0 → P ((s, a) :: A) B (nw ((s, a) :: A) B) → P ((s, a) :: A) ((w, b) :: B) (nw ((s, a) :: A) B))
    (h5 : ∀ s a A w b B, 0 < a → a < b → P A ((w, b - a) :: B) (nw A ((w, b - a) :: B)) → P ((s, a) :: A) ((w, b) :: B) ((s, w, a) :: nw A ((w, b - a) :: B)))
    (h6 : ∀ s a A w b B, 0 < b → b ≤ a → P ((s, a - b) :: A) B (nw ((s, a - b) :: A) B) → P ((s, a) :: A) ((w, b) :: B) ((s, w, b) :: nw ((s, a - b) :: A) B)) :
    ∀ A B, P A B (nw A B)
  | [], B => by rw [nw_nil]; exact h1 B
  | x :: A, [] => by rw [nw_nil_right]; exact h2 x A
  | (s, a) :: A, (w, b) :: B => by
    by_cases ha : a ≤ 0
    · rw [nw_a0 A ha]; exact h3 s a A w b B ha (nw_induct h1 h2 h3 h4 h5 h6 A _)
    · by_cases hb : b ≤ 0
      · rw [nw_b0 B hb]; exact h4 s a A w b B (by omega) hb (nw_induct h1 h2 h3 h4 h5 h6 _ B)
      · by_cases h : a < b
        · rw [nw_lt A B (by omega) h]; exact h5 s a A w b B (by omega) h (nw_induct h1 h2 h3 h4 h5 h6 A _)
        · rw [nw_ge A B (by omega) (by omega)]; exact h6 s a A w b B (by omega) (by omega) (nw_induct h1 h2 h3 h4 h5 h6 _ B)
termination_by A B => A.length + B.length
decreasing_by all_goals (simp only [List.length_cons]; omega)
theorem nw_len : ∀ A B, (nw A B).length ≤ A.length + B.length :=
  nw_induct (P := fun A B G => G.length ≤ A.length + B.length) (fun _ => by simp) (fun _ _ => by simp)
    (fun _ _ _ _ _ _ _ h => by simp only [List.length_cons] at h ⊢; omega) (fun _ _ _ _ _ _ _ _ h => by simp only [List.length_cons] at h ⊢; omega)
    (fun _ _ _ _ _ _ _ _ h => by simp only [List.length_cons] at h ⊢; omega) (fun _ _ _ _ _ _ _ _ h => by simp only [List.length_cons] at h ⊢; omega)
theorem nw_mem : ∀ A B, ∀ g ∈ nw A B, g.1 ∈ A.map (·.1) ∧ g.2.1 ∈ B.map (·.1) ∧ 0 < g.2.2 := by
  refine nw_induct (P := fun A B G => ∀ g ∈ G, g.1 ∈ A.map (·.1) ∧ g.2.1 ∈ B.map (·.1) ∧ 0 < g.2.2) (fun _ g h => by cases h) (fun _ _ g h => by cases h) ?_ ?_ ?_ ?_
  · intro s a A w b B _ ih g hg
    obtain ⟨x, y, z⟩ := ih g hg
    exact ⟨List.mem_cons_of_mem _ x, y, z⟩
  · intro s a A w b B _ _ ih g hg
    obtain ⟨x, y, z⟩ := ih g hg
    exact ⟨x, List.mem_cons_of_mem _ y, z⟩
  · intro s a A w b B ha _ ih g hg
    rcases List.mem_cons.mp hg with rfl | hg
    · exact ⟨List.mem_cons_self, List.mem_cons_self, ha⟩
    · obtain ⟨x, y, z⟩ := ih g hg
      exact ⟨List.mem_cons_of_mem _ x, y, z⟩
  · intro s a A w b B hb _ ih g hg
    rcases List.mem_cons.mp hg with rfl | hg
    · exact ⟨List.mem_cons_self, List.mem_cons_self, hb⟩
    · obtain ⟨x, y, z⟩ := ih g hg
      exact ⟨x, List.mem_cons_of_mem _ y, z⟩
def gk (g : Grp) : Int × Int := (g.1, g.2.1)
theorem nw_nodup : ∀ A B, (A.map (·.1)).Nodup → (B.map (·.1)).Nodup → ((nw A B).map gk).Nodup := by
  refine nw_induct (P := fun A B G => (A.map (·.1)).Nodup → (B.map (·.1)).Nodup → (G.map gk).Nodup) (fun _ _ _ => List.nodup_nil) (fun _ _ _ _ => List.nodup_nil) ?_ ?_ ?_ ?_
  · intro s a A w b B _ ih hA hB
    exact ih (List.nodup_cons.mp hA).2 hB
  · intro s a A w b B _ _ ih hA hB
    exact ih hA (List.nodup_cons.mp hB).2
  · intro s a A w b B ha _ ih hA hB
    obtain ⟨n1, n2⟩ := List.nodup_cons.mp hA
    refine List.nodup_cons.mpr ⟨fun m => ?_, ih n2 hB⟩
    obtain ⟨g, hg, e⟩ := List.mem_map.mp m
    have := (nw_mem _ _ g hg).1
    have e1 : g.1 = s := congrArg Prod.fst e
    rw [e1] at this
    exact n1 this
  · intro s a A w b B hb _ ih hA hB
    obtain ⟨n1, n2⟩ := List.nodup_cons.mp hB
    refine List.nodup_cons.mpr ⟨fun m => ?_, ih hA n2⟩
    obtain ⟨g, hg, e⟩ := List.mem_map.mp m
    have := (nw_mem _ _ g hg).2.1
    have e1 : g.2.1 = w := congrArg Prod.snd e
    rw [e1] at this
    exact n1 this
def tot (p : Grp → Bool) (G : List Grp) : Int := ((G.filter p).map (·.2.2)).sum
theorem tot_nil (p : Grp → Bool) : tot p [] = 0 := rfl
theorem tot_cons (p : Grp → Bool) (g : Grp) (G : List Grp) : tot p (g :: G) = (if p g = true then g.2.2 else 0) + tot p G := by
  unfold tot
  by_cases h : p g = true
  · rw [List.filter_cons_of_pos h, if_pos h, List.map_cons, List.sum_cons]
  · rw [List.filter_cons_of_neg h, if_neg h]; omega
theorem tot_perm {p : Grp → Bool} {G G' : List Grp} (h : G.Perm G') : tot p G = tot p G' := by
  induction h with
  | nil => rfl
  | cons x _ ih => rw [tot_cons, tot_cons, ih]
  | swap x y l => rw [tot_cons, tot_cons, tot_cons, tot_cons]; omega
  | trans _ _ h1 h2 => exact h1.trans h2
theorem tot_nonneg {p : Grp → Bool} : ∀ {G : List Grp}, (∀ g ∈ G, 0 < g.2.2) → 0 ≤ tot p G
  | [], _ => Int.le_refl 0
  | g :: G, h => by
    rw [tot_cons]
    have h1 := h g List.mem_cons_self
    have h2 := tot_nonneg (p := p) (G := G) fun x hx => h x (List.mem_cons_of_mem _ hx)
    split <;> omega
theorem tot_pos {p : Grp → Bool} : ∀ {G : List Grp}, (∀ g ∈ G, 0 < g.2.2) → (0 < tot p G ↔ ∃ g ∈ G, p g = true)
  | [], _ => by simp [tot_nil]
  | g :: G, h => by
    have h1 := h g List.mem_cons_self
    have h' : ∀ x ∈ G, 0 < x.2.2 := fun x hx => h x (List.mem_cons_of_mem _ hx)
    have h2 := tot_nonneg (p := p) h'
    have ih := tot_pos (p := p) h'
    rw [tot_cons]
    by_cases hp : p g = true
    · rw [if_pos hp]
      exact ⟨fun _ => ⟨g, List.mem_cons_self, hp⟩, fun _ => by omega⟩
    · rw [if_neg hp, Int.zero_add, ih]
      constructor
      · rintro ⟨x, hx, q⟩; exact ⟨x, List.mem_cons_of_mem _ hx, q⟩
      · rintro ⟨x, hx, q⟩
        rcases List.mem_cons.mp hx with rfl | hx
        · exact absurd q hp
        · exact ⟨x, hx, q⟩
def at_ (q : Int → Bool) (A : List (Int × Int)) : Int := ((A.filter fun x => q x.1).map (·.2)).sum
theorem at_nil (q : Int → Bool) : at_ q [] = 0 := rfl
theorem at_cons (q : Int → Bool) (x : Int × Int) (A : List (Int × Int)) : at_ q (x :: A) = (if q x.1 = true then x.2 else 0) + at_ q A := by
  unfold at_
  by_cases h : q x.1 = true
  · rw [List.filter_cons_of_pos (by simpa using h), if_pos h, List.map_cons, List.sum_cons]
  · rw [List.filter_cons_of_neg (by simpa using h), if_neg h]; omega
abbrev all_ (A : List (Int × Int)) : Int := (A.map (·.2)).sum
theorem all_nonneg : ∀ {A : List (Int × Int)}, (∀ x ∈ A, 0 ≤ x.2) → 0 ≤ all_ A
  | [], _ => Int.le_refl 0
  | x :: A, h => by
    have h1 := h x List.mem_cons_self
    have h2 := all_nonneg (A := A) fun y hy => h y (List.mem_cons_of_mem _ hy)
    have : all_ (x :: A) = x.2 + all_ A := by simp [all_]
    omega
theorem at_zero {q : Int → Bool} : ∀ {A : List (Int × Int)}, (∀ x ∈ A, 0 ≤ x.2) → all_ A = 0 → at_ q A = 0
  | [], _, _ => rfl
  | x :: A, h, e => by
    have h1 := h x List.mem_cons_self
    have h' : ∀ y ∈ A, 0 ≤ y.2 := fun y hy => h y (List.mem_cons_of_mem _ hy)
    have h2 := all_nonneg h'
    have e' : x.2 + all_ A = 0 := by rw [← e]; simp [all_]
    rw [at_cons, at_zero h' (by omega)]
    split <;> omega
theorem all_cons (x : Int × Int) (A : List (Int × Int)) : all_ (x :: A) = x.2 + all_ A := by simp [all_]
theorem nw_sums (q : Int → Bool) : ∀ A B, (∀ x ∈ A, 0 ≤ x.2) → (∀ x ∈ B, 0 ≤ x.2) → all_ A = all_ B →
    tot (fun g => q g.1) (nw A B) = at_ q A ∧ tot (fun g => q g.2.1) (nw A B) = at_ q B := by
  refine nw_induct (P := fun A B G => (∀ x ∈ A, 0 ≤ x.2) → (∀ x ∈ B, 0 ≤ x.2) → all_ A = all_ B → tot (fun g => q g.1) G = at_ q A ∧ tot (fun g => q g.2.1) G = at_ q B) ?_ ?_ ?_ ?_ ?_ ?_
  · intro B _ hB e
    exact ⟨rfl, (at_zero hB (by rw [← e]; rfl)).symm⟩
  · intro x A hA _ e
    exact ⟨(at_zero hA (by rw [e]; rfl)).symm, rfl⟩
  · intro s a A w b B ha ih hA hB e
    have a0 : a = 0 := by have := hA (s, a) List.mem_cons_self; simp only at this; omega
    have hA' : ∀ x ∈ A, 0 ≤ x.2 := fun y hy => hA y (List.mem_cons_of_mem _ hy)
    rw [all_cons] at e
    obtain ⟨i1, i2⟩ := ih hA' hB (by simp only at e; omega)
    refine ⟨?_, i2⟩
    rw [at_cons, i1, a0]; split <;> omega
  · intro s a A w b B _ hb ih hA hB e
    have b0 : b = 0 := by have := hB (w, b) List.mem_cons_self; simp only at this; omega
    have hB' : ∀ x ∈ B, 0 ≤ x.2 := fun y hy => hB y (List.mem_cons_of_mem _ hy)
    rw [all_cons (w, b)] at e
    obtain ⟨i1, i2⟩ := ih hA hB' (by simp only at e; omega)
    refine ⟨i1, ?_⟩
    rw [at_cons, i2, b0]; split <;> omega
  · intro s a A w b B ha hab ih hA hB e
    have hA' : ∀ x ∈ A, 0 ≤ x.2 := fun y hy => hA y (List.mem_cons_of_mem _ hy)
    rw [all_cons, all_cons] at e
    obtain ⟨i1, i2⟩ := ih hA' (fun x hx => by
      rcases List.mem_cons.mp hx with rfl | hx
      · show 0 ≤ b - a; omega
      · exact hB x (List.mem_cons_of_mem _ hx)) (by rw [all_cons]; simp only at e ⊢; omega)
    rw [at_cons] at i2
    refine ⟨?_, ?_⟩
    · rw [tot_cons, at_cons, i1]
    · rw [tot_cons, at_cons, i2]
      simp only
      by_cases h : q w = true
      · rw [if_pos h, if_pos h, if_pos h]; omega
      · rw [if_neg h, if_neg h, if_neg h]; omega
  · intro s a A w b B hb hab ih hA hB e
    have hB' : ∀ x ∈ B, 0 ≤ x.2 := fun y hy => hB y (List.mem_cons_of_mem _ hy)
    rw [all_cons, all_cons] at e
    obtain ⟨i1, i2⟩ := ih (fun x hx => by
      rcases List.mem_cons.mp hx with rfl | hx
      · show 0 ≤ a - b; omega
      · exact hA x (List.mem_cons_of_mem _ hx)) hB' (by rw [all_cons]; simp only at e ⊢; omega)
    rw [at_cons] at i1
    refine ⟨?_, ?_⟩
    · rw [tot_cons, at_cons, i1]
      simp only
      by_cases h : q s = true
      · rw [if_pos h, if_pos h, if_pos h]; omega
      · rw [if_neg h, if_neg h, if_neg h]; omega
    · rw [tot_cons, at_cons, i2]
theorem nw_mono : ∀ A B, (A.map (·.1)).Pairwise (· < ·) → (B.map (·.1)).Pairwise (· < ·) → (nw A B).Pairwise fun g g' => g.1 ≤ g'.1 ∧ g.2.1 ≤ g'.2.1 := by
  have up : ∀ {x : Int} {l : List Int}, (x :: l).Pairwise (· < ·) → ∀ y ∈ x :: l, x ≤ y := by
    intro x l h y hy
    rcases List.mem_cons.mp hy with rfl | hy
    · exact Int.le_refl _
    · exact Int.le_of_lt ((List.pairwise_cons.mp h).1 y hy)
  refine nw_induct (P := fun A B G => (A.map (·.1)).Pairwise (· < ·) → (B.map (·.1)).Pairwise (· < ·) → G.Pairwise fun g g' => g.1 ≤ g'.1 ∧ g.2.1 ≤ g'.2.1) (fun _ _ _ => .nil) (fun _ _ _ _ => .nil) ?_ ?_ ?_ ?_
  · intro s a A w b B _ ih hA hB
    exact ih (List.pairwise_cons.mp hA).2 hB
  · intro s a A w b B _ _ ih hA hB
    exact ih hA (List.pairwise_cons.mp hB).2
  · intro s a A w b B _ _ ih hA hB
    refine List.pairwise_cons.mpr ⟨fun g hg => ?_, ih (List.pairwise_cons.mp hA).2 hB⟩
    obtain ⟨m1, m2, _⟩ := nw_mem _ _ g hg
    exact ⟨up hA _ (List.mem_cons_of_mem _ m1), up hB _ m2⟩
  · intro s a A w b B _ _ ih hA hB
    refine List.pairwise_cons.mpr ⟨fun g hg => ?_, ih hA (List.pairwise_cons.mp hB).2⟩
    obtain ⟨m1, m2, _⟩ := nw_mem _ _ g hg
    exact ⟨up hA _ m1, up hB _ (List.mem_cons_of_mem _ m2)⟩
def isUp (g : Int) (x : Grp) : Bool := decide (x.1 ≤ g) && decide (g < x.2.1)
def isDown (g : Int) (x : Grp) : Bool := decide (x.2.1 ≤ g) && decide (g < x.1)
def isLeft (g : Int) (x : Grp) : Bool := !decide (x.1 = x.2.1) && decide (g < max x.1 x.2.1)
def up (G : List Grp) (g : Int) : Int := tot (isUp g) G
def down (G : List Grp) (g : Int) : Int := tot (isDown g) G
def left (G : List Grp) (g : Int) : Bool := G.any (isLeft g)
theorem up_down (g : Int) : ∀ G : List Grp, up G g - down G g = tot (fun x => decide (x.1 ≤ g)) G - tot (fun x => decide (x.2.1 ≤ g)) G
  | [] => rfl
  | x :: G => by
    have ih := up_down g G
    have eu : isUp g x = true ↔ x.1 ≤ g ∧ g < x.2.1 := by unfold isUp; simp only [Bool.and_eq_true, decide_eq_true_eq]
    have ed : isDown g x = true ↔ x.2.1 ≤ g ∧ g < x.1 := by unfold isDown; simp only [Bool.and_eq_true, decide_eq_true_eq]
    unfold up down at *
    rw [tot_cons, tot_cons, tot_cons, tot_cons]
    simp only [eu, ed, decide_eq_true_eq]
    by_cases h1 : x.1 ≤ g <;> by_cases h2 : x.2.1 ≤ g
    · rw [if_neg (by omega), if_neg (by omega), if_pos h1, if_pos h2]; omega
    · rw [if_pos (by omega), if_neg (by omega), if_pos h1, if_neg h2]; omega
    · rw [if_neg (by omega), if_pos (by omega), if_neg h1, if_pos h2]; omega
    · rw [if_neg (by omega), if_neg (by omega), if_neg h1, if_neg h2]; omega
theorem one_way {G : List Grp} (hp : ∀ x ∈ G, 0 < x.2.2) (hm : G.Pairwise fun x y => x.1 ≤ y.1 ∧ x.2.1 ≤ y.2.1) (g : Int) : up G g = 0 ∨ down G g = 0 := by
  have u := tot_pos (p := isUp g) hp
  have d := tot_pos (p := isDown g) hp
  have u0 := tot_nonneg (p := isUp g) hp
  have d0 := tot_nonneg (p := isDown g) hp
  by_cases hu : 0 < tot (isUp g) G
  · by_cases hd : 0 < tot (isDown g) G
    · exfalso
      obtain ⟨x, hx, px⟩ := u.mp hu
      obtain ⟨y, hy, py⟩ := d.mp hd
      unfold isUp at px
      unfold isDown at py
      simp only [Bool.and_eq_true, decide_eq_true_eq] at px py
      have : ∀ {l : List Grp}, l.Pairwise (fun x y => x.1 ≤ y.1 ∧ x.2.1 ≤ y.2.1) → x ∈ l → y ∈ l → (x.1 ≤ y.1 ∧ x.2.1 ≤ y.2.1) ∨ (y.1 ≤ x.1 ∧ y.2.1 ≤ x.2.1) := by
        intro l hl
        induction hl with
        | nil => intro h; cases h
        | cons h _ ih =>
          intro h1 h2
          rcases List.mem_cons.mp h1 with e1 | h1 <;> rcases List.mem_cons.mp h2 with e2 | h2
          · rw [e1, e2]; exact .inl ⟨Int.le_refl _, Int.le_refl _⟩
          · rw [e1]; exact .inl (h y h2)
          · rw [e2]; exact .inr (h x h1)
          · exact ih h1 h2
      rcases this hm hx hy with q | q <;> omega
    · exact .inr (by unfold down; omega)
  · exact .inl (by unfold up; omega)
theorem least_gap {L M : List Grp} (hL : ∀ x ∈ L, 0 < x.2.2) (hM : ∀ x ∈ M, 0 < x.2.2) (hm : L.Pairwise fun x y => x.1 ≤ y.1 ∧ x.2.1 ≤ y.2.1)
    (hs : ∀ q : Int → Bool, tot (fun x => q x.1) L = tot (fun x => q x.1) M ∧ tot (fun x => q x.2.1) L = tot (fun x => q x.2.1) M) (g : Int) :
    up L g ≤ up M g ∧ down L g ≤ down M g := by
  have a := up_down g L
  have b := up_down g M
  obtain ⟨h1, h2⟩ := hs (fun s => decide (s ≤ g))
  have c := one_way hL hm g
  have u0 : 0 ≤ up M g := tot_nonneg hM
  have d0 : 0 ≤ down M g := tot_nonneg hM
  omega
theorem least_left {L M : List Grp} (hL : ∀ x ∈ L, 0 < x.2.2) (hM : ∀ x ∈ M, 0 < x.2.2) (hm : L.Pairwise fun x y => x.1 ≤ y.1 ∧ x.2.1 ≤ y.2.1)
    (hs : ∀ q : Int → Bool, tot (fun x => q x.1) L = tot (fun x => q x.1) M ∧ tot (fun x => q x.2.1) L = tot (fun x => q x.2.1) M) (g : Int) (h : left L g = true) : left M g = true := by
  obtain ⟨x, hx, px⟩ := List.any_eq_true.mp h
  unfold isLeft at px
  simp only [Bool.and_eq_true, decide_eq_true_eq, Bool.not_eq_true', decide_eq_false_iff_not] at px
  obtain ⟨a, b⟩ := least_gap hL hM hm hs (max x.1 x.2.1 - 1)
  have hcross : 0 < up L (max x.1 x.2.1 - 1) ∨ 0 < down L (max x.1 x.2.1 - 1) := by
    by_cases hlt : x.1 < x.2.1
    · refine .inl ((tot_pos hL).mpr ⟨x, hx, ?_⟩)
      unfold isUp; simp only [Bool.and_eq_true, decide_eq_true_eq]; omega
    · refine .inr ((tot_pos hL).mpr ⟨x, hx, ?_⟩)
      unfold isDown; simp only [Bool.and_eq_true, decide_eq_true_eq]; omega
  have : ∃ y ∈ M, isLeft g y = true := by
    rcases hcross with q | q
    · obtain ⟨y, hy, py⟩ := (tot_pos hM).mp (show 0 < tot (isUp (max x.1 x.2.1 - 1)) M from Int.lt_of_lt_of_le q a)
      refine ⟨y, hy, ?_⟩
      unfold isUp at py
      unfold isLeft
      simp only [Bool.and_eq_true, decide_eq_true_eq, Bool.not_eq_true', decide_eq_false_iff_not] at py ⊢
      omega
    · obtain ⟨y, hy, py⟩ := (tot_pos hM).mp (show 0 < tot (isDown (max x.1 x.2.1 - 1)) M from Int.lt_of_lt_of_le q b)
      refine ⟨y, hy, ?_⟩
      unfold isDown at py
      unfold isLeft
      simp only [Bool.and_eq_true, decide_eq_true_eq, Bool.not_eq_true', decide_eq_false_iff_not] at py ⊢
      omega
  exact List.any_eq_true.mpr this
def ceil (n r : Int) : Int := (n + r - 1) / r
theorem ceil_neg (n : Int) {r : Int} (hr : 0 < r) : -(-n / r) = ceil n r := by
  unfold ceil
  have h1 := Int.mul_ediv_add_emod (-n) r
  have h2 := Int.emod_nonneg (-n) (Int.ne_of_gt hr)
  have h3 := Int.emod_lt_of_pos (-n) hr
  generalize -n / r = q at *
  generalize -n % r = m at *
  have e : n + r - 1 = (r - 1 - m) + r * (-q) := by rw [Int.mul_neg]; omega
  rw [e, Int.add_mul_ediv_left _ _ (Int.ne_of_gt hr), Int.ediv_eq_zero_of_lt (by omega) (by omega), Int.zero_add]
theorem ceil_mono {n m r : Int} (hr : 0 < r) (h : n ≤ m) : ceil n r ≤ ceil m r := Int.ediv_le_ediv hr (by omega)
def b2i (b : Bool) : Int := if b then 1 else 0
def most (r : Int) (G : List Grp) (g : Int) : Int := max (max (ceil (up G g) r) (ceil (down G g) r)) (b2i (left G g))
def num (r : Int) (G : List Grp) (g : Int) : Int := 2 * most r G g
def nums (n : Nat) (r : Int) (G : List Grp) : List Int := (List.range (n - 1)).map fun g => num r G (g : Nat)
def rest (n : Nat) (r : Int) (G : List Grp) : Int := (nums n r G).sum
theorem sum_le {f g : Nat → Int} : ∀ {l : List Nat}, (∀ i ∈ l, f i ≤ g i) → (l.map f).sum ≤ (l.map g).sum
  | [], _ => Int.le_refl _
  | x :: l, h => by
    have h1 := h x List.mem_cons_self
    have h2 := sum_le (l := l) fun i hi => h i (List.mem_cons_of_mem _ hi)
    rw [List.map_cons, List.map_cons, List.sum_cons, List.sum_cons]; omega
theorem rest_le {L M : List Grp} (hL : ∀ x ∈ L, 0 < x.2.2) (hM : ∀ x ∈ M, 0 < x.2.2) (hm : L.Pairwise fun x y => x.1 ≤ y.1 ∧ x.2.1 ≤ y.2.1)
    (hs : ∀ q : Int → Bool, tot (fun x => q x.1) L = tot (fun x => q x.1) M ∧ tot (fun x => q x.2.1) L = tot (fun x => q x.2.1) M) (n : Nat) {r : Int} (hr : 0 < r) : rest n r L ≤ rest n r M := by
  refine sum_le fun i _ => ?_
  obtain ⟨a, b⟩ := least_gap hL hM hm hs (i : Int)
  have c := least_left hL hM hm hs (i : Int)
  have a' := ceil_mono hr a
  have b' := ceil_mono hr b
  have c' : b2i (left L (i : Int)) ≤ b2i (left M (i : Int)) := by
    unfold b2i
    cases h : left L (i : Int) with
    | false => show (0 : Int) ≤ _; split <;> omega
    | true => rw [c h]; exact Int.le_refl _
  unfold num most
  omega
def ltK (a b : Int × Int) : Prop := a.1 < b.1 ∨ (a.1 = b.1 ∧ a.2 < b.2)
instance : DecidableRel ltK := fun _ _ => inferInstanceAs (Decidable (_ ∨ _))
def Asc (G : List Grp) : Prop := G.Pairwise fun x y => ltK (gk x) (gk y)
theorem asc_unique : ∀ {G G' : List Grp}, Asc G → Asc G' → G.Perm G' → G = G'
  | [], G', _, _, p => (List.nil_perm.mp p).symm
  | x :: G, [], _, _, p => (List.perm_nil.mp p)
  | x :: G, y :: G', h, h', p => by
    obtain ⟨h1, h2⟩ := List.pairwise_cons.mp h
    obtain ⟨h3, h4⟩ := List.pairwise_cons.mp h'
    have e : x = y := by
      rcases List.mem_cons.mp (p.mem_iff.mp (List.mem_cons_self (a := x) (l := G))) with e | m
      · exact e
      · rcases List.mem_cons.mp (p.mem_iff.mpr (List.mem_cons_self (a := y) (l := G'))) with e | m'
        · exact e.symm
        · have q1 := h3 x m
          have q2 := h1 y m'
          unfold ltK at q1 q2
          exfalso; omega
    subst e
    rw [asc_unique h2 h4 (List.Perm.cons_inv p)]
end Wl
namespace Wl
def enu : Nat → List Int → List (Int × Int)
  | _, [] => []
  | k, a :: l => ((k : Int), a) :: enu (k + 1) l
theorem enu_length : ∀ (k : Nat) (l : List Int), (enu k l).length = l.length
  | _, [] => rfl
  | k, a :: l => by rw [enu, List.length_cons, List.length_cons, enu_length]
theorem enu_drop {l : List Int} {i : Nat} {a : Int} (h : l[i]? = some a) : enu i (l.drop i) = ((i : Int), a) :: enu (i + 1) (l.drop (i + 1)) := by
  obtain ⟨hi, e⟩ := List.getElem?_eq_some_iff.mp h
  rw [List.drop_eq_getElem_cons hi, enu, e]
theorem enu_nonneg : ∀ {k : Nat} {l : List Int}, (∀ x ∈ l, 0 ≤ x) → ∀ x ∈ enu k l, 0 ≤ x.2
  | _, [], _, x, h => by cases h
  | k, a :: l, h, x, hx => by
    rw [enu] at hx
    rcases List.mem_cons.mp hx with rfl | hx
    · exact h a List.mem_cons_self
    · exact enu_nonneg (fun y hy => h y (List.mem_cons_of_mem _ hy)) x hx
theorem enu_fst : ∀ {k : Nat} {l : List Int} {x : Int × Int}, x ∈ enu k l → (k : Int) ≤ x.1 ∧ x.1 < k + l.length
  | _, [], x, h => by cases h
  | k, a :: l, x, hx => by
    rw [enu] at hx
    rcases List.mem_cons.mp hx with rfl | hx
    · simp only [List.length_cons]; omega
    · have := enu_fst hx
      simp only [List.length_cons]; omega
theorem enu_asc : ∀ (k : Nat) (l : List Int), ((enu k l).map (·.1)).Pairwise (· < ·)
  | _, [] => .nil
  | k, a :: l => by
    rw [enu, List.map_cons]
    refine List.pairwise_cons.mpr ⟨fun y hy => ?_, enu_asc (k + 1) l⟩
    obtain ⟨x, hx, rfl⟩ := List.mem_map.mp hy
    have := (enu_fst hx).1
    omega
theorem nodup_of_asc {l : List Int} (h : l.Pairwise (· < ·)) : l.Nodup := h.imp fun {a b} q e => by subst e; omega
theorem enu_all : ∀ (k : Nat) (l : List Int), all_ (enu k l) = l.sum
  | _, [] => rfl
  | k, a :: l => by rw [enu, all_cons, enu_all, List.sum_cons]
theorem enu_at : ∀ (k : Nat) (l : List Int) (j : Nat), at_ (fun f => decide (f = ((k + j : Nat) : Int))) (enu k l) = l.getD j 0
  | _, [], j => rfl
  | k, a :: l, 0 => by
    rw [enu, at_cons]
    have : at_ (fun f => decide (f = ((k + 0 : Nat) : Int))) (enu (k + 1) l) = 0 := by
      unfold at_
      rw [List.filter_eq_nil_iff.mpr fun x hx => by have := (enu_fst hx).1; simp; omega]
      rfl
    rw [this]
    simp
  | k, a :: l, j + 1 => by
    rw [enu, at_cons, if_neg (by simp; omega)]
    have ih := enu_at (k + 1) l j
    rw [show k + 1 + j = k + (j + 1) by omega] at ih
    rw [ih]
    simp
theorem sum_perm {l m : List Int} (h : l.Perm m) : l.sum = m.sum := by
  induction h with
  | nil => rfl
  | cons x _ ih => rw [List.sum_cons, List.sum_cons, ih]
  | swap x y l => rw [List.sum_cons, List.sum_cons, List.sum_cons, List.sum_cons]; omega
  | trans _ _ h1 h2 => exact h1.trans h2
theorem at_perm {q : Int → Bool} {A B : List (Int × Int)} (h : A.Perm B) : at_ q A = at_ q B := sum_perm ((h.filter fun x => q x.1).map (·.2))
theorem all_perm {A B : List (Int × Int)} (h : A.Perm B) : all_ A = all_ B := sum_perm (h.map (·.2))
def qu (lf rw : List Int) : List (Int × Int) := rw.map fun w => (w, lf.getD w.toNat 0)
theorem qu_cons (lf rw : List Int) (w : Int) : qu lf (w :: rw) = (w, lf.getD w.toNat 0) :: qu lf rw := rfl
theorem qu_set {lf rw : List Int} {w x : Int} (hw : 0 ≤ w) (h : w ∉ rw) (hr : ∀ v ∈ rw, 0 ≤ v) : qu (lf.set w.toNat x) rw = qu lf rw := by
  unfold qu
  refine List.map_congr_left fun v hv => ?_
  have hv0 := hr v hv
  have : w.toNat ≠ v.toNat := fun e => h (by have : w = v := by omega
                                             rw [this]; exact hv)
  rw [List.getD_eq_getElem?_getD, List.getD_eq_getElem?_getD, List.getElem?_set_ne this]
theorem qu_nonneg {lf rw : List Int} (h : ∀ x ∈ lf, 0 ≤ x) : ∀ x ∈ qu lf rw, 0 ≤ x.2 := by
  intro x hx
  obtain ⟨w, _, rfl⟩ := List.mem_map.mp hx
  show 0 ≤ lf.getD w.toNat 0
  rw [List.getD_eq_getElem?_getD]
  cases e : lf[w.toNat]? with
  | none => exact Int.le_refl 0
  | some y => exact h y (List.mem_of_getElem? e)
theorem qu_enu : ∀ (k : Nat) (pre l : List Int), pre.length = k → qu (pre ++ l) ((List.range l.length).map fun i => ((k + i : Nat) : Int)) = enu k l
  | _, _, [], _ => rfl
  | k, pre, a :: l, hk => by
    rw [List.length_cons, List.range_succ_eq_map, List.map_cons, qu_cons, enu]
    have e1 : (pre ++ a :: l).getD (((k + 0 : Nat) : Int)).toNat 0 = a := by
      rw [Int.toNat_natCast, Nat.add_zero, List.getD_eq_getElem?_getD, List.getElem?_append_right (by omega), hk, Nat.sub_self]
      rfl
    rw [e1, Nat.add_zero]
    refine congrArg _ ?_
    have ih := qu_enu (k + 1) (pre ++ [a]) l (by rw [List.length_append, hk]; rfl)
    rw [List.append_assoc] at ih
    rw [← ih, List.map_map]
    refine congrArg _ (List.map_congr_left fun i _ => ?_)
    show ((k + (i + 1) : Nat) : Int) = ((k + 1 + i : Nat) : Int)
    omega
structure PInv (n : Nat) (G : List Grp) (A : List (Int × Int)) (ks : List Grp) (lf rw : List Int) : Prop where
  eq : ks ++ nw A (qu lf rw) = G
  len : lf.length = n
  nn : ∀ x ∈ lf, 0 ≤ x
  nd : rw.Nodup
  rg : ∀ w ∈ rw, 0 ≤ w ∧ w < n
  an : ∀ x ∈ A, 0 ≤ x.2
  sum : all_ A = all_ (qu lf rw)
theorem PInv.row {n : Nat} {G : List Grp} {s a : Int} {A : List (Int × Int)} {ks : List Grp} {lf rw : List Int} (p : PInv n G ((s, a) :: A) ks lf rw) (ha : 0 < a) : ∃ w rw', rw = w :: rw' := by
  cases rw with
  | nil =>
    exfalso
    have h := p.sum
    rw [all_cons] at h
    have := all_nonneg (A := A) fun x hx => p.an x (List.mem_cons_of_mem _ hx)
    have e : all_ (qu lf []) = 0 := rfl
    rw [e] at h
    simp only at h
    omega
  | cons w rw' => exact ⟨w, rw', rfl⟩
theorem PInv.done {n : Nat} {G : List Grp} {s a : Int} {A : List (Int × Int)} {ks : List Grp} {lf rw : List Int} (p : PInv n G ((s, a) :: A) ks lf rw) (ha : a = 0) : PInv n G A ks lf rw := by
  have h := p.sum
  rw [all_cons] at h
  exact ⟨by rw [← p.eq, nw_a0 A (by omega)], p.len, p.nn, p.nd, p.rg, fun x hx => p.an x (List.mem_cons_of_mem _ hx), by simp only at h; omega⟩
theorem PInv.step {n : Nat} {G : List Grp} {s a : Int} {A : List (Int × Int)} {ks : List Grp} {lf rw : List Int} {w b : Int} (p : PInv n G ((s, a) :: A) ks lf (w :: rw)) (ha : 0 < a) (hb : lf.getD w.toNat 0 = b) :
    0 ≤ b ∧ (0 < min a b → ∃ R, G = (ks ++ [(s, w, min a b)]) ++ R) ∧
    PInv n G ((s, a - min a b) :: A) (if 0 < min a b then ks ++ [(s, w, min a b)] else ks) (lf.set w.toNat (b - min a b)) (if b - min a b = 0 then rw else w :: rw) := by
  have b0 : 0 ≤ b := by
    have := qu_nonneg (rw := w :: rw) p.nn (w, b) (by rw [qu_cons, hb]; exact List.mem_cons_self)
    exact this
  obtain ⟨w0, wn⟩ := p.rg w List.mem_cons_self
  obtain ⟨nd1, nd2⟩ := List.nodup_cons.mp p.nd
  have rg' : ∀ v ∈ rw, 0 ≤ v ∧ v < n := fun v hv => p.rg v (List.mem_cons_of_mem _ hv)
  have hlt : w.toNat < lf.length := by rw [p.len]; omega
  have q1 : qu (lf.set w.toNat (b - min a b)) (w :: rw) = (w, b - min a b) :: qu lf rw := by
    rw [qu_cons, qu_set w0 nd1 fun v hv => (rg' v hv).1, List.getD_eq_getElem?_getD, List.getElem?_set_self hlt]
    rfl
  have q2 : qu (lf.set w.toNat (b - min a b)) (if b - min a b = 0 then rw else w :: rw) = if b - min a b = 0 then qu lf rw else (w, b - min a b) :: qu lf rw := by
    split
    · exact qu_set w0 nd1 fun v hv => (rg' v hv).1
    · exact q1
  have n2 : ∀ X, nw X (if b - min a b = 0 then qu lf rw else (w, b - min a b) :: qu lf rw) = nw X ((w, b - min a b) :: qu lf rw) := fun X => by
    split
    · rename_i h; rw [h, nw_b0 _ (Int.le_refl 0)]
    · rfl
  have all2 : all_ (if b - min a b = 0 then qu lf rw else (w, b - min a b) :: qu lf rw) = (b - min a b) + all_ (qu lf rw) := by
    split
    · rename_i h; rw [h, Int.zero_add]
    · rw [all_cons]
  have key : ks ++ nw ((s, a) :: A) ((w, b) :: qu lf rw) = (if 0 < min a b then ks ++ [(s, w, min a b)] else ks) ++ nw ((s, a - min a b) :: A) ((w, b - min a b) :: qu lf rw) := by
    by_cases hb0 : 0 < b
    · rw [nw_step A _ ha hb0, if_pos (by omega), List.append_assoc]; rfl
    · have e : b = 0 := by omega
      have em : min a b = 0 := by omega
      rw [if_neg (by omega), em, e, Int.sub_zero, Int.sub_zero]
  have heq := p.eq
  rw [qu_cons, hb, key] at heq
  refine ⟨b0, fun hm => ⟨_, by rw [if_pos hm] at heq; exact heq.symm⟩, ⟨?_, by rw [List.length_set]; exact p.len, ?_, ?_, ?_, ?_, ?_⟩⟩
  · rw [q2, n2]; exact heq
  · intro x hx
    rcases List.mem_or_eq_of_mem_set hx with h | h
    · exact p.nn x h
    · omega
  · split
    · exact nd2
    · exact p.nd
  · split
    · exact rg'
    · exact p.rg
  · intro x hx
    rcases List.mem_cons.mp hx with rfl | hx
    · show 0 ≤ a - min a b; omega
    · exact p.an x (List.mem_cons_of_mem _ hx)
  · have h := p.sum
    rw [all_cons, qu_cons, all_cons, hb] at h
    rw [q2, all2, all_cons]
    simp only at h ⊢
    omega
end Wl
namespace Wl
structure MInv (G : List Grp) (w b : Int) (B : List (Int × Int)) (N t : Nat) (ks : List Grp) (L : List (Int × Int)) : Prop where
  eq : ks ++ nw L ((w, b) :: B) = G
  pos : ∀ x ∈ L, 0 < x.2
  b0 : 0 ≤ b
  bn : ∀ x ∈ B, 0 ≤ x.2
  sum : all_ L = b + all_ B
  few : b = 0 ∨ L.length + t ≤ N
theorem MInv.head {G : List Grp} {w b : Int} {B : List (Int × Int)} {N t : Nat} {ks : List Grp} {L : List (Int × Int)} (p : MInv G w b B N t ks L) (hb : 0 < b) : ∃ s a L', L = (s, a) :: L' ∧ 0 < a := by
  cases L with
  | nil =>
    exfalso
    have h := p.sum
    have := all_nonneg p.bn
    have e : all_ [] = 0 := rfl
    rw [e] at h
    omega
  | cons x L' => exact ⟨x.1, x.2, L', rfl, p.pos x List.mem_cons_self⟩
theorem MInv.step {G : List Grp} {w b : Int} {B : List (Int × Int)} {N t : Nat} {ks : List Grp} {s a : Int} {L : List (Int × Int)} (p : MInv G w b B N t ks ((s, a) :: L)) (ha : 0 < a) (hb : 0 < b) :
    (∃ R, G = (ks ++ [(s, w, min a b)]) ++ R) ∧ MInv G w (b - min a b) B N (t + 1) (ks ++ [(s, w, min a b)]) (if a = min a b then L else (s, a - min a b) :: L) := by
  have heq := p.eq
  rw [nw_step L B ha hb] at heq
  have hsum := p.sum
  rw [all_cons] at hsum
  simp only at hsum
  have e2 : ks ++ (s, w, min a b) :: nw ((s, a - min a b) :: L) ((w, b - min a b) :: B) = (ks ++ [(s, w, min a b)]) ++ nw ((s, a - min a b) :: L) ((w, b - min a b) :: B) := by rw [List.append_assoc]; rfl
  rw [e2] at heq
  refine ⟨⟨_, heq.symm⟩, ⟨?_, ?_, by omega, p.bn, ?_, ?_⟩⟩
  · by_cases h : a = min a b
    · rw [if_pos h, ← heq, nw_a0 L (show a - min a b ≤ 0 by omega)]
    · rw [if_neg h]; exact heq
  · intro x hx
    by_cases h : a = min a b
    · rw [if_pos h] at hx; exact p.pos x (List.mem_cons_of_mem _ hx)
    · rw [if_neg h] at hx
      rcases List.mem_cons.mp hx with rfl | hx
      · show 0 < a - min a b; omega
      · exact p.pos x (List.mem_cons_of_mem _ hx)
  · by_cases h : a = min a b
    · rw [if_pos h]; omega
    · rw [if_neg h, all_cons]; simp only; omega
  · by_cases h : a = min a b
    · rw [if_pos h]
      rcases p.few with q | q
      · omega
      · right
        rw [List.length_cons] at q
        omega
    · left; omega
theorem MInv.pass {G : List Grp} {w b : Int} {B : List (Int × Int)} {N t : Nat} {ks : List Grp} {L : List (Int × Int)} (p : MInv G w b B N t ks L) (hb : ¬ 0 < b) : MInv G w b B N (t + 1) ks L :=
  ⟨p.eq, p.pos, p.b0, p.bn, p.sum, .inl (by have := p.b0; omega)⟩
structure OInv (G : List Grp) (B : List (Int × Int)) (N : Nat) (ks : List Grp) (L : List (Int × Int)) : Prop where
  eq : ks ++ nw L B = G
  pos : ∀ x ∈ L, 0 < x.2
  bn : ∀ x ∈ B, 0 ≤ x.2
  sum : all_ L = all_ B
  few : L.length ≤ N
theorem OInv.start {A B : List (Int × Int)} (hA : ∀ x ∈ A, 0 ≤ x.2) (hB : ∀ x ∈ B, 0 ≤ x.2) (e : all_ A = all_ B) : OInv (nw A B) B A.length [] (A.filter fun x => decide (0 < x.2)) := by
  refine ⟨nw_filter A B, fun x hx => of_decide_eq_true (List.mem_filter.mp hx).2, hB, ?_, List.length_filter_le _ _⟩
  rw [← e]
  clear e hB
  induction A with
  | nil => rfl
  | cons x A ih =>
    have h0 := hA x List.mem_cons_self
    have ih' := ih fun y hy => hA y (List.mem_cons_of_mem _ hy)
    by_cases h : 0 < x.2
    · rw [List.filter_cons_of_pos (by simpa using h), all_cons, all_cons, ih']
    · rw [List.filter_cons_of_neg (by simpa using h), all_cons, ih']; omega
theorem OInv.turn {G : List Grp} {w b : Int} {B : List (Int × Int)} {N : Nat} {ks : List Grp} {L : List (Int × Int)} (p : OInv G ((w, b) :: B) N ks L) : MInv G w b B N 0 ks L :=
  ⟨p.eq, p.pos, p.bn (w, b) List.mem_cons_self, fun x hx => p.bn x (List.mem_cons_of_mem _ hx), by rw [p.sum, all_cons], .inr (by have := p.few; omega)⟩
theorem MInv.end_ {G : List Grp} {w b : Int} {B : List (Int × Int)} {N : Nat} {ks : List Grp} {L : List (Int × Int)} (p : MInv G w b B N N ks L) (few : L.length ≤ N) : OInv G B N ks L := by
  have b0 : b = 0 := by
    rcases p.few with q | q
    · exact q
    · have e : L = [] := List.length_eq_zero_iff.mp (by omega)
      subst e
      have h := p.sum
      have := all_nonneg p.bn
      have e : all_ [] = 0 := rfl
      rw [e] at h
      have := p.b0
      omega
  exact ⟨by rw [← p.eq, nw_b0 B (by omega)], p.pos, p.bn, by rw [p.sum, b0]; omega, few⟩
theorem perm_map {α β : Type} {f : α → β} {l k : List β} (h : l.Perm k) : ∀ m : List α, k = m.map f → ∃ m' : List α, m'.Perm m ∧ l = m'.map f := by
  induction h with
  | nil => intro m e; exact ⟨[], by rw [List.map_eq_nil_iff.mp e.symm], rfl⟩
  | cons x _ ih =>
    intro m e
    cases m with
    | nil => cases e
    | cons y m =>
      rw [List.map_cons] at e
      injection e with e1 e2
      obtain ⟨m', p, e'⟩ := ih m e2
      exact ⟨y :: m', p.cons y, by rw [List.map_cons, e1, e']⟩
  | swap x y l =>
    intro m e
    cases m with
    | nil => cases e
    | cons a m =>
      cases m with
      | nil => rw [List.map_cons, List.map_nil] at e; injection e with _ e; cases e
      | cons b m =>
        rw [List.map_cons, List.map_cons] at e
        injection e with e1 e2
        injection e2 with e2 e3
        exact ⟨b :: a :: m, List.Perm.swap a b m, by rw [List.map_cons, List.map_cons, e1, e2, e3]⟩
  | trans _ _ ih1 ih2 =>
    intro m e
    obtain ⟨m2, p2, e2⟩ := ih2 m e
    obtain ⟨m1, p1, e1⟩ := ih1 m2 e2
    exact ⟨m1, p1.trans p2, e1⟩
end Wl
set_option Elab.async false
set_option linter.all false
set_option maxRecDepth 100000
set_option maxHeartbeats 4000000
namespace Wr
open PySem PySem.Spec PyProof.Rows L2
open AutoSeq1 (wpAny_loadPart')
theorem meets_enumerate_newT (l : Addr) (items : Array Value) :
    Meets (Builtin.«enumerate.__new__» ⟨[.type "enumerate", .ref l], []⟩) (fun _ R s => s.heap.IsTuple l items ∧
      R (.ok (.ret (.ref (s.heap.push { cls := .type "tuple_iterator", data := .fields #[.ref l, .int 0 0] }).objs.size)))
        { s with heap := (s.heap.push { cls := .type "tuple_iterator", data := .fields #[.ref l, .int 0 0] }).push { cls := .type "enumerate", data := .fields #[.none, .bool false, .ref s.heap.objs.size, rawInt 0, .none, .none] } }) :=
  .of_wp fun prog w A R s h => by
    obtain ⟨hp, g, d, tk, os⟩ := s; obtain ⟨hl, h⟩ := h
    have hsub := sub_enumerate
    have hL : Heap.IsTuple (Shared.heap ⟨hp, g, d, tk, os⟩) l items := hl
    wp_walk
    refine wpAny_stack_any fun st => wpAny_pure ?_
    split
    · rename_i c _ _ _ _ _
      cases (c == Value.type "enumerate")
      · wp_walk using wpAny_pyIter_tuple hL
        exact ⟨_, rfl, h⟩
      · wp_walk using wpAny_pyIter_tuple hL
        exact ⟨_, rfl, h⟩
    · wp_walk using wpAny_pyIter_tuple hL
      exact ⟨_, rfl, h⟩
section
variable {prog : Program} {w : World} {A : Around} {E : Value → Shared → Prop} {s : Shared}
theorem call_enumerate_tup {l : Addr} {items : Array Value} {Q : Value → Shared → Prop} (hL : s.heap.IsTuple l items)
    (h : ∀ h', IsEnum h' (s.heap.objs.size + 1) s.heap.objs.size 0 .none → h'.IsTupleIter s.heap.objs.size l 0 → h'.objs.size = s.heap.objs.size + 2 →
      (∀ b o, s.heap.get? b = some o → h'.get? b = some o) → Q (.ref (s.heap.objs.size + 1)) { s with heap := h' }) :
    wpAny (model prog w) A (call (.type "enumerate") [.ref l]) Q E s := by
  refine callType_new F.called_enumerate (by decide) (F.typeCall_enumerate_1 _) (F.newCall_enumerate_1 _) (fun obj => F.args_object_init_2 obj _) F.entry_enumerate_new
    (meets_enumerate_newT l items) ⟨hL, ?_⟩
  have hz : (s.heap.push { cls := .type "tuple_iterator", data := .fields #[.ref l, .int 0 0] }).objs.size = s.heap.objs.size + 1 := Heap.size_push ..
  show _ ∧ _
  rw [hz]
  have he : IsEnum ((s.heap.push { cls := .type "tuple_iterator", data := .fields #[.ref l, .int 0 0] }).push
      { cls := .type "enumerate", data := .fields #[.none, .bool false, .ref s.heap.objs.size, rawInt 0, .none, .none] }) (s.heap.objs.size + 1) s.heap.objs.size 0 .none := by
    have := Heap.get?_push_size (s.heap.push { cls := .type "tuple_iterator", data := .fields #[.ref l, .int 0 0] })
      (o := { cls := .type "enumerate", data := .fields #[.none, .bool false, .ref s.heap.objs.size, rawInt 0, .none, .none] }) rfl
    rw [hz] at this; exact this
  refine ⟨⟨_, he, rfl⟩, h _ he ⟨_, Heap.get?_push_of_some _ (Heap.get?_push_size _ rfl), rfl, rfl⟩ (by rw [Heap.size_push, hz]) fun b o x => Heap.get?_push_of_some _ (Heap.get?_push_of_some _ x)⟩
end
def IteT (K : PySem.W.Frag) (a : Addr) : It :=
  ⟨fun i H => ∃ (xs : List V) (x : V), SqT K H a xs ∧ xs[i]? = some x,
    fun i H v H' => ∃ T x, v = .ref T ∧ H T = none ∧ H' = upd H T (.tup [.int (i : Nat), x]) ∧ ∀ xs, SqT K H a xs → xs[i]? = some x,
    fun i H => ∃ xs : List V, SqT K H a xs ∧ xs.length = i⟩
theorem turn_enumT {P : Program} {w : World} {K : PySem.W.Frag} {elts : List Expr} {kk : Nat} {tpos : Pos} (a e it : Addr) (hai : a ≠ it) :
    Turn P w K (.Tuple elts kk tpos) (IteT K a) [e, it] e (fun i h => (∃ old, IsEnum h e it ((i : Nat) : Int) old) ∧ h.IsTupleIter it a i ∧ e ≠ it ∧ e ≠ a) where
  mem := by simp
  obj := fun i h st b hb => by
    obtain ⟨⟨old, he⟩, ⟨o, ho, hc, hd⟩, _⟩ := st
    have e' : b = e ∨ b = it := by simpa using hb
    rcases e' with z | z
    · rw [z]; exact ⟨_, he, fun v q => nomatch q⟩
    · rw [z]; exact ⟨o, ho, fun v q => by rw [hd] at q; cases q⟩
  keep := fun i h h' st k => let ⟨⟨old, he⟩, hi, hne⟩ := st; ⟨⟨old, k e (by simp) _ he⟩, hi.at fun o q => k it (by simp) o q, hne⟩
  item := by
    intro X hP hw hK hc i pins s σ H E I hf st hg
    subst hP hw hK
    obtain ⟨⟨old, he⟩, hit, hne, hea⟩ := st
    obtain ⟨xs, x, hq, hx⟩ := hg
    obtain ⟨its, rv, p, hz⟩ := I.tuple hq
    obtain ⟨u, hu, ru⟩ := rv.get hx
    have hel : e < s.heap.objs.size := Heap.lt_size he
    have hil : it < s.heap.objs.size := by obtain ⟨_, q, _⟩ := hit; exact Heap.lt_size q
    have hlen : i < its.toArray.size := by
      have := (List.getElem?_eq_some_iff.mp hu).1
      simpa using this
    have D := Draws.tuple (prog := X.prog) (w := X.w) (A := X.A.in1) (I.ok.hd hc) it a hai its.toArray
    refine wpAny_pyNext_enum_itemD D he ⟨hit, p⟩ hlen hne (by simp [hne, hea]) fun u' h' tk hP ho hst hT hsz hk => ?_
    have hu' : u' = u := by
      have e1 : its.toArray[i]? = some u := by simpa using hu
      rw [e1] at hP
      exact (Option.some.inj hP).symm
    subst hu'
    refine ⟨_, rfl, wpAny_letOwnedTupleGo_enum (s := { s with heap := h', toks := tk + 1 }) ho fun h'' he' sb => ?_⟩
    have hT2 : h''.get? s.heap.objs.size = some { cls := .type "tuple", data := .seq #[.int i tk, u'] } := (sb.2 _ (Nat.ne_of_gt hel)).trans hT
    have new : ObjOk X.prog X.w (upd H s.heap.objs.size (.tup [.int (i : Nat), x])) h'' s.heap.objs.size (.tup [.int (i : Nat), x]) :=
      ⟨by show 2 ≤ sizeLine; decide, [.int i tk, u'], .cons ⟨_, rfl⟩ (.cons ru .nil), ⟨_, hT2, rfl, _, rfl⟩⟩
    have I1 : Inv X pins σ (upd H s.heap.objs.size (.tup [.int (i : Nat), x])) { s with heap := h'', toks := tk + 1 } :=
      I.turnedNew (ch := [e, it]) (fun b ob hb q => (sb.2 b (fun z => hb (by simp [z]))).trans (hk b ob (fun z => hb (by simp [z])) (fun z => hb (by simp [z])) q)) hf (Nat.le_refl _) new
    refine ⟨.ref s.heap.objs.size, _, I1, rfl, ⟨_, x, rfl, I.hok.fresh (Nat.le_refl _), rfl, fun ys hy => by rw [I.tuple_inj hy hq]; exact hx⟩, ⟨⟨u', ?_⟩, hst.1.at fun o q => (sb.2 it (Ne.symm hne)).trans q, hne, hea⟩, fun b hb => ?_⟩
    · have e1 : ((i + 1 : Nat) : Int) = (i : Int) + 1 := by omega
      rw [e1]; exact he'
    · have hb' : b < s.heap.objs.size := by
        have e' : b = e ∨ b = it := by simpa using hb
        rcases e' with z | z
        · rw [z]; exact hel
        · rw [z]; exact hil
      rw [upd_ne (Nat.ne_of_lt hb')]
      exact (hf b hb).1
  done := by
    intro X hP hw hK hc i pins s σ H E I hf st hg
    subst hP hw hK
    obtain ⟨⟨old, he⟩, hit, hne, hea⟩ := st
    obtain ⟨xs, hq, hx⟩ := hg
    obtain ⟨its, rv, p, hz⟩ := I.tuple hq
    obtain ⟨f0, f1, f2, f3, f4, f5⟩ := hf it (by simp)
    have hl := rv.length
    have D := Draws.tuple (prog := X.prog) (w := X.w) (A := X.A.in1) (I.ok.hd hc) it a hai its.toArray
    have hsz : i = its.toArray.size := by
      have : its.toArray.size = its.length := by simp
      omega
    subst hsz
    exact wpAny_pyNext_enum_endD D he ⟨hit, p⟩ fun h' eb => ⟨rfl, I.turned (t' := s.toks) (fun b o hb q => eb b o hb q) f0 f1 f3 f4 f5⟩
  self := fun A i s Q E st h => let ⟨⟨_, he⟩, _⟩ := st; wpAny_pyIter_enum he h
def iEnumT (K : PySem.W.Frag) (ta : TA) : TI := fun σ H R => ta σ H fun vs H1 => ∃ a xs, vs = [.ref a] ∧ SqT K H1 a xs ∧ R (IteT K a) H1
theorem pi_enumT {X : Cx} {e : Expr} {ta : TA} {p pos tpos : Pos} {elts : List Expr} {kk : Nat} (hg : Gl X "enumerate") (hm : X.mg "enumerate" = none) (ha : PA X [e] ta) (hs : starEach [e] X.env = [(false, eval e X.env)] := by rfl) :
    PI X (.Tuple elts kk tpos) (.Call (.Name "enumerate" p) [e] [] pos) (iEnumT X.K ta) := by
  refine ⟨fun pins s σ H R I h => ?_⟩
  refine Call_ (ld_blt I hg hm boot_enumerate (PyProof.Rows.callWith_type1 (thn (ha.run pos pins s σ H _ I h) fun us s1 ⟨vs, H1, I1, r1, q1⟩ => ?_) hs rfl))
  obtain ⟨a, xs, ex, hq, q⟩ := q1
  subst ex
  cases r1 with
  | cons r rr =>
    cases rr
    cases r
    obtain ⟨its, rv, p', hz⟩ := I1.tuple hq
    have hal : a < s1.heap.objs.size := by obtain ⟨_, q, _⟩ := id p'; exact Heap.lt_size q
    refine call_enumerate_tup p' fun h' he hit hsz hk => wpAny_pyIter_enum he ?_
    have I2 : Inv X pins σ H1 { s1 with heap := h' } := I1.kept (t' := s1.toks) hk
    refine ⟨s1.heap.objs.size + 1, [s1.heap.objs.size + 1, s1.heap.objs.size], _, _, H1, rfl, I2, turn_enumT a (s1.heap.objs.size + 1) s1.heap.objs.size (Nat.ne_of_lt hal), ⟨⟨.none, he⟩, hit, Nat.succ_ne_self _, Nat.ne_of_gt (Nat.lt_succ_of_lt hal)⟩, fun b hb => ?_, q⟩
    have e' : b = s1.heap.objs.size + 1 ∨ b = s1.heap.objs.size := by simpa using hb
    have hle : s1.heap.objs.size ≤ b := by
      rcases e' with z | z
      · rw [z]; exact Nat.le_add_right _ _
      · rw [z]; exact Nat.le_refl _
    exact I1.fpOk hle (I1.hok.fresh hle)
theorem walk_enumT {K : PySem.W.Frag} {a : Addr} {xs : List V} : Walk (IteT K a) xs.length (fun H => SqT K H a xs) (YPair (fun i => some (.int (i : Nat))) (fun i => xs[i]?)) := by
  refine ⟨fun i _ hi q => ⟨xs, xs[i], q, by simp [hi]⟩, fun _ q => ⟨xs, q, rfl⟩, fun i H v H' _ q y => ?_⟩
  obtain ⟨T, x, h1, h2, h3, h4⟩ := y
  exact ⟨T, .int (i : Nat), x, h1, h2, h3, rfl, h4 xs q⟩
section
variable {prog : Program} {w : World} {A : Around} {E : Value → Shared → Prop} {s : Shared}
theorem sum_rawT {l : Addr} {its : List Value} {ns : List Int} {Q : Value → Shared → Prop} (hh : A.handled = none) (hl : s.heap.IsTuple l its.toArray) (hi : IntsAre its ns)
    (h : ∀ h' tk t', (∀ b o, s.heap.get? b = some o → h'.get? b = some o) → Q (.int ns.sum t') { s with heap := h', toks := tk }) : wpAny (model prog w) A (call (.builtin "sum") [.ref l]) Q E s := by
  obtain ⟨xs, e⟩ := hi.allInts.items
  have hn : numsOf (intItems xs).toList = ns := by rw [← e]; exact hi.numsOf
  rw [nums_intItems] at hn
  rw [e] at hl
  have hal : l < s.heap.objs.size := by obtain ⟨_, q, _⟩ := id hl; exact Heap.lt_size q
  refine call_sum_walkG (wpAny_pyIter_tuple hl ?_)
  refine ⟨_, _, _, _, _, _, numAt xs, rfl, Walks.tuple (A := A.in1) hh s.heap.objs.size l (Nat.ne_of_lt hal) (intItems xs), ⟨⟨_, Heap.get?_push_size _ rfl, rfl, rfl⟩, hl.push _⟩, fun b hb => ?_, (fun _ _ => intItems_at), fun h' tk t' hk => ?_⟩
  · show b < (s.heap.push _).objs.size
    rw [Heap.size_push]
    have e' : b = s.heap.objs.size ∨ b = l := by simpa using hb
    rcases e' with z | z
    · rw [z]; exact Nat.lt_succ_self _
    · rw [z]; exact Nat.lt_succ_of_lt hal
  · have := h h' tk t' fun b o q => hk b o (by simp; exact Nat.ne_of_lt (Heap.lt_size q)) (Heap.get?_push_of_some _ q)
    rw [preSum_eq, List.take_of_length_le (by simp [intItems]), hn]; exact this
end
section
variable {X : Cx}
def rSumT (K : PySem.W.Frag) : List V → Hp → VK → Prop := fun vs H Q => ∃ (a : Addr) (ns : List Int), vs = [V.ref a] ∧ SqT K H a (ns.map V.int) ∧ Q (.int ns.sum) H
theorem cr_sumT (hc : X.calm = true) : CallR X (.builtin "sum") (rSumT X.K) := by
  intro pins s σ H vs us Q I r h
  obtain ⟨a, ns, rfl, hs, q⟩ := h
  obtain ⟨its, rv, hl, _⟩ := I.tuple hs
  rw [Vals.ref1 r]
  exact sum_rawT (I.ok.hd hc) hl rv.ints fun h' tk t' hk => ⟨.int _, H, I.kept hk, ⟨_, rfl⟩, q⟩
theorem vals3 {x y z : V} {us : List Value} (r : Vals [x, y, z] us) : ∃ u v w, us = [u, v, w] ∧ RelV x u ∧ RelV y v ∧ RelV z w := by
  cases r with
  | cons r1 r => cases r with
    | cons r2 r => cases r with
      | cons r3 r => cases r; exact ⟨_, _, _, rfl, r1, r2, r3⟩
theorem call_max3 (hc : X.calm = true) : CallR X (.builtin "max") (fun xs H Q => ∃ i j k, xs = [.int i, .int j, .int k] ∧ Q (.int (max (max i j) k)) H) := by
  intro pins s σ H xs us Q I r h
  obtain ⟨i, j, k, rfl, q⟩ := h
  obtain ⟨u, v, w', rfl, ⟨t, rfl⟩, ⟨t', rfl⟩, ⟨t2, rfl⟩⟩ := vals3 r
  refine max_three_ints (I.ok.hd hc) fun h' tk kp => ⟨_, H, I.kept kp, ?_, q⟩
  by_cases h1 : j > i
  · by_cases h2 : k > j
    · rw [if_pos h1, if_pos h2]; exact ⟨_, by rw [show max (max i j) k = k by omega]⟩
    · rw [if_pos h1, if_neg h2]; exact ⟨_, by rw [show max (max i j) k = j by omega]⟩
  · by_cases h2 : k > i
    · rw [if_neg h1, if_pos h2]; exact ⟨_, by rw [show max (max i j) k = k by omega]⟩
    · rw [if_neg h1, if_neg h2]; exact ⟨_, by rw [show max (max i j) k = i by omega]⟩
theorem call_maxM (hc : X.calm = true) : CallR X (.builtin "max") (fun xs H Q => ∃ i j, xs = [.int i, .int j] ∧ Q (.int (max i j)) H) := by
  intro pins s σ H xs us Q I r h
  obtain ⟨i, j, e, q⟩ := h
  refine call_max2 hc pins s σ H xs us Q I r ⟨i, j, e, ?_⟩
  rw [show (if j > i then j else i) = max i j by split <;> omega]
  exact q
theorem call_minM (hc : X.calm = true) : CallR X (.builtin "min") (fun xs H Q => ∃ i j, xs = [.int i, .int j] ∧ Q (.int (min i j)) H) := by
  intro pins s σ H xs us Q I r h
  obtain ⟨i, j, e, q⟩ := h
  refine call_min2 hc pins s σ H xs us Q I r ⟨i, j, e, ?_⟩
  rw [show (if j < i then j else i) = min i j by split <;> omega]
  exact q
def encT (b : Addr × List Int) : PyData := .tuple (b.2.map .int)
theorem reads_ints {h : Heap} : ∀ {us : List Value} {ns : List Int}, IntsAre us ns → ReadsAll h us (ns.map .int) []
  | _, _, .nil => .nil
  | _, _, .cons n t r => .cons (as := []) (bs := []) (.int n t) (reads_ints r)
def rSortedTI (K : PySem.W.Frag) : List V → Hp → VK → Prop := fun vs H Q => ∃ (a : Addr) (ps : List (Addr × List Int)), vs = [V.ref a] ∧ SqL K H a (ps.map fun p => V.ref p.1) ∧ (∀ p ∈ ps, p.2 ≠ [] ∧ H p.1 = some (.tup (p.2.map V.int))) ∧
  ∀ (qs : List (Addr × List Int)) (d : Addr), qs.Perm ps → qs.Pairwise (fun x y => ¬ y.2 < x.2) → H d = none → Q (.ref d) (upd H d (.lst (qs.map fun q => V.ref q.1)))
theorem vals_refs_eq : ∀ {ps : List (Addr × List Int)} {us : List Value}, Vals (ps.map fun p => V.ref p.1) us → us = ps.map fun p => Value.ref p.1
  | [], us, h => by cases h; rfl
  | p :: ps, us, h => by
    cases h with
    | cons r t => cases r; rw [vals_refs_eq t]; rfl
theorem vals_refs_of : ∀ (ps : List (Addr × List Int)), Vals (ps.map fun p => V.ref p.1) (ps.map fun p => Value.ref p.1)
  | [] => .nil
  | p :: ps => .cons rfl (vals_refs_of ps)
theorem each_refs : ∀ (ps : List (Addr × List Int)), PySem.W.EachIs (fun v (b : Addr × List Int) => v = Value.ref b.1) (ps.map fun p => Value.ref p.1) ps
  | [] => .nil
  | p :: ps => .cons rfl (each_refs ps)
theorem of_each : ∀ {out : List Value} {ps : List (Addr × List Int)}, PySem.W.EachIs (fun v (b : Addr × List Int) => v = Value.ref b.1) out ps → out = ps.map fun p => Value.ref p.1
  | _, _, .nil => rfl
  | _, _, .cons e t => by rw [e, of_each t]; rfl
theorem each_reads {h : Heap} : ∀ {ps : List (Addr × List Int)}, (∀ p ∈ ps, ∃ as, Reads h (.ref p.1) (encT p) as) → PySem.W.EachIs (fun v b => ∃ as, Reads h v (encT b) as) (ps.map fun p => Value.ref p.1) ps
  | [], _ => .nil
  | p :: ps, h => .cons (h p List.mem_cons_self) (each_reads fun q hq => h q (List.mem_cons_of_mem _ hq))
theorem cr_sortedTI (hu : X.A.units + 64 < cLine) : CallR X (.builtin "sorted") (rSortedTI X.K) := by
  intro pins s σ H vs us Q I r h
  obtain ⟨a, ps, rfl, hs, hp, q⟩ := h
  obtain ⟨its, rv, hl, hz⟩ := I.list hs
  rw [Vals.ref1 r]
  obtain rfl := vals_refs_eq rv
  have hlen : ps.length ≤ sizeLine := by rw [List.length_map] at hz; exact hz
  have hr : ∀ p ∈ ps, ∃ as, Reads s.heap (.ref p.1) (encT p) as := fun p m => by
    obtain ⟨_, e⟩ := hp p m
    obtain ⟨_, its2, r2, o, ho, hc, n, hd⟩ := I.hok _ _ e
    exact ⟨[], .tuple ho hc hd (reads_ints r2.ints)⟩
  refine PySem.W.sorted_data hl.isList (each_refs ps) (each_reads hr) (fun d hd d' hd' => ?_) (.inl fun d hd => ?_) hlen (fun b _ => ?_) fun out ho eo => ?_
  · obtain ⟨b, _, rfl⟩ := List.mem_map.mp hd
    obtain ⟨b', _, rfl⟩ := List.mem_map.mp hd'
    show PySem.W.alike (.tuple (b.2.map .int)) (.tuple (b'.2.map .int)) = true
    rw [PySem.W.alike]
    exact PySem.W.alike_ints _ _
  · obtain ⟨b, hb, rfl⟩ := List.mem_map.mp hd
    obtain ⟨hne, _⟩ := hp b hb
    cases e : b.2 with
    | nil => exact absurd e hne
    | cons x l => exact ⟨.int x, l.map .int, by unfold encT; rw [e, List.map_cons]⟩
  · have : (encT b).depth ≤ 1 := by
      unfold encT
      rw [PyData.depth, PySem.W.depth_ints]
      omega
    omega
  · rw [of_each eo]
    obtain ⟨ep, he'⟩ := PyProof.Rows.sortedAll_at s.heap (ps.map fun p => Value.ref p.1) ((ps.mergeSort (PySem.W.dataLe false encT)).map fun p => Value.ref p.1).toArray
    have hperm : (ps.mergeSort (PySem.W.dataLe false encT)).Perm ps := List.mergeSort_perm _ _
    refine ⟨.ref _, upd H (s.heap.objs.size + 1) (.lst ((ps.mergeSort (PySem.W.dataLe false encT)).map fun p => V.ref p.1)), I.laid (t' := s.toks) (fun _ _ => PyProof.Rows.sortedAll_old) (Nat.le_succ _) ⟨?_, _, ep, vals_refs_of _, he'⟩, rfl, q _ _ hperm ?_ (I.hok.fresh (Nat.le_succ _))⟩
    · rw [List.length_map, hperm.length_eq]; exact hlen
    · have T : PySem.W.TotalLe (PySem.W.dataLe false encT) := PySem.W.sortLe_total _ _ _
      have hs := List.pairwise_mergeSort (le := PySem.W.dataLe false encT) T.trans (fun a b => by
        rcases T.total a b with h | h
        · rw [h, Bool.true_or]
        · rw [h, Bool.or_true]) ps
      refine hs.imp fun {x y} h => ?_
      have h' : (!PySem.W.dataLt (encT y) (encT x)) = true := h
      unfold encT at h'
      rw [PySem.W.dataLt_tuple] at h'
      have h2 : (!PySem.W.rowLt (y.2.map .int) (x.2.map .int)) = true := h'
      rw [PySem.W.dataLt_ints] at h2
      simpa using h2
end
section
open PySem.W
variable {prog : Program} {w : World} {A : Around} {E : Value → Shared → Prop} {s : Shared} {K : Frag} {x C L f : Addr} {h₀ : Heap} {m : Str → Option Value} {ox : Obj} {od : Option Obj} {b tb : Value}
theorem objNe_K {Q : Fin → Shared → Prop} (X : K.In s.heap) (I : InstAt s.heap x ox C od) (hs : findIn K (.ref C) "__eq__" = some (some (.ref f))) (hf : isFn K (.ref f) = true) (hu : A.units < cLine)
    (hcall : wpAny (model prog w) A (call (.ref f) [.ref x, b]) (fun v s' => ∃ r, v = .bool r ∧ Q (.done (.ret (.bool (!r)))) s') E s) :
    wpAny (model prog w) A (Builtin.«object.__ne__» ⟨[.ref x, b], []⟩) Q E s := by
  unfold Builtin.«object.__ne__»
  repeat (first
    | with_reducible refine wpAny_cRoomFor hu ?_
    | (refine wpAny_bind (m := callSpecialIfBound? (.ref x) (Str.ofString "__eq__") [b])
        (ifBound_K X I hs hf (wpAny_mono hcall (fun r s' hr => by
          obtain ⟨b, rfl, hq⟩ := hr
          repeat (first | exact hq | exact wpAny_pure hq | exact wpAny_truthy_bool hq | (refine wpAny_bind (m := truthy (.bool _)) (wpAny_truthy_bool ?_)) | wp_step)) fun _ _ e => e)))
    | wp_step)
theorem ifBoundB_K {M : Model} {args : List Value} {name : Str} {id : String} {T : String} {Q : Option Value → Shared → Prop} (X : K.In s.heap) (I : InstAt s.heap x ox C od) (hs : findIn K (.ref C) name = some (some (.builtin id))) (S : Slot T name id)
    (h : wpAny M A (call (.builtin id) (.ref x :: args)) (fun v => Q (some v)) E s) : wpAny M A (callSpecialIfBound? (.ref x) name args) Q E s := by
  simp only [callSpecialIfBound?, bindSpecialIfBound?]
  refine wpAny_holding (wpAny_bind (wpAny_bind (wpAny_bind (I.type.here ((looks_findIn X hs).here ?_)))))
  simp only [S.bind]
  refine wpAny_bind (wpAny_askSetting (wpAny_ite ?_))
  have fin : wpAny M A (call (.builtin id) ([.ref x] ++ args) >>= fun v => pure (some v)) Q E s := wpAny_bind (wpAny_mono h (fun v s' h' => wpAny_pure h') fun _ _ h' => h')
  split
  · exact wpAny_bind (wpAny_pure (wpAny_pure fin))
  · exact wpAny_tryCatch (wpAny_bind (wpAny_pure (wpAny_pure fin)))
theorem ne_K {Q : Value → Shared → Prop} (hu : A.units + 1 < cLine) (F : Fr h₀ L s.heap m) (X₀ : K.In h₀) (I : InstAt s.heap x ox C od) (hb : Looks (model prog w) s.heap (typeOf b) tb) (hn : notFirst K C tb = true)
    (hne : findIn K (.ref C) "__ne__" = some (some (.builtin "object.__ne__"))) (hs : findIn K (.ref C) "__eq__" = some (some (.ref f))) (hf : isFn K (.ref f) = true) (hm : mroIn K C (.type "object") = some true)
    (h : wpAny (model prog w) A.in1 (call (.ref f) [.ref x, b]) (fun v s' => ∃ r, v = .bool r ∧ Q (.bool (!r)) s') E s) : wpAny (model prog w) A (richCompare .NotEq (.ref x) b) Q E s := by
  have X := X₀.keeps F.keep
  have hi : Looks (model prog w) s.heap (isInstance (.ref x) (.type "object")) true := I.type.andThen (looks_mroIn X hm)
  have one : wpAny (model prog w) A (tryCompare (.ref x) (cmpInfo .NotEq).2.1 b) (fun r s' => ∃ v, r = some v ∧ Q v s') E s := by
    unfold tryCompare
    refine wpAny_bind (ifBoundB_K X I hne PySem.F.cmp_object.ne (wpAny_call (codeAny_call_builtin PySem.F.cmp_object.ne.plain PySem.F.cmpEntry_ne
      (check_slot PySem.F.cmpKind_ne PySem.F.cmpSplit_ne hi (PySem.F.cmpArgs_ne _ _) (objNe_K (A := A.in1) X I hs hf hu (wpAny_mono h (fun v s' hv => ?_) fun _ _ e => e))))))
    obtain ⟨r, rfl, hq⟩ := hv
    exact ⟨r, rfl, wpAny_pure ⟨_, rfl, hq⟩⟩
  unfold richCompare
  simp only [oneThing_ref]
  refine wpAny_holding (wpAny_bind (wpAny_cRoomFor (Nat.lt_of_succ_lt hu) ?_))
  refine wpAny_bind (I.type.here (wpAny_bind (hb.here ?_)))
  split
  · rename_i q
    have e : subIn K tb (.ref C) = some false := by
      rcases Bool.or_eq_true_iff.mp hn with e | e
      · rw [beq_iff_eq.mp e] at q; simp at q
      · exact beq_iff_eq.mp e
    refine wpAny_bind ((looks_subIn X e).here ?_)
    simp only [Bool.false_eq_true, if_false]
    refine wpAny_bind (wpAny_mono one (fun r s' z => ?_) fun _ _ e => e)
    obtain ⟨v, rfl, hq⟩ := z
    exact wpAny_pure hq
  · refine wpAny_bind (wpAny_pure ?_)
    simp only [Bool.false_eq_true, if_false]
    refine wpAny_bind (wpAny_mono one (fun r s' z => ?_) fun _ _ e => e)
    obtain ⟨v, rfl, hq⟩ := z
    exact wpAny_pure hq
end
structure NeC (K : PySem.W.Frag) (C D f : Addr) : Prop where
  ne : PySem.W.findIn K (.ref C) "__ne__" = some (some (.builtin "object.__ne__"))
  eq : PySem.W.findIn K (.ref C) "__eq__" = some (some (.ref f))
  fn : PySem.W.isFn K (.ref f) = true
  ob : PySem.W.mroIn K C (.type "object") = some true
  nf : PySem.W.notFirst K C (.ref D) = true
section
variable {X : Cx} {n : Nat}
def rNeG (C D : Addr) (R : Addr → Addr → Hp → Prop) : R2 := fun x y H Q => ∃ a b dx dy fs gs, x = .ref a ∧ y = .ref b ∧ H a = some (.ins C dx fs) ∧ H b = some (.ins D dy gs) ∧ R a b H ∧ ∀ H', Ext H H' → Q (.bl false) H'
theorem op_neG {CX : CXT} {C D f : Addr} {fd : FuncData} {ps : List Str} {R : Addr → Addr → Hp → Prop} {E : XK} (F : FnOk X.prog X.w X.K X.mg X.base CX n f fd ps (spEq R))
    (N : NeC X.K C D f) (hb : Binds X.K fd ps []) (hx : Passes CX X E) (hr : Room (n + 1) X.A) : OpR X (compareOp .NotEq) (rNeG C D R) := by
  intro pins s σ H x y v u Q I rx ry hq
  obtain ⟨a, b, dx, dy, fs, gs, rfl, rfl, ha, hb', hR, q⟩ := hq
  cases rx
  cases ry
  show wpAny (model X.prog X.w) X.A (richCompare .NotEq (.ref a) (.ref b)) (EP X pins σ Q) X.xe s
  have sb : Sub X (n + 1) X.A := ⟨hr, rfl⟩
  obtain ⟨mA, J, _⟩ := ins_get I.hok ha
  obtain ⟨mB, J', _⟩ := ins_get I.hok hb'
  obtain ⟨od, J, _⟩ := J.look
  obtain ⟨od', J', _⟩ := J'.look
  obtain ⟨m, hF⟩ := I.fr
  refine ne_K (tb := .ref D) (hu_of hr) hF I.ok.mod.kin J J'.type N.nf N.ne N.eq N.fn N.ob ?_
  have hsp : spEq R [.ref a, .ref b] H (fun v H' => v = .bl true ∧ Ext H H') E := ⟨a, b, rfl, hR, fun H' e => ⟨rfl, e⟩⟩
  have e0 : Env0 X.prog X.w X.K X.mg X.base X.A.in1 X.stack s H := by
    have e := I.env0
    exact ⟨e.frames, e.mod, e.bs, e.bsz, e.funs, e.frf, e.hok, e.bare⟩
  have hl := F.len _ _ _ _ hsp
  have r2 : Vals [V.ref a, V.ref b] [Value.ref a, Value.ref b] := .cons rfl (.cons rfl .nil)
  refine wpAny_call (codeAny_mono (F.run X.A.in1 X.stack s H ⟨[.ref a, .ref b], []⟩ [.ref a, .ref b] [.ref a, .ref b] _ E hr.in1 e0 (by
    have := hb s [.ref a, .ref b] I.kIn (by simpa using hl)
    simpa using this) r2 hsp) fun r s' hq => ?_)
  cases r with
  | error e => exact hx pins σ H s e s' I hq
  | ok fl =>
    cases fl with
    | ret w =>
      obtain ⟨z, H', I', rz, ez, ex⟩ := I.after hq
      subst ez
      cases rz
      exact ⟨true, rfl, .bl false, H', I', rfl, q H' ex⟩
    | next => exact False.elim hq
    | brk => exact False.elim hq
    | cont => exact False.elim hq
end
end Wr
namespace Wl
open PySem L2 Wr
def top (i : Nat) : Stmt := PySem.Challenge.pw_willinglift_k55_whole_wishes_in_order_an.main.body.getD i (.Pass ⟨0, 0, 0, 0⟩)
structure Dn (P : Program) (w : World) (K : PySem.W.Frag) (mg : Str → Option Value) (base : Heap) (x : Str) (k : Nat) (ps : List Str) (sp : Sp) where
  f : Addr
  fd : FuncData
  ok : FnOk P w K mg base CX0 k f fd ps sp
  bd : Binds K fd ps []
  at_ : mg x = some (.ref f)
  kp : PySem.W.keepIn K (.ref f) = true
structure Kl (K : PySem.W.Frag) (C : Addr) : Prop where
  cl : Cls K C
  ha : PySem.W.findIn K (.ref C) "__class__" = some (some (.builtin "object.__class__"))
  hn : PySem.W.specialIn K (.builtin "object.__class__") "__get__" = some (some (.builtin "getset_descriptor.__get__"))
  htk : PySem.W.takesIn K (.builtin "object.__class__") = some true
  hm : PySem.W.mroIn K C (.type "object") = some true
structure Gb (mg : Str → Option Value) : Prop where
  isinstance : mg "isinstance" = none
  int : mg "int" = none
  bool : mg "bool" = none
  tuple : mg "tuple" = none
  len : mg "len" = none
  all : mg "all" = none
  any : mg "any" = none
  zip : mg "zip" = none
  sorted : mg "sorted" = none
  max : mg "max" = none
  min : mg "min" = none
  list : mg "list" = none
  range : mg "range" = none
  sum : mg "sum" = none
  enumerate : mg "enumerate" = none
  mFloors : ∃ t, mg "MOST_FLOORS" = some (.int 40 t)
  mGroups : ∃ t, mg "MOST_GROUPS" = some (.int 400 t)
  mRoom : ∃ t, mg "MOST_ROOM" = some (.int (10 ^ 12) t)
  mPeople : ∃ t, mg "MOST_PEOPLE" = some (.int (10 ^ 30) t)
  mCount : ∃ t, mg "MOST_COUNT" = some (.int (10 ^ 30) t)
structure Tx (K : PySem.W.Frag) (mg : Str → Option Value) (CH CS CR : Addr) : Prop extends Gb mg where
  kH : Kl K CH
  kS : Kl K CS
  kR : Kl K CR
  nHf : NoAttr K CH "floors"
  nHr : NoAttr K CH "room"
  nSh : NoAttr K CS "house"
  nSl : NoAttr K CS "lift"
  nSg : NoAttr K CS "groups"
  nRh : NoAttr K CR "house"
  nRl : NoAttr K CR "lift"
  nRg : NoAttr K CR "groups"
  mgH : mg "House" = some (.ref CH)
  mgS : mg "Standing" = some (.ref CS)
  mgR : mg "RawStanding" = some (.ref CR)
  iHH : PySem.W.kitOne K (.ref CH) (.ref CH) = some true
  iSS : PySem.W.kitOne K (.ref CS) (.ref CS) = some true
  iRS : PySem.W.kitOne K (.ref CR) (.ref CS) = some true
def hf (n r : Int) : List (Str × V) := putF "room" (.int r) (putF "floors" (.int n) [])
theorem kfr : ¬ (("floors" : Str) = "room") := by decide +kernel
theorem hf_floors (n r : Int) : (hf n r).lookup ("floors" : Str) = some (.int n) := by
  unfold hf; rw [lookup_putF, if_neg kfr, lookup_putF, if_pos rfl]
theorem hf_room (n r : Int) : (hf n r).lookup ("room" : Str) = some (.int r) := by
  unfold hf; rw [lookup_putF, if_pos rfl]
def HouseAt (C : Addr) (H : Hp) (a : Addr) (n r : Int) : Prop := ∃ dx, H a = some (.ins C dx (hf n r))
theorem HouseAt.same {C a : Addr} {H H' : Hp} {n r : Int} (h : HouseAt C H a n r) (s : Same H H') : HouseAt C H' a n r := let ⟨dx, e⟩ := h; ⟨dx, s _ _ e⟩
def g3 (g : Grp) : List V := [.int g.1, .int g.2.1, .int g.2.2]
def GAt (H : Hp) (t : Addr) (gs : List Grp) : Prop := ∃ ps : List (Addr × Grp), H t = some (.tup (ps.map fun p => V.ref p.1)) ∧ (∀ p ∈ ps, H p.1 = some (.tup (g3 p.2))) ∧ ps.map (·.2) = gs
theorem GAt.same {H H' : Hp} {t : Addr} {gs : List Grp} (h : GAt H t gs) (s : Same H H') : GAt H' t gs := let ⟨ps, a, b, c⟩ := h; ⟨ps, s _ _ a, fun p m => s _ _ (b p m), c⟩
def TAt (H : Hp) (t : Addr) (ns : List Int) : Prop := H t = some (.tup (ns.map V.int))
theorem TAt.same {H H' : Hp} {t : Addr} {ns : List Int} (h : TAt H t ns) (s : Same H H') : TAt H' t ns := s _ _ h
def Gok (n : Int) (g : Grp) : Prop := 0 ≤ g.1 ∧ g.1 ≤ n - 1 ∧ 0 ≤ g.2.1 ∧ g.2.1 ≤ n - 1 ∧ 1 ≤ g.2.2 ∧ g.2.2 ≤ 10 ^ 30
theorem ext_of {H H' : Hp} (s : Same H H') : Ext H H' := s
theorem same_upd {H : Hp} {p : Addr} {o : HO} (h : H p = none) : Same H (upd H p o) := fun b u e => by rw [upd_ne (ne_of_none e h)]; exact e
theorem blT {Q : VK} {p : Prop} [Decidable p] {H : Hp} (h : p) (k : Q (.bl true) H) : Q (.bl (decide p)) H := by
  rw [decide_eq_true h]; exact k
theorem eT {p : Prop} [Decidable p] (h : p) : V.bl (decide p) = V.bl true := congrArg V.bl (decide_eq_true h)
theorem eF {p : Prop} [Decidable p] (h : ¬ p) : V.bl (decide p) = V.bl false := congrArg V.bl (decide_eq_false h)
theorem eNT {p : Prop} [Decidable p] (h : ¬ p) : V.bl (!decide p) = V.bl true := congrArg V.bl (by rw [decide_eq_false h]; rfl)
theorem eNF {p : Prop} [Decidable p] (h : p) : V.bl (!decide p) = V.bl false := congrArg V.bl (by rw [decide_eq_true h]; rfl)
section
variable {P : Program} {w : World} {K : PySem.W.Frag} {mg : Str → Option Value} {base : Heap} {CH CS CR : Addr}
abbrev sInt : Stmt := top 10
theorem scInt : FnScope ["thing"] ["thing"] (defScope sInt) := ⟨rfl, rfl, rfl, by decide +kernel, rfl, by decide +kernel, by decide +kernel⟩
def spInt : Sp := fun vs H Q _ => ∃ i : Int, vs = [.int i] ∧ Q (.bl true) H
theorem ok_int {f : Addr} {fd : FuncData} (F : Fun K "is_integer" "is_integer" sInt f fd) (T : Gb mg) : FnOk P w K mg base CX0 1 f fd ["thing"] spInt := by
  refine F.ok scInt (fun vs H Q E h => ?_) (fun cdv A outer s H vs Q E hr h => ?_)
  · obtain ⟨i, rfl, _⟩ := h
    rfl
  · obtain ⟨i, rfl, k⟩ := h
    refine ⟨_, pss_one (ps_ret (pe_and (pe_callB call_isi (by rfl) T.isinstance (by decide +kernel) (pa_cons (pv 0) (pa_cons (pe_bltn (v := .ty "int") (by rfl) T.int (by decide +kernel) rfl) pa_nil)))
      (pe_one (pe_not (pe_callB call_isi (by rfl) T.isinstance (by decide +kernel) (pa_cons (pv 0) (pa_cons (pe_bltn (v := .ty "bool") (by rfl) T.bool (by decide +kernel) rfl) pa_nil))))))), ?_⟩
    refine ⟨_, rfl, .int i, .ty "int", _, _, true, rfl, .ty "int", .base (.int i), kit_ty (by decide +kernel), true, rfl, iteT ?_⟩
    refine ⟨_, rfl, .int i, .ty "bool", _, _, false, rfl, .ty "bool", .base (.int i), kit_ty (by decide +kernel), false, rfl, ?_⟩
    exact k
abbrev sWith : Stmt := top 11
theorem scWith : FnScope ["thing", "least", "most"] ["thing", "least", "most"] (defScope sWith) := ⟨rfl, rfl, rfl, by decide +kernel, rfl, by decide +kernel, by decide +kernel⟩
def spWith : Sp := fun vs H Q _ => ∃ i lo hi : Int, vs = [.int i, .int lo, .int hi] ∧ lo ≤ i ∧ i ≤ hi ∧ Q (.bl true) H
theorem ok_with {f : Addr} {fd : FuncData} (F : Fun K "is_within" "is_within" sWith f fd) (DI : Dn P w K mg base "is_integer" 1 ["thing"] spInt) : FnOk P w K mg base CX0 2 f fd ["thing", "least", "most"] spWith := by
  refine F.ok scWith (fun vs H Q E h => ?_) (fun cdv A outer s H vs Q E hr h => ?_)
  · obtain ⟨i, lo, hi, rfl, _⟩ := h
    rfl
  · obtain ⟨i, lo, hi, rfl, h1, h2, k⟩ := h
    refine ⟨_, pss_one (ps_ret (pe_and (pe_call DI.ok hr (by rfl) DI.at_ DI.kp DI.bd .nil pass0 (pa_cons (pv 0) pa_nil)) (pe_one (pe_chain op_le op_le (pv 1) (pv 0) (pv 2))))), ?_⟩
    refine ⟨_, rfl, i, rfl, true, rfl, iteT ?_⟩
    refine ⟨_, rfl, _, rfl, _, _, rfl, rfl, true, eT h1, iteT ?_⟩
    refine ⟨_, rfl, _, _, rfl, rfl, ?_⟩
    exact blT (Q := Q) h2 k
abbrev sHi : Stmt := inClass (top 12) 0
abbrev sHe : Stmt := inClass (top 12) 1
theorem scHi : FnScope ["self", "floors", "room"] ["self", "floors", "room"] (defScope sHi) := ⟨rfl, rfl, rfl, by decide +kernel, rfl, by decide +kernel, by decide +kernel⟩
def spHi (CH : Addr) : Sp := fun vs H Q _ => ∃ (p dx : Addr) (n r : Int), vs = [.ref p, .int n, .int r] ∧ H p = some (.ins CH dx []) ∧ 2 ≤ n ∧ n ≤ 40 ∧ 1 ≤ r ∧ r ≤ 10 ^ 12 ∧ Q .non (upd H p (.ins CH dx (hf n r)))
theorem ok_hi {f : Addr} {fd : FuncData} (F : Fun K "__init__" "House.__init__" sHi f fd) (T : Tx K mg CH CS CR) (DW : Dn P w K mg base "is_within" 2 ["thing", "least", "most"] spWith) : FnOk P w K mg base CX0 3 f fd ["self", "floors", "room"] (spHi CH) := by
  refine F.ok scHi (fun vs H Q E h => ?_) (fun cdv A outer s H vs Q E hr h => ?_)
  · obtain ⟨p, dx, n, r, rfl, _⟩ := h
    rfl
  · obtain ⟨p, dx, n, r, rfl, hp, h1, h2, h3, h4, k⟩ := h
    obtain ⟨t1, hF⟩ := T.mFloors
    obtain ⟨t2, hR⟩ := T.mRoom
    refine ⟨_, pss_cons (ps_if (pt_not (pt_val (pe_call DW.ok hr (by rfl) DW.at_ DW.kp DW.bd .nil pass0 (pa_cons (pv 1) (pa_cons pe_int (pa_cons (pe_glob (v := .int 40) (by rfl) hF ⟨_, rfl⟩) pa_nil)))))) (pss_one ps_never) pss_nil)
      (pss_cons (ps_if (pt_not (pt_val (pe_call DW.ok hr (by rfl) DW.at_ DW.kp DW.bd .nil pass0 (pa_cons (pv 2) (pa_cons pe_int (pa_cons (pe_glob (v := .int (10 ^ 12)) (by rfl) hR ⟨_, rfl⟩) pa_nil)))))) (pss_one ps_never) pss_nil)
      (pss_cons (ps_fld (pv 0) (pv 1) rfl) (pss_one (ps_fld (pv 0) (pv 2) rfl)))), ?_⟩
    refine ⟨_, rfl, n, 2, 40, rfl, h1, h2, true, rfl, iteF ?_⟩
    refine ⟨_, rfl, r, 1, 10 ^ 12, rfl, h3, h4, true, rfl, iteF ?_⟩
    refine ⟨_, rfl, _, rfl, p, CH, dx, [], rfl, hp, T.kH.cl, T.nHf, (by show 0 < 1000; decide), _, rfl, _, rfl, p, CH, dx, _, rfl, upd_same, T.kH.cl, T.nHr, (by show 1 < 1000; decide), ?_⟩
    rw [upd_upd]
    exact k
theorem scHe : FnScope ["self", "other"] ["self", "other"] (defScope sHe) := ⟨rfl, rfl, rfl, by decide +kernel, rfl, by decide +kernel, by decide +kernel⟩
def HEq (CH : Addr) (a b : Addr) (H : Hp) : Prop := ∃ n r, HouseAt CH H a n r ∧ HouseAt CH H b n r
theorem ok_he {f : Addr} {fd : FuncData} (F : Fun K "__eq__" "House.__eq__" sHe f fd) (T : Tx K mg CH CS CR) : FnOk P w K mg base CX0 1 f fd ["self", "other"] (spEq (HEq CH)) := by
  refine F.ok scHe (fun vs H Q E h => ?_) (fun cdv A outer s H vs Q E hr h => ?_)
  · obtain ⟨a, b, rfl, _⟩ := h
    rfl
  · obtain ⟨a, b, rfl, ⟨n, r, ⟨dx, ha⟩, ⟨dy, hb⟩⟩, k⟩ := h
    refine ⟨_, pss_one (ps_ret (pe_and (pe_callB call_isi (by rfl) T.isinstance (by decide +kernel) (pa_cons (pv 1) (pa_cons (pe_glob (v := .ref CH) (by rfl) T.mgH rfl) pa_nil)))
      (pe_and (pe_cmpR op_eq (pe_fld (pv 0) rfl) (pe_fld (pv 1) rfl) (nomark _)) (pe_one (pe_cmpR op_eq (pe_fld (pv 0) rfl) (pe_fld (pv 1) rfl) (nomark _)))))), ?_⟩
    refine ⟨_, rfl, .ref b, .ref CH, _, _, true, rfl, .own CH, .base (.ins hb T.kH.cl T.kH.ha T.kH.hn T.kH.htk T.kH.hm), T.iHH, true, rfl, iteT ?_⟩
    refine ⟨_, rfl, a, CH, dx, _, _, rfl, ha, T.kH.cl, T.nHf, hf_floors _ _, _, rfl, b, CH, dy, _, _, rfl, hb, T.kH.cl, T.nHf, hf_floors _ _, rfl, true, eT rfl, iteT ?_⟩
    refine ⟨_, rfl, a, CH, dx, _, _, rfl, ha, T.kH.cl, T.nHr, hf_room _ _, _, rfl, b, CH, dy, _, _, rfl, hb, T.kH.cl, T.nHr, hf_room _ _, rfl, ?_⟩
    exact blT (Q := Q) rfl (k H Ext.rfl')
abbrev sFl : Stmt := top 13
theorem scFl : FnScope ["house", "thing"] ["house", "thing"] (defScope sFl) := ⟨rfl, rfl, rfl, by decide +kernel, rfl, by decide +kernel, by decide +kernel⟩
def spFl (CH : Addr) : Sp := fun vs H Q _ => ∃ (a : Addr) (n r i : Int), vs = [.ref a, .int i] ∧ HouseAt CH H a n r ∧ 0 ≤ i ∧ i ≤ n - 1 ∧ Q (.bl true) H
theorem ok_fl {f : Addr} {fd : FuncData} (F : Fun K "is_floor" "is_floor" sFl f fd) (T : Tx K mg CH CS CR) (DW : Dn P w K mg base "is_within" 2 ["thing", "least", "most"] spWith) : FnOk P w K mg base CX0 3 f fd ["house", "thing"] (spFl CH) := by
  refine F.ok scFl (fun vs H Q E h => ?_) (fun cdv A outer s H vs Q E hr h => ?_)
  · obtain ⟨a, n, r, i, rfl, _⟩ := h
    rfl
  · obtain ⟨a, n, r, i, rfl, ⟨dx, ha⟩, h1, h2, k⟩ := h
    refine ⟨_, pss_one (ps_ret (pe_call DW.ok hr (by rfl) DW.at_ DW.kp DW.bd .nil pass0 (pa_cons (pv 1) (pa_cons pe_int (pa_cons (pe_op op_sub (pe_fld (pv 0) rfl) pe_int) pa_nil))))), ?_⟩
    exact ⟨_, rfl, _, rfl, a, CH, dx, _, _, rfl, ha, T.kH.cl, T.nHf, hf_floors _ _, _, _, rfl, rfl, i, 0, n - 1, rfl, h1, h2, k⟩
abbrev sGr : Stmt := top 14
theorem scGr : FnScope ["house", "thing"] ["house", "thing"] (defScope sGr) := ⟨rfl, rfl, rfl, by decide +kernel, rfl, by decide +kernel, by decide +kernel⟩
def spGr (CH : Addr) : Sp := fun vs H Q _ => ∃ (a t : Addr) (n r : Int) (g : Grp), vs = [.ref a, .ref t] ∧ HouseAt CH H a n r ∧ H t = some (.tup (g3 g)) ∧ Gok n g ∧ Q (.bl true) H
theorem ok_gr {f : Addr} {fd : FuncData} (F : Fun K "is_group" "is_group" sGr f fd) (T : Tx K mg CH CS CR) (DF : Dn P w K mg base "is_floor" 3 ["house", "thing"] (spFl CH)) (DI : Dn P w K mg base "is_integer" 1 ["thing"] spInt) :
    FnOk P w K mg base CX0 4 f fd ["house", "thing"] (spGr CH) := by
  refine F.ok scGr (fun vs H Q E h => ?_) (fun cdv A outer s H vs Q E hr h => ?_)
  · obtain ⟨a, t, n, r, g, rfl, _⟩ := h
    rfl
  · obtain ⟨a, t, n, r, g, rfl, ha, ht, ⟨o1, o2, o3, o4, o5, o6⟩, k⟩ := h
    have hr1 : Room 1 _ := hr.mono (by decide)
    refine ⟨_, pss_cons (ps_if (PW.pt (pw_or (pt_not (pt_val (pe_callB call_isi (by rfl) T.isinstance (by decide +kernel) (pa_cons (pv 1) (pa_cons (pe_bltn (v := .ty "tuple") (by rfl) T.tuple (by decide +kernel) rfl) pa_nil)))))
        (pw_or1 (pt_cmpR op_ne (pe_callB call_len_seq (by rfl) T.len PySem.boot_len (pa_cons (pv 1) pa_nil)) pe_int (nomark _))))) (pss_one (ps_ret pe_bl)) pss_nil)
      (pss_cons (ps_if (PW.pt (pw_or (pt_not (pt_val (pe_call DF.ok hr (by rfl) DF.at_ DF.kp DF.bd .nil pass0 (pa_cons (pv 0) (pa_cons (pe_ix ix_tup (pv 1) pe_int (fun _ _ => rfl)) pa_nil)))))
        (pw_or1 (pt_not (pt_val (pe_call DF.ok hr (by rfl) DF.at_ DF.kp DF.bd .nil pass0 (pa_cons (pv 0) (pa_cons (pe_ix ix_tup (pv 1) pe_int (fun _ _ => rfl)) pa_nil)))))))) (pss_one (ps_ret pe_bl)) pss_nil)
      (pss_one (ps_ret (pe_and (pe_call DI.ok hr1 (by rfl) DI.at_ DI.kp DI.bd .nil pass0 (pa_cons (pe_ix ix_tup (pv 1) pe_int (fun _ _ => rfl)) pa_nil)) (pe_one (pe_cmpR op_ge (pe_ix ix_tup (pv 1) pe_int (fun _ _ => rfl)) pe_int (nomark _))))))), ?_⟩
    refine ⟨_, rfl, .ref t, .ty "tuple", _, _, true, rfl, .ty "tuple", .base (.tup ht), kit_ty (by decide +kernel), true, rfl, iteF ?_⟩
    refine ⟨_, rfl, t, _, rfl, .inr (SqT.of ht), rfl, false, eNF rfl, iteF ?_⟩
    refine ⟨_, rfl, _, rfl, t, _, _, _, rfl, rfl, SqT.of ht, atI_nat (j := 0) rfl, a, n, r, g.1, rfl, ha, o1, o2, true, rfl, iteF ?_⟩
    refine ⟨_, rfl, _, rfl, t, _, _, _, rfl, rfl, SqT.of ht, atI_nat (j := 1) rfl, a, n, r, g.2.1, rfl, ha, o3, o4, true, rfl, iteF ?_⟩
    refine ⟨_, rfl, t, _, _, _, rfl, rfl, SqT.of ht, atI_nat (j := 2) rfl, g.2.2, rfl, true, rfl, iteT ?_⟩
    refine ⟨_, rfl, t, _, _, _, rfl, rfl, SqT.of ht, atI_nat (j := 2) rfl, _, _, rfl, rfl, ?_⟩
    exact blT (Q := Q) o5 k
end
end Wl
namespace Wl
open PySem L2 Wr
def Kept (D : Addr) (H H' : Hp) : Prop := ∀ b o, b ≠ D → H b = some o → H' b = some o
theorem keptS {D : Addr} {H H' : Hp} (s : Same H H') : Kept D H H' := fun b o _ e => s b o e
theorem lc_data {δ : Type} {J : It} {n : Nat} {G : Hp → Prop} {Y : Nat → Hp → V → Hp → Prop} (wk : Walk J n G Y) {g : TG} {tt : TT} {te : TE} {vs : List Nat} {σ : St} {H1 : Hp} {D : Addr} {Qd : Hp → Prop}
    (f : Nat → Option δ) (Rel : V → δ → Hp → Prop) (mono : ∀ y d H H', Kept D H H' → Rel y d H → Rel y d H') (hn : n ≤ 1000) (hD : H1 D = none) (hG : ∀ H, Same H1 H → G H) (hY : ∀ i H x H', Y i H x H' → Same H H')
    (hs : ∀ (i : Nat) (x : V) (H H' : Hp) (Q : V → Hp → Prop) (R : Hp → Prop), i < n → Same H1 H → (∀ p, H' p = none → p ≠ D) → Y i H x H' → (∀ d, f i = some d → ∀ y H4, Same H' H4 → Rel y d H4 → Q y H4) → (f i = none → ∀ H4, Same H' H4 → R H4) →
      g x (wipe σ vs) H' fun σ2 H2 => wipe σ2 vs = wipe σ vs ∧ tt σ2 H2 fun b H3 => if b = true then te σ2 H3 Q else R H3)
    (hd : ∀ H acc, Same H1 H → H D = some (.lst acc) → Paired (fun y d => Rel y d H) acc ((List.range n).filterMap f) → acc.length ≤ n → Qd H) :
    ∃ W : Nat → Nat → Hp → Prop, (∃ m, W 0 m (upd H1 D (.lst []))) ∧ ∀ i m H, W i m H →
      (J.stop i H ∧ Qd H) ∨ (J.go i H ∧ ∃ Nx : Hp → Prop, (∀ H', Nx H' → ∃ m', m' < m ∧ W (i + 1) m' H') ∧ ∀ x H', J.yld i H x H' → g x (wipe σ vs) H' fun σ2 H2 => wipe σ2 vs = wipe σ vs ∧ tt σ2 H2 fun b H3 =>
        if b = true then te σ2 H3 fun y H4 => ∃ acc, H4 D = some (.lst acc) ∧ acc.length < sizeLine ∧ Nx (upd H4 D (.lst (acc ++ [y]))) else Nx H3) := by
  have pm : ∀ {acc : List V} {ds : List δ} {H H' : Hp}, Kept D H H' → Paired (fun y d => Rel y d H) acc ds → Paired (fun y d => Rel y d H') acc ds := fun s p => Paired.mapP p fun y d q => mono y d _ _ s q
  refine lc_it wk (fun i H => Same H1 H ∧ ∃ acc, H D = some (.lst acc) ∧ Paired (fun y d => Rel y d H) acc ((List.range i).filterMap f) ∧ acc.length ≤ i) ⟨same_upd hD, [], upd_same, .nil, Nat.le_refl _⟩ (fun i H _ q => hG H q.1) ?_ (fun H q => ?_)
  · rintro i x H H' hi ⟨s, acc, e, p, hl⟩ hy
    have s' := hY _ _ _ _ hy
    have eD : ∀ q, H' q = none → q ≠ D := fun q hq z => by rw [z, s' _ _ e] at hq; cases hq
    refine hs i x H H' _ _ hi s eD hy (fun d ed y H4 s4 r => ?_) (fun ed H4 s4 => ?_)
    · have e4 : H4 D = some (.lst acc) := s4 _ _ (s' _ _ e)
      refine ⟨acc, e4, Nat.lt_of_le_of_lt (Nat.le_trans hl (Nat.le_trans (Nat.le_of_lt hi) hn)) (by decide), fun b o hb => ?_, acc ++ [y], upd_same, ?_, by rw [List.length_append, List.length_singleton]; omega⟩
      · rw [upd_ne (ne_of_none hb hD)]
        exact s4 _ _ (s' _ _ (s _ _ hb))
      · have k4 : Kept D H4 (upd H4 D (.lst (acc ++ [y]))) := fun b o hb q => by rw [upd_ne hb]; exact q
        rw [List.range_succ, List.filterMap_append, List.filterMap_cons, ed, List.filterMap_nil]
        exact Paired.snoc (pm k4 (pm (keptS s4) (pm (keptS s') p))) (mono _ _ _ _ k4 r)
    · have e4 : H4 D = some (.lst acc) := s4 _ _ (s' _ _ e)
      refine ⟨fun b o hb => s4 _ _ (s' _ _ (s _ _ hb)), acc, e4, ?_, Nat.le_succ_of_le hl⟩
      rw [List.range_succ, List.filterMap_append, List.filterMap_cons, ed, List.filterMap_nil, List.append_nil]
      exact pm (keptS s4) (pm (keptS s') p)
  · obtain ⟨s, acc, e, p, hl⟩ := q
    exact hd H acc s e p hl
theorem same_YAt {xs : List V} (i : Nat) (H : Hp) (x : V) (H' : Hp) (y : YAt xs i H x H') : Same H H' := by rw [y.1]; exact Same.refl _
theorem same_YFn {f : Nat → V} (i : Nat) (H : Hp) (x : V) (H' : Hp) (y : YFn f i H x H') : Same H H' := by rw [y.1]; exact Same.refl _
theorem same_YPair {a b : Nat → Option V} (i : Nat) (H : Hp) (x : V) (H' : Hp) (y : YPair a b i H x H') : Same H H' := by
  obtain ⟨T, x, y, _, hT, rfl, _⟩ := y
  exact same_upd hT
theorem sqT_same {K : PySem.W.Frag} {H H' : Hp} {a : Addr} {xs : List V} (s : Same H H') (h : SqT K H a xs) : SqT K H' a xs := SqT.ext h s
theorem walk_zipT {K : PySem.W.Frag} {a b : Addr} {xs ys : List V} {n : Nat} (hn : n = min xs.length ys.length) : Walk (RZ.ItzT K a b) n (fun H => SqT K H a xs ∧ SqT K H b ys) (YPair (fun i => xs[i]?) (fun i => ys[i]?)) := by
  subst hn
  refine ⟨fun i _ hi q => ?_, fun _ q => ⟨xs, ys, q.1, q.2, by omega⟩, fun i H v H' _ q y => ?_⟩
  · have h1 : i < xs.length := by omega
    have h2 : i < ys.length := by omega
    exact ⟨xs, ys, xs[i], ys[i], q.1, q.2, by simp [h1], by simp [h2]⟩
  · obtain ⟨T, x, z, h1, h2, h3, h4, h5⟩ := y
    exact ⟨T, x, z, h1, h2, h3, h4 xs q.1, h5 ys q.2⟩
theorem sl_tupK {X : Cx} (K : PySem.W.Frag) (h : X.K = K) : SlR X (rSlA K) := by subst h; exact sl_tupA
theorem ix_tupK {X : Cx} (K : PySem.W.Frag) (h : X.K = K) : IxR X (rIxT K) := by subst h; exact ix_tup
theorem ix_listK {X : Cx} (K : PySem.W.Frag) (h : X.K = K) : IxR X (rIxL K) := by subst h; exact ix_list
theorem cr_sumTK {X : Cx} (K : PySem.W.Frag) (h : X.K = K) (hc : X.calm = true) : CallR X (.builtin "sum") (rSumT K) := by subst h; exact cr_sumT hc
theorem op_ltTK {X : Cx} (K : PySem.W.Frag) (h : X.K = K) (hu : X.A.units < cLine) : OpR X (compareOp .Lt) (rLtT K) := by subst h; exact op_ltT hu
theorem pg_tupK {X : Cx} (K : PySem.W.Frag) (h : X.K = K) {es : List Expr} {k : Nat} {t : TGs} {pos : Pos} (n : Nat) (hc : X.calm = true) (hs : PGs X es t)
    (hn : (assignEach es X.env).length = n := by rfl) (hst : (assignEach es X.env).findIdx? (·.1) = none := by rfl) : PG X (.Tuple es k pos) (gTup K n t) := by subst h; exact pg_tup hc hs hn hst
def RelB (y : V) (b : Bool) (_ : Hp) : Prop := y = .bl b
theorem relB_eq {H : Hp} : ∀ {acc : List V} {bs : List Bool}, Paired (fun y d => RelB y d H) acc bs → acc = bs.map V.bl
  | _, _, .nil => rfl
  | _, _, .cons e t => by rw [relB_eq t, show _ = _ from e]; rfl
def RelI (y : V) (i : Int) (_ : Hp) : Prop := y = .int i
theorem relI_eq {H : Hp} : ∀ {acc : List V} {ns : List Int}, Paired (fun y d => RelI y d H) acc ns → acc = ns.map V.int
  | _, _, .nil => rfl
  | _, _, .cons e t => by rw [relI_eq t, show _ = _ from e]; rfl
theorem fm_true (n : Nat) : (List.range n).filterMap (fun _ => some true) = List.replicate n true := by
  induction n with
  | zero => rfl
  | succ n ih => rw [List.range_succ, List.filterMap_append, ih, List.replicate_succ']; rfl
theorem all_true (n : Nat) : (List.replicate n true).all id = true := by
  rw [List.all_eq_true]
  intro x hx
  exact List.eq_of_mem_replicate hx
section
variable {P : Program} {w : World} {K : PySem.W.Frag} {mg : Str → Option Value} {base : Heap} {CH CS CR : Addr}
structure GsOk (n : Int) (gs : List Grp) : Prop where
  ok : ∀ g ∈ gs, Gok n g
  asc : Asc gs
  few : gs.length ≤ 400
abbrev sGs : Stmt := top 15
theorem scGs : FnScope ["house", "thing", "group", "one", "other"] ["house", "thing"] (defScope sGs) := ⟨rfl, rfl, rfl, by decide +kernel, rfl, by decide +kernel, by decide +kernel⟩
def spGs (CH : Addr) : Sp := fun vs H Q _ => ∃ (a t : Addr) (n r : Int) (gs : List Grp), vs = [.ref a, .ref t] ∧ HouseAt CH H a n r ∧ GAt H t gs ∧ GsOk n gs ∧ ∀ H', Same H H' → Q (.bl true) H'
theorem ok_gs {f : Addr} {fd : FuncData} (F : Fun K "is_groups" "is_groups" sGs f fd) (T : Tx K mg CH CS CR) (DG : Dn P w K mg base "is_group" 4 ["house", "thing"] (spGr CH)) :
    FnOk P w K mg base CX0 5 f fd ["house", "thing"] (spGs CH) := by
  refine F.ok scGs (fun vs H Q E h => ?_) (fun cdv A outer s H vs Q E hr h => ?_)
  · obtain ⟨a, t, n, r, gs, rfl, _⟩ := h
    rfl
  · obtain ⟨a, t, n, r, gs, rfl, ha, ⟨ps, ht, hp, hgs⟩, ⟨ok, asc, few⟩, k⟩ := h
    obtain ⟨tk, hG⟩ := T.mGroups
    obtain ⟨tk2, hP⟩ := T.mPeople
    have hlen : ps.length = gs.length := by rw [← hgs, List.length_map]
    refine ⟨_, pss_cons (ps_if (PW.pt (pw_or (pt_not (pt_val (pe_callB call_isi (by rfl) T.isinstance (by decide +kernel) (pa_cons (pv 1) (pa_cons (pe_bltn (v := .ty "tuple") (by rfl) T.tuple (by decide +kernel) rfl) pa_nil)))))
        (pw_or1 (pt_cmpR op_gt (pe_callB call_len_seq (by rfl) T.len PySem.boot_len (pa_cons (pv 1) pa_nil)) (pe_glob (v := .int 400) (by rfl) hG ⟨_, rfl⟩) (nomark _))))) (pss_one (ps_ret pe_bl)) pss_nil)
      (pss_cons (ps_if (pt_not (pt_val (pe_callB (cr_all rfl) (by rfl) T.all (by decide +kernel) (pa_cons
          (pe_lc (own := [("group", 2)]) (g := gName 2) (tt := tYes) rfl scGs.nd (pi_tup (pv 1)) (blkOk_by (own := [("group", 2)]) (N := ["house", "thing", "group", "one", "other"]) (sc := defScope sGs) (by decide +kernel)) (fun _ _ _ _ _ => pg_name (i := 2) scGs.nd rfl (Or.inl rfl)) (fun _ _ _ _ _ => pts_nil)
            (fun _ _ _ _ _ => pe_and (pe_call DG.ok hr (by rfl) DG.at_ DG.kp DG.bd .nil pass0 (pa_cons (pv 0) (pa_cons (pv 2) pa_nil))) (pe_one (pe_cmpR op_le (pe_ix (ix_tupK K rfl) (pv 2) pe_int (fun _ _ => rfl)) (pe_glob (v := .int (10 ^ 30)) (by rfl) hP ⟨_, rfl⟩) (nomark _)))))
          pa_nil)))) (pss_one (ps_ret pe_bl)) pss_nil)
      (pss_one (ps_ret (pe_callB (cr_all rfl) (by rfl) T.all (by decide +kernel) (pa_cons
          (pe_lc (own := [("one", 3), ("other", 4)]) (tt := tYes) rfl scGs.nd (RZ.pi_zipA (by rfl) T.zip (pa_cons (pv 1) (pa_cons (pe_slice sl_tupA (pv 1) (po_some pe_int) po_none) pa_nil))) (blkOk_by (own := [("one", 3), ("other", 4)]) (N := ["house", "thing", "group", "one", "other"]) (sc := defScope sGs) (by decide +kernel))
            (fun _ _ _ _ _ => pg_tupK K rfl 2 rfl (pgs_cons (pg_name (i := 3) scGs.nd rfl (Or.inl rfl)) (pgs_cons (pg_name (i := 4) scGs.nd rfl (Or.inl rfl)) pgs_nil))) (fun _ _ _ _ _ => pts_nil)
            (fun _ _ _ _ _ => pe_cmpR (op_ltTK K rfl hr.units0) (pe_slice (sl_tupK K rfl) (pv 3) po_none (po_some pe_int)) (pe_slice (sl_tupK K rfl) (pv 4) po_none (po_some pe_int)) (nomark _)))
          pa_nil))))), ?_⟩
    refine ⟨_, rfl, .ref t, .ty "tuple", _, _, true, rfl, .ty "tuple", .base (.tup ht), kit_ty (by decide +kernel), true, rfl, iteF ?_⟩
    refine ⟨_, rfl, t, _, rfl, .inr (SqT.of ht), _, _, rfl, rfl, false, eF (by rw [List.length_map, hlen]; omega), iteF ?_⟩
    refine ⟨_, rfl, t, rfl, ⟨_, SqT.of ht⟩, fun D hD => ?_⟩
    refine lc_data (walk_tup (K := K) (a := t) (xs := ps.map fun p => V.ref p.1)) (fun _ => some true) RelB (fun _ _ _ _ _ q => q) (by rw [List.length_map, hlen]; omega) hD (fun H s => SqT.of (s _ _ ht)) same_YAt ?_ ?_
    · rintro i x H1 H1' Q1 R1 hi s1 eD ⟨rfl, hx⟩ q1 q2
      rw [List.length_map] at hi
      have hx' : x = V.ref ps[i].1 := by
        rw [List.getElem?_map, List.getElem?_eq_getElem hi] at hx
        exact (Option.some.inj hx).symm
      subst hx'
      have m : ps[i] ∈ ps := List.getElem_mem hi
      have og : Gok n ps[i].2 := ok _ (by rw [← hgs]; exact List.mem_map.mpr ⟨_, m, rfl⟩)
      have hp1 := s1 _ _ (hp _ m)
      refine ⟨rfl, ?_⟩
      refine ⟨_, rfl, _, rfl, a, ps[i].1, n, r, ps[i].2, rfl, ha.same s1, hp1, og, true, rfl, iteT ?_⟩
      refine ⟨_, rfl, ps[i].1, _, _, _, rfl, rfl, SqT.of hp1, atI_nat (j := 2) rfl, _, _, rfl, rfl, ?_⟩
      exact q1 true rfl _ _ (Same.refl _) (eT og.2.2.2.2.2)
    · intro H2 acc s2 eD pr hacc
      rw [relB_eq pr, fm_true] at eD
      refine ⟨D, _, rfl, SqL.of eD, true, by rw [all_true], iteF ?_⟩
      have ht2 := s2 _ _ ht
      refine ⟨_, rfl, _, rfl, 1, rfl, t, _, rfl, SqT.of ht2, fun hw => ?_, fun hw p hpn => ?_⟩
      · have h0 : ps.length = 0 := by
          have e : HT.sIx (ps.map fun p => V.ref p.1).length 0 (some 1) = min 1 (ps.map fun p => V.ref p.1).length := HT.sIx_nat _ _ 1
          have := hw.1
          rw [e, List.length_map] at this
          omega
        refine ⟨t, t, _, _, rfl, .inr ⟨SqT.of ht2, SqT.of ht2, fun D2 hD2 => ?_⟩⟩
        refine lc_data (walk_zipT (K := K) (a := t) (b := t) (n := 0) (by rw [List.length_map, h0]; rfl)) (fun _ => some true) RelB (fun _ _ _ _ _ q => q) (by decide) hD2 (fun H s => ⟨SqT.of (s _ _ ht2), SqT.of (s _ _ ht2)⟩) same_YPair (fun i x H H' Q R hi => absurd hi (by omega)) ?_
        intro H4 acc s4 e4 pr _
        rw [relB_eq pr, fm_true] at e4
        exact ⟨D2, _, rfl, SqL.of e4, by rw [all_true]; exact k _ (Same.trans s2 s4)⟩
      · have e : HT.sIx (ps.map fun p => V.ref p.1).length 0 (some 1) = min 1 (ps.map fun p => V.ref p.1).length := HT.sIx_nat _ _ 1
        have h0 : 1 ≤ ps.length := by
          rcases Nat.eq_zero_or_pos ps.length with z | z
          · exact absurd ⟨by rw [e, List.length_map, z]; rfl, rfl⟩ hw
          · exact z
        have ec : cutV (ps.map fun p => V.ref p.1) (some 1) none = (ps.drop 1).map fun p => V.ref p.1 := by
          unfold cutV
          rw [e, HT.sIx_none, List.length_map, show min 1 ps.length = 1 by omega, List.take_of_length_le (by simp), List.map_drop]
        rw [ec]
        have s3 : Same H2 (upd H2 p (.tup ((ps.drop 1).map fun p => V.ref p.1))) := same_upd hpn
        refine ⟨t, p, _, _, rfl, .inr ⟨SqT.of (s3 _ _ ht2), SqT.of upd_same, fun D2 hD2 => ?_⟩⟩
        refine lc_data (walk_zipT (K := K) (a := t) (b := p) (n := ps.length - 1) (by rw [List.length_map, List.length_map, List.length_drop]; omega)) (fun _ => some true) RelB (fun _ _ _ _ _ q => q) (by omega) hD2 (fun H s => ⟨SqT.of (s _ _ (s3 _ _ ht2)), SqT.of (s _ _ upd_same)⟩) same_YPair ?_ ?_
        · rintro i x H4 H4' Q4 R4 hi s4 eD4 ⟨T, x1, y1, rfl, hT, rfl, hx1, hy1⟩ q1 q2
          have i1 : i < ps.length := by omega
          have i2 : i + 1 < ps.length := by omega
          have e1 : x1 = V.ref ps[i].1 := by
            have hx1 : (ps.map fun p => V.ref p.1)[i]? = some x1 := hx1
            rw [List.getElem?_map, List.getElem?_eq_getElem i1] at hx1
            exact (Option.some.inj hx1).symm
          have e2 : y1 = V.ref ps[i + 1].1 := by
            have hy1 : ((ps.drop 1).map fun p => V.ref p.1)[i]? = some y1 := hy1
            rw [List.getElem?_map, List.getElem?_drop, show 1 + i = i + 1 by omega, List.getElem?_eq_getElem i2] at hy1
            exact (Option.some.inj hy1).symm
          subst e1 e2
          have sT : Same H (upd H4 T (.tup [V.ref ps[i].1, V.ref ps[i + 1].1])) := (((Same.trans s2 s3).trans s4).trans (same_upd hT))
          have hp1 := sT _ _ (hp _ (List.getElem_mem i1))
          have hp2 := sT _ _ (hp _ (List.getElem_mem i2))
          refine ⟨T, _, rfl, SqT.of upd_same, rfl, _, _, rfl, _, _, rfl, rfl, rfl, ?_⟩
          refine ⟨_, rfl, 2, rfl, ps[i].1, _, rfl, SqT.of hp1, fun z => absurd (show (2 : Nat) = 3 from z.2) (by decide), fun _ c1 hc1 => ?_⟩
          have sc1 := same_upd (H := upd H4 T (.tup [V.ref ps[i].1, V.ref ps[i + 1].1])) (o := .tup (cutV (g3 ps[i].2) none (some 2))) hc1
          refine ⟨_, rfl, 2, rfl, ps[i + 1].1, _, rfl, SqT.of (sc1 _ _ hp2), fun z => absurd (show (2 : Nat) = 3 from z.2) (by decide), fun _ c2 hc2 => ?_⟩
          have sc2 := same_upd (o := .tup (cutV (g3 ps[i + 1].2) none (some 2))) hc2
          refine ⟨c1, c2, [ps[i].2.1, ps[i].2.2.1], [ps[i + 1].2.1, ps[i + 1].2.2.1], rfl, rfl, SqT.of (sc2 _ _ upd_same), SqT.of upd_same, ?_⟩
          refine q1 true rfl _ _ (sc1.trans sc2) ?_
          have lt : ltK (gk ps[i].2) (gk ps[i + 1].2) := by
            have := List.pairwise_iff_getElem.mp asc i (i + 1) (by rw [← hgs, List.length_map]; exact i1) (by rw [← hgs, List.length_map]; exact i2) (Nat.lt_succ_self _)
            simpa [← hgs] using this
          show V.bl (HT.lexLt [ps[i].2.1, ps[i].2.2.1] [ps[i + 1].2.1, ps[i + 1].2.2.1]) = V.bl true
          refine congrArg V.bl ?_
          rw [HT.lexLt_cons, HT.lexLt_cons, HT.lexLt_nil_nil]
          unfold ltK gk at lt
          simp only at lt
          rcases lt with l | ⟨l1, l2⟩
          · rw [if_neg (by omega)]; exact decide_eq_true l
          · rw [if_pos l1, if_neg (by omega)]; exact decide_eq_true l2
        · intro H4 acc s4 e4 pr _
          rw [relB_eq pr, fm_true] at e4
          exact ⟨D2, _, rfl, SqL.of e4, by rw [all_true]; exact k _ ((Same.trans s2 s3).trans s4)⟩
end
end Wl
namespace Wl
open PySem L2 Wr
def sf (h : Addr) (l : Int) (t : Addr) : List (Str × V) := putF "groups" (.ref t) (putF "lift" (.int l) (putF "house" (.ref h) []))
theorem khl : ¬ (("house" : Str) = "lift") := by decide +kernel
theorem khg : ¬ (("house" : Str) = "groups") := by decide +kernel
theorem klg : ¬ (("lift" : Str) = "groups") := by decide +kernel
theorem sf_house (h : Addr) (l : Int) (t : Addr) : (sf h l t).lookup ("house" : Str) = some (.ref h) := by
  unfold sf; rw [lookup_putF, if_neg khg, lookup_putF, if_neg khl, lookup_putF, if_pos rfl]
theorem sf_lift (h : Addr) (l : Int) (t : Addr) : (sf h l t).lookup ("lift" : Str) = some (.int l) := by
  unfold sf; rw [lookup_putF, if_neg klg, lookup_putF, if_pos rfl]
theorem sf_groups (h : Addr) (l : Int) (t : Addr) : (sf h l t).lookup ("groups" : Str) = some (.ref t) := by
  unfold sf; rw [lookup_putF, if_pos rfl]
def StandAt (C : Addr) (H : Hp) (a h t : Addr) : Prop := ∃ dx, H a = some (.ins C dx (sf h 0 t))
theorem StandAt.same {C a h t : Addr} {H H' : Hp} (x : StandAt C H a h t) (s : Same H H') : StandAt C H' a h t := let ⟨dx, e⟩ := x; ⟨dx, s _ _ e⟩
def gd (g : Grp) : PyData := .tuple [.int g.1, .int g.2.1, .int g.2.2]
def gsd (gs : List Grp) : PyData := .tuple (gs.map gd)
theorem dp_g3 {K : PySem.W.Frag} {H : Hp} {a : Addr} {g : Grp} (h : H a = some (.tup (g3 g))) : Dp K H (.ref a) (gd g) := .tup (SqT.of h) (.cons (.int _) (.cons (.int _) (.cons (.int _) .nil)))
theorem dp_all {K : PySem.W.Frag} {H : Hp} : ∀ {ps : List (Addr × Grp)}, (∀ p ∈ ps, H p.1 = some (.tup (g3 p.2))) → DpAll K H (ps.map fun p => V.ref p.1) ((ps.map (·.2)).map gd)
  | [], _ => .nil
  | p :: ps, h => .cons (dp_g3 (h p List.mem_cons_self)) (dp_all fun q hq => h q (List.mem_cons_of_mem _ hq))
theorem GAt.dp {K : PySem.W.Frag} {H : Hp} {t : Addr} {gs : List Grp} (h : GAt H t gs) : Dp K H (.ref t) (gsd gs) := by
  obtain ⟨ps, e, hp, rfl⟩ := h
  exact .tup (SqT.of e) (dp_all hp)
theorem gd_depth (g : Grp) : (gd g).depth ≤ 1 := by
  unfold gd; simp [PyData.depth, PyData.depthAll]
theorem gds_depth : ∀ gs : List Grp, PyData.depthAll (gs.map gd) ≤ 1
  | [] => by simp [PyData.depthAll]
  | g :: gs => by
    rw [List.map_cons, PyData.depthAll]
    have := gd_depth g
    have := gds_depth gs
    omega
theorem gd_lay (g : Grp) : (gd g).canLay0 = true := by
  unfold gd; simp [PyData.canLay0, PyData.canLayAll0]
theorem gds_lay : ∀ gs : List Grp, PyData.canLayAll0 (gs.map gd) = true
  | [] => by simp [PyData.canLayAll0]
  | g :: gs => by
    rw [List.map_cons, PyData.canLayAll0, gd_lay, gds_lay]
    rfl
theorem gsd_lay (gs : List Grp) : (gsd gs).canLay0 = true := by
  unfold gsd; rw [PyData.canLay0]; exact gds_lay gs
theorem gsd_shaped (gs : List Grp) : SeqAt.shaped (gsd gs) = true := by
  unfold SeqAt.shaped
  rw [gsd_lay]
  have : (gsd gs).depth ≤ 64 := by
    unfold gsd
    rw [PyData.depth]
    have := gds_depth gs
    omega
  simp [this]
theorem gsd_eq (gs : List Grp) : PyData.eqv (gsd gs) (gsd gs) = true := SeqAt.eqv_refl _ (gsd_lay gs)
section
variable {P : Program} {w : World} {K : PySem.W.Frag} {mg : Str → Option Value} {base : Heap} {CH CS CR : Addr}
abbrev sSi : Stmt := inClass (top 16) 0
abbrev sSe : Stmt := inClass (top 16) 1
abbrev sRi : Stmt := inClass (top 17) 0
theorem scSi : FnScope ["self", "house", "lift", "groups"] ["self", "house", "lift", "groups"] (defScope sSi) := ⟨rfl, rfl, rfl, by decide +kernel, rfl, by decide +kernel, by decide +kernel⟩
def spSi (CH CS : Addr) : Sp := fun vs H Q _ => ∃ (p dx h t : Addr) (n r : Int) (gs : List Grp), vs = [.ref p, .ref h, .int 0, .ref t] ∧ H p = some (.ins CS dx []) ∧ HouseAt CH H h n r ∧ 2 ≤ n ∧ GAt H t gs ∧ GsOk n gs ∧
  ∀ H', (∀ b o, b ≠ p → H b = some o → H' b = some o) → H' p = some (.ins CS dx (sf h 0 t)) → Q .non H'
theorem ok_si {f : Addr} {fd : FuncData} (F : Fun K "__init__" "Standing.__init__" sSi f fd) (T : Tx K mg CH CS CR) (DF : Dn P w K mg base "is_floor" 3 ["house", "thing"] (spFl CH)) (DG : Dn P w K mg base "is_groups" 5 ["house", "thing"] (spGs CH)) :
    FnOk P w K mg base CX0 6 f fd ["self", "house", "lift", "groups"] (spSi CH CS) := by
  refine F.ok scSi (fun vs H Q E h => ?_) (fun cdv A outer s H vs Q E hr h => ?_)
  · obtain ⟨p, dx, h, t, n, r, gs, rfl, _⟩ := h
    rfl
  · obtain ⟨p, dx, h, t, n, r, gs, rfl, hp, ⟨dh, hh⟩, hn, hg, ok, k⟩ := h
    have hr3 : Room 3 _ := hr.mono (by decide)
    refine ⟨_, pss_cons (ps_if (pt_not (pt_val (pe_callB call_isi (by rfl) T.isinstance (by decide +kernel) (pa_cons (pv 1) (pa_cons (pe_glob (v := .ref CH) (by rfl) T.mgH rfl) pa_nil))))) (pss_one ps_never) pss_nil)
      (pss_cons (ps_if (pt_not (pt_val (pe_call DF.ok hr3 (by rfl) DF.at_ DF.kp DF.bd .nil pass0 (pa_cons (pv 1) (pa_cons (pv 2) pa_nil))))) (pss_one ps_never) pss_nil)
      (pss_cons (ps_if (pt_not (pt_val (pe_call DG.ok hr (by rfl) DG.at_ DG.kp DG.bd .nil pass0 (pa_cons (pv 1) (pa_cons (pv 3) pa_nil))))) (pss_one ps_never) pss_nil)
      (pss_cons (ps_fld (pv 0) (pv 1) rfl) (pss_cons (ps_fld (pv 0) (pv 2) rfl) (pss_one (ps_fld (pv 0) (pv 3) rfl)))))), ?_⟩
    refine ⟨_, rfl, .ref h, .ref CH, _, _, true, rfl, .own CH, .base (.ins hh T.kH.cl T.kH.ha T.kH.hn T.kH.htk T.kH.hm), T.iHH, true, rfl, iteF ?_⟩
    refine ⟨_, rfl, _, rfl, h, n, r, 0, rfl, ⟨dh, hh⟩, Int.le_refl 0, by omega, true, rfl, iteF ?_⟩
    refine ⟨_, rfl, _, rfl, h, t, n, r, gs, rfl, ⟨dh, hh⟩, hg, ok, fun H1 s1 => ⟨true, rfl, iteF ?_⟩⟩
    refine ⟨_, rfl, _, rfl, p, CS, dx, [], rfl, s1 _ _ hp, T.kS.cl, T.nSh, (by show 0 < 1000; decide), _, rfl, _, rfl, p, CS, dx, _, rfl, upd_same, T.kS.cl, T.nSl, (by show 1 < 1000; decide),
      _, rfl, _, rfl, p, CS, dx, _, rfl, upd_same, T.kS.cl, T.nSg, (by show 2 < 1000; decide), ?_⟩
    rw [upd_upd, upd_upd]
    refine k _ (fun b o hb e => ?_) upd_same
    rw [upd_ne hb]
    exact s1 _ _ e
theorem scSe : FnScope ["self", "other"] ["self", "other"] (defScope sSe) := ⟨rfl, rfl, rfl, by decide +kernel, rfl, by decide +kernel, by decide +kernel⟩
def SEq (CH CS CR : Addr) (a b : Addr) (H : Hp) : Prop := ∃ (h h' t t' : Addr) (n r : Int) (gs : List Grp), StandAt CR H a h t ∧ StandAt CS H b h' t' ∧ HouseAt CH H h n r ∧ HouseAt CH H h' n r ∧ GAt H t gs ∧ GAt H t' gs
structure HouseNe (P : Program) (w : World) (K : PySem.W.Frag) (mg : Str → Option Value) (base : Heap) (CH : Addr) where
  f : Addr
  fd : FuncData
  ok : FnOk P w K mg base CX0 1 f fd ["self", "other"] (spEq (HEq CH))
  ne : NeC K CH CH f
  bd : Binds K fd ["self", "other"] []
theorem ok_se {f : Addr} {fd : FuncData} (F : Fun K "__eq__" "Standing.__eq__" sSe f fd) (T : Tx K mg CH CS CR) (NH : HouseNe P w K mg base CH) : FnOk P w K mg base CX0 3 f fd ["self", "other"] (spEq (SEq CH CS CR)) := by
  refine F.ok scSe (fun vs H Q E h => ?_) (fun cdv A outer s H vs Q E hr h => ?_)
  · obtain ⟨a, b, rfl, _⟩ := h
    rfl
  · obtain ⟨a, b, rfl, ⟨h, h', t, t', n, r, gs, ⟨dx, ha⟩, ⟨dy, hb⟩, ⟨d1, h1⟩, ⟨d2, h2⟩, g1, g2⟩, k⟩ := h
    refine ⟨_, pss_cons (ps_if (PW.pt (pw_or (pt_not (pt_val (pe_callB call_isi (by rfl) T.isinstance (by decide +kernel) (pa_cons (pv 1) (pa_cons (pe_glob (v := .ref CS) (by rfl) T.mgS rfl) pa_nil)))))
        (pw_or1 (pt_cmpR (op_neG NH.ok NH.ne NH.bd pass0 hr) (pe_fld (pv 0) rfl) (pe_fld (pv 1) rfl) (nomark _))))) (pss_one (ps_ret pe_bl)) pss_nil)
      (pss_one (ps_ret (pe_and (pe_cmpR op_eq (pe_fld (pv 0) rfl) (pe_fld (pv 1) rfl) (nomark _)) (pe_one (pe_cmpR (op_eqD hr.units) (pe_fld (pv 0) rfl) (pe_fld (pv 1) rfl) (nomark _)))))), ?_⟩
    refine ⟨_, rfl, .ref b, .ref CS, _, _, true, rfl, .own CS, .base (.ins hb T.kS.cl T.kS.ha T.kS.hn T.kS.htk T.kS.hm), T.iSS, true, rfl, iteF ?_⟩
    refine ⟨_, rfl, a, CR, dx, _, _, rfl, ha, T.kR.cl, T.nRh, sf_house _ _ _, _, rfl, b, CS, dy, _, _, rfl, hb, T.kS.cl, T.nSh, sf_house _ _ _, ?_⟩
    refine ⟨h, h', d1, d2, _, _, rfl, rfl, h1, h2, ⟨n, r, ⟨d1, h1⟩, ⟨d2, h2⟩⟩, fun H1 s1 => ⟨false, rfl, iteF ?_⟩⟩
    have ha1 := s1 _ _ ha
    have hb1 := s1 _ _ hb
    refine ⟨_, rfl, a, CR, dx, _, _, rfl, ha1, T.kR.cl, T.nRl, sf_lift _ _ _, _, rfl, b, CS, dy, _, _, rfl, hb1, T.kS.cl, T.nSl, sf_lift _ _ _, rfl, true, eT rfl, iteT ?_⟩
    refine ⟨_, rfl, a, CR, dx, _, _, rfl, ha1, T.kR.cl, T.nRg, sf_groups _ _ _, _, rfl, b, CS, dy, _, _, rfl, hb1, T.kS.cl, T.nSg, sf_groups _ _ _, ?_⟩
    refine ⟨gsd gs, gsd gs, (g1.same s1).dp, (g2.same s1).dp, gsd_shaped _, gsd_shaped _, ?_⟩
    show Q (V.bl (PyData.eqv (gsd gs) (gsd gs))) H1
    rw [gsd_eq]
    exact k _ s1
theorem scRi : FnScope ["self", "house", "lift", "groups"] ["self", "house", "lift", "groups"] (defScope sRi) := ⟨rfl, rfl, rfl, by decide +kernel, rfl, by decide +kernel, by decide +kernel⟩
def spRi (CR : Addr) : Sp := fun vs H Q _ => ∃ (p dx h t : Addr), vs = [.ref p, .ref h, .int 0, .ref t] ∧ H p = some (.ins CR dx []) ∧ Q .non (upd H p (.ins CR dx (sf h 0 t)))
theorem ok_ri {f : Addr} {fd : FuncData} (F : Fun K "__init__" "RawStanding.__init__" sRi f fd) (T : Tx K mg CH CS CR) : FnOk P w K mg base CX0 1 f fd ["self", "house", "lift", "groups"] (spRi CR) := by
  refine F.ok scRi (fun vs H Q E h => ?_) (fun cdv A outer s H vs Q E hr h => ?_)
  · obtain ⟨p, dx, h, t, rfl, _⟩ := h
    rfl
  · obtain ⟨p, dx, h, t, rfl, hp, k⟩ := h
    refine ⟨_, pss_cons (ps_fld (pv 0) (pv 1) rfl) (pss_cons (ps_fld (pv 0) (pv 2) rfl) (pss_one (ps_fld (pv 0) (pv 3) rfl))), ?_⟩
    refine ⟨_, rfl, _, rfl, p, CR, dx, [], rfl, hp, T.kR.cl, T.nRh, (by show 0 < 1000; decide), _, rfl, _, rfl, p, CR, dx, _, rfl, upd_same, T.kR.cl, T.nRl, (by show 1 < 1000; decide),
      _, rfl, _, rfl, p, CR, dx, _, rfl, upd_same, T.kR.cl, T.nRg, (by show 2 < 1000; decide), ?_⟩
    rw [upd_upd, upd_upd]
    exact k
end
def kk (a b : Int) : List Key := [.inl a, .inl b]
def kvsOf (ks : List Grp) : List (List Key × V) := ks.map fun g => (kk g.1 g.2.1, V.int g.2.2)
theorem kk_eq {a b c d : Int} : kk a b = kk c d ↔ (a, b) = (c, d) := by
  unfold kk
  constructor
  · intro h
    injection h with h1 h2
    injection h2 with h2 _
    injection h1 with h1
    injection h2 with h2
    rw [h1, h2]
  · intro h
    injection h with h1 h2
    rw [h1, h2]
theorem valV_kvs_none {ks : List Grp} {a b : Int} (h : (a, b) ∉ ks.map gk) : valV (kvsOf ks) (kk a b) = none := by
  unfold valV kvsOf
  rw [Option.map_eq_none_iff, List.find?_eq_none]
  intro x hx
  obtain ⟨g, hg, rfl⟩ := List.mem_map.mp hx
  simp only [decide_eq_true_eq]
  intro e
  exact h (List.mem_map.mpr ⟨g, hg, kk_eq.mp e⟩)
theorem valV_kvs_at : ∀ {ks : List Grp} {g : Grp}, (ks.map gk).Nodup → g ∈ ks → valV (kvsOf ks) (kk g.1 g.2.1) = some (.int g.2.2)
  | x :: ks, g, nd, m => by
    obtain ⟨n1, n2⟩ := List.nodup_cons.mp nd
    unfold valV kvsOf
    rw [List.map_cons, List.find?_cons]
    rcases List.mem_cons.mp m with e | m
    · subst e
      simp
    · have hne : ¬ kk x.1 x.2.1 = kk g.1 g.2.1 := fun e => n1 (List.mem_map.mpr ⟨g, m, (kk_eq.mp e).symm⟩)
      rw [decide_eq_false hne]
      exact valV_kvs_at n2 m
theorem putK_kvs {ks : List Grp} {a b m : Int} (h : (a, b) ∉ ks.map gk) : putK (kvsOf ks) (kk a b) (.int m) = kvsOf (ks ++ [(a, b, m)]) := by
  rw [putK_new _ (valV_kvs_none h)]
  unfold kvsOf
  rw [List.map_append]
  rfl
def RelG (D : Addr) (y : V) (g : Grp) (H : Hp) : Prop := ∃ a, y = .ref a ∧ a ≠ D ∧ H a = some (.tup (g3 g))
theorem relG_mono (D : Addr) (y : V) (g : Grp) (H H' : Hp) (k : Kept D H H') (r : RelG D y g H) : RelG D y g H' := let ⟨a, e, n, h⟩ := r; ⟨a, e, n, k _ _ n h⟩
theorem relG_pairs {D : Addr} {H : Hp} : ∀ {acc : List V} {ks : List Grp}, Paired (fun y g => RelG D y g H) acc ks → ∃ ps : List (Addr × Grp), acc = ps.map (fun p => V.ref p.1) ∧ ps.map (·.2) = ks ∧ ∀ p ∈ ps, H p.1 = some (.tup (g3 p.2))
  | _, _, .nil => ⟨[], rfl, rfl, fun _ h => nomatch h⟩
  | _, _, .cons ⟨a, e, _, h⟩ t => by
    obtain ⟨ps, e1, e2, e3⟩ := relG_pairs t
    refine ⟨(a, _) :: ps, by rw [e, e1]; rfl, by rw [← e2]; rfl, fun p hp => ?_⟩
    rcases List.mem_cons.mp hp with rfl | hp
    · exact h
    · exact e3 p hp
theorem fm_get {α : Type} : ∀ l : List α, (List.range l.length).filterMap (fun i => l[i]?) = l
  | [] => rfl
  | x :: l => by
    rw [List.length_cons, List.range_succ_eq_map, List.filterMap_cons, List.filterMap_map]
    have ih := fm_get l
    show x :: (List.range l.length).filterMap ((fun i => (x :: l)[i]?) ∘ Nat.succ) = x :: l
    exact congrArg (x :: ·) ih
def toL (p : Addr × Grp) : Addr × List Int := (p.1, [p.2.1, p.2.2.1, p.2.2.2])
def frL (q : Addr × List Int) : Addr × Grp := (q.1, (q.2.getD 0 0, q.2.getD 1 0, q.2.getD 2 0))
theorem frL_toL (p : Addr × Grp) : frL (toL p) = p := rfl
theorem asc_of {qs : List Grp} (h : qs.Pairwise fun x y => ¬ ([y.1, y.2.1, y.2.2] : List Int) < [x.1, x.2.1, x.2.2]) (nd : (qs.map gk).Nodup) : Asc qs := by
  have nd' : qs.Pairwise fun x y => gk x ≠ gk y := List.pairwise_map.mp nd
  refine (h.and nd').imp fun {x y} q => ?_
  obtain ⟨q1, q2⟩ := q
  unfold ltK
  have e : ¬ (x.1 = y.1 ∧ x.2.1 = y.2.1) := fun z => q2 (by unfold gk; rw [z.1, z.2])
  simp only [List.cons_lt_cons_iff] at q1
  show x.1 < y.1 ∨ (x.1 = y.1 ∧ x.2.1 < y.2.1)
  omega
section
variable {P : Program} {w : World} {K : PySem.W.Frag} {mg : Str → Option Value} {base : Heap} {CH CS CR : Addr}
theorem op_catTK {X : Cx} (K : PySem.W.Frag) (h : X.K = K) : OpR X (binaryOp .Add) (rCatT K) := by subst h; exact op_catT
abbrev sRw : Stmt := top 18
theorem scRw : FnScope ["house", "lift", "known", "rows", "pair"] ["house", "lift", "known"] (defScope sRw) := ⟨rfl, rfl, rfl, by decide +kernel, rfl, by decide +kernel, by decide +kernel⟩
def spRw (CR : Addr) : Sp := fun vs H Q _ => ∃ (h d : Addr) (ks : List Grp), vs = [.ref h, .int 0, .ref d] ∧ H d = some (.dT (kvsOf ks)) ∧ (ks.map gk).Nodup ∧ (∀ g ∈ ks, 0 < g.2.2) ∧ ks.length ≤ 400 ∧
  ∀ (x t : Addr) (gs : List Grp) (H' : Hp), Same H H' → StandAt CR H' x h t → GAt H' t gs → gs.Perm ks → Asc gs → Q (.ref x) H'
theorem ok_rw {f fR : Addr} {fd fdR : FuncData} (F : Fun K "raw_standing" "raw_standing" sRw f fd) (T : Tx K mg CH CS CR) (M : Mk K CR fR) (GR : FnOk P w K mg base CX0 1 fR fdR ["self", "house", "lift", "groups"] (spRi CR)) (bR : Binds K fdR ["self", "house", "lift", "groups"] []) :
    FnOk P w K mg base CX0 3 f fd ["house", "lift", "known"] (spRw CR) := by
  refine F.ok scRw (fun vs H Q E h => ?_) (fun cdv A outer s H vs Q E hr h => ?_)
  · obtain ⟨h, d, ks, rfl, _⟩ := h
    rfl
  · obtain ⟨h, d, ks, rfl, hd, nd, pos, few, k⟩ := h
    have hu := hu_of hr
    refine ⟨_, pss_cons (ps_lock (ps_setLc (i := 3) (own := [("pair", 4)]) (g := gName 4) rfl scRw.nd rfl rfl (sw_true rfl rfl rfl (by decide +kernel)) (pi_keys (pv 2))
          (blkOk_by (own := [("pair", 4)]) (N := ["house", "lift", "known", "rows", "pair"]) (sc := defScope sRw) (by decide +kernel)) (fun _ _ _ _ _ => pg_name (i := 4) scRw.nd rfl (Or.inl rfl))
          (fun _ _ _ _ _ => pts_one (pt_cmpR op_gt (pe_dget hu (pv 2) (pv 4) (fun _ _ => rfl)) pe_int (nomark _)))
          (fun _ _ _ _ _ => pe_op (op_catTK K rfl) (pv 4) (pe_tup (pa_cons (pe_dget hu (pv 2) (pv 4) (fun _ _ => rfl)) pa_nil)))))
      (pss_one (ps_ret (pe_make M GR hr (by rfl) T.mgR bR .nil pass0 (pa_cons (pv 0) (pa_cons (pv 1) (pa_cons
        (pe_callTy call_tuple_of (by rfl) T.tuple (by decide +kernel) (pa_cons (pe_callB (cr_sortedTI hr.units) (by rfl) T.sorted (by decide +kernel) (pa_cons (pv 3) pa_nil)) pa_nil)) pa_nil)))))), ?_⟩
    refine ⟨d, _, hd, trivial, fun od => ?_⟩
    refine ⟨_, rfl, d, od, rfl, .inr ⟨_, upd_same, fun D hD => ?_⟩⟩
    have hDd : d ≠ D := ne_of_none upd_same hD
    refine lc_data (walk_keysT (d := d) (o := od) (kvs := kvsOf ks)) (fun i => ks[i]?) (RelG D) (relG_mono D) (by unfold kvsOf; rw [List.length_map]; omega) hD (fun H s => s _ _ upd_same) (fun i H x H' y => by rw [y.1]; exact Same.refl _) ?_ ?_
    · rintro i x H1 H1' Q1 R1 hi s1 eD ⟨rfl, ky, vv, q, hk, rfl, hq⟩ q1 q2
      have hi' : i < ks.length := by unfold kvsOf at hi; rw [List.length_map] at hi; exact hi
      have hg : (kk ks[i].1 ks[i].2.1, V.int ks[i].2.2) = (ky, vv) := by
        have hk' : (kvsOf ks)[i]? = some (ky, vv) := hk
        unfold kvsOf at hk'
        rw [List.getElem?_map, List.getElem?_eq_getElem hi'] at hk'
        exact Option.some.inj hk'
      injection hg with h1 h2
      subst h1 h2
      have hfd : H1' d = some (.frz od (.dT (kvsOf ks))) := s1 _ _ upd_same
      have m : ks[i] ∈ ks := List.getElem_mem hi'
      have hv := valV_kvs_at nd m
      have gg : ∀ H2, Same H1' H2 → DGet H2 d (.ref q) (some (.int ks[i].2.2)) := fun H2 s2 => .inr ⟨kvsOf ks, kk ks[i].1 ks[i].2.1, q, .inr ⟨od, s2 _ _ hfd⟩, rfl, s2 _ _ hq, hv.symm⟩
      refine ⟨rfl, ?_⟩
      refine ⟨_, rfl, _, rfl, d, _, rfl, gg H1' (Same.refl _), _, _, rfl, rfl, true, eT (pos _ m), iteT ?_⟩
      refine ⟨_, rfl, _, rfl, _, rfl, d, _, rfl, gg H1' (Same.refl _), (by show 1 ≤ sizeLine; decide), fun p1 hp1 => ?_⟩
      have sp1 := same_upd (o := .tup [V.int ks[i].2.2]) hp1
      refine ⟨q, p1, _, _, rfl, rfl, SqT.of (sp1 _ _ hq), SqT.of upd_same, (by intro z; cases z), (by show 3 ≤ sizeLine; decide), (fun z => nomatch z), fun _ p2 hp2 => ?_⟩
      have sp2 := same_upd (o := .tup (g3 ks[i])) hp2
      exact q1 ks[i] (by rw [List.getElem?_eq_getElem hi']) _ _ (sp1.trans sp2) ⟨p2, rfl, eD p2 (sp1.free hp2), upd_same⟩
    · intro H2 acc s2 eD pr hacc
      have el : (kvsOf ks).length = ks.length := by unfold kvsOf; rw [List.length_map]
      rw [el, fm_get] at pr
      have hfd : H2 d = some (.frz od (.dT (kvsOf ks))) := s2 _ _ upd_same
      refine ⟨hfd, ?_⟩
      obtain ⟨ps, e1, e2, e3⟩ := relG_pairs pr
      have s3 : Same H (upd H2 d (.dT (kvsOf ks))) := fun b o e => by
        by_cases hb : b = d
        · subst hb; rw [upd_same, ← hd]; exact e
        · rw [upd_ne hb]
          exact s2 _ _ (by rw [upd_ne hb]; exact e)
      have eD3 : (upd H2 d (.dT (kvsOf ks))) D = some (.lst acc) := by rw [upd_ne hDd.symm]; exact eD
      have e3' : ∀ p ∈ ps, (upd H2 d (.dT (kvsOf ks))) p.1 = some (.tup (g3 p.2)) := fun p hp => by
        rw [upd_ne (ne_of (e3 p hp) hfd (by intro z; cases z))]
        exact e3 p hp
      generalize upd H2 d (.dT (kvsOf ks)) = H3 at *
      refine ⟨_, rfl, _, rfl, _, rfl, D, ps.map toL, rfl, SqL.of (by rw [eD3, e1, List.map_map]; rfl), fun p hp => ?_, fun qs p2 perm pw hp2 => ?_⟩
      · obtain ⟨q, hq, rfl⟩ := List.mem_map.mp hp
        exact ⟨(by show ([q.2.1, q.2.2.1, q.2.2.2] : List Int) ≠ []; exact List.cons_ne_nil _ _), e3' q hq⟩
      · have hq : qs = (qs.map frL).map toL := by
          rw [List.map_map]
          refine (List.map_id _).symm.trans (List.map_congr_left fun q hq => ?_)
          obtain ⟨p, _, rfl⟩ := List.mem_map.mp (perm.mem_iff.mp hq)
          rfl
        have perm' : (qs.map frL).Perm ps := by
          have := perm.map frL
          rw [List.map_map] at this
          have e : ps.map (frL ∘ toL) = ps := (List.map_congr_left fun p _ => rfl).trans (List.map_id _)
          rw [e] at this
          exact this
        have pG : ((qs.map frL).map (·.2)).Perm ks := by rw [← e2]; exact perm'.map _
        have asc : Asc ((qs.map frL).map (·.2)) := by
          refine asc_of ?_ ((pG.map gk).nodup_iff.mpr nd)
          rw [hq] at pw
          have := List.pairwise_map.mp pw
          exact List.pairwise_map.mpr this
        have sp2 := same_upd (H := H3) (o := .lst (qs.map fun q => V.ref q.1)) hp2
        refine ⟨p2, _, rfl, .inl ⟨SqL.of upd_same, fun l hl => ?_⟩⟩
        have sl := same_upd (o := .tup (qs.map fun q => V.ref q.1)) hl
        refine fun x dx nx ndx ne => ?_
        have sx : Same (upd (upd H3 p2 (.lst (qs.map fun q => V.ref q.1))) l (.tup (qs.map fun q => V.ref q.1))) (upd (upd (upd (upd H3 p2 (.lst (qs.map fun q => V.ref q.1))) l (.tup (qs.map fun q => V.ref q.1))) dx (.own x)) x (.ins CR dx (sf h 0 l))) := fun b o e => by
          rw [upd_ne (ne_of_none e nx), upd_ne (ne_of_none e ndx)]
          exact e
        refine ⟨x, dx, h, l, rfl, upd_same, rfl, ?_⟩
        rw [upd_upd]
        refine k x l ((qs.map frL).map (·.2)) _ (((s3.trans sp2).trans sl).trans sx) ⟨dx, upd_same⟩ ⟨qs.map frL, ?_, fun p hp => ?_, rfl⟩ pG asc
        · refine (sx _ _ upd_same).trans ?_
          rw [List.map_map]
          rfl
        · exact sx _ _ (sl _ _ (sp2 _ _ (e3' p (perm'.mem_iff.mp hp))))
end
end Wl
namespace Wl
open PySem L2 Wr
theorem take_snoc {α : Type} {l : List α} {i : Nat} {x : α} (h : l[i]? = some x) : l.take (i + 1) = l.take i ++ [x] := by
  rw [List.take_add_one, h]; rfl
theorem tot_append (p : Grp → Bool) (G G' : List Grp) : tot p (G ++ G') = tot p G + tot p G' := by
  unfold tot; rw [List.filter_append, List.map_append, List.sum_append]
theorem tot_take {p : Grp → Bool} {gs : List Grp} {i : Nat} {x : Grp} (h : gs[i]? = some x) : tot p (gs.take (i + 1)) = tot p (gs.take i) + if p x = true then x.2.2 else 0 := by
  rw [take_snoc h, tot_append, tot_cons, tot_nil]; omega
theorem left_take {g : Int} {gs : List Grp} {i : Nat} {x : Grp} (h : gs[i]? = some x) : left (gs.take (i + 1)) g = (left (gs.take i) g || isLeft g x) := by
  rw [take_snoc h]; unfold left; rw [List.any_append]; simp
theorem refs_at {α : Type} {ps : List (Addr × α)} {i : Nat} {x : V} (h : (ps.map fun p => V.ref p.1)[i]? = some x) : ∃ p, ps[i]? = some p ∧ p ∈ ps ∧ x = .ref p.1 := by
  rw [List.getElem?_map] at h
  cases e : ps[i]? with
  | none => rw [e] at h; cases h
  | some p => rw [e] at h; exact ⟨p, rfl, List.mem_of_getElem? e, (Option.some.inj h).symm⟩
theorem iteD {p A B : Prop} [Decidable p] (h : p) (a : A) : if decide p = true then A else B := by rw [decide_eq_true h]; exact iteT a
theorem iteDn {p A B : Prop} [Decidable p] (h : ¬ p) (b : B) : if decide p = true then A else B := by rw [decide_eq_false h]; exact iteF b
section
variable {P : Program} {w : World} {K : PySem.W.Frag} {mg : Str → Option Value} {base : Heap} {CH CS CR : Addr}
abbrev sRu : Stmt := top 20
theorem scRu : FnScope ["number", "room"] ["number", "room"] (defScope sRu) := ⟨rfl, rfl, rfl, by decide +kernel, rfl, by decide +kernel, by decide +kernel⟩
def spRu : Sp := fun vs H Q _ => ∃ n r : Int, vs = [.int n, .int r] ∧ 1 ≤ r ∧ r ≤ 10 ^ 12 ∧ Q (.int (ceil n r)) H
theorem room_wide {i r : Int} (h1 : 1 ≤ r) (h2 : r ≤ 10 ^ 12) : CDivW i r := wide_div (b := 40) (by omega) (by
  have e : (2 : Nat) ^ 40 = 1099511627776 := by decide
  have e2 : (10 : Int) ^ 12 = 1000000000000 := by decide
  rw [e]; rw [e2] at h2; omega) (by decide) (by decide)
theorem ok_ru {f : Addr} {fd : FuncData} (F : Fun K "rounded_up" "rounded_up" sRu f fd) : FnOk P w K mg base CX0 1 f fd ["number", "room"] spRu := by
  refine F.ok scRu (fun vs H Q E h => ?_) (fun cdv A outer s H vs Q E hr h => ?_)
  · obtain ⟨n, r, rfl, _⟩ := h
    rfl
  · obtain ⟨n, r, rfl, h1, h2, k⟩ := h
    refine ⟨_, pss_one (ps_ret (pe_un un_neg (pe_op op_fdivW (pe_un un_neg (pv 0)) (pv 1)))), ?_⟩
    refine ⟨_, rfl, n, rfl, _, rfl, -n, r, rfl, rfl, room_wide h1 h2, _, rfl, ?_⟩
    show Q (V.int (-(-n / r))) H
    rw [ceil_neg n (by omega)]
    exact k
abbrev sCa : Stmt := top 21
theorem scCa : FnScope ["standing", "gap", "up", "down", "left", "stand", "want", "many"] ["standing", "gap"] (defScope sCa) := ⟨rfl, rfl, rfl, by decide +kernel, rfl, by decide +kernel, by decide +kernel⟩
def spCa (CR : Addr) : Sp := fun vs H Q _ => ∃ (s h t : Addr) (g : Int) (gs : List Grp), vs = [.ref s, .int g] ∧ StandAt CR H s h t ∧ GAt H t gs ∧
  ∀ H' p, Same H H' → H' p = some (.tup [.int (up gs g), .int (down gs g), .bl (left gs g)]) → Q (.ref p) H'
theorem ok_ca {f : Addr} {fd : FuncData} (F : Fun K "counts_at" "counts_at" sCa f fd) (T : Tx K mg CH CS CR) : FnOk P w K mg base CX0 1 f fd ["standing", "gap"] (spCa CR) := by
  refine F.ok scCa (fun vs H Q E h => ?_) (fun cdv A outer s H vs Q E hr h => ?_)
  · obtain ⟨s, h, t, g, gs, rfl, _⟩ := h
    rfl
  · obtain ⟨a, h, t, g, gs, rfl, ⟨dx, ha⟩, ⟨ps, ht, hp, hgs⟩, k⟩ := h
    refine ⟨_, pss_cons (ps_set (i := 2) scCa.nd rfl (Or.inl rfl) pe_int) (pss_cons (ps_set (i := 3) scCa.nd rfl (Or.inl rfl) pe_int) (pss_cons (ps_set (i := 4) scCa.nd rfl (Or.inl rfl) pe_bl)
      (pss_cons (ps_for PassesOwn.never rfl (pi_tup (pe_fld (pv 0) rfl)) (pg_tup rfl (pgs_cons (pg_name (i := 5) scCa.nd rfl (Or.inl rfl)) (pgs_cons (pg_name (i := 6) scCa.nd rfl (Or.inl rfl)) (pgs_cons (pg_name (i := 7) scCa.nd rfl (Or.inl rfl)) pgs_nil))))
        (C8.pss_cut (ps_if (pt_chain op_le op_lt (pv 5) (pv 1) (pv 6)) (pss_one (ps_aug (i := 2) scCa.nd rfl (.inl rfl) (pv 7) ip_add)) pss_nil)
        (C8.pss_cut (ps_if (pt_chain op_le op_lt (pv 6) (pv 1) (pv 5)) (pss_one (ps_aug (i := 3) scCa.nd rfl (.inl rfl) (pv 7) ip_add)) pss_nil)
        (pss_one (ps_if (PW.pt (pw_and (pt_cmpR op_ne (pv 5) (pv 6) (nomark _)) (pw_and1 (pt_cmpR op_gt (pe_callB (call_maxM rfl) (by rfl) T.max (by decide +kernel) (pa_cons (pv 5) (pa_cons (pv 6) pa_nil))) (pv 1) (nomark _)))))
          (pss_one (ps_set (i := 4) scCa.nd rfl (Or.inl rfl) pe_bl)) pss_nil)))))
      (pss_one (ps_ret (pe_tup (pa_cons (pv 2) (pa_cons (pv 3) (pa_cons (pv 4) pa_nil))))))))), ?_⟩
    refine ⟨_, rfl, a, CR, dx, _, _, rfl, ha, T.kR.cl, T.nRg, sf_groups _ _ _, t, rfl, ⟨_, SqT.of ht⟩, ?_⟩
    refine for_it (walk_tup (K := K) (a := t) (xs := ps.map fun p => V.ref p.1)) (fun i σ H' => H' = H ∧ ∃ v5 v6 v7, σ = [some (.ref a), some (.int g), some (.int (up (gs.take i) g)), some (.int (down (gs.take i) g)), some (.bl (left (gs.take i) g)), v5, v6, v7])
      ⟨rfl, none, none, none, rfl⟩ (fun i σ H' _ q => by rw [q.1]; exact SqT.of ht) ?_ ?_
    · rintro i x σ H1 H1' hi ⟨rfl, v5, v6, v7, rfl⟩ ⟨rfl, hx⟩
      obtain ⟨p, hpi, m, rfl⟩ := refs_at hx
      have hg : gs[i]? = some p.2 := by rw [← hgs, List.getElem?_map, hpi]; rfl
      have hgrp := hp p m
      obtain ⟨pa, sd, wt, mn⟩ := p
      refine ⟨pa, _, rfl, SqT.of hgrp, rfl, _, _, rfl, _, _, rfl, _, _, rfl, rfl, ?_⟩
      have hup : up (gs.take (i + 1)) g = up (gs.take i) g + if isUp g (sd, wt, mn) = true then mn else 0 := tot_take hg
      have hdn : down (gs.take (i + 1)) g = down (gs.take i) g + if isDown g (sd, wt, mn) = true then mn else 0 := tot_take hg
      have hlf : left (gs.take (i + 1)) g = (left (gs.take i) g || isLeft g (sd, wt, mn)) := left_take hg
      have eu : isUp g (sd, wt, mn) = true ↔ sd ≤ g ∧ g < wt := by unfold isUp; simp only [Bool.and_eq_true, decide_eq_true_eq]
      have ed : isDown g (sd, wt, mn) = true ↔ wt ≤ g ∧ g < sd := by unfold isDown; simp only [Bool.and_eq_true, decide_eq_true_eq]
      have el : isLeft g (sd, wt, mn) = true ↔ sd ≠ wt ∧ g < max sd wt := by unfold isLeft; simp
      refine ⟨fun σ' H' => H' = H1' ∧ σ' = [some (.ref a), some (.int g), some (.int (up (gs.take (i + 1)) g)), some (.int (down (gs.take i) g)), some (.bl (left (gs.take i) g)), some (.int sd), some (.int wt), some (.int mn)], ?_, ?_⟩
      · refine ⟨_, rfl, _, rfl, _, _, rfl, rfl, _, rfl, ?_⟩
        by_cases h1 : sd ≤ g
        · refine iteD h1 ⟨_, rfl, _, _, rfl, rfl, _, rfl, ?_⟩
          by_cases h2 : g < wt
          · refine iteD h2 ⟨_, rfl, _, rfl, _, _, rfl, rfl, rfl, ?_⟩
            rw [hup, if_pos (eu.mpr ⟨h1, h2⟩)]; rfl
          · refine iteDn h2 ⟨rfl, ?_⟩
            rw [hup, if_neg (fun z => h2 (eu.mp z).2), Int.add_zero]; rfl
        · refine iteDn h1 ⟨false, rfl, iteF ⟨rfl, ?_⟩⟩
          rw [hup, if_neg (fun z => h1 (eu.mp z).1), Int.add_zero]; rfl
      · rintro σ' H' ⟨rfl, rfl⟩
        refine ⟨fun σ'' H'' => H'' = H' ∧ σ'' = [some (.ref a), some (.int g), some (.int (up (gs.take (i + 1)) g)), some (.int (down (gs.take (i + 1)) g)), some (.bl (left (gs.take i) g)), some (.int sd), some (.int wt), some (.int mn)], ?_, ?_⟩
        · refine ⟨_, rfl, _, rfl, _, _, rfl, rfl, _, rfl, ?_⟩
          by_cases h1 : wt ≤ g
          · refine iteD h1 ⟨_, rfl, _, _, rfl, rfl, _, rfl, ?_⟩
            by_cases h2 : g < sd
            · refine iteD h2 ⟨_, rfl, _, rfl, _, _, rfl, rfl, rfl, ?_⟩
              rw [hdn, if_pos (ed.mpr ⟨h1, h2⟩)]; rfl
            · refine iteDn h2 ⟨rfl, ?_⟩
              rw [hdn, if_neg (fun z => h2 (ed.mp z).2), Int.add_zero]
          · refine iteDn h1 ⟨false, rfl, iteF ⟨rfl, ?_⟩⟩
            rw [hdn, if_neg (fun z => h1 (ed.mp z).1), Int.add_zero]
        · rintro σ2 H2 ⟨rfl, rfl⟩
          refine ⟨_, rfl, _, rfl, rfl, ?_⟩
          by_cases h1 : sd = wt
          · refine ⟨false, eNF (by rw [h1]), iteF (iteF ⟨rfl, some (.int sd), some (.int wt), some (.int mn), ?_⟩)⟩
            rw [hlf, Bool.eq_false_iff.mpr (fun z => (el.mp z).1 h1), Bool.or_false]
          · refine ⟨true, eNT (fun z => h1 (V.int.inj z)), iteT ⟨_, rfl, _, rfl, _, _, rfl, _, rfl, _, _, rfl, rfl, _, rfl, ?_⟩⟩
            by_cases h2 : g < max sd wt
            · refine iteD h2 ⟨rfl, some (.int sd), some (.int wt), some (.int mn), ?_⟩
              rw [hlf, el.mpr ⟨h1, h2⟩, Bool.or_true]; rfl
            · refine iteDn h2 ⟨rfl, some (.int sd), some (.int wt), some (.int mn), ?_⟩
              rw [hlf, Bool.eq_false_iff.mpr (fun z => h2 (el.mp z).2), Bool.or_false]
    · rintro σ H1 ⟨rfl, v5, v6, v7, rfl⟩
      have hl : (ps.map fun p => V.ref p.1).length = gs.length := by rw [List.length_map, ← hgs, List.length_map]
      rw [hl, List.take_length]
      refine ⟨_, rfl, _, rfl, _, rfl, (by show 3 ≤ sizeLine; decide), fun p hpn => ?_⟩
      exact k _ p (same_upd hpn) upd_same
abbrev sCb : Stmt := top 22
theorem scCb : FnScope ["told", "is_below", "room", "up", "down", "left", "most"] ["told", "is_below", "room"] (defScope sCb) := ⟨rfl, rfl, rfl, by decide +kernel, rfl, by decide +kernel, by decide +kernel⟩
def spCb : Sp := fun vs H Q _ => ∃ (p : Addr) (r u d : Int) (l : Bool), vs = [.ref p, .bl true, .int r] ∧ H p = some (.tup [.int u, .int d, .bl l]) ∧ 1 ≤ r ∧ r ≤ 10 ^ 12 ∧
  ∀ H' q, Same H H' → H' q = some (.tup [.int (max (max (ceil u r) (ceil d r)) (b2i l)), .int (max (max (ceil u r) (ceil d r)) (b2i l))]) → Q (.ref q) H'
theorem ok_cb {f : Addr} {fd : FuncData} (F : Fun K "crossings_by" "crossings_by" sCb f fd) (T : Tx K mg CH CS CR) (DR : Dn P w K mg base "rounded_up" 1 ["number", "room"] spRu) : FnOk P w K mg base CX0 2 f fd ["told", "is_below", "room"] spCb := by
  refine F.ok scCb (fun vs H Q E h => ?_) (fun cdv A outer s H vs Q E hr h => ?_)
  · obtain ⟨p, r, u, d, l, rfl, _⟩ := h
    rfl
  · obtain ⟨p, r, u, d, l, rfl, hp, h1, h2, k⟩ := h
    refine ⟨_, pss_cons (ps_asg (pv 0) (pg_tup rfl (pgs_cons (pg_name (i := 3) scCb.nd rfl (Or.inl rfl)) (pgs_cons (pg_name (i := 4) scCb.nd rfl (Or.inl rfl)) (pgs_cons (pg_name (i := 5) scCb.nd rfl (Or.inl rfl)) pgs_nil)))))
      (pss_cons (ps_if (pt_val (pv 1)) (pss_cons (ps_set (i := 6) scCb.nd rfl (Or.inl rfl) (pe_callB (call_max3 rfl) (by rfl) T.max (by decide +kernel)
          (pa_cons (pe_call DR.ok hr (by rfl) DR.at_ DR.kp DR.bd .nil pass0 (pa_cons (pv 3) (pa_cons (pv 2) pa_nil))) (pa_cons (pe_call DR.ok hr (by rfl) DR.at_ DR.kp DR.bd .nil pass0 (pa_cons (pv 4) (pa_cons (pv 2) pa_nil)))
            (pa_cons (pe_callTy call_int1 (by rfl) T.int (by decide +kernel) (pa_cons (pv 5) pa_nil)) pa_nil)))))
          (pss_one (ps_ret (pe_tup (pa_cons (pv 6) (pa_cons (pv 6) pa_nil)))))) pss_nil)
      (pss_cons ps_never (pss_one ps_never))), ?_⟩
    refine ⟨_, rfl, p, _, rfl, SqT.of hp, rfl, _, _, rfl, _, _, rfl, _, _, rfl, rfl, ?_⟩
    refine ⟨_, rfl, true, rfl, iteT ?_⟩
    refine ⟨_, rfl, _, rfl, u, r, rfl, h1, h2, _, rfl, _, rfl, d, r, rfl, h1, h2, _, rfl, .inr ⟨l, rfl, _, _, _, rfl, ?_⟩⟩
    refine ⟨_, rfl, _, rfl, (by show 2 ≤ sizeLine; decide), fun q hq => ?_⟩
    exact k _ q (same_upd hq) upd_same
abbrev sCx : Stmt := top 23
theorem scCx : FnScope ["standing", "gap"] ["standing", "gap"] (defScope sCx) := ⟨rfl, rfl, rfl, by decide +kernel, rfl, by decide +kernel, by decide +kernel⟩
def spCx (CH CR : Addr) : Sp := fun vs H Q _ => ∃ (s h t : Addr) (n r g : Int) (gs : List Grp), vs = [.ref s, .int g] ∧ StandAt CR H s h t ∧ HouseAt CH H h n r ∧ GAt H t gs ∧ 1 ≤ r ∧ r ≤ 10 ^ 12 ∧ 0 ≤ g ∧
  ∀ H' q, Same H H' → H' q = some (.tup [.int (most r gs g), .int (most r gs g)]) → Q (.ref q) H'
theorem ok_cx {f : Addr} {fd : FuncData} (F : Fun K "crossings_at" "crossings_at" sCx f fd) (T : Tx K mg CH CS CR) (DC : Dn P w K mg base "counts_at" 1 ["standing", "gap"] (spCa CR)) (DB : Dn P w K mg base "crossings_by" 2 ["told", "is_below", "room"] spCb) :
    FnOk P w K mg base CX0 3 f fd ["standing", "gap"] (spCx CH CR) := by
  refine F.ok scCx (fun vs H Q E h => ?_) (fun cdv A outer s H vs Q E hr h => ?_)
  · obtain ⟨s, h, t, n, r, g, gs, rfl, _⟩ := h
    rfl
  · obtain ⟨a, h, t, n, r, g, gs, rfl, ⟨dx, ha⟩, ⟨dh, hh⟩, hg, h1, h2, h3, k⟩ := h
    have hr1 : Room 1 _ := hr.mono (by decide)
    refine ⟨_, pss_one (ps_ret (pe_call DB.ok hr (by rfl) DB.at_ DB.kp DB.bd .nil pass0 (pa_cons (pe_call DC.ok hr1 (by rfl) DC.at_ DC.kp DC.bd .nil pass0 (pa_cons (pv 0) (pa_cons (pv 1) pa_nil)))
      (pa_cons (pe_cmpR op_le (pe_fld (pv 0) rfl) (pv 1) (nomark _)) (pa_cons (pe_fld (pe_fld (pv 0) rfl) rfl) pa_nil))))), ?_⟩
    refine ⟨_, rfl, _, rfl, a, h, t, g, gs, rfl, ⟨dx, ha⟩, hg, fun H1 p s1 hp => ?_⟩
    have ha1 := s1 _ _ ha
    have hh1 := s1 _ _ hh
    refine ⟨_, rfl, a, CR, dx, _, _, rfl, ha1, T.kR.cl, T.nRl, sf_lift _ _ _, _, rfl, _, _, rfl, rfl, ?_⟩
    refine ⟨_, rfl, a, CR, dx, _, _, rfl, ha1, T.kR.cl, T.nRh, sf_house _ _ _, h, CH, dh, _, _, rfl, hh1, T.kH.cl, T.nHr, hf_room _ _, ?_⟩
    refine ⟨p, r, up gs g, down gs g, left gs g, ?_, hp, h1, h2, fun H2 q s2 hq => ?_⟩
    · show [V.ref p, V.bl (decide (0 ≤ g)), V.int r] = _
      rw [decide_eq_true h3]
    · exact k H2 q (s1.trans s2) hq
abbrev sGp : Stmt := top 24
theorem scGp : FnScope ["standing"] ["standing"] (defScope sGp) := ⟨rfl, rfl, rfl, by decide +kernel, rfl, by decide +kernel, by decide +kernel⟩
def spGp (CH CR : Addr) : Sp := fun vs H Q _ => ∃ (s h t : Addr) (n r : Int), vs = [.ref s] ∧ StandAt CR H s h t ∧ HouseAt CH H h n r ∧ 2 ≤ n ∧ n ≤ 40 ∧
  ∀ H' q, Same H H' → H' q = some (.lst (rgV 0 (n - 1))) → Q (.ref q) H'
theorem ok_gp {f : Addr} {fd : FuncData} (F : Fun K "gaps_of" "gaps_of" sGp f fd) (T : Tx K mg CH CS CR) : FnOk P w K mg base CX0 1 f fd ["standing"] (spGp CH CR) := by
  refine F.ok scGp (fun vs H Q E h => ?_) (fun cdv A outer s H vs Q E hr h => ?_)
  · obtain ⟨s, h, t, n, r, rfl, _⟩ := h
    rfl
  · obtain ⟨a, h, t, n, r, rfl, ⟨dx, ha⟩, ⟨dh, hh⟩, h1, h2, k⟩ := h
    refine ⟨_, pss_one (ps_ret (pe_listRg rfl (by rfl) T.list (prg_1 (by rfl) T.range (pe_op op_sub (pe_fld (pe_fld (pv 0) rfl) rfl) pe_int)))), ?_⟩
    refine ⟨_, rfl, a, CR, dx, _, _, rfl, ha, T.kR.cl, T.nRh, sf_house _ _ _, h, CH, dh, _, _, rfl, hh, T.kH.cl, T.nHf, hf_floors _ _, _, _, rfl, rfl, _, rfl, ?_⟩
    exact ⟨RgOk.of_le (by omega) (by omega) (by omega) (by omega), fun q hq => k _ q (same_upd hq) upd_same⟩
abbrev sNu : Stmt := top 25
theorem scNu : FnScope ["standing", "gap"] ["standing"] (defScope sNu) := ⟨rfl, rfl, rfl, by decide +kernel, rfl, by decide +kernel, by decide +kernel⟩
def spNu (CH CR : Addr) : Sp := fun vs H Q _ => ∃ (s h t : Addr) (n : Nat) (r : Int) (gs : List Grp), vs = [.ref s] ∧ StandAt CR H s h t ∧ HouseAt CH H h n r ∧ GAt H t gs ∧ 2 ≤ n ∧ n ≤ 40 ∧ 1 ≤ r ∧ r ≤ 10 ^ 12 ∧
  ∀ H' q, Same H H' → TAt H' q (nums n r gs) → Q (.ref q) H'
theorem fm_some {α β : Type} (f : α → β) : ∀ l : List α, l.filterMap (fun x => some (f x)) = l.map f
  | [] => rfl
  | x :: l => by rw [List.filterMap_cons, List.map_cons, fm_some f l]
theorem ok_nu {f : Addr} {fd : FuncData} (F : Fun K "numbers" "numbers" sNu f fd) (T : Tx K mg CH CS CR) (DG : Dn P w K mg base "gaps_of" 1 ["standing"] (spGp CH CR)) (DC : Dn P w K mg base "crossings_at" 3 ["standing", "gap"] (spCx CH CR)) :
    FnOk P w K mg base CX0 4 f fd ["standing"] (spNu CH CR) := by
  refine F.ok scNu (fun vs H Q E h => ?_) (fun cdv A outer s H vs Q E hr h => ?_)
  · obtain ⟨s, h, t, n, r, gs, rfl, _⟩ := h
    rfl
  · obtain ⟨a, h, t, n, r, gs, rfl, ha, hh, hg, n1, n2, h1, h2, k⟩ := h
    have hr1 : Room 1 _ := hr.mono (by decide)
    refine ⟨_, pss_one (ps_ret (pe_callTy call_tuple_of (by rfl) T.tuple (by decide +kernel) (pa_cons
        (pe_lc (own := [("gap", 1)]) (g := gName 1) (tt := tYes) rfl scNu.nd (pi_list (pe_call DG.ok hr1 (by rfl) DG.at_ DG.kp DG.bd .nil pass0 (pa_cons (pv 0) pa_nil))) (blkOk_by (own := [("gap", 1)]) (N := ["standing", "gap"]) (sc := defScope sNu) (by decide +kernel))
          (fun _ _ _ _ _ => pg_name (i := 1) scNu.nd rfl (Or.inl rfl)) (fun _ _ _ _ _ => pts_nil)
          (fun _ _ _ _ _ => pe_callB (cr_sumTK K rfl rfl) (by rfl) T.sum (by decide +kernel) (pa_cons (pe_call DC.ok hr (by rfl) DC.at_ DC.kp DC.bd .nil pass0 (pa_cons (pv 0) (pa_cons (pv 1) pa_nil))) pa_nil))) pa_nil))), ?_⟩
    refine ⟨_, rfl, a, h, t, n, r, rfl, ha, hh, by omega, by omega, fun H1 q s1 hq => ?_⟩
    have erg : rgV 0 ((n : Int) - 1) = (List.range (n - 1)).map fun i => V.int (i : Nat) := by
      unfold rgV
      rw [show ((n : Int) - 1 - 0).toNat = n - 1 by omega]
      exact List.map_congr_left fun i _ => by rw [Int.zero_add]
    rw [erg] at hq
    refine ⟨q, rfl, ⟨_, SqL.of hq⟩, fun D hD => ?_⟩
    refine lc_data (walk_list (K := K) (a := q) (xs := (List.range (n - 1)).map fun i => V.int (i : Nat))) (fun i => some (num r gs (i : Nat))) RelI (fun _ _ _ _ _ q => q) (by rw [List.length_map, List.length_range]; omega) hD (fun H s => SqL.of (s _ _ hq)) same_YAt ?_ ?_
    · rintro i x H2 H2' Q2 R2 hi s2 eD ⟨rfl, hx⟩ q1 q2
      rw [List.length_map, List.length_range] at hi
      have ex : x = V.int (i : Nat) := by
        have hx' : ((List.range (n - 1)).map fun i => V.int (i : Nat))[i]? = some x := hx
        rw [List.getElem?_map, List.getElem?_range hi] at hx'
        exact (Option.some.inj hx').symm
      subst ex
      have s12 := s1.trans s2
      refine ⟨rfl, ?_⟩
      refine ⟨_, rfl, _, rfl, a, h, t, n, r, (i : Nat), gs, rfl, ha.same s12, hh.same s12, hg.same s12, h1, h2, by omega, fun H3 p s3 hp => ?_⟩
      refine ⟨p, [most r gs (i : Nat), most r gs (i : Nat)], rfl, SqT.of hp, ?_⟩
      refine q1 _ rfl _ _ s3 ?_
      show V.int ([most r gs (i : Nat), most r gs (i : Nat)] : List Int).sum = V.int (num r gs (i : Nat))
      refine congrArg V.int ?_
      unfold num
      rw [List.sum_cons, List.sum_cons, List.sum_nil]
      omega
    · intro H2 acc s2 eD pr _
      rw [List.length_map, List.length_range, fm_some] at pr
      rw [relI_eq pr] at eD
      refine ⟨D, _, rfl, .inl ⟨SqL.of eD, fun l hl => ?_⟩⟩
      exact k _ l ((s1.trans s2).trans (same_upd hl)) upd_same
abbrev sRe : Stmt := top 26
theorem scRe : FnScope ["standing"] ["standing"] (defScope sRe) := ⟨rfl, rfl, rfl, by decide +kernel, rfl, by decide +kernel, by decide +kernel⟩
def spRe (CH CR : Addr) : Sp := fun vs H Q _ => ∃ (s h t : Addr) (n : Nat) (r : Int) (gs : List Grp), vs = [.ref s] ∧ StandAt CR H s h t ∧ HouseAt CH H h n r ∧ GAt H t gs ∧ 2 ≤ n ∧ n ≤ 40 ∧ 1 ≤ r ∧ r ≤ 10 ^ 12 ∧
  ∀ H', Same H H' → Q (.int (rest n r gs)) H'
theorem ok_re {f : Addr} {fd : FuncData} (F : Fun K "rest" "rest" sRe f fd) (T : Tx K mg CH CS CR) (DN : Dn P w K mg base "numbers" 4 ["standing"] (spNu CH CR)) : FnOk P w K mg base CX0 5 f fd ["standing"] (spRe CH CR) := by
  refine F.ok scRe (fun vs H Q E h => ?_) (fun cdv A outer s H vs Q E hr h => ?_)
  · obtain ⟨s, h, t, n, r, gs, rfl, _⟩ := h
    rfl
  · obtain ⟨a, h, t, n, r, gs, rfl, ha, hh, hg, n1, n2, h1, h2, k⟩ := h
    refine ⟨_, pss_one (ps_ret (pe_callB (cr_sumT rfl) (by rfl) T.sum (by decide +kernel) (pa_cons (pe_call DN.ok hr (by rfl) DN.at_ DN.kp DN.bd .nil pass0 (pa_cons (pv 0) pa_nil)) pa_nil))), ?_⟩
    refine ⟨_, rfl, a, h, t, n, r, gs, rfl, ha, hh, hg, n1, n2, h1, h2, fun H1 q s1 hq => ?_⟩
    exact ⟨q, nums n r gs, rfl, SqT.of hq, k _ s1⟩
end
end Wl
namespace Wl
open PySem L2 Wr
def CRow (n : Nat) (ns : List Int) : Prop := ns.length = n ∧ ∀ x ∈ ns, 0 ≤ x ∧ x ≤ 10 ^ 30
def cnt (n : Nat) (sel : Grp → Int) (gs : List Grp) : List Int := (List.range n).map fun f => tot (fun g => decide (sel g = (f : Nat))) gs
theorem cnt_length (n : Nat) (sel : Grp → Int) (gs : List Grp) : (cnt n sel gs).length = n := by unfold cnt; rw [List.length_map, List.length_range]
theorem cnt_get {n : Nat} {sel : Grp → Int} {gs : List Grp} {j : Nat} (h : j < n) : (cnt n sel gs)[j]? = some (tot (fun g => decide (sel g = (j : Nat))) gs) := by
  unfold cnt; rw [List.getElem?_map, List.getElem?_range h]; rfl
theorem cnt_nil (n : Nat) (sel : Grp → Int) : cnt n sel [] = List.replicate n 0 := by
  unfold cnt
  rw [show (fun f : Nat => tot (fun g => decide (sel g = (f : Nat))) []) = fun _ => (0 : Int) from rfl]
  rw [List.map_const', List.length_range]
theorem cnt_set {n : Nat} {sel : Grp → Int} {gs : List Grp} {i : Nat} {x : Grp} {j : Nat} (h : gs[i]? = some x) (e : sel x = (j : Nat)) (hj : j < n) :
    (cnt n sel (gs.take i)).set j (tot (fun g => decide (sel g = (j : Nat))) (gs.take i) + x.2.2) = cnt n sel (gs.take (i + 1)) := by
  refine List.ext_getElem? fun m => ?_
  by_cases hm : m < n
  · rw [cnt_get hm, tot_take h]
    by_cases hjm : j = m
    · subst hjm
      rw [List.getElem?_set_self (by rw [cnt_length]; exact hj), if_pos (by simpa using e)]
    · rw [List.getElem?_set_ne hjm, cnt_get hm, if_neg (by rw [e]; simp; omega), Int.add_zero]
  · rw [List.getElem?_eq_none (by rw [List.length_set, cnt_length]; omega), List.getElem?_eq_none (by rw [cnt_length]; omega)]
theorem map_int_set (l : List Int) (j : Nat) (v : Int) : (l.map V.int).set j (.int v) = (l.set j v).map V.int := by rw [List.map_set]
theorem map_int_get {l : List Int} {j : Nat} {v : Int} (h : l[j]? = some v) : (l.map V.int)[j]? = some (.int v) := by rw [List.getElem?_map, h]; rfl
theorem same_w {H H1 : Hp} {S : Addr} {o : HO} (s : Same H H1) (h : H S = none) : Same H (upd H1 S o) := fun b u e => by rw [upd_ne (ne_of_none e h)]; exact s _ _ e
theorem ixN_of {n : Nat} {i : Int} {j : Nat} (e : i = (j : Nat)) (h : j < n) : ixN n i = some j := by
  unfold ixN
  rw [if_pos (by omega), if_pos (by omega), e, Int.toNat_natCast]
theorem rep_int (n : Nat) (v : V) : (List.replicate n [v]).flatten = List.replicate n v := by
  induction n with
  | zero => rfl
  | succ n ih => rw [List.replicate_succ, List.flatten_cons, ih]; rfl
section
variable {P : Program} {w : World} {K : PySem.W.Frag} {mg : Str → Option Value} {base : Heap} {CH CS CR : Addr}
abbrev sCr : Stmt := top 29
theorem scCr : FnScope ["house", "thing", "item"] ["house", "thing"] (defScope sCr) := ⟨rfl, rfl, rfl, by decide +kernel, rfl, by decide +kernel, by decide +kernel⟩
def spCr (CH : Addr) : Sp := fun vs H Q _ => ∃ (h t : Addr) (n : Nat) (r : Int) (ns : List Int), vs = [.ref h, .ref t] ∧ HouseAt CH H h n r ∧ TAt H t ns ∧ CRow n ns ∧ n ≤ 40 ∧ ∀ H', Same H H' → Q (.bl true) H'
theorem ok_cr {f : Addr} {fd : FuncData} (F : Fun K "is_count_row" "is_count_row" sCr f fd) (T : Tx K mg CH CS CR) (DW : Dn P w K mg base "is_within" 2 ["thing", "least", "most"] spWith) : FnOk P w K mg base CX0 3 f fd ["house", "thing"] (spCr CH) := by
  refine F.ok scCr (fun vs H Q E h => ?_) (fun cdv A outer s H vs Q E hr h => ?_)
  · obtain ⟨h, t, n, r, ns, rfl, _⟩ := h
    rfl
  · obtain ⟨h, t, n, r, ns, rfl, ⟨dh, hh⟩, ht, ⟨hl, hb⟩, hn, k⟩ := h
    obtain ⟨tk, hM⟩ := T.mCount
    have ht' : H t = some (.tup (ns.map V.int)) := ht
    refine ⟨_, pss_cons (ps_if (PW.pt (pw_or (pt_not (pt_val (pe_callB call_isi (by rfl) T.isinstance (by decide +kernel) (pa_cons (pv 1) (pa_cons (pe_bltn (v := .ty "tuple") (by rfl) T.tuple (by decide +kernel) rfl) pa_nil)))))
        (pw_or1 (pt_cmpR op_ne (pe_callB call_len_seq (by rfl) T.len PySem.boot_len (pa_cons (pv 1) pa_nil)) (pe_fld (pv 0) rfl) (nomark _))))) (pss_one (ps_ret pe_bl)) pss_nil)
      (pss_one (ps_ret (pe_callB (cr_all rfl) (by rfl) T.all (by decide +kernel) (pa_cons
          (pe_lc (own := [("item", 2)]) (g := gName 2) (tt := tYes) rfl scCr.nd (pi_tup (pv 1)) (blkOk_by (own := [("item", 2)]) (N := ["house", "thing", "item"]) (sc := defScope sCr) (by decide +kernel)) (fun _ _ _ _ _ => pg_name (i := 2) scCr.nd rfl (Or.inl rfl)) (fun _ _ _ _ _ => pts_nil)
            (fun _ _ _ _ _ => pe_call DW.ok hr (by rfl) DW.at_ DW.kp DW.bd .nil pass0 (pa_cons (pv 2) (pa_cons pe_int (pa_cons (pe_glob (v := .int (10 ^ 30)) (by rfl) hM ⟨_, rfl⟩) pa_nil))))) pa_nil)))), ?_⟩
    refine ⟨_, rfl, .ref t, .ty "tuple", _, _, true, rfl, .ty "tuple", .base (.tup ht'), kit_ty (by decide +kernel), true, rfl, iteF ?_⟩
    refine ⟨_, rfl, t, _, rfl, .inr (SqT.of ht'), _, rfl, h, CH, dh, _, _, rfl, hh, T.kH.cl, T.nHf, hf_floors _ _, rfl, false, eNF (by rw [List.length_map, hl]), iteF ?_⟩
    refine ⟨_, rfl, t, rfl, ⟨_, SqT.of ht'⟩, fun D hD => ?_⟩
    refine lc_data (walk_tup (K := K) (a := t) (xs := ns.map V.int)) (fun _ => some true) RelB (fun _ _ _ _ _ q => q) (by rw [List.length_map, hl]; omega) hD (fun H s => SqT.of (s _ _ ht')) same_YAt ?_ ?_
    · rintro i x H1 H1' Q1 R1 hi s1 eD ⟨rfl, hx⟩ q1 q2
      rw [List.length_map] at hi
      have ex : x = V.int ns[i] := by
        have hx' : (ns.map V.int)[i]? = some x := hx
        rw [List.getElem?_map, List.getElem?_eq_getElem hi] at hx'
        exact (Option.some.inj hx').symm
      subst ex
      obtain ⟨b1, b2⟩ := hb _ (List.getElem_mem hi)
      refine ⟨rfl, _, rfl, ns[i], 0, 10 ^ 30, rfl, b1, b2, ?_⟩
      exact q1 true rfl _ _ (Same.refl _) rfl
    · intro H2 acc s2 eD pr _
      rw [relB_eq pr, fm_true] at eD
      exact ⟨D, _, rfl, SqL.of eD, by rw [all_true]; exact k _ s2⟩
abbrev sCc : Stmt := top 30
theorem scCc : FnScope ["house", "stands", "wants"] ["house", "stands", "wants"] (defScope sCc) := ⟨rfl, rfl, rfl, by decide +kernel, rfl, by decide +kernel, by decide +kernel⟩
structure Cts (CH : Addr) (H : Hp) (h S W : Addr) (n : Nat) (r : Int) (ss ws : List Int) : Prop where
  house : HouseAt CH H h n r
  st : TAt H S ss
  wt : TAt H W ws
  s1 : CRow n ss
  w1 : CRow n ws
  n2 : 2 ≤ n
  n40 : n ≤ 40
  r1 : 1 ≤ r
  r12 : r ≤ 10 ^ 12
  sum : ss.sum = ws.sum
theorem Cts.same {H H' : Hp} {h S W : Addr} {n : Nat} {r : Int} {ss ws : List Int} (c : Cts CH H h S W n r ss ws) (s : Same H H') : Cts CH H' h S W n r ss ws :=
  ⟨c.house.same s, c.st.same s, c.wt.same s, c.s1, c.w1, c.n2, c.n40, c.r1, c.r12, c.sum⟩
def spCc (CH : Addr) : Sp := fun vs H Q _ => ∃ (h S W : Addr) (n : Nat) (r : Int) (ss ws : List Int), vs = [.ref h, .ref S, .ref W] ∧ Cts CH H h S W n r ss ws ∧ ∀ H', Same H H' → Q .non H'
theorem ok_cc {f : Addr} {fd : FuncData} (F : Fun K "check_counts" "check_counts" sCc f fd) (T : Tx K mg CH CS CR) (DC : Dn P w K mg base "is_count_row" 3 ["house", "thing"] (spCr CH)) : FnOk P w K mg base CX0 4 f fd ["house", "stands", "wants"] (spCc CH) := by
  refine F.ok scCc (fun vs H Q E h => ?_) (fun cdv A outer s H vs Q E hr h => ?_)
  · obtain ⟨h, S, W, n, r, ss, ws, rfl, _⟩ := h
    rfl
  · obtain ⟨h, S, W, n, r, ss, ws, rfl, c, k⟩ := h
    refine ⟨_, pss_one (ps_if (PW.pt (pw_or (pt_not (pt_val (pe_call DC.ok hr (by rfl) DC.at_ DC.kp DC.bd .nil pass0 (pa_cons (pv 0) (pa_cons (pv 1) pa_nil)))))
        (pw_or (pt_not (pt_val (pe_call DC.ok hr (by rfl) DC.at_ DC.kp DC.bd .nil pass0 (pa_cons (pv 0) (pa_cons (pv 2) pa_nil)))))
        (pw_or1 (pt_cmpR op_ne (pe_callB (cr_sumT rfl) (by rfl) T.sum (by decide +kernel) (pa_cons (pv 1) pa_nil)) (pe_callB (cr_sumT rfl) (by rfl) T.sum (by decide +kernel) (pa_cons (pv 2) pa_nil)) (nomark _)))))) (pss_one ps_never) pss_nil), ?_⟩
    refine ⟨_, rfl, _, rfl, h, S, n, r, ss, rfl, c.house, c.st, c.s1, c.n40, fun H1 s1 => ⟨true, rfl, iteF ?_⟩⟩
    have c1 := c.same s1
    refine ⟨_, rfl, _, rfl, h, W, n, r, ws, rfl, c1.house, c1.wt, c1.w1, c1.n40, fun H2 s2 => ⟨true, rfl, iteF ?_⟩⟩
    have c2 := c1.same s2
    refine ⟨_, rfl, S, ss, rfl, SqT.of c2.st, _, rfl, W, ws, rfl, SqT.of c2.wt, rfl, false, eNF (by rw [c.sum]), iteF ?_⟩
    exact k _ (s1.trans s2)
abbrev sCi : Stmt := top 31
theorem scCi : FnScope ["house", "groups", "stands", "wants", "stand", "want", "many"] ["house", "groups"] (defScope sCi) := ⟨rfl, rfl, rfl, by decide +kernel, rfl, by decide +kernel, by decide +kernel⟩
def spCi (CH : Addr) : Sp := fun vs H Q _ => ∃ (h t : Addr) (n : Nat) (r : Int) (gs : List Grp), vs = [.ref h, .ref t] ∧ HouseAt CH H h n r ∧ n ≤ 40 ∧ GAt H t gs ∧ (∀ g ∈ gs, Gok n g) ∧
  ∀ H' p a b, Same H H' → H' p = some (.tup [.ref a, .ref b]) → TAt H' a (cnt n (fun g => g.1) gs) → TAt H' b (cnt n (fun g => g.2.1) gs) → Q (.ref p) H'
theorem ok_ci {f : Addr} {fd : FuncData} (F : Fun K "counts_in" "counts_in" sCi f fd) (T : Tx K mg CH CS CR) : FnOk P w K mg base CX0 1 f fd ["house", "groups"] (spCi CH) := by
  refine F.ok scCi (fun vs H Q E h => ?_) (fun cdv A outer s H vs Q E hr h => ?_)
  · obtain ⟨h, t, n, r, gs, rfl, _⟩ := h
    rfl
  · obtain ⟨h, t, n, r, gs, rfl, ⟨dh, hh⟩, n40, ⟨ps, ht, hp, hgs⟩, ok, k⟩ := h
    refine ⟨_, pss_cons (ps_set (i := 2) scCi.nd rfl (Or.inl rfl) (pe_op op_rep (pe_lst (pa_cons pe_int pa_nil)) (pe_fld (pv 0) rfl))) (pss_cons (ps_set (i := 3) scCi.nd rfl (Or.inl rfl) (pe_op op_rep (pe_lst (pa_cons pe_int pa_nil)) (pe_fld (pv 0) rfl)))
      (pss_cons (ps_for PassesOwn.never rfl (pi_tup (pv 1)) (pg_tup rfl (pgs_cons (pg_name (i := 4) scCi.nd rfl (Or.inl rfl)) (pgs_cons (pg_name (i := 5) scCi.nd rfl (Or.inl rfl)) (pgs_cons (pg_name (i := 6) scCi.nd rfl (Or.inl rfl)) pgs_nil))))
        (pss_cons (ps_asg (pe_op op_add (pe_ix ix_list (pv 2) (pv 4) (fun _ _ => rfl)) (pv 6)) (pg_sub (pv 2) (pv 4) set_list))
        (pss_one (ps_asg (pe_op op_add (pe_ix ix_list (pv 3) (pv 5) (fun _ _ => rfl)) (pv 6)) (pg_sub (pv 3) (pv 5) set_list)))))
      (pss_one (ps_ret (pe_tup (pa_cons (pe_callTy call_tuple_of (by rfl) T.tuple (by decide +kernel) (pa_cons (pv 2) pa_nil)) (pa_cons (pe_callTy call_tuple_of (by rfl) T.tuple (by decide +kernel) (pa_cons (pv 3) pa_nil)) pa_nil))))))), ?_⟩
    refine ⟨(by show 1 ≤ sizeLine; decide), fun l1 hl1 => ?_⟩
    have e1 := same_upd (o := .lst [V.int 0]) hl1
    refine ⟨_, rfl, h, CH, dh, _, _, rfl, e1 _ _ hh, T.kH.cl, T.nHf, hf_floors _ _, l1, _, _, rfl, rfl, upd_same, by omega, by omega, by simp; exact Nat.le_trans n40 (by decide), fun S hS => ?_⟩
    have e2 := same_upd (o := .lst (List.replicate (n : Int).toNat [V.int 0]).flatten) hS
    refine ⟨(by show 1 ≤ sizeLine; decide), fun l2 hl2 => ?_⟩
    have e3 := same_upd (o := .lst [V.int 0]) hl2
    refine ⟨_, rfl, h, CH, dh, _, _, rfl, e3 _ _ (e2 _ _ (e1 _ _ hh)), T.kH.cl, T.nHf, hf_floors _ _, l2, _, _, rfl, rfl, upd_same, by omega, by omega, by simp; exact Nat.le_trans n40 (by decide), fun W hW => ?_⟩
    have e4 := same_upd (o := .lst (List.replicate (n : Int).toNat [V.int 0]).flatten) hW
    have hSW : S ≠ W := ne_of_none (e3 _ _ upd_same) hW
    have s0 := ((e1.trans e2).trans e3).trans e4
    have er : (List.replicate (n : Int).toNat [V.int 0]).flatten = (cnt n (fun g => g.1) (gs.take 0)).map V.int := by
      rw [rep_int, Int.toNat_natCast, List.take_zero, cnt_nil, List.map_replicate]
    have er2 : (List.replicate (n : Int).toNat [V.int 0]).flatten = (cnt n (fun g => g.2.1) (gs.take 0)).map V.int := by
      rw [rep_int, Int.toNat_natCast, List.take_zero, cnt_nil, List.map_replicate]
    have hS0 : H S = none := e1.free hS
    have hW0 : H W = none := e1.free (e2.free (e3.free hW))
    have hSx := e4 _ _ (e3 _ _ (upd_same (H := upd H l1 (.lst [V.int 0])) (a := S) (o := .lst (List.replicate (n : Int).toNat [V.int 0]).flatten)))
    have hWx := upd_same (H := upd (upd (upd H l1 (.lst [V.int 0])) S (.lst (List.replicate (n : Int).toNat [V.int 0]).flatten)) l2 (.lst [V.int 0])) (a := W) (o := .lst (List.replicate (n : Int).toNat [V.int 0]).flatten)
    refine ⟨_, rfl, t, rfl, ⟨_, SqT.of (s0 _ _ ht)⟩, ?_⟩
    refine for_it (walk_tup (K := K) (a := t) (xs := ps.map fun p => V.ref p.1)) (fun i σ H' => Same H H' ∧ H' S = some (.lst ((cnt n (fun g => g.1) (gs.take i)).map V.int)) ∧ H' W = some (.lst ((cnt n (fun g => g.2.1) (gs.take i)).map V.int)) ∧
        ∃ v4 v5 v6, σ = [some (.ref h), some (.ref t), some (.ref S), some (.ref W), v4, v5, v6])
      ⟨s0, ?_, ?_, none, none, none, rfl⟩ (fun i σ H' _ q => SqT.of (q.1 _ _ ht)) ?_ ?_
    · exact hSx.trans (by rw [er])
    · exact hWx.trans (by rw [er2])
    · rintro i x σ H1 H1' hi ⟨s1, hS1, hW1, v4, v5, v6, rfl⟩ ⟨rfl, hx⟩
      obtain ⟨p, hpi, m, rfl⟩ := refs_at hx
      have hg : gs[i]? = some p.2 := by rw [← hgs, List.getElem?_map, hpi]; rfl
      have og := ok p.2 (by rw [← hgs]; exact List.mem_map.mpr ⟨p, m, rfl⟩)
      have hgrp := s1 _ _ (hp p m)
      obtain ⟨pa, sd, wt, mn⟩ := p
      obtain ⟨o1, o2, o3, o4, _, _⟩ := og
      simp only at o1 o2 o3 o4
      obtain ⟨j1, rfl⟩ := Int.eq_ofNat_of_zero_le o1
      obtain ⟨j2, rfl⟩ := Int.eq_ofNat_of_zero_le o3
      have hj1 : j1 < n := by omega
      have hj2 : j2 < n := by omega
      refine ⟨pa, _, rfl, SqT.of hgrp, rfl, _, _, rfl, _, _, rfl, _, _, rfl, rfl, ?_⟩
      have x1 := cnt_get (sel := fun g => g.1) (gs := gs.take i) hj1
      have x2 := cnt_get (sel := fun g => g.2.1) (gs := gs.take i) hj2
      refine ⟨_, rfl, _, rfl, S, _, _, _, rfl, rfl, SqL.of hS1, atI_nat (map_int_get x1), _, rfl, _, _, rfl, rfl, ?_⟩
      refine ⟨_, rfl, _, rfl, S, _, _, j1, rfl, rfl, hS1, ixN_of rfl (by rw [List.length_map, cnt_length]; exact hj1), ?_⟩
      rw [map_int_set, cnt_set hg rfl hj1]
      have hW2 : (upd H1' S (.lst ((cnt n (fun g => g.1) (gs.take (i + 1))).map V.int))) W = some (.lst ((cnt n (fun g => g.2.1) (gs.take i)).map V.int)) := by rw [upd_ne hSW.symm]; exact hW1
      refine ⟨_, rfl, _, rfl, W, _, _, _, rfl, rfl, SqL.of hW2, atI_nat (map_int_get x2), _, rfl, _, _, rfl, rfl, ?_⟩
      refine ⟨_, rfl, _, rfl, W, _, _, j2, rfl, rfl, hW2, ixN_of rfl (by rw [List.length_map, cnt_length]; exact hj2), ?_⟩
      rw [map_int_set, cnt_set hg rfl hj2]
      exact ⟨same_w (same_w s1 hS0) hW0, by rw [upd_ne hSW, upd_same], upd_same, _, _, _, rfl⟩
    · rintro σ H1 ⟨s1, hS1, hW1, v4, v5, v6, rfl⟩
      have hl : (ps.map fun p => V.ref p.1).length = gs.length := by rw [List.length_map, ← hgs, List.length_map]
      rw [hl, List.take_length] at hS1 hW1
      refine ⟨_, rfl, S, _, rfl, .inl ⟨SqL.of hS1, fun a ha => ?_⟩⟩
      have ea := same_upd (o := .tup ((cnt n (fun g => g.1) gs).map V.int)) ha
      refine ⟨_, rfl, W, _, rfl, .inl ⟨SqL.of (ea _ _ hW1), fun b hb => ?_⟩⟩
      have eb := same_upd (o := .tup ((cnt n (fun g => g.2.1) gs).map V.int)) hb
      refine ⟨(by show 2 ≤ sizeLine; decide), fun p hpn => ?_⟩
      have ep := same_upd (o := .tup [V.ref a, V.ref b]) hpn
      exact k _ p a b (((s1.trans ea).trans eb).trans ep) upd_same (ep _ _ (eb _ _ upd_same)) (ep _ _ upd_same)
abbrev sIw : Stmt := top 32
theorem scIw : FnScope ["house", "stands", "wants", "thing"] ["house", "stands", "wants", "thing"] (defScope sIw) := ⟨rfl, rfl, rfl, by decide +kernel, rfl, by decide +kernel, by decide +kernel⟩
def Has (n : Nat) (ss ws : List Int) (gs : List Grp) : Prop := cnt n (fun g => g.1) gs = ss ∧ cnt n (fun g => g.2.1) gs = ws
def spIw (CH CR : Addr) : Sp := fun vs H Q _ => ∃ (h S W x t : Addr) (n : Nat) (r : Int) (ss ws : List Int) (gs : List Grp), vs = [.ref h, .ref S, .ref W, .ref x] ∧ Cts CH H h S W n r ss ws ∧ StandAt CR H x h t ∧ GAt H t gs ∧ (∀ g ∈ gs, Gok n g) ∧ Has n ss ws gs ∧ ∀ H', Same H H' → Q (.bl true) H'
theorem dp_ints {K : PySem.W.Frag} {H : Hp} : ∀ ns : List Int, DpAll K H (ns.map V.int) (ns.map .int)
  | [] => .nil
  | n :: ns => .cons (.int n) (dp_ints ns)
theorem ints_lay : ∀ ns : List Int, PyData.canLayAll0 (ns.map .int) = true
  | [] => by simp [PyData.canLayAll0]
  | n :: ns => by rw [List.map_cons, PyData.canLayAll0, ints_lay ns]; simp [PyData.canLay0]
def two (a b : List Int) : PyData := .tuple [.tuple (a.map .int), .tuple (b.map .int)]
theorem two_lay (a b : List Int) : (two a b).canLay0 = true := by
  unfold two
  simp [PyData.canLay0, PyData.canLayAll0, ints_lay]
theorem two_shaped (a b : List Int) : SeqAt.shaped (two a b) = true := by
  unfold SeqAt.shaped
  rw [two_lay]
  have : (two a b).depth ≤ 64 := by
    unfold two
    simp [PyData.depth, PyData.depthAll, PySem.W.depth_ints]
  simp [this]
theorem two_eq (a b : List Int) : PyData.eqv (two a b) (two a b) = true := SeqAt.eqv_refl _ (two_lay a b)
theorem two_dp {K : PySem.W.Frag} {H : Hp} {p a b : Addr} {x y : List Int} (hp : H p = some (.tup [.ref a, .ref b])) (ha : TAt H a x) (hb : TAt H b y) : Dp K H (.ref p) (two x y) :=
  .tup (SqT.of hp) (.cons (.tup (SqT.of ha) (dp_ints x)) (.cons (.tup (SqT.of hb) (dp_ints y)) .nil))
theorem ok_iw {f : Addr} {fd : FuncData} (F : Fun K "is_wishes" "is_wishes" sIw f fd) (T : Tx K mg CH CS CR) (NH : HouseNe P w K mg base CH) (DC : Dn P w K mg base "check_counts" 4 ["house", "stands", "wants"] (spCc CH)) (DI : Dn P w K mg base "counts_in" 1 ["house", "groups"] (spCi CH)) :
    FnOk P w K mg base CX0 5 f fd ["house", "stands", "wants", "thing"] (spIw CH CR) := by
  refine F.ok scIw (fun vs H Q E h => ?_) (fun cdv A outer s H vs Q E hr h => ?_)
  · obtain ⟨h, S, W, x, t, n, r, ss, ws, gs, rfl, _⟩ := h
    rfl
  · obtain ⟨h, S, W, x, t, n, r, ss, ws, gs, rfl, c, ⟨dx, hx⟩, hg, ok, ⟨c1, c2⟩, k⟩ := h
    have hr1 : Room 1 _ := hr.mono (by decide)
    have hr2 : Room 2 _ := hr.mono (by decide)
    refine ⟨_, pss_cons (ps_expr (pe_call DC.ok hr (by rfl) DC.at_ DC.kp DC.bd .nil pass0 (pa_cons (pv 0) (pa_cons (pv 1) (pa_cons (pv 2) pa_nil)))))
      (pss_cons (ps_if (PW.pt (pw_or (pt_not (pt_val (pe_callB call_isi (by rfl) T.isinstance (by decide +kernel) (pa_cons (pv 3) (pa_cons (pe_glob (v := .ref CS) (by rfl) T.mgS rfl) pa_nil)))))
        (pw_or (pt_cmpR (op_neG NH.ok NH.ne NH.bd pass0 hr2) (pe_fld (pv 3) rfl) (pv 0) (nomark _))
        (pw_or1 (pt_cmpR op_ne (pe_fld (pv 3) rfl) pe_int (nomark _)))))) (pss_one (ps_ret pe_bl)) pss_nil)
      (pss_one (ps_ret (pe_cmpR (op_eqD hr.units) (pe_call DI.ok hr1 (by rfl) DI.at_ DI.kp DI.bd .nil pass0 (pa_cons (pv 0) (pa_cons (pe_fld (pv 3) rfl) pa_nil))) (pe_tup (pa_cons (pv 1) (pa_cons (pv 2) pa_nil))) (nomark _))))), ?_⟩
    refine ⟨_, rfl, _, rfl, _, rfl, h, S, W, n, r, ss, ws, rfl, c, fun H1 s1 => ?_⟩
    have cc := c.same s1
    obtain ⟨dh, hh⟩ := cc.house
    have hx1 := s1 _ _ hx
    refine ⟨_, rfl, .ref x, .ref CS, _, _, true, rfl, .own CS, .base (.ins hx1 T.kR.cl T.kR.ha T.kR.hn T.kR.htk T.kR.hm), T.iRS, true, rfl, iteF ?_⟩
    refine ⟨_, rfl, x, CR, dx, _, _, rfl, hx1, T.kR.cl, T.nRh, sf_house _ _ _, _, rfl, h, h, dh, dh, _, _, rfl, rfl, hh, hh, ⟨n, r, ⟨dh, hh⟩, ⟨dh, hh⟩⟩, fun H2 s2 => ⟨false, rfl, iteF ?_⟩⟩
    have hx2 := s2 _ _ hx1
    refine ⟨_, rfl, x, CR, dx, _, _, rfl, hx2, T.kR.cl, T.nRl, sf_lift _ _ _, rfl, false, eNF rfl, iteF ?_⟩
    have s12 : Same H H2 := Same.trans s1 s2
    refine ⟨_, rfl, _, rfl, x, CR, dx, _, _, rfl, hx2, T.kR.cl, T.nRg, sf_groups _ _ _, h, t, n, r, gs, rfl, ⟨dh, s2 _ _ hh⟩, c.n40, hg.same s12, ok, fun H3 p a b s3 hp ha hb => ?_⟩
    refine ⟨_, rfl, _, rfl, (by show 2 ≤ sizeLine; decide), fun q hq => ?_⟩
    have eq := same_upd (o := .tup [V.ref S, V.ref W]) hq
    rw [c1] at ha
    rw [c2] at hb
    have s123 := s12.trans s3
    have c3 := (c.same s123).same eq
    refine ⟨two ss ws, two ss ws, two_dp (eq _ _ hp) (TAt.same ha eq) (TAt.same hb eq), two_dp upd_same c3.st c3.wt, two_shaped _ _, two_shaped _ _, ?_⟩
    show Q (V.bl (PyData.eqv (two ss ws) (two ss ws))) _
    rw [two_eq]
    exact k _ (s123.trans eq)
end
end Wl
namespace Wl
open PySem L2 Wr
section
variable {P : Program} {w : World} {K : PySem.W.Frag} {mg : Str → Option Value} {base : Heap} {CH CS CR : Addr}
abbrev sPa : Stmt := top 33
theorem scPa : FnScope ["house", "stands", "wants", "order", "left", "known", "row", "stand", "many", "want", "taken"] ["house", "stands", "wants", "order"] (defScope sPa) := ⟨rfl, rfl, rfl, by decide +kernel, rfl, by decide +kernel, by decide +kernel⟩
def mat (ss ws os : List Int) : List Grp := nw (enu 0 ss) (qu ws os)
def spPa (CH CR : Addr) : Sp := fun vs H Q _ => ∃ (h S W O : Addr) (n : Nat) (r : Int) (ss ws os : List Int), vs = [.ref h, .ref S, .ref W, .ref O] ∧ Cts CH H h S W n r ss ws ∧ H O = some (.lst (os.map V.int)) ∧
  os.Nodup ∧ (∀ o ∈ os, 0 ≤ o ∧ o < n) ∧ os.length ≤ n ∧ all_ (qu ws os) = ws.sum ∧
  ∀ (x t : Addr) (gs : List Grp) (H' : Hp), Same H H' → StandAt CR H' x h t → GAt H' t gs → gs.Perm (mat ss ws os) → Asc gs → Q (.ref x) H'
def muI : Option (Option V) → Nat
  | some (some (.int a)) => a.toNat
  | _ => 0
def muL (H : Hp) : Option (Option V) → Nat
  | some (some (.ref R)) => (match H R with | some (.lst xs) => xs.length | _ => 0)
  | _ => 0
def mu (σ : List (Option V)) (H : Hp) : Nat := muI σ[8]? + muL H σ[6]?
theorem mu_eq {x0 x1 x2 x3 x4 x5 x7 x9 x10 : Option V} {R : Addr} {a : Int} {H : Hp} {xs : List V} (h : H R = some (.lst xs)) : mu [x0, x1, x2, x3, x4, x5, some (.ref R), x7, some (.int a), x9, x10] H = a.toNat + xs.length := by
  show a.toNat + (match H R with | some (.lst xs) => xs.length | _ => 0) = _
  rw [h]
theorem cut_one (x : V) (xs : List V) : cutV (x :: xs) (some 1) none = xs := by
  unfold cutV
  rw [HT.sIx_none, show HT.sIx (x :: xs).length 0 (some 1) = min 1 (x :: xs).length from HT.sIx_nat _ _ 1, List.length_cons, show min 1 (xs.length + 1) = 1 by omega, List.drop_succ_cons, List.drop_zero, List.take_of_length_le (by omega)]
theorem ok_pa {f : Addr} {fd : FuncData} (F : Fun K "paired" "paired" sPa f fd) (T : Tx K mg CH CS CR) (DR : Dn P w K mg base "raw_standing" 3 ["house", "lift", "known"] (spRw CR)) : FnOk P w K mg base CX0 4 f fd ["house", "stands", "wants", "order"] (spPa CH CR) := by
  refine F.ok scPa (fun vs H Q E h => ?_) (fun cdv A outer s H vs Q E hr h => ?_)
  · obtain ⟨h, S, W, O, n, r, ss, ws, os, rfl, _⟩ := h
    rfl
  · obtain ⟨h, S, W, O, n, r, ss, ws, os, rfl, c, hO, ond, orng, olen, osum, k⟩ := h
    have hu := hu_of hr
    refine ⟨_, pss_cons (ps_set (i := 4) scPa.nd rfl (Or.inl rfl) (pe_callTy call_list_of (by rfl) T.list (by decide +kernel) (pa_cons (pv 2) pa_nil)))
      (pss_cons (ps_set (i := 5) scPa.nd rfl (Or.inl rfl) pe_dnewT)
      (pss_cons (ps_set (i := 6) scPa.nd rfl (Or.inl rfl) (pe_callTy call_list_of (by rfl) T.list (by decide +kernel) (pa_cons (pv 3) pa_nil)))
      (pss_cons (ps_for PassesOwn.never rfl (pi_enumT (by rfl) T.enumerate (pa_cons (pv 1) pa_nil)) (pg_tup rfl (pgs_cons (pg_name (i := 7) scPa.nd rfl (Or.inl rfl)) (pgs_cons (pg_name (i := 8) scPa.nd rfl (Or.inl rfl)) pgs_nil)))
        (pss_one (ps_while PassesOwn.never (pt_cmpR op_gt (pv 8) pe_int (nomark _))
          (pss_cons (ps_set (i := 9) scPa.nd rfl (Or.inl rfl) (pe_ix ix_list (pv 6) pe_int (fun _ _ => rfl)))
          (pss_cons (ps_set (i := 10) scPa.nd rfl (Or.inl rfl) (pe_callB (call_minM rfl) (by rfl) T.min (by decide +kernel) (pa_cons (pv 8) (pa_cons (pe_ix ix_list (pv 4) (pv 9) (fun _ _ => rfl)) pa_nil))))
          (C8.pss_cut (ps_if (pt_cmpR op_gt (pv 10) pe_int (nomark _)) (pss_one (ps_dput hu (pv 5) (pe_tup (pa_cons (pv 7) (pa_cons (pv 9) pa_nil)))
              (pe_op op_add (pe_dget2 hu (pv 5) (pe_tup (pa_cons (pv 7) (pa_cons (pv 9) pa_nil))) pe_int ⟨rfl, rfl, rfl, rfl⟩) (pv 10)) rfl)) pss_nil)
          (pss_cons (ps_asg (pe_op op_sub (pe_ix ix_list (pv 4) (pv 9) (fun _ _ => rfl)) (pv 10)) (pg_sub (pv 4) (pv 9) set_list))
          (pss_cons (ps_aug (i := 8) scPa.nd rfl (.inl rfl) (pv 10) ip_sub)
          (pss_one (ps_if (pt_cmpR op_eq (pe_ix ix_list (pv 4) (pv 9) (fun _ _ => rfl)) pe_int (nomark _)) (pss_one (ps_set (i := 6) scPa.nd rfl (Or.inl rfl) (pe_slice sl_list (pv 6) (po_some pe_int) po_none))) pss_nil))))))))))
      (pss_one (ps_ret (pe_call DR.ok hr (by rfl) DR.at_ DR.kp DR.bd .nil pass0 (pa_cons (pv 0) (pa_cons pe_int (pa_cons (pv 5) pa_nil))))))))), ?_⟩
    refine ⟨_, rfl, W, _, rfl, .inr (SqT.of c.wt), fun L hL => ?_⟩
    have e1 := same_upd (o := .lst (ws.map V.int)) hL
    intro d hd
    have e2 := same_upd (o := .dT []) hd
    refine ⟨_, rfl, O, _, rfl, .inl (SqL.of (e2 _ _ (e1 _ _ hO))), fun R hR => ?_⟩
    have e3 := same_upd (o := .lst (os.map V.int)) hR
    have hL0 : H L = none := hL
    have hd0 : H d = none := e1.free hd
    have nLd : L ≠ d := ne_of_none upd_same hd
    have nLR : L ≠ R := ne_of_none (e2 _ _ upd_same) hR
    have ndR : d ≠ R := ne_of_none upd_same hR
    have s0 := (e1.trans e2).trans e3
    have hLx := e3 _ _ (e2 _ _ (upd_same (H := H) (a := L) (o := .lst (ws.map V.int))))
    have hdx := e3 _ _ (upd_same (H := upd H L (.lst (ws.map V.int))) (a := d) (o := .dT []))
    have hRx := upd_same (H := upd (upd H L (.lst (ws.map V.int))) d (.dT [])) (a := R) (o := .lst (os.map V.int))
    generalize upd (upd (upd H L (.lst (ws.map V.int))) d (.dT [])) R (.lst (os.map V.int)) = H0 at *
    have ndG : ((mat ss ws os).map gk).Nodup := nw_nodup _ _ (nodup_of_asc (enu_asc 0 ss)) (by
      have e : (qu ws os).map (·.1) = os := by unfold qu; rw [List.map_map]; exact (List.map_congr_left fun _ _ => rfl).trans (List.map_id _)
      rw [e]; exact ond)
    have lenG : (mat ss ws os).length ≤ 400 := by
      have := nw_len (enu 0 ss) (qu ws os)
      rw [enu_length, c.s1.1] at this
      have h2 : (qu ws os).length = os.length := by unfold qu; rw [List.length_map]
      unfold mat
      have := c.n40
      omega
    have posG : ∀ g ∈ mat ss ws os, 0 < g.2.2 := fun g hg => (nw_mem _ _ g hg).2.2
    have p0 : PInv n (mat ss ws os) (enu 0 (ss.drop 0)) [] ws os := ⟨rfl, c.w1.1, fun x hx => (c.w1.2 x hx).1, ond, orng, by rw [List.drop_zero]; exact enu_nonneg fun x hx => (c.s1.2 x hx).1, by rw [List.drop_zero, enu_all, osum, c.sum]⟩
    refine ⟨_, rfl, S, _, rfl, SqT.of (s0 _ _ c.st), ?_⟩
    refine for_it (walk_enumT (K := K) (a := S) (xs := ss.map V.int)) (fun i σ H' => Same H H' ∧ ∃ (ks : List Grp) (lf rw : List Int) (R : Addr) (v7 v8 v9 v10 : Option V), PInv n (mat ss ws os) (enu i (ss.drop i)) ks lf rw ∧ H' L = some (.lst (lf.map V.int)) ∧ H' d = some (.dT (kvsOf ks)) ∧ H' R = some (.lst (rw.map V.int)) ∧ L ≠ R ∧
        σ = [some (.ref h), some (.ref S), some (.ref W), some (.ref O), some (.ref L), some (.ref d), some (.ref R), v7, v8, v9, v10])
      ⟨s0, [], ws, os, R, none, none, none, none, p0, hLx, hdx, hRx, nLR, rfl⟩ (fun i σ H' _ q => SqT.of (q.1 _ _ c.st)) ?_ ?_
    · rintro i x σ H1 H1' hi ⟨s1, ks, lf, rw_, R1, v7, v8, v9, v10, p, hL1, hd1, hR1, nLR1, rfl⟩ ⟨T1, x1, a1, rfl, hT1, rfl, hx1, ha1⟩
      rw [List.length_map] at hi
      have ha1' : a1 = V.int ss[i] := by
        have q : (ss.map V.int)[i]? = some a1 := ha1
        rw [List.getElem?_map, List.getElem?_eq_getElem hi] at q
        exact (Option.some.inj q).symm
      have hx1' : x1 = V.int (i : Nat) := (Option.some.inj hx1).symm
      subst ha1' hx1'
      rw [enu_drop (List.getElem?_eq_getElem hi)] at p
      have eT := same_upd (o := .tup [V.int (i : Nat), V.int ss[i]]) hT1
      refine ⟨T1, _, rfl, SqT.of upd_same, rfl, _, _, rfl, _, _, rfl, rfl, ?_⟩
      refine while_by (fun σ H' => Same H H' ∧ ∃ (ks : List Grp) (lf rw : List Int) (a : Int) (R : Addr) (v9 v10 : Option V), PInv n (mat ss ws os) ((((i : Nat) : Int), a) :: enu (i + 1) (ss.drop (i + 1))) ks lf rw ∧ 0 ≤ a ∧ H' L = some (.lst (lf.map V.int)) ∧ H' d = some (.dT (kvsOf ks)) ∧ H' R = some (.lst (rw.map V.int)) ∧ L ≠ R ∧
          σ = [some (.ref h), some (.ref S), some (.ref W), some (.ref O), some (.ref L), some (.ref d), some (.ref R), some (.int (i : Nat)), some (.int a), v9, v10]) mu
        ⟨s1.trans eT, ks, lf, rw_, ss[i], R1, v9, v10, p, (c.s1.2 _ (List.getElem_mem hi)).1, eT _ _ hL1, eT _ _ hd1, eT _ _ hR1, nLR1, rfl⟩ ?_ ?_
      · rintro σ H2 ⟨s2, ks, lf, rw_, a, R2, v9, v10, p, a0, hL2, hd2, hR2, nLR2, rfl⟩
        refine ⟨_, rfl, _, _, rfl, rfl, _, rfl, ?_⟩
        by_cases ha : 0 < a
        · refine iteD ha ?_
          obtain ⟨wt, rw', rfl⟩ := p.row ha
          obtain ⟨w0, wn⟩ := p.rg wt List.mem_cons_self
          obtain ⟨wj, rfl⟩ := Int.eq_ofNat_of_zero_le w0
          have hwj : wj < lf.length := by rw [p.len]; omega
          have hget : lf[wj]? = some (lf.getD wj 0) := by rw [List.getD_eq_getElem?_getD, List.getElem?_eq_getElem hwj]; rfl
          obtain ⟨b0, hfresh, p'⟩ := p.step (b := lf.getD wj 0) ha (by rw [Int.toNat_natCast])
          generalize lf.getD wj 0 = b at *
          rw [Int.toNat_natCast] at p'
          refine ⟨_, rfl, R2, _, _, _, rfl, rfl, SqL.of hR2, atI_nat (j := 0) rfl, ?_⟩
          refine ⟨_, rfl, _, rfl, _, rfl, L, _, _, _, rfl, rfl, SqL.of hL2, atI_nat (map_int_get hget), _, _, rfl, ?_⟩
          refine ⟨fun σ' H' => Same H H' ∧ H' L = some (.lst (lf.map V.int)) ∧ H' d = some (.dT (kvsOf (if 0 < min a b then ks ++ [(((i : Nat) : Int), ((wj : Nat) : Int), min a b)] else ks))) ∧ H' R2 = some (.lst (((wj : Int) :: rw').map V.int)) ∧
            σ' = [some (.ref h), some (.ref S), some (.ref W), some (.ref O), some (.ref L), some (.ref d), some (.ref R2), some (.int (i : Nat)), some (.int a), some (.int (wj : Nat)), some (.int (min a b))], ?_, ?_⟩
          · refine ⟨_, rfl, _, _, rfl, rfl, _, rfl, ?_⟩
            by_cases hm : 0 < min a b
            · refine iteD hm ?_
              rw [if_pos hm]
              obtain ⟨RG, eRG⟩ := hfresh hm
              have fresh : (((i : Nat) : Int), ((wj : Nat) : Int)) ∉ ks.map gk := fun m => by
                rw [eRG, List.map_append, List.map_append] at ndG
                have n1 := (List.nodup_append.mp ndG).1
                exact (List.nodup_append.mp n1).2.2 _ m _ (List.mem_singleton.mpr rfl) rfl
              have klen : ks.length ≤ 400 := by
                have := lenG
                rw [eRG, List.length_append, List.length_append] at this
                omega
              refine ⟨_, rfl, d, rfl, .inr ⟨_, .inl hd2⟩, _, rfl, _, rfl, (by show 2 ≤ sizeLine; decide), fun T2 hT2 => ?_⟩
              have eT2 := same_upd (o := .tup [V.int (i : Nat), V.int (wj : Nat)]) hT2
              refine ⟨none, .inr ⟨kvsOf ks, kk (i : Nat) (wj : Nat), T2, .inl (eT2 _ _ hd2), rfl, upd_same, (valV_kvs_none fresh).symm⟩, _, rfl, _, _, rfl, rfl, ?_⟩
              refine ⟨_, rfl, _, rfl, _, rfl, (by show 2 ≤ sizeLine; decide), fun T3 hT3 => ?_⟩
              have eT3 := same_upd (o := .tup [V.int (i : Nat), V.int (wj : Nat)]) hT3
              have hd3 := eT3 _ _ (eT2 _ _ hd2)
              have s23 := (Same.trans s2 eT2).trans eT3
              refine ⟨d, _, rfl, .inr ⟨kvsOf ks, kk (i : Nat) (wj : Nat), T3, hd3, rfl, upd_same, by unfold kvsOf; rw [List.length_map]; exact Nat.lt_of_le_of_lt klen (by decide), rfl⟩, ?_⟩
              have hLd : L ≠ d := nLd
              refine ⟨same_w s23 hd0, ?_, ?_, ?_, rfl⟩
              · rw [upd_ne hLd]; exact eT3 _ _ (eT2 _ _ hL2)
              · rw [upd_same, putK_kvs fresh, Int.zero_add]
              · rw [upd_ne (ne_of hR2 hd2 (by intro z; cases z))]; exact eT3 _ _ (eT2 _ _ hR2)
            · refine iteDn hm ?_
              rw [if_neg hm]
              exact ⟨s2, hL2, hd2, hR2, rfl⟩
          · rintro σ' H3 ⟨s3, hL3, hd3, hR3, rfl⟩
            refine ⟨_, rfl, _, rfl, L, _, _, _, rfl, rfl, SqL.of hL3, atI_nat (map_int_get hget), _, rfl, _, _, rfl, rfl, ?_⟩
            refine ⟨_, rfl, _, rfl, L, _, _, wj, rfl, rfl, hL3, ixN_of rfl (by rw [List.length_map]; exact hwj), ?_⟩
            rw [map_int_set]
            have nRL : R2 ≠ L := nLR2.symm
            have ndL : d ≠ L := nLd.symm
            have s4 : Same H (upd H3 L (.lst ((lf.set wj (b - min a b)).map V.int))) := same_w s3 hL0
            have hd4 : (upd H3 L (.lst ((lf.set wj (b - min a b)).map V.int))) d = _ := (upd_ne ndL).trans hd3
            have hR4 : (upd H3 L (.lst ((lf.set wj (b - min a b)).map V.int))) R2 = _ := (upd_ne nRL).trans hR3
            have hL4 : (upd H3 L (.lst ((lf.set wj (b - min a b)).map V.int))) L = _ := upd_same
            generalize upd H3 L (.lst ((lf.set wj (b - min a b)).map V.int)) = H4 at *
            refine ⟨_, rfl, _, rfl, _, _, rfl, rfl, ?_⟩
            have hget2 : (lf.set wj (b - min a b))[wj]? = some (b - min a b) := List.getElem?_set_self hwj
            refine ⟨_, rfl, _, rfl, L, _, _, _, rfl, rfl, SqL.of hL4, atI_nat (map_int_get hget2), rfl, _, rfl, ?_⟩
            by_cases hz : b - min a b = 0
            · refine iteD (by rw [hz]) ?_
              refine ⟨_, rfl, 1, rfl, R2, _, rfl, SqL.of hR4, fun R3 hR3n => ?_⟩
              rw [if_pos hz] at p'
              have ec : cutV (((wj : Int) :: rw').map V.int) (some 1) none = rw'.map V.int := cut_one _ _
              rw [ec]
              have e5 := same_upd (o := .lst (rw'.map V.int)) hR3n
              refine ⟨⟨s4.trans e5, _, _, _, a - min a b, R3, _, _, p', by omega, e5 _ _ hL4, e5 _ _ hd4, upd_same, ne_of_none hL4 hR3n, rfl⟩, ?_⟩
              refine Nat.lt_of_le_of_lt (Nat.le_of_eq (mu_eq upd_same)) ?_
              rw [mu_eq hR2]
              show (a - min a b).toNat + _ < _
              simp only [List.length_map, List.length_cons]
              omega
            · refine iteDn (fun z => hz (V.int.inj z)) ?_
              rw [if_neg hz] at p'
              refine ⟨⟨s4, _, _, _, a - min a b, R2, _, _, p', by omega, hL4, hd4, hR4, nLR2, rfl⟩, ?_⟩
              refine Nat.lt_of_le_of_lt (Nat.le_of_eq (mu_eq hR4)) ?_
              rw [mu_eq hR2]
              show (a - min a b).toNat + _ < _
              omega
        · refine iteDn ha ?_
          have ha0 : a = 0 := by omega
          exact ⟨s2, ks, lf, rw_, R2, _, _, _, _, p.done ha0, hL2, hd2, hR2, nLR2, rfl⟩
      · rintro σ H' Q1 Q2 f ⟨v, hv, i1, j1, e1, e2, b, e3, q⟩
        exact ⟨v, hv, i1, j1, e1, e2, b, e3, f _ _ q⟩
    · rintro σ H1 ⟨s1, ks, lf, rw_, R1, v7, v8, v9, v10, p, hL1, hd1, hR1, nLR1, rfl⟩
      have eG : ks = mat ss ws os := by
        have e := p.eq
        rw [List.length_map, List.drop_length] at e
        show ks = _
        rw [← e, show enu ss.length ([] : List Int) = [] from rfl, nw_nil, List.append_nil]
      subst eG
      refine ⟨_, rfl, _, rfl, h, d, mat ss ws os, rfl, hd1, ndG, posG, lenG, fun x t gs H2 s2 x1 g1 pm asc => ?_⟩
      exact k x t gs H2 (s1.trans s2) x1 g1 pm asc
def lo (n : Nat) : List Int := (List.range n).map fun i => ((0 + i : Nat) : Int)
theorem lo_rg (n : Nat) : rgV 0 (n : Int) = (lo n).map V.int := by
  unfold rgV lo
  rw [List.map_map, show ((n : Int) - 0).toNat = n by omega]
  exact List.map_congr_left fun i _ => congrArg V.int (by show (0 : Int) + (i : Nat) = ((0 + i : Nat) : Int); omega)
theorem lo_nodup (n : Nat) : (lo n).Nodup := by
  refine List.pairwise_map.mpr ((List.nodup_range (n := n)).imp fun {a b} h e => h ?_)
  omega
theorem lo_mem {n : Nat} : ∀ o ∈ lo n, 0 ≤ o ∧ o < n := fun o h => by
  obtain ⟨i, hi, rfl⟩ := List.mem_map.mp h
  have := List.mem_range.mp hi
  omega
theorem lo_len (n : Nat) : (lo n).length = n := by unfold lo; rw [List.length_map, List.length_range]
theorem qu_lo {n : Nat} {ws : List Int} (h : ws.length = n) : qu ws (lo n) = enu 0 ws := by
  subst h
  exact qu_enu 0 [] ws rfl
theorem qu_lo_rev {n : Nat} {ws : List Int} (h : ws.length = n) : qu ws (lo n).reverse = (enu 0 ws).reverse := by
  rw [← qu_lo h]; unfold qu; rw [List.map_reverse]
def gL (ss ws : List Int) : List Grp := nw (enu 0 ss) (enu 0 ws)
def gM (ss ws : List Int) : List Grp := nw (enu 0 ss) (enu 0 ws).reverse
abbrev sLw : Stmt := top 34
abbrev sMw : Stmt := top 35
theorem scLw : FnScope ["house", "stands", "wants"] ["house", "stands", "wants"] (defScope sLw) := ⟨rfl, rfl, rfl, by decide +kernel, rfl, by decide +kernel, by decide +kernel⟩
theorem scMw : FnScope ["house", "stands", "wants"] ["house", "stands", "wants"] (defScope sMw) := ⟨rfl, rfl, rfl, by decide +kernel, rfl, by decide +kernel, by decide +kernel⟩
def spWw (CH CR : Addr) (g : List Int → List Int → List Grp) : Sp := fun vs H Q _ => ∃ (h S W : Addr) (n : Nat) (r : Int) (ss ws : List Int), vs = [.ref h, .ref S, .ref W] ∧ Cts CH H h S W n r ss ws ∧
  ∀ (x t : Addr) (gs : List Grp) (H' : Hp), Same H H' → StandAt CR H' x h t → GAt H' t gs → gs.Perm (g ss ws) → Asc gs → Q (.ref x) H'
theorem ok_lw {f : Addr} {fd : FuncData} (F : Fun K "least_wishes" "least_wishes" sLw f fd) (T : Tx K mg CH CS CR) (DC : Dn P w K mg base "check_counts" 4 ["house", "stands", "wants"] (spCc CH)) (DP : Dn P w K mg base "paired" 4 ["house", "stands", "wants", "order"] (spPa CH CR)) :
    FnOk P w K mg base CX0 5 f fd ["house", "stands", "wants"] (spWw CH CR gL) := by
  refine F.ok scLw (fun vs H Q E h => ?_) (fun cdv A outer s H vs Q E hr h => ?_)
  · obtain ⟨h, S, W, n, r, ss, ws, rfl, _⟩ := h
    rfl
  · obtain ⟨h, S, W, n, r, ss, ws, rfl, c, k⟩ := h
    refine ⟨_, pss_cons (ps_expr (pe_call DC.ok hr (by rfl) DC.at_ DC.kp DC.bd .nil pass0 (pa_cons (pv 0) (pa_cons (pv 1) (pa_cons (pv 2) pa_nil)))))
      (pss_one (ps_ret (pe_call DP.ok hr (by rfl) DP.at_ DP.kp DP.bd .nil pass0 (pa_cons (pv 0) (pa_cons (pv 1) (pa_cons (pv 2) (pa_cons (pe_listRg rfl (by rfl) T.list (prg_1 (by rfl) T.range (pe_fld (pv 0) rfl))) pa_nil))))))), ?_⟩
    refine ⟨_, rfl, _, rfl, _, rfl, h, S, W, n, r, ss, ws, rfl, c, fun H1 s1 => ?_⟩
    have c1 := c.same s1
    obtain ⟨dh, hh⟩ := c1.house
    have n40 := c.n40
    refine ⟨_, rfl, _, rfl, _, rfl, _, rfl, h, CH, dh, _, _, rfl, hh, T.kH.cl, T.nHf, hf_floors _ _, _, rfl, RgOk.of_le (by omega) (by omega) (by omega) (by omega), fun O hO => ?_⟩
    have eO := same_upd (o := .lst (rgV 0 (n : Int))) hO
    refine ⟨h, S, W, O, n, r, ss, ws, lo n, rfl, c1.same eO, by rw [upd_same, lo_rg], lo_nodup n, lo_mem, Nat.le_of_eq (lo_len n), by rw [qu_lo c.w1.1, enu_all], fun x t gs H2 s2 hx hg pm asc => ?_⟩
    unfold mat at pm
    rw [qu_lo c.w1.1] at pm
    exact k x t gs H2 ((s1.trans eO).trans s2) hx hg pm asc
theorem ok_mw {f : Addr} {fd : FuncData} (F : Fun K "most_wishes" "most_wishes" sMw f fd) (T : Tx K mg CH CS CR) (DC : Dn P w K mg base "check_counts" 4 ["house", "stands", "wants"] (spCc CH)) (DP : Dn P w K mg base "paired" 4 ["house", "stands", "wants", "order"] (spPa CH CR)) :
    FnOk P w K mg base CX0 5 f fd ["house", "stands", "wants"] (spWw CH CR gM) := by
  refine F.ok scMw (fun vs H Q E h => ?_) (fun cdv A outer s H vs Q E hr h => ?_)
  · obtain ⟨h, S, W, n, r, ss, ws, rfl, _⟩ := h
    rfl
  · obtain ⟨h, S, W, n, r, ss, ws, rfl, c, k⟩ := h
    refine ⟨_, pss_cons (ps_expr (pe_call DC.ok hr (by rfl) DC.at_ DC.kp DC.bd .nil pass0 (pa_cons (pv 0) (pa_cons (pv 1) (pa_cons (pv 2) pa_nil)))))
      (pss_one (ps_ret (pe_call DP.ok hr (by rfl) DP.at_ DP.kp DP.bd .nil pass0 (pa_cons (pv 0) (pa_cons (pv 1) (pa_cons (pv 2) (pa_cons (pe_revL (pe_listRg rfl (by rfl) T.list (prg_1 (by rfl) T.range (pe_fld (pv 0) rfl)))) pa_nil))))))), ?_⟩
    refine ⟨_, rfl, _, rfl, _, rfl, h, S, W, n, r, ss, ws, rfl, c, fun H1 s1 => ?_⟩
    have c1 := c.same s1
    obtain ⟨dh, hh⟩ := c1.house
    have n40 := c.n40
    refine ⟨_, rfl, _, rfl, _, rfl, _, rfl, h, CH, dh, _, _, rfl, hh, T.kH.cl, T.nHf, hf_floors _ _, _, rfl, RgOk.of_le (by omega) (by omega) (by omega) (by omega), fun O hO => ?_⟩
    have eO := same_upd (o := .lst (rgV 0 (n : Int))) hO
    refine ⟨O, _, rfl, SqL.of upd_same, fun O2 hO2 => ?_⟩
    have eO2 := same_upd (o := .lst (rgV 0 (n : Int)).reverse) hO2
    refine ⟨h, S, W, O2, n, r, ss, ws, (lo n).reverse, rfl, (c1.same eO).same eO2, by rw [upd_same, lo_rg, List.map_reverse], (List.reverse_perm _).nodup_iff.mpr (lo_nodup n), fun o ho => lo_mem o (List.mem_reverse.mp ho), by rw [List.length_reverse, lo_len]; exact Nat.le_refl _, ?_, fun x t gs H2 s2 hx hg pm asc => ?_⟩
    · rw [qu_lo_rev c.w1.1, all_perm (List.reverse_perm _), enu_all]
    · unfold mat at pm
      rw [qu_lo_rev c.w1.1] at pm
      exact k x t gs H2 (((s1.trans eO).trans eO2).trans s2) hx hg pm asc
abbrev sTb : Stmt := top 36
theorem scTb : FnScope ["house", "stands", "wants"] ["house", "stands", "wants"] (defScope sTb) := ⟨rfl, rfl, rfl, by decide +kernel, rfl, by decide +kernel, by decide +kernel⟩
def spTb (CH : Addr) : Sp := fun vs H Q _ => ∃ (h S W : Addr) (n : Nat) (r : Int) (ss ws : List Int), vs = [.ref h, .ref S, .ref W] ∧ Cts CH H h S W n r ss ws ∧
  ∀ (p : Addr) (g1 g2 : List Grp) (H' : Hp), Same H H' → g1.Perm (gL ss ws) → Asc g1 → g2.Perm (gM ss ws) → Asc g2 → H' p = some (.tup [.int (rest n r g1), .int (rest n r g2)]) → Q (.ref p) H'
theorem ok_tb {f : Addr} {fd : FuncData} (F : Fun K "travel_bounds" "travel_bounds" sTb f fd) (T : Tx K mg CH CS CR) (DR : Dn P w K mg base "rest" 5 ["standing"] (spRe CH CR)) (DL : Dn P w K mg base "least_wishes" 5 ["house", "stands", "wants"] (spWw CH CR gL)) (DM : Dn P w K mg base "most_wishes" 5 ["house", "stands", "wants"] (spWw CH CR gM)) :
    FnOk P w K mg base CX0 6 f fd ["house", "stands", "wants"] (spTb CH) := by
  refine F.ok scTb (fun vs H Q E h => ?_) (fun cdv A outer s H vs Q E hr h => ?_)
  · obtain ⟨h, S, W, n, r, ss, ws, rfl, _⟩ := h
    rfl
  · obtain ⟨h, S, W, n, r, ss, ws, rfl, c, k⟩ := h
    refine ⟨_, pss_one (ps_ret (pe_tup (pa_cons (pe_call DR.ok hr (by rfl) DR.at_ DR.kp DR.bd .nil pass0 (pa_cons (pe_call DL.ok hr (by rfl) DL.at_ DL.kp DL.bd .nil pass0 (pa_cons (pv 0) (pa_cons (pv 1) (pa_cons (pv 2) pa_nil)))) pa_nil))
      (pa_cons (pe_call DR.ok hr (by rfl) DR.at_ DR.kp DR.bd .nil pass0 (pa_cons (pe_call DM.ok hr (by rfl) DM.at_ DM.kp DM.bd .nil pass0 (pa_cons (pv 0) (pa_cons (pv 1) (pa_cons (pv 2) pa_nil)))) pa_nil)) pa_nil)))), ?_⟩
    refine ⟨_, rfl, _, rfl, _, rfl, h, S, W, n, r, ss, ws, rfl, c, fun x1 t1 g1 H1 s1 hx1 hg1 pm1 as1 => ?_⟩
    refine ⟨x1, h, t1, n, r, g1, rfl, hx1, c.house.same s1, hg1, c.n2, c.n40, c.r1, c.r12, fun H2 s2 => ?_⟩
    have s12 := s1.trans s2
    refine ⟨_, rfl, _, rfl, _, rfl, h, S, W, n, r, ss, ws, rfl, c.same s12, fun x2 t2 g2 H3 s3 hx2 hg2 pm2 as2 => ?_⟩
    have s13 := s12.trans s3
    refine ⟨x2, h, t2, n, r, g2, rfl, hx2, c.house.same s13, hg2, c.n2, c.n40, c.r1, c.r12, fun H4 s4 => ?_⟩
    refine ⟨(by show 2 ≤ sizeLine; decide), fun p hp => ?_⟩
    exact k p g1 g2 _ ((s13.trans s4).trans (same_upd hp)) pm1 as1 pm2 as2 upd_same
end
end Wl
namespace Wl
open PySem L2 Wr
structure Deck (H : Hp) (d c : Addr) (ns : List Int) (i b k : Int) : Prop where
  at_ : H d = some (.lst [.ref c, .int i, .int b, .int k])
  cells : H c = some (.lst (ns.map V.int))
  ne : c ≠ d
theorem Deck.set {H : Hp} {d c : Addr} {ns : List Int} {i b k : Int} (D : Deck H d c ns i b k) (i' b' k' : Int) : Deck (upd H d (.lst [.ref c, .int i', .int b', .int k'])) d c ns i' b' k' :=
  ⟨upd_same, by rw [upd_ne D.ne]; exact D.cells, D.ne⟩
theorem Deck.same {H H' : Hp} {d c : Addr} {ns : List Int} {i b k : Int} (D : Deck H d c ns i b k) (s : Same H H') : Deck H' d c ns i b k := ⟨s _ _ D.at_, s _ _ D.cells, D.ne⟩
section
variable {P : Program} {w : World} {K : PySem.W.Frag} {mg : Str → Option Value} {base : Heap} {CH CS CR : Addr}
abbrev sDk : Stmt := top 38
theorem scDk : FnScope ["_law_script", "_law_cell"] ["_law_script"] (defScope sDk) := ⟨rfl, rfl, rfl, by decide +kernel, rfl, by decide +kernel, by decide +kernel⟩
def spDk (K : PySem.W.Frag) : Sp := fun vs H Q _ => ∃ (a : Addr) (ns : List Int), vs = [.ref a] ∧ SqL K H a (ns.map V.int) ∧ ns.length ≤ 63 ∧ ∀ H' d c, Same H H' → H d = none → Deck H' d c ns 0 0 0 → Q (.ref d) H'
theorem take_all {l : List V} {k : Nat} (h : l.length ≤ k) : cutV l none (some (k : Int)) = l := by
  unfold cutV
  rw [HT.sIx_none, HT.sIx_nat, List.drop_zero, List.take_of_length_le (by omega)]
theorem ok_dk {f : Addr} {fd : FuncData} (F : Fun K "_law_deck" "_law_deck" sDk f fd) (T : Gb mg) : FnOk P w K mg base CX0 1 f fd ["_law_script"] (spDk K) := by
  refine F.ok scDk (fun vs H Q E h => ?_) (fun cdv A outer s H vs Q E hr h => ?_)
  · obtain ⟨a, ns, rfl, _⟩ := h
    rfl
  · obtain ⟨a, ns, rfl, ha, hl, k⟩ := h
    refine ⟨_, pss_one (ps_ret (pe_lst (pa_cons
        (pe_lc (own := [("_law_cell", 1)]) (g := gName 1) (tt := tYes) rfl scDk.nd (pi_list (pe_slice sl_list (pv 0) po_none (po_some pe_int))) (blkOk_by (own := [("_law_cell", 1)]) (N := ["_law_script", "_law_cell"]) (sc := defScope sDk) (by decide +kernel))
          (fun _ _ _ _ _ => pg_name (i := 1) scDk.nd rfl (Or.inl rfl)) (fun _ _ _ _ _ => pts_nil) (fun _ _ _ _ _ => pe_callTy call_int1 (by rfl) T.int (by decide +kernel) (pa_cons (pv 1) pa_nil)))
        (pa_cons pe_int (pa_cons pe_int (pa_cons pe_int pa_nil)))))), ?_⟩
    refine ⟨_, rfl, 63, rfl, a, _, rfl, ha, fun l hln => ?_⟩
    rw [show cutV (ns.map V.int) none (some 63) = ns.map V.int from take_all (k := 63) (by rw [List.length_map]; exact hl)]
    have el := same_upd (o := .lst (ns.map V.int)) hln
    refine ⟨l, rfl, ⟨_, SqL.of upd_same⟩, fun D hD => ?_⟩
    refine lc_data (walk_list (K := K) (a := l) (xs := ns.map V.int)) (fun i => ns[i]?) RelI (fun _ _ _ _ _ q => q) (by rw [List.length_map]; omega) hD (fun H s => SqL.of (s _ _ upd_same)) same_YAt ?_ ?_
    · rintro i x H2 H2' Q2 R2 hi s2 eD ⟨rfl, hx⟩ q1 q2
      rw [List.length_map] at hi
      have ex : x = V.int ns[i] := by
        have q : (ns.map V.int)[i]? = some x := hx
        rw [List.getElem?_map, List.getElem?_eq_getElem hi] at q
        exact (Option.some.inj q).symm
      subst ex
      exact ⟨rfl, _, rfl, .inl ⟨_, rfl, q1 ns[i] (by rw [List.getElem?_eq_getElem hi]) _ _ (Same.refl _) rfl⟩⟩
    · intro H2 acc s2 eD pr _
      rw [List.length_map, fm_get] at pr
      rw [relI_eq pr] at eD
      refine ⟨(by show 4 ≤ sizeLine; decide), fun d hd => ?_⟩
      have s02 := Same.trans el s2
      have ed := same_upd (o := .lst [V.ref D, V.int 0, V.int 0, V.int 0]) hd
      exact k _ d D (s02.trans ed) (s02.free hd) ⟨upd_same, ed _ _ eD, ne_of_none eD hd⟩
abbrev sPk : Stmt := top 39
theorem scPk : FnScope ["_law_deck_here", "_law_many", "_law_found", "_law_cells", "_law_cell", "_law_mixed"] ["_law_deck_here", "_law_many"] (defScope sPk) := ⟨rfl, rfl, rfl, by decide +kernel, rfl, by decide +kernel, by decide +kernel⟩
def spPk : Sp := fun vs H Q _ => ∃ (d c : Addr) (ns : List Int) (i b k m : Int), vs = [.ref d, .int m] ∧ Deck H d c ns i b k ∧ ns.length ≤ 63 ∧ 1 ≤ m ∧ m ≤ 10 ^ 13 ∧
  ∀ v i' b' k', 0 ≤ v → v < m → Q (.int v) (upd H d (.lst [.ref c, .int i', .int b', .int k']))
theorem many_wide {i m : Int} (h1 : 1 ≤ m) (h2 : m ≤ 10 ^ 13) : CDivW i m := wide_div (b := 44) (by omega) (by
  have e : (2 : Nat) ^ 44 = 17592186044416 := by decide
  have e2 : (10 : Int) ^ 13 = 10000000000000 := by decide
  rw [e]; rw [e2] at h2; omega) (by decide) (by decide)
theorem ok_pk {f : Addr} {fd : FuncData} (F : Fun K "_law_pick" "_law_pick" sPk f fd) (T : Gb mg) : FnOk P w K mg base CX0 1 f fd ["_law_deck_here", "_law_many"] spPk := by
  refine F.ok scPk (fun vs H Q E h => ?_) (fun cdv A outer s H vs Q E hr h => ?_)
  · obtain ⟨d, c, ns, i, b, k, m, rfl, _⟩ := h
    rfl
  · obtain ⟨d, c, ns, i, b, k, m, rfl, D, hl, m1, m2, kk⟩ := h
    refine ⟨_, pss_cons (ps_asg (pe_op op_add (pe_ix ix_list (pv 0) pe_int (fun _ _ => rfl)) pe_int) (pg_sub (pv 0) pe_int set_list))
      (pss_cons (ps_if (pt_cmpR op_gt (pe_ix ix_list (pv 0) pe_int (fun _ _ => rfl)) pe_int (nomark _))
          (pss_cons (ps_set (i := 2) scPk.nd rfl (Or.inl rfl) (pe_op op_mod (pe_callTy call_int1 (by rfl) T.int (by decide +kernel) (pa_cons (pe_ix ix_list (pv 0) pe_int (fun _ _ => rfl)) pa_nil)) (pv 1)))
          (pss_cons (ps_asg (pe_op op_fdivW (pe_callTy call_int1 (by rfl) T.int (by decide +kernel) (pa_cons (pe_ix ix_list (pv 0) pe_int (fun _ _ => rfl)) pa_nil)) (pv 1)) (pg_sub (pv 0) pe_int set_list))
          (pss_one (ps_ret (pv 2))))) pss_nil)
      (pss_cons (ps_set (i := 3) scPk.nd rfl (Or.inl rfl) (pe_ix ix_list (pv 0) pe_int (fun _ _ => rfl)))
      (pss_cons (ps_set (i := 4) scPk.nd rfl (Or.inl rfl) pe_int)
      (C8.pss_cut (ps_if (pt_cmpR op_gt (pe_callB call_len_seq (by rfl) T.len PySem.boot_len (pa_cons (pv 3) pa_nil)) pe_int (nomark _))
          (pss_one (ps_set (i := 4) scPk.nd rfl (Or.inl rfl) (pe_ix ix_list (pv 3) (pe_op op_mod (pe_callTy call_int1 (by rfl) T.int (by decide +kernel) (pa_cons (pe_ix ix_list (pv 0) pe_int (fun _ _ => rfl)) pa_nil)) (pe_callB call_len_seq (by rfl) T.len PySem.boot_len (pa_cons (pv 3) pa_nil))) (fun _ _ => rfl)))) pss_nil)
      (pss_cons (ps_asg (pe_op op_add (pe_ix ix_list (pv 0) pe_int (fun _ _ => rfl)) pe_int) (pg_sub (pv 0) pe_int set_list))
      (C8.pss_cut (ps_if (PW.pt (pw_and (pt_cmpR op_ge (pv 4) (pe_op op_pow pe_int pe_int) (nomark _)) (pw_and1 (pt_cmpR op_le (pe_ix ix_list (pv 0) pe_int (fun _ _ => rfl)) (pe_callB call_len_seq (by rfl) T.len PySem.boot_len (pa_cons (pv 3) pa_nil)) (nomark _)))))
          (pss_cons (ps_asg (pe_op op_fdivW (pe_callTy call_int1 (by rfl) T.int (by decide +kernel) (pa_cons (pv 4) pa_nil)) (pv 1)) (pg_sub (pv 0) pe_int set_list))
          (pss_one (ps_ret (pe_op op_mod (pe_callTy call_int1 (by rfl) T.int (by decide +kernel) (pa_cons (pv 4) pa_nil)) (pv 1))))) pss_nil)
      (pss_cons (ps_set (i := 5) scPk.nd rfl (Or.inl rfl) (pe_op op_mod (pe_op op_mul (pe_callTy call_int1 (by rfl) T.int (by decide +kernel) (pa_cons (pe_op op_add (pe_op op_add (pv 4) (pe_op op_mul pe_int (pe_ix ix_list (pv 0) pe_int (fun _ _ => rfl)))) pe_int) pa_nil)) pe_int) pe_int))
      (pss_cons (ps_set (i := 5) scPk.nd rfl (Or.inl rfl) (pe_op op_mod (pe_op op_mul (pv 5) (pe_op op_add (pe_op op_fdiv (pv 5) pe_int) pe_int)) pe_int))
      (pss_cons (ps_set (i := 5) scPk.nd rfl (Or.inl rfl) (pe_op op_mod (pe_op op_mul (pv 5) (pe_op op_add (pe_op op_fdiv (pv 5) pe_int) pe_int)) pe_int))
      (pss_one (ps_ret (pe_op op_mod (pv 5) (pv 1))))))))))))), ?_⟩
    refine ⟨_, rfl, d, _, _, _, rfl, rfl, SqL.of D.at_, atI_nat (j := 3) rfl, _, _, rfl, rfl, _, rfl, d, _, _, 3, rfl, rfl, D.at_, rfl, ?_⟩
    have D1 : Deck (upd H d (.lst [V.ref c, .int i, .int b, .int (k + 1)])) d c ns i b (k + 1) := D.set i b (k + 1)
    have kk1 : ∀ v i' b' k', 0 ≤ v → v < m → Q (.int v) (upd (upd H d (.lst [V.ref c, .int i, .int b, .int (k + 1)])) d (.lst [.ref c, .int i', .int b', .int k'])) := fun v i' b' k' h1 h2 => by rw [upd_upd]; exact kk v i' b' k' h1 h2
    refine ⟨_, rfl, d, _, _, _, rfl, rfl, SqL.of D1.at_, atI_nat (j := 2) rfl, _, _, rfl, rfl, _, rfl, ?_⟩
    by_cases hb : b > 0
    · refine iteD hb ?_
      refine ⟨_, rfl, d, _, _, _, rfl, rfl, SqL.of D1.at_, atI_nat (j := 2) rfl, .inl ⟨_, rfl, _, rfl, _, _, rfl, rfl, (show 0 < m by omega), ?_⟩⟩
      refine ⟨_, rfl, d, _, _, _, rfl, rfl, SqL.of D1.at_, atI_nat (j := 2) rfl, .inl ⟨_, rfl, _, rfl, _, _, rfl, rfl, many_wide m1 m2, _, rfl, d, _, _, 2, rfl, rfl, D1.at_, rfl, ?_⟩⟩
      exact ⟨_, rfl, kk1 (b % m) i (b / m) (k + 1) (Int.emod_nonneg _ (by omega)) (Int.emod_lt_of_pos _ (by omega))⟩
    · refine iteDn hb ?_
      refine ⟨_, rfl, d, _, _, _, rfl, rfl, SqL.of D1.at_, atI_nat (j := 0) rfl, ?_⟩
      refine ⟨fun σ' H' => H' = upd H d (.lst [V.ref c, .int i, .int b, .int (k + 1)]) ∧ ∃ x : Int, σ' = [some (.ref d), some (.int m), none, some (.ref c), some (.int x), none], ?_, ?_⟩
      · refine ⟨_, rfl, c, _, rfl, .inl (SqL.of D1.cells), _, _, rfl, rfl, _, rfl, ?_⟩
        by_cases h0 : ((ns.map V.int).length : Int) > 0
        · refine iteD h0 ?_
          have hi0 := Int.emod_nonneg i (show ((ns.map V.int).length : Int) ≠ 0 by omega)
          have hi1 := Int.emod_lt_of_pos i (show 0 < ((ns.map V.int).length : Int) by omega)
          have hj : (i % ((ns.map V.int).length : Int)).toNat < ns.length := by rw [List.length_map] at hi0 hi1 ⊢; omega
          refine ⟨_, rfl, _, rfl, d, _, _, _, rfl, rfl, SqL.of D1.at_, atI_nat (j := 1) rfl, .inl ⟨_, rfl, _, rfl, c, _, rfl, .inl (SqL.of D1.cells), _, _, rfl, rfl, h0,
            c, _, _, .int ns[(i % ((ns.map V.int).length : Int)).toNat], rfl, rfl, SqL.of D1.cells, at_of (j := (i % ((ns.map V.int).length : Int)).toNat) (by omega) (map_int_get (List.getElem?_eq_getElem hj)), rfl, _, rfl⟩⟩
        · exact iteDn h0 ⟨rfl, 0, rfl⟩
      · rintro σ' H' ⟨rfl, x, rfl⟩
        refine ⟨_, rfl, d, _, _, _, rfl, rfl, SqL.of D1.at_, atI_nat (j := 1) rfl, _, _, rfl, rfl, _, rfl, d, _, _, 1, rfl, rfl, D1.at_, rfl, ?_⟩
        have D2 : Deck (upd (upd H d (.lst [V.ref c, .int i, .int b, .int (k + 1)])) d (.lst [V.ref c, .int (i + 1), .int b, .int (k + 1)])) d c ns (i + 1) b (k + 1) := D1.set (i + 1) b (k + 1)
        have kk2 : ∀ v i' b' k', 0 ≤ v → v < m → Q (.int v) (upd (upd (upd H d (.lst [V.ref c, .int i, .int b, .int (k + 1)])) d (.lst [V.ref c, .int (i + 1), .int b, .int (k + 1)])) d (.lst [.ref c, .int i', .int b', .int k'])) := fun v i' b' k' h1 h2 => by rw [upd_upd]; exact kk1 v i' b' k' h1 h2
        refine ⟨fun σ' H' => H' = (upd (upd H d (.lst [V.ref c, .int i, .int b, .int (k + 1)])) d (.lst [V.ref c, .int (i + 1), .int b, .int (k + 1)])) ∧ σ' = [some (.ref d), some (.int m), none, some (.ref c), some (.int x), none], ?_, ?_⟩
        · refine ⟨_, rfl, _, _, rfl, rfl, ⟨by decide, by decide, by decide⟩, _, _, rfl, rfl, _, rfl, ?_⟩
          by_cases hx : x ≥ (10 : Int) ^ (18 : Int).toNat
          · refine iteD hx ?_
            refine ⟨_, rfl, d, _, _, _, rfl, rfl, SqL.of D2.at_, atI_nat (j := 1) rfl, _, rfl, c, _, rfl, .inl (SqL.of D2.cells), _, _, rfl, rfl, _, rfl, ?_⟩
            by_cases hy : i + 1 ≤ ((ns.map V.int).length : Int)
            · refine iteD hy ?_
              refine ⟨_, rfl, .inl ⟨_, rfl, _, rfl, _, _, rfl, rfl, many_wide m1 m2, _, rfl, d, _, _, 2, rfl, rfl, D2.at_, rfl, ?_⟩⟩
              refine ⟨_, rfl, .inl ⟨_, rfl, _, rfl, _, _, rfl, rfl, (show 0 < m by omega), ?_⟩⟩
              exact kk2 (x % m) (i + 1) (x / m) (k + 1) (Int.emod_nonneg _ (by omega)) (Int.emod_lt_of_pos _ (by omega))
            · exact iteDn hy ⟨rfl, rfl⟩
          · exact iteDn hx (iteF ⟨rfl, rfl⟩)
        · rintro σ2 H2 ⟨rfl, rfl⟩
          refine ⟨_, rfl, _, rfl, d, _, _, _, rfl, rfl, SqL.of D2.at_, atI_nat (j := 3) rfl, _, _, rfl, rfl, .inl ⟨by decide, by decide⟩, _, _, rfl, rfl, _, _, rfl, rfl, .inl ⟨_, rfl, _, _, rfl, rfl, .inr ⟨by decide, by decide⟩, _, _, rfl, rfl, (show (0 : Int) < 2147483647 by decide), ?_⟩⟩
          have y0 := Int.emod_nonneg ((x + 7919 * (k + 1) + 1) * 48271) (show (2147483647 : Int) ≠ 0 by decide)
          have y1 := Int.emod_lt_of_pos ((x + 7919 * (k + 1) + 1) * 48271) (show (0 : Int) < 2147483647 by decide)
          generalize hy : (x + 7919 * (k + 1) + 1) * 48271 % 2147483647 = y at y0 y1
          refine ⟨_, rfl, _, rfl, _, _, rfl, rfl, ⟨(show (0 : Int) < 1009 by decide), (show (1009 : Int) < 1073741824 by decide)⟩, _, _, rfl, rfl, _, _, rfl, rfl, .inl ⟨by omega, by omega⟩, _, _, rfl, rfl, (show (0 : Int) < 2147483647 by decide), ?_⟩
          have z0 := Int.emod_nonneg (y * (y / 1009 + 69621)) (show (2147483647 : Int) ≠ 0 by decide)
          have z1 := Int.emod_lt_of_pos (y * (y / 1009 + 69621)) (show (0 : Int) < 2147483647 by decide)
          generalize hz : y * (y / 1009 + 69621) % 2147483647 = z at z0 z1
          refine ⟨_, rfl, _, rfl, _, _, rfl, rfl, ⟨(show (0 : Int) < 2003 by decide), (show (2003 : Int) < 1073741824 by decide)⟩, _, _, rfl, rfl, _, _, rfl, rfl, .inl ⟨by omega, by omega⟩, _, _, rfl, rfl, (show (0 : Int) < 2147483399 by decide), ?_⟩
          refine ⟨_, rfl, _, rfl, _, _, rfl, rfl, (show 0 < m by omega), ?_⟩
          have key : ∀ u : Int, Q (V.int (u % m)) (upd (upd H d (.lst [V.ref c, .int i, .int b, .int (k + 1)])) d (.lst [V.ref c, .int (i + 1), .int b, .int (k + 1)])) := fun u => by
            rw [upd_upd]
            exact kk _ _ _ _ (Int.emod_nonneg _ (by omega)) (Int.emod_lt_of_pos _ (by omega))
          exact key _
abbrev sFo : Stmt := top 40
theorem scFo : FnScope ["_law_script", "_law_found", "_law_cell"] ["_law_script"] (defScope sFo) := ⟨rfl, rfl, rfl, by decide +kernel, rfl, by decide +kernel, by decide +kernel⟩
def spFo (K : PySem.W.Frag) : Sp := fun vs H Q _ => ∃ (a : Addr) (ns : List Int), vs = [.ref a] ∧ SqL K H a (ns.map V.int) ∧ ns.length ≤ 63 ∧ ∀ v H', Same H H' → Q (.int v) H'
theorem ok_fo {f : Addr} {fd : FuncData} (F : Fun K "_law_fold" "_law_fold" sFo f fd) (T : Gb mg) : FnOk P w K mg base CX0 1 f fd ["_law_script"] (spFo K) := by
  refine F.ok scFo (fun vs H Q E h => ?_) (fun cdv A outer s H vs Q E hr h => ?_)
  · obtain ⟨a, ns, rfl, _⟩ := h
    rfl
  · obtain ⟨a, ns, rfl, ha, hl, k⟩ := h
    refine ⟨_, pss_cons (ps_set (i := 1) scFo.nd rfl (Or.inl rfl) (pe_callB call_len_seq (by rfl) T.len PySem.boot_len (pa_cons (pv 0) pa_nil)))
      (pss_cons (ps_for PassesOwn.never rfl (pi_list (pe_slice sl_list (pv 0) po_none (po_some pe_int))) (pg_name (i := 2) scFo.nd rfl (Or.inl rfl))
        (pss_one (ps_set (i := 1) scFo.nd rfl (Or.inl rfl) (pe_op op_mod (pe_callTy call_int1 (by rfl) T.int (by decide +kernel) (pa_cons (pe_op op_add (pe_op op_add (pe_op op_mul (pv 1) pe_int) (pe_op op_mul (pe_callTy call_int1 (by rfl) T.int (by decide +kernel) (pa_cons (pv 2) pa_nil)) pe_int)) pe_int) pa_nil)) pe_int))))
      (pss_one (ps_ret (pe_op op_mod (pe_callTy call_int1 (by rfl) T.int (by decide +kernel) (pa_cons (pe_op op_mul (pv 1) (pe_op op_add (pe_op op_fdiv (pv 1) pe_int) pe_int)) pa_nil)) pe_int)))), ?_⟩
    refine ⟨_, rfl, a, _, rfl, .inl ha, ?_⟩
    refine ⟨_, rfl, 63, rfl, a, _, rfl, ha, fun l hln => ?_⟩
    rw [show cutV (ns.map V.int) none (some 63) = ns.map V.int from take_all (k := 63) (by rw [List.length_map]; exact hl)]
    have el := same_upd (o := .lst (ns.map V.int)) hln
    refine ⟨l, rfl, ⟨_, SqL.of upd_same⟩, ?_⟩
    refine for_it (walk_list (K := K) (a := l) (xs := ns.map V.int)) (fun i σ H' => H' = upd H l (.lst (ns.map V.int)) ∧ ∃ (z : Int) (v : Option V), σ = [some (.ref a), some (.int z), v] ∧ 0 ≤ z ∧ z < 2147483647)
      ⟨rfl, _, none, rfl, by omega, by rw [List.length_map]; omega⟩ (fun i σ H' _ q => by rw [q.1]; exact SqL.of upd_same) ?_ ?_
    · rintro i x σ H1 H1' hi ⟨rfl, z, v, rfl, z0, z1⟩ ⟨rfl, hx⟩
      rw [List.length_map] at hi
      have ex : x = V.int ns[i] := by
        have q : (ns.map V.int)[i]? = some x := hx
        rw [List.getElem?_map, List.getElem?_eq_getElem hi] at q
        exact (Option.some.inj q).symm
      subst ex
      refine ⟨_, rfl, _, _, rfl, rfl, .inr ⟨by decide, by decide⟩, _, rfl, .inl ⟨_, rfl, _, _, rfl, rfl, .inr ⟨by decide, by decide⟩, _, _, rfl, rfl, _, _, rfl, rfl, .inl ⟨_, rfl, _, _, rfl, rfl, (show (0 : Int) < 2147483647 by decide), ?_⟩⟩⟩
      exact ⟨rfl, _, _, rfl, Int.emod_nonneg _ (by decide), Int.emod_lt_of_pos _ (by decide)⟩
    · rintro σ H1 ⟨rfl, z, v, rfl, z0, z1⟩
      refine ⟨_, rfl, _, rfl, _, _, rfl, rfl, ⟨(show (0 : Int) < 1009 by decide), (show (1009 : Int) < 1073741824 by decide)⟩, _, _, rfl, rfl, _, _, rfl, rfl, .inl ⟨by omega, by omega⟩, .inl ⟨_, rfl, _, _, rfl, rfl, (show (0 : Int) < 2147483399 by decide), ?_⟩⟩
      exact k _ _ el
def Drawn (d c : Addr) (ns : List Int) (H H' : Hp) : Prop := Kept d H H' ∧ ∃ i b k, Deck H' d c ns i b k
theorem Drawn.refl {d c : Addr} {ns : List Int} {H : Hp} {i b k : Int} (D : Deck H d c ns i b k) : Drawn d c ns H H := ⟨fun _ _ _ e => e, i, b, k, D⟩
theorem Drawn.then {d c : Addr} {ns : List Int} {H H' H'' : Hp} (x : Drawn d c ns H H') (s : Same H' H'') : Drawn d c ns H H'' := by
  obtain ⟨kp, i, b, k, D⟩ := x
  exact ⟨fun b o hb e => s _ _ (kp b o hb e), i, b, k, D.same s⟩
theorem Drawn.pick {d c : Addr} {ns : List Int} {H H' : Hp} (x : Drawn d c ns H H') (i b k : Int) : Drawn d c ns H (upd H' d (.lst [.ref c, .int i, .int b, .int k])) := by
  obtain ⟨kp, i', b', k', D⟩ := x
  exact ⟨fun b o hb e => by rw [upd_ne hb]; exact kp b o hb e, i, b, k, D.set i b k⟩
theorem Drawn.trans {d c : Addr} {ns : List Int} {H H' H'' : Hp} (x : Drawn d c ns H H') (y : Drawn d c ns H' H'') : Drawn d c ns H H'' :=
  ⟨fun b o hb e => y.1 b o hb (x.1 b o hb e), y.2⟩
theorem Drawn.wr {d c : Addr} {ns : List Int} {H H' : Hp} {S : Addr} {o : HO} (x : Drawn d c ns H H') (h : H S = none) (hd : S ≠ d) (hc : H c ≠ none) : Drawn d c ns H (upd H' S o) := by
  obtain ⟨kp, i, b, k, D⟩ := x
  have hSc : c ≠ S := fun e => hc (by rw [e]; exact h)
  exact ⟨fun b o hb e => by rw [upd_ne (ne_of_none e h)]; exact kp b o hb e, i, b, k, ⟨by rw [upd_ne hd.symm]; exact D.at_, by rw [upd_ne hSc]; exact D.cells, D.ne⟩⟩
abbrev sCt : Stmt := top 41
theorem scCt : FnScope ["_law_deck_here", "_law_floors", "_law_size", "_law_total", "_law_stands", "_law_wants", "_law_row", "_law_left", "_law_turn", "_law_part", "_law_floor"] ["_law_deck_here", "_law_floors", "_law_size"] (defScope sCt) := ⟨rfl, rfl, rfl, by decide +kernel, rfl, by decide +kernel, by decide +kernel⟩
def Size (z : Int) : Prop := z = 0 ∨ z = 3 ∨ z = 12 ∨ z = 10 ^ 9 ∨ z = 10 ^ 30
def spCt : Sp := fun vs H Q _ => ∃ (d c : Addr) (ns : List Int) (i b k : Int) (n : Nat) (z : Int), vs = [.ref d, .int n, .int z] ∧ Deck H d c ns i b k ∧ ns.length ≤ 63 ∧ 2 ≤ n ∧ n ≤ 40 ∧ Size z ∧
  ∀ (H' : Hp) (p S W : Addr) (ss ws : List Int), Drawn d c ns H H' → H' p = some (.lst [.ref S, .ref W]) → TAt H' S ss → TAt H' W ws → CRow n ss → CRow n ws → ss.sum = ws.sum → Q (.ref p) H'
theorem total_of {z v : Int} (h : Size z) (v0 : 0 ≤ v) (v1 : v < min z (10 ^ 9) + 1) : 0 ≤ v * (1 + (z - 1) / 10 ^ 9) ∧ v * (1 + (z - 1) / 10 ^ 9) ≤ 10 ^ 30 := by
  have e9 : (10 : Int) ^ 9 = 1000000000 := by decide
  have e30 : (10 : Int) ^ 30 = 1000000000000000000000000000000 := by decide
  rw [e9, e30]
  rw [e9] at v1
  rcases h with rfl | rfl | rfl | rfl | rfl
  · have : v = 0 := by omega
    subst this; decide
  · rw [show (1 + ((3 : Int) - 1) / 1000000000) = 1 by decide]; omega
  · rw [show (1 + ((12 : Int) - 1) / 1000000000) = 1 by decide]; omega
  · rw [show (1 + ((10 : Int) ^ 9 - 1) / 1000000000) = 1 by decide]
    rw [e9] at v1
    omega
  · rw [show (1 + ((10 : Int) ^ 30 - 1) / 1000000000) = 1000000000000000000000 by decide]
    rw [e30] at v1
    omega
theorem le_sum : ∀ {l : List Int}, (∀ x ∈ l, 0 ≤ x) → 0 ≤ l.sum ∧ ∀ x ∈ l, x ≤ l.sum
  | [], _ => ⟨Int.le_refl 0, fun x h => nomatch h⟩
  | a :: l, h => by
    obtain ⟨h1, h2⟩ := le_sum (l := l) fun x hx => h x (List.mem_cons_of_mem _ hx)
    have ha := h a List.mem_cons_self
    rw [List.sum_cons]
    refine ⟨by omega, fun x hx => ?_⟩
    rcases List.mem_cons.mp hx with rfl | hx
    · omega
    · have := h2 x hx; omega
theorem zero_sum : ∀ n : Nat, (List.replicate n (0 : Int)).sum = 0
  | 0 => rfl
  | n + 1 => by rw [List.replicate_succ, List.sum_cons, zero_sum n]; rfl
theorem nonneg_set {l : List Int} {j : Nat} {y : Int} (h : ∀ x ∈ l, 0 ≤ x) (hy : 0 ≤ y) : ∀ x ∈ l.set j y, 0 ≤ x := fun x hx => by
  rcases List.mem_or_eq_of_mem_set hx with q | q
  · exact h x q
  · omega
theorem part_of {l v : Int} (l0 : 0 ≤ l) (v0 : 0 ≤ v) (v1 : v < 8) : 0 ≤ l * v / 7 ∧ l * v / 7 ≤ l := by
  have : v = 0 ∨ v = 1 ∨ v = 2 ∨ v = 3 ∨ v = 4 ∨ v = 5 ∨ v = 6 ∨ v = 7 := by omega
  rcases this with rfl | rfl | rfl | rfl | rfl | rfl | rfl | rfl <;> omega
theorem set_sum {l : List Int} {j : Nat} {z y : Int} (h : l[j]? = some z) : (l.set j (z + y)).sum = l.sum + y := by rw [sum_set h]; omega
theorem ok_ct {f : Addr} {fd : FuncData} (F : Fun K "_law_counts" "_law_counts" sCt f fd) (T : Gb mg) (DP : Dn P w K mg base "_law_pick" 1 ["_law_deck_here", "_law_many"] spPk) : FnOk P w K mg base CX0 2 f fd ["_law_deck_here", "_law_floors", "_law_size"] spCt := by
  refine F.ok scCt (fun vs H Q E h => ?_) (fun cdv A outer s H vs Q E hr h => ?_)
  · obtain ⟨d, c, ns, i, b, k, n, z, rfl, _⟩ := h
    rfl
  · obtain ⟨d, c, ns, i, b, k, n, z, rfl, D, hl, n2, n40, hz, kk⟩ := h
    refine ⟨_, pss_cons (ps_set (i := 3) scCt.nd rfl (Or.inl rfl) (pe_op op_mul (pe_call DP.ok hr (by rfl) DP.at_ DP.kp DP.bd .nil pass0 (pa_cons (pv 0) (pa_cons (pe_op op_add (pe_callB (call_minM rfl) (by rfl) T.min (by decide +kernel) (pa_cons (pv 2) (pa_cons (pe_op op_pow pe_int pe_int) pa_nil))) pe_int) pa_nil)))
        (pe_op op_add pe_int (pe_op op_fdiv (pe_op op_sub (pv 2) pe_int) (pe_op op_pow pe_int pe_int)))))
      (pss_cons (ps_set (i := 4) scCt.nd rfl (Or.inl rfl) (pe_op op_rep (pe_lst (pa_cons pe_int pa_nil)) (pv 1))) (pss_cons (ps_set (i := 5) scCt.nd rfl (Or.inl rfl) (pe_op op_rep (pe_lst (pa_cons pe_int pa_nil)) (pv 1)))
      (pss_cons (ps_for PassesOwn.never rfl (pi_list (pe_lst (pa_cons (pv 4) (pa_cons (pv 5) pa_nil)))) (pg_name (i := 6) scCt.nd rfl (Or.inl rfl))
        (pss_cons (ps_set (i := 7) scCt.nd rfl (Or.inl rfl) (pv 3))
        (pss_cons (ps_for PassesOwn.never rfl (pi_range1 (by rfl) T.range (pa_cons (pe_call DP.ok hr (by rfl) DP.at_ DP.kp DP.bd .nil pass0 (pa_cons (pv 0) (pa_cons pe_int pa_nil))) pa_nil)) (pg_name (i := 8) scCt.nd rfl (Or.inl rfl))
          (pss_cons (ps_set (i := 9) scCt.nd rfl (Or.inl rfl) (pe_op op_fdiv (pe_op op_mul (pv 7) (pe_call DP.ok hr (by rfl) DP.at_ DP.kp DP.bd .nil pass0 (pa_cons (pv 0) (pa_cons pe_int pa_nil)))) pe_int))
          (pss_cons (ps_set (i := 10) scCt.nd rfl (Or.inl rfl) (pe_call DP.ok hr (by rfl) DP.at_ DP.kp DP.bd .nil pass0 (pa_cons (pv 0) (pa_cons (pv 1) pa_nil))))
          (pss_cons (ps_asg (pe_op op_add (pe_ix ix_list (pv 6) (pv 10) (fun _ _ => rfl)) (pv 9)) (pg_sub (pv 6) (pv 10) set_list))
          (pss_one (ps_set (i := 7) scCt.nd rfl (Or.inl rfl) (pe_op op_sub (pv 7) (pv 9))))))))
        (pss_cons (ps_set (i := 10) scCt.nd rfl (Or.inl rfl) (pe_call DP.ok hr (by rfl) DP.at_ DP.kp DP.bd .nil pass0 (pa_cons (pv 0) (pa_cons (pv 1) pa_nil))))
        (pss_one (ps_asg (pe_op op_add (pe_ix ix_list (pv 6) (pv 10) (fun _ _ => rfl)) (pv 7)) (pg_sub (pv 6) (pv 10) set_list)))))))
      (pss_one (ps_ret (pe_lst (pa_cons (pe_callTy call_tuple_of (by rfl) T.tuple (by decide +kernel) (pa_cons (pv 4) pa_nil)) (pa_cons (pe_callTy call_tuple_of (by rfl) T.tuple (by decide +kernel) (pa_cons (pv 5) pa_nil)) pa_nil)))))))), ?_⟩
    have hz0 : 0 ≤ z ∧ z ≤ 10 ^ 30 := by
      rcases hz with rfl | rfl | rfl | rfl | rfl <;> decide
    have e9 : (10 : Int) ^ (9 : Int).toNat = 10 ^ 9 := rfl
    refine ⟨_, rfl, _, rfl, _, _, rfl, rfl, ⟨by decide, by decide, by decide⟩, z, 10 ^ 9, rfl, _, _, rfl, rfl, d, c, ns, i, b, k, _, rfl, D, hl, by omega, by omega, fun v i1 b1 k1 v0 v1 => ?_⟩
    refine ⟨_, rfl, _, _, rfl, rfl, _, _, rfl, rfl, ⟨by decide, by decide, by decide⟩, _, _, rfl, rfl, ⟨by decide, by decide⟩, _, _, rfl, rfl, _, _, rfl, rfl, .inl ⟨by omega, by omega⟩, ?_⟩
    obtain ⟨t0, t1⟩ := total_of hz v0 v1
    generalize hT : v * (1 + (z - 1) / 10 ^ 9) = tt at t0 t1
    have x1 := (Drawn.refl D).pick i1 b1 k1
    generalize upd H d (.lst [.ref c, .int i1, .int b1, .int k1]) = HB at *
    obtain ⟨i2, b2, k2, D2⟩ := x1.2
    have hcB : HB c ≠ none := by rw [D2.cells]; intro q; cases q
    refine ⟨(by show 1 ≤ sizeLine; decide), fun l1 hl1 => ?_⟩
    have e1 := same_upd (o := .lst [V.int 0]) hl1
    refine ⟨_, rfl, l1, _, _, rfl, rfl, upd_same, by omega, by omega, by simp; exact Nat.le_trans n40 (by decide), fun S hS => ?_⟩
    have e2 := same_upd (o := .lst (List.replicate (n : Int).toNat [V.int 0]).flatten) hS
    refine ⟨(by show 1 ≤ sizeLine; decide), fun l2 hl2 => ?_⟩
    have e3 := same_upd (o := .lst [V.int 0]) hl2
    refine ⟨_, rfl, l2, _, _, rfl, rfl, upd_same, by omega, by omega, by simp; exact Nat.le_trans n40 (by decide), fun W hW => ?_⟩
    have e4 := same_upd (o := .lst (List.replicate (n : Int).toNat [V.int 0]).flatten) hW
    have hSW : S ≠ W := ne_of_none (e3 _ _ upd_same) hW
    have s0 := ((e1.trans e2).trans e3).trans e4
    have er : (List.replicate (n : Int).toNat [V.int 0]).flatten = (List.replicate n (0 : Int)).map V.int := by
      rw [rep_int, Int.toNat_natCast, List.map_replicate]
    have hS0 : HB S = none := e1.free hS
    have hW0 : HB W = none := e1.free (e2.free (e3.free hW))
    have hSd : S ≠ d := fun q => by rw [q, D2.at_] at hS0; cases hS0
    have hWd : W ≠ d := fun q => by rw [q, D2.at_] at hW0; cases hW0
    have hSx := e4 _ _ (e3 _ _ (upd_same (H := upd HB l1 (.lst [V.int 0])) (a := S) (o := .lst (List.replicate (n : Int).toNat [V.int 0]).flatten)))
    have hWx := upd_same (H := upd (upd (upd HB l1 (.lst [V.int 0])) S (.lst (List.replicate (n : Int).toNat [V.int 0]).flatten)) l2 (.lst [V.int 0])) (a := W) (o := .lst (List.replicate (n : Int).toNat [V.int 0]).flatten)
    generalize upd (upd (upd (upd HB l1 (.lst [V.int 0])) S (.lst (List.replicate (n : Int).toNat [V.int 0]).flatten)) l2 (.lst [V.int 0])) W (.lst (List.replicate (n : Int).toNat [V.int 0]).flatten) = H2 at *
    rw [er] at hSx hWx
    refine ⟨_, rfl, _, rfl, (by show 2 ≤ sizeLine; decide), fun l hln => ?_⟩
    have el := same_upd (o := .lst [V.ref S, V.ref W]) hln
    refine ⟨l, rfl, ⟨_, SqL.of upd_same⟩, ?_⟩
    have x2 : Drawn d c ns HB (upd H2 l (.lst [V.ref S, V.ref W])) := (Drawn.refl D2).then (s0.trans el)
    have hlS : l ≠ S := (ne_of_none hSx hln).symm
    have hlW : l ≠ W := (ne_of_none hWx hln).symm
    have hl0 : HB l = none := s0.free hln
    have hld : l ≠ d := fun q => by rw [q, D2.at_] at hl0; cases hl0
    have zs := zero_sum n
    have zn : ∀ x ∈ List.replicate n (0 : Int), 0 ≤ x := fun x hx => by rw [List.eq_of_mem_replicate hx]; exact Int.le_refl 0
    refine for_it (walk_list (K := K) (a := l) (xs := [V.ref S, V.ref W])) (fun i σ H' => Drawn d c ns HB H' ∧ H' l = some (.lst [V.ref S, V.ref W]) ∧ ∃ (ss ws : List Int) (v6 v7 v8 v9 v10 : Option V), H' S = some (.lst (ss.map V.int)) ∧ H' W = some (.lst (ws.map V.int)) ∧ ss.length = n ∧ ws.length = n ∧
        (∀ x ∈ ss, 0 ≤ x) ∧ (∀ x ∈ ws, 0 ≤ x) ∧ ss.sum = (if 1 ≤ i then tt else 0) ∧ ws.sum = (if 2 ≤ i then tt else 0) ∧
        σ = [some (.ref d), some (.int n), some (.int z), some (.int tt), some (.ref S), some (.ref W), v6, v7, v8, v9, v10])
      ⟨x2, upd_same, _, _, none, none, none, none, none, el _ _ hSx, el _ _ hWx, by simp, by simp, zn, zn, zs, zs, by rw [← hT]; rfl⟩ (fun i σ H' _ q => SqL.of q.2.1) ?_ ?_
    · rintro t x σ H3 H3' ht ⟨x3, hl3, ss, ws, v6, v7, v8, v9, v10, hS3, hW3, len1, len2, nn1, nn2, sum1, sum2, rfl⟩ ⟨rfl, hx⟩
      have pack : ∃ (R : Addr) (rs : List Int), x = .ref R ∧ R ≠ d ∧ HB R = none ∧ H3' R = some (.lst (rs.map V.int)) ∧ rs.length = n ∧ (∀ y ∈ rs, 0 ≤ y) ∧ rs.sum = 0 ∧
          ∀ (H4 : Hp) (rs' : List Int) (w6 w7 w8 w9 w10 : Option V), Drawn d c ns HB H4 → (∀ b o, b ≠ d → b ≠ R → H3' b = some o → H4 b = some o) → H4 R = some (.lst (rs'.map V.int)) → rs'.length = n → (∀ y ∈ rs', 0 ≤ y) → rs'.sum = tt →
            (fun (i : Nat) (σ : L2.St) (H' : Hp) => Drawn d c ns HB H' ∧ H' l = some (.lst [V.ref S, V.ref W]) ∧ ∃ (ss ws : List Int) (v6 v7 v8 v9 v10 : Option V), H' S = some (.lst (ss.map V.int)) ∧ H' W = some (.lst (ws.map V.int)) ∧ ss.length = n ∧ ws.length = n ∧
              (∀ x ∈ ss, 0 ≤ x) ∧ (∀ x ∈ ws, 0 ≤ x) ∧ ss.sum = (if 1 ≤ i then tt else 0) ∧ ws.sum = (if 2 ≤ i then tt else 0) ∧
              σ = [some (.ref d), some (.int n), some (.int z), some (.int tt), some (.ref S), some (.ref W), v6, v7, v8, v9, v10]) (t + 1) [some (.ref d), some (.int n), some (.int z), some (.int tt), some (.ref S), some (.ref W), w6, w7, w8, w9, w10] H4 := by
        have ht2 : t = 0 ∨ t = 1 := by have : t < 2 := ht; omega
        rcases ht2 with rfl | rfl
        · have ex : x = .ref S := (Option.some.inj hx).symm
          refine ⟨S, ss, ex, hSd, hS0, hS3, len1, nn1, sum1, fun H4 rs' w6 w7 w8 w9 w10 x4 k4 h4 l4 nn4 s4 => ?_⟩
          exact ⟨x4, k4 _ _ hld hlS hl3, rs', ws, w6, w7, w8, w9, w10, h4, k4 _ _ hWd hSW.symm hW3, l4, len2, nn4, nn2, s4, sum2, rfl⟩
        · have ex : x = .ref W := (Option.some.inj hx).symm
          refine ⟨W, ws, ex, hWd, hW0, hW3, len2, nn2, sum2, fun H4 rs' w6 w7 w8 w9 w10 x4 k4 h4 l4 nn4 s4 => ?_⟩
          exact ⟨x4, k4 _ _ hld hlW hl3, ss, rs', w6, w7, w8, w9, w10, k4 _ _ hSd hSW hS3, h4, len1, l4, nn1, nn4, sum1, s4, rfl⟩
      obtain ⟨R, rs, rfl, hRd, hR0, hR3, lenr, nnr, sumr, fin⟩ := pack
      refine ⟨_, rfl, ?_⟩
      obtain ⟨i3, b3, k3, D3⟩ := x3.2
      refine ⟨_, rfl, d, c, ns, i3, b3, k3, 6, rfl, D3, hl, by decide, by decide, fun q i4 b4 k4 q0 q1 => ?_⟩
      refine ⟨q, rfl, by omega, by omega, ?_⟩
      have kR : ∀ {H4 : Hp} {o : HO}, (∀ b o, b ≠ d → b ≠ R → H3' b = some o → H4 b = some o) → (∀ b u, b ≠ d → b ≠ R → H3' b = some u → (upd H4 d o) b = some u) := fun k b u h1 h2 e => by rw [upd_ne h1]; exact k b u h1 h2 e
      have kS : ∀ {H4 : Hp} {o : HO}, (∀ b o, b ≠ d → b ≠ R → H3' b = some o → H4 b = some o) → (∀ b u, b ≠ d → b ≠ R → H3' b = some u → (upd H4 R o) b = some u) := fun k b u h1 h2 e => by rw [upd_ne h2]; exact k b u h1 h2 e
      refine for_range (n := q.toNat) (fun j σ H' => Drawn d c ns HB H' ∧ (∀ b o, b ≠ d → b ≠ R → H3' b = some o → H' b = some o) ∧ ∃ (rs' : List Int) (lf : Int) (v8 v9 v10 : Option V), H' R = some (.lst (rs'.map V.int)) ∧ rs'.length = n ∧ (∀ y ∈ rs', 0 ≤ y) ∧ rs'.sum + lf = tt ∧ 0 ≤ lf ∧
          σ = [some (.ref d), some (.int n), some (.int z), some (.int tt), some (.ref S), some (.ref W), some (.ref R), some (.int lf), v8, v9, v10])
        ⟨x3.pick i4 b4 k4, kR (fun _ _ _ _ e => e), rs, tt, v8, v9, v10, by rw [upd_ne hRd]; exact hR3, lenr, nnr, by omega, t0, rfl⟩ ?_ ?_
      · rintro j σ H4 hj ⟨x4, kp4, rs', lf, u8, u9, u10, hR4, len4, nn4, sum4, lf0, rfl⟩
        obtain ⟨i5, b5, k5, D5⟩ := x4.2
        refine ⟨_, rfl, _, rfl, d, c, ns, i5, b5, k5, 8, rfl, D5, hl, by decide, by decide, fun v' i6 b6 k6 v0' v1' => ?_⟩
        refine ⟨_, _, rfl, rfl, .inr ⟨by omega, by omega⟩, _, _, rfl, rfl, ⟨(show (0 : Int) < 7 by decide), (show (7 : Int) < 1073741824 by decide)⟩, ?_⟩
        obtain ⟨p0, p1⟩ := part_of lf0 v0' v1'
        have x5 := x4.pick i6 b6 k6
        have D6 := D5.set i6 b6 k6
        refine ⟨_, rfl, _, rfl, d, c, ns, i6, b6, k6, n, rfl, D6, hl, by omega, by omega, fun q' i7 b7 k7 q0' q1' => ?_⟩
        obtain ⟨jf, rfl⟩ := Int.eq_ofNat_of_zero_le q0'
        have hjf : jf < rs'.length := by omega
        have hg := List.getElem?_eq_getElem hjf
        have x6 := x5.pick i7 b7 k7
        have hR6 : (upd (upd H4 d (.lst [.ref c, .int i6, .int b6, .int k6])) d (.lst [.ref c, .int i7, .int b7, .int k7])) R = some (.lst (rs'.map V.int)) := by rw [upd_ne hRd, upd_ne hRd]; exact hR4
        refine ⟨_, rfl, _, rfl, R, _, _, _, rfl, rfl, SqL.of hR6, atI_nat (map_int_get hg), _, rfl, _, _, rfl, rfl, ?_⟩
        refine ⟨_, rfl, _, rfl, R, _, _, jf, rfl, rfl, hR6, ixN_of rfl (by rw [List.length_map]; exact hjf), ?_⟩
        rw [map_int_set]
        refine ⟨_, rfl, _, rfl, _, _, rfl, rfl, ?_⟩
        refine ⟨x6.wr hR0 hRd hcB, kS (kR (kR kp4)), _, lf - lf * v' / 7, _, _, _, upd_same, by rw [List.length_set]; exact len4, nonneg_set nn4 (by have := nn4 _ (List.getElem_mem hjf); omega), ?_, by omega, rfl⟩
        rw [set_sum hg]
        omega
      · rintro σ H4 ⟨x4, kp4, rs', lf, u8, u9, u10, hR4, len4, nn4, sum4, lf0, rfl⟩
        obtain ⟨i5, b5, k5, D5⟩ := x4.2
        refine ⟨_, rfl, _, rfl, d, c, ns, i5, b5, k5, n, rfl, D5, hl, by omega, by omega, fun q' i6 b6 k6 q0' q1' => ?_⟩
        obtain ⟨jf, rfl⟩ := Int.eq_ofNat_of_zero_le q0'
        have hjf : jf < rs'.length := by omega
        have hg := List.getElem?_eq_getElem hjf
        have hR5 : (upd H4 d (.lst [.ref c, .int i6, .int b6, .int k6])) R = some (.lst (rs'.map V.int)) := by rw [upd_ne hRd]; exact hR4
        refine ⟨_, rfl, _, rfl, R, _, _, _, rfl, rfl, SqL.of hR5, atI_nat (map_int_get hg), _, rfl, _, _, rfl, rfl, ?_⟩
        refine ⟨_, rfl, _, rfl, R, _, _, jf, rfl, rfl, hR5, ixN_of rfl (by rw [List.length_map]; exact hjf), ?_⟩
        rw [map_int_set]
        exact fin _ _ _ _ _ _ _ ((x4.pick i6 b6 k6).wr hR0 hRd hcB) (kS (kR kp4)) upd_same (by rw [List.length_set]; exact len4) (nonneg_set nn4 (by have := nn4 _ (List.getElem_mem hjf); omega)) (by rw [set_sum hg]; exact sum4)
    · rintro σ H3 ⟨x3, hl3, ss, ws, v6, v7, v8, v9, v10, hS3, hW3, len1, len2, nn1, nn2, sum1, sum2, rfl⟩
      have sum1 : ss.sum = tt := sum1
      have sum2 : ws.sum = tt := sum2
      refine ⟨_, rfl, S, _, rfl, .inl ⟨SqL.of hS3, fun a ha => ?_⟩⟩
      have ea := same_upd (o := .tup (ss.map V.int)) ha
      refine ⟨_, rfl, W, _, rfl, .inl ⟨SqL.of (ea _ _ hW3), fun b' hb' => ?_⟩⟩
      have eb := same_upd (o := .tup (ws.map V.int)) hb'
      refine ⟨(by show 2 ≤ sizeLine; decide), fun p hp => ?_⟩
      have ep := same_upd (o := .lst [V.ref a, V.ref b']) hp
      refine kk _ p a b' ss ws (x1.trans (x3.then ((ea.trans eb).trans ep))) upd_same (ep _ _ (eb _ _ upd_same)) (ep _ _ upd_same) ⟨len1, fun x hx => ?_⟩ ⟨len2, fun x hx => ?_⟩ (by rw [sum1, sum2])
      · have := (le_sum nn1).2 x hx
        exact ⟨nn1 x hx, by omega⟩
      · have := (le_sum nn2).2 x hx
        exact ⟨nn2 x hx, by omega⟩
end
end Wl
namespace Wl
open PySem L2 Wr
def PLAt (H : Hp) (a : Addr) (A : List (Int × Int)) : Prop := ∃ ps : List (Addr × (Int × Int)), H a = some (.lst (ps.map fun p => V.ref p.1)) ∧ (∀ p ∈ ps, H p.1 = some (.tup [.int p.2.1, .int p.2.2])) ∧ ps.map (·.2) = A
theorem PLAt.same {H H' : Hp} {a : Addr} {A : List (Int × Int)} (h : PLAt H a A) (s : Same H H') : PLAt H' a A := let ⟨ps, x, y, z⟩ := h; ⟨ps, s _ _ x, fun p m => s _ _ (y p m), z⟩
def RelP (D : Addr) (y : V) (g : Int × Int) (H : Hp) : Prop := ∃ a, y = .ref a ∧ a ≠ D ∧ H a = some (.lst [.int g.1, .int g.2])
theorem relP_mono (D : Addr) (y : V) (g : Int × Int) (H H' : Hp) (k : Kept D H H') (r : RelP D y g H) : RelP D y g H' := let ⟨a, e, n, h⟩ := r; ⟨a, e, n, k _ _ n h⟩
theorem relP_pairs {D : Addr} {H : Hp} : ∀ {acc : List V} {ks : List (Int × Int)}, Paired (fun y g => RelP D y g H) acc ks → ∃ ps : List (Addr × (Int × Int)), acc = ps.map (fun p => V.ref p.1) ∧ ps.map (·.2) = ks ∧ ∀ p ∈ ps, p.1 ≠ D ∧ H p.1 = some (.lst [.int p.2.1, .int p.2.2])
  | _, _, .nil => ⟨[], rfl, rfl, fun _ h => nomatch h⟩
  | _, _, .cons ⟨a, e, n, h⟩ t => by
    obtain ⟨ps, e1, e2, e3⟩ := relP_pairs t
    refine ⟨(a, _) :: ps, by rw [e, e1]; rfl, by rw [← e2]; rfl, fun p hp => ?_⟩
    rcases List.mem_cons.mp hp with rfl | hp
    · exact ⟨n, h⟩
    · exact e3 p hp
theorem isKeys_pairs {H : Hp} : ∀ {ks : List Grp} {bs : List Addr}, IsKeys H (kvsOf ks) bs → ∃ ps : List (Addr × Grp), bs = ps.map (·.1) ∧ ps.map (·.2) = ks ∧ ∀ p ∈ ps, H p.1 = some (.tup [.int p.2.1, .int p.2.2.1])
  | [], _, h => by cases h; exact ⟨[], rfl, rfl, fun _ h => nomatch h⟩
  | g :: ks, _, h => by
    cases h with
    | cons h1 t =>
      obtain ⟨ps, e1, e2, e3⟩ := isKeys_pairs t
      refine ⟨(_, g) :: ps, by rw [e1]; rfl, by rw [← e2]; rfl, fun p hp => ?_⟩
      rcases List.mem_cons.mp hp with rfl | hp
      · exact h1
      · exact e3 p hp
def LLat (H : Hp) (LL : Addr) (L : List (Int × Int)) : Prop := ∃ qs : List (Addr × (Int × Int)), H LL = some (.lst (qs.map fun q => V.ref q.1)) ∧ (∀ q ∈ qs, q.1 ≠ LL ∧ H q.1 = some (.lst [.int q.2.1, .int q.2.2])) ∧ qs.map (·.2) = L
theorem LLat.same {H H' : Hp} {LL : Addr} {L : List (Int × Int)} (h : LLat H LL L) (s : Same H H') : LLat H' LL L := let ⟨qs, x, y, z⟩ := h; ⟨qs, s _ _ x, fun q m => ⟨(y q m).1, s _ _ (y q m).2⟩, z⟩
theorem LLat.upd {H : Hp} {LL b : Addr} {o : HO} {L : List (Int × Int)} {kvs : List (List Key × V)} (h : LLat H LL L) (hb : H b = some (.dT kvs)) : LLat (L2.upd H b o) LL L := by
  obtain ⟨qs, x, y, z⟩ := h
  exact ⟨qs, by rw [upd_ne (ne_of x hb (by intro q; cases q))]; exact x, fun q m => ⟨(y q m).1, by rw [upd_ne (ne_of (y q m).2 hb (by intro q; cases q))]; exact (y q m).2⟩, z⟩
def toP (p : Addr × Grp) : Addr × List Int := (p.1, [p.2.1, p.2.2.1])
theorem asc_ofP {qs : List Grp} (h : qs.Pairwise fun x y => ¬ ([y.1, y.2.1] : List Int) < [x.1, x.2.1]) (nd : (qs.map gk).Nodup) : Asc qs := by
  have nd' : qs.Pairwise fun x y => gk x ≠ gk y := List.pairwise_map.mp nd
  refine (h.and nd').imp fun {x y} q => ?_
  obtain ⟨q1, q2⟩ := q
  unfold ltK
  have e : ¬ (x.1 = y.1 ∧ x.2.1 = y.2.1) := fun z => q2 (by unfold gk; rw [z.1, z.2])
  simp only [List.cons_lt_cons_iff] at q1
  show x.1 < y.1 ∨ (x.1 = y.1 ∧ x.2.1 < y.2.1)
  have n0 : ¬ ([] : List Int) < [] := List.lt_irrefl _
  omega
theorem fm_filter (A : List (Int × Int)) : (List.range A.length).filterMap (fun i => (A[i]?).filter fun x => decide (0 < x.2)) = A.filter fun x => decide (0 < x.2) := by
  have h := fm_get A
  have e : (List.range A.length).filterMap (fun i => (A[i]?).filter fun x => decide (0 < x.2)) = ((List.range A.length).filterMap (fun i => A[i]?)).filter fun x => decide (0 < x.2) := by
    rw [List.filter_filterMap]
  rw [e, h]
section
variable {P : Program} {w : World} {K : PySem.W.Frag} {mg : Str → Option Value} {base : Heap} {CH CS CR : Addr}
theorem pe_unlK {X : Cx} (K : PySem.W.Frag) (h : X.K = K) {es : List Expr} {k : Nat} {t : TGs} {pos : Pos} (n : Nat) (hc : X.calm = true) (hs : PGs X es t)
    (hn : (assignEach es X.env).length = n := by rfl) (hst : (assignEach es X.env).findIdx? (·.1) = none := by rfl) : PG X (.Tuple es k pos) (gUnl K n t) := by subst h; exact pg_unl hc hs hn hst
abbrev sMt : Stmt := top 42
theorem scMt : FnScope ["_law_stands", "_law_wants", "_law_found", "_law_floor", "_law_many", "_law_left", "_law_want", "_law_turn", "_law_here", "_law_part", "_law_pair"] ["_law_stands", "_law_wants"] (defScope sMt) := ⟨rfl, rfl, rfl, by decide +kernel, rfl, by decide +kernel, by decide +kernel⟩
def spMt : Sp := fun vs H Q _ => ∃ (a b : Addr) (A B : List (Int × Int)), vs = [.ref a, .ref b] ∧ PLAt H a A ∧ PLAt H b B ∧ (A.map (·.1)).Nodup ∧ (B.map (·.1)).Nodup ∧ (∀ x ∈ A, 0 ≤ x.2) ∧ (∀ x ∈ B, 0 ≤ x.2) ∧ all_ A = all_ B ∧ A.length ≤ 40 ∧ B.length ≤ 40 ∧
  ∀ (t : Addr) (gs : List Grp) (H' : Hp), Same H H' → GAt H' t gs → gs.Perm (nw A B) → Asc gs → Q (.ref t) H'
theorem cut_oneP (x : V) (xs : List V) : cutV (x :: xs) (some 1) none = xs := by
  unfold cutV
  rw [HT.sIx_none, show HT.sIx (x :: xs).length 0 (some 1) = min 1 (x :: xs).length from HT.sIx_nat _ _ 1, List.length_cons, show min 1 (xs.length + 1) = 1 by omega, List.drop_succ_cons, List.drop_zero, List.take_of_length_le (by omega)]
theorem ok_mt {f : Addr} {fd : FuncData} (F : Fun K "_law_matched" "_law_matched" sMt f fd) (T : Gb mg) : FnOk P w K mg base CX0 1 f fd ["_law_stands", "_law_wants"] spMt := by
  refine F.ok scMt (fun vs H Q E h => ?_) (fun cdv A outer s H vs Q E hr h => ?_)
  · obtain ⟨a, b, A, B, rfl, _⟩ := h
    rfl
  · obtain ⟨a, b, A, B, rfl, ⟨pa, ha, hpa, rfl⟩, ⟨pb, hb, hpb, rfl⟩, ndA, ndB, nnA, nnB, esum, lA, lB, k⟩ := h
    have hu := hu_of hr
    refine ⟨_, pss_cons (ps_set (i := 2) scMt.nd rfl (Or.inr rfl) pe_dnewT)
      (pss_cons (ps_setLc (i := 5) (own := [("_law_floor", 3), ("_law_many", 4)]) rfl scMt.nd rfl rfl (sw_true rfl rfl rfl (by decide +kernel)) (pi_list (pv 0))
          (blkOk_by (own := [("_law_floor", 3), ("_law_many", 4)]) (N := ["_law_stands", "_law_wants", "_law_found", "_law_floor", "_law_many", "_law_left", "_law_want", "_law_turn", "_law_here", "_law_part", "_law_pair"]) (sc := defScope sMt) (by decide +kernel))
          (fun _ _ _ _ _ => pg_tupK K rfl 2 rfl (pgs_cons (pg_name (i := 3) scMt.nd rfl (Or.inl rfl)) (pgs_cons (pg_name (i := 4) scMt.nd rfl (Or.inl rfl)) pgs_nil)))
          (fun _ _ _ _ _ => pts_one (pt_cmpR op_gt (pv 4) pe_int (nomark _)))
          (fun _ _ _ _ _ => pe_lst (pa_cons (pv 3) (pa_cons (pv 4) pa_nil))))
      (pss_cons (ps_for PassesOwn.never rfl (pi_list (pv 1)) (pg_tup rfl (pgs_cons (pg_name (i := 6) scMt.nd rfl (Or.inl rfl)) (pgs_cons (pg_name (i := 4) scMt.nd rfl (Or.inl rfl)) pgs_nil)))
        (pss_one (ps_for PassesOwn.never rfl (pi_range1 (by rfl) T.range (pa_cons (pe_callB call_len_seq (by rfl) T.len PySem.boot_len (pa_cons (pv 0) pa_nil)) pa_nil)) (pg_name (i := 7) scMt.nd rfl (Or.inl rfl))
          (pss_one (ps_if (pt_cmpR op_gt (pv 4) pe_int (nomark _))
            (pss_cons (ps_asg (pe_ix ix_list (pv 5) pe_int (fun _ _ => rfl)) (pg_unl rfl (pgs_cons (pg_name (i := 3) scMt.nd rfl (Or.inl rfl)) (pgs_cons (pg_name (i := 8) scMt.nd rfl (Or.inl rfl)) pgs_nil))))
            (pss_cons (ps_set (i := 9) scMt.nd rfl (Or.inl rfl) (pe_callB (call_minM rfl) (by rfl) T.min (by decide +kernel) (pa_cons (pv 8) (pa_cons (pv 4) pa_nil))))
            (pss_cons (ps_dput hu (pv 2) (pe_tup (pa_cons (pv 3) (pa_cons (pv 6) pa_nil))) (pe_op op_add (pe_dget2 hu (pv 2) (pe_tup (pa_cons (pv 3) (pa_cons (pv 6) pa_nil))) pe_int ⟨rfl, rfl, rfl, rfl⟩) (pv 9)) rfl)
            (pss_cons (ps_set (i := 4) scMt.nd rfl (Or.inl rfl) (pe_op op_sub (pv 4) (pv 9)))
            (pss_cons (ps_asg (pe_lst (pa_cons (pv 3) (pa_cons (pe_op op_sub (pv 8) (pv 9)) pa_nil))) (pg_sub (pv 5) pe_int set_list))
            (pss_one (ps_if (pt_cmpR op_eq (pv 8) (pv 9) (nomark _)) (pss_one (ps_set (i := 5) scMt.nd rfl (Or.inl rfl) (pe_slice sl_list (pv 5) (po_some pe_int) po_none))) pss_nil))))))) pss_nil)))))
      (pss_one (ps_ret (pe_callTy call_tuple_of (by rfl) T.tuple (by decide +kernel) (pa_cons
        (pe_lc (own := [("_law_pair", 10)]) (g := gName 10) (tt := tYes) rfl scMt.nd (pi_list (pe_callB (cr_sortedTI hr.units) (by rfl) T.sorted (by decide +kernel) (pa_cons (pe_callTy (call_list_dT rfl) (by rfl) T.list (by decide +kernel) (pa_cons (pv 2) pa_nil)) pa_nil)))
          (blkOk_by (own := [("_law_pair", 10)]) (N := ["_law_stands", "_law_wants", "_law_found", "_law_floor", "_law_many", "_law_left", "_law_want", "_law_turn", "_law_here", "_law_part", "_law_pair"]) (sc := defScope sMt) (by decide +kernel))
          (fun _ _ _ _ _ => pg_name (i := 10) scMt.nd rfl (Or.inl rfl)) (fun _ _ _ _ _ => pts_nil)
          (fun _ _ _ _ _ => pe_op (op_catTK K rfl) (pv 10) (pe_tup (pa_cons (pe_dget hu (pv 2) (pv 10) (fun _ _ => rfl)) pa_nil)))) pa_nil)))))), ?_⟩
    intro d hd
    have ed := same_upd (o := .dT []) hd
    refine ⟨_, rfl, a, rfl, ⟨_, SqL.of (ed _ _ ha)⟩, fun D hD => ?_⟩
    have hDd : d ≠ D := ne_of_none upd_same hD
    have hD0 : H D = none := ed.free hD
    have lpa : pa.length ≤ 40 := by rw [List.length_map] at lA; exact lA
    have lpb : pb.length ≤ 40 := by rw [List.length_map] at lB; exact lB
    refine lc_data (walk_list (K := K) (a := a) (xs := pa.map fun p => V.ref p.1)) (fun i => ((pa.map (·.2))[i]?).filter fun x => decide (0 < x.2)) (RelP D) (relP_mono D) (by rw [List.length_map]; omega) hD (fun H s => SqL.of (s _ _ (ed _ _ ha))) same_YAt ?_ ?_
    · rintro i x H1 H1' Q1 R1 hi s1 eD ⟨rfl, hx⟩ q1 q2
      obtain ⟨p, hpi, m, rfl⟩ := refs_at hx
      have hpp := s1 _ _ (ed _ _ (hpa p m))
      have hfi : (pa.map (·.2))[i]? = some p.2 := by rw [List.getElem?_map, hpi]; rfl
      refine ⟨p.1, _, rfl, SqT.of hpp, rfl, _, _, rfl, _, _, rfl, rfl, rfl, ?_⟩
      refine ⟨_, rfl, _, _, rfl, rfl, _, rfl, ?_⟩
      by_cases h0 : p.2.2 > 0
      · refine iteD h0 ⟨_, rfl, _, rfl, (by show 2 ≤ sizeLine; decide), fun p1 hp1 => ?_⟩
        refine q1 p.2 (by rw [hfi]; simp [Option.filter, h0]) _ _ (same_upd hp1) ⟨p1, rfl, eD p1 hp1, upd_same⟩
      · exact iteDn h0 (q2 (by rw [hfi]; simp [Option.filter]; omega) _ (Same.refl _))
    · intro H2 acc s2 eD pr _
      rw [List.length_map] at pr
      have pr' : Paired (fun y g => RelP D y g H2) acc ((pa.map (·.2)).filter fun x => decide (0 < x.2)) := by
        rw [← fm_filter, List.length_map]
        exact pr
      obtain ⟨qs0, e1, e2, e3⟩ := relP_pairs pr'
      have s02 : Same H H2 := Same.trans ed s2
      have hd2 : H2 d = some (.dT []) := s2 _ _ upd_same
      have ll0 : LLat H2 D ((pa.map (·.2)).filter fun x => decide (0 < x.2)) := ⟨qs0, by rw [eD, e1], e3, e2⟩
      have hd0 : H d = none := hd
      have ndG : ((nw (pa.map (·.2)) (pb.map (·.2))).map gk).Nodup := nw_nodup _ _ ndA ndB
      have lenG : (nw (pa.map (·.2)) (pb.map (·.2))).length ≤ 80 := by have := nw_len (pa.map (·.2)) (pb.map (·.2)); omega
      have posG : ∀ g ∈ nw (pa.map (·.2)) (pb.map (·.2)), 0 < g.2.2 := fun g hg => (nw_mem _ _ g hg).2.2
      have o0 := OInv.start nnA nnB esum
      rw [List.length_map] at o0
      generalize hG : nw (pa.map (·.2)) (pb.map (·.2)) = G at *
      generalize (pa.map (·.2)).filter (fun x => decide (0 < x.2)) = L0 at *
      obtain ⟨B, hB⟩ : ∃ B : List (Int × Int), B = pb.map fun p => p.2 := ⟨_, rfl⟩
      rw [← hB] at o0
      refine ⟨_, rfl, b, rfl, ⟨_, SqL.of (s02 _ _ hb)⟩, ?_⟩
      refine for_it (walk_list (K := K) (a := b) (xs := pb.map fun p => V.ref p.1)) (fun i σ H' => Same H H' ∧ ∃ (ks : List Grp) (L : List (Int × Int)) (LL : Addr) (v3 v4 v6 v7 v8 v9 v10 : Option V), OInv G (B.drop i) pa.length ks L ∧ H' d = some (.dT (kvsOf ks)) ∧ LLat H' LL L ∧ H LL = none ∧
          σ = [some (.ref a), some (.ref b), some (.ref d), v3, v4, some (.ref LL), v6, v7, v8, v9, v10])
        ⟨s02, [], L0, D, none, none, none, none, none, none, none, o0, hd2, ll0, hD0, rfl⟩ (fun i σ H' _ q => SqL.of (q.1 _ _ hb)) ?_ ?_
      · rintro i x σ H3 H3' hi ⟨s3, ks, L, LL, v3, v4, v6, v7, v8, v9, v10, o3, hd3, ll3, hLL0, rfl⟩ ⟨rfl, hx⟩
        obtain ⟨p, hpi, m, rfl⟩ := refs_at hx
        have hpp := s3 _ _ (hpb p m)
        have hfi : B[i]? = some p.2 := by rw [hB, List.getElem?_map, hpi]; rfl
        obtain ⟨hi', ei⟩ := List.getElem?_eq_some_iff.mp hfi
        rw [List.drop_eq_getElem_cons hi', ei] at o3
        obtain ⟨pAd, wt, bq⟩ := p
        have m0 := o3.turn
        refine ⟨pAd, _, rfl, SqT.of hpp, rfl, _, _, rfl, _, _, rfl, rfl, ?_⟩
        refine ⟨_, rfl, a, _, rfl, .inl (SqL.of (s3 _ _ ha)), _, rfl, by omega, by rw [List.length_map]; omega, ?_⟩
        rw [List.length_map]
        refine for_range (lo := 0) (n := pa.length) (fun t σ H' => Same H H' ∧ ∃ (ks : List Grp) (L : List (Int × Int)) (LL : Addr) (bb : Int) (v3 v7 v8 v9 v10 : Option V), MInv G wt bb (B.drop (i + 1)) pa.length t ks L ∧ L.length ≤ pa.length ∧ H' d = some (.dT (kvsOf ks)) ∧ LLat H' LL L ∧ H LL = none ∧
            σ = [some (.ref a), some (.ref b), some (.ref d), v3, some (.int bb), some (.ref LL), some (.int wt), v7, v8, v9, v10])
          ⟨s3, ks, L, LL, bq, v3, v7, v8, v9, v10, m0, o3.few, hd3, ll3, hLL0, rfl⟩ ?_ ?_
        · rintro t σ H4 ht ⟨s4, ks, L, LL, bb, v3, v7, v8, v9, v10, m4, few4, hd4, ll4, hLL4, rfl⟩
          refine ⟨_, rfl, _, _, rfl, rfl, _, rfl, ?_⟩
          by_cases hb0 : bb > 0
          · refine iteD hb0 ?_
            obtain ⟨sd, an, L', rfl, ha0⟩ := m4.head hb0
            obtain ⟨qs, hLLx, hqs, eqs⟩ := ll4
            cases qs with
            | nil => cases eqs
            | cons q qs' =>
              rw [List.map_cons] at eqs
              injection eqs with eq1 eq2
              obtain ⟨qa, q1, q2⟩ := q
              injection eq1 with eqa eqb
              subst eqa eqb eq2
              obtain ⟨⟨RG, eRG⟩, m5⟩ := m4.step ha0 hb0
              obtain ⟨nqL, hq⟩ := hqs _ List.mem_cons_self
              simp only at nqL hq
              refine ⟨_, rfl, LL, _, _, _, rfl, rfl, SqL.of hLLx, atI_nat (j := 0) rfl, qa, _, rfl, SqL.of hq, rfl, _, _, rfl, _, _, rfl, rfl, ?_⟩
              refine ⟨_, rfl, _, rfl, _, _, rfl, ?_⟩
              have fresh : (q1, wt) ∉ ks.map gk := fun m => by
                rw [eRG, List.map_append, List.map_append] at ndG
                have n1 := (List.nodup_append.mp ndG).1
                exact (List.nodup_append.mp n1).2.2 _ m _ (List.mem_singleton.mpr rfl) rfl
              have klen : ks.length ≤ 80 := by
                have := lenG
                rw [eRG, List.length_append, List.length_append] at this
                omega
              refine ⟨_, rfl, d, rfl, .inr ⟨_, .inl hd4⟩, _, rfl, _, rfl, (by show 2 ≤ sizeLine; decide), fun T2 hT2 => ?_⟩
              have eT2 := same_upd (o := .tup [V.int q1, V.int wt]) hT2
              refine ⟨none, .inr ⟨kvsOf ks, kk q1 wt, T2, .inl (eT2 _ _ hd4), rfl, upd_same, (valV_kvs_none fresh).symm⟩, _, rfl, _, _, rfl, rfl, ?_⟩
              refine ⟨_, rfl, _, rfl, _, rfl, (by show 2 ≤ sizeLine; decide), fun T3 hT3 => ?_⟩
              have eT3 := same_upd (o := .tup [V.int q1, V.int wt]) hT3
              have e23 := eT2.trans eT3
              have hd5 := e23 _ _ hd4
              refine ⟨d, _, rfl, .inr ⟨kvsOf ks, kk q1 wt, T3, hd5, rfl, upd_same, by unfold kvsOf; rw [List.length_map]; exact Nat.lt_of_le_of_lt klen (by decide), rfl⟩, ?_⟩
              rw [putK_kvs fresh, show (0 : Int) + min q2 bb = min q2 bb from Int.zero_add _]
              have s5 : Same H (upd (upd (upd H4 T2 (.tup [V.int q1, V.int wt])) T3 (.tup [V.int q1, V.int wt])) d (.dT (kvsOf (ks ++ [(q1, wt, min q2 bb)])))) := same_w (Same.trans s4 e23) hd0
              have ll5 : LLat (upd (upd (upd H4 T2 (.tup [V.int q1, V.int wt])) T3 (.tup [V.int q1, V.int wt])) d (.dT (kvsOf (ks ++ [(q1, wt, min q2 bb)])))) LL ((q1, q2) :: qs'.map (·.2)) :=
                (LLat.same ⟨(qa, q1, q2) :: qs', hLLx, hqs, rfl⟩ e23).upd hd5
              have hd6 : (upd (upd (upd H4 T2 (.tup [V.int q1, V.int wt])) T3 (.tup [V.int q1, V.int wt])) d (.dT (kvsOf (ks ++ [(q1, wt, min q2 bb)])))) d = some (.dT (kvsOf (ks ++ [(q1, wt, min q2 bb)]))) := upd_same
              generalize upd (upd (upd H4 T2 (.tup [V.int q1, V.int wt])) T3 (.tup [V.int q1, V.int wt])) d (.dT (kvsOf (ks ++ [(q1, wt, min q2 bb)]))) = H5 at *
              obtain ⟨rs, hL5, hrs, ers⟩ := ll5
              cases rs with
              | nil => cases ers
              | cons r0 rs' =>
                rw [List.map_cons] at ers
                injection ers with er1 er2
                refine ⟨_, rfl, _, rfl, _, _, rfl, rfl, ?_⟩
                refine ⟨_, rfl, _, rfl, _, rfl, _, _, rfl, rfl, (by show 2 ≤ sizeLine; decide), fun N5 hN5 => ?_⟩
                have eN := same_upd (o := .lst [V.int q1, V.int (q2 - min q2 bb)]) hN5
                have nNL : N5 ≠ LL := fun z => by rw [z, hL5] at hN5; cases hN5
                refine ⟨_, rfl, LL, _, _, 0, rfl, rfl, eN _ _ hL5, ixN_of (j := 0) rfl (by rw [List.length_map, List.length_cons]; omega), ?_⟩
                have eset : ((r0 :: rs').map fun q => V.ref q.1).set 0 (V.ref N5) = (((N5, (q1, q2 - min q2 bb)) :: rs').map fun q => V.ref q.1) := rfl
                rw [eset]
                have s6 : Same H (upd (upd H5 N5 (.lst [V.int q1, V.int (q2 - min q2 bb)])) LL (.lst (((N5, (q1, q2 - min q2 bb)) :: rs').map fun q => V.ref q.1))) := same_w (s5.trans eN) hLL4
                have hdL : d ≠ LL := ne_of hd6 hL5 (by intro z; cases z)
                have hd7 : (upd (upd H5 N5 (.lst [V.int q1, V.int (q2 - min q2 bb)])) LL (.lst (((N5, (q1, q2 - min q2 bb)) :: rs').map fun q => V.ref q.1))) d = some (.dT (kvsOf (ks ++ [(q1, wt, min q2 bb)]))) := by rw [upd_ne hdL]; exact eN _ _ hd6
                have hL7 : (upd (upd H5 N5 (.lst [V.int q1, V.int (q2 - min q2 bb)])) LL (.lst (((N5, (q1, q2 - min q2 bb)) :: rs').map fun q => V.ref q.1))) LL = _ := upd_same
                have hr7 : ∀ q ∈ (N5, (q1, q2 - min q2 bb)) :: rs', q.1 ≠ LL ∧ (upd (upd H5 N5 (.lst [V.int q1, V.int (q2 - min q2 bb)])) LL (.lst (((N5, (q1, q2 - min q2 bb)) :: rs').map fun q => V.ref q.1))) q.1 = some (.lst [.int q.2.1, .int q.2.2]) := by
                  intro q hq
                  rcases List.mem_cons.mp hq with rfl | hq
                  · exact ⟨nNL, by rw [upd_ne nNL, upd_same]⟩
                  · obtain ⟨z1, z2⟩ := hrs q (List.mem_cons_of_mem _ hq)
                    exact ⟨z1, by rw [upd_ne z1]; exact eN _ _ z2⟩
                generalize upd (upd H5 N5 (.lst [V.int q1, V.int (q2 - min q2 bb)])) LL (.lst (((N5, (q1, q2 - min q2 bb)) :: rs').map fun q => V.ref q.1)) = H7 at *
                refine ⟨_, rfl, _, rfl, rfl, _, rfl, ?_⟩
                by_cases hz : q2 = min q2 bb
                · refine iteD (congrArg V.int hz) ?_
                  rw [if_pos hz] at m5
                  refine ⟨_, rfl, 1, rfl, LL, _, rfl, SqL.of hL7, fun L8 hL8 => ?_⟩
                  have ec : cutV (((N5, (q1, q2 - min q2 bb)) :: rs').map fun q => V.ref q.1) (some 1) none = rs'.map fun q => V.ref q.1 := cut_oneP _ _
                  rw [ec]
                  have e8 := same_upd (o := .lst (rs'.map fun q => V.ref q.1)) hL8
                  refine ⟨s6.trans e8, _, _, L8, _, _, _, _, _, _, m5, by rw [List.length_cons] at few4; omega, e8 _ _ hd7, ⟨rs', upd_same, fun q hq => ?_, er2⟩, s6.free hL8, rfl⟩
                  obtain ⟨z1, z2⟩ := hr7 q (List.mem_cons_of_mem _ hq)
                  exact ⟨ne_of_none z2 hL8, e8 _ _ z2⟩
                · refine iteDn (fun z => hz (V.int.inj z)) ?_
                  rw [if_neg hz] at m5
                  exact ⟨s6, _, _, LL, _, _, _, _, _, _, m5, few4, hd7, ⟨(N5, (q1, q2 - min q2 bb)) :: rs', hL7, hr7, by rw [List.map_cons, er2]⟩, hLL4, rfl⟩
          · refine iteDn hb0 ?_
            exact ⟨s4, _, _, LL, _, _, _, _, _, _, m4.pass hb0, few4, hd4, ll4, hLL4, rfl⟩
        · rintro σ H4 ⟨s4, ks, L, LL, bb, v3, v7, v8, v9, v10, m4, few4, hd4, ll4, hLL4, rfl⟩
          exact ⟨s4, ks, L, LL, _, _, _, _, _, _, _, m4.end_ few4, hd4, ll4, hLL4, rfl⟩
      · rintro σ H3 ⟨s3, ks, L, LL, v3, v4, v6, v7, v8, v9, v10, o3, hd3, ll3, hLL0, rfl⟩
        have eG : ks = G := by
          have e := o3.eq
          rw [List.length_map, show B.drop pb.length = [] from List.drop_of_length_le (by rw [hB, List.length_map]; exact Nat.le_refl _), nw_nil_right, List.append_nil] at e
          exact e
        subst eG
        refine ⟨_, rfl, d, _, rfl, .inl hd3, fun p4 bs hp4 hbs => ?_⟩
        obtain ⟨ps, rfl, eps, hps⟩ := isKeys_pairs hbs
        have e4 := same_upd (o := .lst ((ps.map (·.1)).map V.ref)) hp4
        refine ⟨p4, ps.map toP, rfl, SqL.of (by rw [upd_same, List.map_map, List.map_map]; rfl), fun p hp => ?_, fun qs p5 perm pw hp5 => ?_⟩
        · obtain ⟨q, hq, rfl⟩ := List.mem_map.mp hp
          exact ⟨(by show ([q.2.1, q.2.2.1] : List Int) ≠ []; exact List.cons_ne_nil _ _), e4 _ _ (hps q hq)⟩
        · obtain ⟨ps', perm', rfl⟩ := perm_map perm ps rfl
          have pG : (ps'.map (·.2)).Perm ks := by rw [← eps]; exact perm'.map _
          have asc : Asc (ps'.map (·.2)) := asc_ofP (List.pairwise_map.mpr (List.pairwise_map.mp pw)) ((pG.map gk).nodup_iff.mpr ndG)
          have e5 := same_upd (H := upd H3 p4 (.lst ((ps.map (·.1)).map V.ref))) (o := .lst ((ps'.map toP).map fun q => V.ref q.1)) hp5
          have e45 := e4.trans e5
          have lps : ps'.length ≤ 80 := by
            have := pG.length_eq
            rw [List.length_map] at this
            omega
          have hsrc : (upd (upd H3 p4 (.lst ((ps.map (·.1)).map V.ref))) p5 (.lst ((ps'.map toP).map fun q => V.ref q.1))) p5 = some (.lst (ps'.map fun p => V.ref p.1)) := by rw [upd_same, List.map_map]; rfl
          refine ⟨p5, rfl, ⟨_, SqL.of hsrc⟩, fun D6 hD6 => ?_⟩
          refine lc_data (walk_list (K := K) (a := p5) (xs := ps'.map fun p => V.ref p.1)) (fun i => (ps'.map (·.2))[i]?) (RelG D6) (relG_mono D6) (by rw [List.length_map]; omega) hD6 (fun H s => SqL.of (s _ _ hsrc)) same_YAt ?_ ?_
          · rintro i x H6 H6' Q6 R6 hi s6 eD6 ⟨rfl, hx⟩ q1 q2
            obtain ⟨p, hpi, m, rfl⟩ := refs_at hx
            have s36 := Same.trans e45 s6
            have hk := s36 _ _ (hps p (perm'.mem_iff.mp m))
            have hd6 := s36 _ _ hd3
            have mg : p.2 ∈ ks := by rw [← eps]; exact List.mem_map.mpr ⟨p, perm'.mem_iff.mp m, rfl⟩
            have hv := valV_kvs_at ndG mg
            refine ⟨rfl, ?_⟩
            refine ⟨_, rfl, _, rfl, _, rfl, d, _, rfl, .inr ⟨kvsOf ks, kk p.2.1 p.2.2.1, p.1, .inl hd6, rfl, hk, hv.symm⟩, (by show 1 ≤ sizeLine; decide), fun a1 ha1 => ?_⟩
            have sa1 := same_upd (o := .tup [V.int p.2.2.2]) ha1
            refine ⟨p.1, a1, _, _, rfl, rfl, SqT.of (sa1 _ _ hk), SqT.of upd_same, (by intro z; cases z), (by show 3 ≤ sizeLine; decide), (fun z => nomatch z), fun _ a2 ha2 => ?_⟩
            have sa2 := same_upd (o := .tup (g3 p.2)) ha2
            exact q1 p.2 (by rw [List.getElem?_map, hpi]; rfl) _ _ (sa1.trans sa2) ⟨a2, rfl, eD6 a2 (sa1.free ha2), upd_same⟩
          · intro H6 acc s6 eD6 pr _
            have pr' : Paired (fun y g => RelG D6 y g H6) acc (ps'.map (·.2)) := by
              have el : (ps'.map fun p => V.ref p.1).length = (ps'.map (·.2)).length := by rw [List.length_map, List.length_map]
              rw [el, fm_get] at pr
              exact pr
            obtain ⟨zs, z1, z2, z3⟩ := relG_pairs pr'
            refine ⟨D6, _, rfl, .inl ⟨SqL.of eD6, fun t ht => ?_⟩⟩
            have et := same_upd (o := .tup acc) ht
            refine k t (ps'.map (·.2)) _ (((Same.trans s3 e45).trans s6).trans et) ⟨zs, by rw [upd_same, z1], fun p hp => et _ _ (z3 p hp), z2⟩ pG asc
end
end Wl
namespace Wl
open PySem L2 Wr
theorem fm_tot (p : Grp → Bool) (gs : List Grp) : ((List.range gs.length).filterMap fun i => ((gs[i]?).filter p).map fun g => g.2.2).sum = tot p gs := by
  have e : ((List.range gs.length).filterMap fun i => ((gs[i]?).filter p).map fun g => g.2.2) = (gs.filter p).map fun g => g.2.2 := by
    have h := fm_get gs
    have e1 : ((List.range gs.length).filterMap fun i => ((gs[i]?).filter p).map fun g => g.2.2) = (((List.range gs.length).filterMap fun i => gs[i]?).filter p).map fun g => g.2.2 := by
      rw [List.filter_filterMap, List.map_filterMap]
    rw [e1, h]
  rw [e]; rfl
theorem fm_any (p : Grp → Bool) (gs : List Grp) : ((List.range gs.length).filterMap fun i => (gs[i]?).map p).any id = gs.any p := by
  have h := fm_get gs
  have e : ((List.range gs.length).filterMap fun i => (gs[i]?).map p) = ((List.range gs.length).filterMap fun i => gs[i]?).map p := by
    rw [List.map_filterMap]
  rw [e, h, List.any_map]
  rfl
section
variable {P : Program} {w : World} {K : PySem.W.Frag} {mg : Str → Option Value} {base : Heap} {CH CS CR : Addr}
abbrev sCe : Stmt := top 43
theorem scCe : FnScope ["_law_many", "_law_room"] ["_law_many", "_law_room"] (defScope sCe) := ⟨rfl, rfl, rfl, by decide +kernel, rfl, by decide +kernel, by decide +kernel⟩
theorem ok_ce {f : Addr} {fd : FuncData} (F : Fun K "_law_ceil" "_law_ceil" sCe f fd) : FnOk P w K mg base CX0 1 f fd ["_law_many", "_law_room"] spRu := by
  refine F.ok scCe (fun vs H Q E h => ?_) (fun cdv A outer s H vs Q E hr h => ?_)
  · obtain ⟨n, r, rfl, _⟩ := h
    rfl
  · obtain ⟨n, r, rfl, h1, h2, k⟩ := h
    refine ⟨_, pss_one (ps_ret (pe_op op_fdivW (pe_op op_sub (pe_op op_add (pv 0) (pv 1)) pe_int) (pv 1))), ?_⟩
    exact ⟨_, rfl, _, rfl, _, _, rfl, rfl, _, _, rfl, rfl, _, rfl, _, _, rfl, rfl, room_wide h1 h2, k⟩
abbrev sNb : Stmt := top 44
theorem scNb : FnScope ["_law_room", "_law_lift", "_law_groups", "_law_gap", "_law_up", "_law_down", "_law_left", "_law_group"] ["_law_room", "_law_lift", "_law_groups", "_law_gap"] (defScope sNb) := ⟨rfl, rfl, rfl, by decide +kernel, rfl, by decide +kernel, by decide +kernel⟩
def spNb : Sp := fun vs H Q _ => ∃ (t : Addr) (r g : Int) (gs : List Grp), vs = [.int r, .int 0, .ref t, .int g] ∧ GAt H t gs ∧ gs.length ≤ 400 ∧ 1 ≤ r ∧ r ≤ 10 ^ 12 ∧ 0 ≤ g ∧ ∀ H', Same H H' → Q (.int (num r gs g)) H'
theorem ok_nb {f : Addr} {fd : FuncData} (F : Fun K "_law_number" "_law_number" sNb f fd) (T : Gb mg) (DC : Dn P w K mg base "_law_ceil" 1 ["_law_many", "_law_room"] spRu) : FnOk P w K mg base CX0 2 f fd ["_law_room", "_law_lift", "_law_groups", "_law_gap"] spNb := by
  refine F.ok scNb (fun vs H Q E h => ?_) (fun cdv A outer s H vs Q E hr h => ?_)
  · obtain ⟨t, r, g, gs, rfl, _⟩ := h
    rfl
  · obtain ⟨t, r, g, gs, rfl, ⟨ps, ht, hp, hgs⟩, few, h1, h2, g0, k⟩ := h
    have hlen : ps.length = gs.length := by rw [← hgs, List.length_map]
    refine ⟨_, pss_cons (ps_set (i := 4) scNb.nd rfl (Or.inl rfl) (pe_callB (cr_sum rfl) (by rfl) T.sum (by decide +kernel) (pa_cons
          (pe_lc (own := [("_law_group", 7)]) (g := gName 7) rfl scNb.nd (pi_tup (pv 2)) (blkOk_by (own := [("_law_group", 7)]) (N := ["_law_room", "_law_lift", "_law_groups", "_law_gap", "_law_up", "_law_down", "_law_left", "_law_group"]) (sc := defScope sNb) (by decide +kernel))
            (fun _ _ _ _ _ => pg_name (i := 7) scNb.nd rfl (Or.inl rfl)) (fun _ _ _ _ _ => pts_one (pt_chain op_le op_lt (pe_ix (ix_tupK K rfl) (pv 7) pe_int (fun _ _ => rfl)) (pv 3) (pe_ix (ix_tupK K rfl) (pv 7) pe_int (fun _ _ => rfl))))
            (fun _ _ _ _ _ => pe_ix (ix_tupK K rfl) (pv 7) pe_int (fun _ _ => rfl))) pa_nil)))
      (pss_cons (ps_set (i := 5) scNb.nd rfl (Or.inl rfl) (pe_callB (cr_sum rfl) (by rfl) T.sum (by decide +kernel) (pa_cons
          (pe_lc (own := [("_law_group", 7)]) (g := gName 7) rfl scNb.nd (pi_tup (pv 2)) (blkOk_by (own := [("_law_group", 7)]) (N := ["_law_room", "_law_lift", "_law_groups", "_law_gap", "_law_up", "_law_down", "_law_left", "_law_group"]) (sc := defScope sNb) (by decide +kernel))
            (fun _ _ _ _ _ => pg_name (i := 7) scNb.nd rfl (Or.inl rfl)) (fun _ _ _ _ _ => pts_one (pt_chain op_le op_lt (pe_ix (ix_tupK K rfl) (pv 7) pe_int (fun _ _ => rfl)) (pv 3) (pe_ix (ix_tupK K rfl) (pv 7) pe_int (fun _ _ => rfl))))
            (fun _ _ _ _ _ => pe_ix (ix_tupK K rfl) (pv 7) pe_int (fun _ _ => rfl))) pa_nil)))
      (pss_cons (ps_if (pt_cmpR op_gt (pv 1) (pv 3) (nomark _)) (pss_one ps_never) pss_nil)
      (pss_cons (ps_set (i := 6) scNb.nd rfl (Or.inl rfl) (pe_callB (cr_any rfl) (by rfl) T.any (by decide +kernel) (pa_cons
          (pe_lc (own := [("_law_group", 7)]) (g := gName 7) (tt := tYes) rfl scNb.nd (pi_tup (pv 2)) (blkOk_by (own := [("_law_group", 7)]) (N := ["_law_room", "_law_lift", "_law_groups", "_law_gap", "_law_up", "_law_down", "_law_left", "_law_group"]) (sc := defScope sNb) (by decide +kernel))
            (fun _ _ _ _ _ => pg_name (i := 7) scNb.nd rfl (Or.inl rfl)) (fun _ _ _ _ _ => pts_nil)
            (fun _ _ _ _ _ => pe_and (pe_cmpR op_ne (pe_ix (ix_tupK K rfl) (pv 7) pe_int (fun _ _ => rfl)) (pe_ix (ix_tupK K rfl) (pv 7) pe_int (fun _ _ => rfl)) (nomark _))
              (pe_one (pe_cmpR op_gt (pe_callB (call_maxM rfl) (by rfl) T.max (by decide +kernel) (pa_cons (pe_ix (ix_tupK K rfl) (pv 7) pe_int (fun _ _ => rfl)) (pa_cons (pe_ix (ix_tupK K rfl) (pv 7) pe_int (fun _ _ => rfl)) pa_nil))) (pv 3) (nomark _))))) pa_nil)))
      (pss_one (ps_ret (pe_op op_mul pe_int (pe_callB (call_max3 rfl) (by rfl) T.max (by decide +kernel) (pa_cons (pe_call DC.ok hr (by rfl) DC.at_ DC.kp DC.bd .nil pass0 (pa_cons (pv 4) (pa_cons (pv 0) pa_nil)))
          (pa_cons (pe_call DC.ok hr (by rfl) DC.at_ DC.kp DC.bd .nil pass0 (pa_cons (pv 5) (pa_cons (pv 0) pa_nil))) (pa_cons (pe_callTy call_int1 (by rfl) T.int (by decide +kernel) (pa_cons (pv 6) pa_nil)) pa_nil)))))))))), ?_⟩
    have at_ : ∀ {i : Nat} {x : V} {H1 : Hp}, (ps.map fun p => V.ref p.1)[i]? = some x → Same H H1 → ∃ a sd wt mn, x = .ref a ∧ H1 a = some (.tup [.int sd, .int wt, .int mn]) ∧ gs[i]? = some (sd, wt, mn) := fun {i x H1} hx s => by
      obtain ⟨p, hpi, m, rfl⟩ := refs_at hx
      exact ⟨p.1, p.2.1, p.2.2.1, p.2.2.2, rfl, s _ _ (hp p m), by rw [← hgs, List.getElem?_map, hpi]; rfl⟩
    refine ⟨_, rfl, t, rfl, ⟨_, SqT.of ht⟩, fun D hD => ?_⟩
    refine lc_data (walk_tup (K := K) (a := t) (xs := ps.map fun p => V.ref p.1)) (fun i => ((gs[i]?).filter (isUp g)).map fun g => g.2.2) RelI (fun _ _ _ _ _ q => q) (by rw [List.length_map]; omega) hD (fun H s => SqT.of (s _ _ ht)) same_YAt ?_ ?_
    · rintro i x H1 H1' Q1 R1 hi s1 eD ⟨rfl, hx⟩ q1 q2
      obtain ⟨a, sd, wt, mn, rfl, hat, hgi⟩ := at_ hx s1
      have eu : isUp g (sd, wt, mn) = true ↔ sd ≤ g ∧ g < wt := by unfold isUp; simp only [Bool.and_eq_true, decide_eq_true_eq]
      have no : ¬ (sd ≤ g ∧ g < wt) → R1 H1' := fun z => q2 (by rw [hgi]; simp [Option.filter, eu, z]) _ (Same.refl _)
      refine ⟨rfl, _, rfl, a, _, _, _, rfl, rfl, SqT.of hat, atI_nat (j := 0) rfl, _, rfl, _, _, rfl, rfl, _, rfl, ?_⟩
      by_cases c1 : sd ≤ g
      · refine iteD c1 ⟨_, rfl, a, _, _, _, rfl, rfl, SqT.of hat, atI_nat (j := 1) rfl, _, _, rfl, rfl, _, rfl, ?_⟩
        by_cases c2 : g < wt
        · refine iteD c2 ⟨_, rfl, a, _, _, _, rfl, rfl, SqT.of hat, atI_nat (j := 2) rfl, ?_⟩
          exact q1 mn (by rw [hgi]; simp [Option.filter, eu.mpr ⟨c1, c2⟩]) _ _ (Same.refl _) rfl
        · exact iteDn c2 (no fun z => c2 z.2)
      · exact iteDn c1 ⟨false, rfl, iteF (no fun z => c1 z.1)⟩
    · intro H2 acc s2 eD pr _
      rw [List.length_map, hlen] at pr
      rw [relI_eq pr] at eD
      refine ⟨D, _, rfl, SqL.of eD, ?_⟩
      rw [fm_tot]
      show _
      have ht2 := s2 _ _ ht
      refine ⟨_, rfl, t, rfl, ⟨_, SqT.of ht2⟩, fun D' hD' => ?_⟩
      refine lc_data (walk_tup (K := K) (a := t) (xs := ps.map fun p => V.ref p.1)) (fun i => ((gs[i]?).filter (isDown g)).map fun g => g.2.2) RelI (fun _ _ _ _ _ q => q) (by rw [List.length_map]; omega) hD' (fun H s => SqT.of (s _ _ ht2)) same_YAt ?_ ?_
      · rintro i x H1 H1' Q1 R1 hi s1 eD' ⟨rfl, hx⟩ q1 q2
        obtain ⟨a, sd, wt, mn, rfl, hat, hgi⟩ := at_ hx (Same.trans s2 s1)
        have eu : isDown g (sd, wt, mn) = true ↔ wt ≤ g ∧ g < sd := by unfold isDown; simp only [Bool.and_eq_true, decide_eq_true_eq]
        have no : ¬ (wt ≤ g ∧ g < sd) → R1 H1' := fun z => q2 (by rw [hgi]; simp [Option.filter, eu, z]) _ (Same.refl _)
        refine ⟨rfl, _, rfl, a, _, _, _, rfl, rfl, SqT.of hat, atI_nat (j := 1) rfl, _, rfl, _, _, rfl, rfl, _, rfl, ?_⟩
        by_cases c1 : wt ≤ g
        · refine iteD c1 ⟨_, rfl, a, _, _, _, rfl, rfl, SqT.of hat, atI_nat (j := 0) rfl, _, _, rfl, rfl, _, rfl, ?_⟩
          by_cases c2 : g < sd
          · refine iteD c2 ⟨_, rfl, a, _, _, _, rfl, rfl, SqT.of hat, atI_nat (j := 2) rfl, ?_⟩
            exact q1 mn (by rw [hgi]; simp [Option.filter, eu.mpr ⟨c1, c2⟩]) _ _ (Same.refl _) rfl
          · exact iteDn c2 (no fun z => c2 z.2)
        · exact iteDn c1 ⟨false, rfl, iteF (no fun z => c1 z.1)⟩
      · intro H3 acc3 s3 eD3 pr3 _
        rw [List.length_map, hlen] at pr3
        rw [relI_eq pr3] at eD3
        refine ⟨D', _, rfl, SqL.of eD3, ?_⟩
        rw [fm_tot]
        refine ⟨_, rfl, _, rfl, _, _, rfl, rfl, _, rfl, iteDn (show ¬ (0 : Int) > g by omega) ?_⟩
        have s23 := Same.trans s2 s3
        have ht3 := s23 _ _ ht
        refine ⟨_, rfl, t, rfl, ⟨_, SqT.of ht3⟩, fun D4 hD4 => ?_⟩
        refine lc_data (walk_tup (K := K) (a := t) (xs := ps.map fun p => V.ref p.1)) (fun i => (gs[i]?).map (isLeft g)) RelB (fun _ _ _ _ _ q => q) (by rw [List.length_map]; omega) hD4 (fun H s => SqT.of (s _ _ ht3)) same_YAt ?_ ?_
        · rintro i x H1 H1' Q1 R1 hi s1 eD' ⟨rfl, hx⟩ q1 q2
          obtain ⟨a, sd, wt, mn, rfl, hat, hgi⟩ := at_ hx (Same.trans s23 s1)
          have el : isLeft g (sd, wt, mn) = true ↔ sd ≠ wt ∧ g < max sd wt := by unfold isLeft; simp
          have yes : ∀ b : Bool, isLeft g (sd, wt, mn) = b → Q1 (.bl b) H1' := fun b z => q1 b (by rw [hgi, ← z]; rfl) _ _ (Same.refl _) rfl
          refine ⟨rfl, ?_⟩
          refine ⟨_, rfl, a, _, _, _, rfl, rfl, SqT.of hat, atI_nat (j := 0) rfl, _, rfl, a, _, _, _, rfl, rfl, SqT.of hat, atI_nat (j := 1) rfl, rfl, ?_⟩
          by_cases c1 : sd = wt
          · refine ⟨false, eNF (by rw [c1]), iteF ?_⟩
            exact yes false (Bool.eq_false_iff.mpr fun z => (el.mp z).1 c1)
          · refine ⟨true, eNT (fun z => c1 (V.int.inj z)), iteT ?_⟩
            refine ⟨_, rfl, a, _, _, _, rfl, rfl, SqT.of hat, atI_nat (j := 0) rfl, _, rfl, a, _, _, _, rfl, rfl, SqT.of hat, atI_nat (j := 1) rfl, _, _, rfl, _, rfl, _, _, rfl, rfl, ?_⟩
            by_cases c2 : g < max sd wt
            · have := yes true (el.mpr ⟨c1, c2⟩)
              exact blT (Q := Q1) c2 this
            · have := yes false (Bool.eq_false_iff.mpr fun z => c2 (el.mp z).2)
              show Q1 (V.bl (decide (max sd wt > g))) H1'
              rw [decide_eq_false c2]
              exact this
        · intro H4 acc4 s4 eD4 pr4 _
          rw [List.length_map, hlen] at pr4
          rw [relB_eq pr4] at eD4
          refine ⟨D4, _, rfl, SqL.of eD4, ?_⟩
          rw [fm_any]
          refine ⟨_, rfl, _, rfl, up gs g, r, rfl, h1, h2, _, rfl, _, rfl, down gs g, r, rfl, h1, h2, _, rfl, .inr ⟨left gs g, rfl, _, _, _, rfl, _, _, rfl, rfl, .inl ⟨by decide, by decide⟩, ?_⟩⟩
          exact k _ (Same.trans s23 s4)
abbrev sNs : Stmt := top 45
theorem scNs : FnScope ["_law_floors", "_law_room", "_law_lift", "_law_groups", "_law_gap"] ["_law_floors", "_law_room", "_law_lift", "_law_groups"] (defScope sNs) := ⟨rfl, rfl, rfl, by decide +kernel, rfl, by decide +kernel, by decide +kernel⟩
def spNs : Sp := fun vs H Q _ => ∃ (t : Addr) (n : Nat) (r : Int) (gs : List Grp), vs = [.int n, .int r, .int 0, .ref t] ∧ GAt H t gs ∧ gs.length ≤ 400 ∧ 2 ≤ n ∧ n ≤ 40 ∧ 1 ≤ r ∧ r ≤ 10 ^ 12 ∧ ∀ H' q, Same H H' → TAt H' q (nums n r gs) → Q (.ref q) H'
theorem ok_ns {f : Addr} {fd : FuncData} (F : Fun K "_law_numbers" "_law_numbers" sNs f fd) (T : Gb mg) (DN : Dn P w K mg base "_law_number" 2 ["_law_room", "_law_lift", "_law_groups", "_law_gap"] spNb) : FnOk P w K mg base CX0 3 f fd ["_law_floors", "_law_room", "_law_lift", "_law_groups"] spNs := by
  refine F.ok scNs (fun vs H Q E h => ?_) (fun cdv A outer s H vs Q E hr h => ?_)
  · obtain ⟨t, n, r, gs, rfl, _⟩ := h
    rfl
  · obtain ⟨t, n, r, gs, rfl, hg, few, n2, n40, h1, h2, k⟩ := h
    refine ⟨_, pss_one (ps_ret (pe_callTy call_tuple_of (by rfl) T.tuple (by decide +kernel) (pa_cons
        (pe_lc (own := [("_law_gap", 4)]) (g := gName 4) (tt := tYes) rfl scNs.nd (pi_range1 (by rfl) T.range (pa_cons (pe_op op_sub (pv 0) pe_int) pa_nil)) (blkOk_by (own := [("_law_gap", 4)]) (N := ["_law_floors", "_law_room", "_law_lift", "_law_groups", "_law_gap"]) (sc := defScope sNs) (by decide +kernel))
          (fun _ _ _ _ _ => pg_name (i := 4) scNs.nd rfl (Or.inl rfl)) (fun _ _ _ _ _ => pts_nil)
          (fun _ _ _ _ _ => pe_call DN.ok hr (by rfl) DN.at_ DN.kp DN.bd .nil pass0 (pa_cons (pv 1) (pa_cons (pv 2) (pa_cons (pv 3) (pa_cons (pv 4) pa_nil)))))) pa_nil))), ?_⟩
    refine ⟨_, rfl, _, _, rfl, rfl, _, rfl, by omega, by omega, fun D hD => ?_⟩
    refine lc_data (n := n - 1) (G := fun _ => True) (Y := YFn fun i => .int (0 + i)) ⟨fun i H hi _ => (by show i < ((n : Int) - 1).toNat; omega), fun H _ => (by show ((n : Int) - 1).toNat ≤ n - 1; omega), fun i H x H' _ _ y => y⟩
      (fun i => some (num r gs (i : Nat))) RelI (fun _ _ _ _ _ q => q) (by omega) hD (fun H s => trivial) same_YFn ?_ ?_
    · rintro i x H2 H2' Q2 R2 hi s2 eD ⟨rfl, rfl⟩ q1 q2
      refine ⟨rfl, ?_⟩
      refine ⟨_, rfl, _, rfl, _, rfl, _, rfl, t, r, (i : Nat), gs, by (show [V.int r, V.int 0, V.ref t, V.int (0 + ((i : Nat) : Int))] = _); rw [Int.zero_add], hg.same s2, few, h1, h2, by omega, fun H3 s3 => ?_⟩
      exact q1 _ rfl _ _ s3 rfl
    · intro H2 acc s2 eD pr _
      rw [fm_some] at pr
      rw [relI_eq pr] at eD
      refine ⟨D, _, rfl, .inl ⟨SqL.of eD, fun l hl => ?_⟩⟩
      exact k _ l (s2.trans (same_upd hl)) upd_same
structure StandNe (P : Program) (w : World) (K : PySem.W.Frag) (mg : Str → Option Value) (base : Heap) (CH CS CR : Addr) where
  f : Addr
  fd : FuncData
  ok : FnOk P w K mg base CX0 3 f fd ["self", "other"] (spEq (SEq CH CS CR))
  ne : NeC K CR CS f
  bd : Binds K fd ["self", "other"] []
structure StandMk (P : Program) (w : World) (K : PySem.W.Frag) (mg : Str → Option Value) (base : Heap) (CH CS : Addr) where
  f : Addr
  fd : FuncData
  made : Mk K CS f
  ok : FnOk P w K mg base CX0 6 f fd ["self", "house", "lift", "groups"] (spSi CH CS)
  bd : Binds K fd ["self", "house", "lift", "groups"] []
abbrev sIt : Stmt := top 46
theorem scIt : FnScope ["_law_house", "_law_stands", "_law_wants", "_law_thing", "_law_groups", "_law_floor", "_law_group"] ["_law_house", "_law_stands", "_law_wants", "_law_thing", "_law_groups"] (defScope sIt) := ⟨rfl, rfl, rfl, by decide +kernel, rfl, by decide +kernel, by decide +kernel⟩
def spIt (CH CR : Addr) : Sp := fun vs H Q _ => ∃ (h S W x t t' : Addr) (n : Nat) (r : Int) (ss ws : List Int) (gs : List Grp), vs = [.ref h, .ref S, .ref W, .ref x, .ref t'] ∧ Cts CH H h S W n r ss ws ∧ StandAt CR H x h t ∧ GAt H t gs ∧ GAt H t' gs ∧ GsOk n gs ∧ Has n ss ws gs ∧ ∀ H', Same H H' → Q (.bl true) H'
theorem ok_it {f : Addr} {fd : FuncData} (F : Fun K "_law_is_it" "_law_is_it" sIt f fd) (T : Tx K mg CH CS CR) (SN : StandNe P w K mg base CH CS CR) (SM : StandMk P w K mg base CH CS) (DI : Dn P w K mg base "is_wishes" 5 ["house", "stands", "wants", "thing"] (spIw CH CR)) :
    FnOk P w K mg base CX0 8 f fd ["_law_house", "_law_stands", "_law_wants", "_law_thing", "_law_groups"] (spIt CH CR) := by
  refine F.ok scIt (fun vs H Q E h => ?_) (fun cdv A outer s H vs Q E hr h => ?_)
  · obtain ⟨h, S, W, x, t, t', n, r, ss, ws, gs, rfl, _⟩ := h
    rfl
  · obtain ⟨h, S, W, x, t, t', n, r, ss, ws, gs, rfl, c, ⟨dx, hx⟩, hg, hg', ok, hs, k⟩ := h
    have hr4 : Room 4 _ := hr.mono (by decide)
    have hr5 : Room 5 _ := hr.mono (by decide)
    refine ⟨_, pss_cons (ps_if (PW.pt (pw_or (pt_not (pt_val (pe_callB call_isi (by rfl) T.isinstance (by decide +kernel) (pa_cons (pv 3) (pa_cons (pe_glob (v := .ref CS) (by rfl) T.mgS rfl) pa_nil)))))
        (pw_or (pt_cmpR (op_neG SN.ok SN.ne SN.bd pass0 hr4) (pv 3) (pe_make SM.made SM.ok hr (by rfl) T.mgS SM.bd .nil pass0 (pa_cons (pv 0) (pa_cons pe_int (pa_cons (pv 4) pa_nil)))) (nomark _))
        (pw_or1 (pt_cmpR (op_neD hr.units) (pe_fld (pv 3) rfl) (pv 4) (nomark _)))))) (pss_one (ps_ret pe_bl)) pss_nil)
      (pss_cons (ps_for PassesOwn.never rfl (pi_range1 (by rfl) T.range (pa_cons (pe_fld (pv 0) rfl) pa_nil)) (pg_name (i := 5) scIt.nd rfl (Or.inr rfl))
        (pss_cons (ps_if (pt_cmpR op_ne (pe_callB (cr_sum rfl) (by rfl) T.sum (by decide +kernel) (pa_cons
            (pe_lc (own := [("_law_group", 6)]) (g := gName 6) rfl scIt.nd (pi_tup (pe_fld (pv 3) rfl)) (blkOk_by (own := [("_law_group", 6)]) (N := ["_law_house", "_law_stands", "_law_wants", "_law_thing", "_law_groups", "_law_floor", "_law_group"]) (sc := defScope sIt) (by decide +kernel))
              (fun _ _ _ _ _ => pg_name (i := 6) scIt.nd rfl (Or.inl rfl)) (fun _ _ _ _ _ => pts_one (pt_cmpR op_eq (pe_ix (ix_tupK K rfl) (pv 6) pe_int (fun _ _ => rfl)) (pv 5) (nomark _)))
              (fun _ _ _ _ _ => pe_ix (ix_tupK K rfl) (pv 6) pe_int (fun _ _ => rfl))) pa_nil)) (pe_ix ix_tup (pv 1) (pv 5) (fun _ _ => rfl)) (nomark _)) (pss_one (ps_ret pe_bl)) pss_nil)
        (pss_one (ps_if (pt_cmpR op_ne (pe_callB (cr_sum rfl) (by rfl) T.sum (by decide +kernel) (pa_cons
            (pe_lc (own := [("_law_group", 6)]) (g := gName 6) rfl scIt.nd (pi_tup (pe_fld (pv 3) rfl)) (blkOk_by (own := [("_law_group", 6)]) (N := ["_law_house", "_law_stands", "_law_wants", "_law_thing", "_law_groups", "_law_floor", "_law_group"]) (sc := defScope sIt) (by decide +kernel))
              (fun _ _ _ _ _ => pg_name (i := 6) scIt.nd rfl (Or.inl rfl)) (fun _ _ _ _ _ => pts_one (pt_cmpR op_eq (pe_ix (ix_tupK K rfl) (pv 6) pe_int (fun _ _ => rfl)) (pv 5) (nomark _)))
              (fun _ _ _ _ _ => pe_ix (ix_tupK K rfl) (pv 6) pe_int (fun _ _ => rfl))) pa_nil)) (pe_ix ix_tup (pv 2) (pv 5) (fun _ _ => rfl)) (nomark _)) (pss_one (ps_ret pe_bl)) pss_nil))))
      (pss_one (ps_ret (pe_cmpR op_isBl (pe_call DI.ok hr5 (by rfl) DI.at_ DI.kp DI.bd .nil pass0 (pa_cons (pv 0) (pa_cons (pv 1) (pa_cons (pv 2) (pa_cons (pv 3) pa_nil))))) pe_bl (nomark _))))), ?_⟩
    refine ⟨_, rfl, .ref x, .ref CS, _, _, true, rfl, .own CS, .base (.ins hx T.kR.cl T.kR.ha T.kR.hn T.kR.htk T.kR.hm), T.iRS, true, rfl, iteF ?_⟩
    refine ⟨_, rfl, _, rfl, _, rfl, fun y dy ny ndy ne => ?_⟩
    have sy : Same H (upd (upd H dy (.own y)) y (.ins CS dy [])) := fun b o e => by rw [upd_ne (ne_of_none e ny), upd_ne (ne_of_none e ndy)]; exact e
    have c1 := c.same sy
    refine ⟨y, dy, h, t', n, r, gs, rfl, upd_same, c1.house, by have := c.n2; omega, hg'.same sy, ok, fun H1 k1 hy1 => ⟨rfl, ?_⟩⟩
    have s1 : Same H H1 := fun b o e => k1 b o (ne_of_none e ny) (sy b o e)
    have cc := c.same s1
    refine ⟨x, y, dx, dy, _, _, rfl, rfl, s1 _ _ hx, hy1, ⟨h, h, t, t', n, r, gs, ⟨dx, s1 _ _ hx⟩, ⟨dy, hy1⟩, cc.house, cc.house, hg.same s1, hg'.same s1⟩, fun H2 s2 => ⟨false, rfl, iteF ?_⟩⟩
    have s12 : Same H H2 := Same.trans s1 s2
    have hx2 := s12 _ _ hx
    refine ⟨_, rfl, x, CR, dx, _, _, rfl, hx2, T.kR.cl, T.nRg, sf_groups _ _ _, _, rfl, gsd gs, gsd gs, (hg.same s12).dp, (hg'.same s12).dp, gsd_shaped _, gsd_shaped _, false, by rw [gsd_eq]; rfl, iteF ?_⟩
    obtain ⟨dh, hh⟩ := c.house
    have n40 := c.n40
    refine ⟨_, rfl, h, CH, dh, _, _, rfl, s12 _ _ hh, T.kH.cl, T.nHf, hf_floors _ _, _, rfl, by omega, by omega, ?_⟩
    obtain ⟨ps, ht, hp, hgs⟩ := hg
    have hlen : ps.length = gs.length := by rw [← hgs, List.length_map]
    have at_ : ∀ {i : Nat} {x : V} {H1 : Hp}, (ps.map fun p => V.ref p.1)[i]? = some x → Same H H1 → ∃ a sd wt mn, x = .ref a ∧ H1 a = some (.tup [.int sd, .int wt, .int mn]) ∧ gs[i]? = some (sd, wt, mn) := fun {i x H1} hx s => by
      obtain ⟨p, hpi, m, rfl⟩ := refs_at hx
      exact ⟨p.1, p.2.1, p.2.2.1, p.2.2.2, rfl, s _ _ (hp p m), by rw [← hgs, List.getElem?_map, hpi]; rfl⟩
    have few := ok.few
    refine for_range (lo := 0) (n := n) (fun i σ H' => Same H H' ∧ ∃ v5 v6, σ = [some (.ref h), some (.ref S), some (.ref W), some (.ref x), some (.ref t'), v5, v6]) ⟨s12, none, none, rfl⟩ ?_ ?_
    · rintro i σ H3 hi ⟨s3, v5, v6, rfl⟩
      have hx3 := s3 _ _ hx
      have ht3 := s3 _ _ ht
      refine ⟨_, rfl, x, CR, dx, _, _, rfl, hx3, T.kR.cl, T.nRg, sf_groups _ _ _, t, rfl, ⟨_, SqT.of ht3⟩, fun D hD => ?_⟩
      refine lc_data (walk_tup (K := K) (a := t) (xs := ps.map fun p => V.ref p.1)) (fun j => ((gs[j]?).filter fun (g : Grp) => decide (g.1 = ((i : Nat) : Int))).map fun (g : Grp) => g.2.2) RelI (fun _ _ _ _ _ q => q) (by rw [List.length_map]; omega) hD (fun H s => SqT.of (s _ _ ht3)) same_YAt ?_ ?_
      · rintro j y H4 H4' Q4 R4 hj s4 eD ⟨rfl, hy⟩ q1 q2
        obtain ⟨a, sd, wt, mn, rfl, hat, hgi⟩ := at_ hy (Same.trans s3 s4)
        refine ⟨rfl, _, rfl, a, _, _, _, rfl, rfl, SqT.of hat, atI_nat (j := 0) rfl, _, rfl, rfl, _, rfl, ?_⟩
        by_cases c1 : sd = ((i : Nat) : Int)
        · refine iteD (by rw [c1]; exact congrArg V.int (Int.zero_add _).symm) ⟨_, rfl, a, _, _, _, rfl, rfl, SqT.of hat, atI_nat (j := 2) rfl, ?_⟩
          exact q1 mn (by rw [hgi]; simp [Option.filter, c1]) _ _ (Same.refl _) rfl
        · refine iteDn (fun z => c1 (by have := V.int.inj z; omega)) ?_
          exact q2 (by rw [hgi]; simp [Option.filter, c1]) _ (Same.refl _)
      · intro H4 acc s4 eD pr _
        rw [List.length_map, hlen] at pr
        rw [relI_eq pr] at eD
        have s34 := Same.trans s3 s4
        have c4 := c.same s34
        refine ⟨D, _, rfl, SqL.of eD, ?_⟩
        rw [fm_tot]
        have hss : ss[i]? = some (tot (fun g => decide (g.1 = (i : Nat))) gs) := by rw [← hs.1, cnt_get hi]
        refine ⟨_, rfl, _, rfl, S, _, _, _, rfl, rfl, SqT.of c4.st, at_of (j := i) (Int.zero_add _) (map_int_get hss), rfl, false, eNF rfl, iteF ?_⟩
        have hx4 := s34 _ _ hx
        have ht4 := s34 _ _ ht
        refine ⟨_, rfl, x, CR, dx, _, _, rfl, hx4, T.kR.cl, T.nRg, sf_groups _ _ _, t, rfl, ⟨_, SqT.of ht4⟩, fun D' hD' => ?_⟩
        refine lc_data (walk_tup (K := K) (a := t) (xs := ps.map fun p => V.ref p.1)) (fun j => ((gs[j]?).filter fun (g : Grp) => decide (g.2.1 = ((i : Nat) : Int))).map fun (g : Grp) => g.2.2) RelI (fun _ _ _ _ _ q => q) (by rw [List.length_map]; omega) hD' (fun H s => SqT.of (s _ _ ht4)) same_YAt ?_ ?_
        · rintro j y H5 H5' Q5 R5 hj s5 eD5 ⟨rfl, hy⟩ q1 q2
          obtain ⟨a, sd, wt, mn, rfl, hat, hgi⟩ := at_ hy (Same.trans s34 s5)
          refine ⟨rfl, _, rfl, a, _, _, _, rfl, rfl, SqT.of hat, atI_nat (j := 1) rfl, _, rfl, rfl, _, rfl, ?_⟩
          by_cases c1 : wt = ((i : Nat) : Int)
          · refine iteD (by rw [c1]; exact congrArg V.int (Int.zero_add _).symm) ⟨_, rfl, a, _, _, _, rfl, rfl, SqT.of hat, atI_nat (j := 2) rfl, ?_⟩
            exact q1 mn (by rw [hgi]; simp [Option.filter, c1]) _ _ (Same.refl _) rfl
          · refine iteDn (fun z => c1 (by have := V.int.inj z; omega)) ?_
            exact q2 (by rw [hgi]; simp [Option.filter, c1]) _ (Same.refl _)
        · intro H5 acc5 s5 eD5 pr5 _
          rw [List.length_map, hlen] at pr5
          rw [relI_eq pr5] at eD5
          have s345 := Same.trans s34 s5
          have c5 := c.same s345
          refine ⟨D', _, rfl, SqL.of eD5, ?_⟩
          rw [fm_tot]
          have hws : ws[i]? = some (tot (fun g => decide (g.2.1 = (i : Nat))) gs) := by rw [← hs.2, cnt_get hi]
          refine ⟨_, rfl, _, rfl, W, _, _, _, rfl, rfl, SqT.of c5.wt, at_of (j := i) (Int.zero_add _) (map_int_get hws), rfl, false, eNF rfl, iteF ?_⟩
          exact ⟨s345, _, _, rfl⟩
    · rintro σ H3 ⟨s3, v5, v6, rfl⟩
      refine ⟨_, rfl, _, rfl, _, rfl, _, rfl, h, S, W, x, t, n, r, ss, ws, gs, rfl, c.same s3, ⟨dx, s3 _ _ hx⟩, GAt.same ⟨ps, ht, hp, hgs⟩ s3, ok.ok, hs, fun H4 s4 => ⟨true, true, rfl, rfl, ?_⟩⟩
      exact blT (Q := Q) rfl (k _ (s3.trans s4))
end
end Wl
namespace Wl
open PySem L2 Wr
theorem tot_ge {p : Grp → Bool} : ∀ {G : List Grp} {g : Grp}, (∀ x ∈ G, 0 < x.2.2) → g ∈ G → p g = true → g.2.2 ≤ tot p G
  | x :: G, g, h, m, hp => by
    have h' : ∀ y ∈ G, 0 < y.2.2 := fun y hy => h y (List.mem_cons_of_mem _ hy)
    rw [tot_cons]
    rcases List.mem_cons.mp m with rfl | m
    · rw [if_pos hp]; have := tot_nonneg (p := p) h'; omega
    · have := tot_ge h' m hp
      have := h x List.mem_cons_self
      split <;> omega
theorem getD_le {n : Nat} {ns : List Int} (c : CRow n ns) (j : Nat) : ns.getD j 0 ≤ 10 ^ 30 := by
  rw [List.getD_eq_getElem?_getD]
  cases e : ns[j]? with
  | none => decide
  | some y => exact (c.2 y (List.mem_of_getElem? e)).2
theorem mat_facts {n : Nat} {ss ws : List Int} {B : List (Int × Int)} (cs : CRow n ss) (cw : CRow n ws) (hs : ss.sum = ws.sum) (hB : B.Perm (enu 0 ws)) (hn : n ≤ 40) {gs : List Grp} (pm : gs.Perm (nw (enu 0 ss) B)) (asc : Asc gs) :
    GsOk n gs ∧ Has n ss ws gs ∧ (∀ q : Int → Bool, tot (fun x => q x.1) gs = at_ q (enu 0 ss) ∧ tot (fun x => q x.2.1) gs = at_ q (enu 0 ws)) := by
  have nA : ∀ x ∈ enu 0 ss, 0 ≤ x.2 := enu_nonneg fun x hx => (cs.2 x hx).1
  have nB : ∀ x ∈ B, 0 ≤ x.2 := fun x hx => enu_nonneg (k := 0) (fun x hx => (cw.2 x hx).1) x (hB.mem_iff.mp hx)
  have e : all_ (enu 0 ss) = all_ B := by rw [all_perm hB, enu_all, enu_all, hs]
  have sums : ∀ q : Int → Bool, tot (fun x => q x.1) gs = at_ q (enu 0 ss) ∧ tot (fun x => q x.2.1) gs = at_ q (enu 0 ws) := fun q => by
    obtain ⟨a, b⟩ := nw_sums q _ _ nA nB e
    exact ⟨(tot_perm pm).trans a, ((tot_perm pm).trans b).trans (at_perm hB)⟩
  have pos : ∀ g ∈ gs, 0 < g.2.2 := fun g hg => (nw_mem _ _ g (pm.mem_iff.mp hg)).2.2
  have c1 : ∀ f : Nat, tot (fun g => decide (g.1 = (f : Nat))) gs = ss.getD f 0 := fun f => by
    have := (sums fun z => decide (z = (f : Nat))).1
    rw [this]
    have h := enu_at 0 ss f
    rw [Nat.zero_add] at h
    exact h
  have c2 : ∀ f : Nat, tot (fun g => decide (g.2.1 = (f : Nat))) gs = ws.getD f 0 := fun f => by
    have := (sums fun z => decide (z = (f : Nat))).2
    rw [this]
    have h := enu_at 0 ws f
    rw [Nat.zero_add] at h
    exact h
  have rng : ∀ g ∈ gs, 0 ≤ g.1 ∧ g.1 < n ∧ 0 ≤ g.2.1 ∧ g.2.1 < n := fun g hg => by
    obtain ⟨m1, m2, _⟩ := nw_mem _ _ g (pm.mem_iff.mp hg)
    obtain ⟨x, hx, ex⟩ := List.mem_map.mp m1
    obtain ⟨y, hy, ey⟩ := List.mem_map.mp m2
    have a := enu_fst hx
    have b := enu_fst (hB.mem_iff.mp hy)
    rw [cs.1] at a
    rw [cw.1] at b
    rw [ex] at a
    rw [ey] at b
    omega
  refine ⟨⟨fun g hg => ?_, asc, ?_⟩, ⟨?_, ?_⟩, sums⟩
  · obtain ⟨r1, r2, r3, r4⟩ := rng g hg
    obtain ⟨j, hj⟩ := Int.eq_ofNat_of_zero_le r1
    have le := tot_ge (p := fun x => decide (x.1 = (j : Nat))) pos hg (by simpa using hj)
    rw [c1] at le
    have le2 := getD_le cs j
    exact ⟨r1, by omega, r3, by omega, pos g hg, by omega⟩
  · have := nw_len (enu 0 ss) B
    rw [enu_length, hB.length_eq, enu_length, cs.1, cw.1] at this
    rw [pm.length_eq]
    omega
  · unfold cnt
    refine List.ext_getElem? fun j => ?_
    by_cases hj : j < n
    · rw [List.getElem?_map, List.getElem?_range hj]
      show some (tot (fun (g : Grp) => decide (g.1 = ((j : Nat) : Int))) gs) = _
      rw [c1, List.getD_eq_getElem?_getD, List.getElem?_eq_getElem (by rw [cs.1]; exact hj)]
      rfl
    · rw [List.getElem?_eq_none (by rw [List.length_map, List.length_range]; omega), List.getElem?_eq_none (by rw [cs.1]; omega)]
  · unfold cnt
    refine List.ext_getElem? fun j => ?_
    by_cases hj : j < n
    · rw [List.getElem?_map, List.getElem?_range hj]
      show some (tot (fun (g : Grp) => decide (g.2.1 = ((j : Nat) : Int))) gs) = _
      rw [c2, List.getD_eq_getElem?_getD, List.getElem?_eq_getElem (by rw [cw.1]; exact hj)]
      rfl
    · rw [List.getElem?_eq_none (by rw [List.length_map, List.length_range]; omega), List.getElem?_eq_none (by rw [cw.1]; omega)]
theorem rest_perm {G G' : List Grp} (h : G.Perm G') (n : Nat) (r : Int) : rest n r G = rest n r G' := by
  have e : ∀ g : Int, num r G g = num r G' g := fun g => by
    unfold num most
    rw [show up G g = up G' g from tot_perm h, show down G g = down G' g from tot_perm h, show left G g = left G' g from ?_]
    unfold left
    rw [Bool.eq_iff_iff, List.any_eq_true, List.any_eq_true]
    exact ⟨fun ⟨x, m, p⟩ => ⟨x, h.mem_iff.mp m, p⟩, fun ⟨x, m, p⟩ => ⟨x, h.mem_iff.mpr m, p⟩⟩
  unfold rest nums
  rw [show (fun g : Nat => num r G (g : Int)) = fun g : Nat => num r G' (g : Int) from funext fun g => e g]
theorem due_le {n : Nat} {ss ws : List Int} (cs : CRow n ss) (cw : CRow n ws) (hs : ss.sum = ws.sum) (hn : n ≤ 40) {r : Int} (hr : 1 ≤ r) {g1 g2 : List Grp} (p1 : g1.Perm (gL ss ws)) (a1 : Asc g1) (p2 : g2.Perm (gM ss ws)) (a2 : Asc g2) : rest n r g1 ≤ rest n r g2 := by
  obtain ⟨_, _, s1⟩ := mat_facts cs cw hs (List.Perm.refl _) hn p1 a1
  obtain ⟨_, _, s2⟩ := mat_facts cs cw hs (List.reverse_perm _) hn p2 a2
  rw [rest_perm p1]
  have posL : ∀ x ∈ gL ss ws, 0 < x.2.2 := fun g hg => (nw_mem _ _ g hg).2.2
  have posM : ∀ x ∈ g2, 0 < x.2.2 := fun g hg => (nw_mem _ _ g (p2.mem_iff.mp hg)).2.2
  refine rest_le posL posM (nw_mono _ _ (enu_asc 0 ss) (enu_asc 0 ws)) (fun q => ?_) n (by omega)
  obtain ⟨x1, x2⟩ := s1 q
  obtain ⟨y1, y2⟩ := s2 q
  exact ⟨(tot_perm p1.symm).trans (x1.trans y1.symm), (tot_perm p1.symm).trans (x2.trans y2.symm)⟩
theorem enu_range {ss : List Int} : ∀ {n : Nat}, ss.length = n → (List.range n).filterMap (fun i => some (((i : Nat) : Int), ss.getD i 0)) = enu 0 ss := by
  intro n h
  subst h
  rw [fm_some]
  have e := qu_enu 0 [] ss rfl
  unfold qu at e
  rw [List.map_map] at e
  rw [← e]
  refine List.map_congr_left fun i _ => ?_
  show (((i : Nat) : Int), ss.getD i 0) = (((0 + i : Nat) : Int), ([] ++ ss).getD (((0 + i : Nat) : Int)).toNat 0)
  rw [Nat.zero_add, Int.toNat_natCast, List.nil_append]
def twoI (a b : Int) : PyData := .tuple [.int a, .int b]
theorem twoI_shaped (a b : Int) : SeqAt.shaped (twoI a b) = true := by
  unfold SeqAt.shaped twoI
  simp [PyData.canLay0, PyData.canLayAll0, PyData.depth, PyData.depthAll]
theorem twoI_eq (a b : Int) : PyData.eqv (twoI a b) (twoI a b) = true := SeqAt.eqv_refl _ (by unfold twoI; simp [PyData.canLay0, PyData.canLayAll0])
end Wl
namespace Wl
open PySem L2 Wr
def RelT (D E : Addr) (y : V) (g : Int × Int) (H : Hp) : Prop := ∃ a, y = .ref a ∧ (a ≠ D ∧ a ≠ E) ∧ H a = some (.tup [.int g.1, .int g.2])
theorem relT_mono (D E : Addr) (y : V) (g : Int × Int) (H H' : Hp) (k : Kept D H H') (r : RelT D E y g H) : RelT D E y g H' := let ⟨a, e, n, h⟩ := r; ⟨a, e, n, k _ _ n.1 h⟩
theorem relT_pairs {D E : Addr} {H : Hp} : ∀ {acc : List V} {ks : List (Int × Int)}, Paired (fun y g => RelT D E y g H) acc ks → ∃ ps : List (Addr × (Int × Int)), acc = ps.map (fun p => V.ref p.1) ∧ ps.map (·.2) = ks ∧ ∀ p ∈ ps, p.1 ≠ E ∧ H p.1 = some (.tup [.int p.2.1, .int p.2.2])
  | _, _, .nil => ⟨[], rfl, rfl, fun _ h => nomatch h⟩
  | _, _, .cons ⟨a, e, n, h⟩ t => by
    obtain ⟨ps, e1, e2, e3⟩ := relT_pairs t
    refine ⟨(a, _) :: ps, by rw [e, e1]; rfl, by rw [← e2]; rfl, fun p hp => ?_⟩
    rcases List.mem_cons.mp hp with rfl | hp
    · exact ⟨n.2, h⟩
    · exact e3 p hp
theorem floors_of {v : Int} (h0 : 0 ≤ v) (h1 : v < 7) (b : Bool) : ∃ n : Nat, 2 ≤ n ∧ n ≤ 40 ∧ atI [V.int (2 + v), V.int 40] (if b = true then 1 else 0) = some (V.int n) := by
  cases b with
  | true => exact ⟨40, by omega, by omega, atI_nat (j := 1) rfl⟩
  | false =>
    obtain ⟨m, rfl⟩ := Int.eq_ofNat_of_zero_le h0
    exact ⟨2 + m, by omega, by omega, atI_nat (j := 0) rfl⟩
theorem many_of {v : Int} (h0 : 0 ≤ v) (h1 : v < 3) : ∃ m : Int, 1 ≤ m ∧ m ≤ 10 ^ 12 ∧ atI [V.int 1, V.int 4, V.int (10 ^ (12 : Int).toNat)] v = some (V.int m) := by
  have : v = 0 ∨ v = 1 ∨ v = 2 := by omega
  rcases this with rfl | rfl | rfl
  · exact ⟨1, by decide, by decide, atI_nat (j := 0) rfl⟩
  · exact ⟨4, by decide, by decide, atI_nat (j := 1) rfl⟩
  · exact ⟨10 ^ 12, by decide, by decide, atI_nat (j := 2) rfl⟩
theorem size_of {v : Int} (h0 : 0 ≤ v) (h1 : v < 5) : ∃ z : Int, Size z ∧ atI [V.int 0, V.int 3, V.int 12, V.int (10 ^ (9 : Int).toNat), V.int (10 ^ (30 : Int).toNat)] v = some (V.int z) := by
  have : v = 0 ∨ v = 1 ∨ v = 2 ∨ v = 3 ∨ v = 4 := by omega
  rcases this with rfl | rfl | rfl | rfl | rfl
  · exact ⟨0, .inl rfl, atI_nat (j := 0) rfl⟩
  · exact ⟨3, .inr (.inl rfl), atI_nat (j := 1) rfl⟩
  · exact ⟨12, .inr (.inr (.inl rfl)), atI_nat (j := 2) rfl⟩
  · exact ⟨10 ^ 9, .inr (.inr (.inr (.inl rfl))), atI_nat (j := 3) rfl⟩
  · exact ⟨10 ^ 30, .inr (.inr (.inr (.inr rfl))), atI_nat (j := 4) rfl⟩
def RelL (D : Addr) (y : V) (A : List (Int × Int)) (H : Hp) : Prop := ∃ (a : Addr) (ps : List (Addr × (Int × Int))), y = .ref a ∧ a ≠ D ∧ H a = some (.lst (ps.map fun p => V.ref p.1)) ∧ (∀ p ∈ ps, p.1 ≠ D ∧ H p.1 = some (.tup [.int p.2.1, .int p.2.2])) ∧ ps.map (·.2) = A
theorem relL_mono (D : Addr) (y : V) (A : List (Int × Int)) (H H' : Hp) (k : Kept D H H') (r : RelL D y A H) : RelL D y A H' :=
  let ⟨a, ps, e, n, h, q, z⟩ := r; ⟨a, ps, e, n, k _ _ n h, fun p m => ⟨(q p m).1, k _ _ (q p m).1 (q p m).2⟩, z⟩
theorem relL_at {D : Addr} {y : V} {A : List (Int × Int)} {H : Hp} (r : RelL D y A H) : ∃ a, y = .ref a ∧ PLAt H a A := let ⟨a, ps, e, _, h, q, z⟩ := r; ⟨a, e, ps, h, fun p m => (q p m).2, z⟩
theorem relL_two {D : Addr} {H : Hp} {acc : List V} {A B : List (Int × Int)} (h : Paired (fun y g => RelL D y g H) acc [A, B]) : ∃ a b, acc = [.ref a, .ref b] ∧ PLAt H a A ∧ PLAt H b B := by
  cases h with
  | cons h1 t =>
    cases t with
    | cons h2 t =>
      cases t
      obtain ⟨a, rfl, ha⟩ := relL_at h1
      obtain ⟨b, rfl, hb⟩ := relL_at h2
      exact ⟨a, b, rfl, ha, hb⟩
theorem rel_look {env : Env} {x : Str} : ∀ {names : List (Str × NameKind)}, names.lookup x = some .cell ∨ names.lookup x = some .free →
    (names.map fun (n, k) => if (k == NameKind.free && env.scope.kind == .function && env.kindOf n == some .cell) then (n, NameKind.cell) else (n, k)).lookup x = some .cell ∨
    (names.map fun (n, k) => if (k == NameKind.free && env.scope.kind == .function && env.kindOf n == some .cell) then (n, NameKind.cell) else (n, k)).lookup x = some .free
  | [], h => by simp at h
  | (n, k) :: r, h => by
    simp only [List.map_cons]
    cases hx : x == n with
    | true =>
      simp only [List.lookup_cons, hx] at h
      split
      · left; simp [List.lookup_cons, hx]
      · simpa [List.lookup_cons, hx] using h
    | false =>
      simp only [List.lookup_cons, hx] at h
      have ih := rel_look (env := env) h
      split <;> (simp only [List.lookup_cons, hx]; exact ih)
theorem blkOk_rel {N : List Str} {sc scope : Scope} {env : Env} {own : List (Str × Nat)} (h : BlkOk N sc scope own) : BlkOk N (relabel sc env) scope own :=
  { h with free := fun y hy e => rel_look (h.free y hy e) }
theorem Drawn.new {d c : Addr} {ns : List Int} {H H1 H' : Hp} (x : Drawn d c ns H1 H') (s : Same H H1) (h : H d = none) : Same H H' := fun b o e => x.1 b o (ne_of_none e h) (s b o e)
structure PRow (H : Hp) (a : Addr) (ps : List (Addr × (Int × Int))) (A : List (Int × Int)) : Prop where
  at_ : H a = some (.lst (ps.map fun p => V.ref p.1))
  each : ∀ p ∈ ps, H p.1 = some (.tup [.int p.2.1, .int p.2.2])
  is_ : ps.map (·.2) = A
theorem PLAt.row {H : Hp} {a : Addr} {A : List (Int × Int)} (h : PLAt H a A) : ∃ ps, PRow H a ps A := let ⟨ps, x, y, z⟩ := h; ⟨ps, x, y, z⟩
theorem PRow.rev {H : Hp} {a O : Addr} {ps : List (Addr × (Int × Int))} {A : List (Int × Int)} (h : PRow H a ps A) (hO : H O = none) : PLAt (upd H O (.lst (ps.map fun p => V.ref p.1).reverse)) O A.reverse :=
  ⟨ps.reverse, by rw [upd_same, List.map_reverse], fun p m => same_upd hO _ _ (h.each p (List.mem_reverse.mp m)), by rw [List.map_reverse, h.is_]⟩
theorem twoI_dp {K : PySem.W.Frag} {H : Hp} {p : Addr} {a b : Int} (hp : H p = some (.tup [.int a, .int b])) : Dp K H (.ref p) (twoI a b) :=
  .tup (SqT.of hp) (dp_ints [a, b])
section
variable {P : Program} {w : World} {K : PySem.W.Frag} {mg : Str → Option Value} {base : Heap} {CH CS CR : Addr}
structure HouseMk (P : Program) (w : World) (K : PySem.W.Frag) (mg : Str → Option Value) (base : Heap) (CH : Addr) where
  f : Addr
  fd : FuncData
  made : Mk K CH f
  ok : FnOk P w K mg base CX0 3 f fd ["self", "floors", "room"] (spHi CH)
  bd : Binds K fd ["self", "floors", "room"] []
structure Calls (P : Program) (w : World) (K : PySem.W.Frag) (mg : Str → Option Value) (base : Heap) (CH CS CR : Addr) where
  hm : HouseMk P w K mg base CH
  dk : Dn P w K mg base "_law_deck" 1 ["_law_script"] (spDk K)
  pk : Dn P w K mg base "_law_pick" 1 ["_law_deck_here", "_law_many"] spPk
  fo : Dn P w K mg base "_law_fold" 1 ["_law_script"] (spFo K)
  ct : Dn P w K mg base "_law_counts" 2 ["_law_deck_here", "_law_floors", "_law_size"] spCt
  mt : Dn P w K mg base "_law_matched" 1 ["_law_stands", "_law_wants"] spMt
  lw : Dn P w K mg base "least_wishes" 5 ["house", "stands", "wants"] (spWw CH CR gL)
  mw : Dn P w K mg base "most_wishes" 5 ["house", "stands", "wants"] (spWw CH CR gM)
  it : Dn P w K mg base "_law_is_it" 8 ["_law_house", "_law_stands", "_law_wants", "_law_thing", "_law_groups"] (spIt CH CR)
  ns : Dn P w K mg base "_law_numbers" 3 ["_law_floors", "_law_room", "_law_lift", "_law_groups"] spNs
  tb : Dn P w K mg base "travel_bounds" 6 ["house", "stands", "wants"] (spTb CH)
abbrev sLaw : Stmt := top 47
abbrev nLaw : List Str := ["_law_script", "_law_deck_here", "_law_turn", "_law_floors", "_law_room", "_law_size", "_law_stands", "_law_wants", "_law_house", "_law_rows", "_law_least", "_law_most", "_law_one", "_law_other", "_law_due", "_law_row", "_law_floor"]
theorem scLaw : FnScope ["_law_script", "_law_deck_here", "_law_turn", "_law_floors", "_law_room", "_law_size", "_law_stands", "_law_wants", "_law_house", "_law_rows", "_law_least", "_law_most", "_law_one", "_law_other", "_law_due", "_law_row", "_law_floor"] ["_law_script"] (defScope sLaw) := ⟨rfl, rfl, rfl, by decide +kernel, rfl, by decide +kernel, by decide +kernel⟩
def scRows : Scope := { kind := .function, names := [(".0", .local), ("_law_row", .cell), ("range", .globalImplicit), ("_law_floors", .free)], isGenerator := false, isCoroutine := false }
def spLaw (K : PySem.W.Frag) : Sp := fun vs H Q _ => ∃ (a : Addr) (ns : List Int), vs = [.ref a] ∧ SqL K H a (ns.map V.int) ∧ ns.length ≤ 63 ∧ ∀ H', Q (.bl true) H'
theorem ok_law {f : Addr} {fd : FuncData} (F : Fun K "law" "law" sLaw f fd) (T : Tx K mg CH CS CR) (C : Calls P w K mg base CH CS CR) : FnOk P w K mg base CX0 9 f fd ["_law_script"] (spLaw K) := by
  refine F.ok scLaw (fun vs H Q E h => ?_) (fun cdv A outer s H vs Q E hr h => ?_)
  · obtain ⟨a, ns, rfl, _⟩ := h
    rfl
  · obtain ⟨a, ns, rfl, ha, hl, k⟩ := h
    have hr1 : Room 1 _ := hr.mono (by decide)
    have hr2 : Room 2 _ := hr.mono (by decide)
    have hr3 : Room 3 _ := hr.mono (by decide)
    have hr4 : Room 4 _ := hr.mono (by decide)
    have hr5 : Room 5 _ := hr.mono (by decide)
    have hr6 : Room 6 _ := hr.mono (by decide)
    refine ⟨_, pss_cons (ps_set (i := 1) scLaw.nd rfl (Or.inl rfl) (pe_call C.dk.ok hr1 (by rfl) C.dk.at_ C.dk.kp C.dk.bd .nil pass0 (pa_cons (pv 0) pa_nil)))
      (pss_cons (ps_for PassesOwn.never rfl (pi_range1 (by rfl) T.range (pa_cons (pe_op op_add pe_int (pe_callB (call_minM rfl) (by rfl) T.min (by decide +kernel) (pa_cons (pe_callB call_len_seq (by rfl) T.len PySem.boot_len (pa_cons (pv 0) pa_nil)) (pa_cons pe_int pa_nil)))) pa_nil)) (pg_name (i := 2) scLaw.nd rfl (Or.inl rfl))
        (pss_cons (ps_set (i := 3) scLaw.nd rfl (Or.inr rfl) (pe_ix ix_list (pe_lst (pa_cons (pe_op op_add pe_int (pe_call C.pk.ok hr1 (by rfl) C.pk.at_ C.pk.kp C.pk.bd .nil pass0 (pa_cons (pv 1) (pa_cons pe_int pa_nil)))) (pa_cons pe_int pa_nil)))
            (pe_callTy call_int1 (by rfl) T.int (by decide +kernel) (pa_cons (pe_cmpR op_eq (pe_op op_mod (pe_call C.fo.ok hr1 (by rfl) C.fo.at_ C.fo.kp C.fo.bd .nil pass0 (pa_cons (pv 0) pa_nil)) pe_int) pe_int (nomark _)) pa_nil)) (fun _ _ => rfl)))
        (pss_cons (ps_set (i := 4) scLaw.nd rfl (Or.inl rfl) (pe_op op_add pe_int (pe_call C.pk.ok hr1 (by rfl) C.pk.at_ C.pk.kp C.pk.bd .nil pass0 (pa_cons (pv 1) (pa_cons
            (pe_ix ix_list (pe_lst (pa_cons pe_int (pa_cons pe_int (pa_cons (pe_op op_pow pe_int pe_int) pa_nil)))) (pe_call C.pk.ok hr1 (by rfl) C.pk.at_ C.pk.kp C.pk.bd .nil pass0 (pa_cons (pv 1) (pa_cons pe_int pa_nil))) (fun _ _ => rfl)) pa_nil)))))
        (pss_cons (ps_set (i := 5) scLaw.nd rfl (Or.inl rfl) (pe_ix ix_list (pe_lst (pa_cons pe_int (pa_cons pe_int (pa_cons pe_int (pa_cons (pe_op op_pow pe_int pe_int) (pa_cons (pe_op op_pow pe_int pe_int) pa_nil))))))
            (pe_call C.pk.ok hr1 (by rfl) C.pk.at_ C.pk.kp C.pk.bd .nil pass0 (pa_cons (pv 1) (pa_cons pe_int pa_nil))) (fun _ _ => rfl)))
        (pss_cons (ps_asg (pe_call C.ct.ok hr2 (by rfl) C.ct.at_ C.ct.kp C.ct.bd .nil pass0 (pa_cons (pv 1) (pa_cons (pv 3) (pa_cons (pv 5) pa_nil)))) (pg_unl rfl (pgs_cons (pg_name (i := 6) scLaw.nd rfl (Or.inl rfl)) (pgs_cons (pg_name (i := 7) scLaw.nd rfl (Or.inl rfl)) pgs_nil))))
        (pss_cons (ps_set (i := 8) scLaw.nd rfl (Or.inl rfl) (pe_make C.hm.made C.hm.ok hr4 (by rfl) T.mgH C.hm.bd .nil pass0 (pa_cons (pv 3) (pa_cons (pv 4) pa_nil))))
        (pss_cons (ps_setLc (i := 9) (own := [("_law_row", 15)]) (g := gName 15) (tt := tYes) rfl scLaw.nd rfl rfl (sw_true rfl rfl rfl (by decide +kernel)) (pi_tup (pe_tup (pa_cons (pv 6) (pa_cons (pv 7) pa_nil))))
            (blkOk_by (own := [("_law_row", 15)]) (N := nLaw) (sc := defScope sLaw) (by decide +kernel)) (fun _ _ _ _ _ => pg_name (i := 15) scLaw.nd rfl (Or.inr rfl)) (fun _ _ _ _ _ => pts_nil)
            (fun _ _ _ _ _ => pe_lc (own := [("_law_floor", 16)]) (g := gName 16) (tt := tYes) rfl scLaw.nd (pi_range1 (by rfl) T.range (pa_cons (pv 3) pa_nil))
              (blkOk_rel (sc := scRows) (blkOk_by (own := [("_law_floor", 16)]) (N := nLaw) (sc := scRows) (by decide +kernel))) (fun _ _ _ _ _ => pg_name (i := 16) scLaw.nd rfl (Or.inl rfl)) (fun _ _ _ _ _ => pts_nil)
              (fun _ _ _ _ _ => pe_tup (pa_cons (pv 16) (pa_cons (pe_ix (ix_tupK K rfl) (pv 15) (pv 16) (fun _ _ => rfl)) pa_nil)))))
        (pss_cons (ps_set (i := 10) scLaw.nd rfl (Or.inl rfl) (pe_call C.mt.ok hr1 (by rfl) C.mt.at_ C.mt.kp C.mt.bd .nil pass0 (pa_cons (pe_ix ix_list (pv 9) pe_int (fun _ _ => rfl)) (pa_cons (pe_ix ix_list (pv 9) pe_int (fun _ _ => rfl)) pa_nil))))
        (pss_cons (ps_set (i := 11) scLaw.nd rfl (Or.inl rfl) (pe_call C.mt.ok hr1 (by rfl) C.mt.at_ C.mt.kp C.mt.bd .nil pass0 (pa_cons (pe_ix ix_list (pv 9) pe_int (fun _ _ => rfl)) (pa_cons (pe_revL (pe_ix ix_list (pv 9) pe_int (fun _ _ => rfl))) pa_nil))))
        (pss_cons (ps_set (i := 12) scLaw.nd rfl (Or.inl rfl) (pe_call C.lw.ok hr5 (by rfl) C.lw.at_ C.lw.kp C.lw.bd .nil pass0 (pa_cons (pv 8) (pa_cons (pv 6) (pa_cons (pv 7) pa_nil)))))
        (pss_cons (ps_set (i := 13) scLaw.nd rfl (Or.inl rfl) (pe_call C.mw.ok hr5 (by rfl) C.mw.at_ C.mw.kp C.mw.bd .nil pass0 (pa_cons (pv 8) (pa_cons (pv 6) (pa_cons (pv 7) pa_nil)))))
        (pss_cons (ps_if (PW.pt (pw_or (pt_not (pt_val (pe_call C.it.ok hr (by rfl) C.it.at_ C.it.kp C.it.bd .nil pass0 (pa_cons (pv 8) (pa_cons (pv 6) (pa_cons (pv 7) (pa_cons (pv 12) (pa_cons (pv 10) pa_nil))))))))
            (pw_or1 (pt_not (pt_val (pe_call C.it.ok hr (by rfl) C.it.at_ C.it.kp C.it.bd .nil pass0 (pa_cons (pv 8) (pa_cons (pv 6) (pa_cons (pv 7) (pa_cons (pv 13) (pa_cons (pv 11) pa_nil))))))))))) (pss_one (ps_ret pe_bl)) pss_nil)
        (pss_cons (ps_set (i := 14) scLaw.nd rfl (Or.inl rfl) (pe_tup (pa_cons (pe_callB (cr_sumT rfl) (by rfl) T.sum (by decide +kernel) (pa_cons (pe_call C.ns.ok hr3 (by rfl) C.ns.at_ C.ns.kp C.ns.bd .nil pass0 (pa_cons (pv 3) (pa_cons (pv 4) (pa_cons pe_int (pa_cons (pv 10) pa_nil))))) pa_nil))
            (pa_cons (pe_callB (cr_sumT rfl) (by rfl) T.sum (by decide +kernel) (pa_cons (pe_call C.ns.ok hr3 (by rfl) C.ns.at_ C.ns.kp C.ns.bd .nil pass0 (pa_cons (pv 3) (pa_cons (pv 4) (pa_cons pe_int (pa_cons (pv 11) pa_nil))))) pa_nil)) pa_nil))))
        (pss_one (ps_if (PW.pt (pw_or (pt_cmpR (op_neD hr.units) (pe_call C.tb.ok hr6 (by rfl) C.tb.at_ C.tb.kp C.tb.bd .nil pass0 (pa_cons (pv 8) (pa_cons (pv 6) (pa_cons (pv 7) pa_nil)))) (pv 14) (nomark _))
            (pw_or1 (pt_cmpR op_gt (pe_ix ix_tup (pv 14) pe_int (fun _ _ => rfl)) (pe_ix ix_tup (pv 14) pe_int (fun _ _ => rfl)) (nomark _))))) (pss_one (ps_ret pe_bl)) pss_nil)))))))))))))))
      (pss_one (ps_ret pe_bl))), ?_⟩
    refine ⟨_, rfl, a, ns, rfl, ha, hl, fun H0 d c s0 hd0 D0 => ?_⟩
    have hm0 : 0 ≤ min ((ns.map V.int).length : Int) 6 := by omega
    have hm6 : min ((ns.map V.int).length : Int) 6 ≤ 6 := by omega
    refine ⟨_, rfl, a, _, rfl, .inl (ha.ext s0), _, _, rfl, _, _, rfl, rfl, _, rfl, by omega, by omega, ?_⟩
    refine for_range (lo := 0) (fun t σ H' => Same H H' ∧ (∃ i b k, Deck H' d c ns i b k) ∧ ∃ v2 v3 v4 v5 v6 v7 v8 v9 v10 v11 v12 v13 v14 v15 v16,
        σ = [some (.ref a), some (.ref d), v2, v3, v4, v5, v6, v7, v8, v9, v10, v11, v12, v13, v14, v15, v16]) ⟨s0, ⟨_, _, _, D0⟩, none, none, none, none, none, none, none, none, none, none, none, none, none, none, none, rfl⟩ ?_ ?_
    · rintro t σ H1 ht ⟨s1, ⟨i1, b1, k1, D1⟩, v2, v3, v4, v5, v6, v7, v8, v9, v10, v11, v12, v13, v14, v15, v16, rfl⟩
      refine ⟨_, rfl, d, c, ns, i1, b1, k1, 7, rfl, D1, hl, by decide, by decide, fun v i2 b2 k2 u0 u1 => ?_⟩
      have x1 := (Drawn.refl D1).pick i2 b2 k2
      generalize upd H1 d (.lst [.ref c, .int i2, .int b2, .int k2]) = H2 at *
      refine ⟨_, _, rfl, rfl, (by show 2 ≤ sizeLine; decide), fun l hln => ?_⟩
      have el := same_upd (o := .lst [V.int (2 + v), V.int 40]) hln
      refine ⟨_, rfl, a, ns, rfl, (ha.ext (x1.new s1 hd0)).ext el, hl, fun q H3 s3 => ?_⟩
      have x2 := (x1.then el).then s3
      refine ⟨_, _, rfl, rfl, (show (0 : Int) < 16 by decide), rfl, .inr ⟨_, rfl, ?_⟩⟩
      obtain ⟨n, n2, n40, hat⟩ := floors_of u0 u1 (decide (V.int (q % 16) = V.int 1))
      refine ⟨l, _, _, _, rfl, rfl, SqL.of (s3 _ _ upd_same), hat, ?_⟩
      obtain ⟨i3, b3, k3, D3⟩ := x2.2
      refine ⟨_, rfl, _, _, rfl, rfl, ⟨by decide, by decide, by decide⟩, (by show 3 ≤ sizeLine; decide), fun l2 hl2 => ?_⟩
      have el2 := same_upd (o := .lst [V.int 1, V.int 4, V.int (10 ^ (12 : Int).toNat)]) hl2
      refine ⟨_, rfl, d, c, ns, i3, b3, k3, 3, rfl, D3.same el2, hl, by decide, by decide, fun v' i4 b4 k4 u0' u1' => ?_⟩
      have x3 := (x2.then el2).pick i4 b4 k4
      have nl2 : l2 ≠ d := fun z => by rw [z, D3.at_] at hl2; cases hl2
      obtain ⟨m, m1, m12, hat2⟩ := many_of u0' u1'
      refine ⟨l2, _, _, _, rfl, rfl, SqL.of (by rw [upd_ne nl2]; exact upd_same), hat2, ?_⟩
      generalize upd (upd H3 l2 (.lst [V.int 1, V.int 4, V.int (10 ^ (12 : Int).toNat)])) d (.lst [.ref c, .int i4, .int b4, .int k4]) = H4 at *
      obtain ⟨i5, b5, k5, D5⟩ := x3.2
      refine ⟨d, c, ns, i5, b5, k5, m, rfl, D5, hl, m1, by omega, fun r0 i6 b6 k6 r1 r2 => ?_⟩
      have x4 := x3.pick i6 b6 k6
      generalize upd H4 d (.lst [.ref c, .int i6, .int b6, .int k6]) = H5 at *
      refine ⟨_, _, rfl, rfl, ?_⟩
      obtain ⟨i7, b7, k7, D7⟩ := x4.2
      refine ⟨_, _, rfl, rfl, ⟨by decide, by decide, by decide⟩, _, _, rfl, rfl, ⟨by decide, by decide, by decide⟩, (by show 5 ≤ sizeLine; decide), fun l3 hl3 => ?_⟩
      have el3 := same_upd (o := .lst [V.int 0, V.int 3, V.int 12, V.int (10 ^ (9 : Int).toNat), V.int (10 ^ (30 : Int).toNat)]) hl3
      refine ⟨_, rfl, d, c, ns, i7, b7, k7, 5, rfl, D7.same el3, hl, by decide, by decide, fun v6' i8 b8 k8 w0 w1 => ?_⟩
      have x5 := (x4.then el3).pick i8 b8 k8
      have nl3 : l3 ≠ d := fun z => by rw [z, D7.at_] at hl3; cases hl3
      obtain ⟨z, hz, hat3⟩ := size_of w0 w1
      refine ⟨l3, _, _, _, rfl, rfl, SqL.of (by rw [upd_ne nl3]; exact upd_same), hat3, ?_⟩
      generalize upd (upd H5 l3 (.lst [V.int 0, V.int 3, V.int 12, V.int (10 ^ (9 : Int).toNat), V.int (10 ^ (30 : Int).toNat)])) d (.lst [.ref c, .int i8, .int b8, .int k8]) = H6 at *
      obtain ⟨i9, b9, k9, D9⟩ := x5.2
      refine ⟨_, rfl, _, rfl, _, rfl, d, c, ns, i9, b9, k9, n, z, rfl, D9, hl, n2, n40, hz, fun H7 p S W ss ws x6 hp hS hW cs cw esum => ?_⟩
      have x7 := x5.trans x6
      refine ⟨p, _, rfl, SqL.of hp, rfl, _, _, rfl, _, _, rfl, rfl, ?_⟩
      refine ⟨_, rfl, _, rfl, fun h dh nh ndh nhd => ?_⟩
      have eh : Same H7 (upd (upd H7 dh (.own h)) h (.ins CH dh [])) := fun b o e => by rw [upd_ne (ne_of_none e nh), upd_ne (ne_of_none e ndh)]; exact e
      refine ⟨h, dh, n, 1 + r0, rfl, upd_same, by omega, by omega, by omega, by omega, ⟨rfl, ?_⟩⟩
      have eh2 : Same H7 (upd (upd (upd H7 dh (.own h)) h (.ins CH dh [])) h (.ins CH dh (hf n (1 + r0)))) := fun b o e => by rw [upd_ne (ne_of_none e nh)]; exact eh b o e
      have hh : (upd (upd (upd H7 dh (.own h)) h (.ins CH dh [])) h (.ins CH dh (hf n (1 + r0)))) h = some (.ins CH dh (hf n (1 + r0))) := upd_same
      generalize upd (upd (upd H7 dh (.own h)) h (.ins CH dh [])) h (.ins CH dh (hf n (1 + r0))) = H8 at *
      have x8 := x7.then eh2
      have cts : Cts CH H8 h S W n (1 + r0) ss ws := ⟨⟨dh, hh⟩, hS.same eh2, hW.same eh2, cs, cw, n2, n40, by omega, by omega, esum⟩
      refine ⟨_, rfl, _, rfl, (by show 2 ≤ sizeLine; decide), fun l4 hl4 => ?_⟩
      have el4 := same_upd (o := .tup [V.ref S, V.ref W]) hl4
      refine ⟨l4, rfl, ⟨_, SqT.of upd_same⟩, fun D hD => ?_⟩
      refine lc_data (walk_tup (K := K) (a := l4) (xs := [V.ref S, V.ref W])) (fun i => [enu 0 ss, enu 0 ws][i]?) (RelL D) (relL_mono D) (by show 2 ≤ 1000; decide) hD (fun H s => SqT.of (s _ _ upd_same)) same_YAt ?_ ?_
      · rintro i x G2 G2' Q2 R2 hi s2 eD ⟨rfl, hx⟩ q1 q2
        obtain ⟨R, rs, rfl, hR, hrs, hfi⟩ : ∃ (R : Addr) (rs : List Int), x = .ref R ∧ TAt G2' R rs ∧ rs.length = n ∧ [enu 0 ss, enu 0 ws][i]? = some (enu 0 rs) := by
          have hi2 : i = 0 ∨ i = 1 := by have : i < 2 := hi; omega
          have e8 := Same.trans el4 s2
          rcases hi2 with rfl | rfl
          · exact ⟨S, ss, (Option.some.inj hx).symm, (hS.same eh2).same e8, cs.1, rfl⟩
          · exact ⟨W, ws, (Option.some.inj hx).symm, (hW.same eh2).same e8, cw.1, rfl⟩
        refine ⟨rfl, ?_⟩
        refine ⟨_, rfl, _, rfl, by omega, by omega, fun D2 hD2 => ?_⟩
        refine lc_data (n := n) (G := fun _ => True) (Y := YFn fun i => .int (0 + i)) ⟨fun i H hi _ => (by show i < ((n : Int)).toNat; omega), fun H _ => (by show ((n : Int)).toNat ≤ n; omega), fun i H x H' _ _ y => y⟩
          (fun i => some (((i : Nat) : Int), rs.getD i 0)) (RelT D2 D) (relT_mono D2 D) (by omega) hD2 (fun H s => trivial) same_YFn ?_ ?_
        · rintro j y G3 G3' Q3 R3 hj s3' eD3 ⟨rfl, rfl⟩ q1' q2'
          refine ⟨rfl, ?_⟩
          have hget : rs[j]? = some (rs.getD j 0) := by rw [List.getD_eq_getElem?_getD, List.getElem?_eq_getElem (by omega)]; rfl
          refine ⟨_, rfl, _, rfl, _, rfl, R, _, _, _, rfl, rfl, SqT.of (s3' _ _ hR), at_of (j := j) (Int.zero_add _) (map_int_get hget), (by show 2 ≤ sizeLine; decide), fun a2 ha2 => ?_⟩
          exact q1' _ rfl _ _ (same_upd ha2) ⟨a2, rfl, ⟨eD3 a2 ha2, eD a2 (Same.free s3' ha2)⟩, by rw [upd_same]; show some (HO.tup [V.int (0 + ((j : Nat) : Int)), _]) = _; rw [Int.zero_add]⟩
        · intro G3 acc3 s3' eD3 pr3 _
          rw [enu_range hrs] at pr3
          obtain ⟨ps, e1, e2, e3⟩ := relT_pairs pr3
          exact q1 _ hfi _ _ s3' ⟨D2, ps, rfl, eD D2 hD2, by rw [eD3, e1], e3, e2⟩
      · intro H9 acc s9 eD9 pr9 _
        obtain ⟨Ra, Rb, rfl, plA, plB⟩ := relL_two (A := enu 0 ss) (B := enu 0 ws) pr9
        have s89 := Same.trans el4 s9
        have cts9 := cts.same s89
        have x9 := x8.then s89
        have nnS : ∀ x ∈ enu 0 ss, 0 ≤ x.2 := enu_nonneg fun x hx => (cs.2 x hx).1
        have nnW : ∀ x ∈ enu 0 ws, 0 ≤ x.2 := enu_nonneg fun x hx => (cw.2 x hx).1
        have ndS := nodup_of_asc (enu_asc 0 ss)
        have ndW := nodup_of_asc (enu_asc 0 ws)
        have eAll : all_ (enu 0 ss) = all_ (enu 0 ws) := by rw [enu_all, enu_all, esum]
        have lS : (enu 0 ss).length ≤ 40 := by rw [enu_length, cs.1]; exact n40
        have lW : (enu 0 ws).length ≤ 40 := by rw [enu_length, cw.1]; exact n40
        refine ⟨_, rfl, D, _, _, _, rfl, rfl, SqL.of eD9, atI_nat (j := 0) rfl, _, rfl, D, _, _, _, rfl, rfl, SqL.of eD9, atI_nat (j := 1) rfl,
          Ra, Rb, enu 0 ss, enu 0 ws, rfl, plA, plB, ndS, ndW, nnS, nnW, eAll, lS, lW, fun tl gl H10 s10 hgl pml ascl => ?_⟩
        have eD10 := s10 _ _ eD9
        refine ⟨_, rfl, D, _, _, _, rfl, rfl, SqL.of eD10, atI_nat (j := 0) rfl, _, rfl, D, _, _, _, rfl, rfl, SqL.of eD10, atI_nat (j := 1) rfl, ?_⟩
        obtain ⟨O0, hO0⟩ := (plB.same s10).row
        refine ⟨Rb, _, rfl, SqL.of hO0.at_, fun O hO => ?_⟩
        have eO := same_upd (o := .lst (O0.map fun p => V.ref p.1).reverse) hO
        refine ⟨Ra, O, enu 0 ss, (enu 0 ws).reverse, rfl, (plA.same s10).same eO, hO0.rev hO, ndS, by rw [List.map_reverse]; exact (List.reverse_perm _).nodup_iff.mpr ndW, nnS, fun x hx => nnW x (List.mem_reverse.mp hx), by rw [all_perm (List.reverse_perm _)]; exact eAll, lS, by rw [List.length_reverse]; exact lW, fun tm gm H11 s11 hgm pmm ascm => ?_⟩
        have s911 := (s10.trans eO).trans s11
        have cts11 := cts9.same s911
        refine ⟨_, rfl, _, rfl, _, rfl, h, S, W, n, 1 + r0, ss, ws, rfl, cts11, fun xl ul el_ H12 s12 hxl hul pml' ascl' => ?_⟩
        refine ⟨_, rfl, _, rfl, _, rfl, h, S, W, n, 1 + r0, ss, ws, rfl, cts11.same s12, fun xm um em_ H13 s13 hxm hum pmm' ascm' => ?_⟩
        have s1213 := s12.trans s13
        obtain rfl : gl = el_ := asc_unique ascl ascl' (pml.trans pml'.symm)
        obtain rfl : gm = em_ := asc_unique ascm ascm' (pmm.trans pmm'.symm)
        obtain ⟨okl, hasl, _⟩ := mat_facts cs cw esum (List.Perm.refl _) n40 pml ascl
        obtain ⟨okm, hasm, _⟩ := mat_facts cs cw esum (List.reverse_perm _) n40 pmm ascm
        have due := due_le cs cw esum n40 (r := 1 + r0) (by omega) pml ascl pmm ascm
        have hgl13 : GAt H13 tl gl := ((hgl.same eO).same s11).same s1213
        have hgm13 : GAt H13 tm gm := hgm.same s1213
        refine ⟨_, rfl, _, rfl, _, rfl, _, rfl, _, rfl, h, S, W, xl, ul, tl, n, 1 + r0, ss, ws, gl, rfl, cts11.same s1213, hxl.same s13, hul.same s13, hgl13, okl, hasl, fun H14 s14 => ⟨true, rfl, iteF ?_⟩⟩
        refine ⟨_, rfl, _, rfl, _, rfl, _, rfl, _, rfl, h, S, W, xm, um, tm, n, 1 + r0, ss, ws, gm, rfl, (cts11.same s1213).same s14, hxm.same s14, hum.same s14, hgm13.same s14, okm, hasm, fun H15 s15 => ⟨true, rfl, iteF ?_⟩⟩
        have s145 := s14.trans s15
        have cts15 := (cts11.same s1213).same s145
        refine ⟨_, rfl, _, rfl, _, rfl, tl, n, 1 + r0, gl, rfl, hgl13.same s145, okl.few, n2, n40, by omega, by omega, fun H16 q1 s16 hq1 => ?_⟩
        refine ⟨q1, _, rfl, SqT.of hq1, ?_⟩
        refine ⟨_, rfl, _, rfl, _, rfl, tm, n, 1 + r0, gm, rfl, (hgm13.same s145).same s16, okm.few, n2, n40, by omega, by omega, fun H17 q2 s17 hq2 => ?_⟩
        refine ⟨q2, _, rfl, SqT.of hq2, (by show 2 ≤ sizeLine; decide), fun pd hpd => ?_⟩
        have epd := same_upd (o := .tup [V.int (rest n (1 + r0) gl), V.int (rest n (1 + r0) gm)]) hpd
        have s1517 := s16.trans s17
        refine ⟨_, rfl, _, rfl, _, rfl, h, S, W, n, 1 + r0, ss, ws, rfl, (cts15.same s1517).same epd, fun pt g1 g2 H18 s18 pm1 as1 pm2 as2 hpt => ?_⟩
        obtain rfl : gl = g1 := asc_unique ascl as1 (pml.trans pm1.symm)
        obtain rfl : gm = g2 := asc_unique ascm as2 (pmm.trans pm2.symm)
        have hpd18 : H18 pd = some (.tup [V.int (rest n (1 + r0) gl), V.int (rest n (1 + r0) gm)]) := s18 _ _ upd_same
        refine ⟨_, rfl, twoI (rest n (1 + r0) gl) (rest n (1 + r0) gm), twoI (rest n (1 + r0) gl) (rest n (1 + r0) gm), twoI_dp hpt, twoI_dp hpd18, twoI_shaped _ _, twoI_shaped _ _, false, by rw [twoI_eq]; rfl, iteF ?_⟩
        refine ⟨_, rfl, pd, _, _, _, rfl, rfl, SqT.of hpd18, atI_nat (j := 0) rfl, _, rfl, pd, _, _, _, rfl, rfl, SqT.of hpd18, atI_nat (j := 1) rfl, _, _, rfl, rfl, false, eF (by omega), iteF ?_⟩
        have xx : Drawn d c ns H1 H18 := ((((x9.then s911).then s1213).then s145).then s1517).then (epd.trans s18)
        exact ⟨xx.new s1 hd0, xx.2, _, _, _, _, _, _, _, _, _, _, _, _, _, _, _, rfl⟩
    · rintro σ H1 _
      exact k _
end
end Wl
namespace Wl
open PySem L2 Wr
theorem loose_int {p : Program} {lv : List (Str × PySem.W.WData)} {mg : Str → Option Value} {h : Heap} (X : PySem.W.XL p lv mg h) (j : Nat) {x : Str} {i : Int} (e : lv[j]? = some (x, .int i)) : ∃ t, mg x = some (.int i t) := by
  obtain ⟨v, hv, rd⟩ := X.2.val _ (List.mem_of_getElem? e)
  obtain ⟨t, rfl, _⟩ := PySem.W.readsW_int_inv rd
  exact ⟨t, hv⟩
theorem found {l : PySem.W.OpenLaw} {w : World} {K : PySem.W.Frag} {h : Heap} {mg : Str → Option Value} {fa CH CS CR fsHi fsHe fsSi fsSe fsRi fsInt fsWith fsFl fsGr fsGs fsRw fsRu fsCa fsCb fsCx fsGp fsNu fsRe fsCr fsCc fsCi fsIw fsPa fsLw fsMw fsTb fsDk fsPk fsFo fsCt fsMt fsCe fsNb fsNs fsIt fsLaw : Addr} (X : K.In h) (G : h.Ns mainGlobals mg) (hfa : mg "law" = some (.ref fa))
    (hR : ∃ t, mg "MOST_ROOM" = some (.int 1000000000000 t)) (hP : ∃ t, mg "MOST_PEOPLE" = some (.int 1000000000000000000000000000000 t)) (hC : ∃ t, mg "MOST_COUNT" = some (.int 1000000000000000000000000000000 t))
    {odsHi ansHi odsHe ansHe odsSi ansSi odsSe ansSe odsRi ansRi odsInt ansInt odsWith ansWith odsFl ansFl odsGr ansGr odsGs ansGs odsRw ansRw odsRu ansRu odsCa ansCa odsCb ansCb odsCx ansCx odsGp ansGp odsNu ansNu odsRe ansRe odsCr ansCr odsCc ansCc odsCi ansCi odsIw ansIw odsPa ansPa odsLw ansLw odsMw ansMw odsTb ansTb odsDk ansDk odsPk ansPk odsFo ansFo odsCt ansCt odsMt ansMt odsCe ansCe odsNb ansNb odsNs ansNs odsIt ansIt odsLaw ansLaw : Option Addr} {slsHi slsHe slsSi slsSe slsRi slsInt slsWith slsFl slsGr slsGs slsRw slsRu slsCa slsCb slsCx slsGp slsNu slsRe slsCr slsCc slsCi slsIw slsPa slsLw slsMw slsTb slsDk slsPk slsFo slsCt slsMt slsCe slsNb slsNs slsIt slsLaw : Array (Option Value)} {ocsHi kVsHi dcsHi pmsHi cdsHi ctsHi ocsHe kVsHe dcsHe pmsHe cdsHe ctsHe ocsSi kVsSi dcsSi pmsSi cdsSi ctsSi ocsSe kVsSe dcsSe pmsSe cdsSe ctsSe ocsRi kVsRi dcsRi pmsRi cdsRi ctsRi ocsInt kVsInt dcsInt pmsInt cdsInt ctsInt ocsWith kVsWith dcsWith pmsWith cdsWith ctsWith ocsFl kVsFl dcsFl pmsFl cdsFl ctsFl ocsGr kVsGr dcsGr pmsGr cdsGr ctsGr ocsGs kVsGs dcsGs pmsGs cdsGs ctsGs ocsRw kVsRw dcsRw pmsRw cdsRw ctsRw ocsRu kVsRu dcsRu pmsRu cdsRu ctsRu ocsCa kVsCa dcsCa pmsCa cdsCa ctsCa ocsCb kVsCb dcsCb pmsCb cdsCb ctsCb ocsCx kVsCx dcsCx pmsCx cdsCx ctsCx ocsGp kVsGp dcsGp pmsGp cdsGp ctsGp ocsNu kVsNu dcsNu pmsNu cdsNu ctsNu ocsRe kVsRe dcsRe pmsRe cdsRe ctsRe ocsCr kVsCr dcsCr pmsCr cdsCr ctsCr ocsCc kVsCc dcsCc pmsCc cdsCc ctsCc ocsCi kVsCi dcsCi pmsCi cdsCi ctsCi ocsIw kVsIw dcsIw pmsIw cdsIw ctsIw ocsPa kVsPa dcsPa pmsPa cdsPa ctsPa ocsLw kVsLw dcsLw pmsLw cdsLw ctsLw ocsMw kVsMw dcsMw pmsMw cdsMw ctsMw ocsTb kVsTb dcsTb pmsTb cdsTb ctsTb ocsDk kVsDk dcsDk pmsDk cdsDk ctsDk ocsPk kVsPk dcsPk pmsPk cdsPk ctsPk ocsFo kVsFo dcsFo pmsFo cdsFo ctsFo ocsCt kVsCt dcsCt pmsCt cdsCt ctsCt ocsMt kVsMt dcsMt pmsMt cdsMt ctsMt ocsCe kVsCe dcsCe pmsCe cdsCe ctsCe ocsNb kVsNb dcsNb pmsNb cdsNb ctsNb ocsNs kVsNs dcsNs pmsNs cdsNs ctsNs ocsIt kVsIt dcsIt pmsIt cdsIt ctsIt ocsLaw kVsLaw dcsLaw pmsLaw cdsLaw ctsLaw : Value} {tFl tGr : Tok}
    (aCH : PySem.W.nsIn K mainGlobals "House" = some (some (.ref CH)))
    (aCS : PySem.W.nsIn K mainGlobals "Standing" = some (some (.ref CS)))
    (aCR : PySem.W.nsIn K mainGlobals "RawStanding" = some (some (.ref CR)))
    (asHi : PySem.W.findIn K (.ref CH) "__init__" = some (some (.ref fsHi)))
    (isHi : PySem.W.isFn K (.ref fsHi) = true)
    (lsHi : K.lookup fsHi = some ⟨ocsHi, odsHi, .func (PySem.W.fnOf "__init__" "House.__init__" (defArgs sHi) (defBody sHi) (defScope sHi) .none kVsHi dcsHi pmsHi ansHi cdsHi ctsHi), slsHi⟩)
    (csHi : PySem.W.codeIn K cdsHi "House.__init__" = true)
    (ksHi : PySem.W.keepIn K (.ref fsHi) = true)
    (asHe : PySem.W.findIn K (.ref CH) "__eq__" = some (some (.ref fsHe)))
    (isHe : PySem.W.isFn K (.ref fsHe) = true)
    (lsHe : K.lookup fsHe = some ⟨ocsHe, odsHe, .func (PySem.W.fnOf "__eq__" "House.__eq__" (defArgs sHe) (defBody sHe) (defScope sHe) .none kVsHe dcsHe pmsHe ansHe cdsHe ctsHe), slsHe⟩)
    (csHe : PySem.W.codeIn K cdsHe "House.__eq__" = true)
    (ksHe : PySem.W.keepIn K (.ref fsHe) = true)
    (asSi : PySem.W.findIn K (.ref CS) "__init__" = some (some (.ref fsSi)))
    (isSi : PySem.W.isFn K (.ref fsSi) = true)
    (lsSi : K.lookup fsSi = some ⟨ocsSi, odsSi, .func (PySem.W.fnOf "__init__" "Standing.__init__" (defArgs sSi) (defBody sSi) (defScope sSi) .none kVsSi dcsSi pmsSi ansSi cdsSi ctsSi), slsSi⟩)
    (csSi : PySem.W.codeIn K cdsSi "Standing.__init__" = true)
    (ksSi : PySem.W.keepIn K (.ref fsSi) = true)
    (asSe : PySem.W.findIn K (.ref CS) "__eq__" = some (some (.ref fsSe)))
    (isSe : PySem.W.isFn K (.ref fsSe) = true)
    (lsSe : K.lookup fsSe = some ⟨ocsSe, odsSe, .func (PySem.W.fnOf "__eq__" "Standing.__eq__" (defArgs sSe) (defBody sSe) (defScope sSe) .none kVsSe dcsSe pmsSe ansSe cdsSe ctsSe), slsSe⟩)
    (csSe : PySem.W.codeIn K cdsSe "Standing.__eq__" = true)
    (ksSe : PySem.W.keepIn K (.ref fsSe) = true)
    (asRi : PySem.W.findIn K (.ref CR) "__init__" = some (some (.ref fsRi)))
    (isRi : PySem.W.isFn K (.ref fsRi) = true)
    (lsRi : K.lookup fsRi = some ⟨ocsRi, odsRi, .func (PySem.W.fnOf "__init__" "RawStanding.__init__" (defArgs sRi) (defBody sRi) (defScope sRi) .none kVsRi dcsRi pmsRi ansRi cdsRi ctsRi), slsRi⟩)
    (csRi : PySem.W.codeIn K cdsRi "RawStanding.__init__" = true)
    (ksRi : PySem.W.keepIn K (.ref fsRi) = true)
    (asInt : PySem.W.nsIn K mainGlobals "is_integer" = some (some (.ref fsInt)))
    (lsInt : K.lookup fsInt = some ⟨ocsInt, odsInt, .func (PySem.W.fnOf "is_integer" "is_integer" (defArgs sInt) (defBody sInt) (defScope sInt) .none kVsInt dcsInt pmsInt ansInt cdsInt ctsInt), slsInt⟩)
    (csInt : PySem.W.codeIn K cdsInt "is_integer" = true)
    (ksInt : PySem.W.keepIn K (.ref fsInt) = true)
    (asWith : PySem.W.nsIn K mainGlobals "is_within" = some (some (.ref fsWith)))
    (lsWith : K.lookup fsWith = some ⟨ocsWith, odsWith, .func (PySem.W.fnOf "is_within" "is_within" (defArgs sWith) (defBody sWith) (defScope sWith) .none kVsWith dcsWith pmsWith ansWith cdsWith ctsWith), slsWith⟩)
    (csWith : PySem.W.codeIn K cdsWith "is_within" = true)
    (ksWith : PySem.W.keepIn K (.ref fsWith) = true)
    (asFl : PySem.W.nsIn K mainGlobals "is_floor" = some (some (.ref fsFl)))
    (lsFl : K.lookup fsFl = some ⟨ocsFl, odsFl, .func (PySem.W.fnOf "is_floor" "is_floor" (defArgs sFl) (defBody sFl) (defScope sFl) .none kVsFl dcsFl pmsFl ansFl cdsFl ctsFl), slsFl⟩)
    (csFl : PySem.W.codeIn K cdsFl "is_floor" = true)
    (ksFl : PySem.W.keepIn K (.ref fsFl) = true)
    (asGr : PySem.W.nsIn K mainGlobals "is_group" = some (some (.ref fsGr)))
    (lsGr : K.lookup fsGr = some ⟨ocsGr, odsGr, .func (PySem.W.fnOf "is_group" "is_group" (defArgs sGr) (defBody sGr) (defScope sGr) .none kVsGr dcsGr pmsGr ansGr cdsGr ctsGr), slsGr⟩)
    (csGr : PySem.W.codeIn K cdsGr "is_group" = true)
    (ksGr : PySem.W.keepIn K (.ref fsGr) = true)
    (asGs : PySem.W.nsIn K mainGlobals "is_groups" = some (some (.ref fsGs)))
    (lsGs : K.lookup fsGs = some ⟨ocsGs, odsGs, .func (PySem.W.fnOf "is_groups" "is_groups" (defArgs sGs) (defBody sGs) (defScope sGs) .none kVsGs dcsGs pmsGs ansGs cdsGs ctsGs), slsGs⟩)
    (csGs : PySem.W.codeIn K cdsGs "is_groups" = true)
    (ksGs : PySem.W.keepIn K (.ref fsGs) = true)
    (asRw : PySem.W.nsIn K mainGlobals "raw_standing" = some (some (.ref fsRw)))
    (lsRw : K.lookup fsRw = some ⟨ocsRw, odsRw, .func (PySem.W.fnOf "raw_standing" "raw_standing" (defArgs sRw) (defBody sRw) (defScope sRw) .none kVsRw dcsRw pmsRw ansRw cdsRw ctsRw), slsRw⟩)
    (csRw : PySem.W.codeIn K cdsRw "raw_standing" = true)
    (ksRw : PySem.W.keepIn K (.ref fsRw) = true)
    (asRu : PySem.W.nsIn K mainGlobals "rounded_up" = some (some (.ref fsRu)))
    (lsRu : K.lookup fsRu = some ⟨ocsRu, odsRu, .func (PySem.W.fnOf "rounded_up" "rounded_up" (defArgs sRu) (defBody sRu) (defScope sRu) .none kVsRu dcsRu pmsRu ansRu cdsRu ctsRu), slsRu⟩)
    (csRu : PySem.W.codeIn K cdsRu "rounded_up" = true)
    (ksRu : PySem.W.keepIn K (.ref fsRu) = true)
    (asCa : PySem.W.nsIn K mainGlobals "counts_at" = some (some (.ref fsCa)))
    (lsCa : K.lookup fsCa = some ⟨ocsCa, odsCa, .func (PySem.W.fnOf "counts_at" "counts_at" (defArgs sCa) (defBody sCa) (defScope sCa) .none kVsCa dcsCa pmsCa ansCa cdsCa ctsCa), slsCa⟩)
    (csCa : PySem.W.codeIn K cdsCa "counts_at" = true)
    (ksCa : PySem.W.keepIn K (.ref fsCa) = true)
    (asCb : PySem.W.nsIn K mainGlobals "crossings_by" = some (some (.ref fsCb)))
    (lsCb : K.lookup fsCb = some ⟨ocsCb, odsCb, .func (PySem.W.fnOf "crossings_by" "crossings_by" (defArgs sCb) (defBody sCb) (defScope sCb) .none kVsCb dcsCb pmsCb ansCb cdsCb ctsCb), slsCb⟩)
    (csCb : PySem.W.codeIn K cdsCb "crossings_by" = true)
    (ksCb : PySem.W.keepIn K (.ref fsCb) = true)
    (asCx : PySem.W.nsIn K mainGlobals "crossings_at" = some (some (.ref fsCx)))
    (lsCx : K.lookup fsCx = some ⟨ocsCx, odsCx, .func (PySem.W.fnOf "crossings_at" "crossings_at" (defArgs sCx) (defBody sCx) (defScope sCx) .none kVsCx dcsCx pmsCx ansCx cdsCx ctsCx), slsCx⟩)
    (csCx : PySem.W.codeIn K cdsCx "crossings_at" = true)
    (ksCx : PySem.W.keepIn K (.ref fsCx) = true)
    (asGp : PySem.W.nsIn K mainGlobals "gaps_of" = some (some (.ref fsGp)))
    (lsGp : K.lookup fsGp = some ⟨ocsGp, odsGp, .func (PySem.W.fnOf "gaps_of" "gaps_of" (defArgs sGp) (defBody sGp) (defScope sGp) .none kVsGp dcsGp pmsGp ansGp cdsGp ctsGp), slsGp⟩)
    (csGp : PySem.W.codeIn K cdsGp "gaps_of" = true)
    (ksGp : PySem.W.keepIn K (.ref fsGp) = true)
    (asNu : PySem.W.nsIn K mainGlobals "numbers" = some (some (.ref fsNu)))
    (lsNu : K.lookup fsNu = some ⟨ocsNu, odsNu, .func (PySem.W.fnOf "numbers" "numbers" (defArgs sNu) (defBody sNu) (defScope sNu) .none kVsNu dcsNu pmsNu ansNu cdsNu ctsNu), slsNu⟩)
    (csNu : PySem.W.codeIn K cdsNu "numbers" = true)
    (ksNu : PySem.W.keepIn K (.ref fsNu) = true)
    (asRe : PySem.W.nsIn K mainGlobals "rest" = some (some (.ref fsRe)))
    (lsRe : K.lookup fsRe = some ⟨ocsRe, odsRe, .func (PySem.W.fnOf "rest" "rest" (defArgs sRe) (defBody sRe) (defScope sRe) .none kVsRe dcsRe pmsRe ansRe cdsRe ctsRe), slsRe⟩)
    (csRe : PySem.W.codeIn K cdsRe "rest" = true)
    (ksRe : PySem.W.keepIn K (.ref fsRe) = true)
    (asCr : PySem.W.nsIn K mainGlobals "is_count_row" = some (some (.ref fsCr)))
    (lsCr : K.lookup fsCr = some ⟨ocsCr, odsCr, .func (PySem.W.fnOf "is_count_row" "is_count_row" (defArgs sCr) (defBody sCr) (defScope sCr) .none kVsCr dcsCr pmsCr ansCr cdsCr ctsCr), slsCr⟩)
    (csCr : PySem.W.codeIn K cdsCr "is_count_row" = true)
    (ksCr : PySem.W.keepIn K (.ref fsCr) = true)
    (asCc : PySem.W.nsIn K mainGlobals "check_counts" = some (some (.ref fsCc)))
    (lsCc : K.lookup fsCc = some ⟨ocsCc, odsCc, .func (PySem.W.fnOf "check_counts" "check_counts" (defArgs sCc) (defBody sCc) (defScope sCc) .none kVsCc dcsCc pmsCc ansCc cdsCc ctsCc), slsCc⟩)
    (csCc : PySem.W.codeIn K cdsCc "check_counts" = true)
    (ksCc : PySem.W.keepIn K (.ref fsCc) = true)
    (asCi : PySem.W.nsIn K mainGlobals "counts_in" = some (some (.ref fsCi)))
    (lsCi : K.lookup fsCi = some ⟨ocsCi, odsCi, .func (PySem.W.fnOf "counts_in" "counts_in" (defArgs sCi) (defBody sCi) (defScope sCi) .none kVsCi dcsCi pmsCi ansCi cdsCi ctsCi), slsCi⟩)
    (csCi : PySem.W.codeIn K cdsCi "counts_in" = true)
    (ksCi : PySem.W.keepIn K (.ref fsCi) = true)
    (asIw : PySem.W.nsIn K mainGlobals "is_wishes" = some (some (.ref fsIw)))
    (lsIw : K.lookup fsIw = some ⟨ocsIw, odsIw, .func (PySem.W.fnOf "is_wishes" "is_wishes" (defArgs sIw) (defBody sIw) (defScope sIw) .none kVsIw dcsIw pmsIw ansIw cdsIw ctsIw), slsIw⟩)
    (csIw : PySem.W.codeIn K cdsIw "is_wishes" = true)
    (ksIw : PySem.W.keepIn K (.ref fsIw) = true)
    (asPa : PySem.W.nsIn K mainGlobals "paired" = some (some (.ref fsPa)))
    (lsPa : K.lookup fsPa = some ⟨ocsPa, odsPa, .func (PySem.W.fnOf "paired" "paired" (defArgs sPa) (defBody sPa) (defScope sPa) .none kVsPa dcsPa pmsPa ansPa cdsPa ctsPa), slsPa⟩)
    (csPa : PySem.W.codeIn K cdsPa "paired" = true)
    (ksPa : PySem.W.keepIn K (.ref fsPa) = true)
    (asLw : PySem.W.nsIn K mainGlobals "least_wishes" = some (some (.ref fsLw)))
    (lsLw : K.lookup fsLw = some ⟨ocsLw, odsLw, .func (PySem.W.fnOf "least_wishes" "least_wishes" (defArgs sLw) (defBody sLw) (defScope sLw) .none kVsLw dcsLw pmsLw ansLw cdsLw ctsLw), slsLw⟩)
    (csLw : PySem.W.codeIn K cdsLw "least_wishes" = true)
    (ksLw : PySem.W.keepIn K (.ref fsLw) = true)
    (asMw : PySem.W.nsIn K mainGlobals "most_wishes" = some (some (.ref fsMw)))
    (lsMw : K.lookup fsMw = some ⟨ocsMw, odsMw, .func (PySem.W.fnOf "most_wishes" "most_wishes" (defArgs sMw) (defBody sMw) (defScope sMw) .none kVsMw dcsMw pmsMw ansMw cdsMw ctsMw), slsMw⟩)
    (csMw : PySem.W.codeIn K cdsMw "most_wishes" = true)
    (ksMw : PySem.W.keepIn K (.ref fsMw) = true)
    (asTb : PySem.W.nsIn K mainGlobals "travel_bounds" = some (some (.ref fsTb)))
    (lsTb : K.lookup fsTb = some ⟨ocsTb, odsTb, .func (PySem.W.fnOf "travel_bounds" "travel_bounds" (defArgs sTb) (defBody sTb) (defScope sTb) .none kVsTb dcsTb pmsTb ansTb cdsTb ctsTb), slsTb⟩)
    (csTb : PySem.W.codeIn K cdsTb "travel_bounds" = true)
    (ksTb : PySem.W.keepIn K (.ref fsTb) = true)
    (asDk : PySem.W.nsIn K mainGlobals "_law_deck" = some (some (.ref fsDk)))
    (lsDk : K.lookup fsDk = some ⟨ocsDk, odsDk, .func (PySem.W.fnOf "_law_deck" "_law_deck" (defArgs sDk) (defBody sDk) (defScope sDk) .none kVsDk dcsDk pmsDk ansDk cdsDk ctsDk), slsDk⟩)
    (csDk : PySem.W.codeIn K cdsDk "_law_deck" = true)
    (ksDk : PySem.W.keepIn K (.ref fsDk) = true)
    (asPk : PySem.W.nsIn K mainGlobals "_law_pick" = some (some (.ref fsPk)))
    (lsPk : K.lookup fsPk = some ⟨ocsPk, odsPk, .func (PySem.W.fnOf "_law_pick" "_law_pick" (defArgs sPk) (defBody sPk) (defScope sPk) .none kVsPk dcsPk pmsPk ansPk cdsPk ctsPk), slsPk⟩)
    (csPk : PySem.W.codeIn K cdsPk "_law_pick" = true)
    (ksPk : PySem.W.keepIn K (.ref fsPk) = true)
    (asFo : PySem.W.nsIn K mainGlobals "_law_fold" = some (some (.ref fsFo)))
    (lsFo : K.lookup fsFo = some ⟨ocsFo, odsFo, .func (PySem.W.fnOf "_law_fold" "_law_fold" (defArgs sFo) (defBody sFo) (defScope sFo) .none kVsFo dcsFo pmsFo ansFo cdsFo ctsFo), slsFo⟩)
    (csFo : PySem.W.codeIn K cdsFo "_law_fold" = true)
    (ksFo : PySem.W.keepIn K (.ref fsFo) = true)
    (asCt : PySem.W.nsIn K mainGlobals "_law_counts" = some (some (.ref fsCt)))
    (lsCt : K.lookup fsCt = some ⟨ocsCt, odsCt, .func (PySem.W.fnOf "_law_counts" "_law_counts" (defArgs sCt) (defBody sCt) (defScope sCt) .none kVsCt dcsCt pmsCt ansCt cdsCt ctsCt), slsCt⟩)
    (csCt : PySem.W.codeIn K cdsCt "_law_counts" = true)
    (ksCt : PySem.W.keepIn K (.ref fsCt) = true)
    (asMt : PySem.W.nsIn K mainGlobals "_law_matched" = some (some (.ref fsMt)))
    (lsMt : K.lookup fsMt = some ⟨ocsMt, odsMt, .func (PySem.W.fnOf "_law_matched" "_law_matched" (defArgs sMt) (defBody sMt) (defScope sMt) .none kVsMt dcsMt pmsMt ansMt cdsMt ctsMt), slsMt⟩)
    (csMt : PySem.W.codeIn K cdsMt "_law_matched" = true)
    (ksMt : PySem.W.keepIn K (.ref fsMt) = true)
    (asCe : PySem.W.nsIn K mainGlobals "_law_ceil" = some (some (.ref fsCe)))
    (lsCe : K.lookup fsCe = some ⟨ocsCe, odsCe, .func (PySem.W.fnOf "_law_ceil" "_law_ceil" (defArgs sCe) (defBody sCe) (defScope sCe) .none kVsCe dcsCe pmsCe ansCe cdsCe ctsCe), slsCe⟩)
    (csCe : PySem.W.codeIn K cdsCe "_law_ceil" = true)
    (ksCe : PySem.W.keepIn K (.ref fsCe) = true)
    (asNb : PySem.W.nsIn K mainGlobals "_law_number" = some (some (.ref fsNb)))
    (lsNb : K.lookup fsNb = some ⟨ocsNb, odsNb, .func (PySem.W.fnOf "_law_number" "_law_number" (defArgs sNb) (defBody sNb) (defScope sNb) .none kVsNb dcsNb pmsNb ansNb cdsNb ctsNb), slsNb⟩)
    (csNb : PySem.W.codeIn K cdsNb "_law_number" = true)
    (ksNb : PySem.W.keepIn K (.ref fsNb) = true)
    (asNs : PySem.W.nsIn K mainGlobals "_law_numbers" = some (some (.ref fsNs)))
    (lsNs : K.lookup fsNs = some ⟨ocsNs, odsNs, .func (PySem.W.fnOf "_law_numbers" "_law_numbers" (defArgs sNs) (defBody sNs) (defScope sNs) .none kVsNs dcsNs pmsNs ansNs cdsNs ctsNs), slsNs⟩)
    (csNs : PySem.W.codeIn K cdsNs "_law_numbers" = true)
    (ksNs : PySem.W.keepIn K (.ref fsNs) = true)
    (asIt : PySem.W.nsIn K mainGlobals "_law_is_it" = some (some (.ref fsIt)))
    (lsIt : K.lookup fsIt = some ⟨ocsIt, odsIt, .func (PySem.W.fnOf "_law_is_it" "_law_is_it" (defArgs sIt) (defBody sIt) (defScope sIt) .none kVsIt dcsIt pmsIt ansIt cdsIt ctsIt), slsIt⟩)
    (csIt : PySem.W.codeIn K cdsIt "_law_is_it" = true)
    (ksIt : PySem.W.keepIn K (.ref fsIt) = true)
    (asLaw : PySem.W.nsIn K mainGlobals "law" = some (some (.ref fsLaw)))
    (lsLaw : K.lookup fsLaw = some ⟨ocsLaw, odsLaw, .func (PySem.W.fnOf "law" "law" (defArgs sLaw) (defBody sLaw) (defScope sLaw) .none kVsLaw dcsLaw pmsLaw ansLaw cdsLaw ctsLaw), slsLaw⟩)
    (csLaw : PySem.W.codeIn K cdsLaw "law" = true)
    (ksLaw : PySem.W.keepIn K (.ref fsLaw) = true)
    (pgCH : PySem.W.plainGet K CH Str.empty = true)
    (hdCH : PySem.W.hasDictIn K CH = true)
    (poCH : PySem.W.plainOver K CH = true)
    (saCH : PySem.W.findIn K (.ref CH) "__setattr__" = some (some (.builtin "object.__setattr__")))
    (haCH : PySem.W.findIn K (.ref CH) "__class__" = some (some (.builtin "object.__class__")))
    (hmCH : PySem.W.mroIn K CH (.type "object") = some true)
    (mkCH : PySem.W.makesIn K CH = true)
    (kcCH : PySem.W.keepIn K (.ref CH) = true)
    (pgCS : PySem.W.plainGet K CS Str.empty = true)
    (hdCS : PySem.W.hasDictIn K CS = true)
    (poCS : PySem.W.plainOver K CS = true)
    (saCS : PySem.W.findIn K (.ref CS) "__setattr__" = some (some (.builtin "object.__setattr__")))
    (haCS : PySem.W.findIn K (.ref CS) "__class__" = some (some (.builtin "object.__class__")))
    (hmCS : PySem.W.mroIn K CS (.type "object") = some true)
    (mkCS : PySem.W.makesIn K CS = true)
    (kcCS : PySem.W.keepIn K (.ref CS) = true)
    (pgCR : PySem.W.plainGet K CR Str.empty = true)
    (hdCR : PySem.W.hasDictIn K CR = true)
    (poCR : PySem.W.plainOver K CR = true)
    (saCR : PySem.W.findIn K (.ref CR) "__setattr__" = some (some (.builtin "object.__setattr__")))
    (haCR : PySem.W.findIn K (.ref CR) "__class__" = some (some (.builtin "object.__class__")))
    (hmCR : PySem.W.mroIn K CR (.type "object") = some true)
    (mkCR : PySem.W.makesIn K CR = true)
    (kcCR : PySem.W.keepIn K (.ref CR) = true)
    (hn : PySem.W.specialIn K (.builtin "object.__class__") "__get__" = some (some (.builtin "getset_descriptor.__get__")))
    (htk : PySem.W.takesIn K (.builtin "object.__class__") = some true)
    (nHf : PySem.W.findIn K (.ref CH) "floors" = some none)
    (nHr : PySem.W.findIn K (.ref CH) "room" = some none)
    (nSh : PySem.W.findIn K (.ref CS) "house" = some none)
    (nSl : PySem.W.findIn K (.ref CS) "lift" = some none)
    (nSg : PySem.W.findIn K (.ref CS) "groups" = some none)
    (nRh : PySem.W.findIn K (.ref CR) "house" = some none)
    (nRl : PySem.W.findIn K (.ref CR) "lift" = some none)
    (nRg : PySem.W.findIn K (.ref CR) "groups" = some none)
    (iHH : PySem.W.kitOne K (.ref CH) (.ref CH) = some true)
    (iSS : PySem.W.kitOne K (.ref CS) (.ref CS) = some true)
    (iRS : PySem.W.kitOne K (.ref CR) (.ref CS) = some true)
    (neH : PySem.W.findIn K (.ref CH) "__ne__" = some (some (.builtin "object.__ne__")))
    (nfH : PySem.W.notFirst K CH (.ref CH) = true)
    (neR : PySem.W.findIn K (.ref CR) "__ne__" = some (some (.builtin "object.__ne__")))
    (eqR : PySem.W.findIn K (.ref CR) "__eq__" = some (some (.ref fsSe)))
    (nfR : PySem.W.notFirst K CR (.ref CS) = true)
    (zisinstance : PySem.W.nsIn K mainGlobals "isinstance" = some none)
    (zint : PySem.W.nsIn K mainGlobals "int" = some none)
    (zbool : PySem.W.nsIn K mainGlobals "bool" = some none)
    (ztuple : PySem.W.nsIn K mainGlobals "tuple" = some none)
    (zlen : PySem.W.nsIn K mainGlobals "len" = some none)
    (zall : PySem.W.nsIn K mainGlobals "all" = some none)
    (zany : PySem.W.nsIn K mainGlobals "any" = some none)
    (zzip : PySem.W.nsIn K mainGlobals "zip" = some none)
    (zsorted : PySem.W.nsIn K mainGlobals "sorted" = some none)
    (zmax : PySem.W.nsIn K mainGlobals "max" = some none)
    (zmin : PySem.W.nsIn K mainGlobals "min" = some none)
    (zlist : PySem.W.nsIn K mainGlobals "list" = some none)
    (zrange : PySem.W.nsIn K mainGlobals "range" = some none)
    (zsum : PySem.W.nsIn K mainGlobals "sum" = some none)
    (zenumerate : PySem.W.nsIn K mainGlobals "enumerate" = some none)
    (tF : PySem.W.nsIn K mainGlobals "MOST_FLOORS" = some (some (.int 40 tFl)))
    (tG : PySem.W.nsIn K mainGlobals "MOST_GROUPS" = some (some (.int 400 tGr)))
    : ∃ fd : FuncData, (∀ (s : Shared) (v : Value), BindsTo s fd ⟨[v], []⟩ [("_law_script", v)]) ∧ ∀ base : Heap, K.In base → base.Ns mainGlobals mg → FnOk l.prog w K mg base CX0 9 fa fd ["_law_script"] (spLaw K) := by
  have e := hfa.symm.trans (PySem.W.mg_of X G asLaw)
  cases e
  have B : Gb mg := ⟨PySem.W.mg_none_of X G zisinstance, PySem.W.mg_none_of X G zint, PySem.W.mg_none_of X G zbool, PySem.W.mg_none_of X G ztuple, PySem.W.mg_none_of X G zlen, PySem.W.mg_none_of X G zall, PySem.W.mg_none_of X G zany, PySem.W.mg_none_of X G zzip, PySem.W.mg_none_of X G zsorted, PySem.W.mg_none_of X G zmax, PySem.W.mg_none_of X G zmin, PySem.W.mg_none_of X G zlist, PySem.W.mg_none_of X G zrange, PySem.W.mg_none_of X G zsum, PySem.W.mg_none_of X G zenumerate, ⟨_, PySem.W.mg_of X G tF⟩, ⟨_, PySem.W.mg_of X G tG⟩, hR, hP, hC⟩
  have KlCH : Kl K CH := ⟨⟨pgCH, hdCH, poCH, saCH⟩, haCH, hn, htk, hmCH⟩
  have KlCS : Kl K CS := ⟨⟨pgCS, hdCS, poCS, saCS⟩, haCS, hn, htk, hmCS⟩
  have KlCR : Kl K CR := ⟨⟨pgCR, hdCR, poCR, saCR⟩, haCR, hn, htk, hmCR⟩
  have T : Tx K mg CH CS CR := { toGb := B, kH := KlCH, kS := KlCS, kR := KlCR, nHf := nHf, nHr := nHr, nSh := nSh, nSl := nSl, nSg := nSg, nRh := nRh, nRl := nRl, nRg := nRg, mgH := PySem.W.mg_of X G aCH, mgS := PySem.W.mg_of X G aCS, mgR := PySem.W.mg_of X G aCR, iHH := iHH, iSS := iSS, iRS := iRS }
  have FsHi := fun_mk (st := sHi) lsHi csHi ksHi
  have bsHi := FsHi.binds (ps := ["self", "floors", "room"]) fun _ _ _ _ _ _ us hl => match us, hl with | [_, _, _], _ => rfl
  have FsHe := fun_mk (st := sHe) lsHe csHe ksHe
  have bsHe := FsHe.binds (ps := ["self", "other"]) fun _ _ _ _ _ _ us hl => match us, hl with | [_, _], _ => rfl
  have FsSi := fun_mk (st := sSi) lsSi csSi ksSi
  have bsSi := FsSi.binds (ps := ["self", "house", "lift", "groups"]) fun _ _ _ _ _ _ us hl => match us, hl with | [_, _, _, _], _ => rfl
  have FsSe := fun_mk (st := sSe) lsSe csSe ksSe
  have bsSe := FsSe.binds (ps := ["self", "other"]) fun _ _ _ _ _ _ us hl => match us, hl with | [_, _], _ => rfl
  have FsRi := fun_mk (st := sRi) lsRi csRi ksRi
  have bsRi := FsRi.binds (ps := ["self", "house", "lift", "groups"]) fun _ _ _ _ _ _ us hl => match us, hl with | [_, _, _, _], _ => rfl
  have FsInt := fun_mk (st := sInt) lsInt csInt ksInt
  have bsInt := FsInt.binds (ps := ["thing"]) fun _ _ _ _ _ _ us hl => match us, hl with | [_], _ => rfl
  have FsWith := fun_mk (st := sWith) lsWith csWith ksWith
  have bsWith := FsWith.binds (ps := ["thing", "least", "most"]) fun _ _ _ _ _ _ us hl => match us, hl with | [_, _, _], _ => rfl
  have FsFl := fun_mk (st := sFl) lsFl csFl ksFl
  have bsFl := FsFl.binds (ps := ["house", "thing"]) fun _ _ _ _ _ _ us hl => match us, hl with | [_, _], _ => rfl
  have FsGr := fun_mk (st := sGr) lsGr csGr ksGr
  have bsGr := FsGr.binds (ps := ["house", "thing"]) fun _ _ _ _ _ _ us hl => match us, hl with | [_, _], _ => rfl
  have FsGs := fun_mk (st := sGs) lsGs csGs ksGs
  have bsGs := FsGs.binds (ps := ["house", "thing"]) fun _ _ _ _ _ _ us hl => match us, hl with | [_, _], _ => rfl
  have FsRw := fun_mk (st := sRw) lsRw csRw ksRw
  have bsRw := FsRw.binds (ps := ["house", "lift", "known"]) fun _ _ _ _ _ _ us hl => match us, hl with | [_, _, _], _ => rfl
  have FsRu := fun_mk (st := sRu) lsRu csRu ksRu
  have bsRu := FsRu.binds (ps := ["number", "room"]) fun _ _ _ _ _ _ us hl => match us, hl with | [_, _], _ => rfl
  have FsCa := fun_mk (st := sCa) lsCa csCa ksCa
  have bsCa := FsCa.binds (ps := ["standing", "gap"]) fun _ _ _ _ _ _ us hl => match us, hl with | [_, _], _ => rfl
  have FsCb := fun_mk (st := sCb) lsCb csCb ksCb
  have bsCb := FsCb.binds (ps := ["told", "is_below", "room"]) fun _ _ _ _ _ _ us hl => match us, hl with | [_, _, _], _ => rfl
  have FsCx := fun_mk (st := sCx) lsCx csCx ksCx
  have bsCx := FsCx.binds (ps := ["standing", "gap"]) fun _ _ _ _ _ _ us hl => match us, hl with | [_, _], _ => rfl
  have FsGp := fun_mk (st := sGp) lsGp csGp ksGp
  have bsGp := FsGp.binds (ps := ["standing"]) fun _ _ _ _ _ _ us hl => match us, hl with | [_], _ => rfl
  have FsNu := fun_mk (st := sNu) lsNu csNu ksNu
  have bsNu := FsNu.binds (ps := ["standing"]) fun _ _ _ _ _ _ us hl => match us, hl with | [_], _ => rfl
  have FsRe := fun_mk (st := sRe) lsRe csRe ksRe
  have bsRe := FsRe.binds (ps := ["standing"]) fun _ _ _ _ _ _ us hl => match us, hl with | [_], _ => rfl
  have FsCr := fun_mk (st := sCr) lsCr csCr ksCr
  have bsCr := FsCr.binds (ps := ["house", "thing"]) fun _ _ _ _ _ _ us hl => match us, hl with | [_, _], _ => rfl
  have FsCc := fun_mk (st := sCc) lsCc csCc ksCc
  have bsCc := FsCc.binds (ps := ["house", "stands", "wants"]) fun _ _ _ _ _ _ us hl => match us, hl with | [_, _, _], _ => rfl
  have FsCi := fun_mk (st := sCi) lsCi csCi ksCi
  have bsCi := FsCi.binds (ps := ["house", "groups"]) fun _ _ _ _ _ _ us hl => match us, hl with | [_, _], _ => rfl
  have FsIw := fun_mk (st := sIw) lsIw csIw ksIw
  have bsIw := FsIw.binds (ps := ["house", "stands", "wants", "thing"]) fun _ _ _ _ _ _ us hl => match us, hl with | [_, _, _, _], _ => rfl
  have FsPa := fun_mk (st := sPa) lsPa csPa ksPa
  have bsPa := FsPa.binds (ps := ["house", "stands", "wants", "order"]) fun _ _ _ _ _ _ us hl => match us, hl with | [_, _, _, _], _ => rfl
  have FsLw := fun_mk (st := sLw) lsLw csLw ksLw
  have bsLw := FsLw.binds (ps := ["house", "stands", "wants"]) fun _ _ _ _ _ _ us hl => match us, hl with | [_, _, _], _ => rfl
  have FsMw := fun_mk (st := sMw) lsMw csMw ksMw
  have bsMw := FsMw.binds (ps := ["house", "stands", "wants"]) fun _ _ _ _ _ _ us hl => match us, hl with | [_, _, _], _ => rfl
  have FsTb := fun_mk (st := sTb) lsTb csTb ksTb
  have bsTb := FsTb.binds (ps := ["house", "stands", "wants"]) fun _ _ _ _ _ _ us hl => match us, hl with | [_, _, _], _ => rfl
  have FsDk := fun_mk (st := sDk) lsDk csDk ksDk
  have bsDk := FsDk.binds (ps := ["_law_script"]) fun _ _ _ _ _ _ us hl => match us, hl with | [_], _ => rfl
  have FsPk := fun_mk (st := sPk) lsPk csPk ksPk
  have bsPk := FsPk.binds (ps := ["_law_deck_here", "_law_many"]) fun _ _ _ _ _ _ us hl => match us, hl with | [_, _], _ => rfl
  have FsFo := fun_mk (st := sFo) lsFo csFo ksFo
  have bsFo := FsFo.binds (ps := ["_law_script"]) fun _ _ _ _ _ _ us hl => match us, hl with | [_], _ => rfl
  have FsCt := fun_mk (st := sCt) lsCt csCt ksCt
  have bsCt := FsCt.binds (ps := ["_law_deck_here", "_law_floors", "_law_size"]) fun _ _ _ _ _ _ us hl => match us, hl with | [_, _, _], _ => rfl
  have FsMt := fun_mk (st := sMt) lsMt csMt ksMt
  have bsMt := FsMt.binds (ps := ["_law_stands", "_law_wants"]) fun _ _ _ _ _ _ us hl => match us, hl with | [_, _], _ => rfl
  have FsCe := fun_mk (st := sCe) lsCe csCe ksCe
  have bsCe := FsCe.binds (ps := ["_law_many", "_law_room"]) fun _ _ _ _ _ _ us hl => match us, hl with | [_, _], _ => rfl
  have FsNb := fun_mk (st := sNb) lsNb csNb ksNb
  have bsNb := FsNb.binds (ps := ["_law_room", "_law_lift", "_law_groups", "_law_gap"]) fun _ _ _ _ _ _ us hl => match us, hl with | [_, _, _, _], _ => rfl
  have FsNs := fun_mk (st := sNs) lsNs csNs ksNs
  have bsNs := FsNs.binds (ps := ["_law_floors", "_law_room", "_law_lift", "_law_groups"]) fun _ _ _ _ _ _ us hl => match us, hl with | [_, _, _, _], _ => rfl
  have FsIt := fun_mk (st := sIt) lsIt csIt ksIt
  have bsIt := FsIt.binds (ps := ["_law_house", "_law_stands", "_law_wants", "_law_thing", "_law_groups"]) fun _ _ _ _ _ _ us hl => match us, hl with | [_, _, _, _, _], _ => rfl
  have FsLaw := fun_mk (st := sLaw) lsLaw csLaw ksLaw
  refine ⟨_, fun s v => .of_eq rfl, fun base _ _ => ok_law FsLaw T ?_⟩
  let dI : Dn l.prog w K mg base "is_integer" 1 ["thing"] spInt := ⟨_, _, ok_int FsInt B, bsInt, PySem.W.mg_of X G asInt, ksInt⟩
  let dW : Dn l.prog w K mg base "is_within" 2 ["thing", "least", "most"] spWith := ⟨_, _, ok_with FsWith dI, bsWith, PySem.W.mg_of X G asWith, ksWith⟩
  have okHi := ok_hi (P := l.prog) (w := w) (base := base) FsHi T dW
  let hm : HouseMk l.prog w K mg base CH := ⟨fsHi, _, ⟨mkCH, asHi, isHi, kcCH⟩, okHi, bsHi⟩
  let hNe : HouseNe l.prog w K mg base CH := ⟨fsHe, _, ok_he FsHe T, ⟨neH, asHe, isHe, hmCH, nfH⟩, bsHe⟩
  let dF : Dn l.prog w K mg base "is_floor" 3 ["house", "thing"] (spFl CH) := ⟨_, _, ok_fl FsFl T dW, bsFl, PySem.W.mg_of X G asFl, ksFl⟩
  let dG : Dn l.prog w K mg base "is_group" 4 ["house", "thing"] (spGr CH) := ⟨_, _, ok_gr FsGr T dF dI, bsGr, PySem.W.mg_of X G asGr, ksGr⟩
  let dGs : Dn l.prog w K mg base "is_groups" 5 ["house", "thing"] (spGs CH) := ⟨_, _, ok_gs FsGs T dG, bsGs, PySem.W.mg_of X G asGs, ksGs⟩
  let sMk : StandMk l.prog w K mg base CH CS := ⟨fsSi, _, ⟨mkCS, asSi, isSi, kcCS⟩, ok_si FsSi T dF dGs, bsSi⟩
  let sNe : StandNe l.prog w K mg base CH CS CR := ⟨fsSe, _, ok_se FsSe T hNe, ⟨neR, eqR, isSe, hmCR, nfR⟩, bsSe⟩
  let dRw : Dn l.prog w K mg base "raw_standing" 3 ["house", "lift", "known"] (spRw CR) := ⟨_, _, ok_rw FsRw T ⟨mkCR, asRi, isRi, kcCR⟩ (ok_ri FsRi T) bsRi, bsRw, PySem.W.mg_of X G asRw, ksRw⟩
  let dRu : Dn l.prog w K mg base "rounded_up" 1 ["number", "room"] spRu := ⟨_, _, ok_ru FsRu, bsRu, PySem.W.mg_of X G asRu, ksRu⟩
  let dCa : Dn l.prog w K mg base "counts_at" 1 ["standing", "gap"] (spCa CR) := ⟨_, _, ok_ca FsCa T, bsCa, PySem.W.mg_of X G asCa, ksCa⟩
  let dCb : Dn l.prog w K mg base "crossings_by" 2 ["told", "is_below", "room"] spCb := ⟨_, _, ok_cb FsCb T dRu, bsCb, PySem.W.mg_of X G asCb, ksCb⟩
  let dCx : Dn l.prog w K mg base "crossings_at" 3 ["standing", "gap"] (spCx CH CR) := ⟨_, _, ok_cx FsCx T dCa dCb, bsCx, PySem.W.mg_of X G asCx, ksCx⟩
  let dGp : Dn l.prog w K mg base "gaps_of" 1 ["standing"] (spGp CH CR) := ⟨_, _, ok_gp FsGp T, bsGp, PySem.W.mg_of X G asGp, ksGp⟩
  let dNu : Dn l.prog w K mg base "numbers" 4 ["standing"] (spNu CH CR) := ⟨_, _, ok_nu FsNu T dGp dCx, bsNu, PySem.W.mg_of X G asNu, ksNu⟩
  let dRe : Dn l.prog w K mg base "rest" 5 ["standing"] (spRe CH CR) := ⟨_, _, ok_re FsRe T dNu, bsRe, PySem.W.mg_of X G asRe, ksRe⟩
  let dCr : Dn l.prog w K mg base "is_count_row" 3 ["house", "thing"] (spCr CH) := ⟨_, _, ok_cr FsCr T dW, bsCr, PySem.W.mg_of X G asCr, ksCr⟩
  let dCc : Dn l.prog w K mg base "check_counts" 4 ["house", "stands", "wants"] (spCc CH) := ⟨_, _, ok_cc FsCc T dCr, bsCc, PySem.W.mg_of X G asCc, ksCc⟩
  let dCi : Dn l.prog w K mg base "counts_in" 1 ["house", "groups"] (spCi CH) := ⟨_, _, ok_ci FsCi T, bsCi, PySem.W.mg_of X G asCi, ksCi⟩
  let dIw : Dn l.prog w K mg base "is_wishes" 5 ["house", "stands", "wants", "thing"] (spIw CH CR) := ⟨_, _, ok_iw FsIw T hNe dCc dCi, bsIw, PySem.W.mg_of X G asIw, ksIw⟩
  let dPa : Dn l.prog w K mg base "paired" 4 ["house", "stands", "wants", "order"] (spPa CH CR) := ⟨_, _, ok_pa FsPa T dRw, bsPa, PySem.W.mg_of X G asPa, ksPa⟩
  let dLw : Dn l.prog w K mg base "least_wishes" 5 ["house", "stands", "wants"] (spWw CH CR gL) := ⟨_, _, ok_lw FsLw T dCc dPa, bsLw, PySem.W.mg_of X G asLw, ksLw⟩
  let dMw : Dn l.prog w K mg base "most_wishes" 5 ["house", "stands", "wants"] (spWw CH CR gM) := ⟨_, _, ok_mw FsMw T dCc dPa, bsMw, PySem.W.mg_of X G asMw, ksMw⟩
  let dTb : Dn l.prog w K mg base "travel_bounds" 6 ["house", "stands", "wants"] (spTb CH) := ⟨_, _, ok_tb FsTb T dRe dLw dMw, bsTb, PySem.W.mg_of X G asTb, ksTb⟩
  let dDk : Dn l.prog w K mg base "_law_deck" 1 ["_law_script"] (spDk K) := ⟨_, _, ok_dk FsDk B, bsDk, PySem.W.mg_of X G asDk, ksDk⟩
  let dPk : Dn l.prog w K mg base "_law_pick" 1 ["_law_deck_here", "_law_many"] spPk := ⟨_, _, ok_pk FsPk B, bsPk, PySem.W.mg_of X G asPk, ksPk⟩
  let dFo : Dn l.prog w K mg base "_law_fold" 1 ["_law_script"] (spFo K) := ⟨_, _, ok_fo FsFo B, bsFo, PySem.W.mg_of X G asFo, ksFo⟩
  let dCt : Dn l.prog w K mg base "_law_counts" 2 ["_law_deck_here", "_law_floors", "_law_size"] spCt := ⟨_, _, ok_ct FsCt B dPk, bsCt, PySem.W.mg_of X G asCt, ksCt⟩
  let dMt : Dn l.prog w K mg base "_law_matched" 1 ["_law_stands", "_law_wants"] spMt := ⟨_, _, ok_mt FsMt B, bsMt, PySem.W.mg_of X G asMt, ksMt⟩
  let dCe : Dn l.prog w K mg base "_law_ceil" 1 ["_law_many", "_law_room"] spRu := ⟨_, _, ok_ce FsCe, bsCe, PySem.W.mg_of X G asCe, ksCe⟩
  let dNb : Dn l.prog w K mg base "_law_number" 2 ["_law_room", "_law_lift", "_law_groups", "_law_gap"] spNb := ⟨_, _, ok_nb FsNb B dCe, bsNb, PySem.W.mg_of X G asNb, ksNb⟩
  let dNs : Dn l.prog w K mg base "_law_numbers" 3 ["_law_floors", "_law_room", "_law_lift", "_law_groups"] spNs := ⟨_, _, ok_ns FsNs B dNb, bsNs, PySem.W.mg_of X G asNs, ksNs⟩
  let dIt : Dn l.prog w K mg base "_law_is_it" 8 ["_law_house", "_law_stands", "_law_wants", "_law_thing", "_law_groups"] (spIt CH CR) := ⟨_, _, ok_it FsIt T sNe sMk dIw, bsIt, PySem.W.mg_of X G asIt, ksIt⟩
  exact ⟨hm, dDk, dPk, dFo, dCt, dMt, dLw, dMw, dIt, dNs, dTb⟩
theorem ended {l : PySem.W.OpenLaw} {q : Program} {loose : List Str} {XP : (Str → Option Value) → Heap → Prop} {YP : World → Heap → Prop} {d : DefRec} {K : Params → PySem.W.Frag} (hn : l.most = some 63) (hdf : d.params.defaults = []) (hY : ∀ (w : World) (h : Heap), YP w h → (K w.params).In h)
    (told : ∀ (w : World) (mg : Str → Option Value) (fa : Addr) (h : Heap), (K w.params).In h → h.Ns mainGlobals mg → XP mg h → mg d.name = some (.ref fa) → ∃ fd : FuncData, (∀ (s : Shared) (u : Value), BindsTo s fd ⟨[u], []⟩ [("_law_script", u)]) ∧
      ∀ base : Heap, (K w.params).In base → base.Ns mainGlobals mg → FnOk l.prog w (K w.params) mg base CX0 9 fa fd ["_law_script"] (spLaw (K w.params))) : PySem.W.WalkO q loose XP YP l.row.toRowW d [] (fun f vs => PySem.call f vs) := by
  refine Att.attach_call hn hdf ?_
  intro w s0 s1 mg mb fa o pm cd doc a vs ns GR Y ho hd hcd hmg hobj hints hlen hg
  have KX := hY w _ Y
  obtain ⟨fd, hb, fine⟩ := told w mg fa _ KX GR.T.g GR.X hmg
  have most63 : ns.length ≤ sizeLine := Nat.le_trans hlen (by decide)
  exact law_call KX GR.T.g GR.T.b GR.T.builtins GR.T.nolimit hg hobj hints most63 (⟨rfl, by decide, by decide⟩ : Room 9 _) fine hb (fun H _ hS => ⟨a, ns, rfl, hS, hlen, fun _ => rfl⟩) fun _ _ _ z => z
end Wl
open PySem PySem.W PyProof.Rows in
set_option maxRecDepth 100000 in
set_option maxHeartbeats 0 in
theorem PySem.Challenge.cw_willinglift_k55_whole_wishes_in_order_an_holds : PySem.Challenge.rw_willinglift_k55_whole_wishes_in_order_an.Holds := by
  w_on; o_law; k_head; (case hw => w_witness2)
  k_fill
  refine Wl.ended (l := PySem.Challenge.rw_willinglift_k55_whole_wishes_in_order_an) rfl rfl (fun w h Y => PySem.W.kIn_of Y) ?told
  case told =>
    intro w mg fa h KX G X hmg
    refine' Wl.found KX G hmg (Wl.loose_int X 0 rfl) (Wl.loose_int X 1 rfl) (Wl.loose_int X 2 rfl) ?aCH ?aCS ?aCR ?asHi ?isHi ?lsHi ?csHi ?ksHi ?asHe ?isHe ?lsHe ?csHe ?ksHe ?asSi ?isSi ?lsSi ?csSi ?ksSi ?asSe ?isSe ?lsSe ?csSe ?ksSe ?asRi ?isRi ?lsRi ?csRi ?ksRi ?asInt ?lsInt ?csInt ?ksInt ?asWith ?lsWith ?csWith ?ksWith ?asFl ?lsFl ?csFl ?ksFl ?asGr ?lsGr ?csGr ?ksGr ?asGs ?lsGs ?csGs ?ksGs ?asRw ?lsRw ?csRw ?ksRw ?asRu ?lsRu ?csRu ?ksRu ?asCa ?lsCa ?csCa ?ksCa ?asCb ?lsCb ?csCb ?ksCb ?asCx ?lsCx ?csCx ?ksCx ?asGp ?lsGp ?csGp ?ksGp ?asNu ?lsNu ?csNu ?ksNu ?asRe ?lsRe ?csRe ?ksRe ?asCr ?lsCr ?csCr ?ksCr ?asCc ?lsCc ?csCc ?ksCc ?asCi ?lsCi ?csCi ?ksCi ?asIw ?lsIw ?csIw ?ksIw ?asPa ?lsPa ?csPa ?ksPa ?asLw ?lsLw ?csLw ?ksLw ?asMw ?lsMw ?csMw ?ksMw ?asTb ?lsTb ?csTb ?ksTb ?asDk ?lsDk ?csDk ?ksDk ?asPk ?lsPk ?csPk ?ksPk ?asFo ?lsFo ?csFo ?ksFo ?asCt ?lsCt ?csCt ?ksCt ?asMt ?lsMt ?csMt ?ksMt ?asCe ?lsCe ?csCe ?ksCe ?asNb ?lsNb ?csNb ?ksNb ?asNs ?lsNs ?csNs ?ksNs ?asIt ?lsIt ?csIt ?ksIt ?asLaw ?lsLaw ?csLaw ?ksLaw ?pgCH ?hdCH ?poCH ?saCH ?haCH ?hmCH ?mkCH ?kcCH ?pgCS ?hdCS ?poCS ?saCS ?haCS ?hmCS ?mkCS ?kcCS ?pgCR ?hdCR ?poCR ?saCR ?haCR ?hmCR ?mkCR ?kcCR ?hn ?htk ?nHf ?nHr ?nSh ?nSl ?nSg ?nRh ?nRl ?nRg ?iHH ?iSS ?iRS ?neH ?nfH ?neR ?eqR ?nfR ?zisinstance ?zint ?zbool ?ztuple ?zlen ?zall ?zany ?zzip ?zsorted ?zmax ?zmin ?zlist ?zrange ?zsum ?zenumerate ?tF ?tG
    (case aCH => k_is); (case aCS => k_is); (case aCR => k_is); (case asHi => k_is); (case isHi => k_is); (case lsHi => k_is)
    (case csHi => k_is); (case ksHi => k_is); (case asHe => k_is); (case isHe => k_is); (case lsHe => k_is); (case csHe => k_is)
    (case ksHe => k_is); (case asSi => k_is); (case isSi => k_is); (case lsSi => k_is); (case csSi => k_is); (case ksSi => k_is)
    (case asSe => k_is); (case isSe => k_is); (case lsSe => k_is); (case csSe => k_is); (case ksSe => k_is); (case asRi => k_is)
    (case isRi => k_is); (case lsRi => k_is); (case csRi => k_is); (case ksRi => k_is); (case asInt => k_is); (case lsInt => k_is)
    (case csInt => k_is); (case ksInt => k_is); (case asWith => k_is); (case lsWith => k_is); (case csWith => k_is); (case ksWith => k_is)
    (case asFl => k_is); (case lsFl => k_is); (case csFl => k_is); (case ksFl => k_is); (case asGr => k_is); (case lsGr => k_is)
    (case csGr => k_is); (case ksGr => k_is); (case asGs => k_is); (case lsGs => k_is); (case csGs => k_is); (case ksGs => k_is)
    (case asRw => k_is); (case lsRw => k_is); (case csRw => k_is); (case ksRw => k_is); (case asRu => k_is); (case lsRu => k_is)
    (case csRu => k_is); (case ksRu => k_is); (case asCa => k_is); (case lsCa => k_is); (case csCa => k_is); (case ksCa => k_is)
    (case asCb => k_is); (case lsCb => k_is); (case csCb => k_is); (case ksCb => k_is); (case asCx => k_is); (case lsCx => k_is)
    (case csCx => k_is); (case ksCx => k_is); (case asGp => k_is); (case lsGp => k_is); (case csGp => k_is); (case ksGp => k_is)
    (case asNu => k_is); (case lsNu => k_is); (case csNu => k_is); (case ksNu => k_is); (case asRe => k_is); (case lsRe => k_is)
    (case csRe => k_is); (case ksRe => k_is); (case asCr => k_is); (case lsCr => k_is); (case csCr => k_is); (case ksCr => k_is)
    (case asCc => k_is); (case lsCc => k_is); (case csCc => k_is); (case ksCc => k_is); (case asCi => k_is); (case lsCi => k_is)
    (case csCi => k_is); (case ksCi => k_is); (case asIw => k_is); (case lsIw => k_is); (case csIw => k_is); (case ksIw => k_is)
    (case asPa => k_is); (case lsPa => k_is); (case csPa => k_is); (case ksPa => k_is); (case asLw => k_is); (case lsLw => k_is)
    (case csLw => k_is); (case ksLw => k_is); (case asMw => k_is); (case lsMw => k_is); (case csMw => k_is); (case ksMw => k_is)
    (case asTb => k_is); (case lsTb => k_is); (case csTb => k_is); (case ksTb => k_is); (case asDk => k_is); (case lsDk => k_is)
    (case csDk => k_is); (case ksDk => k_is); (case asPk => k_is); (case lsPk => k_is); (case csPk => k_is); (case ksPk => k_is)
    (case asFo => k_is); (case lsFo => k_is); (case csFo => k_is); (case ksFo => k_is); (case asCt => k_is); (case lsCt => k_is)
    (case csCt => k_is); (case ksCt => k_is); (case asMt => k_is); (case lsMt => k_is); (case csMt => k_is); (case ksMt => k_is)
    (case asCe => k_is); (case lsCe => k_is); (case csCe => k_is); (case ksCe => k_is); (case asNb => k_is); (case lsNb => k_is)
    (case csNb => k_is); (case ksNb => k_is); (case asNs => k_is); (case lsNs => k_is); (case csNs => k_is); (case ksNs => k_is)
    (case asIt => k_is); (case lsIt => k_is); (case csIt => k_is); (case ksIt => k_is); (case asLaw => k_is); (case lsLaw => k_is)
    (case csLaw => k_is); (case ksLaw => k_is); (case pgCH => k_is); (case hdCH => k_is); (case poCH => k_is); (case saCH => k_is)
    (case haCH => k_is); (case hmCH => k_is); (case mkCH => k_is); (case kcCH => k_is); (case pgCS => k_is); (case hdCS => k_is)
    (case poCS => k_is); (case saCS => k_is); (case haCS => k_is); (case hmCS => k_is); (case mkCS => k_is); (case kcCS => k_is)
    (case pgCR => k_is); (case hdCR => k_is); (case poCR => k_is); (case saCR => k_is); (case haCR => k_is); (case hmCR => k_is)
    (case mkCR => k_is); (case kcCR => k_is); (case hn => k_is); (case htk => k_is); (case nHf => k_is); (case nHr => k_is)
    (case nSh => k_is); (case nSl => k_is); (case nSg => k_is); (case nRh => k_is); (case nRl => k_is); (case nRg => k_is)
    (case iHH => kit_is); (case iSS => kit_is); (case iRS => kit_is); (case neH => k_is); (case nfH => k_is); (case neR => k_is)
    (case eqR => k_is); (case nfR => k_is); (case zisinstance => k_is); (case zint => k_is); (case zbool => k_is); (case ztuple => k_is)
    (case zlen => k_is); (case zall => k_is); (case zany => k_is); (case zzip => k_is); (case zsorted => k_is); (case zmax => k_is)
    (case zmin => k_is); (case zlist => k_is); (case zrange => k_is); (case zsum => k_is); (case zenumerate => k_is); (case tF => k_is)
    (case tG => k_is)
