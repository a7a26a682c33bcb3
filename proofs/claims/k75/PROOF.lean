import PyProof.Rows.All
import Wide.All
import OpenK.AllK
import Wide.FinOn
import HandS.ForMost
import HandS.EndBits
import HandS.DictComp
import HandS.IsInst
import HandS.Codes
import HandS.Wide
import HandS.Style
import HandS.Walk
import HandS.TupAny
import HandS.Conv
import KE.GoesEnum
import PySem.Challenge.RW_putbetween_k75_whole_speeds_of_power
import HandS.SetFor
section
/-! KM: the plain mathematics of growths: routes, rings, the power, how needed rises. No program in sight. -/
set_option Elab.async false
set_option linter.all false
namespace KM
open Classical
variable {α : Type}

/-- routes of any length -/
inductive Reach (suc : α → List α) (a : α) : α → Prop
  | refl : Reach suc a a
  | snoc {b c : α} : Reach suc a b → c ∈ suc b → Reach suc a c

theorem Reach.trans {suc : α → List α} {a b c : α} (h : Reach suc a b) (g : Reach suc b c) : Reach suc a c := by
  induction g with
  | refl => exact h
  | snoc _ m ih => exact ih.snoc m
theorem Reach.head {suc : α → List α} {a b c : α} (m : b ∈ suc a) (g : Reach suc b c) : Reach suc a c :=
  Reach.trans (Reach.snoc .refl m) g
theorem Reach.cases_head {suc : α → List α} {a c : α} (h : Reach suc a c) : a = c ∨ ∃ b, b ∈ suc a ∧ Reach suc b c := by
  induction h with
  | refl => exact .inl rfl
  | @snoc b c hb m ih =>
    rcases ih with rfl | ⟨d, hd, r⟩
    · exact .inr ⟨c, m, .refl⟩
    · exact .inr ⟨d, hd, r.snoc m⟩
theorem Reach.closed {suc : α → List α} {P : α → Prop} (cl : ∀ x, P x → ∀ y, y ∈ suc x → P y) {a b : α} (h : Reach suc a b) (p : P a) : P b := by
  induction h with
  | refl => exact p
  | snoc _ m ih => exact cl _ ih _ m

/-- one step or more -/
def Reach1 (suc : α → List α) (a c : α) : Prop := ∃ b, b ∈ suc a ∧ Reach suc b c
theorem Reach1.reach {suc : α → List α} {a c : α} (h : Reach1 suc a c) : Reach suc a c := let ⟨_, m, r⟩ := h; r.head m
theorem Reach1.trans {suc : α → List α} {a b c : α} (h : Reach1 suc a b) (g : Reach suc b c) : Reach1 suc a c := let ⟨x, m, r⟩ := h; ⟨x, m, r.trans g⟩
theorem Reach.trans1 {suc : α → List α} {a b c : α} (h : Reach suc a b) (g : Reach1 suc b c) : Reach1 suc a c := by
  rcases h.cases_head with rfl | ⟨x, m, r⟩
  · exact g
  · exact ⟨x, m, r.trans g.reach⟩
theorem Reach.one {suc : α → List α} {a c : α} (h : Reach suc a c) (ne : a ≠ c) : Reach1 suc a c := by
  rcases h.cases_head with e | h
  · exact absurd e ne
  · exact h

/-- a ring lies on x -/
def Cyc (suc : α → List α) (x : α) : Prop := Reach1 suc x x
/-- x and y lie on one ring, or are one -/
def Ring (suc : α → List α) (x y : α) : Prop := Reach suc x y ∧ Reach suc y x
/-- the first steps from which a route leads back -/
noncomputable def outs (suc : α → List α) (x : α) : List α := (suc x).filter fun g => decide (Reach suc g x)
def Dbl (suc : α → List α) (k : α) : Prop := ∃ x, Reach suc k x ∧ 1 < (outs suc x).length

theorem outs_pos {suc : α → List α} {x : α} : 0 < (outs suc x).length ↔ Cyc suc x := by
  rw [List.length_pos_iff_exists_mem]
  unfold outs Cyc Reach1
  constructor
  · rintro ⟨b, h⟩
    rw [List.mem_filter, decide_eq_true_eq] at h
    exact ⟨b, h⟩
  · rintro ⟨b, h⟩
    refine ⟨b, ?_⟩
    rw [List.mem_filter, decide_eq_true_eq]
    exact h

structure Gr (ks : List α) (suc : α → List α) : Prop where
  nd : ks.Nodup
  cl : ∀ k, k ∈ ks → ∀ x, x ∈ suc k → x ∈ ks
theorem Gr.reach {ks : List α} {suc : α → List α} (G : Gr ks suc) {a b : α} (h : Reach suc a b) (ha : a ∈ ks) : b ∈ ks := h.closed (P := fun x => x ∈ ks) (fun x hx y hy => G.cl x hx y hy) ha

/-! ### the law's own reckoning of doubles -/
/-- the lot of x -/
def Lot (suc : α → List α) (x y : α) : Prop := Reach1 suc x y ∧ Reach1 suc y x
theorem lot_ring {suc : α → List α} {x y : α} (c : Cyc suc x) : Lot suc x y ↔ Ring suc x y := by
  constructor
  · rintro ⟨a, b⟩
    exact ⟨a.reach, b.reach⟩
  · rintro ⟨a, b⟩
    exact ⟨Reach1.trans c a, Reach.trans1 b c⟩
theorem lot_none {suc : α → List α} {x y : α} (c : ¬ Cyc suc x) : ¬ Lot suc x y := fun h => c (h.1.trans h.2.reach)
theorem ring_alone {suc : α → List α} {x y : α} (c : ¬ Cyc suc x) : Ring suc x y ↔ y = x := by
  constructor
  · rintro ⟨a, b⟩
    by_cases e : x = y
    · exact e.symm
    · exact absurd ((a.one e).trans b) c
  · rintro rfl
    exact ⟨.refl, .refl⟩
theorem lot_cyc {suc : α → List α} {x y : α} (h : Lot suc x y) : Cyc suc y := h.2.trans h.1.reach
theorem lot_step {suc : α → List α} {x o g : α} (ho : Lot suc x o) (hg : g ∈ suc o) : Lot suc x g ↔ Reach suc g o := by
  constructor
  · rintro ⟨_, b⟩
    exact b.reach.trans ho.1.reach
  · intro r
    refine ⟨Reach.trans1 ho.1.reach ⟨g, hg, .refl⟩, Reach.trans1 r ho.2⟩

theorem sum_gt {β : Type} (f : β → Nat) : ∀ (l : List β), (∀ x, x ∈ l → 1 ≤ f x) → (l.length < (l.map f).sum ↔ ∃ x, x ∈ l ∧ 1 < f x)
  | [], _ => by simp
  | a :: l, h => by
    have ih := sum_gt f l fun x hx => h x (List.mem_cons_of_mem _ hx)
    have h1 := h a List.mem_cons_self
    have ge : ∀ l : List β, (∀ x, x ∈ l → 1 ≤ f x) → l.length ≤ (l.map f).sum := by
      intro l
      induction l with
      | nil => intro _; exact Nat.le_refl _
      | cons b l ih2 =>
        intro hb
        have := ih2 fun x hx => hb x (List.mem_cons_of_mem _ hx)
        have := hb b List.mem_cons_self
        simp only [List.length_cons, List.map_cons, List.sum_cons]
        omega
    have g := ge l fun x hx => h x (List.mem_cons_of_mem _ hx)
    simp only [List.length_cons, List.map_cons, List.sum_cons]
    constructor
    · intro q
      by_cases e : 1 < f a
      · exact ⟨a, List.mem_cons_self, e⟩
      · obtain ⟨x, hx, q2⟩ := ih.1 (by omega)
        exact ⟨x, List.mem_cons_of_mem _ hx, q2⟩
    · rintro ⟨x, hx, q⟩
      rcases List.mem_cons.mp hx with rfl | hx
      · omega
      · have := ih.2 ⟨x, hx, q⟩
        omega

/-- the steps within the lot of x: more than its kinds exactly if some kind of it has two -/
theorem steps_gt {suc : α → List α} {x : α} (c : Cyc suc x) (l : List α) (hl : ∀ y, y ∈ l ↔ Lot suc x y ∧ y ∈ l) (f : α → Nat) (hf : ∀ o, o ∈ l → f o = (outs suc o).length) :
    l.length < (l.map f).sum ↔ ∃ o, o ∈ l ∧ 1 < (outs suc o).length := by
  have e : l.map f = l.map fun o => (outs suc o).length := List.map_congr_left hf
  rw [e]
  exact sum_gt _ l fun o ho => outs_pos.2 (lot_cyc ((hl o).1 ho).1)

theorem dbl_iff {ks : List α} {suc : α → List α} (G : Gr ks suc) {k : α} (hk : k ∈ ks) :
    Dbl suc k ↔ ∃ x, x ∈ ks ∧ Cyc suc x ∧ Reach suc k x ∧ ∃ o, Lot suc x o ∧ 1 < (outs suc o).length := by
  constructor
  · rintro ⟨x, r, h⟩
    have c : Cyc suc x := outs_pos.1 (by omega)
    exact ⟨x, G.reach r hk, c, r, x, ⟨c, c⟩, h⟩
  · rintro ⟨x, _, _, r, o, l, h⟩
    exact ⟨o, r.trans l.1.reach, h⟩

/-! ### the power -/
def mx (l : List Int) : Int := l.foldr max 0
theorem mx_le : ∀ (l : List Int) (y : Int), y ∈ l → y ≤ mx l
  | a :: l, y, h => by
    show y ≤ max a (mx l)
    rcases List.mem_cons.mp h with rfl | h
    · exact Int.le_max_left _ _
    · exact Int.le_trans (mx_le l y h) (Int.le_max_right _ _)
theorem mx_nonneg : ∀ l : List Int, 0 ≤ mx l
  | [] => Int.le_refl _
  | a :: l => Int.le_trans (mx_nonneg l) (Int.le_max_right a (mx l))
theorem mx_mem : ∀ l : List Int, mx l = 0 ∨ mx l ∈ l
  | [] => .inl rfl
  | a :: l => by
    show max a (mx l) = 0 ∨ max a (mx l) ∈ a :: l
    rcases Int.le_total a (mx l) with h | h
    · rw [Int.max_eq_right h]
      exact (mx_mem l).imp id (List.mem_cons_of_mem _)
    · rw [Int.max_eq_left h]
      exact .inr List.mem_cons_self
/-- what the greatest of a list is, by what is in it -/
theorem mx_eq {l : List Int} {ns : List Int} {M : Int} (hm : M ∈ ns) (hle : ∀ y, y ∈ ns → y ≤ M) (h : ∀ n, n ∈ ns ↔ n = 0 ∨ n ∈ l) : M = mx l := by
  have h0 : (0 : Int) ≤ M := hle 0 ((h 0).2 (.inl rfl))
  apply Int.le_antisymm
  · rcases (h M).1 hm with e | e
    · rw [e]
      exact mx_nonneg l
    · exact mx_le l M e
  · rcases mx_mem l with e | e
    · rw [e]
      exact h0
    · exact hle _ ((h _).2 (.inr e))

/-- the kinds that are left by a step out of the ring of x -/
noncomputable def goals (ks : List α) (suc : α → List α) (x : α) : List α :=
  (ks.filter fun y => decide (Ring suc x y)).flatMap fun y => (suc y).filter fun g => decide (¬ Ring suc x g)
theorem mem_goals {ks : List α} {suc : α → List α} {x g : α} : g ∈ goals ks suc x ↔ ∃ y, y ∈ ks ∧ Ring suc x y ∧ g ∈ suc y ∧ ¬ Ring suc x g := by
  unfold goals
  rw [List.mem_flatMap]
  constructor
  · rintro ⟨y, hy, hg⟩
    rw [List.mem_filter, decide_eq_true_eq] at hy hg
    exact ⟨y, hy.1, hy.2, hg.1, hg.2⟩
  · rintro ⟨y, h1, h2, h3, h4⟩
    refine ⟨y, ?_, ?_⟩ <;> rw [List.mem_filter, decide_eq_true_eq]
    · exact ⟨h1, h2⟩
    · exact ⟨h3, h4⟩
noncomputable def val (ks : List α) (suc : α → List α) (m : α → Int) (x : α) : Int := mx ((goals ks suc x).map m) + (if Cyc suc x then 1 else 0)
/-- one kind's turn -/
noncomputable def up (ks : List α) (suc : α → List α) (m : α → Int) (x : α) : α → Int := fun y => if y = x then val ks suc m x else m y
/-- one round; so many rounds -/
noncomputable def round (ks : List α) (suc : α → List α) (m : α → Int) : α → Int := ks.foldl (up ks suc) m
noncomputable def rounds (ks : List α) (suc : α → List α) : Nat → α → Int
  | 0 => fun _ => 0
  | n + 1 => round ks suc (rounds ks suc n)
noncomputable def deg (ks : List α) (suc : α → List α) (k : α) : Int := rounds ks suc (ks.length + 1) k

theorem val_eq {ks : List α} {suc : α → List α} {m : α → Int} {x : α} {ns : List Int} {M : Int} (hm : M ∈ ns) (hle : ∀ y, y ∈ ns → y ≤ M) (h : ∀ n, n ∈ ns ↔ n = 0 ∨ ∃ g, g ∈ goals ks suc x ∧ m g = n) :
    M = mx ((goals ks suc x).map m) := mx_eq hm hle fun n => by rw [h, List.mem_map]

theorem goal_ks {ks : List α} {suc : α → List α} (G : Gr ks suc) {x g : α} (h : g ∈ goals ks suc x) : g ∈ ks := by
  obtain ⟨y, hy, _, hg, _⟩ := mem_goals.1 h
  exact G.cl y hy g hg

/-- a property of all states -/
theorem round_inv {ks : List α} {suc : α → List α} {P : (α → Int) → Prop} (h : ∀ m x, P m → x ∈ ks → P (up ks suc m x)) {m : α → Int} (p : P m) : P (round ks suc m) := by
  have : ∀ (l : List α) (m : α → Int), (∀ x, x ∈ l → x ∈ ks) → P m → P (l.foldl (up ks suc) m) := by
    intro l
    induction l with
    | nil => intro m _ p; exact p
    | cons a l ih =>
      intro m hl p
      exact ih _ (fun x hx => hl x (List.mem_cons_of_mem _ hx)) (h m a p (hl a List.mem_cons_self))
  exact this ks m (fun _ hx => hx) p

/-- some ring is reached from x -/
def Onto (suc : α → List α) (x : α) : Prop := ∃ c, Reach suc x c ∧ Cyc suc c
theorem rounds_onto {ks : List α} {suc : α → List α} : ∀ n x, 0 ≤ rounds ks suc n x ∧ (0 < rounds ks suc n x → Onto suc x) := by
  intro n
  induction n with
  | zero => intro x; exact ⟨Int.le_refl _, fun h => absurd h (Int.lt_irrefl _)⟩
  | succ n ih =>
    show ∀ x, 0 ≤ round ks suc (rounds ks suc n) x ∧ (0 < round ks suc (rounds ks suc n) x → Onto suc x)
    refine round_inv (P := fun m => ∀ x, 0 ≤ m x ∧ (0 < m x → Onto suc x)) (fun m x p _ y => ?_) ih
    unfold up
    by_cases e : y = x
    · rw [if_pos e, e]
      unfold val
      have h0 := mx_nonneg ((goals ks suc x).map m)
      constructor
      · split <;> omega
      · intro h
        by_cases c : Cyc suc x
        · exact ⟨x, .refl, c⟩
        · rw [if_neg c] at h
          rcases mx_mem ((goals ks suc x).map m) with q | q
          · omega
          · obtain ⟨g, hg, eg⟩ := List.mem_map.1 q
            obtain ⟨z, _, hz, hgz, _⟩ := mem_goals.1 hg
            obtain ⟨c, rc, hc⟩ := (p g).2 (by omega)
            exact ⟨c, (hz.1.snoc hgz).trans rc, hc⟩
    · rw [if_neg e]
      exact p y

/-! ### a rising row of sets of kinds stands still at last -/
theorem count_le (p q : α → Bool) : ∀ l : List α, (∀ x, x ∈ l → p x = true → q x = true) → l.countP p ≤ l.countP q
  | [], _ => Nat.le_refl _
  | a :: l, h => by
    have ih := count_le p q l fun x hx => h x (List.mem_cons_of_mem _ hx)
    have ha := h a List.mem_cons_self
    rw [List.countP_cons, List.countP_cons]
    by_cases e : p a = true
    · rw [if_pos e, if_pos (ha e)]
      omega
    · rw [if_neg e]
      omega
theorem count_lt (p q : α → Bool) : ∀ l : List α, (∀ x, x ∈ l → p x = true → q x = true) → (∃ x, x ∈ l ∧ q x = true ∧ ¬ p x = true) → l.countP p < l.countP q
  | [], _, h => by
    obtain ⟨x, hx, _⟩ := h
    cases hx
  | a :: l, h, ⟨x, hx, hq, hp⟩ => by
    have le := count_le p q l fun x hx => h x (List.mem_cons_of_mem _ hx)
    have ha := h a List.mem_cons_self
    rw [List.countP_cons, List.countP_cons]
    rcases List.mem_cons.mp hx with rfl | hx
    · rw [if_pos hq, if_neg hp]
      omega
    · have ih := count_lt p q l (fun x hx => h x (List.mem_cons_of_mem _ hx)) ⟨x, hx, hq, hp⟩
      by_cases e : p a = true
      · rw [if_pos e, if_pos (ha e)]
        omega
      · rw [if_neg e]
        omega
/-- D rises, and once it stands still it stands still for ever: then it does so from ks.length on -/
theorem stable (ks : List α) (D : Nat → α → Prop) (mono : ∀ r x, x ∈ ks → D r x → D (r + 1) x)
    (stay : ∀ r, (∀ x, x ∈ ks → D (r + 1) x → D r x) → ∀ x, x ∈ ks → D (r + 2) x → D (r + 1) x) : ∀ r, ks.length ≤ r → ∀ x, x ∈ ks → D (r + 1) x → D r x := by
  have key : ∀ r, (∀ x, x ∈ ks → D (r + 1) x → D r x) ∨ r + 1 ≤ ks.countP fun x => decide (D (r + 1) x) := by
    intro r
    induction r with
    | zero =>
      by_cases s : ∀ x, x ∈ ks → D (0 + 1) x → D 0 x
      · exact .inl s
      · right
        have : ∃ x, x ∈ ks ∧ D (0 + 1) x ∧ ¬ D 0 x := Classical.byContradiction fun n => s fun x hx h => Classical.byContradiction fun h2 => n ⟨x, hx, h, h2⟩
        obtain ⟨x, hx, h1, h2⟩ := this
        have := count_lt (fun x => decide (D 0 x)) (fun x => decide (D (0 + 1) x)) ks (fun x hx h => by
          rw [decide_eq_true_eq] at h ⊢
          exact mono 0 x hx h) ⟨x, hx, by rw [decide_eq_true_eq]; exact h1, by rw [decide_eq_true_eq]; exact h2⟩
        omega
    | succ r ih =>
      rcases ih with ih | ih
      · exact .inl (stay r ih)
      · by_cases s : ∀ x, x ∈ ks → D (r + 1 + 1) x → D (r + 1) x
        · exact .inl s
        · right
          have : ∃ x, x ∈ ks ∧ D (r + 1 + 1) x ∧ ¬ D (r + 1) x := Classical.byContradiction fun n => s fun x hx h => Classical.byContradiction fun h2 => n ⟨x, hx, h, h2⟩
          obtain ⟨x, hx, h1, h2⟩ := this
          have := count_lt (fun x => decide (D (r + 1) x)) (fun x => decide (D (r + 1 + 1) x)) ks (fun x hx h => by
            rw [decide_eq_true_eq] at h ⊢
            exact mono _ x hx h) ⟨x, hx, by rw [decide_eq_true_eq]; exact h1, by rw [decide_eq_true_eq]; exact h2⟩
          omega
  intro r hr
  rcases key r with h | h
  · exact h
  · have := List.countP_le_length (p := fun x => decide (D (r + 1) x)) (l := ks)
    omega

/-- within r steps a ring lies -/
def Near (suc : α → List α) : Nat → α → Prop
  | 0 => fun x => Cyc suc x
  | r + 1 => fun x => Near suc r x ∨ ∃ g, g ∈ suc x ∧ Near suc r g
theorem near_onto {ks : List α} {suc : α → List α} (G : Gr ks suc) {x : α} (hx : x ∈ ks) (h : Onto suc x) : Near suc ks.length x := by
  have st := stable ks (Near suc) (fun r x _ h => .inl h) (fun r s x hx h => by
    rcases h with h | ⟨g, hg, h⟩
    · exact h
    · exact .inr ⟨g, hg, s g (G.cl x hx g hg) h⟩) ks.length (Nat.le_refl _)
  obtain ⟨c, r, hc⟩ := h
  have h0 : ∀ n, Near suc n c := by
    intro n
    induction n with
    | zero => exact hc
    | succ n ih => exact .inl ih
  have : ∀ a, Reach suc a c → a ∈ ks → Near suc ks.length a := by
    have back : ∀ (P : α → Prop), (∀ a b, b ∈ suc a → P b → P a) → ∀ a c, Reach suc a c → P c → P a := by
      intro P hP a c r
      induction r with
      | refl => exact id
      | snoc r m ih => exact fun p => ih (hP _ _ m p)
    exact fun a r => back (fun a => a ∈ ks → Near suc ks.length a) (fun a b hb p ha => st a ha (.inr ⟨b, hb, p (G.cl a ha b hb)⟩)) a c r fun _ => h0 _
  exact this x r hx

theorem up_pos {ks : List α} {suc : α → List α} {m : α → Int} {x : α} (hx : x ∈ ks) {S : α → Prop} (hS : ∀ y, S y → 0 < m y) (h : Cyc suc x ∨ ∃ g, g ∈ suc x ∧ S g) : 0 < val ks suc m x := by
  unfold val
  have h0 := mx_nonneg ((goals ks suc x).map m)
  by_cases c : Cyc suc x
  · rw [if_pos c]
    omega
  · rw [if_neg c]
    rcases h with h | ⟨g, hg, hs⟩
    · exact absurd h c
    · have hm : g ∈ goals ks suc x := mem_goals.2 ⟨x, hx, ⟨.refl, .refl⟩, hg, fun r => c ⟨g, hg, r.2⟩⟩
      have := mx_le ((goals ks suc x).map m) (m g) (List.mem_map_of_mem hm)
      have := hS g hs
      omega
theorem near_pos {ks : List α} {suc : α → List α} (G : Gr ks suc) : ∀ r x, x ∈ ks → Near suc r x → 0 < rounds ks suc (r + 1) x := by
  -- one round: what is positive stays so, and what is Near r becomes so
  have turn : ∀ r (m : α → Int), (∀ x, x ∈ ks → (∃ q, r = q + 1 ∧ Near suc q x) → 0 < m x) → ∀ x, x ∈ ks → Near suc r x → 0 < round ks suc m x := by
    intro r m0 h0
    have : ∀ (l : List α) (m : α → Int) (dn : List α), (∀ x, x ∈ l → x ∈ ks) → (∀ x, x ∈ ks → (∃ q, r = q + 1 ∧ Near suc q x) → 0 < m x) → (∀ x, x ∈ dn → x ∈ ks → Near suc r x → 0 < m x) →
        ∀ x, x ∈ dn ++ l → x ∈ ks → Near suc r x → 0 < l.foldl (up ks suc) m x := by
      intro l
      induction l with
      | nil =>
        intro m dn _ _ h2 x hx
        rw [List.append_nil] at hx
        exact h2 x hx
      | cons a l ih =>
        intro m dn hl h1 h2 x hx
        have ha : a ∈ ks := hl a List.mem_cons_self
        have pa : Near suc r a → 0 < val ks suc m a := fun hn => up_pos ha (S := fun y => y ∈ ks ∧ ∃ q, r = q + 1 ∧ Near suc q y) (fun y hy => h1 y hy.1 hy.2) (by
          cases r with
          | zero => exact .inl hn
          | succ q =>
            have : ∀ q x, Near suc q x → x ∈ ks → Cyc suc x ∨ ∃ g, g ∈ suc x ∧ g ∈ ks ∧ ∃ q', q + 1 = q' + 1 ∧ Near suc q' g := by
              intro q
              induction q with
              | zero => intro x h _; exact .inl h
              | succ q ih2 =>
                intro x h hx
                rcases h with h | ⟨g, hg, h⟩
                · rcases ih2 x h hx with z | ⟨g, hg, hgk, q', e, z⟩
                  · exact .inl z
                  · refine .inr ⟨g, hg, hgk, q + 1, rfl, .inl ?_⟩
                    have e' : q = q' := by omega
                    rw [e']
                    exact z
                · exact .inr ⟨g, hg, G.cl x hx g hg, q + 1, rfl, .inl h⟩
            rcases hn with hn | ⟨g, hg, hn⟩
            · rcases this q a hn ha with z | ⟨g, hg, hgk, q', e, z⟩
              · exact .inl z
              · exact .inr ⟨g, hg, hgk, q', e, z⟩
            · exact .inr ⟨g, hg, G.cl a ha g hg, q, rfl, hn⟩)
        show x ∈ ks → Near suc r x → 0 < l.foldl (up ks suc) (up ks suc m a) x
        refine ih (up ks suc m a) (dn ++ [a]) (fun y hy => hl y (List.mem_cons_of_mem _ hy)) (fun y hy hq => ?_) (fun y hy hyk hn => ?_) x (by rw [List.append_assoc]; exact hx)
        · unfold up
          by_cases e : y = a
          · rw [if_pos e]
            obtain ⟨q, e1, e2⟩ := hq
            refine pa ?_
            rw [e1, ← e]
            exact .inl e2
          · rw [if_neg e]
            exact h1 y hy hq
        · unfold up
          by_cases e : y = a
          · rw [if_pos e]
            exact pa (e ▸ hn)
          · rw [if_neg e]
            rcases List.mem_append.1 hy with z | z
            · exact h2 y z hyk hn
            · exact absurd (List.mem_singleton.1 z) e
    exact fun x hx => this ks m0 [] (fun _ h => h) h0 (fun x h => by cases h) x hx hx
  intro r
  induction r with
  | zero =>
    intro x hx h
    exact turn 0 (rounds ks suc 0) (fun x _ ⟨q, e, _⟩ => by cases e) x hx h
  | succ r ih =>
    intro x hx h
    exact turn (r + 1) (rounds ks suc (r + 1)) (fun x hx ⟨q, e, h⟩ => ih x hx (by
      have e' : r = q := by omega
      rw [e']
      exact h)) x hx h

/-- the power is above 0 exactly where a ring is reached -/
theorem deg_pos {ks : List α} {suc : α → List α} (G : Gr ks suc) {k : α} (hk : k ∈ ks) : 0 < deg ks suc k ↔ Onto suc k :=
  ⟨(rounds_onto _ k).2, fun h => near_pos G _ k hk (near_onto G hk h)⟩
theorem deg_nonneg {ks : List α} {suc : α → List α} (k : α) : 0 ≤ deg ks suc k := (rounds_onto _ k).1

/-! ### needed -/
def nd (suc : α → List α) : Nat → α → Int
  | 0 => fun _ => 0
  | n + 1 => fun k => 1 + ((suc k).map (nd suc n)).sum
/-- the number of routes with so many steps -/
def wk (suc : α → List α) : Nat → α → Int
  | 0 => fun _ => 1
  | n + 1 => fun k => ((suc k).map (wk suc n)).sum
theorem sum_add (f g : α → Int) : ∀ l : List α, (l.map fun x => f x + g x).sum = (l.map f).sum + (l.map g).sum
  | [] => rfl
  | a :: l => by
    simp only [List.map_cons, List.sum_cons, sum_add f g l]
    omega
theorem nd_wk (suc : α → List α) : ∀ n k, nd suc (n + 1) k = nd suc n k + wk suc n k
  | 0, k => by
    show 1 + ((suc k).map (nd suc 0)).sum = 0 + 1
    have : ∀ l : List α, (l.map (nd suc 0)).sum = 0 := by
      intro l
      induction l with
      | nil => rfl
      | cons a l ih =>
        rw [List.map_cons, List.sum_cons, ih]
        rfl
    rw [this]
    rfl
  | n + 1, k => by
    show 1 + ((suc k).map (nd suc (n + 1))).sum = (1 + ((suc k).map (nd suc n)).sum) + ((suc k).map (wk suc n)).sum
    have e : (suc k).map (nd suc (n + 1)) = (suc k).map fun x => nd suc n x + wk suc n x := List.map_congr_left fun x _ => nd_wk suc n x
    rw [e, sum_add]
    omega
theorem sum_nonneg (f : α → Int) : ∀ l : List α, (∀ x, x ∈ l → 0 ≤ f x) → 0 ≤ (l.map f).sum
  | [], _ => Int.le_refl _
  | a :: l, h => by
    have := sum_nonneg f l fun x hx => h x (List.mem_cons_of_mem _ hx)
    have := h a List.mem_cons_self
    rw [List.map_cons, List.sum_cons]
    omega
theorem sum_pos (f : α → Int) : ∀ l : List α, (∀ x, x ∈ l → 0 ≤ f x) → (0 < (l.map f).sum ↔ ∃ x, x ∈ l ∧ 0 < f x)
  | [], _ => by simp
  | a :: l, h => by
    have ih := sum_pos f l fun x hx => h x (List.mem_cons_of_mem _ hx)
    have n := sum_nonneg f l fun x hx => h x (List.mem_cons_of_mem _ hx)
    have ha := h a List.mem_cons_self
    rw [List.map_cons, List.sum_cons]
    constructor
    · intro q
      by_cases e : 0 < f a
      · exact ⟨a, List.mem_cons_self, e⟩
      · obtain ⟨x, hx, p⟩ := ih.1 (by omega)
        exact ⟨x, List.mem_cons_of_mem _ hx, p⟩
    · rintro ⟨x, hx, p⟩
      rcases List.mem_cons.mp hx with rfl | hx
      · omega
      · have := ih.2 ⟨x, hx, p⟩
        omega
theorem wk_nonneg (suc : α → List α) : ∀ n k, 0 ≤ wk suc n k
  | 0, _ => by
    show (0 : Int) ≤ 1
    decide
  | n + 1, k => sum_nonneg _ _ fun x _ => wk_nonneg suc n x
theorem wk_pos (suc : α → List α) (n : Nat) (k : α) : 0 < wk suc (n + 1) k ↔ ∃ g, g ∈ suc k ∧ 0 < wk suc n g := sum_pos _ _ fun x _ => wk_nonneg suc n x

theorem onto_step {suc : α → List α} {x : α} (h : Onto suc x) : ∃ g, g ∈ suc x ∧ Onto suc g := by
  obtain ⟨c, r, hc⟩ := h
  rcases r.cases_head with rfl | ⟨b, hb, r⟩
  · obtain ⟨g, hg, r⟩ := id hc
    exact ⟨g, hg, x, r, hc⟩
  · exact ⟨b, hb, c, r, hc⟩
theorem onto_wk {suc : α → List α} : ∀ n x, Onto suc x → 0 < wk suc n x
  | 0, _, _ => by
    show (0 : Int) < 1
    decide
  | n + 1, x, h => by
    obtain ⟨g, hg, o⟩ := onto_step h
    exact (wk_pos suc n x).2 ⟨g, hg, onto_wk n g o⟩
theorem wk_onto {ks : List α} {suc : α → List α} (G : Gr ks suc) : ∀ (x : α), x ∈ ks → 0 < wk suc ks.length x → Onto suc x := by
  have st := stable ks (fun r x => ¬ 0 < wk suc r x) (fun r x hx h q => by
      have : ∀ r x, 0 < wk suc (r + 1) x → 0 < wk suc r x := by
        intro r
        induction r with
        | zero =>
          intro x _
          show (0 : Int) < 1
          decide
        | succ r ih =>
          intro x q
          obtain ⟨g, hg, q⟩ := (wk_pos suc (r + 1) x).1 q
          exact (wk_pos suc r x).2 ⟨g, hg, ih g q⟩
      exact h (this r x q))
    (fun r s x hx h q => h (by
      obtain ⟨g, hg, q⟩ := (wk_pos suc r x).1 q
      exact (wk_pos suc (r + 1) x).2 ⟨g, hg, Classical.byContradiction fun n => s g (G.cl x hx g hg) n q⟩)) ks.length (Nat.le_refl _)
  -- from each kind with long routes a step leads to another one
  have nx : ∀ x, x ∈ ks → 0 < wk suc ks.length x → ∃ g, g ∈ suc x ∧ g ∈ ks ∧ 0 < wk suc ks.length g := fun x hx h => by
    have h2 : 0 < wk suc (ks.length + 1) x := Classical.byContradiction fun n => st x hx n h
    obtain ⟨g, hg, q⟩ := (wk_pos suc ks.length x).1 h2
    exact ⟨g, hg, G.cl x hx g hg, q⟩
  have : ∀ (c : Nat) (x : α), ks.countP (fun y => decide (Reach suc x y)) ≤ c → x ∈ ks → 0 < wk suc ks.length x → Onto suc x := by
    intro c
    induction c with
    | zero =>
      intro x h hx _
      have : 0 < ks.countP fun y => decide (Reach suc x y) := List.countP_pos_iff.2 ⟨x, hx, by rw [decide_eq_true_eq]; exact .refl⟩
      omega
    | succ c ih =>
      intro x h hx q
      by_cases hc : Cyc suc x
      · exact ⟨x, .refl, hc⟩
      · obtain ⟨g, hg, hgk, qg⟩ := nx x hx q
        have lt := count_lt (fun y => decide (Reach suc g y)) (fun y => decide (Reach suc x y)) ks (fun y _ hy => by
          rw [decide_eq_true_eq] at hy ⊢
          exact hy.head hg) ⟨x, hx, by rw [decide_eq_true_eq]; exact .refl, by
          rw [decide_eq_true_eq]
          exact fun r => hc ⟨g, hg, r⟩⟩
        obtain ⟨d, r, hd⟩ := ih g (by omega) hgk qg
        exact ⟨d, r.head hg, hd⟩
  exact fun x => this _ x (Nat.le_refl _)

theorem nd_rise {suc : α → List α} {k : α} (h : Onto suc k) : ∀ d n, nd suc n k < nd suc (n + d + 1) k
  | 0, n => by
    have := onto_wk n k h
    have := nd_wk suc n k
    show nd suc n k < nd suc (n + 1) k
    omega
  | d + 1, n => by
    have := nd_rise h d n
    have := onto_wk (n + d + 1) k h
    have := nd_wk suc (n + d + 1) k
    have e : n + (d + 1) + 1 = n + d + 1 + 1 := by omega
    rw [e]
    omega
theorem nd_flat {ks : List α} {suc : α → List α} (G : Gr ks suc) {k : α} (hk : k ∈ ks) (h : ¬ Onto suc k) {n : Nat} (hn : ks.length ≤ n) : ∀ d, nd suc (n + d) k = nd suc n k
  | 0 => rfl
  | d + 1 => by
    have ih := nd_flat G hk h hn d
    have e : n + (d + 1) = n + d + 1 := by omega
    rw [e, nd_wk, ih]
    have down : ∀ (e : Nat) x, 0 < wk suc (ks.length + e) x → 0 < wk suc ks.length x := by
      have one : ∀ r x, 0 < wk suc (r + 1) x → 0 < wk suc r x := by
        intro r
        induction r with
        | zero =>
          intro x _
          show (0 : Int) < 1
          decide
        | succ r ih =>
          intro x q
          obtain ⟨g, hg, q⟩ := (wk_pos suc (r + 1) x).1 q
          exact (wk_pos suc r x).2 ⟨g, hg, ih g q⟩
      intro e
      induction e with
      | zero => exact fun x h => h
      | succ e ih2 => exact fun x h => ih2 x (one _ x h)
    have z : ¬ 0 < wk suc (n + d) k := fun q => h (wk_onto G k hk (down (n + d - ks.length) k (by
      have e2 : ks.length + (n + d - ks.length) = n + d := by omega
      rw [e2]
      exact q)))
    have := wk_nonneg suc (n + d) k
    omega
/-- THE LAW's end: needed at 50, 100 and 200 -/
theorem needed_end {ks : List α} {suc : α → List α} (G : Gr ks suc) (h12 : ks.length ≤ 50) {k : α} (hk : k ∈ ks) :
    (deg ks suc k = 0 → nd suc 50 k = nd suc 100 k ∧ nd suc 100 k = nd suc 200 k) ∧ (0 < deg ks suc k → nd suc 50 k < nd suc 100 k ∧ nd suc 100 k < nd suc 200 k) := by
  constructor
  · intro h
    have no : ¬ Onto suc k := fun o => by
      have := (deg_pos G hk).2 o
      omega
    have h1 := nd_flat G hk no h12 50
    have h2 := nd_flat G hk no h12 150
    exact ⟨h1.symm, h1.trans h2.symm⟩
  · intro h
    have o := (deg_pos G hk).1 h
    exact ⟨nd_rise o 49 50, nd_rise o 99 100⟩
end KM
end
section
set_option Elab.async false
set_option linter.all false
set_option maxRecDepth 100000
set_option maxHeartbeats 4000000
/-! KB: what all the walks lean on: the text by places, names of the module, calls, some further rules, the heap. -/
namespace KW
open PySem PySem.Spec PyProof.Rows L2

def topS (i : Nat) : Stmt := PySem.Challenge.pw_putbetween_k75_whole_speeds_of_power.main.body.getD i (.Pass ⟨0, 0, 0, 0⟩)

/-- the built-in names and the constants of the module, as they stand -/
structure Blt (mg : Str → Option Value) : Prop where
  len : mg "len" = none
  isinstance : mg "isinstance" = none
  all : mg "all" = none
  sum : mg "sum" = none
  max : mg "max" = none
  abs : mg "abs" = none
  range : mg "range" = none
  enumerate : mg "enumerate" = none
  sorted : mg "sorted" = none
  int : mg "int" = none
  bool : mg "bool" = none
  str : mg "str" = none
  dict : mg "dict" = none
  tuple : mg "tuple" = none
  list : mg "list" = none
  set : mg "set" = none
  MOST_KINDS : ∃ u, mg "MOST_KINDS" = some u ∧ RelV (.int 12) u
  MOST_LEFT : ∃ u, mg "MOST_LEFT" = some u ∧ RelV (.int 4) u
  MOST_SIGNS : ∃ u, mg "MOST_SIGNS" = some u ∧ RelV (.int 8) u
  MOST_ROUNDS : ∃ u, mg "MOST_ROUNDS" = some u ∧ RelV (.int 200) u
  SIGNS : ∃ u, mg "SIGNS" = some u ∧ RelV (.str "abcdefghijklmnopqrstuvwxyz") u

/-- a def under its name -/
structure Df (K : PySem.W.Frag) (mg : Str → Option Value) (x : Str) (st : Stmt) (ps : List Str) : Prop where
  ex : ∃ (f : Addr) (fd : FuncData), L2.Fun K x x st f fd ∧ mg x = some (.ref f) ∧ Binds K fd ps []
/-- a def that may be called by its name -/
structure Cal (P : Program) (w : World) (K : PySem.W.Frag) (mg : Str → Option Value) (base : Heap) (k : Nat) (x : Str) (sp : Sp) : Prop where
  ex : ∃ (f : Addr) (fd : FuncData) (ps : List Str), FnOk P w K mg base L2.CX0 k f fd ps sp ∧ mg x = some (.ref f) ∧ PySem.W.keepIn K (.ref f) = true ∧ Binds K fd ps []
section
variable {P : Program} {w : World} {K : PySem.W.Frag} {mg : Str → Option Value} {base : Heap}
theorem cal_of {x : Str} {st : Stmt} {N ps : List Str} {k : Nat} {sp : Sp} (F : Df K mg x st ps) (S : FnScope N ps (defScope st)) (len : ∀ vs H Q E, sp vs H Q E → vs.length = ps.length)
    (hbody : ∀ (f : Addr) (cdv : Value) (A : Around) (outer : List Env) (s : Shared) (H : Hp) (vs : List V) (Q : VK) (E : XK), Room k (A.deeper (envOfC x (defScope st) s.heap.objs.size f cdv)) → sp vs H Q E →
      ∃ t, PSs (cxOf L2.CX0 P w K mg base N x (defScope st) f cdv A outer s H E).nox (defBody st) t ∧ t { nx := fun _ H' => Q .non H', rt := Q } (start N vs) H) : Cal P w K mg base (k + 1) x sp := by
  obtain ⟨f, fd, F, m, b⟩ := F.ex
  exact ⟨f, fd, ps, F.ok S len (hbody f), m, F.kp, b⟩
theorem Cal.mono {x : Str} {j k : Nat} {sp : Sp} (c : Cal P w K mg base j x sp) (h : j ≤ k) : Cal P w K mg base k x sp := by
  obtain ⟨f, fd, ps, F, r⟩ := c.ex
  exact ⟨f, fd, ps, F.mono h, r⟩
end
section
variable {X : Cx} {k j : Nat} {x : Str} {sp : Sp} {p pos : Pos} {e : Expr} {es : List Expr} {t : TA}
theorem pe_cal (c : Cal X.prog X.w X.K X.mg X.base k x sp) (hr : Room j X.A) (hk : k ≤ j) (hg : Gl X x) (ha : PA X (e :: es) t)
    (hdb : (x == ("__debug__" : Str)) = false := by decide) (he : starEach (e :: es) X.env = (false, eval e X.env) :: starEach es X.env := by rfl) (hpl : (backTo pos (starEach es X.env)).any (·.1) = false := by rfl) :
    PE X (.Call (.Name x p) (e :: es) [] pos) (tCall sp [] L2.E0 t) := by
  obtain ⟨f, fd, ps, F, hm, kp, b⟩ := c.ex
  exact pe_call F (hr.mono hk) hg hm kp b .nil pass0 ha hdb he hpl
end

/-! ### rules -/
section
variable {X : Cx}
theorem pe_cls {x : Str} {pos : Pos} (n : String) (hg : Gl X x) (hm : X.mg x = none) (hv : bootBuiltins x = some (.type n)) (hn : x ≠ "__name__" := by decide) (hd : (x == ("__debug__" : Str)) = false := by decide) :
    PE X (.Name x pos) (tC (.ty n)) := pe_bltn hg hm hv rfl hn hd
/-- len of a dict that may be locked -/
theorem call_lenR : CallR X (.builtin "len") (fun xs H Q => ∃ a kvs, xs = [V.ref a] ∧ Rd H a (.dK kvs) ∧ Q (.int kvs.length) H) := by
  intro pins s σ H xs us Q I r h
  obtain ⟨a, kvs, rfl, ha, q⟩ := h
  obtain ⟨u, rfl, ru⟩ := vals1 r
  cases ru
  exact d_len I ha fun t s' I' => ⟨.int kvs.length, H, I', ⟨t, rfl⟩, q⟩

/-- a text so often -/
def strRep (x : Str) (n : Nat) : Str := ⟨(List.replicate n x.cps).foldl (· ++ ·) #[]⟩
theorem strRep_one (x : Str) : strRep x 1 = x := by
  unfold strRep
  show (⟨#[] ++ x.cps⟩ : Str) = x
  rw [Array.empty_append]
theorem rep_list (a : Array Nat) : ∀ (n : Nat) (acc : Array Nat), ((List.replicate n a).foldl (· ++ ·) acc).toList = acc.toList ++ (List.replicate n a.toList).flatten
  | 0, acc => by simp
  | n + 1, acc => by
    rw [List.replicate_succ, List.foldl_cons, rep_list a n, List.replicate_succ, List.flatten_cons, Array.toList_append, List.append_assoc]
theorem strRep_list (x : Str) (n : Nat) : (strRep x n).cps.toList = (List.replicate n x.cps.toList).flatten := by
  unfold strRep
  rw [rep_list]
  rfl
theorem str_len (x : Str) : x.length = x.cps.toList.length := rfl
theorem strRep_len (x : Str) (n : Nat) : (strRep x n).length = n * x.length := by
  rw [str_len, strRep_list, str_len]
  generalize x.cps.toList = l
  induction n with
  | zero => simp
  | succ n ih =>
    rw [List.replicate_succ, List.flatten_cons, List.length_append, ih, Nat.succ_mul]
    omega
theorem op_repS : OpR X (binaryOp .Mult) (fun x y H Q => ∃ (z : Str) (k : Int), x = .str z ∧ y = .int k ∧ 1 ≤ k ∧ k ≤ 100 ∧ z.length ≤ 100 ∧ 1 ≤ z.length ∧ Q (.str (strRep z k.toNat)) H) := by
  intro pins s σ H x y v u Q I rx ry h
  obtain ⟨z, k, rfl, rfl, h1, h2, h3, h4, q⟩ := h
  obtain ⟨t, rfl⟩ := rx
  obtain ⟨t', rfl⟩ := ry
  have hz : (z.length : Int) ≤ 100 := by omega
  refine P.mul_str ?_ (fun _ _ => ?_) (fun _ _ => ?_) ?_
  · have a1 : ¬ k < -(2 ^ 63) := by omega
    have a2 : ¬ k ≥ 2 ^ 63 := by omega
    rw [decide_eq_false a1, decide_eq_false a2]
    rfl
  · have : (100 : Int) ≤ (2 ^ 63 - 1) / k := by
      refine (Int.le_ediv_iff_mul_le (by omega)).2 ?_
      omega
    omega
  · have hm : z.length * k.toNat ≤ 100 * 100 := Nat.mul_le_mul h3 (by omega)
    unfold Builtin.Str.tooLong
    exact decide_eq_false (by
      rw [sizeLine_eq]
      omega)
  · rw [if_neg (by omega)]
    by_cases e : (k == 1 || z.length == 0) = true
    · rw [if_pos e]
      have ek : k = 1 := by
        rw [Bool.or_eq_true] at e
        rcases e with e | e
        · exact eq_of_beq e
        · have := eq_of_beq e
          omega
      subst ek
      refine ⟨.str z, H, I, ⟨_, rfl⟩, ?_⟩
      have q2 : Q (.str (strRep z 1)) H := q
      rw [strRep_one] at q2
      exact q2
    · rw [if_neg e]
      exact ⟨by
        have hm : z.length * k.toNat ≤ 100 * 100 := Nat.mul_le_mul h3 (by omega)
        rw [show (⟨(List.replicate k.toNat z.cps).foldl (· ++ ·) #[]⟩ : Str) = strRep z k.toNat from rfl, strRep_len, sizeLine_eq, Nat.mul_comm]
        omega, .str (strRep z k.toNat), H, I.tok _, ⟨_, rfl⟩, q⟩
end
end KW
end
section
set_option Elab.async false
set_option linter.all false
set_option maxRecDepth 100000
set_option maxHeartbeats 4000000
/-! KR: a dict comprehension that is stored on its own line; enumerate of a tuple. -/
namespace KW
open PySem PySem.Spec PyProof.Rows L2
section
variable {X : Cx}
theorem ps_setDc {i : Nat} {y : Str} {py : Pos} {kx vx tg iter : Expr} {ifs : List Expr} {scope : Scope} {own : List (Str × Nat)} {pos spos : Pos} {wi : TI} {g : TG} {tt : TT} {tk tv : TE}
    (hc : X.calm = true) (hN : X.N.Nodup) (hy : X.N[i]? = some y) (hyl : X.env.scope.names.lookup y = some .local)
    (hsw : swapsWith (.DictComp kx vx [⟨tg, iter, ifs, 0⟩] scope pos) (some (.Name y py)) spos.line X.env = pure true)
    (hi : PI X tg iter wi) (ok : BlkOk X.N X.env.scope scope own)
    (hg : ∀ (s : Shared) (H : Hp) (C : Addr) (cl : List (Str × Addr)) (fp : List Addr), PG (X.blk s H scope (compEnvC scope cl C X.env) fp) tg g)
    (ht : ∀ (s : Shared) (H : Hp) (C : Addr) (cl : List (Str × Addr)) (fp : List Addr), PTs (X.blk s H scope (compEnvC scope cl C X.env) fp) ifs tt)
    (hk : ∀ (s : Shared) (H : Hp) (C : Addr) (cl : List (Str × Addr)) (fp : List Addr), PE (X.blk s H scope (compEnvC scope cl C X.env) fp) kx tk)
    (he : ∀ (s : Shared) (H : Hp) (C : Addr) (cl : List (Str × Addr)) (fp : List Addr), PE (X.blk s H scope (compEnvC scope cl C X.env) fp) vx tv)
    (hs : ∀ x, foldedSetIterable iter X.env x = pure x := by intro _; rfl) :
    PS X (.Assign [.Name y py] (.DictComp kx vx [⟨tg, iter, ifs, 0⟩] scope pos) spos) (tAsg (tDc wi g tt tk tv (own.map (·.2))) (gName i)) := by
  refine ⟨fun pins s σ H D I h => ?_⟩
  rw [exec_Assign_Name_used _ _ _ _ hsw]
  refine wpAny_bind (wpAny_standAt (wpAny_bind ?_))
  show wpAny _ X.A (do
    let _ ← comprehension (.DictComp kx vx [⟨tg, iter, ifs, 0⟩] scope pos) scope X.env (firstIterPos [⟨tg, iter, ifs, 0⟩] pos) newDict false (eval iter X.env) (some (assign (.Name y py) X.env))) _ _ s
  have h' : tDc wi g tt tk tv (own.map (·.2)) σ H (fun x H1 => gName i x σ H1 D.nx) := h
  refine wpAny_bind (thn (dc_core (Qf := fun _ z => SP X pins D .next z) hc hN I hi ok hg ht hk he hs h' fun Dd C s' m H' I' q hn f => ?_) fun _ z hq => wpAny_pure (wpAny_pure hq))
  show wpAny _ _ (assign (.Name y py) X.env (.ref Dd)) _ _ _
  refine wpAny_assign_Name (store_ok2 (v := V.ref Dd) I' hN hy (.inl hyl) rfl (fun s2 I2 z => ?_) (.inr hyl))
  obtain ⟨a, sb, ha⟩ := z
  obtain ⟨f0, f1, f2, f3, f4, f5⟩ := f
  have haC : C ≠ a := by
    rcases ha with e | e
    · rw [e]; exact f1
    · exact fun q => f4 y a e q.symm
  refine ⟨m, hn.sameBut sb haC, fun h3 sb3 => ⟨_, H', ?_, q⟩⟩
  exact I2.turned (t' := s2.toks) (fun b o hb e => (sb3.2 b hb).trans e) f0 f1 f3 f4 f5
theorem sw_trueD {kx vx : Expr} {gs : List Comprehension} {scope : Scope} {pos py : Pos} {y : Str} {l : Nat} {env : Env} (hk : env.scope.kind = .function) (hy : env.scope.names.lookup y = some .local)
    (hl : (py.line == pos.line) = true) (ha : (scope.names.any fun (n, k) => n == y && (k == .local || k == .cell)) = false) : swapsWith (.DictComp kx vx gs scope pos) (some (.Name y py)) l env = pure true := by
  have k1 : env.kindOf y = some .local := hy
  have k2 : env.blockKind = .function := by
    unfold Env.blockKind
    rw [hk]
    rfl
  unfold swapsWith
  simp only [k2, k1, ha, Expr.pos, hl]
  rfl
end

/-! ### enumerate(tuple) -/
theorem meets_enum_tup (l : Addr) (items : Array Value) :
    Meets (Builtin.«enumerate.__new__» ⟨[.type "enumerate", .ref l], []⟩) (fun _ R s => s.heap.IsTuple l items ∧
      R (.ok (.ret (.ref (s.heap.push { cls := .type "tuple_iterator", data := .fields #[.ref l, .int 0 0] }).objs.size)))
        { s with heap := (s.heap.push { cls := .type "tuple_iterator", data := .fields #[.ref l, .int 0 0] }).push { cls := .type "enumerate", data := .fields #[.none, .bool false, .ref s.heap.objs.size, rawInt 0, .none, .none] } }) :=
  .of_wp fun prog w A R s h => by
    obtain ⟨hp, g, d, tk, os⟩ := s
    obtain ⟨hL, h⟩ := h
    have hsub := sub_enumerate
    have q1 : ∀ {A' : Around} {E : Value → Shared → Prop} {Q : Value → Shared → Prop}, Q (.ref hp.objs.size) ⟨hp.push { cls := .type "tuple_iterator", data := .fields #[.ref l, .int 0 0] }, g, d, tk, os⟩ →
        wpAny (model prog w) A' (pyIter (.ref l)) Q E ⟨hp, g, d, tk, os⟩ := fun q => wpAny_pyIter_tuple (s := ⟨hp, g, d, tk, os⟩) hL q
    wp_walk using q1
    refine wpAny_stack_any fun st => wpAny_pure ?_
    split
    · rename_i c _ _ _ _ _
      cases (c == Value.type "enumerate")
      · wp_walk using q1
        exact ⟨_, rfl, h⟩
      · wp_walk using q1
        exact ⟨_, rfl, h⟩
    · wp_walk using q1
      exact ⟨_, rfl, h⟩
section
variable {prog : Program} {w : World} {A : Around} {E : Value → Shared → Prop} {s : Shared}
theorem call_enum_tup {l : Addr} {items : Array Value} {Q : Value → Shared → Prop} (hL : s.heap.IsTuple l items)
    (h : ∀ h', IsEnum h' (s.heap.objs.size + 1) s.heap.objs.size 0 .none → h'.IsTupleIter s.heap.objs.size l 0 → h'.objs.size = s.heap.objs.size + 2 →
      (∀ b o, s.heap.get? b = some o → h'.get? b = some o) → Q (.ref (s.heap.objs.size + 1)) { s with heap := h' }) : wpAny (model prog w) A (call (.type "enumerate") [.ref l]) Q E s := by
  refine callType_new F.called_enumerate (by decide) (F.typeCall_enumerate_1 _) (F.newCall_enumerate_1 _) (fun obj => F.args_object_init_2 obj _) F.entry_enumerate_new (meets_enum_tup l items) ⟨hL, ?_⟩
  have hz : (s.heap.push { cls := .type "tuple_iterator", data := .fields #[.ref l, .int 0 0] }).objs.size = s.heap.objs.size + 1 := Heap.size_push ..
  show _ ∧ _
  rw [hz]
  have he := Heap.get?_push_size (s.heap.push { cls := .type "tuple_iterator", data := .fields #[.ref l, .int 0 0] }) (o := { cls := .type "enumerate", data := .fields #[.none, .bool false, .ref s.heap.objs.size, rawInt 0, .none, .none] }) rfl
  rw [hz] at he
  refine ⟨⟨_, he, rfl⟩, h _ he ⟨_, Heap.get?_push_of_some _ (Heap.get?_push_size _ rfl), rfl, rfl⟩ ?_ fun b o x => Heap.get?_push_of_some _ (Heap.get?_push_of_some _ x)⟩
  rw [Heap.size_push, hz]
end
/-- the tuple at a, each item in a new pair -/
def IteT (K : PySem.W.Frag) (a : Addr) : It :=
  ⟨fun i H => ∃ (xs : List V) (x : V), SqT K H a xs ∧ xs[i]? = some x,
   fun i H v H' => ∃ T x, v = .ref T ∧ H T = none ∧ H' = upd H T (.tup [.int (i : Nat), x]) ∧ ∀ xs, SqT K H a xs → xs[i]? = some x,
   fun i H => ∃ xs : List V, SqT K H a xs ∧ xs.length = i⟩
theorem turn_enumT {P : Program} {w : World} {K : PySem.W.Frag} {elts : List Expr} {kk : Nat} {tpos : Pos} (a e it : Addr) (hai : a ≠ it) (hae : a ≠ e) :
    Turn P w K (.Tuple elts kk tpos) (IteT K a) [e, it] e (fun i h => (∃ old, IsEnum h e it ((i : Nat) : Int) old) ∧ h.IsTupleIter it a i ∧ e ≠ it) where
  mem := by simp
  obj := fun i h st b hb => by
    obtain ⟨⟨old, he⟩, ⟨o, ho, hc, hd⟩, _⟩ := st
    have e' : b = e ∨ b = it := by simpa using hb
    rcases e' with z | z
    · rw [z]
      exact ⟨_, he, fun v q => nomatch q⟩
    · rw [z]
      exact ⟨o, ho, fun v q => by
        rw [hd] at q
        cases q⟩
  keep := fun i h h' st k => by
    obtain ⟨⟨old, he⟩, hi, hne⟩ := st
    exact ⟨⟨old, k e (by simp) _ he⟩, hi.at fun o q => k it (by simp) o q, hne⟩
  item := by
    intro X hP hw hK hc i pins s σ H E I hf st hg
    subst hP hw hK
    obtain ⟨⟨old, he⟩, hit, hne⟩ := st
    obtain ⟨xs, x, hq, hx⟩ := hg
    obtain ⟨its, rv, p, hz⟩ := I.tuple hq
    obtain ⟨u, hu, ru⟩ := rv.get hx
    have hel : e < s.heap.objs.size := Heap.lt_size he
    have hil : it < s.heap.objs.size := by
      obtain ⟨_, q, _⟩ := hit
      exact Heap.lt_size q
    have hA : X.A.in1.handled = none := I.ok.hd hc
    have hisz : i < its.toArray.size := by
      have := (List.getElem?_eq_some_iff.mp hu).1
      simpa using this
    have pT : s.heap.IsTuple a its.toArray := p
    refine wpAny_pyNext_enum_itemC (Draws.tuple hA it a hai its.toArray) he ⟨hit, pT⟩ hisz hne (by simp [hne, hae.symm]) fun x' h' tk hPx ho hst hT hsz hk => ?_
    have ex : x' = u := by
      rw [List.getElem?_toArray, hu] at hPx
      exact (Option.some.inj hPx).symm
    subst ex
    refine ⟨_, rfl, wpAny_letOwnedTupleGo_enum (s := { s with heap := h', toks := tk + 1 }) ho fun h'' he' sb => ?_⟩
    have hT2 := (sb.2 _ (Nat.ne_of_gt hel)).trans hT
    have new : ObjOk X.prog X.w (upd H s.heap.objs.size (.tup [.int (i : Nat), x])) h'' s.heap.objs.size (.tup [.int (i : Nat), x]) := by
      refine ⟨by show 2 ≤ sizeLine; decide, [.int i tk, x'], .cons ⟨_, rfl⟩ (.cons ru .nil), ?_⟩
      exact ⟨_, hT2, rfl, _, rfl⟩
    have I1 : Inv X pins σ (upd H s.heap.objs.size (.tup [.int (i : Nat), x])) { s with heap := h'', toks := tk + 1 } := by
      refine I.turnedNew (ch := [e, it]) (fun b ob hb q => ?_) hf (Nat.le_refl _) new
      have b1 : b ≠ e := fun z => hb (by simp [z])
      have b2 : b ≠ it := fun z => hb (by simp [z])
      exact (sb.2 b b1).trans (hk b ob b1 b2 q)
    refine ⟨.ref s.heap.objs.size, _, I1, rfl, ⟨_, x, rfl, I.hok.fresh (Nat.le_refl _), rfl, fun ys hy => ?_⟩, ⟨⟨x', ?_⟩, ?_, hne⟩, fun b hb => ?_⟩
    · rw [I.tuple_inj hy hq]
      exact hx
    · have e1 : ((i + 1 : Nat) : Int) = (i : Int) + 1 := by omega
      rw [e1]
      exact he'
    · exact hst.1.at fun o q => (sb.2 it (Ne.symm hne)).trans q
    · have hb' : b < s.heap.objs.size := by
        have e' : b = e ∨ b = it := by simpa using hb
        rcases e' with z | z
        · rw [z]
          exact hel
        · rw [z]
          exact hil
      rw [upd_ne (Nat.ne_of_lt hb')]
      exact (hf b hb).1
  done := by
    intro X hP hw hK hc i pins s σ H E I hf st hg
    subst hP hw hK
    obtain ⟨⟨old, he⟩, hit, hne⟩ := st
    obtain ⟨xs, hq, hx⟩ := hg
    obtain ⟨its, rv, p, hz⟩ := I.tuple hq
    have pT : s.heap.IsTuple a its.toArray := p
    have hl := rv.length
    have hA : X.A.in1.handled = none := I.ok.hd hc
    have ei : its.toArray.size = i := by
      rw [List.size_toArray, ← hl]
      exact hx
    obtain ⟨f0, f1, f2, f3, f4, f5⟩ := hf it (by simp)
    subst ei
    exact wpAny_pyNext_enum_endD (Draws.tuple hA it a hai its.toArray) he ⟨hit, pT⟩ fun h' eb => ⟨rfl, I.turned (t' := s.toks) (fun b o hb q => eb b o hb q) f0 f1 f3 f4 f5⟩
  self := fun A i s Q E st h => by
    obtain ⟨⟨_, he⟩, _⟩ := st
    exact wpAny_pyIter_enum he h
def iEnumT (K : PySem.W.Frag) (ta : TA) : TI := fun σ H R => ta σ H fun vs H1 => ∃ a xs, vs = [.ref a] ∧ SqT K H1 a xs ∧ R (IteT K a) H1
theorem pi_enumT {X : Cx} {e : Expr} {ta : TA} {p pos tpos : Pos} {elts : List Expr} {kk : Nat} (hg : Gl X "enumerate") (hm : X.mg "enumerate" = none) (ha : PA X [e] ta)
    (hs : starEach [e] X.env = [(false, eval e X.env)] := by rfl) : PI X (.Tuple elts kk tpos) (.Call (.Name "enumerate" p) [e] [] pos) (iEnumT X.K ta) := by
  refine ⟨fun pins s σ H R I h => ?_⟩
  refine Call_ (ld_blt I hg hm boot_enumerate (PyProof.Rows.callWith_type1 (thn (ha.run pos pins s σ H _ I h) fun us s1 z => ?_) hs rfl))
  obtain ⟨vs, H1, I1, r1, a, xs, ex, hq, q⟩ := z
  subst ex
  cases r1 with
  | cons r rr =>
    cases rr
    cases r
    obtain ⟨its, rv, p', hz⟩ := I1.tuple hq
    have pT : s1.heap.IsTuple a its.toArray := p'
    have hlt : a < s1.heap.objs.size := p'.lt
    refine call_enum_tup pT fun h' he hit hsz hk => wpAny_pyIter_enum he ?_
    have I2 : Inv X pins σ H1 { s1 with heap := h' } := I1.kept (t' := s1.toks) hk
    refine ⟨s1.heap.objs.size + 1, [s1.heap.objs.size + 1, s1.heap.objs.size], _, _, H1, rfl, I2,
      turn_enumT a (s1.heap.objs.size + 1) s1.heap.objs.size (Nat.ne_of_lt hlt) (Nat.ne_of_lt (Nat.lt_succ_of_lt hlt)), ⟨⟨.none, he⟩, hit, Nat.succ_ne_self _⟩, fun b hb => ?_, q⟩
    have e' : b = s1.heap.objs.size + 1 ∨ b = s1.heap.objs.size := by simpa using hb
    have hle : s1.heap.objs.size ≤ b := by
      rcases e' with z | z
      · rw [z]
        exact Nat.le_add_right _ _
      · rw [z]
        exact Nat.le_refl _
    exact I1.fpOk hle (I1.hok.fresh hle)
theorem walk_enumT {K : PySem.W.Frag} {a : Addr} {xs : List V} : Walk (IteT K a) xs.length (fun H => SqT K H a xs) (YPair (fun i => some (.int (i : Nat))) (fun i => xs[i]?)) := by
  refine ⟨fun i _ hi q => ⟨xs, xs[i], q, by simp [hi]⟩, fun _ q => ⟨xs, q, rfl⟩, fun i H v H' _ q y => ?_⟩
  obtain ⟨T, x, h1, h2, h3, h4⟩ := y
  exact ⟨T, .int (i : Nat), x, h1, h2, h3, rfl, h4 xs q⟩
end KW
end
section
set_option Elab.async false
set_option linter.all false
set_option maxRecDepth 100000
set_option maxHeartbeats 4000000
/-! KS: set(t) of a tuple of texts, and sorted of such a set: some arrangement of its members. -/
namespace KW
open PySem PySem.Spec PyProof.Rows L2

/-- the text of an entry -/
def tOf (v : Value) : Str := match v with
  | .str x _ => x
  | _ => Str.empty
def TxE (w : World) (e : Int × Value) : Prop := ∃ x u, e = (hashStr w x, Value.str x u)
/-- with one more member -/
def addL (l : List Str) (x : Str) : List Str := if x ∈ l then l else x :: l
theorem addL_nodup {l : List Str} {x : Str} (h : l.Nodup) : (addL l x).Nodup := by
  unfold addL
  split
  · exact h
  · rename_i n
    exact List.nodup_cons.2 ⟨n, h⟩
theorem addL_mem {l : List Str} {x y : Str} : y ∈ addL l x ↔ y ∈ l ∨ y = x := by
  unfold addL
  split
  · rename_i n
    constructor
    · exact .inl
    · rintro (h | h)
      · exact h
      · rw [h]
        exact n
  · rw [List.mem_cons, Or.comm]
theorem addL_len {l : List Str} {x : Str} : (addL l x).length ≤ l.length + 1 := by
  unfold addL
  split
  · exact Nat.le_succ _
  · exact Nat.le_refl _
/-- the members of a list, each once -/
def dd (l : List Str) : List Str := l.foldl addL []
theorem dd_snoc (l : List Str) (x : Str) : dd (l ++ [x]) = addL (dd l) x := by
  unfold dd
  rw [List.foldl_append]
  rfl
theorem dd_all (l : List Str) : (dd l).Nodup ∧ (∀ y, y ∈ dd l ↔ y ∈ l) ∧ (dd l).length ≤ l.length := by
  have : ∀ (l acc : List Str), acc.Nodup → (l.foldl addL acc).Nodup ∧ (∀ y, y ∈ l.foldl addL acc ↔ y ∈ acc ∨ y ∈ l) ∧ (l.foldl addL acc).length ≤ acc.length + l.length := by
    intro l
    induction l with
    | nil => intro acc h; exact ⟨h, fun y => by simp, Nat.le_refl _⟩
    | cons a l ih =>
      intro acc h
      obtain ⟨h1, h2, h3⟩ := ih (addL acc a) (addL_nodup h)
      refine ⟨h1, fun y => ?_, ?_⟩
      · rw [List.foldl_cons, h2, addL_mem, List.mem_cons, or_assoc]
      · have := addL_len (l := acc) (x := a)
        rw [List.foldl_cons, List.length_cons]
        omega
  obtain ⟨h1, h2, h3⟩ := this l [] List.nodup_nil
  refine ⟨h1, fun y => (h2 y).trans (by simp), ?_⟩
  have h4 : (dd l).length ≤ ([] : List Str).length + l.length := h3
  rw [List.length_nil, Nat.zero_add] at h4
  exact h4

/-- the set at a has the members l -/
def SetX (w : World) (h : Heap) (a : Addr) (l : List Str) : Prop :=
  ∃ o es ep t, h.get? a = some o ∧ o.ExactSet ∧ o.data = .set es ep t ∧ (∀ e, e ∈ es.toList → TxE w e) ∧ (es.toList.map fun e => tOf e.2).Perm l ∧ l.Nodup ∧
    es.size < scanBound ∧ t.fits es.size = true ∧ Ris t.place.toList ∧ (w.params.followText "set-order" = true ∨ t.led = true)
theorem SetX.keep {w : World} {h h' : Heap} {a : Addr} {l : List Str} (R : SetX w h a l) (k : ∀ o, h.get? a = some o → h'.get? a = some o) : SetX w h' a l := by
  obtain ⟨o, es, ep, t, ho, r⟩ := R
  exact ⟨o, es, ep, t, k o ho, r⟩
section
variable {P : Program} {w : World} {A : Around} {E : Value → Shared → Prop} {s : Shared} {a : Addr}
theorem tx_is (x : Str) (u : Tok) : (PySem.strKind P w).is x (.str x u) = true := by
  show Value.isStrOf x (.str x u) = true
  simp [Value.isStrOf]
theorem tx_elems {l : List (Int × Value)} (g : ∀ e, e ∈ l → TxE w e) : ElemsOf (PySem.strKind P w) l := fun e he => by
  obtain ⟨x, u, rfl⟩ := g e he
  exact ⟨⟨x, tx_is x u, rfl⟩, rfl⟩
theorem tx_at {l : List (Int × Value)} (g : ∀ e, e ∈ l → TxE w e) (x : Str) : (∃ e, e ∈ l ∧ (PySem.strKind P w).is x e.2 = true) ↔ x ∈ l.map fun e => tOf e.2 := by
  rw [List.mem_map]
  constructor
  · rintro ⟨e, he, q⟩
    obtain ⟨y, u, rfl⟩ := g e he
    obtain ⟨t, z⟩ := Value.isStrOf_shape (x := x) (v := Value.str y u) q
    refine ⟨_, he, ?_⟩
    injection z
  · rintro ⟨e, he, q⟩
    obtain ⟨y, u, rfl⟩ := g e he
    have q' : y = x := q
    subst q'
    exact ⟨_, he, tx_is y u⟩

theorem setX_tail {g : Bool → Sem Unit} (hg : ∀ (b : Bool) (s₁ : Shared) (Q' : Unit → Shared → Prop), Q' () s₁ → wpAny (model P w) A (g b) Q' E s₁)
    {o : Obj} {es : Array (Int × Value)} {ep : Nat} {t : SetTable} (ho : s.heap.get? a = some o) (hex : o.ExactSet) (hd : o.data = .set es ep t)
    {es1 : Array (Int × Value)} {t2 : SetTable} {l : List Str} (g1 : ∀ e, e ∈ es1.toList → TxE w e) (p1 : (es1.toList.map fun e => tOf e.2).Perm l) (nd : l.Nodup)
    (hb1 : es1.size < scanBound) (hf2 : t2.fits es1.size = true) (hr : Ris t2.place.toList) (hl : w.params.followText "set-order" = true ∨ t2.led = true) {wasDummy : Bool} {R : Option Bool → Shared → Prop}
    (hR : ∀ h', Heap.SameBut a s.heap h' → SetX w h' a l → R (some true) { s with heap := h' }) :
    wpAny (model P w) A (do
        storeSet a es1 t2
        if (!wasDummy && t2.tooFull) = true then do
            g (relayAll t2 es1 (SetTable.grown es1.size)).2.2
            storeSet a (relayAll t2 es1 (SetTable.grown es1.size)).1 (relayAll t2 es1 (SetTable.grown es1.size)).2.1
            pure (some true)
          else pure (some true)) R E s := by
  refine wpAny_bind (wpAny_storeSet_of ho hd ?_ (fits_of_scanBound hb1))
  have ho1 := store_at (es' := es1) (t' := t2) ho hd
  have sb1 := Heap.SameBut.update s.heap a (Obj.putSet es1 t2)
  split
  · have pm := relayAll_perm t2 es1 (SetTable.grown es1.size)
    have q1 := relayAll_fits t2 es1 (SetTable.grown es1.size)
    have q2 := relayAll_ris t2 es1 (SetTable.grown es1.size)
    have q3 := relayAll_led t2 es1 (SetTable.grown es1.size)
    generalize relayAll t2 es1 (SetTable.grown es1.size) = Z at pm q1 q2 q3 ⊢
    obtain ⟨es2, t3, gave⟩ := Z
    dsimp only at pm q1 q2 q3 ⊢
    have hsz : es2.size = es1.size := by rw [← Array.length_toList, pm.length_eq, Array.length_toList]
    have hb2 : es2.size < scanBound := by
      rw [hsz]
      exact hb1
    refine wpAny_bind (hg _ _ _ (wpAny_bind (wpAny_storeSet_of ho1 rfl ?_ (fits_of_scanBound hb2))))
    have ho2 := store_at (es' := es2) (t' := t3) ho1 rfl
    refine wpAny_pure (hR _ (sb1.trans (Heap.SameBut.update _ a _)) ⟨_, es2, _, t3, ho2, hex, rfl, fun e he => g1 e (pm.mem_iff.mp he), (pm.map _).trans p1, nd, hb2, q1, q2, ?_⟩)
    exact hl.imp id fun z => by
      rw [q3]
      exact z
  · exact wpAny_pure (hR _ sb1 ⟨_, es1, _, t2, ho1, hex, rfl, g1, p1, nd, hb1, hf2, hr, hl⟩)

theorem setX_add {x : Str} {u : Tok} {l : List Str} {Q : Bool → Shared → Prop} (R : SetX w s.heap a l) (room : l.length + 1 < scanBound)
    (hQ : ∀ b h', Heap.SameBut a s.heap h' → SetX w h' a (addL l x) → Q b { s with heap := h' }) : wpAny (model P w) A (setAddHashed a (.str x u) ((PySem.strKind P w).hash x)) Q E s := by
  obtain ⟨o, es, ep, t, ho, hex, hd, g, pl, nd, hb, hf, hr, hl⟩ := R
  have hkey : (PySem.strKind P w).is x (.str x u) = true := tx_is x u
  have hsc : (Value.str x u).scannable = true := rfl
  have hel : ElemsOf (PySem.strKind P w) es.toList := tx_elems g
  unfold setAddHashed setAddHashedIn
  refine wpAny_holding (wpAny_bind (wpAny_setState_of ho hd hf ?_))
  dsimp only
  rw [byScan_of hsc hb hel]
  simp only [↓reduceIte]
  unfold setAddByScan
  refine wpAny_bind (wpAny_bind (wpAny_rule (wpAny_bind (wpAny_setScan_of hkey ho hd hf hel ?_))))
  cases hfi : List.findIdx? (fun e => (PySem.strKind P w).is x e.2) es.toList with
  | some j =>
    dsimp only
    obtain ⟨hj, pj, _⟩ := List.findIdx?_eq_some_iff_getElem.mp hfi
    have hx : x ∈ l := pl.mem_iff.1 ((tx_at (P := P) g x).1 ⟨_, List.getElem_mem hj, pj⟩)
    refine wpAny_pure (wpAny_pure (hQ _ s.heap (Heap.SameBut.refl a s.heap) ?_))
    unfold addL
    rw [if_pos hx]
    exact ⟨o, es, ep, t, ho, hex, hd, g, pl, nd, hb, hf, hr, hl⟩
  | none =>
    dsimp only
    have hx : x ∉ l := fun z => by
      obtain ⟨e, he, q⟩ := (tx_at (P := P) g x).2 (pl.mem_iff.2 z)
      have c := List.findIdx?_eq_none_iff.mp hfi e he
      rw [q] at c
      cases c
    have hgw : ∀ (b : Bool) {s₁ : Shared} {Q' : Unit → Shared → Prop}, Q' () s₁ → wpAny (model P w) A (match b with
        | true => rule "set.scan.the-table-gave-way"
        | false => pure ()) Q' E s₁ := fun b s₁ Q' q => by
      cases b
      · exact wpAny_pure q
      · exact wpAny_rule q
    have pm := layNew_perm t es ((PySem.strKind P w).hash x) (.str x u)
    have q1 := layNew_fits t es ((PySem.strKind P w).hash x) (.str x u)
    have q2 := layNew_ris t es ((PySem.strKind P w).hash x) (.str x u) hr
    have q3 := layNew_led t es ((PySem.strKind P w).hash x) (.str x u)
    generalize layNew t es ((PySem.strKind P w).hash x) (.str x u) = Z at pm q1 q2 q3 ⊢
    obtain ⟨es1, t1, wasDummy, gave⟩ := Z
    dsimp only at pm q1 q2 q3 ⊢
    rw [Array.toList_push] at pm
    have pc : es1.toList.Perm (((PySem.strKind P w).hash x, Value.str x u) :: es.toList) := pm.trans (List.perm_append_singleton _ _)
    have g1 : ∀ e, e ∈ es1.toList → TxE w e := fun e he => by
      rcases List.mem_cons.mp (pc.mem_iff.mp he) with z | z
      · exact ⟨x, u, z⟩
      · exact g e z
    have p1 : (es1.toList.map fun e => tOf e.2).Perm (x :: l) := by
      have c1 := pc.map fun e => tOf e.2
      rw [List.map_cons] at c1
      exact c1.trans (pl.cons x)
    have hsz : es1.size = es.size + 1 := by rw [← Array.length_toList, pc.length_eq, List.length_cons, Array.length_toList]
    have hes : es.size = l.length := by
      have := pl.length_eq
      rw [List.length_map, Array.length_toList] at this
      exact this
    have hb1 : es1.size < scanBound := by
      rw [hsz, hes]
      exact room
    have hled : w.params.followText "set-order" = true ∨ t1.led = true := hl.imp id fun z => by
      rw [q3]
      exact z
    have fin : ∀ h', Heap.SameBut a s.heap h' → SetX w h' a (x :: l) → Q true { s with heap := h' } := fun h' sb r => hQ true h' sb (by
      unfold addL
      rw [if_neg hx]
      exact r)
    have ndx : (x :: l).Nodup := List.nodup_cons.2 ⟨hx, nd⟩
    refine wpAny_bind (hgw _ ?_)
    split
    · refine wpAny_bind ?_
      rw [hashByValue_scannable 8 hsc]
      refine wpAny_pure (setX_tail ?_ ho hex hd g1 p1 ndx hb1 ?_ ?_ ?_ ?_)
      · intro b s₁ Q' q
        cases b
        · exact wpAny_pure q
        · exact wpAny_rule q
      · first | (split <;> first | exact q1 | exact SetTable.fits_plain_off q1) | exact q1
      · first | (split <;> exact q2) | exact q2
      · first | (split <;> exact hled) | exact hled
      · intro h' sb r
        dsimp only
        exact wpAny_pure (fin h' sb r)
    · refine wpAny_bind (wpAny_pure ?_)
      simp only [↓reduceIte]
      refine setX_tail ?_ ho hex hd g1 p1 ndx hb1 q1 q2 hled ?_
      · intro b s₁ Q' q
        cases b
        · exact wpAny_pure q
        · exact wpAny_rule q
      · intro h' sb r
        dsimp only
        exact wpAny_pure (fin h' sb r)

theorem setX_update {I : Addr} {fp wr : List Addr} {G : Array GenState → Array GenState → Prop} {n : Nat} {Pv : Nat → Value → Prop} {St : Nat → Shared → Prop} {R : Result → Shared → Prop}
    (W : WalksS P w A.in1 I fp wr G n Pv St) (S : Addr) (hSf : S ∉ fp) (xs : List Str) (hn : n = xs.length) (hb : xs.length + 1 < scanBound) (hval : ∀ i v, Pv i v → ∃ x t, xs[i]? = some x ∧ v = .str x t) :
    ∀ (k i : Nat) (s : Shared), n - i = k → i ≤ n → St i s → SetX w s.heap S (dd (xs.take i)) →
      (∀ s', Moved (S :: wr) G s s' → SetX w s'.heap S (dd xs) → R (.ok (.ret .none)) s') →
      codeAny (model P w) A (.builtin "set.update.loop" ⟨[.ref S, .ref I], []⟩) R s := by
  have hSw : S ∉ wr := fun h => hSf (W.sub _ h)
  have hsub : ∀ b ∈ wr, b ∈ S :: wr := fun b hb => List.mem_cons_of_mem _ hb
  intro k
  induction k with
  | zero =>
    intro i s hk' hi hst hS hR
    obtain rfl : i = n := by omega
    refine codeAny_builtin F.entry_set_update_loop ?_
    rw [Around.under_plainId F.plain_set_update_loop _]
    show wpAny _ A.in1 (pyNext (.ref I) >>= _) _ _ s
    refine wpAny_bind (W.done s _ _ hst fun s' hm => ?_)
    show wpAny _ A.in1 (ret Value.none) _ _ s'
    have e : xs.take i = xs := List.take_of_length_le (by omega)
    rw [e] at hS
    exact wpAny_pure (hR s' (hm.mono hsub) (hS.keep fun o e => hm.heap S o hSw e))
  | succ k ih =>
    intro i s hk' hi hst hS hR
    have hlt : i < n := by omega
    refine codeAny_builtin F.entry_set_update_loop ?_
    rw [Around.under_plainId F.plain_set_update_loop _]
    show wpAny _ A.in1 (pyNext (.ref I) >>= _) _ _ s
    refine wpAny_bind (W.item i s _ _ hlt hst fun v s' hP hst' hm => ?_)
    obtain ⟨x, t, hz, rfl⟩ := hval i v hP
    have hS' : SetX w s'.heap S (dd (xs.take i)) := hS.keep fun o e => hm.heap S o hSw e
    show wpAny _ A.in1 (holding [Value.str x t] (setAdd S (.str x t)) >>= _) _ _ s'
    refine wpAny_bind (wpAny_holding ?_)
    unfold setAdd
    refine wpAny_holding (wpAny_bind ((PySem.strKind P w).pyHash (k := x) (tx_is x t) ?_))
    have hroom : (dd (xs.take i)).length + 1 < scanBound := by
      have := (dd_all (xs.take i)).2.2
      rw [List.length_take] at this
      omega
    refine setX_add (s := { s' with toks := s'.toks + 1 }) hS' hroom fun b h' hsb hS2 => ?_
    have hS3 : SetX w h' S (dd (xs.take (i + 1))) := by
      rw [List.take_add_one, hz]
      show SetX w h' S (dd (xs.take i ++ [x]))
      rw [dd_snoc]
      exact hS2
    refine wpAny_pure ⟨plainId_quiet F.plain_set_update_loop _, ih (i + 1) _ (by omega) hlt (W.frame _ s' _ _ hst' (Nat.le_succ _) fun b hb o e => ?_) hS3 fun s'' hm'' hS'' => ?_⟩
    · rw [hsb.2 b (fun h : b = S => hSf (by rw [← h]; exact hb))]
      exact e
    · refine hR s'' (Moved.trans W.gtrans ((hm.mono hsub).then_heap (Nat.le_succ _) fun b o hb e => ?_) hm'') hS''
      rw [hsb.2 b (fun h : b = S => hb (by rw [h]; exact List.mem_cons_self))]
      exact e

abbrev newSet (w : World) : Obj := { cls := .type "set", dict := none, data := .set #[] 0 (.fresh 0 0 (!w.params.followText "set-order")) }
theorem setX_nil {h : Heap} (ho : h.get? a = some (newSet w)) : SetX w h a [] := by
  refine ⟨_, #[], 0, _, ho, ⟨rfl, rfl, rfl⟩, rfl, fun e he => by simp at he, List.Perm.refl _, List.nodup_nil, by decide, by rfl, List.Pairwise.nil, ?_⟩
  show _ ∨ (!w.params.followText "set-order") = true
  cases w.params.followText "set-order"
  · exact .inr rfl
  · exact .inl rfl
theorem strs_get : ∀ {us : List Value} {xs : List Str}, Vals (xs.map V.str) us → ∀ (i : Nat) (v : Value), us[i]? = some v → ∃ x t, xs[i]? = some x ∧ v = .str x t
  | [], [], _, i, v, h => by simp at h
  | u :: us, x :: xs, .cons r _, 0, v, h => by
    obtain ⟨t, e⟩ := r
    simp only [List.getElem?_cons_zero, Option.some.injEq] at h
    exact ⟨x, t, rfl, h ▸ e⟩
  | u :: us, x :: xs, .cons _ r, i + 1, v, h => strs_get r i v h

set_option maxHeartbeats 8000000 in
theorem call_set_tupX {l : Addr} {items : Array Value} (xs : List Str) {Q : Value → Shared → Prop} (hh : A.handled = none) (hl : s.heap.IsTuple l items) (hsz0 : items.size = xs.length)
    (hit : ∀ (i : Nat) (v : Value), items[i]? = some v → ∃ x t, xs[i]? = some x ∧ v = .str x t) (hb : xs.length + 1 < scanBound)
    (h : ∀ (h' : Heap) (tk : Nat), SetX w h' s.heap.objs.size (dd xs) → (∀ b o, s.heap.get? b = some o → h'.get? b = some o) → Q (.ref s.heap.objs.size) { s with heap := h', toks := tk }) :
    wpAny (model P w) A (call (.type "set") [.ref l]) Q E s := by
  obtain ⟨c, tl, hmro⟩ := F.called_set.mro
  have hmade := F.called_set.made
  have hsub := F.called_set.sub
  refine wpAny_call (codeAny_of_tree ?_)
  show wpAny _ _ (callAny (.type "set") _) _ _ _
  refine wpAny_pure ⟨Code.quiet_builtin _ (by decide +kernel), codeAny_builtin F.entry_type_call ?_⟩
  rw [Around.under_plain (weight_type_call_type "set" [.ref l] []) rfl]
  have h1 := F.called_set.notType
  have h2 := F.called_set.canCreate
  have hct := F.typeCall_set_1 (.ref l)
  repeat (any_goals (first | assumption | wp_step))
  refine codeAny_mono (code_set_led1 (.ref l) (E := E) (Q₁ := fun obj z => obj = .ref s.heap.objs.size ∧ z = { s with heap := s.heap.push (newSet w) }) ⟨rfl, rfl⟩) fun r s₁ hr => ?_
  cases r with
  | error e => exact hr
  | ok fl =>
    cases fl with
    | ret obj =>
      obtain ⟨rfl, rfl⟩ := hr
      have hS : (s.heap.push (newSet w)).get? s.heap.objs.size = some (newSet w) := Heap.get?_push_size _ rfl
      have hT : Shared.TypeIs { s with heap := s.heap.push (newSet w) } (.ref s.heap.objs.size) "set" := ⟨_, hS, rfl⟩
      have hli := F.called_set.init.lookup
      have hbi := F.called_set.init.bind (.ref s.heap.objs.size)
      repeat (any_goals (first | assumption | wp_step))
      refine codeAny_mono (codeAny_call_builtin (R := wants (fun r z => r = .none ∧ ∃ h' tk, z = { s with heap := h', toks := tk } ∧ SetX w h' s.heap.objs.size (dd xs) ∧ (∀ b o, s.heap.get? b = some o → h'.get? b = some o)) E)
        F.called_set.init.plain F.entry_set_init (check_set_init_1 hT ?_)) fun r₂ s₂ hr₂ => ?_
      · obtain ⟨ol, hol, hcl, nl, hdl⟩ := hl
        obtain ⟨ocls, odict, odata, oslots⟩ := ol
        simp only at hcl hdl
        subst hcl hdl
        have hol' : (s.heap.push (newSet w)).get? l = some { cls := .type "tuple", dict := odict, data := .seq items nl, slots := oslots } := Heap.get?_push_of_some _ hol
        have hsls := F.sub_tuple_set
        have hslf := F.sub_tuple_frozenset
        have hne : (Value.type "tuple" == Value.type "dict") = false := by decide
        have hl1 : (s.heap.push (newSet w)).IsTuple l items := ⟨_, hol', rfl, nl, rfl⟩
        unfold Builtin.«set.__init__» noKeywords Builtin.Frozenset.updateFrom
        generalize hPI : pyIter = PI
        wp_walk
        subst hPI
        refine wpAny_pyIter_tuple hl1 (wpAny_bind (wpAny_runValue ?_))
        have hlS : l < s.heap.objs.size := Heap.lt_size hol
        have hh3 : A.in1.in1.in1.handled = none := by simp [hh]
        have zS : (s.heap.push (newSet w)).objs.size = s.heap.objs.size + 1 := Heap.size_push ..
        have hneI : l ≠ (s.heap.push (newSet w)).objs.size := by
          rw [zS]
          exact Nat.ne_of_lt (Nat.lt_succ_of_lt hlS)
        have hSf : s.heap.objs.size ∉ [(s.heap.push (newSet w)).objs.size, l] := by
          rw [zS]
          simp only [List.mem_cons, List.mem_singleton, List.not_mem_nil, or_false, not_or]
          exact ⟨Nat.ne_of_lt (Nat.lt_succ_self _), Nat.ne_of_gt hlS⟩
        refine setX_update ((Walks.tuple hh3 _ l hneI items).toS) s.heap.objs.size hSf xs hsz0 hb hit (items.size - 0) 0 _ (by omega) (Nat.zero_le _) ⟨⟨_, Heap.get?_push_size _ rfl, rfl, rfl⟩, (hl1.push _)⟩ ?hS0 ?hR
        case hS0 => exact setX_nil (Heap.get?_push_of_some _ hS)
        case hR =>
          intro s' hm hS'
          obtain ⟨h', g2, d', tk', os'⟩ := s'
          have eg : g2 = s.gens := hm.gens
          have ed : d' = s.drawn := hm.drawn
          have eo : os' = s.os := hm.os
          subst eg ed eo
          show wpAny _ _ _ _ _ _
          refine wpAny_pure ?_
          show wpAny _ _ (ret Value.none) _ _ _
          refine wpAny_pure ⟨rfl, h', tk', rfl, hS', fun b o e => ?_⟩
          have hb0 : b < s.heap.objs.size := Heap.lt_size e
          refine hm.heap b o ?_ (Heap.get?_push_of_some _ (Heap.get?_push_of_some _ e))
          rw [zS]
          simp only [List.mem_cons, List.mem_singleton, List.not_mem_nil, or_false, not_or]
          exact ⟨Nat.ne_of_lt hb0, Nat.ne_of_lt (Nat.lt_succ_of_lt hb0)⟩
      · cases r₂ with
        | error e => exact hr₂
        | ok fl₂ =>
          cases fl₂ with
          | ret r =>
            obtain ⟨rfl, h', tk, rfl, hS', hk'⟩ := hr₂
            repeat (any_goals (first | assumption | wp_step))
            exact h _ _ hS' hk'
          | _ => exact hr₂.elim
    | _ => exact hr.elim

theorem sorted_setX {l : List Str} {Q : Value → Shared → Prop} (R : SetX w s.heap a l) (hh : A.handled = none) (h64 : l.length < 64)
    (hQ : ∀ s' p (out : Array Value) (c : Nat) (ss : List Str), (∀ b o, s.heap.get? b = some o → s'.heap.get? b = some o) → s'.gens = s.gens → s'.os = s.os → s.heap.objs.size ≤ p →
      s'.heap.get? p = some (seqObj "list" out c) → StrsAre out.toList ss → ss.Perm l → Q (.ref p) s') : wpAny (model P w) A (call (.builtin "sorted") [.ref a]) Q E s := by
  obtain ⟨o, es, ep, t, ho, hex, hd, g, pl, nd, hb, hf, hr, hl⟩ := R
  refine Calls.call_function_entry kind_sorted plain_sorted entry_sorted (args_sorted1 _) ?_
  unfold Builtin.«sorted»
  refine wpAny_bind (m := checkCount "sorted" 1 1 _) (wpAny_pure (wpAny_bind (collect_set (A := A.in1) hh ⟨o, ho, hex.1, hd⟩ hf hb hr hl fun s1 vs k1 hz g1 o1 pm => ?_)))
  have hvl : vs.length = l.length := by
    have := pl.length_eq
    rw [List.length_map] at this
    rw [pm.length_eq, List.length_map]
    exact this
  have pk : (vs.map tOf).Perm l := by
    have q := pm.map tOf
    rw [List.map_map] at q
    exact q.trans pl
  have hS : StrsAre vs (vs.map tOf) := by
    have all : ∀ v, v ∈ vs → ∃ x u, v = Value.str x u := fun v hv => by
      obtain ⟨e, he, q⟩ := List.mem_map.mp (pm.mem_iff.mp hv)
      obtain ⟨x, u, rfl⟩ := g e he
      exact ⟨x, u, q.symm⟩
    clear pm hvl pk
    induction vs with
    | nil => exact .nil
    | cons v vs ih =>
      obtain ⟨x, u, rfl⟩ := all v List.mem_cons_self
      exact .cons x u (ih fun y hy => all y (List.mem_cons_of_mem _ hy))
  refine wpAny_bind (wpAny_newList ?_ (by rw [hvl, sizeLine_eq]; omega))
  have hoL : (s1.heap.push (seqObj "list" vs.toArray 0)).get? s1.heap.objs.size = some (seqObj "list" vs.toArray 0) := Heap.get?_push_size _ rfl
  refine wpAny_bind (wpAny_holding (wpAny_call_entry slot_list_sort ⟨_, hoL, rfl⟩ entry_list_sort
    (list_sort_treeK strKind_oneLt hoL hS.keysOf (fun v₁ v₂ rest e => keyKind_strs (by rw [← e]; exact hS)) (by rw [hvl]; exact h64) fun st' hp hs => ⟨_, rfl, ?_⟩) (args_list_sort _)))
  obtain ⟨ss, a1, a2, a3⟩ := sorted_out_str hS hp hs
  obtain ⟨c, hc⟩ := sortedHeap_at (vs := vs) (out := (arrOf st').map (·.2)) hoL
  refine wpAny_pure ⟨_, rfl, hQ _ s1.heap.objs.size _ c ss (fun b u e => ?_) g1 o1 hz hc a1 (a2.trans pk)⟩
  have q := k1 b u e
  have hlt := Heap.lt_size q
  rw [sortedHeap_old (Nat.ne_of_lt hlt) (by rw [size_push']; exact Nat.lt_succ_of_lt hlt)]
  exact Heap.get?_push_of_some _ q
end

/-! ### as rules -/
def SetXO (w : World) (a : Addr) (l : List Str) : HO := .ext fun h => SetX w h a l
section
variable {X : Cx}
theorem setXO_new {P : Program} {w : World} {H : Hp} {h : Heap} {a : Addr} {l : List Str} (R : SetX w h a l) : ObjOk P w H h a (SetXO w a l) := by
  have ⟨o, _, _, _, ho, _⟩ := R
  exact ⟨R, ⟨o, ho⟩, fun h1 h2 p k => p.keep k⟩
/-- set(t) of a tuple of texts -/
def rSetOfS (K : PySem.W.Frag) (w : World) : List V → Hp → VK → Prop := fun vs H Q => ∃ (l : Addr) (xs : List Str), vs = [V.ref l] ∧ SqT K H l (xs.map V.str) ∧ xs.length < 60 ∧
  ∀ p, H p = none → Q (.ref p) (upd H p (SetXO w p (dd xs)))
theorem cr_setOfS (hc : X.calm = true) : CallR X (.type "set") (rSetOfS X.K X.w) := by
  intro pins s σ H vs us Q I r h
  obtain ⟨l, xs, rfl, hq, h60, q⟩ := h
  rw [Vals.ref1 r]
  obtain ⟨its, rv, p, hz⟩ := I.tuple hq
  have hl := rv.length
  rw [List.length_map] at hl
  refine call_set_tupX xs (I.ok.hd hc) (items := its.toArray) p (by rw [List.size_toArray, hl]) (fun i v e => strs_get rv i v (by simpa using e)) ?_ fun h' tk R k => ?_
  · have : (60 : Nat) + 1 < scanBound := by decide
    omega
  · exact ⟨.ref _, upd H s.heap.objs.size (SetXO X.w s.heap.objs.size (dd xs)), I.laid (t' := tk) k (Nat.le_refl _) (setXO_new R), rfl, q _ (I.hok.fresh (Nat.le_refl _))⟩
/-- sorted of such a set -/
def rSortedSX (w : World) : List V → Hp → VK → Prop := fun vs H Q => ∃ (a : Addr) (l : List Str), vs = [V.ref a] ∧ H a = some (SetXO w a l) ∧ l.length < 64 ∧
  ∀ (p : Addr) (ss : List Str), H p = none → ss.Perm l → Q (.ref p) (upd H p (.lst (ss.map V.str)))
theorem cr_sortedSS (hc : X.calm = true) : CallR X (.builtin "sorted") (rSortedSX X.w) := by
  intro pins s σ H vs us Q I r h
  obtain ⟨a, l, rfl, ha, h64, q⟩ := h
  rw [Vals.ref1 r]
  have R : SetX X.w s.heap a l := (I.hok a _ ha).1
  refine sorted_setX R (I.ok.hd hc) h64 fun s' p out c ss k hg ho hp hl hS pm => ?_
  have hlen : (ss.map V.str).length ≤ sizeLine := by
    rw [List.length_map, pm.length_eq]
    exact small64 h64
  have hn : H p = none := I.hok.fresh hp
  have new : ObjOk X.prog X.w (upd H p (.lst (ss.map V.str))) s'.heap p (.lst (ss.map V.str)) := ⟨hlen, out.toList, c, vals_of_strs hS, hl⟩
  have J : Inv X pins σ (upd H p (.lst (ss.map V.str))) { heap := s'.heap, gens := s'.gens, drawn := s'.drawn, toks := s'.toks, os := s.os } :=
    I.call (ch := []) (Un.laid k hp hn) (I.hok.laid k hp new) (by rw [hg]; exact I.bare) (fun _ z => nomatch z)
  obtain ⟨h1, g1, d1, t1, o1⟩ := s'
  obtain rfl : o1 = s.os := ho
  exact ⟨.ref p, _, J, rfl, q p ss hn pm⟩
end
end KW
end
section
set_option Elab.async false
set_option linter.all false
set_option maxRecDepth 100000
set_option maxHeartbeats 4000000
/-! KH: heaps that only grow, dicts over a list of kinds, what a growth is in the heap. -/
namespace KW
open PySem PySem.Spec PyProof.Rows L2

theorem _root_.L2.Same.knew {H : Hp} {p : Addr} {o : HO} (h : H p = none) : Same H (upd H p o) := fun b x e => by
  rw [upd_ne (ne_of_none e h)]
  exact e
theorem _root_.L2.Same.kput {H H' : Hp} {p : Addr} {o : HO} (e : Same H H') (h : H p = none) : Same H (upd H' p o) := fun b x q => by
  rw [upd_ne (ne_of_none q h)]
  exact e b x q
/-- a new object behind some others -/
theorem _root_.L2.Same.kadd {H H' : Hp} {p : Addr} {o : HO} (e : Same H H') (h : H' p = none) : Same H (upd H' p o) := e.trans (Same.knew h)
theorem _root_.L2.Same.ktup {K : PySem.W.Frag} {H H' : Hp} {a : Addr} {xs : List V} (e : Same H H') (h : SqT K H a xs) : SqT K H' a xs := by
  rcases h with (h | ⟨o, h⟩) | h
  · exact .inl (.inl (e _ _ h))
  · exact .inl (.inr ⟨o, e _ _ h⟩)
  · exact .inr h
theorem _root_.L2.Same.krd {H H' : Hp} {a : Addr} {u : HO} (e : Same H H') (h : Rd H a u) : Rd H' a u := by
  rcases h with h | ⟨o, h⟩
  · exact .inl (e _ _ h)
  · exact .inr ⟨o, e _ _ h⟩
theorem upd_ne' {H : Hp} {a b : Addr} {o u : HO} (h : H b = some u) (hn : H a = none) : upd H a o b = some u := by
  rw [upd_ne (ne_of_none h hn)]
  exact h
/-- what stands at an object of another kind stays -/
theorem upd_of {H : Hp} {a b : Addr} {o u x : HO} (h : H b = some u) (h' : H a = some x) (d : u ≠ x) : upd H a o b = some u := by
  rw [upd_ne (ne_of h h' d)]
  exact h

/-! ### texts in lists -/
theorem inV_str (x : Str) (xs : List Str) : inV (.str x) (xs.map V.str) = decide (x ∈ xs) := by
  induction xs with
  | nil => rfl
  | cons y ys ih =>
    have e1 : inV (.str x) ((y :: ys).map V.str) = ((y == x) || inV (.str x) (ys.map V.str)) := rfl
    rw [e1, ih]
    by_cases h : y = x
    · subst h
      simp
    · have h2 : (y == x) = false := beq_eq_false_iff_ne.2 h
      rw [h2, Bool.false_or]
      have h3 : ¬ x = y := fun e => h e.symm
      simp [List.mem_cons, h3]
theorem flat_str (xs : List Str) : (xs.map V.str).all flatV = true := by
  rw [List.all_map]
  exact List.all_eq_true.2 fun x _ => rfl
theorem get_map {α β : Type} {f : α → β} {l : List α} {i : Nat} {y : β} (h : (l.map f)[i]? = some y) : ∃ x, l[i]? = some x ∧ y = f x := by
  rw [List.getElem?_map] at h
  cases e : l[i]? with
  | none =>
    rw [e] at h
    cases h
  | some x =>
    rw [e] at h
    exact ⟨x, rfl, (Option.some.inj h).symm⟩
theorem take_next {α : Type} {l : List α} {i : Nat} {x : α} (h : l[i]? = some x) : l.take (i + 1) = l.take i ++ [x] := by
  rw [List.take_add_one, h]
  rfl
theorem not_mem_take {α : Type} {l : List α} (nd : l.Nodup) {i : Nat} {x : α} (h : l[i]? = some x) : x ∉ l.take i := fun m => by
  obtain ⟨j, hj, e⟩ := List.mem_take_iff_getElem.1 m
  obtain ⟨hi, e2⟩ := List.getElem?_eq_some_iff.1 h
  have : j = i := (List.getElem_inj nd).1 (e.trans e2.symm)
  omega

/-! ### dicts over a list of kinds -/
abbrev kvOf (ks : List Str) (f : Str → V) : List (Key × V) := ks.map fun k => ((Sum.inr k : Key), f k)
theorem kv_len (ks : List Str) (f : Str → V) : (kvOf ks f).length = ks.length := List.length_map _
theorem kv_cons (k : Str) (ks : List Str) (f : Str → V) : kvOf (k :: ks) f = ((Sum.inr k : Key), f k) :: kvOf ks f := rfl
theorem inr_ne {a b : Str} (h : ¬ a = b) : ¬ (Sum.inr a : Key) = Sum.inr b := fun e => h (Sum.inr.inj e)
theorem valV_kv : ∀ {ks : List Str} {f : Str → V} {k : Str}, k ∈ ks → valV (kvOf ks f) (Sum.inr k : Key) = some (f k)
  | a :: ks, f, k, h => by
    rw [kv_cons]
    by_cases e : a = k
    · subst e
      exact valV_pos rfl
    · rw [valV_neg (inr_ne e)]
      rcases List.mem_cons.1 h with z | z
      · exact absurd z.symm e
      · exact valV_kv z
theorem valV_no : ∀ {ks : List Str} {f : Str → V} {k : Str}, k ∉ ks → valV (kvOf ks f) (Sum.inr k : Key) = none
  | [], _, _, _ => rfl
  | a :: ks, f, k, h => by
    rw [kv_cons, valV_neg (inr_ne fun e => h (by rw [e]; exact List.mem_cons_self)), valV_no fun m => h (List.mem_cons_of_mem _ m)]
theorem valV_kv_some (ks : List Str) (f : Str → V) (k : Str) : (valV (kvOf ks f) (Sum.inr k : Key)).isSome = decide (k ∈ ks) := by
  by_cases h : k ∈ ks
  · rw [valV_kv h, decide_eq_true h]
    rfl
  · rw [valV_no h, decide_eq_false h]
    rfl
theorem kv_congr {ks : List Str} {f g : Str → V} (h : ∀ k, k ∈ ks → f k = g k) : kvOf ks f = kvOf ks g :=
  List.map_congr_left fun k hk => by rw [h k hk]
/-- one more kind -/
theorem putK_add {ks : List Str} {f : Str → V} {k : Str} {v : V} (h : k ∉ ks) : putK (kvOf ks f) (Sum.inr k : Key) v = kvOf (ks ++ [k]) (fun x => if x = k then v else f x) := by
  unfold putK
  rw [valV_any, valV_no h]
  show (if false = true then _ else _) = _
  rw [if_neg Bool.false_ne_true]
  show _ = (ks ++ [k]).map _
  rw [List.map_append]
  congr 1
  · exact kv_congr fun x hx => by
      rw [if_neg]
      intro e
      exact h (e ▸ hx)
  · show [((Sum.inr k : Key), v)] = [((Sum.inr k : Key), if k = k then v else f k)]
    rw [if_pos rfl]
/-- another value for a kind -/
theorem putK_set {ks : List Str} {f : Str → V} {k : Str} {v : V} (h : k ∈ ks) : putK (kvOf ks f) (Sum.inr k : Key) v = kvOf ks (fun x => if x = k then v else f x) := by
  unfold putK
  rw [valV_any, valV_kv h]
  show (if true = true then _ else _) = _
  rw [if_pos rfl, List.map_map]
  refine List.map_congr_left fun x _ => ?_
  show (if (Sum.inr x : Key) = Sum.inr k then ((Sum.inr x : Key), v) else ((Sum.inr x : Key), f x)) = ((Sum.inr x : Key), if x = k then v else f x)
  by_cases e : x = k
  · rw [if_pos (congrArg Sum.inr e), if_pos e]
  · rw [if_neg (inr_ne e), if_neg e]
/-- .. the next of a list of unlike kinds -/
theorem putK_take {ks : List Str} (nd : ks.Nodup) {f : Str → V} {i : Nat} {k : Str} (h : ks[i]? = some k) : putK (kvOf (ks.take i) f) (Sum.inr k : Key) (f k) = kvOf (ks.take (i + 1)) f := by
  rw [putK_add (not_mem_take nd h), take_next h]
  exact kv_congr fun x _ => by
    by_cases e : x = k
    · rw [if_pos e, e]
    · rw [if_neg e]
theorem kv_get {ks : List Str} {f : Str → V} {i : Nat} {k : Key} {v : V} (h : (kvOf ks f)[i]? = some (k, v)) : ∃ x, ks[i]? = some x ∧ k = Sum.inr x ∧ v = f x := by
  obtain ⟨x, e, q⟩ := get_map h
  cases q
  exact ⟨x, e, rfl, rfl⟩

/-! ### growths -/
abbrev signs : Str := "abcdefghijklmnopqrstuvwxyz"
def Small (k : Str) : Prop := 1 ≤ k.length ∧ k.length ≤ 8 ∧ ∀ c, c ∈ k.cps.toList → c ∈ signs.cps.toList
/-- what a growth is: its kinds, what each leaves -/
structure GOk (ks : List Str) (suc : Str → List Str) : Prop where
  gr : KM.Gr ks suc
  one : 1 ≤ ks.length
  twelve : ks.length ≤ 12
  row : ∀ k, k ∈ ks → (suc k).length ≤ 4
  small : ∀ k, k ∈ ks → Small k
/-- how it stands in the heap while it is walked -/
structure Gw (H : Hp) (g : Addr) (o : Obj) (ks : List Str) (suc : Str → List Str) (ad : Str → Addr) : Prop where
  ok : GOk ks suc
  d : H g = some (.frz o (.dK (kvOf ks fun k => V.ref (ad k))))
  t : ∀ k, k ∈ ks → H (ad k) = some (.tup ((suc k).map V.str))
section
variable {H H' : Hp} {g : Addr} {o : Obj} {ks : List Str} {suc : Str → List Str} {ad : Str → Addr}
theorem Gw.same (G : Gw H g o ks suc ad) (e : Same H H') : Gw H' g o ks suc ad := ⟨G.ok, e _ _ G.d, fun k hk => e _ _ (G.t k hk)⟩
theorem Gw.rd (G : Gw H g o ks suc ad) : Rd H g (.dK (kvOf ks fun k => V.ref (ad k))) := .inr ⟨o, G.d⟩
/-- growth[k] -/
theorem Gw.get (G : Gw H g o ks suc ad) {k : Str} (hk : k ∈ ks) : DGet H g (.str k) (some (.ref (ad k))) :=
  .inl ⟨_, Sum.inr k, G.rd, rfl, (valV_kv (f := fun k => V.ref (ad k)) hk).symm⟩
/-- k in growth -/
theorem Gw.has (G : Gw H g o ks suc ad) (k : Str) : ∃ r, DGet H g (.str k) r ∧ r.isSome = decide (k ∈ ks) := ⟨_, .inl ⟨_, Sum.inr k, G.rd, rfl, rfl⟩, valV_kv_some _ _ _⟩
theorem Gw.seq (G : Gw H g o ks suc ad) {K : PySem.W.Frag} {k : Str} (hk : k ∈ ks) : SqT K H (ad k) ((suc k).map V.str) := SqT.of (G.t k hk)
end
/-- a dict over kinds, asked -/
theorem dget_kv {H : Hp} {d : Addr} {ks : List Str} {f : Str → V} (h : Rd H d (.dK (kvOf ks f))) {k : Str} (hk : k ∈ ks) : DGet H d (.str k) (some (f k)) := .inl ⟨_, Sum.inr k, h, rfl, (valV_kv hk).symm⟩
theorem dhas_kv {H : Hp} {d : Addr} {ks : List Str} {f : Str → V} (h : Rd H d (.dK (kvOf ks f))) (k : Str) : ∃ r, DGet H d (.str k) r ∧ r.isSome = decide (k ∈ ks) := ⟨_, .inl ⟨_, Sum.inr k, h, rfl, rfl⟩, valV_kv_some _ _ _⟩
/-- a comprehension without a test -/
theorem tyes {σ : L2.St} {H : Hp} {F G : Hp → Prop} (h : F H) : tYes σ H (fun b H3 => if b = true then F H3 else G H3) := by
  show if true = true then F H else G H
  rw [if_pos rfl]
  exact h
theorem sz100 {n : Nat} (h : n ≤ 100000) : n < sizeLine := by
  rw [sizeLine_eq]
  omega
theorem sz100' {n : Nat} (h : n ≤ 100000) : n ≤ sizeLine := by
  rw [sizeLine_eq]
  omega
end KW
end
section
set_option Elab.async false
set_option linter.all false
set_option maxRecDepth 100000
set_option maxHeartbeats 4000000
/-! KL: loops over kinds. -/
namespace KW
open PySem PySem.Spec PyProof.Rows L2
/-! ### rules with the written part named: they serve within a comprehension's block, too -/
section
variable {X : Cx} (K : PySem.W.Frag) (h : X.K = K)
include h
theorem kIsi : CallR X (.builtin "isinstance") (rIsi K) := by
  subst h
  exact call_isi
abbrev rLenK : List V → Hp → VK → Prop := fun xs H Q => ∃ p ys, xs = [.ref p] ∧ (SqL K H p ys ∨ SqT K H p ys) ∧ Q (.int ys.length) H
theorem kLen : CallR X (.builtin "len") (rLenK K) := by
  subst h
  exact call_len_seq
theorem kAll (hc : X.calm = true) : CallR X (.builtin "all") (rAll K) := by
  subst h
  exact cr_all hc
theorem kSum (hc : X.calm = true) : CallR X (.builtin "sum") (rSum K) := by
  subst h
  exact cr_sum hc
theorem kMax (hc : X.calm = true) : CallR X (.builtin "max") (rMax K) := by
  subst h
  exact cr_max hc
abbrev rTupK : List V → Hp → VK → Prop := fun xs H Q => ∃ p ys, xs = [.ref p] ∧ ((SqL K H p ys ∧ ∀ l, H l = none → Q (.ref l) (upd H l (.tup ys))) ∨ (SqT K H p ys ∧ Q (.ref p) H))
theorem kTup : CallR X (.type "tuple") (rTupK K) := by
  subst h
  exact call_tuple_of
theorem kIxL : IxR X (rIxL K) := by
  subst h
  exact ix_list
theorem kIxT : IxR X (rIxT K) := by
  subst h
  exact ix_tup
theorem kIn : OpR X (compareOp .In) (rIn K false) := by
  subst h
  exact op_in_seq
theorem kNotIn : OpR X (compareOp .NotIn) (rIn K true) := by
  subst h
  exact op_notIn_seq
theorem kCatA : OpR X (binaryOp .Add) (rCatA K) := by
  subst h
  exact op_catA
theorem kNeD (hu : X.A.units + 64 < cLine) : OpR X (compareOp .NotEq) (rNeD K) := by
  subst h
  exact op_neD hu
theorem kSl : SlR X (rSlL K) := by
  subst h
  exact sl_list
theorem kPiL {tg l : Expr} {tl : TE} (hl : PE X l tl) : PI X tg l (iList K tl) := by
  subst h
  exact pi_list hl
theorem kPiT {tg l : Expr} {tl : TE} (hl : PE X l tl) : PI X tg l (iTup K tl) := by
  subst h
  exact pi_tup hl
theorem kPiE {e : Expr} {ta : TA} {p pos tpos : Pos} {elts : List Expr} {kk : Nat} (hg : Gl X "enumerate") (hm : X.mg "enumerate" = none) (ha : PA X [e] ta)
    (hs : starEach [e] X.env = [(false, eval e X.env)] := by rfl) : PI X (.Tuple elts kk tpos) (.Call (.Name "enumerate" p) [e] [] pos) (iEnumT K ta) := by
  subst h
  exact pi_enumT hg hm ha hs
end
section
variable {K : PySem.W.Frag} {a d : Addr} {o : Obj} {ks : List Str} {f : Str → V}
/-- a kind a turn -/
abbrev YStr (ks : List Str) : Nat → Hp → V → Hp → Prop := fun i H x H' => H' = H ∧ ∃ k, ks[i]? = some k ∧ x = .str k
theorem walk_keysS : Walk (Itk d o (kvOf ks f)) ks.length (fun H => H d = some (.frz o (.dK (kvOf ks f)))) (YStr ks) := by
  have W := walk_keys (d := d) (o := o) (kvs := kvOf ks f)
  rw [kv_len] at W
  refine W.mono (fun _ h => h) fun i H x H' _ _ y => ?_
  obtain ⟨e, k, v, h, ex⟩ := y
  obtain ⟨z, hz, rfl, rfl⟩ := kv_get h
  exact ⟨e, z, hz, ex⟩
theorem walk_itemsS : Walk (Iti d o (kvOf ks f)) ks.length (fun H => H d = some (.frz o (.dK (kvOf ks f))))
    (fun i H v H' => ∃ T k, v = .ref T ∧ H T = none ∧ H' = upd H T (.tup [.str k, f k]) ∧ ks[i]? = some k) := by
  have W := walk_items (d := d) (o := o) (kvs := kvOf ks f)
  rw [kv_len] at W
  refine W.mono (fun _ h => h) fun i H x H' hi _ y => ?_
  obtain ⟨T, u, v, rfl, nT, rfl, h1, h2⟩ := y
  have e : (kvOf ks f)[i]? = some ((Sum.inr ks[i] : Key), f ks[i]) := by
    rw [List.getElem?_map, List.getElem?_eq_getElem hi]
    rfl
  dsimp only at h1 h2
  rw [e] at h1 h2
  have e1 : V.str ks[i] = u := Option.some.inj h1
  have e2 : f ks[i] = v := Option.some.inj h2
  exact ⟨T, ks[i], rfl, nT, by rw [← e1, ← e2], List.getElem?_eq_getElem hi⟩
theorem walk_tupS {xs : List Str} : Walk (Itt K a) xs.length (fun H => SqT K H a (xs.map V.str)) (YStr xs) := by
  have W := walk_tup (K := K) (a := a) (xs := xs.map V.str)
  rw [List.length_map] at W
  exact W.mono (fun _ h => h) fun i H x H' _ _ y => ⟨y.1, get_map y.2⟩
theorem walk_listS {xs : List Str} : Walk (Itl K a) xs.length (fun H => SqL K H a (xs.map V.str)) (YStr xs) := by
  have W := walk_list (K := K) (a := a) (xs := xs.map V.str)
  rw [List.length_map] at W
  exact W.mono (fun _ h => h) fun i H x H' _ _ y => ⟨y.1, get_map y.2⟩
theorem walk_enumTS {xs : List Str} : Walk (IteT K a) xs.length (fun H => SqT K H a (xs.map V.str))
    (fun i H v H' => ∃ T k, v = .ref T ∧ H T = none ∧ H' = upd H T (.tup [.int (i : Nat), .str k]) ∧ xs[i]? = some k) := by
  have W := walk_enumT (K := K) (a := a) (xs := xs.map V.str)
  rw [List.length_map] at W
  refine W.mono (fun _ h => h) fun i H x H' _ _ y => ?_
  obtain ⟨T, u, v, rfl, nT, rfl, h1, h2⟩ := y
  obtain ⟨k, hk, rfl⟩ := get_map h2
  cases h1
  exact ⟨T, k, rfl, nT, rfl, hk⟩
end
section
variable {J : It} {n : Nat} {G : Hp → Prop} {Y : Nat → Hp → V → Hp → Prop}
/-- a dict comprehension over what is walked: Pv by the turn and the heap, the new dict at D within -/
theorem dc_it (w : Walk J n G Y) {g : TG} {tt : TT} {tk tv : TE} {vs : List Nat} {σ : L2.St} {H1 : Hp} {D : Addr} {Qd : Hp → Prop} (Pv : Nat → Hp → Prop)
    (h0 : Pv 0 (upd H1 D (.dK []))) (hG : ∀ i H, i ≤ n → Pv i H → G H)
    (hs : ∀ i x H H', i < n → Pv i H → Y i H x H' → g x (wipe σ vs) H' fun σ2 H2 => wipe σ2 vs = wipe σ vs ∧ tt σ2 H2 fun b H3 =>
      if b = true then tk σ2 H3 fun y H4 => tv σ2 H4 fun z H5 => ∃ kvs k, y = kV k ∧ H5 D = some (.dK kvs) ∧ kvs.length < sizeLine ∧ Pv (i + 1) (upd H5 D (.dK (putK kvs k z))) else Pv (i + 1) H3)
    (hd : ∀ H, Pv n H → Qd H) :
    ∃ W : Nat → Nat → Hp → Prop, (∃ m, W 0 m (upd H1 D (.dK []))) ∧ ∀ i m H, W i m H →
      (J.stop i H ∧ Qd H) ∨ (J.go i H ∧ ∃ Nx : Hp → Prop, (∀ H', Nx H' → ∃ m', m' < m ∧ W (i + 1) m' H') ∧ ∀ x H', J.yld i H x H' → g x (wipe σ vs) H' fun σ2 H2 => wipe σ2 vs = wipe σ vs ∧ tt σ2 H2 fun b H3 =>
        if b = true then tk σ2 H3 fun y H4 => tv σ2 H4 fun z H5 => ∃ kvs k, y = kV k ∧ H5 D = some (.dK kvs) ∧ kvs.length < sizeLine ∧ Nx (upd H5 D (.dK (putK kvs k z))) else Nx H3) := by
  refine ⟨fun i m H => m = n - i ∧ i ≤ n ∧ Pv i H, ⟨n, by simp, Nat.zero_le _, h0⟩, fun i m H hw => ?_⟩
  obtain ⟨em, hi, p⟩ := hw
  have q := hG i H hi p
  rcases Nat.lt_or_ge i n with hlt | hge
  · exact .inr ⟨w.goes i H hlt q, Pv (i + 1), fun H' p' => ⟨n - (i + 1), by omega, rfl, hlt, p'⟩, fun x H' y => hs i x H H' hlt p (w.yields i H x H' hlt q y)⟩
  · obtain rfl : i = n := Nat.le_antisymm hi hge
    exact .inl ⟨w.stops H q, hd H p⟩
/-- the second clause's loop of a comprehension with two -/
theorem in_it (w : Walk J n G Y) {H0 : Hp} {Nx : Hp → Prop} {B : V → Hp → (Hp → Prop) → Prop} (Pv : Nat → Hp → Prop) (h0 : Pv 0 H0) (hG : ∀ i H, i ≤ n → Pv i H → G H)
    (hs : ∀ i x H H', i < n → Pv i H → Y i H x H' → B x H' (Pv (i + 1))) (hd : ∀ H, Pv n H → Nx H) :
    ∃ W : Nat → Nat → Hp → Prop, (∃ m, W 0 m H0) ∧ ∀ j k H, W j k H →
      (J.stop j H ∧ Nx H) ∨ (J.go j H ∧ ∃ Nx1 : Hp → Prop, (∀ H', Nx1 H' → ∃ k', k' < k ∧ W (j + 1) k' H') ∧ ∀ x H', J.yld j H x H' → B x H' Nx1) := by
  refine ⟨fun i m H => m = n - i ∧ i ≤ n ∧ Pv i H, ⟨n, by simp, Nat.zero_le _, h0⟩, fun i m H hw => ?_⟩
  obtain ⟨em, hi, p⟩ := hw
  have q := hG i H hi p
  rcases Nat.lt_or_ge i n with hlt | hge
  · exact .inr ⟨w.goes i H hlt q, Pv (i + 1), fun H' p' => ⟨n - (i + 1), by omega, rfl, hlt, p'⟩, fun x H' y => hs i x H H' hlt p (w.yields i H x H' hlt q y)⟩
  · obtain rfl : i = n := Nat.le_antisymm hi hge
    exact .inl ⟨w.stops H q, hd H p⟩
end
end KW
end
section
set_option Elab.async false
set_option linter.all false
set_option maxRecDepth 100000
set_option maxHeartbeats 4000000
/-! K1: the checks. -/
namespace KW
open PySem PySem.Spec PyProof.Rows L2
/- is_integer: slots 0 thing; cells [] -/
abbrev s_is_integer : Stmt := topS 6
abbrev N_is_integer : List Str := ["thing"]
theorem sc_is_integer : FnScope N_is_integer ["thing"] (defScope s_is_integer) := ⟨rfl, rfl, rfl, by decide +kernel, rfl, by decide +kernel, by decide +kernel⟩
/- is_within: slots 0 thing, 1 least, 2 most; cells [] -/
abbrev s_is_within : Stmt := topS 7
abbrev N_is_within : List Str := ["thing", "least", "most"]
theorem sc_is_within : FnScope N_is_within ["thing", "least", "most"] (defScope s_is_within) := ⟨rfl, rfl, rfl, by decide +kernel, rfl, by decide +kernel, by decide +kernel⟩
/- check_number: slots 0 thing, 1 least, 2 most; cells [] -/
abbrev s_check_number : Stmt := topS 8
abbrev N_check_number : List Str := ["thing", "least", "most"]
theorem sc_check_number : FnScope N_check_number ["thing", "least", "most"] (defScope s_check_number) := ⟨rfl, rfl, rfl, by decide +kernel, rfl, by decide +kernel, by decide +kernel⟩
/- is_small: slots 0 thing, 1 sign; cells [] -/
abbrev s_is_small : Stmt := topS 15
abbrev N_is_small : List Str := ["thing", "sign"]
theorem sc_is_small : FnScope N_is_small ["thing"] (defScope s_is_small) := ⟨rfl, rfl, rfl, by decide +kernel, rfl, by decide +kernel, by decide +kernel⟩
/- is_growth: slots 0 thing, 1 kind, 2 left, 3 other; cells ['thing'] -/
abbrev s_is_growth : Stmt := topS 16
abbrev N_is_growth : List Str := ["thing", "kind", "left", "other"]
theorem sc_is_growth : FnScope N_is_growth ["thing"] (defScope s_is_growth) := ⟨rfl, rfl, rfl, by decide +kernel, rfl, by decide +kernel, by decide +kernel⟩
/- check_growth: slots 0 growth, 1 kind; cells [] -/
abbrev s_check_growth : Stmt := topS 17
abbrev N_check_growth : List Str := ["growth", "kind"]
theorem sc_check_growth : FnScope N_check_growth ["growth", "kind"] (defScope s_check_growth) := ⟨rfl, rfl, rfl, by decide +kernel, rfl, by decide +kernel, by decide +kernel⟩
/- _law_is_int: slots 0 _law_thing; cells [] -/
abbrev s_law_is_int : Stmt := topS 27
abbrev N_law_is_int : List Str := ["_law_thing"]
theorem sc_law_is_int : FnScope N_law_is_int ["_law_thing"] (defScope s_law_is_int) := ⟨rfl, rfl, rfl, by decide +kernel, rfl, by decide +kernel, by decide +kernel⟩
theorem kit_is {K : PySem.W.Frag} {a b : String} {r : Bool} (h : kitB a b = some r) : PySem.W.kitOne K (.type a) (.type b) = some r := kit_ty h
section
variable {P : Program} {w : World} {K : PySem.W.Frag} {mg : Str → Option Value} {base : Heap}
def spInt : Sp := fun vs H Q _ => ∃ i : Int, vs = [.int i] ∧ Q (.bl true) H
theorem cal_is_integer (D : Df K mg "is_integer" s_is_integer ["thing"]) (B : Blt mg) : Cal P w K mg base 1 "is_integer" spInt := by
  refine cal_of D sc_is_integer (fun vs H Q E h => ?_) (fun f cdv A outer s H vs Q E hr h => ?_)
  · obtain ⟨i, rfl, _⟩ := h
    rfl
  · obtain ⟨i, rfl, q⟩ := h
    refine ⟨_, (pss_one (ps_ret (pe_and (pe_callB (kIsi K rfl) (by rfl) B.isinstance (by decide +kernel) (pa_cons (pv 0) (pa_cons (pe_cls "int" (by rfl) B.int (by decide +kernel)) pa_nil))) (pe_one (pe_not (pe_callB (kIsi K rfl) (by rfl) B.isinstance (by decide +kernel) (pa_cons (pv 0) (pa_cons (pe_cls "bool" (by rfl) B.bool (by decide +kernel)) pa_nil)))))))), ?_⟩
    refine ⟨_, rfl, _, .ty "int", _, _, true, rfl, .ty "int", .base (.int i), kit_is (by decide +kernel), true, rfl, iteT ?_⟩
    exact ⟨_, rfl, _, .ty "bool", _, _, false, rfl, .ty "bool", .base (.int i), kit_is (by decide +kernel), false, rfl, q⟩
theorem cal_law_is_int (D : Df K mg "_law_is_int" s_law_is_int ["_law_thing"]) (B : Blt mg) : Cal P w K mg base 1 "_law_is_int" spInt := by
  refine cal_of D sc_law_is_int (fun vs H Q E h => ?_) (fun f cdv A outer s H vs Q E hr h => ?_)
  · obtain ⟨i, rfl, _⟩ := h
    rfl
  · obtain ⟨i, rfl, q⟩ := h
    refine ⟨_, (pss_one (ps_ret (pe_and (pe_callB (kIsi K rfl) (by rfl) B.isinstance (by decide +kernel) (pa_cons (pv 0) (pa_cons (pe_cls "int" (by rfl) B.int (by decide +kernel)) pa_nil))) (pe_one (pe_not (pe_callB (kIsi K rfl) (by rfl) B.isinstance (by decide +kernel) (pa_cons (pv 0) (pa_cons (pe_cls "bool" (by rfl) B.bool (by decide +kernel)) pa_nil)))))))), ?_⟩
    refine ⟨_, rfl, _, .ty "int", _, _, true, rfl, .ty "int", .base (.int i), kit_is (by decide +kernel), true, rfl, iteT ?_⟩
    exact ⟨_, rfl, _, .ty "bool", _, _, false, rfl, .ty "bool", .base (.int i), kit_is (by decide +kernel), false, rfl, q⟩
/-- a number within its bounds -/
def spWithin : Sp := fun vs H Q _ => ∃ i a b : Int, vs = [.int i, .int a, .int b] ∧ a ≤ i ∧ i ≤ b ∧ Q (.bl true) H
theorem cal_is_within (D : Df K mg "is_within" s_is_within ["thing", "least", "most"]) (c_is_integer : Cal P w K mg base 1 "is_integer" spInt) : Cal P w K mg base 2 "is_within" spWithin := by
  refine cal_of D sc_is_within (fun vs H Q E h => ?_) (fun f cdv A outer s H vs Q E hr h => ?_)
  · obtain ⟨i, a, b, rfl, _⟩ := h
    rfl
  · obtain ⟨i, a, b, rfl, h1, h2, q⟩ := h
    refine ⟨_, (pss_one (ps_ret (pe_and (pe_cal c_is_integer hr (by decide) (by rfl) (pa_cons (pv 0) pa_nil)) (pe_one (pe_chain op_le op_le (pv 1) (pv 0) (pv 2)))))), ?_⟩
    refine ⟨_, rfl, i, rfl, true, rfl, iteT ?_⟩
    refine ⟨_, rfl, _, rfl, _, _, rfl, rfl, _, rfl, ?_⟩
    rw [decide_eq_true h1]
    refine iteT ⟨_, rfl, _, _, rfl, rfl, ?_⟩
    show Q (.bl (decide (i ≤ b))) _
    rw [decide_eq_true h2]
    exact q
def spCheckN : Sp := fun vs H Q _ => ∃ i a b : Int, vs = [.int i, .int a, .int b] ∧ a ≤ i ∧ i ≤ b ∧ Q .non H
theorem cal_check_number (D : Df K mg "check_number" s_check_number ["thing", "least", "most"]) (c_is_within : Cal P w K mg base 2 "is_within" spWithin) : Cal P w K mg base 3 "check_number" spCheckN := by
  refine cal_of D sc_check_number (fun vs H Q E h => ?_) (fun f cdv A outer s H vs Q E hr h => ?_)
  · obtain ⟨i, a, b, rfl, _⟩ := h
    rfl
  · obtain ⟨i, a, b, rfl, h1, h2, q⟩ := h
    refine ⟨_, (pss_one (ps_if (pt_not (pt_val (pe_cal c_is_within hr (by decide) (by rfl) (pa_cons (pv 0) (pa_cons (pv 1) (pa_cons (pv 2) pa_nil))))))
        (pss_one ps_never)
        pss_nil)), ?_⟩
    refine ⟨_, rfl, _, rfl, _, rfl, i, a, b, rfl, h1, h2, true, rfl, iteF ?_⟩
    exact q
/-- a kind's name -/
def spSmall : Sp := fun vs H Q _ => ∃ k : Str, vs = [.str k] ∧ Small k ∧ ∀ H', Same H H' → Q (.bl true) H'
theorem cal_is_small (D : Df K mg "is_small" s_is_small ["thing"]) (B : Blt mg) : Cal P w K mg base 1 "is_small" spSmall := by
  refine cal_of D sc_is_small (fun vs H Q E h => ?_) (fun f cdv A outer s H vs Q E hr h => ?_)
  · obtain ⟨k, rfl, _⟩ := h
    rfl
  · obtain ⟨k, rfl, ⟨s1, s2, s3⟩, q⟩ := h
    refine ⟨_, (pss_cons (ps_if (PW.pt (pw_or (pt_not (pt_val (pe_callB (kIsi K rfl) (by rfl) B.isinstance (by decide +kernel) (pa_cons (pv 0) (pa_cons (pe_cls "str" (by rfl) B.str (by decide +kernel)) pa_nil))))) (pw_or1 (pt_not (pt_chain op_le op_le pe_int (pe_callB call_len_str (by rfl) B.len (by decide +kernel) (pa_cons (pv 0) pa_nil)) (C8.pe_gc (by rfl) B.MOST_SIGNS))))))
        (pss_one (ps_ret pe_bl))
        pss_nil)
      (pss_one (ps_ret (pe_callB (kAll K rfl rfl) (by rfl) B.all (by decide +kernel) (pa_cons (pe_lc (own := [("sign", 1)]) (g := gName 1) rfl sc_is_small.nd (pi_str (pv 0)) (blkOk_by (N := N_is_small) (sc := defScope s_is_small) (own := [("sign", 1)]) (by decide +kernel)) (fun _ _ _ _ _ => pg_name (i := 1) sc_is_small.nd rfl (by first | exact .inl rfl | exact .inr rfl)) (fun _ _ _ _ _ => pts_nil) (fun _ _ _ _ _ => (pe_cmpR op_in_sign (pv 1) (C8.pe_gc (by rfl) B.SIGNS) (by rfl)))) pa_nil))))), ?_⟩
    refine ⟨_, rfl, _, .ty "str", _, _, true, rfl, .ty "str", .base (.str k), kit_is (by decide +kernel), true, rfl, iteF ?_⟩
    refine ⟨_, rfl, k, rfl, sz100' (by omega), 1, (k.length : Int), rfl, rfl, _, rfl, ?_⟩
    rw [decide_eq_true (show (1 : Int) ≤ (k.length : Int) by omega)]
    refine iteT ⟨_, _, rfl, rfl, _, rfl, ?_⟩
    rw [decide_eq_true (show (k.length : Int) ≤ 8 by omega)]
    refine iteF ?_
    refine ⟨_, rfl, k, rfl, fun L nL => ?_⟩
    refine lc_it (walk_str (z := k)) (fun i H' => Same H H' ∧ H' L = some (.lst ((List.replicate i true).map V.bl))) ⟨Same.knew nL, upd_same⟩ (fun _ _ _ _ => trivial) ?_ ?_
    · rintro i x H1 H2 hi ⟨e1, e2⟩ ⟨rfl, c, hc, rfl⟩
      refine ⟨rfl, tyes ?_⟩
      refine ⟨_, rfl, c, signs, rfl, rfl, _, e2, ?_, ?_⟩
      · rw [List.length_map, List.length_replicate]
        exact sz100 (by have : k.cps.size = k.length := rfl; omega)
      · have hm : c ∈ signs.cps.toList := s3 c (by
          have := Array.mem_of_getElem? hc
          exact Array.mem_toList_iff.2 this)
        refine ⟨e1.kput nL, ?_⟩
        rw [upd_same, decide_eq_true hm, List.replicate_succ', List.map_append]
        rfl
    · rintro H1 ⟨e1, e2⟩
      refine ⟨L, List.replicate k.cps.size true, rfl, SqL.of e2, ?_⟩
      have : (List.replicate k.cps.size true).all id = true := List.all_eq_true.2 fun b hb => by
        rw [List.eq_of_mem_replicate hb]
        rfl
      rw [this]
      exact q _ e1
/-- it is a growth -/
def spIsGrowth : Sp := fun vs H Q _ => ∃ g o ks suc ad, vs = [.ref g] ∧ Gw H g o ks suc ad ∧ ∀ H', Same H H' → Q (.bl true) H'
theorem cal_is_growth (D : Df K mg "is_growth" s_is_growth ["thing"]) (B : Blt mg) (c_is_small : Cal P w K mg base 1 "is_small" spSmall) : Cal P w K mg base 2 "is_growth" spIsGrowth := by
  refine cal_of D sc_is_growth (fun vs H Q E h => ?_) (fun f cdv A outer s H vs Q E hr h => ?_)
  · obtain ⟨g, o, ks, suc, ad, rfl, _⟩ := h
    rfl
  · obtain ⟨g, o, ks, suc, ad, rfl, G, q⟩ := h
    have hu := hu_of hr
    have l1 := G.ok.one
    have l2 := G.ok.twelve
    refine ⟨_, (pss_cons (ps_if (PW.pt (pw_or (pt_not (pt_val (pe_callB (kIsi K rfl) (by rfl) B.isinstance (by decide +kernel) (pa_cons (pv 0) (pa_cons (pe_cls "dict" (by rfl) B.dict (by decide +kernel)) pa_nil))))) (pw_or1 (pt_not (pt_chain op_le op_le pe_int (pe_callB call_lenR (by rfl) B.len (by decide +kernel) (pa_cons (pv 0) pa_nil)) (C8.pe_gc (by rfl) B.MOST_KINDS))))))
        (pss_one (ps_ret pe_bl))
        pss_nil)
      (pss_cons (ps_for PassesOwn.never rfl (pi_items (pv 0)) (pg_tup rfl (pgs_cons (pg_name (i := 1) sc_is_growth.nd rfl (.inl rfl)) (pgs_cons (pg_name (i := 2) sc_is_growth.nd rfl (.inl rfl)) pgs_nil)))
        (pss_cons (ps_if (PW.pt (pw_or (pt_not (pt_val (pe_cal c_is_small hr (by decide) (by rfl) (pa_cons (pv 1) pa_nil)))) (pw_or (pt_not (pt_val (pe_callB (kIsi K rfl) (by rfl) B.isinstance (by decide +kernel) (pa_cons (pv 2) (pa_cons (pe_cls "tuple" (by rfl) B.tuple (by decide +kernel)) pa_nil))))) (pw_or1 (pt_cmpR op_gt (pe_callB (kLen K rfl) (by rfl) B.len (by decide +kernel) (pa_cons (pv 2) pa_nil)) (C8.pe_gc (by rfl) B.MOST_LEFT) (nomark _))))))
          (pss_one (ps_ret pe_bl))
          pss_nil)
        (pss_one (ps_if (pt_not (pt_val (pe_callB (kAll K rfl rfl) (by rfl) B.all (by decide +kernel) (pa_cons (pe_lc (own := [("other", 3)]) (g := gName 3) rfl sc_is_growth.nd (kPiT K rfl (pv 2)) (blkOk_by (N := N_is_growth) (sc := defScope s_is_growth) (own := [("other", 3)]) (by decide +kernel)) (fun _ _ _ _ _ => pg_name (i := 3) sc_is_growth.nd rfl (by first | exact .inl rfl | exact .inr rfl)) (fun _ _ _ _ _ => pts_nil) (fun _ _ _ _ _ => (pe_and (pe_callB (kIsi K rfl) (by rfl) B.isinstance (by decide +kernel) (pa_cons (pv 3) (pa_cons (pe_cls "str" (by rfl) B.str (by decide +kernel)) pa_nil))) (pe_one (pe_cmp (pc_din hu (pv 3) (pv 0))))))) pa_nil))))
          (pss_one (ps_ret pe_bl))
          pss_nil))))
      (pss_one (ps_ret pe_bl)))), ?_⟩
    -- isinstance, 1 <= len(thing) <= MOST_KINDS
    refine ⟨_, rfl, _, .ty "dict", _, _, true, rfl, .ty "dict", .fDict G.d, kit_is (by decide +kernel), true, rfl, iteF ?_⟩
    refine ⟨_, rfl, g, _, rfl, G.rd, 1, _, rfl, rfl, _, rfl, ?_⟩
    rw [kv_len, decide_eq_true (show (1 : Int) ≤ (ks.length : Int) by omega)]
    refine iteT ⟨_, _, rfl, rfl, _, rfl, ?_⟩
    rw [decide_eq_true (show (ks.length : Int) ≤ 12 by omega)]
    refine iteF ?_
    -- for kind, left in thing.items()
    refine ⟨_, rfl, g, o, _, rfl, G.d, for_it (walk_itemsS (d := g) (o := o) (ks := ks) (f := fun k => V.ref (ad k))) (fun i σ H' => ∃ y1 y2 y3, σ = [some (.ref g), y1, y2, y3] ∧ Same H H') ⟨none, none, none, rfl, Same.refl H⟩ (fun i σ H' _ hp => ?_) ?_ ?_⟩
    · obtain ⟨_, _, _, _, e⟩ := hp
      exact e _ _ G.d
    · rintro i x σ H1 H2 hi ⟨y1, y2, y3, rfl, e1⟩ ⟨T, k, rfl, nT, rfl, hk⟩
      have hkm : k ∈ ks := List.mem_of_getElem? hk
      have e2 : Same H (upd H1 T (.tup [.str k, .ref (ad k)])) := e1.kadd nT
      refine ⟨T, [.str k, .ref (ad k)], rfl, SqT.of upd_same, rfl, _, [.ref (ad k)], rfl, _, [], rfl, rfl, ?_⟩
      -- not is_small(kind) or not isinstance(left, tuple) or len(left) > MOST_LEFT
      refine ⟨_, rfl, k, rfl, G.ok.small k hkm, fun H3 e3 => ⟨true, rfl, iteF ?_⟩⟩
      have G3 : Gw H3 g o ks suc ad := G.same (e2.trans e3)
      refine ⟨_, rfl, _, .ty "tuple", _, _, true, rfl, .ty "tuple", .base (.tup (G3.t k hkm)), kit_is (by decide +kernel), true, rfl, iteF ?_⟩
      refine ⟨_, rfl, ad k, _, rfl, .inr (G3.seq hkm), _, _, rfl, rfl, _, rfl, ?_⟩
      have hrow := G.ok.row k hkm
      rw [List.length_map, decide_eq_false (show ¬ (4 : Int) < ((suc k).length : Int) by omega)]
      refine iteF ?_
      -- all([..])
      refine ⟨_, rfl, ad k, rfl, ⟨_, G3.seq hkm⟩, fun L nL => ?_⟩
      refine lc_it (walk_tupS (K := K) (a := ad k) (xs := suc k)) (fun j H' => Same H3 H' ∧ H' L = some (.lst ((List.replicate j true).map V.bl))) ⟨Same.knew nL, upd_same⟩ (fun j H' _ hp => hp.1.ktup (G3.seq hkm)) ?_ ?_
      · rintro j x H4 H5 hj ⟨a1, a2⟩ ⟨rfl, z, hz, rfl⟩
        have hzk : z ∈ ks := G.ok.gr.cl k hkm z (List.mem_of_getElem? hz)
        have G4 := G3.same a1
        refine ⟨rfl, tyes ?_⟩
        refine ⟨_, rfl, _, .ty "str", _, _, true, rfl, .ty "str", .base (.str z), kit_is (by decide +kernel), true, rfl, iteT ?_⟩
        refine ⟨_, rfl, _, rfl, g, _, rfl, G4.get hzk, _, a2, ?_, a1.kput nL, ?_⟩
        · rw [List.length_map, List.length_replicate]
          exact sz100 (by omega)
        · rw [upd_same, List.replicate_succ', List.map_append]
          rfl
      · rintro H4 ⟨a1, a2⟩
        refine ⟨L, List.replicate (suc k).length true, rfl, SqL.of a2, true, ?_, iteF ?_⟩
        · congr 1
          exact List.all_eq_true.2 fun b hb => by
            rw [List.eq_of_mem_replicate hb]
            rfl
        · exact ⟨_, _, _, rfl, (e2.trans e3).trans a1⟩
    · rintro σ H1 ⟨y1, y2, y3, rfl, e1⟩
      exact q _ e1
/-- the checks of a growth and a kind -/
def spCheckG : Sp := fun vs H Q _ => ∃ g o ks suc ad k, vs = [.ref g, .str k] ∧ Gw H g o ks suc ad ∧ k ∈ ks ∧ ∀ H', Same H H' → Q .non H'
theorem cal_check_growth (D : Df K mg "check_growth" s_check_growth ["growth", "kind"]) (B : Blt mg) (c_is_growth : Cal P w K mg base 2 "is_growth" spIsGrowth) : Cal P w K mg base 3 "check_growth" spCheckG := by
  refine cal_of D sc_check_growth (fun vs H Q E h => ?_) (fun f cdv A outer s H vs Q E hr h => ?_)
  · obtain ⟨g, o, ks, suc, ad, k, rfl, _⟩ := h
    rfl
  · obtain ⟨g, o, ks, suc, ad, k, rfl, G, hk, q⟩ := h
    have hu := hu_of hr
    refine ⟨_, (pss_cons (ps_if (pt_not (pt_val (pe_cal c_is_growth hr (by decide) (by rfl) (pa_cons (pv 0) pa_nil))))
        (pss_one ps_never)
        pss_nil)
      (pss_one (ps_if (PW.pt (pw_or (pt_not (pt_val (pe_callB (kIsi K rfl) (by rfl) B.isinstance (by decide +kernel) (pa_cons (pv 1) (pa_cons (pe_cls "str" (by rfl) B.str (by decide +kernel)) pa_nil))))) (pw_or1 (pt_cmp (pc_dnotin hu (pv 1) (pv 0))))))
        (pss_one ps_never)
        pss_nil))), ?_⟩
    refine ⟨_, rfl, g, o, ks, suc, ad, rfl, G, fun H1 e1 => ⟨true, rfl, iteF ?_⟩⟩
    refine ⟨_, rfl, _, .ty "str", _, _, true, rfl, .ty "str", .base (.str k), kit_is (by decide +kernel), true, rfl, iteF ?_⟩
    refine ⟨_, rfl, _, rfl, g, _, rfl, (G.same e1).get hk, _, rfl, iteF ?_⟩
    exact q _ e1
end
end KW
end
section
set_option Elab.async false
set_option linter.all false
set_option maxRecDepth 100000
set_option maxHeartbeats 4000000
/-! K2: needed. -/
namespace KW
open PySem PySem.Spec PyProof.Rows L2
/- needed: slots 0 growth, 1 kind, 2 many, 3 found, 4 turn, 5 other, 6 goal; cells ['found', 'growth'] -/
abbrev s_needed : Stmt := topS 18
abbrev N_needed : List Str := ["growth", "kind", "many", "found", "turn", "other", "goal"]
theorem sc_needed : FnScope N_needed ["growth", "kind", "many"] (defScope s_needed) := ⟨rfl, rfl, rfl, by decide +kernel, rfl, by decide +kernel, by decide +kernel⟩
section
variable {P : Program} {w : World} {K : PySem.W.Frag} {mg : Str → Option Value} {base : Heap}
def spNeeded : Sp := fun vs H Q _ => ∃ g o ks suc ad k, ∃ n : Nat, vs = [.ref g, .str k, .int (n : Int)] ∧ Gw H g o ks suc ad ∧ k ∈ ks ∧ n ≤ 200 ∧ ∀ H', Same H H' → Q (.int (KM.nd suc n k)) H'
theorem cal_needed (D : Df K mg "needed" s_needed ["growth", "kind", "many"]) (B : Blt mg) (c_check_growth : Cal P w K mg base 3 "check_growth" spCheckG) (c_check_number : Cal P w K mg base 3 "check_number" spCheckN) : Cal P w K mg base 4 "needed" spNeeded := by
  refine cal_of D sc_needed (fun vs H Q E h => ?_) (fun f cdv A outer s H vs Q E hr h => ?_)
  · obtain ⟨g, o, ks, suc, ad, k, n, rfl, _⟩ := h
    rfl
  · obtain ⟨g, o, ks, suc, ad, k, n, rfl, G0, hk, hn, q⟩ := h
    have hu := hu_of hr
    have l12 := G0.ok.twelve
    refine ⟨_, (pss_cons (ps_expr (pe_cal c_check_growth hr (by decide) (by rfl) (pa_cons (pv 0) (pa_cons (pv 1) pa_nil))))
      (pss_cons (ps_expr (pe_cal c_check_number hr (by decide) (by rfl) (pa_cons (pv 2) (pa_cons pe_int (pa_cons (C8.pe_gc (by rfl) B.MOST_ROUNDS) pa_nil)))))
      (pss_cons (ps_set (i := 3) sc_needed.nd rfl (.inr rfl) (pe_dc (own := [("other", 5)]) (g := gName 5) rfl sc_needed.nd (pi_keys (pv 0)) (blkOk_by (N := N_needed) (sc := defScope s_needed) (own := [("other", 5)]) (by decide +kernel)) (fun _ _ _ _ _ => pg_name (i := 5) sc_needed.nd rfl (by first | exact .inl rfl | exact .inr rfl)) (fun _ _ _ _ _ => pts_nil) (fun _ _ _ _ _ => (pv 5)) (fun _ _ _ _ _ => pe_int)))
      (pss_cons (ps_for PassesOwn.never rfl (pi_range1 (by rfl) B.range (pa_cons (pv 2) pa_nil)) (pg_name (i := 4) sc_needed.nd rfl (.inl rfl))
        (pss_one (ps_set (i := 3) sc_needed.nd rfl (.inr rfl) (pe_dc (own := [("other", 5)]) (g := gName 5) rfl sc_needed.nd (pi_keys (pv 0)) (blkOk_by (N := N_needed) (sc := defScope s_needed) (own := [("other", 5)]) (by decide +kernel)) (fun _ _ _ _ _ => pg_name (i := 5) sc_needed.nd rfl (by first | exact .inl rfl | exact .inr rfl)) (fun _ _ _ _ _ => pts_nil) (fun _ _ _ _ _ => (pv 5)) (fun _ _ _ _ _ => (pe_op op_add pe_int (pe_callB (kSum K rfl rfl) (by rfl) B.sum (by decide +kernel) (pa_cons (pe_lc (own := [("goal", 6)]) (g := gName 6) rfl sc_needed.nd (kPiT K rfl (pe_dget hu (pv 0) (pv 5) (fun _ _ => rfl))) (blkOk_by (N := N_needed) (own := [("goal", 6)]) (by kernel_rfl)) (fun _ _ _ _ _ => pg_name (i := 6) sc_needed.nd rfl (by first | exact .inl rfl | exact .inr rfl)) (fun _ _ _ _ _ => pts_nil) (fun _ _ _ _ _ => (pe_dget hu (pv 3) (pv 6) (fun _ _ => rfl)))) pa_nil))))))))
      (pss_one (ps_ret (pe_dget hu (pv 3) (pv 1) (fun _ _ => rfl)))))))), ?_⟩
    refine ⟨_, rfl, _, rfl, g, o, ks, suc, ad, k, rfl, G0, hk, fun H1 e1 => ?_⟩
    refine ⟨_, rfl, (n : Int), 0, 200, rfl, by omega, by omega, ?_⟩
    have G1 := G0.same e1
    -- found = {other: 0 ..}
    refine ⟨_, rfl, g, o, rfl, .inl ⟨_, G1.d, fun D1 nD1 => ?_⟩⟩
    refine dc_it (walk_keysS (d := g) (o := o) (ks := ks) (f := fun k => V.ref (ad k))) (fun i H' => Same H1 H' ∧ H' D1 = some (.dK (kvOf (ks.take i) fun x => .int (KM.nd suc 0 x)))) ⟨Same.knew nD1, upd_same⟩ (fun i H' _ hp => hp.1 _ _ G1.d) ?_ ?_
    · rintro i x H2 H3 hi ⟨a1, a2⟩ ⟨rfl, z, hz, rfl⟩
      refine ⟨rfl, tyes ?_⟩
      refine ⟨_, rfl, _, Sum.inr z, rfl, a2, ?_, a1.kput nD1, ?_⟩
      · rw [kv_len, List.length_take]
        exact sz100 (by omega)
      · rw [upd_same]
        exact congrArg (fun l => some (HO.dK l)) (putK_take G0.ok.gr.nd (f := fun x => .int (KM.nd suc 0 x)) hz)
    rintro H2 ⟨e2, d1⟩
    rw [List.take_length] at d1
    have G2 := G1.same e2
    -- for turn in range(many)
    refine ⟨_, rfl, (n : Int), rfl, by omega, by omega, ?_⟩
    rw [Int.toNat_natCast]
    refine for_it (walk_range (lo := 0) (n := n)) (fun i σ H' => ∃ fo y4, σ = [some (.ref g), some (.str k), some (.int (n : Int)), some (.ref fo), y4, none, none] ∧ Same H2 H' ∧ H' fo = some (.dK (kvOf ks fun x => .int (KM.nd suc i x))))
      ⟨D1, none, rfl, Same.refl H2, d1⟩ (fun _ _ _ _ _ => trivial) ?_ ?_
    · rintro i x σ H3 H4 hi ⟨fo, y4, rfl, a1, a2⟩ ⟨rfl, rfl⟩
      have G3 := G2.same a1
      refine ⟨_, rfl, g, o, rfl, .inl ⟨_, G3.d, fun D2 nD2 => ?_⟩⟩
      refine dc_it (walk_keysS (d := g) (o := o) (ks := ks) (f := fun k => V.ref (ad k))) (fun j H' => Same H4 H' ∧ H' D2 = some (.dK (kvOf (ks.take j) fun x => .int (KM.nd suc (i + 1) x)))) ⟨Same.knew nD2, upd_same⟩ (fun j H' _ hp => hp.1 _ _ G3.d) ?_ ?_
      · rintro j x H5 H6 hj ⟨b1, b2⟩ ⟨rfl, z, hz, rfl⟩
        have hzk : z ∈ ks := List.mem_of_getElem? hz
        have G5 := G3.same b1
        refine ⟨rfl, tyes ?_⟩
        refine ⟨_, rfl, ?_⟩
        -- sum([found[goal] for goal in growth[other]])
        refine ⟨_, rfl, _, rfl, g, _, rfl, G5.get hzk, ad z, rfl, ⟨_, G5.seq hzk⟩, fun L nL => ?_⟩
        refine lc_it (walk_tupS (K := K) (a := ad z) (xs := suc z)) (fun m H' => Same H6 H' ∧ H' L = some (.lst ((((suc z).take m).map (KM.nd suc i)).map V.int))) ⟨Same.knew nL, upd_same⟩ (fun m H' _ hp => hp.1.ktup (G5.seq hzk)) ?_ ?_
        · rintro m x H7 H8 hm ⟨c1, c2⟩ ⟨rfl, y, hy, rfl⟩
          have hyk : y ∈ ks := G0.ok.gr.cl z hzk y (List.mem_of_getElem? hy)
          have hrow := G0.ok.row z hzk
          refine ⟨rfl, tyes ?_⟩
          refine ⟨_, rfl, _, rfl, fo, _, rfl, dget_kv (.inl (c1 _ _ (b1 _ _ a2))) hyk, _, c2, ?_, c1.kput nL, ?_⟩
          · rw [List.length_map, List.length_map, List.length_take]
            exact sz100 (by omega)
          · rw [upd_same, take_next hy, List.map_append, List.map_append]
            rfl
        · rintro H7 ⟨c1, c2⟩
          rw [List.take_length] at c2
          refine ⟨L, (suc z).map (KM.nd suc i), rfl, SqL.of c2, 1, _, rfl, rfl, ?_⟩
          refine ⟨_, Sum.inr z, rfl, c1 _ _ b2, ?_, ?_, ?_⟩
          · rw [kv_len, List.length_take]
            exact sz100 (by omega)
          · exact (b1.trans c1).kput nD2
          · rw [upd_same]
            exact congrArg (fun l => some (HO.dK l)) (putK_take G0.ok.gr.nd (f := fun x => .int (KM.nd suc (i + 1) x)) hz)
      · rintro H5 ⟨b1, b2⟩
        rw [List.take_length] at b2
        exact ⟨D2, _, rfl, a1.trans b1, b2⟩
    · rintro σ H3 ⟨fo, y4, rfl, a1, a2⟩
      refine ⟨_, rfl, _, rfl, fo, _, rfl, dget_kv (.inl a2) hk, ?_⟩
      exact q _ ((e1.trans e2).trans a1)
end
end KW
end
section
set_option Elab.async false
set_option linter.all false
set_option maxRecDepth 100000
set_option maxHeartbeats 4000000
/-! K3: routes_from. -/
namespace KW
open PySem PySem.Spec PyProof.Rows L2
/- routes_from: slots 0 growth, 1 kind, 2 found, 3 waiting, 4 here, 5 index, 6 goal; cells [] -/
abbrev s_routes_from : Stmt := topS 19
abbrev N_routes_from : List Str := ["growth", "kind", "found", "waiting", "here", "index", "goal"]
theorem sc_routes_from : FnScope N_routes_from ["growth", "kind"] (defScope s_routes_from) := ⟨rfl, rfl, rfl, by decide +kernel, rfl, by decide +kernel, by decide +kernel⟩
/-- what is found so far: a tuple for each kind that is reached, and the kinds that wait -/
structure RF (H0 H : Hp) (suc : Str → List Str) (k : Str) (fo wa : Addr) (L : List Str) (ta : Str → Addr) (Wt : List Str) : Prop where
  same : Same H0 H
  f : H fo = some (.dK (kvOf L fun x => V.ref (ta x)))
  w : H wa = some (.lst (Wt.map V.str))
  nd : L.Nodup
  kk : k ∈ L
  re : ∀ x, x ∈ L → KM.Reach suc k x
  tp : ∀ x, x ∈ L → ∃ xs, H (ta x) = some (.tup xs) ∧ xs.length < L.length
  ws : ∀ x, x ∈ Wt → x ∈ L
theorem RF.more {H0 H : Hp} {suc : Str → List Str} {k : Str} {fo wa : Addr} {L : List Str} {ta : Str → Addr} {Wt : List Str} {p : Addr} {o : HO} (R : RF H0 H suc k fo wa L ta Wt) (n : H p = none) : RF H0 (upd H p o) suc k fo wa L ta Wt :=
  ⟨R.same.kadd n, upd_ne' R.f n, upd_ne' R.w n, R.nd, R.kk, R.re, fun x hx => let ⟨xs, h1, h2⟩ := R.tp x hx; ⟨xs, upd_ne' h1 n, h2⟩, R.ws⟩
theorem nodup_len : ∀ {L M : List Str}, L.Nodup → (∀ x, x ∈ L → x ∈ M) → L.length ≤ M.length := by
  intro L
  induction L with
  | nil => intro M _ _; exact Nat.zero_le _
  | cons a L ih =>
    intro M nd h
    have ha := h a List.mem_cons_self
    have h2 := ih (M := M.erase a) (List.nodup_cons.1 nd).2 fun x hx => by
      have ne : x ≠ a := fun e => (List.nodup_cons.1 nd).1 (e ▸ hx)
      exact (List.mem_erase_of_ne ne).2 (h x (List.mem_cons_of_mem _ hx))
    have h3 := List.length_erase_of_mem ha
    have h4 : 0 < M.length := List.length_pos_of_mem ha
    rw [List.length_cons]
    omega
theorem RF.len {H0 H : Hp} {ks : List Str} {suc : Str → List Str} {k : Str} {fo wa : Addr} {L : List Str} {ta : Str → Addr} {Wt : List Str} (R : RF H0 H suc k fo wa L ta Wt) (G : KM.Gr ks suc) (hk : k ∈ ks) : L.length ≤ ks.length :=
  nodup_len R.nd fun x hx => G.reach (R.re x hx) hk
section
variable {P : Program} {w : World} {K : PySem.W.Frag} {mg : Str → Option Value} {base : Heap}
def spRoutes : Sp := fun vs H Q _ => ∃ g o ks suc ad k, vs = [.ref g, .str k] ∧ Gw H g o ks suc ad ∧ k ∈ ks ∧
  ∀ (H' : Hp) (p : Addr) (L : List Str) (ta : Str → Addr), Same H H' → H p = none → H' p = some (.dK (kvOf L fun x => V.ref (ta x))) → L.Nodup → (∀ x, x ∈ L ↔ KM.Reach suc k x) → (∀ x, x ∈ L → ∃ xs, H' (ta x) = some (.tup xs) ∧ xs.length ≤ 12) → Q (.ref p) H'
theorem cal_routes_from (D : Df K mg "routes_from" s_routes_from ["growth", "kind"]) (B : Blt mg) : Cal P w K mg base 1 "routes_from" spRoutes := by
  refine cal_of D sc_routes_from (fun vs H Q E h => ?_) (fun f cdv A outer s H vs Q E hr h => ?_)
  · obtain ⟨g, o, ks, suc, ad, k, rfl, _⟩ := h
    rfl
  · obtain ⟨g, o, ks, suc, ad, k, rfl, G0, hk, q⟩ := h
    have hu := hu_of hr
    have l12 := G0.ok.twelve
    refine ⟨_, (pss_cons (ps_set (i := 2) sc_routes_from.nd rfl (.inl rfl) (pe_disp (pps_cons (pv 1) (pe_tup pa_nil) pps_nil) (by rfl) (by rfl) (fun z => by cases z) (by decide)))
      (pss_cons (ps_set (i := 3) sc_routes_from.nd rfl (.inl rfl) (pe_lst (pa_cons (pv 1) pa_nil)))
      (pss_cons (ps_while PassesOwn.never (pt_cmpR op_gt (pe_callB (kLen K rfl) (by rfl) B.len (by decide +kernel) (pa_cons (pv 3) pa_nil)) pe_int (nomark _))
        (pss_cons (ps_set (i := 4) sc_routes_from.nd rfl (.inl rfl) (pe_bm PySem.F.plainAttrs_list PySem.F.slot_list_pop PySem.F.type_list_pop mt_popAt (pv 3) (pa_cons pe_int pa_nil)))
        (pss_one (ps_for PassesOwn.never rfl (kPiE K rfl (by rfl) B.enumerate (pa_cons (pe_dget hu (pv 0) (pv 4) (fun _ _ => rfl)) pa_nil)) (pg_tup rfl (pgs_cons (pg_name (i := 5) sc_routes_from.nd rfl (.inl rfl)) (pgs_cons (pg_name (i := 6) sc_routes_from.nd rfl (.inl rfl)) pgs_nil)))
          (pss_one (ps_if (pt_cmp (pc_dnotin hu (pv 6) (pv 2)))
            (pss_cons (ps_dput hu (pv 2) (pv 6) (pe_op (kCatA K rfl) (pe_dget hu (pv 2) (pv 4) (fun _ _ => rfl)) (pe_tup (pa_cons (pe_tup (pa_cons (pv 4) (pa_cons (pv 5) pa_nil))) pa_nil))) rfl)
            (pss_one (ps_expr (pe_bm PySem.F.plainAttrs_list PySem.F.slot_list_append PySem.F.type_list_append mt_append (pv 3) (pa_cons (pv 6) pa_nil)))))
            pss_nil))))))
      (pss_one (ps_ret (pv 2)))))), ?_⟩
    -- found = {kind: ()}; waiting = [kind]
    intro fo nfo
    refine ⟨_, rfl, Nat.zero_le _, fun t nt => ?_⟩
    have nt0 : H t = none := by
      rw [upd_ne (fun e => by rw [e, upd_same] at nt; cases nt)] at nt
      exact nt
    have e1 : Same H (upd (upd H fo (.dK [])) t (.tup [])) := (Same.knew nfo).kput nt0
    have f1 : (upd (upd H fo (.dK [])) t (.tup [])) fo = some (.dK []) := upd_ne' upd_same nt
    refine ⟨f1, [((Sum.inr k : Key), .ref t)], rfl, by simp, ?_⟩
    refine ⟨_, rfl, by show 1 ≤ sizeLine; decide, fun wa nwa => ?_⟩
    have tfo : t ≠ fo := ne_of (H := upd (upd H fo (.dK [])) t (.tup [])) upd_same f1 (by intro z; cases z)
    have R0 : RF H (upd (upd (upd (upd H fo (.dK [])) t (.tup [])) fo (.dK (mergeK [] [((Sum.inr k : Key), V.ref t)]))) wa (.lst [.str k])) suc k fo wa [k] (fun _ => t) [k] := by
      have a1 : (upd (upd (upd H fo (.dK [])) t (.tup [])) fo (.dK (mergeK [] [((Sum.inr k : Key), V.ref t)]))) fo = some (.dK (kvOf [k] fun _ => V.ref t)) := upd_same
      refine ⟨(e1.kput nfo).kadd nwa, upd_ne' a1 nwa, upd_same, List.nodup_cons.2 ⟨List.not_mem_nil, List.nodup_nil⟩, List.mem_cons_self, fun x hx => ?_, fun x hx => ⟨[], ?_, by simp⟩, fun x hx => hx⟩
      · rw [List.mem_singleton.1 hx]
        exact .refl
      · refine upd_ne' ?_ nwa
        rw [upd_ne tfo, upd_same]
    -- while len(waiting) > 0
    refine ⟨fun m σ H' => ∃ L ta Wt y4 y5 y6, σ = [some (.ref g), some (.str k), some (.ref fo), some (.ref wa), y4, y5, y6] ∧ RF H H' suc k fo wa L ta Wt ∧ (∀ x, x ∈ L → x ∈ Wt ∨ ∀ y, y ∈ suc x → y ∈ L) ∧ m = 2 * (ks.length - L.length) + Wt.length ∧ m ≤ 24,
      ⟨_, [k], fun _ => t, [k], none, none, none, rfl, R0, fun x hx => .inl hx, rfl, by simp only [List.length_cons, List.length_nil]; omega⟩, ?_⟩
    rintro m σ H1 ⟨L, ta, Wt, y4, y5, y6, rfl, R1, cl1, em, m24⟩
    refine ⟨_, rfl, wa, _, rfl, .inl (SqL.of R1.w), _, _, rfl, rfl, _, rfl, ?_⟩
    rw [List.length_map]
    cases Wt with
    | nil =>
      rw [decide_eq_false (show ¬ (0 : Int) < (([] : List Str).length : Int) by simp)]
      refine iteF ?_
      -- return found
      refine ⟨_, rfl, q _ fo L ta R1.same nfo R1.f R1.nd (fun x => ⟨R1.re x, fun r => ?_⟩) fun x hx => ?_⟩
      · refine r.closed (P := fun x => x ∈ L) (fun x hx y hy => ?_) R1.kk
        rcases cl1 x hx with z | z
        · cases z
        · exact z y hy
      · obtain ⟨xs, h1, h2⟩ := R1.tp x hx
        have := R1.len G0.ok.gr hk
        exact ⟨xs, h1, by omega⟩
    | cons here Wr =>
      rw [decide_eq_true (show (0 : Int) < ((here :: Wr).length : Int) by simp)]
      refine iteT ⟨fun σ' H' => ∃ m', m' < m ∧ ∃ L ta Wt y4 y5 y6, σ' = [some (.ref g), some (.str k), some (.ref fo), some (.ref wa), y4, y5, y6] ∧ RF H H' suc k fo wa L ta Wt ∧ (∀ x, x ∈ L → x ∈ Wt ∨ ∀ y, y ∈ suc x → y ∈ L) ∧ m' = 2 * (ks.length - L.length) + Wt.length ∧ m' ≤ 24,
        fun σ' H' hN => hN, ?_⟩
      have hhL : here ∈ L := R1.ws here List.mem_cons_self
      have hhk : here ∈ ks := G0.ok.gr.reach (R1.re here hhL) hk
      -- here = waiting.pop(0)
      refine ⟨_, rfl, .inl ⟨rfl, _, SqL.of R1.w⟩, wa, _, 0, 0, .str here, rfl, rfl, R1.w, by decide, by decide, by simp [seqIndex?], rfl, ?_⟩
      have fw : fo ≠ wa := ne_of R1.f R1.w (by intro z; cases z)
      have nwaH : H wa = none := (e1.kput nfo).free nwa
      have R2 : RF H (upd H1 wa (.lst (Wr.map V.str))) suc k fo wa L ta Wr := by
        refine ⟨R1.same.kput nwaH, upd_of R1.f R1.w (by intro z; cases z), upd_same, R1.nd, R1.kk, R1.re, fun x hx => ?_, fun x hx => R1.ws x (List.mem_cons_of_mem _ hx)⟩
        obtain ⟨xs, h1, h2⟩ := R1.tp x hx
        exact ⟨xs, upd_of h1 R1.w (by intro z; cases z), h2⟩
      have G2 := G0.same R2.same
      -- for index, goal in enumerate(growth[here])
      refine ⟨_, rfl, _, rfl, g, _, rfl, G2.get hhk, ad here, _, rfl, G2.seq hhk, ?_⟩
      refine for_it (walk_enumTS (K := K) (a := ad here) (xs := suc here)) (fun i σ H' => ∃ L' ta' Wt' y5 y6, σ = [some (.ref g), some (.str k), some (.ref fo), some (.ref wa), some (.str here), y5, y6] ∧ RF H H' suc k fo wa L' ta' Wt' ∧
          (∀ x, x ∈ L' → x ∈ Wt' ∨ x = here ∨ ∀ y, y ∈ suc x → y ∈ L') ∧ (∀ y, y ∈ (suc here).take i → y ∈ L') ∧ here ∈ L' ∧ 2 * (ks.length - L'.length) + Wt'.length ≤ 2 * (ks.length - L.length) + Wr.length)
        ⟨L, ta, Wr, y5, y6, rfl, R2, fun x hx => ?_, fun y hy => (by simp at hy), hhL, Nat.le_refl _⟩ (fun i σ H' _ hp => ?_) ?_ ?_
      · rcases cl1 x hx with z | z
        · rcases List.mem_cons.1 z with z | z
          · exact .inr (.inl z)
          · exact .inl z
        · exact .inr (.inr z)
      · obtain ⟨_, _, _, _, _, _, R, _⟩ := hp
        exact (G0.same R.same).seq hhk
      · rintro i x σ H3 H4 hi ⟨L', ta', Wt', y5, y6, rfl, R3, cl3, tk3, hh3, mu3⟩ ⟨T, goal, rfl, nT, rfl, hg⟩
        have hgs : goal ∈ suc here := List.mem_of_getElem? hg
        have hgk : goal ∈ ks := G0.ok.gr.cl here hhk goal hgs
        have R4 := R3.more (o := .tup [.int (i : Nat), .str goal]) nT
        refine ⟨T, [.int (i : Nat), .str goal], rfl, SqT.of upd_same, rfl, _, [.str goal], rfl, _, [], rfl, rfl, ?_⟩
        -- if goal not in found
        obtain ⟨r, hr1, hr2⟩ := dhas_kv (.inl R4.f) goal
        refine ⟨_, rfl, _, rfl, fo, r, rfl, hr1, _, rfl, ?_⟩
        rw [hr2]
        by_cases hm : goal ∈ L'
        · rw [decide_eq_true hm]
          refine iteF ?_
          refine ⟨L', ta', Wt', _, _, rfl, R4, cl3, fun y hy => ?_, hh3, mu3⟩
          rw [take_next hg] at hy
          rcases List.mem_append.1 hy with z | z
          · exact tk3 y z
          · rw [List.mem_singleton.1 z]
            exact hm
        · rw [decide_eq_false hm]
          refine iteT ?_
          obtain ⟨xs, hx1, hx2⟩ := R4.tp here hh3
          have hL' := R4.len G0.ok.gr hk
          refine ⟨_, rfl, _, rfl, fo, _, rfl, dget_kv (.inl R4.f) hh3, ?_⟩
          refine ⟨_, rfl, _, rfl, by show 2 ≤ sizeLine; decide, fun T1 n1 => ⟨by show 1 ≤ sizeLine; decide, fun T2 n2 => ?_⟩⟩
          have R5 := (R4.more (o := .tup [.str here, .int (i : Nat)]) n1).more (o := .tup [.ref T1]) n2
          have hx5 := upd_ne' (o := .tup [.ref T1]) (upd_ne' (o := .tup [.str here, .int (i : Nat)]) hx1 n1) n2
          -- found[goal] = ..; waiting.append(goal)
          have fin : ∀ (tn : Addr) (H5 : Hp) (zs : List V) (E : Ends), RF H H5 suc k fo wa L' ta' Wt' → H5 tn = some (.tup zs) → zs.length = xs.length + 1 →
              (∀ σ H', (∃ L' ta' Wt' y5 y6, σ = [some (.ref g), some (.str k), some (.ref fo), some (.ref wa), some (.str here), y5, y6] ∧ RF H H' suc k fo wa L' ta' Wt' ∧
                (∀ x, x ∈ L' → x ∈ Wt' ∨ x = here ∨ ∀ y, y ∈ suc x → y ∈ L') ∧ (∀ y, y ∈ (suc here).take (i + 1) → y ∈ L') ∧ here ∈ L' ∧ 2 * (ks.length - L'.length) + Wt'.length ≤ 2 * (ks.length - L.length) + Wr.length) → E.nx σ H') →
              tSeq (sDPut (tVar 2) (tVar 6) (fun _ _ Q => Q (.ref tn) H5)) (tDrop (tBM K "list" rAppend (tVar 3) (tCons (tVar 6) tNil))) E
                [some (.ref g), some (.str k), some (.ref fo), some (.ref wa), some (.str here), some (.int (i : Nat)), some (.str goal)] H5 := by
            intro tn H5 zs E R hz hl hE
            refine ⟨_, rfl, _, rfl, fo, _, rfl, DPut.k (k := Sum.inr goal) R.f ?_, ?_⟩
            · rw [kv_len]
              exact sz100 (by omega)
            · have ew : (upd H5 fo (.dK (putK (kvOf L' fun x => V.ref (ta' x)) (Sum.inr goal : Key) (.ref tn)))) wa = some (.lst (Wt'.map V.str)) := upd_of R.w R.f (by intro z; cases z)
              refine ⟨_, rfl, .inl ⟨rfl, _, SqL.of ew⟩, _, rfl, wa, _, _, rfl, rfl, ew, ?_, ?_⟩
              · rw [List.length_map]
                rw [List.length_cons] at em
                exact sz100 (by omega)
              · have lt : L'.length < ks.length := by
                  have nd2 : (goal :: L').Nodup := List.nodup_cons.2 ⟨hm, R.nd⟩
                  have := nodup_len nd2 (M := ks) fun x hx => by
                    rcases List.mem_cons.1 hx with z | z
                    · rw [z]
                      exact hgk
                    · exact G0.ok.gr.reach (R.re x z) hk
                  rw [List.length_cons] at this
                  omega
                refine hE _ _ ⟨L' ++ [goal], fun x => if x = goal then tn else ta' x, Wt' ++ [goal], _, _, rfl, ⟨?_, ?_, ?_, ?_, ?_, ?_, ?_, ?_⟩, fun x hx => ?_, fun y hy => ?_, List.mem_append_left _ hh3, ?_⟩
                · exact (R.same.kput nfo).kput nwaH
                · refine upd_of ?_ ew (by intro z; cases z)
                  rw [upd_same, putK_add hm]
                  refine congrArg (fun l => some (HO.dK l)) (kv_congr fun x _ => ?_)
                  by_cases e : x = goal
                  · rw [if_pos e, if_pos e]
                  · rw [if_neg e, if_neg e]
                · rw [upd_same, List.map_append]
                  rfl
                · refine List.nodup_append.2 ⟨R.nd, List.nodup_cons.2 ⟨List.not_mem_nil, List.nodup_nil⟩, fun a ha b hb e => ?_⟩
                  rw [List.mem_singleton.1 hb] at e
                  exact hm (e ▸ ha)
                · exact List.mem_append_left _ R.kk
                · intro x hx
                  rcases List.mem_append.1 hx with z | z
                  · exact R.re x z
                  · rw [List.mem_singleton.1 z]
                    exact (R.re here hh3).snoc hgs
                · intro x hx
                  rw [List.length_append, List.length_singleton]
                  by_cases e : x = goal
                  · rw [if_pos e]
                    exact ⟨zs, upd_of (upd_of hz R.f (by intro z; cases z)) ew (by intro z; cases z), by omega⟩
                  · rw [if_neg e]
                    rcases List.mem_append.1 hx with z | z
                    · obtain ⟨ys, h1, h2⟩ := R.tp x z
                      exact ⟨ys, upd_of (upd_of h1 R.f (by intro z; cases z)) ew (by intro z; cases z), by omega⟩
                    · exact absurd (List.mem_singleton.1 z) e
                · intro x hx
                  rcases List.mem_append.1 hx with z | z
                  · exact List.mem_append_left _ (R.ws x z)
                  · exact List.mem_append_right _ z
                · rcases List.mem_append.1 hx with z | z
                  · rcases cl3 x z with a | a | a
                    · exact .inl (List.mem_append_left _ a)
                    · exact .inr (.inl a)
                    · exact .inr (.inr fun y hy => List.mem_append_left _ (a y hy))
                  · exact .inl (List.mem_append_right _ z)
                · rw [take_next hg] at hy
                  rcases List.mem_append.1 hy with z | z
                  · exact List.mem_append_left _ (tk3 y z)
                  · exact List.mem_append_right _ z
                · rw [List.length_append, List.length_append, List.length_singleton]
                  omega
          refine ⟨ta' here, T2, xs, [.ref T1], rfl, rfl, SqT.of hx5, SqT.of upd_same, ?_, fun e => ?_, fun _ e => ?_, fun _ _ p np => ?_⟩
          · rw [List.length_singleton]
            exact sz100' (by omega)
          · refine fin T2 _ [.ref T1] _ R5 upd_same ?_ fun _ _ h => h
            rw [e]
            rfl
          · cases e
          · exact fin p _ (xs ++ [.ref T1]) _ (R5.more np) upd_same (by rw [List.length_append, List.length_singleton]) fun _ _ h => h
      · rintro σ H3 ⟨L', ta', Wt', y5, y6, rfl, R3, cl3, tk3, hh3, mu3⟩
        rw [List.take_length] at tk3
        rw [List.length_cons] at em
        refine ⟨_, ?_, L', ta', Wt', _, _, _, rfl, R3, fun x hx => ?_, rfl, ?_⟩
        · omega
        · rcases cl3 x hx with z | z | z
          · exact .inl z
          · rw [z]
            exact .inr tk3
          · exact .inr z
        · omega
end
end KW
end
section
set_option Elab.async false
set_option linter.all false
set_option maxRecDepth 100000
set_option maxHeartbeats 4000000
/-! K4: rounds_at. -/
namespace KW
open PySem PySem.Spec PyProof.Rows L2
/- rounds_at: slots 0 growth, 1 routes, 2 kind, 3 found, 4 index, 5 goal; cells [] -/
abbrev s_rounds_at : Stmt := topS 20
abbrev N_rounds_at : List Str := ["growth", "routes", "kind", "found", "index", "goal"]
theorem sc_rounds_at : FnScope N_rounds_at ["growth", "routes", "kind"] (defScope s_rounds_at) := ⟨rfl, rfl, rfl, by decide +kernel, rfl, by decide +kernel, by decide +kernel⟩
/-- the routes from each kind, as they may be read -/
structure Rw (H : Hp) (r : Addr) (ks : List Str) (suc : Str → List Str) (rad : Str → Addr) (rk : Str → List Str) (ra : Str → Str → Addr) : Prop where
  d : Rd H r (.dK (kvOf ks fun k => V.ref (rad k)))
  t : ∀ k, k ∈ ks → Rd H (rad k) (.dK (kvOf (rk k) fun x => V.ref (ra k x)))
  nd : ∀ k, k ∈ ks → (rk k).Nodup
  re : ∀ k, k ∈ ks → ∀ x, x ∈ rk k ↔ KM.Reach suc k x
  tp : ∀ k, k ∈ ks → ∀ x, x ∈ rk k → ∃ xs, H (ra k x) = some (.tup xs) ∧ xs.length ≤ 12
theorem Rw.same {H H' : Hp} {r : Addr} {ks : List Str} {suc : Str → List Str} {rad : Str → Addr} {rk : Str → List Str} {ra : Str → Str → Addr} (R : Rw H r ks suc rad rk ra) (e : Same H H') : Rw H' r ks suc rad rk ra :=
  ⟨e.krd R.d, fun k hk => e.krd (R.t k hk), R.nd, R.re, fun k hk x hx => let ⟨xs, h1, h2⟩ := R.tp k hk x hx; ⟨xs, e _ _ h1, h2⟩⟩
section
variable {P : Program} {w : World} {K : PySem.W.Frag} {mg : Str → Option Value} {base : Heap}
def spRounds : Sp := fun vs H Q _ => ∃ g o ks suc ad r rad rk ra k, vs = [.ref g, .ref r, .str k] ∧ Gw H g o ks suc ad ∧ Rw H r ks suc rad rk ra ∧ k ∈ ks ∧
  ∀ (H' : Hp) (p : Addr) (xs : List V), Same H H' → H p = none → H' p = some (.lst xs) → xs.length = (KM.outs suc k).length → Q (.ref p) H'
open Classical in
theorem cal_rounds_at (D : Df K mg "rounds_at" s_rounds_at ["growth", "routes", "kind"]) (B : Blt mg) : Cal P w K mg base 1 "rounds_at" spRounds := by
  refine cal_of D sc_rounds_at (fun vs H Q E h => ?_) (fun f cdv A outer s H vs Q E hr h => ?_)
  · obtain ⟨g, o, ks, suc, ad, r, rad, rk, ra, k, rfl, _⟩ := h
    rfl
  · obtain ⟨g, o, ks, suc, ad, r, rad, rk, ra, k, rfl, G0, R0, hk, q⟩ := h
    have hu := hu_of hr
    have hrow := G0.ok.row k hk
    refine ⟨_, (pss_cons (ps_set (i := 3) sc_rounds_at.nd rfl (.inl rfl) (pe_lst pa_nil))
      (pss_cons (ps_for PassesOwn.never rfl (kPiE K rfl (by rfl) B.enumerate (pa_cons (pe_dget hu (pv 0) (pv 2) (fun _ _ => rfl)) pa_nil)) (pg_tup rfl (pgs_cons (pg_name (i := 4) sc_rounds_at.nd rfl (.inl rfl)) (pgs_cons (pg_name (i := 5) sc_rounds_at.nd rfl (.inl rfl)) pgs_nil)))
        (pss_one (ps_if (pt_cmp (pc_din hu (pv 2) (pe_dget hu (pv 1) (pv 5) (fun _ _ => rfl))))
          (pss_one (ps_expr (pe_bm PySem.F.plainAttrs_list PySem.F.slot_list_append PySem.F.type_list_append mt_append (pv 3) (pa_cons (pe_op (kCatA K rfl) (pe_tup (pa_cons (pe_tup (pa_cons (pv 2) (pa_cons (pv 4) pa_nil))) pa_nil)) (pe_dget hu (pe_dget hu (pv 1) (pv 5) (fun _ _ => rfl)) (pv 2) (fun _ _ => rfl))) pa_nil))))
          pss_nil)))
      (pss_one (ps_ret (pv 3))))), ?_⟩
    refine ⟨Nat.zero_le _, fun fo nfo => ?_⟩
    have e0 : Same H (upd H fo (.lst [])) := Same.knew nfo
    refine ⟨_, rfl, _, rfl, g, _, rfl, (G0.same e0).get hk, ad k, _, rfl, (G0.same e0).seq hk, ?_⟩
    refine for_it (walk_enumTS (K := K) (a := ad k) (xs := suc k)) (fun i σ H' => ∃ (xs : List V) (y4 y5 : Option V), σ = [some (.ref g), some (.ref r), some (.str k), some (.ref fo), y4, y5] ∧ Same H H' ∧ H' fo = some (.lst xs) ∧
        xs.length = (((suc k).take i).filter fun z => decide (KM.Reach suc z k)).length) ⟨[], none, none, rfl, e0, upd_same, rfl⟩ (fun i σ H' _ hp => ?_) ?_ ?_
    · obtain ⟨_, _, _, _, e, _⟩ := hp
      exact (G0.same e).seq hk
    · rintro i x σ H1 H2 hi ⟨xs, y4, y5, rfl, e1, f1, hl⟩ ⟨T, goal, rfl, nT, rfl, hg⟩
      have hgk : goal ∈ ks := G0.ok.gr.cl k hk goal (List.mem_of_getElem? hg)
      have e2 := e1.kadd (o := .tup [.int (i : Nat), .str goal]) nT
      have f2 := upd_ne' (o := .tup [.int (i : Nat), .str goal]) f1 nT
      have R2 := R0.same e2
      have hxl : xs.length ≤ 4 := by
        rw [hl]
        exact Nat.le_trans (List.length_filter_le _ _) (by rw [List.length_take]; omega)
      have hfl : (((suc k).take (i + 1)).filter fun z => decide (KM.Reach suc z k)).length = xs.length + (if KM.Reach suc goal k then 1 else 0) := by
        rw [take_next hg, List.filter_append, List.length_append, ← hl]
        congr 1
        by_cases h : KM.Reach suc goal k
        · rw [if_pos h, List.filter_cons_of_pos (by rw [decide_eq_true h])]
          rfl
        · rw [if_neg h, List.filter_cons_of_neg (by rw [decide_eq_false h]; exact Bool.false_ne_true)]
          rfl
      refine ⟨T, [.int (i : Nat), .str goal], rfl, SqT.of upd_same, rfl, _, [.str goal], rfl, _, [], rfl, rfl, ?_⟩
      -- if kind in routes[goal]
      obtain ⟨rr, hr1, hr2⟩ := dhas_kv (R2.t goal hgk) k
      refine ⟨_, rfl, _, rfl, _, rfl, r, _, rfl, dget_kv R2.d hgk, rad goal, rr, rfl, hr1, _, rfl, ?_⟩
      rw [hr2]
      by_cases hm : k ∈ rk goal
      · rw [decide_eq_true hm]
        have hre : KM.Reach suc goal k := (R2.re goal hgk k).1 hm
        refine iteT ?_
        refine ⟨.ref fo, rfl, .inl ⟨rfl, _, SqL.of f2⟩, ?_⟩
        refine ⟨_, rfl, _, rfl, by show 2 ≤ sizeLine; decide, fun T1 n1 => ⟨by show 1 ≤ sizeLine; decide, fun T2 n2 => ?_⟩⟩
        have e4 := (e2.kadd (o := .tup [.str k, .int (i : Nat)]) n1).kadd (o := .tup [.ref T1]) n2
        have f4 := upd_ne' (o := .tup [.ref T1]) (upd_ne' (o := .tup [.str k, .int (i : Nat)]) f2 n1) n2
        have R4 := R0.same e4
        obtain ⟨ys, hy1, hy2⟩ := R4.tp goal hgk k hm
        refine ⟨_, rfl, _, rfl, r, _, rfl, dget_kv R4.d hgk, _, rfl, rad goal, _, rfl, dget_kv (R4.t goal hgk) hm, ?_⟩
        have fin : ∀ (H5 : Hp) (p : Addr), Same H H5 → H5 fo = some (.lst xs) → ∃ l xs' y, V.ref fo = V.ref l ∧ [V.ref p] = [y] ∧ H5 l = some (.lst xs') ∧ xs'.length < sizeLine ∧
            ∃ (xs : List V) (y4 y5 : Option V), [some (V.ref g), some (V.ref r), some (V.str k), some (V.ref fo), some (V.int (i : Nat)), some (V.str goal)] = [some (V.ref g), some (V.ref r), some (V.str k), some (V.ref fo), y4, y5] ∧ Same H (upd H5 l (.lst (xs' ++ [y]))) ∧
              (upd H5 l (.lst (xs' ++ [y]))) fo = some (.lst xs) ∧ xs.length = (((suc k).take (i + 1)).filter fun z => decide (KM.Reach suc z k)).length := by
          intro H5 p e5 f5
          refine ⟨fo, xs, .ref p, rfl, rfl, f5, sz100 (by omega), xs ++ [.ref p], _, _, rfl, e5.kput nfo, upd_same, ?_⟩
          rw [hfl, if_pos hre, List.length_append, List.length_singleton]
        refine ⟨T2, ra goal k, [.ref T1], ys, rfl, rfl, SqT.of upd_same, SqT.of hy1, ?_, fun e => ?_, fun _ e => ?_, fun _ _ p np => ?_⟩
        · rw [List.length_singleton]
          exact sz100' (by omega)
        · cases e
        · exact fin _ T2 e4 f4
        · exact fin _ p (e4.kadd np) (upd_ne' f4 np)
      · rw [decide_eq_false hm]
        refine iteF ?_
        refine ⟨xs, _, _, rfl, e2, f2, ?_⟩
        rw [hfl, if_neg fun h => hm ((R2.re goal hgk k).2 h)]
        rfl
    · rintro σ H1 ⟨xs, y4, y5, rfl, e1, f1, hl⟩
      rw [List.take_length] at hl
      exact ⟨_, rfl, q _ fo xs e1 nfo f1 hl⟩
end
end KW
end
section
set_option Elab.async false
set_option linter.all false
set_option maxRecDepth 100000
set_option maxHeartbeats 4000000
/-! K5: degree_of. -/
namespace KW
open PySem PySem.Spec PyProof.Rows L2
/- degree_of: slots 0 growth, 1 routes, 2 kind, 3 most, 4 turn, 5 other, 6 ring, 7 goals, 8 more, 9 goal; cells ['growth', 'most', 'other', 'ring', 'routes'] -/
abbrev s_degree_of : Stmt := topS 21
abbrev N_degree_of : List Str := ["growth", "routes", "kind", "most", "turn", "other", "ring", "goals", "more", "goal"]
theorem sc_degree_of : FnScope N_degree_of ["growth", "routes", "kind"] (defScope s_degree_of) := ⟨rfl, rfl, rfl, by decide +kernel, rfl, by decide +kernel, by decide +kernel⟩
theorem rd_lock {H : Hp} {d a : Addr} {od : Obj} {kvs : List (Key × V)} {v : HO} (hd : H d = some (.dK kvs)) (h : Rd H a v) : Rd (upd H d (.frz od (.dK kvs))) a v := by
  by_cases e : a = d
  · subst e
    rcases h with h | ⟨o, h⟩
    · rw [hd] at h
      cases h
      exact .inr ⟨od, upd_same⟩
    · rw [hd] at h
      cases h
  · rcases h with h | ⟨o, h⟩
    · exact .inl (by rw [upd_ne e]; exact h)
    · exact .inr ⟨o, by rw [upd_ne e]; exact h⟩
theorem Rw.lock {H : Hp} {r d : Addr} {od : Obj} {kvs : List (Key × V)} {ks : List Str} {suc : Str → List Str} {rad : Str → Addr} {rk : Str → List Str} {ra : Str → Str → Addr} (R : Rw H r ks suc rad rk ra) (hd : H d = some (.dK kvs)) :
    Rw (upd H d (.frz od (.dK kvs))) r ks suc rad rk ra :=
  ⟨rd_lock hd R.d, fun k hk => rd_lock hd (R.t k hk), R.nd, R.re, fun k hk x hx => let ⟨xs, h1, h2⟩ := R.tp k hk x hx; ⟨xs, upd_of h1 hd (by intro z; cases z), h2⟩⟩
theorem Gw.lock {H : Hp} {g d : Addr} {o od : Obj} {kvs : List (Key × V)} {ks : List Str} {suc : Str → List Str} {ad : Str → Addr} (G : Gw H g o ks suc ad) (hd : H d = some (.dK kvs)) : Gw (upd H d (.frz od (.dK kvs))) g o ks suc ad :=
  ⟨G.ok, upd_of G.d hd (by intro z; cases z), fun k hk => upd_of (G.t k hk) hd (by intro z; cases z)⟩
theorem unlock {H H' : Hp} {d : Addr} {u v : HO} (hd : H d = some u) (e : Same (upd H d v) H') : Same H (upd H' d u) := fun b x hb => by
  by_cases q : b = d
  · subst q
    rw [hd] at hb
    rw [upd_same]
    exact hb
  · rw [upd_ne q]
    exact e b x (by rw [upd_ne q]; exact hb)
/-- .. when none of them is locked -/
structure Rp (H : Hp) (r : Addr) (ks : List Str) (suc : Str → List Str) (rad : Str → Addr) (rk : Str → List Str) (ra : Str → Str → Addr) : Prop where
  w : Rw H r ks suc rad rk ra
  p : ∀ k, k ∈ ks → H (rad k) = some (.dK (kvOf (rk k) fun x => V.ref (ra k x)))
theorem Rp.same {H H' : Hp} {r : Addr} {ks : List Str} {suc : Str → List Str} {rad : Str → Addr} {rk : Str → List Str} {ra : Str → Str → Addr} (R : Rp H r ks suc rad rk ra) (e : Same H H') : Rp H' r ks suc rad rk ra :=
  ⟨R.w.same e, fun k hk => e _ _ (R.p k hk)⟩
section
variable {P : Program} {w : World} {K : PySem.W.Frag} {mg : Str → Option Value} {base : Heap}
def spDegree : Sp := fun vs H Q _ => ∃ g o ks suc ad r rad rk ra k, vs = [.ref g, .ref r, .str k] ∧ Gw H g o ks suc ad ∧ Rp H r ks suc rad rk ra ∧ k ∈ ks ∧ ∀ H', Same H H' → Q (.int (KM.deg ks suc k)) H'
theorem cal_degree_of (D : Df K mg "degree_of" s_degree_of ["growth", "routes", "kind"]) (B : Blt mg) (c_rounds_at : Cal P w K mg base 1 "rounds_at" spRounds) : Cal P w K mg base 2 "degree_of" spDegree := by
  refine cal_of D sc_degree_of (fun vs H Q E h => ?_) (fun f cdv A outer s H vs Q E hr h => ?_)
  · obtain ⟨g, o, ks, suc, ad, r, rad, rk, ra, k, rfl, _⟩ := h
    rfl
  · obtain ⟨g, o, ks, suc, ad, r, rad, rk, ra, k, rfl, G0, R0, hk, q⟩ := h
    have hu := hu_of hr
    have l12 := G0.ok.twelve
    refine ⟨_, (pss_cons (ps_set (i := 3) sc_degree_of.nd rfl (.inr rfl) (pe_dc (own := [("other", 5)]) (g := gName 5) rfl sc_degree_of.nd (pi_keys (pv 0)) (blkOk_by (N := N_degree_of) (sc := defScope s_degree_of) (own := [("other", 5)]) (by decide +kernel)) (fun _ _ _ _ _ => pg_name (i := 5) sc_degree_of.nd rfl (by first | exact .inl rfl | exact .inr rfl)) (fun _ _ _ _ _ => pts_nil) (fun _ _ _ _ _ => (pv 5)) (fun _ _ _ _ _ => pe_int)))
      (pss_cons (ps_for PassesOwn.never rfl (pi_range1 (by rfl) B.range (pa_cons (pe_op op_add (pe_callB call_lenR (by rfl) B.len (by decide +kernel) (pa_cons (pv 0) pa_nil)) pe_int) pa_nil)) (pg_name (i := 4) sc_degree_of.nd rfl (.inl rfl))
        (pss_one (ps_for PassesOwn.never rfl (pi_keys (pv 0)) (pg_name (i := 5) sc_degree_of.nd rfl (.inr rfl))
          (pss_cons (ps_set (i := 6) sc_degree_of.nd rfl (.inr rfl) (pe_lock (pe_lc (own := [("more", 8)]) (g := gName 8) rfl sc_degree_of.nd (pi_keys (pe_dget hu (pv 1) (pv 5) (fun _ _ => rfl))) (blkOk_by (N := N_degree_of) (sc := defScope s_degree_of) (own := [("more", 8)]) (by decide +kernel)) (fun _ _ _ _ _ => pg_name (i := 8) sc_degree_of.nd rfl (by first | exact .inl rfl | exact .inr rfl)) (fun _ _ _ _ _ => (pts_one (pt_cmp (pc_din hu (pv 5) (pe_dget hu (pv 1) (pv 8) (fun _ _ => rfl)))))) (fun _ _ _ _ _ => (pv 8)))))
          (pss_cons (ps_setLc2 (i := 7) (own := [("more", 8), ("goal", 9)]) (vs1 := [9]) (g1 := gName 9) (g := gName 8) rfl sc_degree_of.nd rfl rfl (sw_true rfl rfl rfl (by decide +kernel)) (kPiL K rfl (pv 6)) (blkOk_by (N := N_degree_of) (sc := defScope s_degree_of) (own := [("more", 8), ("goal", 9)]) (by decide +kernel)) (by decide) (fun _ _ _ _ _ => pg_name (i := 8) sc_degree_of.nd rfl (by first | exact .inl rfl | exact .inr rfl)) (fun _ _ _ _ _ => pts_nil) (fun _ _ _ _ _ => (kPiT K rfl (pe_dget hu (pv 0) (pv 8) (fun _ _ => rfl)))) (fun _ _ _ _ _ => pg_name (i := 9) sc_degree_of.nd rfl (by first | exact .inl rfl | exact .inr rfl)) (fun _ _ _ _ _ => (pts_one (pt_cmpR (kNotIn K rfl) (pv 9) (pv 6) (by rfl)))) (fun _ _ _ _ _ => (pv 9)))
          (pss_one (ps_dput hu (pv 3) (pv 5) (pe_op op_add (pe_callTy call_int1 (by rfl) B.int (by decide +kernel) (pa_cons (pe_cmpR op_gt (pe_callB (kLen K rfl) (by rfl) B.len (by decide +kernel) (pa_cons (pe_cal c_rounds_at hr (by decide) (by rfl) (pa_cons (pv 0) (pa_cons (pv 1) (pa_cons (pv 5) pa_nil)))) pa_nil)) pe_int (nomark _)) pa_nil)) (pe_callB (kMax K rfl rfl) (by rfl) B.max (by decide +kernel) (pa_cons (pe_op op_cat (pe_lst (pa_cons pe_int pa_nil)) (pe_lc (own := [("goal", 9)]) (g := gName 9) rfl sc_degree_of.nd (kPiL K rfl (pv 7)) (blkOk_by (N := N_degree_of) (sc := defScope s_degree_of) (own := [("goal", 9)]) (by decide +kernel)) (fun _ _ _ _ _ => pg_name (i := 9) sc_degree_of.nd rfl (by first | exact .inl rfl | exact .inr rfl)) (fun _ _ _ _ _ => pts_nil) (fun _ _ _ _ _ => (pe_dget hu (pv 3) (pv 9) (fun _ _ => rfl))))) pa_nil))) rfl)))))))
      (pss_one (ps_ret (pe_dget hu (pv 3) (pv 2) (fun _ _ => rfl)))))), ?_⟩
    -- most = {other: 0 ..}
    refine ⟨_, rfl, g, o, rfl, .inl ⟨_, G0.d, fun mo nmo => ?_⟩⟩
    refine dc_it (walk_keysS (d := g) (o := o) (ks := ks) (f := fun k => V.ref (ad k))) (fun i H' => Same H H' ∧ H' mo = some (.dK (kvOf (ks.take i) fun x => .int (KM.rounds ks suc 0 x)))) ⟨Same.knew nmo, upd_same⟩ (fun i H' _ hp => hp.1 _ _ G0.d) ?_ ?_
    · rintro i x H2 H3 hi ⟨a1, a2⟩ ⟨rfl, z, hz, rfl⟩
      refine ⟨rfl, tyes ?_⟩
      refine ⟨_, rfl, _, Sum.inr z, rfl, a2, ?_, a1.kput nmo, ?_⟩
      · rw [kv_len, List.length_take]
        exact sz100 (by omega)
      · rw [upd_same]
        exact congrArg (fun l => some (HO.dK l)) (putK_take G0.ok.gr.nd (f := fun x => .int (KM.rounds ks suc 0 x)) hz)
    rintro H2 ⟨e2, d2⟩
    rw [List.take_length] at d2
    -- for turn in range(len(growth) + 1)
    refine ⟨_, rfl, g, _, rfl, (G0.same e2).rd, _, _, rfl, rfl, ((ks.length + 1 : Nat) : Int), ?_, by omega, by omega, ?_⟩
    · rw [kv_len]
      rfl
    rw [Int.toNat_natCast]
    refine for_it (walk_range (lo := 0) (n := ks.length + 1)) (fun i σ H' => ∃ y4 y5 y6 y7, σ = [some (.ref g), some (.ref r), some (.str k), some (.ref mo), y4, y5, y6, y7, none, none] ∧ Same H H' ∧ H' mo = some (.dK (kvOf ks fun x => .int (KM.rounds ks suc i x))))
      ⟨none, none, none, none, rfl, e2, d2⟩ (fun _ _ _ _ _ => trivial) ?_ ?_
    · rintro i x σ H3 H4 hi ⟨y4, y5, y6, y7, rfl, e3, d3⟩ ⟨rfl, rfl⟩
      -- for other in growth
      refine ⟨_, rfl, g, o, rfl, .inl ⟨_, (G0.same e3).d, ?_⟩⟩
      refine for_it (walk_keysS (d := g) (o := o) (ks := ks) (f := fun k => V.ref (ad k))) (fun j σ H' => ∃ y5 y6 y7, σ = [some (.ref g), some (.ref r), some (.str k), some (.ref mo), some (.int (0 + (i : Int))), y5, y6, y7, none, none] ∧ Same H H' ∧
          H' mo = some (.dK (kvOf ks fun x => .int ((ks.take j).foldl (KM.up ks suc) (KM.rounds ks suc i) x)))) ⟨y5, y6, y7, rfl, e3, d3⟩ (fun j σ H' _ hp => ?_) ?_ ?_
      · obtain ⟨_, _, _, _, e, _⟩ := hp
        exact e _ _ G0.d
      · rintro j x σ H5 H6 hj ⟨z5, z6, z7, rfl, e5, d5⟩ ⟨rfl, ot, hot, rfl⟩
        have hok : ot ∈ ks := List.mem_of_getElem? hot
        have G5 := G0.same e5
        have R5 := R0.same e5
        have p5 := R5.p ot hok
        -- ring = [more for more in routes[other] if other in routes[more]]
        refine ⟨rad ot, _, p5, trivial, fun od => ?_⟩
        have RL := R5.w.lock (od := od) p5
        refine ⟨_, rfl, _, rfl, r, _, rfl, dget_kv RL.d hok, rad ot, od, rfl, .inl ⟨_, upd_same, fun L nL => ?_⟩⟩
        refine lc_it (walk_keysS (d := rad ot) (o := od) (ks := rk ot) (f := fun x => V.ref (ra ot x))) (fun m H' => Same (upd H6 (rad ot) (.frz od (.dK (kvOf (rk ot) fun x => V.ref (ra ot x))))) H' ∧
            H' L = some (.lst ((((rk ot).take m).filter fun y => decide (ot ∈ rk y)).map V.str))) ⟨Same.knew nL, upd_same⟩ (fun m H' _ hp => hp.1 _ _ upd_same) ?_ ?_
        · rintro m x H7 H8 hm ⟨a1, a2⟩ ⟨rfl, mo', hmo', rfl⟩
          have hmk : mo' ∈ ks := G0.ok.gr.reach ((R0.w.re ot hok mo').1 (List.mem_of_getElem? hmo')) hok
          have R8 := RL.same a1
          obtain ⟨rr, hr1, hr2⟩ := dhas_kv (R8.t mo' hmk) ot
          refine ⟨rfl, ?_⟩
          refine ⟨_, rfl, _, rfl, _, rfl, r, _, rfl, dget_kv R8.d hmk, rad mo', rr, rfl, hr1, _, rfl, ?_⟩
          rw [hr2]
          have hln : (((rk ot).take m).filter fun y => decide (ot ∈ rk y)).length ≤ 12 := by
            refine Nat.le_trans (List.length_filter_le _ _) (Nat.le_trans (List.length_take_le' _ _) ?_)
            exact Nat.le_trans (nodup_len (R0.w.nd ot hok) fun x hx => G0.ok.gr.reach ((R0.w.re ot hok x).1 hx) hok) l12
          by_cases h : ot ∈ rk mo'
          · rw [decide_eq_true h]
            refine iteT ⟨_, rfl, _, a2, ?_, a1.kput nL, ?_⟩
            · rw [List.length_map]
              exact sz100 (by omega)
            · rw [upd_same, take_next hmo', List.filter_append, List.map_append, List.filter_cons_of_pos (by rw [decide_eq_true h])]
              rfl
          · rw [decide_eq_false h]
            refine iteF ⟨a1, ?_⟩
            rw [a2, take_next hmo', List.filter_append, List.filter_cons_of_neg (by rw [decide_eq_false h]; exact Bool.false_ne_true)]
            simp
        · rintro H7 ⟨a1, a2⟩
          rw [List.take_length] at a2
          refine ⟨a1 _ _ upd_same, ?_⟩
          have e7 := e5.trans (unlock p5 a1)
          have hLd : L ≠ rad ot := ne_of a2 (a1 _ _ upd_same) (by intro z; cases z)
          have l7 : (upd H7 (rad ot) (.dK (kvOf (rk ot) fun x => V.ref (ra ot x)))) L = some (.lst (((rk ot).filter fun y => decide (ot ∈ rk y)).map V.str)) := by
            rw [upd_ne hLd]
            exact a2
          have d7 : (upd H7 (rad ot) (.dK (kvOf (rk ot) fun x => V.ref (ra ot x)))) mo = some (.dK (kvOf ks fun x => .int ((ks.take j).foldl (KM.up ks suc) (KM.rounds ks suc i) x))) := unlock p5 a1 _ _ d5
          generalize hH8 : (upd H7 (rad ot) (.dK (kvOf (rk ot) fun x => V.ref (ra ot x)))) = H8 at e7 l7 d7
          have nLH : H8 L ≠ none := by
            rw [l7]
            exact fun z => by cases z
          have rsm : ∀ y, y ∈ ((rk ot).filter fun y => decide (ot ∈ rk y)) ↔ KM.Ring suc ot y := fun y => by
            rw [List.mem_filter, decide_eq_true_eq]
            constructor
            · rintro ⟨h1, h2⟩
              have r1 := (R0.w.re ot hok y).1 h1
              exact ⟨r1, (R0.w.re y (G0.ok.gr.reach r1 hok) ot).1 h2⟩
            · rintro ⟨h1, h2⟩
              exact ⟨(R0.w.re ot hok y).2 h1, (R0.w.re y (G0.ok.gr.reach h1 hok) ot).2 h2⟩
          have rsl : ((rk ot).filter fun y => decide (ot ∈ rk y)).length ≤ 12 :=
            Nat.le_trans (List.length_filter_le _ _) (Nat.le_trans (nodup_len (R0.w.nd ot hok) fun x hx => G0.ok.gr.reach ((R0.w.re ot hok x).1 hx) hok) l12)
          generalize ((rk ot).filter fun y => decide (ot ∈ rk y)) = rs at l7 rsm rsl
          -- goals = [goal for more in ring for goal in growth[more] if goal not in ring]
          have G8 := G0.same e7
          have R8 := R0.same e7
          refine ⟨_, rfl, L, rfl, ⟨_, SqL.of l7⟩, fun Dg nDg => ?_⟩
          refine in_it (walk_listS (K := K) (a := L) (xs := rs)) (fun m H' => ∃ zs : List Str, Same H8 H' ∧ H' Dg = some (.lst (zs.map V.str)) ∧ zs.length ≤ 4 * m ∧ ∀ z, z ∈ zs ↔ ∃ y, y ∈ rs.take m ∧ z ∈ suc y ∧ z ∉ rs)
            ⟨[], Same.knew nDg, upd_same, Nat.zero_le _, by simp⟩ (fun m H' _ hp => ?_) ?_ ?_
          · obtain ⟨_, e, _⟩ := hp
            exact e.seq (SqL.of l7)
          · rintro m x H9 H10 hm ⟨zs, a1, a2, a3, a4⟩ ⟨rfl, y, hy, rfl⟩
            have hyk : y ∈ ks := G0.ok.gr.reach ((rsm y).1 (List.mem_of_getElem? hy)).1 hok
            have hrow := G0.ok.row y hyk
            have G9 := G8.same a1
            refine ⟨rfl, tyes ?_⟩
            refine ⟨_, rfl, _, rfl, g, _, rfl, G9.get hyk, ad y, rfl, ⟨_, G9.seq hyk⟩, ?_⟩
            refine in_it (walk_tupS (K := K) (a := ad y) (xs := suc y)) (fun n H' => ∃ ws : List Str, Same H8 H' ∧ H' Dg = some (.lst (ws.map V.str)) ∧ ws.length ≤ 4 * m + n ∧
                ∀ z, z ∈ ws ↔ (∃ y, y ∈ rs.take m ∧ z ∈ suc y ∧ z ∉ rs) ∨ (z ∈ (suc y).take n ∧ z ∉ rs)) ⟨zs, a1, a2, a3, fun z => by rw [a4]; simp⟩ (fun n H' _ hp => ?_) ?_ ?_
            · obtain ⟨_, e, _⟩ := hp
              exact (G8.same e).seq hyk
            · rintro n x H11 H12 hn ⟨ws, b1, b2, b3, b4⟩ ⟨rfl, z, hz, rfl⟩
              refine ⟨rfl, ?_⟩
              refine ⟨_, rfl, _, rfl, L, _, rfl, .inl (b1.seq (SqL.of l7)), rfl, flat_str _, _, rfl, ?_⟩
              show if (!inV (V.str z) (rs.map V.str)) = true then _ else _
              rw [inV_str]
              by_cases h : z ∈ rs
              · rw [decide_eq_true h]
                refine iteF ⟨ws, b1, b2, by omega, fun u => ?_⟩
                rw [b4, take_next hz, List.mem_append, List.mem_singleton]
                constructor
                · rintro (c | ⟨c, d⟩)
                  · exact .inl c
                  · exact .inr ⟨.inl c, d⟩
                · rintro (c | ⟨c | c, d⟩)
                  · exact .inl c
                  · exact .inr ⟨c, d⟩
                  · rw [c] at d
                    exact absurd h d
              · rw [decide_eq_false h]
                refine iteT ⟨_, rfl, _, b2, ?_, ws ++ [z], b1.kput nDg, ?_, ?_, fun u => ?_⟩
                · rw [List.length_map]
                  exact sz100 (by omega)
                · rw [upd_same, List.map_append]
                  rfl
                · rw [List.length_append, List.length_singleton]
                  omega
                · rw [take_next hz, List.mem_append, List.mem_append, List.mem_singleton, b4]
                  constructor
                  · rintro ((c | ⟨c, d⟩) | c)
                    · exact .inl c
                    · exact .inr ⟨.inl c, d⟩
                    · exact .inr ⟨.inr c, c ▸ h⟩
                  · rintro (c | ⟨c | c, d⟩)
                    · exact .inl (.inl c)
                    · exact .inl (.inr ⟨c, d⟩)
                    · exact .inr c
            · rintro H11 ⟨ws, b1, b2, b3, b4⟩
              rw [List.take_length] at b4
              refine ⟨ws, b1, b2, by omega, fun u => ?_⟩
              rw [b4, take_next hy]
              constructor
              · rintro (⟨y', c, d⟩ | ⟨c, d⟩)
                · exact ⟨y', List.mem_append_left _ c, d⟩
                · exact ⟨y, List.mem_append_right _ (List.mem_singleton.2 rfl), c, d⟩
              · rintro ⟨y', c, d⟩
                rcases List.mem_append.1 c with c | c
                · exact .inl ⟨y', c, d⟩
                · rw [List.mem_singleton.1 c] at d
                  exact .inr d
          rintro H9 ⟨zs, a1, a2, a3, a4⟩
          rw [List.take_length] at a4
          have G9 := G8.same a1
          have R9 := R8.same a1
          have d9 := a1 _ _ d7
          have gm : ∀ z, z ∈ zs ↔ z ∈ KM.goals ks suc ot := fun z => by
            rw [a4, KM.mem_goals]
            constructor
            · rintro ⟨y, c1, c2, c3⟩
              have ry := (rsm y).1 c1
              exact ⟨y, G0.ok.gr.reach ry.1 hok, ry, c2, fun c => c3 ((rsm z).2 c)⟩
            · rintro ⟨y, _, c1, c2, c3⟩
              exact ⟨y, (rsm y).2 c1, c2, fun c => c3 ((rsm z).1 c)⟩
          generalize hm0 : (ks.take j).foldl (KM.up ks suc) (KM.rounds ks suc i) = m0 at d9 d7
          -- most[other] = int(len(rounds_at(growth, routes, other)) > 0) + max([0] + [..])
          refine ⟨_, rfl, _, rfl, _, rfl, g, o, ks, suc, ad, r, rad, rk, ra, ot, rfl, G9, R9.w, hok, fun H10 p xs e10 np hp hl => ?_⟩
          refine ⟨p, xs, rfl, .inl (SqL.of hp), _, _, rfl, rfl, .inr ⟨_, rfl, ?_⟩⟩
          refine ⟨by show 1 ≤ sizeLine; decide, fun p0 n0 => ?_⟩
          have e11 := e10.kadd (o := .lst [.int 0]) n0
          refine ⟨_, rfl, Dg, rfl, ⟨_, SqL.of (e11 _ _ a2)⟩, fun Dm nDm => ?_⟩
          have p0e := upd_same (H := H10) (a := p0) (o := .lst [.int 0])
          generalize (upd H10 p0 (.lst [.int 0])) = H11 at e11 nDm p0e
          refine lc_it (walk_listS (K := K) (a := Dg) (xs := zs)) (fun n H' => Same H11 H' ∧ H' Dm = some (.lst (((zs.take n).map m0).map V.int))) ⟨Same.knew nDm, upd_same⟩ (fun n H' _ hp => (e11.trans hp.1).seq (SqL.of a2)) ?_ ?_
          · rintro n x H12 H13 hn ⟨c1, c2⟩ ⟨rfl, z, hz, rfl⟩
            have hzk : z ∈ ks := KM.goal_ks G0.ok.gr ((gm z).1 (List.mem_of_getElem? hz))
            refine ⟨rfl, tyes ?_⟩
            refine ⟨_, rfl, _, rfl, mo, _, rfl, dget_kv (.inl (c1 _ _ (e11 _ _ d9))) hzk, _, c2, ?_, c1.kput nDm, ?_⟩
            · rw [List.length_map, List.length_map, List.length_take]
              exact sz100 (by omega)
            · rw [upd_same, take_next hz, List.map_append, List.map_append]
              rfl
          · rintro H12 ⟨c1, c2⟩
            rw [List.take_length] at c2
            refine ⟨p0, Dm, _, _, rfl, rfl, c1 _ _ p0e, c2, ?_, fun pm npm => ?_⟩
            · rw [List.length_map, List.length_map, List.length_singleton]
              exact sz100' (by omega)
            · have ens : ([V.int 0] ++ (zs.map m0).map V.int) = (0 :: zs.map m0).map V.int := rfl
              rw [ens]
              refine ⟨pm, 0 :: zs.map m0, rfl, SqL.of upd_same, Nat.succ_pos _, fun M hM hle => ?_⟩
              refine ⟨_, _, rfl, rfl, ?_⟩
              have e13 := (e11.trans c1).kadd (o := .lst ((0 :: zs.map m0).map V.int)) npm
              have d13 := e13 _ _ d9
              refine ⟨_, rfl, _, rfl, mo, _, rfl, DPut.k (k := Sum.inr ot) d13 ?_, ?_⟩
              · rw [kv_len]
                exact sz100 (by omega)
              · refine ⟨_, _, _, rfl, (e7.trans (a1.trans e13)).kput nmo, ?_⟩
                rw [upd_same, putK_set hok, take_next hot, List.foldl_append, hm0]
                refine congrArg (fun l => some (HO.dK l)) (kv_congr fun x _ => ?_)
                show (if x = ot then _ else _) = V.int (KM.up ks suc m0 ot x)
                unfold KM.up
                by_cases e : x = ot
                · rw [if_pos e, if_pos e]
                  have eM : M = KM.mx ((KM.goals ks suc ot).map m0) := KM.val_eq hM hle fun n => by
                    rw [List.mem_cons, List.mem_map]
                    refine or_congr Iff.rfl ⟨fun ⟨z, c, d⟩ => ⟨z, (gm z).1 c, d⟩, fun ⟨z, c, d⟩ => ⟨z, (gm z).2 c, d⟩⟩
                  unfold KM.val
                  rw [eM, hl]
                  by_cases c : KM.Cyc suc ot
                  · have o1 := KM.outs_pos.2 c
                    rw [if_pos c, if_pos (decide_eq_true (show (0 : Int) < ((KM.outs suc ot).length : Int) by omega)), Int.add_comm]
                  · have o1 : ¬ 0 < (KM.outs suc ot).length := fun z => c (KM.outs_pos.1 z)
                    rw [if_neg c, decide_eq_false (show ¬ (0 : Int) < ((KM.outs suc ot).length : Int) by omega), if_neg Bool.false_ne_true, Int.add_comm]
                · rw [if_neg e, if_neg e]
      · rintro σ H5 ⟨z5, z6, z7, rfl, e5, d5⟩
        rw [List.take_length] at d5
        exact ⟨_, z5, z6, z7, rfl, e5, d5⟩
    · rintro σ H3 ⟨y4, y5, y6, y7, rfl, e3, d3⟩
      refine ⟨_, rfl, _, rfl, mo, _, rfl, dget_kv (.inl d3) hk, q _ e3⟩
end
end KW
end
section
set_option Elab.async false
set_option linter.all false
set_option maxRecDepth 100000
set_option maxHeartbeats 4000000
/-! K6: speed. -/
namespace KW
open PySem PySem.Spec PyProof.Rows L2
/- speed: slots 0 growth, 1 kind, 2 routes, 3 other, 4 there, 5 rings; cells ['growth'] -/
abbrev s_speed : Stmt := topS 22
abbrev N_speed : List Str := ["growth", "kind", "routes", "other", "there", "rings"]
theorem sc_speed : FnScope N_speed ["growth", "kind"] (defScope s_speed) := ⟨rfl, rfl, rfl, by decide +kernel, rfl, by decide +kernel, by decide +kernel⟩
/-- the routes from one kind -/
structure Go (H : Hp) (suc : Str → List Str) (x : Str) (a : Addr) (L : List Str) (ta : Str → Addr) : Prop where
  d : H a = some (.dK (kvOf L fun y => V.ref (ta y)))
  nd : L.Nodup
  re : ∀ y, y ∈ L ↔ KM.Reach suc x y
  tp : ∀ y, y ∈ L → ∃ xs, H (ta y) = some (.tup xs) ∧ xs.length ≤ 12
theorem Go.mono {H H' : Hp} {suc : Str → List Str} {x : Str} {a : Addr} {L : List Str} {ta : Str → Addr} (G : Go H suc x a L ta) (h : ∀ b o, (b = a ∨ ∃ xs, o = HO.tup xs) → H b = some o → H' b = some o) : Go H' suc x a L ta :=
  ⟨h _ _ (.inl rfl) G.d, G.nd, G.re, fun y hy => let ⟨xs, h1, h2⟩ := G.tp y hy; ⟨xs, h _ _ (.inr ⟨xs, rfl⟩) h1, h2⟩⟩
section
variable {P : Program} {w : World} {K : PySem.W.Frag} {mg : Str → Option Value} {base : Heap}
def spSpeed : Sp := fun vs H Q _ => ∃ g o ks suc ad k, vs = [.ref g, .str k] ∧ Gw H g o ks suc ad ∧ k ∈ ks ∧
  ∀ (H' : Hp) (t : Addr) (xs : List V), Same H H' → H' t = some (.tup xs) → (KM.Dbl suc k → ∃ r, xs = .str "double" :: r) → (¬ KM.Dbl suc k → xs = [.str "power", .int (KM.deg ks suc k)]) → Q (.ref t) H'
theorem cal_speed (D : Df K mg "speed" s_speed ["growth", "kind"]) (B : Blt mg) (c_check_growth : Cal P w K mg base 3 "check_growth" spCheckG) (c_routes_from : Cal P w K mg base 1 "routes_from" spRoutes)
    (c_rounds_at : Cal P w K mg base 1 "rounds_at" spRounds) (c_degree_of : Cal P w K mg base 2 "degree_of" spDegree) : Cal P w K mg base 4 "speed" spSpeed := by
  refine cal_of D sc_speed (fun vs H Q E h => ?_) (fun f cdv A outer s H vs Q E hr h => ?_)
  · obtain ⟨g, o, ks, suc, ad, k, rfl, _⟩ := h
    rfl
  · obtain ⟨g, o, ks, suc, ad, k, rfl, G0, hk, q⟩ := h
    have hu := hu_of hr
    have l12 := G0.ok.twelve
    refine ⟨_, (pss_cons (ps_expr (pe_cal c_check_growth hr (by decide) (by rfl) (pa_cons (pv 0) (pa_cons (pv 1) pa_nil))))
      (pss_cons (ps_setDc (i := 2) (own := [("other", 3)]) (g := gName 3) rfl sc_speed.nd rfl rfl (sw_trueD rfl rfl rfl (by decide +kernel)) (pi_keys (pv 0)) (blkOk_by (N := N_speed) (sc := defScope s_speed) (own := [("other", 3)]) (by decide +kernel)) (fun _ _ _ _ _ => pg_name (i := 3) sc_speed.nd rfl (by first | exact .inl rfl | exact .inr rfl)) (fun _ _ _ _ _ => pts_nil) (fun _ _ _ _ _ => (pv 3)) (fun _ _ _ _ _ => (pe_cal c_routes_from hr (by decide) (by rfl) (pa_cons (pv 0) (pa_cons (pv 3) pa_nil)))))
      (pss_cons (ps_lock (ps_for PassesOwn.never rfl (pi_items (pe_dget hu (pv 2) (pv 1) (fun _ _ => rfl))) (pg_tup rfl (pgs_cons (pg_name (i := 3) sc_speed.nd rfl (.inl rfl)) (pgs_cons (pg_name (i := 4) sc_speed.nd rfl (.inl rfl)) pgs_nil)))
        (pss_cons (ps_set (i := 5) sc_speed.nd rfl (.inl rfl) (pe_cal c_rounds_at hr (by decide) (by rfl) (pa_cons (pv 0) (pa_cons (pv 2) (pa_cons (pv 3) pa_nil)))))
        (pss_one (ps_if (pt_cmpR op_gt (pe_callB (kLen K rfl) (by rfl) B.len (by decide +kernel) (pa_cons (pv 5) pa_nil)) pe_int (nomark _))
          (pss_one (ps_ret (pe_tup (pa_cons pe_str (pa_cons (pv 4) (pa_cons (pe_ix (kIxL K rfl) (pv 5) pe_int (fun _ _ => rfl)) (pa_cons (pe_ix (kIxL K rfl) (pv 5) pe_int (fun _ _ => rfl)) pa_nil)))))))
          pss_nil)))))
      (pss_one (ps_ret (pe_tup (pa_cons pe_str (pa_cons (pe_cal c_degree_of hr (by decide) (by rfl) (pa_cons (pv 0) (pa_cons (pv 2) (pa_cons (pv 1) pa_nil)))) pa_nil)))))))), ?_⟩
    refine ⟨_, rfl, _, rfl, g, o, ks, suc, ad, k, rfl, G0, hk, fun H1 e1 => ?_⟩
    have G1 := G0.same e1
    -- routes = {other: routes_from(growth, other) for other in growth}
    refine ⟨_, rfl, g, o, rfl, .inl ⟨_, G1.d, fun ro nro => ?_⟩⟩
    refine dc_it (walk_keysS (d := g) (o := o) (ks := ks) (f := fun k => V.ref (ad k))) (fun i H' => ∃ (rad : Str → Addr) (rk : Str → List Str) (ra : Str → Str → Addr), Same H1 H' ∧ H' ro = some (.dK (kvOf (ks.take i) fun x => .ref (rad x))) ∧
        ∀ x, x ∈ ks.take i → rad x ≠ ro ∧ Go H' suc x (rad x) (rk x) (ra x)) ⟨fun _ => 0, fun _ => [], fun _ _ => 0, Same.knew nro, upd_same, fun x hx => (by simp at hx)⟩ (fun i H' _ hp => ?_) ?_ ?_
    · obtain ⟨_, _, _, e, _⟩ := hp
      exact e _ _ G1.d
    · rintro i x H2 H3 hi ⟨rad, rk, ra, a1, a2, a3⟩ ⟨rfl, z, hz, rfl⟩
      have hzk : z ∈ ks := List.mem_of_getElem? hz
      refine ⟨rfl, tyes ?_⟩
      refine ⟨_, rfl, _, rfl, _, rfl, g, o, ks, suc, ad, z, rfl, G1.same a1, hzk, fun H4 p L ta e4 np h1 h2 h3 h4 => ?_⟩
      have pro : p ≠ ro := (ne_of_none a2 np).symm
      refine ⟨_, Sum.inr z, rfl, e4 _ _ a2, ?_, fun x => if x = z then p else rad x, fun x => if x = z then L else rk x, fun x => if x = z then ta else ra x, (a1.trans e4).kput nro, ?_, fun x hx => ?_⟩
      · rw [kv_len, List.length_take]
        exact sz100 (by omega)
      · rw [upd_same, putK_add (not_mem_take G0.ok.gr.nd hz), take_next hz]
        refine congrArg (fun l => some (HO.dK l)) (kv_congr fun x _ => ?_)
        show (if x = z then V.ref p else V.ref (rad x)) = V.ref (if x = z then p else rad x)
        by_cases e : x = z
        · rw [if_pos e, if_pos e]
        · rw [if_neg e, if_neg e]
      · have keep : ∀ (a : Addr), a ≠ ro → ∀ (b : Addr) (v : HO), (b = a ∨ ∃ xs, v = HO.tup xs) → H4 b = some v → (upd H4 ro (.dK (putK (kvOf (ks.take i) fun x => V.ref (rad x)) (Sum.inr z : Key) (.ref p)))) b = some v := by
          intro a ha b v hb hv
          rcases hb with rfl | ⟨xs, rfl⟩
          · rw [upd_ne ha]
            exact hv
          · exact upd_of hv (e4 _ _ a2) (by intro z; cases z)
        by_cases e : x = z
        · simp only [if_pos e]
          rw [e]
          exact ⟨pro, (Go.mk h1 h2 h3 h4).mono (keep p pro)⟩
        · simp only [if_neg e]
          rw [take_next hz] at hx
          rcases List.mem_append.1 hx with c | c
          · obtain ⟨b1, b2⟩ := a3 x c
            exact ⟨b1, (b2.mono fun b v _ hv => e4 b v hv).mono (keep _ b1)⟩
          · exact absurd (List.mem_singleton.1 c) e
    rintro H2 ⟨rad, rk, ra, e2, d2, p2⟩
    rw [List.take_length] at d2 p2
    have R2 : Rp H2 ro ks suc rad rk ra := ⟨⟨.inl d2, fun x hx => .inl (p2 x hx).2.d, fun x hx => (p2 x hx).2.nd, fun x hx => (p2 x hx).2.re, fun x hx => (p2 x hx).2.tp⟩, fun x hx => (p2 x hx).2.d⟩
    have pk := R2.p k hk
    -- for other, there in routes[kind].items()
    refine ⟨rad k, _, pk, trivial, fun od => ?_⟩
    have RL := R2.w.lock (od := od) pk
    have GL := (G1.same e2).lock (od := od) pk
    refine ⟨_, rfl, _, rfl, ro, _, rfl, dget_kv RL.d hk, rad k, od, _, rfl, upd_same, ?_⟩
    refine for_it (walk_itemsS (d := rad k) (o := od) (ks := rk k) (f := fun x => V.ref (ra k x))) (fun i σ H' => ∃ y3 y4 y5, σ = [some (.ref g), some (.str k), some (.ref ro), y3, y4, y5] ∧
        Same (upd H2 (rad k) (.frz od (.dK (kvOf (rk k) fun x => V.ref (ra k x))))) H' ∧ ∀ x, x ∈ (rk k).take i → ¬ 1 < (KM.outs suc x).length) ⟨none, none, none, rfl, Same.refl _, fun x hx => (by simp at hx)⟩ (fun i σ H' _ hp => ?_) ?_ ?_
    · obtain ⟨_, _, _, _, e, _⟩ := hp
      exact e _ _ upd_same
    · rintro i x σ H3 H4 hi ⟨y3, y4, y5, rfl, e3, no3⟩ ⟨T, ot, rfl, nT, rfl, hot⟩
      have hor : ot ∈ rk k := List.mem_of_getElem? hot
      have hre := (R2.w.re k hk ot).1 hor
      have hok : ot ∈ ks := G0.ok.gr.reach hre hk
      have e4 := e3.kadd (o := .tup [.str ot, .ref (ra k ot)]) nT
      refine ⟨T, [.str ot, .ref (ra k ot)], rfl, SqT.of upd_same, rfl, _, [.ref (ra k ot)], rfl, _, [], rfl, rfl, ?_⟩
      -- rings = rounds_at(growth, routes, other)
      refine ⟨_, rfl, _, rfl, _, rfl, g, o, ks, suc, ad, ro, rad, rk, ra, ot, rfl, GL.same e4, RL.same e4, hok, fun H5 p xs e5 np hp hl => ?_⟩
      have e6 := e4.trans e5
      refine ⟨_, rfl, p, xs, rfl, .inl (SqL.of hp), _, _, rfl, rfl, _, rfl, ?_⟩
      by_cases h : 1 < (KM.outs suc ot).length
      · rw [decide_eq_true (show (1 : Int) < (xs.length : Int) by omega)]
        refine iteT ?_
        obtain ⟨a, b, rest, rfl⟩ : ∃ a b rest, xs = a :: b :: rest := by
          match xs, hl with
          | [], hl => simp at hl; omega
          | [_], hl => simp at hl; omega
          | a :: b :: rest, _ => exact ⟨a, b, rest, rfl⟩
        refine ⟨_, rfl, _, rfl, p, _, 0, a, rfl, rfl, SqL.of hp, atI_nat (j := 0) rfl, ?_⟩
        refine ⟨_, rfl, p, _, 1, b, rfl, rfl, SqL.of hp, atI_nat (j := 1) rfl, ?_⟩
        refine ⟨by show 4 ≤ sizeLine; decide, fun t nt => ?_⟩
        have e7 := e6.kadd (o := .tup [.str "double", .ref (ra k ot), a, b]) nt
        have f7 := e7 _ _ upd_same
        refine ⟨f7, q _ t [.str "double", .ref (ra k ot), a, b] ((e1.trans e2).trans (unlock pk e7)) ?_ (fun _ => ⟨_, rfl⟩) fun n => absurd ⟨ot, hre, h⟩ n⟩
        exact upd_of upd_same f7 (by intro z; cases z)
      · rw [decide_eq_false (show ¬ (1 : Int) < (xs.length : Int) by omega)]
        refine iteF ?_
        refine ⟨_, _, _, rfl, e6, fun x hx => ?_⟩
        rw [take_next hot] at hx
        rcases List.mem_append.1 hx with c | c
        · exact no3 x c
        · rw [List.mem_singleton.1 c]
          exact h
    · rintro σ H3 ⟨y3, y4, y5, rfl, e3, no3⟩
      rw [List.take_length] at no3
      have no : ¬ KM.Dbl suc k := fun ⟨x, r, h⟩ => no3 x ((R2.w.re k hk x).2 r) h
      refine ⟨e3 _ _ upd_same, ?_⟩
      have e4 := unlock pk e3
      refine ⟨_, rfl, _, rfl, _, rfl, g, o, ks, suc, ad, ro, rad, rk, ra, k, rfl, (G1.same e2).same e4, R2.same e4, hk, fun H5 e5 => ?_⟩
      refine ⟨by show 2 ≤ sizeLine; decide, fun t nt => ?_⟩
      exact q _ t _ ((((e1.trans e2).trans e4).trans e5).kadd nt) upd_same (fun d => absurd d no) fun _ => rfl
end
end KW
end
section
set_option Elab.async false
set_option linter.all false
set_option maxRecDepth 100000
set_option maxHeartbeats 4000000
/-! K7: the law's reach. -/
namespace KW
open PySem PySem.Spec PyProof.Rows L2
/- _law_reach: slots 0 _law_growth_here, 1 _law_kind, 2 _law_found, 3 _law_at, 4 _law_other; cells [] -/
abbrev s_law_reach : Stmt := topS 29
abbrev N_law_reach : List Str := ["_law_growth_here", "_law_kind", "_law_found", "_law_at", "_law_other"]
theorem sc_law_reach : FnScope N_law_reach ["_law_growth_here", "_law_kind"] (defScope s_law_reach) := ⟨rfl, rfl, rfl, by decide +kernel, rfl, by decide +kernel, by decide +kernel⟩
section
variable {P : Program} {w : World} {K : PySem.W.Frag} {mg : Str → Option Value} {base : Heap}
def spReach : Sp := fun vs H Q _ => ∃ g o ks suc ad k, vs = [.ref g, .str k] ∧ Gw H g o ks suc ad ∧ k ∈ ks ∧
  ∀ (H' : Hp) (p : Addr) (L : List Str), Same H H' → H p = none → H' p = some (.lst (L.map V.str)) → (∀ y, y ∈ L ↔ KM.Reach1 suc k y) → L.length ≤ 12 → Q (.ref p) H'
theorem cal_law_reach (D : Df K mg "_law_reach" s_law_reach ["_law_growth_here", "_law_kind"]) (B : Blt mg) : Cal P w K mg base 1 "_law_reach" spReach := by
  refine cal_of D sc_law_reach (fun vs H Q E h => ?_) (fun f cdv A outer s H vs Q E hr h => ?_)
  · obtain ⟨g, o, ks, suc, ad, k, rfl, _⟩ := h
    rfl
  · obtain ⟨g, o, ks, suc, ad, k, rfl, G0, hk, q⟩ := h
    have hu := hu_of hr
    have l12 := G0.ok.twelve
    have hrow := G0.ok.row k hk
    refine ⟨_, (pss_cons (ps_set (i := 2) sc_law_reach.nd rfl (.inl rfl) (pe_callB (cr_sortedSS rfl) (by rfl) B.sorted (by decide +kernel) (pa_cons (pe_callTy (cr_setOfS rfl) (by rfl) B.set (by decide +kernel) (pa_cons (pe_dget hu (pv 0) (pv 1) (fun _ _ => rfl)) pa_nil)) pa_nil)))
      (pss_cons (ps_set (i := 3) sc_law_reach.nd rfl (.inl rfl) pe_int)
      (pss_cons (ps_while PassesOwn.never (pt_cmpR op_lt (pv 3) (pe_callB (kLen K rfl) (by rfl) B.len (by decide +kernel) (pa_cons (pv 2) pa_nil)) (nomark _))
        (pss_cons (ps_for PassesOwn.never rfl (kPiT K rfl (pe_dget hu (pv 0) (pe_ix (kIxL K rfl) (pv 2) (pv 3) (fun _ _ => rfl)) (fun _ _ => rfl))) (pg_name (i := 4) sc_law_reach.nd rfl (.inl rfl))
          (pss_one (ps_if (pt_cmpR (kNotIn K rfl) (pv 4) (pv 2) (by rfl))
            (pss_one (ps_expr (pe_bm PySem.F.plainAttrs_list PySem.F.slot_list_append PySem.F.type_list_append mt_append (pv 2) (pa_cons (pv 4) pa_nil))))
            pss_nil)))
        (pss_one (ps_set (i := 3) sc_law_reach.nd rfl (.inl rfl) (pe_op op_add (pv 3) pe_int)))))
      (pss_one (ps_ret (pv 2)))))), ?_⟩
    -- found = sorted(set(growth[kind])); at = 0
    refine ⟨_, rfl, _, rfl, g, _, rfl, G0.get hk, ad k, suc k, rfl, G0.seq hk, by omega, fun p np => ?_⟩
    obtain ⟨dn, dm, dl⟩ := dd_all (suc k)
    refine ⟨p, dd (suc k), rfl, upd_same, by omega, fun fo ss nfo0 pm => ?_⟩
    have nfo : H fo = none := (Same.knew np).free nfo0
    have e1 : Same H (upd (upd H p (SetXO w p (dd (suc k)))) fo (.lst (ss.map V.str))) := (Same.knew np).kadd nfo0
    -- while at < len(found)
    refine ⟨fun m σ H' => ∃ (L : List Str) (i : Nat) (y4 : Option V), σ = [some (.ref g), some (.str k), some (.ref fo), some (.int (i : Int)), y4] ∧ Same H H' ∧ H' fo = some (.lst (L.map V.str)) ∧ L.Nodup ∧ (∀ y, y ∈ L → KM.Reach1 suc k y) ∧
        (∀ y, y ∈ suc k → y ∈ L) ∧ (∀ y, y ∈ L.take i → ∀ z, z ∈ suc y → z ∈ L) ∧ m = 12 - i, ⟨_, ss, 0, none, rfl, e1, upd_same, pm.nodup_iff.2 dn, fun y hy => ⟨y, (dm y).1 (pm.mem_iff.1 hy), .refl⟩, fun y hy => pm.mem_iff.2 ((dm y).2 hy), fun y hy => (by simp at hy), rfl⟩, ?_⟩
    rintro m σ H1 ⟨L, i, y4, rfl, e2, f2, nd2, re2, in2, cl2, em⟩
    have hks : ∀ y, y ∈ L → y ∈ ks := fun y hy => G0.ok.gr.reach (re2 y hy).reach hk
    have hL : L.length ≤ ks.length := nodup_len nd2 hks
    refine ⟨_, rfl, _, rfl, fo, _, rfl, .inl (SqL.of f2), _, _, rfl, rfl, _, rfl, ?_⟩
    rw [List.length_map]
    by_cases hi : i < L.length
    · rw [decide_eq_true (show (i : Int) < (L.length : Int) by omega)]
      refine iteT ⟨fun σ' H' => ∃ m', m' < m ∧ ∃ (L : List Str) (i : Nat) (y4 : Option V), σ' = [some (.ref g), some (.str k), some (.ref fo), some (.int (i : Int)), y4] ∧ Same H H' ∧ H' fo = some (.lst (L.map V.str)) ∧ L.Nodup ∧ (∀ y, y ∈ L → KM.Reach1 suc k y) ∧
        (∀ y, y ∈ suc k → y ∈ L) ∧ (∀ y, y ∈ L.take i → ∀ z, z ∈ suc y → z ∈ L) ∧ m' = 12 - i, fun σ' H' hN => hN, ?_⟩
      have hx : L[i]? = some L[i] := List.getElem?_eq_getElem hi
      have hxL : L[i] ∈ L := List.getElem_mem hi
      generalize L[i] = x at hx hxL
      have hxk := hks x hxL
      have G2 := G0.same e2
      have hxr := G0.ok.row x hxk
      -- for other in growth[found[at]]
      refine ⟨_, rfl, _, rfl, _, rfl, fo, _, _, .str x, rfl, rfl, SqL.of f2, atI_nat (by rw [List.getElem?_map, hx]; rfl), g, _, rfl, G2.get hxk, ad x, rfl, ⟨_, G2.seq hxk⟩, ?_⟩
      refine for_it (walk_tupS (K := K) (a := ad x) (xs := suc x)) (fun j σ H' => ∃ (M : List Str) (y4 : Option V), σ = [some (.ref g), some (.str k), some (.ref fo), some (.int (i : Int)), y4] ∧ Same H H' ∧ H' fo = some (.lst ((L ++ M).map V.str)) ∧ (L ++ M).Nodup ∧
          (∀ y, y ∈ M → KM.Reach1 suc k y) ∧ ∀ z, z ∈ (suc x).take j → z ∈ L ++ M) ⟨[], y4, rfl, e2, by rw [List.append_nil]; exact f2, by rw [List.append_nil]; exact nd2, fun y hy => (by cases hy), fun z hz => (by simp at hz)⟩ (fun j σ H' _ hp => ?_) ?_ ?_
      · obtain ⟨_, _, _, e, _⟩ := hp
        exact (G0.same e).seq hxk
      · rintro j y σ H3 H4 hj ⟨M, z4, rfl, e3, f3, nd3, re3, tk3⟩ ⟨rfl, z, hz, rfl⟩
        have hzx : z ∈ suc x := List.mem_of_getElem? hz
        have hrz : KM.Reach1 suc k z := (re2 x hxL).trans (.snoc .refl hzx)
        refine ⟨_, rfl, _, rfl, fo, _, rfl, .inl (SqL.of f3), rfl, flat_str _, _, rfl, ?_⟩
        show if (!inV (V.str z) ((L ++ M).map V.str)) = true then _ else _
        rw [inV_str]
        by_cases h : z ∈ L ++ M
        · rw [decide_eq_true h]
          refine iteF ⟨M, _, rfl, e3, f3, nd3, re3, fun u hu => ?_⟩
          rw [take_next hz] at hu
          rcases List.mem_append.1 hu with c | c
          · exact tk3 u c
          · rw [List.mem_singleton.1 c]
            exact h
        · rw [decide_eq_false h]
          have hlm : (L ++ M).length ≤ ks.length := nodup_len nd3 fun y hy => by
            rcases List.mem_append.1 hy with c | c
            · exact hks y c
            · exact G0.ok.gr.reach (re3 y c).reach hk
          refine iteT ⟨_, rfl, .inl ⟨rfl, _, SqL.of f3⟩, _, rfl, fo, _, _, rfl, rfl, f3, ?_, M ++ [z], _, rfl, e3.kput nfo, ?_, ?_, fun y hy => ?_, fun u hu => ?_⟩
          · rw [List.length_map]
            exact sz100 (by omega)
          · rw [upd_same, ← List.append_assoc, List.map_append (l₂ := [z])]
            rfl
          · rw [← List.append_assoc]
            refine List.nodup_append.2 ⟨nd3, List.nodup_cons.2 ⟨List.not_mem_nil, List.nodup_nil⟩, fun a ha b hb e => ?_⟩
            rw [List.mem_singleton.1 hb] at e
            exact h (e ▸ ha)
          · rcases List.mem_append.1 hy with c | c
            · exact re3 y c
            · rw [List.mem_singleton.1 c]
              exact hrz
          · rw [take_next hz] at hu
            rw [← List.append_assoc]
            rcases List.mem_append.1 hu with c | c
            · exact List.mem_append_left _ (tk3 u c)
            · exact List.mem_append_right _ c
      · rintro σ H3 ⟨M, z4, rfl, e3, f3, nd3, re3, tk3⟩
        rw [List.take_length] at tk3
        refine ⟨_, rfl, _, _, rfl, rfl, ?_⟩
        refine ⟨12 - (i + 1), by omega, L ++ M, i + 1, z4, rfl, e3, f3, nd3, fun y hy => ?_, fun y hy => List.mem_append_left _ (in2 y hy), fun y hy z hz => ?_, rfl⟩
        · rcases List.mem_append.1 hy with c | c
          · exact re2 y c
          · exact re3 y c
        · rw [List.take_append_of_le_length (by omega), take_next hx] at hy
          rcases List.mem_append.1 hy with c | c
          · exact List.mem_append_left _ (cl2 y c z hz)
          · rw [List.mem_singleton.1 c] at hz
            exact tk3 z hz
    · rw [decide_eq_false (show ¬ (i : Int) < (L.length : Int) by omega)]
      refine iteF ?_
      rw [List.take_of_length_le (by omega)] at cl2
      refine ⟨_, rfl, q _ fo L e2 nfo f2 (fun y => ⟨re2 y, fun r => ?_⟩) (by omega)⟩
      obtain ⟨b, hb, r⟩ := r
      exact r.closed (P := fun x => x ∈ L) (fun x hx y hy => cl2 x hx y hy) (in2 b hb)
end
end KW
end
section
set_option Elab.async false
set_option linter.all false
set_option maxRecDepth 100000
set_option maxHeartbeats 4000000
/-! K8: the law's degree. -/
namespace KW
open PySem PySem.Spec PyProof.Rows L2
/- _law_degree: slots 0 _law_growth_here, 1 _law_kind, 2 _law_reach_here, 3 _law_each, 4 _law_rings, 5 _law_lot, 6 _law_steps, 7 _law_best, 8 _law_turn, 9 _law_ahead, 10 _law_other, 11 _law_goal; cells ['_law_best', '_law_each', '_law_growth_here', '_law_lot', '_law_reach_here'] -/
abbrev s_law_degree : Stmt := topS 30
abbrev N_law_degree : List Str := ["_law_growth_here", "_law_kind", "_law_reach_here", "_law_each", "_law_rings", "_law_lot", "_law_steps", "_law_best", "_law_turn", "_law_ahead", "_law_other", "_law_goal"]
theorem sc_law_degree : FnScope N_law_degree ["_law_growth_here", "_law_kind"] (defScope s_law_degree) := ⟨rfl, rfl, rfl, by decide +kernel, rfl, by decide +kernel, by decide +kernel⟩
theorem sum_cast (f : Str → Nat) : ∀ l : List Str, (l.map fun x => ((f x : Nat) : Int)).sum = (((l.map f).sum : Nat) : Int)
  | [] => rfl
  | a :: l => by
    rw [List.map_cons, List.sum_cons, List.map_cons, List.sum_cons, sum_cast f l]
    omega
/-- lists of kinds under kinds -/
structure Lw (H : Hp) (d : Addr) (ks : List Str) (la : Str → Addr) (ll : Str → List Str) : Prop where
  d : H d = some (.dK (kvOf ks fun k => V.ref (la k)))
  l : ∀ k, k ∈ ks → H (la k) = some (.lst ((ll k).map V.str)) ∧ (ll k).length ≤ 12
theorem Lw.same {H H' : Hp} {d : Addr} {ks : List Str} {la : Str → Addr} {ll : Str → List Str} (R : Lw H d ks la ll) (e : Same H H') : Lw H' d ks la ll := ⟨e _ _ R.d, fun k hk => ⟨e _ _ (R.l k hk).1, (R.l k hk).2⟩⟩
/-- one more kind with its list -/
theorem Lw.add {H : Hp} {d p : Addr} {ks : List Str} {la : Str → Addr} {ll : Str → List Str} (R : Lw H d ks la ll) {k : Str} {L : List Str} (hk : k ∉ ks) (hp : H p = some (.lst (L.map V.str))) (hL : L.length ≤ 12) :
    Lw (upd H d (.dK (putK (kvOf ks fun k => V.ref (la k)) (Sum.inr k : Key) (.ref p)))) d (ks ++ [k]) (fun x => if x = k then p else la x) (fun x => if x = k then L else ll x) := by
  refine ⟨?_, fun x hx => ?_⟩
  · rw [upd_same, putK_add hk]
    refine congrArg (fun l => some (HO.dK l)) (kv_congr fun x _ => ?_)
    show (if x = k then V.ref p else V.ref (la x)) = V.ref (if x = k then p else la x)
    by_cases e : x = k
    · rw [if_pos e, if_pos e]
    · rw [if_neg e, if_neg e]
  · by_cases e : x = k
    · simp only [if_pos e]
      exact ⟨upd_of hp R.d (by intro z; cases z), hL⟩
    · simp only [if_neg e]
      rcases List.mem_append.1 hx with c | c
      · exact ⟨upd_of (R.l x c).1 R.d (by intro z; cases z), (R.l x c).2⟩
      · exact absurd (List.mem_singleton.1 c) e
section
variable {P : Program} {w : World} {K : PySem.W.Frag} {mg : Str → Option Value} {base : Heap}
def spLDeg : Sp := fun vs H Q _ => ∃ g o ks suc ad k, vs = [.ref g, .str k] ∧ Gw H g o ks suc ad ∧ k ∈ ks ∧
  ∀ (H' : Hp) (v : V), Same H H' → (KM.Dbl suc k → v = .non) → (¬ KM.Dbl suc k → v = .int (KM.deg ks suc k)) → Q v H'
theorem cal_law_degree (D : Df K mg "_law_degree" s_law_degree ["_law_growth_here", "_law_kind"]) (B : Blt mg) (c_law_reach : Cal P w K mg base 1 "_law_reach" spReach) : Cal P w K mg base 2 "_law_degree" spLDeg := by
  refine cal_of D sc_law_degree (fun vs H Q E h => ?_) (fun f cdv A outer s H vs Q E hr h => ?_)
  · obtain ⟨g, o, ks, suc, ad, k, rfl, _⟩ := h
    rfl
  · obtain ⟨g, o, ks, suc, ad, k, rfl, G0, hk, q⟩ := h
    have hu := hu_of hr
    have l12 := G0.ok.twelve
    refine ⟨_, (pss_cons (ps_set (i := 2) sc_law_degree.nd rfl (.inr rfl) pe_dnewK)
      (pss_cons (ps_for PassesOwn.never rfl (pi_keys (pv 0)) (pg_name (i := 3) sc_law_degree.nd rfl (.inr rfl))
        (pss_one (ps_dput hu (pv 2) (pv 3) (pe_cal c_law_reach hr (by decide) (by rfl) (pa_cons (pv 0) (pa_cons (pv 3) pa_nil))) rfl)))
      (pss_cons (ps_set (i := 4) sc_law_degree.nd rfl (.inl rfl) pe_dnewK)
      (pss_cons (ps_for PassesOwn.never rfl (pi_keys (pv 0)) (pg_name (i := 3) sc_law_degree.nd rfl (.inr rfl))
        (pss_cons (ps_set (i := 5) sc_law_degree.nd rfl (.inr rfl) (pe_lc (own := [("_law_other", 10)]) (g := gName 10) rfl sc_law_degree.nd (pi_keys (pv 0)) (blkOk_by (N := N_law_degree) (sc := defScope s_law_degree) (own := [("_law_other", 10)]) (by decide +kernel)) (fun _ _ _ _ _ => pg_name (i := 10) sc_law_degree.nd rfl (by first | exact .inl rfl | exact .inr rfl)) (fun _ _ _ _ _ => (pts_one (PW.pt (pw_and (pt_cmpR (kIn K rfl) (pv 10) (pe_dget hu (pv 2) (pv 3) (fun _ _ => rfl)) (by rfl)) (pw_and1 (pt_cmpR (kIn K rfl) (pv 3) (pe_dget hu (pv 2) (pv 10) (fun _ _ => rfl)) (by rfl))))))) (fun _ _ _ _ _ => (pv 10))))
        (pss_one (ps_if (pt_cmpR (kIn K rfl) (pv 3) (pe_dget hu (pv 2) (pv 3) (fun _ _ => rfl)) (by rfl))
          (pss_cons (ps_set (i := 6) sc_law_degree.nd rfl (.inl rfl) (pe_callB (kSum K rfl rfl) (by rfl) B.sum (by decide +kernel) (pa_cons (pe_lc (own := [("_law_other", 10)]) (g := gName 10) rfl sc_law_degree.nd (kPiL K rfl (pv 5)) (blkOk_by (N := N_law_degree) (sc := defScope s_law_degree) (own := [("_law_other", 10)]) (by decide +kernel)) (fun _ _ _ _ _ => pg_name (i := 10) sc_law_degree.nd rfl (by first | exact .inl rfl | exact .inr rfl)) (fun _ _ _ _ _ => pts_nil) (fun _ _ _ _ _ => (pe_callB (kLen K rfl) (by rfl) B.len (by decide +kernel) (pa_cons (pe_lc (own := [("_law_goal", 11)]) (g := gName 11) rfl sc_law_degree.nd (kPiT K rfl (pe_dget hu (pv 0) (pv 10) (fun _ _ => rfl))) (blkOk_by (N := N_law_degree) (own := [("_law_goal", 11)]) (by kernel_rfl)) (fun _ _ _ _ _ => pg_name (i := 11) sc_law_degree.nd rfl (by first | exact .inl rfl | exact .inr rfl)) (fun _ _ _ _ _ => (pts_one (pt_cmpR (kIn K rfl) (pv 11) (pv 5) (by rfl)))) (fun _ _ _ _ _ => (pv 11))) pa_nil)))) pa_nil)))
          (pss_cons (ps_if (PW.pt (pw_and (pt_cmpR op_gt (pv 6) (pe_callB (kLen K rfl) (by rfl) B.len (by decide +kernel) (pa_cons (pv 5) pa_nil)) (nomark _)) (pw_and1 (PW.pt (pw_or (pt_cmpR op_eq (pv 3) (pv 1) (nomark _)) (pw_or1 (pt_cmpR (kIn K rfl) (pv 3) (pe_dget hu (pv 2) (pv 1) (fun _ _ => rfl)) (by rfl))))))))
            (pss_one (ps_ret pe_non))
            pss_nil)
          (pss_one (ps_dput hu (pv 4) (pv 3) (pv 5) rfl))))
          pss_nil))))
      (pss_cons (ps_set (i := 7) sc_law_degree.nd rfl (.inr rfl) pe_dnewK)
      (pss_cons (ps_for PassesOwn.never rfl (pi_range1 (by rfl) B.range (pa_cons (pe_op op_add (pe_callB call_lenR (by rfl) B.len (by decide +kernel) (pa_cons (pv 0) pa_nil)) pe_int) pa_nil)) (pg_name (i := 8) sc_law_degree.nd rfl (.inl rfl))
        (pss_one (ps_for PassesOwn.never rfl (pi_keys (pv 0)) (pg_name (i := 3) sc_law_degree.nd rfl (.inr rfl))
          (pss_cons (ps_set (i := 5) sc_law_degree.nd rfl (.inr rfl) (pe_dget2 hu (pv 4) (pv 3) (pe_lst (pa_cons (pv 3) pa_nil)) ⟨rfl, rfl, rfl, rfl⟩))
          (pss_cons (ps_set (i := 9) sc_law_degree.nd rfl (.inl rfl) (pe_lst (pa_cons pe_int pa_nil)))
          (pss_cons (ps_for PassesOwn.never rfl (kPiL K rfl (pv 5)) (pg_name (i := 10) sc_law_degree.nd rfl (.inl rfl))
            (pss_one (ps_expr (pe_bm PySem.F.plainAttrs_list PySem.F.slot_list_extend PySem.F.type_list_extend mt_extend (pv 9) (pa_cons (pe_lc (own := [("_law_goal", 11)]) (g := gName 11) rfl sc_law_degree.nd (kPiT K rfl (pe_dget hu (pv 0) (pv 10) (fun _ _ => rfl))) (blkOk_by (N := N_law_degree) (sc := defScope s_law_degree) (own := [("_law_goal", 11)]) (by decide +kernel)) (fun _ _ _ _ _ => pg_name (i := 11) sc_law_degree.nd rfl (by first | exact .inl rfl | exact .inr rfl)) (fun _ _ _ _ _ => (pts_one (pt_cmpR (kNotIn K rfl) (pv 11) (pv 5) (by rfl)))) (fun _ _ _ _ _ => (pe_dget2 hu (pv 7) (pv 11) pe_int ⟨rfl, rfl, rfl, rfl⟩))) pa_nil)))))
          (pss_one (ps_dput hu (pv 7) (pv 3) (pe_op op_add (pe_callB (kMax K rfl rfl) (by rfl) B.max (by decide +kernel) (pa_cons (pv 9) pa_nil)) (pe_callTy call_int1 (by rfl) B.int (by decide +kernel) (pa_cons (pe_cmp (pc_din hu (pv 3) (pv 4))) pa_nil))) rfl))))))))
      (pss_one (ps_ret (pe_dget hu (pv 7) (pv 1) (fun _ _ => rfl)))))))))), ?_⟩
    -- reach = {}; for each in growth: reach[each] = ..
    intro rh nrh
    refine ⟨_, rfl, g, o, rfl, .inl ⟨_, (Same.knew nrh) _ _ G0.d, ?_⟩⟩
    refine for_it (walk_keysS (d := g) (o := o) (ks := ks) (f := fun k => V.ref (ad k))) (fun i σ H' => ∃ (la : Str → Addr) (ll : Str → List Str) (y3 : Option V), σ = [some (.ref g), some (.str k), some (.ref rh), y3, none, none, none, none, none, none, none, none] ∧ Same H H' ∧
        Lw H' rh (ks.take i) la ll ∧ ∀ x, x ∈ ks.take i → ∀ y, y ∈ ll x ↔ KM.Reach1 suc x y) ⟨fun _ => 0, fun _ => [], none, rfl, Same.knew nrh, ⟨upd_same, fun x hx => (by simp at hx)⟩, fun x hx => (by simp at hx)⟩ (fun i σ H' _ hp => ?_) ?_ ?_
    · obtain ⟨_, _, _, _, e, _⟩ := hp
      exact e _ _ G0.d
    · rintro i x σ H1 H2 hi ⟨la, ll, y3, rfl, e1, R1, m1⟩ ⟨rfl, z, hz, rfl⟩
      have hzk : z ∈ ks := List.mem_of_getElem? hz
      refine ⟨_, rfl, _, rfl, g, o, ks, suc, ad, z, rfl, G0.same e1, hzk, fun H3 p L e3 np hp hm hl => ?_⟩
      have R3 := R1.same e3
      refine ⟨_, rfl, _, rfl, rh, _, rfl, DPut.k (k := Sum.inr z) R3.d ?_, ?_⟩
      · rw [kv_len, List.length_take]
        exact sz100 (by omega)
      · refine ⟨fun x => if x = z then p else la x, fun x => if x = z then L else ll x, _, rfl, (e1.trans e3).kput nrh, ?_, ?_⟩
        · rw [take_next hz]
          exact R3.add (not_mem_take G0.ok.gr.nd hz) hp hl
        · intro x hx y
          by_cases e : x = z
          · simp only [if_pos e]
            rw [e]
            exact hm y
          · simp only [if_neg e]
            rw [take_next hz] at hx
            rcases List.mem_append.1 hx with c | c
            · exact m1 x c y
            · exact absurd (List.mem_singleton.1 c) e
    rintro σ H1 ⟨la, ll, y3, rfl, e1, R1, m1⟩
    rw [List.take_length] at R1 m1
    -- rings = {}; for each in growth
    intro ri nri
    have e2 : Same H1 (upd H1 ri (.dK [])) := Same.knew nri
    refine ⟨_, rfl, g, o, rfl, .inl ⟨_, (e1.trans e2) _ _ G0.d, ?_⟩⟩
    refine for_it (walk_keysS (d := g) (o := o) (ks := ks) (f := fun k => V.ref (ad k))) (fun i σ H' => ∃ (Ck : List Str) (lb : Str → Addr) (lm : Str → List Str) (y3 y5 y6 : Option V), σ = [some (.ref g), some (.str k), some (.ref rh), y3, some (.ref ri), y5, y6, none, none, none, none, none] ∧ Same H1 H' ∧
        Lw H' ri Ck lb lm ∧ Ck.Nodup ∧ (∀ x, x ∈ Ck ↔ x ∈ ks.take i ∧ KM.Cyc suc x) ∧ (∀ x, x ∈ Ck → ∀ y, y ∈ lm x ↔ KM.Ring suc x y) ∧ ∀ x, x ∈ ks.take i → KM.Cyc suc x → KM.Reach suc k x → ¬ ∃ oo, KM.Lot suc x oo ∧ 1 < (KM.outs suc oo).length)
      ⟨[], fun _ => 0, fun _ => [], _, none, none, rfl, e2, ⟨upd_same, fun x hx => (by cases hx)⟩, List.nodup_nil, fun x => by simp, fun x hx => (by cases hx), fun x hx => (by simp at hx)⟩ (fun i σ H' _ hp => ?_) ?_ ?_
    · obtain ⟨_, _, _, _, _, _, _, e, _⟩ := hp
      exact (e1.trans e) _ _ G0.d
    · rintro i x σ H2 H3 hi ⟨Ck, lb, lm, z3, z5, z6, rfl, e3, R3, nd3, m3, k3, no3⟩ ⟨rfl, z, hz, rfl⟩
      have hzk : z ∈ ks := List.mem_of_getElem? hz
      have G3 := G0.same (e1.trans e3)
      have RR := R1.same e3
      -- lot = [other for other in growth if ..]
      refine ⟨_, rfl, g, o, rfl, .inl ⟨_, G3.d, fun L nL => ?_⟩⟩
      refine lc_it (walk_keysS (d := g) (o := o) (ks := ks) (f := fun k => V.ref (ad k))) (fun j H' => Same H3 H' ∧ H' L = some (.lst (((ks.take j).filter fun y => decide (y ∈ ll z) && decide (z ∈ ll y)).map V.str))) ⟨Same.knew nL, upd_same⟩ (fun j H' _ hp => hp.1 _ _ G3.d) ?_ ?_
      · rintro j x H4 H5 hj ⟨a1, a2⟩ ⟨rfl, y, hy, rfl⟩
        have hyk : y ∈ ks := List.mem_of_getElem? hy
        have R5 := RR.same a1
        have hln : ((ks.take j).filter fun y => decide (y ∈ ll z) && decide (z ∈ ll y)).length ≤ 12 :=
          Nat.le_trans (List.length_filter_le _ _) (by rw [List.length_take]; omega)
        refine ⟨rfl, ?_⟩
        refine ⟨_, rfl, _, rfl, _, rfl, rh, _, rfl, dget_kv (.inl R5.d) hzk, la z, _, rfl, .inl (SqL.of (R5.l z hzk).1), rfl, flat_str _, _, rfl, ?_⟩
        show if inV (V.str y) ((ll z).map V.str) = true then _ else _
        rw [inV_str]
        by_cases h1 : y ∈ ll z
        · rw [decide_eq_true h1]
          refine iteT ⟨_, rfl, _, rfl, _, rfl, rh, _, rfl, dget_kv (.inl R5.d) hyk, la y, _, rfl, .inl (SqL.of (R5.l y hyk).1), rfl, flat_str _, _, rfl, ?_⟩
          show if inV (V.str z) ((ll y).map V.str) = true then _ else _
          rw [inV_str]
          by_cases h2 : z ∈ ll y
          · rw [decide_eq_true h2]
            refine iteT ⟨_, rfl, _, a2, ?_, a1.kput nL, ?_⟩
            · rw [List.length_map]
              exact sz100 (by omega)
            · rw [upd_same, take_next hy, List.filter_append, List.map_append, List.filter_cons_of_pos (by rw [decide_eq_true h1, decide_eq_true h2]; rfl)]
              rfl
          · rw [decide_eq_false h2]
            refine iteF ⟨a1, ?_⟩
            rw [a2, take_next hy, List.filter_append, List.filter_cons_of_neg (by rw [decide_eq_false h2, Bool.and_false]; exact Bool.false_ne_true)]
            simp
        · rw [decide_eq_false h1]
          refine iteF ?_
          refine iteF ⟨a1, ?_⟩
          rw [a2, take_next hy, List.filter_append, List.filter_cons_of_neg (by rw [decide_eq_false h1, Bool.false_and]; exact Bool.false_ne_true)]
          simp
      · rintro H4 ⟨a1, a2⟩
        rw [List.take_length] at a2
        have lotm : ∀ y, y ∈ (ks.filter fun y => decide (y ∈ ll z) && decide (z ∈ ll y)) ↔ KM.Lot suc z y := fun y => by
          rw [List.mem_filter, Bool.and_eq_true, decide_eq_true_eq, decide_eq_true_eq]
          constructor
          · rintro ⟨h1, h2, h3⟩
            exact ⟨(m1 z hzk y).1 h2, (m1 y h1 z).1 h3⟩
          · rintro ⟨h2, h3⟩
            have h1 : y ∈ ks := G0.ok.gr.reach h2.reach hzk
            exact ⟨h1, (m1 z hzk y).2 h2, (m1 y h1 z).2 h3⟩
        have lotl : (ks.filter fun y => decide (y ∈ ll z) && decide (z ∈ ll y)).length ≤ 12 := Nat.le_trans (List.length_filter_le _ _) l12
        generalize (ks.filter fun y => decide (y ∈ ll z) && decide (z ∈ ll y)) = ls at a2 lotm lotl
        have cycz : z ∈ ll z ↔ KM.Cyc suc z := m1 z hzk z
        have e4 : Same H1 H4 := e3.trans a1
        have R4 := R1.same e4
        have G4 := G0.same (e1.trans e4)
        have S4 := R3.same a1
        have tk : ∀ x, x ∈ ks.take (i + 1) ↔ x ∈ ks.take i ∨ x = z := fun x => by
          rw [take_next hz, List.mem_append, List.mem_singleton]
        -- if each in reach[each]
        refine ⟨_, rfl, _, rfl, _, rfl, rh, _, rfl, dget_kv (.inl R4.d) hzk, la z, _, rfl, .inl (SqL.of (R4.l z hzk).1), rfl, flat_str _, _, rfl, ?_⟩
        show if inV (V.str z) ((ll z).map V.str) = true then _ else _
        rw [inV_str]
        by_cases hc : z ∈ ll z
        · rw [decide_eq_true hc]
          have cz := cycz.1 hc
          refine iteT ?_
          -- steps = sum([len([..]) for other in lot])
          refine ⟨_, rfl, L, rfl, ⟨_, SqL.of a2⟩, fun Ds nDs => ?_⟩
          refine lc_it (walk_listS (K := K) (a := L) (xs := ls)) (fun m H' => Same H4 H' ∧ H' Ds = some (.lst (((ls.take m).map fun oo => ((((suc oo).filter fun u => decide (u ∈ ls)).length : Nat) : Int)).map V.int))) ⟨Same.knew nDs, upd_same⟩ (fun m H' _ hp => hp.1.seq (SqL.of a2)) ?_ ?_
          · rintro m x H5 H6 hm ⟨b1, b2⟩ ⟨rfl, y, hy, rfl⟩
            have hyk : y ∈ ks := G0.ok.gr.reach ((lotm y).1 (List.mem_of_getElem? hy)).1.reach hzk
            have hyr := G0.ok.row y hyk
            have G6 := G4.same b1
            refine ⟨rfl, tyes ?_⟩
            refine ⟨_, rfl, _, rfl, g, _, rfl, G6.get hyk, ad y, rfl, ⟨_, G6.seq hyk⟩, fun Di nDi => ?_⟩
            refine lc_it (walk_tupS (K := K) (a := ad y) (xs := suc y)) (fun n H' => Same H6 H' ∧ H' Di = some (.lst ((((suc y).take n).filter fun u => decide (u ∈ ls)).map V.str))) ⟨Same.knew nDi, upd_same⟩ (fun n H' _ hp => hp.1.ktup (G6.seq hyk)) ?_ ?_
            · rintro n x H7 H8 hn ⟨c1, c2⟩ ⟨rfl, u, hu', rfl⟩
              refine ⟨rfl, ?_⟩
              refine ⟨_, rfl, _, rfl, L, _, rfl, .inl ((b1.trans c1).seq (SqL.of a2)), rfl, flat_str _, _, rfl, ?_⟩
              show if inV (V.str u) (ls.map V.str) = true then _ else _
              rw [inV_str]
              by_cases h : u ∈ ls
              · rw [decide_eq_true h]
                refine iteT ⟨_, rfl, _, c2, ?_, c1.kput nDi, ?_⟩
                · rw [List.length_map]
                  refine sz100 (Nat.le_trans (List.length_filter_le _ _) ?_)
                  rw [List.length_take]
                  omega
                · rw [upd_same, take_next hu', List.filter_append, List.map_append, List.filter_cons_of_pos (by rw [decide_eq_true h])]
                  rfl
              · rw [decide_eq_false h]
                refine iteF ⟨c1, ?_⟩
                rw [c2, take_next hu', List.filter_append, List.filter_cons_of_neg (by rw [decide_eq_false h]; exact Bool.false_ne_true)]
                simp
            · rintro H7 ⟨c1, c2⟩
              rw [List.take_length] at c2
              refine ⟨Di, _, rfl, .inl (SqL.of c2), _, c1 _ _ b2, ?_, (b1.trans c1).kput nDs, ?_⟩
              · rw [List.length_map, List.length_map, List.length_take]
                exact sz100 (by omega)
              · rw [upd_same, take_next hy, List.map_append, List.map_append, List.length_map]
                rfl
          · rintro H5 ⟨b1, b2⟩
            rw [List.take_length] at b2
            refine ⟨Ds, _, rfl, SqL.of b2, ?_⟩
            rw [sum_cast]
            have sg := KM.steps_gt cz ls (fun y => ⟨fun hy => ⟨(lotm y).1 hy, hy⟩, fun h => h.2⟩) (fun oo => ((suc oo).filter fun u => decide (u ∈ ls)).length) (fun oo ho => by
              have lo := (lotm oo).1 ho
              unfold KM.outs
              congr 1
              exact List.filter_congr fun u hu' => decide_eq_decide.2 ((lotm u).trans (KM.lot_step lo hu')))
            generalize (ls.map fun oo => ((suc oo).filter fun u => decide (u ∈ ls)).length).sum = steps at sg
            have e5 := e4.trans b1
            have R5 := R1.same e5
            have S5 := S4.same b1
            have f5 := b1 _ _ a2
            -- if steps > len(lot) and (each == kind or each in reach[kind])
            have tst : ∀ (Qt : Bool → Hp → Prop), (∀ b, (b = true → KM.Reach suc k z ∧ ∃ oo, KM.Lot suc z oo ∧ 1 < (KM.outs suc oo).length) → (b = false → KM.Reach suc k z → ¬ ∃ oo, KM.Lot suc z oo ∧ 1 < (KM.outs suc oo).length) → Qt b H5) →
                (tAnd (tTest (tOp (rI0 fun i j => .bl (decide (j < i))) (tVar 6) (tCB (rLenK K) (tCons (tVar 5) tNil)))) (tOr (tTest (tOp rEq (tVar 3) (tVar 1))) (tTest (tOp (rIn K false) (tVar 3) (tDGet (tVar 2) (tVar 1))))))
                  [some (.ref g), some (.str k), some (.ref rh), some (.str z), some (.ref ri), some (.ref L), some (.int (steps : Int)), none, none, none, none, none] H5 Qt := by
              intro Qt hQt
              refine ⟨_, rfl, _, rfl, L, _, rfl, .inl (SqL.of f5), _, _, rfl, rfl, _, rfl, ?_⟩
              rw [List.length_map]
              by_cases hs : ls.length < steps
              · rw [decide_eq_true (show (ls.length : Int) < (steps : Int) by omega)]
                obtain ⟨oo, ho, ho2⟩ := sg.1 hs
                have ex : ∃ oo, KM.Lot suc z oo ∧ 1 < (KM.outs suc oo).length := ⟨oo, (lotm oo).1 ho, ho2⟩
                refine iteT ⟨_, rfl, _, rfl, rfl, _, rfl, ?_⟩
                by_cases hzk2 : z = k
                · rw [decide_eq_true (congrArg V.str hzk2)]
                  refine iteT (hQt true (fun _ => ⟨hzk2 ▸ .refl, ex⟩) fun h => by cases h)
                · rw [decide_eq_false fun e => hzk2 (V.str.inj e)]
                  refine iteF ⟨_, rfl, _, rfl, _, rfl, rh, _, rfl, dget_kv (.inl R5.d) hk, la k, _, rfl, .inl (SqL.of (R5.l k hk).1), rfl, flat_str _, _, rfl, ?_⟩
                  show Qt (inV (V.str z) ((ll k).map V.str)) H5
                  rw [inV_str]
                  refine hQt _ (fun h => ⟨((m1 k hk z).1 (of_decide_eq_true h)).reach, ex⟩) fun h r => ?_
                  exact absurd ((m1 k hk z).2 (r.one fun e => hzk2 e.symm)) (of_decide_eq_false h)
              · rw [decide_eq_false (show ¬ (ls.length : Int) < (steps : Int) by omega)]
                refine iteF (hQt false (fun h => by cases h) fun _ _ ⟨oo, h1, h2⟩ => hs (sg.2 ⟨oo, (lotm oo).2 h1, h2⟩))
            refine tst _ fun b hb1 hb2 => ?_
            cases b with
            | true =>
              refine iteT ?_
              obtain ⟨rz, oo, h1, h2⟩ := hb1 rfl
              have dbl : KM.Dbl suc k := ⟨oo, rz.trans h1.1.reach, h2⟩
              exact q _ .non (e1.trans e5) (fun _ => rfl) fun n => absurd dbl n
            | false =>
              refine iteF ?_
              have hzC : z ∉ Ck := fun h => not_mem_take G0.ok.gr.nd hz ((m3 z).1 h).1
              have lCk : Ck.length ≤ ks.length := nodup_len nd3 fun x hx => List.mem_of_mem_take ((m3 x).1 hx).1
              refine ⟨_, rfl, _, rfl, _, rfl, ri, _, rfl, DPut.k (k := Sum.inr z) S5.d ?_, ?_⟩
              · rw [kv_len]
                exact sz100 (by omega)
              · refine ⟨Ck ++ [z], fun x => if x = z then L else lb x, fun x => if x = z then ls else lm x, _, _, _, rfl, e5.kput nri, S5.add hzC f5 lotl, ?_, fun x => ?_, fun x hx y => ?_, fun x hx cx rx => ?_⟩
                · refine List.nodup_append.2 ⟨nd3, List.nodup_cons.2 ⟨List.not_mem_nil, List.nodup_nil⟩, fun a ha b hb e => ?_⟩
                  rw [List.mem_singleton.1 hb] at e
                  exact hzC (e ▸ ha)
                · rw [List.mem_append, List.mem_singleton, m3, tk]
                  constructor
                  · rintro (h | h)
                    · exact ⟨.inl h.1, h.2⟩
                    · rw [h]
                      exact ⟨.inr rfl, cz⟩
                  · rintro ⟨h | h, c⟩
                    · exact .inl ⟨h, c⟩
                    · exact .inr h
                · by_cases e : x = z
                  · simp only [if_pos e]
                    rw [e, lotm, KM.lot_ring cz]
                  · simp only [if_neg e]
                    rcases List.mem_append.1 hx with c | c
                    · exact k3 x c y
                    · exact absurd (List.mem_singleton.1 c) e
                · rcases (tk x).1 hx with c | c
                  · exact no3 x c cx rx
                  · rw [c] at rx ⊢
                    exact hb2 rfl rx
        · rw [decide_eq_false hc]
          have cz : ¬ KM.Cyc suc z := fun c => hc (cycz.2 c)
          refine iteF ⟨Ck, lb, lm, _, _, _, rfl, e4, S4, nd3, fun x => ?_, k3, fun x hx cx rx => ?_⟩
          · rw [m3, tk]
            constructor
            · rintro ⟨h1, h2⟩
              exact ⟨.inl h1, h2⟩
            · rintro ⟨h | h, c⟩
              · exact ⟨h, c⟩
              · rw [h] at c
                exact absurd c cz
          · rcases (tk x).1 hx with c | c
            · exact no3 x c cx rx
            · rw [c] at cx
              exact absurd cx cz
    rintro σ H2 ⟨Ck, lb, lm, z3, z5, z6, rfl, e3, R3, nd3, m3, k3, no3⟩
    rw [List.take_length] at m3 no3
    have no : ¬ KM.Dbl suc k := fun d => by
      obtain ⟨x, hx, cx, rx, ex⟩ := (KM.dbl_iff G0.ok.gr hk).1 d
      exact no3 x hx cx rx ex
    have e12 := e1.trans e3
    -- best = {}; for turn in range(len(growth) + 1)
    intro bo nbo
    have G3 := G0.same (e12.kadd (o := .dK []) nbo)
    refine ⟨_, rfl, g, _, rfl, G3.rd, _, _, rfl, rfl, ((ks.length + 1 : Nat) : Int), ?_, by omega, by omega, ?_⟩
    · rw [kv_len]
      rfl
    rw [Int.toNat_natCast]
    refine for_it (walk_range (lo := 0) (n := ks.length + 1)) (fun i σ H' => ∃ (y3 y5 y8 y9 y10 : Option V) (bk : List Str), σ = [some (.ref g), some (.str k), some (.ref rh), y3, some (.ref ri), y5, z6, some (.ref bo), y8, y9, y10, none] ∧ Same H2 H' ∧
        H' bo = some (.dK (kvOf bk fun x => .int (KM.rounds ks suc i x))) ∧ bk.Nodup ∧ (∀ x, x ∈ bk → x ∈ ks) ∧ (∀ x, x ∈ ks → x ∉ bk → KM.rounds ks suc i x = 0) ∧ (1 ≤ i → ∀ x, x ∈ ks → x ∈ bk))
      ⟨_, _, none, none, none, [], rfl, Same.knew nbo, upd_same, List.nodup_nil, fun x hx => (by cases hx), fun x _ _ => rfl, fun h => (by omega)⟩ (fun _ _ _ _ _ => trivial) ?_ ?_
    · rintro i x σ H4 H5 hi ⟨y3, y5, y8, y9, y10, bk, rfl, e4, d4, n4, s4, v4, f4⟩ ⟨rfl, rfl⟩
      -- for each in growth
      refine ⟨_, rfl, g, o, rfl, .inl ⟨_, (e12.trans e4) _ _ G0.d, ?_⟩⟩
      refine for_it (walk_keysS (d := g) (o := o) (ks := ks) (f := fun k => V.ref (ad k))) (fun j σ H' => ∃ (y3 y5 y9 y10 : Option V) (bk : List Str), σ = [some (.ref g), some (.str k), some (.ref rh), y3, some (.ref ri), y5, z6, some (.ref bo), some (.int (0 + (i : Int))), y9, y10, none] ∧ Same H2 H' ∧
          H' bo = some (.dK (kvOf bk fun x => .int ((ks.take j).foldl (KM.up ks suc) (KM.rounds ks suc i) x))) ∧ bk.Nodup ∧ (∀ x, x ∈ bk → x ∈ ks) ∧ (∀ x, x ∈ ks → x ∉ bk → (ks.take j).foldl (KM.up ks suc) (KM.rounds ks suc i) x = 0) ∧ (1 ≤ i → ∀ x, x ∈ ks → x ∈ bk) ∧ ∀ x, x ∈ ks.take j → x ∈ bk)
        ⟨y3, y5, y9, y10, bk, rfl, e4, d4, n4, s4, v4, f4, fun x hx => (by simp at hx)⟩ (fun j σ H' _ hp => ?_) ?_ ?_
      · obtain ⟨_, _, _, _, _, _, e, _⟩ := hp
        exact (e12.trans e) _ _ G0.d
      · rintro j x σ H5 H6 hj ⟨w3, w5, w9, w10, bk5, rfl, e5, d5, n5, s5, v5, f5, t5⟩ ⟨rfl, z, hz, rfl⟩
        have hzk : z ∈ ks := List.mem_of_getElem? hz
        have cz : z ∈ Ck ↔ KM.Cyc suc z := (m3 z).trans ⟨fun h => h.2, fun h => ⟨hzk, h⟩⟩
        have lbk : bk5.length ≤ ks.length := nodup_len n5 s5
        have S5 := R3.same e5
        generalize hm0 : (ks.take j).foldl (KM.up ks suc) (KM.rounds ks suc i) = m0 at d5 v5
        -- lot = rings.get(each, [each])
        refine ⟨_, rfl, ri, rfl, .inl ⟨_, .inl S5.d⟩, _, rfl, _, rfl, by show 1 ≤ sizeLine; decide, fun p np => ⟨_, .inl ⟨_, Sum.inr z, .inl (upd_ne' S5.d np), rfl, rfl⟩, ?_⟩⟩
        have e6 := e5.kadd (o := .lst [.str z]) np
        obtain ⟨la', ls, ev, hl, hl12, hlm⟩ : ∃ (la' : Addr) (ls : List Str), (valV (kvOf Ck fun k => V.ref (lb k)) (Sum.inr z : Key)).getD (.ref p) = .ref la' ∧ (upd H6 p (.lst [.str z])) la' = some (.lst (ls.map V.str)) ∧ ls.length ≤ 12 ∧ ∀ y, y ∈ ls ↔ KM.Ring suc z y := by
          by_cases h : z ∈ Ck
          · refine ⟨lb z, lm z, ?_, upd_ne' (S5.l z h).1 np, (S5.l z h).2, k3 z h⟩
            rw [valV_kv h]
            rfl
          · refine ⟨p, [z], ?_, upd_same, by simp, fun y => ?_⟩
            · rw [valV_no h]
              rfl
            · rw [KM.ring_alone fun c => h (cz.2 c), List.mem_singleton]
        rw [ev]
        have d6 := upd_ne' (o := .lst [.str z]) d5 np
        generalize upd H6 p (.lst [.str z]) = H7 at e6 hl d6
        -- ahead = [0]
        refine ⟨by show 1 ≤ sizeLine; decide, fun aa naa => ?_⟩
        have e7 := e6.kadd (o := .lst [.int 0]) naa
        -- for other in lot
        refine ⟨_, rfl, la', rfl, ⟨_, SqL.of (upd_ne' hl naa)⟩, ?_⟩
        refine for_it (walk_listS (K := K) (a := la') (xs := ls)) (fun n σ H' => ∃ (y10 : Option V) (ns : List Int), σ = [some (.ref g), some (.str k), some (.ref rh), some (.str z), some (.ref ri), some (.ref la'), z6, some (.ref bo), some (.int (0 + (i : Int))), some (.ref aa), y10, none] ∧ Same H7 H' ∧
            H' aa = some (.lst ((0 :: ns).map V.int)) ∧ ns.length ≤ 4 * n ∧ ∀ v, v ∈ ns ↔ ∃ y u, y ∈ ls.take n ∧ u ∈ suc y ∧ u ∉ ls ∧ m0 u = v)
          ⟨w10, [], rfl, Same.knew naa, upd_same, Nat.zero_le _, fun v => by simp⟩ (fun n σ H' _ hp => ?_) ?_ ?_
        · obtain ⟨_, _, _, e, _⟩ := hp
          exact e.seq (SqL.of hl)
        · rintro n x σ H8 H9 hn ⟨x10, ns, rfl, e8, a8, l8, v8⟩ ⟨rfl, y, hy, rfl⟩
          have hyk : y ∈ ks := G0.ok.gr.reach ((hlm y).1 (List.mem_of_getElem? hy)).1 hzk
          have hyr := G0.ok.row y hyk
          have G9 := G0.same (e12.trans (e6.trans e8))
          refine ⟨.ref aa, rfl, .inl ⟨rfl, _, SqL.of a8⟩, ?_⟩
          refine ⟨_, rfl, _, rfl, g, _, rfl, G9.get hyk, ad y, rfl, ⟨_, G9.seq hyk⟩, fun De nDe => ?_⟩
          refine lc_it (walk_tupS (K := K) (a := ad y) (xs := suc y)) (fun q H' => ∃ ws : List Int, Same H9 H' ∧ H' De = some (.lst (ws.map V.int)) ∧ ws.length ≤ q ∧ ∀ v, v ∈ ws ↔ ∃ u, u ∈ (suc y).take q ∧ u ∉ ls ∧ m0 u = v)
            ⟨[], Same.knew nDe, upd_same, Nat.le_refl _, fun v => by simp⟩ (fun q H' _ hp => ?_) ?_ ?_
          · obtain ⟨_, e, _⟩ := hp
            exact e.ktup (G9.seq hyk)
          · rintro q x H10 H11 hq ⟨ws, b1, b2, b3, b4⟩ ⟨rfl, u, hu', rfl⟩
            have huk : u ∈ ks := G0.ok.gr.cl y hyk u (List.mem_of_getElem? hu')
            refine ⟨rfl, ?_⟩
            refine ⟨_, rfl, _, rfl, la', _, rfl, .inl ((e8.trans b1).seq (SqL.of hl)), rfl, flat_str _, _, rfl, ?_⟩
            show if (!inV (V.str u) (ls.map V.str)) = true then _ else _
            rw [inV_str]
            by_cases h : u ∈ ls
            · rw [decide_eq_true h]
              refine iteF ⟨ws, b1, b2, by omega, fun v => ?_⟩
              rw [b4, take_next hu']
              constructor
              · rintro ⟨t, c1, c2⟩
                exact ⟨t, List.mem_append_left _ c1, c2⟩
              · rintro ⟨t, c1, c2, c3⟩
                rcases List.mem_append.1 c1 with c | c
                · exact ⟨t, c, c2, c3⟩
                · rw [List.mem_singleton.1 c] at c2
                  exact absurd h c2
            · rw [decide_eq_false h]
              have dB := (e8.trans b1) _ _ d6
              have ev2 : (valV (kvOf bk5 fun x => V.int (m0 x)) (Sum.inr u : Key)).getD (.int 0) = .int (m0 u) := by
                by_cases hb : u ∈ bk5
                · rw [valV_kv hb]
                  rfl
                · rw [valV_no hb, v5 u huk hb]
                  rfl
              refine iteT ⟨_, rfl, bo, rfl, .inl ⟨_, .inl dB⟩, _, rfl, _, .inl ⟨_, Sum.inr u, .inl dB, rfl, rfl⟩, _, b2, ?_, ws ++ [m0 u], b1.kput nDe, ?_, ?_, fun v => ?_⟩
              · rw [List.length_map]
                exact sz100 (by omega)
              · rw [upd_same, ev2, List.map_append]
                rfl
              · rw [List.length_append, List.length_singleton]
                omega
              · rw [List.mem_append, List.mem_singleton, b4, take_next hu']
                constructor
                · rintro (⟨t, c1, c2⟩ | c)
                  · exact ⟨t, List.mem_append_left _ c1, c2⟩
                  · exact ⟨u, List.mem_append_right _ (List.mem_singleton.2 rfl), h, c.symm⟩
                · rintro ⟨t, c1, c2, c3⟩
                  rcases List.mem_append.1 c1 with c | c
                  · exact .inl ⟨t, c, c2, c3⟩
                  · rw [List.mem_singleton.1 c] at c3
                    exact .inr c3.symm
          · rintro H10 ⟨ws, b1, b2, b3, b4⟩
            rw [List.take_length] at b4
            have a10 := b1 _ _ a8
            refine ⟨aa, De, _, _, rfl, rfl, a10, b2, ?_, _, ns ++ ws, rfl, (e8.trans b1).kput naa, ?_, ?_, fun v => ?_⟩
            · rw [List.length_map, List.length_map, List.length_cons]
              exact sz100' (by omega)
            · rw [upd_same, ← List.map_append]
              rfl
            · rw [List.length_append]
              omega
            · rw [List.mem_append, v8, b4, take_next hy]
              constructor
              · rintro (⟨t, u, c1, c2⟩ | ⟨u, c2⟩)
                · exact ⟨t, u, List.mem_append_left _ c1, c2⟩
                · exact ⟨y, u, List.mem_append_right _ (List.mem_singleton.2 rfl), c2⟩
              · rintro ⟨t, u, c1, c2⟩
                rcases List.mem_append.1 c1 with c | c
                · exact .inl ⟨t, u, c, c2⟩
                · rw [List.mem_singleton.1 c] at c2
                  exact .inr ⟨u, c2⟩
        · rintro σ H8 ⟨x10, ns, rfl, e8, a8, l8, v8⟩
          rw [List.take_length] at v8
          have S8 := R3.same (e6.trans e8)
          have d8 := e8 _ _ d6
          -- best[each] = max(ahead) + int(each in rings)
          refine ⟨_, rfl, aa, 0 :: ns, rfl, SqL.of a8, Nat.succ_pos _, fun M hM hle => ?_⟩
          refine ⟨_, rfl, _, rfl, ri, _, rfl, .inl ⟨_, Sum.inr z, .inl S8.d, rfl, rfl⟩, .inr ⟨_, rfl, ?_⟩⟩
          refine ⟨_, _, rfl, rfl, _, rfl, _, rfl, bo, _, rfl, DPut.k (k := Sum.inr z) d8 ?_, ?_⟩
          · rw [kv_len]
            exact sz100 (by omega)
          · have eV : M + (if (valV (kvOf Ck fun k => V.ref (lb k)) (Sum.inr z : Key)).isSome = true then (1 : Int) else 0) = KM.val ks suc m0 z := by
              have eM : M = KM.mx ((KM.goals ks suc z).map m0) := KM.val_eq hM hle fun v => by
                rw [List.mem_cons, v8]
                refine or_congr Iff.rfl ?_
                constructor
                · rintro ⟨y, u, c1, c2, c3, c4⟩
                  have ry := (hlm y).1 c1
                  exact ⟨u, KM.mem_goals.2 ⟨y, G0.ok.gr.reach ry.1 hzk, ry, c2, fun c => c3 ((hlm u).2 c)⟩, c4⟩
                · rintro ⟨u, c1, c2⟩
                  obtain ⟨y, _, ry, c3, c4⟩ := KM.mem_goals.1 c1
                  exact ⟨y, u, (hlm y).2 ry, c3, fun c => c4 ((hlm u).1 c), c2⟩
              unfold KM.val
              rw [← eM, valV_kv_some]
              by_cases c : KM.Cyc suc z
              · rw [if_pos c, if_pos (decide_eq_true (cz.2 c))]
              · rw [if_neg c, if_neg fun h => c (cz.1 (of_decide_eq_true h))]
            dsimp only
            rw [eV]
            have eU : ∀ x, (if x = z then V.int (KM.val ks suc m0 z) else V.int (m0 x)) = V.int (KM.up ks suc m0 z x) := fun x => by
              unfold KM.up
              by_cases e : x = z
              · rw [if_pos e, if_pos e]
              · rw [if_neg e, if_neg e]
            have eF : (ks.take (j + 1)).foldl (KM.up ks suc) (KM.rounds ks suc i) = KM.up ks suc m0 z := by
              rw [take_next hz, List.foldl_append, hm0]
              rfl
            rw [eF]
            have e9 := (e6.trans e8).kput (p := bo) (o := .dK (putK (kvOf bk5 fun x => V.int (m0 x)) (Sum.inr z : Key) (.int (KM.val ks suc m0 z)))) nbo
            by_cases hb : z ∈ bk5
            · refine ⟨_, _, _, _, bk5, rfl, e9, ?_, n5, s5, fun x hx hxb => ?_, f5, fun x hx => ?_⟩
              · rw [upd_same, putK_set hb]
                exact congrArg (fun l => some (HO.dK l)) (kv_congr fun x _ => eU x)
              · unfold KM.up
                rw [if_neg fun e => hxb (by rw [e]; exact hb)]
                exact v5 x hx hxb
              · rw [take_next hz] at hx
                rcases List.mem_append.1 hx with c | c
                · exact t5 x c
                · rw [List.mem_singleton.1 c]
                  exact hb
            · refine ⟨_, _, _, _, bk5 ++ [z], rfl, e9, ?_, ?_, fun x hx => ?_, fun x hx hxb => ?_, fun h1 x hx => List.mem_append_left _ (f5 h1 x hx), fun x hx => ?_⟩
              · rw [upd_same, putK_add hb]
                exact congrArg (fun l => some (HO.dK l)) (kv_congr fun x _ => eU x)
              · refine List.nodup_append.2 ⟨n5, List.nodup_cons.2 ⟨List.not_mem_nil, List.nodup_nil⟩, fun a ha b hb' e => ?_⟩
                rw [List.mem_singleton.1 hb'] at e
                exact hb (e ▸ ha)
              · rcases List.mem_append.1 hx with c | c
                · exact s5 x c
                · rw [List.mem_singleton.1 c]
                  exact hzk
              · have h1 : x ∉ bk5 := fun h => hxb (List.mem_append_left _ h)
                have h2 : ¬ x = z := fun e => hxb (List.mem_append_right _ (List.mem_singleton.2 e))
                unfold KM.up
                rw [if_neg h2]
                exact v5 x hx h1
              · rw [take_next hz] at hx
                rcases List.mem_append.1 hx with c | c
                · exact List.mem_append_left _ (t5 x c)
                · exact List.mem_append_right _ c
      · rintro σ H5 ⟨w3, w5, w9, w10, bk5, rfl, e5, d5, n5, s5, v5, f5, t5⟩
        rw [List.take_length] at d5 v5 t5
        exact ⟨_, _, _, _, _, bk5, rfl, e5, d5, n5, s5, v5, fun _ => t5⟩
    · rintro σ H4 ⟨y3, y5, y8, y9, y10, bk, rfl, e4, d4, n4, s4, v4, f4⟩
      refine ⟨_, rfl, _, rfl, bo, _, rfl, dget_kv (.inl d4) (f4 (by omega) k hk), ?_⟩
      exact q _ _ (e12.trans e4) (fun d => absurd d no) fun _ => rfl
end
end KW
end
section
set_option Elab.async false
set_option linter.all false
set_option maxRecDepth 100000
set_option maxHeartbeats 4000000
/-! K9: the draws. -/
namespace KW
open PySem PySem.Spec PyProof.Rows L2
/- _law_pool: slots 0 _law_script, 1 _law_great, 2 _law_small, 3 _law_cell; cells [] -/
abbrev s_law_pool : Stmt := topS 24
abbrev N_law_pool : List Str := ["_law_script", "_law_great", "_law_small", "_law_cell"]
theorem sc_law_pool : FnScope N_law_pool ["_law_script"] (defScope s_law_pool) := ⟨rfl, rfl, rfl, by decide +kernel, rfl, by decide +kernel, by decide +kernel⟩
/- _law_draw: slots 0 _law_pool_here, 1 _law_many, 2 _law_digit, 3 _law_cell, 4 _law_number; cells [] -/
abbrev s_law_draw : Stmt := topS 25
abbrev N_law_draw : List Str := ["_law_pool_here", "_law_many", "_law_digit", "_law_cell", "_law_number"]
theorem sc_law_draw : FnScope N_law_draw ["_law_pool_here", "_law_many"] (defScope s_law_draw) := ⟨rfl, rfl, rfl, by decide +kernel, rfl, by decide +kernel, by decide +kernel⟩
/- _law_pick: slots 0 _law_pool_here, 1 _law_things; cells [] -/
abbrev s_law_pick : Stmt := topS 26
abbrev N_law_pick : List Str := ["_law_pool_here", "_law_things"]
theorem sc_law_pick : FnScope N_law_pick ["_law_pool_here", "_law_things"] (defScope s_law_pick) := ⟨rfl, rfl, rfl, by decide +kernel, rfl, by decide +kernel, by decide +kernel⟩
/-- all but the pool stays -/
def Sx (p : Addr) (H H' : Hp) : Prop := ∀ b o, b ≠ p → H b = some o → H' b = some o
theorem Sx.refl (p : Addr) (H : Hp) : Sx p H H := fun _ _ _ h => h
theorem Sx.trans {p : Addr} {H H1 H2 : Hp} (a : Sx p H H1) (b : Sx p H1 H2) : Sx p H H2 := fun c o n h => b c o n (a c o n h)
theorem Sx.of {p : Addr} {H H' : Hp} (e : Same H H') : Sx p H H' := fun b o _ h => e b o h
theorem Sx.set {p : Addr} {H H' : Hp} {o : HO} (a : Sx p H H') : Sx p H (upd H' p o) := fun b x n h => by
  rw [upd_ne n]
  exact a b x n h
theorem Sx.new {p q : Addr} {H H' : Hp} {o : HO} (a : Sx p H H') (h : H' q = none) : Sx p H (upd H' q o) := a.trans (.of (Same.knew h))
theorem Sx.put {p q : Addr} {H H' : Hp} {o : HO} (a : Sx p H H') (h : H q = none) : Sx p H (upd H' q o) := fun b x n e => by
  rw [upd_ne (ne_of_none e h)]
  exact a b x n e
/-- the pool of draws -/
structure PoolN (H : Hp) (p ga sa : Addr) (gs ss : List Int) (x y : Int) : Prop where
  hp : H p = some (.lst [.ref ga, .ref sa, .int x, .int y])
  hg : H ga = some (.lst (gs.map V.int))
  hs : H sa = some (.lst (ss.map V.int))
  gp : ga ≠ p
  sp : sa ≠ p
/-- what the pool has no hold of -/
def Off (H : Hp) (p ga sa : Addr) (av : List Addr) : Prop := ∀ a, a ∈ av → H a ≠ none ∧ ga ≠ a ∧ sa ≠ a ∧ p ≠ a
def Pool (H : Hp) (p : Addr) (av : List Addr) : Prop := ∃ ga sa gs ss x y, PoolN H p ga sa gs ss x y ∧ Off H p ga sa av
theorem some_ne {H : Hp} {a : Addr} {o : HO} (h : H a = some o) : H a ≠ none := fun e => by
  rw [h] at e
  cases e
theorem upd_some {H : Hp} {a b : Addr} {o : HO} (h : H a ≠ none) : upd H b o a ≠ none := fun e => by
  unfold upd at e
  split at e
  · cases e
  · exact h e
theorem Sx.some {p : Addr} {H H' : Hp} (e : Sx p H H') {a : Addr} (n : a ≠ p) (h : H a ≠ none) : H' a ≠ none := by
  cases h0 : H a with
  | none => exact absurd h0 h
  | some o => exact some_ne (e a o n h0)
theorem Off.to {H H' : Hp} {p ga sa : Addr} {av : List Addr} (O : Off H p ga sa av) (e : ∀ a, H a ≠ none → p ≠ a → H' a ≠ none) : Off H' p ga sa av := fun a h => ⟨e a (O a h).1 (O a h).2.2.2, (O a h).2⟩
theorem Pool.same {H H' : Hp} {p : Addr} {av : List Addr} (P : Pool H p av) (e : Same H H') : Pool H' p av := by
  obtain ⟨ga, sa, gs, ss, x, y, N, O⟩ := P
  refine ⟨ga, sa, gs, ss, x, y, ⟨e _ _ N.hp, e _ _ N.hg, e _ _ N.hs, N.gp, N.sp⟩, O.to fun a h n => ?_⟩
  cases h0 : H a with
  | none => exact absurd h0 h
  | some o => exact some_ne (e a o h0)
theorem Pool.new {H : Hp} {p q : Addr} {o : HO} {av : List Addr} (P : Pool H p av) (h : H q = none) : Pool (upd H q o) p av := P.same (Same.knew h)
theorem Pool.less {H : Hp} {p : Addr} {av bv : List Addr} (P : Pool H p av) (h : ∀ a, a ∈ bv → a ∈ av) : Pool H p bv := by
  obtain ⟨ga, sa, gs, ss, x, y, N, O⟩ := P
  exact ⟨ga, sa, gs, ss, x, y, N, fun a m => O a (h a m)⟩
/-- a new object, which the pool has no hold of -/
theorem Pool.more {H : Hp} {p q : Addr} {o : HO} {av : List Addr} (P : Pool H p av) (h : H q = none) : Pool (upd H q o) p (q :: av) := by
  obtain ⟨ga, sa, gs, ss, x, y, N, O⟩ := P.new (o := o) h
  obtain ⟨ga', sa', gs', ss', x', y', N', O'⟩ := P
  refine ⟨ga', sa', gs', ss', x', y', ⟨upd_ne' N'.hp h, upd_ne' N'.hg h, upd_ne' N'.hs h, N'.gp, N'.sp⟩, fun a m => ?_⟩
  rcases List.mem_cons.1 m with rfl | m
  · exact ⟨some_ne upd_same, ne_of_none N'.hg h, ne_of_none N'.hs h, ne_of_none N'.hp h⟩
  · exact ⟨upd_some (O' a m).1, (O' a m).2⟩
/-- .. may change -/
theorem Pool.set {H : Hp} {p q : Addr} {o : HO} {av : List Addr} (P : Pool H p av) (h : q ∈ av) : Pool (upd H q o) p av := by
  obtain ⟨ga, sa, gs, ss, x, y, N, O⟩ := P
  obtain ⟨_, n1, n2, n3⟩ := O q h
  refine ⟨ga, sa, gs, ss, x, y, ⟨?_, ?_, ?_, N.gp, N.sp⟩, fun a m => ⟨upd_some (O a m).1, (O a m).2⟩⟩
  · rw [upd_ne n3]
    exact N.hp
  · rw [upd_ne n1]
    exact N.hg
  · rw [upd_ne n2]
    exact N.hs
/-- .. and so may a dict -/
theorem Pool.setD {H : Hp} {p q : Addr} {o : HO} {av : List Addr} {kvs : List (Key × V)} (P : Pool H p av) (h : H q = some (.dK kvs)) : Pool (upd H q o) p av := by
  obtain ⟨ga, sa, gs, ss, x, y, N, O⟩ := P
  refine ⟨ga, sa, gs, ss, x, y, ⟨upd_of N.hp h (by intro e; cases e), upd_of N.hg h (by intro e; cases e), upd_of N.hs h (by intro e; cases e), N.gp, N.sp⟩, fun a m => ⟨upd_some (O a m).1, (O a m).2⟩⟩
theorem PoolN.at2 {H : Hp} {p ga sa : Addr} {gs ss : List Int} {x y : Int} (N : PoolN H p ga sa gs ss x y) (u v : Int) : PoolN (upd H p (.lst [.ref ga, .ref sa, .int u, .int v])) p ga sa gs ss u v :=
  ⟨upd_same, by rw [upd_ne N.gp]; exact N.hg, by rw [upd_ne N.sp]; exact N.hs, N.gp, N.sp⟩
theorem mem_cut {xs : List V} {lo hi : Option Int} {x : V} (h : x ∈ cutV xs lo hi) : x ∈ xs := by
  unfold cutV at h
  exact List.mem_of_mem_drop (List.mem_of_mem_take h)
theorem ints_cut {ns : List Int} {lo hi : Option Int} : ∃ ms : List Int, cutV (ns.map V.int) lo hi = ms.map V.int ∧ ms.length ≤ ns.length := by
  unfold cutV
  refine ⟨_, by rw [← List.map_drop, ← List.map_take], ?_⟩
  rw [List.length_take, List.length_drop]
  omega
section
variable {P : Program} {w : World} {K : PySem.W.Frag} {mg : Str → Option Value} {base : Heap}
def spPool (K : PySem.W.Frag) : Sp := fun vs H Q _ => ∃ (a : Addr) (ns : List Int), vs = [.ref a] ∧ SqL K H a (ns.map V.int) ∧ ns.length ≤ 63 ∧ ∀ (H' : Hp) (p : Addr), Same H H' → Pool H' p [] → Q (.ref p) H'
theorem cal_law_pool (D : Df K mg "_law_pool" s_law_pool ["_law_script"]) (B : Blt mg) : Cal P w K mg base 1 "_law_pool" (spPool K) := by
  refine cal_of D sc_law_pool (fun vs H Q E h => ?_) (fun f cdv A outer s H vs Q E hr h => ?_)
  · obtain ⟨a, ns, rfl, _⟩ := h
    rfl
  · obtain ⟨a, ns, rfl, hS, hlen, q⟩ := h
    refine ⟨_, (pss_cons (ps_setLc (i := 1) (own := [("_law_cell", 3)]) (g := gName 3) rfl sc_law_pool.nd rfl rfl (sw_true rfl rfl rfl (by decide +kernel)) (kPiL K rfl (pe_slice (kSl K rfl) (pv 0) po_none (po_some pe_int))) (blkOk_by (N := N_law_pool) (sc := defScope s_law_pool) (own := [("_law_cell", 3)]) (by decide +kernel)) (fun _ _ _ _ _ => pg_name (i := 3) sc_law_pool.nd rfl (by first | exact .inl rfl | exact .inr rfl)) (fun _ _ _ _ _ => (pts_one (pt_cmpR op_ge (pe_callB call_abs (by rfl) B.abs (by decide +kernel) (pa_cons (pv 3) pa_nil)) (pe_op op_pow pe_int pe_int) (nomark _)))) (fun _ _ _ _ _ => (pe_callB call_abs (by rfl) B.abs (by decide +kernel) (pa_cons (pv 3) pa_nil))))
      (pss_cons (ps_setLc (i := 2) (own := [("_law_cell", 3)]) (g := gName 3) rfl sc_law_pool.nd rfl rfl (sw_true rfl rfl rfl (by decide +kernel)) (kPiL K rfl (pe_slice (kSl K rfl) (pv 0) po_none (po_some pe_int))) (blkOk_by (N := N_law_pool) (sc := defScope s_law_pool) (own := [("_law_cell", 3)]) (by decide +kernel)) (fun _ _ _ _ _ => pg_name (i := 3) sc_law_pool.nd rfl (by first | exact .inl rfl | exact .inr rfl)) (fun _ _ _ _ _ => (pts_one (pt_cmpR op_lt (pe_callB call_abs (by rfl) B.abs (by decide +kernel) (pa_cons (pv 3) pa_nil)) (pe_op op_pow pe_int pe_int) (nomark _)))) (fun _ _ _ _ _ => (pe_op op_mod (pe_callTy call_int1 (by rfl) B.int (by decide +kernel) (pa_cons (pv 3) pa_nil)) pe_int)))
      (pss_one (ps_ret (pe_lst (pa_cons (pv 1) (pa_cons (pv 2) (pa_cons pe_int (pa_cons pe_int pa_nil))))))))), ?_⟩
    -- great = [abs(cell) for cell in script[:63] if ..]
    refine ⟨_, rfl, 63, rfl, a, _, rfl, hS, fun c nc => ?_⟩
    obtain ⟨ms, em, ml⟩ := ints_cut (ns := ns) (lo := none) (hi := some 63)
    rw [em]
    refine ⟨c, rfl, ⟨_, SqL.of upd_same⟩, fun D nD => ?_⟩
    have c0 := upd_same (H := H) (a := c) (o := .lst (ms.map V.int))
    have e0 := Same.knew (o := .lst (ms.map V.int)) nc
    generalize upd H c (.lst (ms.map V.int)) = H1 at nD c0 e0
    refine lc_it (walk_list (K := K) (a := c) (xs := ms.map V.int)) (fun i H' => ∃ zs : List Int, Same H1 H' ∧ H' D = some (.lst (zs.map V.int)) ∧ zs.length ≤ i) ⟨[], Same.knew nD, upd_same, Nat.le_refl _⟩ (fun i H' _ hp => ?_) ?_ ?_
    · obtain ⟨_, e, _⟩ := hp
      exact e.seq (SqL.of c0)
    · rintro i x H2 H3 hi ⟨zs, a1, a2, a3⟩ ⟨rfl, hx⟩
      obtain ⟨z, hz, rfl⟩ := get_map hx
      rw [List.length_map] at hi
      refine ⟨rfl, ?_⟩
      refine ⟨_, rfl, z, rfl, _, _, rfl, rfl, ⟨by decide, by decide, by decide⟩, _, _, rfl, rfl, _, rfl, ?_⟩
      refine ite2 (fun _ => ?_) fun _ => ⟨zs, a1, a2, by omega⟩
      refine ⟨_, rfl, z, rfl, _, a2, ?_, zs ++ [if z < 0 then -z else z], a1.kput nD, ?_, ?_⟩
      · rw [List.length_map]
        exact sz100 (by omega)
      · rw [upd_same, List.map_append]
        rfl
      · rw [List.length_append, List.length_singleton]
        omega
    rintro H2 ⟨gs, e2, g2, _⟩
    -- small = [int(cell) % 1000003 for cell in script[:63] if ..]
    refine ⟨_, rfl, 63, rfl, a, _, rfl, (e0.trans e2).seq hS, fun c2 nc2 => ?_⟩
    rw [em]
    refine ⟨c2, rfl, ⟨_, SqL.of upd_same⟩, fun D2 nD2 => ?_⟩
    have c3 := upd_same (H := H2) (a := c2) (o := .lst (ms.map V.int))
    have e3 := Same.knew (o := .lst (ms.map V.int)) nc2
    generalize upd H2 c2 (.lst (ms.map V.int)) = H3 at nD2 c3 e3
    refine lc_it (walk_list (K := K) (a := c2) (xs := ms.map V.int)) (fun i H' => ∃ zs : List Int, Same H3 H' ∧ H' D2 = some (.lst (zs.map V.int)) ∧ zs.length ≤ i) ⟨[], Same.knew nD2, upd_same, Nat.le_refl _⟩ (fun i H' _ hp => ?_) ?_ ?_
    · obtain ⟨_, e, _⟩ := hp
      exact e.seq (SqL.of c3)
    · rintro i x H4 H5 hi ⟨zs, a1, a2, a3⟩ ⟨rfl, hx⟩
      obtain ⟨z, hz, rfl⟩ := get_map hx
      rw [List.length_map] at hi
      refine ⟨rfl, ?_⟩
      refine ⟨_, rfl, z, rfl, _, _, rfl, rfl, ⟨by decide, by decide, by decide⟩, _, _, rfl, rfl, _, rfl, ?_⟩
      refine ite2 (fun _ => ?_) fun _ => ⟨zs, a1, a2, by omega⟩
      refine ⟨_, rfl, .inl ⟨z, rfl, _, _, rfl, rfl, by show (0 : Int) < 1000003; decide, _, a2, ?_, zs ++ [z % 1000003], a1.kput nD2, ?_, ?_⟩⟩
      · rw [List.length_map]
        exact sz100 (by omega)
      · rw [upd_same, List.map_append]
        rfl
      · rw [List.length_append, List.length_singleton]
        omega
    rintro H4 ⟨ss, e4, s4, _⟩
    -- return [great, small, 0, 0]
    refine ⟨_, rfl, _, rfl, by show 4 ≤ sizeLine; decide, fun p np => ?_⟩
    have eA := (e0.trans (e2.trans (e3.trans e4))).kadd (o := .lst [.ref D, .ref D2, .int 0, .int 0]) np
    have gp := (e3.trans e4) _ _ g2
    exact q _ p eA ⟨D, D2, gs, ss, 0, 0, ⟨upd_same, upd_ne' gp np, upd_ne' s4 np, ne_of_none gp np, ne_of_none s4 np⟩, fun a m => by cases m⟩
/-- a draw -/
def spDraw : Sp := fun vs H Q _ => ∃ (p : Addr) (n : Int) (av : List Addr), vs = [.ref p, .int n] ∧ Pool H p av ∧ 0 < n ∧ n < 1073741824 ∧ ∀ (H' : Hp) (d : Int), Sx p H H' → Pool H' p av → 0 ≤ d → d < n → Q (.int d) H'
theorem cal_law_draw (D : Df K mg "_law_draw" s_law_draw ["_law_pool_here", "_law_many"]) (B : Blt mg) : Cal P w K mg base 1 "_law_draw" spDraw := by
  refine cal_of D sc_law_draw (fun vs H Q E h => ?_) (fun f cdv A outer s H vs Q E hr h => ?_)
  · obtain ⟨p, n, av, rfl, _⟩ := h
    rfl
  · obtain ⟨p, n, av, rfl, hP, n0, n1, q⟩ := h
    refine ⟨_, (C8.pss_cut (ps_if (PW.pt (pw_and (pt_cmpR op_le (pe_ix (kIxL K rfl) (pv 0) pe_int (fun _ _ => rfl)) pe_int (nomark _)) (pw_and1 (pt_cmpR op_gt (pe_callB (kLen K rfl) (by rfl) B.len (by decide +kernel) (pa_cons (pe_ix (kIxL K rfl) (pv 0) pe_int (fun _ _ => rfl)) pa_nil)) pe_int (nomark _)))))
        (pss_cons (ps_asg (pe_ix (kIxL K rfl) (pe_ix (kIxL K rfl) (pv 0) pe_int (fun _ _ => rfl)) pe_int (fun _ _ => rfl)) (pg_sub (pv 0) pe_int set_list))
        (pss_one (ps_asg (pe_slice (kSl K rfl) (pe_ix (kIxL K rfl) (pv 0) pe_int (fun _ _ => rfl)) (po_some pe_int) po_none) (pg_sub (pv 0) pe_int set_list))))
        pss_nil)
      (pss_cons (ps_if (pt_cmpR op_gt (pe_ix (kIxL K rfl) (pv 0) pe_int (fun _ _ => rfl)) pe_int (nomark _))
        (pss_cons (ps_set (i := 2) sc_law_draw.nd rfl (.inl rfl) (pe_op op_mod (pe_callTy call_int1 (by rfl) B.int (by decide +kernel) (pa_cons (pe_ix (kIxL K rfl) (pv 0) pe_int (fun _ _ => rfl)) pa_nil)) (pv 1)))
        (pss_cons (ps_asg (pe_op op_fdiv (pe_ix (kIxL K rfl) (pv 0) pe_int (fun _ _ => rfl)) (pv 1)) (pg_sub (pv 0) pe_int set_list))
        (pss_one (ps_ret (pv 2)))))
        pss_nil)
      (pss_cons (ps_asg (pe_op op_add (pe_ix (kIxL K rfl) (pv 0) pe_int (fun _ _ => rfl)) pe_int) (pg_sub (pv 0) pe_int set_list))
      (pss_cons (ps_set (i := 3) sc_law_draw.nd rfl (.inl rfl) pe_int)
      (C8.pss_cut (ps_if (pt_cmpR op_gt (pe_callB (kLen K rfl) (by rfl) B.len (by decide +kernel) (pa_cons (pe_ix (kIxL K rfl) (pv 0) pe_int (fun _ _ => rfl)) pa_nil)) pe_int (nomark _))
        (pss_one (ps_set (i := 3) sc_law_draw.nd rfl (.inl rfl) (pe_ix (kIxL K rfl) (pe_ix (kIxL K rfl) (pv 0) pe_int (fun _ _ => rfl)) (pe_op op_mod (pe_callTy call_int1 (by rfl) B.int (by decide +kernel) (pa_cons (pe_ix (kIxL K rfl) (pv 0) pe_int (fun _ _ => rfl)) pa_nil)) (pe_callB (kLen K rfl) (by rfl) B.len (by decide +kernel) (pa_cons (pe_ix (kIxL K rfl) (pv 0) pe_int (fun _ _ => rfl)) pa_nil))) (fun _ _ => rfl))))
        pss_nil)
      (pss_cons (ps_set (i := 4) sc_law_draw.nd rfl (.inl rfl) (pe_op op_mod (pe_callTy call_int1 (by rfl) B.int (by decide +kernel) (pa_cons (pe_op op_mul (pe_op op_add (pe_op op_add (pv 3) (pe_op op_mul pe_int (pe_ix (kIxL K rfl) (pv 0) pe_int (fun _ _ => rfl)))) pe_int) pe_int) pa_nil)) pe_int))
      (pss_cons (ps_set (i := 4) sc_law_draw.nd rfl (.inl rfl) (pe_op op_mod (pe_callTy call_int1 (by rfl) B.int (by decide +kernel) (pa_cons (pe_op op_mul (pv 4) (pe_op op_add (pe_op op_fdiv (pv 4) pe_int) pe_int)) pa_nil)) pe_int))
      (pss_cons (ps_set (i := 4) sc_law_draw.nd rfl (.inl rfl) (pe_op op_mod (pe_callTy call_int1 (by rfl) B.int (by decide +kernel) (pa_cons (pe_op op_mul (pv 4) (pe_op op_add (pe_op op_fdiv (pv 4) pe_int) pe_int)) pa_nil)) pe_int))
      (pss_one (ps_ret (pe_op op_mod (pe_callTy call_int1 (by rfl) B.int (by decide +kernel) (pa_cons (pe_op op_fdiv (pv 4) pe_int) pa_nil)) (pv 1)))))))))))), ?_⟩
    -- the next great number, if the one at hand is used up
    refine ⟨fun σ' H' => σ' = [some (.ref p), some (.int n), none, none, none] ∧ Sx p H H' ∧ Pool H' p av, ?_, ?_⟩
    · obtain ⟨ga, sa, gs, ss, x, y, N, O⟩ := id hP
      refine ⟨_, rfl, p, _, 2, _, rfl, rfl, SqL.of N.hp, rfl, _, _, rfl, rfl, _, rfl, ?_⟩
      refine ite2 (fun _ => ?_) fun _ => iteF ⟨rfl, .refl _ _, hP⟩
      refine ⟨_, rfl, p, _, 0, _, rfl, rfl, SqL.of N.hp, rfl, ga, _, rfl, .inl (SqL.of N.hg), _, _, rfl, rfl, _, rfl, ?_⟩
      refine ite2 (fun hlen => ?_) fun _ => ⟨rfl, .refl _ _, hP⟩
      have hl : (0 : Int) < ((gs.map V.int).length : Int) := of_decide_eq_true hlen
      obtain ⟨z, zs, rfl⟩ : ∃ z zs, gs = z :: zs := by
        cases gs with
        | nil => simp at hl
        | cons z zs => exact ⟨z, zs, rfl⟩
      refine ⟨_, rfl, p, _, 0, _, rfl, rfl, SqL.of N.hp, rfl, ga, _, 0, .int z, rfl, rfl, SqL.of N.hg, atI_nat (j := 0) rfl, ?_⟩
      refine ⟨_, rfl, p, _, 2, 2, rfl, rfl, N.hp, rfl, ?_⟩
      have N1 := N.at2 z y
      refine ⟨_, rfl, p, _, 0, _, rfl, rfl, SqL.of N1.hp, rfl, 1, rfl, ga, _, rfl, SqL.of N1.hg, fun c nc => ?_⟩
      obtain ⟨ms, em, ml⟩ := ints_cut (ns := z :: zs) (lo := some 1) (hi := none)
      rw [em]
      have N2 := upd_ne' (o := .lst (ms.map V.int)) N1.hp nc
      refine ⟨_, rfl, p, _, 0, 0, rfl, rfl, N2, rfl, ?_⟩
      have cp : c ≠ p := (ne_of_none N1.hp nc).symm
      refine ⟨rfl, ((Sx.refl p H).set.new nc).set, c, sa, ms, ss, z, y, ⟨upd_same, ?_, ?_, cp, N.sp⟩, fun a m => ?_⟩
      · rw [upd_ne cp, upd_same]
      · rw [upd_ne N.sp]
        exact upd_ne' N1.hs nc
      · obtain ⟨o1, o2, o3, o4⟩ := O a m
        refine ⟨upd_some (upd_some (upd_some o1)), fun e => ?_, o3, o4⟩
        rw [← e] at o1
        have := upd_some (b := p) (o := .lst [.ref ga, .ref sa, .int z, .int y]) o1
        exact this nc
    · rintro σ1 H1 ⟨rfl, e1, ga, sa, gs, ss, x, y, N, O⟩
      refine ⟨_, rfl, p, _, 2, _, rfl, rfl, SqL.of N.hp, rfl, _, _, rfl, rfl, _, rfl, ?_⟩
      refine ite2 (fun _ => ?_) fun _ => ?_
      · -- digit = int(pool[2]) % many; pool[2] = pool[2] // many; return digit
        refine ⟨_, rfl, p, _, 2, _, rfl, rfl, SqL.of N.hp, rfl, .inl ⟨_, rfl, _, rfl, _, _, rfl, rfl, n0, ?_⟩⟩
        refine ⟨_, rfl, p, _, 2, _, rfl, rfl, SqL.of N.hp, rfl, _, rfl, _, _, rfl, rfl, ⟨n0, n1⟩, ?_⟩
        refine ⟨_, rfl, p, _, 2, 2, rfl, rfl, N.hp, rfl, _, rfl, ?_⟩
        exact q _ _ e1.set ⟨ga, sa, gs, ss, _, y, N.at2 _ y, O.to fun a h _ => upd_some h⟩ (Int.emod_nonneg _ (by omega)) (Int.emod_lt_of_pos _ n0)
      · -- pool[3] = pool[3] + 1; cell = 0
        refine ⟨_, rfl, p, _, 3, _, rfl, rfl, SqL.of N.hp, rfl, _, _, rfl, rfl, _, rfl, p, _, 3, 3, rfl, rfl, N.hp, rfl, ?_⟩
        have N1 := N.at2 x (y + 1)
        have e2 : Sx p H (upd H1 p (.lst [.ref ga, .ref sa, .int x, .int (y + 1)])) := e1.set
        have p1 := N1.hp
        have O1 : Off (upd H1 p (.lst [.ref ga, .ref sa, .int x, .int (y + 1)])) p ga sa av := O.to fun a h _ => upd_some h
        show C8.tCut _ _ _ _ (upd H1 p (.lst [.ref ga, .ref sa, .int x, .int (y + 1)]))
        generalize upd H1 p (.lst [.ref ga, .ref sa, .int x, .int (y + 1)]) = H2 at N1 e2 p1 O1
        refine ⟨fun σ' H' => H' = H2 ∧ ∃ c : Int, σ' = [some (.ref p), some (.int n), none, some (.int c), none], ?_, ?_⟩
        · refine ⟨_, rfl, p, _, 1, _, rfl, rfl, SqL.of p1, rfl, sa, _, rfl, .inl (SqL.of N1.hs), _, _, rfl, rfl, _, rfl, ?_⟩
          refine ite2 (fun hlen => ?_) fun _ => ⟨rfl, 0, rfl⟩
          have hl : (0 : Int) < ((ss.map V.int).length : Int) := of_decide_eq_true hlen
          refine ⟨_, rfl, p, _, 1, _, rfl, rfl, SqL.of p1, rfl, _, rfl, p, _, 3, _, rfl, rfl, SqL.of p1, rfl, .inl ⟨_, rfl, ?_⟩⟩
          refine ⟨_, rfl, p, _, 1, _, rfl, rfl, SqL.of p1, rfl, sa, _, rfl, .inl (SqL.of N1.hs), _, _, rfl, rfl, hl, ?_⟩
          have h0 := Int.emod_nonneg (y + 1) (show ((ss.map V.int).length : Int) ≠ 0 by omega)
          have h1 := Int.emod_lt_of_pos (y + 1) hl
          obtain ⟨j, ej⟩ : ∃ j : Nat, (y + 1) % ((ss.map V.int).length : Int) = (j : Int) := ⟨_, (Int.toNat_of_nonneg h0).symm⟩
          have hj : j < ss.length := by
            rw [ej, List.length_map] at h1
            omega
          refine ⟨sa, _, _, .int ss[j], rfl, rfl, SqL.of N1.hs, ?_, rfl, _, rfl⟩
          show atI _ ((y + 1) % ((ss.map V.int).length : Int)) = _
          rw [ej]
          exact atI_nat (by rw [List.getElem?_map, List.getElem?_eq_getElem hj]; rfl)
        · rintro σ2 H3 ⟨rfl, c, rfl⟩
          -- number = ..
          have cm : ∀ z u : Int, CMul (z % 2147483647) u := fun z u => by
            have a0 := Int.emod_nonneg z (show (2147483647 : Int) ≠ 0 by decide)
            have a1 := Int.emod_lt_of_pos z (show (0 : Int) < 2147483647 by decide)
            exact .inl ⟨by omega, by omega⟩
          refine ⟨_, rfl, _, rfl, p, _, 3, _, rfl, rfl, SqL.of p1, rfl, _, _, rfl, rfl, .inl ⟨by decide, by decide⟩, _, _, rfl, rfl, _, _, rfl, rfl, _, _, rfl, rfl, .inr ⟨by decide, by decide⟩, .inl ⟨_, rfl, _, _, rfl, rfl, by show (0 : Int) < 2147483647; decide, ?_⟩⟩
          refine ⟨_, rfl, _, rfl, _, _, rfl, rfl, ⟨by decide, by decide⟩, _, _, rfl, rfl, _, _, rfl, rfl, cm _ _, .inl ⟨_, rfl, _, _, rfl, rfl, by show (0 : Int) < 2147483647; decide, ?_⟩⟩
          refine ⟨_, rfl, _, rfl, _, _, rfl, rfl, ⟨by decide, by decide⟩, _, _, rfl, rfl, _, _, rfl, rfl, cm _ _, .inl ⟨_, rfl, _, _, rfl, rfl, by show (0 : Int) < 2147483399; decide, ?_⟩⟩
          refine ⟨_, rfl, _, _, rfl, rfl, ⟨by decide, by decide⟩, .inl ⟨_, rfl, _, rfl, _, _, rfl, rfl, n0, ?_⟩⟩
          exact q _ _ e2 ⟨ga, sa, gs, ss, _, _, N1, O1⟩ (Int.emod_nonneg _ (by omega)) (Int.emod_lt_of_pos _ n0)
def spPick : Sp := fun vs H Q _ => ∃ (p t : Addr) (xs : List V) (av : List Addr), vs = [.ref p, .ref t] ∧ Pool H p av ∧ t ≠ p ∧ H t = some (.lst xs) ∧ 0 < xs.length ∧ xs.length ≤ 1000 ∧ ∀ (H' : Hp) (x : V), Sx p H H' → Pool H' p av → x ∈ xs → Q x H'
theorem cal_law_pick (D : Df K mg "_law_pick" s_law_pick ["_law_pool_here", "_law_things"]) (B : Blt mg) (c_law_draw : Cal P w K mg base 1 "_law_draw" spDraw) : Cal P w K mg base 2 "_law_pick" spPick := by
  refine cal_of D sc_law_pick (fun vs H Q E h => ?_) (fun f cdv A outer s H vs Q E hr h => ?_)
  · obtain ⟨p, t, xs, av, rfl, _⟩ := h
    rfl
  · obtain ⟨p, t, xs, av, rfl, hP, tp, ht, l0, l1, q⟩ := h
    refine ⟨_, (pss_one (ps_ret (pe_ix (kIxL K rfl) (pv 1) (pe_cal c_law_draw hr (by decide) (by rfl) (pa_cons (pv 0) (pa_cons (pe_callB (kLen K rfl) (by rfl) B.len (by decide +kernel) (pa_cons (pv 1) pa_nil)) pa_nil))) (fun _ _ => rfl)))), ?_⟩
    refine ⟨_, rfl, _, rfl, _, rfl, t, xs, rfl, .inl (SqL.of ht), p, _, av, rfl, hP, by omega, by omega, fun H' d e hP' d0 d1 => ?_⟩
    obtain ⟨j, rfl⟩ : ∃ j : Nat, d = (j : Int) := ⟨d.toNat, (Int.toNat_of_nonneg d0).symm⟩
    have hj : j < xs.length := by omega
    refine ⟨t, xs, _, xs[j], rfl, rfl, SqL.of (e _ _ tp ht), atI_nat (List.getElem?_eq_getElem hj), ?_⟩
    exact q H' _ e hP' (List.getElem_mem hj)
end
end KW
end
section
set_option Elab.async false
set_option linter.all false
set_option maxRecDepth 100000
set_option maxHeartbeats 400000
/-! K10: what the drawn growths are made of; _law_ringed. -/
namespace KW
open PySem PySem.Spec PyProof.Rows L2
/- _law_ringed: slots 0 _law_pool_here, 1 _law_letters, 2 _law_lots, 3 _law_used, 4 _law_turn, 5 _law_size, 6 _law_found, 7 _law_at, 8 _law_ring, 9 _law_later, 10 _law_lot, 11 _law_k, 12 _law_row, 13 _law_more; cells ['_law_letters', '_law_pool_here', '_law_used'] -/
abbrev s_law_ringed : Stmt := topS 31
abbrev N_law_ringed : List Str := ["_law_pool_here", "_law_letters", "_law_lots", "_law_used", "_law_turn", "_law_size", "_law_found", "_law_at", "_law_ring", "_law_later", "_law_lot", "_law_k", "_law_row", "_law_more"]
theorem sc_law_ringed : FnScope N_law_ringed ["_law_pool_here"] (defScope s_law_ringed) := ⟨rfl, rfl, rfl, by decide +kernel, rfl, by decide +kernel, by decide +kernel⟩
/-! ### names -/
abbrev ch (j : Nat) : Str := ⟨#[97 + j]⟩
theorem signs_at : ∀ j, j < 26 → signs.cps.toList[j]? = some (97 + j) := by decide +kernel
theorem signs_len : signs.length = 26 := by decide +kernel
theorem signs_le : signs.length ≤ sizeLine := by
  rw [signs_len]
  exact sz100' (by decide)
theorem signs_ix {i : Int} {j : Nat} (e : i = (j : Int)) (h : j < 26) : atI signs.cps.toList i = some (97 + j) := by
  rw [e]
  exact atI_nat (signs_at j h)
theorem ch_in {j : Nat} (h : j < 26) : 97 + j ∈ signs.cps.toList := List.mem_of_getElem? (signs_at j h)
theorem rep_head {c r : Nat} (h : 1 ≤ r) : (strRep ⟨#[c]⟩ r).cps.toList.head? = some c := by
  rw [strRep_list]
  cases r with
  | zero => omega
  | succ r =>
    rw [List.replicate_succ]
    rfl
theorem rep_small {j r : Nat} (hj : j < 26) (h1 : 1 ≤ r) (h8 : r ≤ 8) : Small (strRep (ch j) r) := by
  have hl : (strRep (ch j) r).length = r * 1 := strRep_len (ch j) r
  refine ⟨by omega, by omega, fun c hc => ?_⟩
  rw [strRep_list] at hc
  obtain ⟨l, hl, hc⟩ := List.mem_flatten.1 hc
  obtain ⟨_, rfl⟩ := List.mem_replicate.1 hl
  obtain rfl : c = 97 + j := List.mem_singleton.1 hc
  exact ch_in hj
structure Nm (nm : List Str) : Prop where
  nd : nm.Nodup
  hd : ∀ t, t ∈ nm → ∃ j, j < nm.length ∧ t.cps.toList.head? = some (97 + j)
  sm : ∀ t, t ∈ nm → Small t
theorem Nm.nil : Nm [] := ⟨List.nodup_nil, fun t h => (nomatch h), fun t h => (nomatch h)⟩
theorem Nm.add {nm : List Str} (N : Nm nm) (hl : nm.length < 26) {r : Nat} (h1 : 1 ≤ r) (h8 : r ≤ 8) : Nm (nm ++ [strRep (ch nm.length) r]) := by
  have hh := rep_head (c := 97 + nm.length) h1
  refine ⟨List.nodup_append.2 ⟨N.nd, List.nodup_cons.2 ⟨List.not_mem_nil, List.nodup_nil⟩, fun a ha b hb e => ?_⟩, fun t ht => ?_, fun t ht => ?_⟩
  · rw [List.mem_singleton.1 hb] at e
    obtain ⟨j, hj, e2⟩ := N.hd a ha
    rw [e, hh] at e2
    have := Option.some.inj e2
    omega
  · rw [List.length_append, List.length_singleton]
    rcases List.mem_append.1 ht with m | m
    · obtain ⟨j, hj, e⟩ := N.hd t m
      exact ⟨j, by omega, e⟩
    · rw [List.mem_singleton.1 m]
      exact ⟨nm.length, by omega, hh⟩
  · rcases List.mem_append.1 ht with m | m
    · exact N.sm t m
    · rw [List.mem_singleton.1 m]
      exact rep_small hl h1 h8

/-! ### the growth under way -/
structure FndN (H : Hp) (p F : Addr) (nm ks : List Str) (ad : Str → Addr) (suc : Str → List Str) : Prop where
  d : H F = some (.dK (kvOf ks fun k => .ref (ad k)))
  fp : F ≠ p
  t : ∀ k, k ∈ ks → H (ad k) = some (.tup ((suc k).map V.str))
  tp : ∀ k, k ∈ ks → ad k ≠ p
  row : ∀ k, k ∈ ks → (suc k).length ≤ 4
  cl : ∀ k, k ∈ ks → ∀ x, x ∈ suc k → x ∈ nm
  sub : ∀ k, k ∈ ks → k ∈ nm
  nd : ks.Nodup
def Fnd (H : Hp) (p F : Addr) (nm ks : List Str) : Prop := ∃ ad suc, FndN H p F nm ks ad suc
theorem Fnd.sx {H H' : Hp} {p F : Addr} {nm ks : List Str} (N : Fnd H p F nm ks) (e : Sx p H H') : Fnd H' p F nm ks := by
  obtain ⟨ad, suc, N⟩ := N
  exact ⟨ad, suc, e _ _ N.fp N.d, N.fp, fun k h => e _ _ (N.tp k h) (N.t k h), N.tp, N.row, N.cl, N.sub, N.nd⟩
theorem Fnd.nil {H : Hp} {p F : Addr} {nm : List Str} (h : H F = some (.dK [])) (n : F ≠ p) : Fnd H p F nm [] :=
  ⟨fun _ => 0, fun _ => [], h, n, fun k m => (by cases m), fun k m => (by cases m), fun k m => (by cases m), fun k m => (by cases m), fun k m => (by cases m), List.nodup_nil⟩
/-- one more row -/
theorem Fnd.put {H : Hp} {p F q : Addr} {nm ks rw' : List Str} {k : Str} {Q : Hp → Prop} (N : Fnd H p F nm ks) (hq : H q = some (.tup (rw'.map V.str))) (qp : q ≠ p) (hk : k ∈ nm) (hl : rw'.length ≤ 4) (hr : ∀ x, x ∈ rw' → x ∈ nm) (small : ks.length ≤ 100)
    (go : ∀ kvs, H F = some (.dK kvs) → kvs.length < sizeLine → Fnd (upd H F (.dK (putK kvs (Sum.inr k : Key) (.ref q)))) p F nm (if k ∈ ks then ks else ks ++ [k]) → Q H) : Q H := by
  obtain ⟨ad, suc, N⟩ := N
  refine go _ N.d (by rw [kv_len]; exact sz100 (by omega)) ?_
  have hF : ∀ {b : Addr} {xs : List V}, H b = some (.tup xs) → upd H F (.dK (putK (kvOf ks fun k => .ref (ad k)) (Sum.inr k : Key) (.ref q))) b = some (.tup xs) := fun h => upd_of h N.d (by intro e; cases e)
  have E : ∀ x, (if x = k then V.ref q else V.ref (ad x)) = V.ref (if x = k then q else ad x) := fun x => by
    by_cases e : x = k
    · rw [if_pos e, if_pos e]
    · rw [if_neg e, if_neg e]
  refine ⟨fun x => if x = k then q else ad x, fun x => if x = k then rw' else suc x, ?_⟩
  have old : ∀ {x}, x ∈ (if k ∈ ks then ks else ks ++ [k]) → x ≠ k → x ∈ ks := fun {x} h n => by
    split at h
    · exact h
    · rcases List.mem_append.1 h with m | m
      · exact m
      · exact absurd (List.mem_singleton.1 m) n
  refine ⟨?_, N.fp, fun x hx => ?_, fun x hx => ?_, fun x hx => ?_, fun x hx => ?_, fun x hx => ?_, ?_⟩
  · rw [upd_same]
    by_cases h : k ∈ ks
    · rw [if_pos h, putK_set h]
      exact congrArg (fun l => some (HO.dK l)) (kv_congr fun x _ => E x)
    · rw [if_neg h, putK_add h]
      exact congrArg (fun l => some (HO.dK l)) (kv_congr fun x _ => E x)
  · by_cases e : x = k
    · rw [if_pos e, if_pos e]
      exact hF hq
    · rw [if_neg e, if_neg e]
      exact hF (N.t x (old hx e))
  · by_cases e : x = k
    · rw [if_pos e]
      exact qp
    · rw [if_neg e]
      exact N.tp x (old hx e)
  · by_cases e : x = k
    · rw [if_pos e]
      exact hl
    · rw [if_neg e]
      exact N.row x (old hx e)
  · by_cases e : x = k
    · rw [if_pos e]
      exact hr
    · rw [if_neg e]
      exact N.cl x (old hx e)
  · by_cases e : x = k
    · rw [e]
      exact hk
    · exact N.sub x (old hx e)
  · split
    · exact N.nd
    · rename_i h
      exact List.nodup_append.2 ⟨N.nd, List.nodup_cons.2 ⟨List.not_mem_nil, List.nodup_nil⟩, fun a ha b hb e => by
        rw [List.mem_singleton.1 hb] at e
        exact h (e ▸ ha)⟩
/-- the lots of names -/
structure Lots (H : Hp) (p L : Addr) (ls : List (Addr × List Str)) : Prop where
  l : H L = some (.lst (ls.map fun x => V.ref x.1))
  lp : L ≠ p
  t : ∀ x, x ∈ ls → H x.1 = some (.lst (x.2.map V.str))
  tp : ∀ x, x ∈ ls → x.1 ≠ p ∧ x.1 ≠ L
  one : ∀ x, x ∈ ls → 1 ≤ x.2.length ∧ x.2.length ≤ 3
abbrev nmOf (ls : List (Addr × List Str)) : List Str := ls.flatMap (·.2)
theorem Lots.sx {H H' : Hp} {p L : Addr} {ls : List (Addr × List Str)} (N : Lots H p L ls) (e : Sx p H H') : Lots H' p L ls :=
  ⟨e _ _ N.lp N.l, N.lp, fun x h => e _ _ (N.tp x h).1 (N.t x h), N.tp, N.one⟩
theorem Lots.add {H : Hp} {p L D : Addr} {ls : List (Addr × List Str)} {ts : List Str} (N : Lots H p L ls) (hD : H D = some (.lst (ts.map V.str))) (dp : D ≠ p) (dl : D ≠ L) (h : 1 ≤ ts.length ∧ ts.length ≤ 3) :
    Lots (upd H L (.lst ((ls.map fun x => V.ref x.1) ++ [.ref D]))) p L (ls ++ [(D, ts)]) := by
  refine ⟨?_, N.lp, fun x hx => ?_, fun x hx => ?_, fun x hx => ?_⟩
  · rw [upd_same, List.map_append]
    rfl
  all_goals rcases List.mem_append.1 hx with m | m
  · rw [upd_ne (N.tp x m).2]
    exact N.t x m
  · rw [List.mem_singleton.1 m, upd_ne dl]
    exact hD
  · exact N.tp x m
  · rw [List.mem_singleton.1 m]
    exact ⟨dp, dl⟩
  · exact N.one x m
  · rw [List.mem_singleton.1 m]
    exact h
theorem Lots.setD {H : Hp} {p L F : Addr} {o : HO} {kvs : List (Key × V)} {ls : List (Addr × List Str)} (N : Lots H p L ls) (h : H F = some (.dK kvs)) : Lots (upd H F o) p L ls :=
  ⟨upd_of N.l h (by intro e; cases e), N.lp, fun x m => upd_of (N.t x m) h (by intro e; cases e), N.tp, N.one⟩
theorem Pool.ne {H : Hp} {p q : Addr} {av : List Addr} (P : Pool H p av) (h : H q = none) : q ≠ p := by
  obtain ⟨ga, sa, gs, ss, x, y, N, _⟩ := P
  exact (ne_of_none N.hp h).symm
theorem cut_len {xs : List V} {lo hi : Option Int} : (cutV xs lo hi).length ≤ xs.length := by
  unfold cutV
  rw [List.length_take, List.length_drop]
  omega
theorem mem_nm {ls : List (Addr × List Str)} {x : Addr × List Str} (h : x ∈ ls) {t : Str} (m : t ∈ x.2) : t ∈ nmOf ls := List.mem_flatMap.2 ⟨x, h, m⟩
theorem nm_len {ls : List (Addr × List Str)} {i : Nat} : (nmOf (ls.take i)).length ≤ (nmOf ls).length := by
  have : nmOf ls = nmOf (ls.take i) ++ nmOf (ls.drop i) := by
    show List.flatMap _ _ = _
    rw [← List.flatMap_append, List.take_append_drop]
  rw [this, List.length_append]
  omega
theorem nin_of {ls : List (Addr × List Str)} {i k : Nat} {a : Addr} {ts : List Str} {y : Str} (nd : (nmOf ls).Nodup) (hx : ls[i]? = some (a, ts)) (hk : ts[k]? = some y) : y ∉ nmOf (ls.take i) ++ ts.take k := fun m => by
  have e : nmOf ls = (nmOf (ls.take i) ++ ts) ++ nmOf (ls.drop (i + 1)) := by
    have e1 : nmOf (ls.take (i + 1)) = nmOf (ls.take i) ++ ts := by
      show List.flatMap _ _ = _
      rw [take_next hx, List.flatMap_append, List.flatMap_singleton]
    rw [← e1]
    show List.flatMap _ _ = _
    rw [← List.flatMap_append, List.take_append_drop]
  rw [e] at nd
  obtain ⟨nd1, _, _⟩ := List.nodup_append.1 nd
  obtain ⟨_, nd2, nd3⟩ := List.nodup_append.1 nd1
  rcases List.mem_append.1 m with h | h
  · exact nd3 y h y (List.mem_of_getElem? hk) rfl
  · exact not_mem_take nd2 hk h
section
variable {P : Program} {w : World} {K : PySem.W.Frag} {mg : Str → Option Value} {base : Heap}
/-- a pick of written numbers -/
theorem pickI {H : Hp} {p t : Addr} {av : List Addr} {ns : List Int} {Q : VK} {E : XK} (P : Pool H p av) (nt : H t = none) (n0 : 0 < ns.length) (n1 : ns.length ≤ 1000)
    (q : ∀ (H' : Hp) (j : Int), Sx p H H' → Pool H' p av → j ∈ ns → Q (.int j) H') : spPick [.ref p, .ref t] (upd H t (.lst (ns.map V.int))) Q E := by
  have tp : t ≠ p := by
    obtain ⟨ga, sa, gs, ss, x, y, N, _⟩ := P
    exact (ne_of_none N.hp nt).symm
  refine ⟨p, t, _, av, rfl, P.new nt, tp, upd_same, by rw [List.length_map]; exact n0, by rw [List.length_map]; exact n1, fun H' x e P' m => ?_⟩
  obtain ⟨j, hj, rfl⟩ := List.mem_map.1 m
  exact q H' j ((Sx.refl p H).new nt |>.trans e) P' hj
/-- a pick of texts -/
theorem pickS {H : Hp} {p t : Addr} {av : List Addr} {ns : List Str} {Q : VK} {E : XK} (P : Pool H p av) (tp : t ≠ p) (ht : H t = some (.lst (ns.map V.str))) (n0 : 0 < ns.length) (n1 : ns.length ≤ 1000)
    (q : ∀ (H' : Hp) (j : Str), Sx p H H' → Pool H' p av → j ∈ ns → Q (.str j) H') : spPick [.ref p, .ref t] H Q E := by
  refine ⟨p, t, _, av, rfl, P, tp, ht, by rw [List.length_map]; exact n0, by rw [List.length_map]; exact n1, fun H' x e P' m => ?_⟩
  obtain ⟨j, hj, rfl⟩ := List.mem_map.1 m
  exact q H' j e P' hj
/-- what a draw of a growth brings -/
def Drawn (K : PySem.W.Frag) (H : Hp) (g : Addr) : Prop := ∃ (ks : List Str) (suc : Str → List Str) (ad : Str → Addr), H g = some (.dK (kvOf ks fun k => .ref (ad k))) ∧ (∀ k, k ∈ ks → H (ad k) = some (.tup ((suc k).map V.str))) ∧ GOk ks suc
def spRinged (K : PySem.W.Frag) : Sp := fun vs H Q _ => ∃ p, vs = [.ref p] ∧ Pool H p [] ∧ ∀ (H' : Hp) (g : Addr), Pool H' p [] → Drawn K H' g → Q (.ref g) H'
theorem cal_law_ringed (D : Df K mg "_law_ringed" s_law_ringed ["_law_pool_here"]) (B : Blt mg) (c_law_draw : Cal P w K mg base 1 "_law_draw" spDraw) (c_law_pick : Cal P w K mg base 2 "_law_pick" spPick) : Cal P w K mg base 3 "_law_ringed" (spRinged K) := by
  refine cal_of D sc_law_ringed (fun vs H Q E h => ?_) (fun f cdv A outer s H vs Q E hr h => ?_)
  · obtain ⟨p, rfl, _⟩ := h
    rfl
  · obtain ⟨p, rfl, hP, q⟩ := h
    have hu := hu_of hr
    refine ⟨_, (pss_cons (ps_set (i := 1) sc_law_ringed.nd rfl (.inr rfl) pe_str)
      (pss_cons (ps_set (i := 2) sc_law_ringed.nd rfl (.inl rfl) (pe_lst pa_nil))
      (pss_cons (ps_set (i := 3) sc_law_ringed.nd rfl (.inr rfl) pe_int)
      (pss_cons (ps_for PassesOwn.never rfl (pi_range1 (by rfl) B.range (pa_cons (pe_cal c_law_pick hr (by decide) (by rfl) (pa_cons (pv 0) (pa_cons (pe_lst (pa_cons pe_int (pa_cons pe_int (pa_cons pe_int (pa_cons pe_int (pa_cons pe_int pa_nil)))))) pa_nil))) pa_nil)) (pg_name (i := 4) sc_law_ringed.nd rfl (.inl rfl))
        (pss_cons (ps_set (i := 5) sc_law_ringed.nd rfl (.inl rfl) (pe_cal c_law_pick hr (by decide) (by rfl) (pa_cons (pv 0) (pa_cons (pe_lst (pa_cons pe_int (pa_cons pe_int (pa_cons pe_int (pa_cons pe_int pa_nil))))) pa_nil))))
        (pss_one (ps_if (pt_cmpR op_le (pe_op op_add (pv 3) (pv 5)) pe_int (nomark _))
          (pss_cons (ps_expr (pe_bm PySem.F.plainAttrs_list PySem.F.slot_list_append PySem.F.type_list_append mt_append (pv 2) (pa_cons (pe_lc (own := [("_law_k", 11)]) (g := gName 11) rfl sc_law_ringed.nd (pi_range1 (by rfl) B.range (pa_cons (pv 5) pa_nil)) (blkOk_by (N := N_law_ringed) (sc := defScope s_law_ringed) (own := [("_law_k", 11)]) (by decide +kernel)) (fun _ _ _ _ _ => pg_name (i := 11) sc_law_ringed.nd rfl (by first | exact .inl rfl | exact .inr rfl)) (fun _ _ _ _ _ => pts_nil) (fun _ _ _ _ _ => (pe_op op_repS (pe_ix ix_str (pv 1) (pe_op op_add (pv 3) (pv 11)) (fun _ _ => rfl)) (pe_op op_add pe_int (pe_cal c_law_draw hr (by decide) (by rfl) (pa_cons (pv 0) (pa_cons pe_int pa_nil))))))) pa_nil)))
          (pss_one (ps_set (i := 3) sc_law_ringed.nd rfl (.inr rfl) (pe_op op_add (pv 3) (pv 5)))))
          pss_nil))))
      (pss_cons (ps_set (i := 6) sc_law_ringed.nd rfl (.inl rfl) pe_dnewK)
      (pss_cons (ps_for PassesOwn.never rfl (pi_range1 (by rfl) B.range (pa_cons (pe_callB (kLen K rfl) (by rfl) B.len (by decide +kernel) (pa_cons (pv 2) pa_nil)) pa_nil)) (pg_name (i := 7) sc_law_ringed.nd rfl (.inl rfl))
        (C8.pss_cut (ps_set (i := 8) sc_law_ringed.nd rfl (.inl rfl) (pe_or (pe_cmpR op_gt (pe_callB (kLen K rfl) (by rfl) B.len (by decide +kernel) (pa_cons (pe_ix (kIxL K rfl) (pv 2) (pv 7) (fun _ _ => rfl)) pa_nil)) pe_int (nomark _)) (pe_one (pe_cmpR op_eq (pe_cal c_law_draw hr (by decide) (by rfl) (pa_cons (pv 0) (pa_cons pe_int pa_nil))) pe_int (nomark _)))))
        (pss_cons (ps_set (i := 9) sc_law_ringed.nd rfl (.inl rfl) (pe_lst pa_nil))
        (pss_cons (ps_for PassesOwn.never rfl (kPiL K rfl (pe_slice (kSl K rfl) (pv 2) (po_some (pe_op op_add (pv 7) pe_int)) po_none)) (pg_name (i := 10) sc_law_ringed.nd rfl (.inl rfl))
          (pss_one (ps_set (i := 9) sc_law_ringed.nd rfl (.inl rfl) (pe_op op_cat (pv 9) (pv 10)))))
        (pss_one (ps_for PassesOwn.never rfl (pi_range1 (by rfl) B.range (pa_cons (pe_callB (kLen K rfl) (by rfl) B.len (by decide +kernel) (pa_cons (pe_ix (kIxL K rfl) (pv 2) (pv 7) (fun _ _ => rfl)) pa_nil)) pa_nil)) (pg_name (i := 11) sc_law_ringed.nd rfl (.inl rfl))
          (C8.pss_cut (ps_set (i := 12) sc_law_ringed.nd rfl (.inl rfl) (pe_ifExp (pt_val (pv 8)) (pe_lst (pa_cons (pe_ix (kIxL K rfl) (pe_ix (kIxL K rfl) (pv 2) (pv 7) (fun _ _ => rfl)) (pe_op op_mod (pe_callTy call_int1 (by rfl) B.int (by decide +kernel) (pa_cons (pe_op op_add (pv 11) pe_int) pa_nil)) (pe_callB (kLen K rfl) (by rfl) B.len (by decide +kernel) (pa_cons (pe_ix (kIxL K rfl) (pv 2) (pv 7) (fun _ _ => rfl)) pa_nil))) (fun _ _ => rfl)) pa_nil)) (pe_lst pa_nil)))
          (pss_cons (ps_for PassesOwn.never rfl (pi_range1 (by rfl) B.range (pa_cons (pe_cal c_law_draw hr (by decide) (by rfl) (pa_cons (pv 0) (pa_cons pe_int pa_nil))) pa_nil)) (pg_name (i := 13) sc_law_ringed.nd rfl (.inl rfl))
            (pss_one (ps_if (pt_cmpR op_gt (pe_callB (kLen K rfl) (by rfl) B.len (by decide +kernel) (pa_cons (pv 9) pa_nil)) pe_int (nomark _))
              (pss_one (ps_expr (pe_bm PySem.F.plainAttrs_list PySem.F.slot_list_insert PySem.F.type_list_insert mt_insert (pv 12) (pa_cons (pe_cal c_law_draw hr (by decide) (by rfl) (pa_cons (pv 0) (pa_cons (pe_op op_add (pe_callB (kLen K rfl) (by rfl) B.len (by decide +kernel) (pa_cons (pv 12) pa_nil)) pe_int) pa_nil))) (pa_cons (pe_cal c_law_pick hr (by decide) (by rfl) (pa_cons (pv 0) (pa_cons (pv 9) pa_nil))) pa_nil)))))
              pss_nil)))
          (pss_one (ps_dput hu (pv 6) (pe_ix (kIxL K rfl) (pe_ix (kIxL K rfl) (pv 2) (pv 7) (fun _ _ => rfl)) (pv 11) (fun _ _ => rfl)) (pe_callTy (kTup K rfl) (by rfl) B.tuple (by decide +kernel) (pa_cons (pv 12) pa_nil)) rfl))))))))))
      (pss_one (ps_ret (pv 6))))))))), ?_⟩
    refine ⟨Nat.zero_le _, fun L nL => ?_⟩
    obtain ⟨pL, LP⟩ : L ≠ p ∧ Lots (upd H L (.lst [])) p L [] := by
      have : L ≠ p := by
        obtain ⟨ga, sa, gs, ss, x, y, N, _⟩ := hP
        exact (ne_of_none N.hp nL).symm
      exact ⟨this, upd_same, this, fun x m => (by cases m), fun x m => (by cases m), fun x m => (by cases m)⟩
    have P0 : Pool (upd H L (.lst [])) p [L] := hP.more nL
    generalize upd H L (.lst []) = H0 at P0 LP
    refine ⟨_, rfl, by show 5 ≤ sizeLine; decide, fun t nt => pickI (E := E0) (ns := [1, 2, 3, 4, 5]) P0 nt (by decide) (by decide) fun H1 n e1 P1 hn => ?_⟩
    have n0 : 1 ≤ n ∧ n ≤ 5 := by
      revert hn
      simp
      omega
    refine ⟨n, rfl, by omega, by omega, ?_⟩
    refine for_it (walk_range (lo := 0) (n := n.toNat)) (fun i σ H' => ∃ y4 y5 ls, σ = [some (.ref p), some (.str signs), some (.ref L), some (.int ((nmOf ls).length : Nat)), y4, y5, none, none, none, none, none, none, none, none] ∧ Pool H' p [L] ∧ Lots H' p L ls ∧ ls.length ≤ i ∧ (0 < i → 0 < ls.length) ∧ Nm (nmOf ls) ∧ (nmOf ls).length ≤ 12)
      ⟨none, none, [], rfl, P1, LP.sx e1, Nat.le_refl _, fun h => by omega, Nm.nil, Nat.zero_le _⟩ (fun _ _ _ _ _ => trivial) ?_ ?_
    · rintro i x σ H2 H3 hi ⟨y4, y5, ls, rfl, P2, L2, a1, a2, a3, a4⟩ ⟨rfl, rfl⟩
      refine ⟨_, rfl, by show 4 ≤ sizeLine; decide, fun t nt => pickI (E := E0) (ns := [1, 1, 2, 3]) P2 nt (by decide) (by decide) fun H4 z e4 P4 hz => ?_⟩
      have z0 : 1 ≤ z ∧ z ≤ 3 := by
        revert hz
        simp
        omega
      have L4 := L2.sx e4
      refine ⟨_, rfl, _, rfl, _, _, rfl, rfl, _, _, rfl, rfl, _, rfl, ?_⟩
      refine ite2 (fun hle => ?_) fun hgt => ?_
      · have hle' : ((nmOf ls).length : Int) + z ≤ 12 := of_decide_eq_true hle
        -- lots.append([letters[used + k] * (1 + draw(pool, 3)) for k in range(size)])
        refine ⟨_, rfl, .inl ⟨rfl, _, SqL.of L4.l⟩, _, rfl, z, rfl, by omega, by omega, fun D nD => ?_⟩
        have P5 : Pool (upd H4 D (.lst [])) p [D, L] := P4.more nD
        have dp : D ≠ p := by
          obtain ⟨ga, sa, gs, ss, x, y, N, _⟩ := P4
          exact (ne_of_none N.hp nD).symm
        have dl : D ≠ L := (ne_of_none L4.l nD).symm
        refine lc_it (walk_range (lo := 0) (n := z.toNat)) (fun m H' => ∃ ts : List Str, Sx p H4 H' ∧ Pool H' p [D, L] ∧ H' D = some (.lst (ts.map V.str)) ∧ ts.length = m ∧ Nm (nmOf ls ++ ts))
          ⟨[], .of (Same.knew nD), P5, upd_same, rfl, by rw [List.append_nil]; exact a3⟩ (fun _ _ _ _ => trivial) ?_ ?_
        · rintro m x H5 H6 hm ⟨ts, b1, b2, b3, b4, b5⟩ ⟨rfl, rfl⟩
          refine ⟨rfl, tyes ?_⟩
          refine ⟨_, rfl, _, rfl, _, rfl, _, _, rfl, rfl, signs, _, _, rfl, rfl, signs_le, signs_ix (j := (nmOf ls).length + m) (by omega) (by omega), ?_⟩
          refine ⟨_, rfl, p, _, _, rfl, b2, by decide, by decide, fun H7 d e7 P7 d0 d1 => ?_⟩
          have h7 := e7 _ _ dp b3
          refine ⟨_, _, rfl, rfl, ch ((nmOf ls).length + m), 1 + d, rfl, rfl, by omega, by omega, by show 1 ≤ 100; decide, by show 1 ≤ 1; decide, ?_⟩
          refine ⟨_, h7, ?_, ts ++ [strRep (ch ((nmOf ls).length + m)) (1 + d).toNat], (b1.trans e7).put nD, P7.set List.mem_cons_self, ?_, ?_, ?_⟩
          · rw [List.length_map]
            exact sz100 (by omega)
          · rw [upd_same, List.map_append]
            rfl
          · rw [List.length_append, b4]
            rfl
          · rw [← List.append_assoc]
            have := b5.add (r := (1 + d).toNat) (by rw [List.length_append]; omega) (by omega) (by omega)
            rw [List.length_append, b4] at this
            exact this
        · rintro H5 ⟨ts, b1, b2, b3, b4, b5⟩
          have L5 := L4.sx b1
          refine ⟨_, _, _, rfl, rfl, L5.l, ?_, ?_⟩
          · rw [List.length_map]
            exact sz100 (by omega)
          · refine ⟨_, rfl, _, rfl, _, _, rfl, rfl, ?_⟩
            have eN : nmOf (ls ++ [(D, ts)]) = nmOf ls ++ ts := by
              show List.flatMap _ _ = _
              rw [List.flatMap_append, List.flatMap_singleton]
            refine ⟨some (.int (0 + (i : Nat))), some (.int z), ls ++ [(D, ts)], ?_, b2.less (bv := [L]) (fun a m => List.mem_cons_of_mem _ m) |>.set List.mem_cons_self, L5.add b3 dp dl (by omega), ?_, ?_, ?_, ?_⟩
            · have eU : ((nmOf (ls ++ [(D, ts)])).length : Int) = ((nmOf ls).length : Int) + z := by
                rw [eN, List.length_append]
                omega
              rw [eU]
              rfl
            · rw [List.length_append, List.length_singleton]
              omega
            · rw [List.length_append, List.length_singleton]
              omega
            · rw [eN]
              exact b5
            · rw [eN, List.length_append]
              omega
      · have hgt' : ¬ (((nmOf ls).length : Int) + z ≤ 12) := fun h => hgt (decide_eq_true h)
        refine ⟨_, _, ls, rfl, P4, L4, by omega, fun _ => ?_, a3, a4⟩
        cases ls with
        | nil =>
          have : ((nmOf []).length : Int) = 0 := rfl
          omega
        | cons a b => exact Nat.succ_pos _
    · rintro σ H2 ⟨y4, y5, ls, rfl, P2, L2, a1, a2, a3, a4⟩
      have l5 : ls.length ≤ 5 := by omega
      have l0 : 0 < ls.length := a2 (by omega)
      refine fun F nF => ?_
      have F3 : Fnd (upd H2 F (.dK [])) p F (nmOf ls) [] := Fnd.nil upd_same (P2.ne nF)
      have P3 : Pool (upd H2 F (.dK [])) p [] := (P2.new nF).less fun a m => (nomatch m)
      have L3 : Lots (upd H2 F (.dK [])) p L ls := L2.sx (.of (Same.knew nF))
      generalize upd H2 F (.dK []) = H3 at F3 P3 L3
      refine ⟨_, rfl, L, _, rfl, .inl (SqL.of L3.l), _, rfl, by omega, by rw [List.length_map]; omega, ?_⟩
      rw [Int.toNat_natCast, List.length_map]
      refine for_it (walk_range (lo := 0) (n := ls.length)) (fun i σ H' => ∃ y7 y8 y9 y10 y11 y12 y13, σ = [some (.ref p), some (.str signs), some (.ref L), some (.int ((nmOf ls).length : Nat)), y4, y5, some (.ref F), y7, y8, y9, y10, y11, y12, y13] ∧ Pool H' p [] ∧ Lots H' p L ls ∧ Fnd H' p F (nmOf ls) (nmOf (ls.take i)))
        ⟨_, _, _, _, _, _, _, rfl, P3, L3, F3⟩ (fun _ _ _ _ _ => trivial) ?_ ?_
      · rintro i x σ H4 H5 hi ⟨y7, y8, y9, y10, y11, y12, y13, rfl, P4, L4, F4⟩ ⟨rfl, rfl⟩
        have hx : ls[i]? = some ls[i] := List.getElem?_eq_getElem hi
        generalize ls[i] = x at hx
        obtain ⟨a, ts⟩ := x
        have hm : (a, ts) ∈ ls := List.mem_of_getElem? hx
        have hone : 1 ≤ ts.length ∧ ts.length ≤ 3 := L4.one _ hm
        have hat : atI (ls.map fun x => V.ref x.1) (0 + (i : Nat) : Int) = some (.ref a) := by
          rw [Int.zero_add]
          exact atI_nat (by rw [List.getElem?_map, hx]; rfl)
        have htl : (ts.map V.str).length = ts.length := List.length_map _
        -- ring = ..
        refine ⟨fun σ' H' => ∃ c, σ' = [some (.ref p), some (.str signs), some (.ref L), some (.int ((nmOf ls).length : Nat)), y4, y5, some (.ref F), some (.int (0 + (i : Nat))), some (.bl c), y9, y10, y11, y12, y13] ∧ Pool H' p [] ∧ Lots H' p L ls ∧ Fnd H' p F (nmOf ls) (nmOf (ls.take i)), ?_, ?_⟩
        · refine ⟨_, rfl, _, rfl, L, _, _, .ref a, rfl, rfl, SqL.of L4.l, hat, a, _, rfl, .inl (SqL.of (L4.t _ hm)), _, _, rfl, rfl, _, rfl, ?_⟩
          refine ite2 (fun _ => ⟨true, rfl, P4, L4, F4⟩) fun _ => ?_
          refine ⟨_, rfl, p, _, _, rfl, P4, by decide, by decide, fun H5 d e5 P5 d0 d1 => ?_⟩
          exact ⟨rfl, _, rfl, P5, L4.sx e5, F4.sx e5⟩
        · rintro σ1 H5 ⟨c, rfl, P5, L5, F5⟩
          -- later = []
          refine ⟨Nat.zero_le _, fun Z nZ => ?_⟩
          have P6 : Pool (upd H5 Z (.lst [])) p [] := P5.new nZ
          have L6 : Lots (upd H5 Z (.lst [])) p L ls := L5.sx (.of (Same.knew nZ))
          have F6 : Fnd (upd H5 Z (.lst [])) p F (nmOf ls) (nmOf (ls.take i)) := F5.sx (.of (Same.knew nZ))
          have Z6 : upd H5 Z (.lst []) Z = some (.lst []) := upd_same
          have zp := P5.ne nZ
          generalize upd H5 Z (.lst []) = H6 at P6 L6 F6 Z6
          refine ⟨_, rfl, _, rfl, _, _, rfl, rfl, _, rfl, L, _, rfl, SqL.of L6.l, fun C nC => ?_⟩
          have P7 := P6.new (o := .lst (cutV (ls.map fun x => V.ref x.1) (some (0 + (i : Nat) + 1)) none)) nC
          have L7 := L6.sx (.of (Same.knew (o := .lst (cutV (ls.map fun x => V.ref x.1) (some (0 + (i : Nat) + 1)) none)) nC))
          have F7 := F6.sx (.of (Same.knew (o := .lst (cutV (ls.map fun x => V.ref x.1) (some (0 + (i : Nat) + 1)) none)) nC))
          have Z7 := Same.knew (o := .lst (cutV (ls.map fun x => V.ref x.1) (some (0 + (i : Nat) + 1)) none)) nC _ _ Z6
          have C7 : upd H6 C (.lst (cutV (ls.map fun x => V.ref x.1) (some (0 + (i : Nat) + 1)) none)) C = _ := upd_same
          refine ⟨C, rfl, ⟨_, SqL.of C7⟩, ?_⟩
          generalize upd H6 C (.lst (cutV (ls.map fun x => V.ref x.1) (some (0 + (i : Nat) + 1)) none)) = H7 at P7 L7 F7 Z7 C7
          refine for_it (walk_list (K := K) (a := C) (xs := cutV (ls.map fun x => V.ref x.1) (some (0 + (i : Nat) + 1)) none)) (fun j σ H' => ∃ y10 Z us, σ = [some (.ref p), some (.str signs), some (.ref L), some (.int ((nmOf ls).length : Nat)), y4, y5, some (.ref F), some (.int (0 + (i : Nat))), some (.bl c), some (.ref Z), y10, y11, y12, y13] ∧ Same H7 H' ∧ H' Z = some (.lst (us.map V.str)) ∧ Z ≠ p ∧ (∀ u, u ∈ us → u ∈ nmOf ls) ∧ us.length ≤ 3 * j)
            ⟨_, Z, [], rfl, .refl _, Z7, zp, fun u m => (nomatch m), Nat.le_refl _⟩ (fun j σ H' _ hp => ?_) ?_ ?_
          · obtain ⟨_, _, _, _, e, _⟩ := hp
            exact e.seq (SqL.of C7)
          · rintro j x σ H8 H9 hj ⟨z10, Z', us, rfl, e8, z8, zp', us1, us2⟩ ⟨rfl, hxj⟩
            obtain ⟨x', hx', rfl⟩ := List.mem_map.1 (mem_cut (List.mem_of_getElem? hxj))
            have hj5 := cut_len (xs := ls.map fun x => V.ref x.1) (lo := some (0 + (i : Nat) + 1)) (hi := none)
            rw [List.length_map] at hj5
            have hx3 := L7.one _ hx'
            refine ⟨_, rfl, _, rfl, Z', x'.1, _, _, rfl, rfl, z8, e8 _ _ (L7.t _ hx'), ?_, fun p' np' => ?_⟩
            · rw [List.length_map, List.length_map]
              exact sz100' (by omega)
            · refine ⟨_, p', us ++ x'.2, rfl, e8.kadd np', ?_, (P7.same e8).ne np', fun u m => ?_, ?_⟩
              · rw [upd_same, List.map_append]
              · rcases List.mem_append.1 m with h | h
                · exact us1 u h
                · exact mem_nm hx' h
              · rw [List.length_append]
                omega
          · rintro σ2 H8 ⟨z10, Z', us, rfl, e8, z8, zp', us1, us2⟩
            have hj5 := cut_len (xs := ls.map fun x => V.ref x.1) (lo := some (0 + (i : Nat) + 1)) (hi := none)
            rw [List.length_map] at hj5
            have P8 := P7.same e8
            have L8 := L7.sx (.of e8)
            have F8 := F7.sx (.of e8)
            -- for k in range(len(lots[at]))
            refine ⟨_, rfl, _, rfl, L, _, _, .ref a, rfl, rfl, SqL.of L8.l, hat, a, ts.map V.str, rfl, .inl (SqL.of (L8.t _ hm)), _, rfl, by omega, by omega, ?_⟩
            rw [Int.toNat_natCast, htl]
            refine for_it (walk_range (lo := 0) (n := ts.length)) (fun k σ H' => ∃ y11 y12 y13, σ = [some (.ref p), some (.str signs), some (.ref L), some (.int ((nmOf ls).length : Nat)), y4, y5, some (.ref F), some (.int (0 + (i : Nat))), some (.bl c), some (.ref Z'), z10, y11, y12, y13] ∧ Pool H' p [] ∧ Lots H' p L ls ∧ Fnd H' p F (nmOf ls) (nmOf (ls.take i) ++ ts.take k) ∧ H' Z' = some (.lst (us.map V.str)))
              ⟨_, _, _, rfl, P8, L8, by rw [List.take_zero, List.append_nil]; exact F8, z8⟩ (fun _ _ _ _ _ => trivial) ?_ ?_
            · rintro k x σ H9' H9 hk ⟨w11, w12, w13, rfl, P9, L9, F9, Z9⟩ ⟨rfl, rfl⟩
              have hk' : ts[k]? = some ts[k] := List.getElem?_eq_getElem hk
              generalize ts[k] = y at hk'
              have hyn : y ∈ nmOf ls := mem_nm hm (List.mem_of_getElem? hk')
              have hkt : atI (ts.map V.str) (0 + (k : Nat) : Int) = some (.str y) := by
                rw [Int.zero_add]
                exact atI_nat (by rw [List.getElem?_map, hk']; rfl)
              -- row = ..
              refine ⟨fun σ' H' => ∃ (R : Addr) (rs : List Str), σ' = [some (.ref p), some (.str signs), some (.ref L), some (.int ((nmOf ls).length : Nat)), y4, y5, some (.ref F), some (.int (0 + (i : Nat))), some (.bl c), some (.ref Z'), z10, some (.int (0 + (k : Nat))), some (.ref R), w13] ∧ H9 R = none ∧ Sx p H9 H' ∧ Pool H' p [R] ∧ H' R = some (.lst (rs.map V.str)) ∧ (∀ u, u ∈ rs → u ∈ nmOf ls) ∧ rs.length ≤ 1, ?_, ?_⟩
              · refine ⟨_, rfl, c, rfl, ?_⟩
                cases c with
                | false =>
                  refine ⟨Nat.zero_le _, fun R nR => ⟨R, [], rfl, nR, .of (Same.knew nR), P9.more nR, upd_same, fun u m => (nomatch m), Nat.zero_le _⟩⟩
                | true =>
                  refine ⟨_, rfl, _, rfl, L, _, _, .ref a, rfl, rfl, SqL.of L9.l, hat, _, rfl, _, _, rfl, rfl, .inl ⟨_, rfl, ?_⟩⟩
                  refine ⟨_, rfl, _, rfl, L, _, _, .ref a, rfl, rfl, SqL.of L9.l, hat, a, ts.map V.str, rfl, .inl (SqL.of (L9.t _ hm)), _, _, rfl, rfl, by omega, ?_⟩
                  have h0 := Int.emod_nonneg (0 + (k : Nat) + 1 : Int) (show ((ts.map V.str).length : Int) ≠ 0 by omega)
                  have h1 := Int.emod_lt_of_pos (0 + (k : Nat) + 1 : Int) (show (0 : Int) < ((ts.map V.str).length : Int) by omega)
                  obtain ⟨j, ej⟩ : ∃ j : Nat, (0 + (k : Nat) + 1 : Int) % ((ts.map V.str).length : Int) = (j : Int) := ⟨_, (Int.toNat_of_nonneg h0).symm⟩
                  have hj : j < ts.length := by omega
                  refine ⟨a, _, _, .str ts[j], rfl, rfl, SqL.of (L9.t _ hm), ?_, by show 1 ≤ sizeLine; decide, fun R nR => ⟨R, [ts[j]], rfl, nR, .of (Same.knew nR), P9.more nR, upd_same, fun u m => ?_, Nat.le_refl _⟩⟩
                  · show atI _ ((0 + (k : Nat) + 1 : Int) % ((ts.map V.str).length : Int)) = _
                    rw [ej]
                    exact atI_nat (by rw [List.getElem?_map, List.getElem?_eq_getElem hj]; rfl)
                  · rw [List.mem_singleton.1 m]
                    exact mem_nm hm (List.getElem_mem hj)
              · rintro σ3 H10 ⟨R, rs, rfl, nR, e10, P10, R10, rs1, rs2⟩
                have rp := P9.ne nR
                -- for more in range(draw(pool, 3))
                refine ⟨_, rfl, p, _, _, rfl, P10, by decide, by decide, fun H11 d e11 P11 d0 d1 => ?_⟩
                refine ⟨d, rfl, by omega, by omega, ?_⟩
                refine for_it (walk_range (lo := 0) (n := d.toNat)) (fun m σ H' => ∃ y13 rs, σ = [some (.ref p), some (.str signs), some (.ref L), some (.int ((nmOf ls).length : Nat)), y4, y5, some (.ref F), some (.int (0 + (i : Nat))), some (.bl c), some (.ref Z'), z10, some (.int (0 + (k : Nat))), some (.ref R), y13] ∧ Sx p H9 H' ∧ Pool H' p [R] ∧ H' R = some (.lst (rs.map V.str)) ∧ (∀ u, u ∈ rs → u ∈ nmOf ls) ∧ rs.length ≤ 1 + m)
                  ⟨_, rs, rfl, e10.trans e11, P11, e11 _ _ rp R10, rs1, rs2⟩ (fun _ _ _ _ _ => trivial) ?_ ?_
                · rintro m x σ H12' H12 hm' ⟨v13, rs, rfl, e12, P12, R12, r1, r2⟩ ⟨rfl, rfl⟩
                  have Z12 := e12 _ _ zp' Z9
                  refine ⟨_, rfl, Z', _, rfl, .inl (SqL.of Z12), _, _, rfl, rfl, _, rfl, ?_⟩
                  refine ite2 (fun hl => ?_) fun _ => ⟨_, rs, rfl, e12, P12, R12, r1, by omega⟩
                  have hl' : (0 : Int) < ((us.map V.str).length : Int) := of_decide_eq_true hl
                  rw [List.length_map] at hl'
                  refine ⟨_, rfl, .inl ⟨rfl, _, SqL.of R12⟩, _, rfl, _, rfl, R, _, rfl, .inl (SqL.of R12), _, _, rfl, rfl, p, _, _, rfl, P12, by omega, by rw [List.length_map]; omega, fun H14 e e14 P14 e0 e1' => ?_⟩
                  rw [List.length_map] at e1'
                  refine ⟨_, rfl, _, rfl, pickS (E := E0) P14 zp' (e14 _ _ zp' Z12) (by omega) (by omega) fun H15 u e15 P15 hu' => ?_⟩
                  have R15 := e15 _ _ rp (e14 _ _ rp R12)
                  refine ⟨R, _, e, _, rfl, rfl, R15, ?_, e0, by omega, ?_⟩
                  · rw [List.length_map]
                    exact sz100 (by omega)
                  · refine ⟨_, rs.take e.toNat ++ [u] ++ rs.drop e.toNat, rfl, ((e12.trans e14).trans e15).put nR, P15.set List.mem_cons_self, ?_, fun v hv => ?_, ?_⟩
                    · rw [upd_same, List.map_append, List.map_append, List.map_take, List.map_drop]
                      rfl
                    · rcases List.mem_append.1 hv with h | h
                      · rcases List.mem_append.1 h with h | h
                        · exact r1 v (List.mem_of_mem_take h)
                        · rw [List.mem_singleton.1 h]
                          exact us1 u hu'
                      · exact r1 v (List.mem_of_mem_drop h)
                    · rw [List.length_append, List.length_append, List.length_take, List.length_drop, List.length_singleton]
                      omega
                · rintro σ5 H12 ⟨v13, rs, rfl, e12, P12, R12, r1, r2⟩
                  -- found[lots[at][k]] = tuple(row)
                  refine ⟨_, rfl, R, _, rfl, .inl ⟨SqL.of R12, fun T nT => ?_⟩⟩
                  have L12 := L9.sx (e12.new (o := .tup (rs.map V.str)) nT)
                  have F12 := F9.sx (e12.new (o := .tup (rs.map V.str)) nT)
                  have Z12 := (e12.new (o := .tup (rs.map V.str)) nT) _ _ zp' Z9
                  have P13 : Pool (upd H12 T (.tup (rs.map V.str))) p [] := (P12.new nT).less fun a m => (nomatch m)
                  have T12 : upd H12 T (.tup (rs.map V.str)) T = _ := upd_same
                  have tp := P12.ne nT
                  generalize upd H12 T (.tup (rs.map V.str)) = H13 at L12 F12 Z12 P13 T12
                  refine ⟨_, rfl, _, rfl, _, rfl, L, _, _, .ref a, rfl, rfl, SqL.of L12.l, hat, _, rfl, a, _, _, .str y, rfl, rfl, SqL.of (L12.t _ hm), hkt, ?_⟩
                  have hks : (nmOf (ls.take i) ++ ts.take k).length ≤ 100 := by
                    have := nm_len (ls := ls) (i := i)
                    rw [List.length_append, List.length_take]
                    omega
                  refine F12.put T12 tp hyn (by omega) r1 hks fun kvs hd hsz F14 => ?_
                  refine ⟨F, _, rfl, DPut.k (k := Sum.inr y) hd hsz, ?_⟩
                  refine ⟨_, _, _, rfl, P13.setD hd, L12.setD hd, ?_, upd_of Z12 hd (by intro e; cases e)⟩
                  have nin : y ∉ nmOf (ls.take i) ++ ts.take k := nin_of a3.nd hx hk'
                  rw [if_neg nin] at F14
                  rw [take_next hk', ← List.append_assoc]
                  exact F14
            · rintro σ3 H9 ⟨w11, w12, w13, rfl, P9, L9, F9, Z9⟩
              have eT : nmOf (ls.take (i + 1)) = nmOf (ls.take i) ++ ts.take ts.length := by
                show List.flatMap _ _ = _
                rw [take_next hx, List.flatMap_append, List.flatMap_singleton, List.take_length]
              exact ⟨_, _, _, _, _, _, _, rfl, P9, L9, by rw [eT]; exact F9⟩
      · rintro σ4 H4 ⟨y7, y8, y9, y10, y11, y12, y13, rfl, P4, L4, ad, suc, N⟩
        rw [List.take_length] at N
        have hlen : 1 ≤ (nmOf ls).length := by
          cases ls with
          | nil => exact absurd l0 (Nat.lt_irrefl _)
          | cons x r =>
            have h1 := L4.one x List.mem_cons_self
            show 1 ≤ (List.flatMap _ _).length
            rw [List.flatMap_cons, List.length_append]
            omega
        exact ⟨_, rfl, q _ _ P4 ⟨nmOf ls, suc, ad, N.d, N.t, ⟨N.nd, N.cl⟩, hlen, a4, N.row, a3.sm⟩⟩
end
end KW
end
section
set_option Elab.async false
set_option linter.all false
set_option maxRecDepth 100000
set_option maxHeartbeats 400000
/-! K11: _law_growth. -/
namespace KW
open PySem PySem.Spec PyProof.Rows L2
/- _law_growth: slots 0 _law_pool_here, 1 _law_many, 2 _law_letters, 3 _law_kinds, 4 _law_turn, 5 _law_text, 6 _law_k, 7 _law_dense, 8 _law_found, 9 _law_at, 10 _law_row, 11 _law_later, 12 _law_order, 13 _law_each; cells ['_law_found'] -/
abbrev s_law_growth : Stmt := topS 28
abbrev N_law_growth : List Str := ["_law_pool_here", "_law_many", "_law_letters", "_law_kinds", "_law_turn", "_law_text", "_law_k", "_law_dense", "_law_found", "_law_at", "_law_row", "_law_later", "_law_order", "_law_each"]
theorem sc_law_growth : FnScope N_law_growth ["_law_pool_here"] (defScope s_law_growth) := ⟨rfl, rfl, rfl, by decide +kernel, rfl, by decide +kernel, by decide +kernel⟩
theorem app_list (a b : Str) : (a ++ b).cps.toList = a.cps.toList ++ b.cps.toList := by
  show (a.cps ++ b.cps).toList = _
  rw [Array.toList_append]
theorem app_len (a b : Str) : (a ++ b).length = a.length + b.length := by
  rw [str_len, app_list, List.length_append]
  rfl
/-- a word under way -/
def Word (z : Str) (n : Nat) : Prop := z.length = n ∧ ∀ c, c ∈ z.cps.toList → c ∈ signs.cps.toList
theorem Word.nil : Word "" 0 := ⟨rfl, fun c h => by
  have e : ("" : Str).cps.toList = [] := rfl
  rw [e] at h
  exact nomatch h⟩
theorem Word.add {z : Str} {n j : Nat} (h : Word z n) (hj : j < 26) : Word (z ++ ch j) (n + 1) := by
  refine ⟨?_, fun c hc => ?_⟩
  · rw [app_len, h.1]
    rfl
  · rw [app_list] at hc
    rcases List.mem_append.1 hc with m | m
    · exact h.2 c m
    · obtain rfl : c = 97 + j := List.mem_singleton.1 m
      exact ch_in hj
theorem Word.small {z : Str} {n : Nat} (h : Word z n) (h1 : 1 ≤ n) (h8 : n ≤ 8) : Small z := ⟨by rw [h.1]; exact h1, by rw [h.1]; exact h8, h.2⟩
theorem word_rep {j r : Nat} (hj : j < 26) : Word (strRep (ch j) r) r := by
  refine ⟨?_, fun c hc => ?_⟩
  · have hl : (strRep (ch j) r).length = r * 1 := strRep_len (ch j) r
    omega
  · rw [strRep_list] at hc
    obtain ⟨l, hl, hc⟩ := List.mem_flatten.1 hc
    obtain ⟨_, rfl⟩ := List.mem_replicate.1 hl
    obtain rfl : c = 97 + j := List.mem_singleton.1 hc
    exact ch_in hj
theorem qword : ("q" : Str) = ch 16 := by decide +kernel
theorem mergeK_kv : ∀ (os : List Str) (f : Str → V), os.Nodup → mergeK [] (kvOf os f) = kvOf os f := by
  intro os f nd
  have key : ∀ (n : Nat), n ≤ os.length → mergeK [] (kvOf (os.take n) f) = kvOf (os.take n) f := by
    intro n
    induction n with
    | zero =>
      intro _
      rw [List.take_zero]
      rfl
    | succ n ih =>
      intro hn
      have hk : os[n]? = some os[n] := List.getElem?_eq_getElem (by omega)
      have e1 : kvOf (os.take (n + 1)) f = kvOf (os.take n) f ++ [((Sum.inr os[n] : Key), f os[n])] := by
        rw [take_next hk]
        exact List.map_append
      have e2 : mergeK [] (kvOf (os.take (n + 1)) f) = putK (mergeK [] (kvOf (os.take n) f)) (Sum.inr os[n] : Key) (f os[n]) := by
        rw [e1]
        unfold mergeK
        rw [List.foldl_append]
        rfl
      rw [e2, ih (by omega), putK_take nd hk]
  have := key os.length (Nat.le_refl _)
  rw [List.take_length] at this
  exact this
theorem strs_cut {ns : List Str} {lo hi : Option Int} : ∃ ms : List Str, cutV (ns.map V.str) lo hi = ms.map V.str ∧ (∀ x, x ∈ ms → x ∈ ns) := by
  unfold cutV
  refine ⟨_, by rw [← List.map_drop, ← List.map_take], fun x h => List.mem_of_mem_drop (List.mem_of_mem_take h)⟩
theorem nodup_rev {l : List Str} (h : l.Nodup) : l.reverse.Nodup := List.pairwise_reverse.2 (List.Pairwise.imp (fun h e => h e.symm) h)
theorem cut_pos {xs : List V} {v : Int} {k : Nat} (e : v = (k : Int)) (h : k < xs.length) : 0 < (cutV xs (some v) none).length := by
  rw [e]
  unfold cutV
  rw [List.length_take, List.length_drop, HT.sIx_nat, HT.sIx_none]
  omega
section
variable {P : Program} {w : World} {K : PySem.W.Frag} {mg : Str → Option Value} {base : Heap}
theorem pickE {H : Hp} {p t : Addr} {av : List Addr} {xs : List V} {ns : List Str} {Q : VK} {E : XK} (e : xs = ns.map V.str) (P : Pool H p av) (nt : H t = none) (n0 : 0 < ns.length) (n1 : ns.length ≤ 1000)
    (q : ∀ (H' : Hp) (j : Str), Sx p H H' → Pool H' p av → j ∈ ns → Q (.str j) H') : spPick [.ref p, .ref t] (upd H t (.lst xs)) Q E := by
  subst e
  exact pickS (P.new nt) (P.ne nt) upd_same n0 n1 fun H' j e P' hj => q H' j (((Sx.refl p H).new nt).trans e) P' hj
def spGrowth (K : PySem.W.Frag) : Sp := fun vs H Q _ => ∃ p, vs = [.ref p] ∧ Pool H p [] ∧ ∀ (H' : Hp) (g : Addr), Drawn K H' g → Q (.ref g) H'
theorem cal_law_growth (D : Df K mg "_law_growth" s_law_growth ["_law_pool_here"]) (B : Blt mg) (c_law_draw : Cal P w K mg base 1 "_law_draw" spDraw) (c_law_pick : Cal P w K mg base 2 "_law_pick" spPick) : Cal P w K mg base 3 "_law_growth" (spGrowth K) := by
  refine cal_of D sc_law_growth (fun vs H Q E h => ?_) (fun f cdv A outer s H vs Q E hr h => ?_)
  · obtain ⟨p, rfl, _⟩ := h
    rfl
  · obtain ⟨p, rfl, hP, q⟩ := h
    have hu := hu_of hr
    refine ⟨_, (pss_cons (ps_set (i := 1) sc_law_growth.nd rfl (.inl rfl) (pe_cal c_law_pick hr (by decide) (by rfl) (pa_cons (pv 0) (pa_cons (pe_lst (pa_cons pe_int (pa_cons pe_int (pa_cons pe_int (pa_cons pe_int (pa_cons pe_int (pa_cons pe_int (pa_cons pe_int (pa_cons pe_int pa_nil))))))))) pa_nil))))
      (pss_cons (ps_set (i := 2) sc_law_growth.nd rfl (.inl rfl) pe_str)
      (pss_cons (ps_set (i := 3) sc_law_growth.nd rfl (.inl rfl) (pe_lst pa_nil))
      (pss_cons (ps_for PassesOwn.never rfl (pi_range1 (by rfl) B.range (pa_cons (pv 1) pa_nil)) (pg_name (i := 4) sc_law_growth.nd rfl (.inl rfl))
        (pss_cons (ps_set (i := 5) sc_law_growth.nd rfl (.inl rfl) pe_str)
        (pss_cons (ps_for PassesOwn.never rfl (pi_range1 (by rfl) B.range (pa_cons (pe_cal c_law_pick hr (by decide) (by rfl) (pa_cons (pv 0) (pa_cons (pe_lst (pa_cons pe_int (pa_cons pe_int (pa_cons pe_int (pa_cons pe_int pa_nil))))) pa_nil))) pa_nil)) (pg_name (i := 6) sc_law_growth.nd rfl (.inl rfl))
          (pss_one (ps_set (i := 5) sc_law_growth.nd rfl (.inl rfl) (pe_op op_add_str (pv 5) (pe_ix ix_str (pv 2) (pe_cal c_law_draw hr (by decide) (by rfl) (pa_cons (pv 0) (pa_cons pe_int pa_nil))) (fun _ _ => rfl))))))
        (pss_one (ps_expr (pe_bm PySem.F.plainAttrs_list PySem.F.slot_list_append PySem.F.type_list_append mt_append (pv 3) (pa_cons (pe_ifExp (pt_cmpR (kNotIn K rfl) (pv 5) (pv 3) (by rfl)) (pv 5) (pe_op op_add_str (pe_op op_repS (pe_ix ix_str (pv 2) (pv 4) (fun _ _ => rfl)) pe_int) pe_str)) pa_nil)))))))
      (pss_cons (ps_set (i := 7) sc_law_growth.nd rfl (.inl rfl) (pe_cal c_law_pick hr (by decide) (by rfl) (pa_cons (pv 0) (pa_cons (pe_lst (pa_cons pe_int (pa_cons pe_int (pa_cons pe_int (pa_cons pe_int pa_nil))))) pa_nil))))
      (pss_cons (ps_set (i := 8) sc_law_growth.nd rfl (.inr rfl) pe_dnewK)
      (pss_cons (ps_for PassesOwn.never rfl (pi_range1 (by rfl) B.range (pa_cons (pe_callB (kLen K rfl) (by rfl) B.len (by decide +kernel) (pa_cons (pv 3) pa_nil)) pa_nil)) (pg_name (i := 9) sc_law_growth.nd rfl (.inl rfl))
        (pss_cons (ps_set (i := 10) sc_law_growth.nd rfl (.inl rfl) (pe_lst pa_nil))
        (pss_cons (ps_for PassesOwn.never rfl (pi_range1 (by rfl) B.range (pa_cons (pe_cal c_law_pick hr (by decide) (by rfl) (pa_cons (pv 0) (pa_cons (pe_lst (pa_cons pe_int (pa_cons pe_int (pa_cons pe_int (pa_cons pe_int (pa_cons pe_int (pa_cons pe_int pa_nil))))))) pa_nil))) pa_nil)) (pg_name (i := 6) sc_law_growth.nd rfl (.inl rfl))
          (C8.pss_cut (ps_set (i := 11) sc_law_growth.nd rfl (.inl rfl) (pe_and (pe_cmpR op_gt (pe_cal c_law_draw hr (by decide) (by rfl) (pa_cons (pv 0) (pa_cons (pv 7) pa_nil))) pe_int (nomark _)) (pe_one (pe_cmpR op_lt (pe_op op_add (pv 9) pe_int) (pe_callB (kLen K rfl) (by rfl) B.len (by decide +kernel) (pa_cons (pv 3) pa_nil)) (nomark _)))))
          (pss_one (ps_expr (pe_bm PySem.F.plainAttrs_list PySem.F.slot_list_append PySem.F.type_list_append mt_append (pv 10) (pa_cons (pe_ifExp (pt_val (pv 11)) (pe_cal c_law_pick hr (by decide) (by rfl) (pa_cons (pv 0) (pa_cons (pe_slice (kSl K rfl) (pv 3) (po_some (pe_op op_add (pv 9) pe_int)) po_none) pa_nil))) (pe_cal c_law_pick hr (by decide) (by rfl) (pa_cons (pv 0) (pa_cons (pv 3) pa_nil)))) pa_nil))))))
        (pss_one (ps_dput hu (pv 8) (pe_ix (kIxL K rfl) (pv 3) (pv 9) (fun _ _ => rfl)) (pe_callTy (kTup K rfl) (by rfl) B.tuple (by decide +kernel) (pa_cons (pv 10) pa_nil)) rfl)))))
      (pss_cons (ps_set (i := 12) sc_law_growth.nd rfl (.inl rfl) (pe_callTy (call_list_dK rfl) (by rfl) B.list (by decide +kernel) (pa_cons (pv 8) pa_nil)))
      (C8.pss_cut (ps_if (pt_cmpR op_eq (pe_cal c_law_draw hr (by decide) (by rfl) (pa_cons (pv 0) (pa_cons pe_int pa_nil))) pe_int (nomark _))
        (pss_one (ps_expr (pe_bm0 PySem.F.plainAttrs_list PySem.F.slot_list_reverse PySem.F.type_list_reverse mt_reverse (pv 12))))
        pss_nil)
      (pss_one (ps_ret (pe_callTy (call_dictP rfl) (by rfl) B.dict (by decide +kernel) (pa_cons (pe_lc (own := [("_law_each", 13)]) (g := gName 13) rfl sc_law_growth.nd (kPiL K rfl (pv 12)) (blkOk_by (N := N_law_growth) (sc := defScope s_law_growth) (own := [("_law_each", 13)]) (by decide +kernel)) (fun _ _ _ _ _ => pg_name (i := 13) sc_law_growth.nd rfl (by first | exact .inl rfl | exact .inr rfl)) (fun _ _ _ _ _ => pts_nil) (fun _ _ _ _ _ => (pe_tup (pa_cons (pv 13) (pa_cons (pe_dget hu (pv 8) (pv 13) (fun _ _ => rfl)) pa_nil))))) pa_nil))))))))))))), ?_⟩
    refine ⟨_, rfl, by show 8 ≤ sizeLine; decide, fun t nt => pickI (E := E0) (ns := [1, 2, 3, 3, 4, 5, 6, 12]) hP nt (by decide) (by decide) fun H1 n e1 P1 hn => ?_⟩
    have n0 : 1 ≤ n ∧ n ≤ 12 := by
      revert hn
      simp
      omega
    refine ⟨Nat.zero_le _, fun L nL => ?_⟩
    have lp := P1.ne nL
    have P2 : Pool (upd H1 L (.lst [])) p [L] := P1.more nL
    have L2 : upd H1 L (.lst []) L = some (.lst []) := upd_same
    generalize upd H1 L (.lst []) = H2 at P2 L2
    refine ⟨_, rfl, n, rfl, by omega, by omega, ?_⟩
    refine for_it (walk_range (lo := 0) (n := n.toNat)) (fun i σ H' => ∃ y4 y5 y6 ls, σ = [some (.ref p), some (.int n), some (.str signs), some (.ref L), y4, y5, y6, none, none, none, none, none, none, none] ∧ Pool H' p [L] ∧ H' L = some (.lst (ls.map V.str)) ∧ ls.length = i ∧ (∀ x, x ∈ ls → Small x))
      ⟨none, none, none, [], rfl, P2, L2, rfl, fun x m => (nomatch m)⟩ (fun _ _ _ _ _ => trivial) ?_ ?_
    · rintro i x σ H3' H3 hi ⟨y4, y5, y6, ls, rfl, P3, L3, a1, a2⟩ ⟨rfl, rfl⟩
      refine ⟨_, rfl, by show 4 ≤ sizeLine; decide, fun t nt => pickI (E := E0) (ns := [1, 1, 2, 8]) P3 nt (by decide) (by decide) fun H4 z e4 P4 hz => ?_⟩
      have z0 : 1 ≤ z ∧ z ≤ 8 := by
        revert hz
        simp
        omega
      have L4 := e4 _ _ lp L3
      refine ⟨z, rfl, by omega, by omega, ?_⟩
      refine for_it (walk_range (lo := 0) (n := z.toNat)) (fun j σ H' => ∃ y6 t, σ = [some (.ref p), some (.int n), some (.str signs), some (.ref L), some (.int (0 + (i : Nat))), some (.str t), y6, none, none, none, none, none, none, none] ∧ Pool H' p [L] ∧ H' L = some (.lst (ls.map V.str)) ∧ Word t j)
        ⟨y6, "", rfl, P4, L4, Word.nil⟩ (fun _ _ _ _ _ => trivial) ?_ ?_
      · rintro j x σ H5' H5 hj ⟨w6, t, rfl, P5, L5, b1⟩ ⟨rfl, rfl⟩
        refine ⟨_, rfl, _, rfl, _, rfl, p, _, _, rfl, P5, by decide, by decide, fun H6 d e6 P6 d0 d1 => ?_⟩
        obtain ⟨d, rfl⟩ : ∃ k : Nat, d = (k : Int) := ⟨d.toNat, by omega⟩
        refine ⟨signs, _, _, rfl, rfl, signs_le, signs_ix rfl (by omega), ?_⟩
        refine ⟨_, _, rfl, rfl, ?_, ?_⟩
        · rw [b1.1]
          exact sz100' (by show j + 1 ≤ 100000; omega)
        · exact ⟨_, _, rfl, P6, e6 _ _ lp L5, b1.add (by omega)⟩
      · rintro σ2 H5 ⟨w6, t, rfl, P5, L5, b1⟩
        have fin : ∀ y : Str, Small y → ∃ (y4 y5 y6 : Option V) (ls' : List Str), [some (.ref p), some (.int n), some (.str signs), some (.ref L), some (.int (0 + (i : Nat))), some (.str t), w6, none, none, none, none, none, none, none] = [some (.ref p), some (.int n), some (.str signs), some (.ref L), y4, y5, y6, none, none, none, none, none, none, none] ∧
            Pool (upd H5 L (.lst (ls.map V.str ++ [.str y]))) p [L] ∧ upd H5 L (.lst (ls.map V.str ++ [.str y])) L = some (.lst (ls'.map V.str)) ∧ ls'.length = i + 1 ∧ (∀ x, x ∈ ls' → Small x) := fun y hy => by
          refine ⟨_, _, _, ls ++ [y], rfl, P5.set List.mem_cons_self, ?_, ?_, fun x hx => ?_⟩
          · rw [upd_same, List.map_append]
            rfl
          · rw [List.length_append, a1]
            rfl
          · rcases List.mem_append.1 hx with m | m
            · exact a2 x m
            · rw [List.mem_singleton.1 m]
              exact hy
        have sz : (ls.map V.str).length < sizeLine := by
          rw [List.length_map]
          exact sz100 (by omega)
        refine ⟨_, rfl, .inl ⟨rfl, _, SqL.of L5⟩, ?_⟩
        refine ⟨_, rfl, _, rfl, L, _, rfl, .inl (SqL.of L5), rfl, flat_str _, _, rfl, ?_⟩
        refine ite2 (fun _ => ?_) fun _ => ?_
        · exact ⟨_, rfl, L, _, _, rfl, rfl, L5, sz, fin _ (b1.small (by omega) (by omega))⟩
        · refine ⟨_, rfl, _, rfl, signs, _, _, rfl, rfl, signs_le, signs_ix (j := i) (by omega) (by omega), ?_⟩
          refine ⟨ch i, 7, rfl, rfl, by decide, by decide, by show 1 ≤ 100; decide, by show 1 ≤ 1; decide, ?_⟩
          have w7 : Word (strRep (ch i) 7) 7 := word_rep (by omega)
          have w8 : Word (strRep (ch i) 7 ++ "q") 8 := by
            rw [qword]
            exact w7.add (by decide)
          refine ⟨_, _, rfl, rfl, ?_, L, _, _, rfl, rfl, L5, sz, fin _ (w8.small (by decide) (by decide))⟩
          show (strRep (ch i) 7).length + 1 ≤ sizeLine
          rw [w7.1]
          exact sz100' (by decide)
    · rintro σ H3 ⟨y4, y5, y6, ls, rfl, P3, L3, a1, a2⟩
      refine ⟨_, rfl, by show 4 ≤ sizeLine; decide, fun t nt => pickI (E := E0) (ns := [1, 2, 3, 5]) P3 nt (by decide) (by decide) fun H4 de e4 P4 hde => ?_⟩
      have de0 : 1 ≤ de ∧ de ≤ 5 := by
        revert hde
        simp
        omega
      have L4 := e4 _ _ lp L3
      have ln0 : 1 ≤ ls.length ∧ ls.length ≤ 12 := by omega
      refine fun F nF => ?_
      have F5 : Fnd (upd H4 F (.dK [])) p F ls [] := Fnd.nil upd_same (P4.ne nF)
      have P5 : Pool (upd H4 F (.dK [])) p [] := (P4.new nF).less fun a m => (nomatch m)
      have L5 := upd_ne' (o := .dK []) L4 nF
      generalize upd H4 F (.dK []) = H5 at F5 P5 L5
      refine ⟨_, rfl, L, ls.map V.str, rfl, .inl (SqL.of L5), _, rfl, by omega, by rw [List.length_map]; omega, ?_⟩
      rw [Int.toNat_natCast, List.length_map]
      refine for_it (walk_range (lo := 0) (n := ls.length)) (fun i σ H' => ∃ (y6 y9 y10 y11 : Option V) (ks : List Str), σ = [some (.ref p), some (.int n), some (.str signs), some (.ref L), y4, y5, y6, some (.int de), some (.ref F), y9, y10, y11, none, none] ∧ Pool H' p [] ∧ H' L = some (.lst (ls.map V.str)) ∧ Fnd H' p F ls ks ∧ ks.length ≤ i ∧ (∀ x, x ∈ ls.take i → x ∈ ks))
        ⟨y6, none, none, none, [], rfl, P5, L5, F5, Nat.le_refl _, fun x m => by rw [List.take_zero] at m; exact nomatch m⟩ (fun _ _ _ _ _ => trivial) ?_ ?_
      · rintro i x σ H6' H6 hi ⟨w6, w9, w10, w11, ks, rfl, P6, L6, F6, k1, k2⟩ ⟨rfl, rfl⟩
        have hy : ls[i]? = some ls[i] := List.getElem?_eq_getElem hi
        generalize ls[i] = y at hy
        refine ⟨Nat.zero_le _, fun R nR => ?_⟩
        have rp := P6.ne nR
        have P7 : Pool (upd H6 R (.lst [])) p [R] := P6.more nR
        have R7 : upd H6 R (.lst []) R = some (.lst []) := upd_same
        have e7 : Sx p H6 (upd H6 R (.lst [])) := .of (Same.knew nR)
        generalize upd H6 R (.lst []) = H7 at P7 R7 e7
        refine ⟨_, rfl, by show 6 ≤ sizeLine; decide, fun t nt => pickI (E := E0) (ns := [0, 1, 1, 2, 3, 4]) P7 nt (by decide) (by decide) fun H8 m e8 P8 hm => ?_⟩
        have m0 : 0 ≤ m ∧ m ≤ 4 := by
          revert hm
          simp
          omega
        refine ⟨m, rfl, by omega, by omega, ?_⟩
        refine for_it (walk_range (lo := 0) (n := m.toNat)) (fun j σ H' => ∃ y6 y11 rs, σ = [some (.ref p), some (.int n), some (.str signs), some (.ref L), y4, y5, y6, some (.int de), some (.ref F), some (.int (0 + (i : Nat))), some (.ref R), y11, none, none] ∧ Sx p H6 H' ∧ Pool H' p [R] ∧ H' R = some (.lst (rs.map V.str)) ∧ rs.length = j ∧ ∀ u, u ∈ rs → u ∈ ls)
          ⟨_, _, [], rfl, e7.trans e8, P8, e8 _ _ rp R7, rfl, fun u m => (nomatch m)⟩ (fun _ _ _ _ _ => trivial) ?_ ?_
        · rintro j x σ H9' H9 hj ⟨v6, v11, rs, rfl, e9, P9, R9, r1, r2⟩ ⟨rfl, rfl⟩
          have L9 := e9 _ _ lp L6
          -- later
          refine ⟨fun σ' H' => ∃ c, σ' = [some (.ref p), some (.int n), some (.str signs), some (.ref L), y4, y5, some (.int (0 + (j : Nat))), some (.int de), some (.ref F), some (.int (0 + (i : Nat))), some (.ref R), some (.bl c), none, none] ∧ Sx p H6 H' ∧ Pool H' p [R] ∧ H' R = some (.lst (rs.map V.str)) ∧ (c = true → i + 1 < ls.length), ?_, ?_⟩
          · refine ⟨_, rfl, _, rfl, p, _, _, rfl, P9, by omega, by omega, fun H10 d e10 P10 d0 d1 => ?_⟩
            refine ⟨_, _, rfl, rfl, _, rfl, ?_⟩
            refine ite2 (fun _ => ?_) fun _ => ⟨false, rfl, e9.trans e10, P10, e10 _ _ rp R9, fun h => by cases h⟩
            refine ⟨_, rfl, _, _, rfl, rfl, _, rfl, L, ls.map V.str, rfl, .inl (SqL.of (e10 _ _ lp L9)), _, _, rfl, rfl, ?_⟩
            refine ⟨_, rfl, e9.trans e10, P10, e10 _ _ rp R9, fun h => ?_⟩
            have h2 := of_decide_eq_true h
            rw [List.length_map] at h2
            omega
          · rintro σ3 H10 ⟨c, rfl, e10, P10, R10, hc⟩
            have L10 := e10 _ _ lp L6
            have sz : (rs.map V.str).length < sizeLine := by
              rw [List.length_map]
              exact sz100 (by omega)
            have fin : ∀ (H' : Hp) (u : Str), Sx p H6 H' → Pool H' p [R] → u ∈ ls → ∃ (y6 y11 : Option V) (rs' : List Str), [some (.ref p), some (.int n), some (.str signs), some (.ref L), y4, y5, some (.int (0 + (j : Nat))), some (.int de), some (.ref F), some (.int (0 + (i : Nat))), some (.ref R), some (.bl c), none, none] = [some (.ref p), some (.int n), some (.str signs), some (.ref L), y4, y5, y6, some (.int de), some (.ref F), some (.int (0 + (i : Nat))), some (.ref R), y11, none, none] ∧
                Sx p H6 (upd H' R (.lst (rs.map V.str ++ [.str u]))) ∧ Pool (upd H' R (.lst (rs.map V.str ++ [.str u]))) p [R] ∧ upd H' R (.lst (rs.map V.str ++ [.str u])) R = some (.lst (rs'.map V.str)) ∧ rs'.length = j + 1 ∧ ∀ u, u ∈ rs' → u ∈ ls := fun H' u e' P' hu' => by
              refine ⟨_, _, rs ++ [u], rfl, e'.put nR, P'.set List.mem_cons_self, ?_, ?_, fun v hv => ?_⟩
              · rw [upd_same, List.map_append]
                rfl
              · rw [List.length_append, r1]
                rfl
              · rcases List.mem_append.1 hv with h | h
                · exact r2 v h
                · rw [List.mem_singleton.1 h]
                  exact hu'
            refine ⟨_, rfl, .inl ⟨rfl, _, SqL.of R10⟩, _, rfl, c, rfl, ?_⟩
            cases c with
            | true =>
              have hc' := hc rfl
              refine ⟨_, rfl, _, rfl, _, rfl, _, _, rfl, rfl, _, rfl, L, _, rfl, SqL.of L10, fun C nC => ?_⟩
              obtain ⟨ms, em, msub⟩ := strs_cut (ns := ls) (lo := some (0 + (i : Nat) + 1)) (hi := none)
              have ml : 0 < ms.length ∧ ms.length ≤ ls.length := by
                have e1 : (cutV (ls.map V.str) (some (0 + (i : Nat) + 1)) none).length = ms.length := by rw [em, List.length_map]
                have e2 := cut_len (xs := ls.map V.str) (lo := some (0 + (i : Nat) + 1)) (hi := none)
                rw [List.length_map] at e2
                refine ⟨?_, by omega⟩
                rw [← e1]
                exact cut_pos (k := i + 1) (by omega) (by rw [List.length_map]; exact hc')
              refine pickE (E := E0) em P10 nC ml.1 (by omega) fun H11 u e11 P11 hu' => ?_
              exact ⟨R, _, _, rfl, rfl, e11 _ _ rp R10, sz, fin _ _ (e10.trans e11) P11 (msub u hu')⟩
            | false =>
              refine ⟨_, rfl, _, rfl, pickS (E := E0) P10 lp L10 (by omega) (by omega) fun H11 u e11 P11 hu' => ?_⟩
              exact ⟨R, _, _, rfl, rfl, e11 _ _ rp R10, sz, fin _ _ (e10.trans e11) P11 hu'⟩
        · rintro σ2 H9 ⟨v6, v11, rs, rfl, e9, P9, R9, r1, r2⟩
          have L9 := e9 _ _ lp L6
          -- found[kinds[at]] = tuple(row)
          refine ⟨_, rfl, R, _, rfl, .inl ⟨SqL.of R9, fun T nT => ?_⟩⟩
          have F9 := F6.sx (e9.new (o := .tup (rs.map V.str)) nT)
          have L10 := (e9.new (o := .tup (rs.map V.str)) nT) _ _ lp L6
          have P10 : Pool (upd H9 T (.tup (rs.map V.str))) p [] := (P9.new nT).less fun a m => (nomatch m)
          have T10 : upd H9 T (.tup (rs.map V.str)) T = _ := upd_same
          have tp := P9.ne nT
          generalize upd H9 T (.tup (rs.map V.str)) = H10 at F9 L10 P10 T10
          refine ⟨_, rfl, _, rfl, _, rfl, L, _, _, .str y, rfl, rfl, SqL.of L10, ?_, ?_⟩
          · show atI _ (0 + (i : Nat) : Int) = _
            rw [Int.zero_add]
            exact atI_nat (by rw [List.getElem?_map, hy]; rfl)
          obtain ⟨kvs, hd, hsz, F14⟩ : ∃ kvs, H10 F = some (.dK kvs) ∧ kvs.length < sizeLine ∧ Fnd (upd H10 F (.dK (putK kvs (Sum.inr y : Key) (.ref T)))) p F ls (if y ∈ ks then ks else ks ++ [y]) :=
            F9.put (Q := fun H10 => ∃ kvs, H10 F = some (.dK kvs) ∧ kvs.length < sizeLine ∧ Fnd (upd H10 F (.dK (putK kvs (Sum.inr y : Key) (.ref T)))) p F ls (if y ∈ ks then ks else ks ++ [y])) T10 tp (List.mem_of_getElem? hy) (by omega) r2 (by omega) fun kvs a b c => ⟨kvs, a, b, c⟩
          refine ⟨F, _, rfl, DPut.k (k := Sum.inr y) hd hsz, ?_⟩
          refine ⟨_, _, _, _, _, rfl, P10.setD hd, upd_of L10 hd (by intro e; cases e), F14, ?_, fun x hx => ?_⟩
          · split
            · omega
            · rw [List.length_append, List.length_singleton]
              omega
          · rw [take_next hy] at hx
            rcases List.mem_append.1 hx with h | h
            · split
              · exact k2 x h
              · exact List.mem_append_left _ (k2 x h)
            · rw [List.mem_singleton.1 h]
              split
              · assumption
              · exact List.mem_append_right _ (List.mem_singleton.2 rfl)
      · rintro σ4 H6 ⟨w6, w9, w10, w11, ks, rfl, P6, L6, ⟨ad, suc, N⟩, k1, k2⟩
        rw [List.take_length] at k2
        -- order = list(found)
        refine ⟨_, rfl, F, _, rfl, N.d, fun O nO => ?_⟩
        have eO : (kvOf ks fun k => V.ref (ad k)).map (fun kv => kV kv.1) = ks.map V.str := by
          rw [List.map_map]
          rfl
        rw [eO]
        have F7 : Fnd (upd H6 O (.lst (ks.map V.str))) p F ls ks := Fnd.sx ⟨ad, suc, N⟩ (.of (Same.knew nO))
        have P7 : Pool (upd H6 O (.lst (ks.map V.str))) p [O] := P6.more nO
        have O7 : upd H6 O (.lst (ks.map V.str)) O = _ := upd_same
        have op := P6.ne nO
        generalize upd H6 O (.lst (ks.map V.str)) = H7 at F7 P7 O7
        obtain ⟨ad, suc, N⟩ := F7
        refine ⟨fun σ' H' => ∃ (os : List Str), σ' = [some (.ref p), some (.int n), some (.str signs), some (.ref L), y4, y5, w6, some (.int de), some (.ref F), w9, w10, w11, some (.ref O), none] ∧ FndN H' p F ls ks ad suc ∧ H' O = some (.lst (os.map V.str)) ∧ os.Nodup ∧ os.length = ks.length ∧ ∀ x, x ∈ os ↔ x ∈ ks, ?_, ?_⟩
        · refine ⟨_, rfl, p, _, _, rfl, P7, by decide, by decide, fun H8 d e8 P8 d0 d1 => ?_⟩
          have N8 : FndN H8 p F ls ks ad suc := ⟨e8 _ _ N.fp N.d, N.fp, fun k h => e8 _ _ (N.tp k h) (N.t k h), N.tp, N.row, N.cl, N.sub, N.nd⟩
          have O8 := e8 _ _ op O7
          refine ⟨rfl, _, rfl, ?_⟩
          refine ite2 (fun _ => ?_) fun _ => ⟨ks, rfl, N8, O8, N.nd, rfl, fun x => Iff.rfl⟩
          refine ⟨_, rfl, .inl ⟨rfl, _, SqL.of O8⟩, O, _, rfl, rfl, O8, ?_⟩
          refine ⟨ks.reverse, rfl, ⟨upd_of N8.d O8 (by intro e; cases e), N.fp, fun k h => upd_of (N8.t k h) O8 (by intro e; cases e), N.tp, N.row, N.cl, N.sub, N.nd⟩, ?_, nodup_rev N.nd, List.length_reverse, fun x => List.mem_reverse⟩
          rw [upd_same, List.map_reverse]
        · rintro σ5 H8 ⟨os, rfl, N, O8, ond, olen, omem⟩
          refine ⟨_, rfl, O, rfl, ⟨_, SqL.of O8⟩, fun D nD => ?_⟩
          have kl : ks.length ≤ 12 := by omega
          refine lc_it (walk_listS (K := K) (a := O) (xs := os)) (fun i H' => ∃ ps : List Addr, Same H8 H' ∧ H' D = some (.lst (ps.map V.ref)) ∧ Paired (fun p kv => SqT K H' p [kV kv.1, kv.2]) ps (kvOf (os.take i) fun k => .ref (ad k)))
            ⟨[], Same.knew nD, upd_same, .nil⟩ (fun i H' _ hp => ?_) ?_ ?_
          · obtain ⟨_, e, _⟩ := hp
            exact e.seq (SqL.of O8)
          · rintro i x H9' H9 hi ⟨ps, e9, d9, pr⟩ ⟨rfl, y, hy, rfl⟩
            have hyk : y ∈ ks := (omem y).1 (List.mem_of_getElem? hy)
            refine ⟨rfl, tyes ?_⟩
            refine ⟨_, rfl, _, rfl, _, rfl, F, _, rfl, dget_kv (.inl (e9 _ _ N.d)) hyk, by show 2 ≤ sizeLine; decide, fun T nT => ?_⟩
            have d10 := upd_ne' (o := .tup [.str y, .ref (ad y)]) d9 nT
            have pl : ps.length = (os.take i).length := by
              have := pr.length
              rw [kv_len] at this
              exact this
            rw [List.length_take] at pl
            refine ⟨_, d10, ?_, ps ++ [T], (e9.kadd nT).kput nD, ?_, ?_⟩
            · rw [List.length_map]
              exact sz100 (by omega)
            · rw [upd_same, List.map_append]
              rfl
            · have e1 : kvOf (os.take (i + 1)) (fun k => V.ref (ad k)) = kvOf (os.take i) (fun k => V.ref (ad k)) ++ [((Sum.inr y : Key), V.ref (ad y))] := by
                rw [take_next hy]
                exact List.map_append
              rw [e1]
              have up : ∀ {q : Addr} {xs : List V}, SqT K H9 q xs → SqT K (upd (upd H9 T (.tup [.str y, .ref (ad y)])) D (.lst (ps.map V.ref ++ [.ref T]))) q xs := fun h => by
                have h1 := (Same.knew (o := .tup [.str y, .ref (ad y)]) nT).ktup h
                rcases h1 with (h1 | ⟨o, h1⟩) | h1
                · exact .inl (.inl (upd_of h1 d10 (by intro e; cases e)))
                · exact .inl (.inr ⟨o, upd_of h1 d10 (by intro e; cases e)⟩)
                · exact .inr h1
              refine Paired.snoc (pr.mono fun _ _ h => up h) ?_
              exact SqT.of (upd_of (upd_same (H := H9) (a := T) (o := .tup [.str y, .ref (ad y)])) d10 (by intro e; cases e))
          · rintro H9 ⟨ps, e9, d9, pr⟩
            rw [List.take_length] at pr
            refine ⟨D, ps, _, rfl, SqL.of d9, pr, fun g ng => ?_⟩
            rw [mergeK_kv os _ ond]
            refine q _ g ⟨os, suc, ad, upd_same, fun k hk => upd_ne' (e9 _ _ (N.t k ((omem k).1 hk))) ng, ⟨ond, fun k hk x hx => (omem x).2 (k2 x (N.cl k ((omem k).1 hk) x hx))⟩, ?_, by omega, fun k hk => N.row k ((omem k).1 hk), fun k hk => a2 k (N.sub k ((omem k).1 hk))⟩
            have : 0 < ks.length := by
              have h0 : ls[0]? = some ls[0] := List.getElem?_eq_getElem (by omega)
              exact List.length_pos_of_mem (k2 _ (List.mem_of_getElem? h0))
            omega
end
end KW
end
section
set_option Elab.async false
set_option linter.all false
set_option maxRecDepth 100000
set_option maxHeartbeats 400000
/-! K12: law. -/
namespace KW
open PySem PySem.Spec PyProof.Rows L2
/- law: slots 0 _law_script, 1 _law_pool_here, 2 _law_growth_here, 3 _law_kind, 4 _law_told, 5 _law_due, 6 _law_one, 7 _law_other, 8 _law_third; cells [] -/
abbrev s_law : Stmt := topS 32
abbrev N_law : List Str := ["_law_script", "_law_pool_here", "_law_growth_here", "_law_kind", "_law_told", "_law_due", "_law_one", "_law_other", "_law_third"]
theorem sc_law : FnScope N_law ["_law_script"] (defScope s_law) := ⟨rfl, rfl, rfl, by decide +kernel, rfl, by decide +kernel, by decide +kernel⟩
section
variable {P : Program} {w : World} {K : PySem.W.Frag} {mg : Str → Option Value} {base : Heap}
theorem Drawn.sx {H H' : Hp} {p g : Addr} {av : List Addr} (D : Drawn K H g) (P : Pool H p av) (e : Sx p H H') : Drawn K H' g := by
  obtain ⟨ga, sa, gs, ss, x, y, N, _⟩ := P
  obtain ⟨ks, suc, ad, d, t, ok⟩ := D
  refine ⟨ks, suc, ad, e _ _ (ne_of d N.hp (by intro z; cases z)) d, fun k hk => e _ _ (ne_of (t k hk) N.hp (by intro z; cases z)) (t k hk), ok⟩
theorem told_shaped (d : Int) : SeqAt.shaped (.tuple [.str "power", .int d]) = true := by
  simp [SeqAt.shaped, PyData.canLay0, PyData.canLayAll0, PyData.depth, PyData.depthAll]
  decide +kernel
theorem told_eqv (d : Int) : PyData.eqv (.tuple [.str "power", .int d]) (.tuple [.str "power", .int d]) = true := by
  simp [PyData.eqv, PyData.eqvAll]
def spLaw (K : PySem.W.Frag) : Sp := fun vs H Q _ => ∃ (a : Addr) (ns : List Int), vs = [.ref a] ∧ SqL K H a (ns.map V.int) ∧ ns.length ≤ 63 ∧ ∀ H', Q (.bl true) H'
theorem ok_law {f : Addr} {fd : FuncData} (F : L2.Fun K "law" "law" s_law f fd) (B : Blt mg) (c_law_pool : Cal P w K mg base 1 "_law_pool" (spPool K)) (c_law_ringed : Cal P w K mg base 3 "_law_ringed" (spRinged K)) (c_law_draw : Cal P w K mg base 1 "_law_draw" spDraw)
    (c_law_growth : Cal P w K mg base 3 "_law_growth" (spGrowth K)) (c_speed : Cal P w K mg base 4 "speed" spSpeed) (c_law_degree : Cal P w K mg base 2 "_law_degree" spLDeg) (c_law_is_int : Cal P w K mg base 1 "_law_is_int" spInt) (c_needed : Cal P w K mg base 4 "needed" spNeeded) :
    FnOk P w K mg base CX0 5 f fd ["_law_script"] (spLaw K) := by
  refine F.ok sc_law (fun vs H Q E h => ?_) (fun cdv A outer s H vs Q E hr h => ?_)
  · obtain ⟨a, ns, rfl, _⟩ := h
    rfl
  · obtain ⟨a, ns, rfl, hS, hlen, q⟩ := h
    have hu := hu_of hr
    have hu64 := hr.units
    refine ⟨_, (pss_cons (ps_set (i := 1) sc_law.nd rfl (.inl rfl) (pe_cal c_law_pool hr (by decide) (by rfl) (pa_cons (pv 0) pa_nil)))
      (pss_cons (ps_set (i := 2) sc_law.nd rfl (.inl rfl) (pe_cal c_law_ringed hr (by decide) (by rfl) (pa_cons (pv 1) pa_nil)))
      (C8.pss_cut (ps_if (pt_cmpR op_eq (pe_cal c_law_draw hr (by decide) (by rfl) (pa_cons (pv 1) (pa_cons pe_int pa_nil))) pe_int (nomark _))
        (pss_one (ps_set (i := 2) sc_law.nd rfl (.inl rfl) (pe_cal c_law_growth hr (by decide) (by rfl) (pa_cons (pv 1) pa_nil))))
        pss_nil)
      (pss_cons (ps_lock (ps_for PassesOwn.never rfl (pi_keys (pv 2)) (pg_name (i := 3) sc_law.nd rfl (.inl rfl))
        (pss_cons (ps_set (i := 4) sc_law.nd rfl (.inl rfl) (pe_cal c_speed hr (by decide) (by rfl) (pa_cons (pv 2) (pa_cons (pv 3) pa_nil))))
        (pss_cons (ps_set (i := 5) sc_law.nd rfl (.inl rfl) (pe_cal c_law_degree hr (by decide) (by rfl) (pa_cons (pv 2) (pa_cons (pv 3) pa_nil))))
        (pss_cons (ps_if (PW.pt (pw_or (pt_not (pt_val (pe_callB (kIsi K rfl) (by rfl) B.isinstance (by decide +kernel) (pa_cons (pv 4) (pa_cons (pe_cls "tuple" (by rfl) B.tuple (by decide +kernel)) pa_nil))))) (pw_or (pt_cmpR op_eq (pe_callB (kLen K rfl) (by rfl) B.len (by decide +kernel) (pa_cons (pv 4) pa_nil)) pe_int (nomark _)) (pw_or1 (pt_not (pt_val (pe_callB (kIsi K rfl) (by rfl) B.isinstance (by decide +kernel) (pa_cons (pe_ix (kIxT K rfl) (pv 4) pe_int (fun _ _ => rfl)) (pa_cons (pe_cls "str" (by rfl) B.str (by decide +kernel)) pa_nil)))))))))
          (pss_one (ps_ret pe_bl))
          pss_nil)
        (pss_one (ps_if (pt_cmpR op_isN (pv 5) pe_non (nomark _))
          (pss_one (ps_if (pt_cmpR op_ne (pe_ix (kIxT K rfl) (pv 4) pe_int (fun _ _ => rfl)) pe_str (nomark _))
            (pss_one (ps_ret pe_bl))
            pss_nil))
          (pss_cons (ps_if (PW.pt (pw_or (pt_cmpR (kNeD K rfl hu64) (pv 4) (pe_tup (pa_cons pe_str (pa_cons (pv 5) pa_nil))) (nomark _)) (pw_or1 (pt_not (pt_val (pe_cal c_law_is_int hr (by decide) (by rfl) (pa_cons (pe_ix (kIxT K rfl) (pv 4) pe_int (fun _ _ => rfl)) pa_nil)))))))
            (pss_one (ps_ret pe_bl))
            pss_nil)
          (pss_cons (ps_par3 (i := 6) (j := 7) (l := 8) rfl sc_law.nd rfl rfl rfl (by decide) (by decide) (by decide) rfl rfl rfl (pa_cons (pe_cal c_needed hr (by decide) (by rfl) (pa_cons (pv 2) (pa_cons (pv 3) (pa_cons pe_int pa_nil)))) (pa_cons (pe_cal c_needed hr (by decide) (by rfl) (pa_cons (pv 2) (pa_cons (pv 3) (pa_cons pe_int pa_nil)))) (pa_cons (pe_cal c_needed hr (by decide) (by rfl) (pa_cons (pv 2) (pa_cons (pv 3) (pa_cons pe_int pa_nil)))) pa_nil))) (by rfl))
          (pss_cons (ps_if (PW.pt (pw_and (pt_cmpR op_eq (pv 5) pe_int (nomark _)) (pw_and1 (PW.pt (pw_or (pt_cmpR op_ne (pv 6) (pv 7) (nomark _)) (pw_or1 (pt_cmpR op_ne (pv 7) (pv 8) (nomark _))))))))
            (pss_one (ps_ret pe_bl))
            pss_nil)
          (pss_one (ps_if (PW.pt (pw_and (pt_cmpR op_gt (pv 5) pe_int (nomark _)) (pw_and1 (pt_not (pt_chain op_lt op_lt (pv 6) (pv 7) (pv 8))))))
            (pss_one (ps_ret pe_bl))
            pss_nil))))))))))))
      (pss_one (ps_ret pe_bl)))))), ?_⟩
    refine ⟨_, rfl, a, ns, rfl, hS, hlen, fun H1 p e1 P1 => ?_⟩
    refine ⟨_, rfl, p, rfl, P1, fun H2 g P2 D2 => ?_⟩
    refine ⟨fun σ' H' => ∃ g, σ' = [some (.ref a), some (.ref p), some (.ref g), none, none, none, none, none, none] ∧ Drawn K H' g, ?_, ?_⟩
    · refine ⟨_, rfl, p, _, _, rfl, P2, by decide, by decide, fun H3 d e3 P3 d0 d1 => ?_⟩
      refine ⟨rfl, _, rfl, ?_⟩
      refine ite2 (fun _ => ?_) fun _ => ⟨g, rfl, D2.sx P2 e3⟩
      exact ⟨_, rfl, p, rfl, P3, fun H4 g' D4 => ⟨g', rfl, D4⟩⟩
    · rintro σ3 H3 ⟨g, rfl, ks, suc, ad, hd, ht, ok⟩
      refine ⟨g, _, hd, trivial, fun od => ?_⟩
      have G4 : Gw (upd H3 g (.frz od (.dK (kvOf ks fun k => .ref (ad k))))) g od ks suc ad := ⟨ok, upd_same, fun k hk => upd_of (ht k hk) hd (by intro z; cases z)⟩
      generalize upd H3 g (.frz od (.dK (kvOf ks fun k => V.ref (ad k)))) = H4 at G4
      refine ⟨_, rfl, g, od, rfl, .inl ⟨_, G4.d, ?_⟩⟩
      refine for_it (walk_keysS (d := g) (o := od) (ks := ks) (f := fun k => V.ref (ad k))) (fun i σ H' => ∃ y3 y4 y5 y6 y7 y8, σ = [some (.ref a), some (.ref p), some (.ref g), y3, y4, y5, y6, y7, y8] ∧ Same H4 H')
        ⟨_, _, _, _, _, _, rfl, .refl _⟩ (fun i σ H' _ hp => ?_) ?_ ?_
      · obtain ⟨_, _, _, _, _, _, _, e⟩ := hp
        exact e _ _ G4.d
      · rintro i x σ H5' H5 hi ⟨y3, y4, y5, y6, y7, y8, rfl, e5⟩ ⟨rfl, k, hki, rfl⟩
        have hk : k ∈ ks := List.mem_of_getElem? hki
        have G5 := G4.same e5
        refine ⟨_, rfl, _, rfl, g, od, ks, suc, ad, k, rfl, G5, hk, fun H6 t xs e6 ht hD hN => ?_⟩
        have G6 := G5.same e6
        refine ⟨_, rfl, _, rfl, g, od, ks, suc, ad, k, rfl, G6, hk, fun H7 v e7 hv1 hv2 => ?_⟩
        have G7 := G6.same e7
        have ht7 := e7 _ _ ht
        have hx : ∃ z r, xs = .str z :: r := by
          by_cases h : KM.Dbl suc k
          · obtain ⟨r, e⟩ := hD h
            exact ⟨_, r, e⟩
          · exact ⟨_, _, hN h⟩
        obtain ⟨z, r, rfl⟩ := hx
        refine ⟨_, rfl, _, .ty "tuple", _, _, true, rfl, .ty "tuple", .base (.tup ht7), kit_is (by decide +kernel), true, rfl, iteF ?_⟩
        refine ⟨_, rfl, t, _, rfl, .inr (SqT.of ht7), rfl, _, rfl, ?_⟩
        refine ite2 (fun h => ?_) fun _ => ?_
        · exfalso
          have h2 := of_decide_eq_true h
          cases h2
        refine ⟨_, rfl, t, _, 0, .str z, rfl, rfl, SqT.of ht7, atI_nat (j := 0) rfl, _, .ty "str", _, _, true, rfl, .ty "str", .base (.str z), kit_is (by decide +kernel), true, rfl, iteF ?_⟩
        by_cases hdb : KM.Dbl suc k
        · obtain rfl := hv1 hdb
          obtain ⟨r', er⟩ := hD hdb
          cases er
          refine ⟨_, rfl, rfl, _, rfl, iteT ?_⟩
          refine ⟨_, rfl, t, _, 0, .str "double", rfl, rfl, SqT.of ht7, atI_nat (j := 0) rfl, rfl, _, rfl, ?_⟩
          refine ite2 (fun h => ?_) fun _ => ⟨_, _, _, _, _, _, rfl, e5.trans (e6.trans e7)⟩
          exfalso
          revert h
          decide
        · obtain rfl := hv2 hdb
          have er := hN hdb
          cases er
          refine ⟨_, rfl, rfl, _, rfl, iteF ?_⟩
          -- told != ("power", due) or not _law_is_int(told[1])
          refine ⟨_, rfl, _, rfl, by show 2 ≤ sizeLine; decide, fun T nT => ?_⟩
          have eT := Same.knew (o := .tup [.str "power", .int (KM.deg ks suc k)]) nT
          have hT : upd H7 T (.tup [.str "power", .int (KM.deg ks suc k)]) T = _ := upd_same
          generalize upd H7 T (.tup [.str "power", .int (KM.deg ks suc k)]) = H8 at eT hT
          have ht8 := eT _ _ ht7
          have G8 := G7.same eT
          refine ⟨.tuple [.str "power", .int (KM.deg ks suc k)], .tuple [.str "power", .int (KM.deg ks suc k)], .tup (SqT.of ht8) (.cons (.str _) (.cons (.int _) .nil)), .tup (SqT.of hT) (.cons (.str _) (.cons (.int _) .nil)), told_shaped _, told_shaped _, _, rfl, ?_⟩
          rw [told_eqv]
          refine iteF ?_
          refine ⟨_, rfl, t, _, 1, .int (KM.deg ks suc k), rfl, rfl, SqT.of ht8, atI_nat (j := 1) rfl, _, rfl, true, rfl, iteF ?_⟩
          -- one, other, third = needed(.., 50), needed(.., 100), needed(.., 200)
          refine ⟨_, rfl, _, rfl, g, od, ks, suc, ad, k, 50, rfl, G8, hk, by decide, fun H9 e9 => ?_⟩
          have G9 := G8.same e9
          refine ⟨_, rfl, _, rfl, g, od, ks, suc, ad, k, 100, rfl, G9, hk, by decide, fun H10 e10 => ?_⟩
          have G10 := G9.same e10
          refine ⟨_, rfl, _, rfl, g, od, ks, suc, ad, k, 200, rfl, G10, hk, by decide, fun H11 e11 => ?_⟩
          refine ⟨_, _, _, rfl, ?_⟩
          obtain ⟨n0, n1⟩ := KM.needed_end ok.gr (Nat.le_trans ok.twelve (by decide)) hk
          have dn := KM.deg_nonneg (ks := ks) (suc := suc) k
          have fin : ∀ (H' : Hp) (y5 y6 y7 y8 : Option V), Same H8 H' → ∃ z3 z4 z5 z6 z7 z8, [some (.ref a), some (.ref p), some (.ref g), some (.str k), some (.ref t), y5, y6, y7, y8] = [some (.ref a), some (.ref p), some (.ref g), z3, z4, z5, z6, z7, z8] ∧ Same H4 H' := fun H' y5 y6 y7 y8 e => ⟨_, _, _, _, _, _, rfl, (e5.trans (e6.trans (e7.trans eT))).trans e⟩
          rcases (show KM.deg ks suc k = 0 ∨ 0 < KM.deg ks suc k by omega) with d0 | d0
          · obtain ⟨q1, q2⟩ := n0 d0
            refine ⟨_, rfl, rfl, _, rfl, ?_⟩
            refine ite2 (fun _ => ?_) fun h => absurd (by rw [dec_int, d0]; rfl) h
            refine ⟨_, rfl, _, rfl, rfl, _, rfl, ?_⟩
            refine ite2 (fun h => ?_) fun _ => ?_
            · exfalso
              rw [dec_int, q1, beq_self_eq_true] at h
              cases h
            refine ⟨_, rfl, _, rfl, rfl, _, rfl, ?_⟩
            refine ite2 (fun h => ?_) fun _ => ?_
            · exfalso
              rw [dec_int, q2, beq_self_eq_true] at h
              cases h
            refine ⟨_, rfl, _, _, rfl, rfl, _, rfl, ?_⟩
            refine ite2 (fun h => ?_) fun _ => ?_
            · exfalso
              have := of_decide_eq_true h
              omega
            exact iteF (fin _ _ _ _ _ (e9.trans (e10.trans e11)))
          · obtain ⟨q1, q2⟩ := n1 d0
            refine ⟨_, rfl, rfl, _, rfl, ?_⟩
            refine ite2 (fun h => ?_) fun _ => ?_
            · exfalso
              rw [dec_int] at h
              have := eq_of_beq h
              omega
            refine iteF ?_
            refine ⟨_, rfl, _, _, rfl, rfl, _, rfl, ?_⟩
            refine ite2 (fun _ => ?_) fun h => absurd (decide_eq_true d0) h
            refine ⟨_, rfl, _, rfl, _, _, rfl, rfl, _, rfl, ?_⟩
            refine ite2 (fun _ => ?_) fun h => absurd (decide_eq_true q1) h
            refine ⟨_, rfl, _, _, rfl, rfl, _, rfl, ?_⟩
            refine ite2 (fun h => ?_) fun _ => fin _ _ _ _ _ (e9.trans (e10.trans e11))
            exfalso
            rw [decide_eq_true q2] at h
            cases h
      · rintro σ5 H5 ⟨y3, y4, y5, y6, y7, y8, rfl, e5⟩
        exact ⟨e5 _ _ G4.d, q _⟩
end
end KW
end
section
set_option Elab.async false
set_option linter.all false
set_option maxRecDepth 100000
/-! KZ: what the top has written, the walk, the head. -/
namespace KW
open PySem PySem.Spec PyProof.Rows L2
theorem all_mk {l : PySem.W.OpenLaw} {w : World} {K : PySem.W.Frag} {h : Heap} {mg : Str → Option Value} {fa f1 f2 f3 f4 f5 f6 f7 f8 f9 f10 f11 f12 f13 f14 f15 f16 f17 f18 f19 f20 : Addr} (X : K.In h) (G : h.Ns mainGlobals mg) (hfa : mg "law" = some (.ref fa))
    {od1 an1 od2 an2 od3 an3 od4 an4 od5 an5 od6 an6 od7 an7 od8 an8 od9 an9 od10 an10 od11 an11 od12 an12 od13 an13 od14 an14 od15 an15 od16 an16 od17 an17 od18 an18 od19 an19 od20 an20 : Option Addr} {sl1 sl2 sl3 sl4 sl5 sl6 sl7 sl8 sl9 sl10 sl11 sl12 sl13 sl14 sl15 sl16 sl17 sl18 sl19 sl20 : Array (Option Value)} {oc1 kV1 dc1 pm1 cd1 ct1 oc2 kV2 dc2 pm2 cd2 ct2 oc3 kV3 dc3 pm3 cd3 ct3 oc4 kV4 dc4 pm4 cd4 ct4 oc5 kV5 dc5 pm5 cd5 ct5 oc6 kV6 dc6 pm6 cd6 ct6 oc7 kV7 dc7 pm7 cd7 ct7 oc8 kV8 dc8 pm8 cd8 ct8 oc9 kV9 dc9 pm9 cd9 ct9 oc10 kV10 dc10 pm10 cd10 ct10 oc11 kV11 dc11 pm11 cd11 ct11 oc12 kV12 dc12 pm12 cd12 ct12 oc13 kV13 dc13 pm13 cd13 ct13 oc14 kV14 dc14 pm14 cd14 ct14 oc15 kV15 dc15 pm15 cd15 ct15 oc16 kV16 dc16 pm16 cd16 ct16 oc17 kV17 dc17 pm17 cd17 ct17 oc18 kV18 dc18 pm18 cd18 ct18 oc19 kV19 dc19 pm19 cd19 ct19 oc20 kV20 dc20 pm20 cd20 ct20 : Value} {t0 : _} {t1 : _} {t2 : _} {t3 : _} {t4 : _}
    (a1 : PySem.W.nsIn K mainGlobals "is_integer" = some (some (.ref f1))) (l1 : K.lookup f1 = some ⟨oc1, od1, .func (PySem.W.fnOf "is_integer" "is_integer" (defArgs s_is_integer) (defBody s_is_integer) (defScope s_is_integer) .none kV1 dc1 pm1 an1 cd1 ct1), sl1⟩) (c1 : PySem.W.codeIn K cd1 "is_integer" = true) (k1 : PySem.W.keepIn K (.ref f1) = true)
    (a2 : PySem.W.nsIn K mainGlobals "is_within" = some (some (.ref f2))) (l2 : K.lookup f2 = some ⟨oc2, od2, .func (PySem.W.fnOf "is_within" "is_within" (defArgs s_is_within) (defBody s_is_within) (defScope s_is_within) .none kV2 dc2 pm2 an2 cd2 ct2), sl2⟩) (c2 : PySem.W.codeIn K cd2 "is_within" = true) (k2 : PySem.W.keepIn K (.ref f2) = true)
    (a3 : PySem.W.nsIn K mainGlobals "check_number" = some (some (.ref f3))) (l3 : K.lookup f3 = some ⟨oc3, od3, .func (PySem.W.fnOf "check_number" "check_number" (defArgs s_check_number) (defBody s_check_number) (defScope s_check_number) .none kV3 dc3 pm3 an3 cd3 ct3), sl3⟩) (c3 : PySem.W.codeIn K cd3 "check_number" = true) (k3 : PySem.W.keepIn K (.ref f3) = true)
    (a4 : PySem.W.nsIn K mainGlobals "is_small" = some (some (.ref f4))) (l4 : K.lookup f4 = some ⟨oc4, od4, .func (PySem.W.fnOf "is_small" "is_small" (defArgs s_is_small) (defBody s_is_small) (defScope s_is_small) .none kV4 dc4 pm4 an4 cd4 ct4), sl4⟩) (c4 : PySem.W.codeIn K cd4 "is_small" = true) (k4 : PySem.W.keepIn K (.ref f4) = true)
    (a5 : PySem.W.nsIn K mainGlobals "is_growth" = some (some (.ref f5))) (l5 : K.lookup f5 = some ⟨oc5, od5, .func (PySem.W.fnOf "is_growth" "is_growth" (defArgs s_is_growth) (defBody s_is_growth) (defScope s_is_growth) .none kV5 dc5 pm5 an5 cd5 ct5), sl5⟩) (c5 : PySem.W.codeIn K cd5 "is_growth" = true) (k5 : PySem.W.keepIn K (.ref f5) = true)
    (a6 : PySem.W.nsIn K mainGlobals "check_growth" = some (some (.ref f6))) (l6 : K.lookup f6 = some ⟨oc6, od6, .func (PySem.W.fnOf "check_growth" "check_growth" (defArgs s_check_growth) (defBody s_check_growth) (defScope s_check_growth) .none kV6 dc6 pm6 an6 cd6 ct6), sl6⟩) (c6 : PySem.W.codeIn K cd6 "check_growth" = true) (k6 : PySem.W.keepIn K (.ref f6) = true)
    (a7 : PySem.W.nsIn K mainGlobals "needed" = some (some (.ref f7))) (l7 : K.lookup f7 = some ⟨oc7, od7, .func (PySem.W.fnOf "needed" "needed" (defArgs s_needed) (defBody s_needed) (defScope s_needed) .none kV7 dc7 pm7 an7 cd7 ct7), sl7⟩) (c7 : PySem.W.codeIn K cd7 "needed" = true) (k7 : PySem.W.keepIn K (.ref f7) = true)
    (a8 : PySem.W.nsIn K mainGlobals "routes_from" = some (some (.ref f8))) (l8 : K.lookup f8 = some ⟨oc8, od8, .func (PySem.W.fnOf "routes_from" "routes_from" (defArgs s_routes_from) (defBody s_routes_from) (defScope s_routes_from) .none kV8 dc8 pm8 an8 cd8 ct8), sl8⟩) (c8 : PySem.W.codeIn K cd8 "routes_from" = true) (k8 : PySem.W.keepIn K (.ref f8) = true)
    (a9 : PySem.W.nsIn K mainGlobals "rounds_at" = some (some (.ref f9))) (l9 : K.lookup f9 = some ⟨oc9, od9, .func (PySem.W.fnOf "rounds_at" "rounds_at" (defArgs s_rounds_at) (defBody s_rounds_at) (defScope s_rounds_at) .none kV9 dc9 pm9 an9 cd9 ct9), sl9⟩) (c9 : PySem.W.codeIn K cd9 "rounds_at" = true) (k9 : PySem.W.keepIn K (.ref f9) = true)
    (a10 : PySem.W.nsIn K mainGlobals "degree_of" = some (some (.ref f10))) (l10 : K.lookup f10 = some ⟨oc10, od10, .func (PySem.W.fnOf "degree_of" "degree_of" (defArgs s_degree_of) (defBody s_degree_of) (defScope s_degree_of) .none kV10 dc10 pm10 an10 cd10 ct10), sl10⟩) (c10 : PySem.W.codeIn K cd10 "degree_of" = true) (k10 : PySem.W.keepIn K (.ref f10) = true)
    (a11 : PySem.W.nsIn K mainGlobals "speed" = some (some (.ref f11))) (l11 : K.lookup f11 = some ⟨oc11, od11, .func (PySem.W.fnOf "speed" "speed" (defArgs s_speed) (defBody s_speed) (defScope s_speed) .none kV11 dc11 pm11 an11 cd11 ct11), sl11⟩) (c11 : PySem.W.codeIn K cd11 "speed" = true) (k11 : PySem.W.keepIn K (.ref f11) = true)
    (a12 : PySem.W.nsIn K mainGlobals "_law_pool" = some (some (.ref f12))) (l12 : K.lookup f12 = some ⟨oc12, od12, .func (PySem.W.fnOf "_law_pool" "_law_pool" (defArgs s_law_pool) (defBody s_law_pool) (defScope s_law_pool) .none kV12 dc12 pm12 an12 cd12 ct12), sl12⟩) (c12 : PySem.W.codeIn K cd12 "_law_pool" = true) (k12 : PySem.W.keepIn K (.ref f12) = true)
    (a13 : PySem.W.nsIn K mainGlobals "_law_draw" = some (some (.ref f13))) (l13 : K.lookup f13 = some ⟨oc13, od13, .func (PySem.W.fnOf "_law_draw" "_law_draw" (defArgs s_law_draw) (defBody s_law_draw) (defScope s_law_draw) .none kV13 dc13 pm13 an13 cd13 ct13), sl13⟩) (c13 : PySem.W.codeIn K cd13 "_law_draw" = true) (k13 : PySem.W.keepIn K (.ref f13) = true)
    (a14 : PySem.W.nsIn K mainGlobals "_law_pick" = some (some (.ref f14))) (l14 : K.lookup f14 = some ⟨oc14, od14, .func (PySem.W.fnOf "_law_pick" "_law_pick" (defArgs s_law_pick) (defBody s_law_pick) (defScope s_law_pick) .none kV14 dc14 pm14 an14 cd14 ct14), sl14⟩) (c14 : PySem.W.codeIn K cd14 "_law_pick" = true) (k14 : PySem.W.keepIn K (.ref f14) = true)
    (a15 : PySem.W.nsIn K mainGlobals "_law_is_int" = some (some (.ref f15))) (l15 : K.lookup f15 = some ⟨oc15, od15, .func (PySem.W.fnOf "_law_is_int" "_law_is_int" (defArgs s_law_is_int) (defBody s_law_is_int) (defScope s_law_is_int) .none kV15 dc15 pm15 an15 cd15 ct15), sl15⟩) (c15 : PySem.W.codeIn K cd15 "_law_is_int" = true) (k15 : PySem.W.keepIn K (.ref f15) = true)
    (a16 : PySem.W.nsIn K mainGlobals "_law_growth" = some (some (.ref f16))) (l16 : K.lookup f16 = some ⟨oc16, od16, .func (PySem.W.fnOf "_law_growth" "_law_growth" (defArgs s_law_growth) (defBody s_law_growth) (defScope s_law_growth) .none kV16 dc16 pm16 an16 cd16 ct16), sl16⟩) (c16 : PySem.W.codeIn K cd16 "_law_growth" = true) (k16 : PySem.W.keepIn K (.ref f16) = true)
    (a17 : PySem.W.nsIn K mainGlobals "_law_reach" = some (some (.ref f17))) (l17 : K.lookup f17 = some ⟨oc17, od17, .func (PySem.W.fnOf "_law_reach" "_law_reach" (defArgs s_law_reach) (defBody s_law_reach) (defScope s_law_reach) .none kV17 dc17 pm17 an17 cd17 ct17), sl17⟩) (c17 : PySem.W.codeIn K cd17 "_law_reach" = true) (k17 : PySem.W.keepIn K (.ref f17) = true)
    (a18 : PySem.W.nsIn K mainGlobals "_law_degree" = some (some (.ref f18))) (l18 : K.lookup f18 = some ⟨oc18, od18, .func (PySem.W.fnOf "_law_degree" "_law_degree" (defArgs s_law_degree) (defBody s_law_degree) (defScope s_law_degree) .none kV18 dc18 pm18 an18 cd18 ct18), sl18⟩) (c18 : PySem.W.codeIn K cd18 "_law_degree" = true) (k18 : PySem.W.keepIn K (.ref f18) = true)
    (a19 : PySem.W.nsIn K mainGlobals "_law_ringed" = some (some (.ref f19))) (l19 : K.lookup f19 = some ⟨oc19, od19, .func (PySem.W.fnOf "_law_ringed" "_law_ringed" (defArgs s_law_ringed) (defBody s_law_ringed) (defScope s_law_ringed) .none kV19 dc19 pm19 an19 cd19 ct19), sl19⟩) (c19 : PySem.W.codeIn K cd19 "_law_ringed" = true) (k19 : PySem.W.keepIn K (.ref f19) = true)
    (a20 : PySem.W.nsIn K mainGlobals "law" = some (some (.ref f20))) (l20 : K.lookup f20 = some ⟨oc20, od20, .func (PySem.W.fnOf "law" "law" (defArgs s_law) (defBody s_law) (defScope s_law) .none kV20 dc20 pm20 an20 cd20 ct20), sl20⟩) (c20 : PySem.W.codeIn K cd20 "law" = true) (k20 : PySem.W.keepIn K (.ref f20) = true)
    (z_len : PySem.W.nsIn K mainGlobals "len" = some none) (z_isinstance : PySem.W.nsIn K mainGlobals "isinstance" = some none) (z_all : PySem.W.nsIn K mainGlobals "all" = some none) (z_sum : PySem.W.nsIn K mainGlobals "sum" = some none) (z_max : PySem.W.nsIn K mainGlobals "max" = some none) (z_abs : PySem.W.nsIn K mainGlobals "abs" = some none) (z_range : PySem.W.nsIn K mainGlobals "range" = some none) (z_enumerate : PySem.W.nsIn K mainGlobals "enumerate" = some none) (z_sorted : PySem.W.nsIn K mainGlobals "sorted" = some none) (z_int : PySem.W.nsIn K mainGlobals "int" = some none) (z_bool : PySem.W.nsIn K mainGlobals "bool" = some none) (z_str : PySem.W.nsIn K mainGlobals "str" = some none) (z_dict : PySem.W.nsIn K mainGlobals "dict" = some none) (z_tuple : PySem.W.nsIn K mainGlobals "tuple" = some none) (z_list : PySem.W.nsIn K mainGlobals "list" = some none) (z_set : PySem.W.nsIn K mainGlobals "set" = some none)
    (y_MOST_KINDS : PySem.W.nsIn K mainGlobals "MOST_KINDS" = some (some (.int 12 t0))) (y_MOST_LEFT : PySem.W.nsIn K mainGlobals "MOST_LEFT" = some (some (.int 4 t1))) (y_MOST_SIGNS : PySem.W.nsIn K mainGlobals "MOST_SIGNS" = some (some (.int 8 t2))) (y_MOST_ROUNDS : PySem.W.nsIn K mainGlobals "MOST_ROUNDS" = some (some (.int 200 t3))) (y_SIGNS : PySem.W.nsIn K mainGlobals "SIGNS" = some (some (.str "abcdefghijklmnopqrstuvwxyz" t4))) :
    ∃ fd : FuncData, (∀ (s : Shared) (v : Value), BindsTo s fd ⟨[v], []⟩ [("_law_script", v)]) ∧ ∀ base : Heap, K.In base → base.Ns mainGlobals mg → FnOk l.prog w K mg base CX0 5 fa fd ["_law_script"] (spLaw K) := by
  have e := hfa.symm.trans (PySem.W.mg_of X G a20)
  cases e
  have B : Blt mg := ⟨PySem.W.mg_none_of X G z_len, PySem.W.mg_none_of X G z_isinstance, PySem.W.mg_none_of X G z_all, PySem.W.mg_none_of X G z_sum, PySem.W.mg_none_of X G z_max, PySem.W.mg_none_of X G z_abs, PySem.W.mg_none_of X G z_range, PySem.W.mg_none_of X G z_enumerate, PySem.W.mg_none_of X G z_sorted, PySem.W.mg_none_of X G z_int, PySem.W.mg_none_of X G z_bool, PySem.W.mg_none_of X G z_str, PySem.W.mg_none_of X G z_dict, PySem.W.mg_none_of X G z_tuple, PySem.W.mg_none_of X G z_list, PySem.W.mg_none_of X G z_set, ⟨_, PySem.W.mg_of X G y_MOST_KINDS, _, rfl⟩, ⟨_, PySem.W.mg_of X G y_MOST_LEFT, _, rfl⟩, ⟨_, PySem.W.mg_of X G y_MOST_SIGNS, _, rfl⟩, ⟨_, PySem.W.mg_of X G y_MOST_ROUNDS, _, rfl⟩, ⟨_, PySem.W.mg_of X G y_SIGNS, _, rfl⟩⟩
  have D1 : Df K mg "is_integer" s_is_integer ["thing"] := ⟨_, _, fun_mk (st := s_is_integer) l1 c1 k1, PySem.W.mg_of X G a1, (fun_mk (st := s_is_integer) l1 c1 k1).binds (ps := ["thing"]) fun _ _ _ _ _ _ us hl => match us, hl with | [_], _ => rfl⟩
  have D2 : Df K mg "is_within" s_is_within ["thing", "least", "most"] := ⟨_, _, fun_mk (st := s_is_within) l2 c2 k2, PySem.W.mg_of X G a2, (fun_mk (st := s_is_within) l2 c2 k2).binds (ps := ["thing", "least", "most"]) fun _ _ _ _ _ _ us hl => match us, hl with | [_, _, _], _ => rfl⟩
  have D3 : Df K mg "check_number" s_check_number ["thing", "least", "most"] := ⟨_, _, fun_mk (st := s_check_number) l3 c3 k3, PySem.W.mg_of X G a3, (fun_mk (st := s_check_number) l3 c3 k3).binds (ps := ["thing", "least", "most"]) fun _ _ _ _ _ _ us hl => match us, hl with | [_, _, _], _ => rfl⟩
  have D4 : Df K mg "is_small" s_is_small ["thing"] := ⟨_, _, fun_mk (st := s_is_small) l4 c4 k4, PySem.W.mg_of X G a4, (fun_mk (st := s_is_small) l4 c4 k4).binds (ps := ["thing"]) fun _ _ _ _ _ _ us hl => match us, hl with | [_], _ => rfl⟩
  have D5 : Df K mg "is_growth" s_is_growth ["thing"] := ⟨_, _, fun_mk (st := s_is_growth) l5 c5 k5, PySem.W.mg_of X G a5, (fun_mk (st := s_is_growth) l5 c5 k5).binds (ps := ["thing"]) fun _ _ _ _ _ _ us hl => match us, hl with | [_], _ => rfl⟩
  have D6 : Df K mg "check_growth" s_check_growth ["growth", "kind"] := ⟨_, _, fun_mk (st := s_check_growth) l6 c6 k6, PySem.W.mg_of X G a6, (fun_mk (st := s_check_growth) l6 c6 k6).binds (ps := ["growth", "kind"]) fun _ _ _ _ _ _ us hl => match us, hl with | [_, _], _ => rfl⟩
  have D7 : Df K mg "needed" s_needed ["growth", "kind", "many"] := ⟨_, _, fun_mk (st := s_needed) l7 c7 k7, PySem.W.mg_of X G a7, (fun_mk (st := s_needed) l7 c7 k7).binds (ps := ["growth", "kind", "many"]) fun _ _ _ _ _ _ us hl => match us, hl with | [_, _, _], _ => rfl⟩
  have D8 : Df K mg "routes_from" s_routes_from ["growth", "kind"] := ⟨_, _, fun_mk (st := s_routes_from) l8 c8 k8, PySem.W.mg_of X G a8, (fun_mk (st := s_routes_from) l8 c8 k8).binds (ps := ["growth", "kind"]) fun _ _ _ _ _ _ us hl => match us, hl with | [_, _], _ => rfl⟩
  have D9 : Df K mg "rounds_at" s_rounds_at ["growth", "routes", "kind"] := ⟨_, _, fun_mk (st := s_rounds_at) l9 c9 k9, PySem.W.mg_of X G a9, (fun_mk (st := s_rounds_at) l9 c9 k9).binds (ps := ["growth", "routes", "kind"]) fun _ _ _ _ _ _ us hl => match us, hl with | [_, _, _], _ => rfl⟩
  have D10 : Df K mg "degree_of" s_degree_of ["growth", "routes", "kind"] := ⟨_, _, fun_mk (st := s_degree_of) l10 c10 k10, PySem.W.mg_of X G a10, (fun_mk (st := s_degree_of) l10 c10 k10).binds (ps := ["growth", "routes", "kind"]) fun _ _ _ _ _ _ us hl => match us, hl with | [_, _, _], _ => rfl⟩
  have D11 : Df K mg "speed" s_speed ["growth", "kind"] := ⟨_, _, fun_mk (st := s_speed) l11 c11 k11, PySem.W.mg_of X G a11, (fun_mk (st := s_speed) l11 c11 k11).binds (ps := ["growth", "kind"]) fun _ _ _ _ _ _ us hl => match us, hl with | [_, _], _ => rfl⟩
  have D12 : Df K mg "_law_pool" s_law_pool ["_law_script"] := ⟨_, _, fun_mk (st := s_law_pool) l12 c12 k12, PySem.W.mg_of X G a12, (fun_mk (st := s_law_pool) l12 c12 k12).binds (ps := ["_law_script"]) fun _ _ _ _ _ _ us hl => match us, hl with | [_], _ => rfl⟩
  have D13 : Df K mg "_law_draw" s_law_draw ["_law_pool_here", "_law_many"] := ⟨_, _, fun_mk (st := s_law_draw) l13 c13 k13, PySem.W.mg_of X G a13, (fun_mk (st := s_law_draw) l13 c13 k13).binds (ps := ["_law_pool_here", "_law_many"]) fun _ _ _ _ _ _ us hl => match us, hl with | [_, _], _ => rfl⟩
  have D14 : Df K mg "_law_pick" s_law_pick ["_law_pool_here", "_law_things"] := ⟨_, _, fun_mk (st := s_law_pick) l14 c14 k14, PySem.W.mg_of X G a14, (fun_mk (st := s_law_pick) l14 c14 k14).binds (ps := ["_law_pool_here", "_law_things"]) fun _ _ _ _ _ _ us hl => match us, hl with | [_, _], _ => rfl⟩
  have D15 : Df K mg "_law_is_int" s_law_is_int ["_law_thing"] := ⟨_, _, fun_mk (st := s_law_is_int) l15 c15 k15, PySem.W.mg_of X G a15, (fun_mk (st := s_law_is_int) l15 c15 k15).binds (ps := ["_law_thing"]) fun _ _ _ _ _ _ us hl => match us, hl with | [_], _ => rfl⟩
  have D16 : Df K mg "_law_growth" s_law_growth ["_law_pool_here"] := ⟨_, _, fun_mk (st := s_law_growth) l16 c16 k16, PySem.W.mg_of X G a16, (fun_mk (st := s_law_growth) l16 c16 k16).binds (ps := ["_law_pool_here"]) fun _ _ _ _ _ _ us hl => match us, hl with | [_], _ => rfl⟩
  have D17 : Df K mg "_law_reach" s_law_reach ["_law_growth_here", "_law_kind"] := ⟨_, _, fun_mk (st := s_law_reach) l17 c17 k17, PySem.W.mg_of X G a17, (fun_mk (st := s_law_reach) l17 c17 k17).binds (ps := ["_law_growth_here", "_law_kind"]) fun _ _ _ _ _ _ us hl => match us, hl with | [_, _], _ => rfl⟩
  have D18 : Df K mg "_law_degree" s_law_degree ["_law_growth_here", "_law_kind"] := ⟨_, _, fun_mk (st := s_law_degree) l18 c18 k18, PySem.W.mg_of X G a18, (fun_mk (st := s_law_degree) l18 c18 k18).binds (ps := ["_law_growth_here", "_law_kind"]) fun _ _ _ _ _ _ us hl => match us, hl with | [_, _], _ => rfl⟩
  have D19 : Df K mg "_law_ringed" s_law_ringed ["_law_pool_here"] := ⟨_, _, fun_mk (st := s_law_ringed) l19 c19 k19, PySem.W.mg_of X G a19, (fun_mk (st := s_law_ringed) l19 c19 k19).binds (ps := ["_law_pool_here"]) fun _ _ _ _ _ _ us hl => match us, hl with | [_], _ => rfl⟩
  refine ⟨PySem.W.fnOf "law" "law" (defArgs s_law) (defBody s_law) (defScope s_law) .none kV20 dc20 pm20 an20 cd20 ct20, fun s v => .of_eq rfl, fun base _ _ => ?_⟩
  have c_is_integer : Cal l.prog w K mg base 1 "is_integer" spInt := cal_is_integer D1 B
  have c_is_within : Cal l.prog w K mg base 2 "is_within" spWithin := cal_is_within D2 c_is_integer
  have c_check_number : Cal l.prog w K mg base 3 "check_number" spCheckN := cal_check_number D3 c_is_within
  have c_is_small : Cal l.prog w K mg base 1 "is_small" spSmall := cal_is_small D4 B
  have c_is_growth : Cal l.prog w K mg base 2 "is_growth" spIsGrowth := cal_is_growth D5 B c_is_small
  have c_check_growth : Cal l.prog w K mg base 3 "check_growth" spCheckG := cal_check_growth D6 B c_is_growth
  have c_needed : Cal l.prog w K mg base 4 "needed" spNeeded := cal_needed D7 B c_check_growth c_check_number
  have c_routes_from : Cal l.prog w K mg base 1 "routes_from" spRoutes := cal_routes_from D8 B
  have c_rounds_at : Cal l.prog w K mg base 1 "rounds_at" spRounds := cal_rounds_at D9 B
  have c_degree_of : Cal l.prog w K mg base 2 "degree_of" spDegree := cal_degree_of D10 B c_rounds_at
  have c_speed : Cal l.prog w K mg base 4 "speed" spSpeed := cal_speed D11 B c_check_growth c_routes_from c_rounds_at c_degree_of
  have c_law_pool : Cal l.prog w K mg base 1 "_law_pool" (spPool K) := cal_law_pool D12 B
  have c_law_draw : Cal l.prog w K mg base 1 "_law_draw" spDraw := cal_law_draw D13 B
  have c_law_pick : Cal l.prog w K mg base 2 "_law_pick" spPick := cal_law_pick D14 B c_law_draw
  have c_law_is_int : Cal l.prog w K mg base 1 "_law_is_int" spInt := cal_law_is_int D15 B
  have c_law_growth : Cal l.prog w K mg base 3 "_law_growth" (spGrowth K) := cal_law_growth D16 B c_law_draw c_law_pick
  have c_law_reach : Cal l.prog w K mg base 1 "_law_reach" spReach := cal_law_reach D17 B
  have c_law_degree : Cal l.prog w K mg base 2 "_law_degree" spLDeg := cal_law_degree D18 B c_law_reach
  have c_law_ringed : Cal l.prog w K mg base 3 "_law_ringed" (spRinged K) := cal_law_ringed D19 B c_law_draw c_law_pick
  exact ok_law (fun_mk (st := s_law) l20 c20 k20) B c_law_pool c_law_ringed c_law_draw c_law_growth c_speed c_law_degree c_law_is_int c_needed
theorem walk {l : PySem.W.OpenLaw} {q : Program} {loose : List Str} {XP : (Str → Option Value) → Heap → Prop} {YP : World → Heap → Prop} {d : DefRec} {K : Params → PySem.W.Frag} (hn : l.most = some 63) (hdf : d.params.defaults = [])
    (hY : ∀ (w : World) (h : Heap), YP w h → (K w.params).In h)
    (F : ∀ (w : World) (mg : Str → Option Value) (fa : Addr) (h : Heap), (K w.params).In h → h.Ns mainGlobals mg → mg d.name = some (.ref fa) →
      ∃ fd : FuncData, (∀ (s : Shared) (u : Value), BindsTo s fd ⟨[u], []⟩ [("_law_script", u)]) ∧ ∀ base : Heap, (K w.params).In base → base.Ns mainGlobals mg → FnOk l.prog w (K w.params) mg base CX0 5 fa fd ["_law_script"] (spLaw (K w.params))) :
    PySem.W.WalkO q loose XP YP l.row.toRowW d [] (fun f vs => PySem.call f vs) :=
  L2.walk_of (n := 63) (k := 5) (x := "_law_script") (CX := fun _ => CX0) (sp := fun w => spLaw (K w.params)) hn (by decide) hdf ⟨rfl, by decide, by decide⟩ hY F (fun _ _ a ns hl _ hS => ⟨a, ns, rfl, hS, hl, fun _ => rfl⟩) fun _ _ _ _ _ z => z
end KW

open PySem PySem.W PyProof.Rows in
set_option maxRecDepth 100000 in
set_option maxHeartbeats 0 in
theorem PySem.Challenge.cw_putbetween_k75_whole_speeds_of_power_holds : PySem.Challenge.rw_putbetween_k75_whole_speeds_of_power.Holds := by
  w_on; o_law; k_head; (case hw => w_witness2)
  k_fill
  refine KW.walk (l := PySem.Challenge.rw_putbetween_k75_whole_speeds_of_power) rfl rfl (fun w h Y => PySem.W.kIn_of Y) ?F
  case F =>
    intro w mg fa h KX G hmg
    refine' KW.all_mk KX G hmg ?a1 ?l1 ?c1 ?k1 ?a2 ?l2 ?c2 ?k2 ?a3 ?l3 ?c3 ?k3 ?a4 ?l4 ?c4 ?k4 ?a5 ?l5 ?c5 ?k5 ?a6 ?l6 ?c6 ?k6 ?a7 ?l7 ?c7 ?k7 ?a8 ?l8 ?c8 ?k8 ?a9 ?l9 ?c9 ?k9 ?a10 ?l10 ?c10 ?k10 ?a11 ?l11 ?c11 ?k11 ?a12 ?l12 ?c12 ?k12 ?a13 ?l13 ?c13 ?k13 ?a14 ?l14 ?c14 ?k14 ?a15 ?l15 ?c15 ?k15 ?a16 ?l16 ?c16 ?k16 ?a17 ?l17 ?c17 ?k17 ?a18 ?l18 ?c18 ?k18 ?a19 ?l19 ?c19 ?k19 ?a20 ?l20 ?c20 ?k20 ?z_len ?z_isinstance ?z_all ?z_sum ?z_max ?z_abs ?z_range ?z_enumerate ?z_sorted ?z_int ?z_bool ?z_str ?z_dict ?z_tuple ?z_list ?z_set ?y_MOST_KINDS ?y_MOST_LEFT ?y_MOST_SIGNS ?y_MOST_ROUNDS ?y_SIGNS
    (case a1 => k_is)
    (case l1 => k_is)
    (case c1 => k_is)
    (case k1 => k_is)
    (case a2 => k_is)
    (case l2 => k_is)
    (case c2 => k_is)
    (case k2 => k_is)
    (case a3 => k_is)
    (case l3 => k_is)
    (case c3 => k_is)
    (case k3 => k_is)
    (case a4 => k_is)
    (case l4 => k_is)
    (case c4 => k_is)
    (case k4 => k_is)
    (case a5 => k_is)
    (case l5 => k_is)
    (case c5 => k_is)
    (case k5 => k_is)
    (case a6 => k_is)
    (case l6 => k_is)
    (case c6 => k_is)
    (case k6 => k_is)
    (case a7 => k_is)
    (case l7 => k_is)
    (case c7 => k_is)
    (case k7 => k_is)
    (case a8 => k_is)
    (case l8 => k_is)
    (case c8 => k_is)
    (case k8 => k_is)
    (case a9 => k_is)
    (case l9 => k_is)
    (case c9 => k_is)
    (case k9 => k_is)
    (case a10 => k_is)
    (case l10 => k_is)
    (case c10 => k_is)
    (case k10 => k_is)
    (case a11 => k_is)
    (case l11 => k_is)
    (case c11 => k_is)
    (case k11 => k_is)
    (case a12 => k_is)
    (case l12 => k_is)
    (case c12 => k_is)
    (case k12 => k_is)
    (case a13 => k_is)
    (case l13 => k_is)
    (case c13 => k_is)
    (case k13 => k_is)
    (case a14 => k_is)
    (case l14 => k_is)
    (case c14 => k_is)
    (case k14 => k_is)
    (case a15 => k_is)
    (case l15 => k_is)
    (case c15 => k_is)
    (case k15 => k_is)
    (case a16 => k_is)
    (case l16 => k_is)
    (case c16 => k_is)
    (case k16 => k_is)
    (case a17 => k_is)
    (case l17 => k_is)
    (case c17 => k_is)
    (case k17 => k_is)
    (case a18 => k_is)
    (case l18 => k_is)
    (case c18 => k_is)
    (case k18 => k_is)
    (case a19 => k_is)
    (case l19 => k_is)
    (case c19 => k_is)
    (case k19 => k_is)
    (case a20 => k_is)
    (case l20 => k_is)
    (case c20 => k_is)
    (case k20 => k_is)
    (case z_len => k_is)
    (case z_isinstance => k_is)
    (case z_all => k_is)
    (case z_sum => k_is)
    (case z_max => k_is)
    (case z_abs => k_is)
    (case z_range => k_is)
    (case z_enumerate => k_is)
    (case z_sorted => k_is)
    (case z_int => k_is)
    (case z_bool => k_is)
    (case z_str => k_is)
    (case z_dict => k_is)
    (case z_tuple => k_is)
    (case z_list => k_is)
    (case z_set => k_is)
    (case y_MOST_KINDS => k_is)
    (case y_MOST_LEFT => k_is)
    (case y_MOST_SIGNS => k_is)
    (case y_MOST_ROUNDS => k_is)
    (case y_SIGNS => k_is)
end
