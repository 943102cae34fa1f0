import PyProof.Rows.All
import Wide.All
import OpenK.AllK
import Wide.FinOn
import HandS.ForMost
import HandS.Flow
import HandS.Wide
import HandS.DictComp
import HandS.ListItems
import HandS.Conv
import HandS.Deep
import HandS.DeepEq
import HandS.IsInst
import HandS.Walk
import HandS.Zip
import HandS.Style
import HandS.OwnEq
import HandS.TupLe
import HandS.AnyAll
import PySem.Challenge.RW_gameworths_k34_whole_mean_worths
import PyProof.InstNe
set_option linter.all false
namespace GW
section
variable {α : Type} [DecidableEq α]

/-- the greatest (least) of some ints -/
def opt (b : Bool) : List Int → Int
  | [] => 0
  | [x] => x
  | x :: y :: r => let m := opt b (y :: r); if b then max x m else min x m

theorem opt_mem (b : Bool) : ∀ (l : List Int), l ≠ [] → opt b l ∈ l
  | [], h => absurd rfl h
  | [x], _ => by simp [opt]
  | x :: y :: r, _ => by
    have ih := opt_mem b (y :: r) (by simp)
    unfold opt
    simp only
    cases b
    · simp only [Bool.false_eq_true, if_false]
      rw [Int.min_def]; split
      · simp
      · exact List.mem_cons_of_mem _ ih
    · simp only [if_true]
      rw [Int.max_def]; split
      · exact List.mem_cons_of_mem _ ih
      · simp

theorem opt_max : ∀ (l : List Int) (x : Int), x ∈ l → x ≤ opt true l
  | [x], y, h => by
    have : y = x := by simpa using h
    simp [opt, this]
  | x :: z :: r, y, h => by
    unfold opt
    simp only [if_true]
    rcases List.mem_cons.mp h with rfl | h
    · omega
    · have := opt_max (z :: r) y h
      omega

theorem opt_min : ∀ (l : List Int) (x : Int), x ∈ l → opt false l ≤ x
  | [x], y, h => by
    have : y = x := by simpa using h
    simp [opt, this]
  | x :: z :: r, y, h => by
    unfold opt
    simp only [Bool.false_eq_true, if_false]
    rcases List.mem_cons.mp h with rfl | h
    · omega
    · have := opt_min (z :: r) y h
      omega

theorem opt_mono (b : Bool) {β : Type} (l : List β) (f g : β → Int) (hl : l ≠ []) (h : ∀ e ∈ l, f e ≤ g e) : opt b (l.map f) ≤ opt b (l.map g) := by
  cases b
  · obtain ⟨e, he, h1⟩ := List.mem_map.mp (opt_mem false (l.map g) (by simpa using hl))
    have h2 := opt_min (l.map f) (f e) (List.mem_map_of_mem he)
    have h3 := h e he
    omega
  · obtain ⟨e, he, h1⟩ := List.mem_map.mp (opt_mem true (l.map f) (by simpa using hl))
    have h2 := opt_max (l.map g) (g e) (List.mem_map_of_mem he)
    have h3 := h e he
    omega

/-- a sum over some places -/
def sumL (f : α → Int) : List α → Int
  | [] => 0
  | x :: r => f x + sumL f r

theorem sumL_le (f g : α → Int) : ∀ (l : List α), (∀ v ∈ l, f v ≤ g v) → sumL f l ≤ sumL g l
  | [], _ => by simp [sumL]
  | x :: r, h => by
    have h1 := h x (by simp)
    have h2 := sumL_le f g r fun v hv => h v (by simp [hv])
    simp only [sumL]; omega
theorem sumL_lt (f g : α → Int) : ∀ (l : List α), (∀ v ∈ l, f v ≤ g v) → (∃ v ∈ l, f v < g v) → sumL f l < sumL g l
  | [], _, h => by obtain ⟨v, h, _⟩ := h; simp at h
  | x :: r, h, ⟨v, hv, hlt⟩ => by
    have h1 := h x (by simp)
    have h2 := sumL_le f g r fun v hv => h v (by simp [hv])
    simp only [sumL]
    rcases List.mem_cons.mp hv with rfl | hv
    · omega
    · have h3 := sumL_lt f g r (fun v hv => h v (by simp [hv])) ⟨v, hv, hlt⟩
      omega

/-- a game: its places, who moves, the steps -/
structure Game (α : Type) where
  ps : List α
  ours : α → Bool
  E : α → List (α × Int)
structure Game.Ok (G : Game α) (A : Int) : Prop where
  ne : ∀ v ∈ G.ps, G.E v ≠ []
  inn : ∀ v ∈ G.ps, ∀ e ∈ G.E v, e.1 ∈ G.ps
  lo : ∀ v ∈ G.ps, ∀ e ∈ G.E v, -A ≤ e.2
  hi : ∀ v ∈ G.ps, ∀ e ∈ G.E v, e.2 ≤ A
  pos : 1 ≤ A

/-- one turn of the discounted reckoning, rounded down -/
def turn (G : Game α) (S L : Int) (d : α → Int) (v : α) : Int := opt (G.ours v) ((G.E v).map fun e => (S * e.2 + L * d e.1) / (L + 1))

theorem turn_mono (G : Game α) {A S L : Int} (ok : G.Ok A) (hL : 0 ≤ L) {d d' : α → Int} (h : ∀ v ∈ G.ps, d v ≤ d' v) {v : α} (hv : v ∈ G.ps) : turn G S L d v ≤ turn G S L d' v := by
  refine opt_mono _ _ _ _ (ok.ne v hv) fun e he => ?_
  refine Int.ediv_le_ediv (by omega) ?_
  have := Int.mul_le_mul_of_nonneg_left (h e.1 (ok.inn v hv e he)) hL
  omega
theorem step_bd {A S L a d : Int} (hL : 0 ≤ L) (hS : 0 ≤ S) (h1 : -A ≤ a) (h2 : a ≤ A) (h3 : -(S * A) ≤ d) (h4 : d ≤ S * A) :
    -(S * A) ≤ (S * a + L * d) / (L + 1) ∧ (S * a + L * d) / (L + 1) ≤ S * A := by
  have p1 : S * a ≤ S * A := Int.mul_le_mul_of_nonneg_left h2 hS
  have p2 : S * (-A) ≤ S * a := Int.mul_le_mul_of_nonneg_left h1 hS
  have p3 : L * d ≤ L * (S * A) := Int.mul_le_mul_of_nonneg_left h4 hL
  have p4 : L * (-(S * A)) ≤ L * d := Int.mul_le_mul_of_nonneg_left h3 hL
  constructor
  · refine (Int.le_ediv_iff_mul_le (by omega)).mpr ?_
    grind
  · have : S * a + L * d < (S * A + 1) * (L + 1) := by grind
    have := Int.ediv_lt_of_lt_mul (by omega) this
    omega
theorem turn_bd (G : Game α) {A S L : Int} (ok : G.Ok A) (hL : 0 ≤ L) (hS : 0 ≤ S) {d : α → Int} (h : ∀ v ∈ G.ps, -(S * A) ≤ d v ∧ d v ≤ S * A) {v : α} (hv : v ∈ G.ps) :
    -(S * A) ≤ turn G S L d v ∧ turn G S L d v ≤ S * A := by
  have hm := opt_mem (G.ours v) ((G.E v).map fun e => (S * e.2 + L * d e.1) / (L + 1)) (by simpa using ok.ne v hv)
  obtain ⟨e, he, e1⟩ := List.mem_map.mp hm
  have := h e.1 (ok.inn v hv e he)
  unfold turn
  rw [← e1]
  exact step_bd hL hS (ok.lo v hv e he) (ok.hi v hv e he) this.1 this.2

theorem fix_from (G : Game α) {A S L : Int} (ok : G.Ok A) (hL : 0 ≤ L) (hS : 0 ≤ S) : ∀ (m : Nat) (d : α → Int), (∀ v ∈ G.ps, -(S * A) ≤ d v ∧ d v ≤ S * A) → (∀ v ∈ G.ps, d v ≤ turn G S L d v) →
    (sumL (fun v => S * A - d v) G.ps).toNat ≤ m → ∃ d' : α → Int, (∀ v ∈ G.ps, -(S * A) ≤ d' v ∧ d' v ≤ S * A) ∧ ∀ v ∈ G.ps, turn G S L d' v = d' v := by
  intro m
  induction m with
  | zero =>
    intro d hb hu hm
    refine ⟨d, hb, fun v hv => ?_⟩
    have h1 := hu v hv
    rcases Int.lt_or_eq_of_le h1 with h2 | h2
    · exfalso
      have h3 : sumL (fun v => S * A - turn G S L d v) G.ps < sumL (fun v => S * A - d v) G.ps := sumL_lt _ _ _ (fun u hu' => by have := hu u hu'; show S * A - turn G S L d u ≤ S * A - d u; omega) ⟨v, hv, by show S * A - turn G S L d v < S * A - d v; omega⟩
      have h4 : sumL (fun _ => (0 : Int)) G.ps ≤ sumL (fun v => S * A - turn G S L d v) G.ps := sumL_le _ _ _ fun u hu' => by have := (turn_bd G ok hL hS hb hu').2; show (0 : Int) ≤ S * A - turn G S L d u; omega
      have h5 : sumL (fun _ => (0 : Int)) G.ps = 0 := by
        generalize G.ps = l
        induction l with
        | nil => rfl
        | cons x r ih => simp only [sumL]; omega
      omega
    · exact h2.symm
  | succ m ih =>
    intro d hb hu hm
    by_cases hx : ∃ v ∈ G.ps, d v < turn G S L d v
    · refine ih (turn G S L d) (fun v hv => turn_bd G ok hL hS hb hv) (fun v hv => turn_mono G ok hL hu hv) ?_
      have h3 : sumL (fun v => S * A - turn G S L d v) G.ps < sumL (fun v => S * A - d v) G.ps := sumL_lt _ _ _ (fun u hu' => by have := hu u hu'; show S * A - turn G S L d u ≤ S * A - d u; omega) (by
        obtain ⟨v, hv, h⟩ := hx
        exact ⟨v, hv, by show S * A - turn G S L d v < S * A - d v; omega⟩)
      omega
    · refine ⟨d, hb, fun v hv => ?_⟩
      have h1 := hu v hv
      have h2 : ¬ d v < turn G S L d v := fun h => hx ⟨v, hv, h⟩
      omega
theorem fix (G : Game α) {A S L : Int} (ok : G.Ok A) (hL : 0 ≤ L) (hS : 0 ≤ S) : ∃ d : α → Int, (∀ v ∈ G.ps, -(S * A) ≤ d v ∧ d v ≤ S * A) ∧ ∀ v ∈ G.ps, turn G S L d v = d v := by
  have hSA : 0 ≤ S * A := Int.mul_nonneg hS (by have := ok.pos; omega)
  refine fix_from G ok hL hS _ (fun _ => -(S * A)) (fun v _ => ⟨by show -(S * A) ≤ -(S * A); omega, by show -(S * A) ≤ S * A; omega⟩) (fun v hv => (turn_bd G ok hL hS (fun v _ => ⟨by show -(S * A) ≤ -(S * A); omega, by show -(S * A) ≤ S * A; omega⟩) hv).1) (Nat.le_refl _)

/-! ### steps that go up, that go down -/
def Up (S L : Int) (d : α → Int) (v u : α) (a : Int) : Prop := (L + 1) * d v ≤ S * a + L * d u
def Dn (S L : Int) (d : α → Int) (v u : α) (a : Int) : Prop := S * a + L * d u - L ≤ (L + 1) * d v

theorem fix_steps (G : Game α) {A S L : Int} (ok : G.Ok A) (hL : 0 ≤ L) {d : α → Int} (hf : ∀ v ∈ G.ps, turn G S L d v = d v) {v : α} (hv : v ∈ G.ps) :
    (G.ours v = true → (∀ e ∈ G.E v, Dn S L d v e.1 e.2) ∧ ∃ e ∈ G.E v, Up S L d v e.1 e.2) ∧ (G.ours v = false → (∀ e ∈ G.E v, Up S L d v e.1 e.2) ∧ ∃ e ∈ G.E v, Dn S L d v e.1 e.2) := by
  have hup : ∀ x : Int, d v ≤ x / (L + 1) → (L + 1) * d v ≤ x := fun x h => by
    have h1 := (Int.le_ediv_iff_mul_le (a := d v) (b := x) (c := L + 1) (by omega)).mp h
    rw [Int.mul_comm]; exact h1
  have hdn : ∀ x : Int, x / (L + 1) ≤ d v → x - L ≤ (L + 1) * d v := fun x h => by
    have h1 := Int.lt_ediv_add_one_mul_self x (b := L + 1) (by omega)
    have h2 : (x / (L + 1) + 1) * (L + 1) ≤ (d v + 1) * (L + 1) := Int.mul_le_mul_of_nonneg_right (by omega) (by omega)
    have h3 : (d v + 1) * (L + 1) = (L + 1) * d v + (L + 1) := by rw [Int.add_mul, Int.mul_comm]; omega
    omega
  have e0 := hf v hv
  unfold turn at e0
  have hm := opt_mem (G.ours v) ((G.E v).map fun e => (S * e.2 + L * d e.1) / (L + 1)) (by simpa using ok.ne v hv)
  rw [e0] at hm
  obtain ⟨e1, he1, q1⟩ := List.mem_map.mp hm
  constructor
  · intro ho
    rw [ho] at e0
    refine ⟨fun e he => hdn _ ?_, e1, he1, hup _ ?_⟩
    · have := opt_max _ _ (List.mem_map_of_mem (f := fun e => (S * e.2 + L * d e.1) / (L + 1)) he)
      rw [e0] at this
      exact this
    · rw [q1]; exact Int.le_refl _
  · intro ho
    rw [ho] at e0
    refine ⟨fun e he => hup _ ?_, e1, he1, hdn _ ?_⟩
    · have := opt_min _ _ (List.mem_map_of_mem (f := fun e => (S * e.2 + L * d e.1) / (L + 1)) he)
      rw [e0] at this
      exact this
    · rw [q1]; exact Int.le_refl _

/-! ### walks -/
/-- a walk: so many steps, their sum -/
inductive Wk (R : α → α → Int → Prop) : α → Nat → α → Int → Prop
  | nil (v : α) : Wk R v 0 v 0
  | snoc {v x u : α} {n : Nat} {s a : Int} : Wk R v n x s → R x u a → Wk R v (n + 1) u (s + a)

theorem Wk.mono {R R' : α → α → Int → Prop} (h : ∀ v u a, R v u a → R' v u a) {v u : α} {n : Nat} {s : Int} (w : Wk R v n u s) : Wk R' v n u s := by
  induction w with
  | nil => exact .nil _
  | snoc _ r ih => exact .snoc ih (h _ _ _ r)
theorem Wk.app {R : α → α → Int → Prop} {v x u : α} {n m : Nat} {s t : Int} (w : Wk R v n x s) (w' : Wk R x m u t) : Wk R v (n + m) u (s + t) := by
  induction w' with
  | nil => simpa using w
  | snoc _ r ih =>
    have := Wk.snoc ih r
    rw [Int.add_assoc] at this
    exact this
theorem Wk.cons {R : α → α → Int → Prop} {v x u : α} {m : Nat} {a t : Int} (r : R v x a) (w' : Wk R x m u t) : Wk R v (m + 1) u (a + t) := by
  have := (Wk.snoc (.nil v) r).app w'
  rw [Int.zero_add] at this
  have e : 0 + 1 + m = m + 1 := by omega
  rw [e] at this
  exact this
theorem Wk.cast {R : α → α → Int → Prop} {v u : α} {n m : Nat} {s t : Int} (w : Wk R v n u s) (h1 : n = m) (h2 : s = t) : Wk R v m u t := by subst h1 h2; exact w

section bounds
variable {S L A : Int} {d : α → Int}
theorem up_one (hL : 0 ≤ L) {v u : α} {a : Int} (h1 : -(S * A) ≤ d v) (h2 : S * a ≤ S * A) (r : Up S L d v u a) : L * d v - 2 * (S * A) ≤ L * d u := by
  unfold Up at r
  have : (L + 1) * d v = L * d v + d v := by rw [Int.add_mul, Int.one_mul]
  omega
theorem dn_one (hL : 0 ≤ L) {v u : α} {a : Int} (h1 : d v ≤ S * A) (h2 : -(S * A) ≤ S * a) (r : Dn S L d v u a) : L * d u ≤ L * d v + (2 * (S * A) + L) := by
  unfold Dn at r
  have : (L + 1) * d v = L * d v + d v := by rw [Int.add_mul, Int.one_mul]
  omega
/-- a relation within bounds -/
structure Bd (S A : Int) (d : α → Int) (R : α → α → Int → Prop) : Prop where
  lo : ∀ v u a, R v u a → -(S * A) ≤ d v
  hi : ∀ v u a, R v u a → d v ≤ S * A
  al : ∀ v u a, R v u a → -(S * A) ≤ S * a
  ah : ∀ v u a, R v u a → S * a ≤ S * A

theorem up_far {R : α → α → Int → Prop} (hL : 0 ≤ L) (b : Bd S A d R) (hR : ∀ v u a, R v u a → Up S L d v u a) {v u : α} {n : Nat} {s : Int} (w : Wk R v n u s) : L * d v - n * (2 * (S * A)) ≤ L * d u := by
  induction w with
  | nil => simp
  | @snoc x u n s a w r ih =>
    have h := up_one hL (b.lo _ _ _ r) (b.ah _ _ _ r) (hR _ _ _ r)
    have e : ((n + 1 : Nat) : Int) * (2 * (S * A)) = n * (2 * (S * A)) + 2 * (S * A) := by rw [Int.natCast_add, Int.add_mul]; simp
    omega
theorem dn_far {R : α → α → Int → Prop} (hL : 0 ≤ L) (b : Bd S A d R) (hR : ∀ v u a, R v u a → Dn S L d v u a) {v u : α} {n : Nat} {s : Int} (w : Wk R v n u s) : L * d u ≤ L * d v + n * (2 * (S * A) + L) := by
  induction w with
  | nil => simp
  | @snoc x u n s a w r ih =>
    have h := dn_one hL (b.hi _ _ _ r) (b.al _ _ _ r) (hR _ _ _ r)
    have e : ((n + 1 : Nat) : Int) * (2 * (S * A) + L) = n * (2 * (S * A) + L) + (2 * (S * A) + L) := by rw [Int.natCast_add, Int.add_mul]; simp
    omega
/-- the sum of a walk whose places lie above D -/
theorem up_sum {R : α → α → Int → Prop} (hL : 0 ≤ L) (hS : 0 ≤ S * A) (b : Bd S A d R) (hR : ∀ v u a, R v u a → Up S L d v u a) {v u : α} {n : Nat} {s : Int} (w : Wk R v n u s) (M : Nat) (hM : n ≤ M) :
    n * (L * d v - M * (2 * (S * A))) + L * (L * d v - L * d u) ≤ L * (S * s) := by
  induction w with
  | nil => simp
  | @snoc x u n s a w r ih =>
    have h1 := ih (by omega)
    have h2 := up_far hL b hR w
    have h3 : (n : Int) * (2 * (S * A)) ≤ M * (2 * (S * A)) := Int.mul_le_mul_of_nonneg_right (by omega) (by omega)
    have h4 : (L + 1) * d x ≤ S * a + L * d u := hR _ _ _ r
    have h5 : L * ((L + 1) * d x) ≤ L * (S * a + L * d u) := Int.mul_le_mul_of_nonneg_left h4 hL
    have e : ((n + 1 : Nat) : Int) = (n : Int) + 1 := by omega
    rw [e]
    grind
theorem dn_sum {R : α → α → Int → Prop} (hL : 0 ≤ L) (hS : 0 ≤ S * A) (b : Bd S A d R) (hR : ∀ v u a, R v u a → Dn S L d v u a) {v u : α} {n : Nat} {s : Int} (w : Wk R v n u s) (M : Nat) (hM : n ≤ M) :
    L * (S * s) ≤ n * (L * d v + M * (2 * (S * A) + L) + L * L) + L * (L * d v - L * d u) := by
  induction w with
  | nil => simp
  | @snoc x u n s a w r ih =>
    have h1 := ih (by omega)
    have h2 := dn_far hL b hR w
    have h3 : (n : Int) * (2 * (S * A) + L) ≤ M * (2 * (S * A) + L) := Int.mul_le_mul_of_nonneg_right (by omega) (by omega)
    have h4 : S * a + L * d u - L ≤ (L + 1) * d x := hR _ _ _ r
    have h5 : L * (S * a + L * d u - L) ≤ L * ((L + 1) * d x) := Int.mul_le_mul_of_nonneg_left h4 hL
    have e : ((n + 1 : Nat) : Int) = (n : Int) + 1 := by omega
    rw [e]
    grind
end bounds
end
end GW

namespace GW
section
variable {α : Type} [DecidableEq α]
/-- THE SADDLE: steps that go up and steps that go down; rounds reached by steps up bring no less than rounds reached by steps down -/
theorem saddle (G : Game α) {A : Int} (ok : G.Ok A) (N M : Nat) : ∃ U D : α → α → Int → Prop,
    (∀ v ∈ G.ps, G.ours v = true → (∀ e ∈ G.E v, D v e.1 e.2) ∧ ∃ e ∈ G.E v, U v e.1 e.2) ∧
    (∀ v ∈ G.ps, G.ours v = false → (∀ e ∈ G.E v, U v e.1 e.2) ∧ ∃ e ∈ G.E v, D v e.1 e.2) ∧
    (∀ v u a, U v u a → v ∈ G.ps ∧ (u, a) ∈ G.E v) ∧ (∀ v u a, D v u a → v ∈ G.ps ∧ (u, a) ∈ G.E v) ∧
    ∀ (v w w' : α) (j c j' c' : Nat) (s0 s s0' s' : Int), Wk U v j w s0 → Wk U w c w s → Wk D v j' w' s0' → Wk D w' c' w' s' → c ≤ N → c' ≤ N → j + c ≤ M → j' + c' ≤ M → s' * c ≤ s * c' := by
  have hA := ok.pos
  obtain ⟨L, hLd⟩ : ∃ L : Int, L = (N : Int) * N * (4 * M * A + M + 1) + 1 := ⟨_, rfl⟩
  have hB : 0 ≤ 4 * (M : Int) * A + M + 1 := by
    have : 0 ≤ (M : Int) * A := Int.mul_nonneg (by omega) (by omega)
    grind
  have hL1 : 1 ≤ L := by
    have : 0 ≤ (N : Int) * N * (4 * M * A + M + 1) := Int.mul_nonneg (Int.mul_nonneg (by omega) (by omega)) hB
    omega
  have hL : 0 ≤ L := by omega
  obtain ⟨S, hSd⟩ : ∃ S : Int, S = L * L := ⟨_, rfl⟩
  have hS : 0 ≤ S := by rw [hSd]; exact Int.mul_nonneg hL hL
  have hSA : 0 ≤ S * A := Int.mul_nonneg hS (by omega)
  obtain ⟨d, hb, hf⟩ := fix G ok hL hS
  refine ⟨fun v u a => (v ∈ G.ps ∧ (u, a) ∈ G.E v) ∧ Up S L d v u a, fun v u a => (v ∈ G.ps ∧ (u, a) ∈ G.E v) ∧ Dn S L d v u a, fun v hv ho => ?_, fun v hv ho => ?_, fun _ _ _ h => h.1, fun _ _ _ h => h.1, ?_⟩
  · obtain ⟨h1, e, he, h2⟩ := (fix_steps G ok hL hf hv).1 ho
    exact ⟨fun e he => ⟨⟨hv, he⟩, h1 e he⟩, e, he, ⟨hv, he⟩, h2⟩
  · obtain ⟨h1, e, he, h2⟩ := (fix_steps G ok hL hf hv).2 ho
    exact ⟨fun e he => ⟨⟨hv, he⟩, h1 e he⟩, e, he, ⟨hv, he⟩, h2⟩
  · intro v w w' j c j' c' s0 s s0' s' w1 w2 w3 w4 hc hc' hj hj'
    have bd : ∀ P : α → α → Int → Prop, Bd S A d fun v u a => (v ∈ G.ps ∧ (u, a) ∈ G.E v) ∧ P v u a := fun P => ⟨fun v u a h => (hb v h.1.1).1, fun v u a h => (hb v h.1.1).2,
      fun v u a h => by have := Int.mul_le_mul_of_nonneg_left (ok.lo v h.1.1 _ h.1.2) hS; rw [Int.mul_neg] at this; exact this,
      fun v u a h => Int.mul_le_mul_of_nonneg_left (ok.hi v h.1.1 _ h.1.2) hS⟩
    have u1 := up_far hL (bd _) (fun _ _ _ h => h.2) w1
    have u2 := up_sum hL hSA (bd _) (fun _ _ _ h => h.2) w2 c (Nat.le_refl _)
    have u3 := dn_far hL (bd _) (fun _ _ _ h => h.2) w3
    have u4 := dn_sum hL hSA (bd _) (fun _ _ _ h => h.2) w4 c' (Nat.le_refl _)
    rw [Int.sub_self, Int.mul_zero] at u2 u4
    -- from v
    have hj2 : ((j : Int) + c) * (2 * (S * A)) ≤ M * (2 * (S * A)) := Int.mul_le_mul_of_nonneg_right (by omega) (by omega)
    have hj2' : ((j' : Int) + c') * (2 * (S * A) + L) ≤ M * (2 * (S * A) + L) := Int.mul_le_mul_of_nonneg_right (by omega) (by omega)
    have v2 : (c : Int) * (L * d v - M * (2 * (S * A))) ≤ L * (S * s) := by
      have : (c : Int) * (L * d v - M * (2 * (S * A))) ≤ c * (L * d w - c * (2 * (S * A))) := Int.mul_le_mul_of_nonneg_left (by rw [Int.add_mul] at hj2; omega) (by omega)
      omega
    have v4 : L * (S * s') ≤ c' * (L * d v + M * (2 * (S * A) + L) + L * L) := by
      have : (c' : Int) * (L * d w' + c' * (2 * (S * A) + L) + L * L) ≤ c' * (L * d v + M * (2 * (S * A) + L) + L * L) := Int.mul_le_mul_of_nonneg_left (by rw [Int.add_mul] at hj2'; omega) (by omega)
      omega
    have x2 : (c' : Int) * (c * (L * d v - M * (2 * (S * A)))) ≤ c' * (L * (S * s)) := Int.mul_le_mul_of_nonneg_left v2 (by omega)
    have x4 : (c : Int) * (L * (S * s')) ≤ c * (c' * (L * d v + M * (2 * (S * A) + L) + L * L)) := Int.mul_le_mul_of_nonneg_left v4 (by omega)
    refine Int.not_lt.mp fun hlt => ?_
    have hx : s * c' - s' * c ≤ -1 := by omega
    have hLS : 0 ≤ L * S := Int.mul_nonneg hL hS
    have y1 : (L * S) * (s * c' - s' * c) ≤ (L * S) * (-1) := Int.mul_le_mul_of_nonneg_left hx hLS
    have z1 : (c' : Int) * c * (M * (2 * (S * A)) + M * (2 * (S * A) + L) + L * L) ≥ L * S := by grind
    have hML : (M : Int) * L ≤ M * (L * L) := Int.mul_le_mul_of_nonneg_left (by have := Int.mul_le_mul_of_nonneg_left hL1 hL; omega) (by omega)
    have z2 : (M : Int) * (2 * (S * A)) + M * (2 * (S * A) + L) + L * L ≤ (L * L) * (4 * M * A + M + 1) := by rw [hSd]; grind
    have hcc : (c' : Int) * c ≤ (N : Int) * N := Int.mul_le_mul (by omega) (by omega) (by omega) (by omega)
    have z3 : (c' : Int) * c * (M * (2 * (S * A)) + M * (2 * (S * A) + L) + L * L) ≤ (N * N) * ((L * L) * (4 * M * A + M + 1)) := by
      refine Int.le_trans (Int.mul_le_mul_of_nonneg_left z2 (Int.mul_nonneg (by omega) (by omega))) ?_
      exact Int.mul_le_mul_of_nonneg_right hcc (Int.mul_nonneg (Int.mul_nonneg hL hL) hB)
    have z4 : (N : Int) * N * ((L * L) * (4 * M * A + M + 1)) = (L * L) * (L - 1) := by rw [hLd]; grind
    have z5 : L * S = L * L * L := by rw [hSd]; grind
    have z6 : (L * L) * (L - 1) = L * L * L - L * L := by grind
    have z7 : 0 < L * L := Int.mul_pos (by omega) (by omega)
    omega
end
end GW

namespace GW
/-! ### fractions in lowest terms -/
abbrev Fr := Int × Int
def lowM (t b : Int) : Fr := (t / (Int.gcd t b : Int), b / (Int.gcd t b : Int))
def lessM (a b : Fr) : Bool := decide (a.1 * b.2 < b.1 * a.2)
structure Low (f : Fr) : Prop where
  pos : 0 < f.2
  cop : Int.gcd f.1 f.2 = 1
theorem gcd_pos {t b : Int} (hb : 0 < b) : 0 < Int.gcd t b := Int.gcd_pos_of_ne_zero_right t (by omega)
theorem lowM_low {t b : Int} (hb : 0 < b) : Low (lowM t b) := by
  have hg := gcd_pos (t := t) hb
  refine ⟨?_, Int.gcd_ediv_gcd_ediv_gcd hg⟩
  exact Int.ediv_pos_of_pos_of_dvd hb (by omega) (Int.gcd_dvd_right t b)
theorem lowM_eq {t b : Int} (hb : 0 < b) : (lowM t b).1 * b = t * (lowM t b).2 := by
  have h1 := Int.ediv_mul_cancel (Int.gcd_dvd_left t b)
  have h2 := Int.ediv_mul_cancel (Int.gcd_dvd_right t b)
  show t / (Int.gcd t b : Int) * b = t * (b / (Int.gcd t b : Int))
  generalize hx : t / (Int.gcd t b : Int) = x at *
  generalize hy : b / (Int.gcd t b : Int) = y at *
  generalize (Int.gcd t b : Int) = g at *
  subst h1 h2
  grind
theorem lowM_le {t b : Int} (hb : 0 < b) : (lowM t b).2 ≤ b := Int.ediv_le_self _ (by omega)
theorem Low.eq {a b : Fr} (ha : Low a) (hb : Low b) (h : a.1 * b.2 = b.1 * a.2) : a = b := by
  have hn : a.1.natAbs * b.2.natAbs = b.1.natAbs * a.2.natAbs := by rw [← Int.natAbs_mul, ← Int.natAbs_mul, h]
  have ca : Nat.Coprime a.2.natAbs a.1.natAbs := by
    have := ha.cop
    unfold Int.gcd at this
    exact Nat.Coprime.symm this
  have cb : Nat.Coprime b.2.natAbs b.1.natAbs := by
    have := hb.cop
    unfold Int.gcd at this
    exact Nat.Coprime.symm this
  have d1 : a.2.natAbs ∣ b.2.natAbs := ca.dvd_of_dvd_mul_left ⟨b.1.natAbs, by rw [hn, Nat.mul_comm]⟩
  have d2 : b.2.natAbs ∣ a.2.natAbs := cb.dvd_of_dvd_mul_left ⟨a.1.natAbs, by rw [← hn, Nat.mul_comm]⟩
  have e : a.2.natAbs = b.2.natAbs := Nat.dvd_antisymm d1 d2
  have e2 : a.2 = b.2 := by have := ha.pos; have := hb.pos; omega
  have e1 : a.1 = b.1 := by
    rw [e2] at h
    exact Int.eq_of_mul_eq_mul_right (by have := hb.pos; omega) h
  exact Prod.ext e1 e2
theorem le_cancel {x y c : Int} (hc : 0 < c) (h : x * c ≤ y * c) : x ≤ y := by
  refine Int.not_lt.mp fun hlt => ?_
  have := Int.mul_lt_mul_of_pos_right hlt hc
  omega
/-- at most, as numbers -/
def LE (a b : Fr) : Prop := a.1 * b.2 ≤ b.1 * a.2
theorem LE.rfl {a : Fr} : LE a a := Int.le_refl _
theorem LE.trans {a b c : Fr} (ha : 0 < a.2) (hb : 0 < b.2) (hc : 0 < c.2) (h1 : LE a b) (h2 : LE b c) : LE a c := by
  unfold LE at *
  have x1 : a.1 * b.2 * c.2 ≤ b.1 * a.2 * c.2 := Int.mul_le_mul_of_nonneg_right h1 (by omega)
  have x2 : b.1 * c.2 * a.2 ≤ c.1 * b.2 * a.2 := Int.mul_le_mul_of_nonneg_right h2 (by omega)
  refine le_cancel hb ?_
  grind
theorem Low.le_antisymm {a b : Fr} (ha : Low a) (hb : Low b) (h1 : LE a b) (h2 : LE b a) : a = b := ha.eq hb (by unfold LE at *; omega)
theorem lessM_false {a b : Fr} : lessM a b = false ↔ LE b a := by unfold lessM LE; simp
theorem lessM_true {a b : Fr} : lessM a b = true ↔ ¬ LE b a := by unfold lessM LE; simp
theorem LE.total {a b : Fr} : LE a b ∨ LE b a := by unfold LE; omega
/-- a fraction against the mean of a sum -/
theorem low_le {t b p q : Int} (hb : 0 < b) (hq : 0 < q) (h : t * q ≤ p * b) : LE (lowM t b) (p, q) := by
  have e := lowM_eq (t := t) hb
  have hp := (lowM_low (t := t) hb).pos
  unfold LE
  show (lowM t b).1 * q ≤ p * (lowM t b).2
  refine le_cancel hb ?_
  have h1 : t * q * (lowM t b).2 ≤ p * b * (lowM t b).2 := Int.mul_le_mul_of_nonneg_right h (by omega)
  have h2 : (lowM t b).1 * q * b = t * q * (lowM t b).2 := by grind
  have h3 : p * (lowM t b).2 * b = p * b * (lowM t b).2 := by grind
  omega
theorem le_low {t b p q : Int} (hb : 0 < b) (hq : 0 < q) (h : p * b ≤ t * q) : LE (p, q) (lowM t b) := by
  have e := lowM_eq (t := t) hb
  have hp := (lowM_low (t := t) hb).pos
  unfold LE
  show p * (lowM t b).2 ≤ (lowM t b).1 * q
  refine le_cancel hb ?_
  have h1 : p * b * (lowM t b).2 ≤ t * q * (lowM t b).2 := Int.mul_le_mul_of_nonneg_right h (by omega)
  have h2 : (lowM t b).1 * q * b = t * q * (lowM t b).2 := by grind
  have h3 : p * (lowM t b).2 * b = p * b * (lowM t b).2 := by grind
  omega
theorem low_low {t b p q : Int} (hb : 0 < b) (hq : 0 < q) (h : t * q ≤ p * b) : LE (lowM t b) (lowM p q) := by
  have h1 := low_le (t := t) hb hq h
  refine h1.trans (lowM_low hb).pos hq (lowM_low hq).pos ?_
  exact le_low hq hq (Int.le_refl _)

/-- the greatest of fractions, or the least one -/
def bestM (some : List Fr) (ours : Bool) : Fr := some.foldl (fun f o => if (if ours then lessM f o else lessM o f) then o else f) (some.headD (0, 1))
/-- better (or as good) for a side -/
def Bt (ours : Bool) (a b : Fr) : Prop := if ours then LE a b else LE b a
theorem Bt.rfl {o : Bool} {a : Fr} : Bt o a a := by unfold Bt; cases o <;> exact LE.rfl
theorem Bt.trans {o : Bool} {a b c : Fr} (ha : 0 < a.2) (hb : 0 < b.2) (hc : 0 < c.2) (h1 : Bt o a b) (h2 : Bt o b c) : Bt o a c := by
  unfold Bt at *
  cases o
  · exact LE.trans hc hb ha h2 h1
  · exact LE.trans ha hb hc h1 h2
theorem Low.bt_antisymm {o : Bool} {a b : Fr} (ha : Low a) (hb : Low b) (h1 : Bt o a b) (h2 : Bt o b a) : a = b := by
  unfold Bt at *
  cases o
  · exact ha.le_antisymm hb h2 h1
  · exact ha.le_antisymm hb h1 h2
theorem best_fold (ours : Bool) : ∀ (l : List Fr) (x : Fr), 0 < x.2 → (∀ f ∈ l, 0 < f.2) →
    let r := l.foldl (fun f o => if (if ours then lessM f o else lessM o f) then o else f) x
    (r = x ∨ r ∈ l) ∧ Bt ours x r ∧ ∀ f ∈ l, Bt ours f r
  | [], x, _, _ => ⟨.inl rfl, Bt.rfl, fun _ h => by simp at h⟩
  | y :: l, x, hx, hl => by
    have hy := hl y (by simp)
    have key : ∀ z, (z = x ∨ z = y) → Bt ours x z → Bt ours y z → (let r := l.foldl (fun f o => if (if ours then lessM f o else lessM o f) then o else f) z
      (r = x ∨ r ∈ y :: l) ∧ Bt ours x r ∧ ∀ f ∈ y :: l, Bt ours f r) := fun z hz h1 h2 => by
      have hzp : 0 < z.2 := by rcases hz with rfl | rfl <;> assumption
      obtain ⟨i1, i2, i3⟩ := best_fold ours l z hzp fun f h => hl f (by simp [h])
      have hrp : 0 < (l.foldl (fun f o => if (if ours then lessM f o else lessM o f) then o else f) z).2 := by
        rcases i1 with e | e
        · rw [e]; exact hzp
        · exact hl _ (List.mem_cons_of_mem _ e)
      refine ⟨?_, h1.trans hx hzp hrp i2, fun f hf => ?_⟩
      · rcases i1 with e | e
        · rcases hz with rfl | rfl
          · exact .inl e
          · exact .inr (by rw [e]; simp)
        · exact .inr (List.mem_cons_of_mem _ e)
      · rcases List.mem_cons.mp hf with rfl | hf
        · exact h2.trans hy hzp hrp i2
        · exact i3 f hf
    rw [List.foldl_cons]
    by_cases hc : (if ours then lessM x y else lessM y x) = true
    · rw [if_pos hc]
      refine key y (.inr rfl) ?_ Bt.rfl
      unfold Bt
      cases ours
      · have := lessM_true.mp hc
        rcases LE.total (a := x) (b := y) with h | h
        · exact absurd h this
        · exact h
      · have := lessM_true.mp hc
        rcases LE.total (a := x) (b := y) with h | h
        · exact h
        · exact absurd h this
    · rw [if_neg hc]
      refine key x (.inl rfl) Bt.rfl ?_
      unfold Bt
      cases ours
      · exact lessM_false.mp (by simpa using hc)
      · exact lessM_false.mp (by simpa using hc)
theorem bestM_spec {l : List Fr} (ours : Bool) (hn : l ≠ []) (hl : ∀ f ∈ l, 0 < f.2) : bestM l ours ∈ l ∧ ∀ f ∈ l, Bt ours f (bestM l ours) := by
  cases l with
  | nil => exact absurd rfl hn
  | cons x r =>
    obtain ⟨h1, _, h3⟩ := best_fold ours (x :: r) x (hl x (by simp)) hl
    refine ⟨?_, h3⟩
    rcases h1 with e | e
    · unfold bestM; rw [List.headD_cons, e]; simp
    · exact e
end GW

namespace GW
section
variable {α : Type} [DecidableEq α] {β γ : Type}
/-! ### tables -/
def look (k : α) : List (α × β) → Option β
  | [] => none
  | p :: r => if p.1 = k then some p.2 else look k r
def put (l : List (α × β)) (k : α) (v : β) : List (α × β) := if (l.any fun q => decide (q.1 = k)) = true then l.map (fun q => if q.1 = k then (q.1, v) else q) else l ++ [(k, v)]
theorem look_cons (k : α) (p : α × β) (r : List (α × β)) : look k (p :: r) = if p.1 = k then some p.2 else look k r := rfl
abbrev keys (l : List (α × β)) : List α := l.map (·.1)

theorem look_mem {k : α} {v : β} : ∀ {l : List (α × β)}, look k l = some v → (k, v) ∈ l
  | [], h => by simp [look] at h
  | p :: r, h => by
    unfold look at h
    split at h
    · rename_i e
      have : p.2 = v := Option.some.inj h
      rw [← e, ← this]; simp
    · exact List.mem_cons_of_mem _ (look_mem h)
theorem look_none {k : α} : ∀ {l : List (α × β)}, look k l = none ↔ k ∉ keys l
  | [] => by simp [look]
  | p :: r => by
    unfold look
    by_cases e : p.1 = k
    · rw [if_pos e]; simp [e]
    · rw [if_neg e, look_none (l := r)]
      have : ¬ k = p.1 := fun z => e z.symm
      simp [this]
theorem look_some {k : α} {l : List (α × β)} (h : k ∈ keys l) : ∃ v, look k l = some v := by
  cases e : look k l with
  | none => exact absurd h (look_none.mp e)
  | some v => exact ⟨v, rfl⟩
theorem look_of_mem {k : α} {v : β} : ∀ {l : List (α × β)}, (keys l).Nodup → (k, v) ∈ l → look k l = some v
  | p :: r, hn, h => by
    unfold look
    have hn' : p.1 ∉ keys r ∧ (keys r).Nodup := by simpa using hn
    rcases List.mem_cons.mp h with e | h
    · rw [← e, if_pos rfl]
    · have : ¬ p.1 = k := fun z => hn'.1 (by rw [z]; exact List.mem_map_of_mem (f := (·.1)) h)
      rw [if_neg this]
      exact look_of_mem hn'.2 h
theorem look_map (f : α × β → γ) (k : α) : ∀ (l : List (α × β)), look k (l.map fun p => (p.1, f p)) = (look k l).bind fun v => some (f (k, v))
  | [] => rfl
  | p :: r => by
    rw [List.map_cons]
    unfold look
    by_cases e : p.1 = k
    · rw [if_pos e, if_pos e, ← e]; rfl
    · rw [if_neg e, if_neg e]; exact look_map f k r
theorem look_app {k : α} : ∀ (l m : List (α × β)), look k (l ++ m) = (look k l).or (look k m)
  | [], m => by simp [look]
  | p :: r, m => by
    rw [List.cons_append, look_cons, look_cons]
    by_cases e : p.1 = k
    · rw [if_pos e, if_pos e]; rfl
    · rw [if_neg e, if_neg e]; exact look_app r m
theorem any_key {k : α} {l : List (α × β)} : (l.any fun q => decide (q.1 = k)) = true ↔ k ∈ keys l := by
  rw [List.any_eq_true]
  constructor
  · rintro ⟨q, hq, e⟩
    have : q.1 = k := by simpa using e
    rw [← this]; exact List.mem_map_of_mem (f := (·.1)) hq
  · intro h
    obtain ⟨q, hq, e⟩ := List.mem_map.mp h
    exact ⟨q, hq, by simp [e]⟩
theorem put_new {l : List (α × β)} {k : α} {v : β} (h : k ∉ keys l) : put l k v = l ++ [(k, v)] := by
  unfold put
  rw [if_neg fun e => h (any_key.mp e)]
theorem put_old {l : List (α × β)} {k : α} {v : β} (h : k ∈ keys l) : put l k v = l.map (fun q => if q.1 = k then (q.1, v) else q) := by
  unfold put
  rw [if_pos (any_key.mpr h)]
theorem keys_repl (l : List (α × β)) (k : α) (v : β) : keys (l.map fun q => if q.1 = k then (q.1, v) else q) = keys l := by
  unfold keys
  rw [List.map_map]
  refine List.map_congr_left fun q _ => ?_
  show (if q.1 = k then (q.1, v) else q).1 = q.1
  split <;> rfl
theorem keys_put (l : List (α × β)) (k : α) (v : β) : keys (put l k v) = if k ∈ keys l then keys l else keys l ++ [k] := by
  by_cases h : k ∈ keys l
  · rw [if_pos h, put_old h, keys_repl]
  · rw [if_neg h, put_new h]; simp
theorem nodup_put {l : List (α × β)} {k : α} {v : β} (h : (keys l).Nodup) : (keys (put l k v)).Nodup := by
  rw [keys_put]
  split
  · exact h
  · rename_i hk
    rw [List.nodup_append]
    refine ⟨h, by simp, fun a ha b hb => ?_⟩
    have : b = k := by simpa using hb
    rw [this]; rintro rfl; exact hk ha
theorem look_repl (k j : α) (v : β) : ∀ l : List (α × β), look j (l.map fun q => if q.1 = k then (q.1, v) else q) = if j = k then (look j l).map fun _ => v else look j l
  | [] => by simp [look]
  | p :: r => by
    rw [List.map_cons]
    have ih := look_repl k j v r
    by_cases h : p.1 = k
    · rw [if_pos h]
      by_cases e : p.1 = j
      · unfold look
        rw [if_pos e, if_pos (e.symm.trans h), if_pos e]; rfl
      · unfold look
        rw [if_neg e, if_neg e, ih]
    · rw [if_neg h]
      by_cases e : p.1 = j
      · unfold look
        rw [if_pos e, if_pos e, if_neg fun z => h (e.trans z)]
      · unfold look
        rw [if_neg e, if_neg e, ih]
theorem look_put (l : List (α × β)) (k j : α) (v : β) : look j (put l k v) = if j = k then some v else look j l := by
  by_cases h : k ∈ keys l
  · rw [put_old h, look_repl]
    by_cases e : j = k
    · rw [if_pos e, if_pos e]
      obtain ⟨x, hx⟩ := look_some h
      rw [e, hx]; rfl
    · rw [if_neg e, if_neg e]
  · rw [put_new h, look_app]
    by_cases e : j = k
    · rw [if_pos e, e, look_none.mpr h]
      show look k [(k, v)] = some v
      unfold look
      rw [if_pos rfl]
    · rw [if_neg e]
      have : look j [(k, v)] = none := by
        unfold look
        rw [if_neg fun z => e z.symm]; rfl
      rw [this]
      cases look j l <;> rfl

/-! ### the rows of least sums -/
def relax (acc : List (α × Int)) (o : α) (x : Int) : List (α × Int) := match look o acc with
  | none => put acc o x
  | some y => if x < y then put acc o x else acc
abbrev Steps (α : Type) := List (α × List (α × Int))
def stepsAt (steps : Steps α) (v : α) : List (α × Int) := (look v steps).getD []
def rowNext (steps : Steps α) (row : List (α × Int)) : List (α × Int) := row.foldl (fun acc pm => (stepsAt steps pm.1).foldl (fun acc oa => relax acc oa.1 (pm.2 + oa.2)) acc) []
def rowAt (steps : Steps α) (v : α) : Nat → List (α × Int)
  | 0 => [(v, 0)]
  | k + 1 => rowNext steps (rowAt steps v k)
abbrev stepsR (steps : Steps α) : α → α → Int → Prop := fun v u a => (u, a) ∈ stepsAt steps v

structure IsMin (acc : List (α × Int)) (S : α → Int → Prop) : Prop where
  nd : (keys acc).Nodup
  hit : ∀ u x, look u acc = some x → S u x ∧ ∀ x', S u x' → x ≤ x'
  miss : ∀ u, look u acc = none → ∀ x, ¬ S u x
theorem IsMin.congr {acc : List (α × Int)} {S S' : α → Int → Prop} (h : IsMin acc S) (e : ∀ u x, S u x ↔ S' u x) : IsMin acc S' :=
  ⟨h.nd, fun u x q => ⟨(e u x).mp (h.hit u x q).1, fun x' z => (h.hit u x q).2 x' ((e u x').mpr z)⟩, fun u q x z => h.miss u q x ((e u x).mpr z)⟩
theorem IsMin.relax {acc : List (α × Int)} {S : α → Int → Prop} (h : IsMin acc S) (o : α) (y : Int) : IsMin (relax acc o y) fun u x => S u x ∨ (u = o ∧ x = y) := by
  have hput : (∀ x, S o x → y ≤ x) → IsMin (put acc o y) fun u x => S u x ∨ (u = o ∧ x = y) := fun hy => by
    refine ⟨nodup_put h.nd, fun u x q => ?_, fun u q x z => ?_⟩
    · rw [look_put] at q
      by_cases e : u = o
      · rw [if_pos e] at q
        cases q
        refine ⟨.inr ⟨e, rfl⟩, fun x' z => ?_⟩
        rcases z with z | ⟨_, z⟩
        · rw [e] at z; exact hy x' z
        · omega
      · rw [if_neg e] at q
        obtain ⟨a, b⟩ := h.hit u x q
        refine ⟨.inl a, fun x' z => ?_⟩
        rcases z with z | ⟨z, _⟩
        · exact b x' z
        · exact absurd z e
    · rw [look_put] at q
      by_cases e : u = o
      · rw [if_pos e] at q; cases q
      · rw [if_neg e] at q
        rcases z with z | ⟨z, _⟩
        · exact h.miss u q x z
        · exact absurd z e
  unfold GW.relax
  cases e : look o acc with
  | none => exact hput fun x z => absurd z (h.miss o e x)
  | some x =>
    show IsMin (if y < x then put acc o y else acc) _
    obtain ⟨a, b⟩ := h.hit o x e
    by_cases hlt : y < x
    · rw [if_pos hlt]
      exact hput fun x' z => by have := b x' z; omega
    · rw [if_neg hlt]
      refine ⟨h.nd, fun u x' q => ?_, fun u q x' z => ?_⟩
      · obtain ⟨c, d⟩ := h.hit u x' q
        refine ⟨.inl c, fun x'' z => ?_⟩
        rcases z with z | ⟨rfl, rfl⟩
        · exact d x'' z
        · rw [e] at q; cases q; omega
      · rcases z with z | ⟨rfl, _⟩
        · exact h.miss u q x' z
        · rw [e] at q; cases q
theorem IsMin.relaxAll (m : Int) : ∀ (l : List (α × Int)) {acc : List (α × Int)} {S : α → Int → Prop}, IsMin acc S →
    IsMin (l.foldl (fun acc oa => GW.relax acc oa.1 (m + oa.2)) acc) fun u x => S u x ∨ ∃ oa ∈ l, u = oa.1 ∧ x = m + oa.2
  | [], acc, S, h => h.congr fun u x => by simp
  | p :: r, acc, S, h => by
    rw [List.foldl_cons]
    refine (IsMin.relaxAll m r (h.relax p.1 (m + p.2))).congr fun u x => ?_
    constructor
    · rintro ((a | a) | ⟨oa, b, c⟩)
      · exact .inl a
      · exact .inr ⟨p, by simp, a⟩
      · exact .inr ⟨oa, by simp [b], c⟩
    · rintro (a | ⟨oa, b, c⟩)
      · exact .inl (.inl a)
      · rcases List.mem_cons.mp b with rfl | b
        · exact .inl (.inr c)
        · exact .inr ⟨oa, b, c⟩
theorem IsMin.nextAll (steps : Steps α) : ∀ (row : List (α × Int)) {acc : List (α × Int)} {S : α → Int → Prop}, IsMin acc S →
    IsMin (row.foldl (fun acc pm => (stepsAt steps pm.1).foldl (fun acc oa => GW.relax acc oa.1 (pm.2 + oa.2)) acc) acc) fun u x => S u x ∨ ∃ pm ∈ row, ∃ oa ∈ stepsAt steps pm.1, u = oa.1 ∧ x = pm.2 + oa.2
  | [], acc, S, h => h.congr fun u x => by simp
  | p :: r, acc, S, h => by
    rw [List.foldl_cons]
    refine (IsMin.nextAll steps r (h.relaxAll p.2 (stepsAt steps p.1))).congr fun u x => ?_
    constructor
    · rintro ((a | a) | ⟨oa, b, c⟩)
      · exact .inl a
      · exact .inr ⟨p, by simp, a⟩
      · exact .inr ⟨oa, by simp [b], c⟩
    · rintro (a | ⟨oa, b, c⟩)
      · exact .inl (.inl a)
      · rcases List.mem_cons.mp b with rfl | b
        · exact .inl (.inr c)
        · exact .inr ⟨oa, b, c⟩
theorem IsMin.walks {steps : Steps α} {v : α} {k : Nat} {acc : List (α × Int)} (h : IsMin acc fun u x => False ∨ ∃ pm ∈ rowAt steps v k, ∃ oa ∈ stepsAt steps pm.1, u = oa.1 ∧ x = pm.2 + oa.2) (ih : IsMin (rowAt steps v k) fun u s => Wk (stepsR steps) v k u s) :
      IsMin acc fun u s => Wk (stepsR steps) v (k + 1) u s := by
  have up : ∀ u x, (False ∨ ∃ pm ∈ rowAt steps v k, ∃ oa ∈ stepsAt steps pm.1, u = oa.1 ∧ x = pm.2 + oa.2) → Wk (stepsR steps) v (k + 1) u x := by
    rintro u x (f | ⟨⟨p, m⟩, h1, ⟨o, a⟩, h2, rfl, rfl⟩)
    · exact f.elim
    · exact .snoc (ih.hit p m (look_of_mem ih.nd h1)).1 h2
  have dn : ∀ u x, Wk (stepsR steps) v (k + 1) u x → ∃ x' ≤ x, (False ∨ ∃ pm ∈ rowAt steps v k, ∃ oa ∈ stepsAt steps pm.1, u = oa.1 ∧ x' = pm.2 + oa.2) := by
    intro u x z
    cases z with
    | @snoc p _ _ s a w r =>
      cases e : look p (rowAt steps v k) with
      | none => exact absurd w (ih.miss p e s)
      | some m => exact ⟨m + a, by have := (ih.hit p m e).2 s w; omega, .inr ⟨(p, m), look_mem e, (u, a), r, rfl, rfl⟩⟩
  refine ⟨h.nd, fun u x q => ?_, fun u q x z => ?_⟩
  · obtain ⟨a, b⟩ := h.hit u x q
    refine ⟨up u x a, fun x' z => ?_⟩
    obtain ⟨x'', h1, h2⟩ := dn u x' z
    have := b x'' h2
    omega
  · obtain ⟨x'', h1, h2⟩ := dn u x z
    exact h.miss u q x'' h2
theorem row_min (steps : Steps α) (v : α) : ∀ k, IsMin (rowAt steps v k) fun u s => Wk (stepsR steps) v k u s
  | 0 => by
    refine ⟨by simp [rowAt], fun u x q => ?_, fun u q x z => ?_⟩
    · have hm := look_mem q
      have e : (u, x) = (v, 0) := by simpa [rowAt] using hm
      injection e with e1 e2
      subst e1 e2
      refine ⟨.nil _, fun x' z => ?_⟩
      cases z with
      | nil => omega
    · have := look_none.mp q
      cases z with
      | nil => exact this (by simp [rowAt])
  | k + 1 => by
    have ih := row_min steps v k
    refine (IsMin.nextAll steps (rowAt steps v k) (acc := []) (S := fun _ _ => False) ⟨by simp, fun u x q => by simp [look] at q, fun _ _ _ z => z⟩).walks ih
/-! ### a round in a long walk -/
theorem round_in {R : α → α → Int → Prop} (ps : List α) {v : α} (hv : v ∈ ps) (hR : ∀ x u a, R x u a → u ∈ ps) {n : Nat} {u : α} {s : Int} (w : Wk R v n u s) :
    (∃ (i c m : Nat) (x : α) (s1 s2 s3 : Int), i + c + m = n ∧ 1 ≤ c ∧ c ≤ ps.length ∧ i + c ≤ n ∧ s1 + s2 + s3 = s ∧ Wk R v i x s1 ∧ Wk R x c x s2 ∧ Wk R x m u s3) ∨
    ∃ vs : List α, vs.Nodup ∧ vs.length = n + 1 ∧ (∀ x ∈ vs, x ∈ ps) ∧ ∀ x ∈ vs, ∃ (i : Nat) (s1 s2 : Int), i ≤ n ∧ s1 + s2 = s ∧ Wk R v i x s1 ∧ Wk R x (n - i) u s2 := by
  induction w with
  | nil =>
    refine .inr ⟨[v], by simp, rfl, by simpa using hv, fun x hx => ?_⟩
    have : x = v := by simpa using hx
    subst this
    exact ⟨0, 0, 0, Nat.le_refl _, rfl, .nil _, .nil _⟩
  | @snoc x u n s a w r ih =>
    rcases ih with ⟨i, c, m, y, s1, s2, s3, h1, h2, h3, h4, h5, w1, w2, w3⟩ | ⟨vs, h1, h2, h3, h4⟩
    · exact .inl ⟨i, c, m + 1, y, s1, s2, s3 + a, by omega, h2, h3, by omega, by omega, w1, w2, .snoc w3 r⟩
    · by_cases hu : u ∈ vs
      · obtain ⟨i, s1, s2, g1, g2, w1, w2⟩ := h4 u hu
        have hl : vs.length ≤ ps.length := h1.length_le_of_subset h3
        exact .inl ⟨i, n - i + 1, 0, u, s1, s2 + a, 0, by omega, by omega, by omega, by omega, by omega, w1, .snoc w2 r, .nil _⟩
      · refine .inr ⟨vs ++ [u], ?_, by simp [h2], ?_, ?_⟩
        · rw [List.nodup_append]
          refine ⟨h1, by simp, fun a ha b hb => ?_⟩
          have : b = u := by simpa using hb
          rw [this]; rintro rfl; exact hu ha
        · intro y hy
          rcases List.mem_append.mp hy with hy | hy
          · exact h3 y hy
          · have : y = u := by simpa using hy
            rw [this]; exact hR x u a r
        · intro y hy
          rcases List.mem_append.mp hy with hy | hy
          · obtain ⟨i, s1, s2, g1, g2, w1, w2⟩ := h4 y hy
            have e : n + 1 - i = n - i + 1 := by omega
            exact ⟨i, s1, s2 + a, by omega, by omega, w1, by rw [e]; exact .snoc w2 r⟩
          · have : y = u := by simpa using hy
            rw [this]
            exact ⟨n + 1, s + a, 0, Nat.le_refl _, by omega, .snoc w r, by rw [Nat.sub_self]; exact .nil _⟩
theorem round_long {R : α → α → Int → Prop} (ps : List α) {v : α} (hv : v ∈ ps) (hR : ∀ x u a, R x u a → u ∈ ps) {n : Nat} (hn : ps.length ≤ n) {u : α} {s : Int} (w : Wk R v n u s) :
    ∃ (i c m : Nat) (x : α) (s1 s2 s3 : Int), i + c + m = n ∧ 1 ≤ c ∧ c ≤ ps.length ∧ i + c ≤ n ∧ s1 + s2 + s3 = s ∧ Wk R v i x s1 ∧ Wk R x c x s2 ∧ Wk R x m u s3 := by
  rcases round_in ps hv hR w with h | ⟨vs, h1, h2, h3, _⟩
  · exact h
  · have := h1.length_le_of_subset h3
    omega
end
end GW

namespace GW
section
variable {α : Type} [DecidableEq α]
/-! ### the least round -/
def better (w : Option Fr) (one : Fr) : Option Fr := match w with
  | none => some one
  | some w' => if lessM w' one then some one else some w'
def worstM (rows : Nat → List (α × Int)) (many : Nat) (u : α) (much : Int) : Option Fr := (List.range many).foldl (fun w k => match look u (rows k) with
  | none => w
  | some x => better w (lowM (much - x) ((many : Int) - k))) none
def lesser (b w : Option Fr) : Option Fr := match b with
  | none => w
  | some b' => match w with
    | none => some b'
    | some w' => if lessM w' b' then some w' else some b'
def leastM (steps : Steps α) (v : α) : Option Fr := (rowAt steps v steps.length).foldl (fun b pm => lesser b (worstM (rowAt steps v) steps.length pm.1 pm.2)) none

theorem better_spec (w : Option Fr) (one : Fr) : ∃ r, better w one = some r ∧ LE one r ∧ (∀ w', w = some w' → LE w' r) ∧ (r = one ∨ w = some r) := by
  unfold better
  cases w with
  | none => exact ⟨one, rfl, LE.rfl, (fun _ h => by cases h), .inl rfl⟩
  | some w' =>
    show ∃ r, (if lessM w' one then some one else some w') = some r ∧ _
    by_cases h : lessM w' one = true
    · rw [if_pos h]
      refine ⟨one, rfl, LE.rfl, fun x hx => ?_, .inl rfl⟩
      cases hx
      have := lessM_true.mp h
      rcases LE.total (a := w') (b := one) with q | q
      · exact q
      · exact absurd q this
    · rw [if_neg h]
      refine ⟨w', rfl, lessM_false.mp (by simpa using h), fun x hx => ?_, .inr rfl⟩
      cases hx; exact LE.rfl
theorem lesser_spec (b : Option Fr) (w : Fr) : ∃ r, lesser b (some w) = some r ∧ LE r w ∧ (∀ b', b = some b' → LE r b') ∧ (r = w ∨ b = some r) := by
  unfold lesser
  cases b with
  | none => exact ⟨w, rfl, LE.rfl, (fun _ h => by cases h), .inl rfl⟩
  | some b' =>
    show ∃ r, (if lessM w b' then some w else some b') = some r ∧ _
    by_cases h : lessM w b' = true
    · rw [if_pos h]
      refine ⟨w, rfl, LE.rfl, fun x hx => ?_, .inl rfl⟩
      cases hx
      have := lessM_true.mp h
      rcases LE.total (a := w) (b := b') with q | q
      · exact q
      · exact absurd q this
    · rw [if_neg h]
      refine ⟨b', rfl, lessM_false.mp (by simpa using h), fun x hx => ?_, .inr rfl⟩
      cases hx; exact LE.rfl

/-- the greatest over the earlier rows -/
theorem worst_upto (rows : Nat → List (α × Int)) (many : Nat) (u : α) (much : Int) : ∀ n ≤ many,
    let w := (List.range n).foldl (fun w k => match look u (rows k) with
      | none => w
      | some x => better w (lowM (much - x) ((many : Int) - k))) none
    (∀ k < n, ∀ x, look u (rows k) = some x → ∃ r, w = some r ∧ LE (lowM (much - x) ((many : Int) - k)) r) ∧ (∀ r, w = some r → Low r ∧ ∃ k < n, ∃ x, look u (rows k) = some x ∧ r = lowM (much - x) ((many : Int) - k))
  | 0, _ => ⟨fun k h => absurd h (Nat.not_lt_zero k), fun r h => by cases h⟩
  | n + 1, hn => by
    obtain ⟨i1, i2⟩ := worst_upto rows many u much n (by omega)
    intro w
    have ew : w = (match look u (rows n) with
      | none => ((List.range n).foldl (fun w k => match look u (rows k) with
          | none => w
          | some x => better w (lowM (much - x) ((many : Int) - k))) none)
      | some x => better ((List.range n).foldl (fun w k => match look u (rows k) with
          | none => w
          | some x => better w (lowM (much - x) ((many : Int) - k))) none) (lowM (much - x) ((many : Int) - n))) := by
      show (List.range (n + 1)).foldl _ none = _
      rw [List.range_succ, List.foldl_append, List.foldl_cons, List.foldl_nil]
    generalize ((List.range n).foldl (fun w k => match look u (rows k) with
          | none => w
          | some x => better w (lowM (much - x) ((many : Int) - k))) none) = w0 at i1 i2 ew
    cases e : look u (rows n) with
    | none =>
      rw [e] at ew
      have ew' : w = w0 := ew
      rw [ew']
      refine ⟨fun k hk x hx => ?_, fun r hr => ?_⟩
      · rcases Nat.lt_or_eq_of_le (Nat.le_of_lt_succ hk) with h | h
        · exact i1 k h x hx
        · rw [h, e] at hx; cases hx
      · obtain ⟨a, k, b, c⟩ := i2 r hr
        exact ⟨a, k, by omega, c⟩
    | some y =>
      rw [e] at ew
      have ew' : w = better w0 (lowM (much - y) ((many : Int) - n)) := ew
      obtain ⟨r, h1, h2, h3, h4⟩ := better_spec w0 (lowM (much - y) ((many : Int) - n))
      have hl : Low (lowM (much - y) ((many : Int) - n)) := lowM_low (by omega)
      have hr : Low r := by
        rcases h4 with h4 | h4
        · rw [h4]; exact hl
        · exact (i2 r h4).1
      rw [ew', h1]
      refine ⟨fun k hk x hx => ⟨r, rfl, ?_⟩, fun r' hr' => ?_⟩
      · rcases Nat.lt_or_eq_of_le (Nat.le_of_lt_succ hk) with h | h
        · obtain ⟨r0, e0, l0⟩ := i1 k h x hx
          exact l0.trans (lowM_low (by omega)).pos (i2 r0 e0).1.pos hr.pos (h3 r0 e0)
        · rw [h, e] at hx
          cases hx
          rw [h]; exact h2
      · cases hr'
        refine ⟨hr, ?_⟩
        rcases h4 with h4 | h4
        · exact ⟨n, by omega, y, e, h4⟩
        · obtain ⟨_, k, b, c⟩ := i2 r h4
          exact ⟨k, by omega, c⟩
theorem worst_spec (rows : Nat → List (α × Int)) (many : Nat) (u : α) (much : Int) :
    (∀ k < many, ∀ x, look u (rows k) = some x → ∃ r, worstM rows many u much = some r ∧ LE (lowM (much - x) ((many : Int) - k)) r) ∧
    (∀ r, worstM rows many u much = some r → Low r ∧ ∃ k < many, ∃ x, look u (rows k) = some x ∧ r = lowM (much - x) ((many : Int) - k)) := worst_upto rows many u much many (Nat.le_refl _)

theorem least_fold (f : α × Int → Option Fr) : ∀ (l : List (α × Int)) (b : Option Fr), (∀ pm ∈ l, ∃ w, f pm = some w ∧ Low w) → (∀ r, b = some r → Low r) → (b = none → l ≠ []) →
    ∃ r, l.foldl (fun b pm => lesser b (f pm)) b = some r ∧ Low r ∧ (b = some r ∨ ∃ pm ∈ l, f pm = some r) ∧ (∀ b', b = some b' → LE r b') ∧ ∀ pm ∈ l, ∀ w, f pm = some w → LE r w
  | [], b, _, hb, hn => by
    cases b with
    | none => exact absurd rfl (hn rfl)
    | some r => exact ⟨r, rfl, hb r rfl, .inl rfl, fun b' h => by cases h; exact LE.rfl, fun _ h => by simp at h⟩
  | pm :: l, b, hf, hb, _ => by
    rw [List.foldl_cons]
    obtain ⟨w, e, hw⟩ := hf pm (by simp)
    rw [e]
    obtain ⟨r0, h1, h2, h3, h4⟩ := lesser_spec b w
    rw [h1]
    have hr0 : Low r0 := by
      rcases h4 with h4 | h4
      · rw [h4]; exact hw
      · exact hb r0 h4
    obtain ⟨r, g1, g2, g3, g4, g5⟩ := least_fold f l (some r0) (fun p hp => hf p (by simp [hp])) (fun r h => by cases h; exact hr0) (fun h => by cases h)
    refine ⟨r, g1, g2, ?_, fun b' hb' => ?_, fun p hp w' hw' => ?_⟩
    · rcases g3 with g3 | ⟨p, hp, g3⟩
      · cases g3
        rcases h4 with h4 | h4
        · exact .inr ⟨pm, by simp, by rw [e, h4]⟩
        · exact .inl h4
      · exact .inr ⟨p, by simp [hp], g3⟩
    · exact (g4 r0 rfl).trans g2.pos hr0.pos (hb b' hb').pos (h3 b' hb')
    · rcases List.mem_cons.mp hp with rfl | hp
      · rw [e] at hw'
        cases hw'
        exact (g4 r0 rfl).trans g2.pos hr0.pos hw.pos h2
      · exact g5 p hp w' hw'

/-- what is asked of the steps -/
structure StepsOk (steps : Steps α) (v : α) : Prop where
  inn : v ∈ keys steps
  clo : ∀ x u a, stepsR steps x u a → u ∈ keys steps
  ne : ∀ x ∈ keys steps, stepsAt steps x ≠ []
section
variable {steps : Steps α} {v : α} (ok : StepsOk steps v)
include ok
theorem walk_on : ∀ n, ∃ u s, Wk (stepsR steps) v n u s ∧ u ∈ keys steps
  | 0 => ⟨v, 0, .nil _, ok.inn⟩
  | n + 1 => by
    obtain ⟨u, s, w, hu⟩ := walk_on n
    obtain ⟨⟨o, a⟩, r, e⟩ := List.exists_cons_of_ne_nil (ok.ne u hu)
    have hr : stepsR steps u o a := by show (o, a) ∈ stepsAt steps u; rw [e]; simp
    exact ⟨o, s + a, .snoc w hr, ok.clo _ _ _ hr⟩
theorem row_ne (n : Nat) : rowAt steps v n ≠ [] := fun e => by
  obtain ⟨u, s, w, _⟩ := walk_on ok n
  exact (row_min steps v n).miss u (by rw [e]; rfl) s w
theorem row_keys (n : Nat) : ∀ pm ∈ rowAt steps v n, pm.1 ∈ keys steps := fun ⟨u, s⟩ h => by
  have h0 := ((row_min steps v n).hit u s (look_of_mem (row_min steps v n).nd h)).1
  cases h0 with
  | nil => exact ok.inn
  | snoc _ r => exact ok.clo _ _ _ r
theorem keys_len : (keys steps).length = steps.length := by simp
theorem worst_some {pm : α × Int} (h : pm ∈ rowAt steps v steps.length) : ∃ w, worstM (rowAt steps v) steps.length pm.1 pm.2 = some w ∧ Low w := by
  have h0 := ((row_min steps v steps.length).hit pm.1 pm.2 (look_of_mem (row_min steps v steps.length).nd h)).1
  obtain ⟨i, c, m, x, s1, s2, s3, g1, g2, g3, g4, g5, w1, w2, w3⟩ := round_long (keys steps) ok.inn ok.clo (Nat.le_of_eq (keys_len ok)) h0
  obtain ⟨W1, W2⟩ := worst_spec (rowAt steps v) steps.length pm.1 pm.2
  cases e : look pm.1 (rowAt steps v (i + m)) with
  | none => exact absurd (w1.app w3) ((row_min steps v (i + m)).miss pm.1 e _)
  | some y =>
    obtain ⟨r, hr, _⟩ := W1 (i + m) (by omega) y e
    exact ⟨r, hr, (W2 r hr).1⟩
theorem least_some : ∃ r, leastM steps v = some r ∧ Low r ∧ (∃ pm ∈ rowAt steps v steps.length, worstM (rowAt steps v) steps.length pm.1 pm.2 = some r) ∧ ∀ pm ∈ rowAt steps v steps.length, ∀ w, worstM (rowAt steps v) steps.length pm.1 pm.2 = some w → LE r w := by
  obtain ⟨r, h1, h2, h3, _, h5⟩ := least_fold (fun pm => worstM (rowAt steps v) steps.length pm.1 pm.2) (rowAt steps v steps.length) none (fun pm h => worst_some ok h) (fun _ h => by cases h) (fun _ => row_ne ok _)
  refine ⟨r, h1, h2, ?_, h5⟩
  rcases h3 with h3 | h3
  · cases h3
  · exact h3
/-- no less than p / q, if no round in reach is less -/
theorem karp_ge {p q : Int} (hq : 0 < q) (h : ∀ (i c : Nat) (x : α) (s1 s2 : Int), Wk (stepsR steps) v i x s1 → Wk (stepsR steps) x c x s2 → 1 ≤ c → c ≤ steps.length → i + c ≤ steps.length → p * c ≤ s2 * q) :
    ∃ r, leastM steps v = some r ∧ Low r ∧ LE (p, q) r := by
  obtain ⟨r, h1, h2, ⟨pm, hpm, hw⟩, _⟩ := least_some ok
  refine ⟨r, h1, h2, ?_⟩
  have h0 := ((row_min steps v steps.length).hit pm.1 pm.2 (look_of_mem (row_min steps v steps.length).nd hpm)).1
  obtain ⟨i, c, m, x, s1, s2, s3, g1, g2, g3, g4, g5, w1, w2, w3⟩ := round_long (keys steps) ok.inn ok.clo (Nat.le_of_eq (keys_len ok)) h0
  obtain ⟨W1, _⟩ := worst_spec (rowAt steps v) steps.length pm.1 pm.2
  rw [keys_len ok] at g3
  cases e : look pm.1 (rowAt steps v (i + m)) with
  | none => exact absurd (w1.app w3) ((row_min steps v (i + m)).miss pm.1 e _)
  | some y =>
    obtain ⟨r', hr', l'⟩ := W1 (i + m) (by omega) y e
    rw [hw] at hr'
    cases hr'
    have hy := ((row_min steps v (i + m)).hit pm.1 y e).2 _ (w1.app w3)
    have hcc : ((steps.length : Nat) : Int) - ((i + m : Nat) : Int) = c := by omega
    rw [hcc] at l'
    refine LE.trans hq (lowM_low (by omega)).pos h2.pos (le_low (by omega) hq ?_) l'
    have k1 := h i c x s1 s2 w1 w2 g2 g3 (by omega)
    have k2 : s2 * q ≤ (pm.2 - y) * q := Int.mul_le_mul_of_nonneg_right (by omega) (by omega)
    omega
omit ok in
theorem rep {R : α → α → Int → Prop} {x : α} {c : Nat} {s : Int} (w : Wk R x c x s) : ∀ n : Nat, Wk R x (n * c) x (n * s)
  | 0 => by simpa using Wk.nil x
  | n + 1 => by
    refine ((rep w n).app w).cast (by rw [Nat.add_mul]; omega) ?_
    have e : ((n + 1 : Nat) : Int) = (n : Int) + 1 := by omega
    rw [e, Int.add_mul]; omega
omit ok in
theorem least_of {P : Nat → Int → Prop} {N : Nat} (F : Nat → Int) (h : ∃ k, k < N ∧ ∃ x, P k x) (hm : ∀ k x, P k x → ∃ y, P k y ∧ ∀ z, P k z → y ≤ z) (g : Nat → Int → Int) (hg : ∀ k x y, x ≤ y → g k x ≤ g k y) :
    ∃ k, k < N ∧ ∃ x, P k x ∧ ∀ k' x', k' < N → P k' x' → g k x ≤ g k' x' := by
  induction N with
  | zero => obtain ⟨k, hk, _⟩ := h; omega
  | succ N ih =>
    by_cases h' : ∃ k, k < N ∧ ∃ x, P k x
    · obtain ⟨k, hk, x, hx, hmin⟩ := ih h'
      by_cases hN : ∃ x, P N x
      · obtain ⟨x0, hx0⟩ := hN
        obtain ⟨y, hy, hym⟩ := hm N x0 hx0
        by_cases hc : g k x ≤ g N y
        · refine ⟨k, by omega, x, hx, fun k' x' hk' hx' => ?_⟩
          rcases Nat.lt_or_eq_of_le (Nat.le_of_lt_succ hk') with q | q
          · exact hmin k' x' q hx'
          · subst q
            have := hg k' y x' (hym x' hx')
            omega
        · refine ⟨N, by omega, y, hy, fun k' x' hk' hx' => ?_⟩
          rcases Nat.lt_or_eq_of_le (Nat.le_of_lt_succ hk') with q | q
          · have := hmin k' x' q hx'; omega
          · subst q; exact hg k' y x' (hym x' hx')
      · refine ⟨k, by omega, x, hx, fun k' x' hk' hx' => ?_⟩
        rcases Nat.lt_or_eq_of_le (Nat.le_of_lt_succ hk') with q | q
        · exact hmin k' x' q hx'
        · subst q; exact absurd ⟨x', hx'⟩ hN
    · obtain ⟨k, hk, x, hx⟩ := h
      have hkN : k = N := by
        rcases Nat.lt_or_eq_of_le (Nat.le_of_lt_succ hk) with q | q
        · exact absurd ⟨k, q, x, hx⟩ h'
        · exact q
      subst hkN
      obtain ⟨y, hy, hym⟩ := hm k x hx
      refine ⟨k, by omega, y, hy, fun k' x' hk' hx' => ?_⟩
      rcases Nat.lt_or_eq_of_le (Nat.le_of_lt_succ hk') with q | q
      · exact absurd ⟨k', q, x', hx'⟩ h'
      · subst q; exact hg k' y x' (hym x' hx')
/-- no more than the mean of a round in reach -/
theorem karp_le {r : Fr} (hr : leastM steps v = some r) {i c : Nat} {x : α} {s1 s2 : Int} (w1 : Wk (stepsR steps) v i x s1) (w2 : Wk (stepsR steps) x c x s2) (hi : i < steps.length) (hc : 1 ≤ c) : LE r (s2, (c : Int)) := by
  obtain ⟨r', h1, h2, _, h4⟩ := least_some ok
  rw [hr] at h1
  cases h1
  refine Classical.byContradiction fun hcon => ?_
  have hlt : s2 * r.2 < r.1 * c := by unfold LE at hcon; exact Int.not_le.mp hcon
  -- at the last row each place has an earlier, better sum
  have base : ∀ u s, Wk (stepsR steps) v steps.length u s → ∃ k s', k < steps.length ∧ Wk (stepsR steps) v k u s' ∧ s' * c - s2 * k < s * c - s2 * steps.length := by
    intro u s w
    cases e : look u (rowAt steps v steps.length) with
    | none => exact absurd w ((row_min steps v steps.length).miss u e s)
    | some F =>
      have hF := (row_min steps v steps.length).hit u F e
      obtain ⟨wf, hwf, hlow⟩ := worst_some ok (look_mem e)
      obtain ⟨_, W2⟩ := worst_spec (rowAt steps v) steps.length u F
      obtain ⟨_, k, hk, y, hy, rfl⟩ := W2 wf hwf
      have hle := h4 (u, F) (look_mem e) _ hwf
      have hY := (row_min steps v k).hit u y hy
      refine ⟨k, y, hk, hY.1, ?_⟩
      have hFs := hF.2 s w
      -- (F - y) / (N - k) ≥ r > s2 / c
      have hn : (0 : Int) < (steps.length : Int) - k := by omega
      have q1 : LE r (F - y, (steps.length : Int) - k) := hle.trans h2.pos hlow.pos hn (low_le hn hn (Int.le_refl _))
      unfold LE at q1
      have q1' : r.1 * ((steps.length : Int) - k) ≤ (F - y) * r.2 := q1
      have q2 : s2 * r.2 * ((steps.length : Int) - k) < r.1 * c * ((steps.length : Int) - k) := Int.mul_lt_mul_of_pos_right hlt hn
      have q3 : r.1 * ((steps.length : Int) - k) * c ≤ (F - y) * r.2 * c := Int.mul_le_mul_of_nonneg_right q1' (by omega)
      have q4 : r.1 * c * ((steps.length : Int) - k) = r.1 * ((steps.length : Int) - k) * c := by grind
      have q5 : s2 * ((steps.length : Int) - k) < (F - y) * c := by
        refine Int.not_le.mp fun hcon2 => ?_
        have q6 : (F - y) * c * r.2 ≤ s2 * ((steps.length : Int) - k) * r.2 := Int.mul_le_mul_of_nonneg_right hcon2 (by have := h2.pos; omega)
        have q7 : (F - y) * r.2 * c = (F - y) * c * r.2 := by grind
        have q8 : s2 * r.2 * ((steps.length : Int) - k) = s2 * ((steps.length : Int) - k) * r.2 := by grind
        omega
      have q9 : F * c ≤ s * c := Int.mul_le_mul_of_nonneg_right hFs (by omega)
      rw [Int.mul_sub, Int.sub_mul] at q5
      omega
  have far : ∀ n u s, Wk (stepsR steps) v (steps.length + n) u s → ∃ k s', k < steps.length ∧ Wk (stepsR steps) v k u s' ∧ s' * c - s2 * k < s * c - s2 * ((steps.length + n : Nat) : Int) := by
    intro n
    induction n with
    | zero => intro u s w; exact base u s w
    | succ n ih =>
      intro u s w
      have w' : Wk (stepsR steps) v ((steps.length + n) + 1) u s := w.cast (by omega) rfl
      cases w' with
      | @snoc y _ _ s a wy ra =>
        obtain ⟨k, s', hk, wk, hlt'⟩ := ih y s wy
        have e1 : ((steps.length + (n + 1) : Nat) : Int) = ((steps.length + n : Nat) : Int) + 1 := by omega
        have e2 : ((k + 1 : Nat) : Int) = (k : Int) + 1 := by omega
        by_cases hk1 : k + 1 < steps.length
        · refine ⟨k + 1, s' + a, hk1, .snoc wk ra, ?_⟩
          rw [e1, e2, Int.add_mul, Int.add_mul, Int.mul_add, Int.mul_add]
          omega
        · have hk2 : k + 1 = steps.length := by omega
          obtain ⟨k3, s3, g1, g2, g3⟩ := base u (s' + a) ((Wk.snoc wk ra).cast hk2 rfl)
          refine ⟨k3, s3, g1, g2, ?_⟩
          rw [← hk2, e2] at g3
          rw [e1, Int.add_mul, Int.mul_add]
          rw [Int.add_mul, Int.mul_add] at g3
          omega
  -- the best way to the round, gone round often
  obtain ⟨k, hk, s, ws, hmin⟩ := least_of (P := fun k s => Wk (stepsR steps) v k x s) (N := steps.length) (fun _ => 0) ⟨i, hi, s1, w1⟩
    (fun k s w => by
      cases e : look x (rowAt steps v k) with
      | none => exact absurd w ((row_min steps v k).miss x e s)
      | some y =>
        obtain ⟨a, b⟩ := (row_min steps v k).hit x y e
        exact ⟨y, a, fun z hz => b z hz⟩)
    (fun k s => s * c - s2 * k) (fun k a b hab => by
      have : a * (c : Int) ≤ b * c := Int.mul_le_mul_of_nonneg_right hab (by omega)
      show a * (c : Int) - s2 * k ≤ b * c - s2 * k
      omega)
  have wl := ws.app (rep w2 steps.length)
  have hcl : steps.length ≤ steps.length * c := Nat.le_mul_of_pos_right _ hc
  obtain ⟨k', s', g1, g2, g3⟩ := far (k + steps.length * c - steps.length) x _ (wl.cast (by omega) rfl)
  have g4 := hmin k' s' g1 g2
  have e3 : ((steps.length + (k + steps.length * c - steps.length) : Nat) : Int) = (k : Int) + steps.length * c := by
    have : steps.length + (k + steps.length * c - steps.length) = k + steps.length * c := by omega
    rw [this]; simp
  rw [e3] at g3
  have e4 : (s + steps.length * s2) * (c : Int) - s2 * ((k : Int) + steps.length * c) = s * c - s2 * k := by grind
  omega
end
end
end GW

namespace GW
section
variable {α : Type} [DecidableEq α]
/-! ### a drawn game, its plans, its courses -/
abbrev Row (α : Type) := List (α × (α × Int))
abbrev Plan (α : Type) := List (α × (Bool × Row α))
structure WfP (P : Plan α) : Prop where
  nd : (keys P).Nodup
  ne : P ≠ []
  rows : ∀ p ∈ P, p.2.2 ≠ []
  words : ∀ p ∈ P, (keys p.2.2).Nodup
  inn : ∀ p ∈ P, ∀ m ∈ p.2.2, m.2.1 ∈ keys P
def plansM (P : Plan α) (side : Bool) : List (List (α × α)) := P.foldl (fun found p => if p.2.1 = side then found.flatMap (fun one => p.2.2.map fun m => one ++ [(p.1, m.1)]) else found) [[]]
def rowP (P : Plan α) (v : α) : Row α := ((look v P).map (·.2)).getD []
def sideP (P : Plan α) (v : α) : Bool := ((look v P).map (·.1)).getD false
def moveM (row : Row α) (w : α) (d : α) : α × Int := (look w row).getD (d, 0)
def stepsM (P : Plan α) (σ : List (α × α)) : Steps α := P.map fun p => (p.1, if p.2.1 = true then [moveM p.2.2 ((look p.1 σ).getD p.1) p.1] else p.2.2.map (·.2))
def courseM (P : Plan α) (both : List (α × α)) : Nat → α → List (α × α) → List (α × α) × List (α × α)
  | 0, _, way => (way, [])
  | f + 1, n, way => if n ∈ keys way then (way.take ((keys way).idxOf n), way.drop ((keys way).idxOf n))
    else courseM P both f (moveM (rowP P n) ((look n both).getD n) n).1 (way ++ [(n, (look n both).getD n)])
def meanM (P : Plan α) (steps : List (α × α)) : Fr := lowM (steps.map fun s => (moveM (rowP P s.1) s.2 s.1).2).sum steps.length
def hereM (P : Plan α) (both : List (α × α)) (v : α) : Fr := meanM P (courseM P both (P.length + 1) v []).2
def upd1 (side : Bool) (row : List (α × Fr)) (n : α) (here : Fr) : List (α × Fr) := put row n (bestM (match look n row with
  | none => [here]
  | some x => [here, x]) side)
def rowM (P : Plan α) (one : List (α × α)) (second : Bool) : List (α × Fr) := (plansM P second).foldl (fun row other => (keys P).foldl (fun row n => upd1 second row n (hereM P (one ++ other) n)) row) []
def worthsM (P : Plan α) (first second : Bool) : List (α × Fr) := (plansM P first).foldl (fun found one => (keys P).foldl (fun found n => upd1 first found n ((look n (rowM P one second)).getD (0, 1))) found) []
def tablesM (P : Plan α) : List (List (α × α) × List (α × Fr)) := (plansM P true).map fun σ => (σ, (stepsM P σ).map fun s => (s.1, (leastM (stepsM P σ) s.1).getD (0, 1)))
def maxAt (t one : List (α × Fr)) (n : α) : List (α × Fr) := match look n t with
  | none => t
  | some x => match look n one with
    | none => t
    | some y => if lessM x y then put t n y else t
def tableM (ts : List (List (α × α) × List (α × Fr))) : List (α × Fr) := ts.foldl (fun t po => (keys po.2).foldl (fun t n => maxAt t po.2 n) t) ((ts.head?.map (·.2)).getD [])

/-! ### tables by their look-ups -/
theorem table_ext {β : Type} : ∀ {l m : List (α × β)}, (keys l).Nodup → keys l = keys m → (∀ k ∈ keys l, look k l = look k m) → l = m
  | [], [], _, _, _ => rfl
  | [], _ :: _, _, h, _ => by simp at h
  | _ :: _, [], _, h, _ => by simp at h
  | p :: l, q :: m, hn, hk, hl => by
    have hk' : p.1 = q.1 ∧ keys l = keys m := by simpa using hk
    have hn' : p.1 ∉ keys l ∧ (keys l).Nodup := by simpa using hn
    have h1 := hl p.1 (by simp)
    rw [look_cons, look_cons, if_pos rfl, if_pos hk'.1.symm] at h1
    have h2 : p = q := Prod.ext hk'.1 (Option.some.inj h1)
    rw [h2, table_ext hn'.2 hk'.2 fun k hk2 => by
      have h3 := hl k (by simp [hk2])
      rw [look_cons, look_cons, if_neg (fun z => hn'.1 (by rw [z]; exact hk2)), if_neg (fun z => hn'.1 (by rw [hk'.1, z]; exact hk2))] at h3
      exact h3]
theorem keys_map {β γ : Type} (l : List (α × β)) (f : α × β → γ) : keys (l.map fun p => (p.1, f p)) = keys l := by
  unfold keys; rw [List.map_map]; rfl

/-- one round of updates -/
theorem upd1_fold (side : Bool) (h : α → Fr) : ∀ (ns : List α) (acc : List (α × Fr)), ns.Nodup → (keys acc).Nodup →
    let r := ns.foldl (fun row n => upd1 side row n (h n)) acc
    keys r = keys acc ++ (ns.filter fun n => decide (n ∉ keys acc)) ∧ (∀ k ∉ ns, look k r = look k acc) ∧ ∀ k ∈ ns, look k r = some (bestM (match look k acc with
      | none => [h k]
      | some x => [h k, x]) side)
  | [], acc, _, _ => by simp
  | n :: ns, acc, hn, ha => by
    have hn' : n ∉ ns ∧ ns.Nodup := by simpa using hn
    obtain ⟨i1, i2, i3⟩ := upd1_fold side h ns (upd1 side acc n (h n)) hn'.2 (nodup_put ha)
    intro r
    have er : r = ns.foldl (fun row n => upd1 side row n (h n)) (upd1 side acc n (h n)) := rfl
    rw [er]
    refine ⟨?_, fun k hk => ?_, fun k hk => ?_⟩
    · rw [i1]
      unfold upd1
      rw [keys_put]
      by_cases hm : n ∈ keys acc
      · rw [if_pos hm, List.filter_cons, if_neg (by simpa using hm)]
      · rw [if_neg hm, List.filter_cons, if_pos (by simpa using hm), List.append_assoc]
        congr 1
        rw [List.singleton_append]
        congr 1
        refine List.filter_congr fun x hx => ?_
        have : x ≠ n := fun z => hn'.1 (by rw [← z]; exact hx)
        simp [this]
    · have h1 : k ≠ n ∧ k ∉ ns := by simpa using hk
      rw [i2 k h1.2]
      unfold upd1
      rw [look_put, if_neg h1.1]
    · by_cases e : k = n
      · rw [e, i2 n hn'.1]
        unfold upd1
        rw [look_put, if_pos rfl]
      · have hk' : k ∈ ns := by
          rcases List.mem_cons.mp hk with z | z
          · exact absurd z e
          · exact z
        rw [i3 k hk']
        have : look k (upd1 side acc n (h n)) = look k acc := by unfold upd1; rw [look_put, if_neg e]
        rw [this]
/-- all rounds -/
theorem upd_all {β : Type} (side : Bool) (ns : List α) (hn : ns.Nodup) (h : β → α → Fr) (hp : ∀ x, ∀ n ∈ ns, 0 < (h x n).2) : ∀ (L : List β) (acc : List (α × Fr)), (keys acc = ns ∨ (acc = [] ∧ L ≠ [])) → (∀ k ∈ ns, ∀ x, look k acc = some x → 0 < x.2) →
    let r := L.foldl (fun row x => ns.foldl (fun row n => upd1 side row n (h x n)) row) acc
    keys r = ns ∧ ∀ k ∈ ns, ∃ f, look k r = some f ∧ 0 < f.2 ∧ (look k acc = some f ∨ ∃ x ∈ L, f = h x k) ∧ (∀ x, look k acc = some x → Bt side x f) ∧ ∀ x ∈ L, Bt side (h x k) f
  | [], acc, ha, hq => by
    rcases ha with ha | ⟨_, ha⟩
    · refine ⟨ha, fun k hk => ?_⟩
      obtain ⟨x, hx⟩ := look_some (l := acc) (by rw [ha]; exact hk)
      exact ⟨x, hx, hq k hk x hx, .inl hx, fun y hy => by rw [hx] at hy; cases hy; exact Bt.rfl, fun _ h => by simp at h⟩
    · exact absurd rfl ha
  | x :: L, acc, ha, hq => by
    have hacc : (keys acc).Nodup := by
      rcases ha with ha | ⟨ha, _⟩
      · rw [ha]; exact hn
      · rw [ha]; simp
    obtain ⟨i1, _, i3⟩ := upd1_fold side (h x) ns acc hn hacc
    have hk1 : keys (ns.foldl (fun row n => upd1 side row n (h x n)) acc) = ns := by
      rw [i1]
      rcases ha with ha | ⟨ha, _⟩
      · rw [ha]
        have : (ns.filter fun n => decide (n ∉ ns)) = [] := List.filter_eq_nil_iff.mpr fun n hn => by simpa using hn
        rw [this, List.append_nil]
      · rw [ha]
        have : (ns.filter fun n => decide (n ∉ keys ([] : List (α × Fr)))) = ns := List.filter_eq_self.mpr fun n _ => by simp
        rw [this]; rfl
    have one : ∀ k ∈ ns, ∃ f, look k (ns.foldl (fun row n => upd1 side row n (h x n)) acc) = some f ∧ 0 < f.2 ∧ (look k acc = some f ∨ f = h x k) ∧ (∀ y, look k acc = some y → Bt side y f) ∧ Bt side (h x k) f := by
      intro k hk
      have e := i3 k hk
      cases q : look k acc with
      | none =>
        rw [q] at e
        obtain ⟨b1, b2⟩ := bestM_spec (l := [h x k]) side (by simp) (fun f hf => by
          have : f = h x k := by simpa using hf
          rw [this]; exact hp x k hk)
        have b1' : bestM [h x k] side = h x k := by simpa using b1
        exact ⟨_, e, by rw [b1']; exact hp x k hk, .inr b1', (fun y hy => by cases hy), b2 _ (by simp)⟩
      | some y =>
        rw [q] at e
        have hy := hq k hk y q
        obtain ⟨b1, b2⟩ := bestM_spec (l := [h x k, y]) side (by simp) (fun f hf => by
          have : f = h x k ∨ f = y := by simpa using hf
          rcases this with z | z
          · rw [z]; exact hp x k hk
          · rw [z]; exact hy)
        have b1' : bestM [h x k, y] side = h x k ∨ bestM [h x k, y] side = y := by simpa using b1
        refine ⟨_, e, ?_, ?_, fun z hz => ?_, b2 _ (by simp)⟩
        · rcases b1' with z | z
          · rw [z]; exact hp x k hk
          · rw [z]; exact hy
        · rcases b1' with z | z
          · exact .inr z
          · exact .inl (congrArg some z.symm)
        · cases hz; exact b2 _ (by simp)
    obtain ⟨j1, j2⟩ := upd_all side ns hn h hp L (ns.foldl (fun row n => upd1 side row n (h x n)) acc) (.inl hk1) (fun k hk y hy => by
      obtain ⟨f, e, p, _⟩ := one k hk
      rw [hy] at e; cases e; exact p)
    refine ⟨j1, fun k hk => ?_⟩
    obtain ⟨f, e, p, o1, o2, o3⟩ := one k hk
    obtain ⟨g, g1, g2, g3, g4, g5⟩ := j2 k hk
    refine ⟨g, g1, g2, ?_, fun y hy => ?_, fun y hy => ?_⟩
    · rcases g3 with g3 | ⟨y, hy, g3⟩
      · rw [e] at g3
        cases g3
        rcases o1 with o1 | o1
        · exact .inl o1
        · exact .inr ⟨x, by simp, o1⟩
      · exact .inr ⟨y, by simp [hy], g3⟩
    · exact (o2 y hy).trans (hq k hk y hy) p g2 (g4 f e)
    · rcases List.mem_cons.mp hy with rfl | hy
      · exact o3.trans (hp _ k hk) p g2 (g4 f e)
      · exact g5 y hy

/-! ### whole plans -/
theorem plans_step (P : Plan α) (p : α × (Bool × Row α)) (side : Bool) : plansM (P ++ [p]) side = if p.2.1 = side then (plansM P side).flatMap (fun one => p.2.2.map fun m => one ++ [(p.1, m.1)]) else plansM P side := by
  unfold plansM
  rw [List.foldl_append, List.foldl_cons, List.foldl_nil]
theorem plans_rev {Q : Plan α → Prop} (h0 : Q []) (hs : ∀ P p, Q P → Q (P ++ [p])) : ∀ P, Q P := by
  intro P
  have : ∀ R : Plan α, Q R.reverse := by
    intro R
    induction R with
    | nil => exact h0
    | cons p R ih => rw [List.reverse_cons]; exact hs _ _ ih
  have h := this P.reverse
  rwa [List.reverse_reverse] at h
theorem plans_keys (side : Bool) : ∀ P : Plan α, ∀ σ ∈ plansM P side, keys σ = keys (P.filter fun p => decide (p.2.1 = side)) := by
  refine plans_rev (fun σ h => ?_) fun P p ih σ h => ?_
  · have : σ = [] := by simpa [plansM] using h
    rw [this]; rfl
  · rw [plans_step] at h
    rw [List.filter_append]
    by_cases e : p.2.1 = side
    · rw [if_pos e] at h
      obtain ⟨one, h1, h2⟩ := List.mem_flatMap.mp h
      obtain ⟨m, h3, h4⟩ := List.mem_map.mp h2
      rw [← h4]
      have := ih one h1
      unfold keys at this ⊢
      rw [List.map_append, List.map_append, this]
      simp [e]
    · rw [if_neg e] at h
      rw [ih σ h]
      simp [e]
theorem plans_words (side : Bool) : ∀ P : Plan α, ∀ σ ∈ plansM P side, ∀ q ∈ σ, ∃ p ∈ P, p.1 = q.1 ∧ p.2.1 = side ∧ q.2 ∈ keys p.2.2 := by
  refine plans_rev (fun σ h q hq => ?_) fun P p ih σ h q hq => ?_
  · have : σ = [] := by simpa [plansM] using h
    rw [this] at hq; simp at hq
  · rw [plans_step] at h
    by_cases e : p.2.1 = side
    · rw [if_pos e] at h
      obtain ⟨one, h1, h2⟩ := List.mem_flatMap.mp h
      obtain ⟨m, h3, h4⟩ := List.mem_map.mp h2
      rw [← h4] at hq
      rcases List.mem_append.mp hq with hq | hq
      · obtain ⟨r, a, b⟩ := ih one h1 q hq
        exact ⟨r, by simp [a], b⟩
      · have : q = (p.1, m.1) := by simpa using hq
        rw [this]
        exact ⟨p, by simp, rfl, e, List.mem_map_of_mem (f := (·.1)) h3⟩
    · rw [if_neg e] at h
      obtain ⟨r, a, b⟩ := ih σ h q hq
      exact ⟨r, by simp [a], b⟩
theorem plans_mem (side : Bool) (c : α → α) : ∀ P : Plan α, (∀ p ∈ P, p.2.1 = side → c p.1 ∈ keys p.2.2) → ((P.filter fun p => decide (p.2.1 = side)).map fun p => (p.1, c p.1)) ∈ plansM P side := by
  refine plans_rev (fun _ => by simp [plansM]) fun P p ih h => ?_
  rw [plans_step, List.filter_append, List.map_append]
  have h1 := ih fun q hq => h q (by simp [hq])
  by_cases e : p.2.1 = side
  · rw [if_pos e]
    obtain ⟨m, h3, h4⟩ := List.mem_map.mp (h p (by simp) e)
    refine List.mem_flatMap.mpr ⟨_, h1, List.mem_map.mpr ⟨m, h3, ?_⟩⟩
    simp [e, h4]
  · rw [if_neg e]
    simpa [e] using h1

section
variable {P : Plan α} (wf : WfP P)
include wf
theorem look_P {p : α × (Bool × Row α)} (h : p ∈ P) : look p.1 P = some p.2 := look_of_mem wf.nd h
theorem rowP_at {p : α × (Bool × Row α)} (h : p ∈ P) : rowP P p.1 = p.2.2 := by unfold rowP; rw [look_P wf h]; rfl
theorem sideP_at {p : α × (Bool × Row α)} (h : p ∈ P) : sideP P p.1 = p.2.1 := by unfold sideP; rw [look_P wf h]; rfl
theorem plan_at {side : Bool} {σ : List (α × α)} (hσ : σ ∈ plansM P side) {p : α × (Bool × Row α)} (h : p ∈ P) (e : p.2.1 = side) : ∃ w m, look p.1 σ = some w ∧ look w p.2.2 = some m := by
  have hk := plans_keys side P σ hσ
  have hin : p.1 ∈ keys σ := by
    rw [hk]; exact List.mem_map.mpr ⟨p, List.mem_filter.mpr ⟨h, decide_eq_true e⟩, rfl⟩
  obtain ⟨w, hw⟩ := look_some hin
  obtain ⟨q, hq, e1, _, e3⟩ := plans_words side P σ hσ (p.1, w) (look_mem hw)
  have : q.2 = p.2 := by
    have h1 := look_P wf hq
    have h2 := look_P wf h
    rw [e1] at h1
    rw [h1] at h2
    exact Option.some.inj h2
  rw [this] at e3
  obtain ⟨m, hm⟩ := look_some e3
  exact ⟨w, m, hw, hm⟩
theorem plan_not {side : Bool} {σ : List (α × α)} (hσ : σ ∈ plansM P side) {p : α × (Bool × Row α)} (h : p ∈ P) (e : ¬ p.2.1 = side) : look p.1 σ = none := by
  refine look_none.mpr fun hin => ?_
  rw [plans_keys side P σ hσ] at hin
  obtain ⟨q, hq, e1⟩ := List.mem_map.mp hin
  obtain ⟨hq1, hq2⟩ := List.mem_filter.mp hq
  have : q.2 = p.2 := by
    have h1 := look_P wf hq1
    have h2 := look_P wf h
    rw [e1] at h1
    rw [h1] at h2
    exact Option.some.inj h2
  rw [this] at hq2
  exact e (by simpa using hq2)
end

/-! ### courses -/
/-- the moves of both sides at all places -/
def Valid (P : Plan α) (both : List (α × α)) : Prop := ∀ p ∈ P, ∃ w m, look p.1 both = some w ∧ look w p.2.2 = some m
abbrev bothR (P : Plan α) (both : List (α × α)) : α → α → Int → Prop := fun v u a => ∃ p ∈ P, p.1 = v ∧ ∃ w, look v both = some w ∧ look w p.2.2 = some (u, a)
def Ch (P : Plan α) (both : List (α × α)) : α → List (α × α) → α → Int → Prop
  | v, [], u, s => v = u ∧ s = 0
  | v, q :: r, u, s => q.1 = v ∧ ∃ p ∈ P, p.1 = v ∧ look v both = some q.2 ∧ ∃ m, look q.2 p.2.2 = some m ∧ Ch P both m.1 r u (s - m.2)
theorem ch_app {P : Plan α} {both : List (α × α)} : ∀ {l r : List (α × α)} {v x u : α} {s t : Int}, Ch P both v l x s → Ch P both x r u t → Ch P both v (l ++ r) u (s + t)
  | [], r, v, x, u, s, t, h1, h2 => by
    obtain ⟨rfl, rfl⟩ := h1
    simpa using h2
  | q :: l, r, v, x, u, s, t, h1, h2 => by
    obtain ⟨e, p, hp, e2, e3, m, e4, h⟩ := h1
    refine ⟨e, p, hp, e2, e3, m, e4, ?_⟩
    have := ch_app h h2
    have e5 : s - m.2 + t = s + t - m.2 := by omega
    rw [e5] at this
    exact this
theorem ch_cut {P : Plan α} {both : List (α × α)} : ∀ {l r : List (α × α)} {v u : α} {s : Int}, Ch P both v (l ++ r) u s → ∃ x s1 s2, Ch P both v l x s1 ∧ Ch P both x r u s2
  | [], r, v, u, s, h => ⟨v, 0, s, ⟨rfl, rfl⟩, h⟩
  | q :: l, r, v, u, s, h => by
    obtain ⟨e, p, hp, e2, e3, m, e4, h⟩ := h
    obtain ⟨x, s1, s2, h1, h2⟩ := ch_cut (l := l) h
    exact ⟨x, s1 + m.2, s2, ⟨e, p, hp, e2, e3, m, e4, by rw [Int.add_sub_cancel]; exact h1⟩, h2⟩
theorem ch_wk {P : Plan α} {both : List (α × α)} : ∀ {l : List (α × α)} {v u : α} {s : Int}, Ch P both v l u s → Wk (bothR P both) v l.length u s
  | [], v, u, s, h => by
    obtain ⟨rfl, rfl⟩ := h
    exact .nil _
  | q :: l, v, u, s, h => by
    obtain ⟨e, p, hp, e2, e3, m, e4, h⟩ := h
    have hr : bothR P both v m.1 m.2 := ⟨p, hp, e2, q.2, e3, e4⟩
    exact (Wk.cons hr (ch_wk h)).cast rfl (by omega)
theorem ch_sum {P : Plan α} (wf : WfP P) {both : List (α × α)} : ∀ {l : List (α × α)} {v u : α} {s : Int}, Ch P both v l u s → (l.map fun q => (moveM (rowP P q.1) q.2 q.1).2).sum = s
  | [], v, u, s, h => by
    obtain ⟨rfl, rfl⟩ := h
    rfl
  | q :: l, v, u, s, h => by
    obtain ⟨e, p, hp, e2, e3, m, e4, h⟩ := h
    have ih := ch_sum wf h
    rw [List.map_cons, List.sum_cons, ih]
    have e5 : rowP P q.1 = p.2.2 := by rw [e, ← e2]; exact rowP_at wf hp
    have e6 : moveM (rowP P q.1) q.2 q.1 = m := by unfold moveM; rw [e5, e4]; rfl
    rw [e6]; omega
theorem ch_in {P : Plan α} {both : List (α × α)} : ∀ {l : List (α × α)} {v u : α} {s : Int}, Ch P both v l u s → ∀ q ∈ l, q.1 ∈ keys P
  | q :: l, v, u, s, h, q', hq => by
    obtain ⟨e, p, hp, e2, e3, m, e4, h⟩ := h
    rcases List.mem_cons.mp hq with rfl | hq
    · rw [e, ← e2]; exact List.mem_map_of_mem (f := (·.1)) hp
    · exact ch_in h q' hq
theorem course_spec {P : Plan α} (wf : WfP P) {both : List (α × α)} (hb : Valid P both) {v : α} : ∀ (f : Nat) (n : α) (way : List (α × α)) (s : Int), Ch P both v way n s → (keys way).Nodup → n ∈ keys P → P.length + 1 ≤ way.length + f →
    ∃ (x : α) (s0 s1 : Int), Ch P both v (courseM P both f n way).1 x s0 ∧ Ch P both x (courseM P both f n way).2 x s1 ∧ 1 ≤ (courseM P both f n way).2.length ∧ (courseM P both f n way).1.length + (courseM P both f n way).2.length ≤ P.length := by
  intro f
  induction f with
  | zero =>
    intro n way s hc hn hin hf
    have hl : (keys way).length ≤ (keys P).length := hn.length_le_of_subset fun x hx => by
      obtain ⟨q, hq, e⟩ := List.mem_map.mp hx
      rw [← e]; exact ch_in hc q hq
    simp at hl
    omega
  | succ f ih =>
    intro n way s hc hn hin hf
    have hl : (keys way).length ≤ (keys P).length := hn.length_le_of_subset fun x hx => by
      obtain ⟨q, hq, e⟩ := List.mem_map.mp hx
      rw [← e]; exact ch_in hc q hq
    have hl' : way.length ≤ P.length := by simpa using hl
    unfold courseM
    by_cases e : n ∈ keys way
    · rw [if_pos e]
      have hi : (keys way).idxOf n < way.length := by
        have := List.idxOf_lt_length_iff.mpr e
        simpa using this
      have hc' := hc
      rw [← List.take_append_drop ((keys way).idxOf n) way] at hc'
      obtain ⟨x, s1, s2, h1, h2⟩ := ch_cut hc'
      have hx : x = n := by
        rw [List.drop_eq_getElem_cons hi] at h2
        obtain ⟨e1, _⟩ := h2
        rw [← e1]
        have h3 := List.getElem_idxOf (x := n) (xs := keys way) (by simpa using hi)
        rw [List.getElem_map] at h3
        exact h3
      rw [hx] at h1 h2
      refine ⟨n, s1, s2, h1, h2, ?_, ?_⟩
      · rw [List.length_drop]; omega
      · rw [List.length_drop, List.length_take]; omega
    · rw [if_neg e]
      obtain ⟨p, hp, e1⟩ := List.mem_map.mp hin
      obtain ⟨w, m, h1, h2⟩ := hb p hp
      rw [e1] at h1
      have e5 : rowP P n = p.2.2 := by rw [← e1]; exact rowP_at wf hp
      have e6 : moveM (rowP P n) ((look n both).getD n) n = m := by unfold moveM; rw [e5, h1]; show (look w p.2.2).getD (n, 0) = m; rw [h2]; rfl
      have e7 : (look n both).getD n = w := by rw [h1]; rfl
      rw [e6, e7]
      refine ih m.1 (way ++ [(n, w)]) (s + m.2) (ch_app hc ⟨rfl, p, hp, e1, h1, m, h2, rfl, by omega⟩) ?_ (wf.inn p hp (w, m) (look_mem h2)) (by simp; omega)
      unfold keys
      rw [List.map_append, List.nodup_append]
      refine ⟨hn, by simp, fun a ha b hb2 => ?_⟩
      have : b = n := by simpa using hb2
      rw [this]; rintro rfl; exact e ha
/-- the round of a course, as a walk, and its mean -/
theorem course_round {P : Plan α} (wf : WfP P) {both : List (α × α)} (hb : Valid P both) {v : α} (hv : v ∈ keys P) :
    ∃ (i c : Nat) (x : α) (s0 s : Int), Wk (bothR P both) v i x s0 ∧ Wk (bothR P both) x c x s ∧ 1 ≤ c ∧ i + c ≤ P.length ∧ hereM P both v = lowM s c := by
  obtain ⟨x, s0, s1, h1, h2, h3, h4⟩ := course_spec wf hb (v := v) (P.length + 1) v [] 0 ⟨rfl, rfl⟩ (by simp) hv (by simp)
  refine ⟨_, _, x, s0, s1, ch_wk h1, ch_wk h2, h3, h4, ?_⟩
  unfold hereM meanM
  rw [ch_sum wf h2]
end
end GW

namespace GW
section
variable {α : Type} [DecidableEq α]
/-! ### the worth of a drawn game -/
def gameOf (P : Plan α) : Game α := ⟨keys P, sideP P, fun v => (rowP P v).map (·.2)⟩
theorem amounts (P : Plan α) : ∃ A : Int, 1 ≤ A ∧ ∀ p ∈ P, ∀ m ∈ p.2.2, -A ≤ m.2.2 ∧ m.2.2 ≤ A := by
  have row : ∀ r : Row α, ∃ A : Int, 1 ≤ A ∧ ∀ m ∈ r, -A ≤ m.2.2 ∧ m.2.2 ≤ A := by
    intro r
    induction r with
    | nil => exact ⟨1, by omega, fun _ h => by simp at h⟩
    | cons m r ih =>
      obtain ⟨A, h1, h2⟩ := ih
      refine ⟨A + m.2.2.natAbs, by omega, fun q hq => ?_⟩
      rcases List.mem_cons.mp hq with rfl | hq
      · omega
      · have := h2 q hq; omega
  induction P with
  | nil => exact ⟨1, by omega, fun _ h => by simp at h⟩
  | cons p P ih =>
    obtain ⟨A, h1, h2⟩ := ih
    obtain ⟨B, g1, g2⟩ := row p.2.2
    refine ⟨A + B, by omega, fun q hq m hm => ?_⟩
    rcases List.mem_cons.mp hq with rfl | hq
    · have := g2 m hm; omega
    · have := h2 q hq m hm; omega
theorem gameOf_ok {P : Plan α} (wf : WfP P) {A : Int} (h1 : 1 ≤ A) (h2 : ∀ p ∈ P, ∀ m ∈ p.2.2, -A ≤ m.2.2 ∧ m.2.2 ≤ A) : (gameOf P).Ok A := by
  have at' : ∀ v ∈ keys P, ∃ p ∈ P, p.1 = v ∧ rowP P v = p.2.2 := fun v hv => by
    obtain ⟨p, hp, e⟩ := List.mem_map.mp hv
    exact ⟨p, hp, e, by rw [← e]; exact rowP_at wf hp⟩
  have edge : ∀ v ∈ keys P, ∀ e ∈ (rowP P v).map (·.2), ∃ p ∈ P, ∃ m ∈ p.2.2, m.2 = e := fun v hv e he => by
    obtain ⟨p, hp, _, e2⟩ := at' v hv
    rw [e2] at he
    obtain ⟨m, hm, e3⟩ := List.mem_map.mp he
    exact ⟨p, hp, m, hm, e3⟩
  refine ⟨fun v hv => ?_, fun v hv e he => ?_, fun v hv e he => ?_, fun v hv e he => ?_, h1⟩
  · obtain ⟨p, hp, _, e2⟩ := at' v hv
    show (rowP P v).map (·.2) ≠ []
    rw [e2]
    simpa using wf.rows p hp
  · obtain ⟨p, hp, m, hm, e3⟩ := edge v hv e he
    rw [← e3]; exact wf.inn p hp m hm
  · obtain ⟨p, hp, m, hm, e3⟩ := edge v hv e he
    rw [← e3]; exact (h2 p hp m hm).1
  · obtain ⟨p, hp, m, hm, e3⟩ := edge v hv e he
    rw [← e3]; exact (h2 p hp m hm).2

/-- a plan of moves that all lie in a set of steps -/
theorem star_plan {P : Plan α} (wf : WfP P) (side : Bool) (R : α → α → Int → Prop) (h : ∀ p ∈ P, p.2.1 = side → ∃ m ∈ p.2.2, R p.1 m.2.1 m.2.2) :
    ∃ σ ∈ plansM P side, ∀ p ∈ P, p.2.1 = side → ∃ w m, look p.1 σ = some w ∧ look w p.2.2 = some m ∧ R p.1 m.1 m.2 := by
  have hex : ∀ v : α, ∃ w : α, ∀ p ∈ P, p.1 = v → p.2.1 = side → ∃ m, look w p.2.2 = some m ∧ R p.1 m.1 m.2 := fun v => by
    by_cases hx : ∃ p ∈ P, p.1 = v ∧ p.2.1 = side
    · obtain ⟨p, hp, e1, e2⟩ := hx
      obtain ⟨m, hm, r⟩ := h p hp e2
      refine ⟨m.1, fun q hq e3 _ => ⟨m.2, ?_, ?_⟩⟩
      · have : q.2 = p.2 := by
          have h1 := look_P wf hq
          have h2 := look_P wf hp
          rw [e3, ← e1, h2] at h1
          exact (Option.some.inj h1).symm
        rw [this]; exact look_of_mem (wf.words p hp) hm
      · rw [e3, ← e1]; exact r
    · exact ⟨v, fun q hq e3 e4 => absurd ⟨q, hq, e3, e4⟩ hx⟩
  obtain ⟨c, hc0⟩ := Classical.axiomOfChoice hex
  have hc : ∀ p ∈ P, p.2.1 = side → ∃ m, look (c p.1) p.2.2 = some m ∧ R p.1 m.1 m.2 := fun p hp e => hc0 p.1 p hp rfl e
  refine ⟨_, plans_mem side c P fun p hp e => ?_, fun p hp e => ?_⟩
  · obtain ⟨m, h1, _⟩ := hc p hp e
    exact List.mem_map_of_mem (f := (·.1)) (look_mem h1)
  · obtain ⟨m, h1, h2⟩ := hc p hp e
    refine ⟨c p.1, m, look_of_mem ?_ (List.mem_map.mpr ⟨p, List.mem_filter.mpr ⟨hp, decide_eq_true e⟩, rfl⟩), h1, h2⟩
    have := (keys_map (P.filter fun p => decide (p.2.1 = side)) fun p => c p.1)
    rw [this]
    exact wf.nd.sublist (List.Sublist.map (fun q : α × (Bool × Row α) => q.1) List.filter_sublist)

theorem valid_of {P : Plan α} (wf : WfP P) {f : Bool} {one other : List (α × α)} (h1 : one ∈ plansM P f) (h2 : other ∈ plansM P (!f)) : Valid P (one ++ other) := by
  intro p hp
  by_cases e : p.2.1 = f
  · obtain ⟨w, m, a, b⟩ := plan_at wf h1 hp e
    exact ⟨w, m, by rw [look_app, a]; rfl, b⟩
  · have e' : p.2.1 = !f := by cases hb : p.2.1 <;> cases f <;> simp_all
    obtain ⟨w, m, a, b⟩ := plan_at wf h2 hp e'
    exact ⟨w, m, by rw [look_app, plan_not wf h1 hp e, a]; rfl, b⟩
theorem look_first {P : Plan α} (wf : WfP P) {f : Bool} {one other : List (α × α)} (h1 : one ∈ plansM P f) {p : α × (Bool × Row α)} (hp : p ∈ P) (e : p.2.1 = f) : look p.1 (one ++ other) = look p.1 one := by
  obtain ⟨w, m, a, b⟩ := plan_at wf h1 hp e
  rw [look_app, a]; rfl
theorem look_second {P : Plan α} (wf : WfP P) {f : Bool} {one other : List (α × α)} (h1 : one ∈ plansM P f) {p : α × (Bool × Row α)} (hp : p ∈ P) (e : ¬ p.2.1 = f) : look p.1 (one ++ other) = look p.1 other := by
  rw [look_app, plan_not wf h1 hp e]; rfl

/-- what the game is worth, and all that the law asks of it -/
structure Worth (P : Plan α) (val : α → Fr) : Prop where
  low : ∀ v ∈ keys P, Low (val v)
  bot : ∀ v ∈ keys P, (val v).2 ≤ P.length
  one : worthsM P true false = P.map fun p => (p.1, val p.1)
  two : worthsM P false true = P.map fun p => (p.1, val p.1)
  stp : ∀ σ ∈ plansM P true, ∀ v ∈ keys P, StepsOk (stepsM P σ) v
  tab : tableM (tablesM P) = P.map fun p => (p.1, val p.1)
  got : ∃ po ∈ tablesM P, po.2 = P.map fun p => (p.1, val p.1)
  opt : ∀ p ∈ P, bestM (p.2.2.map fun m => val m.2.1) p.2.1 = val p.1

theorem maxAt_eq {t one : List (α × Fr)} {n : α} {x y : Fr} (e1 : look n t = some x) (e2 : look n one = some y) : maxAt t one n = if lessM x y then put t n y else t := by
  unfold maxAt
  rw [e1]
  show (match look n one with
    | none => t
    | some y => if lessM x y then put t n y else t) = _
  rw [e2]
theorem maxAt_no {t one : List (α × Fr)} {n : α} (h : look n t = none ∨ look n one = none) : maxAt t one n = t := by
  unfold maxAt
  rcases h with h | h
  · rw [h]
  · cases e : look n t with
    | none => rfl
    | some x =>
      show (match look n one with
        | none => t
        | some y => if lessM x y then put t n y else t) = _
      rw [h]
theorem maxAt_spec (t one : List (α × Fr)) (n : α) (hn : (keys t).Nodup) : keys (maxAt t one n) = keys t ∧ (∀ k, k ≠ n → look k (maxAt t one n) = look k t) ∧
    ∀ x y, look n t = some x → look n one = some y → ∃ z, look n (maxAt t one n) = some z ∧ (z = x ∨ z = y) ∧ LE x z ∧ LE y z := by
  cases e1 : look n t with
  | none => rw [maxAt_no (.inl e1)]; exact ⟨rfl, fun _ _ => rfl, fun x y h _ => by cases h⟩
  | some x =>
    cases e2 : look n one with
    | none => rw [maxAt_no (.inr e2)]; exact ⟨rfl, fun _ _ => rfl, fun x y _ h => by cases h⟩
    | some y =>
      rw [maxAt_eq e1 e2]
      by_cases hl : lessM x y = true
      · rw [if_pos hl]
        refine ⟨?_, fun k hk => by rw [look_put, if_neg hk], fun x' y' h1 h2 => ?_⟩
        · rw [keys_put, if_pos]
          exact List.mem_map_of_mem (f := (·.1)) (look_mem e1)
        · cases h1; cases h2
          refine ⟨y, by rw [look_put, if_pos rfl], .inr rfl, ?_, LE.rfl⟩
          have := lessM_true.mp hl
          rcases LE.total (a := x) (b := y) with q | q
          · exact q
          · exact absurd q this
      · rw [if_neg hl]
        refine ⟨rfl, fun _ _ => rfl, fun x' y' h1 h2 => ?_⟩
        cases h1; cases h2
        exact ⟨x, e1, .inl rfl, LE.rfl, lessM_false.mp (by simpa using hl)⟩
theorem max_fold (one : List (α × Fr)) : ∀ (ns : List α) (t : List (α × Fr)), ns.Nodup → (keys t).Nodup →
    let r := ns.foldl (fun t n => maxAt t one n) t
    keys r = keys t ∧ (∀ k ∉ ns, look k r = look k t) ∧ ∀ k ∈ ns, ∀ x y, look k t = some x → look k one = some y → ∃ z, look k r = some z ∧ (z = x ∨ z = y) ∧ LE x z ∧ LE y z
  | [], t, _, _ => by simp
  | n :: ns, t, hn, ht => by
    have hn' : n ∉ ns ∧ ns.Nodup := by simpa using hn
    obtain ⟨a1, a2, a3⟩ := maxAt_spec t one n ht
    obtain ⟨b1, b2, b3⟩ := max_fold one ns (maxAt t one n) hn'.2 (by rw [a1]; exact ht)
    intro r
    have er : r = ns.foldl (fun t n => maxAt t one n) (maxAt t one n) := rfl
    rw [er]
    refine ⟨b1.trans a1, fun k hk => ?_, fun k hk x y h1 h2 => ?_⟩
    · have h1 : k ≠ n ∧ k ∉ ns := by simpa using hk
      rw [b2 k h1.2, a2 k h1.1]
    · by_cases e : k = n
      · rw [e] at h1 h2 ⊢
        rw [b2 n hn'.1]
        exact a3 x y h1 h2
      · have hk' : k ∈ ns := by
          rcases List.mem_cons.mp hk with z | z
          · exact absurd z e
          · exact z
        exact b3 k hk' x y (by rw [a2 k e]; exact h1) h2
theorem max_all {γ : Type} (ns : List α) (hn : ns.Nodup) : ∀ (L : List (γ × List (α × Fr))) (t : List (α × Fr)), (∀ po ∈ L, keys po.2 = ns) → keys t = ns → (∀ po ∈ L, ∀ k ∈ ns, ∀ x, look k po.2 = some x → 0 < x.2) → (∀ k ∈ ns, ∀ x, look k t = some x → 0 < x.2) →
    let r := L.foldl (fun t po => (keys po.2).foldl (fun t n => maxAt t po.2 n) t) t
    keys r = ns ∧ ∀ k ∈ ns, ∃ z, look k r = some z ∧ 0 < z.2 ∧ (look k t = some z ∨ ∃ po ∈ L, look k po.2 = some z) ∧ (∀ x, look k t = some x → LE x z) ∧ ∀ po ∈ L, ∀ y, look k po.2 = some y → LE y z
  | [], t, _, ht, _, hp => by
    refine ⟨ht, fun k hk => ?_⟩
    obtain ⟨z, hz⟩ := look_some (l := t) (by rw [ht]; exact hk)
    exact ⟨z, hz, hp k hk z hz, .inl hz, fun x hx => by rw [hz] at hx; cases hx; exact LE.rfl, fun _ h => by simp at h⟩
  | po :: L, t, hL, ht, hq, hp => by
    have hpo := hL po (by simp)
    obtain ⟨a1, _, a3⟩ := max_fold po.2 (keys po.2) t (by rw [hpo]; exact hn) (by rw [ht]; exact hn)
    have one : ∀ k ∈ ns, ∃ x y z, look k t = some x ∧ look k po.2 = some y ∧ look k ((keys po.2).foldl (fun t n => maxAt t po.2 n) t) = some z ∧ (z = x ∨ z = y) ∧ LE x z ∧ LE y z := fun k hk => by
      obtain ⟨x, hx⟩ := look_some (l := t) (by rw [ht]; exact hk)
      obtain ⟨y, hy⟩ := look_some (l := po.2) (by rw [hpo]; exact hk)
      obtain ⟨z, z1, z2⟩ := a3 k (by rw [hpo]; exact hk) x y hx hy
      exact ⟨x, y, z, hx, hy, z1, z2⟩
    have pos1 : ∀ k ∈ ns, ∀ x, look k ((keys po.2).foldl (fun t n => maxAt t po.2 n) t) = some x → 0 < x.2 := fun k hk w hw => by
      obtain ⟨x, y, z, hx, hy, hz, e, _⟩ := one k hk
      rw [hw] at hz
      cases hz
      rcases e with e | e
      · rw [e]; exact hp k hk x hx
      · rw [e]; exact hq po (by simp) k hk y hy
    obtain ⟨b1, b2⟩ := max_all ns hn L ((keys po.2).foldl (fun t n => maxAt t po.2 n) t) (fun q h => hL q (by simp [h])) (a1.trans ht) (fun q h => hq q (by simp [h])) pos1
    refine ⟨b1, fun k hk => ?_⟩
    obtain ⟨x, y, z, hx, hy, hz, e, l1, l2⟩ := one k hk
    obtain ⟨g, g1, g2, g3, g4, g5⟩ := b2 k hk
    have hzp := pos1 k hk z hz
    refine ⟨g, g1, g2, ?_, fun x' hx' => ?_, fun q hq' y' hy' => ?_⟩
    · rcases g3 with g3 | ⟨q, h1, h2⟩
      · rw [hz] at g3
        cases g3
        rcases e with e | e
        · exact .inl (by rw [e]; exact hx)
        · exact .inr ⟨po, by simp, by rw [e]; exact hy⟩
      · exact .inr ⟨q, by simp [h1], h2⟩
    · rw [hx] at hx'; cases hx'
      exact l1.trans (hp k hk _ hx) hzp g2 (g4 z hz)
    · rcases List.mem_cons.mp hq' with rfl | hq'
      · rw [hy] at hy'; cases hy'
        exact l2.trans (hq _ (by simp) k hk _ hy) hzp g2 (g4 z hz)
      · exact g5 q hq' y' hy'

theorem opt_of {P : Plan α} (wf : WfP P) {val : α → Fr} {U D : α → α → Int → Prop} (low : ∀ v ∈ keys P, Low (val v)) (p : α × (Bool × Row α)) (hp : p ∈ P)
    (viaD : ∀ m ∈ p.2.2, D p.1 m.2.1 m.2.2 → LE (val m.2.1) (val p.1)) (viaU : ∀ m ∈ p.2.2, U p.1 m.2.1 m.2.2 → LE (val p.1) (val m.2.1))
    (oursD : p.2.1 = true → ∀ m ∈ p.2.2, D p.1 m.2.1 m.2.2) (theirsU : p.2.1 = false → ∀ m ∈ p.2.2, U p.1 m.2.1 m.2.2)
    (oursU : p.2.1 = true → ∃ m ∈ p.2.2, U p.1 m.2.1 m.2.2) (theirsD : p.2.1 = false → ∃ m ∈ p.2.2, D p.1 m.2.1 m.2.2) : bestM (p.2.2.map fun m => val m.2.1) p.2.1 = val p.1 := by
  have hv : p.1 ∈ keys P := List.mem_map_of_mem (f := (·.1)) hp
  have edge : ∀ m ∈ p.2.2, m.2.1 ∈ keys P := fun m hm => wf.inn p hp m hm
  have hl : ∀ f ∈ p.2.2.map (fun m => val m.2.1), 0 < f.2 := fun f hf => by
    obtain ⟨m, hm, e⟩ := List.mem_map.mp hf
    rw [← e]; exact (low _ (edge m hm)).pos
  obtain ⟨b1, b2⟩ := bestM_spec (l := p.2.2.map fun m => val m.2.1) p.2.1 (fun h => wf.rows p hp (List.map_eq_nil_iff.mp h)) hl
  obtain ⟨m0, hm0, e0⟩ := List.mem_map.mp b1
  have hlow0 := low _ hv
  have hlowM := low _ (edge m0 hm0)
  have hbp := hl _ b1
  rw [← e0]
  refine hlowM.bt_antisymm (o := p.2.1) hlow0 ?_ ?_
  · cases hs : p.2.1 with
    | true => exact viaD m0 hm0 (oursD hs m0 hm0)
    | false => exact viaU m0 hm0 (theirsU hs m0 hm0)
  · rw [e0]
    cases hs : p.2.1 with
    | true =>
      obtain ⟨m, hm, r⟩ := oursU hs
      have b3 := b2 _ (List.mem_map_of_mem (f := fun m => val m.2.1) hm)
      rw [hs] at b3 hbp
      exact Bt.trans (o := true) hlow0.pos (low _ (edge m hm)).pos hbp (viaU m hm r) b3
    | false =>
      obtain ⟨m, hm, r⟩ := theirsD hs
      have b3 := b2 _ (List.mem_map_of_mem (f := fun m => val m.2.1) hm)
      rw [hs] at b3 hbp
      exact Bt.trans (o := false) hlow0.pos (low _ (edge m hm)).pos hbp (viaD m hm r) b3

theorem game_value {P : Plan α} (wf : WfP P) : ∃ val : α → Fr, Worth P val := by
  obtain ⟨A, hA1, hA2⟩ := amounts P
  obtain ⟨U, D, ho, ht, hU, hD, sad⟩ := saddle (gameOf P) (gameOf_ok wf hA1 hA2) P.length (2 * P.length)
  have hlen : 1 ≤ P.length := by
    cases P with
    | nil => exact absurd rfl wf.ne
    | cons _ _ => simp
  -- the steps at a place
  have stepsOf : ∀ p ∈ P, (gameOf P).E p.1 = p.2.2.map (·.2) := fun p hp => by show (rowP P p.1).map (·.2) = _; rw [rowP_at wf hp]
  have sideOf : ∀ p ∈ P, (gameOf P).ours p.1 = p.2.1 := fun p hp => sideP_at wf hp
  have memOf : ∀ p ∈ P, p.1 ∈ (gameOf P).ps := fun p hp => List.mem_map_of_mem (f := (·.1)) hp
  have oursD : ∀ p ∈ P, p.2.1 = true → ∀ m ∈ p.2.2, D p.1 m.2.1 m.2.2 := fun p hp e m hm => (ho p.1 (memOf p hp) ((sideOf p hp).trans e)).1 m.2 (by rw [stepsOf p hp]; exact List.mem_map_of_mem (f := (·.2)) hm)
  have theirsU : ∀ p ∈ P, p.2.1 = false → ∀ m ∈ p.2.2, U p.1 m.2.1 m.2.2 := fun p hp e m hm => (ht p.1 (memOf p hp) ((sideOf p hp).trans e)).1 m.2 (by rw [stepsOf p hp]; exact List.mem_map_of_mem (f := (·.2)) hm)
  have oursU : ∀ p ∈ P, p.2.1 = true → ∃ m ∈ p.2.2, U p.1 m.2.1 m.2.2 := fun p hp e => by
    obtain ⟨x, hx, r⟩ := (ho p.1 (memOf p hp) ((sideOf p hp).trans e)).2
    rw [stepsOf p hp] at hx
    obtain ⟨m, hm, e2⟩ := List.mem_map.mp hx
    exact ⟨m, hm, by rw [e2]; exact r⟩
  have theirsD : ∀ p ∈ P, p.2.1 = false → ∃ m ∈ p.2.2, D p.1 m.2.1 m.2.2 := fun p hp e => by
    obtain ⟨x, hx, r⟩ := (ht p.1 (memOf p hp) ((sideOf p hp).trans e)).2
    rw [stepsOf p hp] at hx
    obtain ⟨m, hm, e2⟩ := List.mem_map.mp hx
    exact ⟨m, hm, by rw [e2]; exact r⟩
  obtain ⟨σs, hσs, hσU⟩ := star_plan wf true U oursU
  obtain ⟨τs, hτs, hτD⟩ := star_plan wf false D theirsD
  -- moves of both sides whose steps go up, go down
  have upOf : ∀ both : List (α × α), (∀ p ∈ P, p.2.1 = true → look p.1 both = look p.1 σs) → ∀ v u a, bothR P both v u a → U v u a := by
    rintro both hb v u a ⟨p, hp, rfl, w, h1, h2⟩
    cases e : p.2.1 with
    | true =>
      obtain ⟨w', m, g1, g2, g3⟩ := hσU p hp e
      rw [hb p hp e, g1] at h1
      cases h1
      rw [g2] at h2
      cases h2
      exact g3
    | false => exact theirsU p hp e (w, (u, a)) (look_mem h2)
  have dnOf : ∀ both : List (α × α), (∀ p ∈ P, p.2.1 = false → look p.1 both = look p.1 τs) → ∀ v u a, bothR P both v u a → D v u a := by
    rintro both hb v u a ⟨p, hp, rfl, w, h1, h2⟩
    cases e : p.2.1 with
    | false =>
      obtain ⟨w', m, g1, g2, g3⟩ := hτD p hp e
      rw [hb p hp e, g1] at h1
      cases h1
      rw [g2] at h2
      cases h2
      exact g3
    | true => exact oursD p hp e (w, (u, a)) (look_mem h2)
  -- good moves for a side
  let good : Bool → List (α × α) → Prop := fun f both => Valid P both ∧ ∀ p ∈ P, p.2.1 = f → look p.1 both = look p.1 (if f then σs else τs)
  have low : ∀ both, Valid P both → ∀ v ∈ keys P, Low (hereM P both v) ∧ (hereM P both v).2 ≤ P.length := fun both hb v hv => by
    obtain ⟨i, c, x, s0, s, w1, w2, h1, h2, e⟩ := course_round wf hb hv
    rw [e]
    refine ⟨lowM_low (by omega), ?_⟩
    have := lowM_le (t := s) (b := (c : Int)) (by omega)
    omega
  have cmp : ∀ b1 b2, good true b1 → good false b2 → ∀ v ∈ keys P, LE (hereM P b2 v) (hereM P b1 v) := fun b1 b2 g1 g2 v hv => by
    obtain ⟨i, c, x, s0, s, w1, w2, h1, h2, e⟩ := course_round wf g1.1 hv
    obtain ⟨i', c', x', s0', s', w1', w2', h1', h2', e'⟩ := course_round wf g2.1 hv
    rw [e, e']
    refine low_low (by omega) (by omega) ?_
    exact sad v x x' i c i' c' s0 s s0' s' (w1.mono (upOf b1 g1.2)) (w2.mono (upOf b1 g1.2)) (w1'.mono (dnOf b2 g2.2)) (w2'.mono (dnOf b2 g2.2)) (by omega) (by omega) (by omega) (by omega)
  have hb0 : Valid P (σs ++ τs) := valid_of (f := true) wf hσs hτs
  have g0t : good true (σs ++ τs) := ⟨hb0, fun p hp e => look_first wf hσs hp e⟩
  have g0f : good false (σs ++ τs) := ⟨hb0, fun p hp e => look_second wf hσs hp (by rw [e]; decide)⟩
  have cmpB : ∀ (f : Bool) b, good f b → ∀ v ∈ keys P, Bt f (hereM P (σs ++ τs) v) (hereM P b v) := fun f b g v hv => by
    cases f with
    | true => exact cmp b _ g g0f v hv
    | false => exact cmp _ b g0t g v hv
  have cmpB' : ∀ (f : Bool) b, good (!f) b → ∀ v ∈ keys P, Bt f (hereM P b v) (hereM P (σs ++ τs) v) := fun f b g v hv => by
    cases f with
    | true => exact cmp _ b g0t g v hv
    | false => exact cmp b _ g g0f v hv
  have viaD : ∀ p ∈ P, ∀ m ∈ p.2.2, D p.1 m.2.1 m.2.2 → LE (hereM P (σs ++ τs) m.2.1) (hereM P (σs ++ τs) p.1) := fun p hp m hm r => by
    obtain ⟨i, c, x, s0, s, w1, w2, h1, h2, e⟩ := course_round wf hb0 (memOf p hp)
    obtain ⟨i', c', x', s0', s', w1', w2', h1', h2', e'⟩ := course_round wf hb0 (wf.inn p hp m hm)
    rw [e, e']
    refine low_low (by omega) (by omega) ?_
    exact sad p.1 x x' i c (i' + 1) c' s0 s (m.2.2 + s0') s' (w1.mono (upOf _ g0t.2)) (w2.mono (upOf _ g0t.2)) (Wk.cons r (w1'.mono (dnOf _ g0f.2))) (w2'.mono (dnOf _ g0f.2)) (by omega) (by omega) (by omega) (by omega)
  have viaU : ∀ p ∈ P, ∀ m ∈ p.2.2, U p.1 m.2.1 m.2.2 → LE (hereM P (σs ++ τs) p.1) (hereM P (σs ++ τs) m.2.1) := fun p hp m hm r => by
    obtain ⟨i, c, x, s0, s, w1, w2, h1, h2, e⟩ := course_round wf hb0 (memOf p hp)
    obtain ⟨i', c', x', s0', s', w1', w2', h1', h2', e'⟩ := course_round wf hb0 (wf.inn p hp m hm)
    rw [e, e']
    refine low_low (by omega) (by omega) ?_
    exact sad p.1 x' x (i' + 1) c' i c (m.2.2 + s0') s' s0 s (Wk.cons r (w1'.mono (upOf _ g0t.2))) (w2'.mono (upOf _ g0t.2)) (w1.mono (dnOf _ g0f.2)) (w2.mono (dnOf _ g0f.2)) (by omega) (by omega) (by omega) (by omega)
  let star : Bool → List (α × α) := fun f => if f then σs else τs
  have hstar : ∀ f, star f ∈ plansM P f := fun f => by cases f <;> assumption
  have goodOne : ∀ f other, other ∈ plansM P (!f) → good f (star f ++ other) := fun f other h => ⟨valid_of wf (hstar f) h, fun p hp e => look_first wf (hstar f) hp e⟩
  have goodTwo : ∀ f one, one ∈ plansM P f → good (!f) (one ++ star (!f)) := fun f one h => ⟨valid_of wf h (hstar (!f)), fun p hp e => look_second wf h hp (by rw [e]; cases f <;> decide)⟩
  -- the law's own going through all
  have btflip : ∀ (f : Bool) (a b : Fr), Bt (!f) a b → Bt f b a := fun f a b h => by cases f <;> exact h
  have plans_ne : ∀ f, plansM P f ≠ [] := fun f e => by have := hstar f; rw [e] at this; simp at this
  have rowOf : ∀ f one, one ∈ plansM P f → keys (rowM P one (!f)) = keys P ∧ ∀ v ∈ keys P, ∃ r, look v (rowM P one (!f)) = some r ∧ 0 < r.2 ∧ (∃ other ∈ plansM P (!f), r = hereM P (one ++ other) v) ∧ ∀ other ∈ plansM P (!f), Bt f r (hereM P (one ++ other) v) := fun f one h1 => by
    obtain ⟨a1, a2⟩ := upd_all (!f) (keys P) wf.nd (fun (o : { o // o ∈ plansM P (!f) }) n => hereM P (one ++ o.1) n) (fun o n hn => (low _ (valid_of wf h1 o.2) n hn).1.pos) (plansM P (!f)).attach [] (.inr ⟨rfl, by simpa using plans_ne (!f)⟩) (fun k hk x hx => by simp [look] at hx)
    have e1 : (plansM P (!f)).attach.foldl (fun row x => (keys P).foldl (fun row n => upd1 (!f) row n (hereM P (one ++ x.1) n)) row) [] = rowM P one (!f) := by
      unfold rowM
      exact List.foldl_attach (f := fun row other => (keys P).foldl (fun row n => upd1 (!f) row n (hereM P (one ++ other) n)) row)
    rw [e1] at a1 a2
    refine ⟨a1, fun v hv => ?_⟩
    obtain ⟨r, r1, r2, r3, _, r5⟩ := a2 v hv
    refine ⟨r, r1, r2, ?_, fun other ho' => btflip f _ _ (r5 ⟨other, ho'⟩ (List.mem_attach _ _))⟩
    rcases r3 with r3 | ⟨x, _, r3⟩
    · simp [look] at r3
    · exact ⟨x.1, x.2, r3⟩
  have worthOf : ∀ f, worthsM P f (!f) = P.map fun p => (p.1, hereM P (σs ++ τs) p.1) := fun f => by
    obtain ⟨a1, a2⟩ := upd_all f (keys P) wf.nd (fun (o : { o // o ∈ plansM P f }) n => (look n (rowM P o.1 (!f))).getD (0, 1)) (fun o n hn => by
      obtain ⟨r, r1, r2, _⟩ := (rowOf f o.1 o.2).2 n hn
      show 0 < ((look n (rowM P o.1 (!f))).getD (0, 1)).2
      rw [r1]; exact r2) (plansM P f).attach [] (.inr ⟨rfl, by simpa using plans_ne f⟩) (fun k hk x hx => by simp [look] at hx)
    have e1 : (plansM P f).attach.foldl (fun row x => (keys P).foldl (fun row n => upd1 f row n ((look n (rowM P x.1 (!f))).getD (0, 1))) row) [] = worthsM P f (!f) := by
      unfold worthsM
      exact List.foldl_attach (f := fun row one => (keys P).foldl (fun row n => upd1 f row n ((look n (rowM P one (!f))).getD (0, 1))) row)
    rw [e1] at a1 a2
    refine table_ext (by rw [a1]; exact wf.nd) (by rw [a1, keys_map]) fun k hk => ?_
    rw [a1] at hk
    obtain ⟨z, z1, z2, z3, _, z5⟩ := a2 k hk
    rw [z1, look_map]
    obtain ⟨p, hp⟩ := look_some hk
    rw [hp]
    show some z = some (hereM P (σs ++ τs) k)
    have hlow := (low _ hb0 k hk).1
    -- z lies between
    obtain ⟨rs, rs1, rs2, ⟨os, hos, rs3⟩, _⟩ := (rowOf f (star f) (hstar f)).2 k hk
    have b1 : Bt f (hereM P (σs ++ τs) k) z := by
      have := z5 ⟨star f, hstar f⟩ (List.mem_attach _ _)
      have this' : Bt f ((look k (rowM P (star f) (!f))).getD (0, 1)) z := this
      rw [rs1] at this'
      have q : Bt f (hereM P (σs ++ τs) k) rs := by rw [rs3]; exact cmpB f _ (goodOne f os hos) k hk
      exact q.trans hlow.pos rs2 z2 this'
    rcases z3 with z3 | ⟨x, _, z3⟩
    · simp [look] at z3
    · obtain ⟨r, r1, r2, ⟨o, hoo, r3⟩, r4⟩ := (rowOf f x.1 x.2).2 k hk
      have zr : z = r := by rw [z3]; show (look k (rowM P x.1 (!f))).getD (0, 1) = r; rw [r1]; rfl
      have zlow : Low z := by rw [zr, r3]; exact (low _ (valid_of wf x.2 hoo) k hk).1
      have b2 : Bt f z (hereM P (σs ++ τs) k) := by
        rw [zr]
        exact (r4 (star (!f)) (hstar (!f))).trans r2 (low _ (valid_of wf x.2 (hstar (!f))) k hk).1.pos hlow.pos (cmpB' f _ (goodTwo f x.1 x.2) k hk)
      exact congrArg some (zlow.bt_antisymm hlow b2 b1)
  -- the program's tables
  have keysS : ∀ σ, keys (stepsM P σ) = keys P := fun σ => keys_map P _
  have stepsAtOf : ∀ σ, ∀ p ∈ P, stepsAt (stepsM P σ) p.1 = (if p.2.1 = true then [moveM p.2.2 ((look p.1 σ).getD p.1) p.1] else p.2.2.map (·.2)) := fun σ p hp => by
    unfold stepsAt stepsM
    rw [look_map (fun p => if p.2.1 = true then [moveM p.2.2 ((look p.1 σ).getD p.1) p.1] else p.2.2.map (·.2)) p.1 P, look_P wf hp]
    rfl
  have stepR : ∀ σ ∈ plansM P true, ∀ x u a, stepsR (stepsM P σ) x u a → ∃ p ∈ P, p.1 = x ∧ ∃ m ∈ p.2.2, m.2 = (u, a) ∧ (p.2.1 = true → look x σ = some m.1) := fun σ hσ x u a h => by
    have hx : x ∈ keys (stepsM P σ) := by
      refine Classical.byContradiction fun hc => ?_
      have h' : (u, a) ∈ stepsAt (stepsM P σ) x := h
      unfold stepsAt at h'
      rw [look_none.mpr hc] at h'
      simp at h'
    rw [keysS] at hx
    obtain ⟨p, hp, e⟩ := List.mem_map.mp hx
    have h' : (u, a) ∈ stepsAt (stepsM P σ) p.1 := by rw [e]; exact h
    rw [stepsAtOf σ p hp] at h'
    refine ⟨p, hp, e, ?_⟩
    by_cases hs : p.2.1 = true
    · rw [if_pos hs] at h'
      obtain ⟨w, m, g1, g2⟩ := plan_at wf hσ hp hs
      rw [g1] at h'
      have h2 : (u, a) = m := by
        have : (u, a) = moveM p.2.2 w p.1 := by simpa using h'
        rw [this]; unfold moveM; rw [g2]; rfl
      exact ⟨(w, m), look_mem g2, h2.symm, fun _ => by rw [← e]; exact g1⟩
    · rw [if_neg hs] at h'
      obtain ⟨m, hm, e2⟩ := List.mem_map.mp h'
      exact ⟨m, hm, e2, fun z => absurd z hs⟩
  have stp : ∀ σ ∈ plansM P true, ∀ v ∈ keys P, StepsOk (stepsM P σ) v := fun σ hσ v hv => by
    refine ⟨by rw [keysS]; exact hv, fun x u a h => ?_, fun x hx => ?_⟩
    · obtain ⟨p, hp, _, m, hm, e2, _⟩ := stepR σ hσ x u a h
      rw [keysS]
      have := wf.inn p hp m hm
      rw [e2] at this
      exact this
    · rw [keysS] at hx
      obtain ⟨p, hp, e⟩ := List.mem_map.mp hx
      rw [← e, stepsAtOf σ p hp]
      split
      · simp
      · simpa using wf.rows p hp
  have lenS : ∀ σ, (stepsM P σ).length = P.length := fun σ => by unfold stepsM; simp
  -- against the other side's best
  have lrUp : ∀ σ ∈ plansM P true, ∀ v ∈ keys P, ∃ r, leastM (stepsM P σ) v = some r ∧ Low r ∧ LE r (hereM P (σs ++ τs) v) := fun σ hσ v hv => by
    obtain ⟨r, hr, hlow, _⟩ := least_some (stp σ hσ v hv)
    refine ⟨r, hr, hlow, ?_⟩
    have hg := goodTwo true σ hσ
    obtain ⟨i, c, x, s0, s, w1, w2, h1, h2, e⟩ := course_round wf hg.1 hv
    have sub : ∀ a b t, bothR P (σ ++ star (!true)) a b t → stepsR (stepsM P σ) a b t := by
      rintro a b t ⟨p, hp, rfl, w, q1, q2⟩
      show (b, t) ∈ stepsAt (stepsM P σ) p.1
      rw [stepsAtOf σ p hp]
      by_cases hs : p.2.1 = true
      · rw [if_pos hs]
        rw [look_first wf hσ hp hs] at q1
        rw [q1]
        have : moveM p.2.2 w p.1 = (b, t) := by unfold moveM; rw [q2]; rfl
        show (b, t) ∈ [moveM p.2.2 w p.1]
        rw [this]; simp
      · rw [if_neg hs]
        exact List.mem_map_of_mem (f := (·.2)) (look_mem q2)
    have k := karp_le (stp σ hσ v hv) hr (w1.mono sub) (w2.mono sub) (by rw [lenS]; omega) h1
    have q : LE r (hereM P (σ ++ star (!true)) v) := by
      rw [e]
      exact k.trans hlow.pos (show (0 : Int) < c by omega) (lowM_low (by omega)).pos (le_low (by omega) (by omega) (Int.le_refl _))
    exact q.trans hlow.pos (low _ hg.1 v hv).1.pos (low _ hb0 v hv).1.pos (cmpB' true _ hg v hv)
  have lrStar : ∀ v ∈ keys P, leastM (stepsM P σs) v = some (hereM P (σs ++ τs) v) := fun v hv => by
    obtain ⟨r, hr, hlow, hle⟩ := lrUp σs hσs v hv
    obtain ⟨i, c, x, s0, s, w1, w2, h1, h2, e⟩ := course_round wf hb0 hv
    have up : ∀ a b t, stepsR (stepsM P σs) a b t → U a b t := fun a b t h => by
      obtain ⟨p, hp, rfl, m, hm, e2, e3⟩ := stepR σs hσs a b t h
      cases hs : p.2.1 with
      | true =>
        obtain ⟨w', m', g1, g2, g3⟩ := hσU p hp hs
        rw [e3 hs] at g1
        cases g1
        have := look_of_mem (wf.words p hp) hm
        rw [g2] at this
        cases this
        rw [e2] at g3
        exact g3
      | false =>
        have := theirsU p hp hs m hm
        rw [e2] at this
        exact this
    obtain ⟨r', hr', _, hge⟩ := karp_ge (stp σs hσs v hv) (p := s) (q := (c : Int)) (by omega) (fun i' c' y t1 t2 u1 u2 q1 q2 q3 =>
      sad v y x i' c' i c t1 t2 s0 s (u1.mono up) (u2.mono up) (w1.mono (dnOf _ g0f.2)) (w2.mono (dnOf _ g0f.2)) (by rw [lenS] at q2; exact q2) (by omega) (by rw [lenS] at q3; omega) (by omega))
    rw [hr] at hr'
    cases hr'
    have hlow0 := (low _ hb0 v hv).1
    have ge : LE (hereM P (σs ++ τs) v) r := by
      rw [e]
      exact (low_le (q := (c : Int)) (p := s) (by omega) (by omega) (Int.le_refl _)).trans (lowM_low (by omega)).pos (show (0 : Int) < c by omega) hlow.pos hge
    rw [hr, hlow.le_antisymm hlow0 hle ge]
  have lrEq : ∀ σ ∈ plansM P true, ((stepsM P σ).map fun s => (s.1, (leastM (stepsM P σ) s.1).getD (0, 1))) = P.map fun p => (p.1, (leastM (stepsM P σ) p.1).getD (0, 1)) := fun σ _ => by
    conv => lhs; arg 2; unfold stepsM
    rw [List.map_map]
    rfl
  have tabStar : ((stepsM P σs).map fun s => (s.1, (leastM (stepsM P σs) s.1).getD (0, 1))) = P.map fun p => (p.1, hereM P (σs ++ τs) p.1) := by
    rw [lrEq σs hσs]
    refine List.map_congr_left fun p hp => ?_
    rw [lrStar p.1 (memOf p hp)]
    rfl
  have tabs : ∀ po ∈ tablesM P, ∃ σ ∈ plansM P true, po = (σ, P.map fun p => (p.1, (leastM (stepsM P σ) p.1).getD (0, 1))) := fun po h => by
    obtain ⟨σ, hσ, e⟩ := List.mem_map.mp h
    exact ⟨σ, hσ, by rw [← e, lrEq σ hσ]⟩
  have tabLook : ∀ σ ∈ plansM P true, ∀ k ∈ keys P, ∀ x, look k (P.map fun p => (p.1, (leastM (stepsM P σ) p.1).getD (0, 1))) = some x → leastM (stepsM P σ) k = some x := fun σ hσ k hk x hx => by
    rw [look_map (fun p => (leastM (stepsM P σ) p.1).getD (0, 1))] at hx
    obtain ⟨q, hq⟩ := look_some hk
    rw [hq] at hx
    obtain ⟨r, hr, _⟩ := lrUp σ hσ k hk
    have : (leastM (stepsM P σ) k).getD (0, 1) = x := Option.some.inj hx
    rw [hr] at this ⊢
    exact congrArg some this
  have got : (σs, P.map fun p => (p.1, hereM P (σs ++ τs) p.1)) ∈ tablesM P := List.mem_map.mpr ⟨σs, hσs, by rw [tabStar]⟩
  refine ⟨hereM P (σs ++ τs), fun v hv => (low _ hb0 v hv).1, fun v hv => (low _ hb0 v hv).2, worthOf true, worthOf false, stp, ?_, ⟨_, got, rfl⟩, fun p hp => ?_⟩
  · -- the table of the greatest
    have hk : ∀ po ∈ tablesM P, keys po.2 = keys P := fun po h => by
      obtain ⟨σ, hσ, rfl⟩ := tabs po h
      exact keys_map P _
    have hpos : ∀ po ∈ tablesM P, ∀ k ∈ keys P, ∀ x, look k po.2 = some x → 0 < x.2 := fun po h k hk' x hx => by
      obtain ⟨σ, hσ, rfl⟩ := tabs po h
      have := tabLook σ hσ k hk' x hx
      obtain ⟨r, hr, hlow, _⟩ := lrUp σ hσ k hk'
      rw [this] at hr
      cases hr
      exact hlow.pos
    obtain ⟨h0, e0⟩ : ∃ h0 ∈ tablesM P, ((tablesM P).head?.map (·.2)).getD [] = h0.2 := by
      cases e : tablesM P with
      | nil => rw [e] at got; simp at got
      | cons a l => exact ⟨a, by simp, rfl⟩
    obtain ⟨a1, a2⟩ := max_all (keys P) wf.nd (tablesM P) h0.2 hk (hk h0 e0.1) hpos (hpos h0 e0.1)
    unfold tableM
    rw [e0.2]
    refine table_ext (by rw [a1]; exact wf.nd) (by rw [a1, keys_map]) fun k hk' => ?_
    rw [a1] at hk'
    obtain ⟨z, z1, z2, z3, _, z5⟩ := a2 k hk'
    rw [z1, look_map (fun p => hereM P (σs ++ τs) p.1)]
    obtain ⟨q, hq⟩ := look_some hk'
    rw [hq]
    show some z = some (hereM P (σs ++ τs) k)
    have hz : ∃ po ∈ tablesM P, look k po.2 = some z := by
      rcases z3 with z3 | z3
      · exact ⟨h0, e0.1, z3⟩
      · exact z3
    obtain ⟨po, hpo, hz⟩ := hz
    obtain ⟨σ, hσ, rfl⟩ := tabs po hpo
    obtain ⟨r, hr, hlow, hle⟩ := lrUp σ hσ k hk'
    rw [tabLook σ hσ k hk' z hz] at hr
    cases hr
    have ge := z5 _ got (hereM P (σs ++ τs) k) (by rw [look_map (fun p => hereM P (σs ++ τs) p.1), hq]; rfl)
    exact congrArg some (hlow.le_antisymm (low _ hb0 k hk').1 hle ge)
  · -- the greatest, or the least, behind the moves
    exact opt_of wf (fun v hv => (low _ hb0 v hv).1) p hp (fun m hm r => viaD p hp m hm r) (fun m hm r => viaU p hp m hm r) (oursD p hp) (theirsU p hp) (oursU p hp) (theirsD p hp)
end
end GW

set_option Elab.async false
set_option linter.all false
set_option maxRecDepth 100000
/-! the text by places; what stands at an address -/
namespace Gw
open PySem PySem.Spec PyProof.Rows L2 GW
def top (i : Nat) : Stmt := PySem.Challenge.pw_gameworths_k34_whole_mean_worths.main.body.getD i (.Pass ⟨0, 0, 0, 0⟩)
abbrev sLowest : Stmt := top 8
abbrev sLess : Stmt := top 9
abbrev sIsInteger : Stmt := top 13
abbrev sIsList : Stmt := top 14
abbrev sIsName : Stmt := top 15
abbrev sIsStep : Stmt := top 18
abbrev sIsPlace : Stmt := top 19
abbrev sInit : Stmt := inClass (top 21) 0
abbrev sPlaces : Stmt := inClass (top 21) 1
abbrev sCheck : Stmt := inClass (top 21) 2
abbrev sEq : Stmt := inClass (top 21) 6
abbrev sPlans : Stmt := top 22
abbrev sKept : Stmt := top 23
abbrev sWalks : Stmt := top 24
abbrev sLeast : Stmt := top 25
abbrev sBest : Stmt := top 26
abbrev sWorths : Stmt := top 27
abbrev sWorth : Stmt := top 28
abbrev sSteps : Stmt := top 29
abbrev sTLowest : Stmt := top 31
abbrev sTLess : Stmt := top 32
abbrev sTBest : Stmt := top 33
abbrev sAPlan : Stmt := top 34
abbrev sAPlans : Stmt := top 35
abbrev sACourse : Stmt := top 36
abbrev sAMean : Stmt := top 37
abbrev sAWorths : Stmt := top 38
abbrev sARing : Stmt := top 39
abbrev sStart : Stmt := top 40
abbrev sDraw : Stmt := top 41
abbrev sPick : Stmt := top 42
abbrev sMixed : Stmt := top 43
abbrev sSame : Stmt := top 44
abbrev sName : Stmt := top 45
abbrev sNames : Stmt := top 46
abbrev sLaw : Stmt := top 47

/-- names that no module binds -/
structure Blt (mg : Str → Option Value) : Prop where
  abs : mg "abs" = none
  len : mg "len" = none
  range : mg "range" = none
  list : mg "list" = none
  dict : mg "dict" = none
  tuple : mg "tuple" = none
  isinst : mg "isinstance" = none
  all : mg "all" = none
  int : mg "int" = none
  bool : mg "bool" = none
  str : mg "str" = none
  zip : mg "zip" = none
  sum : mg "sum" = none

theorem same_upd {H : Hp} {p : Addr} {o : HO} (h : H p = none) : Same H (upd H p o) := fun b x e => by
  rw [upd_ne (ne_of_none e h)]
  exact e
/-- a fraction -/
abbrev frT (f : Fr) : HO := .tup [.int f.1, .int f.2]
def FrV (H : Hp) (v : V) (f : Fr) : Prop := ∃ p, v = .ref p ∧ H p = some (frT f)
theorem FrV.mono {H H' : Hp} {v : V} {f : Fr} (h : FrV H v f) (s : Same H H') : FrV H' v f := let ⟨p, e, q⟩ := h; ⟨p, e, s _ _ q⟩

section
variable {P : Program} {w : World} {K : PySem.W.Frag} {mg : Str → Option Value} {base : Heap}
/-- lowest(top, bottom), t_lowest -/
def spLow : Sp := fun vs H Q _ => ∃ t b : Int, vs = [.int t, .int b] ∧ 0 < b ∧ b ≤ 1000 ∧ ∀ p H', Same H H' → H' p = some (frT (lowM t b)) → Q (.ref p) H'
def spLess : Sp := fun vs H Q _ => ∃ (x y : V) (f g : Fr), vs = [x, y] ∧ FrV H x f ∧ FrV H y g ∧ (0 < f.2 ∧ f.2 ≤ 1000) ∧ (0 < g.2 ∧ g.2 ≤ 1000) ∧ Q (.bl (lessM f g)) H
theorem scLowest : FnScope ["top", "bottom", "one", "other"] ["top", "bottom"] (defScope sLowest) := ⟨rfl, rfl, rfl, by decide +kernel, rfl, by decide +kernel, by decide +kernel⟩
theorem abs_nat (t : Int) : (if t < 0 then -t else t) = (t.natAbs : Int) := by split <;> omega
theorem gcd_le {t b : Int} (h0 : 0 < b) : (Int.gcd t b : Int) ≤ b := by
  have := Int.gcd_dvd_right t b
  exact Int.le_of_dvd h0 this
theorem ok_lowest {f : Addr} {fd : FuncData} (F : Fun K "lowest" "lowest" sLowest f fd) (B : Blt mg) : FnOk P w K mg base CX0 1 f fd ["top", "bottom"] spLow := by
  refine F.ok scLowest (fun vs H Q E h => ?_) (fun cdv A outer s H vs Q E hr h => ?_)
  · obtain ⟨t, b, rfl, _⟩ := h
    rfl
  · obtain ⟨t, b, rfl, h0, h1, k⟩ := h
    refine ⟨_, pss_cons (ps_par rfl scLowest.nd (i := 2) (j := 3) rfl rfl (by decide) rfl rfl (pa_cons (pe_callB call_abs (by rfl) B.abs boot_abs (pa_cons (pv 0) pa_nil)) (pa_cons (pv 1) pa_nil)) (by rfl))
      (pss_cons (ps_while PassesOwn.never (pt_cmpR op_gt (pv 3) pe_int (nomark _))
        (pss_one (ps_par rfl scLowest.nd (i := 2) (j := 3) rfl rfl (by decide) rfl rfl (pa_cons (pv 3) (pa_cons (pe_op op_mod (pv 2) (pv 3)) pa_nil)) (by rfl))))
      (pss_one (ps_ret (pe_tup (pa_cons (pe_op op_fdiv (pv 0) (pv 2)) (pa_cons (pe_op op_fdiv (pv 1) (pv 2)) pa_nil)))))), ?_⟩
    refine ⟨_, rfl, t, rfl, _, rfl, _, _, rfl, ?_⟩
    -- the loop
    refine ⟨fun m σ H1 => ∃ a b' : Nat, σ = [some (.int t), some (.int b), some (.int (a : Int)), some (.int (b' : Int))] ∧ H1 = H ∧ b' = m ∧ Nat.gcd a b' = Int.gcd t b, ⟨_, t.natAbs, b.toNat, ?_, rfl, rfl, ?_⟩, ?_⟩
    · rw [abs_nat, Int.toNat_of_nonneg (by omega)]; rfl
    · show Nat.gcd t.natAbs b.toNat = Nat.gcd t.natAbs b.natAbs
      rw [show b.toNat = b.natAbs by omega]
    · rintro m σ H1 ⟨a, b', rfl, rfl, rfl, hg⟩
      refine ⟨_, rfl, _, _, rfl, rfl, _, rfl, ?_⟩
      refine ite2 (fun hp => ?_) (fun hp => ?_)
      · have hp' : 0 < b' := by have := of_decide_eq_true hp; omega
        refine ⟨_, fun σ' H' hn => ⟨_, Nat.mod_lt a hp', hn⟩, _, rfl, _, rfl, _, rfl, _, _, rfl, rfl, by show (0 : Int) < (b' : Int); omega, _, _, rfl, b', a % b', ?_, rfl, rfl, ?_⟩
        · rfl
        · rw [Nat.gcd_comm, ← Nat.gcd_rec, Nat.gcd_comm]; exact hg
      · have hp' : b' = 0 := by
          have : ¬ (0 : Int) < (b' : Int) := fun q => hp (decide_eq_true q)
          omega
        subst hp'
        rw [Nat.gcd_zero_right] at hg
        have ge := gcd_pos (t := t) h0
        have gl := gcd_le (t := t) h0
        have cd : CDiv t (a : Int) ∧ CDiv b (a : Int) := ⟨⟨by omega, by omega⟩, ⟨by omega, by omega⟩⟩
        refine ⟨_, rfl, _, rfl, _, _, rfl, rfl, cd.1, _, rfl, _, rfl, _, _, rfl, rfl, cd.2, by show 2 ≤ sizeLine; decide, fun p hp => ?_⟩
        refine k p _ (same_upd hp) ?_
        rw [upd_same, hg]
        rfl
end
end Gw

set_option Elab.async false
set_option linter.all false
set_option maxRecDepth 100000
set_option maxHeartbeats 4000000
/-! rules of our own -/
namespace Gw
open PySem PySem.Spec PyProof.Rows L2 GW

/-! ### == and != of two dicts whose values are data -/
section
variable {X : Cx} {pins : List (Addr × Obj)} {σ : L2.St} {H : Hp} {s : Shared}
/-- the values of two dicts under the same keys, as data -/
structure TabEq (K : PySem.W.Frag) (H : Hp) (a b : Addr) (ks ls : List (Key × V)) (fa fb : Key → PyData) : Prop where
  one : H a = some (.dK ks)
  two : H b = some (.dK ls)
  len : ks.length = ls.length
  val : ∀ p ∈ ks, ∃ u, valV ls p.1 = some u ∧ Dp K H p.2 (fa p.1) ∧ Dp K H u (fb p.1)
  sha : ∀ p ∈ ks, SeqAt.shaped (fa p.1) = true
  shb : ∀ p ∈ ks, SeqAt.shaped (fb p.1) = true
theorem tab_hits (I : Inv X pins σ H s) {A : Around} (room : A.in1.units + 64 < cLine) {fa fb : Key → PyData} {ls : List (Key × V)} {lb : List (Key × Value)} (rb : KV ls lb) : ∀ {ks : List (Key × V)} {la : List (Key × Value)}, KV ks la →
    (∀ p ∈ ks, ∃ u, valV ls p.1 = some u ∧ Dp X.K H p.2 (fa p.1) ∧ Dp X.K H u (fb p.1)) → (∀ p ∈ ks, SeqAt.shaped (fa p.1) = true) → (∀ p ∈ ks, SeqAt.shaped (fb p.1) = true) →
    PySem.W.KeqHits A.in1 s lb la (ks.all fun p => PyData.eqv (fa p.1) (fb p.1)) := by
  intro ks la ra
  unfold KV at ra
  induction ra with
  | nil => intro _ _ _; exact .nil
  | @cons p q ps qs hpq _ more =>
    intro hv ha hb
    obtain ⟨e1, r1⟩ := hpq
    obtain ⟨u, eu, d1, d2⟩ := hv p (by simp)
    have ro : RelO (some u) (valueAt lb p.1) := by rw [← eu]; exact rb.val p.1
    obtain ⟨y, ey, ry⟩ := ro.some_of
    obtain ⟨as, q1⟩ := Dp.reads I _ p.2 q.2 d1 r1
    obtain ⟨bs, q2⟩ := Dp.reads I _ u y d2 ry
    obtain ⟨key, val⟩ := q
    have e1' : p.1 = key := e1
    rw [List.all_cons]
    have e2 := ey
    rw [e1'] at e2
    exact .hit e2 (PySem.W.keq_at (A := A) q1 q2 (ha p (by simp)) (hb p (by simp)) room) (more (fun r hr => hv r (by simp [hr])) (fun r hr => ha r (by simp [hr])) fun r hr => hb r (by simp [hr]))
end
section
variable {X : Cx}
def rTabEq (K : PySem.W.Frag) : R2 := fun x y H Q => ∃ a b ks ls fa fb, x = .ref a ∧ y = .ref b ∧ TabEq K H a b ks ls fa fb ∧ Q (.bl (ks.all fun p => PyData.eqv (fa p.1) (fb p.1))) H
def rTabNe (K : PySem.W.Frag) : R2 := fun x y H Q => ∃ a b ks ls fa fb, x = .ref a ∧ y = .ref b ∧ TabEq K H a b ks ls fa fb ∧ Q (.bl (!ks.all fun p => PyData.eqv (fa p.1) (fb p.1))) H
theorem op_tabEq (room : X.A.units + 66 < cLine) : OpR X (compareOp .Eq) (rTabEq X.K) := by
  intro pins s σ H x y v u Q I rx ry h
  obtain ⟨a, b, ks, ls, fa, fb, rfl, rfl, T, q⟩ := h
  obtain rfl : v = Value.ref a := rx
  obtain rfl : u = Value.ref b := ry
  obtain ⟨_, na, la, ra, da⟩ := dk_of I.hok T.one
  obtain ⟨_, nb, lb, rb, db⟩ := dk_of I.hok T.two
  have el : la.length = lb.length := by rw [← ra.length, ← rb.length]; exact T.len
  refine PySem.W.keq_eq (knd := mixKind X.prog X.w) na nb da db (by omega) (fun _ => tab_hits I (A := X.A) (by show X.A.units + 1 + 64 < cLine; omega) rb ra T.val T.sha T.shb) ?_
  rw [el, beq_self_eq_true, Bool.true_and]
  exact ⟨.bl _, H, I, rfl, q⟩
theorem op_tabNe (room : X.A.units + 66 < cLine) : OpR X (compareOp .NotEq) (rTabNe X.K) := by
  intro pins s σ H x y v u Q I rx ry h
  obtain ⟨a, b, ks, ls, fa, fb, rfl, rfl, T, q⟩ := h
  obtain rfl : v = Value.ref a := rx
  obtain rfl : u = Value.ref b := ry
  obtain ⟨_, na, la, ra, da⟩ := dk_of I.hok T.one
  obtain ⟨_, nb, lb, rb, db⟩ := dk_of I.hok T.two
  have el : la.length = lb.length := by rw [← ra.length, ← rb.length]; exact T.len
  refine PySem.W.keq_ne (knd := mixKind X.prog X.w) na nb da db (by omega) (fun _ => tab_hits I (A := X.A) (by show X.A.units + 1 + 64 < cLine; omega) rb ra T.val T.sha T.shb) ?_
  rw [el, beq_self_eq_true, Bool.true_and]
  exact ⟨.bl _, H, I, rfl, q⟩
end

/-! ### {**one, k: v} -/
section
variable {prog : Program} {w : World} {A : Around} {E : Value → Shared → Prop} {s : Shared}
theorem put_fresh {d : Addr} {kvs : List (Key × Value)} {k : Key} {key val : Value} {Q : Unit → Shared → Prop} (hk : (mixKind prog w).is k key = true) (dd : s.heap.DictOf (mixKind prog w) d kvs) (fr : k ∉ kvs.map (·.1)) (sz : kvs.length ≤ sizeLine)
    (out : ∀ h', h'.DictOf (mixKind prog w) d (kvs ++ [(k, val)]) → Heap.SameBut d s.heap h' → Q () { s with heap := h' }) : wpAny (model prog w) A (dictPut d ((mixKind prog w).hash k) key val) Q E s := by
  obtain ⟨ob, ents, epo, g1, g2, g3, g4, g5, g6⟩ := dd
  have esz : ents.size ≤ sizeLine := by
    have := g5.length
    rw [Array.length_toList] at this
    omega
  unfold dictPut
  refine wpAny_bind (wpAny_dictFind_of hk g1 g3 g4 ?_)
  have same : (ents.findIdx? fun e => (mixKind prog w).is k e.key) = kvs.findIdx? fun kv => decide (kv.1 = k) := by
    rw [← g5.findIdx k]
    obtain ⟨l⟩ := ents
    simp
  have no : (ents.findIdx? fun e => (mixKind prog w).is k e.key) = none := by
    rw [same, List.findIdx?_eq_none_iff]
    intro x hx
    refine decide_eq_false fun e => fr ?_
    rw [← e]; exact List.mem_map_of_mem (f := (·.1)) hx
  rw [no]
  refine wpAny_updateDictKeys (hz := esz) g1 g3 (out _ ⟨_, _, epo + 1, Heap.get?_update_self _ g1 (Obj.isFreed_of_dict (Obj.data_mapDictKeys g3 _)), g2.mapDictKeys _, Obj.data_mapDictKeys g3 _, g4.push hk _, ?_, ?_⟩ (Heap.SameBut.update ..))
  · have := g5.append hk ((mixKind prog w).hash k) val
    obtain ⟨l⟩ := ents
    simpa using this
  · rw [List.map_append, List.nodup_append]
    refine ⟨g6, by simp, fun x hx y hy => ?_⟩
    have ey : y = k := by simpa using hy
    rw [ey]; rintro rfl; exact fr hx
theorem merge_fresh {d a : Addr} {kvs more : List (Key × Value)} {Q : Unit → Shared → Prop} (hda : d ≠ a) (na : (a == sysModules) = false) (dd : s.heap.DictOf (mixKind prog w) d kvs) (da : s.heap.DictOf (mixKind prog w) a more)
    (fr : ((kvs ++ more).map (·.1)).Nodup) (sz : kvs.length + more.length ≤ sizeLine)
    (out : ∀ h', h'.DictOf (mixKind prog w) d (kvs ++ more) → h'.DictOf (mixKind prog w) a more → Heap.SameBut d s.heap h' → Q () { s with heap := h' }) : wpAny (model prog w) A (mergeMapping d (.ref a) false) Q E s := by
  obtain ⟨od, esd, epd, d1, d2, d3, d4, d5, d6⟩ := id dd
  obtain ⟨oa, esa, epa, a1, a2, a3, a4, a5, a6⟩ := id da
  unfold mergeMapping
  refine wpAny_bind (wpAny_isInstance (T := "dict") da.typeIs PySem.F.sub_dict_dict ?_)
  rw [if_pos rfl]
  refine wpAny_bind (wpAny_specialOf da.typeIs PySem.F.slot_dict_iter.lookup ?_)
  refine wpAny_bind (wpAny_pure ?_)
  simp only [beq_self_eq_true]
  rw [if_neg (by rw [na]; exact Bool.false_ne_true)]
  refine wpAny_bind (wpAny_dictEntries d1 d3 ?_)
  -- the loop proper
  have loop : wpAny (model prog w) A (do
      let l ← dictEntries a
      let epoch ← dictEpoch a
      forIn (List.range l.size) PUnit.unit fun i (_ : PUnit) => (do
        let l2 ← dictEntries a
        match l2[i]? with
          | some e => do
            holding [e.key, e.val] (dictPut d e.hash e.key e.val)
            let ep2 ← dictEpoch a
            if (ep2 != epoch) = true then do
                (unsupported "dict.changed-during-merge" : Sem PUnit)
                pure (ForInStep.yield PUnit.unit)
              else pure (ForInStep.yield PUnit.unit)
          | _ => do
            (unsupported "dict.changed-during-merge" : Sem PUnit)
            pure (ForInStep.yield PUnit.unit) : Sem (ForInStep PUnit))
      pure ()) Q E s := by
    have esz : more.length = esa.size := by
      rw [← a5.length]
      exact Array.length_toList
    refine wpAny_bind (wpAny_dictEntries a1 a3 (wpAny_bind (wpAny_dictEpoch a1 a3 (wpAny_bind ?_))))
    rw [List.range_eq_range']
    refine wpAny_forIn_list _ (fun left _ t => ∃ (g : Heap) (n : Nat), t = { s with heap := g } ∧ left = List.range' n (esa.size - n) ∧ n ≤ esa.size ∧ g.DictOf (mixKind prog w) d (kvs ++ more.take n) ∧ g.get? a = some oa ∧ Heap.SameBut d s.heap g)
      _ ?_ ?_ _ _ ⟨s.heap, 0, rfl, by simp, Nat.zero_le _, by simpa using dd, a1, Heap.SameBut.refl _ _⟩
    · rintro x left _ t ⟨g, n, rfl, el, hn, gd, ga, gs⟩
      have lt : n < esa.size := by
        refine Nat.lt_of_not_le fun q => ?_
        rw [Nat.sub_eq_zero_of_le q] at el
        simp at el
      have el2 : esa.size - n = (esa.size - (n + 1)) + 1 := by omega
      rw [el2, List.range'_succ] at el
      injection el with ex er
      subst ex
      have lm : x < more.length := by omega
      refine wpAny_bind (wpAny_dictEntries ga a3 ?_)
      rw [Array.getElem?_eq_getElem lt]
      obtain ⟨⟨k, v⟩, hkv⟩ : ∃ kv, more[x]? = some kv := ⟨more[x], List.getElem?_eq_getElem lm⟩
      obtain ⟨b1, b2⟩ := a5.get? (e := esa[x]) (by simp [lt]) hkv
      obtain ⟨k2, b3, b4⟩ := a4 esa[x] (Array.getElem_mem lt)
      have ek : k2 = k := (mixKind prog w).inj _ _ _ b3 b1
      have tk : more.take (x + 1) = more.take x ++ [(k, v)] := by rw [List.take_add_one, hkv]; rfl
      have nd2 : ((kvs ++ more.take (x + 1)).map (·.1)).Nodup := by
        refine fr.sublist ?_
        rw [List.map_append, List.map_append]
        exact List.Sublist.append_left ((List.take_sublist _ _).map _) _
      show wpAny _ _ (holding [esa[x].key, esa[x].val] (dictPut d esa[x].hash esa[x].key esa[x].val) >>= _) _ _ _
      rw [b4, ek, b2]
      refine wpAny_bind (wpAny_holding (put_fresh b1 gd ?_ ?_ fun g2 gd2 gs2 => ?_))
      · rw [tk, ← List.append_assoc, List.map_append, List.nodup_append] at nd2
        exact fun hm => nd2.2.2 k hm k (by simp) rfl
      · rw [List.length_append, List.length_take]; omega
      · have ga2 : g2.get? a = some oa := (gs2.2 a (Ne.symm hda)).trans ga
        refine wpAny_bind (wpAny_dictEpoch ga2 a3 ?_)
        rw [if_neg (by simp)]
        refine wpAny_pure ⟨g2, x + 1, rfl, er, lt, ?_, ga2, gs.trans gs2⟩
        rw [tk, ← List.append_assoc]; exact gd2
    · rintro _ t ⟨g, n, rfl, el, hn, gd, ga, gs⟩
      have en : n = esa.size := by
        refine Nat.le_antisymm hn (Nat.le_of_not_lt fun q => ?_)
        have el2 : esa.size - n = (esa.size - (n + 1)) + 1 := by omega
        rw [el2, List.range'_succ] at el
        exact nomatch el
      rw [en, ← esz, List.take_length] at gd
      exact wpAny_pure (out g gd ⟨oa, esa, epa, ga, a2, a3, a4, a5, a6⟩ gs)
  by_cases em : esd.isEmpty = true
  · rw [if_pos em]
    refine wpAny_bind (wpAny_dictEntries a1 a3 ?_)
    have skip : (forIn esa PUnit.unit fun e (_ : PUnit) => (match e.key with
        | Value.ref k => do
          let eq ← specialOf e.key (Str.ofString "__eq__")
          if (eq != some (Value.builtin "object.__eq__")) = true then
              if (Array.filter (fun x => x.hash == e.hash) esa).size > 1 then do
                (unsupported "dict.merge-into-an-empty-dict:keys-of-equal-hash" : Sem PUnit)
                pure (ForInStep.yield PUnit.unit)
              else pure (ForInStep.yield PUnit.unit)
            else pure (ForInStep.yield PUnit.unit)
        | _ => pure (ForInStep.yield PUnit.unit) : Sem (ForInStep PUnit))) = pure PUnit.unit := by
      rw [← Array.forIn_toList]
      refine forIn_yield_id _ fun e he c => ?_
      obtain ⟨k, b1, _⟩ := a4 e (Array.mem_toList_iff.mp he)
      rcases keyIs_shape b1 with ⟨i, t, _, eq⟩ | ⟨z, t, _, eq⟩
      · rw [eq]
      · rw [eq]
    refine wpAny_bind ?_
    erw [skip]
    exact wpAny_pure loop
  · rw [if_neg em]
    exact loop
end
end Gw

set_option Elab.async false
set_option linter.all false
set_option maxRecDepth 100000
set_option maxHeartbeats 4000000
namespace Gw
open PySem PySem.Spec PyProof.Rows L2 GW
section
variable {X : Cx}
def tStar (to tk tv : TE) : TE := fun σ H Q => ∀ d, H d = none → to σ (upd H d (.dK [])) fun x H1 => ∃ (a : Addr) (ks : List (Key × V)), x = .ref a ∧ a ≠ d ∧ H1 d = some (.dK []) ∧ H1 a = some (.dK ks) ∧
  ∀ e, (upd H1 d (.dK ks)) e = none → tk σ (upd (upd H1 d (.dK ks)) e (.dK [])) fun y H2 => tv σ H2 fun z H3 => ∃ key, y = kV key ∧ key ∉ ks.map (·.1) ∧ H3 e = some (.dK []) ∧ H3 d = some (.dK ks) ∧ e ≠ d ∧ ks.length < sizeLine ∧
    Q (.ref d) (upd (upd H3 e (.dK [(key, z)])) d (.dK (ks ++ [(key, z)])))
theorem kv_keys {ks : List (Key × V)} {la : List (Key × Value)} (r : KV ks la) : la.map (·.1) = ks.map (·.1) := by
  unfold KV at r
  induction r with
  | nil => rfl
  | cons e _ ih => rw [List.map_cons, List.map_cons, ih, e.1]
theorem kv_app {ks ms : List (Key × V)} {la ma : List (Key × Value)} (r : KV ks la) (q : KV ms ma) : KV (ks ++ ms) (la ++ ma) := by
  unfold KV at r q ⊢
  induction r with
  | nil => exact q
  | cons e _ ih => exact .cons e ih
theorem pe_star {o k v : Expr} {pos : Pos} {to tk tv : TE} (ho : PE X o to) (hk : PE X k tk) (hv : PE X v tv) : PE X (.Dict [none, some k] [o, v] pos) (tStar to tk tv) := by
  refine ⟨fun pins s σ H Q I q => ?_⟩
  rw [arm_eval_Dict]
  refine wpAny_bind (wpAny_standAt ?_)
  show wpAny _ _ (dictDisplay [(none, do let x ← eval o X.env; standAt pos; pure x), (some (eval k X.env), do let x ← eval v X.env; standAt pos; pure x)]) _ _ _
  unfold dictDisplay
  simp only [List.forIn_cons, List.forIn_nil]
  refine wpAny_bind (wpAny_bind (wpAny_bind ?_))
  simp only [List.isEmpty_nil, if_true]
  refine wpAny_pure ?_
  refine wpAny_bind (wpAny_alloc ?_)
  have hn := I.hok.fresh (Nat.le_refl s.heap.objs.size)
  have I1 := I.laid (a := s.heap.objs.size) (o := .dK []) (h' := s.heap.push { cls := .type "dict", data := .dict #[] }) (t' := s.toks) (fun _ _ g => Heap.get?_push_of_some _ g) (Nat.le_refl _) (dk_empty s.heap I.big)
  generalize hd : s.heap.objs.size = d at hn I1 ⊢
  refine wpAny_bind (wpAny_holding (wpAny_bind (thn (ho.run pins _ σ _ _ I1 (q d hn)) fun u s2 hu => wpAny_bind (wpAny_standAt (wpAny_pure ?_)))))
  obtain ⟨x, H1, I2, rx, a, ks, rfl, nad, h1d, h1a, q2⟩ := hu
  obtain rfl : u = Value.ref a := rx
  obtain ⟨z1, nd, ld, rd, dd⟩ := dk_of I2.hok h1d
  obtain ⟨z2, na, la, ra, da⟩ := dk_of I2.hok h1a
  have eld : ld = [] := by cases rd; rfl
  subst eld
  have lal : la.length = ks.length := ra.length.symm
  obtain ⟨_, _, _, _, _, _, _, _, ndl⟩ := id da
  refine wpAny_bind (wpAny_onRaise (wpAny_tryCatch (wpAny_onRaise (wpAny_holding (merge_fresh nad.symm na dd da (by simpa using ndl) (by simp; omega) fun h' dd' da' hs => ?_)))))
  have I3 : Inv X pins σ (upd H1 d (.dK ks)) { s2 with heap := h' } :=
    d_write I2 (by rw [h1d]; exact True.intro) hs (let ⟨o', _, _, ho', _⟩ := dd'; ⟨o', ho'⟩) (dk_new z2 nd ra (by simpa using dd'))
  refine wpAny_pure ?_
  dsimp only
  refine wpAny_bind ?_
  simp only [List.nil_append, List.length_singleton]
  rw [if_neg (by decide)]
  refine wpAny_pure ?_
  dsimp only
  refine wpAny_pure ?_
  refine wpAny_bind ?_
  rw [if_neg (by simp)]
  dsimp only
  generalize hs3 : ({ s2 with heap := h' } : Shared) = s3 at I3 ⊢
  have nn := I3.hok.fresh (Nat.le_refl s3.heap.objs.size)
  have I4 := I3.laid (a := s3.heap.objs.size) (o := .dK []) (h' := s3.heap.push { cls := .type "dict", data := .dict #[] }) (t' := s3.toks) (fun _ _ g => Heap.get?_push_of_some _ g) (Nat.le_refl _) (dk_empty s3.heap I3.big)
  refine wpAny_bind (wpAny_holding (wpAny_subDict (knd := mixKind X.prog X.w) (by show 1 ≤ 15; decide) (evalPairs_cons ?_)))
  generalize hsz : s3.heap.objs.size = e at nn I4 ⊢
  refine thn (hk.run pins _ σ _ _ I4 (q2 e nn)) fun kv s4 ⟨y, H4, I5, ry, q4⟩ => ?_
  refine wpAny_bind (thn (hv.run pins s4 σ H4 _ I5 q4) fun vv s5 ⟨z, H5, I6, rz, key, ey, kfr, h5e, h5d, ned, ksz, q6⟩ => wpAny_bind (wpAny_standAt (wpAny_pure ?_)))
  subst ey
  refine evalPairs_nil ⟨[(key, vv)], ⟨kV_is ry, rfl, True.intro⟩, ?_, fun g gd gs => ?_⟩
  · obtain ⟨_, _, le, re, de⟩ := dk_of I6.hok h5e
    cases re
    exact de
  -- the second merge
  have gd2 : g.DictOf (mixKind X.prog X.w) e [(key, vv)] := gd
  have I7 : Inv X pins σ (upd H5 e (.dK [(key, z)])) { s5 with heap := g, toks := s5.toks + [(kv, vv)].length } :=
    d_write I6 (by rw [h5e]; exact True.intro) gs (let ⟨o', _, _, ho', _⟩ := gd2; ⟨o', ho'⟩) (dk_new (by simp; decide) (let ⟨_, ne, _⟩ := dk_of I6.hok h5e; ne) (.cons ⟨rfl, rz⟩ .nil) gd2)
  generalize hs6 : ({ s5 with heap := g, toks := s5.toks + [(kv, vv)].length } : Shared) = s6 at I7 ⊢
  have h6d : (upd H5 e (.dK [(key, z)])) d = some (.dK ks) := by rw [upd_ne ned.symm]; exact h5d
  obtain ⟨z6, nd6, ld6, rd6, dd6⟩ := dk_of I7.hok h6d
  obtain ⟨_, ne6, le6, re6, de6⟩ := dk_of I7.hok (upd_same (H := H5) (a := e) (o := .dK [(key, z)]))
  have kl6 := kv_keys rd6
  have ele : le6 = [(key, vv)] ∨ ∃ v2, le6 = [(key, v2)] ∧ RelV z v2 := by
    cases re6 with
    | @cons p q _ _ h1 h2 =>
      cases h2
      obtain ⟨h3, h4⟩ := h1
      exact .inr ⟨q.2, by have h3' : key = q.1 := h3; rw [h3'], h4⟩
  have lel : le6.length = 1 := by rcases ele with q | ⟨_, q, _⟩ <;> rw [q] <;> rfl
  have kle := kv_keys re6
  refine wpAny_bind (wpAny_onRaise (wpAny_holding (merge_fresh ned.symm ne6 dd6 de6 ?_ ?_ fun h7 dd7 de7 hs7 => wpAny_pure (wpAny_pure ?_))))
  · rw [List.map_append, kl6, kle, List.nodup_append]
    obtain ⟨_, _, _, _, _, _, _, _, nd7⟩ := id dd6
    rw [kl6] at nd7
    refine ⟨nd7, by simp, fun x hx y hy => ?_⟩
    have ey : y = key := by simpa using hy
    rw [ey]; rintro rfl; exact kfr hx
  · rw [← rd6.length, lel]; omega
  · refine ⟨.ref d, upd (upd H5 e (.dK [(key, z)])) d (.dK (ks ++ [(key, z)])), ?_, rfl, q6⟩
    refine d_write I7 (by rw [h6d]; exact True.intro) hs7 (let ⟨o', _, _, ho', _⟩ := dd7; ⟨o', ho'⟩) (dk_new (by simp; omega) nd6 (kv_app rd6 re6) dd7)
end
end Gw

set_option Elab.async false
set_option linter.all false
set_option maxRecDepth 100000
set_option maxHeartbeats 4000000
namespace Gw
open PySem PySem.Spec PyProof.Rows L2 GW
/-! ### list(d.values()) -/
section
variable {X : Cx} {e : Expr} {te : TE} {p apos cpos pos : Pos}
def tListVals (te : TE) : TE := fun σ H Q => te σ H fun x H1 => ∃ (d : Addr) (ks : List (Key × V)), x = .ref d ∧ H1 d = some (.dK ks) ∧ ∀ q, H1 q = none → Q (.ref q) (upd H1 q (.lst (ks.map (·.2))))
theorem pe_listVals (hc : X.calm = true) (he : PE X e te) (hg : Gl X "list") (hm : X.mg "list" = none) (h1 : attributeBase e "values" X.env (eval e X.env) = eval e X.env := by rfl) (h2 : (apos.endLine == cpos.line) = true := by rfl)
    (h3 : starEach [.Call (.Attribute e "values" apos) [] [] cpos] X.env = (false, eval (.Call (.Attribute e "values" apos) [] [] cpos) X.env) :: starEach [] X.env := by rfl) :
    PE X (.Call (.Name "list" p) [.Call (.Attribute e "values" apos) [] [] cpos] [] pos) (tListVals te) := by
  refine ⟨fun pins s σ H Q I q => wpAny_Call_Name_kw (ld_blt I hg hm PyProof.Rows.boot_list (PyProof.Rows.callWith_type1 ?_ h3 rfl))⟩
  rw [h3]
  show wpAny _ _ (spliced ((false, eval (.Call (.Attribute e "values" apos) [] [] cpos) X.env) :: backTo pos (starEach [] X.env))) _ _ s
  refine Calls.spliced_cons (wpAny_Call_method (T := "dict") (id := "dict.values") h1 rfl h2 PySem.F.plainAttrs_dict PySem.F.slot_dict_values PySem.F.type_dict_values (thn (he.run pins s σ H _ I q) fun u s1 hx => ?_))
  obtain ⟨x, H1, I1, rx, d, ks, rfl, hd, q1⟩ := hx
  obtain rfl : u = Value.ref d := rx
  obtain ⟨z, low, vs, rk, dd⟩ := dk_of I1.hok hd
  obtain ⟨ep, atd⟩ := dd.dictAt
  have len : ks.length = vs.length := rk.length
  have I2 : Inv X pins σ H1 { s1 with heap := s1.heap.push { cls := .type "dict_values", data := .fields #[.ref d] } } := I1.kept (t' := s1.toks) fun b ob g => Heap.get?_push_of_some _ g
  refine ⟨dd.typeIs, dd.mapOf.noDict, ?_⟩
  show wpAny _ _ (callWith cpos (.builtin "dict.values") [.ref d] [] []) _ X.xe s1
  refine method_meetsIn PySem.F.slot_dict_values PySem.F.entry_dict_values rfl (PySem.evalArgs_none ⟨rfl, dd.typeIs, PySem.F.args_dict_values_1 _, _, meets_dict_values (mixKind X.prog X.w) d low, ⟨vs, dd⟩, Calls.spliced_nil ?_⟩)
  refine PySem.W.kdl_call (PySem.W.kdl_values (knd := mixKind X.prog X.w) (kvs := vs) (ep := ep)) (I1.ok.hd hc) ⟨⟨_, Heap.get?_push_size _ rfl, rfl, rfl⟩, atd.push _⟩ (by omega) fun h' tk acc c keep hS items => ?_
  refine ⟨.ref _, upd H1 (s1.heap.push { cls := .type "dict_values", data := .fields #[.ref d] }).objs.size (.lst (ks.map (·.2))), I2.laid keep (Nat.le_refl _) ⟨by rw [List.length_map]; exact z, acc.toList, c, ?_, by rw [Array.toArray_toList]; exact hS⟩, rfl, q1 _ (I2.hok.fresh (Nat.le_refl _))⟩
  have lens : (ks.map (·.2)).length = acc.toList.length := by
    have e2 : acc.toList.length = acc.size := by simp
    rw [List.length_map, e2, items.1, len]
  refine vals_of_at lens fun j x v g1 g2 => ?_
  obtain ⟨k, hk⟩ := items.2 j v (by rw [← Array.getElem?_toList]; exact g2)
  rw [List.getElem?_map] at g1
  have hj : j < ks.length := by
    rw [len]
    exact (List.getElem?_eq_some_iff.mp hk).1
  obtain ⟨pv, q2, q3⟩ := LiI.paired_get rk (List.getElem?_eq_getElem hj)
  rw [hk] at q2
  cases q2
  rw [List.getElem?_eq_getElem hj] at g1
  have ex : ks[j].2 = x := Option.some.inj g1
  rw [← ex]
  exact q3.2
end
/-! ### != of tuples within one model -/
section
open SeqAt
open AutoSeq1 (wpAny_loadPart')
open MeetsSeq MeetsSeq2 MeetsSeq3 SeqRoads2
variable {prog : Program} {w : World}
theorem tup_ne_in (l b : Addr) (xs ys : Array Value) (n m : Nat) (dl db : Option Addr) (sl sb : Array (Option Value)) (f : Nat → Bool) :
    MeetsIn prog w (Builtin.«tuple.__ne__» ⟨[.ref l, .ref b], []⟩)
      (fun A R s => s.heap.get? l = some { cls := .type "tuple", dict := dl, data := .seq xs n, slots := sl } ∧ s.heap.get? b = some { cls := .type "tuple", dict := db, data := .seq ys m, slots := sb } ∧
        (∀ j (h1 : j < xs.size) (h2 : j < ys.size), EqP prog w A.in1 s xs[j] ys[j] (f j)) ∧
        R (.ok (.ret (.bool (!((List.range (min xs.size ys.size)).all f && xs.size == ys.size))))) s) := by
  intro A R s h
  obtain ⟨hp, g, d, tk, os⟩ := s
  obtain ⟨gl, gb, eqs, res⟩ := h
  have sub := AutoSeq1.sub_tuple_tuple
  have zl : (xs.toList.zip ys.toList).length = min xs.size ys.size := by simp
  wp_walk using wpAny_loadPart' gl, wpAny_loadPart' gb, wpAny_forIn_list _ (fun left r t => r.1 = none ∧ t = ⟨hp, g, d, tk, os⟩ ∧ ∃ i, left = (xs.toList.zip ys.toList).drop i ∧
      R (.ok (.ret (.bool (!(((List.range (min xs.size ys.size)).drop i).all f && xs.size == ys.size))))) ⟨hp, g, d, tk, os⟩) _
  case turn =>
    rintro ⟨y, x⟩ left r t ⟨hr, rfl, i, el, res'⟩
    have lt : i < (xs.toList.zip ys.toList).length := by
      refine Nat.lt_of_not_le fun q => ?_
      rw [List.drop_of_length_le q] at el
      cases el
    have lm : i < min xs.size ys.size := zl ▸ lt
    have l1 : i < xs.size := Nat.lt_of_lt_of_le lm (Nat.min_le_left _ _)
    have l2 : i < ys.size := Nat.lt_of_lt_of_le lm (Nat.min_le_right _ _)
    rw [List.drop_eq_getElem_cons lt] at el
    injection el with e1 e2
    have ey : y = xs[i] := by simpa using congrArg Prod.fst e1
    have ex : x = ys[i] := by simpa using congrArg Prod.snd e1
    subst ey ex
    have er : (List.range (min xs.size ys.size)).drop i = i :: (List.range (min xs.size ys.size)).drop (i + 1) := by simp [List.drop_eq_getElem_cons, lm]
    rw [er, List.all_cons] at res'
    refine wpAny_bind (eqs i l1 l2 _ _ ?_)
    cases fi : f i with
    | true =>
      rw [fi] at res'
      wp_walk
      exact ⟨rfl, rfl, i + 1, e2, by simpa using res'⟩
    | false =>
      rw [fi] at res'
      wp_walk
      simpa using res'
  case fin =>
    rintro ⟨b1, b2⟩ t ⟨hr, rfl, i, el, res'⟩
    simp only at hr
    subst hr
    have ge : min xs.size ys.size ≤ i := by
      refine Nat.le_of_not_lt fun q => ?_
      rw [List.drop_eq_getElem_cons (by rw [zl]; exact q)] at el
      cases el
    rw [List.drop_of_length_le (by simpa using ge)] at res'
    wp_walk
    simpa [Builtin.Tuple.tupleCompareSizes, bne] using res'
  case h =>
    exact ⟨rfl, rfl, 0, rfl, by simpa using res⟩
theorem rc_ne_tups {A : Around} {s : Shared} {l b : Addr} {xs ys : Array Value} {f : Nat → Bool} (tl : s.heap.IsTuple l xs) (tb : s.heap.IsTuple b ys) (hu : A.units < cLine)
    (eqs : ∀ j (h1 : j < xs.size) (h2 : j < ys.size), EqP prog w A.in1 s xs[j] ys[j] (f j)) (E Q : Value → Shared → Prop) (h : Q (.bool (!((List.range (min xs.size ys.size)).all f && xs.size == ys.size))) s) :
    wpAny (model prog w) A (richCompare .NotEq (.ref l) (.ref b)) Q E s := by
  obtain ⟨⟨c1, d1, t1, s1⟩, g1, e1, n1, e2⟩ := id tl
  obtain ⟨⟨c2, d2, t2, s2⟩, g2, e3, n2, e4⟩ := id tb
  simp only at e1 e2 e3 e4
  subst e1 e2 e3 e4
  have y1 : s.TypeIs (.ref l) "tuple" := ⟨_, g1, rfl⟩
  have y2 : s.TypeIs (.ref b) "tuple" := ⟨_, g2, rfl⟩
  exact wpAny_richCompare_same_room (op := .NotEq) y1 y2 PySem.F.slot_tuple_ne (call_meetsIn PySem.F.slot_tuple_ne y1 PySem.F.entry_tuple_ne (PySem.F.args_tuple_ne_2 _ _) (tup_ne_in l b xs ys n1 n2 d1 d2 s1 s2 f)
    ⟨g1, g2, eqs, show Value.bool (!((List.range (min xs.size ys.size)).all f && xs.size == ys.size)) ≠ Value.notImplemented ∧ Q (.bool (!((List.range (min xs.size ys.size)).all f && xs.size == ys.size))) s from ⟨(fun x => nomatch x), h⟩⟩) hu
end
end Gw

set_option Elab.async false
set_option linter.all false
set_option maxRecDepth 100000
set_option maxHeartbeats 4000000
namespace Gw
open PySem PySem.Spec PyProof.Rows L2 GW
/-! ### != of two tuples (word, dict), the dicts holding the same objects -/
section
variable {X : Cx}
def rPairNe (K : PySem.W.Frag) : R2 := fun x y H Q => ∃ (t u d1 d2 : Addr) (z : Str) (ks ls : List (Key × V)), x = .ref t ∧ y = .ref u ∧ SqT K H t [.str z, .ref d1] ∧ SqT K H u [.str z, .ref d2] ∧ H d1 = some (.dK ks) ∧ H d2 = some (.dK ls) ∧ ks.length = ls.length ∧
  (∀ p ∈ ks, valV ls p.1 = some p.2 ∧ ∃ a, p.2 = .ref a) ∧ Q (.bl false) H
theorem op_pairNe (room : X.A.units + 66 < cLine) : OpR X (compareOp .NotEq) (rPairNe X.K) := by
  intro pins s σ H x y v u Q I rx ry h
  obtain ⟨t, b, d1, d2, z, ks, ls, rfl, rfl, h1, h2, g1, g2, len, same, q⟩ := h
  obtain rfl : v = Value.ref t := rx
  obtain rfl : u = Value.ref b := ry
  obtain ⟨i1, r1, t1, _⟩ := I.tuple h1
  obtain ⟨i2, r2, t2, _⟩ := I.tuple h2
  have dict2 : EqV X.K H 2 (.ref d1) (.ref d2) := by
    refine .inr (.inr (.inr ⟨d1, d2, ks, ls, rfl, rfl, g1, g2, len, fun p hp => ⟨p.2, (same p hp).1, ?_⟩⟩))
    obtain ⟨a, e⟩ := (same p hp).2
    exact .inr (.inl ⟨a, e, e⟩)
  have str2 : EqV X.K H 2 (.str z) (.str z) := .inl ⟨rfl, rfl⟩
  cases r1 with
  | cons a1 r1 => cases r1 with
    | cons b1 r1 => cases r1; cases r2 with
      | cons a2 r2 => cases r2 with
        | cons b2 r2 =>
          cases r2
          refine rc_ne_tups (f := fun _ => true) (show s.heap.IsTuple t _ from t1) (show s.heap.IsTuple b _ from t2) (by omega) (fun j k1 k2 => ?_) _ _ ?_
          · have run := fun x y v u => eqV_run I 2 X.A.in1 (by show X.A.units + 1 + 2 < cLine; omega) x y v u
            match j, k1, k2 with
            | 0, _, _ => exact run _ _ _ _ str2 a1 a2
            | 1, _, _ => exact run _ _ _ _ dict2 b1 b2
          · exact ⟨.bl false, H, I, rfl, q⟩
end
/-! ### != of two instances whose class says == -/
section
variable {M : Model} {A : Around} {E : Value → Shared → Prop} {s : Shared} {K : PySem.W.Frag} {x C : Addr} {ox : Obj} {od : Option Obj}
theorem bound_ne {args : List Value} {Q : Option Value → Shared → Prop} (kin : K.In s.heap) (at' : PySem.W.InstAt s.heap x ox C od) (ne : PySem.W.findIn K (.ref C) "__ne__" = some (some (.builtin "object.__ne__")))
    (h : wpAny M A (call (.builtin "object.__ne__") (.ref x :: args)) (fun v => Q (some v)) E s) : wpAny M A (callSpecialIfBound? (.ref x) "__ne__" args) Q E s := by
  have fin : wpAny M A (call (.builtin "object.__ne__") ([.ref x] ++ args) >>= fun v => pure (some v)) Q E s := wpAny_bind (wpAny_mono h (fun v t k => wpAny_pure k) fun _ _ k => k)
  simp only [callSpecialIfBound?, bindSpecialIfBound?]
  refine wpAny_holding (wpAny_bind (wpAny_bind (wpAny_bind (at'.type.here ((PySem.W.looks_findIn kin ne).here (wpAny_bind (wpAny_askSetting (wpAny_ite ?_))))))))
  split
  · exact wpAny_bind (wpAny_of_eq (PySem.F.cmp_object.ne.bind _) (wpAny_pure (by exact fin)))
  · exact wpAny_tryCatch (wpAny_bind (wpAny_of_eq (PySem.F.cmp_object.ne.bind _) (wpAny_pure (by exact fin))))
end
section
variable {prog : Program} {w : World} {A : Around} {E : Value → Shared → Prop} {s : Shared} {K : PySem.W.Frag} {x y C f : Addr} {ox oy : Obj} {od od' : Option Obj}
theorem entry_ne (kin : K.In s.heap) (at' : PySem.W.InstAt s.heap x ox C od) (hu : A.units < cLine) (eq : PySem.W.findIn K (.ref C) "__eq__" = some (some (.ref f))) (fn : PySem.W.isFn K (.ref f) = true) {Q : Fin → Shared → Prop}
    (back : wpAny (model prog w) A (call (.ref f) [.ref x, .ref y]) (fun v t => ∃ b, v = .bool b ∧ Q (.done (.ret (.bool (!b)))) t) E s) : wpAny (model prog w) A (Builtin.«object.__ne__» ⟨[.ref x, .ref y], []⟩) Q E s := by
  obtain ⟨hh, g, d, t, os⟩ := s
  unfold Builtin.«object.__ne__»
  repeat (first
    | with_reducible refine wpAny_cRoomFor hu ?_
    | (refine wpAny_bind (m := callSpecialIfBound? (.ref x) (Str.ofString "__eq__") [.ref y]) (PySem.W.ifBound_K kin at' eq fn (wpAny_mono back (fun r t' k => by
        obtain ⟨b, rfl, k'⟩ := k
        repeat (first | exact k' | exact wpAny_pure k' | exact wpAny_truthy_bool k' | (refine wpAny_bind (m := truthy (.bool _)) (wpAny_truthy_bool ?_)) | wp_step)) fun _ _ z => z)))
    | wp_step)
theorem rc_ne_own (kin : K.In s.heap) (at' : PySem.W.InstAt s.heap x ox C od) (at2 : PySem.W.InstAt s.heap y oy C od') (hu : A.units + 1 < cLine) (eq : PySem.W.findIn K (.ref C) "__eq__" = some (some (.ref f))) (fn : PySem.W.isFn K (.ref f) = true)
    (ne : PySem.W.findIn K (.ref C) "__ne__" = some (some (.builtin "object.__ne__"))) (mro : PySem.W.mroIn K C (.type "object") = some true) {Q : Value → Shared → Prop}
    (back : wpAny (model prog w) A.in1 (call (.ref f) [.ref x, .ref y]) (fun v t => ∃ b, v = .bool b ∧ Q (.bool (!b)) t) E s) : wpAny (model prog w) A (richCompare .NotEq (.ref x) (.ref y)) Q E s := by
  have one : wpAny (model prog w) A (tryCompare (.ref x) "__ne__" (.ref y)) (fun r t => ∃ v, r = some v ∧ Q v t) E s := by
    unfold tryCompare
    refine wpAny_bind (bound_ne kin at' ne (wpAny_call (codeAny_call_builtin PySem.F.cmp_object.ne.plain PySem.F.cmpEntry_ne (PySem.W.check_slot PySem.F.cmpKind_ne PySem.F.cmpSplit_ne (at'.type.andThen (PySem.W.looks_mroIn kin mro)) (PySem.F.cmpArgs_ne _ _)
      (entry_ne (A := A.in1) kin at' (by show A.units + 1 < cLine; exact hu) eq fn (wpAny_mono back (fun v t k => ?_) fun _ _ z => z))))))
    obtain ⟨b, rfl, k⟩ := k
    refine ⟨b, rfl, ?_⟩
    first | exact wpAny_pure ⟨_, rfl, k⟩ | exact wpAny_pure (wpAny_pure ⟨_, rfl, k⟩) | exact ⟨_, rfl, k⟩
  unfold richCompare
  simp only [oneThing_ref, cmpInfo_NotEq]
  refine wpAny_holding (wpAny_bind (wpAny_cRoomFor (by omega) (wpAny_bind (at'.type.here (wpAny_bind (at2.type.here ?_))))))
  rw [show (Value.ref C != Value.ref C) = false from by simp]
  simp only [Bool.false_eq_true, if_false]
  refine wpAny_bind (wpAny_pure ?_)
  simp only [Bool.false_eq_true, if_false]
  refine wpAny_bind (wpAny_mono one (fun r t k => ?_) fun _ _ z => z)
  obtain ⟨v, rfl, k⟩ := k
  exact wpAny_pure k
end
section
variable {X : Cx}
def rOwnNe (C : Addr) (sp : Sp) : R2 := fun x y H Q => ∃ a b dx dy fs gs, x = .ref a ∧ y = .ref b ∧ H a = some (.ins C dx fs) ∧ H b = some (.ins C dy gs) ∧ sp [.ref a, .ref b] H (fun v H' => ∃ k, v = .bl k ∧ Q (.bl (!k)) H') E0
theorem op_ownNe {C f : Addr} {fd : FuncData} {ps : List Str} {n : Nat} {sp : Sp} (F : FnOk X.prog X.w X.K X.mg X.base CX0 n f fd ps sp) (eq : PySem.W.findIn X.K (.ref C) "__eq__" = some (some (.ref f))) (fn : PySem.W.isFn X.K (.ref f) = true)
    (ne : PySem.W.findIn X.K (.ref C) "__ne__" = some (some (.builtin "object.__ne__"))) (mro : PySem.W.mroIn X.K C (.type "object") = some true) (hb : Binds X.K fd ps []) (room : Room (n + 1) X.A) : OpR X (compareOp .NotEq) (rOwnNe C sp) := by
  intro pins s σ H x y v u Q I rx ry h
  obtain ⟨a, b, dx, dy, fs, gs, rfl, rfl, ha, hb', hsp⟩ := h
  obtain rfl : v = Value.ref a := rx
  obtain rfl : u = Value.ref b := ry
  obtain ⟨mA, J, _⟩ := ins_get I.hok ha
  obtain ⟨mB, J', _⟩ := ins_get I.hok hb'
  obtain ⟨od, J, _⟩ := J.look
  obtain ⟨od', J', _⟩ := J'.look
  refine rc_ne_own I.kIn J J' (by have := room.units; omega) eq fn ne mro ?_
  have len := F.len _ _ _ _ hsp
  have e0 : Env0 X.prog X.w X.K X.mg X.base X.A.in1 X.stack s H := by
    have e := I.env0
    exact ⟨by first | exact e.frames | (rw [show X.A.in1.frames = X.A.frames from rfl]; exact e.frames), e.mod, e.bs, e.bsz, e.funs, e.frf, e.hok, e.bare⟩
  have vals : Vals [V.ref a, V.ref b] [Value.ref a, Value.ref b] := .cons rfl (.cons rfl .nil)
  refine wpAny_call (codeAny_mono (F.run X.A.in1 X.stack s H ⟨[.ref a, .ref b], []⟩ [.ref a, .ref b] [.ref a, .ref b] _ E0 room.in1 e0 (by
    have k := hb s [.ref a, .ref b] I.kIn (by simpa using len)
    simpa using k) vals hsp) fun r t k => ?_)
  cases r with
  | error e => exact k.elim
  | ok fl =>
    cases fl with
    | ret z =>
      obtain ⟨vz, H', I', rz, kk, ez, kq⟩ := I.after k
      subst ez
      cases rz
      exact ⟨kk, rfl, .bl (!kk), H', I', rfl, kq⟩
    | next => exact False.elim k
    | brk => exact False.elim k
    | cont => exact False.elim k
end
end Gw

set_option Elab.async false
set_option linter.all false
set_option maxRecDepth 100000
set_option maxHeartbeats 4000000
namespace Gw
open PySem PySem.Spec PyProof.Rows L2 GW
/-! ### tables: a dict's pairs against a list of names and things -/
section
variable {β γ : Type}
def Tb (R : V → β → Prop) (kvs : List (Key × V)) (l : List (Str × β)) : Prop := Paired (fun (kv : Key × V) (p : Str × β) => kv.1 = Sum.inr p.1 ∧ R kv.2 p.2) kvs l
theorem Tb.mono {R R' : V → β → Prop} {kvs : List (Key × V)} {l : List (Str × β)} (h : Tb R kvs l) (f : ∀ v b, R v b → R' v b) : Tb R' kvs l := Paired.mapP h fun _ _ q => ⟨q.1, f _ _ q.2⟩
theorem Tb.len {R : V → β → Prop} {kvs : List (Key × V)} {l : List (Str × β)} (h : Tb R kvs l) : kvs.length = l.length := Paired.length h
theorem Tb.keys {R : V → β → Prop} {kvs : List (Key × V)} {l : List (Str × β)} (h : Tb R kvs l) : kvs.map (·.1) = (GW.keys l).map Sum.inr := by
  unfold Tb at h
  induction h with
  | nil => rfl
  | cons q _ ih => rw [List.map_cons, ih, q.1]; rfl
theorem Tb.at {R : V → β → Prop} {kvs : List (Key × V)} {l : List (Str × β)} (h : Tb R kvs l) {i : Nat} {kv : Key × V} (e : kvs[i]? = some kv) : ∃ p, l[i]? = some p ∧ kv.1 = Sum.inr p.1 ∧ R kv.2 p.2 := LiI.paired_get h e
theorem Tb.at' {R : V → β → Prop} : ∀ {kvs : List (Key × V)} {l : List (Str × β)}, Tb R kvs l → ∀ {i : Nat} {p : Str × β}, l[i]? = some p → ∃ kv, kvs[i]? = some kv ∧ kv.1 = Sum.inr p.1 ∧ R kv.2 p.2
  | _, _, .nil, i, p, h => by cases h
  | _, _, .cons r t, 0, p, h => by
    have e := Option.some.inj h
    subst e
    exact ⟨_, rfl, r⟩
  | _, _, .cons r t, i + 1, p, h => Tb.at' t h
theorem Tb.look {R : V → β → Prop} {kvs : List (Key × V)} {l : List (Str × β)} (h : Tb R kvs l) {k : Str} {b : β} (e : GW.look k l = some b) : ∃ v, valV kvs (Sum.inr k : Key) = some v ∧ R v b := by
  unfold Tb at h
  induction h with
  | nil => cases e
  | @cons kv p kvs l q _ ih =>
    rw [look_cons] at e
    by_cases c : p.1 = k
    · rw [if_pos c] at e
      cases e
      exact ⟨kv.2, valV_pos (by rw [q.1, c]), q.2⟩
    · rw [if_neg c] at e
      rw [valV_neg (by rw [q.1]; exact fun z => c (Sum.inr.inj z))]
      exact ih e
theorem Tb.no {R : V → β → Prop} {kvs : List (Key × V)} {l : List (Str × β)} (h : Tb R kvs l) {k : Str} (e : GW.look k l = none) : valV kvs (Sum.inr k : Key) = none := by
  unfold Tb at h
  induction h with
  | nil => rfl
  | @cons kv p kvs l q _ ih =>
    rw [look_cons] at e
    by_cases c : p.1 = k
    · rw [if_pos c] at e; cases e
    · rw [if_neg c] at e
      rw [valV_neg (by rw [q.1]; exact fun z => c (Sum.inr.inj z))]
      exact ih e
theorem Tb.app {R : V → β → Prop} {ks ms : List (Key × V)} {l m : List (Str × β)} (h : Tb R ks l) (q : Tb R ms m) : Tb R (ks ++ ms) (l ++ m) := by
  unfold Tb at h q ⊢
  induction h with
  | nil => exact q
  | cons e _ ih => exact .cons e ih
theorem Tb.repl {R : V → β → Prop} {kvs : List (Key × V)} {l : List (Str × β)} (h : Tb R kvs l) (k : Str) {v : V} {b : β} (r : R v b) :
    Tb R (kvs.map fun kv => if kv.1 = (Sum.inr k : Key) then (kv.1, v) else kv) (l.map fun q => if q.1 = k then (q.1, b) else q) := by
  unfold Tb at h ⊢
  induction h with
  | nil => exact .nil
  | @cons kv p kvs l q _ ih =>
    rw [List.map_cons, List.map_cons]
    refine .cons ?_ ih
    by_cases c : p.1 = k
    · rw [if_pos c, if_pos (by rw [q.1, c])]; exact ⟨q.1, r⟩
    · rw [if_neg c, if_neg (by rw [q.1]; exact fun z => c (Sum.inr.inj z))]; exact q
theorem Tb.put {R : V → β → Prop} {kvs : List (Key × V)} {l : List (Str × β)} (h : Tb R kvs l) (k : Str) {v : V} {b : β} (r : R v b) : Tb R (putK kvs (Sum.inr k : Key) v) (GW.put l k b) := by
  by_cases c : k ∈ GW.keys l
  · rw [put_old c]
    obtain ⟨x, hx⟩ := look_some c
    obtain ⟨y, hy, _⟩ := h.look hx
    unfold putK
    rw [if_pos (by rw [valV_any, hy]; rfl)]
    exact h.repl k r
  · rw [put_new c, putK_new v (h.no (look_none.mpr c))]
    exact h.app (.cons ⟨rfl, r⟩ .nil)
theorem Tb.map {R : V → β → Prop} (f : Str × β → Str × γ) {R' : V → γ → Prop} {kvs : List (Key × V)} {l : List (Str × β)} (h : Tb R kvs l) (g : ∀ v p, R v p.2 → (f p).1 = p.1 ∧ R' v (f p).2) : Tb R' kvs (l.map f) := by
  unfold Tb at h ⊢
  induction h with
  | nil => exact .nil
  | cons e _ ih => exact .cons ⟨by rw [(g _ _ e.2).1]; exact e.1, (g _ _ e.2).2⟩ ih
end
theorem kV_str (k : Str) : kV (Sum.inr k : Key) = .str k := rfl
/-- reading a table -/
theorem get_at {β : Type} {R : V → β → Prop} {H : Hp} {a : Addr} {kvs : List (Key × V)} {l : List (Str × β)} (h : Rd H a (.dK kvs)) (t : Tb R kvs l) {k : Str} {b : β} (e : GW.look k l = some b) : ∃ v, DGet H a (.str k) (some v) ∧ R v b := by
  obtain ⟨v, q, r⟩ := t.look e
  exact ⟨v, .inl ⟨kvs, Sum.inr k, h, rfl, q.symm⟩, r⟩
theorem get_no {β : Type} {R : V → β → Prop} {H : Hp} {a : Addr} {kvs : List (Key × V)} {l : List (Str × β)} (h : Rd H a (.dK kvs)) (t : Tb R kvs l) {k : Str} (e : GW.look k l = none) : DGet H a (.str k) none := .inl ⟨kvs, Sum.inr k, h, rfl, (t.no e).symm⟩
/-- is it there -/
theorem get_is {β : Type} {R : V → β → Prop} {H : Hp} {a : Addr} {kvs : List (Key × V)} {l : List (Str × β)} (h : Rd H a (.dK kvs)) (t : Tb R kvs l) (k : Str) : ∃ o, DGet H a (.str k) o ∧ o.isSome = decide (k ∈ GW.keys l) := by
  by_cases c : k ∈ GW.keys l
  · obtain ⟨b, e⟩ := look_some c
    obtain ⟨v, q, _⟩ := get_at h t e
    exact ⟨_, q, by simp [c]⟩
  · exact ⟨_, get_no h t (look_none.mpr c), by simp [c]⟩

/-! ### the heap less one object -/
def wo (H : Hp) (a : Addr) : Hp := fun b => if b = a then none else H b
theorem wo_upd {H : Hp} {a : Addr} {o : HO} : wo (upd H a o) a = wo H a := by
  funext b
  unfold wo upd
  by_cases e : b = a
  · rw [if_pos e, if_pos e]
  · rw [if_neg e, if_neg e, if_neg e]
theorem wo_same {H H' : Hp} {a : Addr} (s : Same H H') : Same (wo H a) (wo H' a) := fun b o e => by
  unfold wo at e ⊢
  by_cases c : b = a
  · rw [if_pos c] at e; cases e
  · rw [if_neg c] at e ⊢; exact s b o e
theorem wo_le {H : Hp} {a b : Addr} {o : HO} (e : wo H a b = some o) : H b = some o ∧ b ≠ a := by
  unfold wo at e
  by_cases c : b = a
  · rw [if_pos c] at e; cases e
  · rw [if_neg c] at e; exact ⟨e, c⟩
theorem wo_to {H : Hp} {a : Addr} : Same (wo H a) H := fun _ _ e => (wo_le e).1
theorem wo_of {H : Hp} {a b : Addr} {o : HO} (e : H b = some o) (n : b ≠ a) : wo H a b = some o := by unfold wo; rw [if_neg n]; exact e
/-- what stands but at a -/
def SameX (a : Addr) (H H' : Hp) : Prop := ∀ b o, b ≠ a → H b = some o → H' b = some o
theorem SameX.wo {a : Addr} {H H' : Hp} (s : SameX a H H') : Same (wo H a) (wo H' a) := fun b o e => by
  obtain ⟨e1, n⟩ := wo_le e
  exact wo_of (s b o n e1) n
theorem sameX_upd {a : Addr} {H : Hp} {o : HO} : SameX a H (upd H a o) := fun b u n e => by rw [upd_ne n]; exact e
theorem Same.x {a : Addr} {H H' : Hp} (s : Same H H') : SameX a H H' := fun b o _ e => s b o e
theorem SameX.trans {a : Addr} {H H1 H2 : Hp} (s : SameX a H H1) (t : SameX a H1 H2) : SameX a H H2 := fun b o n e => t b o n (s b o n e)
/-- behind a lock all is as it was -/
theorem unlocked {a : Addr} {H H' : Hp} {f u : HO} (h : H a = some u) (s : Same (upd H a f) H') : Same H (upd H' a u) := fun b o e => by
  by_cases c : b = a
  · rw [c] at e ⊢; rw [h] at e; cases e; exact upd_same
  · rw [upd_ne c]; exact s b o (by rw [upd_ne c]; exact e)
theorem rd_same {H H' : Hp} {a : Addr} {u : HO} (s : Same H H') (h : Rd H a u) : Rd H' a u := by
  rcases h with h | ⟨o, h⟩
  · exact .inl (s _ _ h)
  · exact .inr ⟨o, s _ _ h⟩
theorem rd_wo {H : Hp} {a b : Addr} {u : HO} (h : Rd (wo H a) b u) : Rd H b u := rd_same wo_to h

/-! ### what stands: moves, places, plans, worths -/
def sideS (b : Bool) : Str := if b then "ours" else "theirs"
def MvV (H : Hp) (v : V) (e : Str × Int) : Prop := ∃ p, v = .ref p ∧ H p = some (.tup [.str e.1, .int e.2])
def PlV (H : Hp) (v : V) (p : Bool × Row Str) : Prop := ∃ t d kvr, v = .ref t ∧ H t = some (.tup [.str (sideS p.1), .ref d]) ∧ H d = some (.dK kvr) ∧ Tb (MvV H) kvr p.2
def PlanU (H : Hp) (a : Addr) (P : Plan Str) : Prop := ∃ kvs, H a = some (.dK kvs) ∧ Tb (PlV (wo H a)) kvs P
def PlanR (H : Hp) (a : Addr) (P : Plan Str) : Prop := ∃ kvs, Rd H a (.dK kvs) ∧ Tb (PlV (wo H a)) kvs P
def TabU (H : Hp) (a : Addr) (l : List (Str × Fr)) : Prop := ∃ kvs, H a = some (.dK kvs) ∧ Tb (FrV (wo H a)) kvs l
def TabR (H : Hp) (a : Addr) (l : List (Str × Fr)) : Prop := ∃ kvs, Rd H a (.dK kvs) ∧ Tb (FrV (wo H a)) kvs l
def StrU (H : Hp) (a : Addr) (l : List (Str × Str)) : Prop := H a = some (.dK (l.map fun p => (Sum.inr p.1, .str p.2)))
def IntU (H : Hp) (a : Addr) (l : List (Str × Int)) : Prop := H a = some (.dK (l.map fun p => (Sum.inr p.1, .int p.2)))
theorem tb_str (l : List (Str × Str)) : Tb (fun v x => v = .str x) (l.map fun p => ((Sum.inr p.1 : Key), V.str p.2)) l := by
  induction l with
  | nil => exact .nil
  | cons p r ih => exact .cons ⟨rfl, rfl⟩ ih
theorem tb_int (l : List (Str × Int)) : Tb (fun v x => v = .int x) (l.map fun p => ((Sum.inr p.1 : Key), V.int p.2)) l := by
  induction l with
  | nil => exact .nil
  | cons p r ih => exact .cons ⟨rfl, rfl⟩ ih
theorem tb_str_eq {kvs : List (Key × V)} {l : List (Str × Str)} (h : Tb (fun v x => v = .str x) kvs l) : kvs = l.map fun p => ((Sum.inr p.1 : Key), V.str p.2) := by
  unfold Tb at h
  induction h with
  | nil => rfl
  | @cons kv p _ _ q _ ih =>
    rw [List.map_cons, ← ih]
    obtain ⟨a, b⟩ := kv
    obtain ⟨q1, q2⟩ := q
    simp only at q1 q2
    rw [q1, q2]
theorem tb_int_eq {kvs : List (Key × V)} {l : List (Str × Int)} (h : Tb (fun v x => v = .int x) kvs l) : kvs = l.map fun p => ((Sum.inr p.1 : Key), V.int p.2) := by
  unfold Tb at h
  induction h with
  | nil => rfl
  | @cons kv p _ _ q _ ih =>
    rw [List.map_cons, ← ih]
    obtain ⟨a, b⟩ := kv
    obtain ⟨q1, q2⟩ := q
    simp only at q1 q2
    rw [q1, q2]
theorem MvV.mono {H H' : Hp} {v : V} {e : Str × Int} (h : MvV H v e) (s : Same H H') : MvV H' v e := let ⟨p, a, b⟩ := h; ⟨p, a, s _ _ b⟩
theorem PlV.mono {H H' : Hp} {v : V} {p : Bool × Row Str} (h : PlV H v p) (s : Same H H') : PlV H' v p := let ⟨t, d, k, a, b, c, e⟩ := h; ⟨t, d, k, a, s _ _ b, s _ _ c, e.mono fun _ _ q => q.mono s⟩
theorem PlanU.mono {H H' : Hp} {a : Addr} {P : Plan Str} (h : PlanU H a P) (s : Same H H') : PlanU H' a P := let ⟨k, b, c⟩ := h; ⟨k, s _ _ b, c.mono fun _ _ q => q.mono (wo_same s)⟩
theorem PlanR.mono {H H' : Hp} {a : Addr} {P : Plan Str} (h : PlanR H a P) (s : Same H H') : PlanR H' a P := let ⟨k, b, c⟩ := h; ⟨k, rd_same s b, c.mono fun _ _ q => q.mono (wo_same s)⟩
theorem PlanU.r {H : Hp} {a : Addr} {P : Plan Str} (h : PlanU H a P) : PlanR H a P := let ⟨k, b, c⟩ := h; ⟨k, .inl b, c⟩
theorem TabU.mono {H H' : Hp} {a : Addr} {l : List (Str × Fr)} (h : TabU H a l) (s : Same H H') : TabU H' a l := let ⟨k, b, c⟩ := h; ⟨k, s _ _ b, c.mono fun _ _ q => q.mono (wo_same s)⟩
theorem TabR.mono {H H' : Hp} {a : Addr} {l : List (Str × Fr)} (h : TabR H a l) (s : Same H H') : TabR H' a l := let ⟨k, b, c⟩ := h; ⟨k, rd_same s b, c.mono fun _ _ q => q.mono (wo_same s)⟩
theorem TabU.r {H : Hp} {a : Addr} {l : List (Str × Fr)} (h : TabU H a l) : TabR H a l := let ⟨k, b, c⟩ := h; ⟨k, .inl b, c⟩
/-- a place read -/
theorem PlanR.get {H : Hp} {a : Addr} {P : Plan Str} (h : PlanR H a P) {n : Str} {p : Bool × Row Str} (e : GW.look n P = some p) :
    ∃ t d kvr, DGet H a (.str n) (some (.ref t)) ∧ H t = some (.tup [.str (sideS p.1), .ref d]) ∧ H d = some (.dK kvr) ∧ d ≠ a ∧ Tb (MvV (wo H a)) kvr p.2 := by
  obtain ⟨kvs, r, tb⟩ := h
  obtain ⟨v, q, t, d, kvr, rfl, h1, h2, h3⟩ := get_at r tb e
  exact ⟨t, d, kvr, q, (wo_le h1).1, (wo_le h2).1, (wo_le h2).2, h3⟩
theorem TabR.get {H : Hp} {a : Addr} {l : List (Str × Fr)} (h : TabR H a l) {n : Str} {f : Fr} (e : GW.look n l = some f) : ∃ p, DGet H a (.str n) (some (.ref p)) ∧ H p = some (frT f) := by
  obtain ⟨kvs, r, tb⟩ := h
  obtain ⟨v, q, p, rfl, h1⟩ := get_at r tb e
  exact ⟨p, q, (wo_le h1).1⟩

/-! ### a dict comprehension over what is walked -/
theorem dc_it {J : It} {n : Nat} {G : Hp → Prop} {Y : Nat → Hp → V → Hp → Prop} (wk : Walk J n G Y) {g : TG} {tt : TT} {tk tv : TE} {vs : List Nat} {σ : L2.St} {H1 : Hp} {D : Addr} {Qd : Hp → Prop} (Pv : Nat → Hp → Prop) (h0 : Pv 0 (upd H1 D (.dK []))) (hG : ∀ i H, i ≤ n → Pv i H → G H)
    (hs : ∀ i x H H', i < n → Pv i H → Y i H x H' → g x (wipe σ vs) H' fun σ2 H2 => wipe σ2 vs = wipe σ vs ∧ tt σ2 H2 fun b H3 =>
      if b = true then tk σ2 H3 fun y H4 => tv σ2 H4 fun z H5 => ∃ kvs k, y = kV k ∧ H5 D = some (.dK kvs) ∧ kvs.length < sizeLine ∧ Pv (i + 1) (upd H5 D (.dK (putK kvs k z))) else Pv (i + 1) H3) (hd : ∀ H, Pv n H → Qd H) :
    ∃ W : Nat → Nat → Hp → Prop, (∃ m, W 0 m (upd H1 D (.dK []))) ∧ ∀ i m H, W i m H →
      (J.stop i H ∧ Qd H) ∨ (J.go i H ∧ ∃ Nx : Hp → Prop, (∀ H', Nx H' → ∃ m', m' < m ∧ W (i + 1) m' H') ∧ ∀ x H', J.yld i H x H' → g x (wipe σ vs) H' fun σ2 H2 => wipe σ2 vs = wipe σ vs ∧ tt σ2 H2 fun b H3 =>
        if b = true then tk σ2 H3 fun y H4 => tv σ2 H4 fun z H5 => ∃ kvs k, y = kV k ∧ H5 D = some (.dK kvs) ∧ kvs.length < sizeLine ∧ Nx (upd H5 D (.dK (putK kvs k z))) else Nx H3) := by
  refine ⟨fun i m H => m = n - i ∧ i ≤ n ∧ Pv i H, ⟨n, by simp, Nat.zero_le _, h0⟩, ?_⟩
  rintro i m H ⟨rfl, hi, p⟩
  have good := hG i H hi p
  by_cases lt : i < n
  · exact .inr ⟨wk.goes i H lt good, Pv (i + 1), fun H' p' => ⟨n - (i + 1), by omega, rfl, lt, p'⟩, fun x H' y => hs i x H H' lt p (wk.yields i H x H' lt good y)⟩
  · obtain rfl : i = n := by omega
    exact .inl ⟨wk.stops H good, hd H p⟩
theorem small (n : Nat) (h : n ≤ 100000 := by first | omega | decide) : n < sizeLine := Nat.lt_of_le_of_lt h (by decide)
end Gw

set_option Elab.async false
set_option linter.all false
set_option maxRecDepth 100000
set_option maxHeartbeats 4000000
namespace Gw
open PySem PySem.Spec PyProof.Rows L2 GW
section
variable {P : Program} {w : World} {K : PySem.W.Frag} {mg : Str → Option Value} {base : Heap}
theorem fr_0 {f : Fr} : atI ([.int f.1, .int f.2] : List V) 0 = some (.int f.1) := atI_nat (j := 0) rfl
theorem fr_1 {f : Fr} : atI ([.int f.1, .int f.2] : List V) 1 = some (.int f.2) := atI_nat (j := 1) rfl
theorem pr_0 {x y : V} : atI ([x, y] : List V) 0 = some x := atI_nat (j := 0) rfl
theorem pr_1 {x y : V} : atI ([x, y] : List V) 1 = some y := atI_nat (j := 1) rfl
theorem mul_bd {i j : Int} (h : 0 < j ∧ j ≤ 1000) : CMul i j := .inr ⟨by omega, by omega⟩
/-! ### is_less, t_less -/
theorem scLess : FnScope ["one", "other"] ["one", "other"] (defScope sLess) := ⟨rfl, rfl, rfl, by decide +kernel, rfl, by decide +kernel, by decide +kernel⟩
theorem ok_less {f : Addr} {fd : FuncData} (F : Fun K "is_less" "is_less" sLess f fd) : FnOk P w K mg base CX0 1 f fd ["one", "other"] spLess := by
  refine F.ok scLess (fun vs H Q E h => ?_) (fun cdv A outer s H vs Q E hr h => ?_)
  · obtain ⟨x, y, f, g, rfl, _⟩ := h
    rfl
  · obtain ⟨x, y, f, g, rfl, ⟨p, rfl, hp⟩, ⟨q, rfl, hq⟩, bf, bg, k⟩ := h
    refine ⟨_, pss_one (ps_ret (pe_cmpR op_lt (pe_op op_mul (pe_ix ix_tup (pv 0) pe_int (fun _ _ => rfl)) (pe_ix ix_tup (pv 1) pe_int (fun _ _ => rfl)))
      (pe_op op_mul (pe_ix ix_tup (pv 1) pe_int (fun _ _ => rfl)) (pe_ix ix_tup (pv 0) pe_int (fun _ _ => rfl))) (nomark _))), ?_⟩
    refine ⟨_, rfl, p, _, _, _, rfl, rfl, SqT.of hp, fr_0, _, rfl, q, _, _, _, rfl, rfl, SqT.of hq, fr_1, _, _, rfl, rfl, mul_bd bg, ?_⟩
    refine ⟨_, rfl, q, _, _, _, rfl, rfl, SqT.of hq, fr_0, _, rfl, p, _, _, _, rfl, rfl, SqT.of hp, fr_1, _, _, rfl, rfl, mul_bd bf, _, _, rfl, rfl, ?_⟩
    exact k
theorem scTLess : FnScope ["_law_one", "_law_other"] ["_law_one", "_law_other"] (defScope sTLess) := ⟨rfl, rfl, rfl, by decide +kernel, rfl, by decide +kernel, by decide +kernel⟩
theorem ok_tless {f : Addr} {fd : FuncData} (F : Fun K "_law_t_less" "_law_t_less" sTLess f fd) : FnOk P w K mg base CX0 1 f fd ["_law_one", "_law_other"] spLess := by
  refine F.ok scTLess (fun vs H Q E h => ?_) (fun cdv A outer s H vs Q E hr h => ?_)
  · obtain ⟨x, y, f, g, rfl, _⟩ := h
    rfl
  · obtain ⟨x, y, f, g, rfl, ⟨p, rfl, hp⟩, ⟨q, rfl, hq⟩, bf, bg, k⟩ := h
    refine ⟨_, pss_one (ps_ret (pe_cmpR op_lt (pe_op op_mul (pe_ix ix_tup (pv 0) pe_int (fun _ _ => rfl)) (pe_ix ix_tup (pv 1) pe_int (fun _ _ => rfl)))
      (pe_op op_mul (pe_ix ix_tup (pv 1) pe_int (fun _ _ => rfl)) (pe_ix ix_tup (pv 0) pe_int (fun _ _ => rfl))) (nomark _))), ?_⟩
    refine ⟨_, rfl, p, _, _, _, rfl, rfl, SqT.of hp, fr_0, _, rfl, q, _, _, _, rfl, rfl, SqT.of hq, fr_1, _, _, rfl, rfl, mul_bd bg, ?_⟩
    refine ⟨_, rfl, q, _, _, _, rfl, rfl, SqT.of hq, fr_0, _, rfl, p, _, _, _, rfl, rfl, SqT.of hp, fr_1, _, _, rfl, rfl, mul_bd bf, _, _, rfl, rfl, ?_⟩
    exact k
/-! ### t_lowest -/
theorem scTLowest : FnScope ["_law_top", "_law_bottom", "_law_one", "_law_other"] ["_law_top", "_law_bottom"] (defScope sTLowest) := ⟨rfl, rfl, rfl, by decide +kernel, rfl, by decide +kernel, by decide +kernel⟩
theorem ok_tlowest {f : Addr} {fd : FuncData} (F : Fun K "_law_t_lowest" "_law_t_lowest" sTLowest f fd) (B : Blt mg) : FnOk P w K mg base CX0 1 f fd ["_law_top", "_law_bottom"] spLow := by
  refine F.ok scTLowest (fun vs H Q E h => ?_) (fun cdv A outer s H vs Q E hr h => ?_)
  · obtain ⟨t, b, rfl, _⟩ := h
    rfl
  · obtain ⟨t, b, rfl, h0, h1, k⟩ := h
    refine ⟨_, pss_cons (ps_par rfl scTLowest.nd (i := 2) (j := 3) rfl rfl (by decide) rfl rfl (pa_cons (pe_callB call_abs (by rfl) B.abs boot_abs (pa_cons (pv 0) pa_nil)) (pa_cons (pv 1) pa_nil)) (by rfl))
      (pss_cons (ps_while PassesOwn.never (pt_cmpR op_gt (pv 3) pe_int (nomark _))
        (pss_one (ps_par rfl scTLowest.nd (i := 2) (j := 3) rfl rfl (by decide) rfl rfl (pa_cons (pv 3) (pa_cons (pe_op op_mod (pe_callTy call_int1 (by rfl) B.int PyProof.Rows.boot_int (pa_cons (pv 2) pa_nil)) (pv 3)) pa_nil)) (by rfl))))
      (pss_one (ps_ret (pe_tup (pa_cons (pe_op op_fdiv (pv 0) (pv 2)) (pa_cons (pe_op op_fdiv (pv 1) (pv 2)) pa_nil)))))), ?_⟩
    refine ⟨_, rfl, t, rfl, _, rfl, _, _, rfl, ?_⟩
    refine ⟨fun m σ H1 => ∃ a b' : Nat, σ = [some (.int t), some (.int b), some (.int (a : Int)), some (.int (b' : Int))] ∧ H1 = H ∧ b' = m ∧ Nat.gcd a b' = Int.gcd t b, ⟨_, t.natAbs, b.toNat, ?_, rfl, rfl, ?_⟩, ?_⟩
    · rw [abs_nat, Int.toNat_of_nonneg (by omega)]; rfl
    · show Nat.gcd t.natAbs b.toNat = Nat.gcd t.natAbs b.natAbs
      rw [show b.toNat = b.natAbs by omega]
    · rintro m σ H1 ⟨a, b', rfl, rfl, rfl, hg⟩
      refine ⟨_, rfl, _, _, rfl, rfl, _, rfl, ?_⟩
      refine ite2 (fun hp => ?_) (fun hp => ?_)
      · have hp' : 0 < b' := by have := of_decide_eq_true hp; omega
        refine ⟨_, fun σ' H' hn => ⟨_, Nat.mod_lt a hp', hn⟩, _, rfl, _, rfl, .inl ⟨_, rfl, _, rfl, _, _, rfl, rfl, by show (0 : Int) < (b' : Int); omega, _, _, rfl, b', a % b', ?_, rfl, rfl, ?_⟩⟩
        · rfl
        · rw [Nat.gcd_comm, ← Nat.gcd_rec, Nat.gcd_comm]; exact hg
      · have hp' : b' = 0 := by
          have : ¬ (0 : Int) < (b' : Int) := fun q => hp (decide_eq_true q)
          omega
        subst hp'
        rw [Nat.gcd_zero_right] at hg
        have ge := gcd_pos (t := t) h0
        have gl := gcd_le (t := t) h0
        have cd : CDiv t (a : Int) ∧ CDiv b (a : Int) := ⟨⟨by omega, by omega⟩, ⟨by omega, by omega⟩⟩
        refine ⟨_, rfl, _, rfl, _, _, rfl, rfl, cd.1, _, rfl, _, rfl, _, _, rfl, rfl, cd.2, by show 2 ≤ sizeLine; decide, fun p hp => ?_⟩
        refine k p _ (same_upd hp) ?_
        rw [upd_same, hg]
        rfl
def tIfT (tc ta tb : TT) : TT := fun σ H Q => tc σ H fun k H1 => if k = true then ta σ H1 Q else tb σ H1 Q
theorem pt_ifExp {X : Cx} {c a b : Expr} {pos : Pos} {tc ta tb : TT} (hc : PT X c tc) (ha : PT X a ta) (hb : PT X b tb) : PT X (.IfExp c a b pos) (tIfT tc ta tb) := by
  refine ⟨fun pins s σ H Q I h => isTrue_IfExp (thn (hc.run pins s σ H _ I h) fun k s1 hk => ?_)⟩
  obtain ⟨H1, I1, q1⟩ := hk
  cases k with
  | true => exact ha.run pins s1 σ H1 Q I1 q1
  | false => exact hb.run pins s1 σ H1 Q I1 q1
/-! ### t_best: the greatest of a list of fractions, or the least one -/
def FrL (H : Hp) (l : Addr) (fs : List Fr) : Prop := ∃ xs, H l = some (.lst xs) ∧ Paired (FrV H) xs fs
def FrOk (f : Fr) : Prop := 0 < f.2 ∧ f.2 ≤ 1000
def spBestL : Sp := fun vs H Q _ => ∃ (l : Addr) (b : Bool) (xs : List V) (fs : List Fr), vs = [.ref l, .bl b] ∧ H l = some (.lst xs) ∧ Paired (FrV H) xs fs ∧ fs ≠ [] ∧ (∀ f ∈ fs, FrOk f) ∧ ∀ v, FrV H v (bestM fs b) → Q v H
def bestStep (b : Bool) (f o : Fr) : Fr := if (if b then lessM f o else lessM o f) then o else f
theorem scTBest : FnScope ["_law_some", "_law_is_ours", "_law_found", "_law_one"] ["_law_some", "_law_is_ours"] (defScope sTBest) := ⟨rfl, rfl, rfl, by decide +kernel, rfl, by decide +kernel, by decide +kernel⟩
theorem paired_at {α β : Type} {F : α → β → Prop} : ∀ {xs : List α} {ys : List β}, Paired F xs ys → ∀ {i : Nat} {x : α}, xs[i]? = some x → ∃ y, ys[i]? = some y ∧ F x y
  | _, _, .nil, i, x, h => by cases h
  | _, _, .cons r t, 0, x, h => by
    have e := Option.some.inj h
    subst e
    exact ⟨_, rfl, r⟩
  | _, _, .cons r t, i + 1, x, h => paired_at t h
theorem ok_tbest {f f1 : Addr} {fd fd1 : FuncData} (F : Fun K "_law_t_best" "_law_t_best" sTBest f fd) (F1 : Fun K "_law_t_less" "_law_t_less" sTLess f1 fd1) (b1 : Binds K fd1 ["_law_one", "_law_other"] []) (m1 : mg "_law_t_less" = some (.ref f1)) :
    FnOk P w K mg base CX0 2 f fd ["_law_some", "_law_is_ours"] spBestL := by
  have G1 : FnOk P w K mg base CX0 1 f1 fd1 ["_law_one", "_law_other"] spLess := ok_tless F1
  refine F.ok scTBest (fun vs H Q E h => ?_) (fun cdv A outer s H vs Q E hr h => ?_)
  · obtain ⟨l, b, xs, fs, rfl, _⟩ := h
    rfl
  · obtain ⟨l, b, xs, fs, rfl, hl, hp, hne, hok, k⟩ := h
    refine ⟨_, pss_cons (ps_set (i := 2) scTBest.nd rfl (.inl rfl) (pe_ix ix_list (pv 0) pe_int (fun _ _ => rfl)))
      (pss_cons (ps_for PassesOwn.never rfl (pi_list (pv 0)) (pg_name (i := 3) scTBest.nd rfl (.inl rfl))
        (pss_one (ps_if (pt_ifExp (pt_val (pv 1)) (pt_val (pe_call G1 hr rfl m1 F1.kp b1 .nil pass0 (pa_cons (pv 2) (pa_cons (pv 3) pa_nil)))) (pt_val (pe_call G1 hr rfl m1 F1.kp b1 .nil pass0 (pa_cons (pv 3) (pa_cons (pv 2) pa_nil)))))
          (pss_one (ps_set (i := 2) scTBest.nd rfl (.inl rfl) (pv 3))) pss_nil)))
      (pss_one (ps_ret (pv 2)))), ?_⟩
    cases hp with
    | nil => exact absurd rfl hne
    | @cons x0 f0 xs' fs' r0 rs =>
      have hp : Paired (FrV H) (x0 :: xs') (f0 :: fs') := .cons r0 rs
      refine ⟨_, rfl, l, _, _, _, rfl, rfl, SqL.of hl, atI_nat (j := 0) rfl, ?_⟩
      refine ⟨_, rfl, l, rfl, ⟨_, SqL.of hl⟩, for_list (K := K) (a := l) (xs := x0 :: xs') (fun i σ H2 => H2 = H ∧ ∃ v o g, σ = [some (.ref l), some (.bl b), some v, o] ∧ FrV H v g ∧ FrOk g ∧ g = ((f0 :: fs').take i).foldl (bestStep b) f0)
        ⟨rfl, x0, none, f0, rfl, r0, hok f0 (by simp), rfl⟩ (fun i σ H2 _ h => by rw [h.1]; exact SqL.of hl) ?_ ?_⟩
      · rintro i x σ H2 hx ⟨rfl, v, o, g, rfl, hv, hg, eg⟩
        obtain ⟨y, hy, ry⟩ := paired_at hp hx
        have oy : FrOk y := hok y (List.mem_of_getElem? hy)
        have st : ((f0 :: fs').take (i + 1)).foldl (bestStep b) f0 = bestStep b g y := by
          rw [List.take_add_one, hy, List.foldl_append, ← eg]
          rfl
        have fin : ∀ c : Bool, c = (if b then lessM g y else lessM y g) → (if c = true then (fun σ' H' => H' = H2 ∧ ∃ v o g, σ' = [some (.ref l), some (.bl b), some v, o] ∧ FrV H2 v g ∧ FrOk g ∧ g = ((f0 :: fs').take (i + 1)).foldl (bestStep b) f0) [some (.ref l), some (.bl b), some x, some x] H2
            else (fun σ' H' => H' = H2 ∧ ∃ v o g, σ' = [some (.ref l), some (.bl b), some v, o] ∧ FrV H2 v g ∧ FrOk g ∧ g = ((f0 :: fs').take (i + 1)).foldl (bestStep b) f0) [some (.ref l), some (.bl b), some v, some x] H2) := fun c hc => by
          rw [st]
          unfold bestStep
          rw [← hc]
          cases c with
          | true => exact iteT ⟨rfl, x, some x, y, rfl, ry, oy, rfl⟩
          | false => exact iteF ⟨rfl, v, some x, g, rfl, hv, hg, rfl⟩
        refine ⟨_, rfl, b, rfl, ?_⟩
        cases b with
        | true =>
          refine iteT ⟨_, rfl, _, rfl, v, x, g, y, rfl, hv, ry, hg, oy, _, rfl, ?_⟩
          have := fin (lessM g y) rfl
          refine ite2 (fun c => ?_) (fun c => ?_)
          · rw [if_pos c] at this
            exact ⟨_, rfl, this⟩
          · rw [if_neg c] at this
            exact this
        | false =>
          refine iteF ⟨_, rfl, _, rfl, x, v, y, g, rfl, ry, hv, oy, hg, _, rfl, ?_⟩
          have := fin (lessM y g) rfl
          refine ite2 (fun c => ?_) (fun c => ?_)
          · rw [if_pos c] at this
            exact ⟨_, rfl, this⟩
          · rw [if_neg c] at this
            exact this
      · rintro σ H2 ⟨rfl, v, o, g, rfl, hv, hg, eg⟩
        refine ⟨_, rfl, k v ?_⟩
        have el : (x0 :: xs').length = (f0 :: fs').length := hp.length
        rw [el, List.take_length] at eg
        have : bestM (f0 :: fs') b = g := by rw [eg]; rfl
        rw [this]
        exact hv
end
end Gw

set_option Elab.async false
set_option linter.all false
set_option maxRecDepth 100000
set_option maxHeartbeats 4000000
namespace Gw
open PySem PySem.Spec PyProof.Rows L2 GW
def signs : Str := "abcdefghijklmnopqrstuvwxyz0123456789."
/-- constants of the text -/
structure Cst (mg : Str → Option Value) : Prop where
  signs : ∃ t, mg "SIGNS" = some (.str signs t)
  most : ∃ t, mg "MOST_SIGNS" = some (.int 60 t)
def NmOk (z : Str) : Prop := 0 < z.length ∧ z.length ≤ 60 ∧ ∀ c ∈ z.cps.toList, c ∈ signs.cps.toList
section
variable {P : Program} {w : World} {K : PySem.W.Frag} {mg : Str → Option Value} {base : Heap}
theorem s_upd {H H' : Hp} {p : Addr} {o : HO} (s : Same H H') (h : H' p = none) : Same H (L2.upd H' p o) := s.trans (same_upd h)
theorem s_own {H H' : Hp} {p : Addr} {o : HO} (s : Same H H') (h : H p = none) : Same H (L2.upd H' p o) := fun b u e => by
  rw [upd_ne (ne_of_none e h)]; exact s b u e
theorem yes_then {σ : L2.St} {H : Hp} {A B : Hp → Prop} (h : A H) : tYes σ H (fun b H3 => if b = true then A H3 else B H3) := by
  show if true = true then A H else B H
  exact iteT h
/-! ### is_integer, is_list -/
def spIsInt : Sp := fun vs H Q _ => ∃ i : Int, vs = [.int i] ∧ Q (.bl true) H
theorem scIsInt : FnScope ["thing"] ["thing"] (defScope sIsInteger) := ⟨rfl, rfl, rfl, by decide +kernel, rfl, by decide +kernel, by decide +kernel⟩
theorem ok_isInt {f : Addr} {fd : FuncData} (F : Fun K "is_integer" "is_integer" sIsInteger f fd) (B : Blt mg) : FnOk P w K mg base CX0 1 f fd ["thing"] spIsInt := by
  refine F.ok scIsInt (fun vs H Q E h => ?_) (fun cdv A outer s H vs Q E hr h => ?_)
  · obtain ⟨i, rfl, _⟩ := h
    rfl
  · obtain ⟨i, rfl, k⟩ := h
    refine ⟨_, pss_one (ps_ret (pe_and (pe_callB call_isi (by rfl) B.isinst boot_isinstance (pa_cons (pv 0) (pa_cons (pe_bltn (v := .ty "int") (by rfl) B.int PyProof.Rows.boot_int rfl) pa_nil)))
      (pe_one (pe_not (pe_callB call_isi (by rfl) B.isinst boot_isinstance (pa_cons (pv 0) (pa_cons (pe_bltn (v := .ty "bool") (by rfl) B.bool (by decide +kernel) rfl) pa_nil))))))), ?_⟩
    refine ⟨_, rfl, .int i, _, _, _, true, rfl, .ty _, .base (.int i), kit_ty (by decide +kernel), true, rfl, iteT ?_⟩
    exact ⟨_, rfl, .int i, _, _, _, false, rfl, .ty _, .base (.int i), kit_ty (by decide +kernel), false, rfl, k⟩
def spIsList : Sp := fun vs H Q _ => ∃ (p : Addr) (xs : List V), vs = [.ref p] ∧ H p = some (.tup xs) ∧ ∀ H', Same H H' → Q (.bl true) H'
theorem scIsList : FnScope ["thing"] ["thing"] (defScope sIsList) := ⟨rfl, rfl, rfl, by decide +kernel, rfl, by decide +kernel, by decide +kernel⟩
theorem ok_isList {f : Addr} {fd : FuncData} (F : Fun K "is_list" "is_list" sIsList f fd) (B : Blt mg) : FnOk P w K mg base CX0 1 f fd ["thing"] spIsList := by
  refine F.ok scIsList (fun vs H Q E h => ?_) (fun cdv A outer s H vs Q E hr h => ?_)
  · obtain ⟨p, xs, rfl, _⟩ := h
    rfl
  · obtain ⟨p, xs, rfl, hp, k⟩ := h
    refine ⟨_, pss_one (ps_ret (pe_callB call_isiT (by rfl) B.isinst boot_isinstance (pa_cons (pv 0) (pa_cons (pe_tup (pa_cons (pe_bltn (v := .ty "list") (by rfl) B.list PyProof.Rows.boot_list rfl) (pa_cons (pe_bltn (v := .ty "tuple") (by rfl) B.tuple PyProof.Rows.boot_tuple rfl) pa_nil))) pa_nil)))), ?_⟩
    refine ⟨_, rfl, by show 2 ≤ sizeLine; decide, fun t nt => ⟨_, t, _, .type "tuple", [.type "list", .type "tuple"], true, rfl, upd_same, .cons (.ty _) (.cons (.ty _) .nil), .base (.tup (by rw [upd_ne (ne_of_none hp nt)]; exact hp)), ?_, k _ (same_upd nt)⟩⟩
    exact kitAny_cons (kit_ty (b := "list") (r := false) (by decide +kernel)) (fun _ => kitAny_cons (kit_ty (b := "tuple") (r := true) (by decide +kernel)) (fun z => nomatch z) (fun _ => rfl)) (fun z => nomatch z)
/-! ### is_name -/
def spIsName : Sp := fun vs H Q _ => ∃ z : Str, vs = [.str z] ∧ NmOk z ∧ ∀ H', Same H H' → Q (.bl true) H'
theorem scIsName : FnScope ["thing", "sign"] ["thing"] (defScope sIsName) := ⟨rfl, rfl, rfl, by decide +kernel, rfl, by decide +kernel, by decide +kernel⟩
theorem ok_isName {f : Addr} {fd : FuncData} (F : Fun K "is_name" "is_name" sIsName f fd) (B : Blt mg) (C : Cst mg) : FnOk P w K mg base CX0 1 f fd ["thing"] spIsName := by
  obtain ⟨ts, hs⟩ := C.signs
  obtain ⟨tm, hm⟩ := C.most
  refine F.ok scIsName (fun vs H Q E h => ?_) (fun cdv A outer s H vs Q E hr h => ?_)
  · obtain ⟨z, rfl, _⟩ := h
    rfl
  · obtain ⟨z, rfl, ⟨z0, z1, z2⟩, k⟩ := h
    refine ⟨_, pss_cons (ps_if (PW.pt (pw_or (pt_not (pt_val (pe_callB call_isi (by rfl) B.isinst boot_isinstance (pa_cons (pv 0) (pa_cons (pe_bltn (v := .ty "str") (by rfl) B.str PyProof.Rows.boot_str rfl) pa_nil)))))
        (pw_or1 (pt_not (pt_chain op_lt op_le pe_int (pe_callB call_len_str (by rfl) B.len PySem.boot_len (pa_cons (pv 0) pa_nil)) (pe_glob (v := .int 60) (by rfl) hm ⟨_, rfl⟩)))))) (pss_one (ps_ret pe_bl)) pss_nil)
      (pss_one (ps_ret (pe_callB (cr_all rfl) (by rfl) B.all boot_all (pa_cons (pe_lc (own := [("sign", 1)]) (g := gName 1) (tt := tYes) (by rfl) scIsName.nd (pi_str (pv 0)) (blkOk_by (N := ["thing", "sign"]) (sc := defScope sIsName) (by decide +kernel))
        (fun _ _ _ _ _ => pg_name (i := 1) scIsName.nd rfl (Or.inl rfl)) (fun _ _ _ _ _ => pts_nil) (fun _ _ _ _ _ => pe_cmpR op_in_sign (pv 1) (pe_glob (v := .str signs) (by rfl) hs ⟨_, rfl⟩) rfl)) pa_nil)))), ?_⟩
    refine ⟨_, rfl, .str z, _, _, _, true, rfl, .ty _, .base (.str z), kit_ty (by decide +kernel), true, rfl, iteF ?_⟩
    refine ⟨_, rfl, z, rfl, Nat.le_of_lt (small _ (by omega)), _, _, rfl, rfl, true, ?_, iteT ⟨_, _, rfl, rfl, true, ?_, iteF ?_⟩⟩
    · show V.bl (decide ((0 : Int) < (z.length : Int))) = _
      rw [decide_eq_true (by omega)]
    · show V.bl (decide ((z.length : Int) ≤ 60)) = _
      rw [decide_eq_true (by omega)]
    refine ⟨_, rfl, z, rfl, fun D hD => lc_it walk_str (fun i H1 => Same H H1 ∧ H1 D = some (.lst ((List.replicate i true).map V.bl))) ⟨same_upd hD, upd_same⟩ (fun _ _ _ _ => True.intro) (fun i x H1 H2 hi hP hY => ?_) (fun H1 hP => ?_)⟩
    · obtain ⟨s1, d1⟩ := hP
      obtain ⟨rfl, c, hc, rfl⟩ := hY
      refine ⟨rfl, yes_then ⟨_, rfl, c, signs, rfl, rfl, _, d1, ?_, s_own s1 hD, ?_⟩⟩
      · rw [List.length_map, List.length_replicate]
        have : i < z.length := hi
        exact small _ (by omega)
      · have hin : c ∈ signs.cps.toList := z2 c (by
          rw [← Array.getElem?_toList] at hc
          exact List.mem_of_getElem? hc)
        rw [upd_same, decide_eq_true hin, List.replicate_succ', List.map_append]
        rfl
    · refine ⟨D, _, rfl, SqL.of hP.2, ?_⟩
      have : ((List.replicate z.cps.size true).all id) = true := by simp
      rw [this]
      exact k _ hP.1
end
end Gw

set_option Elab.async false
set_option linter.all false
set_option maxRecDepth 100000
set_option maxHeartbeats 4000000
namespace Gw
open PySem PySem.Spec PyProof.Rows L2 GW
/-- a def of the text as it stands -/
structure Df (K : PySem.W.Frag) (mg : Str → Option Value) (x : Str) (st : Stmt) (ps : List Str) where
  f : Addr
  fd : FuncData
  F : Fun K x x st f fd
  b : Binds K fd ps []
  m : mg x = some (.ref f)
section
variable {P : Program} {w : World} {K : PySem.W.Frag} {mg : Str → Option Value} {base : Heap}
/-! ### is_step -/
def spIsStep : Sp := fun vs H Q _ => ∃ (p d : Addr) (o : Str) (a : Int) (kvs : List (Key × V)), vs = [.ref p, .ref d] ∧ H p = some (.tup [.str o, .int a]) ∧ NmOk o ∧ Rd H d (.dK kvs) ∧ (valV kvs (Sum.inr o : Key)).isSome = true ∧ ∀ H', Same H H' → Q (.bl true) H'
theorem scIsStep : FnScope ["thing", "names"] ["thing", "names"] (defScope sIsStep) := ⟨rfl, rfl, rfl, by decide +kernel, rfl, by decide +kernel, by decide +kernel⟩
theorem ok_isStep (D : Df K mg "is_step" sIsStep ["thing", "names"]) (DL : Df K mg "is_list" sIsList ["thing"]) (DI : Df K mg "is_integer" sIsInteger ["thing"]) (DN : Df K mg "is_name" sIsName ["thing"]) (B : Blt mg) (C : Cst mg) :
    FnOk P w K mg base CX0 2 D.f D.fd ["thing", "names"] spIsStep := by
  have GL : FnOk P w K mg base CX0 1 DL.f DL.fd ["thing"] spIsList := ok_isList DL.F B
  have GI : FnOk P w K mg base CX0 1 DI.f DI.fd ["thing"] spIsInt := ok_isInt DI.F B
  have GN : FnOk P w K mg base CX0 1 DN.f DN.fd ["thing"] spIsName := ok_isName DN.F B C
  refine D.F.ok scIsStep (fun vs H Q E h => ?_) (fun cdv A outer s H vs Q E hr h => ?_)
  · obtain ⟨p, d, o, a, kvs, rfl, _⟩ := h
    rfl
  · obtain ⟨p, d, o, a, kvs, rfl, hp, no, hd, hv, k⟩ := h
    have hu := hu_of hr
    refine ⟨_, pss_cons (ps_if (PW.pt (pw_or (pt_not (pt_val (pe_call GL hr rfl DL.m DL.F.kp DL.b .nil pass0 (pa_cons (pv 0) pa_nil))))
        (pw_or (pt_cmpR op_ne (pe_callB call_len_seq (by rfl) B.len PySem.boot_len (pa_cons (pv 0) pa_nil)) pe_int (nomark _))
          (pw_or1 (pt_not (pt_val (pe_call GI hr rfl DI.m DI.F.kp DI.b .nil pass0 (pa_cons (pe_ix ix_tup (pv 0) pe_int (fun _ _ => rfl)) pa_nil)))))))) (pss_one (ps_ret pe_bl)) pss_nil)
      (pss_one (ps_ret (pe_and (pe_call GN hr rfl DN.m DN.F.kp DN.b .nil pass0 (pa_cons (pe_ix ix_tup (pv 0) pe_int (fun _ _ => rfl)) pa_nil)) (pe_one (pe_cmp (pc_din hu (pe_ix ix_tup (pv 0) pe_int (fun _ _ => rfl)) (pv 1))))))), ?_⟩
    refine ⟨_, rfl, p, _, rfl, hp, fun H1 s1 => ⟨true, rfl, iteF ?_⟩⟩
    have hp1 := s1 _ _ hp
    refine ⟨_, rfl, p, _, rfl, .inr (SqT.of hp1), rfl, _, rfl, iteNS rfl ?_⟩
    refine ⟨_, rfl, p, _, _, _, rfl, rfl, SqT.of hp1, pr_1, a, rfl, true, rfl, iteF ?_⟩
    refine ⟨_, rfl, p, _, _, _, rfl, rfl, SqT.of hp1, pr_0, o, rfl, no, fun H2 s2 => ⟨true, rfl, iteT ?_⟩⟩
    refine ⟨_, rfl, p, _, _, _, rfl, rfl, SqT.of (s2 _ _ hp1), pr_0, _, rfl, d, _, rfl, .inl ⟨kvs, Sum.inr o, rd_same (s1.trans s2) hd, rfl, rfl⟩, ?_⟩
    rw [hv]
    exact k _ (s1.trans s2)
theorem rd_upd {H : Hp} {a b : Addr} {u o : HO} (n : a ≠ b) (h : Rd H a u) : Rd (upd H b o) a u := by
  rcases h with h | ⟨q, h⟩
  · exact .inl (by rw [upd_ne n]; exact h)
  · exact .inr ⟨q, by rw [upd_ne n]; exact h⟩
/-! ### is_mean_place -/
def RowOk (names : List Str) (row : Row Str) : Prop := row ≠ [] ∧ row.length ≤ 3 ∧ (GW.keys row).Nodup ∧ ∀ m ∈ row, NmOk m.1 ∧ NmOk m.2.1 ∧ m.2.1 ∈ names
def spIsPlace : Sp := fun vs H Q _ => ∃ (v : V) (d : Addr) (b : Bool) (row : Row Str) (kvs : List (Key × V)) (names : List Str), vs = [v, .ref d] ∧ PlV (wo H d) v (b, row) ∧ Rd H d (.dK kvs) ∧ kvs.map (·.1) = names.map Sum.inr ∧ RowOk names row ∧ ∀ H', Same H H' → Q (.bl true) H'
theorem scIsPlace : FnScope ["thing", "names", "move"] ["thing", "names"] (defScope sIsPlace) := ⟨rfl, rfl, rfl, by decide +kernel, rfl, by decide +kernel, by decide +kernel⟩
theorem valV_key {kvs : List (Key × V)} {names : List Str} (h : kvs.map (·.1) = names.map Sum.inr) {o : Str} (ho : o ∈ names) : (valV kvs (Sum.inr o : Key)).isSome = true := by
  rw [← valV_any, List.any_eq_true]
  have : (Sum.inr o : Key) ∈ kvs.map (·.1) := by rw [h]; exact List.mem_map_of_mem ho
  obtain ⟨p, hp, e⟩ := List.mem_map.mp this
  exact ⟨p, hp, decide_eq_true e⟩
theorem side_in (b : Bool) : inV (.str (sideS b)) [.str "ours", .str "theirs"] = true := by cases b <;> decide +kernel
theorem ok_isPlace (D : Df K mg "is_mean_place" sIsPlace ["thing", "names"]) (DS : Df K mg "is_step" sIsStep ["thing", "names"]) (DL : Df K mg "is_list" sIsList ["thing"]) (DI : Df K mg "is_integer" sIsInteger ["thing"]) (DN : Df K mg "is_name" sIsName ["thing"]) (B : Blt mg) (C : Cst mg) :
    FnOk P w K mg base CX0 3 D.f D.fd ["thing", "names"] spIsPlace := by
  have GS : FnOk P w K mg base CX0 2 DS.f DS.fd ["thing", "names"] spIsStep := ok_isStep DS DL DI DN B C
  have GL : FnOk P w K mg base CX0 1 DL.f DL.fd ["thing"] spIsList := ok_isList DL.F B
  have GN : FnOk P w K mg base CX0 1 DN.f DN.fd ["thing"] spIsName := ok_isName DN.F B C
  refine D.F.ok scIsPlace (fun vs H Q E h => ?_) (fun cdv A outer s H vs Q E hr h => ?_)
  · obtain ⟨v, d, b, row, kvs, names, rfl, _⟩ := h
    rfl
  · obtain ⟨v, d, b, row, kvs, names, rfl, ⟨t, dr, kr, rfl, ht, hdr, tb⟩, hd, hk, ⟨rne, rlen, rnd, rok⟩, k⟩ := h
    have tl : kr.length = row.length := tb.len
    have hu := hu_of hr
    have hr1 : Room 1 _ := hr.mono (by decide)
    obtain ⟨ht0, ntd⟩ := wo_le ht
    obtain ⟨hdr0, nrd⟩ := wo_le hdr
    refine ⟨_, pss_cons (ps_if (PW.pt (pw_or (pt_not (pt_val (pe_call GL hr1 rfl DL.m DL.F.kp DL.b .nil pass0 (pa_cons (pv 0) pa_nil))))
        (pw_or (pt_cmpR op_ne (pe_callB call_len_seq (by rfl) B.len PySem.boot_len (pa_cons (pv 0) pa_nil)) pe_int (nomark _))
        (pw_or (pt_not (pt_val (pe_callB call_isi (by rfl) B.isinst boot_isinstance (pa_cons (pe_ix ix_tup (pv 0) pe_int (fun _ _ => rfl)) (pa_cons (pe_bltn (v := .ty "str") (by rfl) B.str PyProof.Rows.boot_str rfl) pa_nil)))))
        (pw_or1 (pt_cmpR op_notIn_seq (pe_ix ix_tup (pv 0) pe_int (fun _ _ => rfl)) (pe_tup (pa_cons pe_str (pa_cons pe_str pa_nil))) (by rfl))))))) (pss_one (ps_ret pe_bl)) pss_nil)
      (pss_cons (ps_if (PW.pt (pw_or (pt_not (pt_val (pe_callB call_isi (by rfl) B.isinst boot_isinstance (pa_cons (pe_ix ix_tup (pv 0) pe_int (fun _ _ => rfl)) (pa_cons (pe_bltn (v := .ty "dict") (by rfl) B.dict PyProof.Rows.boot_dict rfl) pa_nil)))))
        (pw_or1 (pt_cmpR op_eq (pe_callB call_lenD (by rfl) B.len PySem.boot_len (pa_cons (pe_ix ix_tup (pv 0) pe_int (fun _ _ => rfl)) pa_nil)) pe_int (nomark _))))) (pss_one (ps_ret pe_bl)) pss_nil)
      (pss_one (ps_ret (pe_callB (cr_all rfl) (by rfl) B.all boot_all (pa_cons (pe_lock (pe_lc (own := [("move", 2)]) (g := gName 2) (tt := tYes) (by rfl) scIsPlace.nd (pi_keys (pe_ix ix_tup (pv 0) pe_int (fun _ _ => rfl)))
        (blkOk_by (N := ["thing", "names", "move"]) (sc := defScope sIsPlace) (by decide +kernel)) (fun _ _ _ _ _ => pg_name (i := 2) scIsPlace.nd rfl (Or.inl rfl)) (fun _ _ _ _ _ => pts_nil)
        (fun _ _ _ _ _ => pe_and (pe_call GN hr1 rfl DN.m DN.F.kp DN.b .nil pass0 (pa_cons (pv 2) pa_nil)) (pe_one (pe_call GS hr rfl DS.m DS.F.kp DS.b .nil pass0 (pa_cons (pe_dget hu (pe_ix (r := rIxT K) ix_tup (pv 0) pe_int (fun _ _ => rfl)) (pv 2) (fun _ _ => rfl)) (pa_cons (pv 1) pa_nil)))))))
        pa_nil))))), ?_⟩
    -- the shape
    refine ⟨_, rfl, t, _, rfl, ht0, fun H1 s1 => ⟨true, rfl, iteF ?_⟩⟩
    have ht1 := s1 _ _ ht0
    refine ⟨_, rfl, t, _, rfl, .inr (SqT.of ht1), rfl, _, rfl, iteNS rfl ?_⟩
    refine ⟨_, rfl, t, _, _, _, rfl, rfl, SqT.of ht1, pr_0, .str (sideS b), _, _, _, true, rfl, .ty _, .base (.str _), kit_ty (by decide +kernel), true, rfl, iteF ?_⟩
    refine ⟨_, rfl, t, _, _, _, rfl, rfl, SqT.of ht1, pr_0, by show 2 ≤ sizeLine; decide, fun q nq => ?_⟩
    have s2 : Same H (upd H1 q (.tup [.str "ours", .str "theirs"])) := s_upd s1 nq
    refine ⟨q, _, rfl, .inr (SqT.of upd_same), rfl, rfl, false, ?_, iteF ?_⟩
    · rw [side_in]; rfl
    have ht2 := s2 _ _ ht0
    have hdr2 := s2 _ _ hdr0
    refine ⟨_, rfl, t, _, _, _, rfl, rfl, SqT.of ht2, pr_1, .ref dr, _, _, _, true, rfl, .ty _, .base (.dK hdr2), kit_ty (by decide +kernel), true, rfl, iteF ?_⟩
    refine ⟨_, rfl, t, _, _, _, rfl, rfl, SqT.of ht2, pr_1, dr, kr, rfl, hdr2, rfl, false, ?_, iteF ?_⟩
    · have : row.length ≠ 0 := fun z => rne (List.eq_nil_of_length_eq_zero z)
      have e : ¬ (V.int (kr.length : Int) = V.int 0) := fun z => by
        have z' := V.int.inj z
        omega
      rw [decide_eq_false e]
    -- all moves
    refine ⟨dr, _, hdr2, True.intro, fun od => ?_⟩
    refine ⟨_, rfl, t, _, _, _, rfl, rfl, SqT.of (by rw [upd_ne (ne_of ht2 hdr2 (by intro z; cases z))]; exact ht2), pr_1, dr, od, rfl, .inl ⟨kr, upd_same, fun D hD => ?_⟩⟩
    have s3 : Same (wo H dr) (upd (upd H1 q (.tup [.str "ours", .str "theirs"])) dr (.frz od (.dK kr))) := fun b' o' e => by
      obtain ⟨e1, n1⟩ := wo_le e
      rw [upd_ne n1]; exact s2 _ _ e1
    refine lc_it walk_keys (fun i H4 => Same (upd (upd H1 q (.tup [.str "ours", .str "theirs"])) dr (.frz od (.dK kr))) H4 ∧ H4 D = some (.lst ((List.replicate i true).map V.bl))) ⟨same_upd hD, upd_same⟩ (fun i H4 _ hP => hP.1 _ _ upd_same) (fun i x H4 H5 hi hP hY => ?_) (fun H4 hP => ?_)
    · obtain ⟨s4, d4⟩ := hP
      obtain ⟨rfl, key, val, hkv, rfl⟩ := hY
      obtain ⟨m, hm, ek, _⟩ := tb.at hkv
      simp only at ek
      subst ek
      have hmem := List.mem_of_getElem? hm
      obtain ⟨okw, okt, oki⟩ := rok m hmem
      obtain ⟨vm, hvm, pm, rfl, hpm⟩ := tb.look (look_of_mem rnd hmem)
      have s5 : Same (wo H dr) H5 := s3.trans s4
      have nt : t ≠ dr := fun z => by rw [z, hdr0] at ht0; cases ht0
      refine ⟨rfl, yes_then ⟨_, rfl, m.1, rfl, okw, fun H6 s6 => ⟨true, rfl, iteT ?_⟩⟩⟩
      have s7 : Same (wo H dr) H6 := s5.trans s6
      obtain ⟨hpm0, npm⟩ := wo_le hpm
      have npr : pm ≠ dr := fun z => by rw [z, hdr0] at hpm0; cases hpm0
      refine ⟨_, rfl, t, _, _, _, rfl, rfl, SqT.of (s7 _ _ (wo_of ht0 nt)), pr_1, _, rfl, dr, .ref pm, rfl, .inl ⟨kr, Sum.inr m.1, .inr ⟨od, s6 _ _ (s4 _ _ upd_same)⟩, rfl, ?_⟩, _, rfl, ?_⟩
      · exact hvm.symm
      · refine ⟨pm, d, m.2.1, m.2.2, kvs, rfl, s7 _ _ (wo_of hpm0 npr), okt, ?_, valV_key hk oki, fun H8 s8 => ?_⟩
        · exact rd_same (s4.trans s6) (rd_upd nrd.symm (rd_same s2 hd))
        · refine ⟨_, s8 _ _ (s6 _ _ d4), ?_, ?_, ?_⟩
          · rw [List.length_map, List.length_replicate]
            have : i < kr.length := hi
            exact small _ (by omega)
          · exact s_own ((s4.trans s6).trans s8) hD
          · rw [upd_same, List.replicate_succ', List.map_append]; rfl
    · have nD : D ≠ dr := fun z => by rw [z, upd_same] at hD; cases hD
      refine ⟨hP.1 _ _ upd_same, D, _, rfl, SqL.of (by rw [upd_ne nD]; exact hP.2), ?_⟩
      have : ((List.replicate kr.length true).all id) = true := by simp
      rw [this]
      exact k _ (s2.trans (unlocked hdr2 hP.1))
end
end Gw

set_option Elab.async false
set_option linter.all false
set_option maxRecDepth 100000
set_option maxHeartbeats 4000000
namespace Gw
open PySem PySem.Spec PyProof.Rows L2 GW
/-! ### the skeleton of a plan: words, row dicts by their very pairs -/
abbrev SkL := List (Key × V × List (Key × V))
def Sk (H : Hp) (kvs : List (Key × V)) (L : SkL) : Prop := Paired (fun (kv : Key × V) (l : Key × V × List (Key × V)) => kv.1 = l.1 ∧ ∃ t d, kv.2 = .ref t ∧ H t = some (.tup [l.2.1, .ref d]) ∧ H d = some (.dK l.2.2)) kvs L
def SkP (H : Hp) (L : SkL) (P : Plan Str) : Prop := Paired (fun (l : Key × V × List (Key × V)) (p : Str × Bool × Row Str) => l.1 = Sum.inr p.1 ∧ l.2.1 = .str (sideS p.2.1) ∧ Tb (MvV H) l.2.2 p.2.2) L P
theorem sk_pl {H : Hp} : ∀ {kvs : List (Key × V)} {L : SkL} {P : Plan Str}, Sk H kvs L → SkP H L P → Tb (PlV H) kvs P
  | _, _, _, .nil, .nil => .nil
  | _, _, _, .cons a r, .cons b q => by
    obtain ⟨a1, t, d, a2, a3, a4⟩ := a
    obtain ⟨b1, b2, b3⟩ := b
    exact .cons ⟨a1.trans b1, t, d, _, a2, by rw [b2] at a3; exact a3, a4, b3⟩ (sk_pl r q)
theorem pl_sk {H : Hp} {kvs : List (Key × V)} {P : Plan Str} (h : Tb (PlV H) kvs P) : ∃ L, Sk H kvs L ∧ SkP H L P := by
  unfold Tb at h
  induction h with
  | nil => exact ⟨[], .nil, .nil⟩
  | @cons kv p _ _ a _ ih =>
    obtain ⟨L, i1, i2⟩ := ih
    obtain ⟨a1, t, d, kvr, a2, a3, a4, a5⟩ := a
    exact ⟨(kv.1, .str (sideS p.2.1), kvr) :: L, .cons ⟨rfl, t, d, a2, a3, a4⟩ i1, .cons ⟨a1, rfl, a5⟩ i2⟩
theorem Sk.mono {H H' : Hp} {kvs : List (Key × V)} {L : SkL} (h : Sk H kvs L) (s : Same H H') : Sk H' kvs L := Paired.mapP h fun _ _ ⟨a, t, d, b, c, e⟩ => ⟨a, t, d, b, s _ _ c, s _ _ e⟩
theorem SkP.mono {H H' : Hp} {L : SkL} {P : Plan Str} (h : SkP H L P) (s : Same H H') : SkP H' L P := Paired.mapP h fun _ _ ⟨a, b, c⟩ => ⟨a, b, c.mono fun _ _ q => q.mono s⟩
theorem sk_len {H : Hp} {kvs : List (Key × V)} {L : SkL} (h : Sk H kvs L) : kvs.length = L.length := Paired.length h
theorem sk_app {H : Hp} {ks ms : List (Key × V)} {L M : SkL} (h : Sk H ks L) (q : Sk H ms M) : Sk H (ks ++ ms) (L ++ M) := by
  unfold Sk at h q ⊢
  induction h with
  | nil => exact q
  | cons e _ ih => exact .cons e ih
theorem sk_keys {H : Hp} {kvs : List (Key × V)} {L : SkL} (h : Sk H kvs L) : kvs.map (·.1) = L.map (·.1) := by
  unfold Sk at h
  induction h with
  | nil => rfl
  | cons e _ ih => rw [List.map_cons, List.map_cons, ih, e.1]
theorem paired_both {α β : Type} {F : α → β → Prop} : ∀ {xs : List α} {ys : List β}, Paired F xs ys → ∀ {i : Nat} {y : β}, ys[i]? = some y → ∃ x, xs[i]? = some x ∧ F x y
  | _, _, .nil, i, x, h => by cases h
  | _, _, .cons r t, 0, x, h => by
    have e := Option.some.inj h
    subst e
    exact ⟨_, rfl, r⟩
  | _, _, .cons r t, i + 1, x, h => paired_both t h
theorem nodup_at {α : Type} {kvs : List (Key × α)} (nd : (kvs.map (·.1)).Nodup) {i : Nat} {kv : Key × α} (h : kvs[i]? = some kv) : kv.1 ∉ (kvs.take i).map (·.1) := fun hm => by
  obtain ⟨q, hq, e⟩ := List.mem_map.mp hm
  obtain ⟨j, hj, ej⟩ := List.mem_iff_getElem.mp hq
  rw [List.length_take] at hj
  have h1 : (kvs.map (·.1))[j]? = some kv.1 := by
    rw [List.getElem?_map]
    rw [List.getElem_take] at ej
    rw [List.getElem?_eq_getElem (by omega), ej, ← e]; rfl
  have h2 : (kvs.map (·.1))[i]? = some kv.1 := by rw [List.getElem?_map, h]; rfl
  have := nd_ix nd h1 h2
  omega
theorem valV_at {kvs : List (Key × V)} (nd : (kvs.map (·.1)).Nodup) {i : Nat} {kv : Key × V} (h : kvs[i]? = some kv) : valV kvs kv.1 = some kv.2 := by
  induction kvs generalizing i with
  | nil => cases h
  | cons p r ih =>
    have nd' : p.1 ∉ r.map (·.1) ∧ (r.map (·.1)).Nodup := by simpa using nd
    cases i with
    | zero =>
      have e : p = kv := Option.some.inj h
      rw [← e]; exact valV_pos rfl
    | succ i =>
      have h' : r[i]? = some kv := h
      rw [valV_neg fun z => nd'.1 (by rw [z]; exact List.mem_map_of_mem (f := (·.1)) (List.mem_of_getElem? h'))]
      exact ih nd'.2 h'
theorem putK_at {kvs : List (Key × V)} (nd : (kvs.map (·.1)).Nodup) {i : Nat} {kv : Key × V} (h : kvs[i]? = some kv) : putK (kvs.take i) kv.1 kv.2 = kvs.take (i + 1) := by
  rw [List.take_add_one, h, putK_new]
  · rfl
  · cases e : valV (kvs.take i) kv.1 with
    | none => rfl
    | some v => exact absurd (valV_in e) (nodup_at nd h)
theorem pe_tupK {X : Cx} {K : PySem.W.Frag} {a : Expr} {ta : TE} {p pos : Pos} (hK : X.K = K) (hg : Gl X "tuple") (hm : X.mg "tuple" = none) (ha : PE X a ta) (na : starEach [a] X.env = (false, eval a X.env) :: starEach [] X.env := by rfl) : PE X (.Call (.Name "tuple" p) [a] [] pos) (tThen ta (kTup K)) := by
  subst hK
  exact pe_tupleOf hg hm ha na
/-- tuples and dicts stand -/
def SameTD (H H' : Hp) : Prop := (∀ t xs, H t = some (.tup xs) → H' t = some (.tup xs)) ∧ ∀ d ks, H d = some (.dK ks) → H' d = some (.dK ks)
theorem td_same {H H' : Hp} (s : Same H H') : SameTD H H' := ⟨fun _ _ e => s _ _ e, fun _ _ e => s _ _ e⟩
theorem td_trans {H H1 H2 : Hp} (s : SameTD H H1) (t : SameTD H1 H2) : SameTD H H2 := ⟨fun a b e => t.1 a b (s.1 a b e), fun a b e => t.2 a b (s.2 a b e)⟩
theorem td_upd {H : Hp} {x : Addr} {o : HO} (n1 : ∀ xs, H x ≠ some (.tup xs)) (n2 : ∀ ks, H x ≠ some (.dK ks)) : SameTD H (upd H x o) :=
  ⟨fun t xs e => by rw [upd_ne (fun z => n1 xs (by rw [← z]; exact e))]; exact e, fun d ks e => by rw [upd_ne (fun z => n2 ks (by rw [← z]; exact e))]; exact e⟩
theorem td_wo {H H' : Hp} {a : Addr} (s : SameTD H H') : SameTD (wo H a) (wo H' a) := ⟨fun t xs e => wo_of (s.1 _ _ (wo_le e).1) (wo_le e).2, fun t xs e => wo_of (s.2 _ _ (wo_le e).1) (wo_le e).2⟩
theorem sk_td {H H' : Hp} {kvs : List (Key × V)} {L : SkL} (h : Sk H kvs L) (s : SameTD H H') : Sk H' kvs L := Paired.mapP h fun _ _ ⟨a, t, d, b, c, e⟩ => ⟨a, t, d, b, s.1 _ _ c, s.2 _ _ e⟩
/-! ### what is asked of a plan -/
structure PlOk (P : Plan Str) : Prop where
  nd : (GW.keys P).Nodup
  ne : P ≠ []
  len : P.length ≤ 10
  nm : ∀ p ∈ P, NmOk p.1
  row : ∀ p ∈ P, RowOk (GW.keys P) p.2.2
/-- the class -/
structure Mcl (K : PySem.W.Frag) (mg : Str → Option Value) (C : Addr) : Prop where
  cl : Cls K C
  nT : NoAttr K C "place_table"
  mgC : mg "Means" = some (.ref C)
def mf (d : Addr) : List (Str × V) := putF "place_table" (.ref d) []
theorem mf_at (d : Addr) : (mf d).lookup ("place_table" : Str) = some (.ref d) := by
  unfold mf
  rw [lookup_putF, if_pos rfl]
theorem mf_no (d : Addr) {m : Str} (h : ¬ m = "place_table") : (mf d).lookup m = none := by
  unfold mf
  rw [lookup_putF, if_neg h]
  all_goals rfl
def MeansL (C : Addr) (H : Hp) (m : Addr) (L : SkL) : Prop := ∃ dx d kvs, H m = some (.ins C dx (mf d)) ∧ H d = some (.dK kvs) ∧ Sk (wo H d) kvs L
def MeansAt (C : Addr) (H : Hp) (m : Addr) (P : Plan Str) : Prop := ∃ dx d, H m = some (.ins C dx (mf d)) ∧ PlanU H d P
theorem MeansL.mono {C : Addr} {H H' : Hp} {m : Addr} {L : SkL} (h : MeansL C H m L) (s : Same H H') : MeansL C H' m L := let ⟨dx, d, k, a, b, c⟩ := h; ⟨dx, d, k, s _ _ a, s _ _ b, c.mono (wo_same s)⟩
theorem MeansAt.mono {C : Addr} {H H' : Hp} {m : Addr} {P : Plan Str} (h : MeansAt C H m P) (s : Same H H') : MeansAt C H' m P := let ⟨dx, d, a, b⟩ := h; ⟨dx, d, s _ _ a, b.mono s⟩
section
variable {P : Program} {w : World} {K : PySem.W.Frag} {mg : Str → Option Value} {base : Heap}
/-! ### Means.__init__ -/
def spInit (C : Addr) : Sp := fun vs H Q _ => ∃ (m a dx : Addr) (kvs : List (Key × V)) (L : SkL) (Pl : Plan Str), vs = [.ref m, .ref a] ∧ H m = some (.ins C dx []) ∧ H a = some (.dK kvs) ∧ Sk (wo H a) kvs L ∧ SkP (wo H a) L Pl ∧ PlOk Pl ∧
  ∀ H' d kvs', (∀ b o, H b = some o → b ≠ m → H' b = some o) → H d = none → H' m = some (.ins C dx (mf d)) → H' d = some (.dK kvs') → Sk (wo H' d) kvs' L → Q .non H'
theorem scInit : FnScope ["self", "places", "name", "found", "moves", "move"] ["self", "places"] (defScope sInit) := ⟨rfl, rfl, rfl, by decide +kernel, rfl, by decide +kernel, by decide +kernel⟩
theorem ok_init {C f : Addr} {fd : FuncData} (F : Fun K "__init__" "Means.__init__" sInit f fd) (M : Mcl K mg C) (DP : Df K mg "is_mean_place" sIsPlace ["thing", "names"]) (DS : Df K mg "is_step" sIsStep ["thing", "names"]) (DL : Df K mg "is_list" sIsList ["thing"]) (DI : Df K mg "is_integer" sIsInteger ["thing"]) (DN : Df K mg "is_name" sIsName ["thing"]) (B : Blt mg) (Cs : Cst mg) :
    FnOk P w K mg base CX0 4 f fd ["self", "places"] (spInit C) := by
  have GP : FnOk P w K mg base CX0 3 DP.f DP.fd ["thing", "names"] spIsPlace := ok_isPlace DP DS DL DI DN B Cs
  have GN : FnOk P w K mg base CX0 1 DN.f DN.fd ["thing"] spIsName := ok_isName DN.F B Cs
  refine F.ok scInit (fun vs H Q E h => ?_) (fun cdv A outer s H vs Q E hr h => ?_)
  · obtain ⟨m, a, dx, kvs, L, Pl, rfl, _⟩ := h
    rfl
  · obtain ⟨m, a, dx, kvs, L, Pl, rfl, hm, ha, sk, skp, ok, k⟩ := h
    have hu := hu_of hr
    have hr1 : Room 1 _ := hr.mono (by decide)
    have tb := sk_pl sk skp
    have tl : kvs.length = Pl.length := tb.len
    have knd : (kvs.map (·.1)).Nodup := by
      rw [tb.keys]
      exact List.Pairwise.map _ (fun x y h z => h (Sum.inr.inj z)) ok.nd
    refine ⟨_, pss_cons (ps_if (PW.pt (pw_or (pt_not (pt_val (pe_callB call_isi (by rfl) B.isinst boot_isinstance (pa_cons (pv 1) (pa_cons (pe_bltn (v := .ty "dict") (by rfl) B.dict PyProof.Rows.boot_dict rfl) pa_nil)))))
        (pw_or1 (pt_cmpR op_eq (pe_callB call_lenD (by rfl) B.len PySem.boot_len (pa_cons (pv 1) pa_nil)) pe_int (nomark _))))) (pss_one ps_never) pss_nil)
      (pss_cons (ps_lock (ps_for PassesOwn.never rfl (pi_keys (pv 1)) (pg_name (i := 2) scInit.nd rfl (Or.inl rfl))
        (pss_one (ps_if (PW.pt (pw_or (pt_not (pt_val (pe_call GN hr1 rfl DN.m DN.F.kp DN.b .nil pass0 (pa_cons (pv 2) pa_nil))))
          (pw_or1 (pt_not (pt_val (pe_call GP hr rfl DP.m DP.F.kp DP.b .nil pass0 (pa_cons (pe_dget hu (pv 1) (pv 2) (fun _ _ => rfl)) (pa_cons (pv 1) pa_nil)))))))) (pss_one ps_never) pss_nil))))
      (pss_cons (ps_set (i := 3) scInit.nd rfl (.inl rfl) pe_dnewK)
      (pss_cons (ps_lock (ps_for PassesOwn.never rfl (pi_keys (pv 1)) (pg_name (i := 2) scInit.nd rfl (Or.inl rfl))
        (pss_cons (ps_set (i := 4) scInit.nd rfl (.inr rfl) (pe_ix ix_tup (pe_dget hu (pv 1) (pv 2) (fun _ _ => rfl)) pe_int (fun _ _ => rfl)))
        (pss_one (ps_dput hu (pv 3) (pv 2) (pe_tup (pa_cons (pe_ix ix_tup (pe_dget hu (pv 1) (pv 2) (fun _ _ => rfl)) pe_int (fun _ _ => rfl))
          (pa_cons (pe_lock (pe_dc (own := [("move", 5)]) (g := gName 5) (tt := tYes) (by rfl) scInit.nd (pi_keys (pv 4)) (blkOk_by (N := ["self", "places", "name", "found", "moves", "move"]) (sc := defScope sInit) (by decide +kernel))
            (fun _ _ _ _ _ => pg_name (i := 5) scInit.nd rfl (Or.inl rfl)) (fun _ _ _ _ _ => pts_nil) (fun _ _ _ _ _ => pv 5)
            (fun _ _ _ _ _ => pe_tupK (K := K) rfl (by rfl) B.tuple (pe_dget hu (pv 4) (pv 5) (fun _ _ => rfl))))) pa_nil))) rfl)))))
      (pss_one (ps_fld (pv 0) (pv 3) rfl))))), ?_⟩
    have pl10 := ok.len
    have hne : Pl.length ≠ 0 := fun z => ok.ne (List.eq_nil_of_length_eq_zero z)
    refine ⟨_, rfl, .ref a, _, _, _, true, rfl, .ty _, .base (.dK ha), kit_ty (by decide +kernel), true, rfl, iteF ?_⟩
    refine ⟨_, rfl, a, kvs, rfl, ha, rfl, false, ?_, iteF ?_⟩
    · have e : ¬ (V.int (kvs.length : Int) = V.int 0) := fun z => by
        have z' := V.int.inj z
        omega
      rw [decide_eq_false e]
    have nma : m ≠ a := ne_of hm ha (by intro z; cases z)
    -- all places are looked at
    refine ⟨a, _, ha, True.intro, fun od => ⟨_, rfl, a, od, rfl, .inl ⟨kvs, upd_same, for_it walk_keys (fun i σ H1 => ∃ v2, σ = [some (.ref m), some (.ref a), v2, none, none, none] ∧ Same (upd H a (.frz od (.dK kvs))) H1)
      ⟨none, rfl, Same.refl _⟩ (fun i σ H1 _ hP => let ⟨_, _, s1⟩ := hP; s1 _ _ upd_same) (fun i x σ H1 H1' hi hP hY => ?_) (fun σ H1 hP => ?_)⟩⟩⟩
    · obtain ⟨v2, rfl, s1⟩ := hP
      obtain ⟨rfl, key, val, hkv, rfl⟩ := hY
      obtain ⟨p, hp, ek, hpl⟩ := tb.at hkv
      simp only at ek hpl
      subst ek
      have hmem := List.mem_of_getElem? hp
      refine ⟨_, rfl, p.1, rfl, ok.nm p hmem, fun H2 s2 => ⟨true, rfl, iteF ?_⟩⟩
      have s3 := s1.trans s2
      refine ⟨_, rfl, _, rfl, a, val, rfl, .inl ⟨kvs, Sum.inr p.1, .inr ⟨od, s3 _ _ upd_same⟩, rfl, (valV_at knd hkv).symm⟩, _, rfl, ?_⟩
      refine ⟨val, a, p.2.1, p.2.2, kvs, GW.keys Pl, rfl, hpl.mono ?_, .inr ⟨od, s3 _ _ upd_same⟩, tb.keys, ok.row p hmem, fun H4 s4 => ⟨true, rfl, iteF ⟨_, rfl, s3.trans s4⟩⟩⟩
      have := wo_same (a := a) s3
      rw [wo_upd] at this
      exact this
    obtain ⟨v2, rfl, s1⟩ := hP
    refine ⟨s1 _ _ upd_same, fun f hf => ?_⟩
    have sb : Same H (upd H1 a (.dK kvs)) := unlocked ha s1
    generalize upd H1 a (.dK kvs) = Hb at sb hf ⊢
    have hab : Hb a = some (.dK kvs) := sb _ _ ha
    have nfa : f ≠ a := fun z => by rw [z, hab] at hf; cases hf
    have nfm : f ≠ m := fun z => by rw [z, sb _ _ hm] at hf; cases hf
    have skb : Sk (wo Hb a) kvs L := sk.mono (wo_same sb)
    have skpb : SkP (wo Hb a) L Pl := skp.mono (wo_same sb)
    -- the new dict is filled
    refine ⟨a, .dK kvs, by rw [upd_ne nfa.symm]; exact hab, True.intro, fun od => ⟨_, rfl, a, od, rfl, .inl ⟨kvs, upd_same, for_it walk_keys (fun i σ H4 => ∃ v2 v4 ks, σ = [some (.ref m), some (.ref a), v2, some (.ref f), v4, none] ∧ Same (upd Hb a (.frz od (.dK kvs))) H4 ∧ H4 f = some (.dK ks) ∧ Sk (wo H4 f) ks (L.take i))
      ⟨v2, none, [], rfl, ?_, ?_, .nil⟩ (fun i σ H4 _ hP => let ⟨_, _, _, _, s4, _⟩ := hP; s4 _ _ upd_same) (fun i x σ H4o H4 hi hP hY => ?_) (fun σ H4 hP => ?_)⟩⟩⟩
    · intro b o e
      by_cases c : b = a
      · rw [c, upd_same] at e ⊢; exact e
      · rw [upd_ne c] at e ⊢
        rw [upd_ne (ne_of_none e hf)]; exact e
    · rw [upd_ne nfa, upd_same]
    · obtain ⟨w2, w4, ks, rfl, s4, hf4, sk4⟩ := hP
      obtain ⟨rfl, key, val, hkv, rfl⟩ := hY
      obtain ⟨l, hl, ek, t, d, ev, ht, hd⟩ := paired_at skb hkv
      simp only at ek ev
      subst ev
      obtain ⟨p, hp, ep, ew, tr⟩ := paired_at skpb hl
      have hmem := List.mem_of_getElem? hp
      have ek2 : key = Sum.inr p.1 := ek.trans ep
      subst ek2
      obtain ⟨_, rlen, rnd, rok⟩ := ok.row p hmem
      have wk : Same (wo Hb a) H4 := fun b o e => by
        obtain ⟨e1, n1⟩ := wo_le e
        exact s4 _ _ (by rw [upd_ne n1]; exact e1)
      have ht4 := wk _ _ ht
      have hd4 := wk _ _ hd
      have get4 : DGet H4 a (.str p.1) (some (.ref t)) := .inl ⟨kvs, Sum.inr p.1, .inr ⟨od, s4 _ _ upd_same⟩, rfl, (valV_at knd hkv).symm⟩
      have lnd : (l.2.2.map (·.1)).Nodup := by
        rw [tr.keys]
        exact List.Pairwise.map _ (fun x y h z => h (Sum.inr.inj z)) rnd
      have llen : l.2.2.length = p.2.2.length := tr.len
      refine ⟨_, rfl, _, rfl, a, .ref t, rfl, get4, t, _, _, _, rfl, rfl, SqT.of ht4, pr_1, ?_⟩
      refine ⟨_, rfl, _, rfl, a, .ref t, rfl, get4, t, _, _, _, rfl, rfl, SqT.of ht4, pr_0, ?_⟩
      refine ⟨d, _, hd4, True.intro, fun od3 => ⟨_, rfl, d, od3, rfl, .inl ⟨l.2.2, upd_same, fun D hD => dc_it walk_keys (fun j H5 => Same (upd H4 d (.frz od3 (.dK l.2.2))) H5 ∧ H5 D = some (.dK (l.2.2.take j)))
        ⟨same_upd hD, upd_same⟩ (fun j H5 _ hP => hP.1 _ _ upd_same) (fun j x H5o H5 hj hP hY => ?_) (fun H5 hP => ?_)⟩⟩⟩
      · obtain ⟨s5, d5⟩ := hP
        obtain ⟨rfl, kw, vw, hkw, rfl⟩ := hY
        obtain ⟨mv, hmv, ekw, pm, ev, hpm⟩ := tr.at hkw
        simp only at ekw ev
        subst ekw ev
        have hpm4 := wk _ _ hpm
        have npd : pm ≠ d := ne_of hpm4 hd4 (by intro z; cases z)
        have hpm5 := s5 pm _ (by rw [upd_ne npd]; exact hpm4)
        refine ⟨rfl, yes_then ⟨_, rfl, _, rfl, _, rfl, d, .ref pm, rfl, .inl ⟨l.2.2, Sum.inr mv.1, .inr ⟨od3, s5 _ _ upd_same⟩, rfl, (valV_at lnd hkw).symm⟩, .inr ⟨pm, _, rfl, SqT.of hpm5, _, Sum.inr mv.1, rfl, d5, ?_, s_own s5 hD, ?_⟩⟩⟩
        · rw [List.length_take]; exact small _ (by omega)
        · rw [upd_same, putK_at lnd hkw]
      · obtain ⟨s5, d5⟩ := hP
        rw [List.take_length] at d5
        have nDd : D ≠ d := fun z => by rw [z, upd_same] at hD; cases hD
        have s6 : Same H4 (upd H5 d (.dK l.2.2)) := unlocked hd4 s5
        have hD4 : H4 D = none := by rw [upd_ne nDd] at hD; exact hD
        refine ⟨s5 _ _ upd_same, by show 2 ≤ sizeLine; decide, fun q nq => ?_⟩
        have hD6 : (upd H5 d (.dK l.2.2)) D = some (.dK l.2.2) := by rw [upd_ne nDd]; exact d5
        generalize upd H5 d (.dK l.2.2) = H6 at s6 nq hD6 ⊢
        have nqf : q ≠ f := fun z => by rw [z, s6 _ _ hf4] at nq; cases nq
        have nDf : D ≠ f := fun z => by rw [z, hf4] at hD4; cases hD4
        have nqD : D ≠ q := fun z => by rw [z, nq] at hD6; cases hD6
        have hf7 : (upd H6 q (.tup [l.2.1, .ref D])) f = some (.dK ks) := by rw [upd_ne nqf.symm]; exact s6 _ _ hf4
        have kl : ks.length = i := by
          rw [sk_len sk4, List.length_take]
          have : kvs.length = L.length := sk_len skb
          omega
        have fresh : valV ks (Sum.inr p.1 : Key) = none := by
          cases e : valV ks (Sum.inr p.1 : Key) with
          | none => rfl
          | some v =>
            have h1 := valV_in e
            rw [sk_keys sk4] at h1
            have h2 := nodup_at (kvs := L) (by rw [← sk_keys skb]; exact knd) hl
            rw [ek.symm] at h2
            exact absurd h1 h2
        refine ⟨_, rfl, _, rfl, f, _, rfl, DPut.k (k := Sum.inr p.1) hf7 (small _ (by omega)), ?_⟩
        refine ⟨_, _, ks ++ [(Sum.inr p.1, .ref q)], rfl, ?_, ?_, ?_⟩
        · refine s_own ((s4.trans s6).trans (same_upd nq)) ?_
          rw [upd_ne nfa]; exact hf
        · rw [upd_same, putK_new _ fresh]
        · rw [wo_upd, List.take_add_one, hl]
          refine sk_app (sk4.mono (wo_same (s6.trans (same_upd nq)))) (.cons ⟨ek, q, D, rfl, wo_of upd_same nqf, wo_of (by rw [upd_ne nqD]; exact hD6) nDf⟩ .nil)
    · obtain ⟨w2, w4, ks, rfl, s4, hf4, sk4⟩ := hP
      have sz : Same Hb (upd H4 a (.dK kvs)) := unlocked hab s4
      have hm4 : H4 m = some (.ins C dx []) := s4 _ _ (by rw [upd_ne nma]; exact sb _ _ hm)
      have ha4 : H4 a = some (.frz od (.dK kvs)) := s4 _ _ upd_same
      have hmz : (upd H4 a (.dK kvs)) m = some (.ins C dx []) := by rw [upd_ne nma]; exact hm4
      refine ⟨ha4, _, rfl, _, rfl, m, C, dx, [], rfl, hmz, M.cl, M.nT, (by show 0 < 1000; decide), ?_⟩
      have ll : L.length = kvs.length := (sk_len skb).symm
      rw [← ll, List.take_length] at sk4
      refine k _ f ks (fun b o e nb => by rw [upd_ne nb]; exact sz _ _ (sb _ _ e)) (sb.free hf) upd_same (by rw [upd_ne nfm, upd_ne nfa]; exact hf4) ?_
      refine sk_td sk4 (td_wo (td_trans (td_upd (fun xs z => ?_) (fun xs z => ?_)) (td_upd (fun xs z => ?_) (fun xs z => ?_))))
      · rw [ha4] at z; cases z
      · rw [ha4] at z; cases z
      · rw [hmz] at z; cases z
      · rw [hmz] at z; cases z
end
end Gw

set_option Elab.async false
set_option linter.all false
set_option maxRecDepth 100000
set_option maxHeartbeats 4000000
namespace Gw
open PySem PySem.Spec PyProof.Rows L2 GW
/-- a method of the class -/
structure Dm (K : PySem.W.Frag) (C : Addr) (x qual : Str) (st : Stmt) (ps : List Str) where
  f : Addr
  fd : FuncData
  F : Fun K x qual st f fd
  b : Binds K fd ps []
  mt : Meth K C x f
theorem plans_len (side : Bool) : ∀ Pl : Plan Str, (∀ p ∈ Pl, p.2.2.length ≤ 3) → (plansM Pl side).length ≤ 3 ^ Pl.length := by
  refine plans_rev (fun _ => by simp [plansM]) fun P p ih h => ?_
  have h1 := ih fun q hq => h q (by simp [hq])
  rw [plans_step, List.length_append, List.length_singleton, Nat.pow_succ]
  split
  · rw [List.length_flatMap]
    have : ∀ L : List (List (Str × Str)), (L.map fun one => (p.2.2.map fun m => one ++ [(p.1, m.1)]).length).sum = L.length * p.2.2.length := by
      intro L
      induction L with
      | nil => simp
      | cons a L ih2 => rw [List.map_cons, List.sum_cons, ih2, List.length_map, List.length_cons, Nat.add_mul]; omega
    rw [this]
    exact Nat.mul_le_mul h1 (h p (by simp))
  · omega
theorem plans_small (side : Bool) {Pl : Plan Str} (ok : PlOk Pl) (i : Nat) : (plansM (Pl.take i) side).length ≤ 59049 := by
  have h1 := plans_len side (Pl.take i) fun p hp => (ok.row p (List.mem_of_mem_take hp)).2.1
  have h2 : (Pl.take i).length ≤ 10 := by rw [List.length_take]; have := ok.len; omega
  exact Nat.le_trans h1 (Nat.le_trans (Nat.pow_le_pow_right (by decide) h2) (by decide))
theorem PlOk.wf {Pl : Plan Str} (ok : PlOk Pl) : WfP Pl := ⟨ok.nd, ok.ne, fun p hp => (ok.row p hp).1, fun p hp => (ok.row p hp).2.2.1, fun p hp m hm => ((ok.row p hp).2.2.2 m hm).2.2⟩
/-- the inner loop of a comprehension of two clauses -/
theorem inn_it {J : It} {n : Nat} {G : Hp → Prop} {Y : Nat → Hp → V → Hp → Prop} (wk : Walk J n G Y) {g : TG} {tt : TT} {te : TE} {vs : List Nat} {σ : L2.St} {H1 : Hp} {D : Addr} {Qd : Hp → Prop} (Pv : Nat → Hp → Prop) (h0 : Pv 0 H1) (hG : ∀ i H, i ≤ n → Pv i H → G H)
    (hs : ∀ i x H H', i < n → Pv i H → Y i H x H' → g x (wipe σ vs) H' fun σ2 H2 => wipe σ2 vs = wipe σ vs ∧ tt σ2 H2 fun b H3 =>
      if b = true then te σ2 H3 fun y H4 => ∃ acc, H4 D = some (.lst acc) ∧ acc.length < sizeLine ∧ Pv (i + 1) (upd H4 D (.lst (acc ++ [y]))) else Pv (i + 1) H3) (hd : ∀ H, Pv n H → Qd H) :
    ∃ W : Nat → Nat → Hp → Prop, (∃ m, W 0 m H1) ∧ ∀ i m H, W i m H →
      (J.stop i H ∧ Qd H) ∨ (J.go i H ∧ ∃ Nx : Hp → Prop, (∀ H', Nx H' → ∃ m', m' < m ∧ W (i + 1) m' H') ∧ ∀ x H', J.yld i H x H' → g x (wipe σ vs) H' fun σ2 H2 => wipe σ2 vs = wipe σ vs ∧ tt σ2 H2 fun b H3 =>
        if b = true then te σ2 H3 fun y H4 => ∃ acc, H4 D = some (.lst acc) ∧ acc.length < sizeLine ∧ Nx (upd H4 D (.lst (acc ++ [y]))) else Nx H3) := by
  refine ⟨fun i m H => m = n - i ∧ i ≤ n ∧ Pv i H, ⟨n, by simp, Nat.zero_le _, h0⟩, ?_⟩
  rintro i m H ⟨rfl, hi, p⟩
  have good := hG i H hi p
  by_cases lt : i < n
  · exact .inr ⟨wk.goes i H lt good, Pv (i + 1), fun H' p' => ⟨n - (i + 1), by omega, rfl, lt, p'⟩, fun x H' y => hs i x H H' lt p (wk.yields i H x H' lt good y)⟩
  · obtain rfl : i = n := by omega
    exact .inl ⟨wk.stops H good, hd H p⟩
/-- the outer loop of one -/
theorem out_it {J : It} {n : Nat} {G : Hp → Prop} {Y : Nat → Hp → V → Hp → Prop} (wk : Walk J n G Y) {H1 : Hp} {Qd : Hp → Prop} {B : (Hp → Prop) → V → Hp → Prop} (Pv : Nat → Hp → Prop) (h0 : Pv 0 H1) (hG : ∀ i H, i ≤ n → Pv i H → G H)
    (hs : ∀ i x H H', i < n → Pv i H → Y i H x H' → B (Pv (i + 1)) x H') (hd : ∀ H, Pv n H → Qd H) :
    ∃ W : Nat → Nat → Hp → Prop, (∃ m, W 0 m H1) ∧ ∀ i m H, W i m H →
      (J.stop i H ∧ Qd H) ∨ (J.go i H ∧ ∃ Nx : Hp → Prop, (∀ H', Nx H' → ∃ m', m' < m ∧ W (i + 1) m' H') ∧ ∀ x H', J.yld i H x H' → B Nx x H') := by
  refine ⟨fun i m H => m = n - i ∧ i ≤ n ∧ Pv i H, ⟨n, by simp, Nat.zero_le _, h0⟩, ?_⟩
  rintro i m H ⟨rfl, hi, p⟩
  have good := hG i H hi p
  by_cases lt : i < n
  · exact .inr ⟨wk.goes i H lt good, Pv (i + 1), fun H' p' => ⟨n - (i + 1), by omega, rfl, lt, p'⟩, fun x H' y => hs i x H H' lt p (wk.yields i H x H' lt good y)⟩
  · obtain rfl : i = n := by omega
    exact .inl ⟨wk.stops H good, hd H p⟩
section
variable {P : Program} {w : World} {K : PySem.W.Frag} {mg : Str → Option Value} {base : Heap}
/-! ### Means.places, Means.check_place -/
def spPlaces (C : Addr) : Sp := fun vs H Q _ => ∃ (m : Addr) (Pl : Plan Str), vs = [.ref m] ∧ MeansAt C H m Pl ∧ ∀ p, H p = none → Q (.ref p) (upd H p (.lst ((GW.keys Pl).map V.str)))
theorem scPlaces : FnScope ["self"] ["self"] (defScope sPlaces) := ⟨rfl, rfl, rfl, by decide +kernel, rfl, by decide +kernel, by decide +kernel⟩
theorem tb_names {β : Type} {R : V → β → Prop} {kvs : List (Key × V)} {l : List (Str × β)} (h : Tb R kvs l) : (kvs.map fun kv => kV kv.1) = (GW.keys l).map V.str := by
  have e : (kvs.map fun kv => kV kv.1) = (kvs.map (·.1)).map kV := by rw [List.map_map]; rfl
  rw [e, h.keys, List.map_map]
  rfl
theorem ok_places {C f : Addr} {fd : FuncData} (F : Fun K "places" "Means.places" sPlaces f fd) (M : Mcl K mg C) (B : Blt mg) : FnOk P w K mg base CX0 1 f fd ["self"] (spPlaces C) := by
  refine F.ok scPlaces (fun vs H Q E h => ?_) (fun cdv A outer s H vs Q E hr h => ?_)
  · obtain ⟨m, Pl, rfl, _⟩ := h
    rfl
  · obtain ⟨m, Pl, rfl, ⟨dx, d, hm, kvs, hd, tb⟩, k⟩ := h
    refine ⟨_, pss_one (ps_ret (pe_callTy (call_listD rfl) (by rfl) B.list PyProof.Rows.boot_list (pa_cons (pe_fld (pv 0) rfl) pa_nil))), ?_⟩
    refine ⟨_, rfl, m, C, dx, _, _, rfl, hm, M.cl, M.nT, mf_at d, d, kvs, rfl, .inl hd, fun p np => ?_⟩
    rw [tb_names tb]
    exact k p np
def spCheck (C : Addr) : Sp := fun vs H Q _ => ∃ (m : Addr) (n : Str) (Pl : Plan Str), vs = [.ref m, .str n] ∧ MeansAt C H m Pl ∧ n ∈ GW.keys Pl ∧ Q .non H
theorem scCheck : FnScope ["self", "name"] ["self", "name"] (defScope sCheck) := ⟨rfl, rfl, rfl, by decide +kernel, rfl, by decide +kernel, by decide +kernel⟩
theorem ok_check {C f : Addr} {fd : FuncData} (F : Fun K "check_place" "Means.check_place" sCheck f fd) (M : Mcl K mg C) (B : Blt mg) : FnOk P w K mg base CX0 1 f fd ["self", "name"] (spCheck C) := by
  refine F.ok scCheck (fun vs H Q E h => ?_) (fun cdv A outer s H vs Q E hr h => ?_)
  · obtain ⟨m, n, Pl, rfl, _⟩ := h
    rfl
  · obtain ⟨m, n, Pl, rfl, ⟨dx, d, hm, kvs, hd, tb⟩, hn, k⟩ := h
    have hu := hu_of hr
    refine ⟨_, pss_one (ps_if (PW.pt (pw_or (pt_not (pt_val (pe_callB call_isi (by rfl) B.isinst boot_isinstance (pa_cons (pv 1) (pa_cons (pe_bltn (v := .ty "str") (by rfl) B.str PyProof.Rows.boot_str rfl) pa_nil)))))
      (pw_or1 (pt_cmp (pc_dnotin hu (pv 1) (pe_fld (pv 0) rfl)))))) (pss_one ps_never) pss_nil), ?_⟩
    obtain ⟨o, hg, ho⟩ := get_is (.inl hd) tb n
    refine ⟨_, rfl, .str n, _, _, _, true, rfl, .ty _, .base (.str n), kit_ty (by decide +kernel), true, rfl, iteF ?_⟩
    refine ⟨_, rfl, _, rfl, m, C, dx, _, _, rfl, hm, M.cl, M.nT, mf_at d, d, o, rfl, hg, false, ?_, iteF k⟩
    rw [ho]; simp [hn]
/-! ### whole_plans -/
def Plans (H0 H : Hp) (l : Addr) (L : List (List (Str × Str))) : Prop := ∃ as, H l = some (.lst (as.map V.ref)) ∧ Paired (fun a σ => StrU H a σ) as L ∧ ∀ a ∈ as, H0 a = none
theorem paired_snoc {α β : Type} {F : α → β → Prop} {xs : List α} {ys : List β} {x : α} {y : β} (h : Paired F xs ys) (r : F x y) : Paired F (xs ++ [x]) (ys ++ [y]) := by
  induction h with
  | nil => exact .cons r .nil
  | cons a _ ih => exact .cons a ih
theorem paired_mem {α β : Type} {F G : α → β → Prop} {xs : List α} {ys : List β} (h : Paired F xs ys) (f : ∀ x y, x ∈ xs → F x y → G x y) : Paired G xs ys := by
  induction h with
  | nil => exact .nil
  | cons a _ ih => exact .cons (f _ _ (by simp) a) (ih fun x y hx => f x y (by simp [hx]))
theorem side_t {b : Bool} : (sideS b = "ours") ↔ b = true := by cases b <;> decide +kernel
theorem str_map (σ : List (Str × Str)) (n x : Str) : ((σ ++ [(n, x)]).map fun p => ((Sum.inr p.1 : Key), V.str p.2)) = (σ.map fun p => ((Sum.inr p.1 : Key), V.str p.2)) ++ [(Sum.inr n, .str x)] := by rw [List.map_append]; rfl
def spPlans (C : Addr) : Sp := fun vs H Q _ => ∃ (m : Addr) (Pl : Plan Str), vs = [.ref m, .str "ours"] ∧ MeansAt C H m Pl ∧ PlOk Pl ∧ ∀ H' l, Same H H' → Plans H H' l (plansM Pl true) → Q (.ref l) H'
theorem scPlans : FnScope ["means", "side", "found", "name", "word", "moves", "one", "move"] ["means", "side"] (defScope sPlans) := ⟨rfl, rfl, rfl, by decide +kernel, rfl, by decide +kernel, by decide +kernel⟩
theorem ok_plans {C : Addr} (D : Df K mg "whole_plans" sPlans ["means", "side"]) (DP : Dm K C "places" "Means.places" sPlaces ["self"]) (M : Mcl K mg C) (B : Blt mg) : FnOk P w K mg base CX0 2 D.f D.fd ["means", "side"] (spPlans C) := by
  have GP : FnOk P w K mg base CX0 1 DP.f DP.fd ["self"] (spPlaces C) := ok_places DP.F M B
  refine D.F.ok scPlans (fun vs H Q E h => ?_) (fun cdv A outer s H vs Q E hr h => ?_)
  · obtain ⟨m, Pl, rfl, _⟩ := h
    rfl
  · obtain ⟨m, Pl, rfl, MA, ok, k⟩ := h
    have hu := hu_of hr
    refine ⟨_, pss_cons (ps_set (i := 2) scPlans.nd rfl (.inl rfl) (pe_lst (pa_cons pe_dnewK pa_nil)))
      (pss_cons (ps_for PassesOwn.never rfl (pi_list (pe_meth0 (pv 0) M.cl DP.mt GP hr DP.b .nil pass0)) (pg_name (i := 3) scPlans.nd rfl (Or.inr rfl))
        (pss_cons (ps_asg (pe_dget hu (pe_fld (pv 0) rfl) (pv 3) (fun _ _ => rfl)) (pg_tup (by rfl) (pgs_cons (pg_name (i := 4) scPlans.nd rfl (.inl rfl)) (pgs_cons (pg_name (i := 5) scPlans.nd rfl (.inr rfl)) pgs_nil))))
        (pss_one (ps_if (pt_cmpR op_eq (pv 4) (pv 1) (nomark _))
          (pss_one (ps_lock (ps_setLc2 (i := 2) (own := [("one", 6), ("move", 7)]) (vs1 := [7]) (g := gName 6) (g1 := gName 7) (tt := tYes) (tt1 := tYes) (wi1 := iKeys (tVar 5)) (by rfl) scPlans.nd rfl rfl (sw_true rfl rfl rfl (by decide +kernel))
            (pi_list (pv 2)) (blkOk_by (N := ["means", "side", "found", "name", "word", "moves", "one", "move"]) (sc := defScope sPlans) (by decide +kernel)) (by decide)
            (fun _ _ _ _ _ => pg_name (i := 6) scPlans.nd rfl (Or.inl rfl)) (fun _ _ _ _ _ => pts_nil) (fun _ _ _ _ _ => pi_keys (pv 5)) (fun _ _ _ _ _ => pg_name (i := 7) scPlans.nd rfl (Or.inl rfl)) (fun _ _ _ _ _ => pts_nil)
            (fun _ _ _ _ _ => pe_star (pv 6) (pv 3) (pv 7))))) pss_nil))))
      (pss_one (ps_ret (pv 2)))), ?_⟩
    obtain ⟨dx, d, hm, PU⟩ := id MA
    refine fun e he => ⟨by show 1 ≤ sizeLine; decide, fun l hl => ?_⟩
    have s1 : Same H (upd (upd H e (.dK [])) l (.lst [.ref e])) := s_upd (same_upd he) hl
    have pl0 : Plans H (upd (upd H e (.dK [])) l (.lst [.ref e])) l (plansM (Pl.take 0) true) := ⟨[e], upd_same, .cons (by show _ = _; rw [upd_ne (ne_of_none upd_same hl), upd_same]; rfl) .nil, fun a ha => by
      have : a = e := by simpa using ha
      rw [this]; exact he⟩
    generalize upd (upd H e (.dK [])) l (.lst [.ref e]) = H1 at s1 pl0 ⊢
    refine ⟨_, rfl, m, dx, _, rfl, s1 _ _ hm, mf_no d (by decide +kernel), m, Pl, rfl, MA.mono s1, fun ln nln => ⟨ln, rfl, ⟨_, SqL.of upd_same⟩, ?_⟩⟩
    have s2 : Same H1 (upd H1 ln (.lst ((GW.keys Pl).map V.str))) := same_upd nln
    have hln : (upd H1 ln (.lst ((GW.keys Pl).map V.str))) ln = some (.lst ((GW.keys Pl).map V.str)) := upd_same
    have s12 := s1.trans s2
    have pl2 : Plans H (upd H1 ln (.lst ((GW.keys Pl).map V.str))) l (plansM (Pl.take 0) true) := let ⟨as, a1, a2, a3⟩ := pl0; ⟨as, s2 _ _ a1, Paired.mapP a2 fun _ _ q => s2 _ _ q, a3⟩
    generalize upd H1 ln (.lst ((GW.keys Pl).map V.str)) = H2 at s12 hln pl2 ⊢
    refine for_list (K := K) (a := ln) (xs := (GW.keys Pl).map V.str) (fun i σ H3 => ∃ l v3 v4 v5, σ = [some (.ref m), some (.str "ours"), some (.ref l), v3, v4, v5, none, none] ∧ Same H2 H3 ∧ Plans H H3 l (plansM (Pl.take i) true))
      ⟨l, none, none, none, rfl, Same.refl _, pl2⟩ (fun i σ H3 _ hP => let ⟨_, _, _, _, _, s3, _⟩ := hP; SqL.of (s3 _ _ hln)) (fun i x σ H3 hx hP => ?_) (fun σ H3 hP => ?_)
    · obtain ⟨l, v3, v4, v5, rfl, s3, as, has, pas, nas⟩ := hP
      have s23 := s12.trans s3
      obtain ⟨p, hp⟩ : ∃ p, Pl[i]? = some p := by
        have hlt : i < Pl.length := by
          have := (List.getElem?_eq_some_iff.mp hx).1
          simpa using this
        exact ⟨_, List.getElem?_eq_getElem hlt⟩
      have ex : x = .str p.1 := by
        rw [List.getElem?_map, List.getElem?_map, hp] at hx
        exact (Option.some.inj hx).symm
      subst ex
      have hmem := List.mem_of_getElem? hp
      obtain ⟨t, dr, kvr, g0, ht0, hdr0, ndr, tr0⟩ := PU.r.get (look_P ok.wf hmem)
      have g1 : DGet H3 d (.str p.1) (some (.ref t)) := by
        rcases g0 with ⟨ks, k', q1, q2, q3⟩ | ⟨_, _, _, _, q2, _⟩
        · exact .inl ⟨ks, k', rd_same s23 q1, q2, q3⟩
        · cases q2
      have ht := s23 _ _ ht0
      have hdr := s23 _ _ hdr0
      have tk : Pl.take (i + 1) = Pl.take i ++ [p] := by rw [List.take_add_one, hp]; rfl
      refine ⟨_, rfl, m, C, dx, _, _, rfl, s23 _ _ hm, M.cl, M.nT, mf_at d, _, rfl, d, .ref t, rfl, g1, t, _, rfl, SqT.of ht, rfl, _, _, rfl, _, _, rfl, rfl, ?_⟩
      refine ⟨_, rfl, _, rfl, rfl, _, rfl, ite2 (fun c => ?_) (fun c => ?_)⟩
      · have c1 : p.2.1 = true := side_t.mp (V.str.inj (of_decide_eq_true c))
        have eqn : plansM (Pl.take (i + 1)) true = (plansM (Pl.take i) true).flatMap (fun one => p.2.2.map fun mv => one ++ [(p.1, mv.1)]) := by rw [tk, plans_step, if_pos c1]
        have knm : ∀ σ1 ∈ plansM (Pl.take i) true, (Sum.inr p.1 : Key) ∉ (σ1.map fun q => ((Sum.inr q.1 : Key), V.str q.2)).map (·.1) := fun σ1 h1 h2 => by
          obtain ⟨q, hq, e1⟩ := List.mem_map.mp h2
          obtain ⟨r, hr', e2⟩ := List.mem_map.mp hq
          have e3 : r.1 = p.1 := by rw [← e2] at e1; exact Sum.inr.inj e1
          obtain ⟨p', hp', e4, _⟩ := plans_words true _ σ1 h1 r hr'
          have h5 : p.1 ∈ GW.keys (Pl.take i) := by rw [← e3, ← e4]; exact List.mem_map_of_mem (f := (·.1)) hp'
          have h6 : p.1 ∉ (Pl.take i).map (·.1) := by
            have nd := ok.nd
            rw [← List.take_append_drop i Pl] at nd
            have hd2 : p ∈ Pl.drop i := by
              have hlt := (List.getElem?_eq_some_iff.mp hp).1
              rw [List.drop_eq_getElem_cons hlt]
              have e5 : Pl[i] = p := (List.getElem?_eq_some_iff.mp hp).2
              rw [e5]; simp
            unfold GW.keys at nd
            rw [List.map_append, List.nodup_append] at nd
            exact fun z => nd.2.2 p.1 z p.1 (List.mem_map_of_mem (f := (·.1)) hd2) rfl
          exact h6 h5
        refine ⟨dr, _, hdr, True.intro, fun od => ⟨_, rfl, l, rfl, ⟨_, SqL.of (by rw [upd_ne (ne_of has hdr (by intro z; cases z))]; exact has)⟩, fun Dd hDd => ?_⟩⟩
        have lenP := plans_small true ok (i + 1)
        refine out_it (walk_list (K := K) (xs := as.map V.ref)) (fun i' H4 => Same (upd H3 dr (.frz od (.dK kvr))) H4 ∧ Plans H H4 Dd (((plansM (Pl.take i) true).take i').flatMap fun one => p.2.2.map fun mv => one ++ [(p.1, mv.1)]))
          ⟨same_upd hDd, [], upd_same, .nil, fun _ h => by simp at h⟩ (fun i' H4 _ hP => SqL.of (hP.1 _ _ (by rw [upd_ne (ne_of has hdr (by intro z; cases z))]; exact has))) (fun i' x H4o H4 hi hP hY => ?_) (fun H4 hP => ?_)
        · obtain ⟨s4, acc, hacc, pacc, nacc⟩ := hP
          obtain ⟨rfl, hx⟩ := hY
          obtain ⟨a, ha⟩ : ∃ a, as[i']? = some a := by
            rw [List.length_map] at hi
            exact ⟨_, List.getElem?_eq_getElem hi⟩
          have ex : x = .ref a := by
            rw [List.getElem?_map, ha] at hx
            exact (Option.some.inj hx).symm
          subst ex
          obtain ⟨σ1, hσ, hσa⟩ := paired_at pas ha
          have na := nas a (List.mem_of_getElem? ha)
          have nadr : a ≠ dr := fun z => by rw [z, hdr0] at na; cases na
          have hσ4 : StrU H4 a σ1 := s4 _ _ (by rw [upd_ne nadr]; exact hσa)
          have hσm := List.mem_of_getElem? hσ
          have tk2 : (plansM (Pl.take i) true).take (i' + 1) = (plansM (Pl.take i) true).take i' ++ [σ1] := by rw [List.take_add_one, hσ]; rfl
          have lenF : ((plansM (Pl.take i) true).take i').length + 1 ≤ (plansM (Pl.take i) true).length ∧ (((plansM (Pl.take i) true).take i').flatMap fun one => p.2.2.map fun mv => one ++ [(p.1, mv.1)]).length + p.2.2.length ≤ 59049 := by
            have hlt := (List.getElem?_eq_some_iff.mp hσ).1
            have e2 : (plansM (Pl.take i) true)[i'] = σ1 := (List.getElem?_eq_some_iff.mp hσ).2
            refine ⟨by rw [List.length_take]; omega, ?_⟩
            rw [eqn] at lenP
            have e1 := List.take_append_drop i' (plansM (Pl.take i) true)
            rw [List.drop_eq_getElem_cons hlt, e2] at e1
            rw [← e1, List.flatMap_append, List.flatMap_cons, List.length_append, List.length_append, List.length_map] at lenP
            omega
          refine ⟨rfl, yes_then ⟨_, rfl, dr, od, rfl, .inl ⟨kvr, s4 _ _ upd_same, inn_it walk_keys (fun j H5 => Same (upd H3 dr (.frz od (.dK kvr))) H5 ∧ Plans H H5 Dd ((((plansM (Pl.take i) true).take i').flatMap fun one => p.2.2.map fun mv => one ++ [(p.1, mv.1)]) ++ (p.2.2.take j).map fun mv => σ1 ++ [(p.1, mv.1)]))
            ⟨s4, acc, hacc, by simpa using pacc, nacc⟩ (fun j H5 _ hP => hP.1 _ _ upd_same) (fun j x H5o H5 hj hP hY => ?_) (fun H5 hP => ?_)⟩⟩⟩
          · obtain ⟨s5, ac, hac, pac, nac⟩ := hP
            obtain ⟨rfl, key, val, hkv, rfl⟩ := hY
            obtain ⟨mv, hmv, ekey, _⟩ := tr0.at hkv
            simp only at ekey
            subst ekey
            have hσ5 : StrU H5 a σ1 := s5 _ _ (by rw [upd_ne nadr]; exact hσa)
            have s25 : Same (upd H3 dr (.frz od (.dK kvr))) H5 := s5
            have hr0 : ∀ b, H5 b = none → H b = none := fun b hb => by
              cases q : H b with
              | none => rfl
              | some o =>
                have h3 := s23 _ _ q
                by_cases c : b = dr
                · rw [c, s5 _ _ upd_same] at hb; cases hb
                · rw [s5 b o (by rw [upd_ne c]; exact h3)] at hb; cases hb
            have aclen : ac.length + 1 ≤ 59049 := by
              have e1 := pac.length
              have hj' : j < p.2.2.length := by
                have : kvr.length = p.2.2.length := tr0.len
                omega
              rw [List.length_append, List.length_map, List.length_take] at e1
              omega
            refine ⟨rfl, yes_then fun d1 hd1 => ?_⟩
            have nad1 : a ≠ d1 := fun z => by rw [z] at hσ5; unfold StrU at hσ5; rw [hd1] at hσ5; cases hσ5
            have nDd1 : Dd ≠ d1 := fun z => by rw [z, hd1] at hac; cases hac
            refine ⟨_, rfl, a, _, rfl, nad1, upd_same, by rw [upd_ne nad1]; exact hσ5, fun e1 he1 => ?_⟩
            have ne1 : e1 ≠ d1 := fun z => by rw [z, upd_same] at he1; cases he1
            have he15 : H5 e1 = none := by rw [upd_ne ne1, upd_ne ne1] at he1; exact he1
            have nDe1 : Dd ≠ e1 := fun z => by rw [z, he15] at hac; cases hac
            refine ⟨_, rfl, _, rfl, Sum.inr p.1, rfl, knm σ1 hσm, upd_same, by rw [upd_ne ne1.symm, upd_same], ne1, ?_, ?_⟩
            · have e5 := plans_keys true _ σ1 hσm
              have e6 : σ1.length ≤ 10 := by
                have e7 := congrArg List.length e5
                unfold GW.keys at e7
                rw [List.length_map, List.length_map] at e7
                have e8 := List.length_filter_le (fun q : Str × Bool × Row Str => decide (q.2.1 = true)) (Pl.take i)
                rw [List.length_take] at e8
                have := ok.len
                omega
              rw [List.length_map]
              exact small _ (by omega)
            have f7 : ∀ b o, H5 b = some o → (upd (upd (upd (upd (upd H5 d1 (.dK [])) d1 (.dK (σ1.map fun q => (Sum.inr q.1, .str q.2)))) e1 (.dK [])) e1 (.dK [(Sum.inr p.1, kV (Sum.inr mv.1))])) d1 (.dK ((σ1.map fun q => (Sum.inr q.1, .str q.2)) ++ [(Sum.inr p.1, kV (Sum.inr mv.1))]))) b = some o := fun b o hb => by
              have n1 : b ≠ d1 := fun z => by rw [z, hd1] at hb; cases hb
              have n2 : b ≠ e1 := fun z => by rw [z, he15] at hb; cases hb
              rw [upd_ne n1, upd_ne n2, upd_ne n2, upd_ne n1, upd_ne n1]; exact hb
            refine ⟨_, f7 _ _ hac, by rw [List.length_map]; exact small _ (by omega), ?_, ac ++ [d1], ?_, ?_, ?_⟩
            · intro b o hb
              have hb5 := s5 _ _ hb
              have nD : b ≠ Dd := fun z => by rw [z, hDd] at hb; cases hb
              rw [upd_ne nD]; exact f7 _ _ hb5
            · rw [upd_same, List.map_append]; rfl
            · have tkj : p.2.2.take (j + 1) = p.2.2.take j ++ [mv] := by rw [List.take_add_one, hmv]; rfl
              rw [tkj, List.map_append, ← List.append_assoc]
              refine paired_snoc (paired_mem pac fun b y hb q => ?_) ?_
              · have nD : b ≠ Dd := fun z => by unfold StrU at q; rw [z, hac] at q; cases q
                show _ = _
                rw [upd_ne nD]; exact f7 _ _ q
              · show _ = _
                rw [upd_ne nDd1.symm, upd_same, str_map]; rfl
            · intro b hb
              rcases List.mem_append.mp hb with hb | hb
              · exact nac b hb
              · have : b = d1 := by simpa using hb
                rw [this]; exact hr0 d1 hd1
          · obtain ⟨s5, hp5⟩ := hP
            refine ⟨s5, ?_⟩
            rw [tk2, List.flatMap_append]
            have kl : kvr.length = p.2.2.length := tr0.len
            rw [kl, List.take_length] at hp5
            simpa using hp5
        · obtain ⟨s4, acc, hacc, pacc, nacc⟩ := hP
          have ll : (as.map V.ref).length = (plansM (Pl.take i) true).length := by rw [List.length_map]; exact pas.length
          rw [ll, List.take_length, ← eqn] at pacc
          have nDdr : Dd ≠ dr := fun z => by rw [z, upd_same] at hDd; cases hDd
          refine ⟨s4 _ _ upd_same, Dd, _, _, _, rfl, s3.trans (unlocked hdr s4), acc, by rw [upd_ne nDdr]; exact hacc, paired_mem pacc fun b y hb q => ?_, nacc⟩
          have nb : b ≠ dr := fun z => by have := nacc b hb; rw [z, hdr0] at this; cases this
          show _ = _
          rw [upd_ne nb]; exact q
      · have c1 : ¬ p.2.1 = true := fun z => c (decide_eq_true (congrArg V.str (side_t.mpr z)))
        refine ⟨l, _, _, _, rfl, s3, as, has, ?_, nas⟩
        rw [tk, plans_step, if_neg c1]
        exact pas
    · obtain ⟨l, v3, v4, v5, rfl, s3, hp⟩ := hP
      rw [List.length_map, show (GW.keys Pl).length = Pl.length by simp, List.take_length] at hp
      exact ⟨_, rfl, k _ l (s12.trans s3) hp⟩
end
end Gw

set_option Elab.async false
set_option linter.all false
set_option maxRecDepth 100000
set_option maxHeartbeats 4000000
namespace Gw
open PySem PySem.Spec PyProof.Rows L2 GW
def StV (H : Hp) (v : V) (es : List (Str × Int)) : Prop := ∃ l xs, v = .ref l ∧ H l = some (.lst xs) ∧ Paired (MvV H) xs es
theorem StV.mono {H H' : Hp} {v : V} {es : List (Str × Int)} (h : StV H v es) (s : Same H H') : StV H' v es := let ⟨l, xs, a, b, c⟩ := h; ⟨l, xs, a, s _ _ b, Paired.mapP c fun _ _ q => q.mono s⟩
def StepsU (H : Hp) (a : Addr) (S : Steps Str) : Prop := ∃ kvs, H a = some (.dK kvs) ∧ Tb (StV (wo H a)) kvs S
def StepsRd (H : Hp) (a : Addr) (S : Steps Str) : Prop := ∃ kvs, Rd H a (.dK kvs) ∧ Tb (StV (wo H a)) kvs S
theorem StepsU.mono {H H' : Hp} {a : Addr} {S : Steps Str} (h : StepsU H a S) (s : Same H H') : StepsU H' a S := let ⟨k, b, c⟩ := h; ⟨k, s _ _ b, c.mono fun _ _ q => q.mono (wo_same s)⟩
theorem StepsRd.mono {H H' : Hp} {a : Addr} {S : Steps Str} (h : StepsRd H a S) (s : Same H H') : StepsRd H' a S := let ⟨k, b, c⟩ := h; ⟨k, rd_same s b, c.mono fun _ _ q => q.mono (wo_same s)⟩
theorem StepsU.r {H : Hp} {a : Addr} {S : Steps Str} (h : StepsU H a S) : StepsRd H a S := let ⟨k, b, c⟩ := h; ⟨k, .inl b, c⟩
theorem strU_ne {H : Hp} {a d : Addr} {σ : List (Str × Str)} {Pl : Plan Str} (h : StrU H a σ) (p : PlanU H d Pl) (ne : Pl ≠ []) : a ≠ d := fun z => by
  obtain ⟨kvs, hd, tb⟩ := p
  unfold StrU at h
  rw [z, hd] at h
  cases tb with
  | nil => exact ne rfl
  | @cons kv q kvs' _ r _ =>
    obtain ⟨_, t, _, _, e, _⟩ := r
    have h2 := Option.some.inj h
    injection h2 with h3
    cases σ with
    | nil => cases h3
    | cons s r =>
      rw [List.map_cons] at h3
      injection h3 with h4 _
      rw [h4] at e
      cases e
theorem key_fresh {β : Type} {l : List (Str × β)} (nd : (GW.keys l).Nodup) {i : Nat} {p : Str × β} (h : l[i]? = some p) : p.1 ∉ GW.keys (l.take i) := fun hm => by
  obtain ⟨q, hq, e⟩ := List.mem_map.mp hm
  obtain ⟨j, hj, ej⟩ := List.mem_iff_getElem.mp hq
  rw [List.length_take] at hj
  have h1 : (GW.keys l)[j]? = some p.1 := by
    unfold GW.keys
    rw [List.getElem?_map]
    rw [List.getElem_take] at ej
    rw [List.getElem?_eq_getElem (by omega), ej, ← e]; rfl
  have h2 : (GW.keys l)[i]? = some p.1 := by unfold GW.keys; rw [List.getElem?_map, h]; rfl
  have := nd_ix nd h1 h2
  omega
theorem tb_vals {β : Type} {R : V → β → Prop} {kvs : List (Key × V)} {l : List (Str × β)} (h : Tb R kvs l) : Paired R (kvs.map (·.2)) (l.map (·.2)) := by
  unfold Tb at h
  induction h with
  | nil => exact .nil
  | cons a _ ih => exact .cons a.2 ih
section
variable {P : Program} {w : World} {K : PySem.W.Frag} {mg : Str → Option Value} {base : Heap}
/-! ### steps_kept -/
def spKept (C : Addr) : Sp := fun vs H Q _ => ∃ (m a : Addr) (Pl : Plan Str) (σ : List (Str × Str)), vs = [.ref m, .str "ours", .ref a] ∧ MeansAt C H m Pl ∧ PlOk Pl ∧ StrU H a σ ∧ σ ∈ plansM Pl true ∧ ∀ H' s, Same H H' → H s = none → StepsU H' s (stepsM Pl σ) → Q (.ref s) H'
theorem scKept : FnScope ["means", "side", "plan", "found", "name", "word", "moves"] ["means", "side", "plan"] (defScope sKept) := ⟨rfl, rfl, rfl, by decide +kernel, rfl, by decide +kernel, by decide +kernel⟩
theorem ok_kept {C : Addr} (D : Df K mg "steps_kept" sKept ["means", "side", "plan"]) (M : Mcl K mg C) (B : Blt mg) : FnOk P w K mg base CX0 1 D.f D.fd ["means", "side", "plan"] (spKept C) := by
  refine D.F.ok scKept (fun vs H Q E h => ?_) (fun cdv A outer s H vs Q E hr h => ?_)
  · obtain ⟨m, a, Pl, σ, rfl, _⟩ := h
    rfl
  · obtain ⟨m, a, Pl, pσ, rfl, MA, ok, SU, hσ, k⟩ := h
    have hu := hu_of hr
    refine ⟨_, pss_cons (ps_set (i := 3) scKept.nd rfl (.inl rfl) pe_dnewK)
      (pss_cons (ps_lock (ps_for PassesOwn.never rfl (pi_items (pe_fld (pv 0) rfl)) (pg_tup rfl (pgs_cons (pg_name (i := 4) scKept.nd rfl (.inl rfl)) (pgs_cons (pg_tup rfl (pgs_cons (pg_name (i := 5) scKept.nd rfl (.inl rfl)) (pgs_cons (pg_name (i := 6) scKept.nd rfl (.inl rfl)) pgs_nil))) pgs_nil)))
        (pss_one (ps_dput hu (pv 3) (pv 4) (pe_ifExp (pt_cmpR op_eq (pv 5) (pv 1) (nomark _)) (pe_lst (pa_cons (pe_dget hu (pv 6) (pe_dget hu (pv 2) (pv 4) (fun _ _ => rfl)) (fun _ _ => rfl)) pa_nil)) (pe_listVals rfl (pv 6) (by rfl) B.list)) rfl))))
      (pss_one (ps_ret (pv 3)))), ?_⟩
    obtain ⟨dx, d, hm, PU⟩ := id MA
    have nad := strU_ne SU PU ok.ne
    obtain ⟨kvs, hd, tb⟩ := id PU
    intro f hf
    have nfd : f ≠ d := fun z => by rw [z, hd] at hf; cases hf
    have nfm : f ≠ m := fun z => by rw [z, hm] at hf; cases hf
    have ndm : d ≠ m := ne_of hd hm (by intro z; cases z)
    have lenS : (stepsM Pl pσ).length = Pl.length := by unfold stepsM; simp
    have keysS : GW.keys (stepsM Pl pσ) = GW.keys Pl := keys_map Pl _
    refine ⟨d, .dK kvs, by rw [upd_ne nfd.symm]; exact hd, True.intro, fun od => ?_⟩
    have hmk : (upd (upd H f (.dK [])) d (.frz od (.dK kvs))) m = some (.ins C dx (mf d)) := by rw [upd_ne ndm.symm, upd_ne nfm.symm]; exact hm
    refine ⟨_, rfl, m, C, dx, _, _, rfl, hmk, M.cl, M.nT, mf_at d, d, od, kvs, rfl, upd_same, for_it walk_items (fun i σ H3 => ∃ v4 v5 v6 ks, σ = [some (.ref m), some (.str "ours"), some (.ref a), some (.ref f), v4, v5, v6] ∧ Same (upd H d (.frz od (.dK kvs))) H3 ∧ H3 f = some (.dK ks) ∧ Tb (StV (wo H3 f)) ks ((stepsM Pl pσ).take i))
      ⟨none, none, none, [], rfl, ?_, ?_, .nil⟩ (fun i σ H3 _ hP => let ⟨_, _, _, _, _, s3, _⟩ := hP; s3 _ _ upd_same) (fun i x σ H3 H3' hi hP hY => ?_) (fun σ H3 hP => ?_)⟩
    · intro b o e
      by_cases c : b = d
      · rw [c, upd_same] at e ⊢; exact e
      · rw [upd_ne c] at e ⊢
        rw [upd_ne (ne_of_none e hf)]; exact e
    · rw [upd_ne nfd, upd_same]
    · obtain ⟨v4, v5, v6, ks, rfl, s3, hf3, tb3⟩ := hP
      obtain ⟨T, x1, x2, rfl, nT, rfl, g1, g2⟩ := hY
      obtain ⟨kv, hkv⟩ : ∃ kv, kvs[i]? = some kv := ⟨_, List.getElem?_eq_getElem hi⟩
      have g1 : (kvs[i]?).map (fun kv => kV kv.1) = some x1 := g1
      have g2 : (kvs[i]?).map (fun kv => kv.2) = some x2 := g2
      rw [hkv] at g1 g2
      obtain ⟨p, hp, ek, t, dr, kvr, ev, ht, hdr, tr⟩ := tb.at hkv
      have ex1 : x1 = .str p.1 := (Option.some.inj g1).symm.trans (by show kV kv.1 = _; rw [ek]; rfl)
      have ex2 : x2 = .ref t := (Option.some.inj g2).symm.trans ev
      subst ex1 ex2
      have hmem := List.mem_of_getElem? hp
      have wk : Same (wo H d) (upd H3 T (.tup [.str p.1, .ref t])) := fun b o e => by
        obtain ⟨e1, n1⟩ := wo_le e
        have e2 := s3 _ _ (show (upd H d (.frz od (.dK kvs))) b = some o by rw [upd_ne n1]; exact e1)
        rw [upd_ne (ne_of_none e2 nT)]; exact e2
      have s4 : Same H3 (upd H3 T (.tup [.str p.1, .ref t])) := same_upd nT
      have hT : (upd H3 T (.tup [.str p.1, .ref t])) T = some (.tup [.str p.1, .ref t]) := upd_same
      have s34 := s3.trans s4
      have hf4 := s4 _ _ hf3
      have tb4 : Tb (StV (wo (upd H3 T (.tup [.str p.1, .ref t])) f)) ks ((stepsM Pl pσ).take i) := tb3.mono fun _ _ q => q.mono (wo_same s4)
      generalize upd H3 T (.tup [.str p.1, .ref t]) = H4 at wk s4 hT s34 hf4 tb4 ⊢
      have ht4 := wk _ _ ht
      have hdr4 := wk _ _ hdr
      have ha4 : H4 a = some (.dK (pσ.map fun q => (Sum.inr q.1, .str q.2))) := wk _ _ (wo_of SU nad)
      have nf0 : ∀ b o, wo H d b = some o → b ≠ f := fun b o e z => by rw [z] at e; rw [(wo_le e).1] at hf; cases hf
      have wkf : Same (wo H d) (wo H4 f) := fun b o e => wo_of (wk _ _ e) (nf0 _ _ e)
      have hS : (stepsM Pl pσ)[i]? = some (p.1, if p.2.1 = true then [moveM p.2.2 ((GW.look p.1 pσ).getD p.1) p.1] else p.2.2.map (·.2)) := by unfold stepsM; rw [List.getElem?_map, hp]; rfl
      have tkS : (stepsM Pl pσ).take (i + 1) = (stepsM Pl pσ).take i ++ [(p.1, if p.2.1 = true then [moveM p.2.2 ((GW.look p.1 pσ).getD p.1) p.1] else p.2.2.map (·.2))] := by rw [List.take_add_one, hS]; rfl
      have fresh : valV ks (Sum.inr p.1 : Key) = none := tb4.no (look_none.mpr (key_fresh (l := stepsM Pl pσ) (by rw [keysS]; exact ok.nd) hS))
      have ksl : ks.length < sizeLine := by
        have := tb4.len
        have l10 := ok.len
        rw [List.length_take] at this
        exact small _ (by omega)
      -- the list laid, the dict fed
      have done : ∀ (l : Addr) (xs : List V) (es : List (Str × Int)), H4 l = none → Paired (MvV (wo H d)) xs es → (stepsM Pl pσ).take (i + 1) = (stepsM Pl pσ).take i ++ [(p.1, es)] →
          DPut (upd H4 l (.lst xs)) f (.str p.1) (.ref l) (upd (upd H4 l (.lst xs)) f (.dK (putK ks (Sum.inr p.1) (.ref l)))) ∧ Same (upd H d (.frz od (.dK kvs))) (upd (upd H4 l (.lst xs)) f (.dK (putK ks (Sum.inr p.1) (.ref l)))) ∧
          Tb (StV (wo (upd (upd H4 l (.lst xs)) f (.dK (putK ks (Sum.inr p.1) (.ref l)))) f)) (putK ks (Sum.inr p.1) (.ref l)) ((stepsM Pl pσ).take (i + 1)) := fun l xs es hl pr et => by
        have nlf : l ≠ f := fun z => by rw [z, hf4] at hl; cases hl
        have s5 : Same H4 (upd H4 l (.lst xs)) := same_upd hl
        refine ⟨DPut.k (k := Sum.inr p.1) (by rw [upd_ne nlf.symm]; exact hf4) ksl, s_own (s34.trans s5) (by rw [upd_ne nfd]; exact hf), ?_⟩
        rw [wo_upd, et, putK_new _ fresh]
        refine (tb4.mono fun _ _ q => q.mono (wo_same s5)).app (.cons ⟨rfl, l, xs, rfl, wo_of upd_same nlf, Paired.mapP pr fun _ _ q => q.mono fun b o e => ?_⟩ .nil)
        exact wo_same s5 _ _ (wkf _ _ e)
      refine ⟨T, _, rfl, SqT.of hT, rfl, _, _, rfl, _, _, rfl, t, _, rfl, SqT.of ht4, rfl, _, _, rfl, _, _, rfl, rfl, rfl, ?_⟩
      refine ⟨_, rfl, _, rfl, rfl, _, rfl, ite2 (fun c => ?_) (fun c => ?_)⟩
      · have c1 : p.2.1 = true := side_t.mp (V.str.inj (of_decide_eq_true c))
        obtain ⟨wd, mv, e1, e2⟩ := plan_at ok.wf hσ hmem c1
        obtain ⟨vw, gw, rfl⟩ := get_at (.inl ha4) (tb_str pσ) e1
        obtain ⟨vm, gm, rm⟩ := get_at (.inl hdr4) tr e2
        have ef : (stepsM Pl pσ).take (i + 1) = (stepsM Pl pσ).take i ++ [(p.1, [mv])] := by
          rw [tkS, if_pos c1, e1]
          show _ ++ [(p.1, [(GW.look wd p.2.2).getD (p.1, 0)])] = _
          rw [e2]; rfl
        refine ⟨_, rfl, _, rfl, _, rfl, a, .str wd, rfl, gw, dr, vm, rfl, gm, by show 1 ≤ sizeLine; decide, fun l hl => ?_⟩
        obtain ⟨q1, q2, q3⟩ := done l [vm] [mv] hl (.cons rm .nil) ef
        exact ⟨_, rfl, _, rfl, f, _, rfl, q1, _, _, _, _, rfl, q2, upd_same, q3⟩
      · have c1 : ¬ p.2.1 = true := fun z => c (decide_eq_true (congrArg V.str (side_t.mpr z)))
        have ef : (stepsM Pl pσ).take (i + 1) = (stepsM Pl pσ).take i ++ [(p.1, p.2.2.map (·.2))] := by rw [tkS, if_neg c1]
        refine ⟨_, rfl, dr, kvr, rfl, hdr4, fun l hl => ?_⟩
        obtain ⟨q1, q2, q3⟩ := done l _ _ hl (tb_vals tr) ef
        exact ⟨_, rfl, _, rfl, f, _, rfl, q1, _, _, _, _, rfl, q2, upd_same, q3⟩
    · obtain ⟨v4, v5, v6, ks, rfl, s3, hf3, tb3⟩ := hP
      have lk : kvs.length = (stepsM Pl pσ).length := by rw [lenS]; exact tb.len
      rw [lk, List.take_length] at tb3
      have hd3 : H3 d = some (.frz od (.dK kvs)) := s3 _ _ upd_same
      refine ⟨hd3, _, rfl, k _ f (unlocked hd s3) hf ⟨ks, by rw [upd_ne nfd]; exact hf3, ?_⟩⟩
      refine tb3.mono fun _ _ ⟨l, xs, q1, q2, q3⟩ => ⟨l, xs, q1, ?_, Paired.mapP q3 fun _ _ ⟨pm, r1, r2⟩ => ⟨pm, r1, ?_⟩⟩
      · obtain ⟨q4, q5⟩ := wo_le q2
        exact wo_of (by rw [upd_ne (ne_of q4 hd3 (by intro z; cases z))]; exact q4) q5
      · obtain ⟨q4, q5⟩ := wo_le r2
        exact wo_of (by rw [upd_ne (ne_of q4 hd3 (by intro z; cases z))]; exact q4) q5
end
end Gw

set_option Elab.async false
set_option linter.all false
set_option maxRecDepth 100000
set_option maxHeartbeats 4000000
namespace Gw
open PySem PySem.Spec PyProof.Rows L2 GW
/-! ### how long the rows are -/
theorem relax_len (acc : List (Str × Int)) (o : Str) (x : Int) : (relax acc o x).length ≤ acc.length + 1 := by
  have hp : ∀ v : Int, (GW.put acc o v).length ≤ acc.length + 1 := fun v => by
    unfold GW.put
    split <;> simp
  unfold relax
  split
  · exact hp _
  · split
    · exact hp _
    · omega
def relaxAll (m : Int) (l : List (Str × Int)) (acc : List (Str × Int)) : List (Str × Int) := l.foldl (fun acc oa => relax acc oa.1 (m + oa.2)) acc
theorem relaxAll_len (m : Int) : ∀ (l : List (Str × Int)) (acc : List (Str × Int)), (relaxAll m l acc).length ≤ acc.length + l.length
  | [], acc => by show acc.length ≤ acc.length + 0; omega
  | oa :: r, acc => by
    have h1 := relaxAll_len m r (relax acc oa.1 (m + oa.2))
    have h2 := relax_len acc oa.1 (m + oa.2)
    show (relaxAll m r (relax acc oa.1 (m + oa.2))).length ≤ _
    rw [List.length_cons]; omega
def accAt (S : Steps Str) (row : List (Str × Int)) (acc : List (Str × Int)) : List (Str × Int) := row.foldl (fun acc pm => relaxAll pm.2 (stepsAt S pm.1) acc) acc
structure SmallS (S : Steps Str) : Prop where
  len : S.length ≤ 10
  row : ∀ p ∈ S, p.2.length ≤ 3
theorem SmallS.at {S : Steps Str} (h : SmallS S) (v : Str) : (stepsAt S v).length ≤ 3 := by
  unfold stepsAt
  cases e : GW.look v S with
  | none => show 0 ≤ 3; omega
  | some l => exact h.row _ (look_mem e)
theorem accAt_len {S : Steps Str} (h : SmallS S) : ∀ (row acc : List (Str × Int)), (accAt S row acc).length ≤ acc.length + 3 * row.length
  | [], acc => by show acc.length ≤ _; omega
  | pm :: r, acc => by
    have h1 := accAt_len h r (relaxAll pm.2 (stepsAt S pm.1) acc)
    have h2 := relaxAll_len pm.2 (stepsAt S pm.1) acc
    have h3 := h.at pm.1
    show (accAt S r (relaxAll pm.2 (stepsAt S pm.1) acc)).length ≤ _
    rw [List.length_cons]; omega
theorem rowAt_len {S : Steps Str} (h : SmallS S) (v : Str) : ∀ k, (rowAt S v k).length ≤ 3 ^ k
  | 0 => Nat.le_refl _
  | k + 1 => by
    have h1 := accAt_len h (rowAt S v k) []
    have h2 := rowAt_len h v k
    have h3 : (rowAt S v (k + 1)) = accAt S (rowAt S v k) [] := rfl
    rw [h3, Nat.pow_succ]
    have h4 : ([] : List (Str × Int)).length = 0 := rfl
    omega
theorem pow10 {k : Nat} (h : k ≤ 10) : 3 ^ k ≤ 59049 := Nat.le_trans (Nat.pow_le_pow_right (by decide) h) (by decide)
def RowsAt (H0 H : Hp) (l : Addr) (S : Steps Str) (n : Str) (k : Nat) : Prop := ∃ rs, H l = some (.lst (rs.map V.ref)) ∧ Paired (fun a row => IntU H a row) rs ((List.range k).map (rowAt S n)) ∧ ∀ a ∈ rs, H0 a = none
theorem int_put {H : Hp} {e : Addr} {acc : List (Str × Int)} {o : Str} {x : Int} (h : IntU H e acc) (hl : acc.length < sizeLine) : DPut H e (.str o) (.int x) (upd H e (.dK (putK (acc.map fun p => (Sum.inr p.1, V.int p.2)) (Sum.inr o) (.int x)))) ∧ IntU (upd H e (.dK (putK (acc.map fun p => (Sum.inr p.1, V.int p.2)) (Sum.inr o) (.int x)))) e (GW.put acc o x) := by
  refine ⟨DPut.k (k := Sum.inr o) h (by rw [List.length_map]; exact hl), ?_⟩
  show _ = _
  rw [upd_same]
  exact congrArg (fun z => some (HO.dK z)) (tb_int_eq ((tb_int acc).put o rfl))
section
variable {P : Program} {w : World} {K : PySem.W.Frag} {mg : Str → Option Value} {base : Heap}
/-- how long a dict is, the locked one as well -/
theorem call_lenR {X : Cx} : CallR X (.builtin "len") (fun xs H Q => ∃ a kvs, xs = [V.ref a] ∧ Rd H a (.dK kvs) ∧ Q (.int kvs.length) H) := by
  intro pins s σ H xs us Q I r ⟨a, kvs, hx, ha, q⟩
  subst hx
  obtain ⟨u, hu, ru⟩ := vals1 r
  subst hu
  cases ru
  exact d_len I ha fun t s' I' => ⟨.int kvs.length, H, I', ⟨t, rfl⟩, q⟩
/-! ### walks -/
def spWalks : Sp := fun vs H Q _ => ∃ (s : Addr) (n : Str) (S : Steps Str), vs = [.ref s, .str n] ∧ StepsRd H s S ∧ StepsOk S n ∧ SmallS S ∧ ∀ H' l, Same H H' → RowsAt H H' l S n (S.length + 1) → Q (.ref l) H'
theorem scWalks : FnScope ["steps", "name", "rows", "turn", "row", "place", "much", "other", "amount"] ["steps", "name"] (defScope sWalks) := ⟨rfl, rfl, rfl, by decide +kernel, rfl, by decide +kernel, by decide +kernel⟩
theorem ok_walks (D : Df K mg "walks" sWalks ["steps", "name"]) (B : Blt mg) : FnOk P w K mg base CX0 1 D.f D.fd ["steps", "name"] spWalks := by
  refine D.F.ok scWalks (fun vs H Q E h => ?_) (fun cdv A outer s H vs Q E hr h => ?_)
  · obtain ⟨s, n, S, rfl, _⟩ := h
    rfl
  · obtain ⟨s, n, S, rfl, SR, so, sm, k⟩ := h
    have hu := hu_of hr
    refine ⟨_, pss_cons (ps_set (i := 2) scWalks.nd rfl (.inl rfl) (pe_lst (pa_cons (pe_disp (pps_cons (pv 1) pe_int pps_nil) rfl rfl (by simp) (by decide)) pa_nil)))
      (pss_cons (ps_for PassesOwn.never rfl (pi_range1 (by rfl) B.range (pa_cons (pe_callB call_lenR (by rfl) B.len PySem.boot_len (pa_cons (pv 0) pa_nil)) pa_nil)) (pg_name (i := 3) scWalks.nd rfl (.inl rfl))
        (pss_cons (ps_set (i := 4) scWalks.nd rfl (.inl rfl) pe_dnewK)
        (pss_cons (ps_lock (ps_for PassesOwn.never rfl (pi_items (pe_ix ix_list (pv 2) (pe_un un_neg pe_int) (fun _ _ => rfl))) (pg_tup rfl (pgs_cons (pg_name (i := 5) scWalks.nd rfl (.inl rfl)) (pgs_cons (pg_name (i := 6) scWalks.nd rfl (.inl rfl)) pgs_nil)))
          (pss_one (ps_for PassesOwn.never rfl (pi_list (pe_dget hu (pv 0) (pv 5) (fun _ _ => rfl))) (pg_tup rfl (pgs_cons (pg_name (i := 7) scWalks.nd rfl (.inl rfl)) (pgs_cons (pg_name (i := 8) scWalks.nd rfl (.inl rfl)) pgs_nil)))
            (pss_one (ps_if (PW.pt (pw_or (pt_cmp (pc_dnotin hu (pv 7) (pv 4))) (pw_or1 (pt_cmpR op_lt (pe_op op_add (pv 6) (pv 8)) (pe_dget hu (pv 4) (pv 7) (fun _ _ => rfl)) (nomark _)))))
              (pss_one (ps_dput hu (pv 4) (pv 7) (pe_op op_add (pv 6) (pv 8)) rfl)) pss_nil))))))
        (pss_one (ps_expr (pe_bm PySem.F.plainAttrs_list PySem.F.slot_list_append PySem.F.type_list_append mt_append (pv 2) (pa_cons (pv 4) pa_nil)))))))
      (pss_one (ps_ret (pv 2)))), ?_⟩
    obtain ⟨skv, hs, stb⟩ := id SR
    intro p hp
    refine ⟨_, rfl, upd_same, [(Sum.inr n, .int 0)], rfl, by show 1 ≤ 15; decide, ⟨by show 1 ≤ sizeLine; decide, fun l hl => ?_⟩⟩
    have hpn : (upd H p (.dK [])) p = some (.dK []) := upd_same
    have npl : p ≠ l := fun z => by rw [← z, upd_same] at hl; cases hl
    have hl0 : H l = none := by rw [upd_ne npl.symm, upd_ne npl.symm] at hl; exact hl
    have s1 : Same H (upd (upd (upd H p (.dK [])) p (.dK (mergeK [] [(Sum.inr n, .int 0)]))) l (.lst [.ref p])) := s_own (s_own (same_upd hp) hp) hl0
    have r1 : RowsAt H (upd (upd (upd H p (.dK [])) p (.dK (mergeK [] [(Sum.inr n, .int 0)]))) l (.lst [.ref p])) l S n (0 + 1) := ⟨[p], upd_same, .cons (by show _ = _; rw [upd_ne npl, upd_same]; rfl) .nil, fun a ha => by
      have : a = p := by simpa using ha
      rw [this]; exact hp⟩
    generalize upd (upd (upd H p (.dK [])) p (.dK (mergeK [] [(Sum.inr n, .int 0)]))) l (.lst [.ref p]) = H1 at s1 r1 ⊢
    have sl : skv.length = S.length := stb.len
    refine ⟨_, rfl, s, skv, rfl, rd_same s1 hs, (skv.length : Int), rfl, by have := sm.len; omega, by have := sm.len; omega, for_range (fun i σ H2 => ∃ v3 v4 v5 v6 v7 v8, σ = [some (.ref s), some (.str n), some (.ref l), v3, v4, v5, v6, v7, v8] ∧ Same H H2 ∧ RowsAt H H2 l S n (i + 1))
      ⟨none, none, none, none, none, none, rfl, s1, r1⟩ (fun i σ H2 hi hP => ?_) (fun σ H2 hP => ?_)⟩
    · obtain ⟨v3, v4, v5, v6, v7, v8, rfl, s2, rs, hrs, prs, nrs⟩ := hP
      have hi' : i < 10 := by have := sm.len; omega
      refine fun e he => ?_
      have he0 : H e = none := by
        cases q : H e with
        | none => rfl
        | some o => rw [s2 _ _ q] at he; cases he
      -- the last row
      obtain ⟨rs0, r, ers, hr2⟩ : ∃ rs0 r, rs = rs0 ++ [r] ∧ IntU H2 r (rowAt S n i) := by
        have e1 := prs.length
        rw [List.length_map, List.length_range] at e1
        have e2 : rs ≠ [] := fun z => by rw [z] at e1; cases e1
        refine ⟨rs.dropLast, rs.getLast e2, (List.dropLast_concat_getLast e2).symm, ?_⟩
        have e3 : rs[i]? = some (rs.getLast e2) := by
          rw [List.getLast_eq_getElem, List.getElem?_eq_getElem (by omega)]
          congr 2
          omega
        obtain ⟨y, hy, hy2⟩ := paired_at prs e3
        rw [List.getElem?_map, List.getElem?_range (by omega)] at hy
        have := Option.some.inj hy
        rw [← this] at hy2
        exact hy2
      have nr0 : H r = none := nrs r (by rw [ers]; simp)
      have nre : r ≠ e := fun z => by unfold IntU at hr2; rw [z, he] at hr2; cases hr2
      have nle : l ≠ e := fun z => by rw [z, he] at hrs; cases hrs
      have nlr : l ≠ r := ne_of hrs hr2 (by intro z; cases z)
      have he2 : (upd H2 e (.dK [])) e = some (.dK []) := upd_same
      have hr3 : (upd H2 e (.dK [])) r = some (.dK ((rowAt S n i).map fun q => (Sum.inr q.1, .int q.2))) := by rw [upd_ne nre]; exact hr2
      have hrs3 : (upd H2 e (.dK [])) l = some (.lst (rs.map V.ref)) := by rw [upd_ne nle]; exact hrs
      refine ⟨r, _, hr3, True.intro, fun od => ⟨_, rfl, 1, rfl, l, rs.map V.ref, -1, .ref r, rfl, rfl, SqL.of (by rw [upd_ne nlr]; exact hrs3), ?_, r, od, _, rfl, upd_same, ?_⟩⟩
      · rw [ers, List.map_append]; exact atI_last _ _
      have sk : Same H (upd H2 r (.frz od (.dK ((rowAt S n i).map fun q => (Sum.inr q.1, .int q.2))))) := s_own s2 nr0
      refine for_it walk_items (fun j σ H3 => ∃ v5 v6 v7 v8, σ = [some (.ref s), some (.str n), some (.ref l), some (.int (0 + (i : Nat))), some (.ref e), v5, v6, v7, v8] ∧ Same (upd H2 r (.frz od (.dK ((rowAt S n i).map fun q => (Sum.inr q.1, .int q.2))))) H3 ∧ IntU H3 e (accAt S ((rowAt S n i).take j) []))
        ⟨v5, v6, v7, v8, rfl, ?_, ?_⟩ (fun j σ H3 _ hP => let ⟨_, _, _, _, _, s3, _⟩ := hP; s3 _ _ upd_same) (fun j x σ H3o H3 hj hP hY => ?_) (fun σ H3 hP => ?_)
      · intro b o q
        by_cases c : b = r
        · rw [c, upd_same] at q ⊢; exact q
        · rw [upd_ne c] at q ⊢
          rw [upd_ne (ne_of_none q he)]; exact q
      · show _ = _
        rw [upd_ne nre.symm, he2]; rfl
      · obtain ⟨w5, w6, w7, w8, rfl, s3, ie⟩ := hP
        obtain ⟨T, x1, x2, rfl, nT, rfl, g1, g2⟩ := hY
        rw [List.length_map] at hj
        obtain ⟨pm, hpm⟩ : ∃ pm, (rowAt S n i)[j]? = some pm := ⟨_, List.getElem?_eq_getElem hj⟩
        have ex1 : x1 = .str pm.1 := by
          have g : (((rowAt S n i).map fun q => ((Sum.inr q.1 : Key), V.int q.2))[j]?).map (fun kv => kV kv.1) = some x1 := g1
          rw [List.getElem?_map, hpm] at g
          exact (Option.some.inj g).symm
        have ex2 : x2 = .int pm.2 := by
          have g : (((rowAt S n i).map fun q => ((Sum.inr q.1 : Key), V.int q.2))[j]?).map (fun kv => kv.2) = some x2 := g2
          rw [List.getElem?_map, hpm] at g
          exact (Option.some.inj g).symm
        subst ex1 ex2
        have s4 := s3.trans (same_upd (o := .tup [.str pm.1, .int pm.2]) nT)
        have ie4 : IntU (upd H3o T (.tup [.str pm.1, .int pm.2])) e (accAt S ((rowAt S n i).take j) []) := same_upd nT _ _ ie
        have hT : (upd H3o T (.tup [.str pm.1, .int pm.2])) T = some (.tup [.str pm.1, .int pm.2]) := upd_same
        generalize upd H3o T (.tup [.str pm.1, .int pm.2]) = H4 at s4 ie4 hT ⊢
        have sH4 := sk.trans s4
        -- the steps from there
        have hmem := row_keys so i pm (List.mem_of_getElem? hpm)
        obtain ⟨es, hes⟩ := look_some hmem
        obtain ⟨v, gv, ls, xs, rfl, hls, pxs⟩ := get_at (rd_same sH4 hs) stb hes
        have esS : stepsAt S pm.1 = es := by unfold stepsAt; rw [hes]; rfl
        have hls4 := sH4 _ _ (wo_le hls).1
        refine ⟨T, _, rfl, SqT.of hT, rfl, _, _, rfl, _, _, rfl, rfl, ?_⟩
        refine ⟨_, rfl, _, rfl, s, .ref ls, rfl, gv, ls, rfl, ⟨_, SqL.of hls4⟩, for_list (K := K) (a := ls) (xs := xs) (fun m σ H5 => ∃ v7 v8, σ = [some (.ref s), some (.str n), some (.ref l), some (.int (0 + (i : Nat))), some (.ref e), some (.str pm.1), some (.int pm.2), v7, v8] ∧ Same (upd H2 r (.frz od (.dK ((rowAt S n i).map fun q => (Sum.inr q.1, .int q.2))))) H5 ∧ IntU H5 e (relaxAll pm.2 (es.take m) (accAt S ((rowAt S n i).take j) [])))
          ⟨w7, w8, rfl, s4, ie4⟩ (fun m σ H5 _ hP => let ⟨_, _, _, s5, _⟩ := hP; SqL.of (sk.trans s5 _ _ (wo_le hls).1)) (fun m x σ H5 hx hP => ?_) (fun σ H5 hP => ?_)⟩
        · obtain ⟨w7, w8, rfl, s5, ie5⟩ := hP
          obtain ⟨oa, hoa, px, rfl, hpx⟩ := paired_at pxs hx
          have hpx5 := (sk.trans s5) _ _ (wo_le hpx).1
          have stp : relaxAll pm.2 (es.take (m + 1)) (accAt S ((rowAt S n i).take j) []) = relax (relaxAll pm.2 (es.take m) (accAt S ((rowAt S n i).take j) [])) oa.1 (pm.2 + oa.2) := by
            rw [List.take_add_one, hoa]
            unfold relaxAll
            rw [List.foldl_append]; rfl
          have acl : (relaxAll pm.2 (es.take m) (accAt S ((rowAt S n i).take j) [])).length < sizeLine := by
            have h1 := relaxAll_len pm.2 (es.take m) (accAt S ((rowAt S n i).take j) [])
            have h2 := accAt_len sm ((rowAt S n i).take j) []
            have h3 := rowAt_len sm n i
            have h4 := pow10 (k := i) (by omega)
            have h5 := sm.at pm.1
            rw [esS] at h5
            rw [List.length_take] at h1 h2
            have h6 : ([] : List (Str × Int)).length = 0 := rfl
            have h7 : 3 ^ i ≤ 19683 := Nat.le_trans (Nat.pow_le_pow_right (by decide) (show i ≤ 9 by omega)) (by decide)
            exact small _ (by omega)
          refine ⟨px, _, rfl, SqT.of hpx5, rfl, _, _, rfl, _, _, rfl, rfl, ?_⟩
          -- what is put
          have putting : ∀ (G : GW.put (relaxAll pm.2 (es.take m) (accAt S ((rowAt S n i).take j) [])) oa.1 (pm.2 + oa.2) = relaxAll pm.2 (es.take (m + 1)) (accAt S ((rowAt S n i).take j) [])),
              DPut H5 e (.str oa.1) (.int (pm.2 + oa.2)) (upd H5 e (.dK (putK ((relaxAll pm.2 (es.take m) (accAt S ((rowAt S n i).take j) [])).map fun p => (Sum.inr p.1, V.int p.2)) (Sum.inr oa.1) (.int (pm.2 + oa.2))))) ∧
              Same (upd H2 r (.frz od (.dK ((rowAt S n i).map fun q => (Sum.inr q.1, .int q.2))))) (upd H5 e (.dK (putK ((relaxAll pm.2 (es.take m) (accAt S ((rowAt S n i).take j) [])).map fun p => (Sum.inr p.1, V.int p.2)) (Sum.inr oa.1) (.int (pm.2 + oa.2))))) ∧
              IntU (upd H5 e (.dK (putK ((relaxAll pm.2 (es.take m) (accAt S ((rowAt S n i).take j) [])).map fun p => (Sum.inr p.1, V.int p.2)) (Sum.inr oa.1) (.int (pm.2 + oa.2))))) e (relaxAll pm.2 (es.take (m + 1)) (accAt S ((rowAt S n i).take j) [])) := fun G => by
            obtain ⟨d1, d2⟩ := int_put (o := oa.1) (x := pm.2 + oa.2) ie5 acl
            rw [G] at d2
            exact ⟨d1, s_own s5 (by rw [upd_ne nre.symm]; exact he), d2⟩
          refine ⟨_, rfl, _, rfl, e, ?_⟩
          cases hk : GW.look oa.1 (relaxAll pm.2 (es.take m) (accAt S ((rowAt S n i).take j) [])) with
          | none =>
            have G : GW.put (relaxAll pm.2 (es.take m) (accAt S ((rowAt S n i).take j) [])) oa.1 (pm.2 + oa.2) = relaxAll pm.2 (es.take (m + 1)) (accAt S ((rowAt S n i).take j) []) := by
              rw [stp]; unfold relax; rw [hk]
            obtain ⟨q1, q2, q3⟩ := putting G
            refine ⟨none, rfl, get_no (.inl ie5) (tb_int _) hk, true, rfl, ?_⟩
            refine iteT ?_
            exact ⟨_, rfl, _, rfl, _, _, rfl, rfl, _, rfl, _, rfl, e, _, rfl, q1, _, _, rfl, q2, q3⟩
          | some y =>
            obtain ⟨vy, gy, rfl⟩ := get_at (.inl ie5) (tb_int _) hk
            refine ⟨some (.int y), rfl, gy, false, rfl, ?_⟩
            refine iteF ⟨_, rfl, _, rfl, _, _, rfl, rfl, _, rfl, _, rfl, e, _, rfl, gy, _, _, rfl, rfl, _, rfl, ite2 (fun c => ?_) (fun c => ?_)⟩
            · have G : GW.put (relaxAll pm.2 (es.take m) (accAt S ((rowAt S n i).take j) [])) oa.1 (pm.2 + oa.2) = relaxAll pm.2 (es.take (m + 1)) (accAt S ((rowAt S n i).take j) []) := by
                rw [stp]; unfold relax; rw [hk]
                show _ = if pm.2 + oa.2 < y then _ else _
                rw [if_pos (of_decide_eq_true c)]
              obtain ⟨q1, q2, q3⟩ := putting G
              exact ⟨_, rfl, _, rfl, _, _, rfl, rfl, _, rfl, _, rfl, e, _, rfl, q1, _, _, rfl, q2, q3⟩
            · refine ⟨_, _, rfl, s5, ?_⟩
              rw [stp]; unfold relax; rw [hk]
              show IntU _ _ (if pm.2 + oa.2 < y then _ else _)
              rw [if_neg (fun z => c (decide_eq_true z))]
              exact ie5
        · obtain ⟨w7, w8, rfl, s5, ie5⟩ := hP
          refine ⟨_, _, _, _, rfl, s5, ?_⟩
          have el : xs.length = es.length := pxs.length
          rw [el, List.take_length, ← esS] at ie5
          have : accAt S ((rowAt S n i).take (j + 1)) [] = relaxAll pm.2 (stepsAt S pm.1) (accAt S ((rowAt S n i).take j) []) := by
            rw [List.take_add_one, hpm]
            unfold accAt
            rw [List.foldl_append]; rfl
          rw [this]
          exact ie5
      · obtain ⟨w5, w6, w7, w8, rfl, s3, ie⟩ := hP
        have hr4 := s3 _ _ upd_same
        rw [List.length_map, List.take_length] at ie
        refine ⟨hr4, ?_⟩
        have hl3 : H3 l = some (.lst (rs.map V.ref)) := s3 _ _ (by rw [upd_ne nlr]; exact hrs)
        have sb : Same H2 (upd H3 r (.dK ((rowAt S n i).map fun q => (Sum.inr q.1, .int q.2)))) := unlocked hr2 s3
        have ie5 : IntU (upd H3 r (.dK ((rowAt S n i).map fun q => (Sum.inr q.1, .int q.2)))) e (rowAt S n (i + 1)) := by
          show _ = _
          rw [upd_ne nre.symm]; exact ie
        generalize upd H3 r (.dK ((rowAt S n i).map fun q => (Sum.inr q.1, .int q.2))) = H5 at sb ie5 ⊢
        have hl5 := sb _ _ hrs
        have lrs : rs.length = i + 1 := by
          have e1 := prs.length
          rw [List.length_map, List.length_range] at e1
          exact e1
        refine ⟨_, rfl, .inl ⟨rfl, _, SqL.of hl5⟩, _, rfl, l, rs.map V.ref, .ref e, rfl, rfl, hl5, by rw [List.length_map, lrs]; exact small _ (by omega), ?_⟩
        refine ⟨_, _, _, _, _, _, rfl, s_own (s2.trans sb) hl0, rs ++ [e], by rw [upd_same, List.map_append]; rfl, ?_, fun a ha => ?_⟩
        · rw [List.range_succ, List.map_append]
          refine paired_snoc (Paired.mapP prs fun a row q => ?_) ?_
          · show _ = _
            have q5 := sb _ _ q
            rw [upd_ne (ne_of q5 hl5 (by intro z; cases z))]
            exact q5
          · show _ = _
            rw [upd_ne nle.symm]; exact ie5
        · rcases List.mem_append.mp ha with ha | ha
          · exact nrs a ha
          · have : a = e := by simpa using ha
            rw [this]; exact he0
    · obtain ⟨v3, v4, v5, v6, v7, v8, rfl, s2, hP⟩ := hP
      refine ⟨_, rfl, k _ l s2 ?_⟩
      have e1 : (skv.length : Int).toNat = S.length := by rw [Int.toNat_natCast]; exact sl
      rw [e1] at hP
      exact hP
end
end Gw

set_option Elab.async false
set_option linter.all false
set_option maxRecDepth 100000
set_option maxHeartbeats 4000000
namespace Gw
open PySem PySem.Spec PyProof.Rows L2 GW
def OptF (H : Hp) (v : V) (w : Option Fr) : Prop := match w with
  | none => v = .non
  | some f => FrV H v f ∧ FrOk f
theorem OptF.mono {H H' : Hp} {v : V} {w : Option Fr} (h : OptF H v w) (s : Same H H') : OptF H' v w := by
  cases w with
  | none => exact h
  | some f => exact ⟨h.1.mono s, h.2⟩
theorem frv_ne {H : Hp} {v : V} {f : Fr} (h : FrV H v f) : ¬ v = .non := fun z => by
  obtain ⟨p, e, _⟩ := h
  rw [e] at z; cases z
theorem low_ok {t b : Int} (h : 0 < b) (h1 : b ≤ 1000) : FrOk (lowM t b) := ⟨(lowM_low h).pos, Int.le_trans (lowM_le h) h1⟩
theorem range_at {n i : Nat} (h : i < n) : (List.range n)[i]? = some i := List.getElem?_range h
theorem RowsAt.at {H0 H : Hp} {l : Addr} {S : Steps Str} {n : Str} {k : Nat} (h : RowsAt H0 H l S n k) : ∃ rs : List Addr, H l = some (.lst (rs.map V.ref)) ∧ rs.length = k ∧ ∀ i < k, ∃ r, rs[i]? = some r ∧ IntU H r (rowAt S n i) ∧ H0 r = none := by
  obtain ⟨rs, h1, h2, h3⟩ := h
  have e1 := h2.length
  rw [List.length_map, List.length_range] at e1
  refine ⟨rs, h1, e1, fun i hi => ?_⟩
  obtain ⟨r, hr⟩ : ∃ r, rs[i]? = some r := ⟨_, List.getElem?_eq_getElem (by omega)⟩
  obtain ⟨y, hy, hy2⟩ := paired_at h2 hr
  rw [List.getElem?_map, range_at hi] at hy
  have := Option.some.inj hy
  rw [← this] at hy2
  exact ⟨r, hr, hy2, h3 r (List.mem_of_getElem? hr)⟩
def worstUp (rows : Nat → List (Str × Int)) (many : Nat) (u : Str) (much : Int) (n : Nat) : Option Fr := (List.range n).foldl (fun w k => match GW.look u (rows k) with
  | none => w
  | some x => better w (lowM (much - x) ((many : Int) - k))) none
theorem worstUp_step (rows : Nat → List (Str × Int)) (many : Nat) (u : Str) (much : Int) (n : Nat) : worstUp rows many u much (n + 1) = match GW.look u (rows n) with
    | none => worstUp rows many u much n
    | some x => better (worstUp rows many u much n) (lowM (much - x) ((many : Int) - n)) := by
  unfold worstUp
  rw [List.range_succ, List.foldl_append]
  rfl
section
variable {P : Program} {w : World} {K : PySem.W.Frag} {mg : Str → Option Value} {base : Heap}
/-! ### least_round -/
def spLeast : Sp := fun vs H Q _ => ∃ (s : Addr) (n : Str) (S : Steps Str), vs = [.ref s, .str n] ∧ StepsRd H s S ∧ StepsOk S n ∧ SmallS S ∧ ∀ H' v f, Same H H' → leastM S n = some f → FrV H' v f → FrOk f → Q v H'
theorem scLeast : FnScope ["steps", "name", "rows", "many", "best", "place", "much", "worst", "at", "one"] ["steps", "name"] (defScope sLeast) := ⟨rfl, rfl, rfl, by decide +kernel, rfl, by decide +kernel, by decide +kernel⟩
theorem ok_least (D : Df K mg "least_round" sLeast ["steps", "name"]) (DW : Df K mg "walks" sWalks ["steps", "name"]) (DO : Df K mg "lowest" sLowest ["top", "bottom"]) (DL : Df K mg "is_less" sLess ["one", "other"]) (B : Blt mg) : FnOk P w K mg base CX0 2 D.f D.fd ["steps", "name"] spLeast := by
  have GW1 : FnOk P w K mg base CX0 1 DW.f DW.fd ["steps", "name"] spWalks := ok_walks DW B
  have GO : FnOk P w K mg base CX0 1 DO.f DO.fd ["top", "bottom"] spLow := ok_lowest DO.F B
  have GL : FnOk P w K mg base CX0 1 DL.f DL.fd ["one", "other"] spLess := ok_less DL.F
  refine D.F.ok scLeast (fun vs H Q E h => ?_) (fun cdv A outer s H vs Q E hr h => ?_)
  · obtain ⟨s, n, S, rfl, _⟩ := h
    rfl
  · obtain ⟨s, n, S, rfl, SR, so, sm, k⟩ := h
    have hu := hu_of hr
    refine ⟨_, pss_cons (ps_set (i := 2) scLeast.nd rfl (.inl rfl) (pe_call GW1 hr rfl DW.m DW.F.kp DW.b .nil pass0 (pa_cons (pv 0) (pa_cons (pv 1) pa_nil))))
      (pss_cons (ps_par rfl scLeast.nd (i := 3) (j := 4) rfl rfl (by decide) rfl rfl (pa_cons (pe_callB call_lenR (by rfl) B.len PySem.boot_len (pa_cons (pv 0) pa_nil)) (pa_cons pe_non pa_nil)) (by rfl))
      (pss_cons (ps_lock (ps_for PassesOwn.never rfl (pi_items (pe_ix ix_list (pv 2) (pv 3) (fun _ _ => rfl))) (pg_tup rfl (pgs_cons (pg_name (i := 5) scLeast.nd rfl (.inl rfl)) (pgs_cons (pg_name (i := 6) scLeast.nd rfl (.inl rfl)) pgs_nil)))
        (pss_cons (ps_set (i := 7) scLeast.nd rfl (.inl rfl) pe_non)
        (pss_cons (ps_for PassesOwn.never rfl (pi_range1 (by rfl) B.range (pa_cons (pv 3) pa_nil)) (pg_name (i := 8) scLeast.nd rfl (.inl rfl))
          (pss_one (ps_if (pt_cmp (pc_din hu (pv 5) (pe_ix ix_list (pv 2) (pv 8) (fun _ _ => rfl))))
            (pss_cons (ps_set (i := 9) scLeast.nd rfl (.inl rfl) (pe_call GO hr rfl DO.m DO.F.kp DO.b .nil pass0 (pa_cons (pe_op op_sub (pv 6) (pe_dget hu (pe_ix ix_list (pv 2) (pv 8) (fun _ _ => rfl)) (pv 5) (fun _ _ => rfl))) (pa_cons (pe_op op_sub (pv 3) (pv 8)) pa_nil))))
            (pss_one (ps_if (PW.pt (pw_or (pt_cmp (pc_isN (pv 7))) (pw_or1 (pt_val (pe_call GL hr rfl DL.m DL.F.kp DL.b .nil pass0 (pa_cons (pv 7) (pa_cons (pv 9) pa_nil)))))))
              (pss_one (ps_set (i := 7) scLeast.nd rfl (.inl rfl) (pv 9))) pss_nil))) pss_nil)))
        (pss_one (ps_if (PW.pt (pw_or (pt_cmp (pc_isN (pv 4))) (pw_or1 (pt_val (pe_call GL hr rfl DL.m DL.F.kp DL.b .nil pass0 (pa_cons (pv 7) (pa_cons (pv 4) pa_nil)))))))
          (pss_one (ps_set (i := 4) scLeast.nd rfl (.inl rfl) (pv 7))) pss_nil))))))
      (pss_one (ps_ret (pv 4))))), ?_⟩
    obtain ⟨skv, hs, stb⟩ := id SR
    have sl : skv.length = S.length := stb.len
    have l10 := sm.len
    refine ⟨_, rfl, _, rfl, s, n, S, rfl, SR, so, sm, fun H1 l s1 ra => ?_⟩
    obtain ⟨rs, hl1, lrs, rat⟩ := ra.at
    obtain ⟨r, hr1, hr2, hr3⟩ := rat S.length (by omega)
    refine ⟨_, rfl, s, skv, rfl, rd_same s1 hs, ?_⟩
    rw [sl]
    refine ⟨_, _, rfl, r, _, hr2, True.intro, fun od => ⟨_, rfl, _, rfl, l, rs.map V.ref, (S.length : Int), .ref r, rfl, rfl, SqL.of (by rw [upd_ne (ne_of hl1 hr2 (by intro z; cases z))]; exact hl1), by rw [atI_nat (j := S.length) (by rw [List.getElem?_map, hr1]; rfl)], r, od, _, rfl, upd_same, ?_⟩⟩
    have hl2 : (upd H1 r (.frz od (.dK ((rowAt S n S.length).map fun q => (Sum.inr q.1, .int q.2))))) l = some (.lst (rs.map V.ref)) := by rw [upd_ne (ne_of hl1 hr2 (by intro z; cases z))]; exact hl1
    have rat2 : ∀ i < S.length + 1, ∃ a, rs[i]? = some a ∧ Rd (upd H1 r (.frz od (.dK ((rowAt S n S.length).map fun q => (Sum.inr q.1, .int q.2))))) a (.dK ((rowAt S n i).map fun q => (Sum.inr q.1, .int q.2))) := fun i hi => by
      obtain ⟨a, q1, q2, q3⟩ := rat i hi
      refine ⟨a, q1, ?_⟩
      by_cases c : a = r
      · rw [c] at q2
        unfold IntU at q2 hr2
        rw [hr2] at q2
        have := HO.dK.inj (Option.some.inj q2)
        rw [c, ← this]
        exact .inr ⟨od, upd_same⟩
      · exact .inl (by rw [upd_ne c]; exact q2)
    have hr4 : (upd H1 r (.frz od (.dK ((rowAt S n S.length).map fun q => (Sum.inr q.1, .int q.2))))) r = some (.frz od (.dK ((rowAt S n S.length).map fun q => (Sum.inr q.1, .int q.2)))) := upd_same
    have back : ∀ H3, Same (upd H1 r (.frz od (.dK ((rowAt S n S.length).map fun q => (Sum.inr q.1, .int q.2))))) H3 → Same H (upd H3 r (.dK ((rowAt S n S.length).map fun q => (Sum.inr q.1, .int q.2)))) := fun H3 s3 => s1.trans (unlocked hr2 s3)
    generalize upd H1 r (.frz od (.dK ((rowAt S n S.length).map fun q => (Sum.inr q.1, .int q.2)))) = H2 at hl2 rat2 hr4 back ⊢
    refine for_it walk_items (fun j σ H3 => ∃ v4 v5 v6 v7 v8 v9, σ = [some (.ref s), some (.str n), some (.ref l), some (.int (S.length : Int)), some v4, v5, v6, v7, v8, v9] ∧ Same H2 H3 ∧ OptF H3 v4 (((rowAt S n S.length).take j).foldl (fun b pm => lesser b (worstM (rowAt S n) S.length pm.1 pm.2)) none))
      ⟨.non, none, none, none, none, none, rfl, Same.refl _, rfl⟩ (fun j σ H3 _ hP => let ⟨_, _, _, _, _, _, _, s3, _⟩ := hP; s3 _ _ hr4) (fun j x σ H3o H3 hj hP hY => ?_) (fun σ H3 hP => ?_)
    · obtain ⟨v4, v5, v6, v7, v8, v9, rfl, s3, ob⟩ := hP
      obtain ⟨T, x1, x2, rfl, nT, rfl, g1, g2⟩ := hY
      rw [List.length_map] at hj
      obtain ⟨pm, hpm⟩ : ∃ pm, (rowAt S n S.length)[j]? = some pm := ⟨_, List.getElem?_eq_getElem hj⟩
      have ex1 : x1 = .str pm.1 := by
        have g : (((rowAt S n S.length).map fun q => ((Sum.inr q.1 : Key), V.int q.2))[j]?).map (fun kv => kV kv.1) = some x1 := g1
        rw [List.getElem?_map, hpm] at g
        exact (Option.some.inj g).symm
      have ex2 : x2 = .int pm.2 := by
        have g : (((rowAt S n S.length).map fun q => ((Sum.inr q.1 : Key), V.int q.2))[j]?).map (fun kv => kv.2) = some x2 := g2
        rw [List.getElem?_map, hpm] at g
        exact (Option.some.inj g).symm
      subst ex1 ex2
      have s4 := s3.trans (same_upd (o := .tup [.str pm.1, .int pm.2]) nT)
      have ob4 := ob.mono (same_upd (o := .tup [.str pm.1, .int pm.2]) nT)
      have hT : (upd H3o T (.tup [.str pm.1, .int pm.2])) T = some (.tup [.str pm.1, .int pm.2]) := upd_same
      generalize upd H3o T (.tup [.str pm.1, .int pm.2]) = H4 at s4 ob4 hT ⊢
      refine ⟨T, _, rfl, SqT.of hT, rfl, _, _, rfl, _, _, rfl, rfl, ?_⟩
      refine ⟨_, rfl, (S.length : Int), rfl, by omega, by omega, ?_⟩
      rw [Int.toNat_natCast]
      refine for_range (fun i σ H5 => ∃ v7 v8 v9, σ = [some (.ref s), some (.str n), some (.ref l), some (.int (S.length : Int)), some v4, some (.str pm.1), some (.int pm.2), some v7, v8, v9] ∧ Same H4 H5 ∧ OptF H5 v7 (worstUp (rowAt S n) S.length pm.1 pm.2 i))
        ⟨.non, v8, v9, rfl, Same.refl _, rfl⟩ (fun i σ H5 hi hP => ?_) (fun σ H5 hP => ?_)
      · obtain ⟨v7, v8, v9, rfl, s5, ow⟩ := hP
        have s25 := s4.trans s5
        obtain ⟨a, ha1, ha2⟩ := rat2 i (by omega)
        have ixi : ∀ H6, Same H2 H6 → SqL K H6 l (rs.map V.ref) ∧ atI (rs.map V.ref) (i : Int) = some (.ref a) := fun H6 s6 => ⟨SqL.of (s6 _ _ hl2), atI_nat (by rw [List.getElem?_map, ha1]; rfl)⟩
        have ei : (0 : Int) + (i : Nat) = (i : Int) := by omega
        rw [ei]
        refine ⟨_, rfl, _, rfl, _, rfl, l, _, _, _, rfl, rfl, (ixi _ s25).1, (ixi _ s25).2, a, ?_⟩
        have st := worstUp_step (rowAt S n) S.length pm.1 pm.2 i
        cases hk : GW.look pm.1 (rowAt S n i) with
        | none =>
          rw [hk] at st
          refine ⟨none, rfl, get_no (rd_same s25 ha2) (tb_int _) hk, false, rfl, iteF ⟨v7, _, v9, rfl, s5, ?_⟩⟩
          rw [st]; exact ow
        | some y =>
          rw [hk] at st
          obtain ⟨vy, gy, rfl⟩ := get_at (rd_same s25 ha2) (tb_int _) hk
          refine ⟨some (.int y), rfl, gy, true, rfl, iteT ?_⟩
          refine ⟨_, rfl, _, rfl, _, rfl, l, _, _, _, rfl, rfl, (ixi _ s25).1, (ixi _ s25).2, _, rfl, a, _, rfl, gy, _, _, rfl, rfl, _, rfl, _, rfl, _, _, rfl, rfl, ?_⟩
          have b0 : (0 : Int) < (S.length : Int) - (i : Int) := by omega
          refine ⟨_, _, rfl, b0, by omega, fun p H6 s6 hp => ?_⟩
          have fo : FrOk (lowM (pm.2 - y) ((S.length : Int) - (i : Int))) := low_ok b0 (by omega)
          have fv : FrV H6 (.ref p) (lowM (pm.2 - y) ((S.length : Int) - (i : Int))) := ⟨p, rfl, hp⟩
          have ow6 := ow.mono s6
          refine ⟨_, rfl, ?_⟩
          cases hw : worstUp (rowAt S n) S.length pm.1 pm.2 i with
          | none =>
            rw [hw] at st ow6
            have e7 : v7 = .non := ow6
            subst e7
            refine ⟨true, by rw [decide_eq_true rfl], iteT ⟨_, rfl, .ref p, _, _, rfl, s5.trans s6, ?_⟩⟩
            rw [st]
            exact ⟨fv, fo⟩
          | some wf =>
            rw [hw] at st ow6
            have n7 := frv_ne ow6.1
            refine ⟨false, by rw [decide_eq_false n7], iteF ?_⟩
            refine ⟨_, rfl, _, rfl, _, _, wf, _, rfl, ow6.1, fv, ow6.2, fo, _, rfl, ite2 (fun c => ?_) (fun c => ?_)⟩
            · refine ⟨_, rfl, .ref p, _, _, rfl, s5.trans s6, ?_⟩
              rw [st]
              show OptF _ _ (if lessM wf _ = true then _ else _)
              rw [if_pos c]
              exact ⟨fv, fo⟩
            · refine ⟨v7, _, _, rfl, s5.trans s6, ?_⟩
              rw [st]
              show OptF _ _ (if lessM wf _ = true then _ else _)
              rw [if_neg c]
              exact ow6
      · obtain ⟨v7, v8, v9, rfl, s5, ow⟩ := hP
        have s25 := s4.trans s5
        have ob5 := ob4.mono s5
        obtain ⟨wf, hwf, _⟩ := worst_some so (List.mem_of_getElem? hpm)
        have hw : worstUp (rowAt S n) S.length pm.1 pm.2 S.length = some wf := hwf
        rw [hw] at ow
        have st : ((rowAt S n S.length).take (j + 1)).foldl (fun b pm => lesser b (worstM (rowAt S n) S.length pm.1 pm.2)) none = lesser (((rowAt S n S.length).take j).foldl (fun b pm => lesser b (worstM (rowAt S n) S.length pm.1 pm.2)) none) (some wf) := by
          rw [List.take_add_one, hpm, List.foldl_append]
          show lesser _ (worstM (rowAt S n) S.length pm.1 pm.2) = _
          rw [hwf]
        refine ⟨_, rfl, ?_⟩
        cases hb : ((rowAt S n S.length).take j).foldl (fun b pm => lesser b (worstM (rowAt S n) S.length pm.1 pm.2)) none with
        | none =>
          rw [hb] at st ob5
          have e4 : v4 = .non := ob5
          subst e4
          refine ⟨true, by rw [decide_eq_true rfl], iteT ⟨_, rfl, v7, _, _, _, _, _, rfl, s25, ?_⟩⟩
          rw [st]
          exact ow
        | some bf =>
          rw [hb] at st ob5
          have n4 := frv_ne ob5.1
          refine ⟨false, by rw [decide_eq_false n4], iteF ?_⟩
          refine ⟨_, rfl, _, rfl, _, _, wf, bf, rfl, ow.1, ob5.1, ow.2, ob5.2, _, rfl, ite2 (fun c => ?_) (fun c => ?_)⟩
          · refine ⟨_, rfl, v7, _, _, _, _, _, rfl, s25, ?_⟩
            rw [st]
            show OptF _ _ (if lessM wf bf = true then _ else _)
            rw [if_pos c]
            exact ow
          · refine ⟨v4, _, _, _, _, _, rfl, s25, ?_⟩
            rw [st]
            show OptF _ _ (if lessM wf bf = true then _ else _)
            rw [if_neg c]
            exact ob5
    · obtain ⟨v4, v5, v6, v7, v8, v9, rfl, s3, ob⟩ := hP
      rw [List.length_map, List.take_length] at ob
      obtain ⟨f, hf, _⟩ := least_some so
      have e : (rowAt S n S.length).foldl (fun b pm => lesser b (worstM (rowAt S n) S.length pm.1 pm.2)) none = some f := hf
      rw [e] at ob
      refine ⟨s3 _ _ hr4, _, rfl, k _ v4 f (back _ s3) hf ?_ ob.2⟩
      obtain ⟨p, e4, hp⟩ := ob.1
      refine ⟨p, e4, ?_⟩
      rw [upd_ne (ne_of hp (s3 _ _ hr4) (by intro z; cases z))]
      exact hp
end
end Gw

set_option Elab.async false
set_option linter.all false
set_option maxRecDepth 100000
set_option maxHeartbeats 4000000
namespace Gw
open PySem PySem.Spec PyProof.Rows L2 GW
/-! ### tables of fractions set side by side -/
def frD (f : Fr) : PyData := .tuple [.int f.1, .int f.2]
theorem frD_sh (f : Fr) : SeqAt.shaped (frD f) = true := by
  unfold frD SeqAt.shaped
  simp [PyData.canLay0, PyData.canLayAll0, PyData.depth, PyData.depthAll]
theorem FrV.dp {K : PySem.W.Frag} {H : Hp} {v : V} {f : Fr} (h : FrV H v f) : Dp K H v (frD f) := by
  obtain ⟨p, rfl, hp⟩ := h
  exact .tup (SqT.of hp) (.cons (.int _) (.cons (.int _) .nil))
def atK (l : List (Str × Fr)) (k : Key) : Fr := match k with
  | .inl _ => (0, 1)
  | .inr n => (GW.look n l).getD (0, 1)
theorem tab_eq {K : PySem.W.Frag} {H : Hp} {a b : Addr} {l m : List (Str × Fr)} (h1 : TabU H a l) (h2 : TabU H b m) (nd : (GW.keys l).Nodup) (hk : GW.keys l = GW.keys m) : ∃ ks ls, TabEq K H a b ks ls (fun k => frD (atK l k)) (fun k => frD (atK m k)) := by
  obtain ⟨ks, e1, t1⟩ := h1
  obtain ⟨ls, e2, t2⟩ := h2
  refine ⟨ks, ls, e1, e2, ?_, fun p hp => ?_, fun p _ => frD_sh _, fun p _ => frD_sh _⟩
  · have q1 := t1.keys
    have q2 := t2.keys
    have q3 := congrArg List.length q1
    have q4 := congrArg List.length q2
    rw [List.length_map, List.length_map] at q3 q4
    rw [q3, q4, hk]
  · obtain ⟨i, hi, ei⟩ := List.mem_iff_getElem.mp hp
    have hp' : ks[i]? = some p := by rw [List.getElem?_eq_getElem hi, ei]
    obtain ⟨q, hq, ek, fq⟩ := t1.at hp'
    have mem : q.1 ∈ GW.keys m := by rw [← hk]; exact List.mem_map_of_mem (f := (·.1)) (List.mem_of_getElem? hq)
    obtain ⟨y, hy⟩ := look_some mem
    obtain ⟨u, hu, fu⟩ := t2.look hy
    have e3 : GW.look q.1 l = some q.2 := look_of_mem nd (List.mem_of_getElem? hq)
    refine ⟨u, by rw [ek]; exact hu, ?_, ?_⟩
    · have : atK l p.1 = q.2 := by rw [ek]; show (GW.look q.1 l).getD _ = _; rw [e3]; rfl
      show Dp K H p.2 (frD (atK l p.1))
      rw [this]
      exact (fq.mono wo_to).dp
    · have : atK m p.1 = y := by rw [ek]; show (GW.look q.1 m).getD _ = _; rw [hy]; rfl
      show Dp K H u (frD (atK m p.1))
      rw [this]
      exact (fu.mono wo_to).dp
theorem frD_eqv (f : Fr) : PyData.eqv (frD f) (frD f) = true := SeqAt.eqv_refl _ (SeqAt.canLay_of_shaped (frD_sh f))
theorem tab_same {l : List (Str × Fr)} (ks : List (Key × V)) : (ks.all fun p => PyData.eqv (frD (atK l p.1)) (frD (atK l p.1))) = true := List.all_eq_true.mpr fun p _ => frD_eqv _
/-! ### the list of plans and their tables -/
abbrev Po := List (Str × Str) × List (Str × Fr)
def PoV (H : Hp) (v : V) (po : Po) : Prop := ∃ p a d, v = .ref p ∧ H p = some (.tup [.ref a, .ref d]) ∧ TabU H d po.2
theorem PoV.mono {H H' : Hp} {v : V} {po : Po} (h : PoV H v po) (s : Same H H') : PoV H' v po := let ⟨p, a, d, b, c, e⟩ := h; ⟨p, a, d, b, s _ _ c, e.mono s⟩
def tabOf (Pl : Plan Str) (σ : List (Str × Str)) : List (Str × Fr) := (stepsM Pl σ).map fun s => (s.1, (leastM (stepsM Pl σ) s.1).getD (0, 1))
theorem tables_at {Pl : Plan Str} {i : Nat} {σ : List (Str × Str)} (h : (plansM Pl true)[i]? = some σ) : (tablesM Pl)[i]? = some (σ, tabOf Pl σ) := by
  unfold tablesM
  rw [List.getElem?_map, h]; rfl
theorem steps_keys (Pl : Plan Str) (σ : List (Str × Str)) : GW.keys (stepsM Pl σ) = GW.keys Pl := keys_map Pl _
theorem tabOf_keys (Pl : Plan Str) (σ : List (Str × Str)) : GW.keys (tabOf Pl σ) = GW.keys Pl := by
  unfold tabOf
  rw [keys_map (stepsM Pl σ) (fun s => (leastM (stepsM Pl σ) s.1).getD (0, 1)), steps_keys]
theorem steps_small {Pl : Plan Str} (ok : PlOk Pl) (σ : List (Str × Str)) : SmallS (stepsM Pl σ) := by
  refine ⟨by unfold stepsM; rw [List.length_map]; exact ok.len, fun p hp => ?_⟩
  unfold stepsM at hp
  obtain ⟨q, hq, rfl⟩ := List.mem_map.mp hp
  show (if q.2.1 = true then _ else _ : List (Str × Int)).length ≤ 3
  split
  · show 1 ≤ 3; decide
  · rw [List.length_map]; exact (ok.row q hq).2.1
theorem least_ok {S : Steps Str} {n : Str} (so : StepsOk S n) (sm : SmallS S) {f : Fr} (hf : leastM S n = some f) : FrOk f := by
  obtain ⟨r, h1, h2, ⟨pm, hm, hw⟩, _⟩ := least_some so
  rw [h1] at hf
  cases hf
  obtain ⟨_, W2⟩ := worst_spec (rowAt S n) S.length pm.1 pm.2
  refine ⟨h2.pos, ?_⟩
  have h3 : worstUp (rowAt S n) S.length pm.1 pm.2 S.length = some f := hw
  have key : ∀ i ≤ S.length, ∀ g, worstUp (rowAt S n) S.length pm.1 pm.2 i = some g → g.2 ≤ 10 := by
    intro i
    induction i with
    | zero => intro _ g h; cases h
    | succ i ih =>
      intro hi g h
      rw [worstUp_step] at h
      have l10 := sm.len
      split at h
      · exact ih (by omega) g h
      · rename_i x _
        have hb : (lowM (pm.2 - x) ((S.length : Int) - i)).2 ≤ 10 := Int.le_trans (lowM_le (by omega)) (by omega)
        obtain ⟨r, q1, _, _, q4⟩ := better_spec (worstUp (rowAt S n) S.length pm.1 pm.2 i) (lowM (pm.2 - x) ((S.length : Int) - i))
        rw [q1] at h
        cases h
        rcases q4 with q4 | q4
        · rw [q4]; exact hb
        · exact ih (by omega) _ q4
  have := key S.length (Nat.le_refl _) f h3
  omega
theorem tabOf_ok {Pl : Plan Str} (ok : PlOk Pl) {val : Str → Fr} (W : Worth Pl val) {σ : List (Str × Str)} (hσ : σ ∈ plansM Pl true) : ∀ q ∈ tabOf Pl σ, FrOk q.2 := fun q hq => by
  unfold tabOf at hq
  obtain ⟨s, hs, rfl⟩ := List.mem_map.mp hq
  have hk : s.1 ∈ GW.keys Pl := by rw [← steps_keys Pl σ]; exact List.mem_map_of_mem (f := (·.1)) hs
  have so := W.stp σ hσ s.1 hk
  obtain ⟨r, h1, _⟩ := least_some so
  show FrOk ((leastM (stepsM Pl σ) s.1).getD (0, 1))
  rw [h1]
  exact least_ok so (steps_small ok σ) h1
theorem tables_mem {Pl : Plan Str} {po : Po} (h : po ∈ tablesM Pl) : ∃ σ ∈ plansM Pl true, po = (σ, tabOf Pl σ) := by
  unfold tablesM at h
  obtain ⟨σ, h1, h2⟩ := List.mem_map.mp h
  exact ⟨σ, h1, h2.symm⟩
/-- the greatest so far -/
def maxUp (po : Po) (t : List (Str × Fr)) (j : Nat) : List (Str × Fr) := ((GW.keys po.2).take j).foldl (fun t n => maxAt t po.2 n) t
def tabUp (ts : List Po) (i : Nat) : List (Str × Fr) := (ts.take i).foldl (fun t po => (GW.keys po.2).foldl (fun t n => maxAt t po.2 n) t) ((ts.head?.map (·.2)).getD [])
theorem maxAt_keys (t one : List (Str × Fr)) (n : Str) : GW.keys (maxAt t one n) = GW.keys t := by
  cases e1 : GW.look n t with
  | none => rw [maxAt_no (.inl e1)]
  | some x =>
    cases e2 : GW.look n one with
    | none => rw [maxAt_no (.inr e2)]
    | some y =>
      rw [maxAt_eq e1 e2]
      split
      · rw [keys_put, if_pos]
        exact Classical.byContradiction fun z => by rw [look_none.mpr z] at e1; cases e1
      · rfl
theorem put_ok {l : List (Str × Fr)} {k : Str} {v : Fr} (h : ∀ q ∈ l, FrOk q.2) (hv : FrOk v) : ∀ q ∈ GW.put l k v, FrOk q.2 := fun q hq => by
  unfold GW.put at hq
  split at hq
  · obtain ⟨r, hr, rfl⟩ := List.mem_map.mp hq
    split
    · exact hv
    · exact h r hr
  · rcases List.mem_append.mp hq with z | z
    · exact h q z
    · have : q = (k, v) := by simpa using z
      rw [this]; exact hv
theorem nodup_keys {Pl : Plan Str} (ok : PlOk Pl) {l : List (Str × Fr)} (h : GW.keys l = GW.keys Pl) : (GW.keys l).Nodup := by rw [h]; exact ok.nd
end Gw

set_option Elab.async false
set_option linter.all false
set_option maxRecDepth 100000
set_option maxHeartbeats 4000000
namespace Gw
open PySem PySem.Spec PyProof.Rows L2 GW
section
variable {P : Program} {w : World} {K : PySem.W.Frag} {mg : Str → Option Value} {base : Heap}
/-! ### plan_of_best -/
def tabW (Pl : Plan Str) (val : Str → Fr) : List (Str × Fr) := Pl.map fun p => (p.1, val p.1)
theorem tabW_keys (Pl : Plan Str) (val : Str → Fr) : GW.keys (tabW Pl val) = GW.keys Pl := keys_map Pl _
theorem StepsRd.ne {H : Hp} {a b : Addr} {S : Steps Str} (h : StepsRd H a S) (e : H b = none) : a ≠ b := fun z => by
  obtain ⟨k, r, _⟩ := h
  rcases r with r | ⟨o, r⟩
  · rw [z, e] at r; cases r
  · rw [z, e] at r; cases r
theorem tab_upd {H : Hp} {a d : Addr} {o : HO} {l : List (Str × Fr)} (h : TabU H a l) (hd : ∀ f : Fr, H d ≠ some (frT f)) (n : a ≠ d) : TabU (upd H d o) a l := by
  obtain ⟨kvs, e, tb⟩ := h
  refine ⟨kvs, by rw [upd_ne n]; exact e, tb.mono fun v f ⟨p, q1, q2⟩ => ⟨p, q1, ?_⟩⟩
  obtain ⟨q3, q4⟩ := wo_le q2
  exact wo_of (by rw [upd_ne (fun z => hd f (by rw [← z]; exact q3))]; exact q3) q4
theorem max_step (po : Po) (t : List (Str × Fr)) {j : Nat} {n : Str} (h : (GW.keys po.2)[j]? = some n) : maxUp po t (j + 1) = maxAt (maxUp po t j) po.2 n := by
  unfold maxUp
  rw [List.take_add_one, h, List.foldl_append]; rfl
theorem tabUp_step (ts : List Po) {i : Nat} {po : Po} (h : ts[i]? = some po) : tabUp ts (i + 1) = maxUp po (tabUp ts i) (GW.keys po.2).length := by
  unfold tabUp maxUp
  rw [List.take_add_one, h, List.foldl_append, List.take_length]; rfl
theorem tabUp_all (ts : List Po) : tabUp ts ts.length = tableM ts := by
  unfold tabUp tableM
  rw [List.take_length]
def spBest (C : Addr) : Sp := fun vs H Q _ => ∃ (m : Addr) (Pl : Plan Str) (val : Str → Fr), vs = [.ref m] ∧ MeansAt C H m Pl ∧ PlOk Pl ∧ Worth Pl val ∧
  ∀ H' T x t, Same H H' → H t = none → H' T = some (.tup [x, .ref t]) → TabU H' t (tabW Pl val) → Q (.ref T) H'
theorem scBest : FnScope ["means", "tables", "plan", "steps", "name", "table", "one"] ["means"] (defScope sBest) := ⟨rfl, rfl, rfl, by decide +kernel, rfl, by decide +kernel, by decide +kernel⟩
theorem ok_best {C : Addr} (D : Df K mg "plan_of_best" sBest ["means"]) (DA : Df K mg "whole_plans" sPlans ["means", "side"]) (DK : Df K mg "steps_kept" sKept ["means", "side", "plan"]) (DR : Df K mg "least_round" sLeast ["steps", "name"]) (DL : Df K mg "is_less" sLess ["one", "other"])
    (DP : Dm K C "places" "Means.places" sPlaces ["self"]) (DW : Df K mg "walks" sWalks ["steps", "name"]) (DO : Df K mg "lowest" sLowest ["top", "bottom"]) (M : Mcl K mg C) (B : Blt mg) : FnOk P w K mg base CX0 3 D.f D.fd ["means"] (spBest C) := by
  have GA : FnOk P w K mg base CX0 2 DA.f DA.fd ["means", "side"] (spPlans C) := ok_plans DA DP M B
  have GK : FnOk P w K mg base CX0 1 DK.f DK.fd ["means", "side", "plan"] (spKept C) := ok_kept DK M B
  have GR : FnOk P w K mg base CX0 2 DR.f DR.fd ["steps", "name"] spLeast := ok_least DR DW DO DL B
  have GL : FnOk P w K mg base CX0 1 DL.f DL.fd ["one", "other"] spLess := ok_less DL.F
  refine D.F.ok scBest (fun vs H Q E h => ?_) (fun cdv A outer s H vs Q E hr h => ?_)
  · obtain ⟨m, Pl, val, rfl, _⟩ := h
    rfl
  · obtain ⟨m, Pl, val, rfl, MA, ok, W, k⟩ := h
    have hu := hu_of hr
    have hr1 : Room 1 _ := hr.mono (by decide)
    have room : (A.deeper (envOfC (Str.ofString "plan_of_best") (defScope sBest) s.heap.objs.size D.f cdv)).units + 66 < cLine := by have := hr.un; omega
    refine ⟨_, pss_cons (ps_set (i := 1) scBest.nd rfl (.inl rfl) (pe_lst pa_nil))
      (pss_cons (ps_for PassesOwn.never rfl (pi_list (pe_call GA hr rfl DA.m DA.F.kp DA.b .nil pass0 (pa_cons (pv 0) (pa_cons pe_str pa_nil)))) (pg_name (i := 2) scBest.nd rfl (.inl rfl))
        (pss_cons (ps_set (i := 3) scBest.nd rfl (.inr rfl) (pe_call GK hr1 rfl DK.m DK.F.kp DK.b .nil pass0 (pa_cons (pv 0) (pa_cons pe_str (pa_cons (pv 2) pa_nil)))))
        (pss_one (ps_expr (pe_bm PySem.F.plainAttrs_list PySem.F.slot_list_append PySem.F.type_list_append mt_append (pv 1) (pa_cons (pe_tup (pa_cons (pv 2)
          (pa_cons (pe_lock (pe_dc (own := [("name", 4)]) (g := gName 4) (tt := tYes) (by rfl) scBest.nd (pi_keys (pv 3)) (blkOk_by (N := ["means", "tables", "plan", "steps", "name", "table", "one"]) (sc := defScope sBest) (by decide +kernel))
            (fun _ _ _ _ _ => pg_name (i := 4) scBest.nd rfl (Or.inl rfl)) (fun _ _ _ _ _ => pts_nil) (fun _ _ _ _ _ => pv 4)
            (fun _ _ _ _ _ => pe_call GR hr rfl DR.m DR.F.kp DR.b .nil pass0 (pa_cons (pv 3) (pa_cons (pv 4) pa_nil))))) pa_nil))) pa_nil))))))
      (pss_cons (ps_set (i := 5) scBest.nd rfl (.inr rfl) (pe_callTy call_dictD (by rfl) B.dict PyProof.Rows.boot_dict (pa_cons (pe_ix ix_tup (pe_ix ix_list (pv 1) pe_int (fun _ _ => rfl)) pe_int (fun _ _ => rfl)) pa_nil)))
      (pss_cons (ps_for PassesOwn.never rfl (pi_list (pv 1)) (pg_tup rfl (pgs_cons (pg_name (i := 2) scBest.nd rfl (.inl rfl)) (pgs_cons (pg_name (i := 6) scBest.nd rfl (.inl rfl)) pgs_nil)))
        (pss_one (ps_lock (ps_for PassesOwn.never rfl (pi_keys (pv 6)) (pg_name (i := 4) scBest.nd rfl (.inl rfl))
          (pss_one (ps_if (pt_val (pe_call GL hr1 rfl DL.m DL.F.kp DL.b .nil pass0 (pa_cons (pe_dget hu (pv 5) (pv 4) (fun _ _ => rfl)) (pa_cons (pe_dget hu (pv 6) (pv 4) (fun _ _ => rfl)) pa_nil))))
            (pss_one (ps_dput hu (pv 5) (pv 4) (pe_dget hu (pv 6) (pv 4) (fun _ _ => rfl)) rfl)) pss_nil))))))
      (pss_one (ps_ret (pe_tup (pa_cons (pe_ix ix_list (pe_lc (own := [("plan", 2), ("one", 6)]) (g := gTup K 2 (gCons (gName 2) (gCons (gName 6) gNil))) (by rfl) scBest.nd (pi_list (pv 1)) (blkOk_by (N := ["means", "tables", "plan", "steps", "name", "table", "one"]) (sc := defScope sBest) (by decide +kernel))
          (fun _ _ _ _ _ => pg_tup rfl (pgs_cons (pg_name (i := 2) scBest.nd rfl (.inl rfl)) (pgs_cons (pg_name (i := 6) scBest.nd rfl (.inl rfl)) pgs_nil)))
          (fun _ _ _ _ _ => pts_one (pt_cmpR (r := rTabEq K) (op_tabEq room) (pv 6) (pv 5) (nomark _))) (fun _ _ _ _ _ => pv 2)) pe_int (fun _ _ => rfl)) (pa_cons (pv 5) pa_nil)))))))), ?_⟩
    obtain ⟨dx, dm, hm, PU⟩ := id MA
    refine ⟨by show 0 ≤ sizeLine; decide, fun tl htl => ?_⟩
    refine ⟨_, rfl, m, Pl, rfl, MA.mono (same_upd htl), ok, fun H1 pl s1 plans => ?_⟩
    obtain ⟨as, hpl, pas, nas⟩ := plans
    have htl1 : H1 tl = some (.lst []) := s1 _ _ upd_same
    have sH1 : Same H H1 := (same_upd htl).trans s1
    have plne : plansM Pl true ≠ [] := fun z => by
      obtain ⟨po, h1, _⟩ := W.got
      obtain ⟨σ, h2, _⟩ := tables_mem h1
      rw [z] at h2; cases h2
    have asl : as.length = (plansM Pl true).length := pas.length
    have npt : pl ≠ tl := ne_of hpl htl1 (fun z => by
      have h1 := HO.lst.inj z
      have h2 := congrArg List.length h1
      rw [List.length_map, asl] at h2
      exact plne (List.eq_nil_of_length_eq_zero h2))
    have tsl : (tablesM Pl).length = (plansM Pl true).length := by unfold tablesM; rw [List.length_map]
    refine ⟨pl, rfl, ⟨_, SqL.of hpl⟩, for_list (K := K) (a := pl) (xs := as.map V.ref) (fun i σ H2 => ∃ v2 v3 ps, σ = [some (.ref m), some (.ref tl), v2, v3, none, none, none] ∧ SameX tl H1 H2 ∧ H2 tl = some (.lst ps) ∧ Paired (PoV (wo H2 tl)) ps ((tablesM Pl).take i))
      ⟨none, none, [], rfl, fun _ _ _ e => e, htl1, .nil⟩ (fun i σ H2 _ hP => let ⟨_, _, _, _, s2, _⟩ := hP; SqL.of (s2 _ _ npt hpl)) (fun i x σ H2 hx hP => ?_) (fun σ H2 hP => ?_)⟩
    · obtain ⟨v2, v3, ps, rfl, s2, hps, pps⟩ := hP
      obtain ⟨a, ha⟩ : ∃ a, as[i]? = some a := by
        rw [List.getElem?_map] at hx
        cases e : as[i]? with
        | none => rw [e] at hx; cases hx
        | some a => exact ⟨a, rfl⟩
      have ex : x = .ref a := by
        rw [List.getElem?_map, ha] at hx
        exact (Option.some.inj hx).symm
      subst ex
      obtain ⟨σi, hσ, hσa⟩ := paired_at pas ha
      have hmem := List.mem_of_getElem? hσ
      have nat : a ≠ tl := fun z => by
        have hσa' : H1 a = _ := hσa
        rw [z, htl1] at hσa'; cases hσa'
      have sH2 : Same H H2 := fun b o e => s2 b o (fun z => by rw [z, htl] at e; cases e) (sH1 _ _ e)
      have hσ2 : StrU H2 a σi := s2 _ _ nat hσa
      refine ⟨_, rfl, _, rfl, m, a, Pl, σi, rfl, MA.mono sH2, ok, hσ2, hmem, fun H3 s s3 ns SU => ?_⟩
      have htl3 := s3 _ _ hps
      refine ⟨_, rfl, .inl ⟨rfl, _, SqL.of htl3⟩, _, rfl, ?_⟩
      obtain ⟨kvs, hs, stb⟩ := id SU
      have so : ∀ n ∈ GW.keys (stepsM Pl σi), StepsOk (stepsM Pl σi) n := fun n hn => W.stp σi hmem n (by rw [← steps_keys Pl σi]; exact hn)
      have sl : kvs.length = (stepsM Pl σi).length := stb.len
      have tabl : (tabOf Pl σi).length = (stepsM Pl σi).length := by unfold tabOf; rw [List.length_map]
      have nst : s ≠ tl := ne_of hs htl3 (by intro z; cases z)
      refine ⟨s, _, hs, True.intro, fun od => ⟨_, rfl, s, od, rfl, .inl ⟨kvs, upd_same, fun D hD => dc_it walk_keys (fun j H5 => Same (upd H3 s (.frz od (.dK kvs))) H5 ∧ ∃ ks, H5 D = some (.dK ks) ∧ Tb (FrV (wo H5 D)) ks ((tabOf Pl σi).take j))
        ⟨same_upd hD, [], upd_same, .nil⟩ (fun j H5 _ hP => hP.1 _ _ upd_same) (fun j x H5o H5 hj hP hY => ?_) (fun H5 hP => ?_)⟩⟩⟩
      · obtain ⟨s5, ks, hks, tbk⟩ := hP
        obtain ⟨rfl, key, val', hkv, rfl⟩ := hY
        obtain ⟨sp, hsp, ekey, _⟩ := stb.at hkv
        simp only at ekey
        subst ekey
        have hspm : sp.1 ∈ GW.keys (stepsM Pl σi) := List.mem_map_of_mem (f := (·.1)) (List.mem_of_getElem? hsp)
        have srd : StepsRd H5 s (stepsM Pl σi) := ⟨kvs, .inr ⟨od, s5 _ _ upd_same⟩, stb.mono fun _ _ q => q.mono fun b o e => by
          obtain ⟨e1, n1⟩ := wo_le e
          exact wo_of (s5 b o (by rw [upd_ne n1]; exact e1)) n1⟩
        have nsD : s ≠ D := fun z => by rw [← z, upd_same] at hD; cases hD
        refine ⟨rfl, yes_then ⟨_, rfl, _, rfl, _, rfl, s, sp.1, stepsM Pl σi, rfl, srd, so _ hspm, steps_small ok σi, fun H6 v f s6 hf fv fo => ⟨ks, Sum.inr sp.1, rfl, s6 _ _ hks, ?_, ?_⟩⟩⟩
        · have h1 := tbk.len
          have h2 := (steps_small ok σi).len
          rw [List.length_take] at h1
          exact small _ (by omega)
        · have ht : (tabOf Pl σi)[j]? = some (sp.1, f) := by
            unfold tabOf
            rw [List.getElem?_map, hsp]
            show some (sp.1, (leastM (stepsM Pl σi) sp.1).getD (0, 1)) = _
            rw [hf]; rfl
          have fresh : valV ks (Sum.inr sp.1 : Key) = none := tbk.no (look_none.mpr (key_fresh (l := tabOf Pl σi) (by rw [tabOf_keys]; exact ok.nd) ht))
          refine ⟨s_own (s5.trans s6) hD, _, upd_same, ?_⟩
          rw [wo_upd, putK_new _ fresh, List.take_add_one, ht]
          obtain ⟨p, ep, hp⟩ := fv
          refine (tbk.mono fun _ _ q => q.mono (wo_same s6)).app (.cons ⟨rfl, p, ep, wo_of hp ?_⟩ .nil)
          exact ne_of hp (s6 _ _ hks) (by intro z; cases z)
      · obtain ⟨s5, ks, hks, tbk⟩ := hP
        have nsD : s ≠ D := fun z => by rw [← z, upd_same] at hD; cases hD
        have hD3 : H3 D = none := by rw [upd_ne nsD.symm] at hD; exact hD
        have hs5 := s5 _ _ upd_same
        refine ⟨hs5, by show 2 ≤ sizeLine; decide, fun q nq => ?_⟩
        have s6 : Same H3 (upd H5 s (.dK kvs)) := unlocked hs s5
        have tab6 : TabU (upd H5 s (.dK kvs)) D (tabOf Pl σi) := by
          rw [sl, ← tabl, List.take_length] at tbk
          exact tab_upd ⟨ks, hks, tbk⟩ (fun f z => by rw [hs5] at z; cases z) nsD.symm
        generalize upd H5 s (.dK kvs) = H6 at s6 tab6 nq ⊢
        have s7 : Same H6 (upd H6 q (.tup [.ref a, .ref D])) := same_upd nq
        have hq7 : (upd H6 q (.tup [.ref a, .ref D])) q = some (.tup [.ref a, .ref D]) := upd_same
        generalize upd H6 q (.tup [.ref a, .ref D]) = H7 at s7 hq7 ⊢
        have htl7 := s7 _ _ (s6 _ _ htl3)
        have s37 := s6.trans s7
        have tab7 := tab6.mono s7
        have nDt : D ≠ tl := fun z => by rw [z, htl3] at hD3; cases hD3
        have ntq : q ≠ tl := ne_of hq7 htl7 (by intro z; cases z)
        have l1 := pps.length
        have l2 := plans_small true ok Pl.length
        rw [List.take_length] at l2
        rw [List.length_take, tsl] at l1
        refine ⟨tl, ps, .ref q, rfl, rfl, htl7, small _ (by omega), ?_⟩
        refine ⟨_, _, ps ++ [.ref q], rfl, fun b o n e => ?_, upd_same, ?_⟩
        · rw [upd_ne n]; exact s37 _ _ (s3 _ _ (s2 _ _ n e))
        · rw [wo_upd, List.take_add_one, tables_at hσ]
          refine paired_snoc (Paired.mapP pps fun _ _ r => r.mono (wo_same (s3.trans s37))) ⟨q, a, D, rfl, wo_of hq7 ntq, ?_⟩
          obtain ⟨k7, h7, t7⟩ := tab7
          refine ⟨k7, wo_of h7 nDt, t7.mono fun v f ⟨p, e1, e2⟩ => ⟨p, e1, ?_⟩⟩
          obtain ⟨e3, e4⟩ := wo_le e2
          exact wo_of (wo_of e3 (ne_of e3 htl7 (by intro z; cases z))) e4
    · obtain ⟨v2, v3, ps, rfl, s2, hps, pps⟩ := hP
      have e0 : (as.map V.ref).length = (tablesM Pl).length := by rw [List.length_map, asl, tsl]
      rw [e0, List.take_length] at pps
      have sH2 : Same H H2 := fun b o e => s2 b o (fun z => by rw [z, htl] at e; cases e) (sH1 _ _ e)
      -- the first table
      obtain ⟨po0, ht0⟩ : ∃ po0, (tablesM Pl)[0]? = some po0 := by
        cases q : tablesM Pl with
        | nil =>
          have h1 := tsl
          rw [q] at h1
          exact absurd (List.eq_nil_of_length_eq_zero h1.symm) plne
        | cons x r => exact ⟨x, rfl⟩
      obtain ⟨x0, hx0, p0, a0, d0, rfl, hp0, tab0⟩ := paired_both pps ht0
      obtain ⟨kv0, hd0, tb0⟩ := id tab0
      have hd02 := (wo_le hd0).1
      refine ⟨_, rfl, tl, ps, 0, .ref p0, rfl, rfl, SqL.of hps, atI_nat (j := 0) hx0, p0, _, _, _, rfl, rfl, SqT.of (wo_le hp0).1, pr_1, d0, kv0, rfl, .inl hd02, fun t ht => ?_⟩
      have htH : H t = none := sH2.free ht
      have s3 : Same H2 (upd H2 t (.dK kv0)) := same_upd ht
      have tab3 : TabU (upd H2 t (.dK kv0)) t (tabUp (tablesM Pl) 0) := by
        have e1 : tabUp (tablesM Pl) 0 = po0.2 := by
          unfold tabUp
          rw [List.take_zero, List.head?_eq_getElem?, ht0]; rfl
        rw [e1]
        refine ⟨kv0, upd_same, ?_⟩
        rw [wo_upd]
        refine tb0.mono fun v f ⟨p, e2, e3⟩ => ⟨p, e2, ?_⟩
        have e4 := (wo_le (wo_le e3).1).1
        exact wo_of e4 (ne_of_none e4 ht)
      have mem0 := List.mem_of_getElem? ht0
      have kpo : ∀ po ∈ tablesM Pl, GW.keys po.2 = GW.keys Pl := fun po h => by
        obtain ⟨σ, _, rfl⟩ := tables_mem h
        exact tabOf_keys Pl σ
      have opo : ∀ po ∈ tablesM Pl, ∀ q ∈ po.2, FrOk q.2 := fun po h => by
        obtain ⟨σ, h1, rfl⟩ := tables_mem h
        exact tabOf_ok ok W h1
      have e00 : tabUp (tablesM Pl) 0 = po0.2 := by
        unfold tabUp
        rw [List.take_zero, List.head?_eq_getElem?, ht0]; rfl
      have k3 : GW.keys (tabUp (tablesM Pl) 0) = GW.keys Pl := by rw [e00]; exact kpo po0 mem0
      have o3 : ∀ q ∈ tabUp (tablesM Pl) 0, FrOk q.2 := by rw [e00]; exact opo po0 mem0
      have ntt : t ≠ tl := fun z => by rw [z, hps] at ht; cases ht
      generalize upd H2 t (.dK kv0) = H3 at s3 tab3 ⊢
      refine ⟨_, rfl, tl, rfl, ⟨_, SqL.of (s3 _ _ hps)⟩, for_list (K := K) (a := tl) (xs := ps) (fun i σ H4 => ∃ v2 v4 v6, σ = [some (.ref m), some (.ref tl), v2, v3, v4, some (.ref t), v6] ∧ Same H2 H4 ∧ TabU H4 t (tabUp (tablesM Pl) i) ∧ GW.keys (tabUp (tablesM Pl) i) = GW.keys Pl ∧ ∀ q ∈ tabUp (tablesM Pl) i, FrOk q.2)
        ⟨v2, none, none, rfl, s3, tab3, k3, o3⟩ (fun i σ H4 _ hP => let ⟨_, _, _, _, s4, _⟩ := hP; SqL.of (s4 _ _ hps)) (fun i x σ H4 hx hP => ?_) (fun σ H4 hP => ?_)⟩
      · obtain ⟨v2, v4, v6, rfl, s4, tab4, k4, o4⟩ := hP
        obtain ⟨po, hpo, p, a, d, rfl, hp, tabd⟩ := paired_at pps hx
        have pom := List.mem_of_getElem? hpo
        have hp4 := s4 _ _ (wo_le hp).1
        refine ⟨p, _, rfl, SqT.of hp4, rfl, _, _, rfl, _, _, rfl, rfl, ?_⟩
        obtain ⟨kd, hd, tbd⟩ := id tabd
        have hd2 := (wo_le hd).1
        have hd4 := s4 _ _ hd2
        have ndt : t ≠ d := fun z => by rw [z, hd2] at ht; cases ht
        refine ⟨d, _, hd4, True.intro, fun od => ⟨_, rfl, d, od, rfl, .inl ⟨kd, upd_same, for_it walk_keys (fun j σ H5 => ∃ v4, σ = [some (.ref m), some (.ref tl), some (.ref a), v3, v4, some (.ref t), some (.ref d)] ∧ Same (upd H2 d (.frz od (.dK kd))) H5 ∧ TabU H5 t (maxUp po (tabUp (tablesM Pl) i) j) ∧ GW.keys (maxUp po (tabUp (tablesM Pl) i) j) = GW.keys Pl ∧ ∀ q ∈ maxUp po (tabUp (tablesM Pl) i) j, FrOk q.2)
          ⟨v4, rfl, ?_, ?_, k4, o4⟩ (fun j σ H5 _ hP => let ⟨_, _, s5, _⟩ := hP; s5 _ _ upd_same) (fun j x σ H5o H5 hj hP hY => ?_) (fun σ H5 hP => ?_)⟩⟩⟩
        · intro b o e
          by_cases c : b = d
          · rw [c, upd_same] at e ⊢; exact e
          · rw [upd_ne c] at e ⊢; exact s4 _ _ e
        · exact tab_upd tab4 (fun f z => by rw [hd4] at z; cases z) ndt
        · obtain ⟨v4, rfl, s5, tab5, k5, o5⟩ := hP
          obtain ⟨rfl, key, vd, hkv, rfl⟩ := hY
          obtain ⟨q, hq, ekey, _⟩ := tbd.at hkv
          simp only at ekey
          subst ekey
          have hn : (GW.keys po.2)[j]? = some q.1 := by rw [List.getElem?_map, hq]; rfl
          have hnP : q.1 ∈ GW.keys Pl := by rw [← kpo po pom]; exact List.mem_of_getElem? hn
          obtain ⟨fx, ex⟩ := look_some (l := maxUp po (tabUp (tablesM Pl) i) j) (k := q.1) (by rw [k5]; exact hnP)
          obtain ⟨fy, ey⟩ := look_some (l := po.2) (k := q.1) (List.mem_of_getElem? hn)
          have okx : FrOk fx := o5 _ (look_mem ex)
          have oky : FrOk fy := opo po pom _ (look_mem ey)
          obtain ⟨kt, ht5, tbt⟩ := id tab5
          obtain ⟨vx, gx, fvx⟩ := get_at (.inl ht5) tbt ex
          have hd5 : H5 d = some (.frz od (.dK kd)) := s5 _ _ upd_same
          obtain ⟨vy, gy, fvy⟩ := get_at (.inr ⟨od, hd5⟩) tbd ey
          have sx : Same (wo (wo H2 tl) d) H5 := fun b o e => by
            obtain ⟨e1, n1⟩ := wo_le e
            exact s5 b o (by rw [upd_ne n1]; exact (wo_le e1).1)
          have fvy5 := fvy.mono sx
          have stp := max_step po (tabUp (tablesM Pl) i) hn
          rw [maxAt_eq ex ey] at stp
          have hk5 : GW.keys (maxUp po (tabUp (tablesM Pl) i) (j + 1)) = GW.keys Pl := by rw [max_step po _ hn, maxAt_keys]; exact k5
          refine ⟨_, rfl, _, rfl, t, _, rfl, gx, _, rfl, _, rfl, d, _, rfl, gy, vx, vy, fx, fy, rfl, fvx.mono wo_to, fvy5, okx, oky, _, rfl, ite2 (fun c => ?_) (fun c => ?_)⟩
          · rw [if_pos c] at stp
            have lt : kt.length < sizeLine := by
              have h1 := tbt.len
              have h2 := congrArg List.length k5
              rw [List.length_map, List.length_map] at h2
              have h3 := ok.len
              exact small _ (by omega)
            refine ⟨_, rfl, _, rfl, d, vy, rfl, gy, _, rfl, _, rfl, t, _, rfl, DPut.k (k := Sum.inr q.1) ht5 lt, _, rfl, s_own s5 (by rw [upd_ne ndt]; exact ht), ?_, hk5, ?_⟩
            · rw [stp]
              refine ⟨_, upd_same, ?_⟩
              rw [wo_upd]
              refine tbt.put q.1 ?_
              obtain ⟨p', e1, e2⟩ := fvy5
              exact ⟨p', e1, wo_of e2 (ne_of e2 ht5 (by intro z; cases z))⟩
            · rw [stp]
              exact put_ok o5 oky
          · rw [if_neg c] at stp
            refine ⟨_, rfl, s5, ?_, hk5, ?_⟩
            · rw [stp]; exact tab5
            · rw [stp]; exact o5
        · obtain ⟨v4, rfl, s5, tab5, k5, o5⟩ := hP
          have hd5 : H5 d = some (.frz od (.dK kd)) := s5 _ _ upd_same
          have el : kd.length = (GW.keys po.2).length := by rw [tbd.len, List.length_map]
          rw [el, ← tabUp_step _ hpo] at tab5 k5 o5
          exact ⟨hd5, _, _, _, rfl, unlocked hd2 s5, tab_upd tab5 (fun f z => by rw [hd5] at z; cases z) ndt, k5, o5⟩
      · obtain ⟨v2, v4, v6, rfl, s4, tab4, k4, o4⟩ := hP
        have pl' : ps.length = (tablesM Pl).length := pps.length
        rw [pl', tabUp_all, W.tab] at tab4 k4
        refine ⟨_, rfl, tl, rfl, ⟨_, SqL.of (s4 _ _ hps)⟩, fun D hD => lc_it walk_list (fun i H5 => Same H4 H5 ∧ ∃ acc, H5 D = some (.lst acc) ∧ acc.length ≤ i ∧ ((∃ j po, j < i ∧ (tablesM Pl)[j]? = some po ∧ po.2 = tabW Pl val) → acc ≠ []))
          ⟨same_upd hD, [], upd_same, Nat.le_refl _, fun ⟨j, _, h, _⟩ => absurd h (Nat.not_lt_zero j)⟩ (fun i H5 _ hP => SqL.of (hP.1 _ _ (s4 _ _ hps))) (fun i x H5o H5 hi hP hY => ?_) (fun H5 hP => ?_)⟩
        · obtain ⟨s5, acc, hacc, lacc, nacc⟩ := hP
          obtain ⟨rfl, hx⟩ := hY
          obtain ⟨po, hpo, p, a, d, rfl, hp, tabd⟩ := paired_at pps hx
          have pom := List.mem_of_getElem? hpo
          have s25 := s4.trans s5
          have hp5 := s25 _ _ (wo_le hp).1
          have tabd5 : TabU H5 d po.2 := tabd.mono fun b o e => s25 _ _ (wo_le e).1
          have tab5 := tab4.mono s5
          obtain ⟨ks, ls, TE⟩ := tab_eq (K := K) tabd5 tab5 (by rw [kpo po pom]; exact ok.nd) (by rw [kpo po pom]; exact (tabW_keys Pl val).symm)
          refine ⟨p, _, rfl, SqT.of hp5, rfl, _, _, rfl, _, _, rfl, rfl, rfl, ?_⟩
          refine ⟨_, rfl, _, rfl, d, t, ks, ls, _, _, rfl, rfl, TE, _, rfl, ite2 (fun c => ?_) (fun c => ?_)⟩
          · have h2 := plans_small true ok Pl.length
            rw [List.take_length] at h2
            refine ⟨_, rfl, acc, hacc, small _ (by omega), s_own s5 hD, _, upd_same, ?_, fun _ => by simp⟩
            rw [List.length_append, List.length_singleton]; omega
          · refine ⟨s5, acc, hacc, by omega, fun ⟨j, po', h1, h2, h3⟩ => ?_⟩
            by_cases cj : j < i
            · exact nacc ⟨j, po', cj, h2, h3⟩
            · have ej : j = i := by omega
              rw [ej, hpo] at h2
              cases h2
              refine absurd ?_ c
              rw [h3]
              exact tab_same (l := tabW Pl val) ks
        · obtain ⟨s5, acc, hacc, lacc, nacc⟩ := hP
          have acne : acc ≠ [] := by
            obtain ⟨po, h1, h2⟩ := W.got
            obtain ⟨j, hj, ej⟩ := List.mem_iff_getElem.mp h1
            exact nacc ⟨j, po, by rw [pl']; exact hj, by rw [List.getElem?_eq_getElem hj, ej], h2⟩
          obtain ⟨y, r, ey⟩ := List.exists_cons_of_ne_nil acne
          refine ⟨D, acc, 0, y, rfl, rfl, SqL.of hacc, atI_nat (j := 0) (by rw [ey]; rfl), _, rfl, by show 2 ≤ sizeLine; decide, fun T hT => ?_⟩
          have s6 := s5.trans (same_upd (o := .tup [y, .ref t]) hT)
          exact k _ T y t ((sH2.trans s4).trans s6) htH upd_same (tab4.mono s6)
end
end Gw

set_option Elab.async false
set_option linter.all false
set_option maxRecDepth 100000
set_option maxHeartbeats 4000000
namespace Gw
open PySem PySem.Spec PyProof.Rows L2 GW
theorem frD_eq (f g : Fr) : PyData.eqv (frD f) (frD g) = decide (f = g) := by
  obtain ⟨a, b⟩ := f
  obtain ⟨c, d⟩ := g
  show PyData.eqv (.tuple [.int a, .int b]) (.tuple [.int c, .int d]) = _
  simp [PyData.eqv, PyData.eqvAll, Bool.beq_eq_decide_eq]
section
variable {P : Program} {w : World} {K : PySem.W.Frag} {mg : Str → Option Value} {base : Heap}
/-- the defs that plan_of_best reaches -/
structure DB (K : PySem.W.Frag) (mg : Str → Option Value) (C : Addr) where
  best : Df K mg "plan_of_best" sBest ["means"]
  plans : Df K mg "whole_plans" sPlans ["means", "side"]
  kept : Df K mg "steps_kept" sKept ["means", "side", "plan"]
  least : Df K mg "least_round" sLeast ["steps", "name"]
  less : Df K mg "is_less" sLess ["one", "other"]
  places : Dm K C "places" "Means.places" sPlaces ["self"]
  walks : Df K mg "walks" sWalks ["steps", "name"]
  low : Df K mg "lowest" sLowest ["top", "bottom"]
  worths : Df K mg "mean_worths" sWorths ["means"]
  check : Dm K C "check_place" "Means.check_place" sCheck ["self", "name"]
/-! ### mean_worths -/
def spWorths (C : Addr) : Sp := fun vs H Q _ => ∃ (m : Addr) (Pl : Plan Str) (val : Str → Fr), vs = [.ref m] ∧ MeansAt C H m Pl ∧ PlOk Pl ∧ Worth Pl val ∧ ∀ H' t, Same H H' → H t = none → TabU H' t (tabW Pl val) → Q (.ref t) H'
theorem scWorths : FnScope ["means"] ["means"] (defScope sWorths) := ⟨rfl, rfl, rfl, by decide +kernel, rfl, by decide +kernel, by decide +kernel⟩
theorem ok_worths {C : Addr} (D : DB K mg C) (M : Mcl K mg C) (B : Blt mg) : FnOk P w K mg base CX0 4 D.worths.f D.worths.fd ["means"] (spWorths C) := by
  have GB : FnOk P w K mg base CX0 3 D.best.f D.best.fd ["means"] (spBest C) := ok_best D.best D.plans D.kept D.least D.less D.places D.walks D.low M B
  refine D.worths.F.ok scWorths (fun vs H Q E h => ?_) (fun cdv A outer s H vs Q E hr h => ?_)
  · obtain ⟨m, Pl, val, rfl, _⟩ := h
    rfl
  · obtain ⟨m, Pl, val, rfl, MA, ok, W, k⟩ := h
    refine ⟨_, pss_one (ps_ret (pe_ix ix_tup (pe_call GB hr rfl D.best.m D.best.F.kp D.best.b .nil pass0 (pa_cons (pv 0) pa_nil)) pe_int (fun _ _ => rfl))), ?_⟩
    refine ⟨_, rfl, m, Pl, val, rfl, MA, ok, W, fun H' T x t s1 ht hT tab => ?_⟩
    exact ⟨T, _, _, _, rfl, rfl, SqT.of hT, pr_1, k H' t s1 ht tab⟩
/-! ### mean_worth -/
theorem tabW_look {Pl : Plan Str} {val : Str → Fr} {n : Str} (h : n ∈ GW.keys Pl) : GW.look n (tabW Pl val) = some (val n) := by
  unfold tabW
  rw [GW.look_map (fun p : Str × (Bool × Row Str) => val p.1) n Pl]
  obtain ⟨x, hx⟩ := look_some h
  rw [hx]; rfl
def spWorth (C : Addr) : Sp := fun vs H Q _ => ∃ (m : Addr) (n : Str) (Pl : Plan Str) (val : Str → Fr), vs = [.ref m, .str n] ∧ MeansAt C H m Pl ∧ PlOk Pl ∧ Worth Pl val ∧ n ∈ GW.keys Pl ∧ ∀ H' v, Same H H' → FrV H' v (val n) → Q v H'
theorem scWorth : FnScope ["means", "name"] ["means", "name"] (defScope sWorth) := ⟨rfl, rfl, rfl, by decide +kernel, rfl, by decide +kernel, by decide +kernel⟩
theorem ok_worth {C : Addr} (DW : Df K mg "mean_worth" sWorth ["means", "name"]) (D : DB K mg C) (M : Mcl K mg C) (B : Blt mg) : FnOk P w K mg base CX0 5 DW.f DW.fd ["means", "name"] (spWorth C) := by
  have GW5 : FnOk P w K mg base CX0 4 D.worths.f D.worths.fd ["means"] (spWorths C) := ok_worths D M B
  have GC : FnOk P w K mg base CX0 1 D.check.f D.check.fd ["self", "name"] (spCheck C) := ok_check D.check.F M B
  refine DW.F.ok scWorth (fun vs H Q E h => ?_) (fun cdv A outer s H vs Q E hr h => ?_)
  · obtain ⟨m, n, Pl, val, rfl, _⟩ := h
    rfl
  · obtain ⟨m, n, Pl, val, rfl, MA, ok, W, hn, k⟩ := h
    have hu := hu_of hr
    have hr1 : Room 1 _ := hr.mono (by decide)
    refine ⟨_, pss_cons (ps_expr (pe_meth (pv 0) M.cl D.check.mt GC hr1 D.check.b .nil pass0 (pa_cons (pv 1) pa_nil)))
      (pss_one (ps_ret (pe_dget hu (pe_call GW5 hr rfl D.worths.m D.worths.F.kp D.worths.b .nil pass0 (pa_cons (pv 0) pa_nil)) (pv 1) (fun _ _ => rfl)))), ?_⟩
    obtain ⟨dx, d, hm, PU⟩ := id MA
    refine ⟨_, rfl, m, dx, _, rfl, hm, mf_no d (by decide +kernel), _, rfl, m, n, Pl, rfl, MA, hn, ?_⟩
    refine ⟨_, rfl, m, Pl, val, rfl, MA, ok, W, fun H' t s1 ht tab => ?_⟩
    obtain ⟨p, g, hp⟩ := tab.r.get (tabW_look (val := val) hn)
    exact ⟨_, rfl, t, _, rfl, g, k H' (.ref p) s1 ⟨p, rfl, hp⟩⟩
/-! ### best_steps -/
def fineM (val : Str → Fr) (row : Row Str) (n : Str) : List Str := (row.filter fun m => decide (val m.2.1 = val n)).map (·.1)
theorem fine_step (val : Str → Fr) (n : Str) {l : Row Str} {j : Nat} {mv : Str × (Str × Int)} (h : l[j]? = some mv) : fineM val (l.take (j + 1)) n = fineM val (l.take j) n ++ (if decide (val mv.2.1 = val n) = true then [mv.1] else []) := by
  unfold fineM
  rw [List.take_add_one, h, List.filter_append, List.map_append]
  congr 1
  show List.map (·.1) (List.filter (fun m : Str × (Str × Int) => decide (val m.2.1 = val n)) [mv]) = _
  by_cases c : val mv.2.1 = val n <;> simp [c]
def spSteps (C : Addr) : Sp := fun vs H Q _ => ∃ (m : Addr) (n : Str) (Pl : Plan Str) (val : Str → Fr) (p : Bool × Row Str), vs = [.ref m, .str n] ∧ MeansAt C H m Pl ∧ PlOk Pl ∧ Worth Pl val ∧ (n, p) ∈ Pl ∧ ∀ H' l, Same H H' → H l = none → H' l = some (.lst ((fineM val p.2 n).map V.str)) → Q (.ref l) H'
theorem scSteps : FnScope ["means", "name", "table", "moves", "move"] ["means", "name"] (defScope sSteps) := ⟨rfl, rfl, rfl, by decide +kernel, rfl, by decide +kernel, by decide +kernel⟩
theorem ok_steps {C : Addr} (DS : Df K mg "best_steps" sSteps ["means", "name"]) (D : DB K mg C) (M : Mcl K mg C) (B : Blt mg) : FnOk P w K mg base CX0 5 DS.f DS.fd ["means", "name"] (spSteps C) := by
  have GW5 : FnOk P w K mg base CX0 4 D.worths.f D.worths.fd ["means"] (spWorths C) := ok_worths D M B
  have GC : FnOk P w K mg base CX0 1 D.check.f D.check.fd ["self", "name"] (spCheck C) := ok_check D.check.F M B
  refine DS.F.ok scSteps (fun vs H Q E h => ?_) (fun cdv A outer s H vs Q E hr h => ?_)
  · obtain ⟨m, n, Pl, val, p, rfl, _⟩ := h
    rfl
  · obtain ⟨m, n, Pl, val, pp, rfl, MA, ok, W, hn, k⟩ := h
    have hu := hu_of hr
    have hu64 : (A.deeper (envOfC (Str.ofString "best_steps") (defScope sSteps) s.heap.objs.size DS.f cdv)).units + 64 < cLine := hr.units
    have hr1 : Room 1 _ := hr.mono (by decide)
    refine ⟨_, pss_cons (ps_expr (pe_meth (pv 0) M.cl D.check.mt GC hr1 D.check.b .nil pass0 (pa_cons (pv 1) pa_nil)))
      (pss_cons (ps_asg (pe_tup (pa_cons (pe_call GW5 hr rfl D.worths.m D.worths.F.kp D.worths.b .nil pass0 (pa_cons (pv 0) pa_nil)) (pa_cons (pe_ix ix_tup (pe_dget hu (pe_fld (pv 0) rfl) (pv 1) (fun _ _ => rfl)) pe_int (fun _ _ => rfl)) pa_nil)))
        (pg_tup (by rfl) (pgs_cons (pg_name (i := 2) scSteps.nd rfl (.inr rfl)) (pgs_cons (pg_name (i := 3) scSteps.nd rfl (.inr rfl)) pgs_nil))))
      (pss_one (ps_ret (pe_lock (pe_lc (own := [("move", 4)]) (g := gName 4) (by rfl) scSteps.nd (pi_keys (pv 3)) (blkOk_by (N := ["means", "name", "table", "moves", "move"]) (sc := defScope sSteps) (by decide +kernel))
        (fun _ _ _ _ _ => pg_name (i := 4) scSteps.nd rfl (Or.inl rfl))
        (fun _ _ _ _ _ => pts_one (pt_cmpR (r := rEqD K) (op_eqD hu64) (pe_dget hu (pv 2) (pe_ix (r := rIxT K) ix_tup (pe_dget hu (pv 3) (pv 4) (fun _ _ => rfl)) pe_int (fun _ _ => rfl)) (fun _ _ => rfl)) (pe_dget hu (pv 2) (pv 1) (fun _ _ => rfl)) (nomark _)))
        (fun _ _ _ _ _ => pv 4)))))), ?_⟩
    obtain ⟨dx, d, hm, PU⟩ := id MA
    have hnk : n ∈ GW.keys Pl := List.mem_map_of_mem (f := (·.1)) hn
    refine ⟨_, rfl, m, dx, _, rfl, hm, mf_no d (by decide +kernel), _, rfl, m, n, Pl, rfl, MA, hnk, ?_⟩
    refine ⟨_, rfl, m, Pl, val, rfl, MA, ok, W, fun H1 t s1 ht tab => ?_⟩
    obtain ⟨tp, dr, kvr, g0, htp, hdr, ndr, tr⟩ := (PU.mono s1).r.get (look_P ok.wf hn)
    refine ⟨_, rfl, m, C, dx, _, _, rfl, s1 _ _ hm, M.cl, M.nT, mf_at d, _, rfl, d, .ref tp, rfl, g0, tp, _, _, _, rfl, rfl, SqT.of htp, pr_1, ?_⟩
    refine ⟨by show 2 ≤ sizeLine; decide, fun q hq => ?_⟩
    have s2 : Same H1 (upd H1 q (.tup [.ref t, .ref dr])) := same_upd hq
    have hq2 : (upd H1 q (.tup [.ref t, .ref dr])) q = some (.tup [.ref t, .ref dr]) := upd_same
    have tab2 := tab.mono s2
    have hdr2 := s2 _ _ hdr
    have trH : Tb (MvV (wo H1 d)) kvr pp.2 := tr
    have tr2 := trH.mono fun _ _ r => r.mono (wo_same s2)
    generalize upd H1 q (.tup [.ref t, .ref dr]) = H2 at s2 hq2 tab2 hdr2 tr2 ⊢
    refine ⟨q, _, rfl, SqT.of hq2, rfl, _, _, rfl, _, _, rfl, rfl, ?_⟩
    have ntd : t ≠ dr := fun z => by
      have h1 : (kvr.map (·.1)) = (GW.keys pp.2).map Sum.inr := trH.keys
      obtain ⟨kt, e1, tt⟩ := tab2
      rw [z, hdr2] at e1
      have e2 := HO.dK.inj (Option.some.inj e1)
      obtain ⟨mv, r, em⟩ := List.exists_cons_of_ne_nil (ok.row (n, pp) hn).1
      have em' : pp.2 = mv :: r := em
      rw [em'] at tr2
      obtain ⟨kv, g1, _, pm, g2, g3⟩ := tr2.at' (i := 0) rfl
      rw [e2] at g1
      obtain ⟨pf, _, _, pa, g5, g6⟩ := tt.at g1
      rw [g5] at g2
      cases g2
      have g7 := (wo_le g3).1
      rw [(wo_le g6).1] at g7
      cases g7
    have row := ok.row (n, pp) hn
    refine ⟨dr, _, hdr2, True.intro, fun od => ⟨_, rfl, dr, od, rfl, .inl ⟨kvr, upd_same, fun D hD => lc_it walk_keys (fun j H5 => Same (upd H2 dr (.frz od (.dK kvr))) H5 ∧ H5 D = some (.lst ((fineM val (pp.2.take j) n).map V.str)))
      ⟨same_upd hD, upd_same⟩ (fun j H5 _ hP => hP.1 _ _ upd_same) (fun j x H5o H5 hj hP hY => ?_) (fun H5 hP => ?_)⟩⟩⟩
    · obtain ⟨s5, d5⟩ := hP
      obtain ⟨rfl, key, vm, hkv, rfl⟩ := hY
      obtain ⟨mv, hmv, ekey, pm, evm, hpm⟩ := tr2.at hkv
      simp only at ekey evm
      subst ekey evm
      have hmem := List.mem_of_getElem? hmv
      obtain ⟨_, _, rnd, rok⟩ := id row
      obtain ⟨_, _, hin⟩ := rok mv hmem
      have hpm2 := (wo_le hpm).1
      have hpm5 := s5 pm _ (by rw [upd_ne (ne_of hpm2 hdr2 (by intro z; cases z))]; exact hpm2)
      have tab5 : TabU H5 t (tabW Pl val) := by
        have h1 : TabU (upd H2 dr (.frz od (.dK kvr))) t (tabW Pl val) := tab_upd tab2 (fun f z => by rw [hdr2] at z; cases z) ntd
        exact h1.mono s5
      obtain ⟨p1, g1, f1⟩ := tab5.r.get (tabW_look (val := val) hin)
      obtain ⟨p2, g2, f2⟩ := tab5.r.get (tabW_look (val := val) hnk)
      have gm : DGet H5 dr (.str mv.1) (some (.ref pm)) := by
        obtain ⟨v, q1, q2⟩ := tr2.look (look_of_mem rnd hmem)
        have := valV_at (by rw [trH.keys]; exact List.Pairwise.map _ (fun x y h z => h (Sum.inr.inj z)) rnd) hkv
        exact .inl ⟨kvr, Sum.inr mv.1, .inr ⟨od, s5 _ _ upd_same⟩, rfl, this.symm⟩
      have stp := fine_step val n hmv
      refine ⟨rfl, _, rfl, _, rfl, _, rfl, dr, _, rfl, gm, pm, _, _, _, rfl, rfl, SqT.of hpm5, pr_0, t, .ref p1, rfl, g1, _, rfl, _, rfl, t, .ref p2, rfl, g2, frD (val mv.2.1), frD (val n), FrV.dp ⟨p1, rfl, f1⟩, FrV.dp ⟨p2, rfl, f2⟩, frD_sh _, frD_sh _, _, rfl, ?_⟩
      rw [frD_eq]
      refine ite2 (fun c => ?_) (fun c => ?_)
      · refine ⟨_, rfl, _, d5, ?_, s_own s5 hD, ?_⟩
        · have h1 : pp.2.length ≤ 3 := row.2.1
          have h2 := List.length_filter_le (fun m : Str × (Str × Int) => decide (val m.2.1 = val n)) (pp.2.take j)
          rw [List.length_map]
          unfold fineM
          rw [List.length_map]
          rw [List.length_take] at h2
          exact small _ (by omega)
        · rw [upd_same, stp, if_pos c, List.map_append]; rfl
      · refine ⟨s5, ?_⟩
        rw [stp, if_neg c, List.append_nil]
        exact d5
    · obtain ⟨s5, d5⟩ := hP
      have lk : kvr.length = pp.2.length := trH.len
      rw [lk, List.take_length] at d5
      have nD : D ≠ dr := fun z => by rw [z, upd_same] at hD; cases hD
      have hD2 : H2 D = none := by rw [upd_ne nD] at hD; exact hD
      refine ⟨s5 _ _ upd_same, k _ D ((s1.trans s2).trans (unlocked hdr2 s5)) ((s1.trans s2).free hD2) ?_⟩
      rw [upd_ne nD]; exact d5
end
end Gw

set_option Elab.async false
set_option linter.all false
set_option maxRecDepth 100000
set_option maxHeartbeats 4000000
namespace Gw
open PySem PySem.Spec PyProof.Rows L2 GW
/-! ### the stream of draws: a list [cells, word, count, state] -/
structure Strm (H : Hp) (st c : Addr) (k : Nat) : Prop where
  ok : ∃ (ns : List Int) (a b e : Int), H st = some (.lst [.ref c, .int a, .int b, .int e]) ∧ H c = some (.lst (ns.map V.int)) ∧ 0 ≤ b ∧ b ≤ k ∧ 0 ≤ e ∧ e < 2147483647
theorem Strm.le {H : Hp} {st c : Addr} {j k : Nat} (h : Strm H st c j) (l : j ≤ k) : Strm H st c k := let ⟨ns, a, b, e, h1, h2, h3, h4, h5⟩ := h.ok; ⟨ns, a, b, e, h1, h2, h3, by omega, h5⟩
theorem Strm.mono {H H' : Hp} {st c : Addr} {k : Nat} (h : Strm H st c k) (s : Same H H') : Strm H' st c k := let ⟨ns, a, b, e, h1, h2, h3⟩ := h.ok; ⟨ns, a, b, e, s _ _ h1, s _ _ h2, h3⟩
theorem strm_int {ns : List Int} {a b e : Int} {c : Addr} (h : [V.ref c, .int a, .int b, .int e] = ns.map V.int) : False := by
  cases ns with
  | nil => cases h
  | cons n r =>
    rw [List.map_cons] at h
    injection h with h _
    cases h
/-- all but the stream stands -/
def SameS (st c : Addr) (H H' : Hp) : Prop := ∀ b o, b ≠ st → b ≠ c → H b = some o → H' b = some o
theorem SameS.refl {st c : Addr} {H : Hp} : SameS st c H H := fun _ _ _ _ e => e
theorem SameS.trans {st c : Addr} {H H1 H2 : Hp} (s : SameS st c H H1) (t : SameS st c H1 H2) : SameS st c H H2 := fun b o n m e => t b o n m (s b o n m e)
theorem Same.ss {st c : Addr} {H H' : Hp} (s : Same H H') : SameS st c H H' := fun b o _ _ e => s b o e
/-- the heap without the stream -/
def ws (H : Hp) (st c : Addr) : Hp := wo (wo H st) c
theorem ws_le {H : Hp} {st c b : Addr} {o : HO} (e : ws H st c b = some o) : H b = some o ∧ b ≠ st ∧ b ≠ c := ⟨(wo_le (wo_le e).1).1, (wo_le (wo_le e).1).2, (wo_le e).2⟩
theorem ws_of {H : Hp} {st c b : Addr} {o : HO} (e : H b = some o) (n : b ≠ st) (m : b ≠ c) : ws H st c b = some o := wo_of (wo_of e n) m
theorem SameS.ws {st c : Addr} {H H' : Hp} (s : SameS st c H H') : Same (ws H st c) (ws H' st c) := fun b o e => by
  obtain ⟨e1, n, m⟩ := ws_le e
  exact ws_of (s b o n m e1) n m
theorem ws_to {st c : Addr} {H : Hp} : Same (ws H st c) H := fun _ _ e => (ws_le e).1
theorem Strm.ne {H : Hp} {st c : Addr} {k : Nat} (h : Strm H st c k) : st ≠ c := by
  obtain ⟨ns, a, b, e, h1, h2, _⟩ := h.ok
  intro z
  rw [z, h2] at h1
  have q := HO.lst.inj (Option.some.inj h1)
  exact strm_int q.symm
/-- no new object lies where the stream lies -/
theorem Strm.fresh {H : Hp} {st c p : Addr} {k : Nat} (h : Strm H st c k) (hp : H p = none) : p ≠ st ∧ p ≠ c := by
  obtain ⟨ns, a, b, e, h1, h2, _⟩ := h.ok
  exact ⟨fun z => (by rw [z, h1] at hp; cases hp), fun z => (by rw [z, h2] at hp; cases hp)⟩
/-- the stream, its parts named -/
structure St4 (H : Hp) (st c : Addr) (ns : List Int) (a b e : Int) : Prop where
  one : H st = some (.lst [.ref c, .int a, .int b, .int e])
  two : H c = some (.lst (ns.map V.int))
theorem dp_ints {K : PySem.W.Frag} {H : Hp} : ∀ ns : List Int, DpAll K H (ns.map V.int) (ns.map PyData.int)
  | [] => .nil
  | n :: r => .cons (.int n) (dp_ints r)
theorem sh_ints (ns : List Int) : SeqAt.shaped (.list (ns.map PyData.int)) = true := by
  have h : ∀ ns : List Int, PyData.canLayAll0 (ns.map PyData.int) = true ∧ PyData.depthAll (ns.map PyData.int) = 0 := by
    intro ns
    induction ns with
    | nil => exact ⟨rfl, rfl⟩
    | cons n r ih =>
      refine ⟨?_, ?_⟩
      · rw [List.map_cons, PyData.canLayAll0, ih.1]; rfl
      · rw [List.map_cons, PyData.depthAll, ih.2]; rfl
  unfold SeqAt.shaped
  rw [PyData.canLay0, PyData.depth, (h ns).1, (h ns).2]
  rfl
theorem seq0 (x : V) (r : List V) : seqIndex? 0 (x :: r).length = some 0 := (ixN_seq (by unfold ixN; rw [if_pos (by decide), if_pos (by rw [List.length_cons]; omega)]; rfl)).1
theorem ne_nil (ns : List Int) : (!PyData.eqv (.list (ns.map PyData.int)) (.list [])) = decide (ns ≠ []) := by
  cases ns with
  | nil => rfl
  | cons n r => rfl
/-- what is done is cut in two: all that comes after is shown of what I says -/
theorem seq_cut {a b : TS} {D : Ends} {σ : L2.St} {H : Hp} (I : L2.St → Hp → Prop) (h1 : ∀ N : L2.St → Hp → Prop, (∀ σ' H', I σ' H' → N σ' H') → a { D with nx := N } σ H) (h2 : ∀ σ' H', I σ' H' → b D σ' H') : tSeq a b D σ H := h1 _ h2
section
variable {P : Program} {w : World} {K : PySem.W.Frag} {mg : Str → Option Value} {base : Heap}
/-! ### _law_start -/
def spStart (K : PySem.W.Frag) : Sp := fun vs H Q _ => ∃ (l : Addr) (ns : List Int), vs = [.ref l] ∧ SqL K H l (ns.map V.int) ∧ ∀ H' st c, Same H H' → Strm H' st c 0 → H st = none → H c = none → Q (.ref st) H'
theorem scStart : FnScope ["_law_script"] ["_law_script"] (defScope sStart) := ⟨rfl, rfl, rfl, by decide +kernel, rfl, by decide +kernel, by decide +kernel⟩
theorem ok_start (D : Df K mg "_law_start" sStart ["_law_script"]) (B : Blt mg) : FnOk P w K mg base CX0 1 D.f D.fd ["_law_script"] (spStart K) := by
  refine D.F.ok scStart (fun vs H Q E h => ?_) (fun cdv A outer s H vs Q E hr h => ?_)
  · obtain ⟨l, ns, rfl, _⟩ := h
    rfl
  · obtain ⟨l, ns, rfl, hl, k⟩ := h
    refine ⟨_, pss_one (ps_ret (pe_lst (pa_cons (pe_callTy call_list_of (by rfl) B.list PyProof.Rows.boot_list (pa_cons (pv 0) pa_nil)) (pa_cons pe_int (pa_cons pe_int (pa_cons pe_int pa_nil)))))), ?_⟩
    refine ⟨_, rfl, l, _, rfl, .inl hl, fun c hc => ⟨by show 4 ≤ sizeLine; decide, fun st hst => ?_⟩⟩
    have ncs : c ≠ st := fun z => by rw [← z, upd_same] at hst; cases hst
    refine k _ st c ((same_upd hc).trans (same_upd hst)) ⟨ns, 0, 0, 11, upd_same, by rw [upd_ne ncs, upd_same], by decide, by decide, by decide, by decide⟩ ?_ hc
    rw [upd_ne ncs.symm] at hst; exact hst
/-! ### _law_draw -/
def spDraw : Sp := fun vs H Q _ => ∃ (st c : Addr) (many : Int) (k : Nat), vs = [.ref st, .int many] ∧ Strm H st c k ∧ 0 < many ∧ many < 2 ^ 62 ∧ k ≤ 100000 ∧ ∀ H' r, 0 ≤ r → r < many → SameS st c H H' → Strm H' st c (k + 1) → Q (.int r) H'
theorem scDraw : FnScope ["_law_stream", "_law_many", "_law_cell", "_law_digit", "_law_mixed_here"] ["_law_stream", "_law_many"] (defScope sDraw) := ⟨rfl, rfl, rfl, by decide +kernel, rfl, by decide +kernel, by decide +kernel⟩
theorem ok_draw (D : Df K mg "_law_draw" sDraw ["_law_stream", "_law_many"]) (B : Blt mg) : FnOk P w K mg base CX0 1 D.f D.fd ["_law_stream", "_law_many"] spDraw := by
  refine D.F.ok scDraw (fun vs H Q E h => ?_) (fun cdv A outer s H vs Q E hr h => ?_)
  · obtain ⟨st, c, many, k, rfl, _⟩ := h
    rfl
  · obtain ⟨st, c, many, kk, rfl, S, m0, m1, hkk, k⟩ := h
    have hu := hu_of hr
    have hu64 : (A.deeper (envOfC (Str.ofString "_law_draw") (defScope sDraw) s.heap.objs.size D.f cdv)).units + 64 < cLine := hr.units
    refine ⟨_, pss_cons (ps_asg (pe_op op_add (pe_ix ix_list (pv 0) pe_int (fun _ _ => rfl)) pe_int) (pg_sub (pv 0) pe_int set_list))
      (pss_cons (ps_if (PW.pt (pw_and (pt_cmpR op_eq (pe_ix ix_list (pv 0) pe_int (fun _ _ => rfl)) pe_int (nomark _)) (pw_and1 (pt_cmpR (op_neD hu64) (pe_ix ix_list (pv 0) pe_int (fun _ _ => rfl)) (pe_lst pa_nil) (nomark _)))))
        (pss_cons (ps_set (i := 2) scDraw.nd rfl (.inl rfl) (pe_bm PySem.F.plainAttrs_list PySem.F.slot_list_pop PySem.F.type_list_pop mt_popAt (pe_ix ix_list (pv 0) pe_int (fun _ _ => rfl)) (pa_cons pe_int pa_nil)))
        (pss_cons (ps_asg (pe_op op_mod (pe_callTy call_int1 (by rfl) B.int PyProof.Rows.boot_int (pa_cons (pe_op op_add (pe_op op_add (pe_op op_mul (pe_ix ix_list (pv 0) pe_int (fun _ _ => rfl)) pe_int) (pv 2)) pe_int) pa_nil)) pe_int) (pg_sub (pv 0) pe_int set_list))
        (pss_one (ps_asg (pe_ifExp (pt_cmpR op_ge (pv 2) (pe_op op_pow pe_int pe_int) (nomark _)) (pv 2) pe_int) (pg_sub (pv 0) pe_int set_list))))) pss_nil)
      (pss_cons (ps_if (pt_cmpR op_gt (pe_ix ix_list (pv 0) pe_int (fun _ _ => rfl)) pe_int (nomark _))
        (pss_cons (ps_set (i := 3) scDraw.nd rfl (.inl rfl) (pe_op op_mod (pe_callTy call_int1 (by rfl) B.int PyProof.Rows.boot_int (pa_cons (pe_ix ix_list (pv 0) pe_int (fun _ _ => rfl)) pa_nil)) (pv 1)))
        (pss_cons (ps_asg (pe_op op_fdivW (pe_ix ix_list (pv 0) pe_int (fun _ _ => rfl)) (pv 1)) (pg_sub (pv 0) pe_int set_list))
        (pss_one (ps_ret (pv 3))))) pss_nil)
      (pss_cons (ps_set (i := 4) scDraw.nd rfl (.inl rfl) (pe_op op_mod (pe_callTy call_int1 (by rfl) B.int PyProof.Rows.boot_int (pa_cons (pe_op op_pow (pe_op op_add (pe_op op_add (pe_ix ix_list (pv 0) pe_int (fun _ _ => rfl)) (pe_op op_mul pe_int (pe_ix ix_list (pv 0) pe_int (fun _ _ => rfl)))) pe_int) pe_int) pa_nil)) pe_int))
      (pss_one (ps_ret (pe_op op_mod (pe_op op_mod (pe_callTy call_int1 (by rfl) B.int PyProof.Rows.boot_int (pa_cons (pe_op op_pow (pe_op op_add (pe_op op_add (pe_op op_mul (pv 4) pe_int) (pe_op op_mul pe_int (pe_ix ix_list (pv 0) pe_int (fun _ _ => rfl)))) pe_int) pe_int) pa_nil)) pe_int) (pv 1))))))), ?_⟩
    obtain ⟨ns, a, b, e, hst, hc, b0, bk, e0, e1⟩ := S.ok
    have nsc := S.ne
    -- the count goes up
    refine ⟨_, rfl, st, _, 2, .int b, rfl, rfl, SqL.of hst, atI_nat (j := 2) rfl, _, _, rfl, rfl, _, rfl, st, _, 2, 2, rfl, rfl, hst, rfl, ?_⟩
    have s1 : SameS st c H (upd H st (.lst ([.ref c, .int a, .int b, .int e].set 2 (.int (b + 1))))) := fun x o n m q => by rw [upd_ne n]; exact q
    have q1 : St4 (upd H st (.lst ([.ref c, .int a, .int b, .int e].set 2 (.int (b + 1))))) st c ns a (b + 1) e := ⟨upd_same, by rw [upd_ne nsc.symm]; exact hc⟩
    generalize upd H st (.lst ([.ref c, .int a, .int b, .int e].set 2 (.int (b + 1)))) = H1 at s1 q1 ⊢
    dsimp only
    refine seq_cut (a := tIfS _ _ _) (fun σ2 H2 => ∃ v2 ns' a' e', σ2 = [some (.ref st), some (.int many), v2, none, none] ∧ SameS st c H H2 ∧ St4 H2 st c ns' a' (b + 1) e' ∧ 0 ≤ e' ∧ e' < 2147483647) (fun N hN => ?_) (fun σ2 H2 hP => ?_)
    · refine ⟨_, rfl, st, _, 1, .int a, rfl, rfl, SqL.of q1.one, atI_nat (j := 1) rfl, rfl, _, rfl, ite2 (fun c1 => ?_) (fun c1 => ?_)⟩
      · refine ⟨_, rfl, st, _, 0, .ref c, rfl, rfl, SqL.of q1.one, atI_nat (j := 0) rfl, by show 0 ≤ sizeLine; decide, fun p hp => ?_⟩
        have nps : st ≠ p := ne_of_none q1.one hp
        have npc : c ≠ p := ne_of_none q1.two hp
        have s2 : SameS st c H (upd H1 p (.lst [])) := s1.trans (Same.ss (same_upd hp))
        have q2 : St4 (upd H1 p (.lst [])) st c ns a (b + 1) e := ⟨by rw [upd_ne nps]; exact q1.one, by rw [upd_ne npc]; exact q1.two⟩
        have hp2 : (upd H1 p (.lst [])) p = some (.lst []) := upd_same
        generalize upd H1 p (.lst []) = H2 at s2 q2 hp2 ⊢
        refine ⟨.list (ns.map PyData.int), .list [], .lst (SqL.of q2.two) (dp_ints ns), .lst (SqL.of hp2) .nil, sh_ints ns, rfl, _, rfl, ?_⟩
        rw [ne_nil]
        refine ite2 (fun c2 => ?_) (fun c2 => ?_)
        · have nn : ns ≠ [] := of_decide_eq_true c2
          obtain ⟨n0, r, rfl⟩ := List.exists_cons_of_ne_nil nn
          refine ⟨_, rfl, st, _, 0, .ref c, rfl, rfl, SqL.of q2.one, atI_nat (j := 0) rfl, .inl ⟨rfl, _, SqL.of q2.two⟩, c, _, 0, 0, .int n0, rfl, rfl, q2.two, by decide, by decide, seq0 _ _, rfl, ?_⟩
          have s3 : SameS st c H (upd H2 c (.lst (((n0 :: r).map V.int).eraseIdx 0))) := fun x o n m q => by rw [upd_ne m]; exact s2 x o n m q
          have q3 : St4 (upd H2 c (.lst (((n0 :: r).map V.int).eraseIdx 0))) st c r a (b + 1) e := ⟨by rw [upd_ne nsc]; exact q2.one, upd_same⟩
          generalize upd H2 c (.lst (((n0 :: r).map V.int).eraseIdx 0)) = H3 at s3 q3 ⊢
          refine ⟨_, rfl, st, _, 3, .int e, rfl, rfl, SqL.of q3.one, atI_nat (j := 3) rfl, _, _, rfl, rfl, .inr ⟨by decide, by decide⟩, _, rfl, _, _, rfl, rfl, _, _, rfl, rfl, .inl ⟨_, rfl, _, _, rfl, rfl, by show (0 : Int) < 2147483647; decide, _, rfl, st, _, 3, 3, rfl, rfl, q3.one, rfl, ?_⟩⟩
          dsimp only
          have em0 : 0 ≤ (e * 8191 + n0 + 3) % 2147483647 := Int.emod_nonneg _ (by decide)
          have em1 : (e * 8191 + n0 + 3) % 2147483647 < 2147483647 := Int.emod_lt_of_pos _ (by decide)
          generalize (e * 8191 + n0 + 3) % 2147483647 = e' at em0 em1 ⊢
          have s4 : SameS st c H (upd H3 st (.lst ([.ref c, .int a, .int (b + 1), .int e].set 3 (.int e')))) := fun x o n m q => by rw [upd_ne n]; exact s3 x o n m q
          have q4 : St4 (upd H3 st (.lst ([.ref c, .int a, .int (b + 1), .int e].set 3 (.int e')))) st c r a (b + 1) e' := ⟨upd_same, by rw [upd_ne nsc.symm]; exact q3.two⟩
          generalize upd H3 st (.lst ([.ref c, .int a, .int (b + 1), .int e].set 3 (.int e'))) = H4 at s4 q4 ⊢
          have fin : ∀ a' : Int, ∃ p xs k j, V.ref st = V.ref p ∧ V.int 1 = V.int k ∧ H4 p = some (.lst xs) ∧ ixN xs.length k = some j ∧ N [some (.ref st), some (.int many), some (.int n0), none, none] (upd H4 p (.lst (xs.set j (.int a')))) := fun a' => by
            refine ⟨st, _, 1, 1, rfl, rfl, q4.one, rfl, hN _ _ ⟨_, r, a', e', rfl, ?_, ?_, em0, em1⟩⟩
            · exact fun x o n m q => by rw [upd_ne n]; exact s4 x o n m q
            · exact ⟨upd_same, by rw [upd_ne nsc.symm]; exact q4.two⟩
          refine ⟨_, rfl, _, _, rfl, rfl, ⟨by decide, by decide, by decide⟩, _, _, rfl, rfl, _, rfl, ite2 (fun c3 => ?_) (fun c3 => ?_)⟩
          · exact ⟨_, rfl, _, rfl, fin n0⟩
          · exact ⟨_, rfl, fin 0⟩
        · exact hN _ _ ⟨_, ns, a, e, rfl, s2, q2, e0, e1⟩
      · exact hN _ _ ⟨_, ns, a, e, rfl, s1, q1, e0, e1⟩
    · obtain ⟨v2, ns', a', e', rfl, s2, q2, e0', e1'⟩ := hP
      refine ⟨_, rfl, st, _, 1, .int a', rfl, rfl, SqL.of q2.one, atI_nat (j := 1) rfl, _, _, rfl, rfl, _, rfl, ite2 (fun c1 => ?_) (fun c1 => ?_)⟩
      · have ap : 0 < a' := of_decide_eq_true c1
        refine ⟨_, rfl, st, _, 1, .int a', rfl, rfl, SqL.of q2.one, atI_nat (j := 1) rfl, .inl ⟨_, rfl, _, rfl, _, _, rfl, rfl, m0, ?_⟩⟩
        refine ⟨_, rfl, st, _, 1, .int a', rfl, rfl, SqL.of q2.one, atI_nat (j := 1) rfl, _, rfl, _, _, rfl, rfl, wide_div (b := 62) m0 (by omega) (by decide) (by decide), _, rfl, st, _, 1, 1, rfl, rfl, q2.one, rfl, ?_⟩
        refine ⟨_, rfl, k _ _ (Int.emod_nonneg _ (by omega)) (Int.emod_lt_of_pos _ m0) (fun x o n m q => by rw [upd_ne n]; exact s2 x o n m q) ⟨ns', a' / many, b + 1, e', upd_same, by rw [upd_ne nsc.symm]; exact q2.two, by omega, by omega, e0', e1'⟩⟩
      · refine ⟨_, rfl, st, _, 3, .int e', rfl, rfl, SqL.of q2.one, atI_nat (j := 3) rfl, _, rfl, st, _, 2, .int (b + 1), rfl, rfl, SqL.of q2.one, atI_nat (j := 2) rfl, _, _, rfl, rfl, .inl ⟨by decide, by decide⟩, _, _, rfl, rfl, _, _, rfl, rfl, _, _, rfl, rfl, ⟨by decide, by decide, ?_⟩, .inl ⟨_, rfl, _, _, rfl, rfl, by show (0 : Int) < 2147483629; decide, ?_⟩⟩
        · omega
        refine ⟨_, rfl, _, _, rfl, rfl, .inr ⟨by decide, by decide⟩, _, rfl, st, _, 2, .int (b + 1), rfl, rfl, SqL.of q2.one, atI_nat (j := 2) rfl, _, _, rfl, rfl, .inl ⟨by decide, by decide⟩, _, _, rfl, rfl, _, _, rfl, rfl, _, _, rfl, rfl, ⟨by decide, by decide, ?_⟩, .inl ⟨_, rfl, _, _, rfl, rfl, by show (0 : Int) < 1000000007; decide, _, rfl, _, _, rfl, rfl, m0, ?_⟩⟩
        · omega
        exact k _ _ (Int.emod_nonneg _ (by omega)) (Int.emod_lt_of_pos _ m0) s2 ⟨ns', a', b + 1, e', q2.one, q2.two, by omega, by omega, e0', e1'⟩
end
end Gw

set_option Elab.async false
set_option linter.all false
set_option maxRecDepth 100000
set_option maxHeartbeats 4000000
namespace Gw
open PySem PySem.Spec PyProof.Rows L2 GW
theorem erase_perm {α : Type} {l : List α} {i : Nat} {y : α} (h : l[i]? = some y) : (y :: l.eraseIdx i).Perm l := by
  have hlt := (List.getElem?_eq_some_iff.mp h).1
  have he : l[i] = y := (List.getElem?_eq_some_iff.mp h).2
  rw [List.eraseIdx_eq_take_drop_succ]
  have e : l = l.take i ++ y :: l.drop (i + 1) := by
    rw [← he, List.getElem_cons_drop, List.take_append_drop]
  have p : (l.take i ++ y :: l.drop (i + 1)).Perm (y :: (l.take i ++ l.drop (i + 1))) := List.perm_middle
  rw [← e] at p
  exact p.symm
def letters : Str := "abcdefghijklmnopqrstuvwxyz"
theorem letters_in : ∀ c ∈ letters.cps.toList, c ∈ signs.cps.toList := by decide +kernel
/-- the first ones of the alphabet and jq -/
def sixteen : Str := "abcdefghijklmnop"
def withJq (c : Nat) : Str := (⟨#[c]⟩ : Str) ++ ("jq" : Str)
instance (z : Str) : Decidable (NmOk z) := by unfold NmOk; infer_instance
theorem jq_ok : ∀ c ∈ sixteen.cps.toList, NmOk (withJq c) := by decide +kernel
theorem jq_nd : (sixteen.cps.toList.map withJq).Nodup := by decide +kernel
theorem inV_str (x : Str) (zs : List Str) : inV (.str x) (zs.map V.str) = decide (x ∈ zs) := by
  unfold inV
  induction zs with
  | nil => rfl
  | cons z r ih =>
    rw [List.map_cons, List.any_cons, ih]
    show (z == x || decide (x ∈ r)) = _
    by_cases c : x = z
    · rw [c]; simp
    · have c' : ¬ z = x := fun q => c q.symm
      simp [c, c']
theorem all_flat (zs : List Str) : (zs.map V.str).all flatV = true := by
  rw [List.all_map]
  exact List.all_eq_true.mpr fun _ _ => rfl
theorem fold_cps (l : List Str) : ∀ acc : Array Nat, (∀ z ∈ l, z.cps.size = 1) → (l.foldl (fun acc p => acc ++ (Str.ofString "").cps ++ p.cps) acc).size = acc.size + l.length ∧ ∀ c ∈ (l.foldl (fun acc p => acc ++ (Str.ofString "").cps ++ p.cps) acc).toList, c ∈ acc.toList ∨ ∃ z ∈ l, c ∈ z.cps.toList := by
  induction l with
  | nil => intro acc _; exact ⟨rfl, fun c h => .inl h⟩
  | cons z r ih =>
    intro acc h
    have e0 : (Str.ofString "").cps = #[] := by decide +kernel
    obtain ⟨h1, h2⟩ := ih (acc ++ (Str.ofString "").cps ++ z.cps) fun y hy => h y (by simp [hy])
    have hz := h z (by simp)
    refine ⟨?_, fun c hc => ?_⟩
    · show (r.foldl _ (acc ++ (Str.ofString "").cps ++ z.cps)).size = _
      rw [h1, e0, Array.size_append, Array.size_append, hz]
      show acc.size + 0 + 1 + r.length = acc.size + (r.length + 1)
      omega
    · rcases h2 c hc with q | ⟨y, hy, q⟩
      · rw [e0, Array.toList_append, Array.toList_append] at q
        rcases List.mem_append.mp q with q | q
        · rcases List.mem_append.mp q with q | q
          · exact .inl q
          · cases q
        · exact .inr ⟨z, by simp, q⟩
      · exact .inr ⟨y, by simp [hy], q⟩
theorem join_ok {zs : List Str} (ne : zs ≠ []) (l60 : zs.length ≤ 60) (h : ∀ z ∈ zs, ∃ c ∈ letters.cps.toList, z = ⟨#[c]⟩) : NmOk (Txt.join (Str.ofString "") zs) := by
  obtain ⟨z, r, rfl⟩ := List.exists_cons_of_ne_nil ne
  have hs : ∀ y ∈ z :: r, y.cps.size = 1 := fun y hy => by
    obtain ⟨c, _, rfl⟩ := h y hy
    rfl
  obtain ⟨h1, h2⟩ := fold_cps r z.cps fun y hy => hs y (by simp [hy])
  have e1 : (Txt.join (Str.ofString "") (z :: r)).cps = r.foldl (fun acc p => acc ++ (Str.ofString "").cps ++ p.cps) z.cps := rfl
  have e2 : (Txt.join (Str.ofString "") (z :: r)).length = 1 + r.length := by
    show (Txt.join (Str.ofString "") (z :: r)).cps.size = _
    rw [e1, h1, hs z (by simp)]
  rw [List.length_cons] at l60
  refine ⟨by omega, by omega, fun c hc => ?_⟩
  rw [e1] at hc
  have fin : ∀ y ∈ z :: r, c ∈ y.cps.toList → c ∈ signs.cps.toList := fun y hy q => by
    obtain ⟨d, hd, rfl⟩ := h y hy
    have : c = d := by simpa using q
    rw [this]; exact letters_in d hd
  rcases h2 c hc with q | ⟨y, hy, q⟩
  · exact fin z (by simp) q
  · exact fin y (by simp [hy]) q
section
variable {P : Program} {w : World} {K : PySem.W.Frag} {mg : Str → Option Value} {base : Heap}
/-- the stream's defs -/
structure DS (K : PySem.W.Frag) (mg : Str → Option Value) where
  draw : Df K mg "_law_draw" sDraw ["_law_stream", "_law_many"]
  pick : Df K mg "_law_pick" sPick ["_law_stream", "_law_some"]
  mixed : Df K mg "_law_mixed" sMixed ["_law_stream", "_law_some"]
  name : Df K mg "_law_name" sName ["_law_stream"]
  names : Df K mg "_law_names" sNames ["_law_stream", "_law_many"]
/-! ### _law_pick -/
def spPick : Sp := fun vs H Q _ => ∃ (st c : Addr) (k : Nat) (x : V), vs = [.ref st, x] ∧ Strm H st c k ∧ k ≤ 100000 ∧
  ((∃ p xs, x = .ref p ∧ H p = some (.lst xs) ∧ p ≠ st ∧ p ≠ c ∧ xs ≠ [] ∧ xs.length ≤ 1000 ∧ ∀ H' v, v ∈ xs → SameS st c H H' → Strm H' st c (k + 1) → Q v H') ∨
   (∃ z, x = .str z ∧ 0 < z.length ∧ z.length ≤ 1000 ∧ ∀ H' ch, ch ∈ z.cps.toList → SameS st c H H' → Strm H' st c (k + 1) → Q (.str ⟨#[ch]⟩) H'))
theorem scPick : FnScope ["_law_stream", "_law_some"] ["_law_stream", "_law_some"] (defScope sPick) := ⟨rfl, rfl, rfl, by decide +kernel, rfl, by decide +kernel, by decide +kernel⟩
theorem at_in {α : Type} {xs : List α} {r : Int} (r0 : 0 ≤ r) (r1 : r < xs.length) : ∃ y, y ∈ xs ∧ atI xs r = some y := by
  obtain ⟨n, rfl⟩ := Int.eq_ofNat_of_zero_le r0
  have hn : n < xs.length := by omega
  exact ⟨xs[n], List.getElem_mem hn, atI_nat (List.getElem?_eq_getElem hn)⟩
theorem ok_pick (D : DS K mg) (B : Blt mg) : FnOk P w K mg base CX0 2 D.pick.f D.pick.fd ["_law_stream", "_law_some"] spPick := by
  have GD : FnOk P w K mg base CX0 1 D.draw.f D.draw.fd ["_law_stream", "_law_many"] spDraw := ok_draw D.draw B
  refine D.pick.F.ok scPick (fun vs H Q E h => ?_) (fun cdv A outer s H vs Q E hr h => ?_)
  · obtain ⟨st, c, k, x, rfl, _⟩ := h
    rfl
  · obtain ⟨st, c, k, x, rfl, S, hk, h⟩ := h
    refine ⟨_, pss_one (ps_ret (pe_ix ix_seq (pv 1) (pe_call GD hr rfl D.draw.m D.draw.F.kp D.draw.b .nil pass0 (pa_cons (pv 0) (pa_cons (pe_callB call_len (by rfl) B.len PySem.boot_len (pa_cons (pv 1) pa_nil)) pa_nil))) (fun _ _ => rfl))), ?_⟩
    rcases h with ⟨p, xs, rfl, hp, n1, n2, ne, l, q⟩ | ⟨z, rfl, l0, l1, q⟩
    · have l0 : 0 < xs.length := (List.length_pos_iff.mpr ne)
      refine ⟨_, rfl, _, rfl, _, rfl, .ref p, xs.length, rfl, .inl ⟨xs, SqL.of hp, rfl⟩, st, c, _, k, rfl, S, by omega, by omega, hk, fun H1 r r0 r1 s1 S1 => ?_⟩
      obtain ⟨y, hy, ay⟩ := at_in r0 r1
      exact .inl ⟨p, xs, r, y, rfl, rfl, SqL.of (s1 p _ n1 n2 hp), ay, q H1 y hy s1 S1⟩
    · refine ⟨_, rfl, _, rfl, _, rfl, .str z, z.length, rfl, ⟨Nat.le_of_lt (small _ (by omega)), rfl⟩, st, c, _, k, rfl, S, by omega, by omega, hk, fun H1 r r0 r1 s1 S1 => ?_⟩
      have e : z.cps.toList.length = z.length := by show _ = z.cps.size; rw [Array.length_toList]
      obtain ⟨y, hy, ay⟩ := at_in (xs := z.cps.toList) r0 (by rw [e]; exact r1)
      exact .inr (.inr ⟨z, r, y, rfl, rfl, Nat.le_of_lt (small _ (by omega)), ay, q H1 y hy s1 S1⟩)
/-! ### _law_mixed -/
def spMixed : Sp := fun vs H Q _ => ∃ (st c : Addr) (k : Nat) (p : Addr) (xs : List V), vs = [.ref st, .ref p] ∧ Strm H st c k ∧ k ≤ 90000 ∧ H p = some (.lst xs) ∧ xs.length ≤ 10 ∧
  ∀ H' D ys, SameS st c H H' → H D = none → H' D = some (.lst ys) → ys.Perm xs → Strm H' st c (k + xs.length) → Q (.ref D) H'
theorem scMixed : FnScope ["_law_stream", "_law_some", "_law_left", "_law_k"] ["_law_stream", "_law_some"] (defScope sMixed) := ⟨rfl, rfl, rfl, by decide +kernel, rfl, by decide +kernel, by decide +kernel⟩
def rLenS1 (K : PySem.W.Frag) : List V → Hp → VK → Prop := fun xs H Q => ∃ p ys, xs = [V.ref p] ∧ (SqL K H p ys ∨ SqT K H p ys) ∧ Q (V.int ys.length) H
theorem ok_mixed (D : DS K mg) (B : Blt mg) : FnOk P w K mg base CX0 2 D.mixed.f D.mixed.fd ["_law_stream", "_law_some"] spMixed := by
  have GD : FnOk P w K mg base CX0 1 D.draw.f D.draw.fd ["_law_stream", "_law_many"] spDraw := ok_draw D.draw B
  refine D.mixed.F.ok scMixed (fun vs H Q E h => ?_) (fun cdv A outer s H vs Q E hr h => ?_)
  · obtain ⟨st, c, k, p, xs, rfl, _⟩ := h
    rfl
  · obtain ⟨st, c, k, p, xs, rfl, S, hk, hp, l10, q⟩ := h
    refine ⟨_, pss_cons (ps_set (i := 2) scMixed.nd rfl (.inr rfl) (pe_callTy call_list_of (by rfl) B.list PyProof.Rows.boot_list (pa_cons (pv 1) pa_nil)))
      (pss_one (ps_ret (pe_lc (own := [("_law_k", 3)]) (g := gName 3) (tt := tYes) (by rfl) scMixed.nd (pi_range1 (by rfl) B.range (pa_cons (pe_callB call_len_seq (by rfl) B.len PySem.boot_len (pa_cons (pv 2) pa_nil)) pa_nil))
        (blkOk_by (N := ["_law_stream", "_law_some", "_law_left", "_law_k"]) (sc := defScope sMixed) (by decide +kernel)) (fun _ _ _ _ _ => pg_name (i := 3) scMixed.nd rfl (Or.inl rfl)) (fun _ _ _ _ _ => pts_nil)
        (fun _ _ _ _ _ => show PE _ _ (tBM K "list" rPopAt (tVar 2) (tCons (tCall spDraw [] E0 (tCons (tVar 0) (tCons (tCB (rLenS1 K) (tCons (tVar 2) tNil)) tNil))) tNil)) from
          pe_bm PySem.F.plainAttrs_list PySem.F.slot_list_pop PySem.F.type_list_pop mt_popAt (pv 2) (pa_cons (pe_call GD hr rfl D.draw.m D.draw.F.kp D.draw.b .nil pass0 (pa_cons (pv 0) (pa_cons (pe_callB call_len_seq (by rfl) B.len PySem.boot_len (pa_cons (pv 2) pa_nil)) pa_nil))) pa_nil))))), ?_⟩
    refine ⟨_, rfl, p, xs, rfl, .inl (SqL.of hp), fun L hL => ?_⟩
    have S1 := S.mono (same_upd (o := .lst xs) hL)
    have ss1 : SameS st c H (upd H L (.lst xs)) := Same.ss (same_upd hL)
    have hL1 : (upd H L (.lst xs)) L = some (.lst xs) := upd_same
    obtain ⟨nLs, nLc⟩ := S.fresh hL
    have fr1 : ∀ D, (upd H L (.lst xs)) D = none → H D = none ∧ D ≠ L := fun D hD => by
      have nD : D ≠ L := fun z => by rw [z, upd_same] at hD; cases hD
      exact ⟨by rw [upd_ne nD] at hD; exact hD, nD⟩
    have ssx : ∀ H5, (∀ b o, b ≠ st → b ≠ c → b ≠ L → (upd H L (.lst xs)) b = some o → H5 b = some o) → SameS st c H H5 := fun H5 h b o n m e => by
      have nb : b ≠ L := fun z => by rw [z, hL] at e; cases e
      exact h b o n m nb (by rw [upd_ne nb]; exact e)
    generalize upd H L (.lst xs) = H1 at S1 ss1 hL1 fr1 ssx ⊢
    refine ⟨_, rfl, L, xs, rfl, .inl (SqL.of hL1), _, rfl, by omega, by omega, fun Dd hD => ?_⟩
    obtain ⟨hDH, nDL⟩ := fr1 Dd hD
    obtain ⟨nDs, nDc⟩ := S1.fresh hD
    rw [Int.toNat_natCast]
    refine lc_it walk_range (fun i H5 => (∀ b o, b ≠ st → b ≠ c → b ≠ L → H1 b = some o → H5 b = some o) ∧ Strm H5 st c (k + i) ∧ ∃ ls acc, H5 L = some (.lst ls) ∧ H5 Dd = some (.lst acc) ∧ acc.length = i ∧ (acc ++ ls).Perm xs)
      ⟨fun b o _ _ _ e => same_upd hD _ _ e, S1.mono (same_upd hD), xs, [], same_upd hD _ _ hL1, upd_same, rfl, List.Perm.refl _⟩ (fun _ _ _ _ => True.intro) (fun i x H5o H5 hi hP hY => ?_) (fun H5 hP => ?_)
    · obtain ⟨ss5, S5, ls, acc, hL5, hD5, la, pm⟩ := hP
      obtain ⟨rfl, rfl⟩ := hY
      have ll : acc.length + ls.length = xs.length := by rw [← List.length_append]; exact pm.length_eq
      refine ⟨rfl, yes_then ⟨_, rfl, .inl ⟨rfl, _, SqL.of hL5⟩, _, rfl, _, rfl, L, ls, rfl, .inl (SqL.of hL5), st, c, _, k + i, rfl, S5, by omega, by omega, by omega, fun H6 r r0 r1 s6 S6 => ?_⟩⟩
      obtain ⟨n, rfl⟩ := Int.eq_ofNat_of_zero_le r0
      have hn : n < ls.length := by omega
      have hL6 := s6 L _ nLs nLc hL5
      have hD6 := s6 Dd _ nDs nDc hD5
      refine ⟨L, ls, _, n, ls[n], rfl, rfl, hL6, by omega, by omega, (ixN_seq (by unfold ixN; rw [if_pos (by omega), if_pos (by omega)]; rfl)).1, List.getElem?_eq_getElem hn, acc, by rw [upd_ne nDL]; exact hD6, small _ (by omega), ?_, ?_, ls.eraseIdx n, acc ++ [ls[n]], ?_, upd_same, ?_, ?_⟩
      · intro b o n1 n2 n3 e
        have nb : b ≠ Dd := fun z => by rw [z, hD] at e; cases e
        rw [upd_ne nb, upd_ne n3]
        exact s6 b o n1 n2 (ss5 b o n1 n2 n3 e)
      · obtain ⟨ns, a, b, e, h1, h2, h3, h4, h5⟩ := S6.ok
        exact ⟨ns, a, b, e, by rw [upd_ne nDs.symm, upd_ne nLs.symm]; exact h1, by rw [upd_ne nDc.symm, upd_ne nLc.symm]; exact h2, h3, by omega, h5⟩
      · rw [upd_ne nDL.symm, upd_same]
      · rw [List.length_append, List.length_singleton, la]
      · have p1 := erase_perm (List.getElem?_eq_getElem hn)
        rw [List.append_assoc]
        exact (List.Perm.append_left acc p1).trans pm
    · obtain ⟨ss5, S5, ls, acc, hL5, hD5, la, pm⟩ := hP
      have ll : acc.length + ls.length = xs.length := by rw [← List.length_append]; exact pm.length_eq
      have ln : ls = [] := List.eq_nil_of_length_eq_zero (by omega)
      rw [ln, List.append_nil] at pm
      exact q H5 Dd acc (ssx H5 ss5) hDH hD5 pm S5
end
end Gw

set_option Elab.async false
set_option linter.all false
set_option maxRecDepth 100000
set_option maxHeartbeats 4000000
namespace Gw
open PySem PySem.Spec PyProof.Rows L2 GW
section
variable {P : Program} {w : World} {K : PySem.W.Frag} {mg : Str → Option Value} {base : Heap}
/-- an object that is not the stream stands through what the stream does -/
theorem own_strm {H : Hp} {st c D : Addr} {k : Nat} {o : HO} (S : Strm H st c k) (n : D ≠ st) (m : D ≠ c) : Strm (upd H D o) st c k := let ⟨ns, a, b, e, h1, h2, h3⟩ := S.ok; ⟨ns, a, b, e, by rw [upd_ne n.symm]; exact h1, by rw [upd_ne m.symm]; exact h2, h3⟩
theorem own_ss {H H' : Hp} {st c D : Addr} {o : HO} (s : SameS st c H H') (h : H D = none) : SameS st c H (upd H' D o) := fun b u n m e => by
  rw [upd_ne (fun z => by rw [z, h] at e; cases e)]
  exact s b u n m e
/-! ### _law_name -/
def spName : Sp := fun vs H Q _ => ∃ (st c : Addr) (k : Nat), vs = [.ref st] ∧ Strm H st c k ∧ k ≤ 90000 ∧ ∀ H' z, SameS st c H H' → NmOk z → Strm H' st c (k + 9) → Q (.str z) H'
theorem scName : FnScope ["_law_stream", "_law_width", "_law_k"] ["_law_stream"] (defScope sName) := ⟨rfl, rfl, rfl, by decide +kernel, rfl, by decide +kernel, by decide +kernel⟩
theorem ok_name (D : DS K mg) (B : Blt mg) : FnOk P w K mg base CX0 3 D.name.f D.name.fd ["_law_stream"] spName := by
  have GD : FnOk P w K mg base CX0 1 D.draw.f D.draw.fd ["_law_stream", "_law_many"] spDraw := ok_draw D.draw B
  have GP : FnOk P w K mg base CX0 2 D.pick.f D.pick.fd ["_law_stream", "_law_some"] spPick := ok_pick D B
  refine D.name.F.ok scName (fun vs H Q E h => ?_) (fun cdv A outer s H vs Q E hr h => ?_)
  · obtain ⟨st, c, k, rfl, _⟩ := h
    rfl
  · obtain ⟨st, c, k, rfl, S, hk, q⟩ := h
    have hr0 : Room 1 _ := hr.mono (by decide)
    refine ⟨_, pss_cons (ps_set (i := 1) scName.nd rfl (.inl rfl) (pe_ix ix_list (pe_lst (pa_cons pe_int (pa_cons pe_int (pa_cons pe_int (pa_cons pe_int (pa_cons pe_int (pa_cons pe_int pa_nil))))))) (pe_call GD hr0 rfl D.draw.m D.draw.F.kp D.draw.b .nil pass0 (pa_cons (pv 0) (pa_cons pe_int pa_nil))) (fun _ _ => rfl)))
      (pss_one (ps_ret (pe_join pe_str (pe_lc (own := [("_law_k", 2)]) (g := gName 2) (tt := tYes) (by rfl) scName.nd (pi_range1 (by rfl) B.range (pa_cons (pv 1) pa_nil))
        (blkOk_by (N := ["_law_stream", "_law_width", "_law_k"]) (sc := defScope sName) (by decide +kernel)) (fun _ _ _ _ _ => pg_name (i := 2) scName.nd rfl (Or.inl rfl)) (fun _ _ _ _ _ => pts_nil)
        (fun _ _ _ _ _ => pe_call GP hr rfl D.pick.m D.pick.F.kp D.pick.b .nil pass0 (pa_cons (pv 0) (pa_cons pe_str pa_nil))))))), ?_⟩
    refine ⟨by show 6 ≤ sizeLine; decide, fun l hl => ?_⟩
    have S1 := S.mono (same_upd (o := .lst [.int 1, .int 1, .int 2, .int 3, .int 5, .int 8]) hl)
    have s1 : SameS st c H (upd H l (.lst [.int 1, .int 1, .int 2, .int 3, .int 5, .int 8])) := Same.ss (same_upd hl)
    have hl1 : (upd H l (.lst [.int 1, .int 1, .int 2, .int 3, .int 5, .int 8])) l = some (.lst [.int 1, .int 1, .int 2, .int 3, .int 5, .int 8]) := upd_same
    obtain ⟨n1, n2⟩ := S.fresh hl
    generalize upd H l (.lst [.int 1, .int 1, .int 2, .int 3, .int 5, .int 8]) = H1 at S1 s1 hl1 ⊢
    refine ⟨_, rfl, st, c, 6, k, rfl, S1, by decide, by decide, by omega, fun H2 r r0 r1 s2 S2 => ?_⟩
    have hl2 := s2 l _ n1 n2 hl1
    have s12 := s1.trans s2
    obtain ⟨wd, hw, w1, w8⟩ : ∃ wd : Nat, atI [V.int 1, .int 1, .int 2, .int 3, .int 5, .int 8] r = some (.int wd) ∧ 1 ≤ wd ∧ wd ≤ 8 := by
      obtain ⟨n, rfl⟩ := Int.eq_ofNat_of_zero_le r0
      have : n = 0 ∨ n = 1 ∨ n = 2 ∨ n = 3 ∨ n = 4 ∨ n = 5 := by omega
      rcases this with rfl | rfl | rfl | rfl | rfl | rfl
      · exact ⟨1, atI_nat (j := 0) rfl, by decide, by decide⟩
      · exact ⟨1, atI_nat (j := 1) rfl, by decide, by decide⟩
      · exact ⟨2, atI_nat (j := 2) rfl, by decide, by decide⟩
      · exact ⟨3, atI_nat (j := 3) rfl, by decide, by decide⟩
      · exact ⟨5, atI_nat (j := 4) rfl, by decide, by decide⟩
      · exact ⟨8, atI_nat (j := 5) rfl, by decide, by decide⟩
    refine ⟨l, _, r, _, rfl, rfl, SqL.of hl2, hw, ⟨_, rfl⟩, ?_⟩
    refine ⟨_, rfl, (wd : Int), rfl, by omega, by omega, fun Dd hD => ?_⟩
    obtain ⟨m1, m2⟩ := S2.fresh hD
    rw [Int.toNat_natCast]
    refine lc_it walk_range (fun i H5 => SameS st c H2 H5 ∧ Strm H5 st c (k + 1 + i) ∧ ∃ zs, H5 Dd = some (.lst (zs.map V.str)) ∧ zs.length = i ∧ ∀ z ∈ zs, ∃ ch ∈ letters.cps.toList, z = ⟨#[ch]⟩)
      ⟨Same.ss (same_upd hD), S2.mono (same_upd hD), [], upd_same, rfl, fun _ h => by cases h⟩ (fun _ _ _ _ => True.intro) (fun i x H5o H5 hi hP hY => ?_) (fun H5 hP => ?_)
    · obtain ⟨s5, S5, zs, d5, zl, zo⟩ := hP
      obtain ⟨rfl, rfl⟩ := hY
      refine ⟨rfl, yes_then ⟨_, rfl, st, c, _, .str letters, rfl, S5, by omega, .inr ⟨letters, rfl, by decide +kernel, by decide +kernel, fun H6 ch hch s6 S6 => ?_⟩⟩⟩
      refine ⟨_, s6 Dd _ m1 m2 d5, by rw [List.length_map]; exact small _ (by omega), own_ss (s5.trans s6) hD, own_strm S6 m1 m2, zs ++ [⟨#[ch]⟩], by rw [upd_same, List.map_append]; rfl, by rw [List.length_append, zl]; rfl, fun z hz => ?_⟩
      rcases List.mem_append.mp hz with hz | hz
      · exact zo z hz
      · exact ⟨ch, hch, by simpa using hz⟩
    · obtain ⟨s5, S5, zs, d5, zl, zo⟩ := hP
      have zne : zs ≠ [] := fun z => by rw [z] at zl; have : (0 : Nat) = wd := zl; omega
      refine ⟨_, Dd, zs, rfl, rfl, .inl (SqL.of d5), ?_, q H5 _ (s12.trans s5) (join_ok zne (by omega) zo) (S5.le (by omega))⟩
      have e0 : (Str.ofString "").length = 0 := by decide +kernel
      rw [e0, Nat.mul_zero, Nat.add_zero]
      have e1 : (zs.map (·.length)).sum = zs.length := by
        clear d5 zl zne S5 s5
        induction zs with
        | nil => rfl
        | cons z r ih =>
          rw [List.map_cons, List.sum_cons, ih fun y hy => zo y (by simp [hy]), List.length_cons]
          obtain ⟨ch, _, rfl⟩ := zo z (by simp)
          show 1 + r.length = _
          omega
      rw [e1]; omega
/-! ### _law_names -/
def spNames : Sp := fun vs H Q _ => ∃ (st c : Addr) (k : Nat) (many : Int), vs = [.ref st, .int many] ∧ Strm H st c k ∧ k ≤ 80000 ∧ 1 ≤ many ∧ many ≤ 4 ∧
  ∀ (H' : Hp) (l : Addr) (zs : List Str), SameS st c H H' → H l = none → H' l = some (.lst (zs.map V.str)) → (zs.length : Int) = many → zs.Nodup → (∀ z ∈ zs, NmOk z) → Strm H' st c (k + 36) → Q (.ref l) H'
theorem scNames : FnScope ["_law_stream", "_law_many", "_law_found", "_law_k", "_law_spare", "_law_letter", "_law_x"] ["_law_stream", "_law_many"] (defScope sNames) := ⟨rfl, rfl, rfl, by decide +kernel, rfl, by decide +kernel, by decide +kernel⟩
theorem ok_names (D : DS K mg) (B : Blt mg) : FnOk P w K mg base CX0 4 D.names.f D.names.fd ["_law_stream", "_law_many"] spNames := by
  have GN : FnOk P w K mg base CX0 3 D.name.f D.name.fd ["_law_stream"] spName := ok_name D B
  refine D.names.F.ok scNames (fun vs H Q E h => ?_) (fun cdv A outer s H vs Q E hr h => ?_)
  · obtain ⟨st, c, k, many, rfl, _⟩ := h
    rfl
  · obtain ⟨st, c, k, many, rfl, S, hk, h1, h4, q⟩ := h
    refine ⟨_, pss_cons (ps_set (i := 2) scNames.nd rfl (.inr rfl) (pe_lst pa_nil))
      (pss_cons (ps_for PassesOwn.never rfl (pi_range1 (by rfl) B.range (pa_cons (pv 1) pa_nil)) (pg_name (i := 3) scNames.nd rfl (.inl rfl))
        (pss_cons (ps_set (i := 4) scNames.nd rfl (.inl rfl) (pe_op op_cat (pe_lst (pa_cons (pe_call GN hr rfl D.name.m D.name.F.kp D.name.b .nil pass0 (pa_cons (pv 0) pa_nil)) pa_nil))
          (pe_lc (own := [("_law_letter", 5)]) (g := gName 5) (tt := tYes) (by rfl) scNames.nd (pi_str pe_str) (blkOk_by (N := ["_law_stream", "_law_many", "_law_found", "_law_k", "_law_spare", "_law_letter", "_law_x"]) (sc := defScope sNames) (by decide +kernel))
            (fun _ _ _ _ _ => pg_name (i := 5) scNames.nd rfl (Or.inl rfl)) (fun _ _ _ _ _ => pts_nil) (fun _ _ _ _ _ => pe_op op_add_str (pv 5) pe_str))))
        (pss_one (ps_expr (pe_bm PySem.F.plainAttrs_list PySem.F.slot_list_append PySem.F.type_list_append mt_append (pv 2) (pa_cons (pe_ix ix_list
          (pe_lc (own := [("_law_x", 6)]) (g := gName 6) (by rfl) scNames.nd (pi_list (pv 4)) (blkOk_by (N := ["_law_stream", "_law_many", "_law_found", "_law_k", "_law_spare", "_law_letter", "_law_x"]) (sc := defScope sNames) (by decide +kernel))
            (fun _ _ _ _ _ => pg_name (i := 6) scNames.nd rfl (Or.inl rfl)) (fun _ _ _ _ _ => pts_one (pt_cmpR (r := rIn K true) op_notIn_seq (pv 6) (pv 2) (by rfl))) (fun _ _ _ _ _ => pv 6)) pe_int (fun _ _ => rfl)) pa_nil))))))
      (pss_one (ps_ret (pv 2)))), ?_⟩
    refine ⟨by show 0 ≤ sizeLine; decide, fun l hl => ?_⟩
    have S1 := S.mono (same_upd (o := .lst []) hl)
    have s1 : SameS st c H (upd H l (.lst [])) := Same.ss (same_upd hl)
    have hl1 : (upd H l (.lst [])) l = some (.lst (([] : List Str).map V.str)) := upd_same
    obtain ⟨n1, n2⟩ := S.fresh hl
    generalize upd H l (.lst []) = H1 at S1 s1 hl1 ⊢
    refine ⟨_, rfl, many, rfl, by omega, by omega, for_range (fun i σ H2 => ∃ v3 v4 zs, σ = [some (.ref st), some (.int many), some (.ref l), v3, v4, none, none] ∧ SameS st c H H2 ∧ Strm H2 st c (k + 9 * i) ∧ H2 l = some (.lst (zs.map V.str)) ∧ zs.length = i ∧ zs.Nodup ∧ ∀ z ∈ zs, NmOk z)
      ⟨none, none, [], rfl, s1, S1, hl1, rfl, List.nodup_nil, fun _ h => by cases h⟩ (fun i σ H2 hi hP => ?_) (fun σ H2 hP => ?_)⟩
    · obtain ⟨v3, v4, zs, rfl, s2, S2, hl2, zl, znd, zok⟩ := hP
      have i4 : i < 4 := by omega
      refine ⟨_, rfl, st, c, _, rfl, S2, by omega, fun H3 z s3 zk S3 => ⟨by show 1 ≤ sizeLine; decide, fun a ha => ?_⟩⟩
      obtain ⟨a1, a2⟩ := S3.fresh ha
      have hl3 := s3 l _ n1 n2 hl2
      have nal : a ≠ l := fun y => by rw [y, hl3] at ha; cases ha
      have s4 := (s2.trans s3).trans (Same.ss (same_upd (o := .lst [.str z]) ha))
      have S4 := S3.mono (same_upd (o := .lst [.str z]) ha)
      have hl4 : (upd H3 a (.lst [.str z])) l = some (.lst (zs.map V.str)) := by rw [upd_ne nal.symm]; exact hl3
      have ha4 : (upd H3 a (.lst [.str z])) a = some (.lst [.str z]) := upd_same
      generalize upd H3 a (.lst [.str z]) = H4 at s4 S4 hl4 ha4 ⊢
      refine ⟨sixteen, rfl, fun Dd hD => ?_⟩
      refine lc_it walk_str (fun j H5 => Same H4 H5 ∧ H5 Dd = some (.lst ((((sixteen.cps.toList).take j).map withJq).map V.str)))
        ⟨same_upd hD, upd_same⟩ (fun _ _ _ _ => True.intro) (fun j x H5o H5 hj hP hY => ?_) (fun H5 hP => ?_)
      · obtain ⟨s5, d5⟩ := hP
        obtain ⟨rfl, ch, hch, rfl⟩ := hY
        refine ⟨rfl, yes_then ⟨_, rfl, _, _, rfl, rfl, ?_, _, d5, ?_, s_own s5 hD, ?_⟩⟩
        · have : (⟨#[ch]⟩ : Str).length = 1 := rfl
          have : (Str.ofString "jq").length = 2 := by decide +kernel
          show (⟨#[ch]⟩ : Str).length + (Str.ofString "jq").length ≤ sizeLine
          have : sizeLine = sizeLine := rfl
          exact Nat.le_of_lt (small _ (by omega))
        · rw [List.length_map, List.length_map, List.length_take]
          have : sixteen.cps.toList.length = 16 := by decide +kernel
          exact small _ (by omega)
        · have hch' : sixteen.cps.toList[j]? = some ch := by rw [Array.getElem?_toList]; exact hch
          rw [upd_same, List.take_add_one, hch', List.map_append, List.map_append]; rfl
      · obtain ⟨s5, d5⟩ := hP
        have e16 : sixteen.cps.size = sixteen.cps.toList.length := by rw [Array.length_toList]
        rw [e16, List.take_length] at d5
        refine ⟨a, Dd, _, _, rfl, rfl, s5 _ _ ha4, d5, ?_, fun sp hsp => ?_⟩
        · rw [List.length_map, List.length_map]
          have : sixteen.cps.toList.length = 16 := by decide +kernel
          show 1 + _ ≤ sizeLine
          exact Nat.le_of_lt (small _ (by omega))
        have s6 := s4.trans (Same.ss (st := st) (c := c) (s5.trans (same_upd (o := .lst ([V.str z] ++ (sixteen.cps.toList.map withJq).map V.str)) hsp)))
        have S6 := S4.mono (s5.trans (same_upd (o := .lst ([V.str z] ++ (sixteen.cps.toList.map withJq).map V.str)) hsp))
        have hl6 := (s5.trans (same_upd (o := .lst ([V.str z] ++ (sixteen.cps.toList.map withJq).map V.str)) hsp)) _ _ hl4
        have hsp6 : (upd H5 sp (.lst ([V.str z] ++ (sixteen.cps.toList.map withJq).map V.str))) sp = some (.lst ((z :: sixteen.cps.toList.map withJq).map V.str)) := upd_same
        generalize upd H5 sp (.lst ([V.str z] ++ (sixteen.cps.toList.map withJq).map V.str)) = H6 at s6 S6 hl6 hsp6 ⊢
        refine ⟨_, rfl, .inl ⟨rfl, _, SqL.of hl6⟩, _, rfl, sp, rfl, ⟨_, SqL.of hsp6⟩, fun E2 hE => ?_⟩
        have nEl : E2 ≠ l := fun y => by rw [y, hl6] at hE; cases hE
        refine lc_it walk_list (fun j H7 => Same H6 H7 ∧ H7 E2 = some (.lst ((((z :: sixteen.cps.toList.map withJq).take j).filter fun x => decide (x ∉ zs)).map V.str)))
          ⟨same_upd hE, upd_same⟩ (fun j H7 _ hP => SqL.of (hP.1 _ _ hsp6)) (fun j x H7o H7 hj hP hY => ?_) (fun H7 hP => ?_)
        · obtain ⟨s7, d7⟩ := hP
          obtain ⟨rfl, hx⟩ := hY
          obtain ⟨y, hy⟩ : ∃ y, (z :: sixteen.cps.toList.map withJq)[j]? = some y := by
            rw [List.length_map] at hj
            exact ⟨_, List.getElem?_eq_getElem hj⟩
          have ex : x = .str y := by
            rw [List.getElem?_map, hy] at hx
            exact (Option.some.inj hx).symm
          subst ex
          have stp : ((z :: sixteen.cps.toList.map withJq).take (j + 1)).filter (fun x => decide (x ∉ zs)) = ((z :: sixteen.cps.toList.map withJq).take j).filter (fun x => decide (x ∉ zs)) ++ (if (!decide (y ∈ zs)) = true then [y] else []) := by
            rw [List.take_add_one, hy, List.filter_append]
            congr 1
            show List.filter (fun x => decide (x ∉ zs)) [y] = _
            by_cases c : y ∈ zs <;> simp [c]
          refine ⟨rfl, _, rfl, _, rfl, l, _, rfl, .inl (SqL.of (s7 _ _ hl6)), rfl, all_flat zs, _, rfl, ?_⟩
          rw [inV_str]
          refine ite2 (fun c => ?_) (fun c => ?_)
          · refine ⟨_, rfl, _, d7, ?_, s_own s7 hE, ?_⟩
            · have h2 := List.length_filter_le (fun x => decide (x ∉ zs)) ((z :: sixteen.cps.toList.map withJq).take j)
              rw [List.length_map]
              rw [List.length_map, List.length_cons, List.length_map] at hj
              have : sixteen.cps.toList.length = 16 := by decide +kernel
              rw [List.length_take] at h2
              exact small _ (by omega)
            · rw [upd_same, stp, if_pos (show (!decide (y ∈ zs)) = true from c), List.map_append]; rfl
          · refine ⟨s7, ?_⟩
            rw [stp, if_neg (show ¬ (!decide (y ∈ zs)) = true from c), List.append_nil]
            exact d7
        · obtain ⟨s7, d7⟩ := hP
          rw [List.length_map, List.take_length] at d7
          have fne : (z :: sixteen.cps.toList.map withJq).filter (fun x => decide (x ∉ zs)) ≠ [] := fun y => by
            rw [List.filter_eq_nil_iff] at y
            have sub : sixteen.cps.toList.map withJq ⊆ zs := fun t ht => by
              have := y t (by simp only [List.mem_cons]; exact .inr ht)
              simpa using this
            have := jq_nd.length_le_of_subset sub
            rw [List.length_map] at this
            have e : sixteen.cps.toList.length = 16 := by decide +kernel
            omega
          obtain ⟨y, r, ey⟩ := List.exists_cons_of_ne_nil fne
          have my : y ∈ (z :: sixteen.cps.toList.map withJq).filter (fun x => decide (x ∉ zs)) := by rw [ey]; simp
          obtain ⟨my1, my2⟩ := List.mem_filter.mp my
          have ynz : y ∉ zs := of_decide_eq_true my2
          have yok : NmOk y := by
            rcases List.mem_cons.mp my1 with rfl | hm
            · exact zk
            · obtain ⟨ch, hch, rfl⟩ := List.mem_map.mp hm
              exact jq_ok ch hch
          have hl7 := s7 _ _ hl6
          refine ⟨E2, _, 0, .str y, rfl, rfl, SqL.of d7, atI_nat (j := 0) (by rw [ey]; rfl), l, _, .str y, rfl, rfl, hl7, by rw [List.length_map]; exact small _ (by omega), ?_⟩
          refine ⟨_, _, zs ++ [y], rfl, own_ss (s6.trans (Same.ss s7)) hl, own_strm ((S6.mono s7).le (by omega)) n1 n2, by rw [upd_same, List.map_append]; rfl, by rw [List.length_append, zl]; rfl, ?_, fun t ht => ?_⟩
          · rw [List.nodup_append]
            refine ⟨znd, by simp, fun a ha b hb => ?_⟩
            have : b = y := by simpa using hb
            rw [this]
            exact fun z2 => ynz (by rw [← z2]; exact ha)
          · rcases List.mem_append.mp ht with ht | ht
            · exact zok t ht
            · have : t = y := by simpa using ht
              rw [this]; exact yok
    · obtain ⟨v3, v4, zs, rfl, s2, S2, hl2, zl, znd, zok⟩ := hP
      exact ⟨_, rfl, q H2 l zs s2 hl hl2 (by omega) znd zok (S2.le (by omega))⟩
end
end Gw

set_option Elab.async false
set_option linter.all false
set_option maxRecDepth 100000
set_option maxHeartbeats 4000000
namespace Gw
open PySem PySem.Spec PyProof.Rows L2 GW
theorem cut_take (xs : List V) (m : Nat) : cutV xs none (some (m : Int)) = xs.take m := by
  unfold cutV
  rw [HT.sIx_none, HT.sIx_nat, List.drop_zero, Nat.sub_zero]
  by_cases h : m ≤ xs.length
  · rw [Nat.min_eq_left h]
  · rw [Nat.min_eq_right (by omega), List.take_length, List.take_of_length_le (by omega)]
def unS (v : V) : Str := match v with
  | .str z => z
  | _ => (⟨#[]⟩ : Str)
def fourW : List Str := ["x", "y.1", "go", "z"]
theorem four_nd : fourW.Nodup := by decide +kernel
theorem four_ok : ∀ z ∈ fourW, NmOk z := by decide +kernel
theorem perm_str {ys : List V} {ws : List Str} (h : ys.Perm (ws.map V.str)) : ∃ zs : List Str, ys = zs.map V.str ∧ zs.Perm ws := by
  refine ⟨ys.map unS, ?_, ?_⟩
  · rw [List.map_map]
    have : ∀ y ∈ ys, (V.str ∘ unS) y = y := fun y hy => by
      obtain ⟨z, _, rfl⟩ := List.mem_map.mp (h.mem_iff.mp hy)
      rfl
    exact ((List.map_congr_left this).trans (List.map_id' ys)).symm
  · have := h.map unS
    rw [List.map_map] at this
    have e : ws.map (unS ∘ V.str) = ws := (List.map_congr_left fun _ _ => rfl).trans (List.map_id' ws)
    rw [e] at this
    exact this
theorem SameS.free {H H' : Hp} {st c b : Addr} {k : Nat} (s : SameS st c H H') (S : Strm H' st c k) (e : H' b = none) : H b = none := by
  obtain ⟨n1, n2⟩ := S.fresh e
  cases q : H b with
  | none => rfl
  | some o => rw [s b o n1 n2 q] at e; cases e
theorem SameS.wo2 {H H' : Hp} {st c f : Addr} (s : SameS st c H H') : Same (wo (Gw.ws H st c) f) (wo (Gw.ws H' st c) f) := wo_same s.ws
theorem SameS.wo3 {H H' : Hp} {st c f r : Addr} (s : SameS st c H H') : Same (wo (wo (Gw.ws H st c) f) r) (wo (wo (Gw.ws H' st c) f) r) := wo_same (wo_same s.ws)
theorem ws_upd {H : Hp} {st c a : Addr} {o : HO} (n : a ≠ st) (m : a ≠ c) : ws (upd H a o) st c = upd (ws H st c) a o := by
  funext b
  show (if b = c then none else if b = st then none else if b = a then some o else H b) = if b = a then some o else if b = c then none else if b = st then none else H b
  by_cases h1 : b = a
  · rw [h1, if_neg m, if_neg n, if_pos rfl, if_pos rfl]
  · rw [if_neg h1, if_neg h1]
theorem wo_upd' {H : Hp} {a r : Addr} {o : HO} (n : a ≠ r) : wo (upd H a o) r = upd (wo H r) a o := by
  funext b
  show (if b = r then none else if b = a then some o else H b) = if b = a then some o else if b = r then none else H b
  by_cases h1 : b = a
  · rw [h1, if_neg n, if_pos rfl, if_pos rfl]
  · rw [if_neg h1, if_neg h1]
section
variable {P : Program} {w : World} {K : PySem.W.Frag} {mg : Str → Option Value} {base : Heap}
/-! ### _law_a_plan -/
def PlanS (H : Hp) (st c a : Addr) (Pl : Plan Str) : Prop := PlanU (ws H st c) a Pl
theorem PlanS.mono {H H' : Hp} {st c a : Addr} {Pl : Plan Str} (h : PlanS H st c a Pl) (s : SameS st c H H') : PlanS H' st c a Pl := PlanU.mono h s.ws
theorem PlanS.u {H : Hp} {st c a : Addr} {Pl : Plan Str} (h : PlanS H st c a Pl) : PlanU H a Pl := PlanU.mono h ws_to
def spAPlan : Sp := fun vs H Q _ => ∃ (st c : Addr) (k : Nat) (wide : Int), vs = [.ref st, .int 4, .int 3, .int wide] ∧ Strm H st c k ∧ k ≤ 70000 ∧ 1 ≤ wide ∧ wide ≤ 10 ^ 12 ∧
  ∀ (H' : Hp) (a : Addr) (Pl : Plan Str), SameS st c H H' → H a = none → PlanS H' st c a Pl → PlOk Pl → Pl.length ≤ 4 → Strm H' st c (k + 100) → Q (.ref a) H'
theorem scAPlan : FnScope ["_law_stream", "_law_many", "_law_moves", "_law_wide", "_law_names_here", "_law_found", "_law_name_here", "_law_row", "_law_word"] ["_law_stream", "_law_many", "_law_moves", "_law_wide"] (defScope sAPlan) := ⟨rfl, rfl, rfl, by decide +kernel, rfl, by decide +kernel, by decide +kernel⟩
theorem ok_aplan (DP : Df K mg "_law_a_plan" sAPlan ["_law_stream", "_law_many", "_law_moves", "_law_wide"]) (D : DS K mg) (B : Blt mg) : FnOk P w K mg base CX0 5 DP.f DP.fd ["_law_stream", "_law_many", "_law_moves", "_law_wide"] spAPlan := by
  have GD : FnOk P w K mg base CX0 1 D.draw.f D.draw.fd ["_law_stream", "_law_many"] spDraw := ok_draw D.draw B
  have GP : FnOk P w K mg base CX0 2 D.pick.f D.pick.fd ["_law_stream", "_law_some"] spPick := ok_pick D B
  have GM : FnOk P w K mg base CX0 2 D.mixed.f D.mixed.fd ["_law_stream", "_law_some"] spMixed := ok_mixed D B
  have GN : FnOk P w K mg base CX0 4 D.names.f D.names.fd ["_law_stream", "_law_many"] spNames := ok_names D B
  refine DP.F.ok scAPlan (fun vs H Q E h => ?_) (fun cdv A outer s H vs Q E hr h => ?_)
  · obtain ⟨st, c, k, wide, rfl, _⟩ := h
    rfl
  · obtain ⟨st, c, k, wide, rfl, S, hk, w1, w2, q⟩ := h
    have hu := hu_of hr
    have r1 : Room 1 _ := hr.mono (by decide)
    have r2 : Room 2 _ := hr.mono (by decide)
    refine ⟨_, pss_cons (ps_set (i := 4) scAPlan.nd rfl (.inl rfl) (pe_call GN hr rfl D.names.m D.names.F.kp D.names.b .nil pass0 (pa_cons (pv 0) (pa_cons (pe_op op_add pe_int (pe_call GD r1 rfl D.draw.m D.draw.F.kp D.draw.b .nil pass0 (pa_cons (pv 0) (pa_cons (pv 1) pa_nil)))) pa_nil))))
      (pss_cons (ps_set (i := 5) scAPlan.nd rfl (.inl rfl) pe_dnewK)
      (pss_cons (ps_for PassesOwn.never rfl (pi_list (pv 4)) (pg_name (i := 6) scAPlan.nd rfl (.inl rfl))
        (pss_cons (ps_set (i := 7) scAPlan.nd rfl (.inl rfl) pe_dnewK)
        (pss_cons (ps_for PassesOwn.never rfl (pi_list (pe_slice sl_list (pe_call GM r2 rfl D.mixed.m D.mixed.F.kp D.mixed.b .nil pass0 (pa_cons (pv 0) (pa_cons (pe_lst (pa_cons pe_str (pa_cons pe_str (pa_cons pe_str (pa_cons pe_str pa_nil))))) pa_nil))) po_none
            (po_some (pe_op op_add pe_int (pe_call GD r1 rfl D.draw.m D.draw.F.kp D.draw.b .nil pass0 (pa_cons (pv 0) (pa_cons (pv 2) pa_nil))))))) (pg_name (i := 8) scAPlan.nd rfl (.inl rfl))
          (pss_one (ps_dput hu (pv 7) (pv 8) (pe_tup (pa_cons (pe_call GP r2 rfl D.pick.m D.pick.F.kp D.pick.b .nil pass0 (pa_cons (pv 0) (pa_cons (pv 4) pa_nil)))
            (pa_cons (pe_op op_sub (pe_call GD r1 rfl D.draw.m D.draw.F.kp D.draw.b .nil pass0 (pa_cons (pv 0) (pa_cons (pe_op op_add (pe_op op_mul pe_int (pv 3)) pe_int) pa_nil))) (pv 3)) pa_nil))) rfl)))
        (pss_one (ps_dput hu (pv 5) (pv 6) (pe_tup (pa_cons (pe_call GP r2 rfl D.pick.m D.pick.F.kp D.pick.b .nil pass0 (pa_cons (pv 0) (pa_cons (pe_lst (pa_cons pe_str (pa_cons pe_str pa_nil))) pa_nil))) (pa_cons (pv 7) pa_nil))) rfl)))))
      (pss_one (ps_ret (pv 5))))), ?_⟩
    refine ⟨_, rfl, _, rfl, _, rfl, st, c, 4, k, rfl, S, by decide, by decide, by omega, fun H1 r r0 r4 s1 S1 => ?_⟩
    refine ⟨_, _, rfl, rfl, st, c, k + 1, 1 + r, rfl, S1, by omega, by omega, by omega, fun H2 nl zs s2 hnl hnl2 zl znd zok S2 => ?_⟩
    have nlst := S1.fresh hnl
    intro f hf
    have hfz := S2.fresh hf
    have hnlf : nl ≠ f := fun z => by rw [z, hf] at hnl2; cases hnl2
    have znl : zs.length ≤ 4 := by omega
    have s3 : SameS st c H (upd H2 f (.dK [])) := own_ss (s1.trans s2) ((s1.trans s2).free S2 hf)
    have S3 := S2.mono (same_upd (o := .dK []) hf)
    have hnl3 : (upd H2 f (.dK [])) nl = some (.lst (zs.map V.str)) := by rw [upd_ne hnlf]; exact hnl2
    have hf3 : (upd H2 f (.dK [])) f = some (.dK []) := upd_same
    have hfH := (s1.trans s2).free S2 hf
    generalize upd H2 f (.dK []) = H3 at s3 S3 hnl3 hf3 ⊢
    refine ⟨_, rfl, nl, rfl, ⟨_, SqL.of hnl3⟩, for_list (K := K) (a := nl) (xs := zs.map V.str) (fun i σ H4 => ∃ v6 v7 v8 kvs Pi, σ = [some (.ref st), some (.int 4), some (.int 3), some (.int wide), some (.ref nl), some (.ref f), v6, v7, v8] ∧ SameS st c H H4 ∧ H4 nl = some (.lst (zs.map V.str)) ∧ Strm H4 st c (k + 37 + 12 * i) ∧ H4 f = some (.dK kvs) ∧ Tb (PlV (wo (ws H4 st c) f)) kvs Pi ∧ GW.keys Pi = zs.take i ∧ ∀ p ∈ Pi, RowOk zs p.2.2)
      ⟨none, none, none, [], [], rfl, s3, hnl3, S3.le (by omega), hf3, .nil, by rw [List.take_zero]; rfl, fun _ h => by cases h⟩ (fun i σ H4 _ hP => let ⟨_, _, _, _, _, _, _, h, _⟩ := hP; SqL.of h) (fun i x σ H4 hx hP => ?_) (fun σ H4 hP => ?_)⟩
    · obtain ⟨v6, v7, v8, kvs, Pi, rfl, s4, hnl4, S4, hf4, tb4, k4, o4⟩ := hP
      obtain ⟨n, hn⟩ : ∃ n, zs[i]? = some n := by
        rw [List.getElem?_map] at hx
        cases e : zs[i]? with
        | none => rw [e] at hx; cases hx
        | some n => exact ⟨n, rfl⟩
      have ex : x = .str n := by
        rw [List.getElem?_map, hn] at hx
        exact (Option.some.inj hx).symm
      subst ex
      have hi : i < zs.length := (List.getElem?_eq_some_iff.mp hn).1
      intro r hr
      have nrs := S4.fresh hr
      have hrH := s4.free S4 hr
      have nrf : r ≠ f := fun z => by rw [z, hf4] at hr; cases hr
      have nrl : r ≠ nl := fun z => by rw [z, hnl4] at hr; cases hr
      have t45 : Same H4 (upd H4 r (.dK [])) := same_upd hr
      have hr5 : (upd H4 r (.dK [])) r = some (.dK []) := upd_same
      generalize upd H4 r (.dK []) = H5 at t45 hr5 ⊢
      refine ⟨_, rfl, by show 4 ≤ sizeLine; decide, fun p4 hp4 => ?_⟩
      have t46 := t45.trans (same_upd (o := .lst [.str "x", .str "y.1", .str "go", .str "z"]) hp4)
      have hr6 := (same_upd (o := .lst [.str "x", .str "y.1", .str "go", .str "z"]) hp4) _ _ hr5
      have hp6 : (upd H5 p4 (.lst [.str "x", .str "y.1", .str "go", .str "z"])) p4 = some (.lst (fourW.map V.str)) := upd_same
      generalize upd H5 p4 (.lst [.str "x", .str "y.1", .str "go", .str "z"]) = H6 at t46 hr6 hp6 ⊢
      refine ⟨st, c, _, p4, _, rfl, S4.mono t46, by omega, hp6, by decide, fun H7 Dm ys s7 hDm hDm7 pm S7 => ?_⟩
      obtain ⟨w4, rfl, pw4⟩ := perm_str pm
      have nDm := (S4.mono t46).fresh hDm
      refine ⟨_, rfl, _, rfl, st, c, 3, _, rfl, S7, by decide, by decide, by show k + 37 + 12 * i + 4 ≤ 100000; omega, fun H8 r' r'0 r'3 s8 S8 => ?_⟩
      obtain ⟨m', rfl⟩ := Int.eq_ofNat_of_zero_le r'0
      refine ⟨_, _, rfl, rfl, ((1 + m' : Nat) : Int), by show V.int (1 + (m' : Int)) = _; congr 1, Dm, _, rfl, SqL.of (s8 _ _ nDm.1 nDm.2 hDm7), fun sl hsl => ?_⟩
      rw [cut_take, ← List.map_take]
      have hsl9 : (upd H8 sl (.lst ((w4.take (1 + m')).map V.str))) sl = some (.lst ((w4.take (1 + m')).map V.str)) := upd_same
      have S9 := S8.mono (same_upd (o := .lst ((w4.take (1 + m')).map V.str)) hsl)
      have s49 : SameS st c H4 (upd H8 sl (.lst ((w4.take (1 + m')).map V.str))) := ((Same.ss t46).trans s7).trans (s8.trans (Same.ss (same_upd hsl)))
      have hr9 : (upd H8 sl (.lst ((w4.take (1 + m')).map V.str))) r = some (.dK []) := same_upd hsl _ _ (s8 _ _ nrs.1 nrs.2 (s7 _ _ nrs.1 nrs.2 hr6))
      have nsl := S8.fresh hsl
      generalize upd H8 sl (.lst ((w4.take (1 + m')).map V.str)) = H9 at hsl9 S9 s49 hr9 ⊢
      have w4nd : (w4.take (1 + m')).Nodup := (List.take_sublist _ _).nodup (pw4.nodup_iff.mpr four_nd)
      have w4ok : ∀ z ∈ w4.take (1 + m'), NmOk z := fun z hz => four_ok z (pw4.mem_iff.mp (List.mem_of_mem_take hz))
      have w4l : (w4.take (1 + m')).length = 1 + m' := by
        rw [List.length_take, pw4.length_eq]
        show min (1 + m') 4 = _
        omega
      generalize w4.take (1 + m') = wl at hsl9 w4nd w4ok w4l ⊢
      have nsr : sl ≠ r := ne_of hsl9 hr9 (by intro z; cases z)
      have hf9 := s49 _ _ hfz.1 hfz.2 hf4
      have nsf : sl ≠ f := ne_of hsl9 hf9 (by intro z; cases z)
      refine ⟨sl, rfl, ⟨_, SqL.of hsl9⟩, for_list (K := K) (a := sl) (xs := wl.map V.str) (fun j σ H10 => ∃ v8 kr R, σ = [some (.ref st), some (.int 4), some (.int 3), some (.int wide), some (.ref nl), some (.ref f), some (.str n), some (.ref r), v8] ∧ SameS st c H4 H10 ∧ H10 sl = some (.lst (wl.map V.str)) ∧ Strm H10 st c (k + 37 + 12 * i + 5 + 2 * j) ∧ H10 r = some (.dK kr) ∧ Tb (MvV (wo (wo (ws H10 st c) f) r)) kr R ∧ GW.keys R = wl.take j ∧ ∀ m ∈ R, NmOk m.1 ∧ NmOk m.2.1 ∧ m.2.1 ∈ zs)
        ⟨v8, [], [], rfl, s49, hsl9, S9, hr9, .nil, by rw [List.take_zero]; rfl, fun _ h => by cases h⟩ (fun j σ H10 _ hP => let ⟨_, _, _, _, _, h, _⟩ := hP; SqL.of h) (fun j x σ H10 hx hP => ?_) (fun σ H10 hP => ?_)⟩
      · obtain ⟨v8, kr, R, rfl, s10, hsl10, S10, hr10, tr10, k10, o10⟩ := hP
        obtain ⟨wd, hwd⟩ : ∃ wd, wl[j]? = some wd := by
          rw [List.getElem?_map] at hx
          cases e : wl[j]? with
          | none => rw [e] at hx; cases hx
          | some n => exact ⟨n, rfl⟩
        have ex : x = .str wd := by
          rw [List.getElem?_map, hwd] at hx
          exact (Option.some.inj hx).symm
        subst ex
        have hj : j < wl.length := (List.getElem?_eq_some_iff.mp hwd).1
        have hnl10 := s10 _ _ nlst.1 nlst.2 hnl4
        have zne : zs.map V.str ≠ [] := fun z => by
          have := congrArg List.length z
          rw [List.length_map] at this
          rw [this] at hi; exact absurd hi (Nat.not_lt_zero _)
        refine ⟨_, rfl, _, rfl, st, c, _, .ref nl, rfl, S10, by omega, .inl ⟨nl, _, rfl, hnl10, nlst.1, nlst.2, zne, by rw [List.length_map]; omega, fun H11 v hv s11 S11 => ?_⟩⟩
        obtain ⟨tn, htn, rfl⟩ := List.mem_map.mp hv
        refine ⟨_, rfl, _, rfl, _, _, rfl, rfl, .inl ⟨by decide, by decide⟩, _, _, rfl, rfl, st, c, _, _, rfl, S11, by omega, by omega, by omega, fun H12 r2 _ _ s12 S12 => ?_⟩
        refine ⟨_, rfl, _, _, rfl, rfl, by show 2 ≤ sizeLine; decide, fun t ht => ?_⟩
        have hr12 := s12 _ _ nrs.1 nrs.2 (s11 _ _ nrs.1 nrs.2 hr10)
        have ht13 : (upd H12 t (.tup [.str tn, .int (r2 - wide)])) t = some (.tup [.str tn, .int (r2 - wide)]) := upd_same
        have t13 : Same H12 (upd H12 t (.tup [.str tn, .int (r2 - wide)])) := same_upd ht
        have nt := S12.fresh ht
        generalize upd H12 t (.tup [.str tn, .int (r2 - wide)]) = H13 at ht13 t13 ⊢
        have hr13 := t13 _ _ hr12
        have krl : kr.length = j := by
          rw [tr10.len]
          have := congrArg List.length k10
          rw [List.length_map, List.length_take] at this
          omega
        have s413 : SameS st c H10 H13 := (s11.trans s12).trans (Same.ss t13)
        have ntr : t ≠ r := ne_of ht13 hr13 (by intro z; cases z)
        have hf13 := s413 _ _ hfz.1 hfz.2 (s10 _ _ hfz.1 hfz.2 hf4)
        have ntf : t ≠ f := ne_of ht13 hf13 (by intro z; cases z)
        have fresh : valV kr (Sum.inr wd : Key) = none := tr10.no (look_none.mpr (by
          rw [k10]
          intro hm
          obtain ⟨j2, hj2, ej2⟩ := List.mem_iff_getElem.mp hm
          rw [List.length_take] at hj2
          rw [List.getElem_take] at ej2
          have e1 : wl[j2]? = some wd := by rw [List.getElem?_eq_getElem (by omega), ej2]
          have := nd_ix w4nd e1 hwd
          omega))
        refine ⟨_, rfl, _, rfl, r, _, rfl, DPut.k (k := Sum.inr wd) hr13 (small _ (by omega)), ?_⟩
        refine ⟨_, _, R ++ [(wd, (tn, r2 - wide))], rfl, own_ss (s10.trans s413) hr, ?_, ?_, upd_same, ?_, ?_, ?_⟩
        · rw [upd_ne nsr]; exact s413 _ _ nsl.1 nsl.2 hsl10
        · exact (own_strm (S12.mono t13) nrs.1 nrs.2).le (by omega)
        · rw [putK_new _ fresh, ws_upd nrs.1 nrs.2, wo_upd' nrf, wo_upd]
          refine (tr10.mono fun _ _ q => q.mono s413.wo3).app (.cons ⟨rfl, t, rfl, wo_of (wo_of (ws_of ht13 nt.1 nt.2) ntf) ntr⟩ .nil)
        · unfold GW.keys at k10 ⊢
          rw [List.map_append, k10, List.take_add_one, hwd]; rfl
        · intro m hm
          rcases List.mem_append.mp hm with hm | hm
          · exact o10 m hm
          · have : m = (wd, (tn, r2 - wide)) := by simpa using hm
            rw [this]
            exact ⟨w4ok wd (List.mem_of_getElem? hwd), zok tn htn, htn⟩
      · obtain ⟨v8, kr, R, rfl, s10, hsl10, S10, hr10, tr10, k10, o10⟩ := hP
        have e0 : (wl.map V.str).length = wl.length := List.length_map ..
        rw [e0] at k10 S10
        rw [List.take_length] at k10
        have Rl : R.length = wl.length := by
          have := congrArg List.length k10
          rw [List.length_map] at this
          exact this
        refine ⟨_, rfl, by show 2 ≤ sizeLine; decide, fun pl hpl => ?_⟩
        have npl := S10.fresh hpl
        have t11 : Same H10 (upd H10 pl (.lst [.str "ours", .str "theirs"])) := same_upd hpl
        have hpl11 : (upd H10 pl (.lst [.str "ours", .str "theirs"])) pl = some (.lst [.str "ours", .str "theirs"]) := upd_same
        generalize upd H10 pl (.lst [.str "ours", .str "theirs"]) = H11 at t11 hpl11 ⊢
        refine ⟨st, c, _, .ref pl, rfl, S10.mono t11, by omega, .inl ⟨pl, _, rfl, hpl11, npl.1, npl.2, by simp, by show 2 ≤ 1000; decide, fun H12 v hv s12 S12 => ?_⟩⟩
        obtain ⟨b, rfl⟩ : ∃ b, v = .str (sideS b) := by
          rcases List.mem_cons.mp hv with e | e
          · exact ⟨true, e⟩
          · exact ⟨false, List.mem_singleton.mp e⟩
        refine ⟨_, rfl, by show 2 ≤ sizeLine; decide, fun qa hqa => ?_⟩
        have nq := S12.fresh hqa
        have t13 : Same H12 (upd H12 qa (.tup [.str (sideS b), .ref r])) := same_upd hqa
        have hq13 : (upd H12 qa (.tup [.str (sideS b), .ref r])) qa = some (.tup [.str (sideS b), .ref r]) := upd_same
        generalize upd H12 qa (.tup [.str (sideS b), .ref r]) = H13 at t13 hq13 ⊢
        have s413 : SameS st c H10 H13 := ((Same.ss t11).trans s12).trans (Same.ss t13)
        have hf13 := s413 _ _ hfz.1 hfz.2 (s10 _ _ hfz.1 hfz.2 hf4)
        have nqf : qa ≠ f := ne_of hq13 hf13 (by intro z; cases z)
        have hr13 := s413 _ _ nrs.1 nrs.2 hr10
        have kl : kvs.length = i := by
          rw [tb4.len]
          have := congrArg List.length k4
          rw [List.length_map, List.length_take] at this
          omega
        have fresh : valV kvs (Sum.inr n : Key) = none := tb4.no (look_none.mpr (by
          rw [k4]
          intro hm
          obtain ⟨j2, hj2, ej2⟩ := List.mem_iff_getElem.mp hm
          rw [List.length_take] at hj2
          rw [List.getElem_take] at ej2
          have e1 : zs[j2]? = some n := by rw [List.getElem?_eq_getElem (by omega), ej2]
          have := nd_ix znd e1 hn
          omega))
        refine ⟨_, rfl, _, rfl, f, _, rfl, DPut.k (k := Sum.inr n) hf13 (small _ (by omega)), ?_⟩
        refine ⟨_, _, _, _, Pi ++ [(n, (b, R))], rfl, own_ss (s4.trans (s10.trans s413)) hfH, ?_, ?_, upd_same, ?_, ?_, ?_⟩
        · rw [upd_ne hnlf]; exact s413 _ _ nlst.1 nlst.2 (s10 _ _ nlst.1 nlst.2 hnl4)
        · exact (own_strm (S12.mono t13) hfz.1 hfz.2).le (by omega)
        · rw [putK_new _ fresh, ws_upd hfz.1 hfz.2, wo_upd]
          refine (tb4.mono fun _ _ q => q.mono (s10.trans s413).wo2).app (.cons ⟨rfl, qa, r, kr, rfl, wo_of (ws_of hq13 nq.1 nq.2) nqf, wo_of (ws_of hr13 nrs.1 nrs.2) nrf, ?_⟩ .nil)
          exact tr10.mono fun _ _ q => q.mono fun b' o e => s413.wo2 _ _ (wo_le e).1
        · unfold GW.keys at k4 ⊢
          rw [List.map_append, k4, List.take_add_one, hn]; rfl
        · intro p hp
          rcases List.mem_append.mp hp with hp | hp
          · exact o4 p hp
          · have : p = (n, (b, R)) := by simpa using hp
            rw [this]
            refine ⟨fun z => ?_, ?_, ?_, o10⟩
            · have z' : R = [] := z
              rw [z'] at Rl
              have : (0 : Nat) = wl.length := Rl
              omega
            · show R.length ≤ 3
              omega
            · show (GW.keys R).Nodup
              rw [k10]; exact w4nd
    · obtain ⟨v6, v7, v8, kvs, Pi, rfl, s4, hnl4, S4, hf4, tb4, k4, o4⟩ := hP
      rw [List.length_map] at k4 S4
      rw [List.take_length] at k4
      have Pl4 : Pi.length ≤ 4 := by
        have := congrArg List.length k4
        rw [List.length_map] at this
        omega
      refine ⟨_, rfl, q H4 f Pi s4 hfH ⟨kvs, ws_of hf4 hfz.1 hfz.2, tb4⟩ ⟨by rw [k4]; exact znd, fun z => ?_, by omega, fun p hp => ?_, fun p hp => ?_⟩ Pl4 (S4.le (by omega))⟩
      · rw [z] at k4
        have k4' : [] = zs := k4
        rw [← k4'] at zl
        have : ((0 : Nat) : Int) = 1 + r := zl
        omega
      · exact zok p.1 (by rw [← k4]; exact List.mem_map_of_mem (f := (·.1)) hp)
      · rw [k4]; exact o4 p hp
end
end Gw

set_option Elab.async false
set_option linter.all false
set_option maxRecDepth 100000
set_option maxHeartbeats 4000000
namespace Gw
open PySem PySem.Spec PyProof.Rows L2 GW
theorem merge_new : ∀ (more acc : List (Key × V)), ((acc ++ more).map (·.1)).Nodup → mergeK acc more = acc ++ more
  | [], acc, _ => by rw [List.append_nil]; rfl
  | p :: r, acc, h => by
    have hn : valV acc p.1 = none := by
      cases e : valV acc p.1 with
      | none => rfl
      | some v =>
        have h1 := valV_in e
        rw [List.map_append, List.nodup_append] at h
        exact absurd rfl (h.2.2 p.1 h1 p.1 (by simp))
    show mergeK (putK acc p.1 p.2) r = _
    rw [putK_new _ hn]
    have e1 : acc ++ p :: r = (acc ++ [(p.1, p.2)]) ++ r := by rw [List.append_assoc]; rfl
    rw [e1] at h ⊢
    exact merge_new r _ h
abbrev strK (σ : List (Str × Str)) : List (Key × V) := σ.map fun q => ((Sum.inr q.1 : Key), V.str q.2)
theorem strK_keys (σ : List (Str × Str)) : (strK σ).map (·.1) = (GW.keys σ).map Sum.inr := by
  unfold strK GW.keys
  rw [List.map_map, List.map_map]; rfl
theorem strK_nd {σ : List (Str × Str)} (h : (GW.keys σ).Nodup) : ((strK σ).map (·.1)).Nodup := by
  rw [strK_keys]
  exact List.Pairwise.map _ (fun x y h z => h (Sum.inr.inj z)) h
theorem take_new {Pl : Plan Str} (ok : PlOk Pl) {i : Nat} {p : Str × (Bool × Row Str)} (hp : Pl[i]? = some p) : p.1 ∉ GW.keys (Pl.take i) := by
  have nd := ok.nd
  rw [← List.take_append_drop i Pl] at nd
  have hd2 : p ∈ Pl.drop i := by
    have hlt := (List.getElem?_eq_some_iff.mp hp).1
    rw [List.drop_eq_getElem_cons hlt]
    have e5 : Pl[i] = p := (List.getElem?_eq_some_iff.mp hp).2
    rw [e5]; simp
  unfold GW.keys at nd ⊢
  rw [List.map_append, List.nodup_append] at nd
  exact fun z => nd.2.2 p.1 z p.1 (List.mem_map_of_mem (f := (·.1)) hd2) rfl
theorem plan_keys_in {Pl : Plan Str} {b : Bool} {σ : List (Str × Str)} (h : σ ∈ plansM Pl b) {n : Str} (hn : n ∈ GW.keys σ) : n ∈ GW.keys Pl := by
  rw [plans_keys b Pl σ h] at hn
  obtain ⟨p, hp, e⟩ := List.mem_map.mp hn
  rw [← e]
  exact List.mem_map_of_mem (f := (·.1)) (List.mem_filter.mp hp).1
theorem plan_nodup {Pl : Plan Str} (nd : (GW.keys Pl).Nodup) {b : Bool} {σ : List (Str × Str)} (h : σ ∈ plansM Pl b) : (GW.keys σ).Nodup := by
  rw [plans_keys b Pl σ h]
  exact (List.filter_sublist.map _).nodup nd
theorem sides {b c : Bool} : (sideS b = sideS c) ↔ b = c := by cases b <;> cases c <;> decide +kernel
section
variable {P : Program} {w : World} {K : PySem.W.Frag} {mg : Str → Option Value} {base : Heap}
/-! ### _law_a_plans -/
def spAPlans : Sp := fun vs H Q _ => ∃ (a : Addr) (b : Bool) (Pl : Plan Str), vs = [.ref a, .str (sideS b)] ∧ PlanU H a Pl ∧ PlOk Pl ∧ ∀ H' l, Same H H' → Plans H H' l (plansM Pl b) → Q (.ref l) H'
theorem scAPlans : FnScope ["_law_plan", "_law_side", "_law_found", "_law_name_here", "_law_longer", "_law_one", "_law_word"] ["_law_plan", "_law_side"] (defScope sAPlans) := ⟨rfl, rfl, rfl, by decide +kernel, rfl, by decide +kernel, by decide +kernel⟩
def rDictP (K : PySem.W.Frag) : List V → Hp → VK → Prop := fun xs H Q => ∃ (a : Addr) (ps : List Addr) (kvs : List (Key × V)), xs = [.ref a] ∧ SqL K H a (ps.map V.ref) ∧ Paired (fun p kv => SqT K H p [kV kv.1, kv.2]) ps kvs ∧ ∀ p, H p = none → Q (.ref p) (upd H p (.dK (mergeK [] kvs)))
theorem ok_aplans (D : Df K mg "_law_a_plans" sAPlans ["_law_plan", "_law_side"]) (B : Blt mg) : FnOk P w K mg base CX0 1 D.f D.fd ["_law_plan", "_law_side"] spAPlans := by
  refine D.F.ok scAPlans (fun vs H Q E h => ?_) (fun cdv A outer s H vs Q E hr h => ?_)
  · obtain ⟨a, b, Pl, rfl, _⟩ := h
    rfl
  · obtain ⟨a, b, Pl, rfl, PU, ok, k⟩ := h
    have hu := hu_of hr
    refine ⟨_, pss_cons (ps_set (i := 2) scAPlans.nd rfl (.inl rfl) (pe_lst (pa_cons pe_dnewK pa_nil)))
      (pss_cons (ps_lock (ps_for PassesOwn.never rfl (pi_keys (pv 0)) (pg_name (i := 3) scAPlans.nd rfl (Or.inr rfl))
        (pss_one (ps_if (pt_cmpR op_eq (pe_ix ix_tup (pe_dget hu (pv 0) (pv 3) (fun _ _ => rfl)) pe_int (fun _ _ => rfl)) (pv 1) (nomark _))
          (pss_cons (ps_set (i := 4) scAPlans.nd rfl (.inl rfl) (pe_lst pa_nil))
          (pss_cons (ps_for PassesOwn.never rfl (pi_list (pv 2)) (pg_name (i := 5) scAPlans.nd rfl (Or.inr rfl))
            (pss_one (ps_expr (pe_bm PySem.F.plainAttrs_list PySem.F.slot_list_extend PySem.F.type_list_extend mt_extend (pv 4) (pa_cons
              (pe_lock (pe_lc (own := [("_law_word", 6)]) (g := gName 6) (tt := tYes) (by rfl) scAPlans.nd (pi_keys (pe_ix ix_tup (pe_dget hu (pv 0) (pv 3) (fun _ _ => rfl)) pe_int (fun _ _ => rfl)))
                (blkOk_by (N := ["_law_plan", "_law_side", "_law_found", "_law_name_here", "_law_longer", "_law_one", "_law_word"]) (sc := defScope sAPlans) (by decide +kernel))
                (fun _ _ _ _ _ => pg_name (i := 6) scAPlans.nd rfl (Or.inl rfl)) (fun _ _ _ _ _ => pts_nil)
                (fun _ _ _ _ _ => pe_callTy (r := rDictP K) (call_dictP rfl) (by rfl) B.dict PyProof.Rows.boot_dict (pa_cons (pe_op op_cat (LiI.pe_listItems rfl (pv 5) (by rfl) B.list PyProof.Rows.boot_list) (pe_lst (pa_cons (pe_tup (pa_cons (pv 3) (pa_cons (pv 6) pa_nil))) pa_nil))) pa_nil)))) pa_nil)))))
          (pss_one (ps_set (i := 2) scAPlans.nd rfl (.inl rfl) (pv 4))))) pss_nil))))
      (pss_one (ps_ret (pv 2)))), ?_⟩
    obtain ⟨kvs, ha, tb⟩ := id PU
    refine fun e he => ⟨by show 1 ≤ sizeLine; decide, fun l hl => ?_⟩
    have s1 : Same H (upd (upd H e (.dK [])) l (.lst [.ref e])) := s_upd (same_upd he) hl
    have pl0 : Plans H (upd (upd H e (.dK [])) l (.lst [.ref e])) l (plansM (Pl.take 0) b) := ⟨[e], upd_same, .cons (by show _ = _; rw [upd_ne (ne_of_none upd_same hl), upd_same]; rfl) .nil, fun a ha => by
      have : a = e := by simpa using ha
      rw [this]; exact he⟩
    generalize upd (upd H e (.dK [])) l (.lst [.ref e]) = H1 at s1 pl0 ⊢
    have ha1 := s1 _ _ ha
    have lk : kvs.length = Pl.length := tb.len
    refine ⟨a, _, ha1, True.intro, fun od => ⟨_, rfl, a, od, rfl, .inl ⟨kvs, upd_same, for_it walk_keys (fun i σ H2 => ∃ l v3 v4 v5, σ = [some (.ref a), some (.str (sideS b)), some (.ref l), v3, v4, v5, none] ∧ Same (upd H1 a (.frz od (.dK kvs))) H2 ∧ Plans H H2 l (plansM (Pl.take i) b))
      ⟨l, none, none, none, rfl, Same.refl _, ?_⟩ (fun i σ H2 _ hP => let ⟨_, _, _, _, _, s2, _⟩ := hP; s2 _ _ upd_same) (fun i x σ H2o H2 hi hP hY => ?_) (fun σ H2 hP => ?_)⟩⟩⟩
    · obtain ⟨as, h1, h2, h3⟩ := pl0
      refine ⟨as, by rw [upd_ne (ne_of h1 ha1 (by intro z; cases z))]; exact h1, paired_mem h2 fun x y hx q => ?_, h3⟩
      have : x ≠ a := fun z => by have := h3 x hx; rw [z, ha] at this; cases this
      show _ = _
      rw [upd_ne this]; exact q
    · obtain ⟨l, v3, v4, v5, rfl, s2, as, has, pas, nas⟩ := hP
      obtain ⟨rfl, key, vp, hkv, rfl⟩ := hY
      obtain ⟨p, hp, ekey, t, dr, kvr, evp, ht, hdr, tr⟩ := tb.at hkv
      simp only at ekey evp
      subst ekey evp
      have hmem := List.mem_of_getElem? hp
      have wk : Same (wo H a) H2 := fun b o q => by
        obtain ⟨q1, n1⟩ := wo_le q
        exact s2 b o (by rw [upd_ne n1]; exact s1 _ _ q1)
      have ht2 := wk _ _ ht
      have hdr2 := wk _ _ hdr
      have ha2 : H2 a = some (.frz od (.dK kvs)) := s2 _ _ upd_same
      have knd : (kvs.map (·.1)).Nodup := by
        rw [tb.keys]
        exact List.Pairwise.map _ (fun x y h z => h (Sum.inr.inj z)) ok.nd
      have gt : ∀ H', Rd H' a (.dK kvs) → DGet H' a (.str p.1) (some (.ref t)) := fun H' r => .inl ⟨kvs, Sum.inr p.1, r, rfl, (valV_at knd hkv).symm⟩
      have tk : Pl.take (i + 1) = Pl.take i ++ [p] := by rw [List.take_add_one, hp]; rfl
      refine ⟨_, rfl, _, rfl, a, _, rfl, gt _ (.inr ⟨od, ha2⟩), t, _, _, _, rfl, rfl, SqT.of ht2, pr_0, _, rfl, rfl, _, rfl, ite2 (fun c => ?_) (fun c => ?_)⟩
      · have c1 : p.2.1 = b := sides.mp (V.str.inj (of_decide_eq_true c))
        have eqn : plansM (Pl.take (i + 1)) b = (plansM (Pl.take i) b).flatMap (fun one => p.2.2.map fun mv => one ++ [(p.1, mv.1)]) := by rw [tk, plans_step, if_pos c1]
        have lenP := plans_small b ok (i + 1)
        refine ⟨by show 0 ≤ sizeLine; decide, fun lg hlg => ?_⟩
        have s23 : Same H2 (upd H2 lg (.lst [])) := same_upd hlg
        have hlg3 : (upd H2 lg (.lst [])) lg = some (.lst (([] : List Addr).map V.ref)) := upd_same
        generalize upd H2 lg (.lst []) = H3 at s23 hlg3 ⊢
        have back : ∀ H4, Same H2 H4 → ∀ x, H4 x = none → H x = none := fun H4 s4 x hx => by
          cases q : H x with
          | none => rfl
          | some o =>
            by_cases c : x = a
            · rw [c, s4 _ _ ha2] at hx; cases hx
            · rw [s4 _ _ (s2 x o (by rw [upd_ne c]; exact s1 _ _ q))] at hx; cases hx
        refine ⟨_, rfl, l, rfl, ⟨_, SqL.of (s23 _ _ has)⟩, for_list (K := K) (a := l) (xs := as.map V.ref) (fun j σ H4 => ∃ v5, σ = [some (.ref a), some (.str (sideS b)), some (.ref l), some (.str p.1), some (.ref lg), v5, none] ∧ Same H2 H4 ∧ Plans H H4 lg (((plansM (Pl.take i) b).take j).flatMap fun one => p.2.2.map fun mv => one ++ [(p.1, mv.1)]))
          ⟨v5, rfl, s23, [], hlg3, .nil, fun _ h => by cases h⟩ (fun j σ H4 _ hP => let ⟨_, _, s4, _⟩ := hP; SqL.of (s4 _ _ has)) (fun j x σ H4 hx hP => ?_) (fun σ H4 hP => ?_)⟩
        · obtain ⟨v5, rfl, s4, acc, hacc, pacc, nacc⟩ := hP
          obtain ⟨o1, ho1⟩ : ∃ o1, as[j]? = some o1 := by
            rw [List.getElem?_map] at hx
            cases e : as[j]? with
            | none => rw [e] at hx; cases hx
            | some n => exact ⟨n, rfl⟩
          have ex : x = .ref o1 := by
            rw [List.getElem?_map, ho1] at hx
            exact (Option.some.inj hx).symm
          subst ex
          obtain ⟨σ1, hσ, hσo⟩ := paired_at pas ho1
          have hσm := List.mem_of_getElem? hσ
          have hσ4 : StrU H4 o1 σ1 := s4 _ _ hσo
          have hdr4 := s4 _ _ hdr2
          have ht4 := s4 _ _ ht2
          have ha4 := s4 _ _ ha2
          have no1 := nas o1 (List.mem_of_getElem? ho1)
          have no1dr : o1 ≠ dr := fun z => by rw [z, (wo_le hdr).1] at no1; cases no1
          have nad : a ≠ dr := (wo_le hdr).2.symm
          have tk2 : (plansM (Pl.take i) b).take (j + 1) = (plansM (Pl.take i) b).take j ++ [σ1] := by rw [List.take_add_one, hσ]; rfl
          have accl : acc.length + p.2.2.length ≤ 59049 := by
            have e1 := pacc.length
            have hlt := (List.getElem?_eq_some_iff.mp hσ).1
            have e2 : (plansM (Pl.take i) b)[j] = σ1 := (List.getElem?_eq_some_iff.mp hσ).2
            rw [eqn] at lenP
            have e3 := List.take_append_drop j (plansM (Pl.take i) b)
            rw [List.drop_eq_getElem_cons hlt, e2] at e3
            rw [← e3, List.flatMap_append, List.flatMap_cons, List.length_append, List.length_append, List.length_map] at lenP
            omega
          have nlgdr : lg ≠ dr := ne_of hacc hdr4 (by intro z; cases z)
          have back4 := back H4 s4
          refine ⟨_, rfl, .inl ⟨rfl, _, SqL.of hacc⟩, dr, _, hdr4, True.intro, fun od3 => ⟨_, rfl, _, rfl, a, .ref t, rfl, gt _ (.inr ⟨od, by rw [upd_ne nad]; exact ha4⟩), t, _, _, _, rfl, rfl, SqT.of (by rw [upd_ne (ne_of ht4 hdr4 (by intro z; cases z))]; exact ht4), pr_1, dr, od3, rfl, .inl ⟨kvr, upd_same, fun D hD => ?_⟩⟩⟩
          have nDdr : D ≠ dr := fun z => by rw [z, upd_same] at hD; cases hD
          refine lc_it walk_keys (fun m H5 => Same (upd H4 dr (.frz od3 (.dK kvr))) H5 ∧ Plans H H5 D ((p.2.2.take m).map fun mv => σ1 ++ [(p.1, mv.1)]))
            ⟨same_upd hD, [], upd_same, .nil, fun _ h => by cases h⟩ (fun m H5 _ hP => hP.1 _ _ upd_same) (fun m x H5o H5 hm hP hY => ?_) (fun H5 hP => ?_)
          · obtain ⟨s5, ac, hac, pac, nac⟩ := hP
            obtain ⟨rfl, kw, vw, hkw, rfl⟩ := hY
            obtain ⟨mv, hmv, ekw, _⟩ := tr.at hkw
            simp only at ekw
            subst ekw
            have hσ5 : StrU H5 o1 σ1 := s5 _ _ (by rw [upd_ne no1dr]; exact hσ4)
            have back5 : ∀ x, H5 x = none → H x = none := fun x hx => back4 x (by
              cases q : H4 x with
              | none => rfl
              | some o =>
                by_cases c : x = dr
                · rw [c, s5 _ _ upd_same] at hx; cases hx
                · rw [s5 x o (by rw [upd_ne c]; exact q)] at hx; cases hx)
            have σl : σ1.length ≤ 10 := by
              have e7 := congrArg List.length (plans_keys b _ σ1 hσm)
              unfold GW.keys at e7
              rw [List.length_map, List.length_map] at e7
              have e8 := List.length_filter_le (fun q : Str × Bool × Row Str => decide (q.2.1 = b)) (Pl.take i)
              rw [List.length_take] at e8
              have := ok.len
              omega
            have snd : ((strK σ1 ++ [((Sum.inr p.1 : Key), V.str mv.1)]).map (·.1)).Nodup := by
              rw [← str_map]
              refine strK_nd ?_
              unfold GW.keys
              rw [List.map_append, List.nodup_append]
              refine ⟨plan_nodup (Pl := Pl.take i) ((List.take_sublist _ _).map _ |>.nodup ok.nd) hσm, by simp, fun x hx y hy => ?_⟩
              have ey : y = p.1 := by simpa using hy
              rw [ey]
              exact fun z => take_new ok hp (by rw [← z]; exact plan_keys_in hσm hx)
            have aclen : ac.length < 59049 := by
              have e1 := pac.length
              have hm' : m < p.2.2.length := by
                have : kvr.length = p.2.2.length := tr.len
                omega
              rw [List.length_map, List.length_take] at e1
              omega
            refine ⟨rfl, yes_then ⟨_, rfl, o1, strK σ1, rfl, hσ5, fun H6 pp ts s6 hpp hts npt hpp6 pts => ?_⟩⟩
            refine ⟨_, rfl, _, rfl, by show 2 ≤ sizeLine; decide, fun q hq => ⟨by show 1 ≤ sizeLine; decide, fun ll hll => ?_⟩⟩
            have hpp7 := (same_upd (o := .tup [.str p.1, kV (Sum.inr mv.1)]) hq) _ _ hpp6
            have hq7 : (upd H6 q (.tup [.str p.1, kV (Sum.inr mv.1)])) q = some (.tup [.str p.1, .str mv.1]) := upd_same
            have s67 : Same H6 (upd H6 q (.tup [.str p.1, kV (Sum.inr mv.1)])) := same_upd hq
            generalize upd H6 q (.tup [.str p.1, kV (Sum.inr mv.1)]) = H7 at hpp7 hq7 s67 hll ⊢
            have hpp8 := (same_upd (o := .lst [.ref q]) hll) _ _ hpp7
            have hq8 := (same_upd (o := .lst [.ref q]) hll) _ _ hq7
            have hll8 : (upd H7 ll (.lst [.ref q])) ll = some (.lst [.ref q]) := upd_same
            have s68 : Same H6 (upd H7 ll (.lst [.ref q])) := s67.trans (same_upd hll)
            generalize upd H7 ll (.lst [.ref q]) = H8 at hpp8 hq8 hll8 s68 ⊢
            have tsl : ts.length = σ1.length := by rw [pts.length, List.length_map]
            refine ⟨pp, ll, _, _, rfl, rfl, hpp8, hll8, by rw [List.length_map]; exact Nat.le_of_lt (small _ (by show ts.length + 1 ≤ _; omega)), fun cc hcc => ?_⟩
            have s89 : Same H8 (upd H8 cc (.lst (ts.map V.ref ++ [.ref q]))) := same_upd hcc
            have hcc9 : (upd H8 cc (.lst (ts.map V.ref ++ [.ref q]))) cc = some (.lst ((ts ++ [q]).map V.ref)) := by rw [upd_same, List.map_append]; rfl
            generalize upd H8 cc (.lst (ts.map V.ref ++ [.ref q])) = H9 at s89 hcc9 ⊢
            refine ⟨cc, ts ++ [q], strK σ1 ++ [((Sum.inr p.1 : Key), V.str mv.1)], rfl, SqL.of hcc9, paired_snoc (Paired.mapP pts fun x y r => SqT.of (s89 _ _ (s68 _ _ r))) (SqT.of (s89 _ _ hq8)), fun dd hdd => ?_⟩
            rw [merge_new _ _ (by rw [List.nil_append]; exact snd), List.nil_append]
            have s59 : Same H5 H9 := fun b o e => s89 b o (s68 b o (s6 b o e))
            have hddH : H dd = none := back5 dd (s59.free hdd)
            have s5d : Same H5 (upd H9 dd (.dK (strK σ1 ++ [((Sum.inr p.1 : Key), V.str mv.1)]))) := s59.trans (same_upd hdd)
            have hdd' : (upd H9 dd (.dK (strK σ1 ++ [((Sum.inr p.1 : Key), V.str mv.1)]))) dd = some (.dK (strK (σ1 ++ [(p.1, mv.1)]))) := by
              rw [upd_same]
              exact congrArg (fun z => some (HO.dK z)) (str_map σ1 p.1 mv.1).symm
            generalize upd H9 dd (.dK (strK σ1 ++ [((Sum.inr p.1 : Key), V.str mv.1)])) = Hd at s5d hdd' ⊢
            have hacd := s5d _ _ hac
            have nDd : D ≠ dd := ne_of hacd hdd' (by intro z; cases z)
            refine ⟨_, hacd, by rw [List.length_map]; exact small _ (by omega), s_own (s5.trans s5d) hD, ac ++ [dd], by rw [upd_same, List.map_append]; rfl, ?_, fun x hx => ?_⟩
            · have tkm : p.2.2.take (m + 1) = p.2.2.take m ++ [mv] := by rw [List.take_add_one, hmv]; rfl
              rw [tkm, List.map_append]
              refine paired_snoc (Paired.mapP pac fun x y r => ?_) ?_
              · have r' := s5d _ _ r
                show _ = _
                rw [upd_ne (ne_of r' hacd (by intro z; cases z))]; exact r'
              · show _ = _
                rw [upd_ne nDd.symm]; exact hdd'
            · rcases List.mem_append.mp hx with hx | hx
              · exact nac x hx
              · have : x = dd := by simpa using hx
                rw [this]; exact hddH
          · obtain ⟨s5, ac, hac, pac, nac⟩ := hP
            have kl : kvr.length = p.2.2.length := tr.len
            rw [kl, List.take_length] at pac
            have hdr5 := s5 _ _ upd_same
            have acl := pac.length
            rw [List.length_map] at acl
            refine ⟨hdr5, ?_⟩
            have s6 : Same H4 (upd H5 dr (.dK kvr)) := unlocked hdr4 s5
            have hac6 : (upd H5 dr (.dK kvr)) D = some (.lst (ac.map V.ref)) := by rw [upd_ne nDdr]; exact hac
            have pac6 : Paired (fun x y => StrU (upd H5 dr (.dK kvr)) x y) ac (p.2.2.map fun mv => σ1 ++ [(p.1, mv.1)]) := paired_mem pac fun x y hx r => by
              have : x ≠ dr := fun z => by
                have := nac x hx
                rw [z, (wo_le hdr).1] at this; cases this
              show _ = _
              rw [upd_ne this]; exact r
            generalize upd H5 dr (.dK kvr) = H6 at s6 hac6 pac6 ⊢
            have hacc6 := s6 _ _ hacc
            refine ⟨lg, D, _, _, rfl, rfl, hacc6, hac6, by rw [List.length_map, List.length_map]; exact Nat.le_of_lt (small _ (by omega)), ?_⟩
            refine ⟨_, rfl, s_own (s4.trans s6) hlg, acc ++ ac, by rw [upd_same, List.map_append], ?_, fun x hx => ?_⟩
            · rw [tk2, List.flatMap_append]
              have e9 : ([σ1].flatMap fun one => p.2.2.map fun mv => one ++ [(p.1, mv.1)]) = p.2.2.map fun mv => σ1 ++ [(p.1, mv.1)] := by simp
              rw [e9]
              have app : ∀ {xs zs : List Addr} {ys ws : List (List (Str × Str))} {F : Addr → List (Str × Str) → Prop}, Paired F xs ys → Paired F zs ws → Paired F (xs ++ zs) (ys ++ ws) := by
                intro xs zs ys ws F h1 h2
                induction h1 with
                | nil => exact h2
                | cons r _ ih => exact .cons r ih
              refine app (Paired.mapP pacc fun x y r => ?_) (Paired.mapP pac6 fun x y r => ?_)
              · have r' := s6 _ _ r
                show _ = _
                rw [upd_ne (ne_of r' hacc6 (by intro z; cases z))]; exact r'
              · show _ = _
                rw [upd_ne (ne_of r hacc6 (by intro z; cases z))]; exact r
            · rcases List.mem_append.mp hx with hx | hx
              · exact nacc x hx
              · exact nac x hx
        · obtain ⟨v5, rfl, s4, hpl⟩ := hP
          have ll : (as.map V.ref).length = (plansM (Pl.take i) b).length := by rw [List.length_map]; exact pas.length
          rw [ll, List.take_length, ← eqn] at hpl
          exact ⟨_, rfl, lg, _, _, _, rfl, s2.trans s4, hpl⟩
      · have c1 : ¬ p.2.1 = b := fun z => c (decide_eq_true (congrArg V.str (sides.mpr z)))
        refine ⟨l, _, _, _, rfl, s2, as, has, ?_, nas⟩
        rw [tk, plans_step, if_neg c1]
        exact pas
    · obtain ⟨l, v3, v4, v5, rfl, s2, as, has, pas, nas⟩ := hP
      have ha2 : H2 a = some (.frz od (.dK kvs)) := s2 _ _ upd_same
      rw [lk, List.take_length] at pas
      refine ⟨ha2, _, rfl, k _ l (s1.trans (unlocked ha1 s2)) ⟨as, by rw [upd_ne (ne_of has ha2 (by intro z; cases z))]; exact has, paired_mem pas fun x y hx q => ?_, nas⟩⟩
      have : x ≠ a := fun z => by have := nas x hx; rw [z, ha] at this; cases this
      show _ = _
      rw [upd_ne this]; exact q
end
end Gw

set_option Elab.async false
set_option linter.all false
set_option maxRecDepth 100000
set_option maxHeartbeats 4000000
namespace Gw
open PySem PySem.Spec PyProof.Rows L2 GW
theorem cut_drop (xs : List V) (m : Nat) (h : m ≤ xs.length) : cutV xs (some (m : Int)) none = xs.drop m := by
  unfold cutV
  rw [HT.sIx_none, HT.sIx_nat, Nat.min_eq_left h]
  exact List.take_of_length_le (by rw [List.length_drop]; omega)
def VStep (Pl : Plan Str) (s : Str × Str) : Prop := ∃ p ∈ Pl, p.1 = s.1 ∧ ∃ m, GW.look s.2 p.2.2 = some m
def StepV (H : Hp) (v : V) (s : Str × Str) : Prop := ∃ t, v = .ref t ∧ H t = some (.tup [.str s.1, .str s.2])
theorem StepV.mono {H H' : Hp} {v : V} {s : Str × Str} (h : StepV H v s) (q : Same H H') : StepV H' v s := let ⟨t, a, b⟩ := h; ⟨t, a, q _ _ b⟩
def WayL (H : Hp) (y : Addr) (l : List (Str × Str)) : Prop := ∃ xs, H y = some (.lst xs) ∧ Paired (StepV H) xs l
theorem WayL.mono {H H' : Hp} {y : Addr} {l : List (Str × Str)} (h : WayL H y l) (q : Same H H') : WayL H' y l := let ⟨xs, a, b⟩ := h; ⟨xs, q _ _ a, Paired.mapP b fun _ _ r => r.mono q⟩
theorem paired_drop {α β : Type} {F : α → β → Prop} : ∀ {xs : List α} {ys : List β}, Paired F xs ys → ∀ n, Paired F (xs.drop n) (ys.drop n)
  | _, _, .nil, n => by simp; exact .nil
  | _, _, .cons r t, 0 => .cons r t
  | _, _, .cons r t, n + 1 => paired_drop t n
section
variable {P : Program} {w : World} {K : PySem.W.Frag} {mg : Str → Option Value} {base : Heap}
/-! ### _law_a_course -/
theorem PlanR.mv {H : Hp} {a : Addr} {Pl : Plan Str} (h : PlanR H a Pl) {n wd : Str} {p : Bool × Row Str} {m : Str × Int} (e : GW.look n Pl = some p) (e2 : GW.look wd p.2 = some m) :
    ∃ t d kvr pm, DGet H a (.str n) (some (.ref t)) ∧ H t = some (.tup [.str (sideS p.1), .ref d]) ∧ H d = some (.dK kvr) ∧ DGet H d (.str wd) (some (.ref pm)) ∧ H pm = some (.tup [.str m.1, .int m.2]) := by
  obtain ⟨t, d, kvr, g, ht, hd, _, tr⟩ := h.get e
  obtain ⟨v, g2, pm, rfl, hpm⟩ := get_at (.inl hd) tr e2
  exact ⟨t, d, kvr, pm, g, ht, hd, g2, (wo_le hpm).1⟩
def spACourse : Sp := fun vs H Q _ => ∃ (a o : Addr) (v : Str) (Pl : Plan Str) (both : List (Str × Str)), vs = [.ref a, .ref o, .str v] ∧ PlanR H a Pl ∧ PlOk Pl ∧ StrU H o both ∧ Valid Pl both ∧ v ∈ GW.keys Pl ∧
  ∀ (H' : Hp) (T y : Addr) (x : V), Same H H' → H' T = some (.tup [x, .ref y]) → WayL H' y (courseM Pl both (Pl.length + 1) v []).2 → (courseM Pl both (Pl.length + 1) v []).2 ≠ [] → (courseM Pl both (Pl.length + 1) v []).2.length ≤ 10 → (∀ s ∈ (courseM Pl both (Pl.length + 1) v []).2, VStep Pl s) → Q (.ref T) H'
theorem scACourse : FnScope ["_law_plan", "_law_both", "_law_name_here", "_law_way", "_law_seen_ones", "_law_at"] ["_law_plan", "_law_both", "_law_name_here"] (defScope sACourse) := ⟨rfl, rfl, rfl, by decide +kernel, rfl, by decide +kernel, by decide +kernel⟩
theorem ok_acourse (D : Df K mg "_law_a_course" sACourse ["_law_plan", "_law_both", "_law_name_here"]) (B : Blt mg) : FnOk P w K mg base CX0 1 D.f D.fd ["_law_plan", "_law_both", "_law_name_here"] spACourse := by
  refine D.F.ok scACourse (fun vs H Q E h => ?_) (fun cdv A outer s H vs Q E hr h => ?_)
  · obtain ⟨a, o, v, Pl, both, rfl, _⟩ := h
    rfl
  · obtain ⟨a, o, v, Pl, both, rfl, PR, ok, HO1, vd, hv, k⟩ := h
    have hu := hu_of hr
    have wf := ok.wf
    refine ⟨_, pss_cons (ps_par rfl scACourse.nd (i := 3) (j := 4) rfl rfl (by decide) rfl rfl (pa_cons (pe_lst pa_nil) (pa_cons (pe_lst pa_nil) pa_nil)) (by rfl))
      (pss_cons (ps_while PassesOwn.never (pt_cmpR op_notIn_seq (pv 2) (pv 4) (by rfl))
        (pss_cons (ps_expr (pe_bm PySem.F.plainAttrs_list PySem.F.slot_list_append PySem.F.type_list_append mt_append (pv 4) (pa_cons (pv 2) pa_nil)))
        (pss_cons (ps_expr (pe_bm PySem.F.plainAttrs_list PySem.F.slot_list_append PySem.F.type_list_append mt_append (pv 3) (pa_cons (pe_tup (pa_cons (pv 2) (pa_cons (pe_dget hu (pv 1) (pv 2) (fun _ _ => rfl)) pa_nil))) pa_nil)))
        (pss_one (ps_set (i := 2) scACourse.nd rfl (.inl rfl) (pe_ix ix_tup (pe_dget hu (pe_ix ix_tup (pe_dget hu (pv 0) (pv 2) (fun _ _ => rfl)) pe_int (fun _ _ => rfl)) (pe_dget hu (pv 1) (pv 2) (fun _ _ => rfl)) (fun _ _ => rfl)) pe_int (fun _ _ => rfl)))))))
      (pss_cons (ps_set (i := 5) scACourse.nd rfl (.inl rfl) (pe_bm PySem.F.plainAttrs_list PySem.F.slot_list_index PySem.F.type_list_index mt_index (pv 4) (pa_cons (pv 2) pa_nil)))
      (pss_one (ps_ret (pe_tup (pa_cons (pe_slice sl_list (pv 3) po_none (po_some (pv 5))) (pa_cons (pe_slice sl_list (pv 3) (po_some (pv 5)) po_none) pa_nil))))))), ?_⟩
    refine ⟨by show 0 ≤ sizeLine; decide, fun wy hwy => ⟨by show 0 ≤ sizeLine; decide, fun sn hsn => ⟨_, _, rfl, ?_⟩⟩⟩
    have s1 : Same H (upd (upd H wy (.lst [])) sn (.lst [])) := s_upd (same_upd hwy) hsn
    have nws : wy ≠ sn := fun z => by rw [← z, upd_same] at hsn; cases hsn
    have hwy1 : (upd (upd H wy (.lst [])) sn (.lst [])) wy = some (.lst []) := by rw [upd_ne nws, upd_same]
    have hsn1 : (upd (upd H wy (.lst [])) sn (.lst [])) sn = some (.lst (([] : List Str).map V.str)) := upd_same
    have hsnH : H sn = none := by rw [upd_ne nws.symm] at hsn; exact hsn
    generalize upd (upd H wy (.lst [])) sn (.lst []) = H1 at s1 hwy1 hsn1 ⊢
    refine ⟨fun mm σ H2 => ∃ n way xs v5, σ = [some (.ref a), some (.ref o), some (.str n), some (.ref wy), some (.ref sn), v5] ∧ Same H H2 ∧ H2 wy = some (.lst xs) ∧ Paired (StepV H2) xs way ∧ H2 sn = some (.lst ((GW.keys way).map V.str)) ∧ (GW.keys way).Nodup ∧ (∀ s ∈ way, VStep Pl s) ∧ n ∈ GW.keys Pl ∧ way.length + mm = Pl.length + 1 ∧ courseM Pl both mm n way = courseM Pl both (Pl.length + 1) v [], ⟨Pl.length + 1, v, [], [], none, rfl, s1, hwy1, .nil, hsn1, List.nodup_nil, (fun _ h => by cases h), hv, by simp, rfl⟩, ?_⟩
    rintro mm σ H2 ⟨n, way, xs, v5, rfl, s2, hwy2, pw, hsn2, wnd, wok, hn, hmm, ec⟩
    have wl : way.length ≤ Pl.length := by
      have h1 := wnd.length_le_of_subset (l₂ := GW.keys Pl) fun x hx => by
        obtain ⟨q, hq, e⟩ := List.mem_map.mp hx
        obtain ⟨p, hp, e1, _⟩ := wok q hq
        rw [← e, ← e1]
        exact List.mem_map_of_mem (f := (·.1)) hp
      rw [List.length_map, List.length_map] at h1
      exact h1
    have l10 := ok.len
    obtain ⟨fu, rfl⟩ : ∃ fu, mm = fu + 1 := ⟨mm - 1, by omega⟩
    have xl : xs.length = way.length := pw.length
    refine ⟨_, rfl, _, rfl, sn, _, rfl, .inl (SqL.of hsn2), rfl, all_flat _, _, rfl, ?_⟩
    rw [inV_str]
    refine ite2 (fun c => ?_) (fun c => ?_)
    · have nin : n ∉ GW.keys way := by
        have c' : (!decide (n ∈ GW.keys way)) = true := c
        simpa using c'
      obtain ⟨p, hp, ep⟩ := List.mem_map.mp hn
      obtain ⟨wd, mv, e1, e2⟩ := vd p hp
      have ep' : p.1 = n := ep
      rw [ep'] at e1
      have lk : GW.look n Pl = some p.2 := by rw [← ep']; exact look_P wf hp
      refine ⟨_, fun σ' H' hn => ⟨fu, Nat.lt_succ_self fu, hn⟩, ?_⟩
      have nse : sn ≠ wy := fun z => by
        rw [z, hwy2] at hsn2
        have q := HO.lst.inj (Option.some.inj hsn2)
        cases way with
        | nil =>
          exact nws z.symm
        | cons w0 wr =>
          cases pw with
          | cons r0 _ =>
            obtain ⟨t, rfl, _⟩ := r0
            rw [show GW.keys (w0 :: wr) = w0.1 :: GW.keys wr from rfl, List.map_cons] at q
            injection q with q1 _
            cases q1
      refine ⟨_, rfl, .inl ⟨rfl, _, SqL.of hsn2⟩, _, rfl, sn, _, .str n, rfl, rfl, hsn2, by rw [List.length_map, List.length_map]; exact small _ (by omega), ?_⟩
      have s3 : Same H (upd H2 sn (.lst ((GW.keys way).map V.str ++ [.str n]))) := s_own s2 hsnH
      have hwy3 : (upd H2 sn (.lst ((GW.keys way).map V.str ++ [.str n]))) wy = some (.lst xs) := by rw [upd_ne nse.symm]; exact hwy2
      have hsn3 : (upd H2 sn (.lst ((GW.keys way).map V.str ++ [.str n]))) sn = some (.lst ((GW.keys (way ++ [(n, wd)])).map V.str)) := by
        rw [upd_same]
        unfold GW.keys
        rw [List.map_append, List.map_append]; rfl
      have pw3 : Paired (StepV (upd H2 sn (.lst ((GW.keys way).map V.str ++ [.str n])))) xs way := Paired.mapP pw fun x y ⟨t, e3, e4⟩ => ⟨t, e3, by rw [upd_ne (ne_of e4 hsn2 (by intro z; cases z))]; exact e4⟩
      generalize upd H2 sn (.lst ((GW.keys way).map V.str ++ [.str n])) = H3 at s3 hwy3 hsn3 pw3 ⊢
      obtain ⟨v1, g1, rfl⟩ := get_at (H := H3) (.inl (s3 _ _ HO1)) (tb_str both) e1
      refine ⟨_, rfl, .inl ⟨rfl, _, SqL.of hwy3⟩, _, rfl, _, rfl, _, rfl, o, .str wd, rfl, g1, by show 2 ≤ sizeLine; decide, fun t ht => ?_⟩
      have s4 : Same H3 (upd H3 t (.tup [.str n, .str wd])) := same_upd ht
      have ht4 : (upd H3 t (.tup [.str n, .str wd])) t = some (.tup [.str n, .str wd]) := upd_same
      generalize upd H3 t (.tup [.str n, .str wd]) = H4 at s4 ht4 ⊢
      have hwy4 := s4 _ _ hwy3
      refine ⟨wy, xs, .ref t, rfl, rfl, hwy4, small _ (by omega), ?_⟩
      have s5 : Same H (upd H4 wy (.lst (xs ++ [.ref t]))) := s_own (s3.trans s4) hwy
      have keep : ∀ b o, b ≠ wy → H3 b = some o → (upd H4 wy (.lst (xs ++ [.ref t]))) b = some o := fun b o q e => by rw [upd_ne q]; exact s4 _ _ e
      have hwy5 : (upd H4 wy (.lst (xs ++ [.ref t]))) wy = some (.lst (xs ++ [.ref t])) := upd_same
      have ht5 : (upd H4 wy (.lst (xs ++ [.ref t]))) t = some (.tup [.str n, .str wd]) := by rw [upd_ne (ne_of ht4 hwy4 (by intro z; cases z))]; exact ht4
      generalize upd H4 wy (.lst (xs ++ [.ref t])) = H5 at s5 keep hwy5 ht5 ⊢
      obtain ⟨t2, dr, kvr, pm, g2, ht2, hdr, g3, hpm⟩ := (PR.mono s5).mv lk e2
      obtain ⟨v6, g6, rfl⟩ := get_at (H := H5) (.inl (s5 _ _ HO1)) (tb_str both) e1
      refine ⟨_, rfl, _, rfl, a, .ref t2, rfl, g2, t2, _, _, _, rfl, rfl, SqT.of ht2, pr_1, _, rfl, _, rfl, o, .str wd, rfl, g6, dr, .ref pm, rfl, g3, pm, _, _, _, rfl, rfl, SqT.of hpm, pr_0, ?_⟩
      have e5 : rowP Pl n = p.2.2 := by rw [← ep']; exact rowP_at wf hp
      have e7 : (GW.look n both).getD n = wd := by rw [e1]; rfl
      have e6 : moveM (rowP Pl n) ((GW.look n both).getD n) n = mv := by unfold moveM; rw [e5, e7]; show (GW.look wd p.2.2).getD (n, 0) = mv; rw [e2]; rfl
      refine ⟨mv.1, way ++ [(n, wd)], xs ++ [.ref t], v5, rfl, s5, hwy5, paired_snoc (Paired.mapP pw3 fun x y ⟨t', e3, e4⟩ => ⟨t', e3, keep _ _ (ne_of e4 hwy3 (by intro z; cases z)) e4⟩) ⟨t, rfl, ht5⟩, keep _ _ nse hsn3, ?_, fun s hs => ?_, wf.inn p hp (wd, mv) (look_mem e2), by rw [List.length_append, List.length_singleton]; omega, ?_⟩
      · unfold GW.keys
        rw [List.map_append, List.nodup_append]
        refine ⟨wnd, by simp, fun x hx b hb2 => ?_⟩
        have : b = n := by simpa using hb2
        rw [this]; rintro rfl; exact nin hx
      · rcases List.mem_append.mp hs with hs | hs
        · exact wok s hs
        · have : s = (n, wd) := by simpa using hs
          rw [this]
          exact ⟨p, hp, ep', mv, e2⟩
      · rw [← ec]
        show _ = courseM Pl both (fu + 1) n way
        conv => rhs; unfold courseM
        rw [if_neg nin, e6, e7]
    · have nin : n ∈ GW.keys way := by
        have c' : ¬ (!decide (n ∈ GW.keys way)) = true := c
        simpa using c'
      have hi : (GW.keys way).idxOf n < (GW.keys way).length := List.idxOf_lt_length_iff.mpr nin
      have hget : (GW.keys way)[(GW.keys way).idxOf n]? = some n := by rw [List.getElem?_eq_getElem hi, List.getElem_idxOf hi]
      have e8 : courseM Pl both (fu + 1) n way = (way.take ((GW.keys way).idxOf n), way.drop ((GW.keys way).idxOf n)) := by
        unfold courseM
        rw [if_pos nin]
      have hi' : (GW.keys way).idxOf n < way.length := by rw [List.length_map] at hi; exact hi
      generalize (GW.keys way).idxOf n = j at hi hget e8 hi'
      refine ⟨_, rfl, .inl ⟨rfl, _, SqL.of hsn2⟩, _, rfl, sn, _, .str n, j, .str n, rfl, rfl, SqL.of hsn2, rfl, all_flat _, by rw [List.getElem?_map, hget]; rfl, by show (n == n) = true; simp, fun m2 z hm2 hz => ?_, ?_⟩
      · rw [List.getElem?_map] at hz
        cases e9 : (GW.keys way)[m2]? with
        | none => rw [e9] at hz; cases hz
        | some y =>
          rw [e9] at hz
          have : z = .str y := (Option.some.inj hz).symm
          rw [this]
          show (y == n) = false
          have : y ≠ n := fun q => by
            rw [q] at e9
            have := nd_ix wnd e9 hget
            omega
          simp [this]
      · refine ⟨_, rfl, _, rfl, (j : Int), rfl, wy, xs, rfl, SqL.of hwy2, fun A1 hA1 => ?_⟩
        have s3 := s2.trans (same_upd (o := .lst (cutV xs none (some (j : Int)))) hA1)
        have hwy3 := (same_upd (o := .lst (cutV xs none (some (j : Int)))) hA1) _ _ hwy2
        have pw3 := Paired.mapP pw fun x y (r : StepV H2 x y) => r.mono (same_upd (o := .lst (cutV xs none (some (j : Int)))) hA1)
        generalize upd H2 A1 (.lst (cutV xs none (some (j : Int)))) = H3 at s3 hwy3 pw3 ⊢
        refine ⟨_, rfl, _, rfl, (j : Int), rfl, wy, xs, rfl, SqL.of hwy3, fun A2 hA2 => ?_⟩
        rw [cut_drop xs j (by omega)]
        have s4 := s3.trans (same_upd (o := .lst (xs.drop j)) hA2)
        have hA4 : (upd H3 A2 (.lst (xs.drop j))) A2 = some (.lst (xs.drop j)) := upd_same
        have pw4 := Paired.mapP pw3 fun x y (r : StepV H3 x y) => r.mono (same_upd (o := .lst (xs.drop j)) hA2)
        generalize upd H3 A2 (.lst (xs.drop j)) = H4 at s4 hA4 pw4 ⊢
        refine ⟨by show 2 ≤ sizeLine; decide, fun T hT => ?_⟩
        have e9 : (courseM Pl both (Pl.length + 1) v []).2 = way.drop j := by rw [← ec, e8]
        refine k _ T A2 (.ref A1) (s4.trans (same_upd hT)) upd_same ?_ ?_ ?_ ?_
        · rw [e9]
          exact ⟨_, same_upd hT _ _ hA4, Paired.mapP (paired_drop pw4 j) fun _ _ r => r.mono (same_upd hT)⟩
        · rw [e9]
          intro z
          have := congrArg List.length z
          rw [List.length_drop] at this
          have : way.length - j = 0 := this
          omega
        · rw [e9, List.length_drop]; omega
        · rw [e9]
          exact fun s hs => wok s (List.mem_of_mem_drop hs)
/-! ### _law_a_mean -/
def spAMean : Sp := fun vs H Q _ => ∃ (a y : Addr) (Pl : Plan Str) (l : List (Str × Str)), vs = [.ref a, .ref y] ∧ PlanR H a Pl ∧ PlOk Pl ∧ WayL H y l ∧ l ≠ [] ∧ l.length ≤ 10 ∧ (∀ s ∈ l, VStep Pl s) ∧ ∀ H' v, Same H H' → FrV H' v (meanM Pl l) → FrOk (meanM Pl l) → Q v H'
theorem scAMean : FnScope ["_law_plan", "_law_steps", "_law_amounts", "_law_name_here", "_law_word"] ["_law_plan", "_law_steps"] (defScope sAMean) := ⟨rfl, rfl, rfl, by decide +kernel, rfl, by decide +kernel, by decide +kernel⟩
def amtM (Pl : Plan Str) (s : Str × Str) : Int := (moveM (rowP Pl s.1) s.2 s.1).2
theorem ok_amean (D : Df K mg "_law_a_mean" sAMean ["_law_plan", "_law_steps"]) (DO : Df K mg "_law_t_lowest" sTLowest ["_law_top", "_law_bottom"]) (B : Blt mg) : FnOk P w K mg base CX0 2 D.f D.fd ["_law_plan", "_law_steps"] spAMean := by
  have GO : FnOk P w K mg base CX0 1 DO.f DO.fd ["_law_top", "_law_bottom"] spLow := ok_tlowest DO.F B
  refine D.F.ok scAMean (fun vs H Q E h => ?_) (fun cdv A outer s H vs Q E hr h => ?_)
  · obtain ⟨a, y, Pl, l, rfl, _⟩ := h
    rfl
  · obtain ⟨a, y, Pl, l, rfl, PR, ok, ⟨xs, hy, py⟩, lne, l10, lok, k⟩ := h
    have hu := hu_of hr
    have wf := ok.wf
    refine ⟨_, pss_cons (ps_setLc (i := 2) (own := [("_law_name_here", 3), ("_law_word", 4)]) (g := gTup K 2 (gCons (gName 3) (gCons (gName 4) gNil))) (tt := tYes) (by rfl) scAMean.nd rfl rfl (sw_true rfl rfl rfl (by decide +kernel)) (pi_list (pv 1)) (blkOk_by (N := ["_law_plan", "_law_steps", "_law_amounts", "_law_name_here", "_law_word"]) (sc := defScope sAMean) (by decide +kernel))
        (fun _ _ _ _ _ => pg_tup rfl (pgs_cons (pg_name (i := 3) scAMean.nd rfl (.inl rfl)) (pgs_cons (pg_name (i := 4) scAMean.nd rfl (.inl rfl)) pgs_nil))) (fun _ _ _ _ _ => pts_nil)
        (fun _ _ _ _ _ => pe_ix (r := rIxT K) ix_tup (pe_dget hu (pe_ix (r := rIxT K) ix_tup (pe_dget hu (pv 0) (pv 3) (fun _ _ => rfl)) pe_int (fun _ _ => rfl)) (pv 4) (fun _ _ => rfl)) pe_int (fun _ _ => rfl)))
      (pss_one (ps_ret (pe_call GO hr rfl DO.m DO.F.kp DO.b .nil pass0 (pa_cons (pe_callB (cr_sum rfl) (by rfl) B.sum boot_sum (pa_cons (pv 2) pa_nil)) (pa_cons (pe_callB call_len_seq (by rfl) B.len PySem.boot_len (pa_cons (pv 2) pa_nil)) pa_nil))))), ?_⟩
    have xl : xs.length = l.length := py.length
    refine ⟨_, rfl, y, rfl, ⟨_, SqL.of hy⟩, fun Dd hD => lc_it walk_list (fun i H2 => Same H H2 ∧ H2 Dd = some (.lst (((l.take i).map (amtM Pl)).map V.int))) ⟨same_upd hD, upd_same⟩ (fun i H2 _ hP => SqL.of (hP.1 _ _ hy)) (fun i x H2o H2 hi hP hY => ?_) (fun H2 hP => ?_)⟩
    · obtain ⟨s2, d2⟩ := hP
      obtain ⟨rfl, hx⟩ := hY
      obtain ⟨st, hst, t, rfl, ht⟩ := paired_at py hx
      obtain ⟨p, hp, ep, mv, e2⟩ := lok st (List.mem_of_getElem? hst)
      have lk : GW.look st.1 Pl = some p.2 := by rw [← ep]; exact look_P wf hp
      obtain ⟨t2, dr, kvr, pm, g2, ht2, hdr, g3, hpm⟩ := (PR.mono s2).mv lk e2
      have am : amtM Pl st = mv.2 := by
        unfold amtM moveM
        rw [← ep, rowP_at wf hp, e2]; rfl
      refine ⟨t, _, rfl, SqT.of (s2 _ _ ht), rfl, _, _, rfl, _, _, rfl, rfl, rfl, yes_then ⟨_, rfl, _, rfl, a, .ref t2, rfl, g2, t2, _, _, _, rfl, rfl, SqT.of ht2, pr_1, _, rfl, dr, .ref pm, rfl, g3, pm, _, _, _, rfl, rfl, SqT.of hpm, pr_1, _, d2, ?_, s_own s2 hD, ?_⟩⟩
      · rw [List.length_map, List.length_map, List.length_take]; exact small _ (by omega)
      · rw [upd_same, List.take_add_one, hst, List.map_append, List.map_append, ← am]; rfl
    · obtain ⟨s2, d2⟩ := hP
      rw [xl, List.take_length] at d2
      have l0 : 0 < l.length := List.length_pos_iff.mpr lne
      refine ⟨_, rfl, Dd, _, rfl, SqL.of d2, _, rfl, Dd, _, rfl, .inl (SqL.of d2), (l.map (amtM Pl)).sum, (l.length : Int), ?_, by omega, by omega, fun p H3 s3 hp => ?_⟩
      · rw [List.length_map, List.length_map]; rfl
      · have e : meanM Pl l = lowM ((l.map (amtM Pl)).sum) (l.length : Int) := rfl
        exact k H3 (.ref p) (s2.trans s3) ⟨p, rfl, by rw [e]; exact hp⟩ (by rw [e]; exact low_ok (by omega) (by omega))
end
end Gw

set_option Elab.async false
set_option linter.all false
set_option maxRecDepth 100000
set_option maxHeartbeats 4000000
namespace Gw
open PySem PySem.Spec PyProof.Rows L2 GW
theorem plans_ne (side : Bool) : ∀ Pl : Plan Str, (∀ p ∈ Pl, p.2.2 ≠ []) → plansM Pl side ≠ [] := by
  refine plans_rev (fun _ h => by cases h) fun Pl p ih h => ?_
  have h1 := ih fun q hq => h q (by simp [hq])
  rw [plans_step]
  split
  · obtain ⟨x, r, e⟩ := List.exists_cons_of_ne_nil h1
    obtain ⟨y, r2, e2⟩ := List.exists_cons_of_ne_nil (h p (by simp))
    rw [e, e2]
    simp
  · exact h1
theorem side_of {Pl : Plan Str} {b : Bool} {σ : List (Str × Str)} (h : σ ∈ plansM Pl b) {n : Str} (hn : n ∈ GW.keys σ) : ∃ p ∈ Pl, p.1 = n ∧ p.2.1 = b := by
  rw [plans_keys b Pl σ h] at hn
  obtain ⟨p, hp, e⟩ := List.mem_map.mp hn
  obtain ⟨h1, h2⟩ := List.mem_filter.mp hp
  exact ⟨p, h1, e, of_decide_eq_true h2⟩
theorem both_nd {Pl : Plan Str} (ok : PlOk Pl) {f : Bool} {σ τ : List (Str × Str)} (h1 : σ ∈ plansM Pl f) (h2 : τ ∈ plansM Pl (!f)) : (GW.keys (σ ++ τ)).Nodup := by
  unfold GW.keys
  rw [List.map_append, List.nodup_append]
  refine ⟨plan_nodup ok.nd h1, plan_nodup ok.nd h2, fun x hx y hy z => ?_⟩
  subst z
  obtain ⟨p, hp, e, s⟩ := side_of h1 hx
  have := plan_not ok.wf h2 hp (by rw [s]; cases f <;> decide)
  rw [e] at this
  exact look_none.mp this hy
structure Tk (Pl : Plan Str) (t : List (Str × Fr)) : Prop where
  nd : (GW.keys t).Nodup
  sub : ∀ k ∈ GW.keys t, k ∈ GW.keys Pl
  ok : ∀ q ∈ t, FrOk q.2
theorem Tk.none {Pl : Plan Str} : Tk Pl [] := ⟨List.nodup_nil, (fun _ h => by cases h), (fun _ h => by cases h)⟩
theorem Tk.len {Pl : Plan Str} {t : List (Str × Fr)} (h : Tk Pl t) : t.length ≤ Pl.length := by
  have := h.nd.length_le_of_subset (l₂ := GW.keys Pl) fun x hx => h.sub x hx
  rw [List.length_map, List.length_map] at this
  exact this
theorem mem_put {l : List (Str × Fr)} {k j : Str} {v : Fr} : j ∈ GW.keys (GW.put l k v) ↔ j = k ∨ j ∈ GW.keys l := by
  rw [keys_put]
  split
  · rename_i h
    exact ⟨fun q => .inr q, fun q => q.elim (fun z => by rw [z]; exact h) id⟩
  · rw [List.mem_append]
    exact ⟨fun q => q.elim .inr (fun z => .inl (by simpa using z)), fun q => q.elim (fun z => .inr (by simp [z])) .inl⟩
theorem best_ok {fs : List Fr} (ne : fs ≠ []) (h : ∀ f ∈ fs, FrOk f) (b : Bool) : FrOk (bestM fs b) := h _ (bestM_spec b ne fun f hf => (h f hf).1).1
theorem Tk.look {Pl : Plan Str} {t : List (Str × Fr)} (h : Tk Pl t) {n : Str} {x : Fr} (e : GW.look n t = some x) : FrOk x := h.ok _ (look_mem e)
theorem Tk.put {Pl : Plan Str} {t : List (Str × Fr)} (h : Tk Pl t) {n : Str} (hn : n ∈ GW.keys Pl) {v : Fr} (hv : FrOk v) : Tk Pl (GW.put t n v) :=
  ⟨nodup_put h.nd, fun k hk => (mem_put.mp hk).elim (fun z => by rw [z]; exact hn) (h.sub k), put_ok h.ok hv⟩
theorem Tk.upd {Pl : Plan Str} {t : List (Str × Fr)} (h : Tk Pl t) {n : Str} (hn : n ∈ GW.keys Pl) {v : Fr} (hv : FrOk v) (s : Bool) : Tk Pl (upd1 s t n v) := by
  unfold upd1
  refine h.put hn (best_ok ?_ ?_ s)
  · split <;> simp
  · cases e : GW.look n t with
    | none => intro f hf; have : f = v := by simpa using hf
              rw [this]; exact hv
    | some x => intro f hf
                have : f = v ∨ f = x := by simpa using hf
                rcases this with z | z
                · rw [z]; exact hv
                · rw [z]; exact h.look e
theorem mem_upd1 {t : List (Str × Fr)} {n j : Str} {v : Fr} {s : Bool} : j ∈ GW.keys (upd1 s t n v) ↔ j = n ∨ j ∈ GW.keys t := mem_put
theorem tab_put {H : Hp} {t : Addr} {l : List (Str × Fr)} (h : TabU H t l) : ∃ kt, H t = some (.dK kt) ∧ kt.length = l.length ∧ ∀ n f v, FrV H v f → TabU (upd H t (.dK (putK kt (Sum.inr n) v))) t (GW.put l n f) := by
  obtain ⟨kt, ht, tb⟩ := h
  refine ⟨kt, ht, tb.len, fun n f v ⟨p, e, hp⟩ => ⟨_, upd_same, ?_⟩⟩
  rw [wo_upd]
  exact tb.put n ⟨p, e, wo_of hp (ne_of hp ht (by intro z; cases z))⟩
theorem side_dec (b : Bool) : decide (V.str (sideS b) = V.str "ours") = b := by
  cases b
  · exact decide_eq_false fun z => by
      have := side_t.mp (V.str.inj z)
      cases this
  · exact decide_eq_true (congrArg V.str (side_t.mpr rfl))
theorem SameX.refl {a : Addr} {H : Hp} : SameX a H H := fun _ _ _ e => e
theorem SameX.under {a : Addr} {H0 H H' : Hp} (s : SameX a H H') (q : Same H0 H) (h : H0 a = none) : Same H0 H' := fun b o e => s b o (fun z => by rw [z, h] at e; cases e) (q _ _ e)
def rowUp (Pl : Plan Str) (one : List (Str × Str)) (second : Bool) (j : Nat) : List (Str × Fr) := ((plansM Pl second).take j).foldl (fun row other => (GW.keys Pl).foldl (fun row n => upd1 second row n (hereM Pl (one ++ other) n)) row) []
def inUp (Pl : Plan Str) (both : List (Str × Str)) (second : Bool) (row : List (Str × Fr)) (m : Nat) : List (Str × Fr) := ((GW.keys Pl).take m).foldl (fun row n => upd1 second row n (hereM Pl both n)) row
def fouUp (Pl : Plan Str) (first second : Bool) (i : Nat) : List (Str × Fr) := ((plansM Pl first).take i).foldl (fun found one => (GW.keys Pl).foldl (fun found n => upd1 first found n ((GW.look n (rowM Pl one second)).getD (0, 1))) found) []
def outUp (Pl : Plan Str) (row : List (Str × Fr)) (first : Bool) (fo : List (Str × Fr)) (m : Nat) : List (Str × Fr) := ((GW.keys Pl).take m).foldl (fun found n => upd1 first found n ((GW.look n row).getD (0, 1))) fo
theorem inUp_step {Pl : Plan Str} {both : List (Str × Str)} {second : Bool} {row : List (Str × Fr)} {m : Nat} {n : Str} (h : (GW.keys Pl)[m]? = some n) : inUp Pl both second row (m + 1) = upd1 second (inUp Pl both second row m) n (hereM Pl both n) := by
  unfold inUp
  rw [List.take_add_one, h, List.foldl_append]; rfl
theorem outUp_step {Pl : Plan Str} {first : Bool} {row fo : List (Str × Fr)} {m : Nat} {n : Str} (h : (GW.keys Pl)[m]? = some n) : outUp Pl row first fo (m + 1) = upd1 first (outUp Pl row first fo m) n ((GW.look n row).getD (0, 1)) := by
  unfold outUp
  rw [List.take_add_one, h, List.foldl_append]; rfl
theorem rowUp_step {Pl : Plan Str} {one other : List (Str × Str)} {second : Bool} {j : Nat} (h : (plansM Pl second)[j]? = some other) : rowUp Pl one second (j + 1) = inUp Pl (one ++ other) second (rowUp Pl one second j) (GW.keys Pl).length := by
  unfold rowUp inUp
  rw [List.take_add_one, h, List.foldl_append, List.take_length]; rfl
theorem rowUp_all {Pl : Plan Str} {one : List (Str × Str)} {second : Bool} : rowUp Pl one second (plansM Pl second).length = rowM Pl one second := by
  unfold rowUp rowM
  rw [List.take_length]
theorem fouUp_step {Pl : Plan Str} {first second : Bool} {i : Nat} {one : List (Str × Str)} (h : (plansM Pl first)[i]? = some one) : fouUp Pl first second (i + 1) = outUp Pl (rowM Pl one second) first (fouUp Pl first second i) (GW.keys Pl).length := by
  unfold fouUp outUp
  rw [List.take_add_one, h, List.foldl_append, List.take_length]; rfl
theorem fouUp_all {Pl : Plan Str} {first second : Bool} : fouUp Pl first second (plansM Pl first).length = worthsM Pl first second := by
  unfold fouUp worthsM
  rw [List.take_length]
section
variable {P : Program} {w : World} {K : PySem.W.Frag} {mg : Str → Option Value} {base : Heap}
/-- the defs of the law's own worths -/
structure DA (K : PySem.W.Frag) (mg : Str → Option Value) where
  plans : Df K mg "_law_a_plans" sAPlans ["_law_plan", "_law_side"]
  course : Df K mg "_law_a_course" sACourse ["_law_plan", "_law_both", "_law_name_here"]
  mean : Df K mg "_law_a_mean" sAMean ["_law_plan", "_law_steps"]
  low : Df K mg "_law_t_lowest" sTLowest ["_law_top", "_law_bottom"]
  best : Df K mg "_law_t_best" sTBest ["_law_some", "_law_is_ours"]
  less : Df K mg "_law_t_less" sTLess ["_law_one", "_law_other"]
  worths : Df K mg "_law_a_worths" sAWorths ["_law_plan", "_law_first", "_law_second"]
/-! ### _law_a_worths -/
def spAWorths : Sp := fun vs H Q _ => ∃ (a : Addr) (f : Bool) (Pl : Plan Str), vs = [.ref a, .str (sideS f), .str (sideS (!f))] ∧ PlanU H a Pl ∧ PlOk Pl ∧ ∀ H' t, Same H H' → H t = none → TabU H' t (worthsM Pl f (!f)) → Q (.ref t) H'
theorem scAWorths : FnScope ["_law_plan", "_law_first", "_law_second", "_law_found", "_law_one", "_law_row", "_law_other", "_law_both", "_law_name_here", "_law_here", "_law_lot"] ["_law_plan", "_law_first", "_law_second"] (defScope sAWorths) := ⟨rfl, rfl, rfl, by decide +kernel, rfl, by decide +kernel, by decide +kernel⟩
theorem ok_aworths (D : DA K mg) (B : Blt mg) : FnOk P w K mg base CX0 3 D.worths.f D.worths.fd ["_law_plan", "_law_first", "_law_second"] spAWorths := by
  have GPl : FnOk P w K mg base CX0 1 D.plans.f D.plans.fd ["_law_plan", "_law_side"] spAPlans := ok_aplans D.plans B
  have GC : FnOk P w K mg base CX0 1 D.course.f D.course.fd ["_law_plan", "_law_both", "_law_name_here"] spACourse := ok_acourse D.course B
  have GM : FnOk P w K mg base CX0 2 D.mean.f D.mean.fd ["_law_plan", "_law_steps"] spAMean := ok_amean D.mean D.low B
  have GB : FnOk P w K mg base CX0 2 D.best.f D.best.fd ["_law_some", "_law_is_ours"] spBestL := ok_tbest D.best.F D.less.F D.less.b D.less.m
  refine D.worths.F.ok scAWorths (fun vs H Q E h => ?_) (fun cdv A outer s H vs Q E hr h => ?_)
  · obtain ⟨a, f, Pl, rfl, _⟩ := h
    rfl
  · obtain ⟨a, f, Pl, rfl, PU, ok, k⟩ := h
    have hu := hu_of hr
    have r1 : Room 1 _ := hr.mono (by decide)
    have wf := ok.wf
    refine ⟨_, pss_cons (ps_set (i := 3) scAWorths.nd rfl (.inl rfl) pe_dnewK)
      (pss_cons (ps_for PassesOwn.never rfl (pi_list (pe_call GPl r1 rfl D.plans.m D.plans.F.kp D.plans.b .nil pass0 (pa_cons (pv 0) (pa_cons (pv 1) pa_nil)))) (pg_name (i := 4) scAWorths.nd rfl (.inl rfl))
        (pss_cons (ps_set (i := 5) scAWorths.nd rfl (.inl rfl) pe_dnewK)
        (pss_cons (ps_for PassesOwn.never rfl (pi_list (pe_call GPl r1 rfl D.plans.m D.plans.F.kp D.plans.b .nil pass0 (pa_cons (pv 0) (pa_cons (pv 2) pa_nil)))) (pg_name (i := 6) scAWorths.nd rfl (.inl rfl))
          (pss_cons (ps_set (i := 7) scAWorths.nd rfl (.inl rfl) (pe_callTy (call_dictP rfl) (by rfl) B.dict PyProof.Rows.boot_dict (pa_cons (pe_op op_cat (LiI.pe_listItems rfl (pv 4) (by rfl) B.list PyProof.Rows.boot_list) (LiI.pe_listItems rfl (pv 6) (by rfl) B.list PyProof.Rows.boot_list)) pa_nil)))
          (pss_one (ps_lock (ps_for PassesOwn.never rfl (pi_keys (pv 0)) (pg_name (i := 8) scAWorths.nd rfl (.inl rfl))
            (pss_cons (ps_set (i := 9) scAWorths.nd rfl (.inl rfl) (pe_call GM hr rfl D.mean.m D.mean.F.kp D.mean.b .nil pass0 (pa_cons (pv 0) (pa_cons (pe_ix ix_tup (pe_call GC r1 rfl D.course.m D.course.F.kp D.course.b .nil pass0 (pa_cons (pv 0) (pa_cons (pv 7) (pa_cons (pv 8) pa_nil)))) pe_int (fun _ _ => rfl)) pa_nil))))
            (pss_cons (ps_set (i := 10) scAWorths.nd rfl (.inl rfl) (pe_ifExp (pt_cmp (pc_dnotin hu (pv 8) (pv 5))) (pe_lst (pa_cons (pv 9) pa_nil)) (pe_lst (pa_cons (pv 9) (pa_cons (pe_dget hu (pv 5) (pv 8) (fun _ _ => rfl)) pa_nil)))))
            (pss_one (ps_dput hu (pv 5) (pv 8) (pe_call GB hr rfl D.best.m D.best.F.kp D.best.b .nil pass0 (pa_cons (pv 10) (pa_cons (pe_cmpR op_eq (pv 2) pe_str (nomark _)) pa_nil))) rfl)))))))))
        (pss_one (ps_lock (ps_for PassesOwn.never rfl (pi_keys (pv 0)) (pg_name (i := 8) scAWorths.nd rfl (.inl rfl))
          (pss_cons (ps_set (i := 10) scAWorths.nd rfl (.inl rfl) (pe_ifExp (pt_cmp (pc_dnotin hu (pv 8) (pv 3))) (pe_lst (pa_cons (pe_dget hu (pv 5) (pv 8) (fun _ _ => rfl)) pa_nil)) (pe_lst (pa_cons (pe_dget hu (pv 5) (pv 8) (fun _ _ => rfl)) (pa_cons (pe_dget hu (pv 3) (pv 8) (fun _ _ => rfl)) pa_nil)))))
          (pss_one (ps_dput hu (pv 3) (pv 8) (pe_call GB hr rfl D.best.m D.best.F.kp D.best.b .nil pass0 (pa_cons (pv 10) (pa_cons (pe_cmpR op_eq (pv 1) pe_str (nomark _)) pa_nil))) rfl)))))))))
      (pss_one (ps_ret (pv 3)))), ?_⟩
    obtain ⟨kvs, ha, tb⟩ := id PU
    have lk : kvs.length = (GW.keys Pl).length := by rw [tb.len, List.length_map]
    have l10 := ok.len
    intro fo hfo
    have nfa : fo ≠ a := fun z => by rw [z, ha] at hfo; cases hfo
    have s0 : Same H (upd H fo (.dK [])) := same_upd hfo
    have hf0 : (upd H fo (.dK [])) fo = some (.dK []) := upd_same
    generalize upd H fo (.dK []) = H0 at s0 hf0 ⊢
    refine ⟨_, rfl, _, rfl, a, f, Pl, rfl, PU.mono s0, ok, fun H1 l1 s1 pl1 => ?_⟩
    obtain ⟨as1, hl1, pas1, nas1⟩ := pl1
    have hf1 := s1 _ _ hf0
    have nlf : l1 ≠ fo := ne_of hl1 hf1 (by intro z; cases z)
    have sH1 : Same H H1 := fun b o e => s1 _ _ (s0 _ _ e)
    refine ⟨l1, rfl, ⟨_, SqL.of hl1⟩, for_list (K := K) (a := l1) (xs := as1.map V.ref) (fun i σ H2 => ∃ v4 v5 v6 v7 v8 v9 v10, σ = [some (.ref a), some (.str (sideS f)), some (.str (sideS (!f))), some (.ref fo), v4, v5, v6, v7, v8, v9, v10] ∧ SameX fo H1 H2 ∧ TabU H2 fo (fouUp Pl f (!f) i) ∧ Tk Pl (fouUp Pl f (!f) i))
      ⟨none, none, none, none, none, none, none, rfl, SameX.refl, ⟨[], hf1, .nil⟩, Tk.none⟩ (fun i σ H2 _ hP => let ⟨_, _, _, _, _, _, _, _, s2, _⟩ := hP; SqL.of (s2 _ _ nlf hl1)) (fun i x σ H2 hx hP => ?_) (fun σ H2 hP => ?_)⟩
    · obtain ⟨v4, v5, v6, v7, v8, v9, v10, rfl, s2, tf2, kf2⟩ := hP
      obtain ⟨o1, ho1⟩ : ∃ o1, as1[i]? = some o1 := by
        rw [List.getElem?_map] at hx
        cases e : as1[i]? with
        | none => rw [e] at hx; cases hx
        | some n => exact ⟨n, rfl⟩
      have ex : x = .ref o1 := by
        rw [List.getElem?_map, ho1] at hx
        exact (Option.some.inj hx).symm
      subst ex
      obtain ⟨σ1, hσ1, hso1⟩ := paired_at pas1 ho1
      have hσ1m := List.mem_of_getElem? hσ1
      have no1f : o1 ≠ fo := fun z => by
        have := nas1 o1 (List.mem_of_getElem? ho1)
        rw [z, hf0] at this; cases this
      have so2 : StrU H2 o1 σ1 := s2 _ _ no1f hso1
      have sH2 : Same H H2 := s2.under sH1 hfo
      intro r hr
      have hf2 : ∃ q, H2 fo = some q := let ⟨q, h, _⟩ := tf2; ⟨_, h⟩
      have nrf : r ≠ fo := fun z => by obtain ⟨q, h⟩ := hf2; rw [z, h] at hr; cases hr
      have no1r : o1 ≠ r := ne_of_none so2 hr
      have s3 : Same H2 (upd H2 r (.dK [])) := same_upd hr
      have hr3 : (upd H2 r (.dK [])) r = some (.dK []) := upd_same
      generalize upd H2 r (.dK []) = H3 at s3 hr3 ⊢
      have sH3 := sH2.trans s3
      refine ⟨_, rfl, _, rfl, a, !f, Pl, rfl, PU.mono sH3, ok, fun H4 l2 s4 pl2 => ?_⟩
      obtain ⟨as2, hl2, pas2, nas2⟩ := pl2
      have hr4 := s4 _ _ hr3
      have s24 : Same H2 H4 := s3.trans s4
      have nlr : l2 ≠ r := ne_of hl2 hr4 (by intro z; cases z)
      refine ⟨l2, rfl, ⟨_, SqL.of hl2⟩, for_list (K := K) (a := l2) (xs := as2.map V.ref) (fun j σ H5 => ∃ v6 v7 v8 v9 v10, σ = [some (.ref a), some (.str (sideS f)), some (.str (sideS (!f))), some (.ref fo), some (.ref o1), some (.ref r), v6, v7, v8, v9, v10] ∧ SameX r H4 H5 ∧ TabU H5 r (rowUp Pl σ1 (!f) j) ∧ Tk Pl (rowUp Pl σ1 (!f) j) ∧ (0 < j → ∀ n ∈ GW.keys Pl, n ∈ GW.keys (rowUp Pl σ1 (!f) j)))
        ⟨v6, v7, v8, v9, v10, rfl, SameX.refl, ⟨[], hr4, .nil⟩, Tk.none, fun h => absurd h (Nat.lt_irrefl 0)⟩ (fun j σ H5 _ hP => let ⟨_, _, _, _, _, _, s5, _⟩ := hP; SqL.of (s5 _ _ nlr hl2)) (fun j x σ H5 hx hP => ?_) (fun σ H5 hP => ?_)⟩
      · obtain ⟨v6, v7, v8, v9, v10, rfl, s5, tr5, kr5, _⟩ := hP
        obtain ⟨o2, ho2⟩ : ∃ o2, as2[j]? = some o2 := by
          rw [List.getElem?_map] at hx
          cases e : as2[j]? with
          | none => rw [e] at hx; cases hx
          | some n => exact ⟨n, rfl⟩
        have ex : x = .ref o2 := by
          rw [List.getElem?_map, ho2] at hx
          exact (Option.some.inj hx).symm
        subst ex
        obtain ⟨σ2, hσ2, hso2⟩ := paired_at pas2 ho2
        have hσ2m := List.mem_of_getElem? hσ2
        have no2r : o2 ≠ r := fun z => by
          have := nas2 o2 (List.mem_of_getElem? ho2)
          rw [z, hr3] at this; cases this
        have so5 : StrU H5 o2 σ2 := s5 _ _ no2r hso2
        have so15 : StrU H5 o1 σ1 := s5 _ _ no1r (s24 _ _ so2)
        have sH5 : Same H H5 := fun b o e => s5 b o (ne_of_none (sH2 _ _ e) hr) (s24 _ _ (sH2 _ _ e))
        have vd := valid_of wf hσ1m hσ2m
        have bnd := both_nd ok hσ1m hσ2m
        have l1' : σ1.length ≤ 10 := by
          have e7 := congrArg List.length (plans_keys f _ σ1 hσ1m)
          unfold GW.keys at e7
          rw [List.length_map, List.length_map] at e7
          have e8 := List.length_filter_le (fun q : Str × Bool × Row Str => decide (q.2.1 = f)) Pl
          omega
        have l2' : σ2.length ≤ 10 := by
          have e7 := congrArg List.length (plans_keys (!f) _ σ2 hσ2m)
          unfold GW.keys at e7
          rw [List.length_map, List.length_map] at e7
          have e8 := List.length_filter_le (fun q : Str × Bool × Row Str => decide (q.2.1 = !f)) Pl
          omega
        -- both
        refine ⟨_, rfl, o1, strK σ1, rfl, so15, fun H6 p1 ts1 s6 hp1 hts1 npt1 hp16 pts1 => ?_⟩
        have so6 : StrU H6 o2 σ2 := s6 _ _ so5
        refine ⟨_, rfl, o2, strK σ2, rfl, so6, fun H7 p2 ts2 s7 hp2 hts2 npt2 hp27 pts2 => ?_⟩
        have t1l : ts1.length = σ1.length := by rw [pts1.length, List.length_map]
        have t2l : ts2.length = σ2.length := by rw [pts2.length, List.length_map]
        refine ⟨p1, p2, _, _, rfl, rfl, s7 _ _ hp16, hp27, by rw [List.length_map, List.length_map]; exact Nat.le_of_lt (small _ (by omega)), fun cc hcc => ?_⟩
        have s78 : Same H7 (upd H7 cc (.lst (ts1.map V.ref ++ ts2.map V.ref))) := same_upd hcc
        have hcc8 : (upd H7 cc (.lst (ts1.map V.ref ++ ts2.map V.ref))) cc = some (.lst ((ts1 ++ ts2).map V.ref)) := by rw [upd_same, List.map_append]
        generalize upd H7 cc (.lst (ts1.map V.ref ++ ts2.map V.ref)) = H8 at s78 hcc8 ⊢
        have app : ∀ {xs zs : List Addr} {ys ws : List (Key × V)} {F : Addr → Key × V → Prop}, Paired F xs ys → Paired F zs ws → Paired F (xs ++ zs) (ys ++ ws) := by
          intro xs zs ys ws F h1 h2
          induction h1 with
          | nil => exact h2
          | cons r _ ih => exact .cons r ih
        refine ⟨cc, ts1 ++ ts2, strK σ1 ++ strK σ2, rfl, SqL.of hcc8, app (Paired.mapP pts1 fun x y r => SqT.of (s78 _ _ (s7 _ _ r))) (Paired.mapP pts2 fun x y r => SqT.of (s78 _ _ r)), fun bo hbo => ?_⟩
        have sk : strK σ1 ++ strK σ2 = strK (σ1 ++ σ2) := by unfold strK; rw [List.map_append]
        rw [sk, merge_new _ _ (by rw [List.nil_append]; exact strK_nd bnd), List.nil_append]
        have s58 : Same H5 H8 := fun b o e => s78 b o (s7 b o (s6 b o e))
        have s59 : Same H5 (upd H8 bo (.dK (strK (σ1 ++ σ2)))) := s58.trans (same_upd hbo)
        have sb9 : StrU (upd H8 bo (.dK (strK (σ1 ++ σ2)))) bo (σ1 ++ σ2) := by show _ = _; rw [upd_same]
        generalize upd H8 bo (.dK (strK (σ1 ++ σ2))) = H9 at s59 sb9 ⊢
        have tr9 := tr5.mono s59
        have sH9 := sH5.trans s59
        have ha9 := sH9 _ _ ha
        have nra : r ≠ a := fun z => by rw [z, sH2 _ _ ha] at hr; cases hr
        have nba : bo ≠ a := fun z => by
          have h1 : H8 a = some (.dK kvs) := s58 _ _ (sH5 _ _ ha)
          rw [← z, hbo] at h1; cases h1
        have nbr : bo ≠ r := fun z => by
          obtain ⟨q, h, _⟩ := tr5
          have h1 := s58 _ _ h
          rw [← z, hbo] at h1; cases h1
        refine ⟨a, _, ha9, True.intro, fun od => ⟨_, rfl, a, od, rfl, .inl ⟨kvs, upd_same, for_it walk_keys (fun m σ H10 => ∃ v8 v9 v10, σ = [some (.ref a), some (.str (sideS f)), some (.str (sideS (!f))), some (.ref fo), some (.ref o1), some (.ref r), some (.ref o2), some (.ref bo), v8, v9, v10] ∧ SameX r (upd H9 a (.frz od (.dK kvs))) H10 ∧ TabU H10 r (inUp Pl (σ1 ++ σ2) (!f) (rowUp Pl σ1 (!f) j) m) ∧ Tk Pl (inUp Pl (σ1 ++ σ2) (!f) (rowUp Pl σ1 (!f) j) m) ∧ ∀ n ∈ (GW.keys Pl).take m, n ∈ GW.keys (inUp Pl (σ1 ++ σ2) (!f) (rowUp Pl σ1 (!f) j) m))
          ⟨v8, v9, v10, rfl, SameX.refl, ?_, kr5, fun _ h => by rw [List.take_zero] at h; cases h⟩ (fun m σ H10 _ hP => let ⟨_, _, _, _, s10, _⟩ := hP; s10 _ _ nra.symm upd_same) (fun m x σ H10o H10 hm hP hY => ?_) (fun σ H10 hP => ?_)⟩⟩⟩
        · exact tab_upd tr9 (fun f z => by rw [ha9] at z; cases z) nra
        · obtain ⟨v8, v9, v10, rfl, s10, tr10, kr10, in10⟩ := hP
          obtain ⟨rfl, key, vk, hkv, rfl⟩ := hY
          obtain ⟨p, hp, ekey, _⟩ := tb.at hkv
          simp only at ekey
          subst ekey
          have hn : (GW.keys Pl)[m]? = some p.1 := by rw [List.getElem?_map, hp]; rfl
          have hnk : p.1 ∈ GW.keys Pl := List.mem_of_getElem? hn
          have ha10 : H10 a = some (.frz od (.dK kvs)) := s10 _ _ nra.symm upd_same
          have wk : Same (wo H a) H10 := fun b o q => by
            obtain ⟨q1, n1⟩ := wo_le q
            exact s10 b o (ne_of_none (sH2 _ _ q1) hr) (by rw [upd_ne n1]; exact sH9 _ _ q1)
          have PR10 : PlanR H10 a Pl := ⟨kvs, .inr ⟨od, ha10⟩, tb.mono fun _ _ q => q.mono fun b o e => wo_of (wk _ _ e) (wo_le e).2⟩
          have sb10 : StrU H10 bo (σ1 ++ σ2) := s10 _ _ nbr (by rw [upd_ne nba]; exact sb9)
          refine ⟨_, rfl, _, rfl, _, rfl, _, rfl, a, bo, p.1, Pl, _, rfl, PR10, ok, sb10, vd, hnk, fun H11 T y x s11 hT way wne wl wok => ?_⟩
          refine ⟨T, _, _, _, rfl, rfl, SqT.of hT, pr_1, a, y, Pl, _, rfl, PR10.mono s11, ok, way, wne, wl, wok, fun H12 v s12 fv fok => ?_⟩
          have fv' : FrV H12 v (hereM Pl (σ1 ++ σ2) p.1) := fv
          have fok' : FrOk (hereM Pl (σ1 ++ σ2) p.1) := fok
          have s1012 := s11.trans s12
          have tr12 := tr10.mono s1012
          have stp := inUp_step (both := σ1 ++ σ2) (second := !f) (row := rowUp Pl σ1 (!f) j) hn
          -- after the lot
          have fin : ∀ (H13 : Hp) (lo : Addr) (xs : List V) (fs : List Fr), Same H12 H13 → H13 lo = some (.lst xs) → Paired (FrV H13) xs fs → fs ≠ [] → (∀ f ∈ fs, FrOk f) → GW.put (inUp Pl (σ1 ++ σ2) (!f) (rowUp Pl σ1 (!f) j) m) p.1 (bestM fs (!f)) = inUp Pl (σ1 ++ σ2) (!f) (rowUp Pl σ1 (!f) j) (m + 1) →
              ∃ b, V.bl (decide (V.str (sideS (!f)) = V.str "ours")) = V.bl b ∧ ∃ xs' fs', H13 lo = some (.lst xs') ∧ Paired (FrV H13) xs' fs' ∧ fs' ≠ [] ∧ (∀ f ∈ fs', FrOk f) ∧ ∀ v, FrV H13 v (bestM fs' b) → ∃ H14, DPut H13 r (.str p.1) v H14 ∧ SameX r (upd H9 a (.frz od (.dK kvs))) H14 ∧ TabU H14 r (inUp Pl (σ1 ++ σ2) (!f) (rowUp Pl σ1 (!f) j) (m + 1)) := fun H13 lo xs fs s13 hlo pf fne fok2 eput => by
            refine ⟨!f, by rw [side_dec], xs, fs, hlo, pf, fne, fok2, fun v hv => ?_⟩
            obtain ⟨kt, ht, ktl, tput⟩ := tab_put (tr12.mono s13)
            have := kr10.len
            refine ⟨_, DPut.k (k := Sum.inr p.1) ht (small _ (by omega)), fun b o n e => by rw [upd_ne n]; exact s13 _ _ (s1012 _ _ (s10 b o n e)), ?_⟩
            have := tput p.1 _ v hv
            rw [eput] at this
            exact this
          have inw : ∀ n ∈ (GW.keys Pl).take (m + 1), n ∈ GW.keys (inUp Pl (σ1 ++ σ2) (!f) (rowUp Pl σ1 (!f) j) (m + 1)) := fun n hn2 => by
            rw [stp]
            rw [List.take_add_one, hn] at hn2
            rcases List.mem_append.mp hn2 with h | h
            · exact mem_upd1.mpr (.inr (in10 n h))
            · exact mem_upd1.mpr (.inl (by simpa using h))
          have kr13 : Tk Pl (inUp Pl (σ1 ++ σ2) (!f) (rowUp Pl σ1 (!f) j) (m + 1)) := by rw [stp]; exact kr10.upd hnk fok' _
          obtain ⟨kt, ht, tbt⟩ := id tr12
          refine ⟨_, rfl, _, rfl, r, ?_⟩
          cases hk : GW.look p.1 (inUp Pl (σ1 ++ σ2) (!f) (rowUp Pl σ1 (!f) j) m) with
          | none =>
            refine ⟨none, rfl, get_no (.inl ht) tbt hk, true, rfl, iteT ⟨_, rfl, by show 1 ≤ sizeLine; decide, fun lo hlo => ?_⟩⟩
            have s13 : Same H12 (upd H12 lo (.lst [v])) := same_upd hlo
            obtain ⟨b, eb, xs', fs', q1, q2, q3, q4, q5⟩ := fin _ lo [v] [hereM Pl (σ1 ++ σ2) p.1] s13 upd_same (.cons (fv'.mono s13) .nil) (by simp) (fun f hf => by
              have : f = hereM Pl (σ1 ++ σ2) p.1 := by simpa using hf
              rw [this]; exact fok') (by rw [stp]; unfold upd1; rw [hk])
            refine ⟨_, rfl, _, rfl, rfl, lo, b, xs', fs', by rw [eb]; rfl, q1, q2, q3, q4, fun v2 hv2 => ?_⟩
            obtain ⟨H14, d1, d2, d3⟩ := q5 v2 hv2
            exact ⟨_, rfl, _, rfl, r, H14, rfl, d1, _, _, _, rfl, d2, d3, kr13, inw⟩
          | some y0 =>
            obtain ⟨vy, gy, fy⟩ := get_at (.inl ht) tbt hk
            refine ⟨some vy, rfl, gy, false, rfl, iteF ⟨_, rfl, _, rfl, _, rfl, r, vy, rfl, gy, by show 2 ≤ sizeLine; decide, fun lo hlo => ?_⟩⟩
            have s13 : Same H12 (upd H12 lo (.lst [v, vy])) := same_upd hlo
            obtain ⟨b, eb, xs', fs', q1, q2, q3, q4, q5⟩ := fin _ lo [v, vy] [hereM Pl (σ1 ++ σ2) p.1, y0] s13 upd_same (.cons (fv'.mono s13) (.cons ((fy.mono wo_to).mono s13) .nil)) (by simp) (fun f hf => by
              have : f = hereM Pl (σ1 ++ σ2) p.1 ∨ f = y0 := by simpa using hf
              rcases this with z | z
              · rw [z]; exact fok'
              · rw [z]; exact kr10.look hk) (by rw [stp]; unfold upd1; rw [hk])
            refine ⟨_, rfl, _, rfl, rfl, lo, b, xs', fs', by rw [eb]; rfl, q1, q2, q3, q4, fun v2 hv2 => ?_⟩
            obtain ⟨H14, d1, d2, d3⟩ := q5 v2 hv2
            exact ⟨_, rfl, _, rfl, r, H14, rfl, d1, _, _, _, rfl, d2, d3, kr13, inw⟩
        · obtain ⟨v8, v9, v10, rfl, s10, tr10, kr10, in10⟩ := hP
          have ha10 : H10 a = some (.frz od (.dK kvs)) := s10 _ _ nra.symm upd_same
          rw [lk, ← rowUp_step hσ2] at tr10 kr10 in10
          rw [List.take_length] at in10
          refine ⟨ha10, _, _, _, _, _, rfl, fun b o n e => ?_, tab_upd tr10 (fun f z => by rw [ha10] at z; cases z) nra, kr10, fun _ => in10⟩
          have e9 := s59 _ _ (s5 b o n e)
          by_cases c : b = a
          · rw [c] at e9 ⊢
            rw [ha9] at e9; cases e9
            exact upd_same
          · rw [upd_ne c]
            exact s10 b o n (by rw [upd_ne c]; exact e9)
      · obtain ⟨v6, v7, v8, v9, v10, rfl, s5, tr5, kr5, in5⟩ := hP
        have e1 : (as2.map V.ref).length = (plansM Pl (!f)).length := by rw [List.length_map]; exact pas2.length
        have in5' := in5 (by
          rw [e1]
          exact List.length_pos_iff.mpr (plans_ne _ Pl wf.rows))
        rw [e1, rowUp_all] at tr5 kr5 in5'
        have sH5 : Same H H5 := fun b o e => s5 b o (ne_of_none (sH2 _ _ e) hr) (s24 _ _ (sH2 _ _ e))
        have ha5 := sH5 _ _ ha
        have tf5 : TabU H5 fo (fouUp Pl f (!f) i) := tf2.mono fun b o e => s5 b o (ne_of_none e hr) (s24 _ _ e)
        have nra : r ≠ a := fun z => by rw [z, sH2 _ _ ha] at hr; cases hr
        refine ⟨a, _, ha5, True.intro, fun od => ⟨_, rfl, a, od, rfl, .inl ⟨kvs, upd_same, for_it walk_keys (fun m σ H10 => ∃ v8 v9 v10, σ = [some (.ref a), some (.str (sideS f)), some (.str (sideS (!f))), some (.ref fo), some (.ref o1), some (.ref r), v6, v7, v8, v9, v10] ∧ SameX fo (upd H5 a (.frz od (.dK kvs))) H10 ∧ TabU H10 fo (outUp Pl (rowM Pl σ1 (!f)) f (fouUp Pl f (!f) i) m) ∧ Tk Pl (outUp Pl (rowM Pl σ1 (!f)) f (fouUp Pl f (!f) i) m))
          ⟨v8, v9, v10, rfl, SameX.refl, tab_upd tf5 (fun f z => by rw [ha5] at z; cases z) nfa, kf2⟩ (fun m σ H10 _ hP => let ⟨_, _, _, _, s10, _⟩ := hP; s10 _ _ nfa.symm upd_same) (fun m x σ H10o H10 hm hP hY => ?_) (fun σ H10 hP => ?_)⟩⟩⟩
        · obtain ⟨v8, v9, v10, rfl, s10, tf10, kf10⟩ := hP
          obtain ⟨rfl, key, vk, hkv, rfl⟩ := hY
          obtain ⟨p, hp, ekey, _⟩ := tb.at hkv
          simp only at ekey
          subst ekey
          have hn : (GW.keys Pl)[m]? = some p.1 := by rw [List.getElem?_map, hp]; rfl
          have hnk : p.1 ∈ GW.keys Pl := List.mem_of_getElem? hn
          have tr10 : TabU H10 r (rowM Pl σ1 (!f)) := by
            have h1 : TabU (upd H5 a (.frz od (.dK kvs))) r (rowM Pl σ1 (!f)) := tab_upd tr5 (fun f z => by rw [ha5] at z; cases z) nra
            obtain ⟨kr, g1, g2⟩ := h1
            refine ⟨kr, s10 _ _ nrf g1, g2.mono fun v' f' ⟨p', e2, e3⟩ => ⟨p', e2, ?_⟩⟩
            obtain ⟨e4, e5⟩ := wo_le e3
            refine wo_of (s10 _ _ (fun z => ?_) e4) e5
            obtain ⟨q, h, _⟩ := tf5
            have e6 : (upd H5 a (.frz od (.dK kvs))) fo = some (.dK q) := by rw [upd_ne nfa]; exact h
            rw [z, e6] at e4; cases e4
          obtain ⟨fx, hfx⟩ := look_some (in5' p.1 hnk)
          obtain ⟨pfx, gfx, hpfx⟩ := tr10.r.get hfx
          have fvx : FrV H10 (.ref pfx) fx := ⟨pfx, rfl, hpfx⟩
          have fok' : FrOk fx := kr5.look hfx
          have stp := outUp_step (first := f) (row := rowM Pl σ1 (!f)) (fo := fouUp Pl f (!f) i) hn
          rw [hfx] at stp
          have stp' : outUp Pl (rowM Pl σ1 (!f)) f (fouUp Pl f (!f) i) (m + 1) = upd1 f (outUp Pl (rowM Pl σ1 (!f)) f (fouUp Pl f (!f) i) m) p.1 fx := stp
          have fin : ∀ (H13 : Hp) (lo : Addr) (xs : List V) (fs : List Fr), Same H10 H13 → H13 lo = some (.lst xs) → Paired (FrV H13) xs fs → fs ≠ [] → (∀ f ∈ fs, FrOk f) → GW.put (outUp Pl (rowM Pl σ1 (!f)) f (fouUp Pl f (!f) i) m) p.1 (bestM fs f) = outUp Pl (rowM Pl σ1 (!f)) f (fouUp Pl f (!f) i) (m + 1) →
              ∃ b, V.bl (decide (V.str (sideS f) = V.str "ours")) = V.bl b ∧ ∃ xs' fs', H13 lo = some (.lst xs') ∧ Paired (FrV H13) xs' fs' ∧ fs' ≠ [] ∧ (∀ f ∈ fs', FrOk f) ∧ ∀ v, FrV H13 v (bestM fs' b) → ∃ H14, DPut H13 fo (.str p.1) v H14 ∧ SameX fo (upd H5 a (.frz od (.dK kvs))) H14 ∧ TabU H14 fo (outUp Pl (rowM Pl σ1 (!f)) f (fouUp Pl f (!f) i) (m + 1)) := fun H13 lo xs fs s13 hlo pf fne fok2 eput => by
            refine ⟨f, by rw [side_dec], xs, fs, hlo, pf, fne, fok2, fun v hv => ?_⟩
            obtain ⟨kt, ht, ktl, tput⟩ := tab_put (tf10.mono s13)
            have := kf10.len
            refine ⟨_, DPut.k (k := Sum.inr p.1) ht (small _ (by omega)), fun b o n e => by rw [upd_ne n]; exact s13 _ _ (s10 b o n e), ?_⟩
            have := tput p.1 _ v hv
            rw [eput] at this
            exact this
          have kf13 : Tk Pl (outUp Pl (rowM Pl σ1 (!f)) f (fouUp Pl f (!f) i) (m + 1)) := by rw [stp']; exact kf10.upd hnk fok' _
          obtain ⟨kt, ht, tbt⟩ := id tf10
          refine ⟨_, rfl, _, rfl, fo, ?_⟩
          cases hk : GW.look p.1 (outUp Pl (rowM Pl σ1 (!f)) f (fouUp Pl f (!f) i) m) with
          | none =>
            refine ⟨none, rfl, get_no (.inl ht) tbt hk, true, rfl, iteT ⟨_, rfl, _, rfl, r, _, rfl, gfx, by show 1 ≤ sizeLine; decide, fun lo hlo => ?_⟩⟩
            have s13 : Same H10 (upd H10 lo (.lst [.ref pfx])) := same_upd hlo
            obtain ⟨b, eb, xs', fs', q1, q2, q3, q4, q5⟩ := fin _ lo [.ref pfx] [fx] s13 upd_same (.cons (fvx.mono s13) .nil) (by simp) (fun f hf => by
              have : f = fx := by simpa using hf
              rw [this]; exact fok') (by rw [stp']; unfold upd1; rw [hk])
            refine ⟨_, rfl, _, rfl, rfl, lo, b, xs', fs', by rw [eb]; rfl, q1, q2, q3, q4, fun v2 hv2 => ?_⟩
            obtain ⟨H14, d1, d2, d3⟩ := q5 v2 hv2
            exact ⟨_, rfl, _, rfl, fo, H14, rfl, d1, _, _, _, rfl, d2, d3, kf13⟩
          | some y0 =>
            obtain ⟨vy, gy, fy⟩ := get_at (.inl ht) tbt hk
            refine ⟨some vy, rfl, gy, false, rfl, iteF ⟨_, rfl, _, rfl, r, _, rfl, gfx, _, rfl, _, rfl, fo, vy, rfl, gy, by show 2 ≤ sizeLine; decide, fun lo hlo => ?_⟩⟩
            have s13 : Same H10 (upd H10 lo (.lst [.ref pfx, vy])) := same_upd hlo
            obtain ⟨b, eb, xs', fs', q1, q2, q3, q4, q5⟩ := fin _ lo [.ref pfx, vy] [fx, y0] s13 upd_same (.cons (fvx.mono s13) (.cons ((fy.mono wo_to).mono s13) .nil)) (by simp) (fun f hf => by
              have : f = fx ∨ f = y0 := by simpa using hf
              rcases this with z | z
              · rw [z]; exact fok'
              · rw [z]; exact kf10.look hk) (by rw [stp']; unfold upd1; rw [hk])
            refine ⟨_, rfl, _, rfl, rfl, lo, b, xs', fs', by rw [eb]; rfl, q1, q2, q3, q4, fun v2 hv2 => ?_⟩
            obtain ⟨H14, d1, d2, d3⟩ := q5 v2 hv2
            exact ⟨_, rfl, _, rfl, fo, H14, rfl, d1, _, _, _, rfl, d2, d3, kf13⟩
        · obtain ⟨v8, v9, v10, rfl, s10, tf10, kf10⟩ := hP
          have ha10 : H10 a = some (.frz od (.dK kvs)) := s10 _ _ nfa.symm upd_same
          rw [lk, ← fouUp_step hσ1] at tf10 kf10
          refine ⟨ha10, _, _, _, _, _, _, _, rfl, fun b o n e => ?_, tab_upd tf10 (fun f z => by rw [ha10] at z; cases z) nfa, kf10⟩
          have e2 := s2 b o n e
          have e5 := s5 b o (ne_of_none e2 hr) (s24 _ _ e2)
          by_cases c : b = a
          · rw [c] at e5 ⊢
            rw [ha5] at e5; cases e5
            exact upd_same
          · rw [upd_ne c]
            exact s10 b o n (by rw [upd_ne c]; exact e5)
    · obtain ⟨v4, v5, v6, v7, v8, v9, v10, rfl, s2, tf2, kf2⟩ := hP
      have e1 : (as1.map V.ref).length = (plansM Pl f).length := by rw [List.length_map]; exact pas1.length
      rw [e1, fouUp_all] at tf2
      exact ⟨_, rfl, k H2 fo (s2.under sH1 hfo) hfo tf2⟩
end
end Gw

set_option Elab.async false
set_option linter.all false
set_option maxRecDepth 100000
set_option maxHeartbeats 4000000
namespace Gw
open PySem PySem.Spec PyProof.Rows L2 GW
/-! ### the two set games -/
def rn (k : Nat) : Str := Str.ofString "r" ++ Str.ofString (toString ((k : Nat) : Int))
def ringRow (k : Nat) : Str × (Bool × Row Str) := (rn k, (true, [(Str.ofString "x", (rn ((k + 1) % 10), if k = 4 then 9 else -1))]))
def ringKs (t : Bool) : List Nat := if t then (List.range 10).reverse else List.range 10
def ringM (t : Bool) : Plan Str := (ringKs t).map ringRow
def twoM : Plan Str := [(Str.ofString "a", (true, [(Str.ofString "stay", (Str.ofString "a", 1)), (Str.ofString "go", (Str.ofString "b", 0))])), (Str.ofString "b", (false, [(Str.ofString "back", (Str.ofString "a", 5)), (Str.ofString "stay", (Str.ofString "b", 2))]))]
theorem two_tab : tableM (tablesM twoM) = [(Str.ofString "a", (2, 1)), (Str.ofString "b", (2, 1))] := by decide +kernel
theorem ring_tab : ∀ t, tableM (tablesM (ringM t)) = (ringM t).map fun p => (p.1, (0, 1)) := by decide +kernel
theorem ring_nd : ∀ t, (GW.keys (ringM t)).Nodup := by decide +kernel
theorem ring_nm : ∀ t, ∀ p ∈ ringM t, NmOk p.1 := by decide +kernel
instance (names : List Str) (row : Row Str) : Decidable (RowOk names row) := by unfold RowOk; infer_instance
theorem ring_row : ∀ t, ∀ p ∈ ringM t, RowOk (GW.keys (ringM t)) p.2.2 := by decide +kernel
theorem ring_len : ∀ t, (ringM t).length = 10 := by decide +kernel
theorem ring_ok (t : Bool) : PlOk (ringM t) := ⟨ring_nd t, (fun z => by have := ring_len t; rw [z] at this; cases this), Nat.le_of_eq (ring_len t), ring_nm t, ring_row t⟩
theorem two_ok : PlOk twoM := ⟨by decide +kernel, by decide +kernel, by decide +kernel, by decide +kernel, by decide +kernel⟩
theorem ks_lt : ∀ t, ∀ k ∈ ringKs t, k < 10 := by decide +kernel
theorem rn_len : ∀ k, k < 10 → (rn k).length = 2 := by decide +kernel
theorem dig_len : ∀ k, k < 10 → (Str.ofString (toString ((k : Nat) : Int))).length = 1 := by decide +kernel
section
variable {P : Program} {w : World} {K : PySem.W.Frag} {mg : Str → Option Value} {base : Heap}
/-! ### _law_a_ring -/
def spARing : Sp := fun vs H Q _ => ∃ t : Bool, vs = [.bl t] ∧ ∀ H' a, Same H H' → H a = none → PlanU H' a (ringM t) → Q (.ref a) H'
theorem scARing : FnScope ["_law_is_turned", "_law_found", "_law_k"] ["_law_is_turned"] (defScope sARing) := ⟨rfl, rfl, rfl, by decide +kernel, rfl, by decide +kernel, by decide +kernel⟩
theorem ok_aring (D : Df K mg "_law_a_ring" sARing ["_law_is_turned"]) (B : Blt mg) : FnOk P w K mg base CX0 1 D.f D.fd ["_law_is_turned"] spARing := by
  refine D.F.ok scARing (fun vs H Q E h => ?_) (fun cdv A outer s H vs Q E hr h => ?_)
  · obtain ⟨t, rfl, _⟩ := h
    rfl
  · obtain ⟨t, rfl, k⟩ := h
    have hu := hu_of hr
    refine ⟨_, pss_cons (ps_set (i := 1) scARing.nd rfl (.inl rfl) pe_dnewK)
      (pss_cons (ps_for PassesOwn.never rfl (pi_list (pe_ifExp (pt_val (pv 0)) (pe_revL (pe_listRg rfl (by rfl) B.list (prg_1 (by rfl) B.range pe_int))) (pe_listRg rfl (by rfl) B.list (prg_1 (by rfl) B.range pe_int)))) (pg_name (i := 2) scARing.nd rfl (.inl rfl))
        (pss_one (ps_dput hu (pv 1) (pe_op op_add_str pe_str (pe_callTy call_str_int (by rfl) B.str PyProof.Rows.boot_str (pa_cons (pv 2) pa_nil)))
          (pe_tup (pa_cons pe_str (pa_cons (pe_disp (pps_cons pe_str (pe_tup (pa_cons (pe_op op_add_str pe_str (pe_callTy call_str_int (by rfl) B.str PyProof.Rows.boot_str (pa_cons (pe_op op_mod (pe_callTy call_int1 (by rfl) B.int PyProof.Rows.boot_int (pa_cons (pe_op op_add (pv 2) pe_int) pa_nil)) pe_int) pa_nil)))
            (pa_cons (pe_ifExp (pt_cmpR op_eq (pv 2) pe_int (nomark _)) pe_int (pe_un un_neg pe_int)) pa_nil))) pps_nil) rfl rfl (by simp) (by decide)) pa_nil))) rfl)))
      (pss_one (ps_ret (pv 1)))), ?_⟩
    intro f hf
    have s0 : Same H (upd H f (.dK [])) := same_upd hf
    have hf0 : (upd H f (.dK [])) f = some (.dK []) := upd_same
    generalize upd H f (.dK []) = H0 at s0 hf0 ⊢
    -- the list of numbers
    have nums : ∀ (σ : L2.St) (Q : VK), σ[0]? = some (some (.bl t)) → (∀ l H1, Same H0 H1 → H1 l = some (.lst ((ringKs t).map fun (k : Nat) => V.int (k : Int))) → Q (.ref l) H1) → tIf (tB (tVar 0)) (tRevL K (tLstRg (tRg1 (tC (.int 10))))) (tLstRg (tRg1 (tC (.int 10)))) σ H0 Q := fun σ Q e h => by
      have rg : rgV 0 10 = (List.range 10).map fun (k : Nat) => V.int (k : Int) := by
        unfold rgV
        show List.map _ (List.range 10) = _
        refine List.map_congr_left fun i _ => ?_
        show V.int (0 + (i : Int)) = _
        rw [Int.zero_add]
      refine ⟨_, e, t, rfl, ?_⟩
      cases t with
      | true =>
        refine iteT ⟨10, rfl, RgOk.of_le (by decide) (by decide) (by decide) (by decide), fun q hq => ⟨q, _, rfl, SqL.of upd_same, fun l hl => ?_⟩⟩
        refine h l _ ((same_upd hq).trans (same_upd hl)) ?_
        rw [upd_same, rg, ← List.map_reverse]; rfl
      | false =>
        refine iteF ⟨10, rfl, RgOk.of_le (by decide) (by decide) (by decide) (by decide), fun q hq => ?_⟩
        refine h q _ (same_upd hq) ?_
        rw [upd_same, rg]; rfl
    refine nums _ _ rfl fun l H1 s1 hl => ?_
    have nlf : l ≠ f := ne_of hl (s1 _ _ hf0) (by intro z; cases z)
    refine ⟨l, rfl, ⟨_, SqL.of hl⟩, for_list (K := K) (a := l) (xs := (ringKs t).map fun (k : Nat) => V.int (k : Int)) (fun i σ H2 => ∃ v2 kvs, σ = [some (.bl t), some (.ref f), v2] ∧ Same H H2 ∧ H2 l = some (.lst ((ringKs t).map fun (k : Nat) => V.int (k : Int))) ∧ H2 f = some (.dK kvs) ∧ Tb (PlV (wo H2 f)) kvs ((ringM t).take i))
      ⟨none, [], rfl, fun b o e => s1 _ _ (s0 _ _ e), hl, s1 _ _ hf0, .nil⟩ (fun i σ H2 _ hP => let ⟨_, _, _, _, h, _⟩ := hP; SqL.of h) (fun i x σ H2 hx hP => ?_) (fun σ H2 hP => ?_)⟩
    · obtain ⟨v2, kvs, rfl, s2, hl2, hf2, tb2⟩ := hP
      obtain ⟨kk, hkk⟩ : ∃ kk, (ringKs t)[i]? = some kk := by
        rw [List.getElem?_map] at hx
        cases e : (ringKs t)[i]? with
        | none => rw [e] at hx; cases hx
        | some n => exact ⟨n, rfl⟩
      have ex : x = .int (kk : Int) := by
        rw [List.getElem?_map, hkk] at hx
        exact (Option.some.inj hx).symm
      subst ex
      have k10 := ks_lt t kk (List.mem_of_getElem? hkk)
      have k10' : (kk + 1) % 10 < 10 := Nat.mod_lt _ (by decide)
      have hrow : (ringM t)[i]? = some (ringRow kk) := by unfold ringM; rw [List.getElem?_map, hkk]; rfl
      have em : ((kk : Int) + 1) % 10 = (((kk + 1) % 10 : Nat) : Int) := by omega
      have sm : ∀ j : Nat, j < 10 → ((j : Nat) : Int).natAbs.log2 < 1920 := by decide +kernel
      have l1 : ∀ j, j < 10 → (Str.ofString "r").length + (Str.ofString (toString ((j : Nat) : Int))).length ≤ sizeLine := fun j hj => by
        rw [dig_len j hj]
        have : (Str.ofString "r").length = 1 := by decide +kernel
        rw [this]; exact Nat.le_of_lt (small _ (by omega))
      intro p hp
      have npl : p ≠ l := fun z => by rw [z, hl2] at hp; cases hp
      have npf : p ≠ f := fun z => by rw [z, hf2] at hp; cases hp
      refine ⟨_, rfl, (kk : Int), _, rfl, rfl, .inl ⟨_, rfl, _, _, rfl, rfl, by show (0 : Int) < 10; decide, (((kk + 1) % 10 : Nat) : Int), by show [V.int (((kk : Int) + 1) % 10)] = _; rw [em], sm _ k10', _, _, rfl, rfl, l1 _ k10', _, rfl, rfl, _, rfl, ?_⟩⟩
      have kl : kvs.length ≤ 10 := by
        have h1 := tb2.len
        rw [List.length_take, ring_len] at h1
        omega
      have fresh : valV kvs (Sum.inr (rn kk) : Key) = none := tb2.no (look_none.mpr (key_fresh (l := ringM t) (ring_nd t) hrow))
      have fin : ∀ (am : Int) (H3 H4 : Hp) (q z : Addr), (if kk = 4 then (9 : Int) else -1) = am → H3 = upd (upd H2 p (.dK [])) q (.tup [.str (rn ((kk + 1) % 10)), .int am]) → (upd H2 p (.dK [])) q = none → (upd H3 p (.dK (mergeK [] [((Sum.inr (Str.ofString "x") : Key), V.ref q)]))) z = none → H4 = upd (upd H3 p (.dK (mergeK [] [((Sum.inr (Str.ofString "x") : Key), V.ref q)]))) z (.tup [.str (Str.ofString "ours"), .ref p]) →
          H4 f = some (.dK kvs) ∧ Same H (upd H4 f (.dK (putK kvs (Sum.inr (rn kk)) (.ref z)))) ∧ (upd H4 f (.dK (putK kvs (Sum.inr (rn kk)) (.ref z)))) l = some (.lst ((ringKs t).map fun (k : Nat) => V.int (k : Int))) ∧ Tb (PlV (wo (upd H4 f (.dK (putK kvs (Sum.inr (rn kk)) (.ref z)))) f)) (putK kvs (Sum.inr (rn kk)) (.ref z)) ((ringM t).take (i + 1)) := fun am H3 H4 q z eam e3 hq hz e4 => by
        have nqp : q ≠ p := fun y => by rw [y, upd_same] at hq; cases hq
        have hq2 : H2 q = none := by rw [upd_ne nqp] at hq; exact hq
        have hp3 : H3 p = some (.dK []) := by rw [e3, upd_ne nqp.symm, upd_same]
        have nzp : z ≠ p := fun y => by rw [y, upd_same] at hz; cases hz
        have hz3 : H3 z = none := by rw [upd_ne nzp] at hz; exact hz
        have hq3 : H3 q = some (.tup [.str (rn ((kk + 1) % 10)), .int am]) := by rw [e3, upd_same]
        have nzq : z ≠ q := fun y => by rw [y, hq3] at hz3; cases hz3
        have keep : ∀ b o, H2 b = some o → H4 b = some o := fun b o e => by
          have n1 : b ≠ p := ne_of_none e hp
          have n2 : b ≠ q := ne_of_none e hq2
          have n3 : b ≠ z := fun y => by rw [← y, e3, upd_ne n2, upd_ne n1, e] at hz3; cases hz3
          rw [e4, upd_ne n3, upd_ne n1, e3, upd_ne n2, upd_ne n1]; exact e
        have hf4 := keep _ _ hf2
        have hz4 : H4 z = some (.tup [.str (Str.ofString "ours"), .ref p]) := by rw [e4, upd_same]
        have hp4 : H4 p = some (.dK [((Sum.inr (Str.ofString "x") : Key), V.ref q)]) := by rw [e4, upd_ne nzp.symm, upd_same]; rfl
        have hq4 : H4 q = some (.tup [.str (rn ((kk + 1) % 10)), .int am]) := by rw [e4, upd_ne nzq.symm, upd_ne nqp]; exact hq3
        refine ⟨hf4, s_own (fun b o e => keep _ _ (s2 _ _ e)) hf, by rw [upd_ne nlf]; exact keep _ _ hl2, ?_⟩
        rw [putK_new _ fresh, wo_upd, List.take_add_one, hrow]
        refine (tb2.mono fun _ _ r => r.mono (wo_same keep)).app (.cons ⟨rfl, z, p, _, rfl, wo_of hz4 (ne_of hz4 hf4 (by intro y; cases y)), wo_of hp4 npf, .cons ⟨rfl, q, rfl, ?_⟩ .nil⟩ .nil)
        show wo H4 f q = some (.tup [.str (rn ((kk + 1) % 10)), .int (if kk = 4 then (9 : Int) else -1)])
        rw [eam]
        exact wo_of hq4 (ne_of hq4 hf4 (by intro y; cases y))
      refine ite2 (fun c => ?_) (fun c => ?_)
      · have c4 : kk = 4 := by
          have := V.int.inj (of_decide_eq_true c)
          omega
        refine ⟨by show 2 ≤ sizeLine; decide, fun q hq => ⟨?_, [((Sum.inr (Str.ofString "x") : Key), V.ref q)], rfl, by show 1 ≤ 15; decide, by show 2 ≤ sizeLine; decide, fun z hz => ?_⟩⟩
        · rw [upd_ne (fun y => by rw [← y, upd_same] at hq; cases hq), upd_same]
        obtain ⟨g1, g2, g3, g4⟩ := fin 9 _ _ q z (if_pos c4) rfl hq hz rfl
        exact ⟨_, rfl, _, rfl, (kk : Int), rfl, sm _ k10, _, _, rfl, rfl, l1 _ k10, f, _, rfl, DPut.k (k := Sum.inr (rn kk)) g1 (small _ (by omega)), _, _, rfl, g2, g3, upd_same, g4⟩
      · have c4 : ¬ kk = 4 := fun y => c (decide_eq_true (by rw [y]; rfl))
        refine ⟨1, rfl, by show 2 ≤ sizeLine; decide, fun q hq => ⟨?_, [((Sum.inr (Str.ofString "x") : Key), V.ref q)], rfl, by show 1 ≤ 15; decide, by show 2 ≤ sizeLine; decide, fun z hz => ?_⟩⟩
        · rw [upd_ne (fun y => by rw [← y, upd_same] at hq; cases hq), upd_same]
        obtain ⟨g1, g2, g3, g4⟩ := fin (-1) _ _ q z (if_neg c4) rfl hq hz rfl
        exact ⟨_, rfl, _, rfl, (kk : Int), rfl, sm _ k10, _, _, rfl, rfl, l1 _ k10, f, _, rfl, DPut.k (k := Sum.inr (rn kk)) g1 (small _ (by omega)), _, _, rfl, g2, g3, upd_same, g4⟩
    · obtain ⟨v2, kvs, rfl, s2, hl2, hf2, tb2⟩ := hP
      have e : ((ringKs t).map fun (k : Nat) => V.int (k : Int)).length = (ringM t).length := by unfold ringM; rw [List.length_map, List.length_map]
      rw [e, List.take_length] at tb2
      exact ⟨_, rfl, k H2 f s2 hf ⟨kvs, hf2, tb2⟩⟩
end
end Gw

set_option Elab.async false
set_option linter.all false
set_option maxRecDepth 100000
set_option maxHeartbeats 4000000
namespace Gw
open PySem PySem.Spec PyProof.Rows L2 GW
/-! ### _law_same -/
def SD : Nat → Hp → V → V → Prop
  | 0, _, x, y => (∃ i : Int, x = .int i ∧ y = .int i) ∨ ∃ z : Str, x = .str z ∧ y = .str z
  | n + 1, H, x, y => ∃ (p q : Addr) (xs ys : List V), x = .ref p ∧ y = .ref q ∧ ((H p = some (.lst xs) ∧ H q = some (.lst ys)) ∨ (H p = some (.tup xs) ∧ H q = some (.tup ys))) ∧ Paired (SD n H) xs ys ∧ xs.length ≤ 1000
theorem SD.mono {H H' : Hp} (s : Same H H') : ∀ (n : Nat) (x y : V), SD n H x y → SD n H' x y
  | 0, _, _, h => h
  | n + 1, x, y, ⟨p, q, xs, ys, e1, e2, h, pr, l⟩ => ⟨p, q, xs, ys, e1, e2, h.elim (fun z => .inl ⟨s _ _ z.1, s _ _ z.2⟩) (fun z => .inr ⟨s _ _ z.1, s _ _ z.2⟩), Paired.mapP pr fun a b r => SD.mono s n a b r, l⟩
def spSame (n : Nat) : Sp := fun vs H Q _ => ∃ x y : V, vs = [x, y] ∧ SD n H x y ∧ ∀ H', Same H H' → Q (.bl true) H'
theorem walk_zipT {K : PySem.W.Frag} {a b : Addr} {xs ys : List V} {n : Nat} (hn : n = min xs.length ys.length) : Walk (RZ.ItzT K a b) n (fun H => SqT K H a xs ∧ SqT K H b ys) (YPair (fun i => xs[i]?) (fun i => ys[i]?)) := by
  subst hn
  refine ⟨fun i H hi hq => ?_, fun H hq => ⟨xs, ys, hq.1, hq.2, by omega⟩, fun i H v H' _ hq hy => ?_⟩
  · obtain ⟨g1, g2⟩ : i < xs.length ∧ i < ys.length := by omega
    exact ⟨xs, ys, xs[i], ys[i], hq.1, hq.2, List.getElem?_eq_getElem g1, List.getElem?_eq_getElem g2⟩
  · obtain ⟨T, x, z, k1, k2, k3, k4, k5⟩ := hy
    exact ⟨T, x, z, k1, k2, k3, k4 xs hq.1, k5 ys hq.2⟩
section
variable {P : Program} {w : World} {K : PySem.W.Frag} {mg : Str → Option Value} {base : Heap}
theorem scSame : FnScope ["_law_found", "_law_due", "_law_x", "_law_y"] ["_law_found", "_law_due"] (defScope sSame) := ⟨rfl, rfl, rfl, by decide +kernel, rfl, by decide +kernel, by decide +kernel⟩
theorem ok_sameG (n k : Nat) (spR : Sp) (D : Df K mg "_law_same" sSame ["_law_found", "_law_due"]) (B : Blt mg) (G : FnOk P w K mg base CX0 k D.f D.fd ["_law_found", "_law_due"] spR) (hR : ∀ m, n = m + 1 → ∀ vs H Q E, spSame m vs H Q E → spR vs H Q E) :
    FnOk P w K mg base CX0 (k + 1) D.f D.fd ["_law_found", "_law_due"] (spSame n) := by
  refine D.F.ok scSame (fun vs H Q E h => ?_) (fun cdv A outer s H vs Q E hr h => ?_)
  · obtain ⟨x, y, rfl, _⟩ := h
    rfl
  · obtain ⟨x, y, rfl, sd, kq⟩ := h
    refine ⟨_, pss_cons (ps_if (pt_val (pe_callB call_isiT (by rfl) B.isinst boot_isinstance (pa_cons (pv 1) (pa_cons (pe_tup (pa_cons (pe_bltn (v := .ty "list") (by rfl) B.list PyProof.Rows.boot_list rfl) (pa_cons (pe_bltn (v := .ty "tuple") (by rfl) B.tuple PyProof.Rows.boot_tuple rfl) pa_nil))) pa_nil))))
        (pss_cons (ps_if (PW.pt (pw_or (pt_cmpR op_ne (pe_callB call_isi (by rfl) B.isinst boot_isinstance (pa_cons (pv 0) (pa_cons (pe_bltn (v := .ty "list") (by rfl) B.list PyProof.Rows.boot_list rfl) pa_nil))) (pe_callB call_isi (by rfl) B.isinst boot_isinstance (pa_cons (pv 1) (pa_cons (pe_bltn (v := .ty "list") (by rfl) B.list PyProof.Rows.boot_list rfl) pa_nil))) (nomark _))
            (pw_or1 (pt_cmpR op_ne (pe_callB call_isi (by rfl) B.isinst boot_isinstance (pa_cons (pv 0) (pa_cons (pe_bltn (v := .ty "tuple") (by rfl) B.tuple PyProof.Rows.boot_tuple rfl) pa_nil))) (pe_callB call_isi (by rfl) B.isinst boot_isinstance (pa_cons (pv 1) (pa_cons (pe_bltn (v := .ty "tuple") (by rfl) B.tuple PyProof.Rows.boot_tuple rfl) pa_nil))) (nomark _))))) (pss_one (ps_ret pe_bl)) pss_nil)
        (pss_one (ps_ret (pe_and (pe_cmpR op_eq (pe_callB call_len_seq (by rfl) B.len PySem.boot_len (pa_cons (pv 0) pa_nil)) (pe_callB call_len_seq (by rfl) B.len PySem.boot_len (pa_cons (pv 1) pa_nil)) (nomark _))
          (pe_one (pe_callB (cr_all rfl) (by rfl) B.all boot_all (pa_cons (pe_lc (own := [("_law_x", 2), ("_law_y", 3)]) (g := gTup K 2 (gCons (gName 2) (gCons (gName 3) gNil))) (tt := tYes) (by rfl) scSame.nd (RZ.pi_zipA (by rfl) B.zip (pa_cons (pv 0) (pa_cons (pv 1) pa_nil)))
            (blkOk_by (N := ["_law_found", "_law_due", "_law_x", "_law_y"]) (sc := defScope sSame) (by decide +kernel)) (fun _ _ _ _ _ => pg_tup rfl (pgs_cons (pg_name (i := 2) scSame.nd rfl (.inl rfl)) (pgs_cons (pg_name (i := 3) scSame.nd rfl (.inl rfl)) pgs_nil))) (fun _ _ _ _ _ => pts_nil)
            (fun _ _ _ _ _ => pe_call G hr rfl D.m D.F.kp D.b .nil pass0 (pa_cons (pv 2) (pa_cons (pv 3) pa_nil)))) pa_nil))))))) pss_nil)
      (pss_cons (ps_if (pt_val (pe_callB call_isi (by rfl) B.isinst boot_isinstance (pa_cons (pv 1) (pa_cons (pe_bltn (v := .ty "int") (by rfl) B.int PyProof.Rows.boot_int rfl) pa_nil))))
        (pss_one (ps_ret (pe_and (pe_callB call_isi (by rfl) B.isinst boot_isinstance (pa_cons (pv 0) (pa_cons (pe_bltn (v := .ty "int") (by rfl) B.int PyProof.Rows.boot_int rfl) pa_nil)))
          (pe_and (pe_cmpR op_eq (pe_callB call_isi (by rfl) B.isinst boot_isinstance (pa_cons (pv 0) (pa_cons (pe_bltn (v := .ty "bool") (by rfl) B.bool (by decide +kernel) rfl) pa_nil))) (pe_callB call_isi (by rfl) B.isinst boot_isinstance (pa_cons (pv 1) (pa_cons (pe_bltn (v := .ty "bool") (by rfl) B.bool (by decide +kernel) rfl) pa_nil))) (nomark _))
            (pe_one (pe_cmpR op_eq (pv 0) (pv 1) (nomark _))))))) pss_nil)
      (pss_one (ps_ret (pe_and (pe_cmpR op_is_bl (pe_callB call_isiT (by rfl) B.isinst boot_isinstance (pa_cons (pv 0) (pa_cons (pe_tup (pa_cons (pe_bltn (v := .ty "int") (by rfl) B.int PyProof.Rows.boot_int rfl) (pa_cons (pe_bltn (v := .ty "list") (by rfl) B.list PyProof.Rows.boot_list rfl) (pa_cons (pe_bltn (v := .ty "tuple") (by rfl) B.tuple PyProof.Rows.boot_tuple rfl) pa_nil)))) pa_nil))) pe_bl (nomark _))
        (pe_one (pe_cmpR op_eq (pv 0) (pv 1) (nomark _))))))), ?_⟩
    cases n with
    | zero =>
      rcases sd with ⟨i, rfl, rfl⟩ | ⟨z, rfl, rfl⟩
      · refine ⟨_, rfl, by show 2 ≤ sizeLine; decide, fun t nt => ⟨_, t, _, .type "int", [.type "list", .type "tuple"], false, rfl, upd_same, .cons (.ty _) (.cons (.ty _) .nil), .base (.int i), kitAny_cons (kit_ty (b := "list") (r := false) (by decide +kernel)) (fun _ => kitAny_cons (kit_ty (b := "tuple") (r := false) (by decide +kernel)) (fun _ => kitAny_nil) (fun z => nomatch z)) (fun z => nomatch z), false, rfl, iteF ?_⟩⟩
        have st : Same H (upd H t (.tup [.ty "list", .ty "tuple"])) := same_upd nt
        refine ⟨_, rfl, .int i, _, _, _, true, rfl, .ty _, .base (.int i), kit_ty (by decide +kernel), true, rfl, iteT ?_⟩
        refine ⟨_, rfl, .int i, _, _, _, true, rfl, .ty _, .base (.int i), kit_ty (by decide +kernel), true, rfl, iteT ?_⟩
        refine ⟨_, rfl, .int i, _, _, _, false, rfl, .ty _, .base (.int i), kit_ty (by decide +kernel), _, rfl, .int i, _, _, _, false, rfl, .ty _, .base (.int i), kit_ty (by decide +kernel), rfl, true, by rw [decide_eq_true rfl], iteT ?_⟩
        refine ⟨_, rfl, _, rfl, rfl, ?_⟩
        rw [decide_eq_true rfl]
        exact kq _ st
      · refine ⟨_, rfl, by show 2 ≤ sizeLine; decide, fun t nt => ⟨_, t, _, .type "str", [.type "list", .type "tuple"], false, rfl, upd_same, .cons (.ty _) (.cons (.ty _) .nil), .base (.str z), kitAny_cons (kit_ty (b := "list") (r := false) (by decide +kernel)) (fun _ => kitAny_cons (kit_ty (b := "tuple") (r := false) (by decide +kernel)) (fun _ => kitAny_nil) (fun z => nomatch z)) (fun z => nomatch z), false, rfl, iteF ?_⟩⟩
        have st : Same H (upd H t (.tup [.ty "list", .ty "tuple"])) := same_upd nt
        refine ⟨_, rfl, .str z, _, _, _, false, rfl, .ty _, .base (.str z), kit_ty (by decide +kernel), false, rfl, iteF ?_⟩
        refine ⟨_, rfl, by show 3 ≤ sizeLine; decide, fun t2 nt2 => ⟨_, t2, _, .type "str", [.type "int", .type "list", .type "tuple"], false, rfl, upd_same, .cons (.ty _) (.cons (.ty _) (.cons (.ty _) .nil)), .base (.str z), kitAny_cons (kit_ty (b := "int") (r := false) (by decide +kernel)) (fun _ => kitAny_cons (kit_ty (b := "list") (r := false) (by decide +kernel)) (fun _ => kitAny_cons (kit_ty (b := "tuple") (r := false) (by decide +kernel)) (fun _ => kitAny_nil) (fun z => nomatch z)) (fun z => nomatch z)) (fun z => nomatch z), _, _, rfl, rfl, true, by rw [decide_eq_true rfl], iteT ?_⟩⟩
        refine ⟨_, rfl, _, rfl, rfl, ?_⟩
        rw [decide_eq_true rfl]
        exact kq _ (st.trans (same_upd nt2))
    | succ m =>
      obtain ⟨p, q, xs, ys, rfl, rfl, hpq, pr, l1⟩ := sd
      have hl : xs.length = ys.length := pr.length
      rcases hpq with ⟨hp, hq⟩ | ⟨hp, hq⟩
      · refine ⟨_, rfl, by show 2 ≤ sizeLine; decide, fun t nt => ?_⟩
        have st : Same H (upd H t (.tup [.ty "list", .ty "tuple"])) := same_upd nt
        have ht : (upd H t (.tup [.ty "list", .ty "tuple"])) t = some (.tup [.ty "list", .ty "tuple"]) := upd_same
        generalize upd H t (.tup [.ty "list", .ty "tuple"]) = H1 at st ht ⊢
        have hp1 := st _ _ hp
        have hq1 := st _ _ hq
        refine ⟨_, t, _, .type "list", [.type "list", .type "tuple"], true, rfl, ht, .cons (.ty _) (.cons (.ty _) .nil), .base (.lst hq1), kitAny_cons (kit_ty (b := "list") (r := true) (by decide +kernel)) (fun z => nomatch z) (fun _ => rfl), true, rfl, iteT ?_⟩
        refine ⟨_, rfl, .ref p, _, _, _, true, rfl, .ty _, .base (.lst hp1), kit_ty (by decide +kernel), _, rfl, .ref q, _, _, _, true, rfl, .ty _, .base (.lst hq1), kit_ty (by decide +kernel), rfl, _, rfl, iteNS rfl ?_⟩
        refine ⟨_, rfl, .ref p, _, _, _, false, rfl, .ty _, .base (.lst hp1), kit_ty (by decide +kernel), _, rfl, .ref q, _, _, _, false, rfl, .ty _, .base (.lst hq1), kit_ty (by decide +kernel), rfl, _, rfl, iteNS rfl ?_⟩
        refine ⟨_, rfl, p, _, rfl, .inl (SqL.of hp1), _, rfl, q, _, rfl, .inl (SqL.of hq1), rfl, true, by rw [decide_eq_true (by rw [hl])], iteT ?_⟩
        refine ⟨_, rfl, _, rfl, p, q, xs, ys, rfl, .inl ⟨SqL.of hp1, SqL.of hq1, fun Dd hD => lc_it (walk_zip (xs := xs) (ys := ys) rfl) (fun i H2 => Same H1 H2 ∧ H2 Dd = some (.lst ((List.replicate i true).map V.bl))) ⟨same_upd hD, upd_same⟩ (fun i H2 _ hP => ⟨SqL.of (hP.1 _ _ hp1), SqL.of (hP.1 _ _ hq1)⟩) (fun i x H2 H3 hi hP hY => ?_) (fun H2 hP => ?_)⟩⟩
        · obtain ⟨s2, d2⟩ := hP
          obtain ⟨T, a, b, rfl, nT, rfl, g1, g2⟩ := hY
          have sd1 : SD m H a b := by
            obtain ⟨b', hb', r⟩ := paired_at pr g1
            have g2' : ys[i]? = some b := g2
            rw [hb'] at g2'
            rw [← Option.some.inj g2']; exact r
          have s3 := s2.trans (same_upd (o := .tup [a, b]) nT)
          have d3 := same_upd (o := .tup [a, b]) nT _ _ d2
          have hT : (upd H2 T (.tup [a, b])) T = some (.tup [a, b]) := upd_same
          generalize upd H2 T (.tup [a, b]) = H3 at s3 d3 hT ⊢
          refine ⟨T, _, rfl, SqT.of hT, rfl, _, _, rfl, _, _, rfl, rfl, rfl, yes_then ⟨_, rfl, _, rfl, hR m rfl _ _ _ _ ⟨a, b, rfl, SD.mono (st.trans s3) m a b sd1, fun H4 s4 => ?_⟩⟩⟩
          refine ⟨_, s4 _ _ d3, by rw [List.length_map, List.length_replicate]; exact small _ (by omega), s_own (s3.trans s4) hD, ?_⟩
          rw [upd_same, List.replicate_succ', List.map_append]; rfl
        · refine ⟨Dd, _, rfl, SqL.of hP.2, ?_⟩
          have : ((List.replicate (min xs.length ys.length) true).all id) = true := by simp
          rw [this]
          exact kq _ (st.trans hP.1)
      · refine ⟨_, rfl, by show 2 ≤ sizeLine; decide, fun t nt => ?_⟩
        have st : Same H (upd H t (.tup [.ty "list", .ty "tuple"])) := same_upd nt
        have ht : (upd H t (.tup [.ty "list", .ty "tuple"])) t = some (.tup [.ty "list", .ty "tuple"]) := upd_same
        generalize upd H t (.tup [.ty "list", .ty "tuple"]) = H1 at st ht ⊢
        have hp1 := st _ _ hp
        have hq1 := st _ _ hq
        refine ⟨_, t, _, .type "tuple", [.type "list", .type "tuple"], true, rfl, ht, .cons (.ty _) (.cons (.ty _) .nil), .base (.tup hq1), kitAny_cons (kit_ty (b := "list") (r := false) (by decide +kernel)) (fun _ => kitAny_cons (kit_ty (b := "tuple") (r := true) (by decide +kernel)) (fun z => nomatch z) (fun _ => rfl)) (fun z => nomatch z), true, rfl, iteT ?_⟩
        refine ⟨_, rfl, .ref p, _, _, _, false, rfl, .ty _, .base (.tup hp1), kit_ty (by decide +kernel), _, rfl, .ref q, _, _, _, false, rfl, .ty _, .base (.tup hq1), kit_ty (by decide +kernel), rfl, _, rfl, iteNS rfl ?_⟩
        refine ⟨_, rfl, .ref p, _, _, _, true, rfl, .ty _, .base (.tup hp1), kit_ty (by decide +kernel), _, rfl, .ref q, _, _, _, true, rfl, .ty _, .base (.tup hq1), kit_ty (by decide +kernel), rfl, _, rfl, iteNS rfl ?_⟩
        refine ⟨_, rfl, p, _, rfl, .inr (SqT.of hp1), _, rfl, q, _, rfl, .inr (SqT.of hq1), rfl, true, by rw [decide_eq_true (by rw [hl])], iteT ?_⟩
        refine ⟨_, rfl, _, rfl, p, q, xs, ys, rfl, .inr ⟨SqT.of hp1, SqT.of hq1, fun Dd hD => lc_it (walk_zipT (xs := xs) (ys := ys) rfl) (fun i H2 => Same H1 H2 ∧ H2 Dd = some (.lst ((List.replicate i true).map V.bl))) ⟨same_upd hD, upd_same⟩ (fun i H2 _ hP => ⟨SqT.of (hP.1 _ _ hp1), SqT.of (hP.1 _ _ hq1)⟩) (fun i x H2 H3 hi hP hY => ?_) (fun H2 hP => ?_)⟩⟩
        · obtain ⟨s2, d2⟩ := hP
          obtain ⟨T, a, b, rfl, nT, rfl, g1, g2⟩ := hY
          have sd1 : SD m H a b := by
            obtain ⟨b', hb', r⟩ := paired_at pr g1
            have g2' : ys[i]? = some b := g2
            rw [hb'] at g2'
            rw [← Option.some.inj g2']; exact r
          have s3 := s2.trans (same_upd (o := .tup [a, b]) nT)
          have d3 := same_upd (o := .tup [a, b]) nT _ _ d2
          have hT : (upd H2 T (.tup [a, b])) T = some (.tup [a, b]) := upd_same
          generalize upd H2 T (.tup [a, b]) = H3 at s3 d3 hT ⊢
          refine ⟨T, _, rfl, SqT.of hT, rfl, _, _, rfl, _, _, rfl, rfl, rfl, yes_then ⟨_, rfl, _, rfl, hR m rfl _ _ _ _ ⟨a, b, rfl, SD.mono (st.trans s3) m a b sd1, fun H4 s4 => ?_⟩⟩⟩
          refine ⟨_, s4 _ _ d3, by rw [List.length_map, List.length_replicate]; exact small _ (by omega), s_own (s3.trans s4) hD, ?_⟩
          rw [upd_same, List.replicate_succ', List.map_append]; rfl
        · refine ⟨Dd, _, rfl, SqL.of hP.2, ?_⟩
          have : ((List.replicate (min xs.length ys.length) true).all id) = true := by simp
          rw [this]
          exact kq _ (st.trans hP.1)
theorem ok_same0 (D : Df K mg "_law_same" sSame ["_law_found", "_law_due"]) (B : Blt mg) : FnOk P w K mg base CX0 1 D.f D.fd ["_law_found", "_law_due"] (spSame 0) :=
  ok_sameG 0 0 (fun _ _ _ _ => False) D B ⟨fun _ _ _ _ h => h.elim, fun _ _ _ _ _ _ _ _ _ _ _ _ _ h => h.elim⟩ fun m h => by cases h
theorem ok_sameS (n k : Nat) (D : Df K mg "_law_same" sSame ["_law_found", "_law_due"]) (B : Blt mg) (G : FnOk P w K mg base CX0 k D.f D.fd ["_law_found", "_law_due"] (spSame n)) : FnOk P w K mg base CX0 (k + 1) D.f D.fd ["_law_found", "_law_due"] (spSame (n + 1)) :=
  ok_sameG (n + 1) k (spSame n) D B G fun m h vs H Q E q => by
    have : n = m := by omega
    rw [this]; exact q
theorem ok_same2 (D : Df K mg "_law_same" sSame ["_law_found", "_law_due"]) (B : Blt mg) : FnOk P w K mg base CX0 3 D.f D.fd ["_law_found", "_law_due"] (spSame 2) := ok_sameS 1 2 D B (ok_sameS 0 1 D B (ok_same0 D B))
theorem ok_same1 (D : Df K mg "_law_same" sSame ["_law_found", "_law_due"]) (B : Blt mg) : FnOk P w K mg base CX0 2 D.f D.fd ["_law_found", "_law_due"] (spSame 1) := ok_sameS 0 1 D B (ok_same0 D B)
end
end Gw

set_option Elab.async false
set_option linter.all false
set_option maxRecDepth 100000
set_option maxHeartbeats 4000000
namespace Gw
open PySem PySem.Spec PyProof.Rows L2 GW
theorem dp_strs {K : PySem.W.Frag} {H : Hp} : ∀ zs : List Str, DpAll K H (zs.map V.str) (zs.map PyData.str)
  | [] => .nil
  | z :: r => .cons (.str z) (dp_strs r)
theorem sign_lt : ∀ c ∈ signs.cps.toList, c < 0x110000 := by decide +kernel
theorem name_sok {z : Str} (h : NmOk z) : PyData.strOk z = true := by
  unfold PyData.strOk
  rw [← Array.all_toList]
  exact List.all_eq_true.mpr fun c hc => decide_eq_true (sign_lt c (h.2.2 c hc))
theorem sh_strs {zs : List Str} (h : ∀ z ∈ zs, NmOk z) : SeqAt.shaped (.list (zs.map PyData.str)) = true := by
  have g : ∀ zs : List Str, (∀ z ∈ zs, NmOk z) → PyData.canLayAll0 (zs.map PyData.str) = true ∧ PyData.depthAll (zs.map PyData.str) = 0 := by
    intro zs
    induction zs with
    | nil => intro _; exact ⟨rfl, rfl⟩
    | cons n r ih =>
      intro hh
      obtain ⟨i1, i2⟩ := ih fun z hz => hh z (by simp [hz])
      have l60 := (hh n (by simp)).2.1
      refine ⟨?_, ?_⟩
      · rw [List.map_cons, PyData.canLayAll0, i1, PyData.canLay0, Bool.and_true]
        exact name_sok (hh n (by simp))
      · rw [List.map_cons, PyData.depthAll, i2]; rfl
  unfold SeqAt.shaped
  rw [PyData.canLay0, PyData.depth, (g zs h).1, (g zs h).2]
  rfl
/-- more of the class: what isinstance and != ask -/
structure Mcx (K : PySem.W.Frag) (C feq : Addr) : Prop where
  cls : PySem.W.findIn K (.ref C) "__class__" = some (some (.builtin "object.__class__"))
  get : PySem.W.specialIn K (.builtin "object.__class__") "__get__" = some (some (.builtin "getset_descriptor.__get__"))
  tak : PySem.W.takesIn K (.builtin "object.__class__") = some true
  mro : PySem.W.mroIn K C (.type "object") = some true
  eq : PySem.W.findIn K (.ref C) "__eq__" = some (some (.ref feq))
  fn : PySem.W.isFn K (.ref feq) = true
  ne : PySem.W.findIn K (.ref C) "__ne__" = some (some (.builtin "object.__ne__"))
section
variable {P : Program} {w : World} {K : PySem.W.Frag} {mg : Str → Option Value} {base : Heap}
/-! ### Means.__eq__ -/
theorem room66 {k : Nat} {A : Around} (r : Room k A) : A.units + 66 < cLine := by have := r.un; omega
theorem row_apart {H : Hp} {d : Addr} {kvs : List (Key × V)} {L : SkL} {Pl : Plan Str} (hd : H d = some (.dK kvs)) (sk : Sk H kvs L) (sp : SkP H L Pl) (ok : PlOk Pl) {l : Key × V × List (Key × V)} (hl : l ∈ L) {r : Addr} (hr : H r = some (.dK l.2.2)) : r ≠ d := fun z => by
  rw [z, hd] at hr
  have e := HO.dK.inj (Option.some.inj hr)
  obtain ⟨i, hi, ei⟩ := List.mem_iff_getElem.mp hl
  obtain ⟨p, hp, e1, e2, tr⟩ := paired_at sp (show L[i]? = some l by rw [List.getElem?_eq_getElem hi, ei])
  obtain ⟨rne, _⟩ := ok.row p (List.mem_of_getElem? hp)
  obtain ⟨mv, rr, em⟩ := List.exists_cons_of_ne_nil rne
  rw [em] at tr
  obtain ⟨kv, g1, _, pm, g2, g3⟩ := tr.at' (i := 0) rfl
  rw [← e] at g1
  obtain ⟨l0, _, _, t, dd, g4, g5, _⟩ := paired_at sk g1
  rw [g4] at g2
  cases g2
  rw [g5] at g3
  have := HO.tup.inj (Option.some.inj g3)
  injection this with _ h2
  injection h2 with h3 _
  cases h3
def spEq (C : Addr) : Sp := fun vs H Q _ => ∃ (m m2 dx dx2 d d2 : Addr) (kvs kvs2 : List (Key × V)) (L : SkL) (Pl : Plan Str), vs = [.ref m, .ref m2] ∧ H m = some (.ins C dx (mf d)) ∧ H m2 = some (.ins C dx2 (mf d2)) ∧ H d = some (.dK kvs) ∧ H d2 = some (.dK kvs2) ∧ Sk H kvs L ∧ Sk H kvs2 L ∧ SkP H L Pl ∧ PlOk Pl ∧ d2 ≠ d ∧ ∀ H', Same H H' → Q (.bl true) H'
theorem scEq : FnScope ["self", "other", "name", "one", "two"] ["self", "other"] (defScope sEq) := ⟨rfl, rfl, rfl, by decide +kernel, rfl, by decide +kernel, by decide +kernel⟩
theorem ok_eq {C : Addr} (D : Dm K C "__eq__" "Means.__eq__" sEq ["self", "other"]) (M : Mcl K mg C) (X : Mcx K C D.f) (B : Blt mg) : FnOk P w K mg base CX0 1 D.f D.fd ["self", "other"] (spEq C) := by
  refine D.F.ok scEq (fun vs H Q E h => ?_) (fun cdv A outer s H vs Q E hr h => ?_)
  · obtain ⟨m, m2, dx, dx2, d, d2, kvs, kvs2, L, Pl, rfl, _⟩ := h
    rfl
  · obtain ⟨m, m2, dx, dx2, d, d2, kvs, kvs2, L, Pl, rfl, hm, hm2, hd, hd2, sk, sk2, sp, ok, ndd, k⟩ := h
    have hu := hu_of hr
    have hu64 := hr.units
    have room := room66 hr
    refine ⟨_, pss_cons (ps_if (PW.pt (pw_or (pt_not (pt_val (pe_callB call_isi (by rfl) B.isinst boot_isinstance (pa_cons (pv 1) (pa_cons (pe_glob (v := .ref C) (by rfl) M.mgC rfl) pa_nil)))))
        (pw_or1 (pt_cmpR (op_neD hu64) (pe_callTy (call_listD rfl) (by rfl) B.list PyProof.Rows.boot_list (pa_cons (pe_fld (pv 0) rfl) pa_nil)) (pe_callTy (call_listD rfl) (by rfl) B.list PyProof.Rows.boot_list (pa_cons (pe_fld (pv 1) rfl) pa_nil)) (nomark _))))) (pss_one (ps_ret pe_bl)) pss_nil)
      (pss_cons (ps_lock (ps_for PassesOwn.never rfl (pi_keys (pe_fld (pv 0) rfl)) (pg_name (i := 2) scEq.nd rfl (.inl rfl))
        (pss_cons (ps_par rfl scEq.nd (i := 3) (j := 4) rfl rfl (by decide) rfl rfl (pa_cons (pe_dget hu (pe_fld (pv 0) rfl) (pv 2) (fun _ _ => rfl)) (pa_cons (pe_dget hu (pe_fld (pv 1) rfl) (pv 2) (fun _ _ => rfl)) pa_nil)) (by rfl))
        (pss_one (ps_if (PW.pt (pw_or (pt_cmpR (op_pairNe room) (pv 3) (pv 4) (nomark _))
          (pw_or1 (pt_cmpR (op_neD hu64) (pe_callTy (call_listD rfl) (by rfl) B.list PyProof.Rows.boot_list (pa_cons (pe_ix ix_tup (pv 3) pe_int (fun _ _ => rfl)) pa_nil)) (pe_callTy (call_listD rfl) (by rfl) B.list PyProof.Rows.boot_list (pa_cons (pe_ix ix_tup (pv 4) pe_int (fun _ _ => rfl)) pa_nil)) (nomark _))))) (pss_one (ps_ret pe_bl)) pss_nil)))))
      (pss_one (ps_ret pe_bl))), ?_⟩
    have tb := sk_pl sk sp
    have names : ∀ {kv : List (Key × V)}, Sk H kv L → (kv.map fun kv => kV kv.1) = (GW.keys Pl).map V.str := fun s => tb_names (sk_pl s sp)
    have ne : ∀ zs : List Str, (∀ z ∈ zs, NmOk z) → (!PyData.eqv (.list (zs.map PyData.str)) (.list (zs.map PyData.str))) = false := fun zs h => by
      rw [SeqAt.eqv_refl _ (SeqAt.canLay_of_shaped (sh_strs h))]; rfl
    have nmk : ∀ z ∈ GW.keys Pl, NmOk z := fun z hz => by
      obtain ⟨p, hp, rfl⟩ := List.mem_map.mp hz
      exact ok.nm p hp
    refine ⟨_, rfl, .ref m2, .ref C, _, _, true, rfl, .own C, .base (.ins hm2 M.cl X.cls X.get X.tak X.mro), by unfold PySem.W.kitOne; rw [if_pos (by simp)], true, rfl, iteF ?_⟩
    refine ⟨_, rfl, m, C, dx, _, _, rfl, hm, M.cl, M.nT, mf_at d, d, kvs, rfl, .inl hd, fun a1 ha1 => ?_⟩
    rw [names sk]
    have s1 : Same H (upd H a1 (.lst ((GW.keys Pl).map V.str))) := same_upd ha1
    have ha1' : (upd H a1 (.lst ((GW.keys Pl).map V.str))) a1 = some (.lst ((GW.keys Pl).map V.str)) := upd_same
    generalize upd H a1 (.lst ((GW.keys Pl).map V.str)) = H1 at s1 ha1' ⊢
    refine ⟨_, rfl, m2, C, dx2, _, _, rfl, s1 _ _ hm2, M.cl, M.nT, mf_at d2, d2, kvs2, rfl, .inl (s1 _ _ hd2), fun a2 ha2 => ?_⟩
    rw [names sk2]
    have s2 : Same H1 (upd H1 a2 (.lst ((GW.keys Pl).map V.str))) := same_upd ha2
    have ha2' : (upd H1 a2 (.lst ((GW.keys Pl).map V.str))) a2 = some (.lst ((GW.keys Pl).map V.str)) := upd_same
    generalize upd H1 a2 (.lst ((GW.keys Pl).map V.str)) = H2 at s2 ha2' ⊢
    have sH2 := s1.trans s2
    refine ⟨.list ((GW.keys Pl).map PyData.str), .list ((GW.keys Pl).map PyData.str), .lst (SqL.of (s2 _ _ ha1')) (dp_strs _), .lst (SqL.of ha2') (dp_strs _), sh_strs nmk, sh_strs nmk, _, rfl, ?_⟩
    rw [ne _ nmk]
    refine iteF ?_
    have hdd := sH2 _ _ hd
    have nmd : m ≠ d := ne_of hm hd (by intro z; cases z)
    have nm2d : m2 ≠ d := ne_of hm2 hd (by intro z; cases z)
    refine ⟨d, _, hdd, True.intro, fun od => ⟨_, rfl, m, C, dx, _, _, rfl, by rw [upd_ne nmd]; exact sH2 _ _ hm, M.cl, M.nT, mf_at d, d, od, rfl, .inl ⟨kvs, upd_same, for_it walk_keys (fun i σ H3 => ∃ v2 v3 v4, σ = [some (.ref m), some (.ref m2), v2, v3, v4] ∧ Same (upd H2 d (.frz od (.dK kvs))) H3)
      ⟨none, none, none, rfl, Same.refl _⟩ (fun i σ H3 _ hP => let ⟨_, _, _, _, s3⟩ := hP; s3 _ _ upd_same) (fun i x σ H3o H3 hi hP hY => ?_) (fun σ H3 hP => ?_)⟩⟩⟩
    · obtain ⟨v2, v3, v4, rfl, s3⟩ := hP
      obtain ⟨rfl, key, vv, hkv, rfl⟩ := hY
      obtain ⟨l, hl, e1, t, r, e2, ht, hr'⟩ := paired_at sk hkv
      simp only at e1 e2
      subst e2
      obtain ⟨p, hp, ep, ew, tr⟩ := paired_at sp hl
      have ek : key = Sum.inr p.1 := e1.trans ep
      subst ek
      have hlm := List.mem_of_getElem? hl
      obtain ⟨kv2, hkv2, f1, t2, r2, f2, ht2, hr2⟩ := paired_both sk2 hl
      have wk : ∀ b o, b ≠ d → H b = some o → H3 b = some o := fun b o n e => s3 b o (by rw [upd_ne n]; exact sH2 _ _ e)
      have knd : ∀ {kv : List (Key × V)}, Sk H kv L → (kv.map (·.1)).Nodup := fun s => by
        rw [(sk_pl s sp).keys]
        exact List.Pairwise.map _ (fun x y h z => h (Sum.inr.inj z)) ok.nd
      have ntd : t ≠ d := ne_of ht hd (by intro z; cases z)
      have nt2d : t2 ≠ d := ne_of ht2 hd (by intro z; cases z)
      have nrd := row_apart hd sk sp ok hlm hr'
      have nr2d := row_apart hd sk sp ok hlm hr2
      have hm3 := wk _ _ nmd hm
      have hm23 := wk _ _ nm2d hm2
      have hd3 : H3 d = some (.frz od (.dK kvs)) := s3 _ _ upd_same
      have g1 : DGet H3 d (.str p.1) (some (.ref t)) := .inl ⟨kvs, Sum.inr p.1, .inr ⟨od, hd3⟩, rfl, (valV_at (knd sk) hkv).symm⟩
      have g2 : DGet H3 d2 (.str p.1) (some (.ref t2)) := .inl ⟨kvs2, Sum.inr p.1, .inl (wk _ _ ndd hd2), rfl, by
        have q1 := valV_at (knd sk2) hkv2
        rw [f1, ep, f2] at q1
        exact q1.symm⟩
      refine ⟨_, rfl, m, C, dx, _, _, rfl, hm3, M.cl, M.nT, mf_at d, _, rfl, d, .ref t, rfl, g1, _, rfl, m2, C, dx2, _, _, rfl, hm23, M.cl, M.nT, mf_at d2, _, rfl, d2, .ref t2, rfl, g2, _, _, rfl, ?_⟩
      have ht3 := wk _ _ ntd ht
      have ht23 := wk _ _ nt2d ht2
      have hr3 := wk _ _ nrd hr'
      have hr23 := wk _ _ nr2d hr2
      rw [ew] at ht3 ht23
      obtain ⟨_, rlen, rnd, rok⟩ := ok.row p (List.mem_of_getElem? hp)
      have lnd : (l.2.2.map (·.1)).Nodup := by
        rw [tr.keys]
        exact List.Pairwise.map _ (fun x y h z => h (Sum.inr.inj z)) rnd
      have rnm : ∀ z ∈ GW.keys p.2.2, NmOk z := fun z hz => by
        obtain ⟨q, hq, rfl⟩ := List.mem_map.mp hz
        exact (rok q hq).1
      refine ⟨_, rfl, _, rfl, t, t2, r, r2, _, l.2.2, l.2.2, rfl, rfl, SqT.of ht3, SqT.of ht23, hr3, hr23, rfl, fun q hq => ?_, false, rfl, iteF ?_⟩
      · obtain ⟨j, hj, ej⟩ := List.mem_iff_getElem.mp hq
        have hj' : l.2.2[j]? = some q := by rw [List.getElem?_eq_getElem hj, ej]
        obtain ⟨_, _, _, pm, e9, _⟩ := tr.at hj'
        exact ⟨valV_at lnd hj', pm, e9⟩
      · refine ⟨_, rfl, t, _, _, _, rfl, rfl, SqT.of ht3, pr_1, r, l.2.2, rfl, .inl hr3, fun b1 hb1 => ?_⟩
        rw [tb_names tr]
        have s4 : Same H3 (upd H3 b1 (.lst ((GW.keys p.2.2).map V.str))) := same_upd hb1
        have hb1' : (upd H3 b1 (.lst ((GW.keys p.2.2).map V.str))) b1 = some (.lst ((GW.keys p.2.2).map V.str)) := upd_same
        generalize upd H3 b1 (.lst ((GW.keys p.2.2).map V.str)) = H4 at s4 hb1' ⊢
        refine ⟨_, rfl, t2, _, _, _, rfl, rfl, SqT.of (s4 _ _ ht23), pr_1, r2, l.2.2, rfl, .inl (s4 _ _ hr23), fun b2 hb2 => ?_⟩
        rw [tb_names tr]
        have s5 : Same H4 (upd H4 b2 (.lst ((GW.keys p.2.2).map V.str))) := same_upd hb2
        have hb2' : (upd H4 b2 (.lst ((GW.keys p.2.2).map V.str))) b2 = some (.lst ((GW.keys p.2.2).map V.str)) := upd_same
        generalize upd H4 b2 (.lst ((GW.keys p.2.2).map V.str)) = H5 at s5 hb2' ⊢
        refine ⟨.list ((GW.keys p.2.2).map PyData.str), .list ((GW.keys p.2.2).map PyData.str), .lst (SqL.of (s5 _ _ hb1')) (dp_strs _), .lst (SqL.of hb2') (dp_strs _), sh_strs rnm, sh_strs rnm, _, rfl, ?_⟩
        rw [ne _ rnm]
        exact iteF ⟨_, _, _, rfl, (s3.trans s4).trans s5⟩
    · obtain ⟨v2, v3, v4, rfl, s3⟩ := hP
      exact ⟨s3 _ _ upd_same, k _ (sH2.trans (unlocked hdd s3))⟩
end
end Gw

set_option Elab.async false
set_option linter.all false
set_option maxRecDepth 100000
set_option maxHeartbeats 8000000
namespace Gw
open PySem PySem.Spec PyProof.Rows L2 GW
theorem tab_wo {H : Hp} {a d : Addr} {kvs : List (Key × V)} {l : List (Str × Fr)} (h : TabU H a l) (hd : H d = some (.dK kvs)) (n : a ≠ d) : TabU (wo H d) a l := by
  obtain ⟨ks, e, tb⟩ := h
  refine ⟨ks, wo_of e n, tb.mono fun v f ⟨p, q1, q2⟩ => ⟨p, q1, ?_⟩⟩
  obtain ⟨q3, q4⟩ := wo_le q2
  exact wo_of (wo_of q3 (ne_of q3 hd (by intro z; cases z))) q4
/-- a Means object just made of the dict at a -/
structure MnAt (C a : Addr) (H0 H : Hp) (m : Addr) (Pl : Plan Str) (L : SkL) : Prop where
  ex : ∃ dx d kvs, H m = some (.ins C dx (mf d)) ∧ H d = some (.dK kvs) ∧ Sk H kvs L ∧ SkP H L Pl ∧ H0 d = none
  wo : MeansAt C (wo H a) m Pl
theorem mk_means {C a : Addr} {H : Hp} {kvs : List (Key × V)} {L : SkL} {Pl : Plan Str} (ha : H a = some (.dK kvs)) (sk : Sk (wo H a) kvs L) (sp : SkP (wo H a) L Pl) (ok : PlOk Pl) {R : Hp → Prop} {E : XK} {x dx : Addr} (hx : H x = none) (hdx : H dx = none) (ne : dx ≠ x) (k : ∀ H', Same H H' → MnAt C a H H' x Pl L → R H') :
    spInit C (.ref x :: ([.ref a] ++ [])) (upd (upd H dx (.own x)) x (.ins C dx [])) (fun v H2 => v = .non ∧ R H2) E := by
  have s1 : Same H (upd (upd H dx (.own x)) x (.ins C dx [])) := s_own (same_upd hdx) hx
  refine ⟨x, a, dx, kvs, L, Pl, rfl, upd_same, s1 _ _ ha, sk.mono (wo_same s1), sp.mono (wo_same s1), ok, fun H' d kvs' keep hd hm' hd' sk' => ⟨rfl, ?_⟩⟩
  have sH : Same H H' := fun b o e => keep b o (s1 _ _ e) (ne_of_none e hx)
  have hd0 : H d = none := s1.free hd
  have nda : d ≠ a := fun z => by rw [z, ha] at hd0; cases hd0
  have ha' := sH _ _ ha
  have sp' : SkP H' L Pl := sp.mono fun b o e => sH _ _ (wo_le e).1
  have skH : Sk H' kvs L := sk.mono fun b o e => sH _ _ (wo_le e).1
  have skd : Sk H' kvs' L := sk'.mono wo_to
  refine k H' sH ⟨⟨dx, d, kvs', hm', hd', skd, sp', hd0⟩, dx, d, wo_of hm' (ne_of hm' ha' (by intro z; cases z)), kvs', wo_of hd' nda, ?_⟩
  have tb := sk_pl (H := H') skd sp'
  refine sk_pl (H := wo (wo H' a) d) (paired_mem sk' fun kv l hkv ⟨e1, t, r, e2, e3, e4⟩ => ⟨e1, t, r, e2, ?_, ?_⟩) ?_
  · obtain ⟨q1, q2⟩ := wo_le e3
    exact wo_of (wo_of q1 (ne_of q1 ha' (by intro z; cases z))) q2
  · obtain ⟨q1, q2⟩ := wo_le e4
    refine wo_of (wo_of q1 ?_) q2
    obtain ⟨i, hi, ei⟩ := List.mem_iff_getElem.mp hkv
    obtain ⟨l2, hl2, f1, t2, r2, f2, f3, f4⟩ := paired_at skd (show kvs'[i]? = some kv by rw [List.getElem?_eq_getElem hi, ei])
    have el : l2.2.2 = l.2.2 := by
      rw [f2] at e2
      cases e2
      rw [(wo_le e3).1] at f3
      have h1 := HO.tup.inj (Option.some.inj f3)
      injection h1 with _ h2
      injection h2 with h3 _
      cases h3
      rw [q1] at f4
      exact (HO.dK.inj (Option.some.inj f4)).symm
    exact row_apart ha' skH sp' ok (List.mem_of_getElem? hl2) (by rw [el]; exact q1)
  · refine Paired.mapP sp fun l p ⟨e1, e2, tr⟩ => ⟨e1, e2, tr.mono fun v e ⟨pm, e3, e4⟩ => ⟨pm, e3, ?_⟩⟩
    obtain ⟨q1, q2⟩ := wo_le e4
    have q3 := sH _ _ q1
    exact wo_of (wo_of q3 q2) (ne_of q3 hd' (by intro z; cases z))
theorem sd_fr {H : Hp} {x y : V} {f : Fr} (hx : FrV H x f) (hy : FrV H y f) : SD 1 H x y := by
  obtain ⟨p, rfl, hp⟩ := hx
  obtain ⟨q, rfl, hq⟩ := hy
  exact ⟨p, q, _, _, rfl, rfl, .inr ⟨hp, hq⟩, .cons (.inl ⟨_, rfl, rfl⟩) (.cons (.inl ⟨_, rfl, rfl⟩) .nil), by show 2 ≤ 1000; decide⟩
theorem sd_strs {H : Hp} {p q : Addr} {zs : List Str} (hp : H p = some (.lst (zs.map V.str))) (hq : H q = some (.lst (zs.map V.str))) (l : zs.length ≤ 1000) : SD 1 H (.ref p) (.ref q) := by
  refine ⟨p, q, _, _, rfl, rfl, .inl ⟨hp, hq⟩, ?_, by rw [List.length_map]; exact l⟩
  clear hp hq l
  induction zs with
  | nil => exact .nil
  | cons z r ih => exact .cons (.inr ⟨z, rfl, rfl⟩) ih
theorem strs_eq {zs : List Str} (h : ∀ z ∈ zs, NmOk z) : V.bl (!PyData.eqv (.list (zs.map PyData.str)) (.list (zs.map PyData.str))) = V.bl false := by
  rw [SeqAt.eqv_refl _ (SeqAt.canLay_of_shaped (sh_strs h))]; rfl
section
variable {P : Program} {w : World} {K : PySem.W.Frag} {mg : Str → Option Value} {base : Heap}
/-- all that stands when the law is called -/
structure All (K : PySem.W.Frag) (mg : Str → Option Value) (C : Addr) where
  ds : DS K mg
  da : DA K mg
  db : DB K mg C
  ap : Df K mg "_law_a_plan" sAPlan ["_law_stream", "_law_many", "_law_moves", "_law_wide"]
  st : Df K mg "_law_start" sStart ["_law_script"]
  ri : Df K mg "_law_a_ring" sARing ["_law_is_turned"]
  sa : Df K mg "_law_same" sSame ["_law_found", "_law_due"]
  mw : Df K mg "mean_worth" sWorth ["means", "name"]
  bs : Df K mg "best_steps" sSteps ["means", "name"]
  ini : Dm K C "__init__" "Means.__init__" sInit ["self", "places"]
  eq : Dm K C "__eq__" "Means.__eq__" sEq ["self", "other"]
  ip : Df K mg "is_mean_place" sIsPlace ["thing", "names"]
  ist : Df K mg "is_step" sIsStep ["thing", "names"]
  il : Df K mg "is_list" sIsList ["thing"]
  ii : Df K mg "is_integer" sIsInteger ["thing"]
  inm : Df K mg "is_name" sIsName ["thing"]
  M : Mcl K mg C
  X : Mcx K C eq.f
  MK : Mk K C ini.f
  Cs : Cst mg
  B : Blt mg
def spLaw (K : PySem.W.Frag) : Sp := fun vs H Q _ => ∃ (a : Addr) (ns : List Int), vs = [.ref a] ∧ SqL K H a (ns.map V.int) ∧ ∀ H', Q (.bl true) H'
abbrev lawN : List Str := ["_law_script", "_law_stream", "_law_turn", "_law_plan", "_law_one", "_law_due", "_law_told", "_law_name_here", "_law_behind", "_law_moves", "_law_fine", "_law_told_steps", "_law_two", "_law_is_turned", "_law_ring", "_law_place", "_law_amount", "_law_word"]
theorem scLaw : FnScope lawN ["_law_script"] (defScope sLaw) := ⟨rfl, rfl, rfl, by decide +kernel, rfl, by decide +kernel, by decide +kernel⟩
theorem ok_law {C : Addr} {f : Addr} {fd : FuncData} (F : Fun K "law" "law" sLaw f fd) (A0 : All K mg C) : FnOk P w K mg base CX0 6 f fd ["_law_script"] (spLaw K) := by
  have B := A0.B
  have M := A0.M
  have GS : FnOk P w K mg base CX0 1 A0.st.f A0.st.fd ["_law_script"] (spStart K) := ok_start A0.st B
  have GP : FnOk P w K mg base CX0 2 A0.ds.pick.f A0.ds.pick.fd ["_law_stream", "_law_some"] spPick := ok_pick A0.ds B
  have GAP : FnOk P w K mg base CX0 5 A0.ap.f A0.ap.fd ["_law_stream", "_law_many", "_law_moves", "_law_wide"] spAPlan := ok_aplan A0.ap A0.ds B
  have GI : FnOk P w K mg base CX0 4 A0.ini.f A0.ini.fd ["self", "places"] (spInit C) := ok_init A0.ini.F M A0.ip A0.ist A0.il A0.ii A0.inm B A0.Cs
  have GW3 : FnOk P w K mg base CX0 3 A0.da.worths.f A0.da.worths.fd ["_law_plan", "_law_first", "_law_second"] spAWorths := ok_aworths A0.da B
  have GW4 : FnOk P w K mg base CX0 4 A0.db.worths.f A0.db.worths.fd ["means"] (spWorths C) := ok_worths A0.db M B
  have GMW : FnOk P w K mg base CX0 5 A0.mw.f A0.mw.fd ["means", "name"] (spWorth C) := ok_worth A0.mw A0.db M B
  have GBS : FnOk P w K mg base CX0 5 A0.bs.f A0.bs.fd ["means", "name"] (spSteps C) := ok_steps A0.bs A0.db M B
  have GS2 : FnOk P w K mg base CX0 3 A0.sa.f A0.sa.fd ["_law_found", "_law_due"] (spSame 2) := ok_same2 A0.sa B
  have GS1 : FnOk P w K mg base CX0 2 A0.sa.f A0.sa.fd ["_law_found", "_law_due"] (spSame 1) := ok_same1 A0.sa B
  have GTB : FnOk P w K mg base CX0 2 A0.da.best.f A0.da.best.fd ["_law_some", "_law_is_ours"] spBestL := ok_tbest A0.da.best.F A0.da.less.F A0.da.less.b A0.da.less.m
  have GR : FnOk P w K mg base CX0 1 A0.ri.f A0.ri.fd ["_law_is_turned"] spARing := ok_aring A0.ri B
  have GE : FnOk P w K mg base CX0 1 A0.eq.f A0.eq.fd ["self", "other"] (spEq C) := ok_eq A0.eq M A0.X B
  refine F.ok scLaw (fun vs H Q E h => ?_) (fun cdv A outer s H vs Q E hr h => ?_)
  · obtain ⟨a, ns, rfl, _⟩ := h
    rfl
  · obtain ⟨a, ns, rfl, hS, k⟩ := h
    have hu := hu_of hr
    have hu64 := hr.units
    have room := room66 hr
    have r1 : Room 1 _ := hr.mono (by decide)
    have r2 : Room 2 _ := hr.mono (by decide)
    have r3 : Room 3 _ := hr.mono (by decide)
    have r4 : Room 4 _ := hr.mono (by decide)
    refine ⟨_, pss_cons (ps_set (i := 1) scLaw.nd rfl (.inl rfl) (pe_call GS r1 rfl A0.st.m A0.st.F.kp A0.st.b .nil pass0 (pa_cons (pv 0) pa_nil)))
      (pss_cons (ps_for PassesOwn.never rfl (pi_range1 (by rfl) B.range (pa_cons pe_int pa_nil)) (pg_name (i := 2) scLaw.nd rfl (.inl rfl))
        (pss_cons (ps_set (i := 3) scLaw.nd rfl (.inl rfl) (pe_call GAP hr rfl A0.ap.m A0.ap.F.kp A0.ap.b .nil pass0 (pa_cons (pv 1) (pa_cons pe_int (pa_cons pe_int (pa_cons (pe_call GP r2 rfl A0.ds.pick.m A0.ds.pick.F.kp A0.ds.pick.b .nil pass0 (pa_cons (pv 1) (pa_cons (pe_lst (pa_cons pe_int (pa_cons pe_int (pa_cons (pe_op op_pow pe_int pe_int) pa_nil)))) pa_nil))) pa_nil))))))
        (pss_cons (ps_asg (pe_tup (pa_cons (pe_make A0.MK GI hr rfl M.mgC A0.ini.b .nil pass0 (pa_cons (pv 3) pa_nil)) (pa_cons (pe_call GW3 r3 rfl A0.da.worths.m A0.da.worths.F.kp A0.da.worths.b .nil pass0 (pa_cons (pv 3) (pa_cons pe_str (pa_cons pe_str pa_nil)))) pa_nil)))
          (pg_tup (by rfl) (pgs_cons (pg_name (i := 4) scLaw.nd rfl (.inl rfl)) (pgs_cons (pg_name (i := 5) scLaw.nd rfl (.inr rfl)) pgs_nil))))
        (pss_cons (ps_if (pt_cmpR (op_tabNe room) (pv 5) (pe_call GW3 r3 rfl A0.da.worths.m A0.da.worths.F.kp A0.da.worths.b .nil pass0 (pa_cons (pv 3) (pa_cons pe_str (pa_cons pe_str pa_nil)))) (nomark _)) (pss_one (ps_ret pe_bl)) pss_nil)
        (pss_cons (ps_set (i := 6) scLaw.nd rfl (.inl rfl) (pe_call GW4 r4 rfl A0.db.worths.m A0.db.worths.F.kp A0.db.worths.b .nil pass0 (pa_cons (pv 4) pa_nil)))
        (pss_cons (ps_if (pt_cmpR (op_neD hu64) (pe_callTy (call_listD rfl) (by rfl) B.list PyProof.Rows.boot_list (pa_cons (pv 6) pa_nil)) (pe_callTy (call_listD rfl) (by rfl) B.list PyProof.Rows.boot_list (pa_cons (pv 3) pa_nil)) (nomark _)) (pss_one (ps_ret pe_bl)) pss_nil)
        (pss_cons (ps_lock (ps_for PassesOwn.never rfl (pi_keys (pv 3)) (pg_name (i := 7) scLaw.nd rfl (.inr rfl))
          (pss_cons (ps_if (pt_not (pt_val (pe_call GS2 r3 rfl A0.sa.m A0.sa.F.kp A0.sa.b .nil pass0 (pa_cons (pe_lst (pa_cons (pe_dget hu (pv 6) (pv 7) (fun _ _ => rfl)) (pa_cons (pe_call GMW hr rfl A0.mw.m A0.mw.F.kp A0.mw.b .nil pass0 (pa_cons (pv 4) (pa_cons (pv 7) pa_nil))) pa_nil)))
              (pa_cons (pe_lst (pa_cons (pe_dget hu (pv 5) (pv 7) (fun _ _ => rfl)) (pa_cons (pe_dget hu (pv 5) (pv 7) (fun _ _ => rfl)) pa_nil))) pa_nil))))) (pss_one (ps_ret pe_bl)) pss_nil)
          (pss_cons (ps_if (pt_not (pt_chain op_lt op_le pe_int (pe_ix ix_tup (pe_dget hu (pv 5) (pv 7) (fun _ _ => rfl)) pe_int (fun _ _ => rfl)) (pe_callB call_lenR (by rfl) B.len PySem.boot_len (pa_cons (pv 3) pa_nil)))) (pss_one (ps_ret pe_bl)) pss_nil)
          (pss_cons (ps_lock (ps_setLc (i := 8) (own := [("_law_place", 15), ("_law_amount", 16)]) (g := gTup K 2 (gCons (gName 15) (gCons (gName 16) gNil))) (tt := tYes) (by rfl) scLaw.nd rfl rfl (sw_true rfl rfl rfl (by decide +kernel)) (pi_values (pe_ix ix_tup (pe_dget hu (pv 3) (pv 7) (fun _ _ => rfl)) pe_int (fun _ _ => rfl)))
              (blkOk_by (N := lawN) (sc := defScope sLaw) (by decide +kernel)) (fun _ _ _ _ _ => pg_tup rfl (pgs_cons (pg_name (i := 15) scLaw.nd rfl (.inl rfl)) (pgs_cons (pg_name (i := 16) scLaw.nd rfl (.inl rfl)) pgs_nil))) (fun _ _ _ _ _ => pts_nil)
              (fun _ _ _ _ _ => pe_dget hu (pv 5) (pv 15) (fun _ _ => rfl))))
          (pss_cons (ps_if (pt_cmpR (op_neD hu64) (pe_call GTB r2 rfl A0.da.best.m A0.da.best.F.kp A0.da.best.b .nil pass0 (pa_cons (pv 8) (pa_cons (pe_cmpR op_eq (pe_ix ix_tup (pe_dget hu (pv 3) (pv 7) (fun _ _ => rfl)) pe_int (fun _ _ => rfl)) pe_str (nomark _)) pa_nil))) (pe_dget hu (pv 5) (pv 7) (fun _ _ => rfl)) (nomark _)) (pss_one (ps_ret pe_bl)) pss_nil)
          (pss_cons (ps_set (i := 9) scLaw.nd rfl (.inr rfl) (pe_ix ix_tup (pe_dget hu (pv 3) (pv 7) (fun _ _ => rfl)) pe_int (fun _ _ => rfl)))
          (pss_cons (ps_lock (ps_setLc (i := 10) (own := [("_law_word", 17)]) (g := gName 17) (by rfl) scLaw.nd rfl rfl (sw_true rfl rfl rfl (by decide +kernel)) (pi_keys (pv 9)) (blkOk_by (N := lawN) (sc := defScope sLaw) (by decide +kernel))
              (fun _ _ _ _ _ => pg_name (i := 17) scLaw.nd rfl (Or.inl rfl))
              (fun _ _ _ _ _ => pts_one (pt_cmpR (r := rEqD K) (op_eqD hu64) (pe_dget hu (pv 5) (pe_ix (r := rIxT K) ix_tup (pe_dget hu (pv 9) (pv 17) (fun _ _ => rfl)) pe_int (fun _ _ => rfl)) (fun _ _ => rfl)) (pe_dget hu (pv 5) (pv 7) (fun _ _ => rfl)) (nomark _)))
              (fun _ _ _ _ _ => pv 17)))
          (pss_cons (ps_set (i := 11) scLaw.nd rfl (.inl rfl) (pe_call GBS hr rfl A0.bs.m A0.bs.F.kp A0.bs.b .nil pass0 (pa_cons (pv 4) (pa_cons (pv 7) pa_nil))))
          (pss_cons (ps_if (pt_not (pt_val (pe_call GS1 r2 rfl A0.sa.m A0.sa.F.kp A0.sa.b .nil pass0 (pa_cons (pv 11) (pa_cons (pv 10) pa_nil))))) (pss_one (ps_ret pe_bl)) pss_nil)
          (pss_cons (ps_expr (pe_bm PySem.F.plainAttrs_list PySem.F.slot_list_append PySem.F.type_list_append mt_append (pv 11) (pa_cons pe_str pa_nil)))
          (pss_one (ps_if (pt_cmpR (op_neD hu64) (pe_call GBS hr rfl A0.bs.m A0.bs.F.kp A0.bs.b .nil pass0 (pa_cons (pv 4) (pa_cons (pv 7) pa_nil))) (pv 10) (nomark _)) (pss_one (ps_ret pe_bl)) pss_nil)))))))))))))
        (pss_cons (ps_dput hu (pv 6) pe_str pe_non rfl)
        (pss_one (ps_if (PW.pt (pw_or (pt_cmpR (op_tabNe room) (pe_call GW4 r4 rfl A0.db.worths.m A0.db.worths.F.kp A0.db.worths.b .nil pass0 (pa_cons (pv 4) pa_nil)) (pv 5) (nomark _))
          (pw_or1 (pt_cmpR (op_ownNe GE A0.X.eq A0.X.fn A0.X.ne A0.X.mro A0.eq.b r2) (pv 4) (pe_make A0.MK GI hr rfl M.mgC A0.ini.b .nil pass0 (pa_cons (pv 3) pa_nil)) (nomark _))))) (pss_one (ps_ret pe_bl)) pss_nil))))))))))
      (pss_cons (ps_set (i := 12) scLaw.nd rfl (.inl rfl) (pe_disp (pps_cons pe_str (pe_tup (pa_cons pe_str (pa_cons (pe_disp (pps_cons pe_str (pe_tup (pa_cons pe_str (pa_cons pe_int pa_nil))) (pps_cons pe_str (pe_tup (pa_cons pe_str (pa_cons pe_int pa_nil))) pps_nil)) rfl rfl (by simp) (by decide)) pa_nil)))
          (pps_cons pe_str (pe_tup (pa_cons pe_str (pa_cons (pe_disp (pps_cons pe_str (pe_tup (pa_cons pe_str (pa_cons pe_int pa_nil))) (pps_cons pe_str (pe_tup (pa_cons pe_str (pa_cons pe_int pa_nil))) pps_nil)) rfl rfl (by simp) (by decide)) pa_nil))) pps_nil)) rfl rfl (by simp) (by decide)))
      (pss_cons (ps_for PassesOwn.never rfl (pi_tup (pe_tup (pa_cons pe_bl (pa_cons pe_bl pa_nil)))) (pg_name (i := 13) scLaw.nd rfl (.inl rfl))
        (pss_cons (ps_set (i := 14) scLaw.nd rfl (.inl rfl) (pe_call GR r1 rfl A0.ri.m A0.ri.F.kp A0.ri.b .nil pass0 (pa_cons (pv 13) pa_nil)))
        (pss_one (ps_if (pt_cmpR (op_tabNe room) (pe_call GW4 r4 rfl A0.db.worths.m A0.db.worths.F.kp A0.db.worths.b .nil pass0 (pa_cons (pe_make A0.MK GI hr rfl M.mgC A0.ini.b .nil pass0 (pa_cons (pv 14) pa_nil)) pa_nil))
          (pe_callTy (call_dictP rfl) (by rfl) B.dict PyProof.Rows.boot_dict (pa_cons (pe_lock (pe_lc (own := [("_law_name_here", 7)]) (g := gName 7) (tt := tYes) (by rfl) scLaw.nd (pi_keys (pv 14)) (blkOk_by (N := lawN) (sc := defScope sLaw) (by decide +kernel))
            (fun _ _ _ _ _ => pg_name (i := 7) scLaw.nd rfl (Or.inl rfl)) (fun _ _ _ _ _ => pts_nil) (fun _ _ _ _ _ => pe_tup (pa_cons (pv 7) (pa_cons (pe_tup (pa_cons pe_int (pa_cons pe_int pa_nil))) pa_nil))))) pa_nil)) (nomark _)) (pss_one (ps_ret pe_bl)) pss_nil))))
      (pss_one (ps_ret (pe_cmpR (op_tabEq room) (pe_call GW4 r4 rfl A0.db.worths.m A0.db.worths.F.kp A0.db.worths.b .nil pass0 (pa_cons (pe_make A0.MK GI hr rfl M.mgC A0.ini.b .nil pass0 (pa_cons (pv 12) pa_nil)) pa_nil))
        (pe_disp (pps_cons pe_str (pe_tup (pa_cons pe_int (pa_cons pe_int pa_nil))) (pps_cons pe_str (pe_tup (pa_cons pe_int (pa_cons pe_int pa_nil))) pps_nil)) rfl rfl (by simp) (by decide)) (nomark _))))))), ?_⟩
    refine ⟨_, rfl, a, ns, rfl, hS, fun H1 st c s1 S1 nst nc => ?_⟩
    dsimp only
    refine seq_cut (a := tFor _ _ _) (fun σ2 H2 => ∃ v2 v3 v4 v5 v6 v7 v8 v9 v10 v11, σ2 = [some (.ref a), some (.ref st), v2, v3, v4, v5, v6, v7, v8, v9, v10, v11, none, none, none, none, none, none]) (fun N hN => ?_) (fun σ2 H2 hP => ?_)
    · refine ⟨4, rfl, by decide, by decide, for_range (fun i σ H2 => ∃ v2 v3 v4 v5 v6 v7 v8 v9 v10 v11, σ = [some (.ref a), some (.ref st), v2, v3, v4, v5, v6, v7, v8, v9, v10, v11, none, none, none, none, none, none] ∧ Strm H2 st c (101 * i))
        ⟨none, none, none, none, none, none, none, none, none, none, rfl, S1⟩ (fun i σ H2 hi hP => ?_) (fun σ H2 hP => let ⟨v2, v3, v4, v5, v6, v7, v8, v9, v10, v11, e, _⟩ := hP; hN _ _ ⟨v2, v3, v4, v5, v6, v7, v8, v9, v10, v11, e⟩)⟩
      have i4 : i < 4 := hi
      obtain ⟨v2, v3, v4, v5, v6, v7, v8, v9, v10, v11, rfl, S2⟩ := hP
      -- the plan
      refine ⟨_, rfl, _, rfl, _, _, rfl, rfl, ⟨by decide, by decide, by decide⟩, by show 3 ≤ sizeLine; decide, fun p hp => ?_⟩
      have np := S2.fresh hp
      refine ⟨st, c, 101 * i, .ref p, rfl, S2.mono (same_upd hp), by omega, .inl ⟨p, _, rfl, upd_same, np.1, np.2, by simp, by show 3 ≤ 1000; decide, fun H3 v hv s3 S3 => ?_⟩⟩
      obtain ⟨wide, rfl, w1, w2⟩ : ∃ wide : Int, v = .int wide ∧ 1 ≤ wide ∧ wide ≤ 10 ^ 12 := by
        rcases List.mem_cons.mp hv with e | hv
        · exact ⟨1, e, by decide, by decide⟩
        · rcases List.mem_cons.mp hv with e | hv
          · exact ⟨3, e, by decide, by decide⟩
          · exact ⟨_, List.mem_singleton.mp hv, by decide, by decide⟩
      refine ⟨st, c, _, wide, rfl, S3, by omega, w1, w2, fun H4 pa Pl s4 hpa PS ok Pl4 S4 => ?_⟩
      obtain ⟨val, W⟩ := game_value ok.wf
      have PU4 := PS.u
      obtain ⟨kvs, hpa4, tb⟩ := id PU4
      obtain ⟨L, sk, sp⟩ := pl_sk tb
      have knd : (GW.keys (tabW Pl val)).Nodup := by rw [tabW_keys]; exact ok.nd
      have nmk : ∀ z ∈ GW.keys Pl, NmOk z := fun z hz => by
        obtain ⟨p, hp, rfl⟩ := List.mem_map.mp hz
        exact ok.nm p hp
      -- one, due
      refine ⟨_, rfl, fun m dxm hmx hdx nex => mk_means hpa4 sk sp ok hmx hdx nex fun H5 s5 mn5 => ?_⟩
      refine ⟨_, rfl, pa, true, Pl, rfl, PU4.mono s5, ok, fun H6 du s6 hdu tdu => ⟨by show 2 ≤ sizeLine; decide, fun q hq => ?_⟩⟩
      have tdu6 : TabU H6 du (tabW Pl val) := by
        have e : worthsM Pl true (!true) = tabW Pl val := W.one
        rw [e] at tdu; exact tdu
      have s67 : Same H6 (upd H6 q (.tup [.ref m, .ref du])) := same_upd hq
      have hq7 : (upd H6 q (.tup [.ref m, .ref du])) q = some (.tup [.ref m, .ref du]) := upd_same
      generalize upd H6 q (.tup [.ref m, .ref du]) = H7 at s67 hq7 ⊢
      have s47 : Same H4 H7 := fun b o e => s67 _ _ (s6 _ _ (s5 _ _ e))
      have s57 : Same H5 H7 := fun b o e => s67 _ _ (s6 _ _ e)
      have tdu7 := tdu6.mono s67
      refine ⟨q, _, rfl, SqT.of hq7, rfl, _, _, rfl, _, _, rfl, rfl, ?_⟩
      -- due again
      refine ⟨_, rfl, _, rfl, pa, false, Pl, rfl, PU4.mono s47, ok, fun H8 t2 s8 _ tab2 => ?_⟩
      have tab2' : TabU H8 t2 (tabW Pl val) := by
        have e : worthsM Pl false (!false) = tabW Pl val := W.two
        rw [e] at tab2; exact tab2
      obtain ⟨ks, ls, TE⟩ := tab_eq (K := K) (tdu7.mono s8) tab2' knd rfl
      refine ⟨du, t2, ks, ls, _, _, rfl, rfl, TE, false, by rw [tab_same]; rfl, iteF ?_⟩
      have mn8 : MnAt C pa H4 H8 m Pl L := by
        have s58 : Same H5 H8 := s57.trans s8
        obtain ⟨dx, d, kv, g1, g2, g3, g4, g5⟩ := mn5.ex
        exact ⟨⟨dx, d, kv, s58 _ _ g1, s58 _ _ g2, g3.mono s58, g4.mono s58, g5⟩, mn5.wo.mono (wo_same s58)⟩
      have MA8 : MeansAt C H8 m Pl := mn8.wo.mono wo_to
      -- told
      refine ⟨_, rfl, m, Pl, val, rfl, MA8, ok, W, fun H9 to s9 hto tto => ?_⟩
      have s48 := s47.trans s8
      have s49 := s48.trans s9
      obtain ⟨kt, hto9, tbt⟩ := id tto
      refine ⟨_, rfl, to, kt, rfl, .inl hto9, fun l1 hl1 => ?_⟩
      rw [tb_names tbt, tabW_keys]
      have s9a : Same H9 (upd H9 l1 (.lst ((GW.keys Pl).map V.str))) := same_upd hl1
      have hl1a : (upd H9 l1 (.lst ((GW.keys Pl).map V.str))) l1 = some (.lst ((GW.keys Pl).map V.str)) := upd_same
      generalize upd H9 l1 (.lst ((GW.keys Pl).map V.str)) = H10 at s9a hl1a ⊢
      refine ⟨_, rfl, pa, kvs, rfl, .inl (s9a _ _ (s49 _ _ hpa4)), fun l2 hl2 => ?_⟩
      rw [tb_names tb]
      have s10 : Same H10 (upd H10 l2 (.lst ((GW.keys Pl).map V.str))) := same_upd hl2
      have hl2a : (upd H10 l2 (.lst ((GW.keys Pl).map V.str))) l2 = some (.lst ((GW.keys Pl).map V.str)) := upd_same
      generalize upd H10 l2 (.lst ((GW.keys Pl).map V.str)) = H11 at s10 hl2a ⊢
      refine ⟨.list ((GW.keys Pl).map PyData.str), .list ((GW.keys Pl).map PyData.str), .lst (SqL.of (s10 _ _ hl1a)) (dp_strs _), .lst (SqL.of hl2a) (dp_strs _), sh_strs nmk, sh_strs nmk, false, strs_eq nmk, iteF ?_⟩
      have s911 := s9a.trans s10
      have s811 := s9.trans s911
      have s411 := s49.trans s911
      have hpa11 := s411 _ _ hpa4
      -- what stands without the plan
      have ndu : du ≠ pa := fun z => by
        rw [z, s5 _ _ hpa4] at hdu; cases hdu
      have nto : to ≠ pa := fun z => by
        rw [z, s48 _ _ hpa4] at hto; cases hto
      have tduW : TabU (wo H11 pa) du (tabW Pl val) := tab_wo ((tdu7.mono s8).mono s811) hpa11 ndu
      have ttoW : TabU (wo H11 pa) to (tabW Pl val) := tab_wo (tto.mono s911) hpa11 nto
      have MAW : MeansAt C (wo H11 pa) m Pl := mn8.wo.mono (wo_same s811)
      have tbW := tb.mono fun _ _ r => r.mono (wo_same (a := pa) s411)
      refine ⟨pa, _, hpa11, True.intro, fun od => ⟨_, rfl, pa, od, rfl, .inl ⟨kvs, upd_same, for_it walk_keys (fun j σ H12 => ∃ v7 v8 v9 v10 v11, σ = [some (.ref a), some (.ref st), some (.int (0 + (i : Nat))), some (.ref pa), some (.ref m), some (.ref du), some (.ref to), v7, v8, v9, v10, v11, none, none, none, none, none, none] ∧ Same (upd H11 pa (.frz od (.dK kvs))) H12)
        ⟨v7, v8, v9, v10, v11, rfl, Same.refl _⟩ (fun j σ H12 _ hP => let ⟨_, _, _, _, _, _, s12⟩ := hP; s12 _ _ upd_same) (fun j x σ H12o H12 hj hP hY => ?inner) (fun σ H12 hP => ?after)⟩⟩⟩
      case inner =>
        obtain ⟨v7, v8, v9, v10, v11, rfl, s12⟩ := hP
        obtain ⟨rfl, key, vp, hkv, rfl⟩ := hY
        obtain ⟨pr, hpr, ekey, tp, rd, kvr, evp, htp, hrd, tr⟩ := tbW.at hkv
        simp only at ekey evp
        subst ekey evp
        have hmem : (pr.1, pr.2) ∈ Pl := List.mem_of_getElem? hpr
        have hnk : pr.1 ∈ GW.keys Pl := List.mem_map_of_mem (f := (·.1)) hmem
        have row := ok.row pr hmem
        have wk : Same (wo H11 pa) H12 := fun b o e => by
          obtain ⟨e1, n1⟩ := wo_le e
          exact s12 b o (by rw [upd_ne n1]; exact e1)
        have pknd : (kvs.map (·.1)).Nodup := by
          rw [tb.keys]
          exact List.Pairwise.map _ (fun x y h z => h (Sum.inr.inj z)) ok.nd
        have hpa12 : H12 pa = some (.frz od (.dK kvs)) := s12 _ _ upd_same
        have gpl : ∀ H', H' pa = some (.frz od (.dK kvs)) → DGet H' pa (.str pr.1) (some (.ref tp)) := fun H' r => .inl ⟨kvs, Sum.inr pr.1, .inr ⟨od, r⟩, rfl, (valV_at pknd hkv).symm⟩
        have htp12 := wk _ _ htp
        have hrd12 := wk _ _ hrd
        have tdu12 := tduW.mono wk
        have MA12 := MAW.mono wk
        have trE := tr.mono fun _ _ r => r.mono wk
        obtain ⟨fdu, gdu, hfdu⟩ := tdu12.r.get (tabW_look (val := val) hnk)
        obtain ⟨fto, gto, hfto⟩ := (ttoW.mono wk).r.get (tabW_look (val := val) hnk)
        have vok : ∀ n ∈ GW.keys Pl, FrOk (val n) := fun n hn => ⟨(W.low n hn).pos, by have h1 := W.bot n hn; have h2 := ok.len; omega⟩
        -- told and due are the same
        refine ⟨_, rfl, _, rfl, to, _, rfl, gto, _, rfl, _, rfl, m, pr.1, Pl, val, rfl, MA12, ok, W, hnk, fun H13 v13 s13 fv13 => ⟨by show 2 ≤ sizeLine; decide, fun l3 hl3 => ?_⟩⟩
        have g3 := s13.trans (same_upd (o := .lst [.ref fto, v13]) hl3)
        have hl3a : (upd H13 l3 (.lst [.ref fto, v13])) l3 = some (.lst [.ref fto, v13]) := upd_same
        have fv14 := fv13.mono (same_upd (o := .lst [.ref fto, v13]) hl3)
        generalize upd H13 l3 (.lst [.ref fto, v13]) = H14 at g3 hl3a fv14 ⊢
        obtain ⟨fdu4, gdu4, hfdu4⟩ := (tdu12.mono g3).r.get (tabW_look (val := val) hnk)
        refine ⟨_, rfl, _, rfl, du, _, rfl, gdu4, _, rfl, _, rfl, du, _, rfl, gdu4, by show 2 ≤ sizeLine; decide, fun l4 hl4 => ?_⟩
        have g4 := g3.trans (same_upd (o := .lst [.ref fdu4, .ref fdu4]) hl4)
        have hl4a : (upd H14 l4 (.lst [.ref fdu4, .ref fdu4])) l4 = some (.lst [.ref fdu4, .ref fdu4]) := upd_same
        have hl3b := (same_upd (o := .lst [.ref fdu4, .ref fdu4]) hl4) _ _ hl3a
        have fv15 := fv14.mono (same_upd (o := .lst [.ref fdu4, .ref fdu4]) hl4)
        have fdu15 : FrV (upd H14 l4 (.lst [.ref fdu4, .ref fdu4])) (.ref fdu4) (val pr.1) := ⟨fdu4, rfl, same_upd hl4 _ _ hfdu4⟩
        generalize upd H14 l4 (.lst [.ref fdu4, .ref fdu4]) = H15 at g4 hl4a hl3b fv15 fdu15 ⊢
        refine ⟨.ref l3, .ref l4, rfl, ⟨l3, l4, _, _, rfl, rfl, .inl ⟨hl3b, hl4a⟩, .cons (sd_fr ⟨fto, rfl, g4 _ _ hfto⟩ fdu15) (.cons (sd_fr fv15 fdu15) .nil), by show 2 ≤ 1000; decide⟩, fun H16 s16 => ⟨true, rfl, iteF ?_⟩⟩
        have g16 := g4.trans s16
        -- the bottom
        obtain ⟨fdu6, gdu6, hfdu6⟩ := (tdu12.mono g16).r.get (tabW_look (val := val) hnk)
        have pa16 := g16 _ _ hpa12
        have klen : kvs.length = Pl.length := tb.len
        refine ⟨_, rfl, _, rfl, du, _, rfl, gdu6, fdu6, _, _, _, rfl, rfl, SqT.of hfdu6, fr_1, _, _, rfl, rfl, true, ?_, iteT ⟨_, rfl, pa, kvs, rfl, .inr ⟨od, pa16⟩, _, _, rfl, rfl, true, ?_, iteF ?_⟩⟩
        · show V.bl (decide ((0 : Int) < (val pr.1).2)) = _
          rw [decide_eq_true (vok _ hnk).1]
        · show V.bl (decide ((val pr.1).2 ≤ (kvs.length : Int))) = _
          rw [klen, decide_eq_true (W.bot _ hnk)]
        -- behind
        have hrd16 := g16 _ _ hrd12
        have htp16 := g16 _ _ htp12
        have ntprd : tp ≠ rd := ne_of htp16 hrd16 (by intro z; cases z)
        have nrdpa : pa ≠ rd := ne_of pa16 hrd16 (by intro z; cases z)
        have trl : kvr.length = pr.2.2.length := tr.len
        have ndurd : du ≠ rd := fun z => by
          obtain ⟨kt, e1, tt⟩ := tduW
          rw [z, hrd] at e1
          have e2 := HO.dK.inj (Option.some.inj e1)
          obtain ⟨mv, r, em⟩ := List.exists_cons_of_ne_nil row.1
          rw [em] at tr
          obtain ⟨kv, h1, _, pm, h2, h3⟩ := tr.at' (i := 0) rfl
          rw [e2] at h1
          obtain ⟨pf, _, _, pa', h5, h6⟩ := tt.at h1
          rw [h5] at h2
          cases h2
          have h7 := (wo_le h6).1
          rw [h3] at h7
          cases h7
        refine ⟨rd, _, hrd16, True.intro, fun od2 => ⟨_, rfl, _, rfl, pa, .ref tp, rfl, gpl _ (by rw [upd_ne nrdpa]; exact pa16), tp, _, _, _, rfl, rfl, SqT.of (by rw [upd_ne ntprd]; exact htp16), pr_1, rd, od2, kvr, rfl, upd_same, fun Dd hD => lc_it walk_values (fun jj H17 => Same (upd H16 rd (.frz od2 (.dK kvr))) H17 ∧ ∃ xs, H17 Dd = some (.lst xs) ∧ Paired (FrV H17) xs ((pr.2.2.take jj).map fun mv => val mv.2.1))
          ⟨same_upd hD, [], upd_same, .nil⟩ (fun jj H17 _ hP => hP.1 _ _ upd_same) (fun jj x H17o H17 hjj hP hY => ?_) (fun H17 hP => ?_)⟩⟩
        · obtain ⟨s17, xs, dx17, pf⟩ := hP
          obtain ⟨rfl, kw, hkw⟩ := hY
          obtain ⟨mv, hmv, ekw, pm, evm, hpm⟩ := trE.at hkw
          simp only at evm
          subst evm
          have hpm16 := g16 _ _ hpm
          have hpm17 := s17 _ _ (show (upd H16 rd (.frz od2 (.dK kvr))) pm = _ by rw [upd_ne (ne_of hpm16 hrd16 (by intro z; cases z))]; exact hpm16)
          have hin := (row.2.2.2 mv (List.mem_of_getElem? hmv)).2.2
          have tdu17 : TabU H17 du (tabW Pl val) := (tab_upd (tdu12.mono g16) (fun f z => by rw [hrd16] at z; cases z) ndurd).mono s17
          obtain ⟨p1, gp1, hp1⟩ := tdu17.r.get (tabW_look (val := val) hin)
          refine ⟨pm, _, rfl, SqT.of hpm17, rfl, _, _, rfl, _, _, rfl, rfl, rfl, yes_then ⟨_, rfl, _, rfl, du, _, rfl, gp1, xs, dx17, ?_, s_own s17 hD, xs ++ [.ref p1], upd_same, ?_⟩⟩
          · have h1 := pf.length
            have h2 := row.2.1
            rw [List.length_map, List.length_take] at h1
            exact small _ (by omega)
          · rw [List.take_add_one, hmv, List.map_append]
            have nD : ∀ {v : V} {f : Fr}, FrV H17 v f → FrV (upd H17 Dd (.lst (xs ++ [.ref p1]))) v f := fun ⟨p, e, h⟩ => ⟨p, e, by rw [upd_ne (ne_of h dx17 (by intro z; cases z))]; exact h⟩
            exact paired_snoc (Paired.mapP pf fun _ _ r => nD r) (nD ⟨p1, rfl, hp1⟩)
        obtain ⟨s17, bx, dx17, pfb⟩ := hP
        rw [trl, List.take_length] at pfb
        have hrd17 := s17 _ _ upd_same
        have nDrd : Dd ≠ rd := fun z => by rw [z, upd_same] at hD; cases hD
        refine ⟨hrd17, ?_⟩
        have g18 : Same H12 (upd H17 rd (.dK kvr)) := g16.trans (unlocked hrd16 s17)
        have hD18 : (upd H17 rd (.dK kvr)) Dd = some (.lst bx) := by rw [upd_ne nDrd]; exact dx17
        have pfb18 : Paired (FrV (upd H17 rd (.dK kvr))) bx (pr.2.2.map fun mv => val mv.2.1) := Paired.mapP pfb fun v f ⟨p, e, h⟩ => ⟨p, e, by rw [upd_ne (ne_of h hrd17 (by intro z; cases z))]; exact h⟩
        generalize upd H17 rd (.dK kvr) = H18 at g18 hD18 pfb18 ⊢
        -- the best of them
        have pa18 := g18 _ _ hpa12
        have htp18 := g18 _ _ htp12
        have hrd18 := g18 _ _ hrd12
        obtain ⟨fdu8, gdu8, hfdu8⟩ := (tdu12.mono g18).r.get (tabW_look (val := val) hnk)
        refine ⟨_, rfl, _, rfl, _, rfl, pa, .ref tp, rfl, gpl _ pa18, tp, _, _, _, rfl, rfl, SqT.of htp18, pr_0, rfl, Dd, pr.2.1, bx, _, by rw [side_dec]; rfl, hD18, pfb18, ?_, ?_, fun vb fvb => ?_⟩
        · intro z
          exact row.1 (List.map_eq_nil_iff.mp z)
        · intro f hf
          obtain ⟨mv, hmv, rfl⟩ := List.mem_map.mp hf
          exact vok _ (row.2.2.2 mv hmv).2.2
        have eopt : bestM (pr.2.2.map fun mv => val mv.2.1) pr.2.1 = val pr.1 := W.opt pr hmem
        rw [eopt] at fvb
        refine ⟨_, rfl, _, rfl, du, _, rfl, gdu8, frD (val pr.1), frD (val pr.1), fvb.dp, FrV.dp ⟨fdu8, rfl, hfdu8⟩, frD_sh _, frD_sh _, false, by rw [frD_eqv]; rfl, iteF ?_⟩
        -- moves
        refine ⟨_, rfl, _, rfl, pa, .ref tp, rfl, gpl _ pa18, tp, _, _, _, rfl, rfl, SqT.of htp18, pr_1, ?_⟩
        -- fine
        refine ⟨rd, _, hrd18, True.intro, fun od3 => ⟨_, rfl, rd, od3, rfl, .inl ⟨kvr, upd_same, fun D2 hD2 => lc_it walk_keys (fun jj H19 => Same (upd H18 rd (.frz od3 (.dK kvr))) H19 ∧ H19 D2 = some (.lst ((fineM val (pr.2.2.take jj) pr.1).map V.str)))
          ⟨same_upd hD2, upd_same⟩ (fun jj H19 _ hP => hP.1 _ _ upd_same) (fun jj x H19o H19 hjj hP hY => ?_) (fun H19 hP => ?_)⟩⟩⟩
        · obtain ⟨s19, d19⟩ := hP
          obtain ⟨rfl, kw, vw, hkw, rfl⟩ := hY
          obtain ⟨mv, hmv, ekw, pm, evm, hpm⟩ := trE.at hkw
          simp only at ekw evm
          subst ekw evm
          have hpm18 := g18 _ _ hpm
          have hpm19 := s19 _ _ (show (upd H18 rd (.frz od3 (.dK kvr))) pm = _ by rw [upd_ne (ne_of hpm18 hrd18 (by intro z; cases z))]; exact hpm18)
          have hin := (row.2.2.2 mv (List.mem_of_getElem? hmv)).2.2
          have tdu19 : TabU H19 du (tabW Pl val) := (tab_upd (tdu12.mono g18) (fun f z => by rw [hrd18] at z; cases z) ndurd).mono s19
          obtain ⟨p1, gp1, hp1⟩ := tdu19.r.get (tabW_look (val := val) hin)
          obtain ⟨p2, gp2, hp2⟩ := tdu19.r.get (tabW_look (val := val) hnk)
          have gm : DGet H19 rd (.str mv.1) (some (.ref pm)) := .inl ⟨kvr, Sum.inr mv.1, .inr ⟨od3, s19 _ _ upd_same⟩, rfl, (valV_at (by rw [tr.keys]; exact List.Pairwise.map _ (fun x y h z => h (Sum.inr.inj z)) row.2.2.1) hkw).symm⟩
          have stp := fine_step val pr.1 hmv
          refine ⟨rfl, _, rfl, _, rfl, _, rfl, rd, _, rfl, gm, pm, _, _, _, rfl, rfl, SqT.of hpm19, pr_0, du, .ref p1, rfl, gp1, _, rfl, _, rfl, du, .ref p2, rfl, gp2, frD (val mv.2.1), frD (val pr.1), FrV.dp ⟨p1, rfl, hp1⟩, FrV.dp ⟨p2, rfl, hp2⟩, frD_sh _, frD_sh _, _, rfl, ?_⟩
          rw [frD_eq]
          refine ite2 (fun c => ?_) (fun c => ?_)
          · refine ⟨_, rfl, _, d19, ?_, s_own s19 hD2, ?_⟩
            · have h1 : pr.2.2.length ≤ 3 := row.2.1
              have h2 := List.length_filter_le (fun m : Str × (Str × Int) => decide (val m.2.1 = val pr.1)) (pr.2.2.take jj)
              rw [List.length_map]
              unfold fineM
              rw [List.length_map]
              rw [List.length_take] at h2
              exact small _ (by omega)
            · rw [upd_same, stp, if_pos c, List.map_append]; rfl
          · refine ⟨s19, ?_⟩
            rw [stp, if_neg c, List.append_nil]
            exact d19
        obtain ⟨s19, d19⟩ := hP
        rw [trl, List.take_length] at d19
        have hrd19 := s19 _ _ upd_same
        have nD2rd : D2 ≠ rd := fun z => by rw [z, upd_same] at hD2; cases hD2
        refine ⟨hrd19, ?_⟩
        have g20 : Same H12 (upd H19 rd (.dK kvr)) := g18.trans (unlocked hrd18 s19)
        have d20 : (upd H19 rd (.dK kvr)) D2 = some (.lst ((fineM val pr.2.2 pr.1).map V.str)) := by rw [upd_ne nD2rd]; exact d19
        generalize upd H19 rd (.dK kvr) = H20 at g20 d20 ⊢
        have fl : (fineM val pr.2.2 pr.1).length ≤ 3 := by
          have h2 := List.length_filter_le (fun m : Str × (Str × Int) => decide (val m.2.1 = val pr.1)) pr.2.2
          have h1 : pr.2.2.length ≤ 3 := row.2.1
          unfold fineM
          rw [List.length_map]
          omega
        have fnm : ∀ z ∈ fineM val pr.2.2 pr.1, NmOk z := fun z hz => by
          unfold fineM at hz
          obtain ⟨mv, hmv, rfl⟩ := List.mem_map.mp hz
          exact (row.2.2.2 mv (List.mem_filter.mp hmv).1).1
        -- told steps
        refine ⟨_, rfl, _, rfl, m, pr.1, Pl, val, pr.2, rfl, MA12.mono g20, ok, W, hmem, fun H21 lt s21 hlt0 hlt => ?_⟩
        have d21 := s21 _ _ d20
        refine ⟨_, rfl, _, rfl, .ref lt, .ref D2, rfl, sd_strs hlt d21 (by omega), fun H22 s22 => ⟨true, rfl, iteF ?_⟩⟩
        have g22 : Same H12 H22 := (g20.trans s21).trans s22
        have hlt22 := s22 _ _ hlt
        have nltD : D2 ≠ lt := fun z => by rw [z, hlt0] at d20; cases d20
        refine ⟨_, rfl, .inl ⟨rfl, _, SqL.of hlt22⟩, lt, _, .str (Str.ofString "late"), rfl, rfl, hlt22, by rw [List.length_map]; exact small _ (by omega), ?_⟩
        have hlt12 : H12 lt = none := g20.free hlt0
        have g23 : Same H12 (upd H22 lt (.lst ((fineM val pr.2.2 pr.1).map V.str ++ [.str (Str.ofString "late")]))) := s_own g22 hlt12
        have d23 : (upd H22 lt (.lst ((fineM val pr.2.2 pr.1).map V.str ++ [.str (Str.ofString "late")]))) D2 = some (.lst ((fineM val pr.2.2 pr.1).map V.str)) := by rw [upd_ne nltD]; exact s22 _ _ d21
        generalize upd H22 lt (.lst ((fineM val pr.2.2 pr.1).map V.str ++ [.str (Str.ofString "late")])) = H23 at g23 d23 ⊢
        refine ⟨_, rfl, _, rfl, m, pr.1, Pl, val, pr.2, rfl, MA12.mono g23, ok, W, hmem, fun H24 lu s24 _ hlu => ?_⟩
        refine ⟨_, rfl, .list ((fineM val pr.2.2 pr.1).map PyData.str), .list ((fineM val pr.2.2 pr.1).map PyData.str), .lst (SqL.of hlu) (dp_strs _), .lst (SqL.of (s24 _ _ d23)) (dp_strs _), sh_strs fnm, sh_strs fnm, false, strs_eq fnm, iteF ?_⟩
        exact ⟨_, _, _, _, _, rfl, s12.trans (g23.trans s24)⟩
      case after =>
        obtain ⟨v7, v8, v9, v10, v11, rfl, s12⟩ := hP
        refine ⟨s12 _ _ upd_same, ?_⟩
        have g13 : Same H11 (upd H12 pa (.dK kvs)) := unlocked hpa11 s12
        generalize upd H12 pa (.dK kvs) = H13 at g13 ⊢
        have hto13 := g13 _ _ (s911 _ _ hto9)
        have ktl : kt.length = Pl.length := by rw [tbt.len]; unfold tabW; rw [List.length_map]
        refine ⟨_, rfl, to, _, rfl, DPut.k (k := Sum.inr (Str.ofString "more")) hto13 (small _ (by omega)), ?_⟩
        have s814 : Same H8 (upd H13 to (.dK (putK kt (Sum.inr (Str.ofString "more")) .non))) := s_own (s811.trans g13) hto
        generalize upd H13 to (.dK (putK kt (Sum.inr (Str.ofString "more")) .non)) = H14 at s814 ⊢
        refine ⟨_, rfl, m, Pl, val, rfl, MA8.mono s814, ok, W, fun H15 t3 s15 _ tab15 => ?_⟩
        have s815 := s814.trans s15
        obtain ⟨ks2, ls2, TE2⟩ := tab_eq (K := K) tab15 ((tdu7.mono s8).mono s815) knd rfl
        refine ⟨_, rfl, t3, du, ks2, ls2, _, _, rfl, rfl, TE2, false, by rw [tab_same]; rfl, iteF ?_⟩
        have s415 : Same H4 H15 := s48.trans s815
        refine ⟨_, rfl, _, rfl, fun m2 dx2 h1 h2 h3 => mk_means (s415 _ _ hpa4) (sk.mono (wo_same s415)) (sp.mono (wo_same s415)) ok h1 h2 h3 fun H16 s16 mn16 => ?_⟩
        have s816 := s815.trans s16
        obtain ⟨dx, d, kv, g1, g2, g3, g4, g5⟩ := mn8.ex
        obtain ⟨dy, d2, kv2, f1, f2, f3, f4, f5⟩ := mn16.ex
        refine ⟨m, m2, dx, dy, _, _, rfl, rfl, s816 _ _ g1, f1, m, m2, dx, dy, d, d2, kv, kv2, L, Pl, rfl, s816 _ _ g1, f1, s816 _ _ g2, f2, g3.mono s816, f3, f4, ok, ?_, fun H17 s17 => ⟨true, rfl, false, rfl, iteF ?_⟩⟩
        · intro z
          rw [z, s815 _ _ g2] at f5
          cases f5
        · refine ⟨_, _, _, _, _, _, _, _, _, _, rfl, (S4.mono ((s415.trans s16).trans s17)).le (by omega)⟩
    · obtain ⟨v2, v3, v4, v5, v6, v7, v8, v9, v10, v11, rfl⟩ := hP
      try dsimp only
      refine seq_cut (a := tAsg _ _) (fun σ2 H2 => ∃ v2 v3 v4 v5 v6 v7 v8 v9 v10 v11 D0, σ2 = [some (.ref a), some (.ref st), v2, v3, v4, v5, v6, v7, v8, v9, v10, v11, some (.ref D0), none, none, none, none, none] ∧ PlanU H2 D0 twoM) (fun N hN => ?_) (fun σ2 H2 hP => ?_)
      · intro D0 hD0
        have a1 : (upd H2 D0 (.dK [])) D0 = some (.dK []) := upd_same
        generalize upd H2 D0 (.dK []) = Ha at a1 ⊢
        intro E1 hE1
        have nE1 : D0 ≠ E1 := ne_of_none a1 hE1
        have b1 := same_upd (o := .dK []) hE1 _ _ a1
        have b2 : (upd Ha E1 (.dK [])) E1 = some (.dK []) := upd_same
        generalize upd Ha E1 (.dK []) = Hb at b1 b2 ⊢
        refine ⟨by show 2 ≤ sizeLine; decide, fun t1 ht1 => ?_⟩
        have c1 := same_upd (o := .tup [.str (Str.ofString "a"), .int 1]) ht1 _ _ b1
        have c2 := same_upd (o := .tup [.str (Str.ofString "a"), .int 1]) ht1 _ _ b2
        have c3 : (upd Hb t1 (.tup [.str (Str.ofString "a"), .int 1])) t1 = some (.tup [.str (Str.ofString "a"), .int 1]) := upd_same
        generalize upd Hb t1 (.tup [.str (Str.ofString "a"), .int 1]) = Hc at c1 c2 c3 ⊢
        refine ⟨by show 2 ≤ sizeLine; decide, fun t2 ht2 => ?_⟩
        have d1 := same_upd (o := .tup [.str (Str.ofString "b"), .int 0]) ht2 _ _ c1
        have d2 := same_upd (o := .tup [.str (Str.ofString "b"), .int 0]) ht2 _ _ c2
        have d3 := same_upd (o := .tup [.str (Str.ofString "b"), .int 0]) ht2 _ _ c3
        have d4 : (upd Hc t2 (.tup [.str (Str.ofString "b"), .int 0])) t2 = some (.tup [.str (Str.ofString "b"), .int 0]) := upd_same
        generalize upd Hc t2 (.tup [.str (Str.ofString "b"), .int 0]) = Hd at d1 d2 d3 d4 ⊢
        refine ⟨d2, [((Sum.inr (Str.ofString "stay") : Key), V.ref t1), ((Sum.inr (Str.ofString "go") : Key), V.ref t2)], rfl, by show 2 ≤ 15; decide, ?_⟩
        rw [merge_new _ _ (by show ([(Sum.inr (Str.ofString "stay") : Key), Sum.inr (Str.ofString "go")]).Nodup; decide +kernel), List.nil_append]
        have e1 : (upd Hd E1 (.dK [((Sum.inr (Str.ofString "stay") : Key), V.ref t1), ((Sum.inr (Str.ofString "go") : Key), V.ref t2)])) D0 = some (.dK []) := by rw [upd_ne nE1]; exact d1
        have e2 : (upd Hd E1 (.dK [((Sum.inr (Str.ofString "stay") : Key), V.ref t1), ((Sum.inr (Str.ofString "go") : Key), V.ref t2)])) E1 = some (.dK [((Sum.inr (Str.ofString "stay") : Key), V.ref t1), ((Sum.inr (Str.ofString "go") : Key), V.ref t2)]) := upd_same
        have e3 : (upd Hd E1 (.dK [((Sum.inr (Str.ofString "stay") : Key), V.ref t1), ((Sum.inr (Str.ofString "go") : Key), V.ref t2)])) t1 = some (.tup [.str (Str.ofString "a"), .int 1]) := by rw [upd_ne (ne_of d3 d2 (by intro z; cases z))]; exact d3
        have e4 : (upd Hd E1 (.dK [((Sum.inr (Str.ofString "stay") : Key), V.ref t1), ((Sum.inr (Str.ofString "go") : Key), V.ref t2)])) t2 = some (.tup [.str (Str.ofString "b"), .int 0]) := by rw [upd_ne (ne_of d4 d2 (by intro z; cases z))]; exact d4
        generalize upd Hd E1 (.dK [((Sum.inr (Str.ofString "stay") : Key), V.ref t1), ((Sum.inr (Str.ofString "go") : Key), V.ref t2)]) = He at e1 e2 e3 e4 ⊢
        refine ⟨by show 2 ≤ sizeLine; decide, fun T1 hT1 => ?_⟩
        have sf : Same He (upd He T1 (.tup [.str (Str.ofString "ours"), .ref E1])) := same_upd hT1
        have f5 : (upd He T1 (.tup [.str (Str.ofString "ours"), .ref E1])) T1 = some (.tup [.str (Str.ofString "ours"), .ref E1]) := upd_same
        generalize upd He T1 (.tup [.str (Str.ofString "ours"), .ref E1]) = Hf at sf f5 ⊢
        intro E2 hE2
        have nE2 : D0 ≠ E2 := ne_of_none (sf _ _ e1) hE2
        have nE12 : E1 ≠ E2 := ne_of_none (sf _ _ e2) hE2
        have sg : Same Hf (upd Hf E2 (.dK [])) := same_upd hE2
        have g6 : (upd Hf E2 (.dK [])) E2 = some (.dK []) := upd_same
        generalize upd Hf E2 (.dK []) = Hg at sg g6 ⊢
        refine ⟨by show 2 ≤ sizeLine; decide, fun t3 ht3 => ?_⟩
        have sh : Same Hg (upd Hg t3 (.tup [.str (Str.ofString "a"), .int 5])) := same_upd ht3
        have h7 : (upd Hg t3 (.tup [.str (Str.ofString "a"), .int 5])) t3 = some (.tup [.str (Str.ofString "a"), .int 5]) := upd_same
        generalize upd Hg t3 (.tup [.str (Str.ofString "a"), .int 5]) = Hh at sh h7 ⊢
        refine ⟨by show 2 ≤ sizeLine; decide, fun t4 ht4 => ?_⟩
        have si : Same Hh (upd Hh t4 (.tup [.str (Str.ofString "b"), .int 2])) := same_upd ht4
        have i8 : (upd Hh t4 (.tup [.str (Str.ofString "b"), .int 2])) t4 = some (.tup [.str (Str.ofString "b"), .int 2]) := upd_same
        generalize upd Hh t4 (.tup [.str (Str.ofString "b"), .int 2]) = Hi at si i8 ⊢
        have ei : Same He Hi := fun b o e => si _ _ (sh _ _ (sg _ _ (sf _ _ e)))
        have i6 : Hi E2 = some (.dK []) := si _ _ (sh _ _ g6)
        have i5 : Hi T1 = _ := si _ _ (sh _ _ (sg _ _ f5))
        have i7 := si _ _ h7
        refine ⟨i6, [((Sum.inr (Str.ofString "back") : Key), V.ref t3), ((Sum.inr (Str.ofString "stay") : Key), V.ref t4)], rfl, by show 2 ≤ 15; decide, ?_⟩
        rw [merge_new _ _ (by show ([(Sum.inr (Str.ofString "back") : Key), Sum.inr (Str.ofString "stay")]).Nodup; decide +kernel), List.nil_append]
        have kj : ∀ b o, b ≠ E2 → Hi b = some o → (upd Hi E2 (.dK [((Sum.inr (Str.ofString "back") : Key), V.ref t3), ((Sum.inr (Str.ofString "stay") : Key), V.ref t4)])) b = some o := fun b o n e => by rw [upd_ne n]; exact e
        have j6 : (upd Hi E2 (.dK [((Sum.inr (Str.ofString "back") : Key), V.ref t3), ((Sum.inr (Str.ofString "stay") : Key), V.ref t4)])) E2 = some (.dK [((Sum.inr (Str.ofString "back") : Key), V.ref t3), ((Sum.inr (Str.ofString "stay") : Key), V.ref t4)]) := upd_same
        generalize upd Hi E2 (.dK [((Sum.inr (Str.ofString "back") : Key), V.ref t3), ((Sum.inr (Str.ofString "stay") : Key), V.ref t4)]) = Hj at kj j6 ⊢
        refine ⟨by show 2 ≤ sizeLine; decide, fun T2 hT2 => ?_⟩
        have sk2 : Same Hj (upd Hj T2 (.tup [.str (Str.ofString "theirs"), .ref E2])) := same_upd hT2
        have k9 : (upd Hj T2 (.tup [.str (Str.ofString "theirs"), .ref E2])) T2 = some (.tup [.str (Str.ofString "theirs"), .ref E2]) := upd_same
        generalize upd Hj T2 (.tup [.str (Str.ofString "theirs"), .ref E2]) = Hk at sk2 k9 ⊢
        have tupne : ∀ {b : Addr} {xs : List V}, Hi b = some (.tup xs) → b ≠ E2 := fun h => ne_of h i6 (by intro z; cases z)
        have k1 : Hk D0 = some (.dK []) := sk2 _ _ (kj _ _ nE2 (ei _ _ e1))
        have kE1 := sk2 _ _ (kj _ _ nE12 (ei _ _ e2))
        have kt1 := sk2 _ _ (kj _ _ (tupne (ei _ _ e3)) (ei _ _ e3))
        have kt2 := sk2 _ _ (kj _ _ (tupne (ei _ _ e4)) (ei _ _ e4))
        have kT1 := sk2 _ _ (kj _ _ (tupne i5) i5)
        have kt3 := sk2 _ _ (kj _ _ (tupne i7) i7)
        have kt4 := sk2 _ _ (kj _ _ (tupne i8) i8)
        have kE2 := sk2 _ _ j6
        refine ⟨k1, [((Sum.inr (Str.ofString "a") : Key), V.ref T1), ((Sum.inr (Str.ofString "b") : Key), V.ref T2)], rfl, by show 2 ≤ 15; decide, ?_⟩
        rw [merge_new _ _ (by show ([(Sum.inr (Str.ofString "a") : Key), Sum.inr (Str.ofString "b")]).Nodup; decide +kernel), List.nil_append]
        have tn : ∀ {b : Addr} {xs : List V}, Hk b = some (.tup xs) → wo Hk D0 b = some (.tup xs) := fun h => wo_of h (ne_of h k1 (by intro z; cases z))
        refine hN _ _ ⟨_, _, _, _, _, _, _, _, _, _, D0, rfl, _, upd_same, ?_⟩
        rw [wo_upd]
        exact .cons ⟨rfl, T1, E1, _, rfl, tn kT1, wo_of kE1 nE1.symm, .cons ⟨rfl, t1, rfl, tn kt1⟩ (.cons ⟨rfl, t2, rfl, tn kt2⟩ .nil)⟩ (.cons ⟨rfl, T2, E2, _, rfl, tn k9, wo_of kE2 nE2.symm, .cons ⟨rfl, t3, rfl, tn kt3⟩ (.cons ⟨rfl, t4, rfl, tn kt4⟩ .nil)⟩ .nil)
      obtain ⟨v2, v3, v4, v5, v6, v7, v8, v9, v10, v11, D0, rfl, PT⟩ := hP
      try dsimp only
      refine seq_cut (a := tFor _ _ _) (fun σ2 H2 => ∃ v2 v3 v4 v5 v6 v7 v8 v9 v10 v11 v13 v14, σ2 = [some (.ref a), some (.ref st), v2, v3, v4, v5, v6, v7, v8, v9, v10, v11, some (.ref D0), v13, v14, none, none, none] ∧ PlanU H2 D0 twoM) (fun N hN => ?_) (fun σ2 H2 hP => ?_)
      · refine ⟨by show 2 ≤ sizeLine; decide, fun tt htt => ⟨tt, rfl, ⟨_, SqT.of upd_same⟩, for_tup (K := K) (a := tt) (xs := [.bl false, .bl true]) (fun i σ H3 => ∃ v13 v14, σ = [some (.ref a), some (.ref st), v2, v3, v4, v5, v6, v7, v8, v9, v10, v11, some (.ref D0), v13, v14, none, none, none] ∧ PlanU H3 D0 twoM ∧ H3 tt = some (.tup [.bl false, .bl true]))
          ⟨none, none, rfl, PT.mono (same_upd htt), upd_same⟩ (fun i σ H3 _ hP => let ⟨_, _, _, _, h⟩ := hP; SqT.of h) (fun i x σ H3 hx hP => ?_) (fun σ H3 hP => let ⟨v13, v14, e, p, _⟩ := hP; hN _ _ ⟨v2, v3, v4, v5, v6, v7, v8, v9, v10, v11, v13, v14, e, p⟩)⟩⟩
        obtain ⟨v13, v14, rfl, PT3, htt3⟩ := hP
        obtain ⟨t, rfl⟩ : ∃ t, x = .bl t := by
          have hm := List.mem_of_getElem? hx
          rcases List.mem_cons.mp hm with e | hm
          · exact ⟨false, e⟩
          · exact ⟨true, List.mem_singleton.mp hm⟩
        refine ⟨_, rfl, t, rfl, fun H4 ra s4 hra PUr => ?_⟩
        obtain ⟨val, W⟩ := game_value (ring_ok t).wf
        obtain ⟨kvr, hra4, tbr⟩ := id PUr
        obtain ⟨L, sk, sp⟩ := pl_sk tbr
        have etab : tabW (ringM t) val = (ringM t).map fun p => (p.1, ((0, 1) : Fr)) := W.tab.symm.trans (ring_tab t)
        refine ⟨_, rfl, fun m dxm h1 h2 h3 => mk_means hra4 sk sp (ring_ok t) h1 h2 h3 fun H5 s5 mn5 => ?_⟩
        refine ⟨m, ringM t, val, rfl, mn5.wo.mono wo_to, ring_ok t, W, fun H6 wt s6 _ twt => ?_⟩
        rw [etab] at twt
        have s46 := s5.trans s6
        have hra6 := s46 _ _ hra4
        have kvl : kvr.length = (ringM t).length := tbr.len
        refine ⟨ra, _, hra6, True.intro, fun od => ⟨_, rfl, ra, od, rfl, .inl ⟨kvr, upd_same, fun D1 hD1 => lc_it walk_keys (fun j H7 => Same (upd H6 ra (.frz od (.dK kvr))) H7 ∧ ∃ (ps : List Addr) (kz : List (Key × V)), H7 D1 = some (.lst (ps.map V.ref)) ∧ Paired (fun (p : Addr) (kv : Key × V) => H7 p = some (.tup [kV kv.1, kv.2])) ps kz ∧ Tb (FrV H7) kz (((ringM t).take j).map fun p => (p.1, ((0, 1) : Fr))))
          ⟨same_upd hD1, [], [], upd_same, .nil, .nil⟩ (fun j H7 _ hP => hP.1 _ _ upd_same) (fun j x H7o H7 hj hP hY => ?_) (fun H7 hP => ?_)⟩⟩⟩
        · obtain ⟨s7, ps, kz, d7, pz, tz⟩ := hP
          obtain ⟨rfl, key, vk, hkv, rfl⟩ := hY
          obtain ⟨p, hp, ekey, _⟩ := tbr.at hkv
          simp only at ekey
          subst ekey
          refine ⟨rfl, yes_then ⟨_, rfl, by show 2 ≤ sizeLine; decide, fun z1 hz1 => ⟨by show 2 ≤ sizeLine; decide, fun z2 hz2 => ?_⟩⟩⟩
          have q1 : (upd H7 z1 (.tup [.int 0, .int 1])) z1 = some (frT (0, 1)) := upd_same
          have sz1 : Same H7 (upd H7 z1 (.tup [.int 0, .int 1])) := same_upd hz1
          generalize upd H7 z1 (.tup [.int 0, .int 1]) = H8 at q1 sz1 hz2 ⊢
          have q2 : (upd H8 z2 (.tup [kV (Sum.inr p.1), .ref z1])) z2 = some (.tup [kV (Sum.inr p.1), .ref z1]) := upd_same
          have sz2 : Same H8 (upd H8 z2 (.tup [kV (Sum.inr p.1), .ref z1])) := same_upd hz2
          generalize upd H8 z2 (.tup [kV (Sum.inr p.1), .ref z1]) = H9 at q2 sz2 ⊢
          have s79 := sz1.trans sz2
          have d9 := s79 _ _ d7
          have psl : ps.length ≤ 10 := by
            have e1 := pz.length
            have e2 := tz.len
            have e3 := ring_len t
            rw [List.length_map, List.length_take] at e2
            omega
          have nD : ∀ {b : Addr} {xs : List V}, H9 b = some (.tup xs) → (upd H9 D1 (.lst ((ps ++ [z2]).map V.ref))) b = some (.tup xs) := fun h => by rw [upd_ne (ne_of h d9 (by intro z; cases z))]; exact h
          refine ⟨_, d9, by rw [List.length_map]; exact small _ (by omega), s_own (s7.trans s79) hD1, ps ++ [z2], kz ++ [((Sum.inr p.1 : Key), V.ref z1)], by rw [upd_same, List.map_append]; rfl, ?_, ?_⟩
          · have e0 : (ps.map V.ref ++ [V.ref z2]) = (ps ++ [z2]).map V.ref := by rw [List.map_append]; rfl
            rw [e0]
            exact paired_snoc (Paired.mapP pz fun _ _ r => nD (s79 _ _ r)) (nD q2)
          · have e0 : (ps.map V.ref ++ [V.ref z2]) = (ps ++ [z2]).map V.ref := by rw [List.map_append]; rfl
            have e1 : ((ringM t).take (j + 1)).map (fun p => (p.1, ((0, 1) : Fr))) = ((ringM t).take j).map (fun p => (p.1, ((0, 1) : Fr))) ++ [(p.1, ((0, 1) : Fr))] := by rw [List.take_add_one, hp, List.map_append]; rfl
            rw [e0, e1]
            have hz9 := nD (sz2 _ _ q1)
            have mono9 : ∀ (v : V) (f : Fr), FrV H7 v f → FrV (upd H9 D1 (.lst ((ps ++ [z2]).map V.ref))) v f := fun v f ⟨q, e, h⟩ => ⟨q, e, nD (s79 _ _ h)⟩
            have one9 : Tb (FrV (upd H9 D1 (.lst ((ps ++ [z2]).map V.ref)))) [((Sum.inr p.1 : Key), V.ref z1)] [(p.1, ((0, 1) : Fr))] := .cons ⟨rfl, z1, rfl, hz9⟩ .nil
            exact (Tb.mono tz mono9).app one9
        · obtain ⟨s7, ps, kz, d7, pz, tz⟩ := hP
          rw [kvl, List.take_length] at tz
          have hra7 := s7 _ _ upd_same
          have nDra : D1 ≠ ra := fun z => by rw [z, upd_same] at hD1; cases hD1
          refine ⟨hra7, ?_⟩
          have s68 : Same H6 (upd H7 ra (.dK kvr)) := unlocked hra6 s7
          have nr : ∀ {b : Addr} {xs : List V}, H7 b = some (.tup xs) → (upd H7 ra (.dK kvr)) b = some (.tup xs) := fun h => by rw [upd_ne (ne_of h hra7 (by intro z; cases z))]; exact h
          have d8 : (upd H7 ra (.dK kvr)) D1 = some (.lst (ps.map V.ref)) := by rw [upd_ne nDra]; exact d7
          have pz8 : Paired (fun (p : Addr) (kv : Key × V) => (upd H7 ra (.dK kvr)) p = some (.tup [kV kv.1, kv.2])) ps kz := Paired.mapP pz fun _ _ r => nr r
          have tz8 : Tb (FrV (upd H7 ra (.dK kvr))) kz ((ringM t).map fun p => (p.1, ((0, 1) : Fr))) := tz.mono fun _ _ ⟨q, e, h⟩ => ⟨q, e, nr h⟩
          generalize upd H7 ra (.dK kvr) = H8 at s68 d8 pz8 tz8 ⊢
          refine ⟨D1, ps, kz, rfl, SqL.of d8, Paired.mapP pz8 fun _ _ r => SqT.of r, fun dd hdd => ?_⟩
          have kzn : ((([] : List (Key × V)) ++ kz).map (·.1)).Nodup := by
            rw [List.nil_append, tz8.keys, keys_map (ringM t) (fun _ => ((0, 1) : Fr))]
            exact List.Pairwise.map _ (fun x y h z => h (Sum.inr.inj z)) (ring_nd t)
          rw [merge_new _ _ kzn, List.nil_append]
          have s89 : Same H8 (upd H8 dd (.dK kz)) := same_upd hdd
          have tdd : TabU (upd H8 dd (.dK kz)) dd ((ringM t).map fun p => (p.1, ((0, 1) : Fr))) := ⟨kz, upd_same, tz8.mono fun _ _ ⟨q, e, h⟩ => ⟨q, e, by rw [wo_upd]; exact wo_of h (ne_of_none h hdd)⟩⟩
          generalize upd H8 dd (.dK kz) = H9 at s89 tdd ⊢
          have twt9 := (twt.mono s68).mono s89
          obtain ⟨ks, ls, TE⟩ := tab_eq (K := K) twt9 tdd (by rw [keys_map (ringM t) (fun _ => ((0, 1) : Fr))]; exact ring_nd t) rfl
          refine ⟨wt, dd, ks, ls, _, _, rfl, rfl, TE, false, by rw [tab_same]; rfl, iteF ?_⟩
          have s39 := ((s4.trans s46).trans s68).trans s89
          exact ⟨_, _, rfl, PT3.mono s39, s39 _ _ htt3⟩
      obtain ⟨v2, v3, v4, v5, v6, v7, v8, v9, v10, v11, v13, v14, rfl, PT2⟩ := hP
      obtain ⟨val, W⟩ := game_value two_ok.wf
      obtain ⟨kvt, hdt, tbt⟩ := id PT2
      obtain ⟨L, sk, sp⟩ := pl_sk tbt
      have etab : tabW twoM val = [(Str.ofString "a", (2, 1)), (Str.ofString "b", (2, 1))] := W.tab.symm.trans two_tab
      refine ⟨_, rfl, fun m dxm h1 h2 h3 => mk_means hdt sk sp two_ok h1 h2 h3 fun H5 s5 mn5 => ?_⟩
      refine ⟨m, twoM, val, rfl, mn5.wo.mono wo_to, two_ok, W, fun H6 wt s6 _ twt => ?_⟩
      rw [etab] at twt
      intro D2 hD2
      have a1 : (upd H6 D2 (.dK [])) D2 = some (.dK []) := upd_same
      have sa : Same H6 (upd H6 D2 (.dK [])) := same_upd hD2
      generalize upd H6 D2 (.dK []) = H7 at a1 sa ⊢
      refine ⟨by show 2 ≤ sizeLine; decide, fun u1 hu1 => ?_⟩
      have b1 : (upd H7 u1 (.tup [.int 2, .int 1])) u1 = some (frT (2, 1)) := upd_same
      have sb : Same H7 (upd H7 u1 (.tup [.int 2, .int 1])) := same_upd hu1
      generalize upd H7 u1 (.tup [.int 2, .int 1]) = H8 at b1 sb ⊢
      refine ⟨by show 2 ≤ sizeLine; decide, fun u2 hu2 => ?_⟩
      have c1 : (upd H8 u2 (.tup [.int 2, .int 1])) u2 = some (frT (2, 1)) := upd_same
      have sc : Same H8 (upd H8 u2 (.tup [.int 2, .int 1])) := same_upd hu2
      generalize upd H8 u2 (.tup [.int 2, .int 1]) = H9 at c1 sc ⊢
      have d9 : H9 D2 = some (.dK []) := sc _ _ (sb _ _ a1)
      have b9 := sc _ _ b1
      refine ⟨d9, [((Sum.inr (Str.ofString "a") : Key), V.ref u1), ((Sum.inr (Str.ofString "b") : Key), V.ref u2)], rfl, by show 2 ≤ 15; decide, ?_⟩
      rw [merge_new _ _ (by show ([(Sum.inr (Str.ofString "a") : Key), Sum.inr (Str.ofString "b")]).Nodup; decide +kernel), List.nil_append]
      have s69 : Same H6 (upd H9 D2 (.dK [((Sum.inr (Str.ofString "a") : Key), V.ref u1), ((Sum.inr (Str.ofString "b") : Key), V.ref u2)])) := s_own (fun b o e => sc _ _ (sb _ _ (sa _ _ e))) hD2
      have tD : TabU (upd H9 D2 (.dK [((Sum.inr (Str.ofString "a") : Key), V.ref u1), ((Sum.inr (Str.ofString "b") : Key), V.ref u2)])) D2 [(Str.ofString "a", (2, 1)), (Str.ofString "b", (2, 1))] := by
        refine ⟨_, upd_same, ?_⟩
        rw [wo_upd]
        exact .cons ⟨rfl, u1, rfl, wo_of b9 (ne_of b9 d9 (by intro z; cases z))⟩ (.cons ⟨rfl, u2, rfl, wo_of c1 (ne_of c1 d9 (by intro z; cases z))⟩ .nil)
      generalize upd H9 D2 (.dK [((Sum.inr (Str.ofString "a") : Key), V.ref u1), ((Sum.inr (Str.ofString "b") : Key), V.ref u2)]) = H10 at s69 tD ⊢
      obtain ⟨ks, ls, TE⟩ := tab_eq (K := K) (twt.mono s69) tD (by show ([Str.ofString "a", Str.ofString "b"]).Nodup; decide +kernel) rfl
      refine ⟨wt, D2, ks, ls, _, _, rfl, rfl, TE, ?_⟩
      rw [tab_same]
      exact k _
end
end Gw

set_option Elab.async false
set_option linter.all false
set_option maxRecDepth 100000
set_option maxHeartbeats 8000000
namespace Gw
open PySem PySem.Spec PyProof.Rows L2 GW
theorem all_mk {l : PySem.W.OpenLaw} {w : World} {K : PySem.W.Frag} {h : Heap} {mg : Str → Option Value} {fa C : Addr} (X : K.In h) (G : h.Ns mainGlobals mg) (hfa : mg "law" = some (.ref fa))
    {f1 f2 f3 f4 f5 f6 f7 f8 f9 f10 f11 f12 f13 f14 f15 f16 f17 f18 f19 f20 f21 f22 f23 f24 f25 f26 f27 f28 f29 f30 f31 f32 f33 f34 f35 f36 : Addr} {od1 an1 od2 an2 od3 an3 od4 an4 od5 an5 od6 an6 od7 an7 od8 an8 od9 an9 od10 an10 od11 an11 od12 an12 od13 an13 od14 an14 od15 an15 od16 an16 od17 an17 od18 an18 od19 an19 od20 an20 od21 an21 od22 an22 od23 an23 od24 an24 od25 an25 od26 an26 od27 an27 od28 an28 od29 an29 od30 an30 od31 an31 od32 an32 od33 an33 od34 an34 od35 an35 od36 an36 : Option Addr} {sl1 sl2 sl3 sl4 sl5 sl6 sl7 sl8 sl9 sl10 sl11 sl12 sl13 sl14 sl15 sl16 sl17 sl18 sl19 sl20 sl21 sl22 sl23 sl24 sl25 sl26 sl27 sl28 sl29 sl30 sl31 sl32 sl33 sl34 sl35 sl36 : Array (Option Value)} {oc1 kV1 dc1 pm1 cd1 ct1 oc2 kV2 dc2 pm2 cd2 ct2 oc3 kV3 dc3 pm3 cd3 ct3 oc4 kV4 dc4 pm4 cd4 ct4 oc5 kV5 dc5 pm5 cd5 ct5 oc6 kV6 dc6 pm6 cd6 ct6 oc7 kV7 dc7 pm7 cd7 ct7 oc8 kV8 dc8 pm8 cd8 ct8 oc9 kV9 dc9 pm9 cd9 ct9 oc10 kV10 dc10 pm10 cd10 ct10 oc11 kV11 dc11 pm11 cd11 ct11 oc12 kV12 dc12 pm12 cd12 ct12 oc13 kV13 dc13 pm13 cd13 ct13 oc14 kV14 dc14 pm14 cd14 ct14 oc15 kV15 dc15 pm15 cd15 ct15 oc16 kV16 dc16 pm16 cd16 ct16 oc17 kV17 dc17 pm17 cd17 ct17 oc18 kV18 dc18 pm18 cd18 ct18 oc19 kV19 dc19 pm19 cd19 ct19 oc20 kV20 dc20 pm20 cd20 ct20 oc21 kV21 dc21 pm21 cd21 ct21 oc22 kV22 dc22 pm22 cd22 ct22 oc23 kV23 dc23 pm23 cd23 ct23 oc24 kV24 dc24 pm24 cd24 ct24 oc25 kV25 dc25 pm25 cd25 ct25 oc26 kV26 dc26 pm26 cd26 ct26 oc27 kV27 dc27 pm27 cd27 ct27 oc28 kV28 dc28 pm28 cd28 ct28 oc29 kV29 dc29 pm29 cd29 ct29 oc30 kV30 dc30 pm30 cd30 ct30 oc31 kV31 dc31 pm31 cd31 ct31 oc32 kV32 dc32 pm32 cd32 ct32 oc33 kV33 dc33 pm33 cd33 ct33 oc34 kV34 dc34 pm34 cd34 ct34 oc35 kV35 dc35 pm35 cd35 ct35 oc36 kV36 dc36 pm36 cd36 ct36 : Value} {tS tM : Tok}
    (aC : PySem.W.nsIn K mainGlobals "Means" = some (some (.ref C)))
    (a1 : PySem.W.nsIn K mainGlobals "lowest" = some (some (.ref f1)))
    (l1 : K.lookup f1 = some ⟨oc1, od1, .func (PySem.W.fnOf "lowest" "lowest" (defArgs sLowest) (defBody sLowest) (defScope sLowest) .none kV1 dc1 pm1 an1 cd1 ct1), sl1⟩) (c1 : PySem.W.codeIn K cd1 "lowest" = true) (k1 : PySem.W.keepIn K (.ref f1) = true)
    (a2 : PySem.W.nsIn K mainGlobals "is_less" = some (some (.ref f2)))
    (l2 : K.lookup f2 = some ⟨oc2, od2, .func (PySem.W.fnOf "is_less" "is_less" (defArgs sLess) (defBody sLess) (defScope sLess) .none kV2 dc2 pm2 an2 cd2 ct2), sl2⟩) (c2 : PySem.W.codeIn K cd2 "is_less" = true) (k2 : PySem.W.keepIn K (.ref f2) = true)
    (a3 : PySem.W.nsIn K mainGlobals "is_integer" = some (some (.ref f3)))
    (l3 : K.lookup f3 = some ⟨oc3, od3, .func (PySem.W.fnOf "is_integer" "is_integer" (defArgs sIsInteger) (defBody sIsInteger) (defScope sIsInteger) .none kV3 dc3 pm3 an3 cd3 ct3), sl3⟩) (c3 : PySem.W.codeIn K cd3 "is_integer" = true) (k3 : PySem.W.keepIn K (.ref f3) = true)
    (a4 : PySem.W.nsIn K mainGlobals "is_list" = some (some (.ref f4)))
    (l4 : K.lookup f4 = some ⟨oc4, od4, .func (PySem.W.fnOf "is_list" "is_list" (defArgs sIsList) (defBody sIsList) (defScope sIsList) .none kV4 dc4 pm4 an4 cd4 ct4), sl4⟩) (c4 : PySem.W.codeIn K cd4 "is_list" = true) (k4 : PySem.W.keepIn K (.ref f4) = true)
    (a5 : PySem.W.nsIn K mainGlobals "is_name" = some (some (.ref f5)))
    (l5 : K.lookup f5 = some ⟨oc5, od5, .func (PySem.W.fnOf "is_name" "is_name" (defArgs sIsName) (defBody sIsName) (defScope sIsName) .none kV5 dc5 pm5 an5 cd5 ct5), sl5⟩) (c5 : PySem.W.codeIn K cd5 "is_name" = true) (k5 : PySem.W.keepIn K (.ref f5) = true)
    (a6 : PySem.W.nsIn K mainGlobals "is_step" = some (some (.ref f6)))
    (l6 : K.lookup f6 = some ⟨oc6, od6, .func (PySem.W.fnOf "is_step" "is_step" (defArgs sIsStep) (defBody sIsStep) (defScope sIsStep) .none kV6 dc6 pm6 an6 cd6 ct6), sl6⟩) (c6 : PySem.W.codeIn K cd6 "is_step" = true) (k6 : PySem.W.keepIn K (.ref f6) = true)
    (a7 : PySem.W.nsIn K mainGlobals "is_mean_place" = some (some (.ref f7)))
    (l7 : K.lookup f7 = some ⟨oc7, od7, .func (PySem.W.fnOf "is_mean_place" "is_mean_place" (defArgs sIsPlace) (defBody sIsPlace) (defScope sIsPlace) .none kV7 dc7 pm7 an7 cd7 ct7), sl7⟩) (c7 : PySem.W.codeIn K cd7 "is_mean_place" = true) (k7 : PySem.W.keepIn K (.ref f7) = true)
    (a8 : PySem.W.nsIn K mainGlobals "whole_plans" = some (some (.ref f8)))
    (l8 : K.lookup f8 = some ⟨oc8, od8, .func (PySem.W.fnOf "whole_plans" "whole_plans" (defArgs sPlans) (defBody sPlans) (defScope sPlans) .none kV8 dc8 pm8 an8 cd8 ct8), sl8⟩) (c8 : PySem.W.codeIn K cd8 "whole_plans" = true) (k8 : PySem.W.keepIn K (.ref f8) = true)
    (a9 : PySem.W.nsIn K mainGlobals "steps_kept" = some (some (.ref f9)))
    (l9 : K.lookup f9 = some ⟨oc9, od9, .func (PySem.W.fnOf "steps_kept" "steps_kept" (defArgs sKept) (defBody sKept) (defScope sKept) .none kV9 dc9 pm9 an9 cd9 ct9), sl9⟩) (c9 : PySem.W.codeIn K cd9 "steps_kept" = true) (k9 : PySem.W.keepIn K (.ref f9) = true)
    (a10 : PySem.W.nsIn K mainGlobals "walks" = some (some (.ref f10)))
    (l10 : K.lookup f10 = some ⟨oc10, od10, .func (PySem.W.fnOf "walks" "walks" (defArgs sWalks) (defBody sWalks) (defScope sWalks) .none kV10 dc10 pm10 an10 cd10 ct10), sl10⟩) (c10 : PySem.W.codeIn K cd10 "walks" = true) (k10 : PySem.W.keepIn K (.ref f10) = true)
    (a11 : PySem.W.nsIn K mainGlobals "least_round" = some (some (.ref f11)))
    (l11 : K.lookup f11 = some ⟨oc11, od11, .func (PySem.W.fnOf "least_round" "least_round" (defArgs sLeast) (defBody sLeast) (defScope sLeast) .none kV11 dc11 pm11 an11 cd11 ct11), sl11⟩) (c11 : PySem.W.codeIn K cd11 "least_round" = true) (k11 : PySem.W.keepIn K (.ref f11) = true)
    (a12 : PySem.W.nsIn K mainGlobals "plan_of_best" = some (some (.ref f12)))
    (l12 : K.lookup f12 = some ⟨oc12, od12, .func (PySem.W.fnOf "plan_of_best" "plan_of_best" (defArgs sBest) (defBody sBest) (defScope sBest) .none kV12 dc12 pm12 an12 cd12 ct12), sl12⟩) (c12 : PySem.W.codeIn K cd12 "plan_of_best" = true) (k12 : PySem.W.keepIn K (.ref f12) = true)
    (a13 : PySem.W.nsIn K mainGlobals "mean_worths" = some (some (.ref f13)))
    (l13 : K.lookup f13 = some ⟨oc13, od13, .func (PySem.W.fnOf "mean_worths" "mean_worths" (defArgs sWorths) (defBody sWorths) (defScope sWorths) .none kV13 dc13 pm13 an13 cd13 ct13), sl13⟩) (c13 : PySem.W.codeIn K cd13 "mean_worths" = true) (k13 : PySem.W.keepIn K (.ref f13) = true)
    (a14 : PySem.W.nsIn K mainGlobals "mean_worth" = some (some (.ref f14)))
    (l14 : K.lookup f14 = some ⟨oc14, od14, .func (PySem.W.fnOf "mean_worth" "mean_worth" (defArgs sWorth) (defBody sWorth) (defScope sWorth) .none kV14 dc14 pm14 an14 cd14 ct14), sl14⟩) (c14 : PySem.W.codeIn K cd14 "mean_worth" = true) (k14 : PySem.W.keepIn K (.ref f14) = true)
    (a15 : PySem.W.nsIn K mainGlobals "best_steps" = some (some (.ref f15)))
    (l15 : K.lookup f15 = some ⟨oc15, od15, .func (PySem.W.fnOf "best_steps" "best_steps" (defArgs sSteps) (defBody sSteps) (defScope sSteps) .none kV15 dc15 pm15 an15 cd15 ct15), sl15⟩) (c15 : PySem.W.codeIn K cd15 "best_steps" = true) (k15 : PySem.W.keepIn K (.ref f15) = true)
    (a16 : PySem.W.nsIn K mainGlobals "_law_t_lowest" = some (some (.ref f16)))
    (l16 : K.lookup f16 = some ⟨oc16, od16, .func (PySem.W.fnOf "_law_t_lowest" "_law_t_lowest" (defArgs sTLowest) (defBody sTLowest) (defScope sTLowest) .none kV16 dc16 pm16 an16 cd16 ct16), sl16⟩) (c16 : PySem.W.codeIn K cd16 "_law_t_lowest" = true) (k16 : PySem.W.keepIn K (.ref f16) = true)
    (a17 : PySem.W.nsIn K mainGlobals "_law_t_less" = some (some (.ref f17)))
    (l17 : K.lookup f17 = some ⟨oc17, od17, .func (PySem.W.fnOf "_law_t_less" "_law_t_less" (defArgs sTLess) (defBody sTLess) (defScope sTLess) .none kV17 dc17 pm17 an17 cd17 ct17), sl17⟩) (c17 : PySem.W.codeIn K cd17 "_law_t_less" = true) (k17 : PySem.W.keepIn K (.ref f17) = true)
    (a18 : PySem.W.nsIn K mainGlobals "_law_t_best" = some (some (.ref f18)))
    (l18 : K.lookup f18 = some ⟨oc18, od18, .func (PySem.W.fnOf "_law_t_best" "_law_t_best" (defArgs sTBest) (defBody sTBest) (defScope sTBest) .none kV18 dc18 pm18 an18 cd18 ct18), sl18⟩) (c18 : PySem.W.codeIn K cd18 "_law_t_best" = true) (k18 : PySem.W.keepIn K (.ref f18) = true)
    (a19 : PySem.W.nsIn K mainGlobals "_law_a_plan" = some (some (.ref f19)))
    (l19 : K.lookup f19 = some ⟨oc19, od19, .func (PySem.W.fnOf "_law_a_plan" "_law_a_plan" (defArgs sAPlan) (defBody sAPlan) (defScope sAPlan) .none kV19 dc19 pm19 an19 cd19 ct19), sl19⟩) (c19 : PySem.W.codeIn K cd19 "_law_a_plan" = true) (k19 : PySem.W.keepIn K (.ref f19) = true)
    (a20 : PySem.W.nsIn K mainGlobals "_law_a_plans" = some (some (.ref f20)))
    (l20 : K.lookup f20 = some ⟨oc20, od20, .func (PySem.W.fnOf "_law_a_plans" "_law_a_plans" (defArgs sAPlans) (defBody sAPlans) (defScope sAPlans) .none kV20 dc20 pm20 an20 cd20 ct20), sl20⟩) (c20 : PySem.W.codeIn K cd20 "_law_a_plans" = true) (k20 : PySem.W.keepIn K (.ref f20) = true)
    (a21 : PySem.W.nsIn K mainGlobals "_law_a_course" = some (some (.ref f21)))
    (l21 : K.lookup f21 = some ⟨oc21, od21, .func (PySem.W.fnOf "_law_a_course" "_law_a_course" (defArgs sACourse) (defBody sACourse) (defScope sACourse) .none kV21 dc21 pm21 an21 cd21 ct21), sl21⟩) (c21 : PySem.W.codeIn K cd21 "_law_a_course" = true) (k21 : PySem.W.keepIn K (.ref f21) = true)
    (a22 : PySem.W.nsIn K mainGlobals "_law_a_mean" = some (some (.ref f22)))
    (l22 : K.lookup f22 = some ⟨oc22, od22, .func (PySem.W.fnOf "_law_a_mean" "_law_a_mean" (defArgs sAMean) (defBody sAMean) (defScope sAMean) .none kV22 dc22 pm22 an22 cd22 ct22), sl22⟩) (c22 : PySem.W.codeIn K cd22 "_law_a_mean" = true) (k22 : PySem.W.keepIn K (.ref f22) = true)
    (a23 : PySem.W.nsIn K mainGlobals "_law_a_worths" = some (some (.ref f23)))
    (l23 : K.lookup f23 = some ⟨oc23, od23, .func (PySem.W.fnOf "_law_a_worths" "_law_a_worths" (defArgs sAWorths) (defBody sAWorths) (defScope sAWorths) .none kV23 dc23 pm23 an23 cd23 ct23), sl23⟩) (c23 : PySem.W.codeIn K cd23 "_law_a_worths" = true) (k23 : PySem.W.keepIn K (.ref f23) = true)
    (a24 : PySem.W.nsIn K mainGlobals "_law_a_ring" = some (some (.ref f24)))
    (l24 : K.lookup f24 = some ⟨oc24, od24, .func (PySem.W.fnOf "_law_a_ring" "_law_a_ring" (defArgs sARing) (defBody sARing) (defScope sARing) .none kV24 dc24 pm24 an24 cd24 ct24), sl24⟩) (c24 : PySem.W.codeIn K cd24 "_law_a_ring" = true) (k24 : PySem.W.keepIn K (.ref f24) = true)
    (a25 : PySem.W.nsIn K mainGlobals "_law_start" = some (some (.ref f25)))
    (l25 : K.lookup f25 = some ⟨oc25, od25, .func (PySem.W.fnOf "_law_start" "_law_start" (defArgs sStart) (defBody sStart) (defScope sStart) .none kV25 dc25 pm25 an25 cd25 ct25), sl25⟩) (c25 : PySem.W.codeIn K cd25 "_law_start" = true) (k25 : PySem.W.keepIn K (.ref f25) = true)
    (a26 : PySem.W.nsIn K mainGlobals "_law_draw" = some (some (.ref f26)))
    (l26 : K.lookup f26 = some ⟨oc26, od26, .func (PySem.W.fnOf "_law_draw" "_law_draw" (defArgs sDraw) (defBody sDraw) (defScope sDraw) .none kV26 dc26 pm26 an26 cd26 ct26), sl26⟩) (c26 : PySem.W.codeIn K cd26 "_law_draw" = true) (k26 : PySem.W.keepIn K (.ref f26) = true)
    (a27 : PySem.W.nsIn K mainGlobals "_law_pick" = some (some (.ref f27)))
    (l27 : K.lookup f27 = some ⟨oc27, od27, .func (PySem.W.fnOf "_law_pick" "_law_pick" (defArgs sPick) (defBody sPick) (defScope sPick) .none kV27 dc27 pm27 an27 cd27 ct27), sl27⟩) (c27 : PySem.W.codeIn K cd27 "_law_pick" = true) (k27 : PySem.W.keepIn K (.ref f27) = true)
    (a28 : PySem.W.nsIn K mainGlobals "_law_mixed" = some (some (.ref f28)))
    (l28 : K.lookup f28 = some ⟨oc28, od28, .func (PySem.W.fnOf "_law_mixed" "_law_mixed" (defArgs sMixed) (defBody sMixed) (defScope sMixed) .none kV28 dc28 pm28 an28 cd28 ct28), sl28⟩) (c28 : PySem.W.codeIn K cd28 "_law_mixed" = true) (k28 : PySem.W.keepIn K (.ref f28) = true)
    (a29 : PySem.W.nsIn K mainGlobals "_law_same" = some (some (.ref f29)))
    (l29 : K.lookup f29 = some ⟨oc29, od29, .func (PySem.W.fnOf "_law_same" "_law_same" (defArgs sSame) (defBody sSame) (defScope sSame) .none kV29 dc29 pm29 an29 cd29 ct29), sl29⟩) (c29 : PySem.W.codeIn K cd29 "_law_same" = true) (k29 : PySem.W.keepIn K (.ref f29) = true)
    (a30 : PySem.W.nsIn K mainGlobals "_law_name" = some (some (.ref f30)))
    (l30 : K.lookup f30 = some ⟨oc30, od30, .func (PySem.W.fnOf "_law_name" "_law_name" (defArgs sName) (defBody sName) (defScope sName) .none kV30 dc30 pm30 an30 cd30 ct30), sl30⟩) (c30 : PySem.W.codeIn K cd30 "_law_name" = true) (k30 : PySem.W.keepIn K (.ref f30) = true)
    (a31 : PySem.W.nsIn K mainGlobals "_law_names" = some (some (.ref f31)))
    (l31 : K.lookup f31 = some ⟨oc31, od31, .func (PySem.W.fnOf "_law_names" "_law_names" (defArgs sNames) (defBody sNames) (defScope sNames) .none kV31 dc31 pm31 an31 cd31 ct31), sl31⟩) (c31 : PySem.W.codeIn K cd31 "_law_names" = true) (k31 : PySem.W.keepIn K (.ref f31) = true)
    (a32 : PySem.W.nsIn K mainGlobals "law" = some (some (.ref f32)))
    (l32 : K.lookup f32 = some ⟨oc32, od32, .func (PySem.W.fnOf "law" "law" (defArgs sLaw) (defBody sLaw) (defScope sLaw) .none kV32 dc32 pm32 an32 cd32 ct32), sl32⟩) (c32 : PySem.W.codeIn K cd32 "law" = true) (k32 : PySem.W.keepIn K (.ref f32) = true)
    (a33 : PySem.W.findIn K (.ref C) "__init__" = some (some (.ref f33))) (i33 : PySem.W.isFn K (.ref f33) = true)
    (l33 : K.lookup f33 = some ⟨oc33, od33, .func (PySem.W.fnOf "__init__" "Means.__init__" (defArgs sInit) (defBody sInit) (defScope sInit) .none kV33 dc33 pm33 an33 cd33 ct33), sl33⟩) (c33 : PySem.W.codeIn K cd33 "Means.__init__" = true) (k33 : PySem.W.keepIn K (.ref f33) = true)
    (a34 : PySem.W.findIn K (.ref C) "places" = some (some (.ref f34))) (i34 : PySem.W.isFn K (.ref f34) = true)
    (l34 : K.lookup f34 = some ⟨oc34, od34, .func (PySem.W.fnOf "places" "Means.places" (defArgs sPlaces) (defBody sPlaces) (defScope sPlaces) .none kV34 dc34 pm34 an34 cd34 ct34), sl34⟩) (c34 : PySem.W.codeIn K cd34 "Means.places" = true) (k34 : PySem.W.keepIn K (.ref f34) = true)
    (a35 : PySem.W.findIn K (.ref C) "check_place" = some (some (.ref f35))) (i35 : PySem.W.isFn K (.ref f35) = true)
    (l35 : K.lookup f35 = some ⟨oc35, od35, .func (PySem.W.fnOf "check_place" "Means.check_place" (defArgs sCheck) (defBody sCheck) (defScope sCheck) .none kV35 dc35 pm35 an35 cd35 ct35), sl35⟩) (c35 : PySem.W.codeIn K cd35 "Means.check_place" = true) (k35 : PySem.W.keepIn K (.ref f35) = true)
    (a36 : PySem.W.findIn K (.ref C) "__eq__" = some (some (.ref f36))) (i36 : PySem.W.isFn K (.ref f36) = true)
    (l36 : K.lookup f36 = some ⟨oc36, od36, .func (PySem.W.fnOf "__eq__" "Means.__eq__" (defArgs sEq) (defBody sEq) (defScope sEq) .none kV36 dc36 pm36 an36 cd36 ct36), sl36⟩) (c36 : PySem.W.codeIn K cd36 "Means.__eq__" = true) (k36 : PySem.W.keepIn K (.ref f36) = true)
    (pg : PySem.W.plainGet K C Str.empty = true) (hd : PySem.W.hasDictIn K C = true) (po : PySem.W.plainOver K C = true) (sa : PySem.W.findIn K (.ref C) "__setattr__" = some (some (.builtin "object.__setattr__"))) (mk : PySem.W.makesIn K C = true) (kc : PySem.W.keepIn K (.ref C) = true) (nT : PySem.W.findIn K (.ref C) "place_table" = some none)
    (x1 : PySem.W.findIn K (.ref C) "__class__" = some (some (.builtin "object.__class__"))) (x2 : PySem.W.specialIn K (.builtin "object.__class__") "__get__" = some (some (.builtin "getset_descriptor.__get__"))) (x3 : PySem.W.takesIn K (.builtin "object.__class__") = some true) (x4 : PySem.W.mroIn K C (.type "object") = some true) (x5 : PySem.W.findIn K (.ref C) "__ne__" = some (some (.builtin "object.__ne__")))
    (y1 : PySem.W.nsIn K mainGlobals "SIGNS" = some (some (.str signs tS))) (y2 : PySem.W.nsIn K mainGlobals "MOST_SIGNS" = some (some (.int 60 tM)))
    (z1 : PySem.W.nsIn K mainGlobals "abs" = some none)
    (z2 : PySem.W.nsIn K mainGlobals "len" = some none)
    (z3 : PySem.W.nsIn K mainGlobals "range" = some none)
    (z4 : PySem.W.nsIn K mainGlobals "list" = some none)
    (z5 : PySem.W.nsIn K mainGlobals "dict" = some none)
    (z6 : PySem.W.nsIn K mainGlobals "tuple" = some none)
    (z7 : PySem.W.nsIn K mainGlobals "isinstance" = some none)
    (z8 : PySem.W.nsIn K mainGlobals "all" = some none)
    (z9 : PySem.W.nsIn K mainGlobals "int" = some none)
    (z10 : PySem.W.nsIn K mainGlobals "bool" = some none)
    (z11 : PySem.W.nsIn K mainGlobals "str" = some none)
    (z12 : PySem.W.nsIn K mainGlobals "zip" = some none)
    (z13 : PySem.W.nsIn K mainGlobals "sum" = some none)
    : ∃ fd : FuncData, (∀ (s : Shared) (v : Value), BindsTo s fd ⟨[v], []⟩ [("_law_script", v)]) ∧ ∀ base : Heap, K.In base → base.Ns mainGlobals mg → FnOk l.prog w K mg base CX0 6 fa fd ["_law_script"] (spLaw K) := by
  have e := hfa.symm.trans (PySem.W.mg_of X G a32)
  cases e
  have F1 := fun_mk (st := sLowest) l1 c1 k1
  have b1 := F1.binds (ps := ["top", "bottom"]) fun _ _ _ _ _ _ us hl => match us, hl with | [_, _], _ => rfl
  have F2 := fun_mk (st := sLess) l2 c2 k2
  have b2 := F2.binds (ps := ["one", "other"]) fun _ _ _ _ _ _ us hl => match us, hl with | [_, _], _ => rfl
  have F3 := fun_mk (st := sIsInteger) l3 c3 k3
  have b3 := F3.binds (ps := ["thing"]) fun _ _ _ _ _ _ us hl => match us, hl with | [_], _ => rfl
  have F4 := fun_mk (st := sIsList) l4 c4 k4
  have b4 := F4.binds (ps := ["thing"]) fun _ _ _ _ _ _ us hl => match us, hl with | [_], _ => rfl
  have F5 := fun_mk (st := sIsName) l5 c5 k5
  have b5 := F5.binds (ps := ["thing"]) fun _ _ _ _ _ _ us hl => match us, hl with | [_], _ => rfl
  have F6 := fun_mk (st := sIsStep) l6 c6 k6
  have b6 := F6.binds (ps := ["thing", "names"]) fun _ _ _ _ _ _ us hl => match us, hl with | [_, _], _ => rfl
  have F7 := fun_mk (st := sIsPlace) l7 c7 k7
  have b7 := F7.binds (ps := ["thing", "names"]) fun _ _ _ _ _ _ us hl => match us, hl with | [_, _], _ => rfl
  have F8 := fun_mk (st := sPlans) l8 c8 k8
  have b8 := F8.binds (ps := ["means", "side"]) fun _ _ _ _ _ _ us hl => match us, hl with | [_, _], _ => rfl
  have F9 := fun_mk (st := sKept) l9 c9 k9
  have b9 := F9.binds (ps := ["means", "side", "plan"]) fun _ _ _ _ _ _ us hl => match us, hl with | [_, _, _], _ => rfl
  have F10 := fun_mk (st := sWalks) l10 c10 k10
  have b10 := F10.binds (ps := ["steps", "name"]) fun _ _ _ _ _ _ us hl => match us, hl with | [_, _], _ => rfl
  have F11 := fun_mk (st := sLeast) l11 c11 k11
  have b11 := F11.binds (ps := ["steps", "name"]) fun _ _ _ _ _ _ us hl => match us, hl with | [_, _], _ => rfl
  have F12 := fun_mk (st := sBest) l12 c12 k12
  have b12 := F12.binds (ps := ["means"]) fun _ _ _ _ _ _ us hl => match us, hl with | [_], _ => rfl
  have F13 := fun_mk (st := sWorths) l13 c13 k13
  have b13 := F13.binds (ps := ["means"]) fun _ _ _ _ _ _ us hl => match us, hl with | [_], _ => rfl
  have F14 := fun_mk (st := sWorth) l14 c14 k14
  have b14 := F14.binds (ps := ["means", "name"]) fun _ _ _ _ _ _ us hl => match us, hl with | [_, _], _ => rfl
  have F15 := fun_mk (st := sSteps) l15 c15 k15
  have b15 := F15.binds (ps := ["means", "name"]) fun _ _ _ _ _ _ us hl => match us, hl with | [_, _], _ => rfl
  have F16 := fun_mk (st := sTLowest) l16 c16 k16
  have b16 := F16.binds (ps := ["_law_top", "_law_bottom"]) fun _ _ _ _ _ _ us hl => match us, hl with | [_, _], _ => rfl
  have F17 := fun_mk (st := sTLess) l17 c17 k17
  have b17 := F17.binds (ps := ["_law_one", "_law_other"]) fun _ _ _ _ _ _ us hl => match us, hl with | [_, _], _ => rfl
  have F18 := fun_mk (st := sTBest) l18 c18 k18
  have b18 := F18.binds (ps := ["_law_some", "_law_is_ours"]) fun _ _ _ _ _ _ us hl => match us, hl with | [_, _], _ => rfl
  have F19 := fun_mk (st := sAPlan) l19 c19 k19
  have b19 := F19.binds (ps := ["_law_stream", "_law_many", "_law_moves", "_law_wide"]) fun _ _ _ _ _ _ us hl => match us, hl with | [_, _, _, _], _ => rfl
  have F20 := fun_mk (st := sAPlans) l20 c20 k20
  have b20 := F20.binds (ps := ["_law_plan", "_law_side"]) fun _ _ _ _ _ _ us hl => match us, hl with | [_, _], _ => rfl
  have F21 := fun_mk (st := sACourse) l21 c21 k21
  have b21 := F21.binds (ps := ["_law_plan", "_law_both", "_law_name_here"]) fun _ _ _ _ _ _ us hl => match us, hl with | [_, _, _], _ => rfl
  have F22 := fun_mk (st := sAMean) l22 c22 k22
  have b22 := F22.binds (ps := ["_law_plan", "_law_steps"]) fun _ _ _ _ _ _ us hl => match us, hl with | [_, _], _ => rfl
  have F23 := fun_mk (st := sAWorths) l23 c23 k23
  have b23 := F23.binds (ps := ["_law_plan", "_law_first", "_law_second"]) fun _ _ _ _ _ _ us hl => match us, hl with | [_, _, _], _ => rfl
  have F24 := fun_mk (st := sARing) l24 c24 k24
  have b24 := F24.binds (ps := ["_law_is_turned"]) fun _ _ _ _ _ _ us hl => match us, hl with | [_], _ => rfl
  have F25 := fun_mk (st := sStart) l25 c25 k25
  have b25 := F25.binds (ps := ["_law_script"]) fun _ _ _ _ _ _ us hl => match us, hl with | [_], _ => rfl
  have F26 := fun_mk (st := sDraw) l26 c26 k26
  have b26 := F26.binds (ps := ["_law_stream", "_law_many"]) fun _ _ _ _ _ _ us hl => match us, hl with | [_, _], _ => rfl
  have F27 := fun_mk (st := sPick) l27 c27 k27
  have b27 := F27.binds (ps := ["_law_stream", "_law_some"]) fun _ _ _ _ _ _ us hl => match us, hl with | [_, _], _ => rfl
  have F28 := fun_mk (st := sMixed) l28 c28 k28
  have b28 := F28.binds (ps := ["_law_stream", "_law_some"]) fun _ _ _ _ _ _ us hl => match us, hl with | [_, _], _ => rfl
  have F29 := fun_mk (st := sSame) l29 c29 k29
  have b29 := F29.binds (ps := ["_law_found", "_law_due"]) fun _ _ _ _ _ _ us hl => match us, hl with | [_, _], _ => rfl
  have F30 := fun_mk (st := sName) l30 c30 k30
  have b30 := F30.binds (ps := ["_law_stream"]) fun _ _ _ _ _ _ us hl => match us, hl with | [_], _ => rfl
  have F31 := fun_mk (st := sNames) l31 c31 k31
  have b31 := F31.binds (ps := ["_law_stream", "_law_many"]) fun _ _ _ _ _ _ us hl => match us, hl with | [_, _], _ => rfl
  have F32 := fun_mk (st := sLaw) l32 c32 k32
  have F33 := fun_mk (st := sInit) l33 c33 k33
  have b33 := F33.binds (ps := ["self", "places"]) fun _ _ _ _ _ _ us hl => match us, hl with | [_, _], _ => rfl
  have F34 := fun_mk (st := sPlaces) l34 c34 k34
  have b34 := F34.binds (ps := ["self"]) fun _ _ _ _ _ _ us hl => match us, hl with | [_], _ => rfl
  have F35 := fun_mk (st := sCheck) l35 c35 k35
  have b35 := F35.binds (ps := ["self", "name"]) fun _ _ _ _ _ _ us hl => match us, hl with | [_, _], _ => rfl
  have F36 := fun_mk (st := sEq) l36 c36 k36
  have b36 := F36.binds (ps := ["self", "other"]) fun _ _ _ _ _ _ us hl => match us, hl with | [_, _], _ => rfl
  have B : Blt mg := ⟨PySem.W.mg_none_of X G z1, PySem.W.mg_none_of X G z2, PySem.W.mg_none_of X G z3, PySem.W.mg_none_of X G z4, PySem.W.mg_none_of X G z5, PySem.W.mg_none_of X G z6, PySem.W.mg_none_of X G z7, PySem.W.mg_none_of X G z8, PySem.W.mg_none_of X G z9, PySem.W.mg_none_of X G z10, PySem.W.mg_none_of X G z11, PySem.W.mg_none_of X G z12, PySem.W.mg_none_of X G z13⟩
  have M : Mcl K mg C := ⟨⟨pg, hd, po, sa⟩, nT, PySem.W.mg_of X G aC⟩
  let ds : DS K mg := ⟨⟨f26, _, F26, b26, PySem.W.mg_of X G a26⟩, ⟨f27, _, F27, b27, PySem.W.mg_of X G a27⟩, ⟨f28, _, F28, b28, PySem.W.mg_of X G a28⟩, ⟨f30, _, F30, b30, PySem.W.mg_of X G a30⟩, ⟨f31, _, F31, b31, PySem.W.mg_of X G a31⟩⟩
  let da : DA K mg := ⟨⟨f20, _, F20, b20, PySem.W.mg_of X G a20⟩, ⟨f21, _, F21, b21, PySem.W.mg_of X G a21⟩, ⟨f22, _, F22, b22, PySem.W.mg_of X G a22⟩, ⟨f16, _, F16, b16, PySem.W.mg_of X G a16⟩, ⟨f18, _, F18, b18, PySem.W.mg_of X G a18⟩, ⟨f17, _, F17, b17, PySem.W.mg_of X G a17⟩, ⟨f23, _, F23, b23, PySem.W.mg_of X G a23⟩⟩
  let db : DB K mg C := ⟨⟨f12, _, F12, b12, PySem.W.mg_of X G a12⟩, ⟨f8, _, F8, b8, PySem.W.mg_of X G a8⟩, ⟨f9, _, F9, b9, PySem.W.mg_of X G a9⟩, ⟨f11, _, F11, b11, PySem.W.mg_of X G a11⟩, ⟨f2, _, F2, b2, PySem.W.mg_of X G a2⟩, ⟨f34, _, F34, b34, ⟨a34, i34, k34⟩⟩, ⟨f10, _, F10, b10, PySem.W.mg_of X G a10⟩, ⟨f1, _, F1, b1, PySem.W.mg_of X G a1⟩, ⟨f13, _, F13, b13, PySem.W.mg_of X G a13⟩, ⟨f35, _, F35, b35, ⟨a35, i35, k35⟩⟩⟩
  let A0 : All K mg C := ⟨ds, da, db, ⟨f19, _, F19, b19, PySem.W.mg_of X G a19⟩, ⟨f25, _, F25, b25, PySem.W.mg_of X G a25⟩, ⟨f24, _, F24, b24, PySem.W.mg_of X G a24⟩, ⟨f29, _, F29, b29, PySem.W.mg_of X G a29⟩, ⟨f14, _, F14, b14, PySem.W.mg_of X G a14⟩, ⟨f15, _, F15, b15, PySem.W.mg_of X G a15⟩, ⟨f33, _, F33, b33, ⟨a33, i33, k33⟩⟩, ⟨f36, _, F36, b36, ⟨a36, i36, k36⟩⟩, ⟨f7, _, F7, b7, PySem.W.mg_of X G a7⟩, ⟨f6, _, F6, b6, PySem.W.mg_of X G a6⟩, ⟨f4, _, F4, b4, PySem.W.mg_of X G a4⟩, ⟨f3, _, F3, b3, PySem.W.mg_of X G a3⟩, ⟨f5, _, F5, b5, PySem.W.mg_of X G a5⟩, M, ⟨x1, x2, x3, x4, a36, i36, x5⟩, ⟨mk, a33, i33, kc⟩, ⟨⟨_, PySem.W.mg_of X G y1⟩, ⟨_, PySem.W.mg_of X G y2⟩⟩, B⟩
  exact ⟨PySem.W.fnOf "law" "law" (defArgs sLaw) (defBody sLaw) (defScope sLaw) .none kV32 dc32 pm32 an32 cd32 ct32, fun s v => .of_eq rfl, fun base _ _ => ok_law F32 A0⟩
theorem walk {l : PySem.W.OpenLaw} {q : Program} {loose : List Str} {XP : (Str → Option Value) → Heap → Prop} {YP : World → Heap → Prop} {d : DefRec} {K : Params → PySem.W.Frag} (hn : l.most = some 63) (hdf : d.params.defaults = [])
    (hY : ∀ (w : World) (h : Heap), YP w h → (K w.params).In h)
    (F : ∀ (w : World) (mg : Str → Option Value) (fa : Addr) (h : Heap), (K w.params).In h → h.Ns mainGlobals mg → mg d.name = some (.ref fa) →
      ∃ fd : FuncData, (∀ (s : Shared) (u : Value), BindsTo s fd ⟨[u], []⟩ [("_law_script", u)]) ∧ ∀ base : Heap, (K w.params).In base → base.Ns mainGlobals mg → FnOk l.prog w (K w.params) mg base CX0 6 fa fd ["_law_script"] (spLaw (K w.params))) :
    PySem.W.WalkO q loose XP YP l.row.toRowW d [] (fun f vs => PySem.call f vs) :=
  L2.walk_of (n := 63) (k := 6) (x := "_law_script") (CX := fun _ => CX0) (sp := fun w => spLaw (K w.params)) hn (by decide) hdf ⟨rfl, by decide, by decide⟩ hY F (fun _ _ a ns _ _ hS => ⟨a, ns, rfl, hS, fun _ => rfl⟩) fun _ _ _ _ _ z => z
end Gw

set_option Elab.async false
set_option linter.all false
set_option maxRecDepth 100000
open PySem PySem.W PyProof.Rows
set_option maxRecDepth 100000 in
set_option maxHeartbeats 0 in
theorem PySem.Challenge.cw_gameworths_k34_whole_mean_worths_holds : PySem.Challenge.rw_gameworths_k34_whole_mean_worths.Holds := by
  w_on; o_law; k_head; (case hw => w_witness2)
  k_fill
  refine Gw.walk (l := PySem.Challenge.rw_gameworths_k34_whole_mean_worths) rfl rfl (fun w h Y => PySem.W.kIn_of Y) ?F
  case F =>
    intro w mg fa h KX G hmg
    refine' Gw.all_mk KX G hmg ?aC ?a1 ?l1 ?c1 ?k1 ?a2 ?l2 ?c2 ?k2 ?a3 ?l3 ?c3 ?k3 ?a4 ?l4 ?c4 ?k4 ?a5 ?l5 ?c5 ?k5 ?a6 ?l6 ?c6 ?k6 ?a7 ?l7 ?c7 ?k7 ?a8 ?l8 ?c8 ?k8 ?a9 ?l9 ?c9 ?k9 ?a10 ?l10 ?c10 ?k10 ?a11 ?l11 ?c11 ?k11 ?a12 ?l12 ?c12 ?k12 ?a13 ?l13 ?c13 ?k13 ?a14 ?l14 ?c14 ?k14 ?a15 ?l15 ?c15 ?k15 ?a16 ?l16 ?c16 ?k16 ?a17 ?l17 ?c17 ?k17 ?a18 ?l18 ?c18 ?k18 ?a19 ?l19 ?c19 ?k19 ?a20 ?l20 ?c20 ?k20 ?a21 ?l21 ?c21 ?k21 ?a22 ?l22 ?c22 ?k22 ?a23 ?l23 ?c23 ?k23 ?a24 ?l24 ?c24 ?k24 ?a25 ?l25 ?c25 ?k25 ?a26 ?l26 ?c26 ?k26 ?a27 ?l27 ?c27 ?k27 ?a28 ?l28 ?c28 ?k28 ?a29 ?l29 ?c29 ?k29 ?a30 ?l30 ?c30 ?k30 ?a31 ?l31 ?c31 ?k31 ?a32 ?l32 ?c32 ?k32 ?a33 ?i33 ?l33 ?c33 ?k33 ?a34 ?i34 ?l34 ?c34 ?k34 ?a35 ?i35 ?l35 ?c35 ?k35 ?a36 ?i36 ?l36 ?c36 ?k36 ?pg ?hd ?po ?sa ?mk ?kc ?nT ?x1 ?x2 ?x3 ?x4 ?x5 ?y1 ?y2 ?z1 ?z2 ?z3 ?z4 ?z5 ?z6 ?z7 ?z8 ?z9 ?z10 ?z11 ?z12 ?z13
    (case aC => k_is); (case a1 => k_is); (case l1 => k_is); (case c1 => k_is); (case k1 => k_is); (case a2 => k_is); (case l2 => k_is); (case c2 => k_is)
    (case k2 => k_is); (case a3 => k_is); (case l3 => k_is); (case c3 => k_is); (case k3 => k_is); (case a4 => k_is); (case l4 => k_is); (case c4 => k_is)
    (case k4 => k_is); (case a5 => k_is); (case l5 => k_is); (case c5 => k_is); (case k5 => k_is); (case a6 => k_is); (case l6 => k_is); (case c6 => k_is)
    (case k6 => k_is); (case a7 => k_is); (case l7 => k_is); (case c7 => k_is); (case k7 => k_is); (case a8 => k_is); (case l8 => k_is); (case c8 => k_is)
    (case k8 => k_is); (case a9 => k_is); (case l9 => k_is); (case c9 => k_is); (case k9 => k_is); (case a10 => k_is); (case l10 => k_is); (case c10 => k_is)
    (case k10 => k_is); (case a11 => k_is); (case l11 => k_is); (case c11 => k_is); (case k11 => k_is); (case a12 => k_is); (case l12 => k_is); (case c12 => k_is)
    (case k12 => k_is); (case a13 => k_is); (case l13 => k_is); (case c13 => k_is); (case k13 => k_is); (case a14 => k_is); (case l14 => k_is); (case c14 => k_is)
    (case k14 => k_is); (case a15 => k_is); (case l15 => k_is); (case c15 => k_is); (case k15 => k_is); (case a16 => k_is); (case l16 => k_is); (case c16 => k_is)
    (case k16 => k_is); (case a17 => k_is); (case l17 => k_is); (case c17 => k_is); (case k17 => k_is); (case a18 => k_is); (case l18 => k_is); (case c18 => k_is)
    (case k18 => k_is); (case a19 => k_is); (case l19 => k_is); (case c19 => k_is); (case k19 => k_is); (case a20 => k_is); (case l20 => k_is); (case c20 => k_is)
    (case k20 => k_is); (case a21 => k_is); (case l21 => k_is); (case c21 => k_is); (case k21 => k_is); (case a22 => k_is); (case l22 => k_is); (case c22 => k_is)
    (case k22 => k_is); (case a23 => k_is); (case l23 => k_is); (case c23 => k_is); (case k23 => k_is); (case a24 => k_is); (case l24 => k_is); (case c24 => k_is)
    (case k24 => k_is); (case a25 => k_is); (case l25 => k_is); (case c25 => k_is); (case k25 => k_is); (case a26 => k_is); (case l26 => k_is); (case c26 => k_is)
    (case k26 => k_is); (case a27 => k_is); (case l27 => k_is); (case c27 => k_is); (case k27 => k_is); (case a28 => k_is); (case l28 => k_is); (case c28 => k_is)
    (case k28 => k_is); (case a29 => k_is); (case l29 => k_is); (case c29 => k_is); (case k29 => k_is); (case a30 => k_is); (case l30 => k_is); (case c30 => k_is)
    (case k30 => k_is); (case a31 => k_is); (case l31 => k_is); (case c31 => k_is); (case k31 => k_is); (case a32 => k_is); (case l32 => k_is); (case c32 => k_is)
    (case k32 => k_is); (case a33 => k_is); (case i33 => k_is); (case l33 => k_is); (case c33 => k_is); (case k33 => k_is); (case a34 => k_is); (case i34 => k_is)
    (case l34 => k_is); (case c34 => k_is); (case k34 => k_is); (case a35 => k_is); (case i35 => k_is); (case l35 => k_is); (case c35 => k_is); (case k35 => k_is)
    (case a36 => k_is); (case i36 => k_is); (case l36 => k_is); (case c36 => k_is); (case k36 => k_is); (case pg => k_is); (case hd => k_is); (case po => k_is)
    (case sa => k_is); (case mk => k_is); (case kc => k_is); (case nT => k_is); (case x1 => k_is); (case x2 => k_is); (case x3 => k_is); (case x4 => k_is)
    (case x5 => k_is); (case y1 => k_is); (case y2 => k_is); (case z1 => k_is); (case z2 => k_is); (case z3 => k_is); (case z4 => k_is); (case z5 => k_is)
    (case z6 => k_is); (case z7 => k_is); (case z8 => k_is); (case z9 => k_is); (case z10 => k_is); (case z11 => k_is); (case z12 => k_is); (case z13 => k_is)
#print axioms PySem.Challenge.cw_gameworths_k34_whole_mean_worths_holds

