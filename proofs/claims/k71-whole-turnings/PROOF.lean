import PyProof.Rows.All
import Wide.All
import OpenK.AllK
import Wide.FinOn
import HandS.ForMost
import HandS.IsInst
import HandS.Rev
import HandS.Style
import KE.SortData
import KE.DataCmp
import KE.DataMinMax
import HandS.TupAny
import HandS.SortInts
import HandS.Conv
import HandS.SetFor
import HandS.Strs
import PySem.Challenge.RW_meankept_k71_whole_turnings
/-! ## Bound1 -/
namespace K71
abbrev Row := List Int
/-- a row undone -/
def inv (w : Row) : Row := (w.map (fun x => -x)).reverse
abbrev Vec := Nat → Int → Bool
def vec (w : Row) : Vec := fun s a => decide (w[s]? = some a)
def add (x y : Vec) : Vec := fun s a => xor (x s a) (y s a)
def zero : Vec := fun _ _ => false
def cut (m : Nat) (z : Vec) : Vec := fun s a => if s < m then z s a else false
def rho (l : Nat) (z : Vec) : Vec := fun s a => if s < l then z (l - 1 - s) (-a) else false
def fold (m : Nat) (z : Vec) : Vec := cut m (add z (rho (2 * m) z))
def sup (m : Nat) (z : Vec) : Prop := ∀ s a, m ≤ s → z s a = false

theorem add_zero (x : Vec) : add x zero = x := by funext s a; simp [add, zero]
theorem zero_add (x : Vec) : add zero x = x := by funext s a; simp [add, zero]
theorem add_self (x : Vec) : add x x = zero := by funext s a; simp [add, zero]
theorem add_comm (x y : Vec) : add x y = add y x := by funext s a; simp [add, Bool.xor_comm]
theorem add_assoc (x y z : Vec) : add (add x y) z = add x (add y z) := by funext s a; simp [add]
theorem add_left_comm (x y z : Vec) : add x (add y z) = add y (add x z) := by
  rw [← add_assoc, add_comm x y, add_assoc]

theorem inv_length (w : Row) : (inv w).length = w.length := by simp [inv]
theorem inv_inv (w : Row) : inv (inv w) = w := by
  induction w with
  | nil => rfl
  | cons a w ih =>
    simp only [inv, List.map_cons, List.reverse_cons, List.map_append, List.reverse_append, List.map_reverse, List.reverse_reverse, List.map_map, List.map_nil, List.reverse_nil, List.nil_append, List.singleton_append, Int.neg_neg] at ih ⊢
    rw [ih]
theorem inv_append (a b : Row) : inv (a ++ b) = inv b ++ inv a := by simp [inv]

theorem vec_inj {x y : Row} (h : vec x = vec y) : x = y := by
  apply List.ext_getElem?
  intro s
  have hs : ∀ a, (x[s]? = some a) ↔ (y[s]? = some a) := by
    intro a
    have := congrFun (congrFun h s) a
    simp only [vec, decide_eq_decide] at this
    exact this
  cases hx : x[s]? with
  | none =>
    cases hy : y[s]? with
    | none => rfl
    | some b => have := (hs b).2 hy; rw [hx] at this; cases this
  | some a => exact ((hs a).1 hx).symm

theorem vec_out (w : Row) {s : Nat} (a : Int) (h : w.length ≤ s) : vec w s a = false := by
  simp [vec, List.getElem?_eq_none h]

theorem vec_inv (w : Row) : vec (inv w) = rho w.length (vec w) := by
  funext s a
  by_cases h : s < w.length
  · have h1 : w.length - 1 - s < w.length := by omega
    have h2 : (inv w)[s]? = (w[w.length - 1 - s]?).map (fun x => -x) := by
      unfold inv
      rw [List.getElem?_reverse (by simpa using h), List.getElem?_map]
      simp only [List.length_map]
    have h3 : ((inv w)[s]? = some a) ↔ (w[w.length - 1 - s]? = some (-a)) := by
      rw [h2, List.getElem?_eq_getElem h1]
      simp only [Option.map_some, Option.some.injEq]
      omega
    show decide _ = if s < w.length then decide _ else false
    rw [if_pos h]
    exact decide_eq_decide.2 h3
  · rw [vec_out _ _ (by rw [inv_length]; omega)]
    simp [rho, h]

theorem vec_append (p b : Row) (s : Nat) (a : Int) :
    vec (p ++ b) s a = if s < p.length then vec p s a else vec b (s - p.length) a := by
  by_cases h : s < p.length
  · simp [vec, h, List.getElem?_append_left h]
  · simp [vec, h, List.getElem?_append_right (Nat.le_of_not_lt h)]

theorem vec_take (m : Nat) (w : Row) : vec (w.take m) = cut m (vec w) := by
  funext s a
  by_cases h : s < m
  · simp [vec, cut, h, List.getElem?_take]
  · simp [vec, cut, h, List.getElem?_take]

theorem vec_swap {p q : Row} (b : Row) (h : p.length = q.length) :
    vec (q ++ b) = add (vec (p ++ b)) (add (vec p) (vec q)) := by
  funext s a
  simp only [add, vec_append, ← h]
  by_cases hs : s < p.length
  · simp only [hs, if_true]
    cases vec p s a <;> cases vec q s a <;> rfl
  · have h1 := vec_out p a (Nat.le_of_not_lt hs)
    have h2 := vec_out q a (by omega : q.length ≤ s)
    simp only [hs, if_false, h1, h2]
    cases vec b (s - p.length) a <;> rfl

theorem cut_add (m : Nat) (x y : Vec) : cut m (add x y) = add (cut m x) (cut m y) := by
  funext s a; simp only [cut, add]; split <;> rfl
theorem rho_add (m : Nat) (x y : Vec) : rho m (add x y) = add (rho m x) (rho m y) := by
  funext s a; simp only [rho, add]; split <;> rfl
theorem fold_add (m : Nat) (x y : Vec) : fold m (add x y) = add (fold m x) (fold m y) := by
  simp only [fold, rho_add, cut_add]
  funext s a; simp only [add]
  cases cut m x s a <;> cases cut m y s a <;> cases cut m (rho (2*m) x) s a <;> cases cut m (rho (2*m) y) s a <;> rfl
theorem cut_zero (m : Nat) : cut m zero = zero := by funext s a; simp [cut, zero]
theorem rho_zero (m : Nat) : rho m zero = zero := by funext s a; simp [rho, zero]
theorem fold_zero (m : Nat) : fold m zero = zero := by simp [fold, rho_zero, cut_zero, add_zero]

theorem sup_cut (m : Nat) (z : Vec) : sup m (cut m z) := by
  intro s a h; simp [cut, Nat.not_lt.2 h]
theorem sup_fold (m : Nat) (z : Vec) : sup m (fold m z) := sup_cut _ _

theorem fold_sup {m m' : Nat} {z : Vec} (h : sup m z) (hm : m ≤ m') : fold m' z = z := by
  funext s a
  simp only [fold, cut, add, rho]
  by_cases hs : s < m'
  · simp only [hs, if_true]
    rw [if_pos (by omega : s < 2 * m'), h (2 * m' - 1 - s) (-a) (by omega)]
    simp
  · simp only [hs, if_false]
    exact (h s a (by omega)).symm

theorem fold_rho (m : Nat) (z : Vec) : fold m (rho (2 * m) z) = fold m z := by
  funext s a
  simp only [fold, cut, add, rho]
  by_cases hs : s < m
  · simp only [hs, if_true]
    rw [if_pos (by omega : s < 2 * m), if_pos (by omega : 2 * m - 1 - s < 2 * m)]
    have h1 : 2 * m - 1 - (2 * m - 1 - s) = s := by omega
    rw [h1, Int.neg_neg, Bool.xor_comm, if_pos (by omega : s < 2 * m)]
  · simp [hs]

/-- all sums of vectors -/
def combs : List Vec → List Vec
  | [] => [zero]
  | g :: gs => combs gs ++ (combs gs).map (add g)

theorem combs_length (gs : List Vec) : (combs gs).length = 2 ^ gs.length := by
  induction gs with
  | nil => rfl
  | cons g gs ih => simp only [combs, List.length_append, List.length_map, ih, List.length_cons, Nat.pow_succ]; omega

theorem combs_zero (gs : List Vec) : zero ∈ combs gs := by
  induction gs with
  | nil => simp [combs]
  | cons g gs ih => exact List.mem_append_left _ ih

theorem combs_mem {g : Vec} {gs : List Vec} (h : g ∈ gs) : g ∈ combs gs := by
  induction gs with
  | nil => cases h
  | cons k gs ih =>
    cases h with
    | head => exact List.mem_append_right _ (List.mem_map.2 ⟨zero, combs_zero gs, add_zero g⟩)
    | tail _ h => exact List.mem_append_left _ (ih h)

theorem combs_add {gs : List Vec} : ∀ {x y : Vec}, x ∈ combs gs → y ∈ combs gs → add x y ∈ combs gs := by
  induction gs with
  | nil =>
    intro x y hx hy
    simp only [combs, List.mem_singleton] at hx hy ⊢
    rw [hx, hy, add_zero]
  | cons g gs ih =>
    intro x y hx hy
    simp only [combs, List.mem_append, List.mem_map] at hx hy ⊢
    rcases hx with hx | ⟨x', hx, rfl⟩ <;> rcases hy with hy | ⟨y', hy, rfl⟩
    · exact .inl (ih hx hy)
    · exact .inr ⟨add x y', ih hx hy, by rw [add_left_comm]⟩
    · exact .inr ⟨add x' y, ih hx hy, by rw [add_assoc]⟩
    · refine .inl ?_
      have : add (add g x') (add g y') = add x' y' := by
        rw [add_assoc, add_left_comm x', ← add_assoc g g, add_self, zero_add]
      rw [this]; exact ih hx hy

theorem combs_map {f : Vec → Vec} (f0 : f zero = zero) (fa : ∀ x y, f (add x y) = add (f x) (f y))
    {gs hs : List Vec} (h : ∀ g ∈ gs, f g ∈ combs hs) : ∀ {x}, x ∈ combs gs → f x ∈ combs hs := by
  induction gs with
  | nil =>
    intro x hx
    simp only [combs, List.mem_singleton] at hx
    rw [hx, f0]; exact combs_zero hs
  | cons g gs ih =>
    intro x hx
    have ih' := @ih (fun k hk => h k (List.mem_cons_of_mem _ hk))
    simp only [combs, List.mem_append, List.mem_map] at hx
    rcases hx with hx | ⟨x', hx, rfl⟩
    · exact ih' hx
    · rw [fa]; exact combs_add (h g (List.mem_cons_self ..)) (ih' hx)

theorem combs_mono {gs hs : List Vec} (h : ∀ g ∈ gs, g ∈ hs) {x : Vec} (hx : x ∈ combs gs) : x ∈ combs hs :=
  combs_map (f := id) rfl (fun _ _ => rfl) (fun g hg => combs_mem (h g hg)) hx

/-- what folds make of vectors with their half lengths, shortest first -/
def gens : List (Nat × Vec) → List Vec
  | [] => []
  | (m, y) :: r => y :: (gens r ++ (gens r).map (fold m))

theorem gens_length (L : List (Nat × Vec)) : (gens L).length + 1 = 2 ^ L.length := by
  induction L with
  | nil => rfl
  | cons p r ih =>
    obtain ⟨m, y⟩ := p
    simp only [gens, List.length_cons, List.length_append, List.length_map, Nat.pow_succ]; omega

theorem gens_mem {L : List (Nat × Vec)} {m : Nat} {y : Vec} (h : (m, y) ∈ L) : y ∈ gens L := by
  induction L with
  | nil => cases h
  | cons p r ih =>
    obtain ⟨m', y'⟩ := p
    cases h with
    | head => simp [gens]
    | tail _ h => simp [gens, ih h]

theorem gens_fold {L : List (Nat × Vec)} (hs : L.Pairwise (fun p q => p.1 ≤ q.1))
    (hp : ∀ p ∈ L, sup p.1 p.2) : ∀ p ∈ L, ∀ {x}, x ∈ combs (gens L) → fold p.1 x ∈ combs (gens L) := by
  induction L with
  | nil => intro p hp; cases hp
  | cons p r ih =>
    obtain ⟨m, y⟩ := p
    have hs' := List.pairwise_cons.1 hs
    have ihr := ih hs'.2 (fun p hp' => hp p (List.mem_cons_of_mem _ hp'))
    have hy : sup m y := hp (m, y) (List.mem_cons_self ..)
    intro p hpm x hx
    refine combs_map (fold_zero _) (fold_add _) ?_ hx
    intro g hg
    simp only [gens, List.mem_cons, List.mem_append, List.mem_map] at hg
    have hle : m ≤ p.1 := by
      cases hpm with
      | head => exact Nat.le_refl _
      | tail _ h => exact hs'.1 p h
    rcases hg with rfl | hg | ⟨k, hk, rfl⟩
    · rw [fold_sup hy hle]; exact combs_mem (by simp [gens])
    · cases hpm with
      | head => exact combs_mem (by simp only [gens, List.mem_cons, List.mem_append, List.mem_map]; exact .inr (.inr ⟨g, hg, rfl⟩))
      | tail _ h =>
        refine combs_mono ?_ (ihr p h (combs_mem hg))
        intro k hk; simp only [gens, List.mem_cons, List.mem_append]; exact .inr (.inl hk)
    · rw [fold_sup (sup_fold m k) hle]
      exact combs_mem (by simp only [gens, List.mem_cons, List.mem_append, List.mem_map]; exact .inr (.inr ⟨k, hk, rfl⟩))
end K71

/-! ## Bound2 -/
namespace K71
/-! ## a list of pairs put in order -/
def ins (p : Nat × Vec) : List (Nat × Vec) → List (Nat × Vec)
  | [] => [p]
  | q :: r => if p.1 ≤ q.1 then p :: q :: r else q :: ins p r
def isort : List (Nat × Vec) → List (Nat × Vec)
  | [] => []
  | p :: r => ins p (isort r)
theorem ins_length (p) (L) : (ins p L).length = L.length + 1 := by
  induction L with
  | nil => rfl
  | cons q r ih => simp only [ins]; split <;> simp [ih]
theorem isort_length (L) : (isort L).length = L.length := by
  induction L with
  | nil => rfl
  | cons p r ih => simp [isort, ins_length, ih]
theorem mem_ins {x p : Nat × Vec} {L} : x ∈ ins p L ↔ x = p ∨ x ∈ L := by
  induction L with
  | nil => simp [ins]
  | cons q r ih =>
    simp only [ins]; split
    · simp
    · simp only [List.mem_cons, ih]
      constructor
      · rintro (h | h | h)
        · exact .inr (.inl h)
        · exact .inl h
        · exact .inr (.inr h)
      · rintro (h | h | h)
        · exact .inr (.inl h)
        · exact .inl h
        · exact .inr (.inr h)
theorem mem_isort {x : Nat × Vec} {L} : x ∈ isort L ↔ x ∈ L := by
  induction L with
  | nil => simp [isort]
  | cons p r ih => simp [isort, mem_ins, ih]
theorem ins_pw (p) {L : List (Nat × Vec)} (h : L.Pairwise (fun p q => p.1 ≤ q.1)) : (ins p L).Pairwise (fun p q => p.1 ≤ q.1) := by
  induction L with
  | nil => simp [ins]
  | cons q r ih =>
    have h' := List.pairwise_cons.1 h
    simp only [ins]; split
    · rename_i hle
      refine List.pairwise_cons.2 ⟨?_, h⟩
      intro x hx
      cases hx with
      | head => exact hle
      | tail _ hx => exact Nat.le_trans hle (h'.1 x hx)
    · rename_i hle
      refine List.pairwise_cons.2 ⟨?_, ih h'.2⟩
      intro x hx
      rcases mem_ins.1 hx with rfl | hx
      · omega
      · exact h'.1 x hx
theorem isort_pw (L : List (Nat × Vec)) : (isort L).Pairwise (fun p q => p.1 ≤ q.1) := by
  induction L with
  | nil => simp [isort]
  | cons p r ih => exact ins_pw p ih

/-! ## rows, steps -/
def yv (w : Row) : Vec := fold (w.length / 2) (vec w)
def upd (u : Nat → Row) (k : Nat) (f : Row) : Nat → Row := fun i => if i = k then f else u i
theorem upd_same (u k f) : upd u k f k = f := by simp [upd]
theorem upd_ne {u k f i} (h : i ≠ k) : upd u k f i = u i := by simp [upd, h]

/-- an equal step on a row w by a row of even length -/
def Acts (w more f : Row) : Prop :=
  more.length % 2 = 0 ∧ more.length / 2 ≤ w.length ∧ f.length = w.length ∧
  (vec f = add (vec w) (yv more) ∨ vec f = add (vec w) (rho w.length (yv more)))
def EStep (n : Nat) (lt : Row → Row → Prop) (u v : Nat → Row) : Prop :=
  ∃ k j f, k < n ∧ j < n ∧ Acts (u k) (u j) f ∧ lt f (u k) ∧ v = upd u k f
def SStep (n : Nat) (u v : Nat → Row) : Prop :=
  ∃ k j f, k < n ∧ j < n ∧ k ≠ j ∧ f.length < (u k).length ∧
    f.length % 2 = ((u k).length + (u j).length) % 2 ∧ v = upd u k f

def evens (n : Nat) (u : Nat → Row) : List (Nat × Vec) :=
  ((List.range n).filter (fun k => (u k).length % 2 = 0)).map (fun k => ((u k).length / 2, yv (u k)))
def space (n : Nat) (u : Nat → Row) : List Vec := combs (gens (isort (evens n u)))
def vals (n : Nat) (u : Nat → Row) (k : Nat) : List Vec :=
  (space n u).flatMap (fun s => (space n u).map (fun t => add (vec (u k)) (add s (rho (u k).length t))))

theorem space_length {n u} (h : (evens n u).length ≤ 3) : (space n u).length ≤ 128 := by
  have h1 := gens_length (isort (evens n u))
  rw [isort_length] at h1
  have h2 : 2 ^ (evens n u).length ≤ 2 ^ 3 := Nat.pow_le_pow_right (by omega) h
  have h3 : (gens (isort (evens n u))).length ≤ 7 := by omega
  rw [space, combs_length]
  exact Nat.le_trans (Nat.pow_le_pow_right (by omega) h3) (by decide)
theorem vals_length {n u} (h : (evens n u).length ≤ 3) (k) : (vals n u k).length ≤ 16384 := by
  have hs := space_length h
  simp only [vals, List.length_flatMap, List.length_map]
  have : ∀ L : List Vec, (L.map (fun _ => (space n u).length)).sum = L.length * (space n u).length := by
    intro L; induction L with
    | nil => simp
    | cons a L ih => simp only [List.map_cons, List.sum_cons, ih, List.length_cons, Nat.succ_mul]; omega
  rw [this]
  exact Nat.le_trans (Nat.mul_le_mul hs hs) (by decide)

theorem yv_sup (w : Row) : sup (w.length / 2) (yv w) := sup_fold _ _
theorem yv_mem {n u k} (hk : k < n) (he : (u k).length % 2 = 0) : ((u k).length / 2, yv (u k)) ∈ isort (evens n u) :=
  mem_isort.2 (List.mem_map.2 ⟨k, List.mem_filter.2 ⟨List.mem_range.2 hk, by simpa using he⟩, rfl⟩)
theorem yv_space {n u k} (hk : k < n) (he : (u k).length % 2 = 0) : yv (u k) ∈ space n u :=
  combs_mem (gens_mem (yv_mem hk he))
theorem space_add {n u x y} (hx : x ∈ space n u) (hy : y ∈ space n u) : add x y ∈ space n u := combs_add hx hy
theorem space_fold {n u k x} (hk : k < n) (he : (u k).length % 2 = 0) (hx : x ∈ space n u) :
    fold ((u k).length / 2) x ∈ space n u := by
  refine gens_fold (isort_pw _) ?_ _ (yv_mem hk he) hx
  intro p hp
  obtain ⟨i, _, rfl⟩ := List.mem_map.1 (mem_isort.1 hp)
  exact yv_sup _
theorem mem_vals {n u k z} : z ∈ vals n u k ↔ ∃ s ∈ space n u, ∃ t ∈ space n u, z = add (vec (u k)) (add s (rho (u k).length t)) := by
  simp only [vals, List.mem_flatMap, List.mem_map]
  constructor
  · rintro ⟨s, hs, t, ht, h⟩; exact ⟨s, hs, t, ht, h.symm⟩
  · rintro ⟨s, hs, t, ht, h⟩; exact ⟨s, hs, t, ht, h.symm⟩

structure Inv (n : Nat) (u0 u : Nat → Row) : Prop where
  len : ∀ k, k < n → (u k).length = (u0 k).length
  y : ∀ k, k < n → (u k).length % 2 = 0 → yv (u k) ∈ space n u0
  v : ∀ k, k < n → vec (u k) ∈ vals n u0 k

theorem Inv.start (n u) : Inv n u u := by
  refine ⟨fun _ _ => rfl, fun k hk he => yv_space hk he, fun k hk => ?_⟩
  refine mem_vals.2 ⟨zero, combs_zero _, zero, combs_zero _, ?_⟩
  rw [rho_zero, add_zero, add_zero]

theorem Inv.step {n lt u0 u w} (h : Inv n u0 u) (st : EStep n lt u w) : Inv n u0 w := by
  obtain ⟨k, j, f, hk, hj, ⟨hev, hm, hlen, hf⟩, _, rfl⟩ := st
  have hz := h.y j hj hev
  have lk := h.len k hk
  refine ⟨?_, ?_, ?_⟩
  · intro i hi
    by_cases e : i = k
    · subst e; rw [upd_same, hlen]; exact lk
    · rw [upd_ne e]; exact h.len i hi
  · intro i hi he
    by_cases e : i = k
    · subst e
      rw [upd_same] at he ⊢
      have he' : (u i).length % 2 = 0 := by rw [← hlen]; exact he
      have h1 := h.y i hi he'
      have h2 : fold ((u i).length / 2) (yv (u j)) ∈ space n u0 := by
        rw [lk]; exact space_fold hi (by rw [← lk]; exact he') hz
      have h3 : yv f = add (yv (u i)) (fold ((u i).length / 2) (yv (u j))) := by
        unfold yv
        rw [hlen]
        rcases hf with hf | hf
        · rw [hf, fold_add]; rfl
        · have h4 : (u i).length = 2 * ((u i).length / 2) := by omega
          have h5 : fold ((u i).length / 2) (rho (u i).length (yv (u j))) = fold ((u i).length / 2) (yv (u j)) := by
            have := fold_rho ((u i).length / 2) (yv (u j))
            rwa [← h4] at this
          rw [hf, fold_add, h5]; rfl
      rw [h3]; exact space_add h1 h2
    · rw [upd_ne e] at he ⊢; exact h.y i hi he
  · intro i hi
    by_cases e : i = k
    · subst e
      rw [upd_same]
      obtain ⟨s, hs, t, ht, hv⟩ := mem_vals.1 (h.v i hi)
      rcases hf with hf | hf
      · refine mem_vals.2 ⟨add s (yv (u j)), space_add hs hz, t, ht, ?_⟩
        rw [hf, hv, add_assoc, add_assoc, add_assoc, add_comm (yv (u j))]
      · refine mem_vals.2 ⟨s, hs, add t (yv (u j)), space_add ht hz, ?_⟩
        rw [hf, hv, rho_add, add_assoc, add_assoc, lk]
    · rw [upd_ne e]; exact h.v i hi

/-! ## the number that falls in a phase -/
open Classical in
noncomputable def rk (n : Nat) (lt : Row → Row → Prop) (u0 : Nat → Row) (k : Nat) (w : Row) : Nat :=
  (vals n u0 k).countP (fun z => decide (∃ w', vec w' = z ∧ lt w' w))

theorem countP_lt {α} {p q : α → Bool} {L : List α} (h : ∀ x ∈ L, p x = true → q x = true) {a : α} (ha : a ∈ L)
    (hp : p a = false) (hq : q a = true) : L.countP p < L.countP q := by
  induction L with
  | nil => cases ha
  | cons b L ih =>
    have hle : L.countP p ≤ L.countP q := List.countP_mono_left (fun x hx => h x (List.mem_cons_of_mem _ hx))
    cases ha with
    | head => rw [List.countP_cons_of_neg (by simp [hp]), List.countP_cons_of_pos hq]; omega
    | tail _ ha =>
      have ih' := ih (fun x hx => h x (List.mem_cons_of_mem _ hx)) ha
      simp only [List.countP_cons]
      by_cases hb : p b = true
      · simp [hb, h b (List.mem_cons_self ..) hb, ih']
      · rw [if_neg hb]; split <;> omega

theorem rk_lt {n lt u0 k w f} (irr : ∀ a, ¬ lt a a) (tr : ∀ a b c, lt a b → lt b c → lt a c)
    (hf : vec f ∈ vals n u0 k) (hl : lt f w) : rk n lt u0 k f < rk n lt u0 k w := by
  unfold rk
  refine countP_lt (a := vec f) ?_ hf ?_ ?_
  · intro x _ hx
    simp only [decide_eq_true_eq] at hx ⊢
    obtain ⟨w', e, h⟩ := hx
    exact ⟨w', e, tr _ _ _ h hl⟩
  · simp only [decide_eq_false_iff_not]
    rintro ⟨w', e, h⟩
    rw [vec_inj e] at h
    exact irr _ h
  · simp only [decide_eq_true_eq]
    exact ⟨f, rfl, hl⟩

noncomputable def pot (n : Nat) (lt : Row → Row → Prop) (u0 u : Nat → Row) : Nat := ((List.range n).map (fun k => rk n lt u0 k (u k))).sum

theorem sum_lt {L : List Nat} {f g : Nat → Nat} (h : ∀ k ∈ L, f k ≤ g k) {a} (ha : a ∈ L) (hlt : f a < g a) :
    (L.map f).sum < (L.map g).sum := by
  induction L with
  | nil => cases ha
  | cons b L ih =>
    have hle : (L.map f).sum ≤ (L.map g).sum := by
      clear ih ha
      have h' : ∀ k ∈ L, f k ≤ g k := fun k hk => h k (List.mem_cons_of_mem _ hk)
      clear h
      induction L with
      | nil => simp
      | cons c L ih => simp only [List.map_cons, List.sum_cons]; have := h' c (List.mem_cons_self ..); have := ih (fun k hk => h' k (List.mem_cons_of_mem _ hk)); omega
    simp only [List.map_cons, List.sum_cons]
    have hb := h b (List.mem_cons_self ..)
    cases ha with
    | head => omega
    | tail _ ha => have := ih (fun k hk => h k (List.mem_cons_of_mem _ hk)) ha; omega

theorem sum_le {L : List Nat} {f : Nat → Nat} {B : Nat} (h : ∀ k ∈ L, f k ≤ B) : (L.map f).sum ≤ L.length * B := by
  induction L with
  | nil => simp
  | cons b L ih =>
    simp only [List.map_cons, List.sum_cons, List.length_cons, Nat.succ_mul]
    have := h b (List.mem_cons_self ..)
    have := ih (fun k hk => h k (List.mem_cons_of_mem _ hk)); omega

theorem pot_step {n lt u0 u w} (irr : ∀ a, ¬ lt a a) (tr : ∀ a b c, lt a b → lt b c → lt a c)
    (h : Inv n u0 u) (st : EStep n lt u w) : pot n lt u0 w < pot n lt u0 u := by
  have h' := h.step st
  obtain ⟨k, j, f, hk, hj, _, hl, rfl⟩ := st
  refine sum_lt (a := k) ?_ (List.mem_range.2 hk) ?_
  · intro i hi
    by_cases e : i = k
    · subst e; rw [upd_same]
      have := h'.v i hk; rw [upd_same] at this
      exact Nat.le_of_lt (rk_lt irr tr this hl)
    · rw [upd_ne e]; exact Nat.le_refl _
  · rw [upd_same]
    have := h'.v k hk; rw [upd_same] at this
    exact rk_lt irr tr this hl

theorem pot_le {n lt u0 u} (h : (evens n u0).length ≤ 3) : pot n lt u0 u ≤ n * 16384 := by
  have := @sum_le (List.range n) (fun k => rk n lt u0 k (u k)) 16384 (fun k _ => Nat.le_trans List.countP_le_length (vals_length h k))
  simpa [pot] using this

/-! ## chains -/
inductive Chain {α : Type} (R : α → α → Prop) : Nat → α → α → Prop
  | nil (a) : Chain R 0 a a
  | cons {a b c n} : R a b → Chain R n b c → Chain R (n + 1) a c

theorem phase_len {n lt} (irr : ∀ a, ¬ lt a a) (tr : ∀ a b c, lt a b → lt b c → lt a c)
    {u0 N u w} (h : Inv n u0 u) (c : Chain (EStep n lt) N u w) : N + pot n lt u0 w ≤ pot n lt u0 u := by
  induction c with
  | nil a => omega
  | cons st _ ih => have := ih (h.step st); have := pot_step irr tr h st; omega

def Good (n : Nat) (u : Nat → Row) : Prop := n ≤ 3 ∨ (n ≤ 4 ∧ ∃ k, k < n ∧ (u k).length % 2 = 1)

theorem filter_len {L : List Nat} {p : Nat → Bool} {a} (ha : a ∈ L) (hp : p a = false) : (L.filter p).length < L.length := by
  induction L with
  | nil => cases ha
  | cons b L ih =>
    have := List.length_filter_le p L
    cases ha with
    | head => rw [List.filter_cons_of_neg (by simp [hp])]; simp only [List.length_cons]; omega
    | tail _ ha =>
      have := ih ha
      simp only [List.filter_cons]; split <;> simp only [List.length_cons] <;> omega

theorem Good.evens {n u} (h : Good n u) : (evens n u).length ≤ 3 := by
  unfold K71.evens
  rw [List.length_map]
  rcases h with h | ⟨h, k, hk, ho⟩
  · have := List.length_filter_le (fun k => decide ((u k).length % 2 = 0)) (List.range n)
    rw [List.length_range] at this; omega
  · have := @filter_len (List.range n) (fun k => decide ((u k).length % 2 = 0)) k (List.mem_range.2 hk) (by simp [ho])
    rw [List.length_range] at this; omega

theorem Good.e {n lt u w} (h : Good n u) (st : EStep n lt u w) : Good n w := by
  obtain ⟨k, j, f, hk, hj, ⟨_, _, hlen, _⟩, _, rfl⟩ := st
  rcases h with h | ⟨h, i, hi, ho⟩
  · exact .inl h
  · refine .inr ⟨h, i, hi, ?_⟩
    by_cases e : i = k
    · subst e; rw [upd_same, hlen]; exact ho
    · rw [upd_ne e]; exact ho

theorem Good.s {n u w} (h : Good n u) (st : SStep n u w) : Good n w := by
  obtain ⟨k, j, f, hk, hj, hkj, _, hpar, rfl⟩ := st
  rcases h with h | ⟨h, i, hi, ho⟩
  · exact .inl h
  · refine .inr ⟨h, ?_⟩
    by_cases e : i = k
    · subst e
      by_cases hj' : (u j).length % 2 = 0
      · exact ⟨i, hi, by rw [upd_same]; omega⟩
      · exact ⟨j, hj, by rw [upd_ne (Ne.symm hkj)]; omega⟩
    · exact ⟨i, hi, by rw [upd_ne e]; exact ho⟩

def total (n : Nat) (u : Nat → Row) : Nat := ((List.range n).map (fun k => (u k).length)).sum
theorem total_e {n lt u w} (st : EStep n lt u w) : total n w = total n u := by
  obtain ⟨k, j, f, hk, hj, ⟨_, _, hlen, _⟩, _, rfl⟩ := st
  unfold total
  congr 1
  apply List.map_congr_left
  intro i _
  by_cases e : i = k
  · subst e; rw [upd_same, hlen]
  · rw [upd_ne e]
theorem total_s {n u w} (st : SStep n u w) : total n w < total n u := by
  obtain ⟨k, j, f, hk, hj, _, hl, _, rfl⟩ := st
  refine sum_lt (a := k) ?_ (List.mem_range.2 hk) (by rw [upd_same]; exact hl)
  intro i _
  by_cases e : i = k
  · subst e; rw [upd_same]; omega
  · rw [upd_ne e]; exact Nat.le_refl _

def NStep (n : Nat) (lt : Row → Row → Prop) (u w : Nat → Row) : Prop := EStep n lt u w ∨ SStep n u w

theorem split {n lt N u w} (c : Chain (NStep n lt) N u w) : Chain (EStep n lt) N u w ∨
    ∃ N1 N2 a b, N = N1 + 1 + N2 ∧ Chain (EStep n lt) N1 u a ∧ SStep n a b ∧ Chain (NStep n lt) N2 b w := by
  induction c with
  | nil a => exact .inl (.nil a)
  | @cons a b c m st cc ih =>
    rcases st with st | st
    · rcases ih with ih | ⟨N1, N2, x, y, e, c1, s, c2⟩
      · exact .inl (.cons st ih)
      · exact .inr ⟨N1 + 1, N2, x, y, by omega, .cons st c1, s, c2⟩
    · exact .inr ⟨0, m, a, b, by omega, .nil a, st, cc⟩

theorem chain_e {n lt N u w} (c : Chain (EStep n lt) N u w) (g : Good n u) : Good n w ∧ total n w = total n u := by
  induction c with
  | nil a => exact ⟨g, rfl⟩
  | cons st _ ih => have := ih (g.e st); exact ⟨this.1, this.2.trans (total_e st)⟩

theorem run_len {n lt} (irr : ∀ a, ¬ lt a a) (tr : ∀ a b c, lt a b → lt b c → lt a c) :
    ∀ T {N u w}, total n u ≤ T → Good n u → Chain (NStep n lt) N u w → N ≤ (T + 1) * (n * 16384 + 1) := by
  intro T
  induction T with
  | zero =>
    intro N u w hT g c
    rcases split c with c | ⟨N1, N2, a, b, rfl, c1, s, c2⟩
    · have h1 := phase_len irr tr (Inv.start n u) c
      have h2 := @pot_le n lt u u g.evens
      omega
    · have h3 := chain_e c1 g
      have h4 := total_s s
      omega
  | succ T ih =>
    intro N u w hT g c
    rcases split c with c | ⟨N1, N2, a, b, rfl, c1, s, c2⟩
    · have h1 := phase_len irr tr (Inv.start n u) c
      have h2 := @pot_le n lt u u g.evens
      rw [Nat.succ_mul]; omega
    · have h1 := phase_len irr tr (Inv.start n u) c1
      have h2 := @pot_le n lt u u g.evens
      have h3 := chain_e c1 g
      have h4 := total_s s
      have h5 := ih (by omega) (h3.1.s s) c2
      rw [Nat.succ_mul]; omega
end K71

/-! ## Free -/
namespace K71
/-! ## plain rows -/
def Pl : Row → Prop
  | [] => True
  | [_] => True
  | a :: b :: r => b ≠ -a ∧ Pl (b :: r)
def push (f : Row) (x : Int) : Row := if f.getLast? = some (-x) then f.dropLast else f ++ [x]
def mul (a b : Row) : Row := b.foldl push a
def pl (w : Row) : Row := mul [] w

theorem Pl.tail {a : Int} {r : Row} (h : Pl (a :: r)) : Pl r := by
  cases r with
  | nil => trivial
  | cons b r => exact h.2
theorem pl_snoc {f : Row} {x : Int} : Pl (f ++ [x]) ↔ Pl f ∧ f.getLast? ≠ some (-x) := by
  induction f with
  | nil => simp [Pl]
  | cons a f ih =>
    cases f with
    | nil =>
      simp only [List.singleton_append, List.getLast?_singleton, ne_eq, Option.some.injEq, Pl, true_and, and_true]
      constructor <;> intro h <;> omega
    | cons b r =>
      have e : (a :: b :: r) ++ [x] = a :: b :: (r ++ [x]) := rfl
      have e2 : (b :: r) ++ [x] = b :: (r ++ [x]) := rfl
      have e3 : (a :: b :: r).getLast? = (b :: r).getLast? := by simp [List.getLast?_cons_cons]
      rw [e2] at ih
      rw [e, e3]
      simp only [Pl]
      rw [ih, and_assoc]
theorem pl_dropLast {f : Row} (h : Pl f) : Pl f.dropLast := by
  cases hf : f.getLast? with
  | none => simp only [List.getLast?_eq_none_iff] at hf; subst hf; trivial
  | some x =>
    have e : f = f.dropLast ++ [x] := by
      obtain ⟨ys, rfl⟩ := List.getLast?_eq_some_iff.1 hf; simp
    rw [e] at h
    exact (pl_snoc.1 h).1
theorem push_pl {f : Row} (x : Int) (h : Pl f) : Pl (push f x) := by
  unfold push; split
  · exact pl_dropLast h
  · rename_i hx; exact pl_snoc.2 ⟨h, hx⟩
theorem push_push {f : Row} (x : Int) (h : Pl f) : push (push f x) (-x) = f := by
  unfold push
  split
  · rename_i hx
    obtain ⟨ys, rfl⟩ := List.getLast?_eq_some_iff.1 hx
    have h1 := (pl_snoc.1 h).2
    rw [List.dropLast_concat]
    rw [if_neg h1]
  · rw [if_pos (by rw [List.getLast?_concat, Int.neg_neg]), List.dropLast_concat]
theorem push_push' {f : Row} (x : Int) (h : Pl f) : push (push f (-x)) x = f := by
  have := push_push (-x) h; rwa [Int.neg_neg] at this

theorem mul_nil (a : Row) : mul a [] = a := rfl
theorem mul_snoc (a b : Row) (x : Int) : mul a (b ++ [x]) = push (mul a b) x := by simp [mul]
theorem mul_cons (a b : Row) (x : Int) : mul a (x :: b) = mul (push a x) b := rfl
theorem mul_append (a b c : Row) : mul a (b ++ c) = mul (mul a b) c := by simp [mul]
theorem mul_pl {a : Row} (b : Row) (h : Pl a) : Pl (mul a b) := by
  induction b generalizing a with
  | nil => exact h
  | cons x b ih => exact ih (push_pl x h)
theorem pl_pl (w : Row) : Pl (pl w) := mul_pl w trivial

theorem mul_push {a : Row} (b : Row) (x : Int) (h : Pl a) : mul a (push b x) = push (mul a b) x := by
  rw [push.eq_def b x]
  split
  · rename_i hx
    obtain ⟨ys, rfl⟩ := List.getLast?_eq_some_iff.1 hx
    rw [List.dropLast_concat, mul_snoc, push_push' x (mul_pl ys h)]
  · exact mul_snoc a b x
theorem mul_assoc {a : Row} (b c : Row) (h : Pl a) : mul a (mul b c) = mul (mul a b) c := by
  induction c generalizing b with
  | nil => rfl
  | cons x c ih => rw [mul_cons, ih, mul_push b x h, mul_cons]
theorem mul_plain {a : Row} (b : Row) (h : Pl a) : mul a (pl b) = mul a b := by
  unfold pl; rw [mul_assoc [] b h]; rfl
theorem pl_of {w : Row} (h : Pl w) : pl w = w := by
  have : ∀ (a b : Row), Pl (a ++ b) → mul a b = a ++ b := by
    intro a b
    induction b generalizing a with
    | nil => intro _; simp [mul_nil]
    | cons x b ih =>
      intro h
      have e : a ++ x :: b = (a ++ [x]) ++ b := by simp
      rw [e] at h ⊢
      have hx : Pl (a ++ [x]) := by
        clear ih e
        have : ∀ (p q : Row), Pl (p ++ q) → Pl p := by
          intro p q
          induction p with
          | nil => intro _; trivial
          | cons c p ihp =>
            intro h
            cases p with
            | nil => trivial
            | cons d p => exact ⟨h.1, ihp h.2⟩
        exact this _ _ h
      rw [mul_cons, push.eq_def, if_neg (pl_snoc.1 hx).2]
      exact ih _ h
  have h' := this [] w h
  simpa [pl] using h'
theorem nil_mul {w : Row} (h : Pl w) : mul [] w = w := pl_of h
theorem Pl.prefix {p q : Row} (h : Pl (p ++ q)) : Pl p := by
  induction p with
  | nil => trivial
  | cons c p ihp =>
    cases p with
    | nil => trivial
    | cons d p => exact ⟨h.1, ihp h.2⟩
theorem Pl.suffix {p q : Row} (h : Pl (p ++ q)) : Pl q := by
  induction p with
  | nil => exact h
  | cons c p ihp => exact ihp (Pl.tail h)
theorem mul_append_of {a b : Row} (h : Pl (a ++ b)) : mul a b = a ++ b := by
  have h1 := pl_of h
  unfold pl at h1
  rw [mul_append, show mul [] a = a from pl_of h.prefix] at h1
  exact h1

theorem inv_cons (x : Int) (w : Row) : inv (x :: w) = inv w ++ [-x] := by simp [inv]
theorem inv_snoc (x : Int) (w : Row) : inv (w ++ [x]) = -x :: inv w := by simp [inv]
theorem inv_nil : inv [] = [] := rfl
theorem mul_inv_right {a : Row} (b : Row) (h : Pl a) : mul (mul a b) (inv b) = a := by
  induction b generalizing a with
  | nil => rfl
  | cons x b ih =>
    rw [mul_cons, inv_cons, mul_snoc, ih (push_pl x h), push_push x h]
theorem mul_inv_right' {a : Row} (b : Row) (h : Pl a) : mul (mul a (inv b)) b = a := by
  have := mul_inv_right (inv b) h; rwa [inv_inv] at this
theorem mul_inv_self (b : Row) : mul (pl b) (inv b) = [] := mul_inv_right (a := []) b trivial
theorem mul_inv_self' (b : Row) : mul (pl (inv b)) b = [] := mul_inv_right' (a := []) b trivial

theorem Pl.inv {w : Row} (h : Pl w) : Pl (inv w) := by
  induction w with
  | nil => trivial
  | cons a w ih =>
    rw [inv_cons]
    refine pl_snoc.2 ⟨ih h.tail, ?_⟩
    cases w with
    | nil => simp [inv_nil]
    | cons b r =>
      rw [inv_cons, List.getLast?_concat, Int.neg_neg]
      have := h.1
      simp only [ne_eq, Option.some.injEq]
      intro e; apply this; omega
theorem inv_mul {a b : Row} (ha : Pl a) : inv (mul a b) = mul (pl (inv b)) (inv a) := by
  -- both are the undo of mul a b
  have h1 : mul (mul (pl (inv b)) (inv a)) (mul a b) = [] := by
    rw [mul_assoc a b (mul_pl _ (pl_pl _)), mul_inv_right' a (pl_pl _), mul_inv_self']
  have h2 : mul (mul (mul (pl (inv b)) (inv a)) (mul a b)) (inv (mul a b)) = mul (pl (inv b)) (inv a) :=
    mul_inv_right _ (mul_pl _ (pl_pl _))
  rw [h1] at h2
  rw [← h2]
  exact (pl_of (mul_pl b ha).inv).symm

/-! ## how many letters go away -/
def lcp : Row → Row → Nat
  | a :: x, b :: y => if a = b then lcp x y + 1 else 0
  | _, _ => 0
def gone (one other : Row) : Nat := lcp (inv one) other

theorem lcp_le_left (x y : Row) : lcp x y ≤ x.length := by
  induction x generalizing y with
  | nil => cases y <;> simp [lcp]
  | cons a x ih => cases y with
    | nil => simp [lcp]
    | cons b y => simp only [lcp]; split <;> simp [ih]
theorem lcp_comm (x y : Row) : lcp x y = lcp y x := by
  induction x generalizing y with
  | nil => cases y <;> rfl
  | cons a x ih => cases y with
    | nil => rfl
    | cons b y =>
      simp only [lcp]
      by_cases h : a = b
      · rw [if_pos h, if_pos h.symm, ih]
      · rw [if_neg h, if_neg (Ne.symm h)]
theorem lcp_le_right (x y : Row) : lcp x y ≤ y.length := by rw [lcp_comm]; exact lcp_le_left y x
theorem lcp_take (x y : Row) : x.take (lcp x y) = y.take (lcp x y) := by
  induction x generalizing y with
  | nil => cases y <;> simp [lcp]
  | cons a x ih => cases y with
    | nil => simp [lcp]
    | cons b y =>
      simp only [lcp]; split
      · rename_i h; simp [h, ih]
      · simp
theorem lcp_append (p x y : Row) : lcp (p ++ x) (p ++ y) = p.length + lcp x y := by
  induction p with
  | nil => simp
  | cons a p ih => simp [lcp, ih]; omega
/-- the letters behind a common beginning are unlike -/
theorem lcp_split (x y : Row) : ∃ p x' y', x = p ++ x' ∧ y = p ++ y' ∧ p.length = lcp x y ∧
    ∀ a x'' b y'', x' = a :: x'' → y' = b :: y'' → a ≠ b := by
  induction x generalizing y with
  | nil => exact ⟨[], [], y, rfl, rfl, by cases y <;> rfl, by intro a _ _ _ h; cases h⟩
  | cons a x ih => cases y with
    | nil => exact ⟨[], a :: x, [], rfl, rfl, rfl, by intro _ _ _ _ _ h; cases h⟩
    | cons b y =>
      by_cases h : a = b
      · subst h
        obtain ⟨p, x', y', e1, e2, e3, e4⟩ := ih y
        exact ⟨a :: p, x', y', by rw [e1]; rfl, by rw [e2]; rfl, by simp [lcp, e3], e4⟩
      · refine ⟨[], a :: x, b :: y, rfl, rfl, by simp [lcp, h], ?_⟩
        intro a' _ b' _ h1 h2
        cases h1; cases h2; exact h
/-- two plain rows: what goes away, and what is left -/
theorem gone_split {x y : Row} : ∃ a p b, x = a ++ inv p ∧ y = p ++ b ∧ p.length = gone x y ∧
    ∀ a' c b' d, a = a' ++ [c] → b = d :: b' → d ≠ -c := by
  obtain ⟨p, x', y', e1, e2, e3, e4⟩ := lcp_split (inv x) y
  refine ⟨inv x', p, y', ?_, e2, e3, ?_⟩
  · rw [← inv_append, ← e1, inv_inv]
  · intro a' c b' d h1 h2
    have h3 : x' = -c :: inv a' := by
      rw [← inv_inv x', h1, inv_snoc]
    have := e4 _ _ _ _ h3 h2
    intro e; apply this; omega
theorem pl_join {a b : Row} (ha : Pl a) (hb : Pl b) (h : ∀ a' c b' d, a = a' ++ [c] → b = d :: b' → d ≠ -c) : Pl (a ++ b) := by
  induction a with
  | nil => exact hb
  | cons x a ih =>
    cases a with
    | nil =>
      cases b with
      | nil => trivial
      | cons d b' => exact ⟨h [] x b' d rfl rfl, hb⟩
    | cons y a => exact ⟨ha.1, ih ha.2 (fun a' c b' d h1 h2 => h (x :: a') c b' d (by rw [h1]; rfl) h2)⟩
theorem mul_inv_cancel {a : Row} (p b : Row) (h : Pl (a ++ inv p)) : mul (a ++ inv p) (p ++ b) = mul a b := by
  rw [mul_append]
  have h1 : mul a (inv p) = a ++ inv p := mul_append_of h
  rw [← h1, mul_inv_right' p h.prefix]
theorem mul_gone {x y : Row} (hx : Pl x) (hy : Pl y) :
    mul x y = x.take (x.length - gone x y) ++ y.drop (gone x y) := by
  obtain ⟨a, p, b, e1, e2, e3, e4⟩ := @gone_split x y
  have hp : x.length - gone x y = a.length := by rw [← e3, e1]; simp [inv_length]
  rw [hp, ← e3]
  have ha : Pl a := by rw [e1] at hx; exact hx.prefix
  have hb : Pl b := by rw [e2] at hy; exact hy.suffix
  have h1 : mul x y = a ++ b := by
    rw [e1, e2, mul_inv_cancel p b (by rw [← e1]; exact hx)]
    exact mul_append_of (pl_join ha hb e4)
  rw [h1]
  congr 1
  · rw [e1]; simp
  · rw [e2]; simp
end K71

/-! ## Bound3 -/
namespace K71
/-! ## the order of halves -/
def lexB : List Int → List Int → Bool
  | [], [] => false
  | [], _ :: _ => true
  | _ :: _, [] => false
  | x :: xs, y :: ys => if x = y then lexB xs ys else decide (x < y)
theorem lexB_irr (x : List Int) : lexB x x = false := by
  induction x with
  | nil => rfl
  | cons a x ih => simp [lexB, ih]
theorem lexB_tr {x y z : List Int} (h : lexB x y = true) (h' : lexB y z = true) : lexB x z = true := by
  induction x generalizing y z with
  | nil => cases y with
    | nil => cases h
    | cons b y => cases z with
      | nil => cases h'
      | cons c z => rfl
  | cons a x ih => cases y with
    | nil => cases h
    | cons b y => cases z with
      | nil => cases h'
      | cons c z =>
        simp only [lexB] at h h' ⊢
        by_cases e1 : a = b
        · subst e1
          rw [if_pos rfl] at h
          by_cases e2 : a = c
          · subst e2; rw [if_pos rfl] at h' ⊢; exact ih h h'
          · rw [if_neg e2] at h' ⊢; exact h'
        · rw [if_neg e1] at h
          by_cases e2 : b = c
          · subst e2; rw [if_neg e1]; exact h
          · rw [if_neg e2] at h'
            simp only [decide_eq_true_eq] at h h'
            rw [if_neg (by omega)]
            simp only [decide_eq_true_eq]; omega
theorem lexB_tri {x y : List Int} (h : lexB x y = false) (h' : lexB y x = false) : x = y := by
  induction x generalizing y with
  | nil => cases y with
    | nil => rfl
    | cons b y => cases h
  | cons a x ih => cases y with
    | nil => cases h'
    | cons b y =>
      simp only [lexB] at h h'
      by_cases e : a = b
      · subst e; rw [if_pos rfl] at h h'; rw [ih h h']
      · rw [if_neg e] at h; rw [if_neg (Ne.symm e)] at h'
        simp only [decide_eq_false_iff_not] at h h'; omega

def halves (w : Row) : Row × Row :=
  if lexB ((inv w).take ((w.length + 1) / 2)) (w.take ((w.length + 1) / 2)) = true
  then ((inv w).take ((w.length + 1) / 2), w.take ((w.length + 1) / 2))
  else (w.take ((w.length + 1) / 2), (inv w).take ((w.length + 1) / 2))
def lex2 (p q : Row × Row) : Bool := if p.1 = q.1 then lexB p.2 q.2 else lexB p.1 q.1
def hlt (f w : Row) : Bool := lex2 (halves f) (halves w)
theorem lex2_irr (p) : lex2 p p = false := by simp [lex2, lexB_irr]
theorem lex2_tr {p q r} (h : lex2 p q = true) (h' : lex2 q r = true) : lex2 p r = true := by
  unfold lex2 at h h' ⊢
  by_cases e1 : p.1 = q.1
  · rw [if_pos e1] at h
    by_cases e2 : q.1 = r.1
    · rw [if_pos e2] at h'; rw [if_pos (e1.trans e2)]; exact lexB_tr h h'
    · rw [if_neg e2] at h'; rw [if_neg (by rw [e1]; exact e2), e1]; exact h'
  · rw [if_neg e1] at h
    by_cases e2 : q.1 = r.1
    · rw [if_neg (by rw [← e2]; exact e1), ← e2]; exact h
    · rw [if_neg e2] at h'
      have := lexB_tr h h'
      by_cases e3 : p.1 = r.1
      · rw [e3, lexB_irr] at this; cases this
      · rw [if_neg e3]; exact this
def Hlt (f w : Row) : Prop := hlt f w = true
theorem Hlt.irr (a : Row) : ¬ Hlt a a := by unfold Hlt hlt; rw [lex2_irr]; simp
theorem Hlt.tr (a b c : Row) (h : Hlt a b) (h' : Hlt b c) : Hlt a c := lex2_tr h h'

/-! ## one step -/
/-- the image of a letter -/
def img (u : List Row) (x : Int) : Row := if x > 0 then u.getD (x - 1).toNat [] else inv (u.getD (0 - x - 1).toNat [])
def joined (first second : Row) : Row :=
  first.take (first.length - gone first second) ++ second.drop (gone first second)
def one (u : List Row) (place : Nat) (letter : Int) (ahead : Bool) : Row := if ahead then img u letter else u.getD place []
def two (u : List Row) (place : Nat) (letter : Int) (ahead : Bool) : Row := if ahead then u.getD place [] else img u letter
def nearer (u : List Row) (place : Nat) (letter : Int) (ahead : Bool) : Option Row :=
  if 2 * gone (one u place letter ahead) (two u place letter ahead) < (img u letter).length then none
  else if 2 * gone (one u place letter ahead) (two u place letter ahead) > (img u letter).length ∨
      hlt (joined (one u place letter ahead) (two u place letter ahead)) (u.getD place []) = true
    then some (joined (one u place letter ahead) (two u place letter ahead)) else none
theorem nearer_some {u p l a f} : nearer u p l a = some f ↔ (img u l).length ≤ 2 * gone (one u p l a) (two u p l a) ∧
    (2 * gone (one u p l a) (two u p l a) > (img u l).length ∨ hlt (joined (one u p l a) (two u p l a)) (u.getD p []) = true) ∧
    f = joined (one u p l a) (two u p l a) := by
  unfold nearer
  by_cases h : 2 * gone (one u p l a) (two u p l a) < (img u l).length
  · rw [if_pos h]
    constructor
    · intro h'; cases h'
    · rintro ⟨h', _⟩; omega
  · rw [if_neg h]
    by_cases h2 : 2 * gone (one u p l a) (two u p l a) > (img u l).length ∨ hlt (joined (one u p l a) (two u p l a)) (u.getD p []) = true
    · rw [if_pos h2]
      constructor
      · intro h'; cases h'; exact ⟨by omega, h2, rfl⟩
      · rintro ⟨_, _, rfl⟩; rfl
    · rw [if_neg h2]
      constructor
      · intro h'; cases h'
      · rintro ⟨_, h', _⟩; exact absurd h' h2
def lettersAt (place other : Nat) : List Int := if other = place then [] else [(other : Int) + 1, 0 - (other : Int) - 1]
def near (u : List Row) : Option ((Nat × Int × Bool) × Row) :=
  (List.range u.length).findSome? fun p => (List.range u.length).findSome? fun o =>
    (lettersAt p o).findSome? fun l => [false, true].findSome? fun a => (nearer u p l a).map fun f => ((p, l, a), f)
def rows (u : List Row) : Nat → Row := fun i => u.getD i []

theorem near_some {u c f} (h : near u = some (c, f)) : ∃ p o, c.1 = p ∧ p < u.length ∧ o < u.length ∧ o ≠ p ∧
    (c.2.1 = (o : Int) + 1 ∨ c.2.1 = 0 - (o : Int) - 1) ∧ nearer u p c.2.1 c.2.2 = some f := by
  obtain ⟨p, hp, h⟩ := List.exists_of_findSome?_eq_some h
  obtain ⟨o, ho, h⟩ := List.exists_of_findSome?_eq_some h
  obtain ⟨l, hl, h⟩ := List.exists_of_findSome?_eq_some h
  obtain ⟨a, _, h⟩ := List.exists_of_findSome?_eq_some h
  rw [Option.map_eq_some_iff] at h
  obtain ⟨g, hg, e⟩ := h
  cases e
  unfold lettersAt at hl
  split at hl
  · cases hl
  · rename_i hne
    refine ⟨p, o, rfl, List.mem_range.1 hp, List.mem_range.1 ho, hne, ?_, hg⟩
    simpa using hl
theorem near_none {u} (h : near u = none) {p o : Nat} (hp : p < u.length) (ho : o < u.length) (hne : o ≠ p) {l : Int}
    (hl : l = (o : Int) + 1 ∨ l = 0 - (o : Int) - 1) (a : Bool) : nearer u p l a = none := by
  have h1 := List.findSome?_eq_none_iff.1 h p (List.mem_range.2 hp)
  have h2 := List.findSome?_eq_none_iff.1 h1 o (List.mem_range.2 ho)
  have h3 := List.findSome?_eq_none_iff.1 h2 l (by unfold lettersAt; rw [if_neg hne]; simpa using hl)
  have h4 := List.findSome?_eq_none_iff.1 h3 a (by cases a <;> simp)
  simpa using h4

theorem img_pos (u : List Row) (o : Nat) : img u ((o : Int) + 1) = rows u o := by
  unfold img rows
  rw [if_pos (by omega)]
  congr 1; omega
theorem img_neg (u : List Row) (o : Nat) : img u (0 - (o : Int) - 1) = inv (rows u o) := by
  unfold img rows
  rw [if_neg (by omega)]
  congr 2; omega

theorem yv_eq {w : Row} {m : Nat} (h : w.length = 2 * m) : yv w = add (vec (w.take m)) (vec ((inv w).take m)) := by
  have e : w.length / 2 = m := by omega
  unfold yv fold
  rw [e, cut_add, vec_take, vec_take, vec_inv, h]
theorem yv_inv {w : Row} (h : w.length % 2 = 0) : yv (inv w) = yv w := by
  have h1 : w.length = 2 * (w.length / 2) := by omega
  rw [yv_eq h1, yv_eq (by rw [inv_length]; exact h1), inv_inv, add_comm]

theorem joined_split {first second : Row} : ∃ a p b, first = a ++ inv p ∧ second = p ++ b ∧ p.length = gone first second ∧
    joined first second = a ++ b := by
  obtain ⟨a, p, b, e1, e2, e3, _⟩ := @gone_split first second
  refine ⟨a, p, b, e1, e2, e3, ?_⟩
  unfold joined
  rw [← e3]
  have hp : first.length - p.length = a.length := by rw [e1]; simp [inv_length]
  rw [hp]
  congr 1
  · rw [e1]; simp
  · rw [e2]; simp

theorem joined_behind {row more : Row} (h : 2 * gone row more = more.length) :
    Acts row more (joined row more) := by
  obtain ⟨a, p, b, e1, e2, e3, e4⟩ := @joined_split row more
  have hb : b.length = p.length := by
    have := congrArg List.length e2; rw [List.length_append] at this; omega
  have hm : more.length = 2 * p.length := by omega
  have hl : (a ++ b).length = row.length := by rw [e1]; simp [inv_length, hb]
  refine ⟨by omega, ?_, ?_, .inr ?_⟩
  · rw [e1]; simp only [List.length_append, inv_length]; omega
  · rw [e4]; exact hl
  · rw [e4]
    have h1 : vec (inv (a ++ b)) = add (vec (inv row)) (yv more) := by
      have h2 : (inv more).take p.length = inv b := by
        rw [e2, inv_append]
        rw [List.take_append_of_le_length (by rw [inv_length]; omega), List.take_of_length_le (by rw [inv_length]; omega)]
      have h3 : more.take p.length = p := by rw [e2]; simp
      rw [yv_eq hm, h2, h3, e1, inv_append, inv_append, inv_inv]
      exact vec_swap (inv a) (by rw [inv_length]; omega)
    have h4 : vec (a ++ b) = rho row.length (vec (inv (a ++ b))) := by
      rw [← hl, ← inv_length (a ++ b), ← vec_inv, inv_inv]
    have h5 : vec row = rho row.length (vec (inv row)) := by
      rw [← inv_length row, ← vec_inv, inv_inv]
    rw [h4, h1, rho_add, ← h5]
theorem joined_ahead {row more : Row} (h : 2 * gone more row = more.length) :
    Acts row more (joined more row) := by
  obtain ⟨a, p, b, e1, e2, e3, e4⟩ := @joined_split more row
  have hb : a.length = p.length := by
    have := congrArg List.length e1; rw [List.length_append, inv_length] at this; omega
  have hm : more.length = 2 * p.length := by omega
  refine ⟨by omega, ?_, ?_, .inl ?_⟩
  · rw [e2]; simp only [List.length_append]; omega
  · rw [e4, e2]; simp [hb]
  · rw [e4]
    have h2 : (inv more).take p.length = p := by
      rw [e1, inv_append, inv_inv]; simp
    have h3 : more.take p.length = a := by rw [e1, ← hb]; simp
    rw [yv_eq hm, h2, h3, e2, add_comm (vec a)]
    exact vec_swap b hb.symm
theorem joined_length (first second : Row) : (joined first second).length + 2 * gone first second = first.length + second.length := by
  obtain ⟨a, p, b, e1, e2, e3, e4⟩ := @joined_split first second
  rw [e4, ← e3, e1, e2]; simp only [List.length_append, inv_length]; omega

theorem rows_set {u : List Row} {k : Nat} (hk : k < u.length) (f : Row) : rows (u.set k f) = upd (rows u) k f := by
  funext i
  unfold rows upd
  by_cases e : i = k
  · subst e; simp [List.getD_eq_getElem?_getD, hk]
  · rw [if_neg e]
    simp [List.getD_eq_getElem?_getD, List.getElem?_set_ne (Ne.symm e)]

theorem nearer_step {u : List Row} {p o : Nat} {l : Int} {a : Bool} {f : Row} (hp : p < u.length) (ho : o < u.length) (hne : o ≠ p)
    (hl : l = (o : Int) + 1 ∨ l = 0 - (o : Int) - 1) (h : nearer u p l a = some f) :
    NStep u.length Hlt (rows u) (rows (u.set p f)) := by
  rw [rows_set hp]
  have hmore : img u l = rows u o ∨ img u l = inv (rows u o) := by
    rcases hl with rfl | rfl
    · exact .inl (img_pos u o)
    · exact .inr (img_neg u o)
  have hlen : (img u l).length = (rows u o).length := by
    rcases hmore with e | e <;> rw [e]; exact inv_length _
  obtain ⟨h1, h2, rfl⟩ := nearer_some.1 h
  have hj := joined_length (one u p l a) (two u p l a)
  have hsum : (one u p l a).length + (two u p l a).length = (rows u p).length + (img u l).length := by
    unfold one two rows; cases a <;> simp <;> omega
  by_cases hs : 2 * gone (one u p l a) (two u p l a) > (img u l).length
  · refine .inr ⟨p, o, _, hp, ho, Ne.symm hne, ?_, ?_, rfl⟩
    · omega
    · omega
  · have h3 : hlt (joined (one u p l a) (two u p l a)) (u.getD p []) = true := by
      rcases h2 with h2 | h2
      · exact absurd h2 hs
      · exact h2
    refine .inl ⟨p, o, _, hp, ho, ?_, h3, rfl⟩
    have hact : Acts (rows u p) (img u l) (joined (one u p l a) (two u p l a)) := by
      have e : 2 * gone (one u p l a) (two u p l a) = (img u l).length := by omega
      cases a
      · exact joined_behind (row := u.getD p []) e
      · exact joined_ahead (row := u.getD p []) e
    obtain ⟨b1, b2, b3, b4⟩ := hact
    have hy : yv (img u l) = yv (rows u o) := by
      rcases hmore with e | e
      · rw [e]
      · rw [e]; exact yv_inv (by rw [← hlen]; exact b1)
    refine ⟨by rw [← hlen]; exact b1, by rw [← hlen]; exact b2, b3, ?_⟩
    rw [← hy]; exact b4
theorem near_nstep {u c f} (h : near u = some (c, f)) : NStep u.length Hlt (rows u) (rows (u.set c.1 f)) := by
  obtain ⟨p, o, e, hp, ho, hne, hl, hn⟩ := near_some h
  rw [e]
  exact nearer_step hp ho hne hl hn

/-! ## the whole way down -/
/-- the rows behind so many steps, none if the way ends before -/
def after : Nat → List Row → Option (List Row)
  | 0, u => some u
  | n + 1, u => match near u with
    | none => none
    | some (c, f) => after n (u.set c.1 f)
theorem after_chain {n u v} (h : after n u = some v) : v.length = u.length ∧ Chain (NStep u.length Hlt) n (rows u) (rows v) := by
  induction n generalizing u with
  | zero => cases h; exact ⟨rfl, .nil _⟩
  | succ n ih =>
    unfold after at h
    split at h
    · cases h
    · rename_i c f hc
      have := ih h
      rw [List.length_set] at this
      exact ⟨this.1, .cons (near_nstep hc) this.2⟩
def weight (u : List Row) : Nat := total u.length (rows u)
theorem after_len {n u v} (g : Good u.length (rows u)) (h : after n u = some v) : n ≤ (weight u + 1) * (u.length * 16384 + 1) :=
  run_len Hlt.irr Hlt.tr (weight u) (Nat.le_refl _) g (after_chain h).2
theorem Good.le4 {n u} (h : Good n u) : n ≤ 4 := by rcases h with h | h <;> omega
/-- the way down ends within 2 ^ 24 steps -/
theorem ends {u} (g : Good u.length (rows u)) (hw : weight u ≤ 254) : ∃ n v, n ≤ 16711935 ∧ after n u = some v ∧ near v = none := by
  have hb : ∀ n v, after n u = some v → n ≤ 16711935 := by
    intro n v h
    have h1 := after_len g h
    have h2 := g.le4
    have h3 : (weight u + 1) * (u.length * 16384 + 1) ≤ 255 * 65537 := Nat.mul_le_mul (by omega) (by omega)
    omega
  by_cases hx : ∃ n v, after n u = some v ∧ near v = none
  · obtain ⟨n, v, h, h'⟩ := hx
    exact ⟨n, v, hb n v h, h, h'⟩
  · exfalso
    have hall : ∀ n, ∃ v, after n u = some v := by
      intro n
      induction n with
      | zero => exact ⟨u, rfl⟩
      | succ n ih =>
        obtain ⟨v, hv⟩ := ih
        cases hn : near v with
        | none => exact absurd ⟨n, v, hv, hn⟩ hx
        | some cf =>
          obtain ⟨c, f⟩ := cf
          refine ⟨v.set c.1 f, ?_⟩
          clear hx hb
          induction n generalizing u with
          | zero => cases hv; simp [after, hn]
          | succ n ihn =>
            unfold after at hv ⊢
            split at hv
            · cases hv
            · rename_i c' f' hc'
              exact ihn (by
                have := near_nstep hc'
                rw [List.length_set]
                rcases this with st | st
                · exact g.e st
                · exact g.s st) (by
                have := near_nstep hc'
                unfold weight; rw [List.length_set]
                rcases this with st | st
                · have := total_e st; unfold weight at hw; omega
                · have := total_s st; unfold weight at hw; omega) hv
    obtain ⟨v, hv⟩ := hall 16711936
    have := hb _ _ hv
    omega
end K71

/-! ## Nielsen -/
namespace K71
/-! ## what rows make -/
def sgn (u : List Row) (x : Nat × Bool) : Row := if x.2 = true then rows u x.1 else inv (rows u x.1)
inductive Gen (u : List Row) : Row → Prop
  | nil : Gen u []
  | step {w : Row} (x : Nat × Bool) : Gen u w → x.1 < u.length → Gen u (mul w (sgn u x))
def AllPl (u : List Row) : Prop := ∀ i, i < u.length → Pl (rows u i)

theorem AllPl.sgn {u} (h : AllPl u) {x : Nat × Bool} (hx : x.1 < u.length) : Pl (sgn u x) := by
  unfold K71.sgn; split
  · exact h _ hx
  · exact (h _ hx).inv
theorem Gen.pl {u w} (h : Gen u w) : Pl w := by
  induction h with
  | nil => trivial
  | step x _ _ ih => exact mul_pl _ ih
theorem Gen.mul {u a b} (ha : Gen u a) (hb : Gen u b) : Gen u (mul a b) := by
  induction hb with
  | nil => exact ha
  | step x _ hx ih => rw [mul_assoc _ _ ha.pl]; exact .step x ih hx
def flip (x : Nat × Bool) : Nat × Bool := (x.1, !x.2)
theorem sgn_flip (u x) : sgn u (flip x) = inv (sgn u x) := by
  unfold sgn flip
  cases x.2 <;> simp [inv_inv]
theorem flip_flip (x) : flip (flip x) = x := by cases x; simp [flip]
theorem Gen.row {u} (h : AllPl u) {x : Nat × Bool} (hx : x.1 < u.length) : Gen u (sgn u x) := by
  have := Gen.step (u := u) x .nil hx
  rwa [nil_mul (h.sgn hx)] at this
theorem Gen.inv {u w} (h : AllPl u) (hw : Gen u w) : Gen u (inv w) := by
  induction hw with
  | nil => exact .nil
  | step x hw hx ih =>
    rw [inv_mul hw.pl, pl_of (h.sgn hx).inv, ← sgn_flip]
    exact (Gen.row h (x := flip x) hx).mul ih
theorem Gen.trans {u v} (hv : AllPl v) (h : ∀ i, i < u.length → Gen v (rows u i)) {w} (hw : Gen u w) : Gen v w := by
  induction hw with
  | nil => exact .nil
  | step x _ hx ih =>
    refine ih.mul ?_
    unfold sgn; split
    · exact h _ hx
    · exact (h _ hx).inv hv

theorem joined_mul {x y : Row} (hx : Pl x) (hy : Pl y) : joined x y = mul x y := (mul_gone hx hy).symm

theorem img_sgn {u : List Row} {l : Int} {o : Nat} (hl : l = (o : Int) + 1 ∨ l = 0 - (o : Int) - 1) :
    ∃ s, img u l = sgn u (o, s) := by
  rcases hl with rfl | rfl
  · exact ⟨true, by rw [img_pos]; rfl⟩
  · exact ⟨false, by rw [img_neg]; rfl⟩

theorem rows_ne {u : List Row} {k i : Nat} (f : Row) (h : i ≠ k) : rows (u.set k f) i = rows u i := by
  unfold rows; simp [List.getD_eq_getElem?_getD, List.getElem?_set_ne (Ne.symm h)]
theorem rows_same {u : List Row} {k : Nat} (f : Row) (h : k < u.length) : rows (u.set k f) k = f := by
  unfold rows; simp [List.getD_eq_getElem?_getD, h]

theorem near_gen {u c f} (h : near u = some (c, f)) (hp : AllPl u) : AllPl (u.set c.1 f) ∧ ∀ w, Gen u w → Gen (u.set c.1 f) w := by
  obtain ⟨p, o, e, hpl, ho, hne, hl, hn⟩ := near_some h
  rw [e]
  obtain ⟨s, hs⟩ := img_sgn (u := u) hl
  obtain ⟨_, _, hf⟩ := nearer_some.1 hn
  have hrow : Pl (rows u p) := hp p hpl
  have hmore : Pl (img u c.2.1) := by rw [hs]; exact hp.sgn ho
  have hfp : Pl f ∧ (f = mul (rows u p) (img u c.2.1) ∨ f = mul (img u c.2.1) (rows u p)) := by
    rw [hf]; unfold one two
    cases c.2.2
    · simp only [Bool.false_eq_true, if_false]
      have := joined_mul (x := u.getD p []) hrow hmore
      rw [this]; exact ⟨mul_pl _ hrow, .inl rfl⟩
    · simp only [if_true]
      have := joined_mul (y := u.getD p []) hmore hrow
      rw [this]; exact ⟨mul_pl _ hmore, .inr rfl⟩
  have hv : AllPl (u.set p f) := by
    intro i hi
    rw [List.length_set] at hi
    by_cases e : i = p
    · subst e; rw [rows_same f hi]; exact hfp.1
    · rw [rows_ne f e]; exact hp i hi
  refine ⟨hv, fun w hw => Gen.trans hv ?_ hw⟩
  intro i hi
  have hset : i < (u.set p f).length := by rw [List.length_set]; exact hi
  by_cases ei : i = p
  · subst ei
    have gf : Gen (u.set i f) f := by
      have := Gen.row hv (x := (i, true)) hset
      unfold sgn at this; rwa [if_pos rfl, rows_same f hi] at this
    have gm : Gen (u.set i f) (img u c.2.1) := by
      have := Gen.row hv (x := (o, s)) (by rw [List.length_set]; exact ho)
      rw [hs]; unfold sgn at this ⊢; rwa [rows_ne f hne] at this
    rcases hfp.2 with e | e
    · have h1 : mul f (inv (img u c.2.1)) = rows u i := by rw [e]; exact mul_inv_right _ hrow
      rw [← h1]; exact gf.mul (gm.inv hv)
    · have h1 : mul (inv (img u c.2.1)) f = rows u i := by
        rw [e, mul_assoc _ _ hmore.inv]
        have h2 := mul_inv_self' (img u c.2.1)
        rw [pl_of hmore.inv] at h2
        rw [h2, nil_mul hrow]
      rw [← h1]; exact (gm.inv hv).mul gf
  · have := Gen.row hv (x := (i, true)) hset
    unfold sgn at this; rwa [if_pos rfl, rows_ne f ei] at this

theorem after_gen {n u v} (h : after n u = some v) (hp : AllPl u) : v.length = u.length ∧ AllPl v ∧ ∀ w, Gen u w → Gen v w := by
  induction n generalizing u with
  | zero => cases h; exact ⟨rfl, hp, fun _ h => h⟩
  | succ n ih =>
    unfold after at h
    split at h
    · cases h
    · rename_i c f hc
      have h1 := near_gen hc hp
      have h2 := ih h h1.1
      rw [List.length_set] at h2
      exact ⟨h2.1, h2.2.1, fun w hw => h2.2.2 w (h1.2 w hw)⟩

/-! ## the order and undone rows -/
theorem halves_inv (w : Row) : halves (inv w) = halves w := by
  unfold halves
  rw [inv_inv, inv_length]
  generalize w.take ((w.length + 1) / 2) = p
  generalize (inv w).take ((w.length + 1) / 2) = q
  by_cases h1 : lexB p q = true
  · by_cases h2 : lexB q p = true
    · have := lexB_tr h1 h2; rw [lexB_irr] at this; cases this
    · rw [if_pos h1, if_neg h2]
  · by_cases h2 : lexB q p = true
    · rw [if_neg h1, if_pos h2]
    · rw [if_neg h1, if_neg h2]
      have := lexB_tri (by simpa using h1) (by simpa using h2)
      rw [this]
theorem hlt_inv (a b : Row) : hlt (inv a) b = hlt a b ∧ hlt a (inv b) = hlt a b := by
  unfold hlt; rw [halves_inv, halves_inv]; exact ⟨rfl, rfl⟩
theorem lexB_append {p q : Row} (x y : Row) (hl : p.length = q.length) (h : lexB p q = true) : lexB (p ++ x) (q ++ y) = true := by
  induction p generalizing q with
  | nil => cases q with
    | nil => cases h
    | cons b q => cases hl
  | cons a p ih => cases q with
    | nil => cases hl
    | cons b q =>
      simp only [List.cons_append, lexB] at h ⊢
      by_cases e : a = b
      · rw [if_pos e] at h ⊢; exact ih (by simpa using hl) h
      · rw [if_neg e] at h ⊢; exact h
theorem lex2_sort {P Q R : Row} (h : lexB P Q = true) :
    lex2 (if lexB R P = true then (R, P) else (P, R)) (if lexB R Q = true then (R, Q) else (Q, R)) = true := by
  have hPQ : P ≠ Q := by intro e; rw [e, lexB_irr] at h; cases h
  by_cases h1 : lexB R P = true
  · rw [if_pos h1, if_pos (lexB_tr h1 h)]; simp [lex2, h]
  · rw [if_neg h1]
    by_cases h2 : lexB R Q = true
    · rw [if_pos h2]
      unfold lex2
      by_cases e : P = R
      · simp [e, h2]
      · simp only [e, if_false]
        cases h3 : lexB P R with
        | true => rfl
        | false => exact absurd (lexB_tri h3 (by simpa using h1)) e
    · rw [if_neg h2]; simp [lex2, hPQ, h]
theorem halfcmp {p q c : Row} (hl : p.length = q.length) (hc : p.length ≤ c.length) (h : lexB p q = true) : hlt (p ++ c) (q ++ c) = true := by
  unfold hlt halves
  have e1 : (p ++ c).length = (q ++ c).length := by simp [hl]
  rw [← e1]
  have hh : ((p ++ c).length + 1) / 2 ≤ c.length := by simp only [List.length_append]; omega
  have hh2 : p.length ≤ ((p ++ c).length + 1) / 2 := by simp only [List.length_append]; omega
  generalize ((p ++ c).length + 1) / 2 = k at hh hh2
  have r1 : (inv (p ++ c)).take k = (inv c).take k := by
    rw [inv_append, List.take_append_of_le_length (by rw [inv_length]; exact hh)]
  have r2 : (inv (q ++ c)).take k = (inv c).take k := by
    rw [inv_append, List.take_append_of_le_length (by rw [inv_length]; exact hh)]
  have l1 : (p ++ c).take k = p ++ c.take (k - p.length) := by
    rw [List.take_append, List.take_of_length_le hh2]
  have l2 : (q ++ c).take k = q ++ c.take (k - p.length) := by
    rw [List.take_append, List.take_of_length_le (by omega), hl]
  rw [r1, r2, l1, l2]
  exact lex2_sort (lexB_append _ _ hl h)

/-! ## stuck rows -/
theorem gone_flip (A B : Row) : gone (inv B) (inv A) = gone A B := by
  unfold gone; rw [inv_inv, lcp_comm]

theorem img_of (u : List Row) (o : Nat) (s : Bool) : ∃ l : Int, (l = (o : Int) + 1 ∨ l = 0 - (o : Int) - 1) ∧ img u l = sgn u (o, s) := by
  cases s
  · exact ⟨_, .inr rfl, img_neg u o⟩
  · exact ⟨_, .inl rfl, img_pos u o⟩

theorem nearer_none {u p l a} (h : nearer u p l a = none) :
    2 * gone (one u p l a) (two u p l a) ≤ (img u l).length ∧
    (2 * gone (one u p l a) (two u p l a) = (img u l).length → hlt (joined (one u p l a) (two u p l a)) (rows u p) = false) := by
  constructor
  · refine Nat.le_of_not_lt fun h1 => ?_
    have := nearer_some.2 ⟨Nat.le_of_lt h1, .inl h1, rfl⟩
    rw [h] at this; cases this
  · intro h1
    cases h2 : hlt (joined (one u p l a) (two u p l a)) (rows u p) with
    | false => rfl
    | true =>
      have := nearer_some.2 ⟨Nat.le_of_eq h1.symm, .inr h2, rfl⟩
      rw [h] at this; cases this

/-- the first of two signed rows, against the second -/
theorem stuck1 {u} (hp : AllPl u) (h : near u = none) {i j : Nat} {s t : Bool} (hi : i < u.length) (hj : j < u.length) (hne : i ≠ j) :
    2 * gone (sgn u (i, s)) (sgn u (j, t)) ≤ (sgn u (j, t)).length ∧
    (2 * gone (sgn u (i, s)) (sgn u (j, t)) = (sgn u (j, t)).length → hlt (mul (sgn u (i, s)) (sgn u (j, t))) (sgn u (i, s)) = false) := by
  cases s
  · obtain ⟨l, hl, e⟩ := img_of u j (!t)
    have h1 := nearer_none (near_none h hi hj (Ne.symm hne) hl true)
    have e' : img u l = inv (sgn u (j, t)) := by rw [e]; exact sgn_flip u (j, t)
    have e1 : one u i l true = inv (sgn u (j, t)) := by unfold one; rw [if_pos rfl, e']
    have e2 : two u i l true = rows u i := rfl
    have e3 : sgn u (i, false) = inv (rows u i) := rfl
    have e4 : gone (inv (sgn u (j, t))) (rows u i) = gone (inv (rows u i)) (sgn u (j, t)) := by
      have := gone_flip (inv (rows u i)) (sgn u (j, t)); rw [inv_inv] at this; exact this
    rw [e1, e2, e', inv_length, e4] at h1
    rw [e3]
    refine ⟨h1.1, fun hh => ?_⟩
    have h2 := h1.2 hh
    rw [joined_mul (hp.sgn (x := (j, t)) hj).inv (hp i hi)] at h2
    have h3 : mul (inv (sgn u (j, t))) (rows u i) = inv (mul (inv (rows u i)) (sgn u (j, t))) := by
      rw [inv_mul (hp i hi).inv, inv_inv, pl_of (hp.sgn (x := (j, t)) hj).inv]
    rw [h3, (hlt_inv _ _).1] at h2
    rw [(hlt_inv _ _).2]; exact h2
  · obtain ⟨l, hl, e⟩ := img_of u j t
    have h1 := nearer_none (near_none h hi hj (Ne.symm hne) hl false)
    have e1 : one u i l false = rows u i := rfl
    have e2 : two u i l false = sgn u (j, t) := by unfold two; simp [e]
    have e3 : sgn u (i, true) = rows u i := rfl
    rw [e1, e2, e] at h1
    rw [e3]
    refine ⟨h1.1, fun hh => ?_⟩
    have h2 := h1.2 hh
    rwa [joined_mul (hp i hi) (hp.sgn (x := (j, t)) hj)] at h2
/-- the second against the first -/
theorem stuck2 {u} (hp : AllPl u) (h : near u = none) {i j : Nat} {s t : Bool} (hi : i < u.length) (hj : j < u.length) (hne : i ≠ j) :
    2 * gone (sgn u (i, s)) (sgn u (j, t)) ≤ (sgn u (i, s)).length ∧
    (2 * gone (sgn u (i, s)) (sgn u (j, t)) = (sgn u (i, s)).length → hlt (mul (sgn u (i, s)) (sgn u (j, t))) (sgn u (j, t)) = false) := by
  have h1 := stuck1 hp h (i := j) (j := i) (s := !t) (t := !s) hj hi (Ne.symm hne)
  have e1 : sgn u (j, !t) = inv (sgn u (j, t)) := sgn_flip u (j, t)
  have e2 : sgn u (i, !s) = inv (sgn u (i, s)) := sgn_flip u (i, s)
  rw [e1, e2, gone_flip, inv_length] at h1
  refine ⟨h1.1, fun hh => ?_⟩
  have h2 := h1.2 hh
  have hA := hp.sgn (x := (i, s)) hi
  have hB := hp.sgn (x := (j, t)) hj
  have h3 : mul (inv (sgn u (j, t))) (inv (sgn u (i, s))) = inv (mul (sgn u (i, s)) (sgn u (j, t))) := by
    rw [inv_mul hA, pl_of hB.inv]
  rw [h3, (hlt_inv _ _).1, (hlt_inv _ _).2] at h2
  exact h2

theorem self_undone : ∀ n (c : Row), c.length ≤ n → Pl c → 0 ∉ c → inv c = c → c = [] := by
  intro n
  induction n with
  | zero => intro c h _ _ _; exact List.length_eq_zero_iff.1 (by omega)
  | succ n ih =>
    intro c h hp h0 e
    cases c with
    | nil => rfl
    | cons y r =>
      exfalso
      cases hr : r.getLast? with
      | none =>
        rw [List.getLast?_eq_none_iff] at hr; subst hr
        have hy : y = 0 := by simp [inv] at e; omega
        subst hy; simp at h0
      | some z =>
        obtain ⟨r', rfl⟩ := List.getLast?_eq_some_iff.1 hr
        have h1 : inv (y :: (r' ++ [z])) = -z :: (inv r' ++ [-y]) := by simp [inv]
        rw [h1] at e
        have e1 := (List.cons.inj e).1
        have e2 := List.append_inj' (List.cons.inj e).2 rfl
        have hz : z = -y := by omega
        subst hz
        have := ih r' (by simp at h; omega) hp.tail.prefix (by intro h; apply h0; simp [h]) e2.1
        subst this
        exact hp.1 rfl
theorem gone_self {s : Row} (hp : Pl s) (h0 : 0 ∉ s) (hne : s ≠ []) : 2 * gone s s < s.length := by
  obtain ⟨a, p, b, e1, e2, e3, _⟩ := @gone_split s s
  rw [← e3]
  refine Nat.lt_of_not_le fun h => ?_
  have la : a.length + p.length = s.length := by have := congrArg List.length e1; simp [inv_length] at this; omega
  have lb : p.length + b.length = s.length := by have := congrArg List.length e2; simp at this; omega
  have hle : a.length ≤ p.length := by omega
  have e4 : a ++ inv p = p ++ b := e1.symm.trans e2
  obtain ⟨c, hc⟩ : ∃ c, p = a ++ c := by
    refine ⟨p.drop a.length, ?_⟩
    have h1 : (a ++ inv p).take a.length = (p ++ b).take a.length := by rw [e4]
    rw [List.take_left' rfl, List.take_append_of_le_length hle] at h1
    have h2 := List.take_append_drop a.length p
    rw [← h1] at h2
    exact h2.symm
  rw [hc, inv_append, List.append_assoc] at e4
  have e5 : inv c ++ inv a = c ++ b := List.append_cancel_left e4
  have e6 : inv c = c := by
    have := congrArg (List.take c.length) e5
    rwa [List.take_append_of_le_length (by rw [inv_length]; omega), List.take_of_length_le (by rw [inv_length]; omega), List.take_left' rfl] at this
  have hcp : Pl c := by
    have : Pl p := by rw [e2] at hp; exact hp.prefix
    rw [hc] at this; exact this.suffix
  have hc0 : c = [] := self_undone _ c (Nat.le_refl _) hcp (by intro h; apply h0; rw [e2, hc]; simp [h]) e6
  subst hc0
  have hs : s = a ++ inv a := by rw [e1, hc]; simp
  cases ha : a.getLast? with
  | none => rw [List.getLast?_eq_none_iff] at ha; subst ha; exact hne (by rw [hs]; rfl)
  | some x =>
    obtain ⟨a', rfl⟩ := List.getLast?_eq_some_iff.1 ha
    rw [inv_snoc] at hs
    rw [hs] at hp
    have h2 : (a' ++ [x]) ++ (-x :: inv a') = a' ++ (x :: -x :: inv a') := by simp
    rw [h2] at hp
    exact hp.suffix.1 rfl

/-! ## products of signed rows -/
def NZ (u : List Row) : Prop := ∀ i, i < u.length → 0 ∉ rows u i
theorem zero_inv {w : Row} (h : 0 ∉ w) : 0 ∉ inv w := by
  unfold inv; simp only [List.mem_reverse, List.mem_map, not_exists, not_and]
  intro x hx e
  have : x = 0 := by omega
  subst this; exact h hx
theorem NZ.sgn {u} (h : NZ u) {x : Nat × Bool} (hx : x.1 < u.length) : 0 ∉ sgn u x := by
  unfold K71.sgn; split
  · exact h _ hx
  · exact zero_inv (h _ hx)

/-- the product of factors, the last one first -/
def prod (u : List Row) : List (Nat × Bool) → Row
  | [] => []
  | x :: r => mul (prod u r) (sgn u x)
def RedF (u : List Row) : List (Nat × Bool) → Prop
  | [] => True
  | [x] => x.1 < u.length ∧ sgn u x ≠ []
  | x :: y :: r => x.1 < u.length ∧ sgn u x ≠ [] ∧ x ≠ flip y ∧ RedF u (y :: r)
theorem RedF.head {u x r} (h : RedF u (x :: r)) : x.1 < u.length ∧ sgn u x ≠ [] := by
  cases r with
  | nil => exact h
  | cons y r => exact ⟨h.1, h.2.1⟩
theorem RedF.tail {u x r} (h : RedF u (x :: r)) : RedF u r := by
  cases r with
  | nil => trivial
  | cons y r => exact h.2.2.2
theorem prod_pl (u r) : Pl (prod u r) := by
  induction r with
  | nil => trivial
  | cons x r ih => exact mul_pl _ ih
theorem Gen.red {u} (h : AllPl u) {w} (hw : Gen u w) : ∃ xs, RedF u xs ∧ w = prod u xs := by
  induction hw with
  | nil => exact ⟨[], trivial, rfl⟩
  | step x _ hx ih =>
    obtain ⟨xs, h1, rfl⟩ := ih
    by_cases he : sgn u x = []
    · exact ⟨xs, h1, by rw [he, mul_nil]⟩
    · cases xs with
      | nil => exact ⟨[x], ⟨hx, he⟩, rfl⟩
      | cons y r =>
        by_cases hxy : x = flip y
        · refine ⟨r, h1.tail, ?_⟩
          subst hxy
          rw [sgn_flip]
          exact mul_inv_right _ (prod_pl u r)
        · exact ⟨x :: y :: r, ⟨hx, he, hxy, h1⟩, rfl⟩

/-- neighbours leave each other at least half -/
theorem pair_half {u} (hp : AllPl u) (hz : NZ u) (h : near u = none) {x y : Nat × Bool} (hx : x.1 < u.length) (hy : y.1 < u.length)
    (hne : sgn u x ≠ []) (hxy : x ≠ flip y) :
    2 * gone (sgn u y) (sgn u x) ≤ (sgn u x).length ∧ 2 * gone (sgn u y) (sgn u x) ≤ (sgn u y).length ∧
    (x.1 = y.1 → 2 * gone (sgn u y) (sgn u x) < (sgn u x).length) := by
  by_cases e : y.1 = x.1
  · have exy : y = x := by
      obtain ⟨i, s⟩ := y; obtain ⟨j, t⟩ := x
      simp only [flip, ne_eq, Prod.mk.injEq, not_and] at e hxy ⊢
      subst e
      have := hxy rfl
      cases s <;> cases t <;> simp_all
    subst exy
    have := gone_self (hp.sgn hx) (hz.sgn hx) hne
    exact ⟨by omega, by omega, fun _ => this⟩
  · have h1 := stuck1 hp h (i := y.1) (j := x.1) (s := y.2) (t := x.2) hy hx e
    have h2 := stuck2 hp h (i := y.1) (j := x.1) (s := y.2) (t := x.2) hy hx e
    exact ⟨h1.1, h2.1, fun e' => absurd e'.symm e⟩

theorem triple {u} (hp : AllPl u) (hz : NZ u) (h : near u = none) {x y z : Nat × Bool} (hx : x.1 < u.length) (hy : y.1 < u.length) (hzl : z.1 < u.length)
    (hnx : sgn u x ≠ []) (hny : sgn u y ≠ []) (hxy : x ≠ flip y) (hyz : y ≠ flip z) :
    gone (sgn u z) (sgn u y) + gone (sgn u y) (sgn u x) < (sgn u y).length := by
  have a1 := pair_half hp hz h hx hy hnx hxy
  have a2 := pair_half hp hz h hy hzl hny hyz
  refine Nat.lt_of_not_le fun hge => ?_
  have g1 : 2 * gone (sgn u z) (sgn u y) = (sgn u y).length := by omega
  have g2 : 2 * gone (sgn u y) (sgn u x) = (sgn u y).length := by omega
  have n1 : z.1 ≠ y.1 := fun e => by have := a2.2.2 e.symm; omega
  have n2 : y.1 ≠ x.1 := fun e => by
    have exy : y = x := by
      obtain ⟨i, s⟩ := y; obtain ⟨j, t⟩ := x
      simp only [flip, ne_eq, Prod.mk.injEq, not_and] at e hxy ⊢
      subst e
      have := hxy rfl
      cases s <;> cases t <;> simp_all
    subst exy
    have := a1.2.2 rfl; omega
  have s1 := (stuck1 hp h (i := z.1) (j := y.1) (s := z.2) (t := y.2) hzl hy n1).2 g1
  have s2 := (stuck2 hp h (i := y.1) (j := x.1) (s := y.2) (t := x.2) hy hx n2).2 g2
  have s1' : hlt (mul (sgn u z) (sgn u y)) (sgn u z) = false := s1
  have s2' : hlt (mul (sgn u y) (sgn u x)) (sgn u x) = false := s2
  have l1 := a2.2.1
  have l2 := a1.1
  have pz := hp.sgn hzl
  have py := hp.sgn hy
  have px := hp.sgn hx
  generalize sgn u z = Z at *
  generalize sgn u y = Y at *
  generalize sgn u x = X at *
  obtain ⟨a, p, b, e1, e2, e3, _⟩ := @gone_split Z Y
  obtain ⟨a', q, c, f1, f2, f3, _⟩ := @gone_split Y X
  have lp : p.length = b.length := by have := congrArg List.length e2; simp at this; omega
  have lq : a'.length = q.length := by have := congrArg List.length f1; simp [inv_length] at this; omega
  have hpa : a' = p ∧ inv q = b := by
    have e := f1.symm.trans e2
    exact List.append_inj e (by omega)
  have hb : b = inv q := hpa.2.symm
  have hlpq : p.length = q.length := by rw [← hpa.1]; exact lq
  have m1 : mul Z Y = a ++ b := by
    rw [← joined_mul pz py]
    obtain ⟨a2, p2, b2, h1, h2, h3, h4⟩ := @joined_split Z Y
    have : p2.length = p.length := by rw [h3, e3]
    have hh := List.append_inj (h2.symm.trans e2) this
    have hh2 := List.append_inj' (h1.symm.trans e1) (by rw [inv_length, inv_length, this])
    rw [h4, hh2.1, hh.2]
  have m2 : mul Y X = p ++ c := by
    rw [← joined_mul py px]
    obtain ⟨a2, p2, b2, h1, h2, h3, h4⟩ := @joined_split Y X
    have : p2.length = q.length := by rw [h3, f3]
    have hh := List.append_inj (h2.symm.trans f2) this
    have hh2 := List.append_inj' (h1.symm.trans f1) (by rw [inv_length, inv_length, this])
    rw [h4, hh2.1, hh.2, hpa.1]
  rw [m1] at s1'
  rw [m2] at s2'
  have lz : p.length ≤ a.length := by have := congrArg List.length e1; simp [inv_length] at this; omega
  have lx : q.length ≤ c.length := by have := congrArg List.length f2; simp at this; omega
  have t1 : hlt (q ++ inv a) (p ++ inv a) = false := by
    rw [← (hlt_inv _ _).1, ← (hlt_inv _ _).2] at s1'
    rw [hb, inv_append, inv_inv, e1, inv_append, inv_inv] at s1'
    exact s1'
  rw [f2] at s2'
  cases c1 : lexB p q with
  | true => rw [halfcmp hlpq (by omega) c1] at s2'; cases s2'
  | false =>
    cases c2 : lexB q p with
    | true => rw [halfcmp hlpq.symm (by rw [inv_length]; omega) c2] at t1; cases t1
    | false =>
      have epq := lexB_tri c1 c2
      subst epq
      rw [e2, hb] at py
      cases hp' : p.getLast? with
      | none =>
        rw [List.getLast?_eq_none_iff] at hp'
        apply hny; rw [e2, hb, hp']; rfl
      | some v =>
        obtain ⟨p', rfl⟩ := List.getLast?_eq_some_iff.1 hp'
        rw [inv_snoc] at py
        have h2 : (p' ++ [v]) ++ (-v :: inv p') = p' ++ (v :: -v :: inv p') := by simp
        rw [h2] at py
        exact py.suffix.1 rfl

theorem prod_form {u} (hp : AllPl u) (hz : NZ u) (h : near u = none) : ∀ (r : List (Nat × Bool)) (x : Nat × Bool), RedF u (x :: r) →
    ∃ Q g, prod u (x :: r) = Q ++ (sgn u x).drop g ∧ 2 * g ≤ (sgn u x).length ∧ (r = [] → Q = [] ∧ g = 0) ∧
      (∀ y r', r = y :: r' → g = gone (sgn u y) (sgn u x) ∧ Q ≠ []) := by
  intro r
  induction r with
  | nil =>
    intro x hr
    refine ⟨[], 0, ?_, by omega, fun _ => ⟨rfl, rfl⟩, fun _ _ h => by cases h⟩
    show mul [] (sgn u x) = _
    rw [nil_mul (hp.sgn hr.1)]; rfl
  | cons y r ih =>
    intro x hr
    obtain ⟨Q, g, e, hg, h0, h1⟩ := ih y hr.tail
    have hx := hr.head
    have hy := hr.tail.head
    have hxy : x ≠ flip y := hr.2.2.1
    have ph := pair_half hp hz h hx.1 hy.1 hx.2 hxy
    have hsum : g + gone (sgn u y) (sgn u x) < (sgn u y).length := by
      cases r with
      | nil =>
        have := (h0 rfl).2
        have : (sgn u y).length ≠ 0 := fun e => hy.2 (List.length_eq_zero_iff.1 e)
        omega
      | cons z r' =>
        have h2 := h1 z r' rfl
        have hzz := hr.tail.tail.head
        rw [h2.1]
        exact triple hp hz h hx.1 hy.1 hzz.1 hx.2 hy.2 hxy hr.tail.2.2.1
    obtain ⟨a, p, b, e1, e2, e3, e4⟩ := @gone_split (sgn u y) (sgn u x)
    have la : a.length + p.length = (sgn u y).length := by have := congrArg List.length e1; simp [inv_length] at this; omega
    have hga : g < a.length := by omega
    have hd : (sgn u y).drop g = a.drop g ++ inv p := by rw [e1, List.drop_append_of_le_length (by omega)]
    refine ⟨Q ++ a.drop g, gone (sgn u y) (sgn u x), ?_, ph.1, fun h => (by cases h), ?_⟩
    · have hP : Pl (prod u (y :: r)) := prod_pl u _
      rw [e, hd, ← List.append_assoc] at hP
      show mul (prod u (y :: r)) (sgn u x) = _
      have hb : (sgn u x).drop (gone (sgn u y) (sgn u x)) = b := by rw [← e3, e2]; simp
      rw [hb, e, hd, ← List.append_assoc]
      conv => lhs; rw [e2]
      rw [mul_inv_cancel p b hP]
      refine mul_append_of (pl_join hP.prefix ?_ ?_)
      · have := hp.sgn hx.1; rw [e2] at this; exact this.suffix
      · intro a1 c b1 d h1 h2
        have ha : a.drop g ≠ [] := by
          intro h; have := congrArg List.length h; simp at this; omega
        cases hl : (a.drop g).getLast? with
        | none => rw [List.getLast?_eq_none_iff] at hl; exact absurd hl ha
        | some v =>
          obtain ⟨a2, h3⟩ := List.getLast?_eq_some_iff.1 hl
          rw [h3, ← List.append_assoc] at h1
          have hv : v = c := by have := (List.append_inj' h1 rfl).2; simpa using this
          subst hv
          have h4 : a = (a.take g ++ a2) ++ [v] := by
            rw [List.append_assoc, ← h3]; exact (List.take_append_drop g a).symm
          exact e4 _ _ _ _ h4 h2
    · intro y' r' hh
      cases hh
      refine ⟨rfl, ?_⟩
      intro h
      have := congrArg List.length h
      simp at this; omega

/-- at a stuck tuple a single letter that is made is a signed row -/
theorem letter_row {u} (hp : AllPl u) (hz : NZ u) (h : near u = none) {l : Int} (hg : Gen u [l]) :
    ∃ x : Nat × Bool, x.1 < u.length ∧ sgn u x = [l] := by
  obtain ⟨xs, hr, e⟩ := hg.red hp
  cases xs with
  | nil => cases e
  | cons x r =>
    have hx := hr.head
    obtain ⟨Q, g, e', hg', h0, h1⟩ := prod_form hp hz h r x hr
    have hne : (sgn u x).length ≠ 0 := fun e => hx.2 (List.length_eq_zero_iff.1 e)
    cases r with
    | nil =>
      obtain ⟨rfl, rfl⟩ := h0 rfl
      exact ⟨x, hx.1, by rw [e, e']; rfl⟩
    | cons y r' =>
      have h2 := (h1 y r' rfl).2
      have h3 := congrArg List.length (e.trans e')
      have h4 : Q.length ≠ 0 := fun e => h2 (List.length_eq_zero_iff.1 e)
      simp at h3; omega
end K71

/-! ## Down -/
namespace K71
/-! ## the way down ends in letters -/
def Lets (n : Nat) (u : List Row) : Prop := ∀ i, i < u.length → ∀ x ∈ rows u i, x ≠ 0 ∧ -(n : Int) ≤ x ∧ x ≤ (n : Int)
theorem Lets.nz {n u} (h : Lets n u) : NZ u := fun i hi h0 => (h i hi 0 h0).1 rfl
theorem mem_inv {x : Int} {w : Row} : x ∈ inv w ↔ -x ∈ w := by
  unfold inv
  simp only [List.mem_reverse, List.mem_map]
  constructor
  · rintro ⟨a, ha, e⟩; have : a = -x := by omega
    subst this; exact ha
  · intro h; exact ⟨-x, h, by omega⟩
theorem Lets.sgn {n u} (h : Lets n u) {x : Nat × Bool} (hx : x.1 < u.length) : ∀ y ∈ sgn u x, y ≠ 0 ∧ -(n : Int) ≤ y ∧ y ≤ (n : Int) := by
  intro y hy
  unfold K71.sgn at hy; split at hy
  · exact h _ hx y hy
  · have := h _ hx _ (mem_inv.1 hy); omega
theorem joined_mem {a b : Row} {x : Int} (h : x ∈ joined a b) : x ∈ a ∨ x ∈ b := by
  unfold joined at h
  rcases List.mem_append.1 h with h | h
  · exact .inl (List.mem_of_mem_take h)
  · exact .inr (List.mem_of_mem_drop h)
theorem near_lets {n u c f} (h : near u = some (c, f)) (hl : Lets n u) : Lets n (u.set c.1 f) := by
  obtain ⟨p, o, e, hpl, ho, hne, hll, hn⟩ := near_some h
  rw [e]
  obtain ⟨s, hs⟩ := img_sgn (u := u) hll
  obtain ⟨_, _, hf⟩ := nearer_some.1 hn
  intro i hi x hx
  rw [List.length_set] at hi
  by_cases ei : i = p
  · subst ei
    rw [rows_same f hi, hf] at hx
    have hx' : x ∈ rows u i ∨ x ∈ img u c.2.1 := by
      unfold one two at hx
      cases ha : c.2.2
      · rw [ha] at hx
        rcases joined_mem hx with h | h
        · exact .inl h
        · exact .inr h
      · rw [ha] at hx
        rcases joined_mem hx with h | h
        · exact .inr h
        · exact .inl h
    rcases hx' with hx | hx
    · exact hl i hi x hx
    · rw [hs] at hx; exact hl.sgn ho x hx
  · rw [rows_ne f ei] at hx; exact hl i hi x hx
theorem after_lets {n m u v} (h : after m u = some v) (hl : Lets n u) : Lets n v := by
  induction m generalizing u with
  | zero => cases h; exact hl
  | succ m ih =>
    unfold after at h
    split at h
    · cases h
    · rename_i c f hc; exact ih h (near_lets hc hl)

theorem push_par (f : Row) (x : Int) : (push f x).length % 2 = (f.length + 1) % 2 := by
  unfold push; split
  · rename_i h
    obtain ⟨ys, rfl⟩ := List.getLast?_eq_some_iff.1 h
    simp; omega
  · simp
theorem mul_par (a b : Row) : (mul a b).length % 2 = (a.length + b.length) % 2 := by
  induction b generalizing a with
  | nil => rfl
  | cons x b ih => rw [mul_cons, ih, List.length_cons]; have := push_par a x; omega
theorem gen_even {u} (h : ∀ i, i < u.length → (rows u i).length % 2 = 0) {w} (hw : Gen u w) : w.length % 2 = 0 := by
  induction hw with
  | nil => rfl
  | step x _ hx ih =>
    rw [mul_par]
    have : (sgn u x).length % 2 = 0 := by
      unfold sgn; split
      · exact h _ hx
      · rw [inv_length]; exact h _ hx
    omega
theorem gen_good {u} (hn : u.length ≤ 4) {l : Int} (hg : Gen u [l]) : Good u.length (rows u) := by
  by_cases h3 : u.length ≤ 3
  · exact .inl h3
  · refine .inr ⟨hn, ?_⟩
    refine Classical.byContradiction fun h => ?_
    have : ∀ i, i < u.length → (rows u i).length % 2 = 0 := by
      intro i hi
      rcases Nat.mod_two_eq_zero_or_one (rows u i).length with h' | h'
      · exact h'
      · exact absurd ⟨i, hi, h'⟩ h
    have := gen_even this hg
    simp at this

theorem perm_of {α} [BEq α] [LawfulBEq α] : ∀ {l1 l2 : List α}, l1.Nodup → (∀ x ∈ l1, x ∈ l2) → l2.length ≤ l1.length → l1.Perm l2
  | [], l2, _, _, h => by
    have : l2 = [] := List.length_eq_zero_iff.1 (by simpa using h)
    rw [this]
  | x :: l1, l2, hn, hm, hl => by
    have hx := hm x (List.mem_cons_self ..)
    have hp := List.perm_cons_erase hx
    have hn' := List.nodup_cons.1 hn
    refine (List.Perm.cons x ?_).trans hp.symm
    refine perm_of hn'.2 ?_ ?_
    · intro y hy
      have hne : y ≠ x := fun e => hn'.1 (e ▸ hy)
      exact (List.mem_erase_of_ne hne).2 (hm y (List.mem_cons_of_mem _ hy))
    · have := List.length_erase_of_mem hx
      rw [this]; simp at hl; omega

/-- a renaming in the law's sense: so many plain rows that make every letter -/
structure Ren (n : Nat) (u : List Row) : Prop where
  len : u.length = n
  n1 : 1 ≤ n
  n4 : n ≤ 4
  pl : AllPl u
  lets : Lets n u
  gen : ∀ x : Nat, 1 ≤ x → x ≤ n → Gen u [(x : Int)]

theorem Ren.down {n u} (h : Ren n u) (hw : weight u ≤ 254) : ∃ m v, m ≤ 16711935 ∧ after m u = some v ∧ near v = none ∧ v.length = n ∧
    (∀ r ∈ v, r.length = 1) ∧ (v.map (fun r => (r.headD 0).natAbs)).Perm ((List.range n).map (· + 1)) := by
  have hg1 := h.gen 1 (Nat.le_refl _) h.n1
  have hgood : Good u.length (rows u) := gen_good (by rw [h.len]; exact h.n4) hg1
  obtain ⟨m, v, hm, ha, hn⟩ := ends hgood hw
  have hv := after_gen ha h.pl
  have hl := after_lets ha h.lets
  have hlen : v.length = n := hv.1.trans h.len
  have hnz : NZ v := hl.nz
  let g : Row → Nat := fun r => if r.length = 1 then (r.headD 0).natAbs else 0
  have hmem : ∀ x ∈ (List.range n).map (· + 1), x ∈ v.map g := by
    intro x hx
    obtain ⟨k, hk, rfl⟩ := List.mem_map.1 hx
    have hk' := List.mem_range.1 hk
    have hgen := hv.2.2 _ (h.gen (k + 1) (by omega) (by omega))
    obtain ⟨y, hy, e⟩ := letter_row hv.2.1 hnz hn hgen
    refine List.mem_map.2 ⟨rows v y.1, ?_, ?_⟩
    · unfold rows; rw [List.getD_eq_getElem?_getD, List.getElem?_eq_getElem hy]; exact List.getElem_mem hy
    · have hr : rows v y.1 = [((k + 1 : Nat) : Int)] ∨ rows v y.1 = [-((k + 1 : Nat) : Int)] := by
        unfold sgn at e; split at e
        · exact .inl e
        · right
          have := congrArg inv e
          rw [inv_inv] at this
          rw [this]; rfl
      rcases hr with hr | hr
      · rw [hr]; simp [g]; omega
      · rw [hr]; simp [g]; omega
  have hnd : ((List.range n).map (· + 1)).Nodup := by
    rw [List.nodup_iff_pairwise_ne, List.pairwise_map]
    exact (List.nodup_iff_pairwise_ne.1 List.nodup_range).imp (fun h e => h (by omega))
  have hperm := perm_of hnd hmem (by simp [hlen])
  have hone : ∀ r ∈ v, r.length = 1 := by
    intro r hr
    have h1 : g r ∈ (List.range n).map (· + 1) := hperm.symm.mem_iff.1 (List.mem_map.2 ⟨r, hr, rfl⟩)
    obtain ⟨k, _, e⟩ := List.mem_map.1 h1
    refine Classical.byContradiction fun hne => ?_
    simp only [g, if_neg hne] at e
    omega
  refine ⟨m, v, hm, ha, hn, hlen, hone, ?_⟩
  have : v.map g = v.map (fun r => (r.headD 0).natAbs) := by
    apply List.map_congr_left
    intro r hr; simp [g, hone r hr]
  rw [← this]; exact hperm.symm
end K71

/-! ## Comp -/
namespace K71
/-! ## rows renamed -/
def ren (u : List Row) (w : Row) : Row := pl (w.flatMap (img u))
theorem ren_pl (u w) : Pl (ren u w) := pl_pl _
theorem ren_append (u a b) : ren u (a ++ b) = mul (ren u a) (b.flatMap (img u)) := by
  unfold ren pl; rw [List.flatMap_append, mul_append]
theorem ren_snoc (u w x) : ren u (w ++ [x]) = mul (ren u w) (img u x) := by
  rw [ren_append]; simp
theorem ren_nil (u) : ren u [] = [] := rfl
theorem img_inv (u : List Row) {x : Int} (h : x ≠ 0) : img u (-x) = inv (img u x) := by
  unfold img
  by_cases hx : x > 0
  · rw [if_neg (by omega), if_pos hx]; congr 2; omega
  · rw [if_pos (by omega), if_neg hx, inv_inv]; congr 1; omega
theorem ren_push (u : List Row) {w : Row} {x : Int} (h : x ≠ 0) : ren u (push w x) = mul (ren u w) (img u x) := by
  unfold push; split
  · rename_i hx
    obtain ⟨ys, rfl⟩ := List.getLast?_eq_some_iff.1 hx
    rw [List.dropLast_concat, ren_snoc, img_inv u h, mul_inv_right' _ (ren_pl _ _)]
  · exact ren_snoc u w x
theorem ren_mul (u : List Row) {a b : Row} (h : 0 ∉ b) : ren u (mul a b) = mul (ren u a) (ren u b) := by
  induction b generalizing a with
  | nil => rfl
  | cons x b ih =>
    have hx : x ≠ 0 := fun e => h (by simp [e])
    rw [mul_cons, ih (fun e => h (List.mem_cons_of_mem _ e)), ren_push u hx]
    have e : ren u (x :: b) = mul (ren u [x]) (b.flatMap (img u)) := ren_append u [x] b
    have e1 : ren u b = pl (b.flatMap (img u)) := rfl
    rw [e, e1, mul_plain _ (mul_pl _ (ren_pl _ _)), mul_assoc _ _ (ren_pl _ _)]
    congr 1
    have e2 : ren u [x] = pl (img u x) := by unfold ren; simp
    rw [e2, mul_plain _ (ren_pl _ _)]
theorem ren_plain (u : List Row) {w : Row} (h : 0 ∉ w) : ren u (pl w) = ren u w := by
  unfold pl; rw [ren_mul u h, ren_nil, nil_mul (ren_pl _ _)]
theorem push_mem {f : Row} {x y : Int} (h : y ∈ push f x) : y ∈ f ∨ y = x := by
  unfold push at h; split at h
  · exact .inl (List.dropLast_subset f h)
  · simpa using h
theorem mul_mem {a b : Row} {y : Int} (h : y ∈ mul a b) : y ∈ a ∨ y ∈ b := by
  induction b generalizing a with
  | nil => exact .inl h
  | cons x b ih =>
    rcases ih (a := push a x) h with h | h
    · rcases push_mem h with h | h
      · exact .inl h
      · exact .inr (by simp [h])
    · exact .inr (List.mem_cons_of_mem _ h)
theorem pl_mem {w : Row} {y : Int} (h : y ∈ pl w) : y ∈ w := by
  rcases mul_mem h with h | h
  · cases h
  · exact h
theorem inv_pl (w : Row) : inv (pl w) = pl (inv w) := by
  have := inv_mul (a := []) (b := w) trivial
  rw [inv_nil, mul_nil] at this; exact this
theorem ren_one (u : List Row) (x : Int) : ren u [x] = pl (img u x) := by unfold ren; simp
theorem ren_cons (u : List Row) (x : Int) (w : Row) : ren u (x :: w) = mul (ren u [x]) (ren u w) := by
  have e : ren u (x :: w) = mul (ren u [x]) (w.flatMap (img u)) := ren_append u [x] w
  rw [e]; exact (mul_plain _ (ren_pl _ _)).symm
theorem ren_inv (u : List Row) {w : Row} (h : 0 ∉ w) : ren u (inv w) = inv (ren u w) := by
  induction w with
  | nil => rfl
  | cons x w ih =>
    have hx : x ≠ 0 := fun e => h (by simp [e])
    rw [inv_cons, ren_snoc, ih (fun e => h (List.mem_cons_of_mem _ e)), img_inv u hx, ren_cons, inv_mul (ren_pl _ _),
      pl_of (ren_pl _ _).inv, ren_one, inv_pl, mul_plain _ (ren_pl _ _).inv]

/-- renamed by one and then by the other -/
def comp (a b : List Row) : List Row := a.map (ren b)
theorem rows_comp {a : List Row} (b : List Row) {i : Nat} (h : i < a.length) : rows (comp a b) i = ren b (rows a i) := by
  unfold rows comp; simp [List.getD_eq_getElem?_getD, h]
theorem comp_length (a b) : (comp a b).length = a.length := by simp [comp]
theorem comp_pl (a b) : AllPl (comp a b) := by
  intro i hi
  rw [comp_length] at hi
  rw [rows_comp b hi]; exact ren_pl _ _
theorem sgn_comp {n a b} (ha : Lets n a) {x : Nat × Bool} (hx : x.1 < a.length) : sgn (comp a b) x = ren b (sgn a x) := by
  unfold sgn
  split
  · exact rows_comp b hx
  · rw [rows_comp b hx, ren_inv b (ha.nz _ hx)]
theorem gen_comp {n a b} (ha : Lets n a) {w} (h : Gen a w) : Gen (comp a b) (ren b w) := by
  induction h with
  | nil => exact .nil
  | step x _ hx ih =>
    rw [ren_mul b (ha.nz.sgn hx), ← sgn_comp ha hx]
    exact .step x ih (by rw [comp_length]; exact hx)
theorem img_row {b : List Row} {x : Int} (h : 1 ≤ x) : img b x = rows b (x - 1).toNat := by
  unfold img rows; rw [if_pos (by omega)]
theorem ren_row {b : List Row} (hb : AllPl b) {k : Nat} (h : k < b.length) : ren b [((k + 1 : Nat) : Int)] = rows b k := by
  rw [ren_one, img_row (by omega)]
  have : (((k + 1 : Nat) : Int) - 1).toNat = k := by omega
  rw [this, pl_of (hb k h)]
theorem img_mem {n b} (hb : Lets n b) {x y : Int} (hx : x ≠ 0 ∧ -(b.length : Int) ≤ x ∧ x ≤ b.length) (hy : y ∈ img b x) :
    y ≠ 0 ∧ -(n : Int) ≤ y ∧ y ≤ (n : Int) := by
  unfold img at hy
  split at hy
  · exact hb (x - 1).toNat (by omega) y hy
  · have := hb (0 - x - 1).toNat (by omega) _ (mem_inv.1 hy); omega
theorem Ren.comp {n a b} (ha : Ren n a) (hb : Ren n b) : Ren n (comp a b) := by
  refine ⟨by rw [comp_length]; exact ha.len, ha.n1, ha.n4, comp_pl a b, ?_, ?_⟩
  · intro i hi x hx
    rw [comp_length] at hi
    rw [rows_comp b hi] at hx
    obtain ⟨y, hy, hx'⟩ := List.mem_flatMap.1 (pl_mem hx)
    have := ha.lets i hi y hy
    exact img_mem hb.lets (by rw [hb.len]; exact this) hx'
  · intro x h1 h2
    refine Gen.trans (comp_pl a b) ?_ (hb.gen x h1 h2)
    intro k hk
    have hk' : k < n := by rw [← hb.len]; exact hk
    have := gen_comp (b := b) ha.lets (ha.gen (k + 1) (by omega) (by omega))
    rwa [ren_row hb.pl hk] at this
end K71

/-! ## Base -/
namespace K71
/-! ## turned rows -/
def conj (c w : Row) : Row := pl (c ++ w ++ inv c)
theorem conj_eq (c w : Row) : conj c w = mul (mul (pl c) w) (inv c) := by
  unfold conj pl; rw [mul_append, mul_append]
theorem conj_pl (c w) : Pl (conj c w) := pl_pl _
theorem conj_plain (c w : Row) : conj c (pl w) = conj c w := by rw [conj_eq, conj_eq, mul_plain _ (pl_pl _)]
theorem conj_mul (c : Row) {a b : Row} (ha : Pl a) : mul (conj c a) (conj c b) = conj c (mul a b) := by
  have hc := pl_pl c
  rw [conj_eq, conj_eq, conj_eq, mul_assoc _ _ (mul_pl _ (mul_pl _ hc)), mul_assoc _ _ (mul_pl _ (mul_pl _ hc)),
    mul_plain _ (mul_pl _ (mul_pl _ hc)), mul_inv_right' _ (mul_pl _ hc), mul_assoc _ _ hc]
theorem conj_inv (c : Row) {a : Row} (ha : Pl a) : inv (conj c a) = conj c (inv a) := by
  unfold conj; rw [inv_pl, inv_append, inv_append, inv_inv, List.append_assoc]
theorem conj_nil (c) : conj c [] = [] := by
  unfold conj; rw [List.append_nil]; unfold pl; rw [mul_append]
  have := mul_inv_right (a := []) c trivial; exact this

def ident (n : Nat) : List Row := (List.range n).map (fun k => [((k + 1 : Nat) : Int)])
def inner (n : Nat) (c : Row) : List Row := (List.range n).map (fun k => conj c [((k + 1 : Nat) : Int)])
theorem rows_map {n : Nat} (f : Nat → Row) {i : Nat} (h : i < n) : rows ((List.range n).map f) i = f i := by
  unfold rows; simp [List.getD_eq_getElem?_getD, h]
theorem inner_length (n c) : (inner n c).length = n := by simp [inner]
theorem rows_inner {n c i} (h : i < n) : rows (inner n c) i = conj c [((i + 1 : Nat) : Int)] := rows_map _ h
theorem inner_pl (n c) : AllPl (inner n c) := by
  intro i hi; rw [inner_length] at hi; rw [rows_inner hi]; exact conj_pl _ _
theorem img_inner {n : Nat} {c : Row} {x : Int} (h : x ≠ 0 ∧ -(n : Int) ≤ x ∧ x ≤ n) : img (inner n c) x = conj c [x] := by
  have pos : ∀ x : Int, 0 < x → x ≤ n → img (inner n c) x = conj c [x] := by
    intro x h1 h2
    rw [img_row (by omega), rows_inner (by omega)]
    congr 2; omega
  by_cases hx : 0 < x
  · exact pos x hx h.2.2
  · have := pos (-x) (by omega) (by omega)
    have e : img (inner n c) x = inv (img (inner n c) (-x)) := by
      rw [← img_inv _ (by omega), Int.neg_neg]
    rw [e, this, conj_inv c (a := [-x]) trivial]
    simp [inv]
def Fits (n : Nat) (w : Row) : Prop := ∀ x ∈ w, x ≠ 0 ∧ -(n : Int) ≤ x ∧ x ≤ (n : Int)
theorem Fits.inv {n w} (h : Fits n w) : Fits n (inv w) := by
  intro x hx; have := h _ (mem_inv.1 hx); omega
theorem Fits.append {n a b} (h : Fits n a) (h' : Fits n b) : Fits n (a ++ b) := by
  intro x hx; rcases List.mem_append.1 hx with hx | hx
  · exact h x hx
  · exact h' x hx
theorem Fits.pl {n w} (h : Fits n w) : Fits n (pl w) := fun x hx => h x (pl_mem hx)
theorem Fits.nz {n w} (h : Fits n w) : 0 ∉ w := fun e => (h 0 e).1 rfl
theorem Fits.conj {n c w} (h : Fits n c) (h' : Fits n w) : Fits n (conj c w) := ((h.append h').append h.inv).pl
theorem ren_inner {n c w} (h : Fits n w) : ren (inner n c) w = conj c w := by
  have : ∀ w : Row, Fits n w → ren (inner n c) w = conj c (pl w) := by
    intro w
    induction w with
    | nil => intro _; rw [ren_nil]; exact (conj_nil c).symm
    | cons x w ih =>
      intro h
      have hx := h x (List.mem_cons_self ..)
      rw [ren_cons, ih (fun y hy => h y (List.mem_cons_of_mem _ hy)), ren_one, img_inner hx, pl_of (conj_pl _ _), conj_mul c (a := [x]) trivial]
      congr 1
      rw [mul_plain _ (a := [x]) trivial]
      show _ = mul (push [] x) w
      rfl
  rw [this w h, conj_plain]

theorem Ren.of {n : Nat} {u : List Row} (hl : u.length = n) (h1 : 1 ≤ n) (h4 : n ≤ 4) (hp : AllPl u) (hs : ∀ i, i < n → Fits n (rows u i))
    (hg : ∀ x : Nat, 1 ≤ x → x ≤ n → Gen u [(x : Int)]) : Ren n u :=
  ⟨hl, h1, h4, hp, fun i hi => hs i (by rw [← hl]; exact hi), hg⟩
theorem fits_one {n : Nat} {x : Int} (h : x ≠ 0 ∧ -(n : Int) ≤ x ∧ x ≤ (n : Int)) : Fits n [x] := by
  intro y hy; simp at hy; subst hy; exact h

/-- every letter stands alone in some row, itself or undone -/
theorem Ren.singles {n : Nat} {u : List Row} (hl : u.length = n) (h1 : 1 ≤ n) (h4 : n ≤ 4)
    (hs : ∀ i, i < n → ∃ x : Int, rows u i = [x] ∧ x ≠ 0 ∧ -(n : Int) ≤ x ∧ x ≤ n)
    (hg : ∀ x : Nat, 1 ≤ x → x ≤ n → ∃ i, i < n ∧ (rows u i = [(x : Int)] ∨ rows u i = [-(x : Int)])) : Ren n u := by
  have hp : AllPl u := by
    intro i hi; obtain ⟨x, e, _⟩ := hs i (by omega); rw [e]; trivial
  refine Ren.of hl h1 h4 hp ?_ ?_
  · intro i hi; obtain ⟨x, e, h⟩ := hs i hi; rw [e]; exact fits_one h
  · intro x hx hx'
    obtain ⟨i, hi, e⟩ := hg x hx hx'
    rcases e with e | e
    · have := Gen.row hp (x := (i, true)) (by rw [hl]; exact hi)
      unfold sgn at this; rwa [if_pos rfl, e] at this
    · have := Gen.row hp (x := (i, false)) (by rw [hl]; exact hi)
      unfold sgn at this
      rw [if_neg (by simp), e] at this
      simpa [K71.inv] using this
theorem Ren.ident {n} (h1 : 1 ≤ n) (h4 : n ≤ 4) : Ren n (ident n) := by
  refine Ren.singles (by simp [K71.ident]) h1 h4 ?_ ?_
  · intro i hi; exact ⟨((i + 1 : Nat) : Int), rows_map _ hi, by omega, by omega, by omega⟩
  · intro x hx hx'
    refine ⟨x - 1, by omega, .inl ?_⟩
    have := rows_map (fun k => [((k + 1 : Nat) : Int)]) (n := n) (i := x - 1) (by omega)
    unfold K71.ident; rw [this]
    have e : x - 1 + 1 = x := by omega
    simp only [e]

/-- a letter d that stays in its row, every other letter in its row with what is made of d about it -/
theorem Ren.about {n : Nat} {u : List Row} (hl : u.length = n) (h1 : 1 ≤ n) (h4 : n ≤ 4) (hp : AllPl u) (hs : ∀ i, i < n → Fits n (rows u i))
    (hg : ∀ i, i < n → ∃ a b, Gen u a ∧ Gen u b ∧ rows u i = mul (mul a [((i + 1 : Nat) : Int)]) b) : Ren n u := by
  refine Ren.of hl h1 h4 hp hs ?_
  intro x hx hx'
  obtain ⟨a, b, ga, gb, e⟩ := hg (x - 1) (by omega)
  have gr := Gen.row hp (x := (x - 1, true)) (by rw [hl]; show x - 1 < n; omega)
  unfold sgn at gr; rw [if_pos rfl] at gr
  simp only [] at gr
  have ex : ((x - 1 + 1 : Nat) : Int) = (x : Int) := by omega
  rw [ex] at e
  have g := ((ga.inv hp).mul gr).mul (gb.inv hp)
  have e2 : mul (mul (inv a) (rows u (x - 1))) (inv b) = [(x : Int)] := by
    rw [e]
    have hai := ga.pl.inv
    rw [mul_assoc _ _ hai, mul_inv_right _ (mul_pl _ hai), mul_assoc _ _ hai]
    have := mul_inv_self' a
    rw [pl_of hai] at this
    rw [this]; rfl
  rwa [e2] at g
theorem conj_one_self {l : Int} : conj [l] [l] = [l] := by
  rw [conj_eq]
  show mul (mul (pl [l]) [l]) [-l] = [l]
  have : mul (mul (pl [l]) [l]) (inv [l]) = pl [l] := mul_inv_right _ (pl_pl _)
  exact this
theorem conj_one_undo {l : Int} : conj [l] [-l] = [-l] := by
  have := conj_inv [l] (a := [l]) trivial
  rw [conj_one_self] at this
  exact this.symm
theorem Ren.inner1 {n : Nat} (h1 : 1 ≤ n) (h4 : n ≤ 4) {l : Int} (h : l ≠ 0 ∧ -(n : Int) ≤ l ∧ l ≤ n) : Ren n (inner n [l]) := by
  have hp := inner_pl n [l]
  have gl : Gen (inner n [l]) [l] := by
    have hi : l.natAbs - 1 < n := by omega
    have gr := Gen.row hp (x := (l.natAbs - 1, true)) (by rw [inner_length]; exact hi)
    unfold sgn at gr; rw [if_pos rfl] at gr
    simp only [] at gr
    rw [rows_inner hi] at gr
    by_cases hl : 0 < l
    · have e : ((l.natAbs - 1 + 1 : Nat) : Int) = l := by omega
      rw [e, conj_one_self] at gr; exact gr
    · have e : ((l.natAbs - 1 + 1 : Nat) : Int) = -l := by omega
      rw [e, conj_one_undo] at gr
      have := gr.inv hp
      simpa [K71.inv] using this
  refine Ren.about (inner_length n [l]) h1 h4 hp ?_ ?_
  · intro i hi; rw [rows_inner hi]; exact (fits_one h).conj (fits_one (by omega))
  · intro i hi
    refine ⟨[l], [-l], gl, ?_, ?_⟩
    · have := gl.inv hp; simpa [K71.inv] using this
    · rw [rows_inner hi, conj_eq]; rfl
theorem conj_append (a b w : Row) : conj (a ++ b) w = conj a (conj b w) := by
  have e : conj a (conj b w) = conj a (b ++ w ++ inv b) := conj_plain a _
  rw [e]; unfold conj; rw [inv_append]; simp
theorem comp_inner {n a c} (hl : Lets n a) : comp a (inner n c) = a.map (conj c) := by
  unfold comp
  apply List.map_congr_left
  intro r hr
  obtain ⟨i, hi, e⟩ := List.getElem_of_mem hr
  refine ren_inner ?_
  have := hl i hi
  unfold rows at this
  rw [List.getD_eq_getElem?_getD, List.getElem?_eq_getElem hi] at this
  simp only [Option.getD_some, e] at this
  exact this
theorem Ren.inner {n : Nat} (h1 : 1 ≤ n) (h4 : n ≤ 4) {c : Row} (h : Fits n c) : Ren n (inner n c) := by
  induction c with
  | nil =>
    have : K71.inner n [] = K71.ident n := by
      unfold K71.inner K71.ident
      apply List.map_congr_left
      intro k _; rfl
    rw [this]; exact Ren.ident h1 h4
  | cons l c ih =>
    have hc := ih (fun x hx => h x (List.mem_cons_of_mem _ hx))
    have hl := Ren.inner1 h1 h4 (h l (List.mem_cons_self ..))
    have e : K71.comp (K71.inner n c) (K71.inner n [l]) = K71.inner n (l :: c) := by
      rw [comp_inner hc.lets]
      unfold K71.inner
      rw [List.map_map]
      apply List.map_congr_left
      intro k _
      exact (conj_append [l] c _).symm
    rw [← e]; exact hc.comp hl
theorem Ren.turned {n u c} (h : Ren n u) (hc : Fits n c) : Ren n (u.map (conj c)) := by
  rw [← comp_inner h.lets]; exact h.comp (Ren.inner h.n1 h.n4 hc)

/-- one letter put behind one row -/
theorem Ren.behind {n : Nat} {u : List Row} (hl : u.length = n) (h1 : 1 ≤ n) (h4 : n ≤ 4) {o : Nat} {s : Int} (ho : o < n)
    (hs : s ≠ 0 ∧ -(n : Int) ≤ s ∧ s ≤ n) (hne : s.natAbs ≠ o + 1) (hrow : rows u o = [((o + 1 : Nat) : Int), s])
    (hoth : ∀ i, i < n → i ≠ o → rows u i = [((i + 1 : Nat) : Int)]) : Ren n u := by
  have hp : AllPl u := by
    intro i hi
    rw [hl] at hi
    by_cases e : i = o
    · subst e; rw [hrow]; exact ⟨by omega, trivial⟩
    · rw [hoth i hi e]; trivial
  have gs : Gen u [s] := by
    have hi : s.natAbs - 1 < n := by omega
    have gr := Gen.row hp (x := (s.natAbs - 1, true)) (by rw [hl]; exact hi)
    unfold sgn at gr; rw [if_pos rfl] at gr
    simp only [] at gr
    rw [hoth _ hi (by omega)] at gr
    by_cases h0 : 0 < s
    · have e : ((s.natAbs - 1 + 1 : Nat) : Int) = s := by omega
      rwa [e] at gr
    · have e : ((s.natAbs - 1 + 1 : Nat) : Int) = -s := by omega
      rw [e] at gr
      have := gr.inv hp
      simpa [K71.inv] using this
  refine Ren.about hl h1 h4 hp ?_ ?_
  · intro i hi
    by_cases e : i = o
    · subst e; rw [hrow]
      intro x hx; simp at hx
      rcases hx with rfl | rfl
      · omega
      · exact hs
    · rw [hoth i hi e]; exact fits_one (by omega)
  · intro i hi
    by_cases e : i = o
    · subst e
      refine ⟨[], [s], .nil, gs, ?_⟩
      rw [hrow]
      have : Pl ([((i + 1 : Nat) : Int)] ++ [s]) := by
        have := hp i (by omega); rw [hrow] at this; exact this
      have h2 := mul_append_of this
      exact h2.symm
    · refine ⟨[], [], .nil, .nil, ?_⟩
      rw [hoth i hi e]; rfl

/-- a letter behind some rows and its undo ahead -/
theorem Ren.aboutLetter {n : Nat} {u : List Row} (hl : u.length = n) (h1 : 1 ≤ n) (h4 : n ≤ 4) {l : Int} (h : l ≠ 0 ∧ -(n : Int) ≤ l ∧ l ≤ n)
    (hself : rows u (l.natAbs - 1) = [(l.natAbs : Int)])
    (hoth : ∀ i, i < n → rows u i = [((i + 1 : Nat) : Int)] ∨ (i + 1 ≠ l.natAbs ∧ rows u i = [-l, ((i + 1 : Nat) : Int), l])) : Ren n u := by
  have hp : AllPl u := by
    intro i hi
    rw [hl] at hi
    rcases hoth i hi with e | ⟨hne, e⟩
    · rw [e]; trivial
    · rw [e]; exact ⟨by omega, by omega, trivial⟩
  have gl : Gen u [l] := by
    have hi : l.natAbs - 1 < n := by omega
    have gr := Gen.row hp (x := (l.natAbs - 1, true)) (by rw [hl]; exact hi)
    unfold sgn at gr; rw [if_pos rfl] at gr
    simp only [] at gr
    rw [hself] at gr
    by_cases h0 : 0 < l
    · have e : ((l.natAbs : Nat) : Int) = l := by omega
      rwa [e] at gr
    · have e : ((l.natAbs : Nat) : Int) = -l := by omega
      rw [e] at gr
      have := gr.inv hp
      simpa [K71.inv] using this
  have gl' : Gen u [-l] := by have := gl.inv hp; simpa [K71.inv] using this
  refine Ren.about hl h1 h4 hp ?_ ?_
  · intro i hi
    rcases hoth i hi with e | ⟨hne, e⟩
    · rw [e]; exact fits_one (by omega)
    · rw [e]
      intro x hx; simp at hx
      rcases hx with rfl | rfl | rfl <;> omega
  · intro i hi
    rcases hoth i hi with e | ⟨hne, e⟩
    · exact ⟨[], [], .nil, .nil, by rw [e]; rfl⟩
    · refine ⟨[-l], [l], gl', gl, ?_⟩
      have hpl : Pl [-l, ((i + 1 : Nat) : Int), l] := by rw [← e]; exact hp i (by omega)
      have h2 : mul [-l] [((i + 1 : Nat) : Int), l] = [-l, ((i + 1 : Nat) : Int), l] := mul_append_of (a := [-l]) hpl
      have h3 : mul [-l] [((i + 1 : Nat) : Int), l] = mul (mul [-l] [((i + 1 : Nat) : Int)]) [l] := mul_append [-l] [((i + 1 : Nat) : Int)] [l]
      rw [e, ← h2, h3]
end K71

/-! ## Core -/
namespace K71
/-! ## the core of a plain row, and turned rows -/
def core (w : Row) : Row :=
  match w with
  | [] => []
  | a :: r => if r.getLast? = some (-a) then core r.dropLast else a :: r
termination_by w.length
decreasing_by simp; omega
theorem core_nil : core [] = [] := by rw [core]
theorem core_strip (a : Int) (m : Row) : core (a :: (m ++ [-a])) = core m := by
  rw [core]; simp
theorem core_stop {a : Int} {r : Row} (h : r.getLast? ≠ some (-a)) : core (a :: r) = a :: r := by
  rw [core, if_neg h]
/-- no letter at the front is undone at the end -/
def Cyc (v : Row) : Prop := ∀ a m, v ≠ a :: (m ++ [-a])
theorem Cyc.core {v : Row} (h : Cyc v) : core v = v := by
  cases v with
  | nil => exact core_nil
  | cons a r =>
    refine core_stop ?_
    intro e
    obtain ⟨m, rfl⟩ := List.getLast?_eq_some_iff.1 e
    exact h a m rfl
theorem core_spec (w : Row) : ∃ h, w = h ++ core w ++ inv h ∧ Cyc (core w) := by
  have : ∀ n (w : Row), w.length ≤ n → ∃ h, w = h ++ core w ++ inv h ∧ Cyc (core w) := by
    intro n
    induction n with
    | zero =>
      intro w h
      have : w = [] := List.length_eq_zero_iff.1 (by omega)
      subst this
      exact ⟨[], by rw [core_nil]; rfl, by rw [core_nil]; intro a m h; cases h⟩
    | succ n ih =>
      intro w h
      cases w with
      | nil => exact ⟨[], by rw [core_nil]; rfl, by rw [core_nil]; intro a m h; cases h⟩
      | cons a r =>
        by_cases e : r.getLast? = some (-a)
        · obtain ⟨m, rfl⟩ := List.getLast?_eq_some_iff.1 e
          obtain ⟨k, h1, h2⟩ := ih m (by simp at h; omega)
          rw [core_strip]
          refine ⟨a :: k, ?_, h2⟩
          rw [inv_cons]
          conv => lhs; rw [h1]
          simp
        · rw [core_stop e]
          refine ⟨[], by simp [inv_nil], ?_⟩
          intro b m hh
          injection hh with h1 h2
          subst h1; subst h2
          exact e (by simp)
  exact this _ w (Nat.le_refl _)
theorem core_of {h v : Row} (hv : Cyc v) : core (h ++ v ++ inv h) = v := by
  induction h with
  | nil => simp [inv_nil, hv.core]
  | cons a h ih =>
    have : a :: h ++ v ++ inv (a :: h) = a :: ((h ++ v ++ inv h) ++ [-a]) := by rw [inv_cons]; simp
    rw [this, core_strip, ih]

def Rot (v w : Row) : Prop := ∃ a b, v = a ++ b ∧ w = b ++ a
theorem Rot.refl (v : Row) : Rot v v := ⟨v, [], by simp, by simp⟩
theorem Rot.symm {v w} (h : Rot v w) : Rot w v := by obtain ⟨a, b, h1, h2⟩ := h; exact ⟨b, a, h2, h1⟩
theorem Rot.trans {v w x} (h : Rot v w) (h' : Rot w x) : Rot v x := by
  obtain ⟨a, b, rfl, rfl⟩ := h
  obtain ⟨c, d, e, rfl⟩ := h'
  rcases List.append_eq_append_iff.1 e with ⟨k, h1, h2⟩ | ⟨k, h1, h2⟩
  · subst h1; subst h2; exact ⟨k, d ++ b, by simp, by simp⟩
  · subst h1; subst h2; exact ⟨a ++ c, k, by simp, by simp⟩
theorem Rot.length {v w} (h : Rot v w) : v.length = w.length := by
  obtain ⟨a, b, rfl, rfl⟩ := h; simp; omega

theorem conj_one (l : Int) (w : Row) : conj [l] w = push (mul [l] w) (-l) := by
  rw [conj_eq]; rfl
theorem mul_one_undo {l : Int} {w : Row} (h : Pl w) : mul [l] (-l :: w) = w := by
  rw [mul_cons]
  have : push [l] (-l) = [] := by unfold push; simp
  rw [this, nil_mul h]
theorem mul_one_join {l : Int} {w : Row} (h : Pl w) (hh : w.head? ≠ some (-l)) : mul [l] w = l :: w := by
  refine mul_append_of (a := [l]) ?_
  cases w with
  | nil => trivial
  | cons b r => exact ⟨fun e => hh (by simp [e]), h⟩

/-- turning by a letter turns the core about -/
theorem core_conj_one {w : Row} (l : Int) (hw : Pl w) : Rot (core w) (core (conj [l] w)) := by
  obtain ⟨h, e, hc⟩ := core_spec w
  generalize hv : core w = v at e hc
  have hvp : Pl v := by
    rw [e] at hw; exact hw.prefix.suffix
  rw [conj_one]
  cases h with
  | nil =>
    have e' : w = v := by rw [e]; simp [inv_nil]
    rw [e']
    clear e e' hv
    by_cases h0 : v = []
    · subst h0
      have h3 : push (mul [l] []) (-l) = [] := by rw [mul_nil]; unfold push; simp
      rw [h3, core_nil]; exact Rot.refl _
    by_cases h1 : v.head? = some (-l)
    · cases v with
      | nil => cases h1
      | cons b r =>
        simp only [List.head?_cons, Option.some.injEq] at h1
        subst h1
        rw [mul_one_undo hvp.tail]
        have h2 : r.getLast? ≠ some (- -l) := by
          intro e
          obtain ⟨m, rfl⟩ := List.getLast?_eq_some_iff.1 e
          exact hc (-l) m rfl
        have h3 : push r (-l) = r ++ [-l] := by unfold push; rw [if_neg h2]
        have h4 : Cyc (r ++ [-l]) := by
          intro a m e
          cases r with
          | nil => simp at e
          | cons c r' =>
            injection e with e1 e2
            have e3 := (List.append_inj' e2 rfl).2
            have e4 : a = l := by simp at e3; omega
            subst e1; subst e4
            exact hvp.1 (by omega)
        rw [h3, h4.core]
        exact ⟨[-l], r, rfl, rfl⟩
    · rw [mul_one_join hvp h1]
      by_cases h2 : v.getLast? = some l
      · obtain ⟨m, rfl⟩ := List.getLast?_eq_some_iff.1 h2
        have h3 : push (l :: (m ++ [l])) (-l) = l :: m := by
          have e : l :: (m ++ [l]) = (l :: m) ++ [l] := rfl
          unfold push
          rw [e, List.getLast?_concat, if_pos (by rw [Int.neg_neg]), List.dropLast_concat]
        have h4 : Cyc (l :: m) := by
          intro a k e
          injection e with e1 e2
          subst e1; subst e2
          have : (k ++ [-l]) ++ [l] = k ++ (-l :: [l]) := by simp
          rw [this] at hvp
          exact hvp.suffix.1 (by omega)
        rw [h3, h4.core]
        exact ⟨m, [l], rfl, rfl⟩
      · have h3 : push (l :: v) (-l) = l :: (v ++ [-l]) := by
          unfold push
          rw [if_neg]
          · rfl
          · intro e
            rw [Int.neg_neg] at e
            cases v with
            | nil => exact h0 rfl
            | cons b r => rw [List.getLast?_cons_cons] at e; exact h2 e
        rw [h3, core_strip, hc.core]
        exact Rot.refl v
  | cons a h' =>
    have hrest : w = a :: (h' ++ v ++ inv h' ++ [-a]) := by rw [e, inv_cons]; simp
    by_cases h1 : a = -l
    · subst h1
      rw [hrest, mul_one_undo (by rw [hrest] at hw; exact hw.tail)]
      have h3 : push (h' ++ v ++ inv h' ++ [- -l]) (-l) = h' ++ v ++ inv h' := by
        unfold push; rw [if_pos (by rw [List.getLast?_concat]), List.dropLast_concat]
      rw [h3, core_of hc]
      exact Rot.refl v
    · rw [mul_one_join hw (by rw [hrest]; simp; exact h1)]
      have h3 : push (l :: w) (-l) = l :: (w ++ [-l]) := by
        unfold push
        rw [if_neg]
        · rfl
        · intro e'
          rw [hrest] at e'
          have : (l :: a :: (h' ++ v ++ inv h' ++ [-a])).getLast? = some (-a) := by
            have : l :: a :: (h' ++ v ++ inv h' ++ [-a]) = (l :: a :: (h' ++ v ++ inv h')) ++ [-a] := by simp
            rw [this, List.getLast?_concat]
          rw [this] at e'
          injection e' with e'
          exact h1 (by omega)
      rw [h3, core_strip, hv]
      exact Rot.refl v
end K71

/-! ## Inner -/
namespace K71
theorem core_conj (c : Row) {w : Row} (hw : Pl w) : Rot (core w) (core (conj c w)) := by
  induction c with
  | nil =>
    have : conj [] w = w := by unfold conj; simp [inv_nil, pl_of hw]
    rw [this]; exact Rot.refl _
  | cons l c ih =>
    rw [show l :: c = [l] ++ c from rfl, conj_append]
    exact ih.trans (core_conj_one l (conj_pl c w))
theorem mul_inv_pl {a : Row} (c : Row) (h : Pl a) : mul a (inv (pl c)) = mul a (inv c) := by
  rw [inv_pl, mul_plain _ h]
theorem conj_by_pl (c w : Row) : conj (pl c) w = conj c w := by
  rw [conj_eq, conj_eq, pl_of (pl_pl c), mul_inv_pl c (mul_pl _ (pl_pl c))]

/-! ## rows of one letter -/
def Same (x : Int) (p : Row) : Prop := ∀ z ∈ p, z = x ∨ z = -x
theorem Same.inv {x p} (h : Same x p) : Same x (inv p) := by
  intro z hz; have := h _ (mem_inv.1 hz); omega
theorem Same.mul {x a b} (ha : Same x a) (hb : Same x b) : Same x (mul a b) := by
  intro z hz; rcases mul_mem hz with h | h
  · exact ha z h
  · exact hb z h
theorem Same.pl {x a} (ha : Same x a) : Same x (pl a) := fun z hz => ha z (pl_mem hz)
theorem conj_same {x : Int} {p : Row} (h : Same x p) : conj p [x] = [x] := by
  induction p with
  | nil => rfl
  | cons z p ih =>
    rw [show z :: p = [z] ++ p from rfl, conj_append, ih (fun y hy => h y (List.mem_cons_of_mem _ hy))]
    rcases h z (List.mem_cons_self ..) with rfl | rfl
    · exact conj_one_self
    · have := conj_one_undo (l := -x); rw [Int.neg_neg] at this; exact this
theorem split_front (x : Int) (g : Row) : ∃ p r, g = p ++ r ∧ Same x p ∧ (∀ z r', r = z :: r' → z ≠ x ∧ z ≠ -x) := by
  induction g with
  | nil => exact ⟨[], [], rfl, (fun _ h => by cases h), (fun _ _ h => by cases h)⟩
  | cons z g ih =>
    by_cases hz : z = x ∨ z = -x
    · obtain ⟨p, r, e, h1, h2⟩ := ih
      refine ⟨z :: p, r, by rw [e]; rfl, ?_, h2⟩
      intro y hy; cases hy with
      | head => exact hz
      | tail _ hy => exact h1 y hy
    · refine ⟨[], z :: g, rfl, (fun _ h => by cases h), ?_⟩
      intro y r' e; injection e with e1 _; subst e1; omega
theorem split_back (x : Int) (g : Row) : ∃ r q, g = r ++ q ∧ Same x q ∧ (∀ z r', r = r' ++ [z] → z ≠ x ∧ z ≠ -x) := by
  obtain ⟨p, r, e, h1, h2⟩ := split_front x (inv g)
  refine ⟨inv r, inv p, ?_, h1.inv, ?_⟩
  · rw [← inv_append, ← e, inv_inv]
  · intro z r' h
    have h3 : r = -z :: inv r' := by rw [← inv_inv r, h, inv_snoc]
    have := h2 _ _ h3
    omega
/-- a turned letter whose row does not end with it is written as it stands -/
theorem conj_raw {m : Row} {y : Int} (hm : Pl m) (hend : ∀ z r', m = r' ++ [z] → z ≠ y ∧ z ≠ -y) : conj m [y] = m ++ [y] ++ inv m ∧ Pl (m ++ [y] ++ inv m) := by
  have h1 : Pl (m ++ [y]) := by
    refine pl_snoc.2 ⟨hm, ?_⟩
    intro e
    obtain ⟨r', e'⟩ := List.getLast?_eq_some_iff.1 e
    exact (hend _ _ e').2 rfl
  have h2 : Pl (m ++ [y] ++ inv m) := by
    refine pl_join h1 hm.inv ?_
    intro a' c b' d e1 e2
    have hc : c = y := by have := (List.append_inj' e1 rfl).2; simpa using this.symm
    have hm' : m = inv b' ++ [-d] := by rw [← inv_inv m, e2, inv_cons]
    have := hend _ _ hm'
    omega
  refine ⟨?_, h2⟩
  unfold conj; exact pl_of h2

/-- the pair's ring has two letters only if what stands between is some of the one and then some of the other -/
theorem pair_two {x y : Int} {g : Row} (hg : Pl g) (hx : x ≠ 0) (h : (core (mul [x] (conj g [y]))).length = 2) :
    ∃ p q, g = p ++ q ∧ Same x p ∧ Same y q := by
  obtain ⟨p, r, e, hp, hr⟩ := split_front x g
  obtain ⟨m, q, e', hq, hm⟩ := split_back y r
  by_cases hm0 : m = []
  · subst hm0; exact ⟨p, q, by rw [e, e']; rfl, hp, hq⟩
  · exfalso
    have hmp : Pl m := by rw [e, e'] at hg; exact hg.suffix.prefix
    obtain ⟨c1, c2⟩ := conj_raw hmp hm
    have e1 : conj g [y] = conj p (conj m [y]) := by
      rw [e, e', conj_append, conj_append, conj_same hq]
    have hfront : ∀ z r', m = z :: r' → z ≠ x ∧ z ≠ -x := by
      intro z r' e2; exact hr z (r' ++ q) (by rw [e', e2]; rfl)
    have e2 : mul [x] (conj g [y]) = conj p (mul [x] (conj m [y])) := by
      rw [e1, ← conj_mul p (a := [x]) trivial, conj_same hp]
    have hpl : Pl (mul [x] (conj m [y])) := mul_pl _ trivial
    have h3 := (core_conj p hpl).length
    rw [← e2, h] at h3
    cases m with
    | nil => exact hm0 rfl
    | cons z r' =>
      have hz := hfront z r' rfl
      have e3 : mul [x] (conj (z :: r') [y]) = x :: (z :: r' ++ [y] ++ inv (z :: r')) := by
        rw [c1]
        exact mul_one_join c2 (by simp; exact hz.2)
      rw [e3, inv_cons, core_stop] at h3
      · simp at h3
      · have : z :: r' ++ [y] ++ (inv r' ++ [-z]) = (z :: r' ++ [y] ++ inv r') ++ [-z] := by simp
        rw [this, List.getLast?_concat]
        intro e; injection e with e; exact hz.1 (by omega)

/-! ## images that keep the rings are turned letters -/
structure Keeps (n : Nat) (u : List Row) : Prop where
  one : ∀ i, i < n → core (rows u i) = [((i + 1 : Nat) : Int)]
  two : ∀ i j, i < j → j < n → (core (mul (rows u i) (rows u j))).length = 2 ∧
    (core (mul (rows u i) (inv (rows u j)))).length = 2

theorem keeps_inner {n : Nat} {c : Row} : Keeps n (inner n c) := by
  constructor
  · intro i hi
    rw [rows_inner hi]
    have h1 := core_conj c (w := [((i + 1 : Nat) : Int)]) trivial
    have h2 : core [((i + 1 : Nat) : Int)] = [((i + 1 : Nat) : Int)] := core_stop (by simp)
    rw [h2] at h1
    obtain ⟨a, b, e1, e2⟩ := h1
    cases a with
    | nil => rw [e2, e1]; simp
    | cons z a =>
      have hl := congrArg List.length e1
      simp only [List.length_cons, List.length_nil, List.length_append, List.cons_append] at hl
      obtain ⟨rfl, rfl⟩ : a = [] ∧ b = [] := ⟨List.length_eq_zero_iff.1 (by omega), List.length_eq_zero_iff.1 (by omega)⟩
      rw [e2, e1]; rfl
  · intro i j hij hj
    have hi : i < n := by omega
    rw [rows_inner hi, rows_inner hj, conj_inv c (a := [((j + 1 : Nat) : Int)]) trivial, conj_mul c (a := [((i + 1 : Nat) : Int)]) trivial, conj_mul c (a := [((i + 1 : Nat) : Int)]) trivial]
    have key : ∀ s : Int, s ≠ -((i + 1 : Nat) : Int) → (core (conj c (mul [((i + 1 : Nat) : Int)] [s]))).length = 2 := by
      intro s hs
      have e : mul [((i + 1 : Nat) : Int)] [s] = [((i + 1 : Nat) : Int), s] := mul_append_of (a := [((i + 1 : Nat) : Int)]) ⟨hs, trivial⟩
      have h1 := (core_conj c (w := mul [((i + 1 : Nat) : Int)] [s]) (mul_pl _ trivial)).length
      rw [← h1, e, core_stop (by simp; exact hs)]; rfl
    constructor
    · exact key _ (by omega)
    · exact key (-((j + 1 : Nat) : Int)) (by omega)

theorem keeps_row {n u i} (h : Keeps n u) (hi : i < n) : ∃ k, rows u i = k ++ [((i + 1 : Nat) : Int)] ++ inv k := by
  obtain ⟨k, e, _⟩ := core_spec (rows u i)
  rw [h.one i hi] at e; exact ⟨k, e⟩

theorem pair_form {n u i j} (hp : AllPl u) (hl : u.length = n) (h : Keeps n u) (hij : i < j) (hj : j < n) {a b : Row}
    (ha : rows u i = a ++ [((i + 1 : Nat) : Int)] ++ inv a) (hb : rows u j = b ++ [((j + 1 : Nat) : Int)] ++ inv b) :
    ∃ p q, pl (inv a ++ b) = p ++ q ∧ Same ((i + 1 : Nat) : Int) p ∧ Same ((j + 1 : Nat) : Int) q := by
  have hi : i < n := by omega
  have pa : Pl (rows u i) := hp i (by omega)
  have pb : Pl (rows u j) := hp j (by omega)
  have ea : rows u i = conj a [((i + 1 : Nat) : Int)] := by unfold conj; rw [← ha]; exact (pl_of pa).symm
  have eb : rows u j = conj b [((j + 1 : Nat) : Int)] := by unfold conj; rw [← hb]; exact (pl_of pb).symm
  have h2 := (h.two i j hij hj).1
  have e1 : conj b [((j + 1 : Nat) : Int)] = conj a (conj (inv a ++ b) [((j + 1 : Nat) : Int)]) := by
    rw [← conj_append, ← conj_by_pl b, ← conj_by_pl (a ++ (inv a ++ b))]
    congr 1
    unfold pl
    rw [mul_append, mul_append]
    have := mul_inv_self a
    unfold pl at this
    rw [this]
  rw [ea, eb, e1, conj_mul a (a := [((i + 1 : Nat) : Int)]) trivial] at h2
  rw [← (core_conj a (mul_pl (a := [((i + 1 : Nat) : Int)]) _ trivial)).length, ← conj_by_pl (inv a ++ b)] at h2
  exact pair_two (pl_pl _) (by omega) h2

theorem same_empty {x : Int} {w a b : Row} {y z : Int} (h : Same x w) (e : w = mul a b) (ha : Same y a) (hb : Same z b)
    (h1 : x.natAbs ≠ y.natAbs) (h2 : x.natAbs ≠ z.natAbs) : w = [] := by
  cases w with
  | nil => rfl
  | cons v w =>
    exfalso
    have hv := h v (List.mem_cons_self ..)
    have : v ∈ mul a b := by rw [← e]; exact List.mem_cons_self ..
    rcases mul_mem this with hm | hm
    · have := ha v hm; omega
    · have := hb v hm; omega

theorem inner_of_keeps {n u} (hp : AllPl u) (hl : u.length = n) (h1 : 1 ≤ n) (hlet : Lets n u) (h : Keeps n u) : ∃ c, u = inner n c := by
  have hrows : ∀ c, (∀ i, i < n → rows u i = conj c [((i + 1 : Nat) : Int)]) → u = inner n c := by
    intro c hc
    apply List.ext_getElem (by rw [hl, inner_length])
    intro i h3 h4
    have e1 := hc i (by omega)
    have e2 := rows_inner (n := n) (c := c) (i := i) (by omega)
    unfold rows at e1 e2
    rw [List.getD_eq_getElem?_getD, List.getElem?_eq_getElem h3] at e1
    rw [List.getD_eq_getElem?_getD, List.getElem?_eq_getElem h4] at e2
    simp only [Option.getD_some] at e1 e2
    rw [e1, e2]
  obtain ⟨a, ha⟩ := keeps_row h (i := 0) (by omega)
  have pa : Pl (rows u 0) := hp 0 (by omega)
  have ea : rows u 0 = conj a [((0 + 1 : Nat) : Int)] := by unfold conj; rw [← ha]; exact (pl_of pa).symm
  by_cases hn : n = 1
  · exact ⟨a, hrows a (fun i hi => by have : i = 0 := by omega
                                      subst this; exact ea)⟩
  obtain ⟨b, hb⟩ := keeps_row h (i := 1) (by omega)
  have pb : Pl (rows u 1) := hp 1 (by omega)
  have eb : rows u 1 = conj b [((1 + 1 : Nat) : Int)] := by unfold conj; rw [← hb]; exact (pl_of pb).symm
  obtain ⟨p, q, epq, hsp, hsq⟩ := pair_form hp hl h (i := 0) (j := 1) (by omega) (by omega) ha hb
  -- the row by which all is turned
  refine ⟨a ++ p, hrows _ ?_⟩
  have hmove : ∀ (a b g : Row), pl (inv a ++ b) = g → pl b = mul (pl a) g := by
    intro a b g e
    rw [← e, mul_plain _ (pl_pl _), mul_append, mul_inv_self]; rfl
  have hbq : pl b = mul (mul (pl a) p) q := by rw [hmove a b _ epq, mul_append]
  have hc : pl (a ++ p) = mul (pl a) p := by unfold pl; rw [mul_append]
  intro i hi
  by_cases i0 : i = 0
  · subst i0
    rw [ea, conj_append, conj_same hsp]
  by_cases i1 : i = 1
  · subst i1
    rw [eb, ← conj_by_pl b, hbq]
    have : mul (mul (pl a) p) q = pl (a ++ p ++ q) := by unfold pl; rw [mul_append, mul_append]
    rw [this, conj_by_pl, conj_append, conj_same hsq]
  · obtain ⟨d, hd⟩ := keeps_row h (i := i) hi
    have pd : Pl (rows u i) := hp i (by omega)
    have ed : rows u i = conj d [((i + 1 : Nat) : Int)] := by unfold conj; rw [← hd]; exact (pl_of pd).symm
    obtain ⟨p1, q1, e1, s1, t1⟩ := pair_form hp hl h (i := 0) (j := i) (by omega) hi ha hd
    obtain ⟨p2, q2, e2, s2, t2⟩ := pair_form hp hl h (i := 1) (j := i) (by omega) hi hb hd
    have f1 : pl d = mul (mul (pl a) p1) q1 := by rw [hmove a d _ e1, mul_append]
    have f2 : pl d = mul (mul (mul (mul (pl a) p) q) p2) q2 := by rw [hmove b d _ e2, mul_append, hbq]
    have P : Pl (pl a) := pl_pl a
    -- p undone, then p1, is some of the second letter and then some of letter i + 1
    have key : mul (pl (inv p)) p1 = mul (mul q p2) (mul q2 (inv q1)) := by
      have g1 : mul (mul (pl a) p1) q1 = mul (mul (mul (mul (pl a) p) q) p2) q2 := f1.symm.trans f2
      have g2 : mul (pl a) p1 = mul (mul (mul (mul (mul (pl a) p) q) p2) q2) (inv q1) := by
        rw [← g1, mul_inv_right _ (mul_pl _ P)]
      have Q : Pl (inv p) ∨ True := .inr trivial
      have R : Pl (pl (inv p)) := pl_pl _
      -- cancel a
      have g3 : mul (pl (inv a)) (mul (pl a) p1) = pl p1 := by
        rw [mul_assoc _ _ (pl_pl _), mul_plain _ (pl_pl _), mul_inv_self']; rfl
      have g4 : mul (pl (inv a)) (mul (mul (mul (mul (mul (pl a) p) q) p2) q2) (inv q1)) = mul (mul (mul (mul (pl p) q) p2) q2) (inv q1) := by
        rw [mul_assoc _ _ (pl_pl _), mul_assoc _ _ (pl_pl _), mul_assoc _ _ (pl_pl _), mul_assoc _ _ (pl_pl _), mul_assoc _ _ (pl_pl _), mul_plain _ (pl_pl _), mul_inv_self']
        rfl
      have g5 : pl p1 = mul (mul (mul (mul (pl p) q) p2) q2) (inv q1) := by rw [← g3, g2, g4]
      have g6 : mul (pl (inv p)) p1 = mul (pl (inv p)) (pl p1) := (mul_plain _ R).symm
      have qp : Pl q := by
        have : Pl (p ++ q) := by rw [← epq]; exact pl_pl _
        exact this.suffix
      have q2p : Pl q2 := by
        have : Pl (p2 ++ q2) := by rw [← e2]; exact pl_pl _
        exact this.suffix
      rw [g6, g5, mul_assoc _ _ R, mul_assoc _ _ R, mul_assoc _ _ R, mul_assoc _ _ R, mul_plain _ R, mul_inv_self', nil_mul qp,
        mul_assoc _ _ (mul_pl _ qp)]
    have hempty : mul (pl (inv p)) p1 = [] :=
      same_empty (Same.mul hsp.inv.pl s1) key (hsq.mul s2) (t2.mul t1.inv) (by omega) (by omega)
    have hpp : mul (pl a) p1 = mul (pl a) p := by
      have h5 : mul (mul (pl a) p) (mul (pl (inv p)) p1) = mul (pl a) p1 := by
        rw [mul_assoc _ _ (mul_pl _ P), mul_plain _ (mul_pl _ P), mul_inv_right _ P]
      rw [← h5, hempty]; rfl
    rw [ed, ← conj_by_pl d, f1, hpp]
    have : mul (mul (pl a) p) q1 = pl (a ++ p ++ q1) := by unfold pl; rw [mul_append, mul_append]
    rw [this, conj_by_pl, conj_append, conj_same t1]
end K71

/-! ## Ring -/
namespace K71
/-! ## the least of all turns of a row -/
theorem lexB_at {m : Nat} {x y : List Int} {a b : Int} (h : ∀ e, e < m → x[e]? = y[e]?) (ha : x[m]? = some a) (hb : y[m]? = some b) (hab : a < b) :
    lexB x y = true := by
  induction m generalizing x y with
  | zero =>
    cases x with
    | nil => cases ha
    | cons c x => cases y with
      | nil => cases hb
      | cons d y =>
        simp only [List.getElem?_cons_zero, Option.some.injEq] at ha hb
        subst ha; subst hb
        unfold lexB
        rw [if_neg (by omega)]
        simpa using hab
  | succ m ih =>
    cases x with
    | nil => cases ha
    | cons c x => cases y with
      | nil => cases hb
      | cons d y =>
        have h0 := h 0 (by omega)
        simp only [List.getElem?_cons_zero, Option.some.injEq] at h0
        subst h0
        unfold lexB
        rw [if_pos rfl]
        exact ih (fun e he => by have := h (e + 1) (by omega); simpa using this) (by simpa using ha) (by simpa using hb)

def turn (v : Row) (t : Nat) : Row := v.drop (t % v.length) ++ v.take (t % v.length)
theorem turn_length (v t) : (turn v t).length = v.length := by
  unfold turn
  by_cases h : v.length = 0
  · have : v = [] := List.length_eq_zero_iff.1 h
    subst this; simp
  · have := Nat.mod_lt t (Nat.pos_of_ne_zero h)
    simp; omega
theorem turn_get {v : Row} {t e : Nat} (he : e < v.length) : (turn v t)[e]? = v[(t + e) % v.length]? := by
  have hm := Nat.mod_lt t (by omega : 0 < v.length)
  have h1 : (t + e) % v.length = (t % v.length + e) % v.length := by rw [Nat.mod_add_mod]
  rw [h1]
  unfold turn
  generalize t % v.length = k at *
  by_cases h2 : e < v.length - k
  · rw [List.getElem?_append_left (by simpa using h2), List.getElem?_drop, Nat.mod_eq_of_lt (by omega)]
  · rw [List.getElem?_append_right (by simp; omega)]
    have h3 : (k + e) % v.length = k + e - v.length := by
      rw [Nat.mod_eq_sub_mod (by omega), Nat.mod_eq_of_lt (by omega)]
    rw [h3, List.length_drop, List.getElem?_take, if_pos (by omega)]
    congr 1; omega
theorem turn_mod (v t) : turn v (t % v.length) = turn v t := by unfold turn; rw [Nat.mod_mod]
theorem turn_ext {v : Row} {s t : Nat} (h : ∀ e, e < v.length → v[(s + e) % v.length]? = v[(t + e) % v.length]?) : turn v s = turn v t := by
  apply List.ext_getElem?
  intro e
  by_cases he : e < v.length
  · rw [turn_get he, turn_get he]; exact h e he
  · rw [List.getElem?_eq_none (by rw [turn_length]; omega), List.getElem?_eq_none (by rw [turn_length]; omega)]

/-- some turn is less than the one that begins at t -/
def Beaten (v : Row) (t : Nat) : Prop := ∃ s, lexB (turn v s) (turn v t) = true
/-- none is less -/
def Least (v : Row) (r : Nat) : Prop := ∀ s, lexB (turn v s) (turn v r) = false

theorem exists_least (v : Row) (h : 0 < v.length) : ∃ r, r < v.length ∧ Least v r := by
  have : ∀ n, 0 < n → ∃ r, r < n ∧ ∀ s, s < n → lexB (turn v s) (turn v r) = false := by
    intro n
    induction n with
    | zero => intro h; omega
    | succ n ih =>
      intro _
      by_cases hn : n = 0
      · subst hn
        exact ⟨0, by omega, fun s hs => by have : s = 0 := by omega
                                           subst this; exact lexB_irr _⟩
      · obtain ⟨r, hr, hl⟩ := ih (by omega)
        cases hc : lexB (turn v n) (turn v r) with
        | false =>
          refine ⟨r, by omega, fun s hs => ?_⟩
          by_cases e : s = n
          · subst e; exact hc
          · exact hl s (by omega)
        | true =>
          refine ⟨n, by omega, fun s hs => ?_⟩
          by_cases e : s = n
          · subst e; exact lexB_irr _
          · cases h2 : lexB (turn v s) (turn v n) with
            | false => rfl
            | true => have := lexB_tr h2 hc; rw [hl s (by omega)] at this; cases this
  obtain ⟨r, hr, hl⟩ := this v.length h
  refine ⟨r, hr, fun s => ?_⟩
  rw [← turn_mod v s]
  exact hl _ (Nat.mod_lt _ h)
theorem Least.not_beaten {v t} (h : Least v t) : ¬ Beaten v t := by
  rintro ⟨s, hs⟩; rw [h s] at hs; cases hs
theorem least_of {v : Row} (h : 0 < v.length) {r : Nat} (hr : ∀ t, t < v.length → ¬ Beaten v t → turn v t = turn v r) : Least v r := by
  obtain ⟨t, ht, hl⟩ := exists_least v h
  have := hr t ht hl.not_beaten
  intro s; rw [← this]; exact hl s

/-- the two pointers -/
structure Two (v : Row) (one other same : Nat) : Prop where
  ne : one ≠ other
  le : same ≤ v.length
  eq : ∀ e, e < same → v[(one + e) % v.length]? = v[(other + e) % v.length]?
  out : ∀ t, t < max one other → t ≠ min one other → t < v.length → Beaten v t
theorem Two.start (v : Row) : Two v 0 1 0 :=
  ⟨by omega, by omega, fun e h => by omega, fun t h1 h2 _ => by omega⟩
theorem Two.same {v one other same} (h : Two v one other same) (hs : same < v.length)
    (he : v[(one + same) % v.length]? = v[(other + same) % v.length]?) : Two v one other (same + 1) := by
  refine ⟨h.ne, by omega, fun e h' => ?_, h.out⟩
  by_cases e1 : e = same
  · subst e1; exact he
  · exact h.eq e (by omega)
/-- where the letters differ, all turns that begin up to there are beaten -/
theorem beaten_run {v : Row} {one other same : Nat} (hs : same < v.length) {a b : Int}
    (heq : ∀ e, e < same → v[(one + e) % v.length]? = v[(other + e) % v.length]?)
    (ha : v[(one + same) % v.length]? = some a) (hb : v[(other + same) % v.length]? = some b) (hab : b < a) :
    ∀ k, k ≤ same → Beaten v (one + k) := by
  intro k hk
  refine ⟨other + k, ?_⟩
  refine lexB_at (m := same - k) (a := b) (b := a) ?_ ?_ ?_ hab
  · intro e he
    rw [turn_get (by omega), turn_get (by omega)]
    have := heq (k + e) (by omega)
    rw [Nat.add_assoc, Nat.add_assoc]; exact this.symm
  · rw [turn_get (by omega)]
    have : other + k + (same - k) = other + same := by omega
    rw [this]; exact hb
  · rw [turn_get (by omega)]
    have : one + k + (same - k) = one + same := by omega
    rw [this]; exact ha
theorem Two.swap {v one other same} (h : Two v one other same) : Two v other one same :=
  ⟨h.ne.symm, h.le, fun e he => (h.eq e he).symm, fun t h1 h2 h3 => h.out t (by omega) (by omega) h3⟩
/-- the first pointer goes on -/
theorem Two.go {v one other same} (h : Two v one other same) (hs : same < v.length) {a b : Int}
    (ha : v[(one + same) % v.length]? = some a) (hb : v[(other + same) % v.length]? = some b) (hab : b < a) :
    (one + same + 1 ≠ other → Two v (one + same + 1) other 0) ∧
    (one + same + 1 = other → Two v other (other + 1) 0) := by
  have hbeat := beaten_run hs h.eq ha hb hab
  have hb' : ∀ t, one ≤ t → t ≤ one + same → Beaten v t := by
    intro t h1 h2
    have := hbeat (t - one) (by omega)
    have e : one + (t - one) = t := by omega
    rwa [e] at this
  have hne := h.ne
  constructor
  · intro hn
    refine ⟨hn, by omega, fun e h => by omega, ?_⟩
    intro t h1 h2 h3
    by_cases h4 : one ≤ t ∧ t ≤ one + same
    · exact hb' t h4.1 h4.2
    · exact h.out t (by omega) (by omega) h3
  · intro he
    refine ⟨by omega, by omega, fun e h => by omega, ?_⟩
    intro t h1 h2 h3
    by_cases h4 : one ≤ t ∧ t ≤ one + same
    · exact hb' t h4.1 h4.2
    · exact h.out t (by omega) (by omega) h3
/-- the end -/
theorem Two.least {v one other same} (h : Two v one other same) (hv : 0 < v.length)
    (hend : ¬ (one < v.length ∧ other < v.length ∧ same < v.length)) : Least v (min one other) ∧ min one other < v.length := by
  by_cases hm : v.length ≤ max one other
  · have key : ∀ t, t < v.length → ¬ Beaten v t → t = min one other := by
      intro t ht hb
      refine Classical.byContradiction fun hne => hb (h.out t (by omega) hne ht)
    obtain ⟨t, ht, hl⟩ := exists_least v hv
    have := key t ht hl.not_beaten
    rw [← this]; exact ⟨hl, ht⟩
  · -- all letters agree: the turns by the difference are the same
    have hs : same = v.length := by have := h.le; omega
    have hper : ∀ t, turn v (t + (max one other - min one other)) = turn v t := by
      intro t
      have hall : ∀ e, v[(one + e) % v.length]? = v[(other + e) % v.length]? := by
        intro e
        have := h.eq (e % v.length) (by rw [hs]; exact Nat.mod_lt _ hv)
        rwa [Nat.add_mod_mod, Nat.add_mod_mod] at this
      apply turn_ext
      intro e _
      have hne := h.ne
      by_cases hlt : one < other
      · have h1 := hall (t + e + (v.length - one % v.length))
        have e1 : (one + (t + e + (v.length - one % v.length))) % v.length = (t + e) % v.length := by
          have : one < v.length := by omega
          rw [Nat.mod_eq_of_lt this]
          have : one + (t + e + (v.length - one)) = t + e + v.length := by omega
          rw [this, Nat.add_mod_right]
        have e2 : (other + (t + e + (v.length - one % v.length))) % v.length = (t + (max one other - min one other) + e) % v.length := by
          have : one < v.length := by omega
          rw [Nat.mod_eq_of_lt this]
          have : other + (t + e + (v.length - one)) = t + (max one other - min one other) + e + v.length := by omega
          rw [this, Nat.add_mod_right]
        rw [e1, e2] at h1; exact h1.symm
      · have h1 := hall (t + e + (v.length - other % v.length))
        have e1 : (other + (t + e + (v.length - other % v.length))) % v.length = (t + e) % v.length := by
          have : other < v.length := by omega
          rw [Nat.mod_eq_of_lt this]
          have : other + (t + e + (v.length - other)) = t + e + v.length := by omega
          rw [this, Nat.add_mod_right]
        have e2 : (one + (t + e + (v.length - other % v.length))) % v.length = (t + (max one other - min one other) + e) % v.length := by
          have : other < v.length := by omega
          rw [Nat.mod_eq_of_lt this]
          have : one + (t + e + (v.length - other)) = t + (max one other - min one other) + e + v.length := by omega
          rw [this, Nat.add_mod_right]
        rw [e1, e2] at h1; exact h1
    have hne := h.ne
    refine ⟨least_of hv ?_, by omega⟩
    -- every turn that is not beaten comes down to the first pointer
    have down : ∀ n t, t ≤ n → t < v.length → ¬ Beaten v t → turn v t = turn v (min one other) := by
      intro n
      induction n with
      | zero =>
        intro t h1 h2 h3
        have : t = min one other := Classical.byContradiction fun hh => h3 (h.out t (by omega) hh h2)
        rw [this]
      | succ n ih =>
        intro t h1 h2 h3
        by_cases h4 : t < max one other
        · have : t = min one other := Classical.byContradiction fun hh => h3 (h.out t h4 hh h2)
          rw [this]
        · have h5 := hper (t - (max one other - min one other))
          have e : t - (max one other - min one other) + (max one other - min one other) = t := by omega
          rw [e] at h5
          rw [h5]
          refine ih _ (by omega) (by omega) ?_
          rintro ⟨s, hs'⟩
          exact h3 ⟨s, by rw [h5]; exact hs'⟩
    intro t ht hb
    exact down t t (Nat.le_refl _) ht hb
theorem rot_turn {v w : Row} (h : Rot v w) : ∃ t, w = turn v t := by
  obtain ⟨a, b, rfl, rfl⟩ := h
  by_cases hb : b = []
  · subst hb; exact ⟨0, by simp [turn]⟩
  · refine ⟨a.length, ?_⟩
    unfold turn
    have hl : 0 < b.length := by cases b with
      | nil => exact absurd rfl hb
      | cons _ _ => simp
    rw [Nat.mod_eq_of_lt (by simp; omega)]
    simp
theorem turn_rot (v t) : Rot v (turn v t) := ⟨v.take (t % v.length), v.drop (t % v.length), (List.take_append_drop _ _).symm, rfl⟩
/-- rows that are turned into one another have one least turn -/
theorem least_eq {v w : Row} (h : Rot v w) {r s : Nat} (hr : Least v r) (hs : Least w s) : turn v r = turn w s := by
  obtain ⟨t1, e1⟩ := rot_turn (h.trans (turn_rot w s))
  obtain ⟨t2, e2⟩ := rot_turn (h.symm.trans (turn_rot v r))
  apply lexB_tri
  · rw [e2]; exact hs t2
  · rw [e1]; exact hr t1
end K71

/-! ## Turned -/
namespace K71
/-! ## turned_by -/
def headAt (u : List Row) (k : Nat) : Row := (rows u k).take ((rows u k).length / 2)
def Raw (u : List Row) (k : Nat) : Prop := rows u k = headAt u k ++ [((k + 1 : Nat) : Int)] ++ inv (headAt u k)
instance (u k) : Decidable (Raw u k) := by unfold Raw; infer_instance
def lead : Row → Nat
  | [] => 0
  | x :: r => if x.natAbs = 1 then lead r + 1 else 0
def turningHead (n : Nat) (u : List Row) : Option Row :=
  if ∀ k, k < n → Raw u k then
    some (if n = 1 then [] else pl (headAt u 0 ++ (pl (inv (headAt u 0) ++ headAt u 1)).take (lead (pl (inv (headAt u 0) ++ headAt u 1)))))
  else none
def turnedBy (n : Nat) (u : List Row) : Option Row :=
  match turningHead n u with
  | none => none
  | some h => if inner n h = u then some h else none
theorem turnedBy_some {n u h} (e : turnedBy n u = some h) : u = inner n h := by
  unfold turnedBy at e
  split at e
  · cases e
  · split at e
    · rename_i h'; cases e; exact h'.symm
    · cases e
theorem lead_same {p q : Row} (hp : Same 1 p) (hq : ∀ z r, q = z :: r → z.natAbs ≠ 1) : lead (p ++ q) = p.length := by
  induction p with
  | nil => cases q with
    | nil => rfl
    | cons z r => simp only [List.nil_append, lead]; rw [if_neg (hq z r rfl)]; rfl
  | cons x p ih =>
    have hx := hp x (List.mem_cons_self ..)
    simp only [List.cons_append, lead, List.length_cons]
    rw [if_pos (by omega), ih (fun z hz => hp z (List.mem_cons_of_mem _ hz))]
theorem same_join {x y : Int} {p q : Row} (hp : Same x p) (hq : Same y q) (pp : Pl p) (pq : Pl q) (hxy : x.natAbs ≠ y.natAbs) : Pl (p ++ q) := by
  refine pl_join pp pq ?_
  intro a' c b' d h1 h2
  have hc := hp c (by rw [h1]; simp)
  have hd := hq d (by rw [h2]; simp)
  omega
/-- what stands at a turned letter -/
theorem inner_head {n : Nat} {c : Row} (hc : Pl c) {k : Nat} (hk : k < n) : ∃ r q, c = r ++ q ∧ Same ((k + 1 : Nat) : Int) q ∧
    headAt (inner n c) k = r ∧ Raw (inner n c) k := by
  obtain ⟨r, q, e, hq, hr⟩ := split_back ((k + 1 : Nat) : Int) c
  have hrp : Pl r := by rw [e] at hc; exact hc.prefix
  have e1 : rows (inner n c) k = r ++ [((k + 1 : Nat) : Int)] ++ inv r := by
    rw [rows_inner hk, e, conj_append, conj_same hq]
    exact (conj_raw hrp hr).1
  have e2 : headAt (inner n c) k = r := by
    unfold headAt
    rw [e1]
    have : (r ++ [((k + 1 : Nat) : Int)] ++ inv r).length / 2 = r.length := by simp [inv_length]; omega
    rw [this, List.append_assoc, List.take_left' rfl]
  exact ⟨r, q, e, hq, e2, by unfold Raw; rw [e2]; exact e1⟩
theorem turnedBy_inner {n : Nat} {c : Row} (hc : Pl c) (hn : 2 ≤ n) : turnedBy n (inner n c) = some c := by
  obtain ⟨r0, q0, e0, s0, h0, _⟩ := inner_head hc (n := n) (k := 0) (by omega)
  obtain ⟨r1, q1, e1, s1, h1, _⟩ := inner_head hc (n := n) (k := 1) (by omega)
  have hq0 : Pl q0 := by rw [e0] at hc; exact hc.suffix
  have hr0 : Pl r0 := by rw [e0] at hc; exact hc.prefix
  have hq1 : Pl q1 := by rw [e1] at hc; exact hc.suffix
  have hr1 : Pl r1 := by rw [e1] at hc; exact hc.prefix
  have s0' : Same 1 q0 := s0
  have s1' : Same 2 q1 := s1
  have hb : pl (inv r0 ++ r1) = q0 ++ inv q1 := by
    have g1 : r1 = mul c (inv q1) := by
      have h2 : mul r1 q1 = c := by rw [e1]; exact mul_append_of (by rw [← e1]; exact hc)
      rw [← h2, mul_inv_right _ hr1]
    have g2 : mul (inv r0) c = q0 := by
      rw [e0, mul_append]
      have := mul_inv_self' r0
      rw [pl_of hr0.inv] at this
      rw [this, nil_mul hq0]
    have g3 : pl (inv r0 ++ r1) = mul (inv r0) r1 := by
      unfold pl; rw [mul_append]
      rw [show mul [] (inv r0) = inv r0 from pl_of hr0.inv]
    rw [g3, g1, mul_assoc _ _ hr0.inv, g2]
    exact mul_append_of (same_join s0' s1'.inv hq0 hq1.inv (by decide))
  have hl : lead (q0 ++ inv q1) = q0.length := by
    refine lead_same s0' ?_
    intro z r e
    have := s1'.inv z (by rw [e]; simp)
    omega
  have hh : turningHead n (inner n c) = some c := by
    unfold turningHead
    rw [if_pos (fun k hk => by obtain ⟨_, _, _, _, _, h⟩ := inner_head hc (n := n) (k := k) hk; exact h), if_neg (by omega), h0, h1, hb, hl, List.take_left' rfl, ← e0, pl_of hc]
  unfold turnedBy
  rw [hh]
  simp
/-- one deed -/
theorem same_one {c : Row} (h : Fits 1 c) : Same 1 c := by
  intro z hz; have := h z hz; omega
theorem inner_one {c : Row} (h : Fits 1 c) : inner 1 c = [[1]] := by
  have : inner 1 c = [conj c [1]] := by unfold inner; rfl
  rw [this, conj_same (same_one h)]
theorem turnedBy_one : turnedBy 1 [[1]] = some [] := by decide
theorem turnedBy_none {n u} (hp : AllPl u) (hl : u.length = n) (h1 : 1 ≤ n) (hlet : Lets n u) (h : turnedBy n u = none) : ¬ Keeps n u := by
  intro hk
  obtain ⟨c, e⟩ := inner_of_keeps hp hl h1 hlet hk
  by_cases hn : n = 1
  · subst hn
    -- the single image has the core [1]
    have h0 := hk.one 0 (by omega)
    obtain ⟨k, ek⟩ := keeps_row hk (i := 0) (by omega)
    have hfk : Fits 1 k := by
      intro x hx
      have := hlet 0 (by omega) x (by rw [ek]; simp [hx])
      exact this
    have pu : Pl (rows u 0) := hp 0 (by omega)
    have eu : rows u 0 = conj k [1] := by unfold conj; rw [← pl_of pu, ek]; rfl
    rw [conj_same (same_one hfk)] at eu
    have : u = [[1]] := by
      cases u with
      | nil => simp at hl
      | cons r t =>
        have : t = [] := by cases t with
          | nil => rfl
          | cons _ _ => simp at hl
        subst this
        have : r = [1] := eu
        rw [this]
    rw [this, turnedBy_one] at h; cases h
  · have e' : u = inner n (pl c) := by
      rw [e]; unfold inner
      apply List.map_congr_left
      intro k _; exact (conj_by_pl c _).symm
    rw [e', turnedBy_inner (pl_pl c) (by omega)] at h
    cases h
end K71

/-! ## Glue -/
namespace K71
/-! ## what the loops of letters_gone and tail_of know -/
theorem lcp_exit {f : Nat} {x y : Row} (hx : f ≤ x.length) (hy : f ≤ y.length) (h : x.take f = y.take f)
    (he : x.length = f ∨ y.length = f ∨ x[f]? ≠ y[f]?) : lcp x y = f := by
  induction f generalizing x y with
  | zero =>
    cases x with
    | nil => cases y <;> rfl
    | cons a x => cases y with
      | nil => rfl
      | cons b y =>
        simp at he
        simp [lcp, he]
  | succ f ih =>
    cases x with
    | nil => simp at hx
    | cons a x => cases y with
      | nil => simp at hy
      | cons b y =>
        simp only [List.take_succ_cons, List.cons.injEq] at h
        simp only [lcp]
        rw [if_pos h.1, ih (by simpa using hx) (by simpa using hy) h.2 (by simpa using he)]
theorem take_step {f : Nat} {x y : Row} (h : x.take f = y.take f) (he : x[f]? = y[f]?) : x.take (f + 1) = y.take (f + 1) := by
  rw [List.take_add_one, List.take_add_one, h, he]
/-- the letter of an undone row -/
theorem inv_get {w : Row} {i : Nat} (h : i < w.length) : (inv w)[i]? = some (-w[w.length - 1 - i]'(by omega)) := by
  unfold inv
  rw [List.getElem?_reverse (by simpa using h), List.getElem?_map]
  simp only [List.length_map]
  rw [List.getElem?_eq_getElem (by omega)]
  rfl
end K71

/-! ## Glue2 -/
namespace K71
/-! ## what the walk needs of the way down -/
theorem near_empty {u : List Row} {c : Nat × Int × Bool} {f : Row} {k : Nat} (h : near u = some (c, f)) (hk : rows u k = []) : rows (u.set c.1 f) k = [] := by
  obtain ⟨p, o, hp, hpl, ho, hne, hl, hn⟩ := near_some h
  by_cases e : k = c.1
  · exfalso
    have e' : u.getD p [] = [] := by rw [← hp, ← e]; exact hk
    rw [nearer_some] at hn
    have hg : gone (one u p c.2.1 c.2.2) (two u p c.2.1 c.2.2) = 0 := by
      unfold one two
      cases c.2.2 with
      | true => simp only [if_true, e']; have := lcp_le_right (inv (img u c.2.1)) []; unfold gone; simpa using this
      | false => simp only [Bool.false_eq_true, if_false, e']; have := lcp_le_left (inv []) (img u c.2.1); unfold gone; simpa [inv] using this
    rw [hg] at hn
    have hi : img u c.2.1 = [] := List.length_eq_zero_iff.1 (by omega)
    rcases hn.2.1 with h1 | h1
    · rw [hi] at h1; simp at h1
    · have hj : joined (one u p c.2.1 c.2.2) (two u p c.2.1 c.2.2) = [] := by
        unfold joined one two
        cases c.2.2 <;> (simp only [if_true, if_false, Bool.false_eq_true, e', hi]; simp)
      rw [hj, e'] at h1
      revert h1; decide
  · rw [rows_ne _ e]; exact hk
theorem after_empty {m : Nat} {u v : List Row} {k : Nat} (h : after m u = some v) (hk : rows u k = []) : rows v k = [] := by
  induction m generalizing u with
  | zero => cases h; exact hk
  | succ m ih =>
    unfold after at h
    split at h
    · cases h
    · rename_i c f hc
      exact ih h (near_empty hc hk)
/-- u comes down to the letters v in m steps -/
structure Way (m : Nat) (u v : List Row) : Prop where
  go : after m u = some v
  stop : near v = none
  one : ∀ r ∈ v, r.length = 1
theorem Way.zero {u v} (h : Way 0 u v) : u = v ∧ near u = none := by
  have := h.go
  simp only [after, Option.some.injEq] at this
  exact ⟨this, by rw [this]; exact h.stop⟩
theorem Way.succ {m u v} (h : Way (m + 1) u v) : ∃ c f, near u = some (c, f) ∧ Way m (u.set c.1 f) v := by
  have hg := h.go
  unfold after at hg
  split at hg
  · cases hg
  · rename_i c f hc
    exact ⟨c, f, hc, hg, h.stop, h.one⟩
theorem Way.length {m u v} (h : Way m u v) : v.length = u.length := (after_chain h.go).1
theorem Way.full {m u v} (h : Way m u v) : ∀ r ∈ u, r ≠ [] := by
  intro r hr e
  obtain ⟨k, hk, ek⟩ := List.mem_iff_getElem.1 hr
  have h0 : rows u k = [] := by unfold rows; rw [List.getD_eq_getElem?_getD, List.getElem?_eq_getElem hk, ek, e]; rfl
  have h1 := after_empty h.go h0
  have hkv : k < v.length := by rw [h.length]; exact hk
  have h2 := h.one v[k] (List.getElem_mem hkv)
  have h3 : rows v k = v[k] := by unfold rows; rw [List.getD_eq_getElem?_getD, List.getElem?_eq_getElem hkv]; rfl
  rw [← h3, h1] at h2; cases h2
theorem near_weight {u : List Row} {c : Nat × Int × Bool} {f : Row} (h : near u = some (c, f)) : weight (u.set c.1 f) ≤ weight u := by
  unfold weight; rw [List.length_set]
  rcases near_nstep h with st | st
  · have := total_e st; omega
  · have := total_s st; omega
theorem le_sum_mem {x : Nat} {l : List Nat} (h : x ∈ l) : x ≤ l.sum := by
  induction l with
  | nil => cases h
  | cons y l ih =>
    rw [List.sum_cons]
    rcases List.mem_cons.1 h with e | e
    · omega
    · have := ih e; omega
theorem row_weight {u : List Row} {r : Row} (h : r ∈ u) : r.length ≤ weight u := by
  obtain ⟨k, hk, ek⟩ := List.mem_iff_getElem.1 h
  unfold weight total
  have e : rows u k = r := by unfold rows; rw [List.getD_eq_getElem?_getD, List.getElem?_eq_getElem hk, ek]; rfl
  have : r.length ∈ (List.range u.length).map (fun i => (rows u i).length) := List.mem_map.2 ⟨k, List.mem_range.2 hk, by rw [e]⟩
  exact le_sum_mem this
theorem findSome_range {α : Type} {n i : Nat} {g : Nat → Option α} {y : α} (hi : i < n) (hb : ∀ j, j < i → g j = none) (h : g i = some y) : (List.range n).findSome? g = some y := by
  obtain ⟨m, rfl⟩ : ∃ m, n = i + (m + 1) := ⟨n - i - 1, by omega⟩
  rw [List.range_add, List.findSome?_append]
  have h0 : (List.range i).findSome? g = none := by
    rw [List.findSome?_eq_none_iff]
    intro x hx; exact hb x (List.mem_range.1 hx)
  rw [h0]
  simp [List.range_succ_eq_map, h]
theorem findSome_none {α : Type} {n : Nat} {g : Nat → Option α} (hb : ∀ j, j < n → g j = none) : (List.range n).findSome? g = none := by
  rw [List.findSome?_eq_none_iff]
  intro x hx; exact hb x (List.mem_range.1 hx)
/-! ## the core, found by cutting -/
def mid (w : Row) (cut : Nat) : Row := (w.drop cut).take (w.length - 2 * cut)
theorem mid_zero (w : Row) : mid w 0 = w := by simp [mid]
theorem mid_length (w : Row) (cut : Nat) : (mid w cut).length = w.length - 2 * cut := by simp [mid]; omega
theorem mid_step {w : Row} {cut : Nat} (h : w.length - 2 * cut > 1) (hle : 2 * cut ≤ w.length) (e : w[cut]? = (w[w.length - 1 - cut]?).map (fun x => -x)) :
    core (mid w cut) = core (mid w (cut + 1)) := by
  have h1 : cut < w.length := by omega
  have h2 : w.length - 1 - cut < w.length := by omega
  rw [List.getElem?_eq_getElem h1, List.getElem?_eq_getElem h2] at e
  simp only [Option.map_some, Option.some.injEq] at e
  have em : mid w cut = w[cut] :: (mid w (cut + 1) ++ [-w[cut]]) := by
    unfold mid
    rw [List.drop_eq_getElem_cons h1]
    obtain ⟨k, hk⟩ : ∃ k, w.length - 2 * cut = k + 2 := ⟨w.length - 2 * cut - 2, by omega⟩
    have hk' : w.length - 2 * (cut + 1) = k := by omega
    rw [hk, hk', List.take_succ_cons]
    congr 1
    have h3 : k < (w.drop (cut + 1)).length := by rw [List.length_drop]; omega
    rw [List.take_add_one, List.getElem?_eq_getElem h3]
    congr 1
    simp only [Option.toList_some, List.cons.injEq, and_true]
    rw [List.getElem_drop, e, Int.neg_neg]
    congr 1; omega
  rw [em, core_strip]
theorem mid_stop {w : Row} {cut : Nat} (h : ¬ (w.length - 2 * cut > 1) ∨ w[cut]? ≠ (w[w.length - 1 - cut]?).map (fun x => -x)) : core (mid w cut) = mid w cut := by
  refine Cyc.core ?_
  intro a m e
  have hl := congrArg List.length e
  rw [mid_length] at hl
  simp at hl
  have h1 : cut < w.length := by omega
  have h2 : w.length - 1 - cut < w.length := by omega
  rcases h with h | h
  · omega
  · apply h
    have e0 : (mid w cut)[0]? = some a := by rw [e]; rfl
    have e1 : (mid w cut)[m.length + 1]? = some (-a) := by rw [e]; simp
    unfold mid at e0 e1
    rw [List.getElem?_take, if_pos (by omega), List.getElem?_drop] at e0 e1
    rw [show cut + (m.length + 1) = w.length - 1 - cut by omega] at e1
    rw [Nat.add_zero] at e0
    rw [e0, e1]; simp
end K71

/-! ## Glue3 -/
namespace K71
/-! ## what the law draws -/
theorem getD_len {u : List Row} {b : Nat} (h : ∀ r ∈ u, r.length ≤ b) (k : Nat) : (u.getD k []).length ≤ b := by
  rw [List.getD_eq_getElem?_getD]
  by_cases hk : k < u.length
  · rw [List.getElem?_eq_getElem hk]; exact h _ (List.getElem_mem hk)
  · rw [List.getElem?_eq_none (by omega)]; exact Nat.zero_le _
theorem img_len {u : List Row} {b : Nat} (h : ∀ r ∈ u, r.length ≤ b) (x : Int) : (img u x).length ≤ b := by
  unfold img
  split
  · exact getD_len h _
  · rw [inv_length]; exact getD_len h _
theorem flat_len {u : List Row} {b : Nat} (h : ∀ r ∈ u, r.length ≤ b) (w : Row) : (w.flatMap (img u)).length ≤ b * w.length := by
  induction w with
  | nil => simp
  | cons x w ih =>
    rw [List.flatMap_cons, List.length_append, List.length_cons, Nat.mul_succ]
    have := img_len h x
    omega
theorem push_length (f : Row) (x : Int) : (push f x).length ≤ f.length + 1 := by
  unfold push; split
  · simp; omega
  · simp
theorem mul_length (a b : Row) : (mul a b).length ≤ a.length + b.length := by
  induction b generalizing a with
  | nil => simp [mul_nil]
  | cons x b ih =>
    rw [mul_cons, List.length_cons]
    have := ih (push a x)
    have := push_length a x
    omega
theorem pl_length (w : Row) : (pl w).length ≤ w.length := by have := mul_length [] w; simpa [pl] using this
theorem ren_len {u : List Row} {b : Nat} (h : ∀ r ∈ u, r.length ≤ b) (w : Row) : (ren u w).length ≤ b * w.length := Nat.le_trans (pl_length _) (flat_len h w)
theorem conj_len (c w : Row) : (conj c w).length ≤ w.length + 2 * c.length := by
  unfold conj
  refine Nat.le_trans (pl_length _) ?_
  simp only [List.length_append, inv_length]; omega
theorem weight_le {u : List Row} {b : Nat} (h : ∀ r ∈ u, r.length ≤ b) : weight u ≤ u.length * b := by
  unfold weight total
  have : ∀ l : List Nat, ((l.map fun k => (rows u k).length).sum) ≤ l.length * b := by
    intro l
    induction l with
    | nil => simp
    | cons k l ih =>
      rw [List.map_cons, List.sum_cons, List.length_cons, Nat.succ_mul]
      have : (rows u k).length ≤ b := getD_len h k
      omega
  have := this (List.range u.length)
  rwa [List.length_range] at this
theorem ident_length (n : Nat) : (ident n).length = n := by simp [ident]
theorem rows_ident {n i : Nat} (h : i < n) : rows (ident n) i = [((i + 1 : Nat) : Int)] := rows_map _ h
theorem ident_len {n : Nat} : ∀ r ∈ ident n, r.length ≤ 1 := by
  intro r hr
  obtain ⟨k, _, rfl⟩ := List.mem_map.1 hr
  exact Nat.le_refl _
theorem set_len {u : List Row} {b k : Nat} {r : Row} (h : ∀ x ∈ u, x.length ≤ b) (hr : r.length ≤ b) : ∀ x ∈ u.set k r, x.length ≤ b := by
  intro x hx
  rcases List.mem_or_eq_of_mem_set hx with e | e
  · exact h x e
  · rw [e]; exact hr
theorem ren_flip {n o : Nat} (h1 : 1 ≤ n) (h4 : n ≤ 4) (ho : o < n) : Ren n ((ident n).set o [-((o + 1 : Nat) : Int)]) := by
  have hl : ((ident n).set o [-((o + 1 : Nat) : Int)]).length = n := by rw [List.length_set, ident_length]
  have ro : rows ((ident n).set o [-((o + 1 : Nat) : Int)]) o = [-((o + 1 : Nat) : Int)] := rows_same _ (by rw [ident_length]; exact ho)
  have ri : ∀ i, i < n → i ≠ o → rows ((ident n).set o [-((o + 1 : Nat) : Int)]) i = [((i + 1 : Nat) : Int)] := fun i hi hne => by rw [rows_ne _ hne, rows_ident hi]
  refine Ren.singles hl h1 h4 (fun i hi => ?_) (fun x hx hx' => ?_)
  · by_cases e : i = o
    · subst e; exact ⟨_, ro, by omega, by omega, by omega⟩
    · exact ⟨_, ri i hi e, by omega, by omega, by omega⟩
  · by_cases e : x - 1 = o
    · exact ⟨o, ho, .inr (by rw [ro]; congr 2; omega)⟩
    · exact ⟨x - 1, by omega, .inl (by rw [ri _ (by omega) e]; congr 1; omega)⟩
theorem ren_swap {n o p : Nat} (h1 : 1 ≤ n) (h4 : n ≤ 4) (ho : o < n) (hp : p < n) (hne : p ≠ o) : Ren n (((ident n).set o [((p + 1 : Nat) : Int)]).set p [((o + 1 : Nat) : Int)]) := by
  have hl : (((ident n).set o [((p + 1 : Nat) : Int)]).set p [((o + 1 : Nat) : Int)]).length = n := by rw [List.length_set, List.length_set, ident_length]
  have rp : rows (((ident n).set o [((p + 1 : Nat) : Int)]).set p [((o + 1 : Nat) : Int)]) p = [((o + 1 : Nat) : Int)] := rows_same _ (by rw [List.length_set, ident_length]; exact hp)
  have ro : rows (((ident n).set o [((p + 1 : Nat) : Int)]).set p [((o + 1 : Nat) : Int)]) o = [((p + 1 : Nat) : Int)] := by
    rw [rows_ne _ (Ne.symm hne)]; exact rows_same _ (by rw [ident_length]; exact ho)
  have ri : ∀ i, i < n → i ≠ o → i ≠ p → rows (((ident n).set o [((p + 1 : Nat) : Int)]).set p [((o + 1 : Nat) : Int)]) i = [((i + 1 : Nat) : Int)] := fun i hi a b => by
    rw [rows_ne _ b, rows_ne _ a, rows_ident hi]
  refine Ren.singles hl h1 h4 (fun i hi => ?_) (fun x hx hx' => ?_)
  · by_cases e : i = o
    · subst e; exact ⟨_, ro, by omega, by omega, by omega⟩
    · by_cases e2 : i = p
      · subst e2; exact ⟨_, rp, by omega, by omega, by omega⟩
      · exact ⟨_, ri i hi e e2, by omega, by omega, by omega⟩
  · by_cases e : x - 1 = o
    · exact ⟨p, hp, .inl (by rw [rp]; congr 1; omega)⟩
    · by_cases e2 : x - 1 = p
      · exact ⟨o, ho, .inl (by rw [ro]; congr 1; omega)⟩
      · exact ⟨x - 1, by omega, .inl (by rw [ri _ (by omega) e e2]; congr 1; omega)⟩
theorem ren_put {n o : Nat} {s : Int} (h1 : 1 ≤ n) (h4 : n ≤ 4) (ho : o < n) (hs : s ≠ 0 ∧ -(n : Int) ≤ s ∧ s ≤ n) (hne : s.natAbs ≠ o + 1) :
    Ren n ((ident n).set o [((o + 1 : Nat) : Int), s]) :=
  Ren.behind (by rw [List.length_set, ident_length]) h1 h4 ho hs hne (rows_same _ (by rw [ident_length]; exact ho)) (fun i hi e => by rw [rows_ne _ e, rows_ident hi])
/-- the images of a turning of some letters by one -/
def shI (n : Nat) (l : Int) (ls : List Int) : List Row := (List.range n).map fun k =>
  (if 0 - ((k + 1 : Nat) : Int) ∈ ls then [0 - l] else []) ++ ([((k + 1 : Nat) : Int)] ++ (if ((k + 1 : Nat) : Int) ∈ ls then [l] else []))
theorem shI_length (n l ls) : (shI n l ls).length = n := by simp [shI]
theorem shI_len {n l ls} : ∀ r ∈ shI n l ls, r.length ≤ 3 := by
  intro r hr
  obtain ⟨k, _, rfl⟩ := List.mem_map.1 hr
  simp only [List.length_append]
  split <;> split <;> simp
theorem ren_shI {n : Nat} {l : Int} {ls : List Int} (h1 : 1 ≤ n) (h4 : n ≤ 4) (hl : l ≠ 0 ∧ -(n : Int) ≤ l ∧ l ≤ n) (sym : ∀ x, x ∈ ls ↔ 0 - x ∈ ls) (oth : ∀ x ∈ ls, x.natAbs ≠ l.natAbs) : Ren n (shI n l ls) := by
  have hr : ∀ i, i < n → rows (K71.shI n l ls) i = (if 0 - ((i + 1 : Nat) : Int) ∈ ls then [0 - l] else []) ++ ([((i + 1 : Nat) : Int)] ++ (if ((i + 1 : Nat) : Int) ∈ ls then [l] else [])) := fun i hi => rows_map _ hi
  have hcase : ∀ i, i < n → rows (K71.shI n l ls) i = [((i + 1 : Nat) : Int)] ∨ (i + 1 ≠ l.natAbs ∧ rows (K71.shI n l ls) i = [-l, ((i + 1 : Nat) : Int), l]) := by
    intro i hi
    by_cases c : ((i + 1 : Nat) : Int) ∈ ls
    · right
      have := oth _ c
      refine ⟨by omega, ?_⟩
      rw [hr i hi, if_pos c, if_pos ((sym _).1 c)]; simp
    · left
      rw [hr i hi, if_neg c, if_neg (fun h => c ((sym _).2 h))]; rfl
  refine Ren.aboutLetter (shI_length n l ls) h1 h4 hl ?_ hcase
  rcases hcase (l.natAbs - 1) (by omega) with h | ⟨h, _⟩
  · rw [h]; congr 1; omega
  · omega
/-- singles from a rearrangement with signs -/
theorem ren_perm {n : Nat} {u : List Row} {ms : List Int} (hl : u.length = n) (h1 : 1 ≤ n) (h4 : n ≤ 4) (hm : List.Perm ms ((List.range n).map fun i => (1 : Int) + (i : Nat)))
    (hu : ∀ k (hk : k < ms.length), ∃ s : Int, rows u k = [s] ∧ (s = ms[k] ∨ s = -ms[k])) : Ren n u := by
  have hml : ms.length = n := by rw [hm.length_eq]; simp
  have hmem : ∀ x ∈ ms, 1 ≤ x ∧ x ≤ n := fun x hx => by
    obtain ⟨i, hi, rfl⟩ := List.mem_map.1 (hm.mem_iff.1 hx)
    have := List.mem_range.1 hi
    omega
  refine Ren.singles hl h1 h4 (fun i hi => ?_) (fun x hx hx' => ?_)
  · obtain ⟨s, e, h⟩ := hu i (by omega)
    have := hmem ms[i] (List.getElem_mem _)
    exact ⟨s, e, by omega, by omega, by omega⟩
  · have : ((x : Nat) : Int) ∈ ms := hm.mem_iff.2 (List.mem_map.2 ⟨x - 1, List.mem_range.2 (by omega), by omega⟩)
    obtain ⟨i, hi, e⟩ := List.mem_iff_getElem.1 this
    obtain ⟨s, es, h⟩ := hu i hi
    refine ⟨i, by omega, ?_⟩
    rw [es]
    rcases h with h | h
    · left; rw [h, e]
    · right; rw [h, e]
end K71

/-! ## Glue4 -/
namespace K71
/-! ## the row that turned_by tells -/
theorem turnedBy_head {n : Nat} {u : List Row} {h : Row} (e : turnedBy n u = some h) : turningHead n u = some h ∧ inner n h = u := by
  unfold turnedBy at e
  split at e
  · cases e
  · rename_i h' eh
    split at e
    · rename_i hi; cases e; exact ⟨eh, hi⟩
    · cases e
theorem head_form {n : Nat} {u : List Row} {h : Row} (e : turningHead n u = some h) : (n = 1 ∧ h = []) ∨ (n ≠ 1 ∧ h = pl (headAt u 0 ++ (pl (inv (headAt u 0) ++ headAt u 1)).take (lead (pl (inv (headAt u 0) ++ headAt u 1))))) := by
  unfold turningHead at e
  split at e
  · cases e
    by_cases c : n = 1
    · left; rw [if_pos c]; exact ⟨c, rfl⟩
    · right; rw [if_neg c]; exact ⟨c, rfl⟩
  · cases e
theorem head_pl {n : Nat} {u : List Row} {h : Row} (e : turningHead n u = some h) : Pl h := by
  rcases head_form e with ⟨_, rfl⟩ | ⟨_, rfl⟩
  · trivial
  · exact pl_pl _
theorem rows_len {u : List Row} {b : Nat} (h : ∀ r ∈ u, r.length ≤ b) (k : Nat) : (rows u k).length ≤ b := getD_len h k
theorem head_len' {n b : Nat} {u : List Row} {h : Row} (e : turningHead n u = some h) (hu : ∀ r ∈ u, r.length ≤ b) : h.length ≤ 3 * (b / 2) := by
  rcases head_form e with ⟨_, rfl⟩ | ⟨_, rfl⟩
  · exact Nat.zero_le _
  · have hr : ∀ k, (headAt u k).length ≤ b / 2 := fun k => by
      unfold headAt
      rw [List.length_take]
      have := rows_len hu k
      have : (rows u k).length / 2 ≤ b / 2 := Nat.div_le_div_right this
      omega
    have h1 := pl_length (inv (headAt u 0) ++ headAt u 1)
    rw [List.length_append, inv_length] at h1
    refine Nat.le_trans (pl_length _) ?_
    rw [List.length_append, List.length_take]
    have := hr 0
    have := hr 1
    omega
theorem head_fits {n : Nat} {u : List Row} {h : Row} (e : turningHead n u = some h) (hl : Lets n u) (hu : u.length = n) (hn : 1 ≤ n) : Fits n h := by
  rcases head_form e with ⟨_, rfl⟩ | ⟨hne, rfl⟩
  · intro x hx; cases hx
  · have hr : ∀ k, k < n → Fits n (headAt u k) := fun k hk x hx => hl k (by omega) x (List.mem_of_mem_take hx)
    have h0 := hr 0 (by omega)
    have h1 := hr 1 (by omega)
    refine (h0.append ?_).pl
    intro x hx
    exact (h0.inv.append h1).pl x (List.mem_of_mem_take hx)
/-! ## the law's two comparisons -/
theorem ring_same {c w : Row} (hw : Pl w) {r s : Nat} (hr : core (conj c w) ≠ [] → Least (core (conj c w)) r) (hs : core w ≠ [] → Least (core w) s) : turn (core (conj c w)) r = turn (core w) s := by
  have rot := core_conj c hw
  have hl := rot.length
  by_cases e : core w = []
  · rw [e] at hl
    have e2 : core (conj c w) = [] := List.length_eq_zero_iff.1 hl.symm
    rw [e, e2]; unfold turn; simp
  · have e2 : core (conj c w) ≠ [] := fun h => e (by rw [h] at hl; exact List.length_eq_zero_iff.1 hl)
    exact least_eq rot.symm (hr e2) (hs e)
theorem inner_ident (n : Nat) (c : Row) : (ident n).map (conj c) = inner n c := by
  unfold ident inner; rw [List.map_map]; rfl
theorem inner_twice {n : Nat} {h m : Row} : (inner n h).map (conj m) = inner n (pl (m ++ h)) := by
  unfold inner
  rw [List.map_map]
  apply List.map_congr_left
  intro k _
  show conj m (conj h _) = conj (pl (m ++ h)) _
  rw [conj_by_pl, conj_append]
theorem behind_told {n : Nat} {h m : Row} (hn : 1 ≤ n) (hh : Fits n h) (hm : Fits n m) : turnedBy n ((inner n h).map (conj m)) = some (if n > 1 then pl (m ++ h) else []) := by
  rw [inner_twice]
  by_cases c : n > 1
  · rw [if_pos c]; exact turnedBy_inner (pl_pl _) c
  · have : n = 1 := by omega
    subst this
    rw [if_neg c, inner_one ((hm.append hh).pl)]
    exact turnedBy_one
end K71

/-! ## Wk1 -/
set_option Elab.async false
set_option linter.all false
set_option maxRecDepth 100000
namespace K71W
open PySem PySem.Spec PyProof.Rows L2
def topS (i : Nat) : Stmt := PySem.Challenge.pw_meankept_k71_whole_turnings.main.body.getD i (.Pass ⟨0, 0, 0, 0⟩)
/-- a def of the top: where it stands, how it is called -/
structure Def (K : PySem.W.Frag) (mg : Str → Option Value) (x : Str) (st : Stmt) (ps : List Str) (f : Addr) (fd : FuncData) : Prop where
  F : Fun K x x st f fd
  b : Binds K fd ps []
  g : mg x = some (.ref f)
section
variable {P : Program} {w : World} {K : PySem.W.Frag} {mg : Str → Option Value} {base : Heap}
/-! ### is_whole, is_between, need_deeds -/
abbrev sWhole : Stmt := topS 7
theorem scWhole : FnScope ["value"] ["value"] (defScope sWhole) := ⟨rfl, rfl, rfl, by decide +kernel, rfl, by decide +kernel, by decide +kernel⟩
def spWhole : Sp := fun vs H Q _ => ∃ n : Int, vs = [.int n] ∧ Q (.bl true) H
theorem ok_whole {f : Addr} {fd : FuncData} {k : Nat} (D : Def K mg "is_whole" sWhole ["value"] f fd) (mi : mg "isinstance" = none) (mint : mg "int" = none) (mbool : mg "bool" = none) :
    FnOk P w K mg base CX0 (k + 1) f fd ["value"] spWhole := by
  refine D.F.ok scWhole (fun vs H Q E h => ?_) (fun cdv A outer s H vs Q E hr h => ?_)
  · obtain ⟨n, rfl, _⟩ := h; rfl
  · obtain ⟨n, rfl, q⟩ := h
    refine ⟨_, pss_one (ps_ret (pe_and (pe_callB call_isi (by rfl) mi (by decide +kernel) (pa_cons (pv 0) (pa_cons (pe_bltn (v := .ty "int") (by rfl) mint boot_int rfl) pa_nil)))
      (pe_one (pe_not (pe_callB call_isi (by rfl) mi (by decide +kernel) (pa_cons (pv 0) (pa_cons (pe_bltn (v := .ty "bool") (by rfl) mbool boot_bool rfl) pa_nil))))))), ?_⟩
    refine ⟨.int n, rfl, .int n, .ty "int", .type "int", .type "int", true, rfl, .ty _, .base (.int n), kit_ty (by decide +kernel), ?_⟩
    exact ⟨true, rfl, .int n, rfl, .int n, .ty "bool", .type "int", .type "bool", false, rfl, .ty _, .base (.int n), kit_ty (by decide +kernel), false, rfl, q⟩
abbrev sBetween : Stmt := topS 8
theorem scBetween : FnScope ["value", "low", "high"] ["value", "low", "high"] (defScope sBetween) := ⟨rfl, rfl, rfl, by decide +kernel, rfl, by decide +kernel, by decide +kernel⟩
def spBetween : Sp := fun vs H Q _ => ∃ v lo hi : Int, vs = [.int v, .int lo, .int hi] ∧ Q (.bl (decide (lo ≤ v ∧ v ≤ hi))) H
theorem ok_between {f fW : Addr} {fd fdW : FuncData} {k : Nat} (D : Def K mg "is_between" sBetween ["value", "low", "high"] f fd)
    (W : Def K mg "is_whole" sWhole ["value"] fW fdW) (G : FnOk P w K mg base CX0 (k + 1) fW fdW ["value"] spWhole) :
    FnOk P w K mg base CX0 (k + 2) f fd ["value", "low", "high"] spBetween := by
  refine D.F.ok scBetween (fun vs H Q E h => ?_) (fun cdv A outer s H vs Q E hr h => ?_)
  · obtain ⟨v, lo, hi, rfl, _⟩ := h; rfl
  · obtain ⟨v, lo, hi, rfl, q⟩ := h
    refine ⟨_, pss_one (ps_ret (pe_and (pe_call G hr (by rfl) W.g W.F.kp W.b .nil pass0 (pa_cons (pv 0) pa_nil)) (pe_one (pe_chain op_le op_le (pv 1) (pv 0) (pv 2))))), ?_⟩
    refine ⟨.int v, rfl, v, rfl, true, rfl, ?_⟩
    refine ⟨.int lo, rfl, .int v, rfl, lo, v, rfl, rfl, _, rfl, ?_⟩
    by_cases h1 : lo ≤ v
    · rw [if_pos (decide_eq_true h1)]
      refine ⟨.int hi, rfl, v, hi, rfl, rfl, ?_⟩
      have e : decide (lo ≤ v ∧ v ≤ hi) = decide (v ≤ hi) := decide_eq_decide.2 ⟨fun h => h.2, fun h => ⟨h1, h⟩⟩
      rw [e] at q; exact q
    · rw [if_neg (by simp [h1])]
      have e : decide (lo ≤ v ∧ v ≤ hi) = false := decide_eq_false fun h => h1 h.1
      rw [e] at q; exact q
abbrev sNeedDeeds : Stmt := topS 12
theorem scNeedDeeds : FnScope ["deeds"] ["deeds"] (defScope sNeedDeeds) := ⟨rfl, rfl, rfl, by decide +kernel, rfl, by decide +kernel, by decide +kernel⟩
def spNeedDeeds : Sp := fun vs H Q _ => ∃ n : Int, vs = [.int n] ∧ 1 ≤ n ∧ n ≤ 4 ∧ Q .non H
theorem ok_needDeeds {f fB : Addr} {fd fdB : FuncData} {k t : Nat} (D : Def K mg "need_deeds" sNeedDeeds ["deeds"] f fd)
    (B : Def K mg "is_between" sBetween ["value", "low", "high"] fB fdB) (G : FnOk P w K mg base CX0 (k + 1) fB fdB ["value", "low", "high"] spBetween)
    (mD : mg "MOST_DEEDS" = some (.int 4 t)) :
    FnOk P w K mg base CX0 (k + 2) f fd ["deeds"] spNeedDeeds := by
  refine D.F.ok scNeedDeeds (fun vs H Q E h => ?_) (fun cdv A outer s H vs Q E hr h => ?_)
  · obtain ⟨v, rfl, _⟩ := h; rfl
  · obtain ⟨n, rfl, h1, h4, q⟩ := h
    refine ⟨_, pss_one (ps_if (pt_not (pt_val (pe_call G hr (by rfl) B.g B.F.kp B.b .nil pass0 (pa_cons (pv 0) (pa_cons pe_int (pa_cons (pe_glob (v := .int 4) (by rfl) mD ⟨_, rfl⟩) pa_nil))))))
      (pss_one ps_never) pss_nil), ?_⟩
    refine ⟨.int n, rfl, n, 1, 4, rfl, ?_⟩
    have e : decide ((1 : Int) ≤ n ∧ n ≤ 4) = true := decide_eq_true ⟨h1, h4⟩
    rw [e]
    exact ⟨true, rfl, q⟩
end
end K71W

/-! ## Wk2 -/
set_option Elab.async false
set_option linter.all false
set_option maxRecDepth 100000
namespace K71W
open PySem PySem.Spec PyProof.Rows L2
open K71 (push mul pl mul_cons mul_nil mul_snoc)
section
variable {P : Program} {w : World} {K : PySem.W.Frag} {mg : Str → Option Value} {base : Heap}
theorem same_upd {H : Hp} {p : Addr} {o : HO} (h : H p = none) : Same H (upd H p o) := fun b x e => by
  rw [upd_ne (ne_of_none e h)]; exact e
/-! ### data of ints -/
theorem dp_ints {H : Hp} (ns : List Int) : DpAll K H (ns.map V.int) (ns.map PyData.int) := by
  induction ns with
  | nil => exact .nil
  | cons n ns ih => exact .cons (.int n) ih
theorem eqv_ints (ns ms : List Int) : PyData.eqvAll (ns.map PyData.int) (ms.map PyData.int) = decide (ns = ms) := by
  induction ns generalizing ms with
  | nil => cases ms <;> simp [PyData.eqvAll]
  | cons n ns ih =>
    cases ms with
    | nil => simp [PyData.eqvAll]
    | cons m ms => simp only [List.map_cons, PyData.eqvAll, ih, PyData.eqv]; by_cases h : n = m <;> simp [h]
theorem lay_ints (ns : List Int) : PyData.canLayAll0 (ns.map PyData.int) = true ∧ PyData.depthAll (ns.map PyData.int) ≤ 1 := by
  induction ns with
  | nil => exact ⟨rfl, by decide⟩
  | cons n ns ih =>
    simp only [List.map_cons, PyData.canLayAll0, PyData.depthAll, PyData.canLay0, PyData.depth, ih.1, Bool.and_self]
    exact ⟨trivial, by have := ih.2; omega⟩
theorem shaped_list (ns : List Int) : SeqAt.shaped (.list (ns.map PyData.int)) = true := by
  have h := lay_ints ns
  exact Bool.and_eq_true_iff.2 ⟨h.1, decide_eq_true (show PyData.depthAll (ns.map PyData.int) + 1 ≤ 64 by have := h.2; omega)⟩
/-! ### plain_of -/
abbrev sPlain : Stmt := topS 15
theorem scPlain : FnScope ["letters", "found", "letter"] ["letters"] (defScope sPlain) := ⟨rfl, rfl, rfl, by decide +kernel, rfl, by decide +kernel, by decide +kernel⟩
def spPlainL (K : PySem.W.Frag) : Sp := fun vs H Q _ => ∃ (a : Addr) (ns : List Int), vs = [.ref a] ∧ SqL K H a (ns.map V.int) ∧ ns.length ≤ 100000 ∧
  ∀ H' p, Same H H' → H p = none → H' p = some (.tup ((pl ns).map V.int)) → Q (.ref p) H'
theorem push_len (f : List Int) (x : Int) : (push f x).length ≤ f.length + 1 := by
  unfold push; split
  · simp; omega
  · simp
theorem pl_take_succ {ns : List Int} {i : Nat} {x : Int} (h : ns[i]? = some x) : pl (ns.take (i + 1)) = push (pl (ns.take i)) x := by
  rw [List.take_add_one, h]
  exact mul_snoc [] (ns.take i) x
theorem pl_len (ns : List Int) : (pl ns).length ≤ ns.length := by
  have : ∀ (b a : List Int), (mul a b).length ≤ a.length + b.length := by
    intro b
    induction b with
    | nil => intro a; simp [mul_nil]
    | cons x b ih => intro a; rw [mul_cons]; have := ih (push a x); have := push_len a x; simp only [List.length_cons]; omega
  have := this ns []; simpa [pl] using this
theorem ok_plainL {f : Addr} {fd : FuncData} {k : Nat} (D : Def K mg "plain_of" sPlain ["letters"] f fd) (mt : mg "tuple" = none) :
    FnOk P w K mg base CX0 (k + 1) f fd ["letters"] (spPlainL K) := by
  refine D.F.ok scPlain (fun vs H Q E h => ?_) (fun cdv A outer s H vs Q E hr h => ?_)
  · obtain ⟨a, ns, rfl, _⟩ := h; rfl
  · obtain ⟨a, ns, rfl, hS, hlen, q⟩ := h
    refine ⟨_, pss_cons (ps_set (i := 1) scPlain.nd rfl (.inl rfl) (pe_lst pa_nil))
      (pss_cons (ps_for PassesOwn.never rfl (pi_list (pv 0)) (pg_name (i := 2) scPlain.nd rfl (.inl rfl))
        (pss_one (ps_if (PW.pt (pw_and (pt_cmpR (op_neD hr.units) (pv 1) (pe_lst pa_nil) (nomark _)) (pw_and1 (pt_cmpR op_eq (pe_ix ix_list (pv 1) (pe_un un_neg pe_int) (fun _ _ => rfl)) (pe_op op_sub pe_int (pv 2)) (nomark _)))))
          (pss_one (ps_expr (pe_bm0 PySem.F.plainAttrs_list PySem.F.slot_list_pop PySem.F.type_list_pop mt_pop (pv 1))))
          (pss_one (ps_expr (pe_bm PySem.F.plainAttrs_list PySem.F.slot_list_append PySem.F.type_list_append mt_append (pv 1) (pa_cons (pv 2) pa_nil)))))))
      (pss_one (ps_ret (pe_callTy call_tuple_of (by rfl) mt (by decide +kernel) (pa_cons (pv 1) pa_nil))))), ?_⟩
    refine ⟨Nat.zero_le _, fun o no => ?_⟩
    have s1 : Same H (upd H o (.lst [])) := same_upd no
    refine ⟨.ref a, rfl, a, rfl, ⟨_, s1.seq hS⟩, for_list (xs := ns.map V.int) (fun i σ H3 => ∃ y2, σ = [some (.ref a), some (.ref o), y2] ∧ Same H H3 ∧ H3 o = some (.lst ((pl (ns.take i)).map V.int)))
      ⟨none, rfl, s1, by rw [upd_same]; rfl⟩ (fun i σ H3 hi h => by obtain ⟨_, _, sm, _⟩ := h; exact sm.seq hS) (fun i x σ H3 hx h => ?_) (fun σ H3 h => ?_)⟩
    · obtain ⟨y2, rfl, sm, eo⟩ := h
      have hi : i < ns.length := by have := (List.getElem?_eq_some_iff.1 hx).1; simpa using this
      have ex : x = .int ns[i] := by rw [List.getElem?_map, List.getElem?_eq_getElem hi] at hx; exact (Option.some.inj hx).symm
      subst ex
      have hp := pl_take_succ (List.getElem?_eq_getElem hi)
      have hl : (pl (ns.take i)).length ≤ 100000 := Nat.le_trans (pl_len _) (by rw [List.length_take]; omega)
      refine ⟨.ref o, rfl, Nat.zero_le _, fun c nc => ?_⟩
      have eo' : (upd H3 c (.lst [])) o = some (.lst ((pl (ns.take i)).map V.int)) := by rw [upd_ne (ne_of_none eo nc)]; exact eo
      have sm' : Same H (upd H3 c (.lst [])) := sm.trans (same_upd nc)
      refine ⟨.list ((pl (ns.take i)).map .int), .list [], .lst (SqL.of eo') (dp_ints _), .lst (SqL.of upd_same) .nil, shaped_list _, shaped_list [], ?_⟩
      have ev : PyData.eqv (.list ((pl (ns.take i)).map .int)) (.list []) = decide (pl (ns.take i) = []) := eqv_ints _ []
      rw [ev]
      refine ⟨_, rfl, ?_⟩
      cases hl2 : (pl (ns.take i)).getLast? with
      | none =>
        have e0 : pl (ns.take i) = [] := List.getLast?_eq_none_iff.1 hl2
        rw [e0] at hp eo eo' ⊢
        show if (!decide (([] : List Int) = [])) = true then _ else _
        rw [if_neg (by decide)]
        show if false = true then _ else _
        refine iteF ?_
        refine ⟨.ref o, rfl, .inl ⟨rfl, _, SqL.of eo'⟩, .int ns[i], rfl, o, _, _, rfl, rfl, eo', by decide, ?_⟩
        refine ⟨_, rfl, fun b z e => ?_, ?_⟩
        · rw [upd_ne (ne_of_none e no)]; exact sm' _ _ e
        · rw [upd_same, hp]; rfl
      | some v =>
        obtain ⟨ys, e0⟩ := List.getLast?_eq_some_iff.1 hl2
        rw [e0] at hp eo eo' hl ⊢
        show if (!decide ((ys ++ [v] : List Int) = [])) = true then _ else _
        rw [if_pos (by simp)]
        have em : (ys ++ [v]).map V.int = ys.map V.int ++ [V.int v] := by simp
        refine ⟨.ref o, rfl, 1, rfl, o, _, _, .int v, rfl, rfl, SqL.of eo', by rw [em]; exact atI_last _ _, .int ns[i], rfl, 0, ns[i], rfl, rfl, ?_⟩
        refine ⟨rfl, _, rfl, ite2 (fun e => ?_) (fun e => ?_)⟩
        · have ev2 : v = 0 - ns[i] := V.int.inj (of_decide_eq_true e)
          have hpush : pl (ns.take (i + 1)) = ys := by
            rw [hp]; unfold push
            rw [List.getLast?_concat, if_pos (by rw [ev2]; congr 1; omega), List.dropLast_concat]
          refine ⟨.ref o, rfl, .inl ⟨rfl, _, SqL.of eo'⟩, o, _, .int v, rfl, rfl, eo', ?_, ?_⟩
          · rw [em]; simp
          · refine ⟨_, rfl, fun b z e => ?_, ?_⟩
            · rw [upd_ne (ne_of_none e no)]; exact sm' _ _ e
            · rw [upd_same, hpush, em]; simp
        · have ev2 : v ≠ 0 - ns[i] := fun h => e (decide_eq_true (by rw [h]))
          have hpush : pl (ns.take (i + 1)) = ys ++ [v] ++ [ns[i]] := by
            rw [hp]; unfold push
            rw [List.getLast?_concat, if_neg (by intro h; injection h with h; exact ev2 (by omega))]
          refine ⟨.ref o, rfl, .inl ⟨rfl, _, SqL.of eo'⟩, .int ns[i], rfl, o, _, _, rfl, rfl, eo', ?_, ?_⟩
          · rw [List.length_map]; exact Nat.lt_of_le_of_lt hl (by decide)
          · refine ⟨_, rfl, fun b z e => ?_, ?_⟩
            · rw [upd_ne (ne_of_none e no)]; exact sm' _ _ e
            · rw [upd_same, hpush]; simp
    · obtain ⟨y2, rfl, sm, eo⟩ := h
      rw [List.length_map, List.take_length] at eo
      exact ⟨.ref o, rfl, o, _, rfl, .inl ⟨SqL.of eo, fun l hl => q _ _ (sm.trans (same_upd hl)) (by
        cases e : H l with
        | none => rfl
        | some z => rw [sm _ _ e] at hl; cases hl) upd_same⟩⟩
end
end K71W

/-! ## Wk3 -/
set_option Elab.async false
set_option linter.all false
set_option maxRecDepth 100000
namespace K71W
open PySem PySem.Spec PyProof.Rows L2 RT
section
variable {P : Program} {w : World} {K : PySem.W.Frag} {mg : Str → Option Value} {base : Heap}
theorem seqT {K : PySem.W.Frag} {H H' : Hp} {a : Addr} {xs : List V} (e : Same H H') (h : SqT K H a xs) : SqT K H' a xs := by
  rcases h with h | h
  · rcases h with h | ⟨o, h⟩
    · exact .inl (.inl (e a _ h))
    · exact .inl (.inr ⟨o, e a _ h⟩)
  · exact .inr h
/-- a comprehension over a tuple from its end: inv tells what holds behind so many turns -/
theorem lc_revT {K : PySem.W.Frag} {t : Addr} {items : List V} {tg : TG} {test : TT} {elt : TE} {own : List Nat} {slots : L2.St} {before : Hp} {made : Addr} {behind : Hp → Prop} (inv : Nat → Hp → Prop)
    (start : inv 0 (upd before made (.lst []))) (stays : ∀ k G, k ≤ items.length → inv k G → SqT K G t items)
    (turn : ∀ k x G, k < items.length → items[items.length - 1 - k]? = some x → inv k G → tg x (wipe slots own) G fun ρ G1 => wipe ρ own = wipe slots own ∧ test ρ G1 fun keep G2 =>
      if keep = true then elt ρ G2 fun y G3 => ∃ sofar, G3 made = some (.lst sofar) ∧ sofar.length < sizeLine ∧ inv (k + 1) (upd G3 made (.lst (sofar ++ [y]))) else inv (k + 1) G2)
    (stop : ∀ G, inv items.length G → behind G) :
    ∃ Inv : Nat → Nat → Hp → Prop, (∃ left, Inv 0 left (upd before made (.lst []))) ∧ ∀ k left G, Inv k left G →
      ((ItvT K t items.length).stop k G ∧ behind G) ∨ ((ItvT K t items.length).go k G ∧ ∃ Next : Hp → Prop, (∀ G', Next G' → ∃ left', left' < left ∧ Inv (k + 1) left' G') ∧
        ∀ x G', (ItvT K t items.length).yld k G x G' → tg x (wipe slots own) G' fun ρ G1 => wipe ρ own = wipe slots own ∧ test ρ G1 fun keep G2 =>
          if keep = true then elt ρ G2 fun y G3 => ∃ sofar, G3 made = some (.lst sofar) ∧ sofar.length < sizeLine ∧ Next (upd G3 made (.lst (sofar ++ [y]))) else Next G2) := by
  refine ⟨fun k left G => left = items.length - k ∧ k ≤ items.length ∧ inv k G, ⟨_, rfl, Nat.zero_le _, start⟩, ?_⟩
  rintro k left G ⟨rfl, le, holds⟩
  have here := stays k G le holds
  rcases Nat.lt_or_ge k items.length with lt | ge
  · have place : items.length - 1 - k < items.length := by omega
    refine .inr ⟨⟨lt, items, items[items.length - 1 - k], here, List.getElem?_eq_getElem place⟩, inv (k + 1), fun G' next => ⟨items.length - (k + 1), by omega, rfl, lt, next⟩, fun x G' got => ?_⟩
    rcases got with ⟨rfl, item⟩
    exact turn k x _ lt (item items here) holds
  · rcases Nat.le_antisymm le ge with rfl
    exact .inl ⟨Nat.le_refl _, stop G holds⟩
abbrev sUndone : Stmt := topS 16
theorem scUndone : FnScope ["row", "letter"] ["row"] (defScope sUndone) := ⟨rfl, rfl, rfl, by decide +kernel, rfl, by decide +kernel, by decide +kernel⟩
def spUndone (K : PySem.W.Frag) : Sp := fun vs H Q _ => ∃ (a : Addr) (ns : List Int), vs = [.ref a] ∧ SqT K H a (ns.map V.int) ∧ ns.length ≤ 100000 ∧
  ∀ H' p, Same H H' → H p = none → H' p = some (.tup ((K71.inv ns).map V.int)) → Q (.ref p) H'
theorem ok_undone {f : Addr} {fd : FuncData} {k : Nat} (D : Def K mg "undone_of" sUndone ["row"] f fd) (mt : mg "tuple" = none) (mr : mg "reversed" = none) :
    FnOk P w K mg base CX0 (k + 1) f fd ["row"] (spUndone K) := by
  refine D.F.ok scUndone (fun vs H Q E h => ?_) (fun cdv A outer s H vs Q E hr h => ?_)
  · obtain ⟨a, ns, rfl, _⟩ := h; rfl
  · obtain ⟨a, ns, rfl, hS, hlen, q⟩ := h
    refine ⟨_, pss_one (ps_ret (pe_callTy call_tuple_of (by rfl) mt (by decide +kernel) (pa_cons
      (pe_lc (own := [("letter", 1)]) (g := gName 1) (tt := tYes) rfl scUndone.nd (pi_revA (by rfl) mr (pv 0)) (blkOk_by (N := ["row", "letter"]) (sc := defScope sUndone) (by decide +kernel))
        (fun _ _ _ _ _ => pg_name (i := 1) scUndone.nd rfl (Or.inl rfl)) (fun _ _ _ _ _ => pts_nil) (fun _ _ _ _ _ => pe_op op_sub pe_int (pv 1))) pa_nil))), ?_⟩
    refine ⟨.ref a, rfl, a, ns.map V.int, rfl, .inr ⟨hS, fun o no => ?_⟩⟩
    have hrev : ∀ i, i < ns.length → (K71.inv ns)[i]? = some (-ns[ns.length - 1 - i]!) := by
      intro i hi
      unfold K71.inv
      rw [List.getElem?_reverse (by simpa using hi), List.getElem?_map]
      simp only [List.length_map]
      rw [List.getElem?_eq_getElem (by omega)]
      simp [getElem!_pos ns (ns.length - 1 - i) (by omega)]
    refine lc_revT (items := ns.map V.int) (fun i H3 => Same H H3 ∧ H3 o = some (.lst (((K71.inv ns).take i).map V.int)))
      ⟨same_upd no, by rw [upd_same]; rfl⟩ (fun i H3 hi h => seqT h.1 hS) (fun i x H3 hi hx h => ?_) (fun H3 h => ?_)
    · obtain ⟨sm, eo⟩ := h
      rw [List.length_map] at hi hx
      have hj : ns.length - 1 - i < ns.length := by omega
      have ex : x = .int (ns[ns.length - 1 - i]!) := by
        rw [List.getElem?_map, List.getElem?_eq_getElem hj] at hx
        rw [getElem!_pos ns _ hj]
        exact (Option.some.inj hx).symm
      subst ex
      refine ⟨rfl, _, rfl, 0, _, rfl, rfl, _, eo, ?_, fun b z e => ?_, ?_⟩
      · rw [List.length_map, List.length_take]; exact Nat.lt_of_le_of_lt (Nat.min_le_left _ _) (Nat.lt_of_lt_of_le (Nat.lt_succ_of_le (by omega : i ≤ 100000)) (by decide))
      · rw [upd_ne (ne_of_none e no)]; exact sm _ _ e
      · rw [upd_same, List.take_add_one, hrev i hi]; simp
    · obtain ⟨sm, eo⟩ := h
      rw [List.length_map, List.take_of_length_le (by rw [K71.inv_length]; exact Nat.le_refl _)] at eo
      exact ⟨o, _, rfl, .inl ⟨SqL.of eo, fun l hl => q _ _ (sm.trans (same_upd hl)) (Same.free sm hl) upd_same⟩⟩
end
end K71W

/-! ## Wk4 -/
set_option Elab.async false
set_option linter.all false
set_option maxRecDepth 100000
namespace K71W
open PySem PySem.Spec PyProof.Rows L2
open K71 (push mul pl mul_cons mul_nil mul_snoc)
section
variable {P : Program} {w : World} {K : PySem.W.Frag} {mg : Str → Option Value} {base : Heap}
/-! ### plain_of of a tuple -/
def spPlainT (K : PySem.W.Frag) : Sp := fun vs H Q _ => ∃ (a : Addr) (ns : List Int), vs = [.ref a] ∧ SqT K H a (ns.map V.int) ∧ ns.length ≤ 100000 ∧
  ∀ H' p, Same H H' → H p = none → H' p = some (.tup ((pl ns).map V.int)) → Q (.ref p) H'
theorem ok_plainT {f : Addr} {fd : FuncData} {k : Nat} (D : Def K mg "plain_of" sPlain ["letters"] f fd) (mt : mg "tuple" = none) :
    FnOk P w K mg base CX0 (k + 1) f fd ["letters"] (spPlainT K) := by
  refine D.F.ok scPlain (fun vs H Q E h => ?_) (fun cdv A outer s H vs Q E hr h => ?_)
  · obtain ⟨a, ns, rfl, _⟩ := h; rfl
  · obtain ⟨a, ns, rfl, hS, hlen, q⟩ := h
    refine ⟨_, pss_cons (ps_set (i := 1) scPlain.nd rfl (.inl rfl) (pe_lst pa_nil))
      (pss_cons (ps_for PassesOwn.never rfl (pi_tup (pv 0)) (pg_name (i := 2) scPlain.nd rfl (.inl rfl))
        (pss_one (ps_if (PW.pt (pw_and (pt_cmpR (op_neD hr.units) (pv 1) (pe_lst pa_nil) (nomark _)) (pw_and1 (pt_cmpR op_eq (pe_ix ix_list (pv 1) (pe_un un_neg pe_int) (fun _ _ => rfl)) (pe_op op_sub pe_int (pv 2)) (nomark _)))))
          (pss_one (ps_expr (pe_bm0 PySem.F.plainAttrs_list PySem.F.slot_list_pop PySem.F.type_list_pop mt_pop (pv 1))))
          (pss_one (ps_expr (pe_bm PySem.F.plainAttrs_list PySem.F.slot_list_append PySem.F.type_list_append mt_append (pv 1) (pa_cons (pv 2) pa_nil)))))))
      (pss_one (ps_ret (pe_callTy call_tuple_of (by rfl) mt (by decide +kernel) (pa_cons (pv 1) pa_nil))))), ?_⟩
    refine ⟨Nat.zero_le _, fun o no => ?_⟩
    have s1 : Same H (upd H o (.lst [])) := same_upd no
    refine ⟨.ref a, rfl, a, rfl, ⟨_, seqT s1 hS⟩, for_tup (xs := ns.map V.int) (fun i σ H3 => ∃ y2, σ = [some (.ref a), some (.ref o), y2] ∧ Same H H3 ∧ H3 o = some (.lst ((pl (ns.take i)).map V.int)))
      ⟨none, rfl, s1, by rw [upd_same]; rfl⟩ (fun i σ H3 hi h => by obtain ⟨_, _, sm, _⟩ := h; exact seqT sm hS) (fun i x σ H3 hx h => ?_) (fun σ H3 h => ?_)⟩
    · obtain ⟨y2, rfl, sm, eo⟩ := h
      have hi : i < ns.length := by have := (List.getElem?_eq_some_iff.1 hx).1; simpa using this
      have ex : x = .int ns[i] := by rw [List.getElem?_map, List.getElem?_eq_getElem hi] at hx; exact (Option.some.inj hx).symm
      subst ex
      have hp := pl_take_succ (List.getElem?_eq_getElem hi)
      have hl : (pl (ns.take i)).length ≤ 100000 := Nat.le_trans (pl_len _) (by rw [List.length_take]; omega)
      refine ⟨.ref o, rfl, Nat.zero_le _, fun c nc => ?_⟩
      have eo' : (upd H3 c (.lst [])) o = some (.lst ((pl (ns.take i)).map V.int)) := by rw [upd_ne (ne_of_none eo nc)]; exact eo
      have sm' : Same H (upd H3 c (.lst [])) := sm.trans (same_upd nc)
      refine ⟨.list ((pl (ns.take i)).map .int), .list [], .lst (SqL.of eo') (dp_ints _), .lst (SqL.of upd_same) .nil, shaped_list _, shaped_list [], ?_⟩
      have ev : PyData.eqv (.list ((pl (ns.take i)).map .int)) (.list []) = decide (pl (ns.take i) = []) := eqv_ints _ []
      rw [ev]
      refine ⟨_, rfl, ?_⟩
      cases hl2 : (pl (ns.take i)).getLast? with
      | none =>
        have e0 : pl (ns.take i) = [] := List.getLast?_eq_none_iff.1 hl2
        rw [e0] at hp eo eo' ⊢
        show if (!decide (([] : List Int) = [])) = true then _ else _
        rw [if_neg (by decide)]
        show if false = true then _ else _
        refine iteF ?_
        refine ⟨.ref o, rfl, .inl ⟨rfl, _, SqL.of eo'⟩, .int ns[i], rfl, o, _, _, rfl, rfl, eo', by decide, ?_⟩
        refine ⟨_, rfl, fun b z e => ?_, ?_⟩
        · rw [upd_ne (ne_of_none e no)]; exact sm' _ _ e
        · rw [upd_same, hp]; rfl
      | some v =>
        obtain ⟨ys, e0⟩ := List.getLast?_eq_some_iff.1 hl2
        rw [e0] at hp eo eo' hl ⊢
        show if (!decide ((ys ++ [v] : List Int) = [])) = true then _ else _
        rw [if_pos (by simp)]
        have em : (ys ++ [v]).map V.int = ys.map V.int ++ [V.int v] := by simp
        refine ⟨.ref o, rfl, 1, rfl, o, _, _, .int v, rfl, rfl, SqL.of eo', by rw [em]; exact atI_last _ _, .int ns[i], rfl, 0, ns[i], rfl, rfl, ?_⟩
        refine ⟨rfl, _, rfl, ite2 (fun e => ?_) (fun e => ?_)⟩
        · have ev2 : v = 0 - ns[i] := V.int.inj (of_decide_eq_true e)
          have hpush : pl (ns.take (i + 1)) = ys := by
            rw [hp]; unfold push
            rw [List.getLast?_concat, if_pos (by rw [ev2]; congr 1; omega), List.dropLast_concat]
          refine ⟨.ref o, rfl, .inl ⟨rfl, _, SqL.of eo'⟩, o, _, .int v, rfl, rfl, eo', ?_, ?_⟩
          · rw [em]; simp
          · refine ⟨_, rfl, fun b z e => ?_, ?_⟩
            · rw [upd_ne (ne_of_none e no)]; exact sm' _ _ e
            · rw [upd_same, hpush, em]; simp
        · have ev2 : v ≠ 0 - ns[i] := fun h => e (decide_eq_true (by rw [h]))
          have hpush : pl (ns.take (i + 1)) = ys ++ [v] ++ [ns[i]] := by
            rw [hp]; unfold push
            rw [List.getLast?_concat, if_neg (by intro h; injection h with h; exact ev2 (by omega))]
          refine ⟨.ref o, rfl, .inl ⟨rfl, _, SqL.of eo'⟩, .int ns[i], rfl, o, _, _, rfl, rfl, eo', ?_, ?_⟩
          · rw [List.length_map]; exact Nat.lt_of_le_of_lt hl (by decide)
          · refine ⟨_, rfl, fun b z e => ?_, ?_⟩
            · rw [upd_ne (ne_of_none e no)]; exact sm' _ _ e
            · rw [upd_same, hpush]; simp
    · obtain ⟨y2, rfl, sm, eo⟩ := h
      rw [List.length_map, List.take_length] at eo
      exact ⟨.ref o, rfl, o, _, rfl, .inl ⟨SqL.of eo, fun l hl => q _ _ (sm.trans (same_upd hl)) (by
        cases e : H l with
        | none => rfl
        | some z => rw [sm _ _ e] at hl; cases hl) upd_same⟩⟩
/-! ### fits_letter -/
abbrev sFitsLetter : Stmt := topS 13
theorem scFitsLetter : FnScope ["deeds", "value"] ["deeds", "value"] (defScope sFitsLetter) := ⟨rfl, rfl, rfl, by decide +kernel, rfl, by decide +kernel, by decide +kernel⟩
def spFitsLetter : Sp := fun vs H Q _ => ∃ n v : Int, vs = [.int n, .int v] ∧ v ≠ 0 ∧ 0 - n ≤ v ∧ v ≤ n ∧ Q (.bl true) H
theorem ok_fitsLetter {f fB : Addr} {fd fdB : FuncData} {k : Nat} (D : Def K mg "fits_letter" sFitsLetter ["deeds", "value"] f fd)
    (B : Def K mg "is_between" sBetween ["value", "low", "high"] fB fdB) (G : FnOk P w K mg base CX0 (k + 1) fB fdB ["value", "low", "high"] spBetween) :
    FnOk P w K mg base CX0 (k + 2) f fd ["deeds", "value"] spFitsLetter := by
  refine D.F.ok scFitsLetter (fun vs H Q E h => ?_) (fun cdv A outer s H vs Q E hr h => ?_)
  · obtain ⟨n, v, rfl, _⟩ := h; rfl
  · obtain ⟨n, v, rfl, h0, h1, h2, q⟩ := h
    refine ⟨_, pss_one (ps_ret (pe_and (pe_call G hr (by rfl) B.g B.F.kp B.b .nil pass0 (pa_cons (pv 1) (pa_cons (pe_op op_sub pe_int (pv 0)) (pa_cons (pv 0) pa_nil))))
      (pe_one (pe_cmpR op_ne (pv 1) pe_int (nomark _))))), ?_⟩
    refine ⟨.int v, rfl, .int n, rfl, 0, n, rfl, rfl, .int n, rfl, v, 0 - n, n, rfl, ?_⟩
    have e : decide (0 - n ≤ v ∧ v ≤ n) = true := decide_eq_true ⟨h1, h2⟩
    rw [e]
    refine ⟨true, rfl, .int v, rfl, rfl, ?_⟩
    have e2 : (!decide (V.int v = V.int 0)) = true := by simp [h0]
    rw [e2]; exact q
end
end K71W

/-! ## Wk5 -/
set_option Elab.async false
set_option linter.all false
set_option maxRecDepth 100000
namespace K71W
open PySem PySem.Spec PyProof.Rows L2
section
variable {P : Program} {w : World} {K : PySem.W.Frag} {mg : Str → Option Value} {base : Heap}
abbrev sGone : Stmt := topS 22
theorem scGone : FnScope ["one", "other", "most", "found"] ["one", "other"] (defScope sGone) := ⟨rfl, rfl, rfl, by decide +kernel, rfl, by decide +kernel, by decide +kernel⟩
def spGone (K : PySem.W.Frag) : Sp := fun vs H Q _ => ∃ (a b : Addr) (xs ys : List Int), vs = [.ref a, .ref b] ∧ SqT K H a (xs.map V.int) ∧ SqT K H b (ys.map V.int) ∧
  Q (.int (K71.gone xs ys : Nat)) H
theorem ok_gone {f : Addr} {fd : FuncData} {k : Nat} (D : Def K mg "letters_gone" sGone ["one", "other"] f fd) (ml : mg "len" = none) (mm : mg "min" = none) :
    FnOk P w K mg base CX0 (k + 1) f fd ["one", "other"] (spGone K) := by
  refine D.F.ok scGone (fun vs H Q E h => ?_) (fun cdv A outer s H vs Q E hr h => ?_)
  · obtain ⟨a, b, xs, ys, rfl, _⟩ := h; rfl
  · obtain ⟨a, b, xs, ys, rfl, hA, hB, q⟩ := h
    refine ⟨_, pss_cons (ps_par (by rfl) scGone.nd rfl rfl (by decide) rfl rfl (pa_cons (pe_callB (call_min2 rfl) (by rfl) mm (by decide +kernel) (pa_cons (pe_callB call_len_seq (by rfl) ml PySem.boot_len (pa_cons (pv 0) pa_nil)) (pa_cons (pe_callB call_len_seq (by rfl) ml PySem.boot_len (pa_cons (pv 1) pa_nil)) pa_nil))) (pa_cons pe_int pa_nil)) (by rfl) (i := 2) (j := 3))
      (pss_cons (ps_while PassesOwn.never (PW.pt (pw_and (pt_cmpR op_lt (pv 3) (pv 2) (nomark _)) (pw_and1 (pt_cmpR op_eq (pe_ix ix_tup (pv 0) (pe_op op_sub (pe_op op_sub (pe_callB call_len_seq (by rfl) ml PySem.boot_len (pa_cons (pv 0) pa_nil)) pe_int) (pv 3)) (fun _ _ => rfl)) (pe_op op_sub pe_int (pe_ix ix_tup (pv 1) (pv 3) (fun _ _ => rfl))) (nomark _)))))
        (pss_one (ps_aug (i := 3) scGone.nd rfl (.inl rfl) pe_int ip_add)))
      (pss_one (ps_ret (pv 3)))), ?_⟩
    refine ⟨.ref a, rfl, a, _, rfl, .inr hA, .ref b, rfl, b, _, rfl, .inr hB, _, _, rfl, _, _, rfl, ?_⟩
    rw [List.length_map, List.length_map]
    have hmin : (if (ys.length : Int) < (xs.length : Int) then (ys.length : Int) else (xs.length : Int)) = ((min xs.length ys.length : Nat) : Int) := by split <;> omega
    rw [hmin]
    refine ⟨fun m σ H3 => ∃ g : Nat, σ = [some (.ref a), some (.ref b), some (.int ((min xs.length ys.length : Nat) : Int)), some (.int (g : Int))] ∧ g ≤ min xs.length ys.length ∧
      (K71.inv xs).take g = ys.take g ∧ H3 = H ∧ m = min xs.length ys.length - g, ⟨_, 0, rfl, Nat.zero_le _, rfl, rfl, rfl⟩, fun m σ H3 h => ?_⟩
    obtain ⟨g, rfl, hg, ht, rfl, rfl⟩ := h
    have gx : ∀ i : Nat, (hi : i < xs.length) → (xs.map V.int)[i]? = some (.int xs[i]) := fun i hi => by rw [List.getElem?_map, List.getElem?_eq_getElem hi]; rfl
    have gy : ∀ i : Nat, (hi : i < ys.length) → (ys.map V.int)[i]? = some (.int ys[i]) := fun i hi => by rw [List.getElem?_map, List.getElem?_eq_getElem hi]; rfl
    refine ⟨_, rfl, _, rfl, _, _, rfl, rfl, _, rfl, ?_⟩
    show if decide ((g : Int) < ((min xs.length ys.length : Nat) : Int)) = true then _ else _
    by_cases hlt : g < min xs.length ys.length
    · rw [if_pos (decide_eq_true (by omega))]
      have h1 : xs.length - 1 - g < xs.length := by omega
      have e1 : ((xs.map V.int).length : Int) - 1 - (g : Int) = ((xs.length - 1 - g : Nat) : Int) := by rw [List.length_map]; omega
      refine ⟨.ref a, rfl, .ref a, rfl, a, _, rfl, .inr hA, _, _, rfl, rfl, _, rfl, _, _, rfl, rfl, a, _, _, .int xs[xs.length - 1 - g], rfl, rfl, hA, by rw [e1]; exact atI_nat (gx _ h1), ?_⟩
      refine ⟨.ref b, rfl, _, rfl, b, _, _, .int ys[g], rfl, rfl, hB, atI_nat (gy g (by omega)), _, _, rfl, rfl, rfl, _, rfl, ?_⟩
      have hx : (K71.inv xs)[g]? = some (-xs[xs.length - 1 - g]) := K71.inv_get (by omega)
      show if decide (V.int xs[xs.length - 1 - g] = V.int (0 - ys[g])) = true then _ else _
      refine ite2 (fun e => ?_) (fun e => ?_)
      · have ev : xs[xs.length - 1 - g] = 0 - ys[g] := V.int.inj (of_decide_eq_true e)
        refine ⟨fun σ' H' => σ' = [some (.ref a), some (.ref b), some (.int ((min xs.length ys.length : Nat) : Int)), some (.int ((g + 1 : Nat) : Int))] ∧ H' = H3,
          fun σ' H' h => ⟨min xs.length ys.length - (g + 1), by omega, g + 1, h.1, by omega, K71.take_step ht ?_, h.2, rfl⟩, ⟨_, rfl, _, _, rfl, rfl, rfl, rfl⟩⟩
        rw [hx, List.getElem?_eq_getElem (by omega : g < ys.length)]
        congr 1; omega
      · refine ⟨_, rfl, ?_⟩
        have hg2 : K71.gone xs ys = g := K71.lcp_exit (by rw [K71.inv_length]; omega) (by omega) ht (.inr (.inr (by
          rw [hx, List.getElem?_eq_getElem (by omega : g < ys.length)]
          intro h; injection h with h
          exact e (decide_eq_true (by congr 1; omega)))))
        rw [hg2] at q; exact q
    · rw [if_neg (by simp; omega)]
      refine ⟨_, rfl, ?_⟩
      have hg2 : K71.gone xs ys = g := K71.lcp_exit (by rw [K71.inv_length]; omega) (by omega) ht (by rw [K71.inv_length]; omega)
      rw [hg2] at q; exact q
end
end K71W

/-! ## Wk6 -/
set_option Elab.async false
set_option linter.all false
set_option maxRecDepth 100000
namespace K71W
open PySem PySem.Spec PyProof.Rows L2
section
variable {P : Program} {w : World} {K : PySem.W.Frag} {mg : Str → Option Value} {base : Heap}
abbrev sFitsRow : Stmt := topS 14
theorem scFitsRow : FnScope ["deeds", "value", "letter"] ["deeds", "value"] (defScope sFitsRow) := ⟨rfl, rfl, rfl, by decide +kernel, rfl, by decide +kernel, by decide +kernel⟩
def spFitsRow (K : PySem.W.Frag) : Sp := fun vs H Q _ => ∃ (n : Int) (a : Addr) (ns : List Int), vs = [.int n, .ref a] ∧ SqT K H a (ns.map V.int) ∧ H a = some (.tup (ns.map V.int)) ∧ ns.length ≤ 200 ∧
  (∀ v ∈ ns, v ≠ 0 ∧ 0 - n ≤ v ∧ v ≤ n) ∧ ∀ H', Same H H' → Q (.bl true) H'
theorem ok_fitsRow {f fL : Addr} {fd fdL : FuncData} {k t : Nat} (D : Def K mg "fits_row" sFitsRow ["deeds", "value"] f fd)
    (L : Def K mg "fits_letter" sFitsLetter ["deeds", "value"] fL fdL) (G : FnOk P w K mg base CX0 (k + 1) fL fdL ["deeds", "value"] spFitsLetter)
    (mi : mg "isinstance" = none) (mt : mg "tuple" = none) (ml : mg "len" = none) (ma : mg "all" = none) (mR : mg "MOST_IN_ROW" = some (.int 200 t)) :
    FnOk P w K mg base CX0 (k + 2) f fd ["deeds", "value"] (spFitsRow K) := by
  refine D.F.ok scFitsRow (fun vs H Q E h => ?_) (fun cdv A outer s H vs Q E hr h => ?_)
  · obtain ⟨n, a, ns, rfl, _⟩ := h; rfl
  · obtain ⟨n, a, ns, rfl, hS, hT, hlen, hfit, q⟩ := h
    refine ⟨_, pss_cons (ps_if (PW.pt (pw_or (pt_not (pt_val (pe_callB call_isi (by rfl) mi (by decide +kernel) (pa_cons (pv 1) (pa_cons (pe_bltn (v := .ty "tuple") (by rfl) mt (by decide +kernel) rfl) pa_nil)))))
        (pw_or1 (pt_cmpR op_gt (pe_callB call_len_seq (by rfl) ml PySem.boot_len (pa_cons (pv 1) pa_nil)) (pe_glob (v := .int 200) (by rfl) mR ⟨_, rfl⟩) (nomark _)))))
        (pss_one ps_never) pss_nil)
      (pss_one (ps_ret (pe_callB (cr_all rfl) (by rfl) ma (by decide +kernel) (pa_cons
        (pe_lc (own := [("letter", 2)]) (g := gName 2) (tt := tYes) rfl scFitsRow.nd (pi_tup (pv 1)) (blkOk_by (N := ["deeds", "value", "letter"]) (sc := defScope sFitsRow) (by decide +kernel))
        (fun _ _ _ _ _ => pg_name (i := 2) scFitsRow.nd rfl (Or.inl rfl)) (fun _ _ _ _ _ => pts_nil) (fun _ _ _ _ _ => pe_call G hr (by rfl) L.g L.F.kp L.b .nil pass0 (pa_cons (pv 0) (pa_cons (pv 2) pa_nil)))) pa_nil)))), ?_⟩
    refine ⟨.ref a, rfl, .ref a, .ty "tuple", .type "tuple", .type "tuple", true, rfl, .ty _, .base (.tup hT), kit_ty (by decide +kernel), true, rfl, ?_⟩
    refine ⟨.ref a, rfl, a, _, rfl, .inr hS, _, 200, rfl, rfl, _, rfl, ?_⟩
    show if decide (((ns.map V.int).length : Int) > 200) = true then _ else _
    rw [if_neg (by simp; omega)]
    refine ⟨.ref a, rfl, a, rfl, ⟨_, hS⟩, fun o no => ?_⟩
    refine lc_tup (xs := ns.map V.int) (fun i H3 => Same H H3 ∧ H3 o = some (.lst ((List.replicate i true).map V.bl)))
      ⟨same_upd no, by rw [upd_same]; rfl⟩ (fun i H3 hi h => seqT h.1 hS) (fun i x H3 hx h => ?_) (fun H3 h => ?_)
    · obtain ⟨sm, eo⟩ := h
      have hi : i < ns.length := by have := (List.getElem?_eq_some_iff.1 hx).1; simpa using this
      have ex : x = .int ns[i] := by rw [List.getElem?_map, List.getElem?_eq_getElem hi] at hx; exact (Option.some.inj hx).symm
      subst ex
      have hv := hfit ns[i] (List.getElem_mem hi)
      refine ⟨rfl, .int n, rfl, .int ns[i], rfl, n, ns[i], rfl, hv.1, hv.2.1, hv.2.2, _, eo, ?_, fun b z e => ?_, ?_⟩
      · simp; exact Nat.lt_of_lt_of_le (by omega : i < 200) (by decide)
      · rw [upd_ne (ne_of_none e no)]; exact sm _ _ e
      · rw [upd_same]; simp [List.replicate_succ']
    · obtain ⟨sm, eo⟩ := h
      refine ⟨o, _, rfl, SqL.of eo, ?_⟩
      have e : (List.replicate (ns.map V.int).length true).all id = true := by simp
      rw [e]; exact q _ sm
end
end K71W

/-! ## Wk7 -/
set_option Elab.async false
set_option linter.all false
set_option maxRecDepth 100000
namespace K71W
open PySem PySem.Spec PyProof.Rows L2
section
variable {P : Program} {w : World} {K : PySem.W.Frag} {mg : Str → Option Value} {base : Heap}
abbrev sNeedRow : Stmt := topS 17
theorem scNeedRow : FnScope ["deeds", "row"] ["deeds", "row"] (defScope sNeedRow) := ⟨rfl, rfl, rfl, by decide +kernel, rfl, by decide +kernel, by decide +kernel⟩
def spNeedRow (K : PySem.W.Frag) : Sp := fun vs H Q _ => ∃ (n : Int) (a : Addr) (ns : List Int), vs = [.int n, .ref a] ∧ SqT K H a (ns.map V.int) ∧ H a = some (.tup (ns.map V.int)) ∧ ns.length ≤ 200 ∧
  (∀ v ∈ ns, v ≠ 0 ∧ 0 - n ≤ v ∧ v ≤ n) ∧ ∀ H' p, Same H H' → H p = none → H' p = some (.tup ((K71.pl ns).map V.int)) → Q (.ref p) H'
theorem ok_needRow {f fR fP : Addr} {fd fdR fdP : FuncData} {k : Nat} (D : Def K mg "need_row" sNeedRow ["deeds", "row"] f fd)
    (R : Def K mg "fits_row" sFitsRow ["deeds", "value"] fR fdR) (GR : FnOk P w K mg base CX0 (k + 1) fR fdR ["deeds", "value"] (spFitsRow K))
    (L : Def K mg "plain_of" sPlain ["letters"] fP fdP) (GP : FnOk P w K mg base CX0 (k + 1) fP fdP ["letters"] (spPlainT K)) :
    FnOk P w K mg base CX0 (k + 2) f fd ["deeds", "row"] (spNeedRow K) := by
  refine D.F.ok scNeedRow (fun vs H Q E h => ?_) (fun cdv A outer s H vs Q E hr h => ?_)
  · obtain ⟨n, a, ns, rfl, _⟩ := h; rfl
  · obtain ⟨n, a, ns, rfl, hS, hT, hlen, hfit, q⟩ := h
    refine ⟨_, pss_cons (ps_if (pt_not (pt_val (pe_call GR hr (by rfl) R.g R.F.kp R.b .nil pass0 (pa_cons (pv 0) (pa_cons (pv 1) pa_nil))))) (pss_one ps_never) pss_nil)
      (pss_one (ps_ret (pe_call GP hr (by rfl) L.g L.F.kp L.b .nil pass0 (pa_cons (pv 1) pa_nil)))), ?_⟩
    refine ⟨.int n, rfl, .ref a, rfl, n, a, ns, rfl, hS, hT, hlen, hfit, fun H1 s1 => ?_⟩
    refine ⟨true, rfl, ?_⟩
    exact ⟨.ref a, rfl, a, ns, rfl, seqT s1 hS, by omega, fun H2 p s2 np ep => q H2 p (s1.trans s2) (Same.free s1 np) ep⟩
end
end K71W

/-! ## WkR -/
set_option Elab.async false
set_option linter.all false
set_option maxRecDepth 100000
namespace K71W
open PySem PySem.Spec PyProof.Rows L2
/-! ### the order of lists of ints -/
theorem lexB_dec : ∀ (xs ys : List Int), K71.lexB xs ys = decide (xs < ys)
  | [], [] => by simp [K71.lexB]
  | [], y :: ys => by simp [K71.lexB]
  | x :: xs, [] => by simp [K71.lexB]
  | x :: xs, y :: ys => by
    rw [K71.lexB, lexB_dec xs ys]
    by_cases h : x = y
    · subst h; rw [if_pos rfl]; exact decide_eq_decide.2 (by rw [List.cons_lt_cons_iff]; simp)
    · rw [if_neg h]; exact decide_eq_decide.2 (by rw [List.cons_lt_cons_iff]; simp [h])
def tupD (ns : List Int) : PyData := .tuple (ns.map .int)
theorem lt_tupD (xs ys : List Int) : PySem.W.dataLt (tupD xs) (tupD ys) = K71.lexB xs ys := by
  unfold tupD
  rw [PySem.W.dataLt_tuple, lexB_dec]
  exact PySem.W.dataLt_ints xs ys
theorem alike_tupD (xs ys : List Int) : PySem.W.alike (tupD xs) (tupD ys) = true := by
  unfold tupD
  rw [PySem.W.alike]
  exact PySem.W.alike_ints xs ys
theorem depth_tupD (xs : List Int) : (tupD xs).depth = 1 := by
  unfold tupD
  rw [PyData.depth, PySem.W.depth_ints]
theorem dp_intsR {K : PySem.W.Frag} {H : Hp} (ns : List Int) : DpAll K H (ns.map V.int) (ns.map PyData.int) := by
  induction ns with
  | nil => exact .nil
  | cons n ns ih => exact .cons (.int n) ih
section
variable {X : Cx}
/-! ### a < b of data -/
def rLtD (K : PySem.W.Frag) : R2 := fun x y H Q => ∃ d e, Dp K H x d ∧ Dp K H y e ∧ PySem.W.alike d e = true ∧ d ≠ .none ∧ min d.depth e.depth ≤ 8 ∧ Q (.bl (PySem.W.dataLt d e)) H
theorem op_ltD (room : X.A.units + 64 < cLine) : OpR X (compareOp .Lt) (rLtD X.K) := by
  intro pins s σ H x y vx vy Q inv relx rely ask
  rcases ask with ⟨d, e, dx, dy, al, nn, dep, fin⟩
  have ⟨_, readx⟩ := Dp.reads inv d x vx dx relx
  have ⟨_, ready⟩ := Dp.reads inv e y vy dy rely
  refine PySem.W.lt_data readx ready al nn (by omega) ?_
  exact ⟨.bl _, H, inv, rfl, fin⟩
end
/-! ### xs.extend(t), t a tuple -/
theorem meets_extT (p q : Addr) (its tis : Array Value) (m k : Nat) (dd : Option Addr) (sl : Array (Option Value)) (long : ¬(!its.isEmpty && Builtin.List.listTooLong (its.size + tis.size)) = true)
    (z1 : its.size ≤ sizeLine) (z2 : its.size + tis.size ≤ sizeLine + 1) :
    Meets (Builtin.«list.extend» ⟨[.ref p, .ref q], []⟩) (fun _ R s => s.heap.get? p = some { cls := .type "list", data := .seq its m } ∧
      s.heap.get? q = some { cls := .type "tuple", dict := dd, data := .seq tis k, slots := sl } ∧ R (.ok (.ret Value.none)) { s with heap := s.heap.update p (Obj.mapSeq fun z => z ++ tis), toks := s.toks }) :=
  .of_wp fun prog w A R s ask => by
    rcases s with ⟨heap, gens, drawn, toks, os⟩
    rcases ask with ⟨atp, atq, fin⟩
    have g1 := AutoSeq1.idx_int
    have g2 := AutoSeq1.sub_tuple_tuple
    have g3 := AutoSeq1.sub_list_list
    have g4 := AutoSeq1.sub_tuple_list
    have g5 := AutoSeq1.sub_list_tuple
    have z3 : (its ++ tis).size ≤ sizeLine + 1 := by rw [Array.size_append]; exact z2
    wp_walk using (wpAny_updateSeq atp rfl (hz := z1) (_hz' := z3)), AutoSeq1.wpAny_loadPart' atp, AutoSeq1.wpAny_loadPart' atq
    exact ⟨_, rfl, fin⟩
section
variable {X : Cx}
def rExtT (K : PySem.W.Frag) : V → List V → Hp → VK → Prop := fun x vs H Q => ∃ l b xs zs, x = .ref l ∧ vs = [.ref b] ∧ H l = some (.lst xs) ∧ SqT K H b zs ∧ xs.length + zs.length ≤ sizeLine ∧ Q .non (upd H l (.lst (xs ++ zs)))
theorem mt_extT : MtM X "list.extend" (rExtT X.K) := by
  intro pins s σ H x vs vx us Q inv relx rels ask
  rcases ask with ⟨l, b, xs, zs, rfl, rfl, atl, atb, room, fin⟩
  cases relx
  rcases rels.one with ⟨ub, rfl, relb⟩
  cases relb
  rcases inv.lstM atl with ⟨_, its, m, vals, len, stands⟩
  rcases inv.tuple atb with ⟨tis, tvals, ⟨⟨tcls, tdd, tdata, tsl⟩, tstands, tc, tm, td⟩, _⟩
  simp only at tc td
  subst tc td
  have tlen := tvals.length
  refine call_meets F.slot_list_extend ⟨_, stands, rfl⟩ F.entry_list_extend (F.args_list_extend_2 _ _) (meets_extT l b its.toArray tis.toArray m tm tdd tsl ?_ ?_ ?_) ?_
  · rw [notLongL (by rw [List.size_toArray, List.size_toArray]; omega), Bool.and_false]; exact Bool.false_ne_true
  · rw [List.size_toArray]; omega
  · rw [List.size_toArray, List.size_toArray]; omega
  · exact ⟨stands, tstands, .non, _, inv.lset (its' := its ++ tis) atl stands (by simp) (vals.append tvals) (by rw [List.length_append]; omega), rfl, fin⟩
/-! ### sorted of a list of tuples of ints -/
def leR (q r : Addr × List Int) : Bool := !K71.lexB r.2 q.2
def rSortR (K : PySem.W.Frag) : List V → Hp → VK → Prop := fun vs H Q => ∃ (a : Addr) (L : List (Addr × List Int)), vs = [.ref a] ∧ SqL K H a (L.map fun q => V.ref q.1) ∧ (∀ q ∈ L, SqT K H q.1 (q.2.map V.int) ∧ q.2 ≠ []) ∧
  ∀ p, H p = none → Q (.ref p) (upd H p (.lst ((L.mergeSort leR).map fun q => V.ref q.1)))
theorem vals_refs {L : List (Addr × List Int)} {us : List Value} (r : Vals (L.map fun q => V.ref q.1) us) : us = L.map fun q => Value.ref q.1 := by
  induction L generalizing us with
  | nil => cases r; rfl
  | cons q L ih =>
    cases r with
    | cons r1 r2 => cases r1; rw [ih r2]; rfl
theorem refs_vals : ∀ (L : List (Addr × List Int)), Vals (L.map fun q => V.ref q.1) (L.map fun q => Value.ref q.1)
  | [] => .nil
  | q :: L => .cons rfl (refs_vals L)
theorem each_refs {s : Shared} {pins : List (Addr × Obj)} {σ : L2.St} {H : Hp} (inv : Inv X pins σ H s) : ∀ (L : List (Addr × List Int)), (∀ q ∈ L, SqT X.K H q.1 (q.2.map V.int)) →
    PySem.W.EachIs (fun v (q : Addr × List Int) => ∃ as, Reads s.heap v (tupD q.2) as) (L.map fun q => Value.ref q.1) L
  | [], _ => .nil
  | q :: L, h => .cons (Dp.reads inv (tupD q.2) (.ref q.1) (.ref q.1) (.tup (h q (List.mem_cons_self ..)) (dp_intsR q.2)) rfl) (each_refs inv L fun r hr => h r (List.mem_cons_of_mem _ hr))
theorem cr_sortR (room : X.A.units + 64 < cLine) : CallR X (.builtin "sorted") (rSortR X.K) := by
  intro pins s σ H vs us Q inv rels ask
  rcases ask with ⟨a, L, rfl, sq, each, fin⟩
  rcases inv.list sq with ⟨its, vals, plain, z⟩
  rw [Vals.ref1 rels]
  have eits := vals_refs vals
  subst eits
  rw [List.length_map] at z
  have enc_eq : PySem.W.dataLe false (fun q : Addr × List Int => tupD q.2) = leR := by
    rw [PySem.W.dataLe_eq]; funext q r; show (!PySem.W.dataLt (tupD r.2) (tupD q.2)) = _; rw [lt_tupD]; rfl
  refine PySem.W.sorted_data (vs := L.map fun q => Value.ref q.1) (bs := L) (enc := fun q : Addr × List Int => tupD q.2) (R := fun v q => v = Value.ref q.1) plain.isList ?_
    (each_refs inv L fun q hq => (each q hq).1) (PySem.W.AllAlike.of fun _ _ => alike_tupD _ _) (.inl fun d hd => ?_) z (fun q _ => by rw [depth_tupD]; omega) fun out hl eo => ?_
  · clear fin each sq vals plain z
    induction L with
    | nil => exact .nil
    | cons q L ih => exact .cons rfl ih
  · obtain ⟨q, hq, rfl⟩ := List.mem_map.1 hd
    have hne := (each q hq).2
    cases e : q.2 with
    | nil => exact absurd e hne
    | cons n ns => exact ⟨.int n, ns.map .int, by first | rfl | (rw [e]; rfl)⟩
  · rw [enc_eq] at eo
    have eout : out = (L.mergeSort leR).map fun q => Value.ref q.1 := by
      clear fin hl
      revert eo
      generalize L.mergeSort leR = M
      intro eo
      induction eo with
      | nil => rfl
      | cons h _ ih => rw [List.map_cons, ← ih, h]
    rcases PyProof.Rows.sortedAll_at s.heap (L.map fun q => Value.ref q.1) out.toArray with ⟨ep, he⟩
    have hz : ((L.mergeSort leR).map fun q => V.ref q.1).length ≤ sizeLine := by rw [List.length_map, (List.mergeSort_perm L leR).length_eq]; exact z
    refine ⟨.ref _, upd H (s.heap.objs.size + 1) (.lst ((L.mergeSort leR).map fun q => V.ref q.1)), inv.laid (t' := s.toks) (fun _ _ => PyProof.Rows.sortedAll_old) (Nat.le_succ _) ⟨hz, out, ep, ?_, he⟩, rfl, fin _ (inv.hok.fresh (Nat.le_succ _))⟩
    rw [eout]; exact refs_vals _
/-! ### min of a list of tuples of ints -/
def rMinR (K : PySem.W.Frag) : List V → Hp → VK → Prop := fun vs H Q => ∃ (a : Addr) (L : List (Addr × List Int)), vs = [.ref a] ∧ SqL K H a (L.map fun q => V.ref q.1) ∧ L ≠ [] ∧ (∀ q ∈ L, SqT K H q.1 (q.2.map V.int)) ∧
  ∀ q ∈ L, (∀ r ∈ L, K71.lexB r.2 q.2 = false) → Q (.ref q.1) H
theorem minD_least (ns : List Int) (ms : List (List Int)) : ∃ m, PySem.W.minD (tupD ns) (ms.map tupD) = tupD m ∧ m ∈ ns :: ms ∧ ∀ r ∈ ns :: ms, K71.lexB r m = false := by
  induction ms generalizing ns with
  | nil => exact ⟨ns, rfl, by simp, by intro r hr; simp at hr; subst hr; exact K71.lexB_irr _⟩
  | cons k ms ih =>
    have e : PySem.W.minD (tupD ns) ((k :: ms).map tupD) = PySem.W.minD (tupD (if K71.lexB k ns = true then k else ns)) (ms.map tupD) := by
      show List.foldl _ (if PySem.W.dataLt (tupD k) (tupD ns) = true then tupD k else tupD ns) _ = _
      rw [lt_tupD]; split <;> rfl
    rw [e]
    obtain ⟨m, e1, hm, hl⟩ := ih (if K71.lexB k ns = true then k else ns)
    refine ⟨m, e1, ?_, ?_⟩
    · rcases List.mem_cons.1 hm with h | h
      · rw [h]; split <;> simp
      · simp [h]
    · have h0 := hl _ (List.mem_cons_self ..)
      have h1 : ∀ r ∈ ms, K71.lexB r m = false := fun r hr => hl r (List.mem_cons_of_mem _ hr)
      by_cases c : K71.lexB k ns = true
      · rw [if_pos c] at h0
        intro r hr
        simp only [List.mem_cons] at hr
        rcases hr with rfl | rfl | hr
        · cases h3 : K71.lexB r m with
          | false => rfl
          | true => rw [K71.lexB_tr c h3] at h0; cases h0
        · exact h0
        · exact h1 r hr
      · rw [if_neg c] at h0
        intro r hr
        simp only [List.mem_cons] at hr
        rcases hr with rfl | rfl | hr
        · exact h0
        · cases h3 : K71.lexB r m with
          | false => rfl
          | true =>
            exfalso
            have c' : K71.lexB r ns = false := by simpa using c
            cases h4 : K71.lexB ns r with
            | true => rw [K71.lexB_tr h4 h3] at h0; cases h0
            | false => rw [K71.lexB_tri c' h4] at h3; rw [h3] at h0; cases h0
        · exact h1 r hr
theorem tupD_inj {a b : List Int} (h : tupD a = tupD b) : a = b := by
  unfold tupD at h
  injection h with h
  induction a generalizing b with
  | nil => cases b with
    | nil => rfl
    | cons _ _ => cases h
  | cons x a ih => cases b with
    | nil => cases h
    | cons y b =>
      simp only [List.map_cons, List.cons.injEq] at h
      rw [ih h.2]; injection h.1 with e; rw [e]
theorem cr_minR (hc : X.calm = true) (room : X.A.units + 64 < cLine) : CallR X (.builtin "min") (rMinR X.K) := by
  intro pins s σ H vs us Q inv rels ask
  rcases ask with ⟨a, L, rfl, sq, hne, each, fin⟩
  rcases inv.list sq with ⟨its, vals, plain, z⟩
  rw [Vals.ref1 rels]
  have dall : DpAll X.K H (L.map fun q => V.ref q.1) (L.map fun q => tupD q.2) := by
    clear fin sq vals plain z hne
    induction L with
    | nil => exact .nil
    | cons q L ih => exact .cons (.tup (each q (List.mem_cons_self ..)) (dp_intsR q.2)) (ih fun r hr => each r (List.mem_cons_of_mem _ hr))
  rcases Dp.readsAll inv _ _ _ dall vals with ⟨as, rall⟩
  have eits := vals_refs vals
  have key : ∃ q L', L = q :: L' := by cases L with
    | nil => exact absurd rfl hne
    | cons q L' => exact ⟨q, L', rfl⟩
  rcases key with ⟨q0, L', rfl⟩
  have em : (L'.map fun q => tupD q.2) = (L'.map (·.2)).map tupD := by rw [List.map_map]; rfl
  have dep : PyData.depthAll (tupD q0.2 :: L'.map fun q => tupD q.2) ≤ 1 := by
    have : ∀ l : List (Addr × List Int), PyData.depthAll (l.map fun q => tupD q.2) ≤ 1 := by
      intro l
      induction l with
      | nil => simp [PyData.depthAll]
      | cons q l ih => rw [List.map_cons, PyData.depthAll, depth_tupD]; omega
    exact this (q0 :: L')
  refine PySem.W.min_list_data (x := tupD q0.2) (xs := L'.map fun q => tupD q.2) (as := as) (inv.ok.hd hc) plain.isList (by simpa using rall) ⟨?_, ?_⟩ (by omega) fun i v h' tk bs hv rd keep => ?_
  · intro x hx y hy
    have : ∀ d ∈ (tupD q0.2 :: L'.map fun q => tupD q.2), ∃ ns, d = tupD ns := by
      intro d hd
      obtain ⟨q, _, e⟩ := List.mem_map.1 (show d ∈ (q0 :: L').map (fun q => tupD q.2) from hd)
      exact ⟨_, e.symm⟩
    obtain ⟨n1, rfl⟩ := this x hx
    obtain ⟨n2, rfl⟩ := this y hy
    exact alike_tupD _ _
  · intro x hx
    obtain ⟨q, _, e⟩ := List.mem_map.1 (show x ∈ (q0 :: L').map (fun q => tupD q.2) from hx)
    rw [← e]; intro h; cases h
  · rw [eits] at hv
    have hv2 : ((q0 :: L').map fun q => Value.ref q.1)[i]? = some v := by simpa using hv
    rw [List.getElem?_map] at hv2
    obtain ⟨q, hq, rfl⟩ := Option.map_eq_some_iff.1 hv2
    have hmem : q ∈ q0 :: L' := List.mem_of_getElem? hq
    rcases Dp.reads inv (tupD q.2) (.ref q.1) (.ref q.1) (.tup (each q hmem) (dp_intsR q.2)) rfl with ⟨cs, rq⟩
    obtain ⟨m, e1, hm, hl⟩ := minD_least q0.2 (L'.map (·.2))
    rw [em, e1] at rd
    have equ := PySem.W.alike_unique _ _ _ _ _ (alike_tupD q.2 m) (PyProof.Rows.Reads.keeps keep rq) rd
    have eqm := tupD_inj equ
    refine ⟨.ref q.1, H, inv.kept keep, rfl, fin q hmem fun r hr => ?_⟩
    rw [eqm]
    exact hl r.2 (List.mem_map.2 ⟨r, hr, rfl⟩)
end
end K71W

/-! ## WkB -/
set_option Elab.async false
set_option linter.all false
set_option maxRecDepth 100000
namespace K71W
open PySem PySem.Spec PyProof.Rows L2
/-- a def that can be called: its name, its parameters, its level, its promise -/
def Fn (P : Program) (w : World) (K : PySem.W.Frag) (mg : Str → Option Value) (base : Heap) (x : Str) (ps : List Str) (n : Nat) (sp : Sp) : Prop :=
  ∃ f fd, Binds K fd ps [] ∧ mg x = some (.ref f) ∧ PySem.W.keepIn K (.ref f) = true ∧ FnOk P w K mg base CX0 n f fd ps sp
theorem Def.fn {P : Program} {w : World} {K : PySem.W.Frag} {mg : Str → Option Value} {base : Heap} {x : Str} {st : Stmt} {ps : List Str} {f : Addr} {fd : FuncData} {n : Nat} {sp : Sp}
    (D : Def K mg x st ps f fd) (G : FnOk P w K mg base CX0 n f fd ps sp) : Fn P w K mg base x ps n sp := ⟨f, fd, D.b, D.g, D.F.kp, G⟩
/-- a row at a -/
def RA (H : Hp) (a : Addr) (w : List Int) : Prop := H a = some (.tup (w.map V.int))
theorem RA.sq {K : PySem.W.Frag} {H : Hp} {a : Addr} {w : List Int} (h : RA H a w) : SqT K H a (w.map V.int) := SqT.of h
theorem RA.same {H H' : Hp} {a : Addr} {w : List Int} (h : RA H a w) (s : Same H H') : RA H' a w := s _ _ h
/-- rows with their places -/
abbrev Rws := List (Addr × List Int)
def refs (L : Rws) : List V := L.map fun q => V.ref q.1
def rws (L : Rws) : List (List Int) := L.map (·.2)
def All (H : Hp) (L : Rws) : Prop := ∀ q ∈ L, RA H q.1 q.2
theorem All.same {H H' : Hp} {L : Rws} (h : All H L) (s : Same H H') : All H' L := fun q hq => (h q hq).same s
theorem refs_length (L : Rws) : (refs L).length = L.length := List.length_map ..
theorem rws_length (L : Rws) : (rws L).length = L.length := List.length_map ..
theorem refs_get {L : Rws} {i : Nat} (h : i < L.length) : (refs L)[i]? = some (.ref L[i].1) := by unfold refs; rw [List.getElem?_map, List.getElem?_eq_getElem h]; rfl
theorem rws_getD {L : Rws} {i : Nat} (h : i < L.length) : (rws L).getD i [] = L[i].2 := by unfold rws; rw [List.getD_eq_getElem?_getD, List.getElem?_map, List.getElem?_eq_getElem h]; rfl
theorem ints_get {w : List Int} {i : Nat} (h : i < w.length) : (w.map V.int)[i]? = some (.int w[i]) := by rw [List.getElem?_map, List.getElem?_eq_getElem h]; rfl
theorem upd_other {H : Hp} {a b : Addr} {o x : HO} (h : H a = some x) (hb : H b = none) : (upd H b o) a = some x := by rw [upd_ne (ne_of_none h hb)]; exact h
/-- a list of one's own that grows: what stood before stands -/
theorem same_own {H H3 : Hp} {p : Addr} {o : HO} (no : H p = none) (s : Same H H3) : Same H (upd H3 p o) := fun b z e => by rw [upd_ne (ne_of_none e no)]; exact s _ _ e
/-- a slice of a row: a row again (the same object or a new one) -/
theorem slA {K : PySem.W.Frag} {H : Hp} {a : Addr} {ns : List Int} {lo hi : Option Int} {Q : VK} (h : RA H a ns) (i j : Nat) (ei : HT.sIx ns.length 0 lo = i) (ej : HT.sIx ns.length ns.length hi = j)
    (q : ∀ t H', Same H H' → RA H' t ((ns.drop i).take (j - i)) → Q (.ref t) H') : rSlA K (.ref a) lo hi H Q := by
  refine ⟨a, _, rfl, h.sq, fun hw => ?_, fun hw p np => ?_⟩
  · rw [List.length_map, ei, ej] at hw
    refine q a H (Same.refl _) ?_
    rw [hw.1, hw.2, List.drop_zero, Nat.sub_zero, List.take_length]; exact h
  · refine q p _ (same_upd np) ?_
    unfold RA
    rw [upd_same]
    unfold cutV
    rw [List.length_map, ei, ej, ← List.map_drop, ← List.map_take]
theorem sIx_nat (n d m : Nat) : HT.sIx n d (some (m : Int)) = min m n := by
  show (if (m : Int) < 0 then ((m : Int) + (n : Int)).toNat else min (m : Int).toNat n) = _
  rw [if_neg (by omega)]; simp
theorem catA {K : PySem.W.Frag} {H : Hp} {a b : Addr} {xs ys : List Int} {Q : VK} (ha : RA H a xs) (hb : RA H b ys) (z : xs.length + ys.length ≤ 1000000)
    (q : ∀ t H', Same H H' → RA H' t (xs ++ ys) → Q (.ref t) H') : rCatA K (.ref a) (.ref b) H Q := by
  refine ⟨a, b, _, _, rfl, rfl, ha.sq, hb.sq, ?_, fun e => ?_, fun _ e => ?_, fun _ _ p np => ?_⟩
  · rw [List.length_map, List.length_map]; exact Nat.le_trans z (by decide)
  · have e' : xs = [] := List.map_eq_nil_iff.1 e
    exact q b H (Same.refl _) (by rw [e']; exact hb)
  · have e' : ys = [] := List.map_eq_nil_iff.1 e
    exact q a H (Same.refl _) (by rw [e', List.append_nil]; exact ha)
  · exact q p _ (same_upd np) (by unfold RA; rw [upd_same, List.map_append])
/-- a rule's reading, asked in other words -/
theorem pe_weak {X : Cx} {e : Expr} {t t' : TE} (h : PE X e t) (le : ∀ σ H Q, t' σ H Q → t σ H Q) : PE X e t' := ⟨fun pins s σ H Q I q => h.run pins s σ H Q I (le σ H Q q)⟩
theorem ps_weak {X : Cx} {st : Stmt} {t t' : TS} (h : PS X st t) (le : ∀ D σ H, t' D σ H → t D σ H) : PS X st t' := ⟨fun pins s σ H D I q => h.run pins s σ H D I (le D σ H q)⟩
/-- subscripts within a comprehension -/
theorem ix_tupK (K : PySem.W.Frag) {X : Cx} (h : X.K = K) : IxR X (rIxT K) := by subst h; exact ix_tup
theorem call_lenK (K : PySem.W.Frag) {X : Cx} (h : X.K = K) : CallR X (.builtin "len") (fun xs H Q => ∃ p ys, xs = [.ref p] ∧ (SqL K H p ys ∨ SqT K H p ys) ∧ Q (.int ys.length) H) := by subst h; exact call_len_seq
theorem sl_tupK (K : PySem.W.Frag) {X : Cx} (h : X.K = K) : SlR X (rSlA K) := by subst h; exact sl_tupA
theorem sl_listK (K : PySem.W.Frag) {X : Cx} (h : X.K = K) : SlR X (rSlL K) := by subst h; exact sl_list
theorem call_listK (K : PySem.W.Frag) {X : Cx} (h : X.K = K) : CallR X (.type "list") (fun xs H Q => ∃ p ys, xs = [.ref p] ∧ (SqL K H p ys ∨ SqT K H p ys) ∧ ∀ l, H l = none → Q (.ref l) (upd H l (.lst ys))) := by subst h; exact call_list_of
theorem op_catAK (K : PySem.W.Frag) {X : Cx} (h : X.K = K) : OpR X (binaryOp .Add) (rCatA K) := by subst h; exact op_catA
theorem RA.upd {H : Hp} {x p : Addr} {r : List Int} {zs : List V} {o : HO} (h : RA H x r) (e : H p = some (.lst zs)) : RA (L2.upd H p o) x r := by
  unfold RA; rw [upd_ne (ne_of h e (by intro z; cases z))]; exact h
theorem All.upd {H : Hp} {p : Addr} {L : Rws} {zs : List V} {o : HO} (h : All H L) (e : H p = some (.lst zs)) : All (L2.upd H p o) L := fun q hq => (h q hq).upd e
theorem tup_upd {H : Hp} {x p : Addr} {xs zs : List V} {o : HO} (h : H x = some (.tup xs)) (e : H p = some (.lst zs)) : (L2.upd H p o) x = some (.tup xs) := by
  rw [upd_ne (ne_of h e (by intro z; cases z))]; exact h
theorem lay_rows (us : List (List Int)) : PyData.canLayAll0 (us.map tupD) = true ∧ PyData.depthAll (us.map tupD) ≤ 2 := by
  induction us with
  | nil => exact ⟨rfl, by simp [PyData.depthAll]⟩
  | cons u us ih =>
    have h := lay_ints u
    rw [List.map_cons, PyData.canLayAll0, PyData.depthAll, depth_tupD, ih.1]
    refine ⟨?_, by have := ih.2; omega⟩
    unfold tupD
    rw [PyData.canLay0, h.1]; rfl
theorem shaped_tup (ns : List Int) : SeqAt.shaped (.tuple (ns.map PyData.int)) = true := by
  have h := lay_ints ns
  exact Bool.and_eq_true_iff.2 ⟨h.1, decide_eq_true (show PyData.depthAll (ns.map PyData.int) + 1 ≤ 64 by have := h.2; omega)⟩
theorem shaped_rows (us : List (List Int)) : SeqAt.shaped (.tuple (us.map tupD)) = true := by
  have h := lay_rows us
  exact Bool.and_eq_true_iff.2 ⟨h.1, decide_eq_true (show PyData.depthAll (us.map tupD) + 1 ≤ 64 by have := h.2; omega)⟩
theorem eqv_tupD (a b : List Int) : PyData.eqv (tupD a) (tupD b) = decide (a = b) := by
  unfold tupD
  rw [PyData.eqv]
  exact eqv_ints a b
theorem eqv_rows (us vs : List (List Int)) : PyData.eqv (.tuple (us.map tupD)) (.tuple (vs.map tupD)) = decide (us = vs) := by
  rw [PyData.eqv]
  induction us generalizing vs with
  | nil => cases vs <;> simp [PyData.eqvAll]
  | cons u us ih =>
    cases vs with
    | nil => simp [PyData.eqvAll]
    | cons v vs => simp only [List.map_cons, PyData.eqvAll, ih, eqv_tupD]; by_cases h : u = v <;> simp [h]
theorem dp_rows {K : PySem.W.Frag} {H : Hp} (L : Rws) (h : All H L) : DpAll K H (refs L) ((rws L).map tupD) := by
  induction L with
  | nil => exact .nil
  | cons q L ih => exact .cons (.tup (h q (List.mem_cons_self ..)).sq (dp_ints q.2)) (ih fun r hr => h r (List.mem_cons_of_mem _ hr))
theorem RA.dp {K : PySem.W.Frag} {H : Hp} {a : Addr} {r : List Int} (h : RA H a r) : Dp K H (.ref a) (tupD r) := .tup h.sq (dp_ints r)
theorem dp_tup {K : PySem.W.Frag} {H : Hp} {a : Addr} {L : Rws} (ha : H a = some (.tup (refs L))) (h : All H L) : Dp K H (.ref a) (.tuple ((rws L).map tupD)) := .tup (SqT.of ha) (dp_rows L h)
theorem op_eqDK (K : PySem.W.Frag) {X : Cx} (h : X.K = K) (hu : X.A.units + 64 < cLine) : OpR X (compareOp .Eq) (rEqD K) := by subst h; exact op_eqD hu
theorem op_neDK (K : PySem.W.Frag) {X : Cx} (h : X.K = K) (hu : X.A.units + 64 < cLine) : OpR X (compareOp .NotEq) (rNeD K) := by subst h; exact op_neD hu
theorem op_in_seqK (K : PySem.W.Frag) {X : Cx} (h : X.K = K) : OpR X (compareOp .In) (rIn K false) := by subst h; exact op_in_seq
/-- a slice of a list of ints: a new list -/
theorem slL {K : PySem.W.Frag} {H : Hp} {a : Addr} {ns : List Int} {lo hi : Option Int} {Q : VK} (h : SqL K H a (ns.map V.int)) (i j : Nat) (ei : HT.sIx ns.length 0 lo = i) (ej : HT.sIx ns.length ns.length hi = j)
    (q : ∀ p, H p = none → Q (.ref p) (L2.upd H p (.lst (((ns.drop i).take (j - i)).map V.int)))) : rSlL K (.ref a) lo hi H Q := by
  refine ⟨a, _, rfl, h, fun p np => ?_⟩
  have := q p np
  rwa [show cutV (ns.map V.int) lo hi = ((ns.drop i).take (j - i)).map V.int by unfold cutV; rw [List.length_map, ei, ej, ← List.map_drop, ← List.map_take]]
theorem call_tupleK (K : PySem.W.Frag) {X : Cx} (h : X.K = K) : CallR X (.type "tuple") (fun xs H Q => ∃ p ys, xs = [.ref p] ∧ ((SqL K H p ys ∧ ∀ l, H l = none → Q (.ref l) (L2.upd H l (.tup ys))) ∨ (SqT K H p ys ∧ Q (.ref p) H))) := by subst h; exact call_tuple_of
theorem eqv_rows_list (us : List (List Int)) : PyData.eqv (.list (us.map tupD)) (.list []) = decide (us = []) := by
  cases us with
  | nil => rfl
  | cons u us => simp [PyData.eqv, PyData.eqvAll]
theorem shaped_rows_list (us : List (List Int)) : SeqAt.shaped (.list (us.map tupD)) = true := by
  have h := lay_rows us
  exact Bool.and_eq_true_iff.2 ⟨h.1, decide_eq_true (show PyData.depthAll (us.map tupD) + 1 ≤ 64 by have := h.2; omega)⟩
theorem ix_listK (K : PySem.W.Frag) {X : Cx} (h : X.K = K) : IxR X (rIxL K) := by subst h; exact ix_list
end K71W

/-! ## Wk8 -/
set_option Elab.async false
set_option linter.all false
set_option maxRecDepth 100000
namespace K71W
open PySem PySem.Spec PyProof.Rows L2
open K71 (img ren Pl)
section
variable {P : Program} {w : World} {K : PySem.W.Frag} {mg : Str → Option Value} {base : Heap}
abbrev sPlainRow : Stmt := topS 20
theorem scPlainRow : FnScope ["deeds", "value", "x", "at"] ["deeds", "value"] (defScope sPlainRow) := ⟨rfl, rfl, rfl, by decide +kernel, rfl, by decide +kernel, by decide +kernel⟩
def spPlainRow (K : PySem.W.Frag) : Sp := fun vs H Q _ => ∃ (n : Int) (a : Addr) (ns : List Int), vs = [.int n, .ref a] ∧ RA H a ns ∧ Pl ns ∧ ns.length ≤ 100000 ∧
  (∀ v ∈ ns, v ≠ 0 ∧ 0 - n ≤ v ∧ v ≤ n) ∧ ∀ H', Same H H' → Q (.bl true) H'
theorem pl_next {ns : List Int} (h : Pl ns) {i : Nat} (hi : i + 1 < ns.length) : ns[i] ≠ -ns[i + 1] := by
  have e : ns = ns.take (i + 1) ++ ns.drop (i + 1) := (List.take_append_drop ..).symm
  have h2 : Pl (ns.take i ++ [ns[i], ns[i + 1]] ++ ns.drop (i + 2)) := by
    have : ns.take i ++ [ns[i], ns[i + 1]] ++ ns.drop (i + 2) = ns := by
      have h1 : ns.drop i = ns[i] :: ns.drop (i + 1) := List.drop_eq_getElem_cons (by omega)
      have h3 : ns.drop (i + 1) = ns[i + 1] :: ns.drop (i + 2) := List.drop_eq_getElem_cons (by omega)
      conv => rhs; rw [← List.take_append_drop i ns, h1, h3]
      simp
    rw [this]; exact h
  have h3 := (K71.Pl.prefix h2).suffix
  intro e2
  exact h3.1 (by omega)
theorem ok_plainRow (D : ∃ f fd, Def K mg "is_plain_row" sPlainRow ["deeds", "value"] f fd)
    (W : Fn P w K mg base "is_whole" ["value"] 1 spWhole)
    (mi : mg "isinstance" = none) (mt : mg "tuple" = none) (ml : mg "len" = none) (ma : mg "all" = none) (mr : mg "range" = none) :
    Fn P w K mg base "is_plain_row" ["deeds", "value"] 2 (spPlainRow K) := by
  obtain ⟨f, fd, D⟩ := D
  obtain ⟨fW, fdW, bW, gW, kW, GW⟩ := W
  refine D.fn (D.F.ok scPlainRow (fun vs H Q E h => ?_) (fun cdv A outer s H vs Q E hr h => ?_))
  · obtain ⟨n, a, ns, rfl, _⟩ := h; rfl
  · obtain ⟨n, a, ns, rfl, hT, hp, hlen, hfit, q⟩ := h
    refine ⟨_, pss_cons (ps_if (PW.pt (pw_or (pt_not (pt_val (pe_callB call_isi (by rfl) mi (by decide +kernel) (pa_cons (pv 1) (pa_cons (pe_bltn (v := .ty "tuple") (by rfl) mt (by decide +kernel) rfl) pa_nil)))))
        (pw_or1 (pt_not (pt_val (pe_callB (cr_all rfl) (by rfl) ma (by decide +kernel) (pa_cons
        (pe_lc (own := [("x", 2)]) (g := gName 2) (tt := tYes) rfl scPlainRow.nd (pi_tup (pv 1)) (blkOk_by (N := ["deeds", "value", "x", "at"]) (sc := defScope sPlainRow) (by decide +kernel))
        (fun _ _ _ _ _ => pg_name (i := 2) scPlainRow.nd rfl (Or.inl rfl)) (fun _ _ _ _ _ => pts_nil) (fun _ _ _ _ _ =>
          pe_and (pe_call GW hr (by rfl) gW kW bW .nil pass0 (pa_cons (pv 2) pa_nil)) (pe_and (pe_cmpR op_ne (pv 2) pe_int (nomark _)) (pe_one (pe_chain op_le op_le (pe_op op_sub pe_int (pv 0)) (pv 2) (pv 0)))))) pa_nil)))))))
        (pss_one ps_never) pss_nil)
      (pss_one (ps_ret (pe_callB (cr_all rfl) (by rfl) ma (by decide +kernel) (pa_cons
        (pe_lc (own := [("at", 3)]) (g := gName 3) (tt := tYes) rfl scPlainRow.nd (pi_range1 rfl mr (pa_cons (pe_op op_sub (pe_callB call_len_seq (by rfl) ml PySem.boot_len (pa_cons (pv 1) pa_nil)) pe_int) pa_nil)) (blkOk_by (N := ["deeds", "value", "x", "at"]) (sc := defScope sPlainRow) (by decide +kernel))
        (fun _ _ _ _ _ => pg_name (i := 3) scPlainRow.nd rfl (Or.inl rfl)) (fun _ _ _ _ _ => pts_nil) (fun _ _ _ _ _ =>
          pe_cmpR op_ne (pe_ix (ix_tupK K rfl) (pv 1) (pv 3) (fun _ _ => rfl)) (pe_op op_sub pe_int (pe_ix (ix_tupK K rfl) (pv 1) (pe_op op_add (pv 3) pe_int) (fun _ _ => rfl))) (nomark _))) pa_nil)))), ?_⟩
    refine ⟨.ref a, rfl, .ref a, .ty "tuple", .type "tuple", .type "tuple", true, rfl, .ty _, .base (.tup hT), kit_ty (by decide +kernel), true, rfl, ?_⟩
    refine ⟨.ref a, rfl, a, rfl, ⟨_, hT.sq⟩, fun o no => ?_⟩
    refine lc_tup (xs := ns.map V.int) (fun i H3 => Same H H3 ∧ H3 o = some (.lst ((List.replicate i true).map V.bl)))
      ⟨same_upd no, by rw [upd_same]; rfl⟩ (fun i H3 hi h => seqT h.1 hT.sq) (fun i x H3 hx h => ?_) (fun H3 h => ?_)
    · obtain ⟨sm, eo⟩ := h
      have hi : i < ns.length := by have := (List.getElem?_eq_some_iff.1 hx).1; simpa using this
      have ex : x = .int ns[i] := by rw [ints_get hi] at hx; exact (Option.some.inj hx).symm
      subst ex
      have hv := hfit ns[i] (List.getElem_mem hi)
      refine ⟨rfl, .int ns[i], rfl, ns[i], rfl, true, rfl, ?_⟩
      refine ⟨.int ns[i], rfl, rfl, _, rfl, ?_⟩
      show if (!decide (V.int ns[i] = V.int 0)) = true then _ else _
      rw [if_pos (by simp [hv.1])]
      refine ⟨.int n, rfl, 0, n, rfl, rfl, .int ns[i], rfl, 0 - n, ns[i], rfl, rfl, _, rfl, ?_⟩
      show if decide (0 - n ≤ ns[i]) = true then _ else _
      rw [if_pos (decide_eq_true hv.2.1)]
      refine ⟨.int n, rfl, ns[i], n, rfl, rfl, _, eo, ?_, fun b z e => ?_, ?_⟩
      · rw [List.length_map, List.length_replicate]; exact Nat.lt_of_lt_of_le (by omega : i < 100000) (by decide)
      · rw [upd_ne (ne_of_none e no)]; exact sm _ _ e
      · rw [upd_same]; simp only [decide_eq_true hv.2.2]; simp [List.replicate_succ']
    · obtain ⟨sm, eo⟩ := h
      refine ⟨o, _, rfl, SqL.of eo, ?_⟩
      have e : (List.replicate (ns.map V.int).length true).all id = true := by simp
      rw [e]
      refine ⟨true, rfl, ?_⟩
      have hT3 := hT.same sm
      refine ⟨.ref a, rfl, a, _, rfl, .inr hT3.sq, _, 1, rfl, rfl, _, rfl, ?_, ?_, ?_⟩
      · rw [List.length_map]; omega
      · rw [List.length_map]; have : (ns.length : Int) ≤ 100000 := by omega
        omega
      rw [List.length_map]
      refine fun o2 no2 => lc_range (lo := 0) (n := ((ns.length : Int) - 1).toNat) (fun i H4 => Same H3 H4 ∧ H4 o2 = some (.lst ((List.replicate i true).map V.bl)))
        ⟨same_upd no2, by rw [upd_same]; rfl⟩ (fun i H4 hi h => ?_) (fun H4 h => ?_)
      · obtain ⟨sm4, eo4⟩ := h
        have h1 : i < ns.length := by omega
        have h2 : i + 1 < ns.length := by omega
        have e0 : (0 : Int) + (i : Int) = (i : Int) := by omega
        have hT4 := hT3.same sm4
        refine ⟨rfl, .ref a, rfl, _, rfl, a, _, _, .int ns[i], rfl, rfl, hT4.sq, ?_, .ref a, rfl, _, rfl, _, 1, rfl, rfl, a, _, _, .int ns[i + 1], rfl, rfl, hT4.sq, ?_, 0, _, rfl, rfl, rfl, ?_⟩
        · rw [e0]; exact atI_nat (ints_get h1)
        · rw [show (0 : Int) + (i : Int) + 1 = ((i + 1 : Nat) : Int) by omega]; exact atI_nat (ints_get h2)
        have hne := pl_next hp h2
        have e2 : (!decide (V.int ns[i] = V.int (0 - ns[i + 1]))) = true := by
          simp; intro h; exact hne (by omega)
        rw [e2]
        refine ⟨_, eo4, ?_, ?_, ?_⟩
        · rw [List.length_map, List.length_replicate]; exact Nat.lt_of_lt_of_le (by omega : i < 100000) (by decide)
        · exact same_own no2 sm4
        · rw [upd_same]; simp [List.replicate_succ']
      · obtain ⟨sm4, eo4⟩ := h
        refine ⟨o2, _, rfl, SqL.of eo4, ?_⟩
        have e : (List.replicate ((ns.length : Int) - 1).toNat true).all id = true := by simp
        rw [e]; exact q _ (sm.trans sm4)
end
end K71W

/-! ## Wk9 -/
set_option Elab.async false
set_option linter.all false
set_option maxRecDepth 100000
namespace K71W
open PySem PySem.Spec PyProof.Rows L2
open K71 (img ren Pl)
section
variable {P : Program} {w : World} {K : PySem.W.Frag} {mg : Str → Option Value} {base : Heap}
abbrev sRenamedBy : Stmt := topS 21
theorem scRenamedBy : FnScope ["images", "row", "letters", "x"] ["images", "row"] (defScope sRenamedBy) := ⟨rfl, rfl, rfl, by decide +kernel, rfl, by decide +kernel, by decide +kernel⟩
def spRenamedBy : Sp := fun vs H Q _ => ∃ (a b : Addr) (L : Rws) (r : List Int), vs = [.ref a, .ref b] ∧ H a = some (.tup (refs L)) ∧ All H L ∧ RA H b r ∧
  (∀ x ∈ r, x ≠ 0 ∧ -(L.length : Int) ≤ x ∧ x ≤ L.length) ∧ (r.flatMap (img (rws L))).length ≤ 100000 ∧ ∀ H' p, Same H H' → H p = none → RA H' p (ren (rws L) r) → Q (.ref p) H'
theorem len_flatMap {α β : Type} {f : α → List β} {l : List α} {x : α} (h : x ∈ l) : (f x).length ≤ (l.flatMap f).length := by
  induction l with
  | nil => cases h
  | cons y l ih =>
    rw [List.flatMap_cons, List.length_append]
    rcases List.mem_cons.1 h with e | e
    · subst e; omega
    · have := ih e; omega
theorem take_flatMap {α β : Type} {f : α → List β} {l : List α} {i : Nat} (h : i < l.length) : (l.take (i + 1)).flatMap f = (l.take i).flatMap f ++ f l[i] := by
  rw [List.take_add_one, List.getElem?_eq_getElem h, List.flatMap_append]; simp only [Option.toList_some, List.flatMap_cons, List.flatMap_nil, List.append_nil]
theorem len_take_flatMap {α β : Type} (f : α → List β) (l : List α) (i : Nat) : ((l.take i).flatMap f).length ≤ (l.flatMap f).length := by
  conv => rhs; rw [← List.take_append_drop i l, List.flatMap_append]
  rw [List.length_append]; omega
/-- images[x - 1] if x > 0 else undone_of(images[0 - x - 1]) -/
theorem img_pos' {L : Rws} {x : Int} (h : 0 < x) (h' : x ≤ L.length) : ∃ k, ∃ hk : k < L.length, x - 1 = (k : Int) ∧ img (rws L) x = L[k].2 := by
  refine ⟨(x - 1).toNat, by omega, by omega, ?_⟩
  unfold img; rw [if_pos h, rws_getD (by omega)]
theorem img_neg' {L : Rws} {x : Int} (h : x < 0) (h' : -(L.length : Int) ≤ x) : ∃ k, ∃ hk : k < L.length, 0 - x - 1 = (k : Int) ∧ img (rws L) x = K71.inv L[k].2 := by
  refine ⟨(0 - x - 1).toNat, by omega, by omega, ?_⟩
  unfold img; rw [if_neg (by omega), rws_getD (by omega)]
theorem ok_renamedBy (D : ∃ f fd, Def K mg "renamed_by" sRenamedBy ["images", "row"] f fd)
    (U : Fn P w K mg base "undone_of" ["row"] 1 (spUndone K)) (F : Fn P w K mg base "plain_of" ["letters"] 1 (spPlainL K)) :
    Fn P w K mg base "renamed_by" ["images", "row"] 2 spRenamedBy := by
  obtain ⟨f, fd, D⟩ := D
  obtain ⟨fU, fdU, bU, gU, kU, GU⟩ := U
  obtain ⟨fF, fdF, bF, gF, kF, GF⟩ := F
  refine D.fn (D.F.ok scRenamedBy (fun vs H Q E h => ?_) (fun cdv A outer s H vs Q E hr h => ?_))
  · obtain ⟨a, b, L, r, rfl, _⟩ := h; rfl
  · obtain ⟨a, b, L, r, rfl, hA, hL, hR, hx, hlen, q⟩ := h
    refine ⟨_, pss_cons (ps_set (i := 2) scRenamedBy.nd rfl (.inl rfl) (pe_lst pa_nil))
      (pss_cons (ps_for PassesOwn.never rfl (pi_tup (pv 1)) (pg_name (i := 3) scRenamedBy.nd rfl (.inl rfl))
        (pss_one (ps_expr (pe_bm PySem.F.plainAttrs_list PySem.F.slot_list_extend PySem.F.type_list_extend mt_extT (pv 2) (pa_cons
          (pe_ifExp (pt_cmpR op_gt (pv 3) pe_int (nomark _)) (pe_ix ix_tup (pv 0) (pe_op op_sub (pv 3) pe_int) (fun _ _ => rfl))
            (pe_call GU hr (by rfl) gU kU bU .nil pass0 (pa_cons (pe_ix ix_tup (pv 0) (pe_op op_sub (pe_op op_sub pe_int (pv 3)) pe_int) (fun _ _ => rfl)) pa_nil))) pa_nil)))))
      (pss_one (ps_ret (pe_call GF hr (by rfl) gF kF bF .nil pass0 (pa_cons (pv 2) pa_nil))))), ?_⟩
    refine ⟨Nat.zero_le _, fun o no => ?_⟩
    have s1 : Same H (upd H o (.lst [])) := same_upd no
    refine ⟨.ref b, rfl, b, rfl, ⟨_, (hR.same s1).sq⟩, for_tup (xs := r.map V.int) (fun i σ H3 => ∃ y3, σ = [some (.ref a), some (.ref b), some (.ref o), y3] ∧ Same H H3 ∧ H3 o = some (.lst (((r.take i).flatMap (img (rws L))).map V.int)))
      ⟨none, rfl, s1, by rw [upd_same]; rfl⟩ (fun i σ H3 hi h => by obtain ⟨_, _, sm, _⟩ := h; exact (hR.same sm).sq) (fun i x σ H3 hx' h => ?_) (fun σ H3 h => ?_)⟩
    · obtain ⟨y3, rfl, sm, eo⟩ := h
      have hi : i < r.length := by have := (List.getElem?_eq_some_iff.1 hx').1; simpa using this
      have ex : x = .int r[i] := by rw [ints_get hi] at hx'; exact (Option.some.inj hx').symm
      subst ex
      have hv := hx r[i] (List.getElem_mem hi)
      have hone : (img (rws L) r[i]).length ≤ 100000 := Nat.le_trans (len_flatMap (List.getElem_mem hi)) hlen
      have hb := len_take_flatMap (img (rws L)) r (i + 1)
      rw [take_flatMap hi, List.length_append] at hb
      have hz : (100000 : Nat) ≤ sizeLine := by decide
      have fin : ∀ H4, Same H3 H4 → ∃ y3', [some (.ref a), some (.ref b), some (.ref o), some (.int r[i])] = [some (V.ref a), some (.ref b), some (.ref o), y3'] ∧ Same H (upd H4 o (.lst (((r.take i).flatMap (img (rws L))).map V.int ++ (img (rws L) r[i]).map V.int))) ∧
          (upd H4 o (.lst (((r.take i).flatMap (img (rws L))).map V.int ++ (img (rws L) r[i]).map V.int))) o = some (.lst (((r.take (i + 1)).flatMap (img (rws L))).map V.int)) := fun H4 s4 =>
        ⟨_, rfl, same_own no (sm.trans s4), by rw [upd_same, take_flatMap hi, List.map_append]⟩
      refine ⟨.ref o, rfl, .inl ⟨rfl, _, SqL.of eo⟩, ?_⟩
      refine ⟨.int r[i], rfl, _, 0, rfl, rfl, _, rfl, ?_⟩
      show if decide (r[i] > 0) = true then _ else _
      by_cases hp : 0 < r[i]
      · rw [if_pos (decide_eq_true hp)]
        obtain ⟨k, hk, e1, e2⟩ := img_pos' hp hv.2.2
        refine ⟨.ref a, rfl, .int r[i], rfl, _, 1, rfl, rfl, a, refs L, _, .ref L[k].1, rfl, rfl, SqT.of (sm _ _ hA), by rw [e1]; exact atI_nat (refs_get hk), ?_⟩
        have hat : RA H3 L[k].1 L[k].2 := (hL _ (List.getElem_mem hk)).same sm
        refine ⟨o, L[k].1, _, _, rfl, rfl, eo, by rw [← e2] at hat; exact hat.sq, ?_, fin H3 (Same.refl _)⟩
        rw [List.length_map, List.length_map]; omega
      · rw [if_neg (by simpa using hp)]
        obtain ⟨k, hk, e1, e2⟩ := img_neg' (by omega : r[i] < 0) hv.2.1
        have hat : RA H3 L[k].1 L[k].2 := (hL _ (List.getElem_mem hk)).same sm
        refine ⟨.ref a, rfl, .int r[i], rfl, 0, _, rfl, rfl, _, 1, rfl, rfl, a, refs L, _, .ref L[k].1, rfl, rfl, SqT.of (sm _ _ hA), by rw [e1]; exact atI_nat (refs_get hk), ?_⟩
        refine ⟨L[k].1, L[k].2, rfl, hat.sq, by rw [e2, K71.inv_length] at hone; exact hone, fun H4 p s4 np ep => ?_⟩
        refine ⟨o, p, _, _, rfl, rfl, s4 _ _ eo, by rw [← e2] at ep; exact SqT.of ep, ?_, fin H4 s4⟩
        rw [List.length_map, List.length_map]; omega
    · obtain ⟨y3, rfl, sm, eo⟩ := h
      rw [List.length_map, List.take_length] at eo
      exact ⟨.ref o, rfl, o, _, rfl, SqL.of eo, hlen, fun H4 p s4 np ep => q _ _ (sm.trans s4) (Same.free (sm) np) ep⟩
end
end K71W

/-! ## Wk10 -/
set_option Elab.async false
set_option linter.all false
set_option maxRecDepth 100000
namespace K71W
open PySem PySem.Spec PyProof.Rows L2
open K71 (img ren Pl halves)
section
variable {P : Program} {w : World} {K : PySem.W.Frag} {mg : Str → Option Value} {base : Heap}
abbrev sHalves : Stmt := topS 23
theorem scHalves : FnScope ["row", "most"] ["row"] (defScope sHalves) := ⟨rfl, rfl, rfl, by decide +kernel, rfl, by decide +kernel, by decide +kernel⟩
def spHalves : Sp := fun vs H Q _ => ∃ (a : Addr) (r : List Int), vs = [.ref a] ∧ RA H a r ∧ r ≠ [] ∧ r.length ≤ 100000 ∧
  ∀ H' p t1 t2, Same H H' → H p = none → H' p = some (.lst [.ref t1, .ref t2]) → RA H' t1 (halves r).1 → RA H' t2 (halves r).2 → Q (.ref p) H'
theorem sort_two (x y : Addr × List Int) : [x, y].mergeSort leR = if K71.lexB y.2 x.2 = true then [y, x] else [x, y] := by
  have e : [x, y].mergeSort leR = if leR x y = true then [x, y] else [y, x] := by
    simp [List.mergeSort, List.MergeSort.Internal.splitInTwo, List.merge]
  rw [e]; unfold leR
  cases K71.lexB y.2 x.2 <;> simp
theorem ok_halves (D : ∃ f fd, Def K mg "both_halves" sHalves ["row"] f fd)
    (U : Fn P w K mg base "undone_of" ["row"] 1 (spUndone K)) (ml : mg "len" = none) (ms : mg "sorted" = none) :
    Fn P w K mg base "both_halves" ["row"] 2 spHalves := by
  obtain ⟨f, fd, D⟩ := D
  obtain ⟨fU, fdU, bU, gU, kU, GU⟩ := U
  refine D.fn (D.F.ok scHalves (fun vs H Q E h => ?_) (fun cdv A outer s H vs Q E hr h => ?_))
  · obtain ⟨a, r, rfl, _⟩ := h; rfl
  · obtain ⟨a, r, rfl, hR, hne, hlen, q⟩ := h
    refine ⟨_, pss_cons (ps_set (i := 1) scHalves.nd rfl (.inl rfl) (pe_op op_fdiv (pe_op op_add (pe_callB call_len_seq (by rfl) ml PySem.boot_len (pa_cons (pv 0) pa_nil)) pe_int) pe_int))
      (pss_one (ps_ret (pe_callB (cr_sortR hr.units) (by rfl) ms (by decide +kernel) (pa_cons (pe_lst (pa_cons (pe_slice sl_tupA (pv 0) po_none (po_some (pv 1)))
        (pa_cons (pe_slice sl_tupA (pe_call GU hr (by rfl) gU kU bU .nil pass0 (pa_cons (pv 0) pa_nil)) po_none (po_some (pv 1))) pa_nil))) pa_nil)))), ?_⟩
    refine ⟨.ref a, rfl, a, _, rfl, .inr hR.sq, _, 1, rfl, rfl, _, 2, rfl, rfl, ⟨by decide, by decide⟩, ?_⟩
    have em : ((r.length : Int) + 1) / 2 = (((r.length + 1) / 2 : Nat) : Int) := by omega
    simp only [List.length_map, em]
    have hpos : 0 < r.length := List.length_pos_iff.2 hne
    have hle : (r.length + 1) / 2 ≤ r.length := by omega
    refine ⟨.ref a, rfl, _, rfl, _, rfl, slA hR 0 ((r.length + 1) / 2) rfl (by rw [sIx_nat]; omega) fun t1 H1 s1 h1 => ?_⟩
    refine ⟨.ref a, rfl, a, r, rfl, (hR.same s1).sq, hlen, fun H2 u s2 nu hu => ?_⟩
    refine ⟨_, rfl, _, rfl, slA (show RA H2 u (K71.inv r) from hu) 0 ((r.length + 1) / 2) rfl (by rw [sIx_nat, K71.inv_length]; omega) fun t2 H3 s3 h3 => ?_⟩
    simp only [List.drop_zero, Nat.sub_zero] at h1 h3
    refine ⟨by show (2 : Nat) ≤ sizeLine; decide, fun l nl => ?_⟩
    have s4 : Same H3 (upd H3 l (.lst [.ref t1, .ref t2])) := same_upd nl
    have h1' := (h1.same (s2.trans s3)).same s4
    have h3' := h3.same s4
    have hn1 : r.take ((r.length + 1) / 2) ≠ [] := by
      intro e; have := congrArg List.length e; rw [List.length_take, List.length_nil] at this; omega
    have hn2 : (K71.inv r).take ((r.length + 1) / 2) ≠ [] := by
      intro e; have := congrArg List.length e; rw [List.length_take, K71.inv_length, List.length_nil] at this; omega
    refine ⟨l, [(t1, r.take ((r.length + 1) / 2)), (t2, (K71.inv r).take ((r.length + 1) / 2))], rfl, SqL.of upd_same, ?_, fun p np => ?_⟩
    · intro z hz
      simp only [List.mem_cons, List.not_mem_nil, or_false] at hz
      rcases hz with rfl | rfl
      · exact ⟨h1'.sq, hn1⟩
      · exact ⟨h3'.sq, hn2⟩
    · have s5 := same_upd (o := .lst ((List.mergeSort [(t1, r.take ((r.length + 1) / 2)), (t2, (K71.inv r).take ((r.length + 1) / 2))] leR).map fun q => V.ref q.1)) np
      have sall := (((s1.trans s2).trans s3).trans s4)
      rw [sort_two] at s5 ⊢
      have eh : halves r = if K71.lexB ((K71.inv r).take ((r.length + 1) / 2)) (r.take ((r.length + 1) / 2)) = true then ((K71.inv r).take ((r.length + 1) / 2), r.take ((r.length + 1) / 2))
          else (r.take ((r.length + 1) / 2), (K71.inv r).take ((r.length + 1) / 2)) := rfl
      by_cases c : K71.lexB ((K71.inv r).take ((r.length + 1) / 2)) (r.take ((r.length + 1) / 2)) = true
      · rw [if_pos c] at s5 eh ⊢
        exact q _ p t2 t1 (sall.trans s5) (Same.free sall np) upd_same (by rw [eh]; exact h3'.same s5) (by rw [eh]; exact h1'.same s5)
      · rw [if_neg c] at s5 eh ⊢
        exact q _ p t1 t2 (sall.trans s5) (Same.free sall np) upd_same (by rw [eh]; exact h1'.same s5) (by rw [eh]; exact h3'.same s5)
end
end K71W

/-! ## Wk11 -/
set_option Elab.async false
set_option linter.all false
set_option maxRecDepth 100000
namespace K71W
open PySem PySem.Spec PyProof.Rows L2
open K71 (img ren Pl halves)
section
variable {P : Program} {w : World} {K : PySem.W.Frag} {mg : Str → Option Value} {base : Heap}
abbrev sNearer : Stmt := topS 24
theorem scNearer : FnScope ["images", "place", "letter", "ahead", "row", "more", "first", "second", "less", "found"] ["images", "place", "letter", "ahead"] (defScope sNearer) := ⟨rfl, rfl, rfl, by decide +kernel, rfl, by decide +kernel, by decide +kernel⟩
def spNearer : Sp := fun vs H Q _ => ∃ (a : Addr) (L : Rws) (pl : Nat) (l : Int) (ah : Bool), vs = [.ref a, .int (pl : Int), .int l, .bl ah] ∧ H a = some (.lst (refs L)) ∧ All H L ∧ pl < L.length ∧
  (l ≠ 0 ∧ -(L.length : Int) ≤ l ∧ l ≤ L.length) ∧ (∀ q ∈ L, q.2 ≠ [] ∧ q.2.length ≤ 400) ∧
  (∀ H', Same H H' → K71.nearer (rws L) pl l ah = none → Q .non H') ∧ (∀ H' t f, Same H H' → K71.nearer (rws L) pl l ah = some f → RA H' t f → Q (.ref t) H')
theorem lex_none : PyProof.Rows.lexLt itemOrd (PySem.W.keyToksAll []) (PySem.W.keyToksAll []) = false := by first | rfl | (simp [PySem.W.keyToksAll, PyProof.Rows.lexLt])
theorem lt_two (p q : List Int × List Int) : PySem.W.dataLt (.list [tupD p.1, tupD p.2]) (.list [tupD q.1, tupD q.2]) = K71.lex2 p q := by
  rw [PySem.W.dataLt_list, PySem.W.dataLt_cons (alike_tupD _ _), PySem.W.dataLt_cons (alike_tupD _ _), lex_none, lt_tupD, lt_tupD, eqv_tupD, eqv_tupD]
  unfold K71.lex2
  by_cases c : p.1 = q.1
  · rw [if_pos c, if_pos (decide_eq_true c)]
    by_cases d : p.2 = q.2
    · rw [if_pos (decide_eq_true d), d, K71.lexB_irr]
    · rw [if_neg (by simpa using d)]
  · rw [if_neg c, if_neg (by simpa using c)]
theorem alike_two (a b c d : List Int) : PySem.W.alike (.list [.tuple (a.map .int), .tuple (b.map .int)]) (.list [.tuple (c.map .int), .tuple (d.map .int)]) = true := by
  have h1 := alike_tupD a c
  have h2 := alike_tupD b d
  unfold tupD at h1 h2
  rw [PySem.W.alike, PySem.W.alikeAll, PySem.W.alikeAll, PySem.W.alikeAll, h1, h2]; rfl
theorem depth_two (a b c d : List Int) : min (PyData.list [.tuple (a.map .int), .tuple (b.map .int)]).depth (PyData.list [.tuple (c.map .int), .tuple (d.map .int)]).depth ≤ 8 := by
  have h1 := depth_tupD a
  have h2 := depth_tupD b
  unfold tupD at h1 h2
  rw [PyData.depth, PyData.depthAll, PyData.depthAll, PyData.depthAll, h1, h2]
  omega
/-- images[l - 1] if l > 0 else undone_of(images[0 - l - 1]): the images at slot 0, the letter at slot i -/
def tPick (i : Nat) : TE := fun σ H Q => ∃ (a : Addr) (L : Rws) (l : Int), σ[0]? = some (some (.ref a)) ∧ σ[i]? = some (some (.int l)) ∧ H a = some (.lst (refs L)) ∧ All H L ∧ (l ≠ 0 ∧ -(L.length : Int) ≤ l ∧ l ≤ L.length) ∧ (∀ q ∈ L, q.2.length ≤ 400) ∧
  ∀ H1 pm, Same H H1 → RA H1 pm (img (rws L) l) → Q (.ref pm) H1
/-- (m, r) if c else (r, m) -/
def tSwap : TE := fun σ H Q => ∃ (c : Bool) (m r F S : V), σ[3]? = some (some (.bl c)) ∧ σ[5]? = some (some m) ∧ σ[4]? = some (some r) ∧ F = (if c = true then m else r) ∧ S = (if c = true then r else m) ∧
  ∀ t, H t = none → Q (.ref t) (upd H t (.tup [F, S]))
theorem ok_nearer (D : ∃ f fd, Def K mg "nearer_image" sNearer ["images", "place", "letter", "ahead"] f fd)
    (U : Fn P w K mg base "undone_of" ["row"] 1 (spUndone K)) (G : Fn P w K mg base "letters_gone" ["one", "other"] 1 (spGone K)) (B : Fn P w K mg base "both_halves" ["row"] 2 spHalves) (ml : mg "len" = none) :
    Fn P w K mg base "nearer_image" ["images", "place", "letter", "ahead"] 3 spNearer := by
  obtain ⟨f, fd, D⟩ := D
  obtain ⟨fU, fdU, bU, gU, kU, GU⟩ := U
  obtain ⟨fG, fdG, bG, gG, kG, GG⟩ := G
  obtain ⟨fB, fdB, bB, gB, kB, GB⟩ := B
  refine D.fn (D.F.ok scNearer (fun vs H Q E h => ?_) (fun cdv A outer s H vs Q E hr h => ?_))
  · obtain ⟨a, L, pl, l, ah, rfl, _⟩ := h; rfl
  · obtain ⟨a, L, pl, l, ah, rfl, hA, hL, hpl, hl, hne, qn, qs⟩ := h
    have hr1 : Room 1 (A.deeper (envOfC "nearer_image" (defScope sNearer) s.heap.objs.size f cdv)) := hr.mono (by decide)
    refine ⟨_, pss_cons (ps_set (i := 4) scNearer.nd rfl (.inl rfl) (pe_ix ix_list (pv 0) (pv 1) (fun _ _ => rfl)))
      (pss_cons (ps_set (i := 5) scNearer.nd rfl (.inl rfl) (pe_weak (t' := tPick 2) (pe_ifExp (pt_cmpR op_gt (pv 2) pe_int (nomark _)) (pe_ix ix_list (pv 0) (pe_op op_sub (pv 2) pe_int) (fun _ _ => rfl))
          (pe_call GU hr1 (by rfl) gU kU bU .nil pass0 (pa_cons (pe_ix ix_list (pv 0) (pe_op op_sub (pe_op op_sub pe_int (pv 2)) pe_int) (fun _ _ => rfl)) pa_nil))) (fun σ H Q h => ?_)))
      (pss_cons (ps_asg (pe_weak (t' := tSwap) (pe_ifExp (pt_val (pv 3)) (pe_tup (pa_cons (pv 5) (pa_cons (pv 4) pa_nil))) (pe_tup (pa_cons (pv 4) (pa_cons (pv 5) pa_nil)))) (fun σ H Q h => ?_))
          (pg_tup (by rfl) (pgs_cons (pg_name (i := 6) scNearer.nd rfl (.inl rfl)) (pgs_cons (pg_name (i := 7) scNearer.nd rfl (.inl rfl)) pgs_nil))))
      (pss_cons (ps_set (i := 8) scNearer.nd rfl (.inl rfl) (pe_call GG hr1 (by rfl) gG kG bG .nil pass0 (pa_cons (pv 6) (pa_cons (pv 7) pa_nil))))
      (pss_cons (ps_if (pt_cmpR op_lt (pe_op op_mul pe_int (pv 8)) (pe_callB call_len_seq (by rfl) ml PySem.boot_len (pa_cons (pv 5) pa_nil)) (nomark _)) (pss_one (ps_ret pe_non)) pss_nil)
      (pss_cons (ps_set (i := 9) scNearer.nd rfl (.inl rfl) (pe_op op_catA (pe_slice sl_tupA (pv 6) po_none (po_some (pe_op op_sub (pe_callB call_len_seq (by rfl) ml PySem.boot_len (pa_cons (pv 6) pa_nil)) (pv 8)))) (pe_slice sl_tupA (pv 7) (po_some (pv 8)) po_none)))
      (pss_cons (ps_if (PW.pt (pw_or (pt_cmpR op_gt (pe_op op_mul pe_int (pv 8)) (pe_callB call_len_seq (by rfl) ml PySem.boot_len (pa_cons (pv 5) pa_nil)) (nomark _))
          (pw_or1 (pt_cmpR (op_ltD hr.units) (pe_call GB hr (by rfl) gB kB bB .nil pass0 (pa_cons (pv 9) pa_nil)) (pe_call GB hr (by rfl) gB kB bB .nil pass0 (pa_cons (pv 4) pa_nil)) (nomark _))))) (pss_one (ps_ret (pv 9))) pss_nil)
      (pss_one (ps_ret pe_non)))))))), ?_⟩
    · obtain ⟨a, L, l, h0, hi, hA, hL, hl, h4, q⟩ := h
      refine ⟨.int l, hi, _, 0, rfl, rfl, _, rfl, ?_⟩
      show if decide (l > 0) = true then _ else _
      refine ite2 (fun e => ?_) (fun e => ?_)
      · have hp : 0 < l := of_decide_eq_true e
        obtain ⟨k, hk, e1, e2⟩ := img_pos' hp hl.2.2
        refine ⟨.ref a, h0, .int l, hi, _, 1, rfl, rfl, a, refs L, _, .ref L[k].1, rfl, rfl, SqL.of hA, by rw [e1]; exact atI_nat (refs_get hk), ?_⟩
        exact q H L[k].1 (Same.refl _) (by rw [e2]; exact hL _ (List.getElem_mem hk))
      · have hp : l < 0 := by have : ¬ l > 0 := fun h => e (decide_eq_true h)
                              omega
        obtain ⟨k, hk, e1, e2⟩ := img_neg' hp hl.2.1
        have hk4 := h4 _ (List.getElem_mem hk)
        refine ⟨.ref a, h0, .int l, hi, 0, _, rfl, rfl, _, 1, rfl, rfl, a, refs L, _, .ref L[k].1, rfl, rfl, SqL.of hA, by rw [e1]; exact atI_nat (refs_get hk), ?_⟩
        exact ⟨L[k].1, L[k].2, rfl, (hL _ (List.getElem_mem hk)).sq, by omega, fun H1 p s1 np ep => q H1 p s1 (by rw [e2]; exact ep)⟩
    · obtain ⟨c, m, r, F, S, h3, h5, h4, eF, eS, q⟩ := h
      refine ⟨.bl c, h3, c, rfl, ?_⟩
      subst eF eS
      cases c with
      | true => exact iteT ⟨m, h5, r, h4, by show (2 : Nat) ≤ sizeLine; decide, q⟩
      | false => exact iteF ⟨r, h4, m, h5, by show (2 : Nat) ≤ sizeLine; decide, q⟩
    have hrow : RA H L[pl].1 L[pl].2 := hL _ (List.getElem_mem hpl)
    have hrne := (hne _ (List.getElem_mem hpl)).1
    have hrl := (hne _ (List.getElem_mem hpl)).2
    refine ⟨.ref a, rfl, _, rfl, a, refs L, _, .ref L[pl].1, rfl, rfl, SqL.of hA, atI_nat (refs_get hpl), ?_⟩
    refine ⟨a, L, l, rfl, rfl, hA, hL, hl, fun q hq => (hne q hq).2, fun H1 pm s1 hm => ?_⟩
    have hml : (img (rws L) l).length ≤ 400 := by
      by_cases hp : 0 < l
      · obtain ⟨k, hk, _, e2⟩ := img_pos' hp hl.2.2
        rw [e2]; exact (hne _ (List.getElem_mem hk)).2
      · obtain ⟨k, hk, _, e2⟩ := img_neg' (by omega) hl.2.1
        rw [e2, K71.inv_length]; exact (hne _ (List.getElem_mem hk)).2
    have hmw : img (rws L) l = img (rws L) l := rfl
    generalize hme : img (rws L) l = mw at *
    clear hmw
    have hmw := hme
    have pick : ∃ p1 w1 p2 w2, V.ref p1 = (if ah = true then V.ref pm else V.ref L[pl].1) ∧ V.ref p2 = (if ah = true then V.ref L[pl].1 else V.ref pm) ∧ RA H1 p1 w1 ∧ RA H1 p2 w2 ∧
        K71.one (rws L) pl l ah = w1 ∧ K71.two (rws L) pl l ah = w2 ∧ w1.length + w2.length = mw.length + L[pl].2.length := by
      unfold K71.one K71.two
      rw [hme, rws_getD hpl]
      cases ah with
      | true => exact ⟨pm, mw, L[pl].1, L[pl].2, rfl, rfl, hm, hrow.same s1, rfl, rfl, rfl⟩
      | false => exact ⟨L[pl].1, L[pl].2, pm, mw, rfl, rfl, hrow.same s1, hm, rfl, rfl, Nat.add_comm _ _⟩
    obtain ⟨p1, w1, p2, w2, ep1, ep2, h1, h2, eo1, eo2, elen⟩ := pick
    refine ⟨ah, .ref pm, .ref L[pl].1, .ref p1, .ref p2, rfl, rfl, rfl, ep1, ep2, fun t nt => ?_⟩
    have hg1 : K71.gone w1 w2 ≤ w1.length := by have := K71.lcp_le_left (K71.inv w1) w2; rw [K71.inv_length] at this; exact this
    have hg2 : K71.gone w1 w2 ≤ w2.length := K71.lcp_le_right (K71.inv w1) w2
    have en : K71.nearer (rws L) pl l ah = if 2 * K71.gone w1 w2 < mw.length then none else if 2 * K71.gone w1 w2 > mw.length ∨ K71.hlt (K71.joined w1 w2) L[pl].2 = true then some (K71.joined w1 w2) else none := by
      unfold K71.nearer
      rw [show K71.one (rws L) pl l ah = w1 from eo1, show K71.two (rws L) pl l ah = w2 from eo2, hmw, rws_getD hpl]
    have hjl := K71.joined_length w1 w2
    rw [en] at qn qs
    refine ⟨t, _, rfl, SqT.of upd_same, rfl, _, _, rfl, _, _, rfl, rfl, ?_⟩
    have s2 := s1.trans (same_upd (o := .tup [.ref p1, .ref p2]) nt)
    have Hone : RA (upd H1 t (.tup [.ref p1, .ref p2])) p1 w1 := h1.same (same_upd nt)
    have Htwo : RA (upd H1 t (.tup [.ref p1, .ref p2])) p2 w2 := h2.same (same_upd nt)
    have HR' : RA (upd H1 t (.tup [.ref p1, .ref p2])) L[pl].1 L[pl].2 := hrow.same s2
    have HM' : RA (upd H1 t (.tup [.ref p1, .ref p2])) pm mw := hm.same (same_upd nt)
    refine ⟨.ref p1, rfl, .ref p2, rfl, p1, p2, w1, w2, rfl, Hone.sq, Htwo.sq, ?_⟩
    refine ⟨_, rfl, 2, _, rfl, rfl, .inl ⟨by decide, by decide⟩, .ref pm, rfl, pm, _, rfl, .inr HM'.sq, _, _, rfl, rfl, _, rfl, ?_⟩
    show if decide ((2 : Int) * (K71.gone w1 w2 : Nat) < ((mw.map V.int).length : Int)) = true then _ else _
    rw [List.length_map]
    by_cases c1 : 2 * K71.gone w1 w2 < mw.length
    · rw [if_pos (decide_eq_true (by omega))]
      rw [if_pos c1] at qn
      exact qn _ s2 rfl
    · rw [if_neg (by simp; omega)]
      rw [if_neg c1] at qn qs
      refine ⟨.ref p1, rfl, .ref p1, rfl, p1, _, rfl, .inr Hone.sq, _, rfl, _, _, rfl, rfl, _, rfl, ?_⟩
      refine slA Hone 0 (w1.length - K71.gone w1 w2) rfl (by rw [show ((w1.map V.int).length : Int) - (K71.gone w1 w2 : Nat) = ((w1.length - K71.gone w1 w2 : Nat) : Int) by rw [List.length_map]; omega, sIx_nat]; omega) fun u1 H3 s3 hu1 => ?_
      refine ⟨.ref p2, rfl, _, rfl, _, rfl, ?_⟩
      simp only [tNoPart]
      refine slA (Htwo.same s3) (K71.gone w1 w2) w2.length (by rw [sIx_nat]; omega) rfl fun u2 H4 s4 hu2 => ?_
      have hu1' : RA H4 u1 (w1.take (w1.length - K71.gone w1 w2)) := by have := hu1.same s4; rwa [List.drop_zero, Nat.sub_zero] at this
      have hu2' : RA H4 u2 (w2.drop (K71.gone w1 w2)) := by rwa [List.take_of_length_le (by rw [List.length_drop]; exact Nat.le_refl _)] at hu2
      refine catA hu1' hu2' (by rw [List.length_take, List.length_drop]; omega) fun u H5 s5 hu => ?_
      have hu' : RA H5 u (K71.joined w1 w2) := hu
      have s25 := (s3.trans s4).trans s5
      refine ⟨_, rfl, 2, _, rfl, rfl, .inl ⟨by decide, by decide⟩, .ref pm, rfl, pm, _, rfl, .inr (HM'.same s25).sq, _, _, rfl, rfl, _, rfl, ?_⟩
      show if decide ((2 : Int) * (K71.gone w1 w2 : Nat) > ((mw.map V.int).length : Int)) = true then _ else _
      rw [List.length_map]
      by_cases c2 : 2 * K71.gone w1 w2 > mw.length
      · rw [if_pos (decide_eq_true (by omega))]
        rw [if_pos (.inl c2)] at qs
        exact ⟨_, rfl, qs H5 u _ (s2.trans s25) rfl hu'⟩
      · rw [if_neg (by simp; omega)]
        have ejl : (K71.joined w1 w2).length = L[pl].2.length := by omega
        have hfne : K71.joined w1 w2 ≠ [] := fun e => by rw [e] at ejl; exact hrne (List.length_eq_zero_iff.1 (by rw [← ejl]; rfl))
        refine ⟨.ref u, rfl, u, _, rfl, hu', hfne, by omega, fun H6 p6 a6 b6 s6 np6 e6 ha6 hb6 => ?_⟩
        refine ⟨.ref L[pl].1, rfl, L[pl].1, _, rfl, (HR'.same s25).same s6, hrne, by omega, fun H7 p7 a7 b7 s7 np7 e7 ha7 hb7 => ?_⟩
        refine ⟨_, _, Dp.lst (SqL.of (s7 _ _ e6)) (.cons (.tup (ha6.same s7).sq (dp_ints _)) (.cons (.tup (hb6.same s7).sq (dp_ints _)) .nil)), Dp.lst (SqL.of e7) (.cons (.tup ha7.sq (dp_ints _)) (.cons (.tup hb7.sq (dp_ints _)) .nil)), alike_two _ _ _ _, (fun h => by cases h), depth_two _ _ _ _, ?_⟩
        have elt := lt_two (K71.halves (K71.joined w1 w2)) (K71.halves L[pl].2)
        unfold tupD at elt
        rw [elt]
        refine ⟨_, rfl, ?_⟩
        have sall := ((s2.trans s25).trans s6).trans s7
        show if K71.hlt (K71.joined w1 w2) L[pl].2 = true then _ else _
        by_cases c3 : K71.hlt (K71.joined w1 w2) L[pl].2 = true
        · rw [if_pos c3]
          rw [if_pos (.inr c3)] at qs
          exact ⟨_, rfl, qs H7 u _ sall rfl ((hu'.same s6).same s7)⟩
        · rw [if_neg c3]
          rw [if_neg (by simp only [c2, c3]; simp)] at qn
          exact qn H7 sall rfl
end
end K71W

/-! ## Wk12 -/
set_option Elab.async false
set_option linter.all false
set_option maxRecDepth 100000
namespace K71W
open PySem PySem.Spec PyProof.Rows L2
open K71 (near nearer lettersAt)
section
variable {P : Program} {w : World} {K : PySem.W.Frag} {mg : Str → Option Value} {base : Heap}

abbrev sNear : Stmt := topS 25
theorem scNear : FnScope ["images", "place", "other", "letter", "ahead", "found"] ["images"] (defScope sNear) := ⟨rfl, rfl, rfl, by decide +kernel, rfl, by decide +kernel, by decide +kernel⟩
def spNear : Sp := fun vs H Q _ => ∃ (a : Addr) (L : Rws), vs = [.ref a] ∧ H a = some (.lst (refs L)) ∧ All H L ∧ L.length ≤ 4 ∧ (∀ q ∈ L, q.2 ≠ [] ∧ q.2.length ≤ 400) ∧
  (∀ H', Same H H' → near (rws L) = none → Q .non H') ∧
  (∀ H' t t1 t2 (p : Nat) l b f, Same H H' → near (rws L) = some ((p, l, b), f) → p < L.length → H' t = some (.tup [.ref t1, .ref t2]) → H' t1 = some (.tup [.int (p : Int), .int l, .bl b]) → RA H' t2 f → Q (.ref t) H')
theorem findSome_get {α β : Type} {g : α → Option β} {ls : List α} {k : Nat} {x : α} {y : β} (h : ls[k]? = some x) (hb : ∀ z ∈ ls.take k, g z = none) (hy : g x = some y) : ls.findSome? g = some y := by
  have hk := (List.getElem?_eq_some_iff.1 h).1
  have e : ls = ls.take k ++ x :: ls.drop (k + 1) := by
    have h1 : ls.drop k = ls[k] :: ls.drop (k + 1) := List.drop_eq_getElem_cons hk
    have h2 : ls[k] = x := (List.getElem?_eq_some_iff.1 h).2
    rw [← h2, ← h1, List.take_append_drop]
  rw [e, List.findSome?_append]
  have h0 : (ls.take k).findSome? g = none := by rw [List.findSome?_eq_none_iff]; exact hb
  rw [h0]; simp [hy]
/-- no step at place p -/
def Stuck (u : List (List Int)) (p : Nat) : Prop := ∀ o, o < u.length → ∀ l ∈ lettersAt p o, ∀ b, nearer u p l b = none
theorem stuck_none {u : List (List Int)} {p o : Nat} (h : ∀ l ∈ lettersAt p o, ∀ b, nearer u p l b = none) :
    ((lettersAt p o).findSome? fun l => [false, true].findSome? fun a => (nearer u p l a).map fun f => ((p, l, a), f)) = none := by
  rw [List.findSome?_eq_none_iff]
  intro l hl
  rw [List.findSome?_eq_none_iff]
  intro b _
  rw [h l hl b]; rfl
theorem near_stuck {u : List (List Int)} (h : ∀ p, p < u.length → Stuck u p) : near u = none :=
  K71.findSome_none fun p hp => K71.findSome_none fun o ho => stuck_none (h p hp o ho)
theorem near_at {u : List (List Int)} {i j k m : Nat} {l : Int} {b : Bool} {f : List Int} (hi : i < u.length) (h1 : ∀ p, p < i → Stuck u p) (hj : j < u.length)
    (h2 : ∀ o, o < j → ∀ l ∈ lettersAt i o, ∀ b, nearer u i l b = none) (hk : (lettersAt i j)[k]? = some l) (h3 : ∀ l ∈ (lettersAt i j).take k, ∀ b, nearer u i l b = none)
    (hm : [false, true][m]? = some b) (h4 : ∀ b ∈ [false, true].take m, nearer u i l b = none) (hf : nearer u i l b = some f) : near u = some ((i, l, b), f) := by
  refine K71.findSome_range hi (fun p hp => K71.findSome_none fun o ho => stuck_none (h1 p hp o ho)) ?_
  refine K71.findSome_range hj (fun o ho => stuck_none (h2 o ho)) ?_
  refine findSome_get hk (fun z hz => ?_) ?_
  · rw [List.findSome?_eq_none_iff]
    intro b _
    rw [h3 z hz b]; rfl
  · exact findSome_get hm (fun z hz => by rw [h4 z hz]; rfl) (by rw [hf]; rfl)
theorem take_next {α : Type} {ls : List α} {k : Nat} {x : α} (h : ls[k]? = some x) {p : α → Prop} (hb : ∀ z ∈ ls.take k, p z) (hx : p x) : ∀ z ∈ ls.take (k + 1), p z := by
  intro z hz
  rw [List.take_add_one, h] at hz
  rcases List.mem_append.1 hz with e | e
  · exact hb z e
  · have : z = x := by simpa using e
    rw [this]; exact hx
theorem letters_fit {n i j : Nat} (hi : i < n) (hj : j < n) {l : Int} (h : l ∈ lettersAt i j) : l ≠ 0 ∧ -(n : Int) ≤ l ∧ l ≤ n := by
  unfold lettersAt at h
  split at h
  · cases h
  · simp only [List.mem_cons, List.not_mem_nil, or_false] at h
    omega
/-- [] if other == place else [other + 1, 0 - other - 1] -/
def tLets : TE := fun σ H Q => ∃ i j : Nat, σ[1]? = some (some (.int (i : Int))) ∧ σ[2]? = some (some (.int (j : Int))) ∧ ∀ o H1, Same H H1 → H1 o = some (.lst ((lettersAt i j).map V.int)) → Q (.ref o) H1
theorem ok_near (D : ∃ f fd, Def K mg "near_step" sNear ["images"] f fd)
    (N : Fn P w K mg base "nearer_image" ["images", "place", "letter", "ahead"] 3 spNearer) (ml : mg "len" = none) (mr : mg "range" = none) :
    Fn P w K mg base "near_step" ["images"] 4 spNear := by
  obtain ⟨f, fd, D⟩ := D
  obtain ⟨fN, fdN, bN, gN, kN, GN⟩ := N
  refine D.fn (D.F.ok scNear (fun vs H Q E h => ?_) (fun cdv A outer s H vs Q E hr h => ?_))
  · obtain ⟨a, L, rfl, _⟩ := h; rfl
  · obtain ⟨a, L, rfl, hA, hL, h4, hne, qn, qs⟩ := h
    refine ⟨_, (pss_cons (ps_for PassesOwn.never rfl (pi_range1 (by rfl) mr (pa_cons (pe_callB call_len_seq (by rfl) ml PySem.boot_len (pa_cons (pv 0) pa_nil)) pa_nil)) (pg_name (i := 1) scNear.nd rfl (.inl rfl)) (pss_one (ps_for PassesOwn.never rfl (pi_range1 (by rfl) mr (pa_cons (pe_callB call_len_seq (by rfl) ml PySem.boot_len (pa_cons (pv 0) pa_nil)) pa_nil)) (pg_name (i := 2) scNear.nd rfl (.inl rfl)) (pss_one (ps_for PassesOwn.never rfl (pi_list (pe_weak (t' := tLets) (pe_ifExp (pt_cmpR op_eq (pv 2) (pv 1) (nomark _)) (pe_lst pa_nil) (pe_lst (pa_cons (pe_op op_add (pv 2) pe_int) (pa_cons (pe_op op_sub (pe_op op_sub pe_int (pv 2)) pe_int) pa_nil)))) (fun σ H Q h => ?_))) (pg_name (i := 3) scNear.nd rfl (.inl rfl)) (pss_one (ps_for PassesOwn.never rfl (pi_tup (pe_tup (pa_cons pe_bl (pa_cons pe_bl pa_nil)))) (pg_name (i := 4) scNear.nd rfl (.inl rfl)) (pss_cons (ps_set (i := 5) scNear.nd rfl (.inl rfl) (pe_call GN hr (by rfl) gN kN bN .nil pass0 (pa_cons (pv 0) (pa_cons (pv 1) (pa_cons (pv 3) (pa_cons (pv 4) pa_nil))))))
      (pss_one (ps_if (pt_cmpR op_notN (pv 5) pe_non (nomark _)) (pss_one (ps_ret (pe_tup (pa_cons (pe_tup (pa_cons (pv 1) (pa_cons (pv 3) (pa_cons (pv 4) pa_nil)))) (pa_cons (pv 5) pa_nil))))) pss_nil))))))))))
      (pss_one (ps_ret pe_non))), ?_⟩
    · obtain ⟨i, j, hi, hj, q⟩ := h
      refine ⟨.int (j : Int), hj, .int (i : Int), hi, rfl, _, rfl, ?_⟩
      show if decide (V.int (j : Int) = V.int (i : Int)) = true then _ else _
      refine ite2 (fun e => ?_) (fun e => ?_)
      · have e' : j = i := by have := V.int.inj (of_decide_eq_true e); omega
        exact ⟨Nat.zero_le _, fun o no => q o _ (same_upd no) (by rw [upd_same]; unfold lettersAt; rw [if_pos e']; rfl)⟩
      · have e' : j ≠ i := fun h => e (decide_eq_true (by rw [h]))
        refine ⟨.int (j : Int), hj, _, 1, rfl, rfl, .int (j : Int), hj, 0, _, rfl, rfl, _, 1, rfl, rfl, by show (2 : Nat) ≤ sizeLine; decide, fun o no => q o _ (same_upd no) (by rw [upd_same]; unfold lettersAt; rw [if_neg e']; rfl)⟩
    have hu : (rws L).length = L.length := rws_length L
    have bnd : ((L.length : Nat) : Int) ≤ 4 := by omega
    refine ⟨.ref a, rfl, a, _, rfl, .inl (SqL.of hA), _, rfl, by omega, by rw [refs_length]; omega, ?_⟩
    rw [refs_length]
    refine for_range (lo := 0) (n := ((L.length : Nat) : Int).toNat) (fun i σ H3 => ∃ y1 y2 y3 y4 y5, σ = [some (.ref a), y1, y2, y3, y4, y5] ∧ Same H H3 ∧ ∀ p, p < i → Stuck (rws L) p)
      ⟨none, none, none, none, none, rfl, Same.refl _, fun p hp => absurd hp (Nat.not_lt_zero p)⟩ (fun i σ H3 hi h => ?_) (fun σ H3 h => ?_)
    · obtain ⟨y1, y2, y3, y4, y5, rfl, s3, st1⟩ := h
      have hi' : i < L.length := by omega
      refine ⟨.ref a, rfl, a, _, rfl, .inl (SqL.of (s3 _ _ hA)), _, rfl, by omega, by rw [refs_length]; omega, ?_⟩
      rw [refs_length]
      refine for_range (lo := 0) (n := ((L.length : Nat) : Int).toNat) (fun j σ H4 => ∃ y2 y3 y4 y5, σ = [some (.ref a), some (.int (i : Int)), y2, y3, y4, y5] ∧ Same H H4 ∧ ∀ o, o < j → ∀ l ∈ lettersAt i o, ∀ b, nearer (rws L) i l b = none)
        ⟨y2, y3, y4, y5, by rw [Int.zero_add]; rfl, s3, fun p hp => absurd hp (Nat.not_lt_zero p)⟩ (fun j σ H4 hj h => ?_) (fun σ H4 h => ?_)
      · obtain ⟨y2, y3, y4, y5, rfl, s4, st2⟩ := h
        have hj' : j < L.length := by omega
        rw [Int.zero_add]
        refine ⟨i, j, rfl, rfl, fun o5 H5 s5 e5 => ?_⟩
        refine ⟨o5, rfl, ⟨_, SqL.of e5⟩, for_list (xs := (lettersAt i j).map V.int) (fun k σ H6 => ∃ y3 y4 y5, σ = [some (.ref a), some (.int (i : Int)), some (.int (j : Int)), y3, y4, y5] ∧ Same H5 H6 ∧ ∀ l ∈ (lettersAt i j).take k, ∀ b, nearer (rws L) i l b = none)
          ⟨y3, y4, y5, rfl, Same.refl _, by simp⟩ (fun k σ H6 hk h => by obtain ⟨_, _, _, _, s6, _⟩ := h; exact SqL.of (s6 _ _ e5)) (fun k x σ H6 hx h => ?_) (fun σ H6 h => ?_)⟩
        · obtain ⟨y3, y4, y5, rfl, s6, st3⟩ := h
          rw [List.getElem?_map] at hx
          obtain ⟨l, hk, rfl⟩ := Option.map_eq_some_iff.1 hx
          have hl := letters_fit hi' hj' (List.mem_of_getElem? hk)
          refine ⟨by show (2 : Nat) ≤ sizeLine; decide, fun t nt => ?_⟩
          have s7 : Same H6 (upd H6 t (.tup ([false, true].map V.bl))) := same_upd nt
          refine ⟨t, rfl, ⟨_, SqT.of upd_same⟩, for_tup (xs := [false, true].map V.bl) (fun m σ H8 => ∃ y4 y5, σ = [some (.ref a), some (.int (i : Int)), some (.int (j : Int)), some (.int l), y4, y5] ∧ Same (upd H6 t (.tup ([false, true].map V.bl))) H8 ∧ ∀ b ∈ [false, true].take m, nearer (rws L) i l b = none)
            ⟨y4, y5, rfl, Same.refl _, by simp⟩ (fun m σ H8 hm h => by obtain ⟨_, _, _, s8, _⟩ := h; exact SqT.of (s8 _ _ upd_same)) (fun m x σ H8 hx h => ?_) (fun σ H8 h => ?_)⟩
          · obtain ⟨y4, y5, rfl, s8, st4⟩ := h
            rw [List.getElem?_map] at hx
            obtain ⟨b, hm, rfl⟩ := Option.map_eq_some_iff.1 hx
            have sall := ((s5.trans s6).trans s7).trans s8
            have sall' := s4.trans sall
            refine ⟨.ref a, rfl, .int (i : Int), rfl, .int l, rfl, .bl b, rfl, a, L, i, l, b, rfl, sall' _ _ hA, hL.same sall', hi', hl, hne, fun H9 s9 e9 => ?_, fun H9 t9 f9 s9 e9 h9 => ?_⟩
            · exact ⟨.non, rfl, rfl, false, rfl, ⟨_, _, rfl, s8.trans s9, take_next hm st4 e9⟩⟩
            · have hnear := near_at (u := rws L) (by rw [hu]; exact hi') st1 (by rw [hu]; exact hj') st2 hk st3 hm st4 e9
              refine ⟨.ref t9, rfl, rfl, true, rfl, .int (i : Int), rfl, .int l, rfl, .bl b, rfl, by show (3 : Nat) ≤ sizeLine; decide, fun t1 n1 => ⟨_, rfl, by show (2 : Nat) ≤ sizeLine; decide, fun t2 n2 => ?_⟩⟩
              have s10 := same_upd (o := .tup [.int (i : Int), .int l, .bl b]) n1
              have s11 := same_upd (o := .tup [.ref t1, .ref t9]) n2
              exact qs _ t2 t1 t9 i l b f9 (((sall'.trans s9).trans s10).trans s11) hnear hi' upd_same (s11 _ _ upd_same) ((h9.same s10).same s11)
          · obtain ⟨y4, y5, rfl, s8, st4⟩ := h
            exact ⟨_, _, _, rfl, (s6.trans s7).trans s8, take_next hk st3 (fun b => st4 b (by cases b <;> simp))⟩
        · obtain ⟨y3, y4, y5, rfl, s6, st3⟩ := h
          refine ⟨_, _, _, _, rfl, s4.trans (s5.trans s6), fun o ho => ?_⟩
          by_cases e : o = j
          · subst e
            intro l hl; exact st3 l (by rw [List.length_map, List.take_length]; exact hl)
          · exact st2 o (by omega)
      · obtain ⟨y2, y3, y4, y5, rfl, s4, st2⟩ := h
        refine ⟨_, y2, y3, y4, y5, rfl, s4, fun p hp => ?_⟩
        by_cases e : p = i
        · subst e; intro o ho; exact st2 o (by rw [hu] at ho; omega)
        · exact st1 p (by omega)
    · obtain ⟨y1, y2, y3, y4, y5, rfl, s3, st1⟩ := h
      exact qn H3 s3 (near_stuck fun p hp => st1 p (by rw [hu] at hp; omega))
end
end K71W

/-! ## Wk13 -/
set_option Elab.async false
set_option linter.all false
set_option maxRecDepth 100000
namespace K71W
open PySem PySem.Spec PyProof.Rows L2
open K71 (near Way weight)
section
variable {P : Program} {w : World} {K : PySem.W.Frag} {mg : Str → Option Value} {base : Heap}

abbrev sDown : Stmt := topS 26
theorem scDown : FnScope ["images", "now", "steps", "near"] ["images"] (defScope sDown) := ⟨rfl, rfl, rfl, by decide +kernel, rfl, by decide +kernel, by decide +kernel⟩
def spDown : Sp := fun vs H Q _ => ∃ (a : Addr) (L : Rws) (m : Nat) (v : List (List Int)), vs = [.ref a] ∧ H a = some (.tup (refs L)) ∧ All H L ∧ L.length ≤ 4 ∧ weight (rws L) ≤ 254 ∧ Way m (rws L) v ∧ m ≤ 16711935 ∧
  ∀ H' t ts b L', Same H H' → H' t = some (.tup [.ref ts, .ref b]) → H' b = some (.lst (refs L')) → All H' L' → rws L' = v → Q (.ref t) H'
theorem refs_set (L : Rws) (p : Nat) (q : Addr × List Int) : (refs L).set p (.ref q.1) = refs (L.set p q) := by unfold refs; rw [List.map_set]
theorem rws_set (L : Rws) (p : Nat) (q : Addr × List Int) : (rws L).set p q.2 = rws (L.set p q) := by unfold rws; rw [List.map_set]
theorem All.set {H : Hp} {L : Rws} {p : Nat} {q : Addr × List Int} (h : All H L) (hq : RA H q.1 q.2) : All H (L.set p q) := by
  intro z hz
  rcases List.mem_or_eq_of_mem_set hz with e | e
  · exact h z e
  · rw [e]; exact hq
theorem way_fit {L : Rws} {m : Nat} {v : List (List Int)} (h : Way m (rws L) v) (hw : weight (rws L) ≤ 254) : ∀ q ∈ L, q.2 ≠ [] ∧ q.2.length ≤ 400 := by
  intro q hq
  have hm : q.2 ∈ rws L := List.mem_map.2 ⟨q, hq, rfl⟩
  exact ⟨h.full _ hm, by have := K71.row_weight hm; omega⟩
/-- what near_step has handed back -/
def Told (H : Hp) (u : List (List Int)) (nv : V) : Prop := (near u = none ∧ nv = .non) ∨
  ∃ t t1 t2 p l b f, near u = some ((p, l, b), f) ∧ p < u.length ∧ nv = .ref t ∧ H t = some (.tup [.ref t1, .ref t2]) ∧ H t1 = some (.tup [.int ((p : Nat) : Int), .int l, .bl b]) ∧ RA H t2 f
theorem ok_down (D : ∃ f fd, Def K mg "steps_down" sDown ["images"] f fd)
    (N : Fn P w K mg base "near_step" ["images"] 4 spNear) (m_list : mg "list" = none) :
    Fn P w K mg base "steps_down" ["images"] 5 spDown := by
  obtain ⟨f, fd, D⟩ := D
  obtain ⟨fN, fdN, bN, gN, kN, GN⟩ := N
  refine D.fn (D.F.ok scDown (fun vs H Q E h => ?_) (fun cdv A outer s H vs Q E hr h => ?_))
  · obtain ⟨a, L, m, v, rfl, _⟩ := h; rfl
  · obtain ⟨a, L, m, v, rfl, hA, hL, h4, hw, way, hm, q⟩ := h
    refine ⟨_, (pss_cons (ps_par (i := 1) (j := 2) (by rfl) scDown.nd rfl rfl (by decide) rfl rfl (pa_cons (pe_callTy call_list_of (by rfl) m_list (by decide +kernel) (pa_cons (pv 0) pa_nil)) (pa_cons (pe_lst pa_nil) pa_nil)) (by rfl))
      (pss_cons (ps_set (i := 3) scDown.nd rfl (.inl rfl) (pe_call GN hr (by rfl) gN kN bN .nil pass0 (pa_cons (pv 1) pa_nil)))
      (pss_cons (ps_while PassesOwn.never (pt_cmpR op_notN (pv 3) pe_non (nomark _)) (pss_cons (ps_expr (pe_bm PySem.F.plainAttrs_list PySem.F.slot_list_append PySem.F.type_list_append mt_append (pv 2) (pa_cons (pe_ix ix_tup (pv 3) pe_int (fun _ _ => rfl)) pa_nil)))
      (pss_cons (ps_asg (pe_ix ix_tup (pv 3) pe_int (fun _ _ => rfl)) (pg_sub (pv 1) (pe_ix ix_tup (pe_ix ix_tup (pv 3) pe_int (fun _ _ => rfl)) pe_int (fun _ _ => rfl)) set_list))
      (pss_one (ps_set (i := 3) scDown.nd rfl (.inl rfl) (pe_call GN hr (by rfl) gN kN bN .nil pass0 (pa_cons (pv 1) pa_nil)))))))
      (pss_one (ps_ret (pe_tup (pa_cons (pv 2) (pa_cons (pv 1) pa_nil)))))))), ?_⟩
    refine ⟨.ref a, rfl, a, _, rfl, .inr (SqT.of hA), fun b nb => ⟨Nat.zero_le _, fun c nc => ⟨_, _, rfl, ?_⟩⟩⟩
    have s1 : Same H (upd H b (.lst (refs L))) := same_upd nb
    have s2 : Same (upd H b (.lst (refs L))) (upd (upd H b (.lst (refs L))) c (.lst [])) := same_upd nc
    have nc0 : H c = none := Same.free s1 nc
    have hbc : b ≠ c := fun e => by rw [← e, upd_same] at nc; cases nc
    have eb2 : (upd (upd H b (.lst (refs L))) c (.lst [])) b = some (.lst (refs L)) := s2 _ _ upd_same
    refine ⟨.ref b, rfl, b, L, rfl, eb2, hL.same (s1.trans s2), h4, way_fit way hw, fun H3 s3 e3 => ?_, fun H3 t t1 t2 p l bb fr s3 e3 hp et et1 et2 => ?_⟩
    all_goals refine ⟨fun mm σ H4 => ∃ (L' : Rws) (sts : List V) (nv : V), σ = [some (.ref a), some (.ref b), some (.ref c), some nv] ∧ Same H H4 ∧ H4 b = some (.lst (refs L')) ∧ All H4 L' ∧ L'.length = L.length ∧
        weight (rws L') ≤ 254 ∧ Way mm (rws L') v ∧ H4 c = some (.lst sts) ∧ sts.length + mm = m ∧ Told H4 (rws L') nv, ⟨m, L, [], _, rfl, (s1.trans s2).trans s3, s3 _ _ eb2, hL.same ((s1.trans s2).trans s3), rfl, hw, way, s3 _ _ upd_same, by simp, ?_⟩, fun mm σ H4 h => ?_⟩
    · exact .inl ⟨e3, rfl⟩
    rotate_left
    · exact .inr ⟨t, t1, t2, p, l, bb, fr, e3, by rw [rws_length]; exact hp, rfl, et, et1, et2⟩
    all_goals
      obtain ⟨L', sts, nv, rfl, s4, eb, hL', hlen, hw', way', ec, hsts, told⟩ := h
      refine ⟨nv, rfl, rfl, _, rfl, ?_⟩
      rcases told with ⟨hn, rfl⟩ | ⟨t, t1, t2, p, l, bb, fr, hn, hp, rfl, et, et1, et2⟩
      · -- the end
        rw [if_neg (by decide)]
        have h0 : mm = 0 := by
          cases mm with
          | zero => rfl
          | succ k => obtain ⟨c', f', e', _⟩ := way'.succ; rw [hn] at e'; cases e'
        subst h0
        have hv := way'.zero.1
        refine ⟨_, rfl, _, rfl, by show (2 : Nat) ≤ sizeLine; decide, fun t nt => ?_⟩
        have s5 := same_upd (o := .tup [.ref c, .ref b]) nt
        exact q _ t c b L' (s4.trans s5) upd_same (s5 _ _ eb) (hL'.same s5) hv
      · -- a step
        rw [if_pos (by simp)]
        obtain ⟨k, rfl⟩ : ∃ k, mm = k + 1 := by
          cases mm with
          | zero => have := way'.zero.2; rw [hn] at this; cases this
          | succ k => exact ⟨k, rfl⟩
        obtain ⟨c', f', e', way2⟩ := way'.succ
        rw [hn] at e'
        cases e'
        rw [rws_length] at hp
        refine ⟨fun σ' H' => ∃ (L'' : Rws) (sts' : List V) (nv' : V), σ' = [some (.ref a), some (.ref b), some (.ref c), some nv'] ∧ Same H H' ∧ H' b = some (.lst (refs L'')) ∧ All H' L'' ∧ L''.length = L.length ∧
          weight (rws L'') ≤ 254 ∧ Way k (rws L'') v ∧ H' c = some (.lst sts') ∧ sts'.length + k = m ∧ Told H' (rws L'') nv', fun σ' H' h => ⟨k, by omega, h⟩, ?_⟩
        have hz : (16711936 : Nat) < sizeLine := by decide
        refine ⟨.ref c, rfl, .inl ⟨rfl, _, SqL.of ec⟩, .ref t, rfl, t, _, _, .ref t1, rfl, rfl, SqT.of et, rfl, c, _, _, rfl, rfl, ec, by omega, ?_⟩
        have et' := tup_upd (o := .lst (sts ++ [.ref t1])) et ec
        have et1' := tup_upd (o := .lst (sts ++ [.ref t1])) et1 ec
        have et2' := et2.upd (o := .lst (sts ++ [.ref t1])) ec
        have eb' : (upd H4 c (.lst (sts ++ [.ref t1]))) b = some (.lst (refs L')) := by rw [upd_ne hbc]; exact eb
        have hix : L2.ixN (refs L').length ((p : Nat) : Int) = some p := by
          rw [refs_length]; unfold L2.ixN
          rw [if_pos (by omega), if_pos (by omega)]; simp
        refine ⟨.ref t, rfl, t, _, _, .ref t2, rfl, rfl, SqT.of et', rfl, .ref b, rfl, .ref t, rfl, t, _, _, .ref t1, rfl, rfl, SqT.of et', rfl, t1, _, _, .int ((p : Nat) : Int), rfl, rfl, SqT.of et1', rfl, b, _, _, p, rfl, rfl, eb', hix, ?_⟩
        rw [refs_set L' p (t2, fr)]
        have hL2 : All (upd (upd H4 c (.lst (sts ++ [.ref t1]))) b (.lst (refs (L'.set p (t2, fr))))) (L'.set p (t2, fr)) := ((hL'.upd ec).upd eb').set (et2'.upd eb')
        have ew : (rws L').set p fr = rws (L'.set p (t2, fr)) := rws_set L' p (t2, fr)
        have hw2 : weight (rws (L'.set p (t2, fr))) ≤ 254 := by rw [← ew]; have := K71.near_weight hn; exact Nat.le_trans this hw'
        have way3 : Way k (rws (L'.set p (t2, fr))) v := by rw [← ew]; exact way2
        have hl2 : (L'.set p (t2, fr)).length = L.length := by rw [List.length_set]; exact hlen
        have s5 : Same H (upd (upd H4 c (.lst (sts ++ [.ref t1]))) b (.lst (refs (L'.set p (t2, fr))))) := same_own nb (same_own nc0 s4)
        have ec2 : (upd (upd H4 c (.lst (sts ++ [.ref t1]))) b (.lst (refs (L'.set p (t2, fr))))) c = some (.lst (sts ++ [.ref t1])) := by rw [upd_ne (Ne.symm hbc)]; exact upd_same
        refine ⟨.ref b, rfl, b, _, rfl, upd_same, hL2, by omega, way_fit way3 hw2, fun H6 s6 e6 => ?_, fun H6 t' t1' t2' p' l' bb' fr' s6 e6 hp' a1 a2 a3 => ?_⟩
        · exact ⟨_, _, _, rfl, s5.trans s6, s6 _ _ upd_same, hL2.same s6, hl2, hw2, way3, s6 _ _ ec2, by rw [List.length_append, List.length_singleton]; omega, .inl ⟨e6, rfl⟩⟩
        · exact ⟨_, _, _, rfl, s5.trans s6, s6 _ _ upd_same, hL2.same s6, hl2, hw2, way3, s6 _ _ ec2, by rw [List.length_append, List.length_singleton]; omega, .inr ⟨t', t1', t2', p', l', bb', fr', e6, by rw [rws_length]; exact hp', rfl, a1, a2, a3⟩⟩
end
end K71W

/-! ## Wk14 -/
set_option Elab.async false
set_option linter.all false
set_option maxRecDepth 100000
namespace K71W
open PySem PySem.Spec PyProof.Rows L2
open K71 (near Way weight Ren rows)
section
variable {P : Program} {w : World} {K : PySem.W.Frag} {mg : Str → Option Value} {base : Heap}

abbrev sIsRen : Stmt := topS 27
theorem scIsRen : FnScope ["deeds", "value", "row", "last"] ["deeds", "value"] (defScope sIsRen) := ⟨rfl, rfl, rfl, by decide +kernel, rfl, by decide +kernel, by decide +kernel⟩
def spIsRen : Sp := fun vs H Q _ => ∃ (n : Nat) (a : Addr) (L : Rws), vs = [.int (n : Int), .ref a] ∧ H a = some (.tup (refs L)) ∧ All H L ∧ Ren n (rws L) ∧ weight (rws L) ≤ 254 ∧ ∀ H', Same H H' → Q (.bl true) H'
theorem rows_get {L : Rws} {i : Nat} (h : i < L.length) : rows (rws L) i = L[i].2 := rws_getD h
theorem refs_at {L : Rws} {i : Nat} {x : V} (h : (refs L)[i]? = some x) : ∃ hi : i < L.length, x = .ref L[i].1 := by
  have hi : i < L.length := by have := (List.getElem?_eq_some_iff.1 h).1; rwa [refs_length] at this
  rw [refs_get hi] at h
  exact ⟨hi, (Option.some.inj h).symm⟩
theorem sorted_is {ns M : List Int} {ns' : List Int} (h : ns'.Perm ns) (hs : ns'.Pairwise (· ≤ ·)) (hp : ns.Perm M) (hm : M.Pairwise (· ≤ ·)) : ns' = M :=
  List.Perm.eq_of_pairwise (le := (· ≤ ·)) (fun a b _ _ h1 h2 => Int.le_antisymm h1 h2) hs hm (h.trans hp)
theorem range_sorted (n : Nat) : ((List.range n).map fun i => (1 : Int) + (i : Nat)).Pairwise (· ≤ ·) := by
  rw [List.pairwise_map]
  exact List.pairwise_lt_range.imp fun h => by omega
theorem abs_one {r : List Int} (h : r.length = 1) : ∃ x, r = [x] ∧ (if x < 0 then -x else x) = ((r.headD 0).natAbs : Int) := by
  cases r with
  | nil => cases h
  | cons x t =>
    have : t = [] := List.length_eq_zero_iff.1 (by simpa using h)
    subst this
    exact ⟨x, rfl, by show _ = (x.natAbs : Int); split <;> omega⟩
theorem ok_isRen (D : ∃ f fd, Def K mg "is_renaming_in" sIsRen ["deeds", "value"] f fd)
    (N : Fn P w K mg base "steps_down" ["images"] 5 spDown) (R : Fn P w K mg base "is_plain_row" ["deeds", "value"] 2 (spPlainRow K))
    (m_isinstance : mg "isinstance" = none) (mt : mg "tuple" = none) (ml : mg "len" = none) (m_all : mg "all" = none) (mr : mg "range" = none) (m_list : mg "list" = none) (m_abs : mg "abs" = none) (m_sorted : mg "sorted" = none) :
    Fn P w K mg base "is_renaming_in" ["deeds", "value"] 6 spIsRen := by
  obtain ⟨f, fd, D⟩ := D
  obtain ⟨fN, fdN, bN, gN, kN, GN⟩ := N
  obtain ⟨fR, fdR, bR, gR, kR, GR⟩ := R
  refine D.fn (D.F.ok scIsRen (fun vs H Q E h => ?_) (fun cdv A outer s H vs Q E hr h => ?_))
  · obtain ⟨n, a, L, rfl, _⟩ := h; rfl
  · obtain ⟨n, a, L, rfl, hA, hL, ren, hw, q⟩ := h
    have hr2 : Room 2 (A.deeper (envOfC "is_renaming_in" (defScope sIsRen) s.heap.objs.size f cdv)) := hr.mono (by decide)
    refine ⟨_, (pss_cons (ps_if (PW.pt (pw_or (pt_not (pt_val (pe_callB call_isi (by rfl) m_isinstance (by decide +kernel) (pa_cons (pv 1) (pa_cons (pe_bltn (v := .ty "tuple") (by rfl) mt (by decide +kernel) rfl) pa_nil))))) (pw_or (pt_cmpR op_ne (pe_callB call_len_seq (by rfl) ml PySem.boot_len (pa_cons (pv 1) pa_nil)) (pv 0) (nomark _)) (pw_or1 (pt_not (pt_val (pe_callB (cr_all rfl) (by rfl) m_all (by decide +kernel) (pa_cons (pe_lc (own := [("row", 2)]) (g := gName 2) (tt := tYes) rfl scIsRen.nd (pi_tup (pv 1)) (blkOk_by (N := ["deeds", "value", "row", "last"]) (sc := defScope sIsRen) (by decide +kernel))
        (fun _ _ _ _ _ => pg_name (i := 2) scIsRen.nd rfl (Or.inl rfl)) (fun _ _ _ _ _ => pts_nil) (fun _ _ _ _ _ => (pe_call GR hr2 (by rfl) gR kR bR .nil pass0 (pa_cons (pv 0) (pa_cons (pv 2) pa_nil))))) pa_nil)))))))) (pss_one (ps_ret pe_bl)) pss_nil)
      (pss_cons (ps_set (i := 3) scIsRen.nd rfl (.inl rfl) (pe_ix ix_tup (pe_call GN hr (by rfl) gN kN bN .nil pass0 (pa_cons (pv 1) pa_nil)) pe_int (fun _ _ => rfl)))
      (pss_cons (ps_if (pt_cmpR (op_neD hr.units) (pe_lc (own := [("row", 2)]) (g := gName 2) rfl scIsRen.nd (pi_list (pv 3)) (blkOk_by (N := ["deeds", "value", "row", "last"]) (sc := defScope sIsRen) (by decide +kernel))
        (fun _ _ _ _ _ => pg_name (i := 2) scIsRen.nd rfl (Or.inl rfl)) (fun _ _ _ _ _ => (pts_one (pt_cmpR op_ne (pe_callB (call_lenK K rfl) (by rfl) ml PySem.boot_len (pa_cons (pv 2) pa_nil)) pe_int (nomark _)))) (fun _ _ _ _ _ => (pv 2))) (pe_lst pa_nil) (nomark _)) (pss_one (ps_ret pe_bl)) pss_nil)
      (pss_one (ps_ret (pe_cmpR (op_eqD hr.units) (pe_callB cr_sortedI (by rfl) m_sorted (by decide +kernel) (pa_cons (pe_lc (own := [("row", 2)]) (g := gName 2) (tt := tYes) rfl scIsRen.nd (pi_list (pv 3)) (blkOk_by (N := ["deeds", "value", "row", "last"]) (sc := defScope sIsRen) (by decide +kernel))
        (fun _ _ _ _ _ => pg_name (i := 2) scIsRen.nd rfl (Or.inl rfl)) (fun _ _ _ _ _ => pts_nil) (fun _ _ _ _ _ => (pe_callB call_abs (by rfl) m_abs (by decide +kernel) (pa_cons (pe_ix (ix_tupK K rfl) (pv 2) pe_int (fun _ _ => rfl)) pa_nil)))) pa_nil)) (pe_listRg rfl (by rfl) m_list (prg_2 (by rfl) mr pe_int (pe_op op_add (pv 0) pe_int))) (nomark _))))))), ?_⟩
    have hlen : L.length = n := by rw [← rws_length]; exact ren.len
    refine ⟨.ref a, rfl, .ref a, .ty "tuple", .type "tuple", .type "tuple", true, rfl, .ty _, .base (.tup hA), kit_ty (by decide +kernel), true, rfl, ?_⟩
    refine ⟨.ref a, rfl, a, _, rfl, .inr (SqT.of hA), .int (n : Int), rfl, rfl, _, rfl, ?_⟩
    show if (!decide (V.int ((refs L).length : Nat) = V.int (n : Int))) = true then _ else _
    rw [if_neg (by rw [refs_length, hlen]; simp)]
    refine ⟨.ref a, rfl, a, rfl, ⟨_, SqT.of hA⟩, fun o no => ?_⟩
    refine lc_tup (xs := refs L) (fun i H3 => Same H H3 ∧ H3 o = some (.lst ((List.replicate i true).map V.bl)))
      ⟨same_upd no, by rw [upd_same]; rfl⟩ (fun i H3 hi h => SqT.of (h.1 _ _ hA)) (fun i x H3 hx h => ?_) (fun H3 h => ?_)
    · obtain ⟨sm, eo⟩ := h
      obtain ⟨hi, rfl⟩ := refs_at hx
      have hiu : i < (rws L).length := by rw [rws_length]; exact hi
      have hpl : K71.Pl L[i].2 := by have := ren.pl i hiu; rwa [rows_get hi] at this
      have hlt : ∀ v ∈ L[i].2, v ≠ 0 ∧ 0 - (n : Int) ≤ v ∧ v ≤ n := fun v hv => by
        have := ren.lets i hiu v (by rw [rows_get hi]; exact hv)
        omega
      have hll : L[i].2.length ≤ 100000 := by
        have := K71.row_weight (u := rws L) (r := L[i].2) (List.mem_map.2 ⟨_, List.getElem_mem hi, rfl⟩)
        omega
      refine ⟨rfl, .int (n : Int), rfl, .ref L[i].1, rfl, n, L[i].1, L[i].2, rfl, (hL _ (List.getElem_mem hi)).same sm, hpl, hll, hlt, fun H4 s4 => ⟨_, s4 _ _ eo, ?_, same_own no (sm.trans s4), ?_⟩⟩
      · rw [List.length_map, List.length_replicate]; exact Nat.lt_of_lt_of_le (by have := ren.n4; omega : i < 100000) (by decide)
      · rw [upd_same]; simp [List.replicate_succ']
    · obtain ⟨sm, eo⟩ := h
      refine ⟨o, _, rfl, SqL.of eo, ?_⟩
      have e : (List.replicate (refs L).length true).all id = true := by simp
      rw [e]
      refine ⟨true, rfl, ?_⟩
      obtain ⟨m, v, hm, hgo, hst, hvl, hone, hperm⟩ := ren.down hw
      have hA3 := sm _ _ hA
      refine ⟨.ref a, rfl, a, L, m, v, rfl, hA3, hL.same sm, by rw [hlen]; exact ren.n4, hw, ⟨hgo, hst, hone⟩, hm, fun H4 t ts b L' s4 et eb hL' ev => ?_⟩
      refine ⟨t, _, _, .ref b, rfl, rfl, SqT.of et, rfl, ?_⟩
      have one' : ∀ i (hi : i < L'.length), L'[i].2.length = 1 := fun i hi => hone _ (by rw [← ev]; exact List.mem_map.2 ⟨_, List.getElem_mem hi, rfl⟩)
      refine ⟨.ref b, rfl, b, rfl, ⟨_, SqL.of eb⟩, fun o2 no2 => ?_⟩
      refine lc_list (xs := refs L') (fun i H5 => Same H4 H5 ∧ H5 o2 = some (.lst []))
        ⟨same_upd no2, upd_same⟩ (fun i H5 hi h => SqL.of (h.1 _ _ eb)) (fun i x H5 hx h => ?_) (fun H5 h => ?_)
      · obtain ⟨s5, e5⟩ := h
        obtain ⟨hi, rfl⟩ := refs_at hx
        refine ⟨rfl, .ref L'[i].1, rfl, L'[i].1, _, rfl, .inr ((hL' _ (List.getElem_mem hi)).same s5).sq, rfl, _, rfl, ?_⟩
        have ef : (!decide (V.int ((L'[i].2.map V.int).length : Nat) = V.int 1)) = false := by rw [List.length_map, one' i hi]; rfl
        rw [ef]
        exact ⟨s5, e5⟩
      · obtain ⟨s5, e5⟩ := h
        refine ⟨Nat.zero_le _, fun c nc => ?_⟩
        have s6 := same_upd (o := .lst []) nc
        refine ⟨.list [], .list [], .lst (SqL.of (s6 _ _ e5)) .nil, .lst (SqL.of upd_same) .nil, shaped_list [], shaped_list [], _, rfl, ?_⟩
        show if (!PyData.eqv (.list []) (.list [])) = true then _ else _
        rw [if_neg (by decide)]
        have s46 := s5.trans s6
        refine ⟨.ref b, rfl, b, rfl, ⟨_, SqL.of (s46 _ _ eb)⟩, fun o3 no3 => ?_⟩
        refine lc_list (xs := refs L') (fun i H7 => Same (upd H5 c (.lst [])) H7 ∧ H7 o3 = some (.lst (((rws L').take i).map fun r => V.int ((r.headD 0).natAbs : Int))))
          ⟨same_upd no3, by rw [upd_same]; rfl⟩ (fun i H7 hi h => SqL.of (h.1 _ _ (s46 _ _ eb))) (fun i x H7 hx h => ?_) (fun H7 h => ?_)
        · obtain ⟨s7, e7⟩ := h
          obtain ⟨hi, rfl⟩ := refs_at hx
          obtain ⟨z, ez, eabs⟩ := abs_one (one' i hi)
          have hat := ((hL' _ (List.getElem_mem hi)).same (s46.trans s7)).sq (K := K)
          refine ⟨rfl, .ref L'[i].1, rfl, L'[i].1, _, _, .int z, rfl, rfl, hat, by rw [ez]; rfl, z, rfl, ?_⟩
          refine ⟨_, e7, ?_, same_own no3 s7, ?_⟩
          · rw [List.length_map, List.length_take]
            exact Nat.lt_of_lt_of_le (by have : L'.length = n := by rw [← rws_length, ev]; exact hvl
                                         have := ren.n4; omega : min i (rws L').length < 100000) (by decide)
          · rw [upd_same, List.take_add_one, List.getElem?_eq_getElem (by rw [rws_length]; exact hi)]
            have eg : (rws L')[i]'(by rw [rws_length]; exact hi) = L'[i].2 := by unfold rws; rw [List.getElem_map]
            rw [eg, List.map_append, eabs]; rfl
        · obtain ⟨s7, e7⟩ := h
          rw [refs_length, ← rws_length, List.take_length] at e7
          refine ⟨o3, (rws L').map fun r => ((r.headD 0).natAbs : Int), rfl, SqL.of (by rw [e7, List.map_map]; rfl), fun ns' p hp hs np => ?_⟩
          refine ⟨.int (n : Int), rfl, (n : Int), 1, rfl, rfl, 1, (n : Int) + 1, rfl, rfl, RgOk.of_le (by decide) (by have := ren.n4; omega) (by decide) (by omega), fun q2 nq2 => ?_⟩
          have erg : rgV 1 ((n : Int) + 1) = ((List.range n).map fun i => (1 : Int) + (i : Nat)).map V.int := by
            unfold rgV; rw [show ((n : Int) + 1 - 1).toNat = n by omega, List.map_map]; rfl
          rw [erg]
          have s8 := same_upd (o := .lst (ns'.map V.int)) np
          have s9 := same_upd (o := .lst (((List.range n).map fun i => (1 : Int) + (i : Nat)).map V.int)) nq2
          refine ⟨.list (ns'.map .int), .list (((List.range n).map fun i => (1 : Int) + (i : Nat)).map .int), .lst (SqL.of (s9 _ _ upd_same)) (dp_ints _), .lst (SqL.of upd_same) (dp_ints _), shaped_list _, shaped_list _, ?_⟩
          have e1 : ns' = (List.range n).map fun i => (1 : Int) + (i : Nat) := by
            refine sorted_is hp hs ?_ (range_sorted n)
            rw [ev]
            have := hperm.map (fun k : Nat => (k : Int))
            rw [List.map_map, List.map_map] at this
            have e2 : ((fun k : Nat => (k : Int)) ∘ fun x => x + 1) = fun i : Nat => (1 : Int) + (i : Nat) := by funext i; show ((i + 1 : Nat) : Int) = _; omega
            rw [e2] at this
            exact this
          have e2 : PyData.eqv (.list (ns'.map .int)) (.list (((List.range n).map fun i => (1 : Int) + (i : Nat)).map .int)) = true := by
            have := eqv_ints ns' ((List.range n).map fun i => (1 : Int) + (i : Nat))
            rw [PyData.eqv, this]; exact decide_eq_true e1
          rw [e2]
          exact q _ (((((sm.trans s4).trans s46).trans s7).trans s8).trans s9)
abbrev sNeedRen : Stmt := topS 28
theorem scNeedRen : FnScope ["deeds", "value"] ["deeds", "value"] (defScope sNeedRen) := ⟨rfl, rfl, rfl, by decide +kernel, rfl, by decide +kernel, by decide +kernel⟩
def spNeedRen : Sp := fun vs H Q _ => ∃ (n : Nat) (a : Addr) (L : Rws), vs = [.int (n : Int), .ref a] ∧ H a = some (.tup (refs L)) ∧ All H L ∧ Ren n (rws L) ∧ weight (rws L) ≤ 254 ∧ ∀ H', Same H H' → Q .non H'
theorem ok_needRen (D : ∃ f fd, Def K mg "need_renaming" sNeedRen ["deeds", "value"] f fd) (N : Fn P w K mg base "is_renaming_in" ["deeds", "value"] 6 spIsRen) :
    Fn P w K mg base "need_renaming" ["deeds", "value"] 7 spNeedRen := by
  obtain ⟨f, fd, D⟩ := D
  obtain ⟨fN, fdN, bN, gN, kN, GN⟩ := N
  refine D.fn (D.F.ok scNeedRen (fun vs H Q E h => ?_) (fun cdv A outer s H vs Q E hr h => ?_))
  · obtain ⟨n, a, L, rfl, _⟩ := h; rfl
  · obtain ⟨n, a, L, rfl, hA, hL, ren, hw, q⟩ := h
    refine ⟨_, (pss_one (ps_if (pt_not (pt_val (pe_call GN hr (by rfl) gN kN bN .nil pass0 (pa_cons (pv 0) (pa_cons (pv 1) pa_nil))))) (pss_one ps_never) pss_nil)), ?_⟩
    exact ⟨.int (n : Int), rfl, .ref a, rfl, n, a, L, rfl, hA, hL, ren, hw, fun H1 s1 => ⟨true, rfl, q H1 s1⟩⟩
abbrev sNeedFew : Stmt := topS 29
theorem scNeedFew : FnScope ["images", "row"] ["images"] (defScope sNeedFew) := ⟨rfl, rfl, rfl, by decide +kernel, rfl, by decide +kernel, by decide +kernel⟩
def spNeedFew : Sp := fun vs H Q _ => ∃ (a : Addr) (L : Rws), vs = [.ref a] ∧ H a = some (.tup (refs L)) ∧ All H L ∧ weight (rws L) ≤ 254 ∧ L.length ≤ 4 ∧ ∀ H', Same H H' → Q .non H'
theorem sum_weight (L : Rws) : ((rws L).map List.length).sum = weight (rws L) := by
  unfold weight K71.total
  congr 1
  apply List.ext_getElem
  · simp
  · intro i h1 h2
    have hi : i < L.length := by simpa [rws] using h1
    simp only [List.getElem_map, List.getElem_range]
    rw [rows_get hi]; simp [rws]
theorem sum_ints (l : List Nat) : (l.map fun k : Nat => ((k : Nat) : Int)).sum = (l.sum : Int) := by
  induction l with
  | nil => rfl
  | cons x l ih => rw [List.map_cons, List.sum_cons, List.sum_cons, ih]; omega
theorem ok_needFew {t : Nat} (D : ∃ f fd, Def K mg "need_few" sNeedFew ["images"] f fd) (m_sum : mg "sum" = none) (ml : mg "len" = none) (mI : mg "MOST_IMAGES" = some (.int 2000 t)) :
    Fn P w K mg base "need_few" ["images"] 1 spNeedFew := by
  obtain ⟨f, fd, D⟩ := D
  refine D.fn (D.F.ok scNeedFew (fun vs H Q E h => ?_) (fun cdv A outer s H vs Q E hr h => ?_))
  · obtain ⟨a, L, rfl, _⟩ := h; rfl
  · obtain ⟨a, L, rfl, hA, hL, hw, h4, q⟩ := h
    refine ⟨_, (pss_one (ps_if (pt_cmpR op_gt (pe_callB (cr_sum rfl) (by rfl) m_sum (by decide +kernel) (pa_cons (pe_lc (own := [("row", 1)]) (g := gName 1) (tt := tYes) rfl scNeedFew.nd (pi_tup (pv 0)) (blkOk_by (N := ["images", "row"]) (sc := defScope sNeedFew) (by decide +kernel))
        (fun _ _ _ _ _ => pg_name (i := 1) scNeedFew.nd rfl (Or.inl rfl)) (fun _ _ _ _ _ => pts_nil) (fun _ _ _ _ _ => (pe_callB (call_lenK K rfl) (by rfl) ml PySem.boot_len (pa_cons (pv 1) pa_nil)))) pa_nil)) (pe_glob (v := .int 2000) (by rfl) mI ⟨_, rfl⟩) (nomark _)) (pss_one ps_never) pss_nil)), ?_⟩
    refine ⟨.ref a, rfl, a, rfl, ⟨_, SqT.of hA⟩, fun o no => ?_⟩
    refine lc_tup (xs := refs L) (fun i H3 => Same H H3 ∧ H3 o = some (.lst ((((rws L).map List.length).take i).map fun k : Nat => V.int ((k : Nat) : Int))))
      ⟨same_upd no, by rw [upd_same]; rfl⟩ (fun i H3 hi h => SqT.of (h.1 _ _ hA)) (fun i x H3 hx h => ?_) (fun H3 h => ?_)
    · obtain ⟨sm, eo⟩ := h
      obtain ⟨hi, rfl⟩ := refs_at hx
      refine ⟨rfl, .ref L[i].1, rfl, L[i].1, _, rfl, .inr ((hL _ (List.getElem_mem hi)).same sm).sq, _, eo, ?_, same_own no sm, ?_⟩
      · rw [List.length_map, List.length_take]; exact Nat.lt_of_lt_of_le (by omega : min i ((rws L).map List.length).length < 100000) (by decide)
      · rw [upd_same, List.take_add_one, List.getElem?_eq_getElem (by simpa [rws] using hi), List.map_append]
        simp [rws]
    · obtain ⟨sm, eo⟩ := h
      rw [List.take_of_length_le (by rw [refs_length, List.length_map, rws_length]; exact Nat.le_refl _)] at eo
      refine ⟨o, ((rws L).map List.length).map fun k : Nat => ((k : Nat) : Int), rfl, SqL.of (by rw [eo]; simp only [List.map_map]; rfl), _, 2000, rfl, rfl, _, rfl, ?_⟩
      rw [sum_ints, sum_weight]
      show if decide (((weight (rws L) : Nat) : Int) > 2000) = true then _ else _
      rw [if_neg (by simp; omega)]
      exact q _ sm
end
end K71W

/-! ## Wk15 -/
set_option Elab.async false
set_option linter.all false
set_option maxRecDepth 100000
namespace K71W
open PySem PySem.Spec PyProof.Rows L2
open K71 (weight Ren rows headAt Raw turningHead lead pl)
section
variable {P : Program} {w : World} {K : PySem.W.Frag} {mg : Str → Option Value} {base : Heap}

abbrev sTHead : Stmt := topS 30
theorem scTHead : FnScope ["deeds", "images", "heads", "x", "row", "head", "between", "many"] ["deeds", "images"] (defScope sTHead) := ⟨rfl, rfl, rfl, by decide +kernel, rfl, by decide +kernel, by decide +kernel⟩
def spTHead : Sp := fun vs H Q _ => ∃ (n : Nat) (a : Addr) (L : Rws), vs = [.int (n : Int), .ref a] ∧ H a = some (.tup (refs L)) ∧ All H L ∧ L.length = n ∧ 1 ≤ n ∧ n ≤ 4 ∧ (∀ q ∈ L, q.2.length ≤ 400) ∧
  (∀ H', Same H H' → turningHead n (rws L) = none → Q .non H') ∧ (∀ H' t h, Same H H' → turningHead n (rws L) = some h → RA H' t h → Q (.ref t) H')
theorem lead_exit {b : List Int} {m : Nat} (hm : m ≤ b.length) (h : ∀ j (hj : j < m), (b[j]'(by omega)).natAbs = 1) (he : b.length = m ∨ ∃ hm' : m < b.length, b[m].natAbs ≠ 1) : lead b = m := by
  induction m generalizing b with
  | zero =>
    cases b with
    | nil => rfl
    | cons x r =>
      rcases he with e | ⟨_, e⟩
      · simp at e
      · have e' : ¬ x.natAbs = 1 := e
        unfold lead; rw [if_neg e']
  | succ m ih =>
    cases b with
    | nil => simp at hm
    | cons x r =>
      have h0 : x.natAbs = 1 := h 0 (by omega)
      unfold lead
      rw [if_pos h0, ih (by simpa using hm) (fun j hj => by have := h (j + 1) (by omega); simpa using this) (by
        rcases he with e | ⟨h1, e⟩
        · exact .inl (by simpa using e)
        · exact .inr ⟨by simpa using h1, by simpa using e⟩)]
theorem headAt_length (u : List (List Int)) (k : Nat) : (headAt u k).length ≤ (rows u k).length := by unfold headAt; rw [List.length_take]; omega
theorem ok_tHead (D : ∃ f fd, Def K mg "turning_head" sTHead ["deeds", "images"] f fd)
    (U : Fn P w K mg base "undone_of" ["row"] 1 (spUndone K)) (F : Fn P w K mg base "plain_of" ["letters"] 1 (spPlainT K))
    (ml : mg "len" = none) (mr : mg "range" = none) (m_abs : mg "abs" = none) :
    Fn P w K mg base "turning_head" ["deeds", "images"] 2 spTHead := by
  obtain ⟨f, fd, D⟩ := D
  obtain ⟨fU, fdU, bU, gU, kU, GU⟩ := U
  obtain ⟨fF, fdF, bF, gF, kF, GF⟩ := F
  refine D.fn (D.F.ok scTHead (fun vs H Q E h => ?_) (fun cdv A outer s H vs Q E hr h => ?_))
  · obtain ⟨n, a, L, rfl, _⟩ := h; rfl
  · obtain ⟨n, a, L, rfl, hA, hL, hn, h1, h4, hlen, qn, qs⟩ := h
    refine ⟨_, (pss_cons (ps_set (i := 2) scTHead.nd rfl (.inl rfl) (pe_lst pa_nil))
      (pss_cons (ps_for PassesOwn.never rfl (pi_range2 (by rfl) mr (pa_cons pe_int (pa_cons (pe_op op_add (pv 0) pe_int) pa_nil))) (pg_name (i := 3) scTHead.nd rfl (.inl rfl)) (pss_cons (ps_set (i := 4) scTHead.nd rfl (.inl rfl) (pe_ix ix_tup (pv 1) (pe_op op_sub (pv 3) pe_int) (fun _ _ => rfl)))
      (pss_cons (ps_set (i := 5) scTHead.nd rfl (.inl rfl) (pe_slice sl_tupA (pv 4) po_none (po_some (pe_op op_fdiv (pe_callB call_len_seq (by rfl) ml PySem.boot_len (pa_cons (pv 4) pa_nil)) pe_int))))
      (pss_cons (ps_if (pt_cmpR (op_neD hr.units) (pv 4) (pe_op op_catA (pe_op op_catA (pv 5) (pe_tup (pa_cons (pv 3) pa_nil))) (pe_call GU hr (by rfl) gU kU bU .nil pass0 (pa_cons (pv 5) pa_nil))) (nomark _)) (pss_one (ps_ret pe_non)) pss_nil)
      (pss_one (ps_expr (pe_bm PySem.F.plainAttrs_list PySem.F.slot_list_append PySem.F.type_list_append mt_append (pv 2) (pa_cons (pv 5) pa_nil))))))))
      (pss_cons (ps_if (pt_cmpR op_eq (pv 0) pe_int (nomark _)) (pss_one (ps_ret (pe_tup pa_nil))) pss_nil)
      (pss_cons (ps_set (i := 6) scTHead.nd rfl (.inl rfl) (pe_call GF hr (by rfl) gF kF bF .nil pass0 (pa_cons (pe_op op_catA (pe_call GU hr (by rfl) gU kU bU .nil pass0 (pa_cons (pe_ix ix_list (pv 2) pe_int (fun _ _ => rfl)) pa_nil)) (pe_ix ix_list (pv 2) pe_int (fun _ _ => rfl))) pa_nil)))
      (pss_cons (ps_set (i := 7) scTHead.nd rfl (.inl rfl) pe_int)
      (pss_cons (ps_while PassesOwn.never (PW.pt (pw_and (pt_cmpR op_lt (pv 7) (pe_callB call_len_seq (by rfl) ml PySem.boot_len (pa_cons (pv 6) pa_nil)) (nomark _)) (pw_and1 (pt_cmpR op_eq (pe_callB call_abs (by rfl) m_abs (by decide +kernel) (pa_cons (pe_ix ix_tup (pv 6) (pv 7) (fun _ _ => rfl)) pa_nil)) pe_int (nomark _))))) (pss_one (ps_aug (i := 7) scTHead.nd rfl (.inl rfl) pe_int ip_add)))
      (pss_one (ps_ret (pe_call GF hr (by rfl) gF kF bF .nil pass0 (pa_cons (pe_op op_catA (pe_ix ix_list (pv 2) pe_int (fun _ _ => rfl)) (pe_slice sl_tupA (pv 6) po_none (po_some (pv 7)))) pa_nil)))))))))), ?_⟩
    refine ⟨Nat.zero_le _, fun o no => ?_⟩
    have s1 : Same H (upd H o (.lst [])) := same_upd no
    refine ⟨.int (n : Int), rfl, (n : Int), 1, rfl, rfl, 1, (n : Int) + 1, rfl, by omega, ?_⟩
    have bigz : (1000 : Nat) ≤ sizeLine := by decide
    refine for_range (lo := 1) (n := ((n : Int) + 1 - 1).toNat) (fun i σ H3 => ∃ (M : Rws) (y3 y4 y5 : Option V), σ = [some (.int (n : Int)), some (.ref a), some (.ref o), y3, y4, y5, none, none] ∧ Same H H3 ∧ H3 o = some (.lst (refs M)) ∧ All H3 M ∧
        rws M = (List.range i).map (headAt (rws L)) ∧ ∀ k, k < i → Raw (rws L) k)
      ⟨[], none, none, none, rfl, s1, by rw [upd_same]; rfl, fun q hq => (by cases hq), rfl, fun k hk => absurd hk (Nat.not_lt_zero k)⟩ (fun i σ H3 hi h => ?_) (fun σ H3 h => ?_)
    · obtain ⟨M, y3, y4, y5, rfl, s3, eo, hM, eM, raws⟩ := h
      have hi' : i < L.length := by omega
      have eML : M.length = i := by rw [← rws_length, eM]; simp
      have hrow : RA H3 L[i].1 L[i].2 := (hL _ (List.getElem_mem hi')).same s3
      have hrl := hlen _ (List.getElem_mem hi')
      refine ⟨.ref a, rfl, _, rfl, _, 1, rfl, rfl, a, refs L, _, .ref L[i].1, rfl, rfl, SqT.of (s3 _ _ hA), by rw [show (1 : Int) + (i : Nat) - 1 = ((i : Nat) : Int) by omega]; exact atI_nat (refs_get hi'), ?_⟩
      refine ⟨.ref L[i].1, rfl, .ref L[i].1, rfl, L[i].1, _, rfl, .inr hrow.sq, _, 2, rfl, rfl, ⟨by decide, by decide⟩, _, rfl, ?_⟩
      refine slA hrow 0 (L[i].2.length / 2) rfl (by rw [List.length_map, show ((L[i].2.length : Nat) : Int) / 2 = ((L[i].2.length / 2 : Nat) : Int) by omega, sIx_nat]; omega) fun th H4 s4 hth => ?_
      have erow : rows (rws L) i = L[i].2 := rows_get hi'
      have hth' : RA H4 th (headAt (rws L) i) := by unfold headAt; rw [erow]; rwa [List.drop_zero, Nat.sub_zero] at hth
      have hhl : (headAt (rws L) i).length ≤ 400 := Nat.le_trans (headAt_length _ _) (by rw [erow]; exact hrl)
      refine ⟨.ref L[i].1, rfl, .ref th, rfl, _, rfl, by show (1 : Nat) ≤ sizeLine; decide, fun t1 n1 => ?_⟩
      have s5 : Same H4 (upd H4 t1 (.tup [.int ((1 : Int) + (i : Nat))])) := same_upd n1
      have ht1 : RA (upd H4 t1 (.tup [.int ((1 : Int) + (i : Nat))])) t1 [((i + 1 : Nat) : Int)] := by unfold RA; rw [upd_same, show ((i + 1 : Nat) : Int) = (1 : Int) + (i : Nat) by omega]; rfl
      refine catA (hth'.same s5) ht1 (by rw [List.length_singleton]; omega) fun t2 H6 s6 ht2 => ?_
      refine ⟨.ref th, rfl, th, headAt (rws L) i, rfl, ((hth'.same s5).same s6).sq, by omega, fun H7 t3 s7 n3 ht3 => ?_⟩
      refine catA (ht2.same s7) (show RA H7 t3 _ from ht3) (by rw [List.length_append, List.length_singleton, K71.inv_length]; omega) fun t4 H8 s8 ht4 => ?_
      have s48 := ((s5.trans s6).trans s7).trans s8
      have s38 := s4.trans s48
      refine ⟨_, _, (hrow.same s38).dp, ht4.dp, shaped_tup _, shaped_tup _, _, rfl, ?_⟩
      rw [eqv_tupD]
      show if (!decide (L[i].2 = headAt (rws L) i ++ [((i + 1 : Nat) : Int)] ++ K71.inv (headAt (rws L) i))) = true then _ else _
      have eraw : Raw (rws L) i ↔ L[i].2 = headAt (rws L) i ++ [((i + 1 : Nat) : Int)] ++ K71.inv (headAt (rws L) i) := by unfold Raw; rw [erow]
      by_cases c : L[i].2 = headAt (rws L) i ++ [((i + 1 : Nat) : Int)] ++ K71.inv (headAt (rws L) i)
      · rw [if_neg (by rw [decide_eq_true c]; decide)]
        have e8 := s38 _ _ eo
        refine ⟨.ref o, rfl, .inl ⟨rfl, _, SqL.of e8⟩, .ref th, rfl, o, _, _, rfl, rfl, e8, by rw [refs_length, eML]; omega, ?_⟩
        refine ⟨M ++ [(th, headAt (rws L) i)], _, _, _, rfl, same_own no (s3.trans s38), by rw [upd_same]; simp [refs], ?_, ?_, fun k hk => ?_⟩
        · intro q hq
          rcases List.mem_append.1 hq with e | e
          · exact ((hM.same s38) q e).upd e8
          · have : q = (th, headAt (rws L) i) := by simpa using e
            rw [this]; exact (hth'.same s48).upd e8
        · rw [List.range_succ, List.map_append, ← eM]; simp [rws]
        · by_cases e : k = i
          · rw [e]; exact eraw.2 c
          · exact raws k (by omega)
      · rw [if_pos (by rw [decide_eq_false c]; rfl)]
        refine qn _ (s3.trans s38) ?_
        unfold turningHead
        rw [if_neg]
        intro hall
        exact c (eraw.1 (hall i (by omega)))
    · obtain ⟨M, y3, y4, y5, rfl, s3, eo, hM, eM, raws⟩ := h
      have hall : ∀ k, k < n → Raw (rws L) k := fun k hk => raws k (by omega)
      have eth : turningHead n (rws L) = some (if n = 1 then [] else pl (headAt (rws L) 0 ++ (pl (K71.inv (headAt (rws L) 0) ++ headAt (rws L) 1)).take (lead (pl (K71.inv (headAt (rws L) 0) ++ headAt (rws L) 1))))) := by
        unfold turningHead; rw [if_pos hall]
      refine ⟨.int (n : Int), rfl, rfl, _, rfl, ?_⟩
      show if decide (V.int (n : Int) = V.int 1) = true then _ else _
      by_cases c1 : n = 1
      · rw [if_pos (decide_eq_true (by rw [c1]; rfl))]
        rw [if_pos c1] at eth
        exact ⟨Nat.zero_le _, fun t nt => qs _ t [] (s3.trans (same_upd nt)) eth (by unfold RA; rw [upd_same]; rfl)⟩
      · rw [if_neg (by simp; omega)]
        rw [if_neg c1] at eth
        have eML : M.length = n := by rw [← rws_length, eM]; simp
        have g0 : 0 < M.length := by omega
        have g1 : 1 < M.length := by omega
        have em : ∀ i (hi : i < M.length), M[i].2 = headAt (rws L) i := fun i hi => by
          have h := rws_getD hi
          rw [eM] at h
          rw [← h, List.getD_eq_getElem?_getD, List.getElem?_map, List.getElem?_range (by omega)]; rfl
        have r0 : RA H3 M[0].1 (headAt (rws L) 0) := by rw [← em 0 g0]; exact hM _ (List.getElem_mem g0)
        have r1 : RA H3 M[1].1 (headAt (rws L) 1) := by rw [← em 1 g1]; exact hM _ (List.getElem_mem g1)
        have l0 : (headAt (rws L) 0).length ≤ 400 := Nat.le_trans (headAt_length _ _) (by rw [rows_get (by omega : 0 < L.length)]; exact hlen _ (List.getElem_mem _))
        have l1 : (headAt (rws L) 1).length ≤ 400 := Nat.le_trans (headAt_length _ _) (by rw [rows_get (by omega : 1 < L.length)]; exact hlen _ (List.getElem_mem _))
        refine ⟨.ref o, rfl, o, _, 0, .ref M[0].1, rfl, rfl, SqL.of eo, atI_nat (refs_get g0), M[0].1, headAt (rws L) 0, rfl, r0.sq, by omega, fun H4 t1 s4 n1 h1' => ?_⟩
        refine ⟨.ref o, rfl, o, _, 1, .ref M[1].1, rfl, rfl, SqL.of (s4 _ _ eo), atI_nat (refs_get g1), ?_⟩
        refine catA (show RA H4 t1 _ from h1') (r1.same s4) (by rw [K71.inv_length]; omega) fun t2 H5 s5 h2 => ?_
        refine ⟨t2, _, rfl, h2.sq, by rw [List.length_append, K71.inv_length]; omega, fun H6 t3 s6 n3 h3 => ?_⟩
        generalize hb : pl (K71.inv (headAt (rws L) 0) ++ headAt (rws L) 1) = b at *
        have s36 := (s4.trans s5).trans s6
        have lb : b.length ≤ 800 := by rw [← hb]; refine Nat.le_trans (pl_len _) ?_; rw [List.length_append, K71.inv_length]; omega
        have h3' : RA H6 t3 b := h3
        refine ⟨fun m σ H7 => ∃ k : Nat, σ = [some (.int (n : Int)), some (.ref a), some (.ref o), y3, y4, y5, some (.ref t3), some (.int (k : Int))] ∧ ∃ hk : k ≤ b.length, (∀ j (hj : j < k), (b[j]'(by omega)).natAbs = 1) ∧ H7 = H6 ∧ m = b.length - k,
          ⟨_, 0, rfl, Nat.zero_le _, fun j hj => absurd hj (Nat.not_lt_zero j), rfl, rfl⟩, fun m σ H7 h => ?_⟩
        obtain ⟨k, rfl, hk, hall1, rfl, rfl⟩ := h
        refine ⟨_, rfl, .ref t3, rfl, t3, _, rfl, .inr h3'.sq, _, _, rfl, rfl, _, rfl, ?_⟩
        show if decide (((k : Nat) : Int) < ((b.map V.int).length : Nat)) = true then _ else _
        rw [List.length_map]
        by_cases c2 : k < b.length
        · rw [if_pos (decide_eq_true (by omega))]
          refine ⟨.ref t3, rfl, _, rfl, t3, _, _, .int b[k], rfl, rfl, h3'.sq, atI_nat (ints_get c2), b[k], rfl, rfl, _, rfl, ?_⟩
          show if decide (V.int (if b[k] < 0 then -b[k] else b[k]) = V.int 1) = true then _ else _
          refine ite2 (fun e => ?_) (fun e => ?_)
          · have e' : b[k].natAbs = 1 := by have := V.int.inj (of_decide_eq_true e); split at this <;> omega
            refine ⟨fun σ' H' => σ' = [some (.int (n : Int)), some (.ref a), some (.ref o), y3, y4, y5, some (.ref t3), some (.int ((k + 1 : Nat) : Int))] ∧ H' = H7, fun σ' H' h => ⟨b.length - (k + 1), by omega, k + 1, h.1, by omega, fun j hj => ?_, h.2, rfl⟩, ⟨_, rfl, _, _, rfl, rfl, rfl, rfl⟩⟩
            by_cases ej : j = k
            · subst ej; exact e'
            · exact hall1 j (by omega)
          · have e' : b[k].natAbs ≠ 1 := fun h => e (decide_eq_true (by congr 1; split <;> omega))
            have el := lead_exit hk hall1 (.inr ⟨c2, e'⟩)
            refine ⟨.ref o, rfl, o, _, 0, .ref M[0].1, rfl, rfl, SqL.of (s36 _ _ eo), atI_nat (refs_get g0), .ref t3, rfl, _, rfl, _, rfl, ?_⟩
            refine slA h3' 0 k rfl (by rw [sIx_nat]; omega) fun t5 H8 s8 h5 => ?_
            refine catA ((r0.same s36).same s8) (by rwa [List.drop_zero, Nat.sub_zero] at h5) (by rw [List.length_take]; omega) fun t6 H9 s9 h6 => ?_
            refine ⟨t6, _, rfl, h6.sq, by rw [List.length_append, List.length_take]; omega, fun H10 t7 s10 n7 h7 => ?_⟩
            exact qs H10 t7 _ (((((s3.trans s36).trans s8).trans s9).trans s10)) (by rw [eth, el]) h7
        · rw [if_neg (by simp; omega)]
          have el := lead_exit hk hall1 (.inl (by omega))
          refine ⟨.ref o, rfl, o, _, 0, .ref M[0].1, rfl, rfl, SqL.of (s36 _ _ eo), atI_nat (refs_get g0), .ref t3, rfl, _, rfl, _, rfl, ?_⟩
          refine slA h3' 0 k rfl (by rw [sIx_nat]; omega) fun t5 H8 s8 h5 => ?_
          refine catA ((r0.same s36).same s8) (by rwa [List.drop_zero, Nat.sub_zero] at h5) (by rw [List.length_take]; omega) fun t6 H9 s9 h6 => ?_
          refine ⟨t6, _, rfl, h6.sq, by rw [List.length_append, List.length_take]; omega, fun H10 t7 s10 n7 h7 => ?_⟩
          exact qs H10 t7 _ (((((s3.trans s36).trans s8).trans s9).trans s10)) (by rw [eth, el]) h7
end
end K71W

/-! ## Wk16 -/
set_option Elab.async false
set_option linter.all false
set_option maxRecDepth 100000
namespace K71W
open PySem PySem.Spec PyProof.Rows L2
open K71 (weight Ren rows pl ren inner conj turnedBy turningHead)
section
variable {P : Program} {w : World} {K : PySem.W.Frag} {mg : Str → Option Value} {base : Heap}

abbrev sRenamed : Stmt := topS 31
theorem scRenamed : FnScope ["deeds", "renaming", "row"] ["deeds", "renaming", "row"] (defScope sRenamed) := ⟨rfl, rfl, rfl, by decide +kernel, rfl, by decide +kernel, by decide +kernel⟩
def spRenamed : Sp := fun vs H Q _ => ∃ (n : Nat) (a b : Addr) (L : Rws) (r : List Int), vs = [.int (n : Int), .ref a, .ref b] ∧ H a = some (.tup (refs L)) ∧ All H L ∧ Ren n (rws L) ∧ weight (rws L) ≤ 254 ∧ RA H b r ∧ r.length ≤ 200 ∧
  (∀ v ∈ r, v ≠ 0 ∧ 0 - (n : Int) ≤ v ∧ v ≤ n) ∧ ∀ H' p, Same H H' → H p = none → RA H' p (ren (rws L) (pl r)) → Q (.ref p) H'
theorem img_weight {L : Rws} {x : Int} (h : x ≠ 0 ∧ -(L.length : Int) ≤ x ∧ x ≤ L.length) : (K71.img (rws L) x).length ≤ weight (rws L) := by
  have hm : ∀ k (hk : k < L.length), L[k].2.length ≤ weight (rws L) := fun k hk => K71.row_weight (List.mem_map.2 ⟨_, List.getElem_mem hk, rfl⟩)
  by_cases hp : 0 < x
  · obtain ⟨k, hk, _, e2⟩ := img_pos' hp h.2.2
    rw [e2]; exact hm k hk
  · obtain ⟨k, hk, _, e2⟩ := img_neg' (by omega) h.2.1
    rw [e2, K71.inv_length]; exact hm k hk
theorem flat_weight {L : Rws} {r : List Int} (h : ∀ x ∈ r, x ≠ 0 ∧ -(L.length : Int) ≤ x ∧ x ≤ L.length) : (r.flatMap (K71.img (rws L))).length ≤ r.length * weight (rws L) := by
  induction r with
  | nil => simp
  | cons x r ih =>
    rw [List.flatMap_cons, List.length_append, List.length_cons, Nat.succ_mul]
    have h1 := img_weight (h x (List.mem_cons_self ..))
    have h2 := ih fun y hy => h y (List.mem_cons_of_mem _ hy)
    omega
theorem ok_renamed (D : ∃ f fd, Def K mg "renamed" sRenamed ["deeds", "renaming", "row"] f fd)
    (DD : Fn P w K mg base "need_deeds" ["deeds"] 3 spNeedDeeds) (N : Fn P w K mg base "need_renaming" ["deeds", "value"] 7 spNeedRen)
    (R : Fn P w K mg base "need_row" ["deeds", "row"] 5 (spNeedRow K)) (B : Fn P w K mg base "renamed_by" ["images", "row"] 2 spRenamedBy) :
    Fn P w K mg base "renamed" ["deeds", "renaming", "row"] 8 spRenamed := by
  obtain ⟨f, fd, D⟩ := D
  obtain ⟨fD, fdD, bD, gD, kD, GD⟩ := DD
  obtain ⟨fN, fdN, bN, gN, kN, GN⟩ := N
  obtain ⟨fR, fdR, bR, gR, kR, GR⟩ := R
  obtain ⟨fB, fdB, bB, gB, kB, GB⟩ := B
  refine D.fn (D.F.ok scRenamed (fun vs H Q E h => ?_) (fun cdv A outer s H vs Q E hr h => ?_))
  · obtain ⟨n, a, b, L, r, rfl, _⟩ := h; rfl
  · obtain ⟨n, a, b, L, r, rfl, hA, hL, rn, hw, hR, hl, hx, q⟩ := h
    refine ⟨_, (pss_cons (ps_expr (pe_call GD (hr.mono (by decide)) (by rfl) gD kD bD .nil pass0 (pa_cons (pv 0) pa_nil)))
      (pss_cons (ps_expr (pe_call GN hr (by rfl) gN kN bN .nil pass0 (pa_cons (pv 0) (pa_cons (pv 1) pa_nil))))
      (pss_one (ps_ret (pe_call GB (hr.mono (by decide)) (by rfl) gB kB bB .nil pass0 (pa_cons (pv 1) (pa_cons (pe_call GR (hr.mono (by decide)) (by rfl) gR kR bR .nil pass0 (pa_cons (pv 0) (pa_cons (pv 2) pa_nil))) pa_nil))))))), ?_⟩
    refine ⟨.int (n : Int), rfl, (n : Int), rfl, by have := rn.n1; omega, by have := rn.n4; omega, ?_⟩
    refine ⟨.int (n : Int), rfl, .ref a, rfl, n, a, L, rfl, hA, hL, rn, hw, fun H1 s1 => ?_⟩
    refine ⟨.ref a, rfl, .int (n : Int), rfl, .ref b, rfl, (n : Int), b, r, rfl, (hR.same s1).sq, hR.same s1, hl, hx, fun H2 p s2 np hp => ?_⟩
    have hlen : L.length = n := by rw [← rws_length]; exact rn.len
    have hx' : ∀ x ∈ pl r, x ≠ 0 ∧ -(L.length : Int) ≤ x ∧ x ≤ L.length := fun x hx1 => by have := hx x (K71.pl_mem hx1); omega
    refine ⟨a, p, L, pl r, rfl, (s1.trans s2) _ _ hA, hL.same (s1.trans s2), hp, hx', ?_, fun H3 p3 s3 n3 h3 => ?_⟩
    · have h1 := flat_weight hx'
      have h2 := pl_len r
      have h3 : (pl r).length * weight (rws L) ≤ 200 * 254 := Nat.mul_le_mul (by omega) hw
      omega
    · exact q H3 p3 ((s1.trans s2).trans s3) (Same.free (s1.trans s2) n3) h3
abbrev sBehind : Stmt := topS 32
theorem scBehind : FnScope ["deeds", "first", "second", "found", "row"] ["deeds", "first", "second"] (defScope sBehind) := ⟨rfl, rfl, rfl, by decide +kernel, rfl, by decide +kernel, by decide +kernel⟩
def spBehind : Sp := fun vs H Q _ => ∃ (n : Nat) (a b : Addr) (L M : Rws), vs = [.int (n : Int), .ref a, .ref b] ∧ H a = some (.tup (refs L)) ∧ All H L ∧ Ren n (rws L) ∧ weight (rws L) ≤ 254 ∧
  H b = some (.tup (refs M)) ∧ All H M ∧ Ren n (rws M) ∧ weight (rws M) ≤ 254 ∧ weight (K71.comp (rws L) (rws M)) ≤ 254 ∧
  ∀ H' p N, Same H H' → H' p = some (.tup (refs N)) → All H' N → rws N = K71.comp (rws L) (rws M) → Q (.ref p) H'
theorem All.snoc {H : Hp} {M : Rws} {t : Addr} {r : List Int} (h : All H M) (ht : RA H t r) : All H (M ++ [(t, r)]) := by
  intro q hq
  rcases List.mem_append.1 hq with e | e
  · exact h q e
  · have : q = (t, r) := by simpa using e
    rw [this]; exact ht
theorem refs_snoc (M : Rws) (t : Addr) (r : List Int) : refs (M ++ [(t, r)]) = refs M ++ [.ref t] := by simp [refs]
theorem rws_snoc (M : Rws) (t : Addr) (r : List Int) : rws (M ++ [(t, r)]) = rws M ++ [r] := by simp [rws]
theorem rws_at {L : Rws} {i : Nat} (h : i < (rws L).length) (h' : i < L.length) : (rws L)[i] = L[i].2 := by
  have := rws_getD h'
  rw [List.getD_eq_getElem?_getD, List.getElem?_eq_getElem h] at this; exact this
theorem ok_behind (D : ∃ f fd, Def K mg "behind" sBehind ["deeds", "first", "second"] f fd)
    (DD : Fn P w K mg base "need_deeds" ["deeds"] 3 spNeedDeeds) (N : Fn P w K mg base "need_renaming" ["deeds", "value"] 7 spNeedRen)
    (W : Fn P w K mg base "need_few" ["images"] 1 spNeedFew) (B : Fn P w K mg base "renamed_by" ["images", "row"] 2 spRenamedBy) (mt : mg "tuple" = none) :
    Fn P w K mg base "behind" ["deeds", "first", "second"] 8 spBehind := by
  obtain ⟨f, fd, D⟩ := D
  obtain ⟨fD, fdD, bD, gD, kD, GD⟩ := DD
  obtain ⟨fN, fdN, bN, gN, kN, GN⟩ := N
  obtain ⟨fW, fdW, bW, gW, kW, GW⟩ := W
  obtain ⟨fB, fdB, bB, gB, kB, GB⟩ := B
  refine D.fn (D.F.ok scBehind (fun vs H Q E h => ?_) (fun cdv A outer s H vs Q E hr h => ?_))
  · obtain ⟨n, a, b, L, M, rfl, _⟩ := h; rfl
  · obtain ⟨n, a, b, L, M, rfl, hA, hL, rn, hw, hB, hM, rm, hwm, hwc, q⟩ := h
    have hr2 : Room 2 (A.deeper (envOfC "behind" (defScope sBehind) s.heap.objs.size f cdv)) := hr.mono (by decide)
    refine ⟨_, (pss_cons (ps_expr (pe_call GD (hr.mono (by decide)) (by rfl) gD kD bD .nil pass0 (pa_cons (pv 0) pa_nil)))
      (pss_cons (ps_expr (pe_call GN hr (by rfl) gN kN bN .nil pass0 (pa_cons (pv 0) (pa_cons (pv 1) pa_nil))))
      (pss_cons (ps_expr (pe_call GN hr (by rfl) gN kN bN .nil pass0 (pa_cons (pv 0) (pa_cons (pv 2) pa_nil))))
      (pss_cons (ps_set (i := 3) scBehind.nd rfl (.inl rfl) (pe_callTy call_tuple_of (by rfl) mt (by decide +kernel) (pa_cons (pe_lc (own := [("row", 4)]) (g := gName 4) (tt := tYes) rfl scBehind.nd (pi_tup (pv 1)) (blkOk_by (N := ["deeds", "first", "second", "found", "row"]) (sc := defScope sBehind) (by decide +kernel))
        (fun _ _ _ _ _ => pg_name (i := 4) scBehind.nd rfl (Or.inl rfl)) (fun _ _ _ _ _ => pts_nil) (fun _ _ _ _ _ => (pe_call GB hr2 (by rfl) gB kB bB .nil pass0 (pa_cons (pv 2) (pa_cons (pv 4) pa_nil))))) pa_nil)))
      (pss_cons (ps_expr (pe_call GW (hr.mono (by decide)) (by rfl) gW kW bW .nil pass0 (pa_cons (pv 3) pa_nil)))
      (pss_one (ps_ret (pv 3)))))))), ?_⟩
    refine ⟨.int (n : Int), rfl, (n : Int), rfl, by have := rn.n1; omega, by have := rn.n4; omega, ?_⟩
    refine ⟨.int (n : Int), rfl, .ref a, rfl, n, a, L, rfl, hA, hL, rn, hw, fun H1 s1 => ?_⟩
    refine ⟨.int (n : Int), rfl, .ref b, rfl, n, b, M, rfl, s1 _ _ hB, hM.same s1, rm, hwm, fun H2 s2 => ?_⟩
    have s12 := s1.trans s2
    have hlenL : L.length = n := by rw [← rws_length]; exact rn.len
    have hlenM : M.length = n := by rw [← rws_length]; exact rm.len
    have hA2 := s12 _ _ hA
    have hB2 := s12 _ _ hB
    refine ⟨.ref a, rfl, a, rfl, ⟨_, SqT.of hA2⟩, fun o no => ?_⟩
    refine lc_tup (xs := refs L) (fun i H3 => Same H2 H3 ∧ ∃ N : Rws, H3 o = some (.lst (refs N)) ∧ All H3 N ∧ rws N = ((rws L).take i).map (ren (rws M)))
      ⟨same_upd no, [], by rw [upd_same]; rfl, fun q hq => (by cases hq), rfl⟩ (fun i H3 hi h => SqT.of (h.1 _ _ hA2)) (fun i x H3 hx h => ?_) (fun H3 h => ?_)
    · obtain ⟨sm, N, eo, hN, eN⟩ := h
      obtain ⟨hi, rfl⟩ := refs_at hx
      have s3 := s12.trans sm
      have hiu : i < (rws L).length := by rw [rws_length]; exact hi
      have hlt : ∀ v ∈ L[i].2, v ≠ 0 ∧ -(M.length : Int) ≤ v ∧ v ≤ M.length := fun v hv => by
        have := rn.lets i hiu v (by rw [rows_get hi]; exact hv)
        omega
      have hll : L[i].2.length ≤ 254 := Nat.le_trans (K71.row_weight (u := rws L) (List.mem_map.2 ⟨_, List.getElem_mem hi, rfl⟩)) hw
      have eNl : N.length = i := by rw [← rws_length, eN, List.length_map, List.length_take]; omega
      refine ⟨rfl, .ref b, rfl, .ref L[i].1, rfl, b, L[i].1, M, L[i].2, rfl, s3 _ _ hB, hM.same s3, (hL _ (List.getElem_mem hi)).same s3, hlt, ?_, fun H4 t s4 nt ht => ?_⟩
      · have h1 := flat_weight hlt
        have h3 : L[i].2.length * weight (rws M) ≤ 254 * 254 := Nat.mul_le_mul hll hwm
        omega
      · refine ⟨_, s4 _ _ eo, ?_, same_own no (sm.trans s4), N ++ [(t, ren (rws M) L[i].2)], by rw [upd_same, refs_snoc], ?_, ?_⟩
        · rw [refs_length, eNl]; exact Nat.lt_of_lt_of_le (by have := rn.n4; omega : i < 100000) (by decide)
        · exact ((hN.same s4).snoc ht).upd (s4 _ _ eo)
        · rw [rws_snoc, eN, List.take_add_one, List.getElem?_eq_getElem hiu, List.map_append]
          have : (rws L)[i] = L[i].2 := rws_at hiu hi
          rw [this]; rfl
    · obtain ⟨sm, N, eo, hN, eN⟩ := h
      rw [refs_length, ← rws_length, List.take_length] at eN
      have eN' : rws N = K71.comp (rws L) (rws M) := eN
      refine ⟨o, _, rfl, .inl ⟨SqL.of eo, fun t nt => ?_⟩⟩
      have s4 := same_upd (o := .tup (refs N)) nt
      refine ⟨.ref t, rfl, t, N, rfl, upd_same, hN.same s4, by rw [eN']; exact hwc, ?_, fun H5 s5 => ?_⟩
      · rw [← rws_length, eN', K71.comp_length, rws_length, hlenL]; exact rn.n4
      · exact ⟨.ref t, rfl, q H5 t N (((s12.trans sm).trans s4).trans s5) (s5 _ _ upd_same) ((hN.same s4).same s5) eN'⟩
abbrev sTurned : Stmt := topS 33
theorem scTurned : FnScope ["deeds", "renaming", "head", "turned", "x"] ["deeds", "renaming"] (defScope sTurned) := ⟨rfl, rfl, rfl, by decide +kernel, rfl, by decide +kernel, by decide +kernel⟩
def spTurned : Sp := fun vs H Q _ => ∃ (n : Nat) (a : Addr) (L : Rws), vs = [.int (n : Int), .ref a] ∧ H a = some (.tup (refs L)) ∧ All H L ∧ Ren n (rws L) ∧ weight (rws L) ≤ 254 ∧
  (∀ H', Same H H' → turnedBy n (rws L) = none → Q .non H') ∧ (∀ H' t h, Same H H' → turnedBy n (rws L) = some h → RA H' t h → Q (.ref t) H')
theorem head_len {n : Nat} {u : List (List Int)} {h : List Int} (e : turningHead n u = some h) (hw : weight u ≤ 254) : h.length ≤ 10000 := by
  unfold turningHead at e
  split at e
  · cases e
    have hr : ∀ k, (K71.headAt u k).length ≤ 254 := fun k => by
      refine Nat.le_trans (headAt_length u k) ?_
      unfold rows
      by_cases hk : k < u.length
      · rw [List.getD_eq_getElem?_getD, List.getElem?_eq_getElem hk]
        exact Nat.le_trans (K71.row_weight (List.getElem_mem hk)) hw
      · rw [List.getD_eq_getElem?_getD, List.getElem?_eq_none (by omega)]; exact Nat.zero_le _
    split
    · exact Nat.zero_le _
    · refine Nat.le_trans (pl_len _) ?_
      rw [List.length_append, List.length_take]
      have h1 := pl_len (K71.inv (K71.headAt u 0) ++ K71.headAt u 1)
      rw [List.length_append, K71.inv_length] at h1
      have := hr 0
      have := hr 1
      omega
  · cases e
theorem ok_turned0 {f : Addr} {fd : FuncData} (D : Def K mg "turned_by" sTurned ["deeds", "renaming"] f fd)
    (DD : Fn P w K mg base "need_deeds" ["deeds"] 3 spNeedDeeds) (N : Fn P w K mg base "need_renaming" ["deeds", "value"] 7 spNeedRen) (HH : Fn P w K mg base "turning_head" ["deeds", "images"] 2 spTHead)
    (U : Fn P w K mg base "undone_of" ["row"] 1 (spUndone K)) (F : Fn P w K mg base "plain_of" ["letters"] 1 (spPlainT K)) (mt : mg "tuple" = none) (mr : mg "range" = none) :
    FnOk P w K mg base CX0 8 f fd ["deeds", "renaming"] spTurned := by
  obtain ⟨fD, fdD, bD, gD, kD, GD⟩ := DD
  obtain ⟨fN, fdN, bN, gN, kN, GN⟩ := N
  obtain ⟨fH, fdH, bH, gH, kH, GH⟩ := HH
  obtain ⟨fU, fdU, bU, gU, kU, GU⟩ := U
  obtain ⟨fF, fdF, bF, gF, kF, GF⟩ := F
  refine D.F.ok scTurned (fun vs H Q E h => ?_) (fun cdv A outer s H vs Q E hr h => ?_)
  · obtain ⟨n, a, L, rfl, _⟩ := h; rfl
  · obtain ⟨n, a, L, rfl, hA, hL, rn, hw, qn, qs⟩ := h
    have hr1 : Room 1 (A.deeper (envOfC "turned_by" (defScope sTurned) s.heap.objs.size f cdv)) := hr.mono (by decide)
    refine ⟨_, (pss_cons (ps_expr (pe_call GD (hr.mono (by decide)) (by rfl) gD kD bD .nil pass0 (pa_cons (pv 0) pa_nil)))
      (pss_cons (ps_expr (pe_call GN hr (by rfl) gN kN bN .nil pass0 (pa_cons (pv 0) (pa_cons (pv 1) pa_nil))))
      (pss_cons (ps_set (i := 2) scTurned.nd rfl (.inr rfl) (pe_call GH (hr.mono (by decide)) (by rfl) gH kH bH .nil pass0 (pa_cons (pv 0) (pa_cons (pv 1) pa_nil))))
      (pss_cons (ps_if (pt_cmpR op_isN (pv 2) pe_non (nomark _)) (pss_one (ps_ret pe_non)) pss_nil)
      (pss_cons (ps_set (i := 3) scTurned.nd rfl (.inl rfl) (pe_callTy call_tuple_of (by rfl) mt (by decide +kernel) (pa_cons (pe_lc (own := [("x", 4)]) (g := gName 4) (tt := tYes) rfl scTurned.nd (pi_range2 (by rfl) mr (pa_cons pe_int (pa_cons (pe_op op_add (pv 0) pe_int) pa_nil))) (blkOk_by (N := ["deeds", "renaming", "head", "turned", "x"]) (sc := defScope sTurned) (by decide +kernel))
        (fun _ _ _ _ _ => pg_name (i := 4) scTurned.nd rfl (Or.inl rfl)) (fun _ _ _ _ _ => pts_nil) (fun _ _ _ _ _ => (pe_call GF hr1 (by rfl) gF kF bF .nil pass0 (pa_cons (pe_op (op_catAK K rfl) (pe_op (op_catAK K rfl) (pv 2) (pe_tup (pa_cons (pv 4) pa_nil))) (pe_call GU hr1 (by rfl) gU kU bU .nil pass0 (pa_cons (pv 2) pa_nil))) pa_nil)))) pa_nil)))
      (pss_one (ps_ret (pe_ifExp (pt_cmpR (op_eqD hr.units) (pv 3) (pv 1) (nomark _)) (pv 2) pe_non)))))))), ?_⟩
    have hlenL : L.length = n := by rw [← rws_length]; exact rn.len
    have n4 := rn.n4
    refine ⟨.int (n : Int), rfl, (n : Int), rfl, by have := rn.n1; omega, by omega, ?_⟩
    refine ⟨.int (n : Int), rfl, .ref a, rfl, n, a, L, rfl, hA, hL, rn, hw, fun H1 s1 => ?_⟩
    refine ⟨.int (n : Int), rfl, .ref a, rfl, n, a, L, rfl, s1 _ _ hA, hL.same s1, hlenL, rn.n1, n4, fun q hq => Nat.le_trans (K71.row_weight (u := rws L) (List.mem_map.2 ⟨_, hq, rfl⟩)) (by omega), fun H2 s2 e2 => ?_, fun H2 th h s2 e2 hth => ?_⟩
    · refine ⟨.non, rfl, rfl, true, rfl, qn H2 (s1.trans s2) ?_⟩
      unfold turnedBy; rw [e2]
    · have s12 := s1.trans s2
      have hhl := head_len e2 hw
      have et : turnedBy n (rws L) = if inner n h = rws L then some h else none := by unfold turnedBy; rw [e2]
      refine ⟨.ref th, rfl, rfl, false, rfl, ?_⟩
      refine ⟨.int (n : Int), rfl, (n : Int), 1, rfl, rfl, 1, (n : Int) + 1, rfl, by omega, fun o no => ?_⟩
      refine lc_range (lo := 1) (n := ((n : Int) + 1 - 1).toNat) (fun i H3 => Same H2 H3 ∧ ∃ N : Rws, H3 o = some (.lst (refs N)) ∧ All H3 N ∧ rws N = (List.range i).map fun k => conj h [((k + 1 : Nat) : Int)])
        ⟨same_upd no, [], by rw [upd_same]; rfl, fun q hq => (by cases hq), rfl⟩ (fun i H3 hi h' => ?_) (fun H3 h' => ?_)
      · obtain ⟨sm, N, eo, hN, eN⟩ := h'
        have eNl : N.length = i := by rw [← rws_length, eN]; simp
        have hth3 := hth.same sm
        refine ⟨rfl, .ref th, rfl, .int ((1 : Int) + (i : Nat)), rfl, by show (1 : Nat) ≤ sizeLine; decide, fun t1 n1 => ?_⟩
        have s5 : Same H3 (upd H3 t1 (.tup [.int ((1 : Int) + (i : Nat))])) := same_upd n1
        have ht1 : RA (upd H3 t1 (.tup [.int ((1 : Int) + (i : Nat))])) t1 [((i + 1 : Nat) : Int)] := by unfold RA; rw [upd_same, show ((i + 1 : Nat) : Int) = (1 : Int) + (i : Nat) by omega]; rfl
        refine catA (hth3.same s5) ht1 (by rw [List.length_singleton]; omega) fun t2 H6 s6 ht2 => ?_
        refine ⟨.ref th, rfl, th, h, rfl, ((hth3.same s5).same s6).sq, by omega, fun H7 t3 s7 n3 ht3 => ?_⟩
        refine catA (ht2.same s7) (show RA H7 t3 _ from ht3) (by rw [List.length_append, List.length_singleton, K71.inv_length]; omega) fun t4 H8 s8 ht4 => ?_
        refine ⟨t4, _, rfl, ht4.sq, by rw [List.length_append, List.length_append, List.length_singleton, K71.inv_length]; omega, fun H9 t5 s9 n9 ht5 => ?_⟩
        have s39 := (((s5.trans s6).trans s7).trans s8).trans s9
        refine ⟨_, s39 _ _ eo, ?_, same_own no (sm.trans s39), N ++ [(t5, conj h [((i + 1 : Nat) : Int)])], by rw [upd_same, refs_snoc], ((hN.same s39).snoc ht5).upd (s39 _ _ eo), ?_⟩
        · rw [refs_length, eNl]; exact Nat.lt_of_lt_of_le (by omega : i < 100000) (by decide)
        · rw [rws_snoc, eN, List.range_succ, List.map_append]; rfl
      · obtain ⟨sm, N, eo, hN, eN⟩ := h'
        rw [show ((n : Int) + 1 - 1).toNat = n by omega] at eN
        have eN' : rws N = inner n h := eN
        refine ⟨o, _, rfl, .inl ⟨SqL.of eo, fun t nt => ?_⟩⟩
        have s4 := same_upd (o := .tup (refs N)) nt
        have s24 := sm.trans s4
        refine ⟨.ref t, rfl, .ref a, rfl, _, _, dp_tup upd_same (hN.same s4), dp_tup ((s12.trans s24) _ _ hA) (hL.same (s12.trans s24)), shaped_rows _, shaped_rows _, _, rfl, ?_⟩
        rw [eqv_rows, eN']
        show if decide (inner n h = rws L) = true then _ else _
        by_cases c : inner n h = rws L
        · rw [if_pos (decide_eq_true c)]
          rw [if_pos c] at et
          exact ⟨.ref th, rfl, qs _ th h (s12.trans s24) et (hth.same s24)⟩
        · rw [if_neg (by simp [c])]
          rw [if_neg c] at et
          exact qn _ (s12.trans s24) et
end
end K71W

/-! ## Wk17 -/
set_option Elab.async false
set_option linter.all false
set_option maxRecDepth 100000
namespace K71W
open PySem PySem.Spec PyProof.Rows L2
open K71 (core mid Two Least turn pl)
section
variable {P : Program} {w : World} {K : PySem.W.Frag} {mg : Str → Option Value} {base : Heap}

abbrev sTail : Stmt := topS 35
theorem scTail : FnScope ["row", "cut"] ["row"] (defScope sTail) := ⟨rfl, rfl, rfl, by decide +kernel, rfl, by decide +kernel, by decide +kernel⟩
def spTail : Sp := fun vs H Q _ => ∃ (a : Addr) (r : List Int), vs = [.ref a] ∧ RA H a r ∧ ∀ c : Nat, 2 * c ≤ r.length → mid r c = core r → Q (.int (c : Int)) H
theorem ok_tail (D : ∃ f fd, Def K mg "tail_of" sTail ["row"] f fd) (ml : mg "len" = none) : Fn P w K mg base "tail_of" ["row"] 1 spTail := by
  obtain ⟨f, fd, D⟩ := D
  refine D.fn (D.F.ok scTail (fun vs H Q E h => ?_) (fun cdv A outer s H vs Q E hr h => ?_))
  · obtain ⟨a, r, rfl, _⟩ := h; rfl
  · obtain ⟨a, r, rfl, hR, q⟩ := h
    refine ⟨_, (pss_cons (ps_set (i := 1) scTail.nd rfl (.inl rfl) pe_int)
      (pss_cons (ps_while PassesOwn.never (PW.pt (pw_and (pt_cmpR op_gt (pe_op op_sub (pe_callB call_len_seq (by rfl) ml PySem.boot_len (pa_cons (pv 0) pa_nil)) (pe_op op_mul pe_int (pv 1))) pe_int (nomark _)) (pw_and1 (pt_cmpR op_eq (pe_ix ix_tup (pv 0) (pv 1) (fun _ _ => rfl)) (pe_op op_sub pe_int (pe_ix ix_tup (pv 0) (pe_op op_sub (pe_op op_sub (pe_callB call_len_seq (by rfl) ml PySem.boot_len (pa_cons (pv 0) pa_nil)) pe_int) (pv 1)) (fun _ _ => rfl))) (nomark _))))) (pss_one (ps_aug (i := 1) scTail.nd rfl (.inl rfl) pe_int ip_add)))
      (pss_one (ps_ret (pv 1))))), ?_⟩
    refine ⟨fun m σ H3 => ∃ k : Nat, σ = [some (.ref a), some (.int (k : Int))] ∧ 2 * k ≤ r.length ∧ core (mid r k) = core r ∧ H3 = H ∧ m = r.length - k,
      ⟨_, 0, rfl, Nat.zero_le _, by rw [K71.mid_zero], rfl, rfl⟩, fun m σ H3 h => ?_⟩
    obtain ⟨k, rfl, hk, hc, rfl, rfl⟩ := h
    refine ⟨.ref a, rfl, a, _, rfl, .inr hR.sq, _, rfl, 2, _, rfl, rfl, .inl ⟨by decide, by decide⟩, _, _, rfl, rfl, _, 1, rfl, rfl, _, rfl, ?_⟩
    show if decide (((r.map V.int).length : Int) - 2 * (k : Int) > 1) = true then _ else _
    rw [List.length_map]
    by_cases c1 : r.length - 2 * k > 1
    · rw [if_pos (decide_eq_true (by omega))]
      have h1 : k < r.length := by omega
      have h2 : r.length - 1 - k < r.length := by omega
      refine ⟨.ref a, rfl, _, rfl, a, _, _, .int r[k], rfl, rfl, hR.sq, atI_nat (ints_get h1), .ref a, rfl, .ref a, rfl, a, _, rfl, .inr hR.sq, _, 1, rfl, rfl, _, rfl, _, _, rfl, rfl, a, _, _, .int r[r.length - 1 - k], rfl, rfl, hR.sq, ?_, 0, _, rfl, rfl, rfl, _, rfl, ?_⟩
      · rw [List.length_map, show ((r.length : Nat) : Int) - 1 - (k : Int) = ((r.length - 1 - k : Nat) : Int) by omega]; exact atI_nat (ints_get h2)
      have gk : r[k]? = some r[k] := List.getElem?_eq_getElem h1
      have gk2 : r[r.length - 1 - k]? = some r[r.length - 1 - k] := List.getElem?_eq_getElem h2
      show if decide (V.int r[k] = V.int (0 - r[r.length - 1 - k])) = true then _ else _
      refine ite2 (fun e => ?_) (fun e => ?_)
      · have e' : r[k] = 0 - r[r.length - 1 - k] := V.int.inj (of_decide_eq_true e)
        refine ⟨fun σ' H' => σ' = [some (.ref a), some (.int ((k + 1 : Nat) : Int))] ∧ H' = H3, fun σ' H' h => ⟨r.length - (k + 1), by omega, k + 1, h.1, by omega, ?_, h.2, rfl⟩, ⟨_, rfl, _, _, rfl, rfl, rfl, rfl⟩⟩
        rw [← K71.mid_step c1 hk (by rw [gk, gk2]; simp only [Option.map_some, Option.some.injEq]; omega)]; exact hc
      · refine ⟨_, rfl, q k hk ?_⟩
        rw [← hc, K71.mid_stop (.inr (by rw [gk, gk2]; simp only [Option.map_some, ne_eq, Option.some.injEq]; intro h; exact e (decide_eq_true (by congr 1; omega))))]
    · rw [if_neg (by simp; omega)]
      refine ⟨_, rfl, q k hk ?_⟩
      rw [← hc, K71.mid_stop (.inl c1)]
abbrev sMiddle : Stmt := topS 37
theorem scMiddle : FnScope ["row", "cut"] ["row"] (defScope sMiddle) := ⟨rfl, rfl, rfl, by decide +kernel, rfl, by decide +kernel, by decide +kernel⟩
def spMiddle : Sp := fun vs H Q _ => ∃ (a : Addr) (r : List Int), vs = [.ref a] ∧ RA H a r ∧ ∀ H' t, Same H H' → RA H' t (core r) → Q (.ref t) H'
theorem ok_middle (D : ∃ f fd, Def K mg "middle_of" sMiddle ["row"] f fd) (T : Fn P w K mg base "tail_of" ["row"] 1 spTail) (ml : mg "len" = none) : Fn P w K mg base "middle_of" ["row"] 2 spMiddle := by
  obtain ⟨f, fd, D⟩ := D
  obtain ⟨fT, fdT, bT, gT, kT, GT⟩ := T
  refine D.fn (D.F.ok scMiddle (fun vs H Q E h => ?_) (fun cdv A outer s H vs Q E hr h => ?_))
  · obtain ⟨a, r, rfl, _⟩ := h; rfl
  · obtain ⟨a, r, rfl, hR, q⟩ := h
    refine ⟨_, (pss_cons (ps_set (i := 1) scMiddle.nd rfl (.inl rfl) (pe_call GT hr (by rfl) gT kT bT .nil pass0 (pa_cons (pv 0) pa_nil)))
      (pss_one (ps_ret (pe_slice sl_tupA (pv 0) (po_some (pv 1)) (po_some (pe_op op_sub (pe_callB call_len_seq (by rfl) ml PySem.boot_len (pa_cons (pv 0) pa_nil)) (pv 1))))))), ?_⟩
    refine ⟨.ref a, rfl, a, r, rfl, hR, fun c hc ec => ?_⟩
    refine ⟨.ref a, rfl, _, rfl, _, rfl, .ref a, rfl, a, _, rfl, .inr hR.sq, _, rfl, _, _, rfl, rfl, _, rfl, ?_⟩
    refine slA hR c (r.length - c) (by rw [sIx_nat]; omega) (by rw [List.length_map, show ((r.length : Nat) : Int) - (c : Int) = ((r.length - c : Nat) : Int) by omega, sIx_nat]; omega) fun t H1 s1 h1 => ?_
    refine q H1 t s1 ?_
    rw [← ec]; unfold mid
    rwa [show r.length - c - c = r.length - 2 * c by omega] at h1
abbrev sLeast : Stmt := topS 36
theorem scLeast : FnScope ["row", "size", "one", "other", "same", "first", "second"] ["row"] (defScope sLeast) := ⟨rfl, rfl, rfl, by decide +kernel, rfl, by decide +kernel, by decide +kernel⟩
def spLeast : Sp := fun vs H Q _ => ∃ (a : Addr) (r : List Int), vs = [.ref a] ∧ RA H a r ∧ ∀ (s : Nat) (H' : Hp), Same H H' → (r ≠ [] → Least r s ∧ s < r.length) → (r = [] → s = 0) → Q (.int (s : Int)) H'
theorem go_measure {L A A' s s' : Nat} (h : A' < A) : A' * (L + 1) + (L - s') < A * (L + 1) + (L - s) := by
  have := Nat.mul_le_mul_right (L + 1) (show A' + 1 ≤ A from h)
  rw [Nat.add_mul] at this
  omega
theorem ok_least (D : ∃ f fd, Def K mg "least_start" sLeast ["row"] f fd) (ml : mg "len" = none) (m_min : mg "min" = none) : Fn P w K mg base "least_start" ["row"] 1 spLeast := by
  obtain ⟨f, fd, D⟩ := D
  refine D.fn (D.F.ok scLeast (fun vs H Q E h => ?_) (fun cdv A outer s H vs Q E hr h => ?_))
  · obtain ⟨a, r, rfl, _⟩ := h; rfl
  · obtain ⟨a, r, rfl, hR, q⟩ := h
    refine ⟨_, (pss_cons (ps_set (i := 1) scLeast.nd rfl (.inl rfl) (pe_callB call_len_seq (by rfl) ml PySem.boot_len (pa_cons (pv 0) pa_nil)))
      (pss_cons (ps_asg (pe_tup (pa_cons pe_int (pa_cons pe_int (pa_cons pe_int pa_nil)))) (pg_tup (by rfl) (pgs_cons (pg_name (i := 2) scLeast.nd rfl (.inl rfl)) (pgs_cons (pg_name (i := 3) scLeast.nd rfl (.inl rfl)) (pgs_cons (pg_name (i := 4) scLeast.nd rfl (.inl rfl)) pgs_nil)))))
      (pss_cons (ps_while PassesOwn.never (PW.pt (pw_and (pt_cmpR op_lt (pv 2) (pv 1) (nomark _)) (pw_and (pt_cmpR op_lt (pv 3) (pv 1) (nomark _)) (pw_and1 (pt_cmpR op_lt (pv 4) (pv 1) (nomark _)))))) (pss_cons (ps_par (i := 5) (j := 6) (by rfl) scLeast.nd rfl rfl (by decide) rfl rfl (pa_cons (pe_ix ix_tup (pv 0) (pe_op op_mod (pe_op op_add (pv 2) (pv 4)) (pv 1)) (fun _ _ => rfl)) (pa_cons (pe_ix ix_tup (pv 0) (pe_op op_mod (pe_op op_add (pv 3) (pv 4)) (pv 1)) (fun _ _ => rfl)) pa_nil)) (by rfl))
      (pss_cons (ps_if (pt_cmpR op_eq (pv 5) (pv 6) (nomark _)) (pss_cons (ps_aug (i := 4) scLeast.nd rfl (.inl rfl) pe_int ip_add)
      (pss_one ps_continue)) pss_nil)
      (pss_cons (ps_if (pt_cmpR op_gt (pv 5) (pv 6) (nomark _)) (pss_one (ps_aug (i := 2) scLeast.nd rfl (.inl rfl) (pe_op op_add (pv 4) pe_int) ip_add)) (pss_one (ps_aug (i := 3) scLeast.nd rfl (.inl rfl) (pe_op op_add (pv 4) pe_int) ip_add)))
      (pss_cons (ps_if (pt_cmpR op_eq (pv 2) (pv 3) (nomark _)) (pss_one (ps_aug (i := 3) scLeast.nd rfl (.inl rfl) pe_int ip_add)) pss_nil)
      (pss_one (ps_set (i := 4) scLeast.nd rfl (.inl rfl) pe_int)))))))
      (pss_one (ps_ret (pe_callB (call_min2 rfl) (by rfl) m_min (by decide +kernel) (pa_cons (pv 2) (pa_cons (pv 3) pa_nil)))))))), ?_⟩
    refine ⟨.ref a, rfl, a, _, rfl, .inr hR.sq, ?_⟩
    rw [List.length_map]
    refine ⟨by show (3 : Nat) ≤ sizeLine; decide, fun t0 nt0 => ⟨t0, _, rfl, SqT.of upd_same, rfl, _, _, rfl, _, _, rfl, _, _, rfl, rfl, ?_⟩⟩
    have st0 := same_upd (o := .tup [.int 0, .int 1, .int 0]) nt0
    have hR := hR.same st0
    refine ⟨fun m σ H3 => ∃ (one other same : Nat) (y5 y6 : Option V), σ = [some (.ref a), some (.int ((r.length : Nat) : Int)), some (.int (one : Int)), some (.int (other : Int)), some (.int (same : Int)), y5, y6] ∧
        Two r one other same ∧ (r = [] → one = 0 ∧ other = 1) ∧ H3 = upd H t0 (.tup [.int 0, .int 1, .int 0]) ∧ m = (4 * r.length + 4 - (one + other)) * (r.length + 1) + (r.length - same),
      ⟨_, 0, 1, 0, none, none, rfl, Two.start r, fun _ => ⟨rfl, rfl⟩, rfl, rfl⟩, fun m σ H3 h => ?_⟩
    obtain ⟨one, other, same, y5, y6, rfl, two, hemp, rfl, rfl⟩ := h
    have stop : ¬ (one < r.length ∧ other < r.length ∧ same < r.length) → Q (.int (if (other : Int) < (one : Int) then (other : Int) else (one : Int))) (upd H t0 (.tup [.int 0, .int 1, .int 0])) := fun hend => by
      have e : (if (other : Int) < (one : Int) then (other : Int) else (one : Int)) = ((min one other : Nat) : Int) := by split <;> omega
      rw [e]
      exact q _ _ st0 (fun hne => two.least (List.length_pos_iff.2 hne) hend) (fun he => by obtain ⟨h1, h2⟩ := hemp he; omega)
    refine ⟨_, rfl, _, rfl, _, _, rfl, rfl, _, rfl, ?_⟩
    show if decide ((one : Int) < (r.length : Int)) = true then _ else _
    by_cases c1 : one < r.length
    · rw [if_pos (decide_eq_true (by omega))]
      refine ⟨_, rfl, _, rfl, _, _, rfl, rfl, _, rfl, ?_⟩
      show if decide ((other : Int) < (r.length : Int)) = true then _ else _
      by_cases c2 : other < r.length
      · rw [if_pos (decide_eq_true (by omega))]
        refine ⟨_, rfl, _, rfl, _, _, rfl, rfl, _, rfl, ?_⟩
        show if decide ((same : Int) < (r.length : Int)) = true then _ else _
        by_cases c3 : same < r.length
        · rw [if_pos (decide_eq_true (by omega))]
          have hpos : 0 < r.length := by omega
          have hne : r ≠ [] := List.length_pos_iff.1 hpos
          have m1 := Nat.mod_lt (one + same) hpos
          have m2 := Nat.mod_lt (other + same) hpos
          have g1 : r[(one + same) % r.length]? = some r[(one + same) % r.length] := List.getElem?_eq_getElem m1
          have g2 : r[(other + same) % r.length]? = some r[(other + same) % r.length] := List.getElem?_eq_getElem m2
          refine ⟨fun σ' H' => ∃ m' < (4 * r.length + 4 - (one + other)) * (r.length + 1) + (r.length - same), ∃ (one' other' same' : Nat) (y5 y6 : Option V), σ' = [some (.ref a), some (.int ((r.length : Nat) : Int)), some (.int (one' : Int)), some (.int (other' : Int)), some (.int (same' : Int)), y5, y6] ∧
              Two r one' other' same' ∧ (r = [] → one' = 0 ∧ other' = 1) ∧ H' = upd H t0 (.tup [.int 0, .int 1, .int 0]) ∧ m' = (4 * r.length + 4 - (one' + other')) * (r.length + 1) + (r.length - same'), fun σ' H' h => by obtain ⟨m', hm, h⟩ := h; exact ⟨m', hm, h⟩, ?_⟩
          refine ⟨.ref a, rfl, _, rfl, _, rfl, _, _, rfl, rfl, _, rfl, _, _, rfl, rfl, by show (0 : Int) < (r.length : Int); omega, a, _, _, .int r[(one + same) % r.length], rfl, rfl, hR.sq, ?_, .ref a, rfl, _, rfl, _, rfl, _, _, rfl, rfl, _, rfl, _, _, rfl, rfl, by show (0 : Int) < (r.length : Int); omega, a, _, _, .int r[(other + same) % r.length], rfl, rfl, hR.sq, ?_, _, _, rfl, ?_⟩
          · rw [show ((one : Int) + (same : Int)) % (r.length : Int) = (((one + same) % r.length : Nat) : Int) by rw [Int.natCast_emod, Int.natCast_add]]; exact atI_nat (ints_get m1)
          · rw [show ((other : Int) + (same : Int)) % (r.length : Int) = (((other + same) % r.length : Nat) : Int) by rw [Int.natCast_emod, Int.natCast_add]]; exact atI_nat (ints_get m2)
          generalize r[(one + same) % r.length] = x1 at *
          generalize r[(other + same) % r.length] = x2 at *
          refine ⟨_, rfl, _, rfl, rfl, _, rfl, ?_⟩
          show if decide (V.int x1 = V.int x2) = true then _ else _
          refine ite2 (fun e => ?_) (fun e => ?_)
          · have e' : x1 = x2 := V.int.inj (of_decide_eq_true e)
            refine ⟨_, rfl, _, _, rfl, rfl, ?_⟩
            exact ⟨_, by show (4 * r.length + 4 - (one + other)) * (r.length + 1) + (r.length - (same + 1)) < _; omega, one, other, same + 1, _, _, rfl, two.same c3 (by rw [g1, g2, e']), fun h => absurd h hne, rfl, rfl⟩
          · have e' : x1 ≠ x2 := fun h => e (decide_eq_true (by rw [h]))
            refine ⟨_, rfl, _, rfl, _, _, rfl, rfl, _, rfl, ?_⟩
            show if decide (x1 > x2) = true then _ else _
            by_cases c4 : x1 > x2
            · rw [if_pos (decide_eq_true c4)]
              obtain ⟨go1, go2⟩ := two.go c3 g1 g2 c4
              refine ⟨_, rfl, _, rfl, _, 1, rfl, rfl, _, _, rfl, rfl, ?_⟩
              refine ⟨_, rfl, _, rfl, rfl, _, rfl, ?_⟩
              show if decide (V.int ((one : Int) + ((same : Int) + 1)) = V.int (other : Int)) = true then _ else _
              refine ite2 (fun e2 => ?_) (fun e2 => ?_)
              · have e3 : one + same + 1 = other := by have := V.int.inj (of_decide_eq_true e2); omega
                refine ⟨_, rfl, _, _, rfl, rfl, ?_⟩
                exact ⟨_, go_measure (A' := 4 * r.length + 4 - (other + (other + 1))) (s' := 0) (by omega), other, other + 1, 0, _, _, by rw [← e3]; rfl, go2 e3, fun h => absurd h hne, rfl, rfl⟩
              · have e3 : one + same + 1 ≠ other := fun h => e2 (decide_eq_true (by congr 1; omega))
                exact ⟨_, go_measure (A' := 4 * r.length + 4 - ((one + same + 1) + other)) (s' := 0) (by omega), one + same + 1, other, 0, _, _, rfl, go1 e3, fun h => absurd h hne, rfl, rfl⟩
            · rw [if_neg (by simpa using c4)]
              obtain ⟨go1, go2⟩ := two.swap.go c3 g2 g1 (by omega)
              refine ⟨_, rfl, _, rfl, _, 1, rfl, rfl, _, _, rfl, rfl, ?_⟩
              refine ⟨_, rfl, _, rfl, rfl, _, rfl, ?_⟩
              show if decide (V.int (one : Int) = V.int ((other : Int) + ((same : Int) + 1))) = true then _ else _
              refine ite2 (fun e2 => ?_) (fun e2 => ?_)
              · have e3 : other + same + 1 = one := by have := V.int.inj (of_decide_eq_true e2); omega
                refine ⟨_, rfl, _, _, rfl, rfl, ?_⟩
                exact ⟨_, go_measure (A' := 4 * r.length + 4 - (one + (one + 1))) (s' := 0) (by omega), one, one + 1, 0, _, _, by rw [← e3]; rfl, go2 e3, fun h => absurd h hne, rfl, rfl⟩
              · have e3 : other + same + 1 ≠ one := fun h => e2 (decide_eq_true (by congr 1; omega))
                exact ⟨_, go_measure (A' := 4 * r.length + 4 - (one + (other + same + 1))) (s' := 0) (by omega), one, other + same + 1, 0, _, _, rfl, (go1 e3).swap, fun h => absurd h hne, rfl, rfl⟩
        · rw [if_neg (by simp; omega)]
          exact ⟨_, rfl, _, rfl, _, _, rfl, stop (by omega)⟩
      · rw [if_neg (by simp; omega)]
        exact ⟨_, rfl, _, rfl, _, _, rfl, stop (by omega)⟩
    · rw [if_neg (by simp; omega)]
      exact ⟨_, rfl, _, rfl, _, _, rfl, stop (by omega)⟩
abbrev sRingIn : Stmt := topS 38
theorem scRingIn : FnScope ["row", "middle", "start"] ["row"] (defScope sRingIn) := ⟨rfl, rfl, rfl, by decide +kernel, rfl, by decide +kernel, by decide +kernel⟩
def spRingIn : Sp := fun vs H Q _ => ∃ (a : Addr) (r : List Int), vs = [.ref a] ∧ RA H a r ∧ r.length ≤ 1000 ∧ ∀ H' t s, Same H H' → (core r ≠ [] → Least (core r) s) → RA H' t (turn (core r) s) → Q (.ref t) H'
theorem core_length (r : List Int) : (core r).length ≤ r.length := by
  obtain ⟨h, e, _⟩ := K71.core_spec r
  have := congrArg List.length e
  simp only [List.length_append] at this
  omega
theorem ok_ringIn (D : ∃ f fd, Def K mg "ring_in" sRingIn ["row"] f fd) (M : Fn P w K mg base "middle_of" ["row"] 2 spMiddle) (L : Fn P w K mg base "least_start" ["row"] 1 spLeast) : Fn P w K mg base "ring_in" ["row"] 3 spRingIn := by
  obtain ⟨f, fd, D⟩ := D
  obtain ⟨fM, fdM, bM, gM, kM, GM⟩ := M
  obtain ⟨fL, fdL, bL, gL, kL, GL⟩ := L
  refine D.fn (D.F.ok scRingIn (fun vs H Q E h => ?_) (fun cdv A outer s H vs Q E hr h => ?_))
  · obtain ⟨a, r, rfl, _⟩ := h; rfl
  · obtain ⟨a, r, rfl, hR, hl, q⟩ := h
    refine ⟨_, (pss_cons (ps_set (i := 1) scRingIn.nd rfl (.inl rfl) (pe_call GM hr (by rfl) gM kM bM .nil pass0 (pa_cons (pv 0) pa_nil)))
      (pss_cons (ps_set (i := 2) scRingIn.nd rfl (.inl rfl) (pe_call GL (hr.mono (by decide)) (by rfl) gL kL bL .nil pass0 (pa_cons (pv 1) pa_nil)))
      (pss_one (ps_ret (pe_op op_catA (pe_slice sl_tupA (pv 1) (po_some (pv 2)) po_none) (pe_slice sl_tupA (pv 1) po_none (po_some (pv 2)))))))), ?_⟩
    refine ⟨.ref a, rfl, a, r, rfl, hR, fun H1 t s1 h1 => ?_⟩
    refine ⟨.ref t, rfl, t, core r, rfl, h1, fun s H1' s1' hs h0 => ?_⟩
    have h1 := h1.same s1'
    have s1 := s1.trans s1'
    have hle : s ≤ (core r).length := by
      by_cases c : core r = []
      · rw [h0 c]; exact Nat.zero_le _
      · exact Nat.le_of_lt (hs c).2
    refine ⟨.ref t, rfl, _, rfl, _, rfl, ?_⟩
    simp only [tNoPart]
    refine slA h1 s (core r).length (by rw [sIx_nat]; omega) rfl fun t2 H2 s2 h2 => ?_
    refine ⟨.ref t, rfl, _, rfl, _, rfl, ?_⟩
    refine slA (h1.same s2) 0 s rfl (by rw [sIx_nat]; omega) fun t3 H3 s3 h3 => ?_
    have hcl := core_length r
    refine catA (h2.same s3) h3 (by rw [List.length_take, List.length_take, List.length_drop, List.length_drop]; omega) fun t4 H4 s4 h4 => ?_
    refine q H4 t4 s (((s1.trans s2).trans s3).trans s4) (fun c => (hs c).1) ?_
    rw [List.drop_zero, Nat.sub_zero, List.take_of_length_le (by rw [List.length_drop]; exact Nat.le_refl _)] at h4
    unfold turn
    by_cases c : core r = []
    · rw [c]; rw [c] at h4; simpa using h4
    · rw [Nat.mod_eq_of_lt (hs c).2]; exact h4
abbrev sRingOf : Stmt := topS 39
theorem scRingOf : FnScope ["deeds", "row"] ["deeds", "row"] (defScope sRingOf) := ⟨rfl, rfl, rfl, by decide +kernel, rfl, by decide +kernel, by decide +kernel⟩
def spRingOf : Sp := fun vs H Q _ => ∃ (n : Int) (a : Addr) (r : List Int), vs = [.int n, .ref a] ∧ 1 ≤ n ∧ n ≤ 4 ∧ RA H a r ∧ r.length ≤ 200 ∧ (∀ v ∈ r, v ≠ 0 ∧ 0 - n ≤ v ∧ v ≤ n) ∧
  ∀ H' t s, Same H H' → (core (pl r) ≠ [] → Least (core (pl r)) s) → RA H' t (turn (core (pl r)) s) → Q (.ref t) H'
theorem ok_ringOf (D : ∃ f fd, Def K mg "ring_of" sRingOf ["deeds", "row"] f fd) (DD : Fn P w K mg base "need_deeds" ["deeds"] 3 spNeedDeeds)
    (R : Fn P w K mg base "need_row" ["deeds", "row"] 5 (spNeedRow K)) (I : Fn P w K mg base "ring_in" ["row"] 3 spRingIn) : Fn P w K mg base "ring_of" ["deeds", "row"] 6 spRingOf := by
  obtain ⟨f, fd, D⟩ := D
  obtain ⟨fD, fdD, bD, gD, kD, GD⟩ := DD
  obtain ⟨fR, fdR, bR, gR, kR, GR⟩ := R
  obtain ⟨fI, fdI, bI, gI, kI, GI⟩ := I
  refine D.fn (D.F.ok scRingOf (fun vs H Q E h => ?_) (fun cdv A outer s H vs Q E hr h => ?_))
  · obtain ⟨n, a, r, rfl, _⟩ := h; rfl
  · obtain ⟨n, a, r, rfl, n1, n4, hR, hl, hx, q⟩ := h
    refine ⟨_, (pss_cons (ps_expr (pe_call GD (hr.mono (by decide)) (by rfl) gD kD bD .nil pass0 (pa_cons (pv 0) pa_nil)))
      (pss_one (ps_ret (pe_call GI (hr.mono (by decide)) (by rfl) gI kI bI .nil pass0 (pa_cons (pe_call GR hr (by rfl) gR kR bR .nil pass0 (pa_cons (pv 0) (pa_cons (pv 1) pa_nil))) pa_nil))))), ?_⟩
    refine ⟨.int n, rfl, n, rfl, n1, n4, ?_⟩
    refine ⟨.int n, rfl, .ref a, rfl, n, a, r, rfl, hR.sq, hR, hl, hx, fun H1 p s1 np hp => ?_⟩
    exact ⟨p, pl r, rfl, hp, by have := pl_len r; omega, fun H2 t s s2 hs ht => q H2 t s (s1.trans s2) hs ht⟩
end
end K71W

/-! ## Wk18 -/
set_option Elab.async false
set_option linter.all false
set_option maxRecDepth 100000
namespace K71W
open PySem PySem.Spec PyProof.Rows L2
section
variable {P : Program} {w : World} {K : PySem.W.Frag} {mg : Str → Option Value} {base : Heap}
/-! ### the law's state -/
def dS (g c : Addr) (rest turn : Int) : List (L2.Key × V) := [(.inr "great", .ref g), (.inr "cells", .ref c), (.inr "rest", .int rest), (.inr "turn", .int turn)]
theorem dS_great (g c : Addr) (rest turn : Int) : valV (dS g c rest turn) (.inr "great") = some (.ref g) := rfl
theorem dS_cells (g c : Addr) (rest turn : Int) : valV (dS g c rest turn) (.inr "cells") = some (.ref c) := rfl
theorem dS_rest (g c : Addr) (rest turn : Int) : valV (dS g c rest turn) (.inr "rest") = some (.int rest) := rfl
theorem dS_turn (g c : Addr) (rest turn : Int) : valV (dS g c rest turn) (.inr "turn") = some (.int turn) := rfl
theorem dS_put_rest (g c : Addr) (rest turn r : Int) : putK (dS g c rest turn) (.inr "rest") (.int r) = dS g c r turn := rfl
theorem dS_put_turn (g c : Addr) (rest turn t : Int) : putK (dS g c rest turn) (.inr "turn") (.int t) = dS g c rest t := rfl
/-- all stands but the state's two objects -/
def Kept (d g : Addr) (H H' : Hp) : Prop := ∀ b x, b ≠ d → b ≠ g → H b = some x → H' b = some x
/-- the law's state: at most T turns so far -/
def St (d g c : Addr) (T : Nat) (H : Hp) : Prop := ∃ (gs cs : List Int) (rest turn : Nat), H d = some (.dK (dS g c rest turn)) ∧ H g = some (.lst (gs.map V.int)) ∧ H c = some (.lst (cs.map V.int)) ∧ (∀ x ∈ gs, 0 ≤ x) ∧ turn ≤ T ∧ c ≠ g
theorem Kept.refl (d g : Addr) (H : Hp) : Kept d g H H := fun _ _ _ _ h => h
theorem Kept.trans {d g : Addr} {H H1 H2 : Hp} (a : Kept d g H H1) (b : Kept d g H1 H2) : Kept d g H H2 := fun x o h1 h2 h => b x o h1 h2 (a x o h1 h2 h)
theorem _root_.L2.Same.kept {d g : Addr} {H H' : Hp} (s : Same H H') : Kept d g H H' := fun b x _ _ h => s b x h
theorem St.same {d g c : Addr} {T : Nat} {H H' : Hp} (h : St d g c T H) (s : Same H H') : St d g c T H' := by
  obtain ⟨gs, cs, rest, turn, h1, h2, h3, h4⟩ := h
  exact ⟨gs, cs, rest, turn, s _ _ h1, s _ _ h2, s _ _ h3, h4⟩
theorem St.mono {d g c : Addr} {T T' : Nat} {H : Hp} (h : St d g c T H) (l : T ≤ T') : St d g c T' H := by
  obtain ⟨gs, cs, rest, turn, h1, h2, h3, h4, h5, h6⟩ := h
  exact ⟨gs, cs, rest, turn, h1, h2, h3, h4, by omega, h6⟩
theorem Kept.free {d g c : Addr} {T : Nat} {H H' : Hp} (k : Kept d g H H') (st : St d g c T H') {p : Addr} (hp : H' p = none) : H p = none := by
  obtain ⟨gs, cs, rest, turn, h1, h2, _⟩ := st
  cases e : H p with
  | none => rfl
  | some z =>
    have n1 : p ≠ d := fun h => by rw [h, h1] at hp; cases hp
    have n2 : p ≠ g := fun h => by rw [h, h2] at hp; cases hp
    rw [k p z n1 n2 e] at hp; cases hp
theorem Kept.own {d g : Addr} {H H3 : Hp} {p : Addr} {o : HO} (no : H p = none) (s : Kept d g H H3) : Kept d g H (upd H3 p o) := fun b z e1 e2 e => by rw [upd_ne (ne_of_none e no)]; exact s _ _ e1 e2 e
theorem Kept.tup {d g c : Addr} {T : Nat} {H H' : Hp} (k : Kept d g H H') (st : St d g c T H) {p : Addr} {xs : List V} (h : H p = some (.tup xs)) : H' p = some (.tup xs) := by
  obtain ⟨gs, cs, rest, turn, h1, h2, _⟩ := st
  exact k p _ (ne_of h h1 (by intro z; cases z)) (ne_of h h2 (by intro z; cases z)) h
theorem Kept.ra {d g c : Addr} {T : Nat} {H H' : Hp} (k : Kept d g H H') (st : St d g c T H) {p : Addr} {r : List Int} (h : RA H p r) : RA H' p r := k.tup st h
theorem Kept.all {d g c : Addr} {T : Nat} {H H' : Hp} (k : Kept d g H H') (st : St d g c T H) {L : Rws} (h : All H L) : All H' L := fun q hq => k.ra st (h q hq)
theorem St.own {d g c : Addr} {T0 T : Nat} {H0 H : Hp} {p : Addr} {o : HO} (st0 : St d g c T0 H0) (np : H0 p = none) (st : St d g c T H) : St d g c T (upd H p o) := by
  obtain ⟨gs0, cs0, _, _, a1, a2, a3, _⟩ := st0
  obtain ⟨gs, cs, rest, turn, h1, h2, h3, h4⟩ := st
  have n1 : d ≠ p := ne_of_none a1 np
  have n2 : g ≠ p := ne_of_none a2 np
  have n3 : c ≠ p := ne_of_none a3 np
  exact ⟨gs, cs, rest, turn, by rw [upd_ne n1]; exact h1, by rw [upd_ne n2]; exact h2, by rw [upd_ne n3]; exact h3, h4⟩
/-- a list of one's own is not the state's -/
theorem St.ne {d g c : Addr} {T : Nat} {H : Hp} (st : St d g c T H) {p : Addr} (hp : H p = none) : p ≠ d ∧ p ≠ g := by
  obtain ⟨gs, cs, rest, turn, h1, h2, _⟩ := st
  exact ⟨fun h => (by rw [h, h1] at hp; cases hp), fun h => (by rw [h, h2] at hp; cases hp)⟩

abbrev sBegun : Stmt := topS 41
theorem scBegun : FnScope ["_law_script", "_law_great", "_law_cell"] ["_law_script"] (defScope sBegun) := ⟨rfl, rfl, rfl, by decide +kernel, rfl, by decide +kernel, by decide +kernel⟩
def spBegun (K : PySem.W.Frag) : Sp := fun vs H Q _ => ∃ (a : Addr) (ns : List Int), vs = [.ref a] ∧ SqL K H a (ns.map V.int) ∧ ns.length ≤ 63 ∧ ∀ H' d g c, Same H H' → St d g c 0 H' → Q (.ref d) H'
theorem ok_begun (D : ∃ f fd, Def K mg "_law_begun" sBegun ["_law_script"] f fd) (m_abs : mg "abs" = none) : Fn P w K mg base "_law_begun" ["_law_script"] 1 (spBegun K) := by
  obtain ⟨f, fd, D⟩ := D
  refine D.fn (D.F.ok scBegun (fun vs H Q E h => ?_) (fun cdv A outer s H vs Q E hr h => ?_))
  · obtain ⟨a, ns, rfl, _⟩ := h; rfl
  · obtain ⟨a, ns, rfl, hS, hlen, q⟩ := h
    refine ⟨_, (pss_cons (ps_setLc (i := 1) (own := [("_law_cell", 2)]) (g := gName 2) rfl scBegun.nd rfl rfl (sw_true rfl rfl rfl (by decide +kernel)) (pi_list (pv 0)) (blkOk_by (N := ["_law_script", "_law_great", "_law_cell"]) (sc := defScope sBegun) (by decide +kernel))
        (fun _ _ _ _ _ => pg_name (i := 2) scBegun.nd rfl (Or.inl rfl)) (fun _ _ _ _ _ => (pts_one (pt_cmpR op_ge (pe_callB call_abs (by rfl) m_abs (by decide +kernel) (pa_cons (pv 2) pa_nil)) (pe_op op_pow pe_int pe_int) (nomark _)))) (fun _ _ _ _ _ => (pe_op op_sub (pe_callB call_abs (by rfl) m_abs (by decide +kernel) (pa_cons (pv 2) pa_nil)) (pe_op op_pow pe_int pe_int))))
      (pss_one (ps_ret (pe_disp (pps_cons pe_str (pv 1) (pps_cons pe_str (pe_lc (own := [("_law_cell", 2)]) (g := gName 2) (tt := tYes) rfl scBegun.nd (pi_list (pv 0)) (blkOk_by (N := ["_law_script", "_law_great", "_law_cell"]) (sc := defScope sBegun) (by decide +kernel))
        (fun _ _ _ _ _ => pg_name (i := 2) scBegun.nd rfl (Or.inl rfl)) (fun _ _ _ _ _ => pts_nil) (fun _ _ _ _ _ => (pe_callB call_abs (by rfl) m_abs (by decide +kernel) (pa_cons (pv 2) pa_nil)))) (pps_cons pe_str pe_int (pps_cons pe_str pe_int pps_nil)))) (by rfl) (by rfl) (fun z => by cases z) (by decide))))), ?_⟩
    refine ⟨.ref a, rfl, a, rfl, ⟨_, hS⟩, fun o no => ?_⟩
    refine lc_list (xs := ns.map V.int) (fun i H3 => Same H H3 ∧ ∃ gs : List Int, H3 o = some (.lst (gs.map V.int)) ∧ (∀ x ∈ gs, 0 ≤ x) ∧ gs.length ≤ i)
      ⟨same_upd no, [], by rw [upd_same]; rfl, fun x hx => (by cases hx), Nat.zero_le _⟩ (fun i H3 hi h => h.1.seq hS) (fun i x H3 hx h => ?_) (fun H3 h => ?_)
    · obtain ⟨sm, gs, eo, hg, hgl⟩ := h
      have hi : i < ns.length := by have := (List.getElem?_eq_some_iff.1 hx).1; simpa using this
      have ex : x = .int ns[i] := by rw [ints_get hi] at hx; exact (Option.some.inj hx).symm
      subst ex
      refine ⟨rfl, .int ns[i], rfl, ns[i], rfl, 10, 18, rfl, rfl, ⟨by decide, by decide, by decide⟩, _, _, rfl, rfl, _, rfl, ?_⟩
      refine ite2 (fun e => ?_) (fun e => ?_)
      · have e' := of_decide_eq_true e
        refine ⟨.int ns[i], rfl, ns[i], rfl, 10, 18, rfl, rfl, ⟨by decide, by decide, by decide⟩, _, _, rfl, rfl, _, eo, ?_, same_own no sm, gs ++ [_], by rw [upd_same, List.map_append]; rfl, ?_, ?_⟩
        · rw [List.length_map]; exact Nat.lt_of_lt_of_le (by omega : gs.length < 100000) (by decide)
        · intro y hy
          rcases List.mem_append.1 hy with h | h
          · exact hg y h
          · have := List.mem_singleton.1 h
            rw [this]; omega
        · rw [List.length_append, List.length_singleton]; omega
      · exact ⟨sm, gs, eo, hg, by omega⟩
    · obtain ⟨sm, gs, eo, hg, hgl⟩ := h
      refine fun p np => ?_
      have s4 := same_upd (o := .dK []) np
      refine ⟨_, rfl, .ref a, rfl, a, rfl, ⟨_, (sm.trans s4).seq hS⟩, fun o2 no2 => ?_⟩
      refine lc_list (xs := ns.map V.int) (fun i H5 => Same (upd H3 p (.dK [])) H5 ∧ ∃ cs : List Int, H5 o2 = some (.lst (cs.map V.int)) ∧ cs.length ≤ i)
        ⟨same_upd no2, [], by rw [upd_same]; rfl, Nat.zero_le _⟩ (fun i H5 hi h => ((sm.trans s4).trans h.1).seq hS) (fun i x H5 hx h => ?_) (fun H5 h => ?_)
      · obtain ⟨s5, cs, ec, hcl⟩ := h
        have hi : i < ns.length := by have := (List.getElem?_eq_some_iff.1 hx).1; simpa using this
        have ex : x = .int ns[i] := by rw [ints_get hi] at hx; exact (Option.some.inj hx).symm
        subst ex
        refine ⟨rfl, .int ns[i], rfl, ns[i], rfl, _, ec, ?_, same_own no2 s5, cs ++ [_], by rw [upd_same, List.map_append]; rfl, ?_⟩
        · rw [List.length_map]; exact Nat.lt_of_lt_of_le (by omega : cs.length < 100000) (by decide)
        · rw [List.length_append, List.length_singleton]; omega
      · obtain ⟨s5, cs, ec, hcl⟩ := h
        have ep : H5 p = some (.dK []) := s5 _ _ upd_same
        have eo5 : H5 o = some (.lst (gs.map V.int)) := s5 _ _ (s4 _ _ eo)
        have nop : o ≠ p := ne_of_none eo np
        have no2p : o2 ≠ p := ne_of ec ep (by intro z; cases z)
        refine ⟨ep, dS o o2 0 0, rfl, by show (4 : Nat) ≤ 15; decide, ?_⟩
        have em : mergeK [] (dS o o2 0 0) = dS o o2 0 0 := rfl
        rw [em]
        refine q _ p o o2 (same_own (Same.free sm np) (sm.trans (s4.trans s5))) ⟨gs, cs, 0, 0, upd_same, by rw [upd_ne nop]; exact eo5, by rw [upd_ne no2p]; exact ec, hg, Nat.le_refl _, ?_⟩
        intro h
        rw [h] at no2
        rw [s4 _ _ eo] at no2; cases no2
abbrev sBlend : Stmt := topS 42
theorem scBlend : FnScope ["_law_state", "_law_turn", "_law_found", "_law_prime", "_law_blend", "_law_cell"] ["_law_state"] (defScope sBlend) := ⟨rfl, rfl, rfl, by decide +kernel, rfl, by decide +kernel, by decide +kernel⟩
def spBlend : Sp := fun vs H Q _ => ∃ (d g c : Addr) (T : Nat), vs = [.ref d] ∧ St d g c T H ∧ T ≤ 1000000 ∧ ∀ H' (z : Nat), Kept d g H H' → St d g c (T + 1) H' → Q (.int (z : Int)) H'
theorem ok_blend (D : ∃ f fd, Def K mg "_law_blended" sBlend ["_law_state"] f fd) (m_int : mg "int" = none) : Fn P w K mg base "_law_blended" ["_law_state"] 1 spBlend := by
  obtain ⟨f, fd, D⟩ := D
  refine D.fn (D.F.ok scBlend (fun vs H Q E h => ?_) (fun cdv A outer s H vs Q E hr h => ?_))
  · obtain ⟨d, g, c, T, rfl, _⟩ := h; rfl
  · obtain ⟨d, g, c, T, rfl, ⟨gs, cs, rest, turn, hd, hg, hc, hgs, ht, hcg⟩, hT, q⟩ := h
    refine ⟨_, (pss_cons (ps_par (i := 1) (j := 2) (by rfl) scBlend.nd rfl rfl (by decide) rfl rfl (pa_cons (pe_op op_add (pe_dget (hu_of hr) (pv 0) pe_str (fun _ _ => rfl)) pe_int) (pa_cons pe_int pa_nil)) (by rfl))
      (pss_cons (ps_dput (hu_of hr) (pv 0) pe_str (pv 1) rfl)
      (pss_cons (ps_for PassesOwn.never rfl (pi_list (pe_lst (pa_cons pe_int (pa_cons pe_int (pa_cons pe_int pa_nil))))) (pg_name (i := 3) scBlend.nd rfl (.inl rfl)) (pss_cons (ps_set (i := 4) scBlend.nd rfl (.inl rfl) (pe_op op_add (pe_op op_mul pe_int (pv 1)) (pe_op op_fdiv (pv 3) pe_int)))
      (pss_cons (ps_for PassesOwn.never rfl (pi_list (pe_dget (hu_of hr) (pv 0) pe_str (fun _ _ => rfl))) (pg_name (i := 5) scBlend.nd rfl (.inl rfl)) (pss_one (ps_set (i := 4) scBlend.nd rfl (.inl rfl) (pe_op op_mod (pe_callTy call_int1 (by rfl) m_int (by decide +kernel) (pa_cons (pe_op op_add (pe_op op_add (pe_op op_mul (pv 4) pe_int) (pv 5)) (pv 1)) pa_nil)) (pv 3)))))
      (pss_one (ps_set (i := 2) scBlend.nd rfl (.inl rfl) (pe_op op_add (pe_op op_mul (pv 2) pe_int) (pe_op op_mod (pe_callTy call_int1 (by rfl) m_int (by decide +kernel) (pa_cons (pe_op op_pow (pv 4) pe_int) pa_nil)) (pv 3))))))))
      (pss_one (ps_ret (pv 2)))))), ?_⟩
    refine ⟨.ref d, rfl, d, .int (turn : Int), rfl, DGet.k (k := .inr "turn") hd, _, 1, rfl, rfl, _, _, rfl, ?_⟩
    refine ⟨_, rfl, .ref d, rfl, d, _, rfl, DPut.k (k := .inr "turn") hd (by show (4 : Nat) < sizeLine; decide), ?_⟩
    rw [dS_put_turn]
    have k1 : Kept d g H (upd H d (.dK (dS g c rest ((turn : Int) + 1)))) := fun b x n1 _ e => by rw [upd_ne n1]; exact e
    have hcd : c ≠ d := ne_of hc hd (by intro z; cases z)
    have hgd : g ≠ d := ne_of hg hd (by intro z; cases z)
    have st1 : St d g c (T + 1) (upd H d (.dK (dS g c rest ((turn : Int) + 1)))) := ⟨gs, cs, rest, turn + 1, by rw [upd_same]; rfl, by rw [upd_ne hgd]; exact hg, by rw [upd_ne hcd]; exact hc, hgs, by omega, hcg⟩
    have hc1 : (upd H d (.dK (dS g c rest ((turn : Int) + 1)))) c = some (.lst (cs.map V.int)) := by rw [upd_ne hcd]; exact hc
    have hd1 : (upd H d (.dK (dS g c rest ((turn : Int) + 1)))) d = some (.dK (dS g c rest ((turn : Int) + 1))) := upd_same
    generalize upd H d (.dK (dS g c rest ((turn : Int) + 1))) = H1 at *
    refine ⟨by show (3 : Nat) ≤ sizeLine; decide, fun o no => ?_⟩
    have s2 : Same H1 (upd H1 o (.lst [V.int 2147483579, V.int 2147483629, V.int 2147483563])) := same_upd no
    have eo2 : (upd H1 o (.lst [V.int 2147483579, V.int 2147483629, V.int 2147483563])) o = some (.lst [V.int 2147483579, V.int 2147483629, V.int 2147483563]) := upd_same
    have st2 := st1.same s2
    have k2 := k1.trans s2.kept
    have hc2 := s2 _ _ hc1
    have hd2 := s2 _ _ hd1
    generalize upd H1 o (.lst [V.int 2147483579, V.int 2147483629, V.int 2147483563]) = H2 at *
    have eo2' : H2 o = some (.lst (([2147483579, 2147483629, 2147483563] : List Int).map V.int)) := eo2
    refine ⟨o, rfl, ⟨_, SqL.of eo2'⟩, for_list (xs := ([2147483579, 2147483629, 2147483563] : List Int).map V.int) (fun i σ H3 => ∃ (found : Nat) (y3 y4 y5 : Option V), σ = [some (.ref d), some (.int ((turn : Int) + 1)), some (.int (found : Int)), y3, y4, y5] ∧ H3 = H2)
      ⟨0, none, none, none, rfl, rfl⟩ (fun i σ H3 hi h => by obtain ⟨_, _, _, _, _, rfl⟩ := h; exact SqL.of eo2') (fun i x σ H3 hx h => ?_) (fun σ H3 h => ?_)⟩
    · obtain ⟨found, y3, y4, y5, rfl, rfl⟩ := h
      rw [List.getElem?_map] at hx
      obtain ⟨pr, hpr, rfl⟩ := Option.map_eq_some_iff.1 hx
      have hp : 2000000000 < pr ∧ pr < 2147483648 := by
        have := List.mem_of_getElem? hpr
        simp only [List.mem_cons, List.not_mem_nil, or_false] at this
        omega
      refine ⟨_, rfl, 48271, _, rfl, rfl, .inl ⟨by decide, by decide⟩, _, rfl, _, 53, rfl, rfl, ⟨by decide, by decide⟩, _, _, rfl, rfl, ?_⟩
      refine ⟨.ref d, rfl, d, .ref c, rfl, DGet.k (k := .inr "cells") hd2, c, rfl, ⟨_, SqL.of hc2⟩, ?_⟩
      refine for_list (xs := cs.map V.int) (fun j σ H4 => ∃ (bl : Int) (y5 : Option V), σ = [some (.ref d), some (.int ((turn : Int) + 1)), some (.int (found : Int)), some (.int pr), some (.int bl), y5] ∧ (0 ≤ bl ∧ bl < 2 ^ 60) ∧ H4 = H3)
        ⟨_, y5, rfl, ⟨by omega, by omega⟩, rfl⟩ (fun j σ H4 hj h => by obtain ⟨_, _, _, _, rfl⟩ := h; exact SqL.of hc2) (fun j x σ H4 hx h => ?_) (fun σ H4 h => ?_)
      · obtain ⟨bl, y5, rfl, hbl, rfl⟩ := h
        rw [List.getElem?_map] at hx
        obtain ⟨ce, hce, rfl⟩ := Option.map_eq_some_iff.1 hx
        refine ⟨_, rfl, _, 69621, rfl, rfl, .inr ⟨by decide, by decide⟩, _, rfl, _, _, rfl, rfl, _, rfl, _, _, rfl, rfl, .inl ⟨_, rfl, _, rfl, _, _, rfl, rfl, by show (0 : Int) < pr; omega, ?_⟩⟩
        have h1 := Int.emod_nonneg (bl * 69621 + ce + ((turn : Int) + 1)) (show pr ≠ 0 by omega)
        have h2 := Int.emod_lt_of_pos (bl * 69621 + ce + ((turn : Int) + 1)) (show 0 < pr by omega)
        exact ⟨_, _, rfl, ⟨h1, by omega⟩, rfl⟩
      · obtain ⟨bl, y5, rfl, hbl, rfl⟩ := h
        refine ⟨_, rfl, _, 2147483647, rfl, rfl, .inr ⟨by decide, by decide⟩, _, rfl, _, 5, rfl, rfl, ⟨by decide, by decide, by omega⟩, .inl ⟨_, rfl, _, rfl, _, _, rfl, rfl, by show (0 : Int) < pr; omega, _, _, rfl, rfl, ?_⟩⟩
        have h1 := Int.emod_nonneg (bl ^ (5 : Int).toNat) (show pr ≠ 0 by omega)
        refine ⟨((found : Int) * 2147483647 + bl ^ (5 : Int).toNat % pr).toNat, some (.int pr), some (.int bl), y5, ?_, rfl⟩
        rw [Int.toNat_of_nonneg (by omega)]; rfl
    · obtain ⟨found, y3, y4, y5, rfl, rfl⟩ := h
      exact ⟨_, rfl, q _ found k2 st2⟩
abbrev sDraw : Stmt := topS 43
theorem scDraw : FnScope ["_law_state", "_law_room", "_law_found"] ["_law_state", "_law_room"] (defScope sDraw) := ⟨rfl, rfl, rfl, by decide +kernel, rfl, by decide +kernel, by decide +kernel⟩
def spDraw : Sp := fun vs H Q _ => ∃ (d g c : Addr) (T m : Nat), vs = [.ref d, .int (m : Int)] ∧ St d g c T H ∧ T ≤ 1000000 ∧ 1 ≤ m ∧ m ≤ 1000 ∧ ∀ H' (z : Nat), z < m → Kept d g H H' → St d g c (T + 1) H' → Q (.int (z : Int)) H'
/-- the rest filled up where it is 0 -/
def tRefill : TS := fun D σ H => ∃ (d g c : Addr) (T : Nat), σ[0]? = some (some (.ref d)) ∧ St d g c T H ∧ T ≤ 1000000 ∧ ∀ H1, Kept d g H H1 → St d g c (T + 1) H1 → D.nx σ H1
theorem St.put_rest {d g c : Addr} {T : Nat} {H : Hp} {gs cs : List Int} {rest turn : Int} {r : Nat} (hd : H d = some (.dK (dS g c rest turn))) (hg : H g = some (.lst (gs.map V.int))) (hc : H c = some (.lst (cs.map V.int)))
    (hgs : ∀ x ∈ gs, 0 ≤ x) (t0 : 0 ≤ turn) (ht : turn ≤ T) (hcg : c ≠ g) : St d g c T (upd H d (.dK (dS g c (r : Int) turn))) := by
  have hcd : c ≠ d := ne_of hc hd (by intro z; cases z)
  have hgd : g ≠ d := ne_of hg hd (by intro z; cases z)
  exact ⟨gs, cs, r, turn.toNat, by rw [upd_same, Int.toNat_of_nonneg t0], by rw [upd_ne hgd]; exact hg, by rw [upd_ne hcd]; exact hc, hgs, by omega, hcg⟩
theorem Kept.put {d g : Addr} {H H1 : Hp} {o : HO} (k : Kept d g H H1) : Kept d g H (upd H1 d o) := fun b x n1 n2 e => by rw [upd_ne n1]; exact k b x n1 n2 e
theorem seq_zero {n : Nat} (h : 0 < n) : PySem.seqIndex? 0 n = some 0 := (L2.ixN_seq (i := 0) (j := 0) (by unfold L2.ixN; rw [if_pos (by decide), if_pos (by omega)]; rfl)).1
theorem ok_draw (D : ∃ f fd, Def K mg "_law_draw" sDraw ["_law_state", "_law_room"] f fd) (B : Fn P w K mg base "_law_blended" ["_law_state"] 1 spBlend) (m_int : mg "int" = none) :
    Fn P w K mg base "_law_draw" ["_law_state", "_law_room"] 2 spDraw := by
  obtain ⟨f, fd, D⟩ := D
  obtain ⟨fB, fdB, bB, gB, kB, GB⟩ := B
  refine D.fn (D.F.ok scDraw (fun vs H Q E h => ?_) (fun cdv A outer s H vs Q E hr h => ?_))
  · obtain ⟨d, g, c, T, m, rfl, _⟩ := h; rfl
  · obtain ⟨d, g, c, T, m, rfl, st, hT, m1, m2, q⟩ := h
    refine ⟨_, (pss_cons (ps_weak (t' := tRefill) (ps_if (pt_cmpR op_eq (pe_dget (hu_of hr) (pv 0) pe_str (fun _ _ => rfl)) pe_int (nomark _)) (pss_one (ps_dput (hu_of hr) (pv 0) pe_str (pe_ifExp (pt_cmpR (op_neD hr.units) (pe_dget (hu_of hr) (pv 0) pe_str (fun _ _ => rfl)) (pe_lst pa_nil) (nomark _)) (pe_bm PySem.F.plainAttrs_list PySem.F.slot_list_pop PySem.F.type_list_pop mt_popAt (pe_dget (hu_of hr) (pv 0) pe_str (fun _ _ => rfl)) (pa_cons pe_int pa_nil)) (pe_call GB hr (by rfl) gB kB bB .nil pass0 (pa_cons (pv 0) pa_nil))) rfl)) pss_nil) (fun D σ H h => ?_))
      (pss_cons (ps_set (i := 2) scDraw.nd rfl (.inl rfl) (pe_op op_mod (pe_callTy call_int1 (by rfl) m_int (by decide +kernel) (pa_cons (pe_dget (hu_of hr) (pv 0) pe_str (fun _ _ => rfl)) pa_nil)) (pv 1)))
      (pss_cons (ps_dput (hu_of hr) (pv 0) pe_str (pe_op op_fdiv (pe_dget (hu_of hr) (pv 0) pe_str (fun _ _ => rfl)) (pv 1)) rfl)
      (pss_one (ps_ret (pv 2)))))), ?_⟩
    · obtain ⟨d, g, c, T, h0, st, hT, q⟩ := h
      have st' := st
      obtain ⟨gs, cs, rest, turn, hd, hg, hc, hgs, ht, hcg⟩ := st
      refine ⟨.ref d, h0, d, .int (rest : Int), rfl, DGet.k (k := .inr "rest") hd, rfl, _, rfl, ite2 (fun e => ?_) (fun e => ?_)⟩
      · refine ⟨.ref d, h0, d, .ref g, rfl, DGet.k (k := .inr "great") hd, Nat.zero_le _, fun o no => ?_⟩
        have s1 := same_upd (o := .lst []) no
        refine ⟨.list (gs.map .int), .list [], .lst (SqL.of (s1 _ _ hg)) (dp_ints _), .lst (SqL.of upd_same) .nil, shaped_list _, shaped_list [], ?_⟩
        have ev : PyData.eqv (.list (gs.map .int)) (.list []) = decide (gs = []) := eqv_ints _ []
        rw [ev]
        refine ⟨_, rfl, ?_⟩
        cases gs with
        | nil =>
          refine iteF ?_
          refine ⟨.ref d, h0, d, g, c, T, rfl, st'.same s1, hT, fun H1 z k1 st1 => ?_⟩
          obtain ⟨gs1, cs1, rest1, turn1, hd1, hg1, hc1, hgs1, ht1, hcg1⟩ := st1
          refine ⟨.ref d, h0, d, _, rfl, DPut.k (k := .inr "rest") hd1 (by show (4 : Nat) < sizeLine; decide), ?_⟩
          rw [dS_put_rest]
          exact q _ (s1.kept.trans k1).put (St.put_rest hd1 hg1 hc1 hgs1 (by omega) (by omega) hcg1)
        | cons x gs =>
          refine iteT ?_
          have hg1 := s1 _ _ hg
          have hd1 := s1 _ _ hd
          refine ⟨.ref d, h0, d, .ref g, rfl, DGet.k (k := .inr "great") hd1, .inl ⟨rfl, _, SqL.of hg1⟩, g, _, 0, 0, .int x, rfl, rfl, hg1, by decide, by decide, seq_zero (by simp), rfl, ?_⟩
          have x0 := hgs x (List.mem_cons_self ..)
          have hcd : c ≠ d := ne_of hc hd (by intro z; cases z)
          have hgd : g ≠ d := ne_of hg hd (by intro z; cases z)
          have hd2 : (upd (upd H o (.lst [])) g (.lst ((((x :: gs).map V.int).eraseIdx 0)))) d = some (.dK (dS g c rest turn)) := by rw [upd_ne (Ne.symm hgd)]; exact hd1
          refine ⟨.ref d, h0, d, _, rfl, DPut.k (k := .inr "rest") hd2 (by show (4 : Nat) < sizeLine; decide), ?_⟩
          rw [dS_put_rest]
          have k2 : Kept d g H (upd (upd H o (.lst [])) g (.lst ((((x :: gs).map V.int).eraseIdx 0)))) := fun b z n1 n2 e => by rw [upd_ne n2]; exact s1 b z e
          refine q _ k2.put ?_
          rw [show x = ((x.toNat : Nat) : Int) by omega]
          refine St.put_rest (gs := gs) (cs := cs) hd2 (by rw [upd_same]; rfl) (by rw [upd_ne hcg]; exact s1 _ _ hc) (fun y hy => hgs y (List.mem_cons_of_mem _ hy)) (by omega) (by omega) hcg
      · exact q H (Kept.refl d g H) (st'.mono (by omega))
    refine ⟨d, g, c, T, rfl, st, hT, fun H1 k1 st1 => ?_⟩
    obtain ⟨gs, cs, rest, turn, hd, hg, hc, hgs, ht, hcg⟩ := st1
    refine ⟨.ref d, rfl, d, .int (rest : Int), rfl, DGet.k (k := .inr "rest") hd, .inl ⟨_, rfl, _, rfl, _, _, rfl, rfl, by show (0 : Int) < (m : Int); omega, ?_⟩⟩
    refine ⟨.ref d, rfl, d, .int (rest : Int), rfl, DGet.k (k := .inr "rest") hd, _, rfl, _, _, rfl, rfl, ⟨by show (0 : Int) < (m : Int); omega, by show (m : Int) < _; omega⟩, .ref d, rfl, d, _, rfl, DPut.k (k := .inr "rest") hd (by show (4 : Nat) < sizeLine; decide), ?_⟩
    rw [dS_put_rest]
    refine ⟨_, rfl, ?_⟩
    rw [show (rest : Int) / (m : Int) = ((rest / m : Nat) : Int) by rw [Int.natCast_ediv]]
    show Q (.int ((rest : Int) % (m : Int))) _
    rw [show (rest : Int) % (m : Int) = ((rest % m : Nat) : Int) by rw [Int.natCast_emod]]
    exact q _ _ (Nat.mod_lt _ (by omega)) k1.put (St.put_rest hd hg hc hgs (by omega) (by omega) hcg)
end
end K71W

/-! ## WkR2 -/
set_option Elab.async false
set_option linter.all false
set_option maxRecDepth 100000
namespace K71W
open PySem PySem.Spec PyProof.Rows L2
/-! ### t[::-1], t a tuple -/
section
variable {s : Shared} {prog : Program} {w : World} {A : Around} {E : Value → Shared → Prop}
theorem same_pick {α β : Type} {l : List α} {f g : α → Option β} (h : ∀ x ∈ l, f x = g x) : l.filterMap f = l.filterMap g := by
  induction l with
  | nil => rfl
  | cons x l ih =>
    rw [List.filterMap_cons, List.filterMap_cons, h x (List.mem_cons_self ..), ih fun y hy => h y (List.mem_cons_of_mem _ hy)]
theorem back_adjust (n : Nat) : Builtin.Slice.sliceAdjust none none (-1) (n : Int) = ((n : Int) - 1, -1) := by
  unfold Builtin.Slice.sliceAdjust
  simp
theorem back_places (n : Nat) : Builtin.Slice.slicePlaces ((n : Int) - 1) (-1) (-1) = n := by
  unfold Builtin.Slice.slicePlaces
  have no : ¬ ((-1 : Int) > 0) := by decide
  rw [if_neg no]
  by_cases h : n = 0
  · subst h; decide
  · rw [if_pos (by omega), show (-(-1 : Int)) = 1 by decide, Int.ediv_one]; omega
theorem back_items (xs : Array Value) : ((List.range xs.size).filterMap fun k : Nat => xs[((xs.size : Int) - 1 + (k : Int) * -1).toNat]?).toArray = xs.toList.reverse.toArray := by
  congr 1
  have key : ∀ l : List Value, ((List.range l.length).filterMap fun k : Nat => l[((l.length : Int) - 1 + (k : Int) * -1).toNat]?) = l.reverse := by
    intro l
    have h1 : (List.range l.length).filterMap (fun k : Nat => l[((l.length : Int) - 1 + (k : Int) * -1).toNat]?) = (List.range l.length).filterMap fun k => l.reverse[k]? := by
      apply same_pick
      intro k hk
      have hk' := List.mem_range.1 hk
      rw [List.getElem?_reverse hk']
      congr 1; omega
    rw [h1]
    have h2 : ∀ m : List Value, (List.range m.length).filterMap (fun k => m[k]?) = m := by
      intro m
      induction m with
      | nil => rfl
      | cons y m ih =>
        rw [List.length_cons, List.range_succ_eq_map, List.filterMap_cons]
        simp only [List.getElem?_cons_zero]
        rw [List.filterMap_map]
        congr 1
    have := h2 l.reverse
    rwa [List.length_reverse] at this
  have := key xs.toList
  simpa using this
theorem get_back {q sl : Addr} {its : Array Value} {vk : Value} {Q : Value → Shared → Prop} (tu : IsTup s.heap q its) (slc : s.heap.IsSliceOf sl .none .none vk) (part : IsPart vk (some (-1))) (room : its.size ≤ sizeLine)
    (fin : Q (.ref s.heap.objs.size) { s with heap := s.heap.push { cls := .type "tuple", data := .seq its.toList.reverse.toArray } }) : wpAny (model prog w) A (getItem (.ref q) (.ref sl)) Q E s := by
  have okSize : sizeOk (.seq its.toList.reverse.toArray) := by
    show its.toList.reverse.toArray.size ≤ sizeLine
    rw [List.size_toArray, List.length_reverse, Array.length_toList]; exact room
  rcases slc with ⟨ob, stands, kind, data⟩
  have tySl : s.TypeIs (.ref sl) "slice" := ⟨ob, stands, kind⟩
  unfold getItem
  try with_reducible refine wpAny_holding ?_
  first | refine wpAny_bind (wpAny_pure ?_) | skip
  refine wpAny_bind (wpAny_sequenceKey tu.typeIs (by decide) (wpAny_bind (wpAny_callSpecial?_slot (name := Str.ofString "__getitem__") tu.typeIs PyProof.Rows.slot_tuple_getitem
    (wpAny_call_entry PyProof.Rows.slot_tuple_getitem tu.typeIs entry_tuple_getitem ?_ (args_tuple_getitem _ _)))))
  show wpAny _ _ (Builtin.Tuple.tupleItemsOf (.ref q) >>= _) _ _ s
  refine wpAny_bind (tupleItemsOf_ tu (wpAny_bind (wpAny_typeOf tySl ?_)))
  rw [if_pos (by decide)]
  have applied : ∀ {Q' : Int × Int × Nat → Shared → Prop}, Q' ((its.size : Int) - 1, -1, its.size) s → wpAny (model prog w) A.in1 (Builtin.Slice.sliceApplied (.ref sl) (pure (its.size : Int))) Q' E s := by
    intro Q' hq
    unfold Builtin.Slice.sliceApplied Builtin.Slice.sliceFields
    refine wpAny_bind (wpAny_bind (wpAny_field stands data (x := .none) rfl (wpAny_bind (wpAny_field stands data (x := .none) rfl (wpAny_bind (wpAny_field stands data (x := vk) rfl (wpAny_pure ?_)))))))
    refine wpAny_bind (HT.slicePart_ part ?_)
    show wpAny _ _ (if ((-1 : Int) == 0) = true then _ else _) _ _ s
    rw [if_neg (by decide)]
    refine wpAny_bind (HT.slicePart_ .none (wpAny_bind (HT.slicePart_ .none (wpAny_bind (wpAny_pure ?_)))))
    show wpAny _ _ (match Builtin.Slice.sliceAdjust none none (-1) (its.size : Int) with | (lo, hi) => pure (lo, (-1 : Int), Builtin.Slice.slicePlaces lo hi (-1))) _ _ s
    rw [back_adjust]
    show wpAny _ _ (pure ((its.size : Int) - 1, (-1 : Int), Builtin.Slice.slicePlaces ((its.size : Int) - 1) (-1) (-1))) _ _ s
    rw [back_places]
    exact wpAny_pure hq
  refine wpAny_bind (applied ?_)
  show wpAny _ _ (if (((its.size : Int) - 1) == 0 && (-1 : Int) == 1 && its.size == its.size) = true then _ else _) _ _ s
  rw [if_neg (by simp), back_items]
  first
    | exact wpAny_bind (m := Builtin.Tuple.tupleExact _) (wpAny_newObj_type (wpAny_pure ⟨_, rfl, wpAny_pure fin⟩) okSize)
    | exact wpAny_bind (m := Builtin.Tuple.tupleExact _) (wpAny_newObj_type (wpAny_bind (wpAny_pure (wpAny_pure ⟨_, rfl, wpAny_pure fin⟩))) okSize)
    | exact wpAny_bind (wpAny_bind (m := Builtin.Tuple.tupleExact _) (wpAny_newObj_type (wpAny_pure (wpAny_pure ⟨_, rfl, wpAny_pure fin⟩)) okSize))
    | exact wpAny_bind (wpAny_bind (m := Builtin.Tuple.tupleExact _) (wpAny_newObj_type (wpAny_pure ⟨_, rfl, wpAny_pure fin⟩) okSize))
end
section
variable {X : Cx}
def tBackT (K : PySem.W.Frag) (te : TE) : TE := fun σ H Q => te σ H fun x H1 => ∃ a xs, x = .ref a ∧ SqT K H1 a xs ∧ ∀ p, H1 p = none → Q (.ref p) (upd H1 p (.tup xs.reverse))
theorem pe_revT {e : Expr} {te : TE} {k : Nat} {p1 p2 p3 pos : Pos} (he : PE X e te) : PE X (.Subscript e (.Slice none none (some (.UnaryOp .USub (.Constant (.int 1) k p1) p2)) p3) pos) (tBackT X.K te) := by
  constructor
  intro pins s σ H Q inv ask
  have minus : PO X (some (.UnaryOp .USub (.Constant (.int 1) k p1) p2)) (tPart (tUn (rU fun i => .int (-i)) (tC (.int 1)))) := po_some (pe_un un_neg pe_int)
  refine Subscript_ (thn (he.run pins s σ H _ inv ask) fun v s1 got => ?_)
  rcases got with ⟨x, H1, inv1, rel, a, xs, rfl, tup, fin⟩
  cases rel
  refine wpAny_Slice (thn (po_none.run pins s1 σ H1 (fun o G => o = none ∧ G = H1) inv1 ⟨rfl, rfl⟩) fun vl s2 got => ?_)
  rcases got with ⟨ol, H2, inv2, partl, rfl, rfl⟩
  refine thn (po_none.run pins s2 σ H2 (fun o G => o = none ∧ G = H2) inv2 ⟨rfl, rfl⟩) fun vu s3 got => ?_
  rcases got with ⟨ou, H3, inv3, partu, rfl, rfl⟩
  refine thn (minus.run pins s3 σ H3 (fun o G => o = some (-1) ∧ G = H3) inv3 ⟨1, rfl, -1, rfl, rfl, rfl⟩) fun vs s4 got => ?_
  rcases got with ⟨os, H4, inv4, parts, rfl, rfl⟩
  cases partl
  cases partu
  have inv5 : Inv X pins σ H4 { s4 with heap := s4.heap.push { cls := .type "slice", data := .fields #[.none, .none, vs] } } := inv4.kept (t' := s4.toks) fun b ob q => Heap.get?_push_of_some _ q
  rcases inv5.tuple tup with ⟨its, vals, stands, room⟩
  have len := vals.length
  show wpAny (model X.prog X.w) X.A (subscriptTail e (.Slice none none (some (.UnaryOp .USub (.Constant (.int 1) k p1) p2)) p3) (.ref a) (.ref s4.heap.objs.size)) (EP X pins σ Q) X.xe { s4 with heap := s4.heap.push { cls := .type "slice", data := .fields #[.none, .none, vs] } }
  refine tail_any (ops := [.ref a, .ref s4.heap.objs.size]) stands.typeIs (PyProof.Rows.slot_tuple_getitem.lookup) ?_ (by with_unfolding_all rfl)
  refine get_back stands (Heap.IsSliceOf.new _ .none .none vs) parts (by rw [List.size_toArray]; omega) ?_
  refine ⟨.ref _, _, inv5.laid (t' := s4.toks) (o := .tup xs.reverse) (fun b ob q => Heap.get?_push_of_some _ q) (Nat.le_refl _) ⟨by rw [List.length_reverse]; exact room, its.reverse, vals.reverse, ?_⟩, rfl, fin _ (inv5.hok.fresh (Nat.le_refl _))⟩
  exact IsTup.new _ _
end
end K71W

/-! ## WkR3 -/
set_option Elab.async false
set_option linter.all false
set_option maxRecDepth 100000
namespace K71W
open PySem PySem.Spec PyProof.Rows L2
section
variable {s : Shared} {P : Program} {w : World} {A : Around} {E : Value → Shared → Prop}
/-- an empty set, as it is made -/
abbrev set0 (w : World) : Obj := { cls := .type "set", dict := none, data := .set #[] 0 (.fresh 0 0 (!w.params.followText "set-order")) }
set_option maxHeartbeats 3200000 in
theorem set_of_list {q : Addr} {its : Array Value} (ks : List Int) {Q : Value → Shared → Prop} (quiet : A.handled = none) (li : s.heap.IsList q its) (areInts : IntsAre its.toList ks) (few : ks.length + 1 < scanBound)
    (fin : ∀ (hp : Heap) (tk m : Nat), SetR w hp s.heap.objs.size (fun j => decide (j ∈ ks)) m → m ≤ ks.length → (∀ b o, s.heap.get? b = some o → hp.get? b = some o) → Q (.ref s.heap.objs.size) { s with heap := hp, toks := tk }) :
    wpAny (model P w) A (call (.type "set") [.ref q]) Q E s := by
  have size : its.size = ks.length := by rw [← Array.length_toList]; exact IntsAre.length areInts
  have made := F.called_set.made
  have subs := F.called_set.sub
  rcases F.called_set.mro with ⟨mh, mt, mro⟩
  refine wpAny_call (codeAny_of_tree (show wpAny _ _ (callAny (.type "set") _) _ _ _ from wpAny_pure ⟨Code.quiet_builtin _ (by decide +kernel), codeAny_builtin F.entry_type_call ?_⟩))
  rw [Around.under_plain (weight_type_call_type "set" [.ref q] []) rfl]
  have c1 := F.called_set.notType
  have c2 := F.called_set.canCreate
  have c3 := F.typeCall_set_1 (.ref q)
  repeat (any_goals (first | assumption | wp_step))
  refine codeAny_mono (code_set_led1 (.ref q) (E := E) (Q₁ := fun u s₁ => u = .ref s.heap.objs.size ∧ s₁ = { s with heap := s.heap.push (set0 w) }) ⟨rfl, rfl⟩) fun r s₁ got => ?_
  rcases r with e | fl
  · exact got
  cases fl with
  | ret u =>
    rcases got with ⟨rfl, rfl⟩
    have atS : (s.heap.push (set0 w)).get? s.heap.objs.size = some (set0 w) := Heap.get?_push_size _ rfl
    have tyS : Shared.TypeIs { s with heap := s.heap.push (set0 w) } (.ref s.heap.objs.size) "set" := ⟨_, atS, rfl⟩
    have i1 := F.called_set.init.lookup
    have i2 := F.called_set.init.bind (.ref s.heap.objs.size)
    repeat (any_goals (first | assumption | wp_step))
    refine codeAny_mono (codeAny_call_builtin (R := wants (fun r s₂ => r = .none ∧ ∃ hp tk m, s₂ = { s with heap := hp, toks := tk } ∧ SetR w hp s.heap.objs.size (fun j => decide (j ∈ ks)) m ∧ m ≤ ks.length ∧
        (∀ b o, s.heap.get? b = some o → hp.get? b = some o)) E) F.called_set.init.plain F.entry_set_init (check_set_init_1 tyS ?_)) fun r₂ s₂ got₂ => ?_
    · rcases li with ⟨⟨lc, ld, ldat, lsl⟩, atL, kind, ln, dat⟩
      simp only at kind dat
      subst kind; subst dat
      have atL' : (s.heap.push (set0 w)).get? q = some { cls := .type "list", dict := ld, data := .seq its ln, slots := lsl } := Heap.get?_push_of_some _ atL
      have t1 := F.sub_list_set
      have t2 := F.sub_list_frozenset
      have t3 : (Value.type "list" == Value.type "dict") = false := by decide
      have li1 : (s.heap.push (set0 w)).IsList q its := ⟨_, atL', rfl, ln, rfl⟩
      unfold Builtin.«set.__init__» noKeywords Builtin.Frozenset.updateFrom
      generalize byIter : pyIter = PI
      wp_walk
      subst byIter
      refine wpAny_pyIter_list li1 (wpAny_bind (wpAny_runValue ?_))
      have ltL : q < s.heap.objs.size := Heap.lt_size atL
      have quiet3 : A.in1.in1.in1.handled = none := by simp [quiet]
      have z1 : (s.heap.push (set0 w)).objs.size = s.heap.objs.size + 1 := Heap.size_push ..
      have apart : q ≠ (s.heap.push (set0 w)).objs.size := by rw [z1]; exact Nat.ne_of_lt (Nat.lt_succ_of_lt ltL)
      have apart2 : s.heap.objs.size ∉ [(s.heap.push (set0 w)).objs.size, q] := by
        rw [z1]
        intro h
        simp only [List.mem_cons, List.not_mem_nil, or_false] at h
        rcases h with h | h
        · exact absurd h (Nat.ne_of_lt (Nat.lt_succ_self _))
        · exact absurd h (Nat.ne_of_gt ltL)
      have vals : ∀ (i : Nat) (v : Value), its[i]? = some v → ∃ k t, ks[i]? = some k ∧ v = .int k t := fun i v hv => by
        have hi : i < ks.length := by rw [← size]; exact (Array.getElem?_eq_some_iff.mp hv).1
        rcases PyProof.Rows.IntsAre.int_at areInts i v (by rw [Array.getElem?_toList]; exact hv) with ⟨t, e⟩
        refine ⟨ks[i], t, List.getElem?_eq_getElem hi, ?_⟩
        rw [e, List.getD_eq_getElem?_getD, List.getElem?_eq_getElem hi]; rfl
      refine set_update_ints ((Walks.list quiet3 _ q apart its).toS) s.heap.objs.size apart2 ks size few vals (its.size - 0) 0 _ (by omega) (Nat.zero_le _) ⟨⟨_, Heap.get?_push_size _ rfl, rfl, rfl⟩, (li1.push _)⟩ ?start ?done
      case start => exact ⟨0, Nat.le_refl 0, setR_new_at (Heap.get?_push_of_some _ atS)⟩
      case done =>
        rintro ⟨hp, gn, dr, tk, os⟩ m mv few' isS
        obtain rfl : gn = s.gens := mv.gens
        obtain rfl : dr = s.drawn := mv.drawn
        obtain rfl : os = s.os := mv.os
        show wpAny _ _ _ _ _ _
        refine wpAny_pure ?_
        show wpAny _ _ (ret Value.none) _ _ _
        rw [size] at few'
        refine wpAny_pure ⟨rfl, hp, tk, m, rfl, isS, few', fun b o e => ?_⟩
        have lt0 : b < s.heap.objs.size := Heap.lt_size e
        refine mv.heap b o ?_ (Heap.get?_push_of_some _ (Heap.get?_push_of_some _ e))
        intro h
        rw [z1] at h
        simp only [List.mem_cons, List.not_mem_nil, or_false] at h
        rcases h with h | h
        · exact absurd h (Nat.ne_of_lt lt0)
        · exact absurd h (Nat.ne_of_lt (Nat.lt_succ_of_lt lt0))
    · rcases r₂ with e | fl₂
      · exact got₂
      cases fl₂ with
      | ret r =>
        rcases got₂ with ⟨rfl, hp, tk, m, rfl, isS, few', keep⟩
        repeat (any_goals (first | assumption | wp_step))
        exact fin _ _ _ isS few' keep
      | _ => exact got₂.elim
  | _ => exact got.elim
end
section
variable {X : Cx}
/-- set(xs), xs a list of few ints -/
def rSetL (K : PySem.W.Frag) (w : World) : List V → Hp → VK → Prop := fun vs H Q => ∃ (l : Addr) (ks : List Int), vs = [.ref l] ∧ SqL K H l (ks.map V.int) ∧ ks.length ≤ 60 ∧
  ∀ (p : Addr) (m : Nat), H p = none → m ≤ ks.length → Q (.ref p) (upd H p (SetO w p (fun j => decide (j ∈ ks)) m))
theorem cr_setL (hc : X.calm = true) : CallR X (.type "set") (rSetL X.K X.w) := by
  intro pins s σ H vs us Q inv rels ask
  rcases ask with ⟨l, ks, rfl, sq, few, fin⟩
  rcases inv.list sq with ⟨its, vals, plain, z⟩
  rw [Vals.ref1 rels]
  refine set_of_list ks (inv.ok.hd hc) plain.isList (by simpa using vals.ints) (by unfold scanBound; omega) fun hp tk m isS few' keep => ?_
  exact ⟨.ref _, upd H s.heap.objs.size (SetO X.w s.heap.objs.size (fun j => decide (j ∈ ks)) m), inv.laid (t' := tk) keep (Nat.le_refl _) (setO_new isS), rfl, fin _ m (inv.hok.fresh (Nat.le_refl _)) few'⟩
end
end K71W

/-! ## Wk19 -/
set_option Elab.async false
set_option linter.all false
set_option maxRecDepth 100000
namespace K71W
open PySem PySem.Spec PyProof.Rows L2
open K71 (push mul pl mul_cons mul_nil mul_snoc)
section
variable {P : Program} {w : World} {K : PySem.W.Frag} {mg : Str → Option Value} {base : Heap}
abbrev sMkPlain : Stmt := topS 46
theorem scMkPlain : FnScope ["_law_letters", "_law_found", "_law_letter"] ["_law_letters"] (defScope sMkPlain) := ⟨rfl, rfl, rfl, by decide +kernel, rfl, by decide +kernel, by decide +kernel⟩
theorem ok_mkPlainL {f : Addr} {fd : FuncData} {k : Nat} (D : Def K mg "_law_mk_plain" sMkPlain ["_law_letters"] f fd) (mt : mg "tuple" = none) :
    FnOk P w K mg base CX0 (k + 1) f fd ["_law_letters"] (spPlainL K) := by
  refine D.F.ok scMkPlain (fun vs H Q E h => ?_) (fun cdv A outer s H vs Q E hr h => ?_)
  · obtain ⟨a, ns, rfl, _⟩ := h; rfl
  · obtain ⟨a, ns, rfl, hS, hlen, q⟩ := h
    refine ⟨_, pss_cons (ps_set (i := 1) scMkPlain.nd rfl (.inl rfl) (pe_lst pa_nil))
      (pss_cons (ps_for PassesOwn.never rfl (pi_list (pv 0)) (pg_name (i := 2) scMkPlain.nd rfl (.inl rfl))
        (pss_one (ps_if (PW.pt (pw_and (pt_cmpR (op_neD hr.units) (pv 1) (pe_lst pa_nil) (nomark _)) (pw_and1 (pt_cmpR op_eq (pe_ix ix_list (pv 1) (pe_un un_neg pe_int) (fun _ _ => rfl)) (pe_op op_sub pe_int (pv 2)) (nomark _)))))
          (pss_one (ps_expr (pe_bm0 PySem.F.plainAttrs_list PySem.F.slot_list_pop PySem.F.type_list_pop mt_pop (pv 1))))
          (pss_one (ps_expr (pe_bm PySem.F.plainAttrs_list PySem.F.slot_list_append PySem.F.type_list_append mt_append (pv 1) (pa_cons (pv 2) pa_nil)))))))
      (pss_one (ps_ret (pe_callTy call_tuple_of (by rfl) mt (by decide +kernel) (pa_cons (pv 1) pa_nil))))), ?_⟩
    refine ⟨Nat.zero_le _, fun o no => ?_⟩
    have s1 : Same H (upd H o (.lst [])) := same_upd no
    refine ⟨.ref a, rfl, a, rfl, ⟨_, s1.seq hS⟩, for_list (xs := ns.map V.int) (fun i σ H3 => ∃ y2, σ = [some (.ref a), some (.ref o), y2] ∧ Same H H3 ∧ H3 o = some (.lst ((pl (ns.take i)).map V.int)))
      ⟨none, rfl, s1, by rw [upd_same]; rfl⟩ (fun i σ H3 hi h => by obtain ⟨_, _, sm, _⟩ := h; exact sm.seq hS) (fun i x σ H3 hx h => ?_) (fun σ H3 h => ?_)⟩
    · obtain ⟨y2, rfl, sm, eo⟩ := h
      have hi : i < ns.length := by have := (List.getElem?_eq_some_iff.1 hx).1; simpa using this
      have ex : x = .int ns[i] := by rw [List.getElem?_map, List.getElem?_eq_getElem hi] at hx; exact (Option.some.inj hx).symm
      subst ex
      have hp := pl_take_succ (List.getElem?_eq_getElem hi)
      have hl : (pl (ns.take i)).length ≤ 100000 := Nat.le_trans (pl_len _) (by rw [List.length_take]; omega)
      refine ⟨.ref o, rfl, Nat.zero_le _, fun c nc => ?_⟩
      have eo' : (upd H3 c (.lst [])) o = some (.lst ((pl (ns.take i)).map V.int)) := by rw [upd_ne (ne_of_none eo nc)]; exact eo
      have sm' : Same H (upd H3 c (.lst [])) := sm.trans (same_upd nc)
      refine ⟨.list ((pl (ns.take i)).map .int), .list [], .lst (SqL.of eo') (dp_ints _), .lst (SqL.of upd_same) .nil, shaped_list _, shaped_list [], ?_⟩
      have ev : PyData.eqv (.list ((pl (ns.take i)).map .int)) (.list []) = decide (pl (ns.take i) = []) := eqv_ints _ []
      rw [ev]
      refine ⟨_, rfl, ?_⟩
      cases hl2 : (pl (ns.take i)).getLast? with
      | none =>
        have e0 : pl (ns.take i) = [] := List.getLast?_eq_none_iff.1 hl2
        rw [e0] at hp eo eo' ⊢
        show if (!decide (([] : List Int) = [])) = true then _ else _
        rw [if_neg (by decide)]
        show if false = true then _ else _
        refine iteF ?_
        refine ⟨.ref o, rfl, .inl ⟨rfl, _, SqL.of eo'⟩, .int ns[i], rfl, o, _, _, rfl, rfl, eo', by decide, ?_⟩
        refine ⟨_, rfl, fun b z e => ?_, ?_⟩
        · rw [upd_ne (ne_of_none e no)]; exact sm' _ _ e
        · rw [upd_same, hp]; rfl
      | some v =>
        obtain ⟨ys, e0⟩ := List.getLast?_eq_some_iff.1 hl2
        rw [e0] at hp eo eo' hl ⊢
        show if (!decide ((ys ++ [v] : List Int) = [])) = true then _ else _
        rw [if_pos (by simp)]
        have em : (ys ++ [v]).map V.int = ys.map V.int ++ [V.int v] := by simp
        refine ⟨.ref o, rfl, 1, rfl, o, _, _, .int v, rfl, rfl, SqL.of eo', by rw [em]; exact atI_last _ _, .int ns[i], rfl, 0, ns[i], rfl, rfl, ?_⟩
        refine ⟨rfl, _, rfl, ite2 (fun e => ?_) (fun e => ?_)⟩
        · have ev2 : v = 0 - ns[i] := V.int.inj (of_decide_eq_true e)
          have hpush : pl (ns.take (i + 1)) = ys := by
            rw [hp]; unfold push
            rw [List.getLast?_concat, if_pos (by rw [ev2]; congr 1; omega), List.dropLast_concat]
          refine ⟨.ref o, rfl, .inl ⟨rfl, _, SqL.of eo'⟩, o, _, .int v, rfl, rfl, eo', ?_, ?_⟩
          · rw [em]; simp
          · refine ⟨_, rfl, fun b z e => ?_, ?_⟩
            · rw [upd_ne (ne_of_none e no)]; exact sm' _ _ e
            · rw [upd_same, hpush, em]; simp
        · have ev2 : v ≠ 0 - ns[i] := fun h => e (decide_eq_true (by rw [h]))
          have hpush : pl (ns.take (i + 1)) = ys ++ [v] ++ [ns[i]] := by
            rw [hp]; unfold push
            rw [List.getLast?_concat, if_neg (by intro h; injection h with h; exact ev2 (by omega))]
          refine ⟨.ref o, rfl, .inl ⟨rfl, _, SqL.of eo'⟩, .int ns[i], rfl, o, _, _, rfl, rfl, eo', ?_, ?_⟩
          · rw [List.length_map]; exact Nat.lt_of_le_of_lt hl (by decide)
          · refine ⟨_, rfl, fun b z e => ?_, ?_⟩
            · rw [upd_ne (ne_of_none e no)]; exact sm' _ _ e
            · rw [upd_same, hpush]; simp
    · obtain ⟨y2, rfl, sm, eo⟩ := h
      rw [List.length_map, List.take_length] at eo
      exact ⟨.ref o, rfl, o, _, rfl, .inl ⟨SqL.of eo, fun l hl => q _ _ (sm.trans (same_upd hl)) (by
        cases e : H l with
        | none => rfl
        | some z => rw [sm _ _ e] at hl; cases hl) upd_same⟩⟩
theorem ok_mkPlainT {f : Addr} {fd : FuncData} {k : Nat} (D : Def K mg "_law_mk_plain" sMkPlain ["_law_letters"] f fd) (mt : mg "tuple" = none) :
    FnOk P w K mg base CX0 (k + 1) f fd ["_law_letters"] (spPlainT K) := by
  refine D.F.ok scMkPlain (fun vs H Q E h => ?_) (fun cdv A outer s H vs Q E hr h => ?_)
  · obtain ⟨a, ns, rfl, _⟩ := h; rfl
  · obtain ⟨a, ns, rfl, hS, hlen, q⟩ := h
    refine ⟨_, pss_cons (ps_set (i := 1) scMkPlain.nd rfl (.inl rfl) (pe_lst pa_nil))
      (pss_cons (ps_for PassesOwn.never rfl (pi_tup (pv 0)) (pg_name (i := 2) scMkPlain.nd rfl (.inl rfl))
        (pss_one (ps_if (PW.pt (pw_and (pt_cmpR (op_neD hr.units) (pv 1) (pe_lst pa_nil) (nomark _)) (pw_and1 (pt_cmpR op_eq (pe_ix ix_list (pv 1) (pe_un un_neg pe_int) (fun _ _ => rfl)) (pe_op op_sub pe_int (pv 2)) (nomark _)))))
          (pss_one (ps_expr (pe_bm0 PySem.F.plainAttrs_list PySem.F.slot_list_pop PySem.F.type_list_pop mt_pop (pv 1))))
          (pss_one (ps_expr (pe_bm PySem.F.plainAttrs_list PySem.F.slot_list_append PySem.F.type_list_append mt_append (pv 1) (pa_cons (pv 2) pa_nil)))))))
      (pss_one (ps_ret (pe_callTy call_tuple_of (by rfl) mt (by decide +kernel) (pa_cons (pv 1) pa_nil))))), ?_⟩
    refine ⟨Nat.zero_le _, fun o no => ?_⟩
    have s1 : Same H (upd H o (.lst [])) := same_upd no
    refine ⟨.ref a, rfl, a, rfl, ⟨_, seqT s1 hS⟩, for_tup (xs := ns.map V.int) (fun i σ H3 => ∃ y2, σ = [some (.ref a), some (.ref o), y2] ∧ Same H H3 ∧ H3 o = some (.lst ((pl (ns.take i)).map V.int)))
      ⟨none, rfl, s1, by rw [upd_same]; rfl⟩ (fun i σ H3 hi h => by obtain ⟨_, _, sm, _⟩ := h; exact seqT sm hS) (fun i x σ H3 hx h => ?_) (fun σ H3 h => ?_)⟩
    · obtain ⟨y2, rfl, sm, eo⟩ := h
      have hi : i < ns.length := by have := (List.getElem?_eq_some_iff.1 hx).1; simpa using this
      have ex : x = .int ns[i] := by rw [List.getElem?_map, List.getElem?_eq_getElem hi] at hx; exact (Option.some.inj hx).symm
      subst ex
      have hp := pl_take_succ (List.getElem?_eq_getElem hi)
      have hl : (pl (ns.take i)).length ≤ 100000 := Nat.le_trans (pl_len _) (by rw [List.length_take]; omega)
      refine ⟨.ref o, rfl, Nat.zero_le _, fun c nc => ?_⟩
      have eo' : (upd H3 c (.lst [])) o = some (.lst ((pl (ns.take i)).map V.int)) := by rw [upd_ne (ne_of_none eo nc)]; exact eo
      have sm' : Same H (upd H3 c (.lst [])) := sm.trans (same_upd nc)
      refine ⟨.list ((pl (ns.take i)).map .int), .list [], .lst (SqL.of eo') (dp_ints _), .lst (SqL.of upd_same) .nil, shaped_list _, shaped_list [], ?_⟩
      have ev : PyData.eqv (.list ((pl (ns.take i)).map .int)) (.list []) = decide (pl (ns.take i) = []) := eqv_ints _ []
      rw [ev]
      refine ⟨_, rfl, ?_⟩
      cases hl2 : (pl (ns.take i)).getLast? with
      | none =>
        have e0 : pl (ns.take i) = [] := List.getLast?_eq_none_iff.1 hl2
        rw [e0] at hp eo eo' ⊢
        show if (!decide (([] : List Int) = [])) = true then _ else _
        rw [if_neg (by decide)]
        show if false = true then _ else _
        refine iteF ?_
        refine ⟨.ref o, rfl, .inl ⟨rfl, _, SqL.of eo'⟩, .int ns[i], rfl, o, _, _, rfl, rfl, eo', by decide, ?_⟩
        refine ⟨_, rfl, fun b z e => ?_, ?_⟩
        · rw [upd_ne (ne_of_none e no)]; exact sm' _ _ e
        · rw [upd_same, hp]; rfl
      | some v =>
        obtain ⟨ys, e0⟩ := List.getLast?_eq_some_iff.1 hl2
        rw [e0] at hp eo eo' hl ⊢
        show if (!decide ((ys ++ [v] : List Int) = [])) = true then _ else _
        rw [if_pos (by simp)]
        have em : (ys ++ [v]).map V.int = ys.map V.int ++ [V.int v] := by simp
        refine ⟨.ref o, rfl, 1, rfl, o, _, _, .int v, rfl, rfl, SqL.of eo', by rw [em]; exact atI_last _ _, .int ns[i], rfl, 0, ns[i], rfl, rfl, ?_⟩
        refine ⟨rfl, _, rfl, ite2 (fun e => ?_) (fun e => ?_)⟩
        · have ev2 : v = 0 - ns[i] := V.int.inj (of_decide_eq_true e)
          have hpush : pl (ns.take (i + 1)) = ys := by
            rw [hp]; unfold push
            rw [List.getLast?_concat, if_pos (by rw [ev2]; congr 1; omega), List.dropLast_concat]
          refine ⟨.ref o, rfl, .inl ⟨rfl, _, SqL.of eo'⟩, o, _, .int v, rfl, rfl, eo', ?_, ?_⟩
          · rw [em]; simp
          · refine ⟨_, rfl, fun b z e => ?_, ?_⟩
            · rw [upd_ne (ne_of_none e no)]; exact sm' _ _ e
            · rw [upd_same, hpush, em]; simp
        · have ev2 : v ≠ 0 - ns[i] := fun h => e (decide_eq_true (by rw [h]))
          have hpush : pl (ns.take (i + 1)) = ys ++ [v] ++ [ns[i]] := by
            rw [hp]; unfold push
            rw [List.getLast?_concat, if_neg (by intro h; injection h with h; exact ev2 (by omega))]
          refine ⟨.ref o, rfl, .inl ⟨rfl, _, SqL.of eo'⟩, .int ns[i], rfl, o, _, _, rfl, rfl, eo', ?_, ?_⟩
          · rw [List.length_map]; exact Nat.lt_of_le_of_lt hl (by decide)
          · refine ⟨_, rfl, fun b z e => ?_, ?_⟩
            · rw [upd_ne (ne_of_none e no)]; exact sm' _ _ e
            · rw [upd_same, hpush]; simp
    · obtain ⟨y2, rfl, sm, eo⟩ := h
      rw [List.length_map, List.take_length] at eo
      exact ⟨.ref o, rfl, o, _, rfl, .inl ⟨SqL.of eo, fun l hl => q _ _ (sm.trans (same_upd hl)) (by
        cases e : H l with
        | none => rfl
        | some z => rw [sm _ _ e] at hl; cases hl) upd_same⟩⟩
end
end K71W

/-! ## Wk20 -/
set_option Elab.async false
set_option linter.all false
set_option maxRecDepth 100000
namespace K71W
open PySem PySem.Spec PyProof.Rows L2
open K71 (Pl Fits pl)
section
variable {P : Program} {w : World} {K : PySem.W.Frag} {mg : Str → Option Value} {base : Heap}

abbrev sPick : Stmt := topS 44
theorem scPick : FnScope ["_law_state", "_law_some"] ["_law_state", "_law_some"] (defScope sPick) := ⟨rfl, rfl, rfl, by decide +kernel, rfl, by decide +kernel, by decide +kernel⟩
def spPick : Sp := fun vs H Q _ => ∃ (d g c : Addr) (T : Nat) (a : Addr) (ns : List Int), vs = [.ref d, .ref a] ∧ St d g c T H ∧ T ≤ 1000000 ∧ H a = some (.lst (ns.map V.int)) ∧ a ≠ g ∧ ns ≠ [] ∧ ns.length ≤ 1000 ∧
  ∀ H' x, x ∈ ns → Kept d g H H' → St d g c (T + 1) H' → Q (.int x) H'
theorem Kept.lst {d g c : Addr} {T : Nat} {H H' : Hp} (k : Kept d g H H') (st : St d g c T H) {p : Addr} {xs : List V} (h : H p = some (.lst xs)) (n : p ≠ g) : H' p = some (.lst xs) := by
  obtain ⟨gs, cs, rest, turn, h1, h2, _⟩ := st
  exact k p _ (ne_of h h1 (by intro z; cases z)) n h
theorem ok_pick (D : ∃ f fd, Def K mg "_law_pick" sPick ["_law_state", "_law_some"] f fd) (DR : Fn P w K mg base "_law_draw" ["_law_state", "_law_room"] 2 spDraw) (ml : mg "len" = none) :
    Fn P w K mg base "_law_pick" ["_law_state", "_law_some"] 3 spPick := by
  obtain ⟨f, fd, D⟩ := D
  obtain ⟨fD, fdD, bD, gD, kD, GD⟩ := DR
  refine D.fn (D.F.ok scPick (fun vs H Q E h => ?_) (fun cdv A outer s H vs Q E hr h => ?_))
  · obtain ⟨d, g, c, T, a, ns, rfl, _⟩ := h; rfl
  · obtain ⟨d, g, c, T, a, ns, rfl, st, hT, ha, hag, hne, hl, q⟩ := h
    refine ⟨_, (pss_one (ps_ret (pe_ix ix_list (pv 1) (pe_call GD (hr.mono (by decide)) (by rfl) gD kD bD .nil pass0 (pa_cons (pv 0) (pa_cons (pe_callB call_len_seq (by rfl) ml PySem.boot_len (pa_cons (pv 1) pa_nil)) pa_nil))) (fun _ _ => rfl)))), ?_⟩
    have hpos := List.length_pos_iff.2 hne
    refine ⟨.ref a, rfl, .ref d, rfl, .ref a, rfl, a, _, rfl, .inl (SqL.of ha), d, g, c, T, ns.length, by rw [List.length_map]; rfl, st, hT, hpos, hl, fun H1 z hz k1 st1 => ?_⟩
    exact ⟨a, _, _, .int ns[z], rfl, rfl, SqL.of (k1.lst st ha hag), atI_nat (ints_get hz), q H1 _ (List.getElem_mem hz) k1 st1⟩
abbrev sShuf : Stmt := topS 45
theorem scShuf : FnScope ["_law_state", "_law_some", "_law_left", "_law_found"] ["_law_state", "_law_some"] (defScope sShuf) := ⟨rfl, rfl, rfl, by decide +kernel, rfl, by decide +kernel, by decide +kernel⟩
def spShuf : Sp := fun vs H Q _ => ∃ (d g c : Addr) (T : Nat) (a : Addr) (ns : List Int), vs = [.ref d, .ref a] ∧ St d g c T H ∧ T + ns.length ≤ 1000000 ∧ H a = some (.lst (ns.map V.int)) ∧ ns.length ≤ 1000 ∧
  ∀ H' p ms, Kept d g H H' → St d g c (T + ns.length) H' → H p = none → H' p = some (.lst (ms.map V.int)) → List.Perm ms ns → Q (.ref p) H'
theorem erase_map {α β : Type} (f : α → β) : ∀ (l : List α) (i : Nat), (l.map f).eraseIdx i = (l.eraseIdx i).map f
  | [], _ => by simp
  | x :: l, 0 => by simp
  | x :: l, i + 1 => by simp only [List.map_cons, List.eraseIdx_cons_succ, erase_map f l i]
theorem perm_erase {α : Type} {l : List α} {i : Nat} (h : i < l.length) : List.Perm (l[i] :: l.eraseIdx i) l := by
  induction l generalizing i with
  | nil => cases h
  | cons x l ih =>
    cases i with
    | zero => exact List.Perm.refl _
    | succ i => exact (List.Perm.swap _ _ _).trans (List.Perm.cons x (ih (by simpa using h)))
theorem ok_shuf (D : ∃ f fd, Def K mg "_law_shuffled" sShuf ["_law_state", "_law_some"] f fd) (DR : Fn P w K mg base "_law_draw" ["_law_state", "_law_room"] 2 spDraw) (ml : mg "len" = none) (m_list : mg "list" = none) :
    Fn P w K mg base "_law_shuffled" ["_law_state", "_law_some"] 3 spShuf := by
  obtain ⟨f, fd, D⟩ := D
  obtain ⟨fD, fdD, bD, gD, kD, GD⟩ := DR
  refine D.fn (D.F.ok scShuf (fun vs H Q E h => ?_) (fun cdv A outer s H vs Q E hr h => ?_))
  · obtain ⟨d, g, c, T, a, ns, rfl, _⟩ := h; rfl
  · obtain ⟨d, g, c, T, a, ns, rfl, st, hT, ha, hl, q⟩ := h
    refine ⟨_, (pss_cons (ps_par (i := 2) (j := 3) (by rfl) scShuf.nd rfl rfl (by decide) rfl rfl (pa_cons (pe_callTy call_list_of (by rfl) m_list (by decide +kernel) (pa_cons (pv 1) pa_nil)) (pa_cons (pe_lst pa_nil) pa_nil)) (by rfl))
      (pss_cons (ps_while PassesOwn.never (pt_cmpR (op_neD hr.units) (pv 2) (pe_lst pa_nil) (nomark _)) (pss_one (ps_expr (pe_bm PySem.F.plainAttrs_list PySem.F.slot_list_append PySem.F.type_list_append mt_append (pv 3) (pa_cons (pe_bm PySem.F.plainAttrs_list PySem.F.slot_list_pop PySem.F.type_list_pop mt_popAt (pv 2) (pa_cons (pe_call GD (hr.mono (by decide)) (by rfl) gD kD bD .nil pass0 (pa_cons (pv 0) (pa_cons (pe_callB call_len_seq (by rfl) ml PySem.boot_len (pa_cons (pv 2) pa_nil)) pa_nil))) pa_nil)) pa_nil)))))
      (pss_one (ps_ret (pv 3))))), ?_⟩
    refine ⟨.ref a, rfl, a, _, rfl, .inl (SqL.of ha), fun l nl => ⟨Nat.zero_le _, fun o no => ⟨_, _, rfl, ?_⟩⟩⟩
    have s1 := same_upd (o := .lst (ns.map V.int)) nl
    have s2 := same_upd (o := .lst []) no
    have no0 : H o = none := Same.free s1 no
    have hlo : l ≠ o := fun e => by rw [← e, upd_same] at no; cases no
    have st2 := (st.same s1).same s2
    have nl2 : (upd (upd H l (.lst (ns.map V.int))) o (.lst [])) l = some (.lst (ns.map V.int)) := s2 _ _ upd_same
    have hlg := (st.ne nl).2
    have hog := (st.ne no0).2
    refine ⟨fun m σ H3 => ∃ (rem fs : List Int), σ = [some (.ref d), some (.ref a), some (.ref l), some (.ref o)] ∧ Kept d g H H3 ∧ St d g c (T + fs.length) H3 ∧ H3 l = some (.lst (rem.map V.int)) ∧ H3 o = some (.lst (fs.map V.int)) ∧ List.Perm (fs ++ rem) ns ∧ m = rem.length,
      ⟨_, ns, [], rfl, (s1.trans s2).kept, st2, nl2, upd_same, List.Perm.refl _, rfl⟩, fun m σ H3 h => ?_⟩
    obtain ⟨rem, fs, rfl, k3, st3, el, eo, perm, rfl⟩ := h
    have hsum : fs.length + rem.length = ns.length := by have := perm.length_eq; rwa [List.length_append] at this
    refine ⟨_, rfl, Nat.zero_le _, fun cc nc => ?_⟩
    have s4 := same_upd (o := .lst []) nc
    refine ⟨.list (rem.map .int), .list [], .lst (SqL.of (s4 _ _ el)) (dp_ints _), .lst (SqL.of upd_same) .nil, shaped_list _, shaped_list [], ?_⟩
    have ev : PyData.eqv (.list (rem.map .int)) (.list []) = decide (rem = []) := eqv_ints _ []
    rw [ev]
    refine ⟨_, rfl, ?_⟩
    by_cases c0 : rem = []
    · rw [decide_eq_true c0]
      refine iteF ?_
      subst c0
      rw [List.append_nil] at perm
      exact ⟨_, rfl, q _ o fs (k3.trans s4.kept) (by have e : fs.length = ns.length := perm.length_eq
                                                     rw [← e]; exact st3.same s4) no0 (s4 _ _ eo) perm⟩
    · rw [decide_eq_false c0]
      refine iteT ?_
      have hpos := List.length_pos_iff.2 c0
      refine ⟨fun σ' H' => ∃ m' < rem.length, ∃ (rem' fs' : List Int), σ' = [some (.ref d), some (.ref a), some (.ref l), some (.ref o)] ∧ Kept d g H H' ∧ St d g c (T + fs'.length) H' ∧ H' l = some (.lst (rem'.map V.int)) ∧ H' o = some (.lst (fs'.map V.int)) ∧ List.Perm (fs' ++ rem') ns ∧ m' = rem'.length, fun σ' H' h => by obtain ⟨m', h1, h2⟩ := h; exact ⟨m', h1, h2⟩, ?_⟩
      refine ⟨.ref o, rfl, .inl ⟨rfl, _, SqL.of (s4 _ _ eo)⟩, .ref l, rfl, .inl ⟨rfl, _, SqL.of (s4 _ _ el)⟩, .ref d, rfl, .ref l, rfl, l, _, rfl, .inl (SqL.of (s4 _ _ el)), d, g, c, T + fs.length, rem.length, by rw [List.length_map]; rfl, st3.same s4, by omega, hpos, by omega, fun H5 z hz k5 st5 => ?_⟩
      have el5 := k5.lst (st3.same s4) (s4 _ _ el) hlg
      have eo5 := k5.lst (st3.same s4) (s4 _ _ eo) hog
      refine ⟨l, _, (z : Int), z, .int rem[z], rfl, rfl, el5, by omega, by omega, (L2.ixN_seq (i := (z : Int)) (j := z) (by unfold L2.ixN; rw [List.length_map, if_pos (by omega), if_pos (by omega)]; simp)).1, ints_get hz, ?_⟩
      have eo6 : (upd H5 l (.lst ((rem.map V.int).eraseIdx z))) o = some (.lst (fs.map V.int)) := by rw [upd_ne (Ne.symm hlo)]; exact eo5
      refine ⟨o, _, _, rfl, rfl, eo6, by rw [List.length_map]; exact Nat.lt_of_lt_of_le (by omega : fs.length < 100000) (by decide), ?_⟩
      have k6 : Kept d g H (upd (upd H5 l (.lst ((rem.map V.int).eraseIdx z))) o (.lst (fs.map V.int ++ [.int rem[z]]))) := Kept.own no0 (Kept.own nl ((k3.trans s4.kept).trans k5))
      have perm2 : List.Perm (rem[z] :: rem.eraseIdx z) rem := perm_erase hz
      refine ⟨(rem.eraseIdx z).length, by rw [List.length_eraseIdx]; rw [if_pos hz]; omega, rem.eraseIdx z, fs ++ [rem[z]], rfl, k6, ?_, ?_, by rw [upd_same, List.map_append]; rfl, ?_, rfl⟩
      · have e : T + (fs ++ [rem[z]]).length = T + fs.length + 1 := by rw [List.length_append]; rfl
        rw [e]
        exact st.own no0 (st.own nl st5)
      · rw [upd_ne hlo, upd_same, erase_map]
      · rw [List.append_assoc]
        exact (List.Perm.append_left fs perm2).trans perm
end
end K71W

/-! ## Wk21 -/
set_option Elab.async false
set_option linter.all false
set_option maxRecDepth 100000
namespace K71W
open PySem PySem.Spec PyProof.Rows L2
open K71 (Pl Fits pl)
section
variable {P : Program} {w : World} {K : PySem.W.Frag} {mg : Str → Option Value} {base : Heap}

abbrev sMkUndone : Stmt := topS 47
theorem scMkUndone : FnScope ["_law_row", "_law_letter"] ["_law_row"] (defScope sMkUndone) := ⟨rfl, rfl, rfl, by decide +kernel, rfl, by decide +kernel, by decide +kernel⟩
theorem ok_mkUndone (D : ∃ f fd, Def K mg "_law_mk_undone" sMkUndone ["_law_row"] f fd) (mt : mg "tuple" = none) : Fn P w K mg base "_law_mk_undone" ["_law_row"] 1 (spUndone K) := by
  obtain ⟨f, fd, D⟩ := D
  refine D.fn (D.F.ok scMkUndone (fun vs H Q E h => ?_) (fun cdv A outer s H vs Q E hr h => ?_))
  · obtain ⟨a, ns, rfl, _⟩ := h; rfl
  · obtain ⟨a, ns, rfl, hS, hlen, q⟩ := h
    refine ⟨_, (pss_one (ps_ret (pe_callTy call_tuple_of (by rfl) mt (by decide +kernel) (pa_cons (pe_lc (own := [("_law_letter", 1)]) (g := gName 1) (tt := tYes) rfl scMkUndone.nd (pi_tup (pe_revT (pv 0))) (blkOk_by (N := ["_law_row", "_law_letter"]) (sc := defScope sMkUndone) (by decide +kernel))
        (fun _ _ _ _ _ => pg_name (i := 1) scMkUndone.nd rfl (Or.inl rfl)) (fun _ _ _ _ _ => pts_nil) (fun _ _ _ _ _ => (pe_op op_sub pe_int (pv 1)))) pa_nil)))), ?_⟩
    refine ⟨.ref a, rfl, a, _, rfl, hS, fun p np => ?_⟩
    have s0 := same_upd (o := .tup (ns.map V.int).reverse) np
    have ep : (upd H p (.tup (ns.map V.int).reverse)) p = some (.tup (ns.reverse.map V.int)) := by rw [upd_same, List.map_reverse]
    refine ⟨p, rfl, ⟨_, SqT.of ep⟩, fun o no => ?_⟩
    refine lc_tup (xs := ns.reverse.map V.int) (fun i H3 => Same (upd H p (.tup (ns.map V.int).reverse)) H3 ∧ H3 o = some (.lst (((K71.inv ns).take i).map V.int)))
      ⟨same_upd no, by rw [upd_same]; rfl⟩ (fun i H3 hi h => SqT.of (h.1 _ _ ep)) (fun i x H3 hx h => ?_) (fun H3 h => ?_)
    · obtain ⟨sm, eo⟩ := h
      have hi : i < ns.reverse.length := by have := (List.getElem?_eq_some_iff.1 hx).1; simpa using this
      have ex : x = .int ns.reverse[i] := by rw [ints_get hi] at hx; exact (Option.some.inj hx).symm
      subst ex
      have hi' : i < ns.length := by rwa [List.length_reverse] at hi
      refine ⟨rfl, _, rfl, 0, _, rfl, rfl, _, eo, ?_, same_own no sm, ?_⟩
      · rw [List.length_map, List.length_take]; exact Nat.lt_of_le_of_lt (Nat.min_le_left _ _) (Nat.lt_of_lt_of_le (Nat.lt_succ_of_le (by omega : i ≤ 100000)) (by decide))
      · have e1 : (K71.inv ns)[i]? = some (0 - ns.reverse[i]) := by
          rw [K71.inv_get hi', List.getElem_reverse]; congr 1; omega
        rw [upd_same, List.take_add_one, e1, List.map_append]; rfl
    · obtain ⟨sm, eo⟩ := h
      rw [List.length_map, List.length_reverse, List.take_of_length_le (by rw [K71.inv_length]; exact Nat.le_refl _)] at eo
      exact ⟨o, _, rfl, .inl ⟨SqL.of eo, fun l hl => q _ _ ((s0.trans sm).trans (same_upd hl)) (Same.free (s0.trans sm) hl) upd_same⟩⟩
abbrev sMkLetters : Stmt := topS 48
theorem scMkLetters : FnScope ["_law_deeds", "_law_deed"] ["_law_deeds"] (defScope sMkLetters) := ⟨rfl, rfl, rfl, by decide +kernel, rfl, by decide +kernel, by decide +kernel⟩
def ltrs (n : Nat) : List Int := (List.range n).map (fun i => (1 : Int) + (i : Nat)) ++ (List.range n).map (fun i => 0 - ((1 : Int) + (i : Nat)))
theorem ltrs_length (n : Nat) : (ltrs n).length = 2 * n := by simp [ltrs]; omega
theorem ltrs_fit {n : Nat} {x : Int} (h : x ∈ ltrs n) : x ≠ 0 ∧ -(n : Int) ≤ x ∧ x ≤ n := by
  unfold ltrs at h
  rw [List.mem_append, List.mem_map, List.mem_map] at h
  rcases h with ⟨i, hi, rfl⟩ | ⟨i, hi, rfl⟩ <;> (have := List.mem_range.1 hi; omega)
theorem one_ltrs {n : Nat} (h : 1 ≤ n) : (1 : Int) ∈ ltrs n ∧ (-1 : Int) ∈ ltrs n := by
  unfold ltrs
  rw [List.mem_append, List.mem_append]
  exact ⟨.inl (List.mem_map.2 ⟨0, List.mem_range.2 h, rfl⟩), .inr (List.mem_map.2 ⟨0, List.mem_range.2 h, rfl⟩)⟩
def spLetters : Sp := fun vs H Q _ => ∃ n : Nat, vs = [.int (n : Int)] ∧ 1 ≤ n ∧ n ≤ 4 ∧ ∀ H' p, Same H H' → H p = none → H' p = some (.lst ((ltrs n).map V.int)) → Q (.ref p) H'
theorem rgV_one (n : Nat) : rgV 1 ((n : Int) + 1) = ((List.range n).map fun i => (1 : Int) + (i : Nat)).map V.int := by
  unfold rgV; rw [show ((n : Int) + 1 - 1).toNat = n by omega, List.map_map]; rfl
theorem ok_mkLetters (D : ∃ f fd, Def K mg "_law_mk_letters" sMkLetters ["_law_deeds"] f fd) (m_list : mg "list" = none) (mr : mg "range" = none) : Fn P w K mg base "_law_mk_letters" ["_law_deeds"] 1 spLetters := by
  obtain ⟨f, fd, D⟩ := D
  refine D.fn (D.F.ok scMkLetters (fun vs H Q E h => ?_) (fun cdv A outer s H vs Q E hr h => ?_))
  · obtain ⟨n, rfl, _⟩ := h; rfl
  · obtain ⟨n, rfl, n1, n4, q⟩ := h
    refine ⟨_, (pss_one (ps_ret (pe_op op_cat (pe_listRg rfl (by rfl) m_list (prg_2 (by rfl) mr pe_int (pe_op op_add (pv 0) pe_int))) (pe_lc (own := [("_law_deed", 1)]) (g := gName 1) (tt := tYes) rfl scMkLetters.nd (pi_range2 (by rfl) mr (pa_cons pe_int (pa_cons (pe_op op_add (pv 0) pe_int) pa_nil))) (blkOk_by (N := ["_law_deeds", "_law_deed"]) (sc := defScope sMkLetters) (by decide +kernel))
        (fun _ _ _ _ _ => pg_name (i := 1) scMkLetters.nd rfl (Or.inl rfl)) (fun _ _ _ _ _ => pts_nil) (fun _ _ _ _ _ => (pe_op op_sub pe_int (pv 1))))))), ?_⟩
    refine ⟨.int (n : Int), rfl, (n : Int), 1, rfl, rfl, 1, (n : Int) + 1, rfl, rfl, RgOk.of_le (by decide) (by omega) (by decide) (by omega), fun a na => ?_⟩
    have s1 := same_upd (o := .lst (rgV 1 ((n : Int) + 1))) na
    refine ⟨.int (n : Int), rfl, (n : Int), 1, rfl, rfl, 1, (n : Int) + 1, rfl, by omega, fun o no => ?_⟩
    refine lc_range (lo := 1) (n := ((n : Int) + 1 - 1).toNat) (fun i H3 => Same (upd H a (.lst (rgV 1 ((n : Int) + 1)))) H3 ∧ H3 o = some (.lst (((List.range i).map fun i => 0 - ((1 : Int) + (i : Nat))).map V.int)))
      ⟨same_upd no, by rw [upd_same]; rfl⟩ (fun i H3 hi h => ?_) (fun H3 h => ?_)
    · obtain ⟨sm, eo⟩ := h
      refine ⟨rfl, _, rfl, 0, _, rfl, rfl, _, eo, ?_, same_own no sm, ?_⟩
      · rw [List.length_map, List.length_map, List.length_range]; exact Nat.lt_of_lt_of_le (by omega : i < 100000) (by decide)
      · rw [upd_same, List.range_succ, List.map_append, List.map_append]; rfl
    · obtain ⟨sm, eo⟩ := h
      rw [show ((n : Int) + 1 - 1).toNat = n by omega] at eo
      have ea : H3 a = some (.lst (rgV 1 ((n : Int) + 1))) := sm _ _ upd_same
      rw [rgV_one] at ea
      refine ⟨a, o, _, _, rfl, rfl, ea, eo, ?_, fun p np => ?_⟩
      · rw [List.length_map, List.length_map, List.length_map, List.length_map, List.length_range]; exact Nat.le_trans (by omega : n + n ≤ 100000) (by decide)
      · refine q _ p ((s1.trans sm).trans (same_upd np)) (Same.free (s1.trans sm) np) ?_
        rw [upd_same]; unfold ltrs; rw [List.map_append]
abbrev sMkRow : Stmt := topS 49
theorem scMkRow : FnScope ["_law_state", "_law_deeds", "_law_least", "_law_most", "_law_found", "_law_lap", "_law_some", "_law_letter"] ["_law_state", "_law_deeds", "_law_least", "_law_most"] (defScope sMkRow) := ⟨rfl, rfl, rfl, by decide +kernel, rfl, by decide +kernel, by decide +kernel⟩
def spMkRow : Sp := fun vs H Q _ => ∃ (d g c : Addr) (T n l m : Nat), vs = [.ref d, .int (n : Int), .int (l : Int), .int (m : Int)] ∧ St d g c T H ∧ T + 20 ≤ 1000000 ∧ 1 ≤ n ∧ n ≤ 4 ∧ l ≤ m ∧ m ≤ 10 ∧
  ∀ H' p r, Kept d g H H' → St d g c (T + 1 + m) H' → H p = none → RA H' p r → Pl r → Fits n r → r.length ≤ m → Q (.ref p) H'
theorem fits_snoc {n : Nat} {r : List Int} {x : Int} (h : Fits n r) (hx : x ≠ 0 ∧ -(n : Int) ≤ x ∧ x ≤ n) : Fits n (r ++ [x]) := h.append (K71.fits_one hx)
theorem ok_mkRow (D : ∃ f fd, Def K mg "_law_mk_row" sMkRow ["_law_state", "_law_deeds", "_law_least", "_law_most"] f fd) (DR : Fn P w K mg base "_law_draw" ["_law_state", "_law_room"] 2 spDraw)
    (PK : Fn P w K mg base "_law_pick" ["_law_state", "_law_some"] 3 spPick) (LT : Fn P w K mg base "_law_mk_letters" ["_law_deeds"] 1 spLetters) (mt : mg "tuple" = none) (mr : mg "range" = none) :
    Fn P w K mg base "_law_mk_row" ["_law_state", "_law_deeds", "_law_least", "_law_most"] 4 spMkRow := by
  obtain ⟨f, fd, D⟩ := D
  obtain ⟨fD, fdD, bD, gD, kD, GD⟩ := DR
  obtain ⟨fP, fdP, bP, gP, kP, GP⟩ := PK
  obtain ⟨fL, fdL, bL, gL, kL, GL⟩ := LT
  refine D.fn (D.F.ok scMkRow (fun vs H Q E h => ?_) (fun cdv A outer s H vs Q E hr h => ?_))
  · obtain ⟨d, g, c, T, n, l, m, rfl, _⟩ := h; rfl
  · obtain ⟨d, g, c, T, n, l, m, rfl, st, hT, n1, n4, hlm, hm, q⟩ := h
    refine ⟨_, (pss_cons (ps_set (i := 4) scMkRow.nd rfl (.inr rfl) (pe_lst pa_nil))
      (pss_cons (ps_for PassesOwn.never rfl (pi_range1 (by rfl) mr (pa_cons (pe_op op_add (pv 2) (pe_call GD (hr.mono (by decide)) (by rfl) gD kD bD .nil pass0 (pa_cons (pv 0) (pa_cons (pe_op op_add (pe_op op_sub (pv 3) (pv 2)) pe_int) pa_nil)))) pa_nil)) (pg_name (i := 5) scMkRow.nd rfl (.inl rfl)) (pss_cons (ps_setLc (i := 6) (own := [("_law_letter", 7)]) (g := gName 7) rfl scMkRow.nd rfl rfl (sw_true rfl rfl rfl (by decide +kernel)) (pi_list (pe_call GL (hr.mono (by decide)) (by rfl) gL kL bL .nil pass0 (pa_cons (pv 1) pa_nil))) (blkOk_by (N := ["_law_state", "_law_deeds", "_law_least", "_law_most", "_law_found", "_law_lap", "_law_some", "_law_letter"]) (sc := defScope sMkRow) (by decide +kernel))
        (fun _ _ _ _ _ => pg_name (i := 7) scMkRow.nd rfl (Or.inl rfl)) (fun _ _ _ _ _ => (pts_one (PW.pt (pw_or (pt_cmpR (op_eqDK K rfl hr.units) (pv 4) (pe_lst pa_nil) (nomark _)) (pw_or1 (pt_cmpR op_ne (pv 7) (pe_op op_sub pe_int (pe_ix (ix_listK K rfl) (pv 4) (pe_un un_neg pe_int) (fun _ _ => rfl))) (nomark _))))))) (fun _ _ _ _ _ => (pv 7)))
      (pss_one (ps_expr (pe_bm PySem.F.plainAttrs_list PySem.F.slot_list_append PySem.F.type_list_append mt_append (pv 4) (pa_cons (pe_call GP (hr.mono (by decide)) (by rfl) gP kP bP .nil pass0 (pa_cons (pv 0) (pa_cons (pv 6) pa_nil))) pa_nil))))))
      (pss_one (ps_ret (pe_callTy call_tuple_of (by rfl) mt (by decide +kernel) (pa_cons (pv 4) pa_nil)))))), ?_⟩
    refine ⟨Nat.zero_le _, fun o no => ?_⟩
    have s1 := same_upd (o := .lst []) no
    have og := (st.ne no).2
    refine ⟨_, rfl, .ref d, rfl, _, rfl, _, rfl, _, _, rfl, rfl, _, 1, rfl, rfl, d, g, c, T, m - l + 1, by show [V.ref d, V.int ((m : Int) - (l : Int) + 1)] = _; rw [show ((m : Int) - (l : Int) + 1) = ((m - l + 1 : Nat) : Int) by omega], st.same s1, by omega, by omega, by omega, fun H1 z hz k1 st1 => ?_⟩
    refine ⟨_, _, rfl, rfl, _, rfl, by omega, by omega, ?_⟩
    have eo1 : H1 o = some (.lst []) := k1.lst (st.same s1) upd_same og
    refine for_range (lo := 0) (n := ((l : Int) + (z : Int)).toNat) (fun i σ H3 => ∃ (r : List Int) (y5 y6 y7 : Option V), σ = [some (.ref d), some (.int (n : Int)), some (.int (l : Int)), some (.int (m : Int)), some (.ref o), y5, y6, y7] ∧ Kept d g H H3 ∧ St d g c (T + 1 + i) H3 ∧
        H3 o = some (.lst (r.map V.int)) ∧ Pl r ∧ Fits n r ∧ r.length = i)
      ⟨[], none, none, none, rfl, s1.kept.trans k1, st1, eo1, trivial, fun x hx => (by cases hx), rfl⟩ (fun i σ H3 hi h => ?_) (fun σ H3 h => ?_)
    · obtain ⟨r, y5, y6, y7, rfl, k3, st3, eo, hp, hf, hl⟩ := h
      refine ⟨.int (n : Int), rfl, n, rfl, n1, n4, fun H4 a s4 na ea => ?_⟩
      have eo4 := s4 _ _ eo
      have st4 := st3.same s4
      refine ⟨a, rfl, ⟨_, SqL.of ea⟩, fun o2 no2 => ?_⟩
      have ne2 := st4.ne no2
      -- the letters that may follow
      refine lc_list (xs := (ltrs n).map V.int) (fun j H5 => Same H4 H5 ∧ ∃ ks : List Int, H5 o2 = some (.lst (ks.map V.int)) ∧ ks.length ≤ j ∧ (∀ x, x ∈ ks ↔ x ∈ (ltrs n).take j ∧ r.getLast? ≠ some (-x)))
        ⟨same_upd no2, [], by rw [upd_same]; rfl, Nat.zero_le _, by simp⟩ (fun j H5 hj h => SqL.of (h.1 _ _ ea)) (fun j x H5 hx h => ?_) (fun H5 h => ?_)
      · obtain ⟨s5, ks, e2, kl, kiff⟩ := h
        rw [List.getElem?_map] at hx
        obtain ⟨y, hy, rfl⟩ := Option.map_eq_some_iff.1 hx
        have eo5 := s5 _ _ eo4
        refine ⟨rfl, .ref o, rfl, Nat.zero_le _, fun e ne => ?_⟩
        have s6 := same_upd (o := .lst []) ne
        refine ⟨.list (r.map .int), .list [], .lst (SqL.of (s6 _ _ eo5)) (dp_ints _), .lst (SqL.of upd_same) .nil, shaped_list _, shaped_list [], ?_⟩
        have ev : PyData.eqv (.list (r.map .int)) (.list []) = decide (r = []) := eqv_ints _ []
        rw [ev]
        have yes : ∀ H6, Same H5 H6 → r.getLast? ≠ some (-y) → ∃ ks' : List Int, (upd H6 o2 (.lst (ks.map V.int ++ [.int y]))) o2 = some (.lst (ks'.map V.int)) ∧ ks'.length ≤ j + 1 ∧ (∀ x, x ∈ ks' ↔ x ∈ (ltrs n).take (j + 1) ∧ r.getLast? ≠ some (-x)) := fun H6 _ hne =>
          ⟨ks ++ [y], by rw [upd_same, List.map_append]; rfl, by rw [List.length_append, List.length_singleton]; omega, fun x => by
            rw [List.take_add_one, hy, List.mem_append, List.mem_append, kiff]
            simp only [List.mem_singleton, Option.toList_some]
            constructor
            · rintro (h | h)
              · exact ⟨.inl h.1, h.2⟩
              · exact ⟨.inr h, by rw [h]; exact hne⟩
            · rintro ⟨h | h, h2⟩
              · exact .inl ⟨h, h2⟩
              · exact .inr h⟩
        have room : (ks.map V.int).length < sizeLine := by
          have hj : j < (ltrs n).length := (List.getElem?_eq_some_iff.1 hy).1
          rw [ltrs_length] at hj
          rw [List.length_map]; exact Nat.lt_of_lt_of_le (by omega : ks.length < 100000) (by decide)
        refine ⟨_, rfl, ?_⟩
        cases hlast : r.getLast? with
        | none =>
          have e0 : r = [] := List.getLast?_eq_none_iff.1 hlast
          rw [decide_eq_true e0]
          refine iteT ?_
          refine ⟨_, rfl, _, s6 _ _ e2, room, same_own no2 (s5.trans s6), ?_⟩
          have := yes _ s6 (by rw [hlast]; intro h; cases h)
          rw [hlast] at this; exact this
        | some v =>
          obtain ⟨ys, e0⟩ := List.getLast?_eq_some_iff.1 hlast
          rw [decide_eq_false (by rw [e0]; simp)]
          refine iteF ?_
          have em : r.map V.int = ys.map V.int ++ [V.int v] := by rw [e0]; simp
          refine ⟨_, rfl, .ref o, rfl, 1, rfl, o, _, _, .int v, rfl, rfl, SqL.of (s6 _ _ eo5), by rw [em]; exact atI_last _ _, 0, _, rfl, rfl, rfl, _, rfl, ?_⟩
          show if (!decide (V.int y = V.int (0 - v))) = true then _ else _
          by_cases c1 : y = 0 - v
          · rw [if_neg (by rw [decide_eq_true (by rw [c1])]; decide)]
            refine ⟨s5.trans s6, ks, s6 _ _ e2, by omega, fun x => ?_⟩
            rw [← hlast, kiff, List.take_add_one, hy, List.mem_append]
            simp only [List.mem_singleton, Option.toList_some]
            constructor
            · rintro ⟨h, h2⟩; exact ⟨.inl h, h2⟩
            · rintro ⟨h | h, h2⟩
              · exact ⟨h, h2⟩
              · exfalso; apply h2; rw [hlast, h, c1]; congr 1; omega
          · rw [if_pos (by rw [decide_eq_false (fun h => c1 (V.int.inj h))]; rfl)]
            refine ⟨_, rfl, _, s6 _ _ e2, room, same_own no2 (s5.trans s6), ?_⟩
            have := yes _ s6 (by rw [hlast]; intro h; injection h with h; exact c1 (by omega))
            rw [hlast] at this; exact this
      · obtain ⟨s5, ks, e2, kl, kiff⟩ := h
        rw [List.length_map, ltrs_length] at kl
        have kiff' : ∀ x, x ∈ ks ↔ x ∈ ltrs n ∧ r.getLast? ≠ some (-x) := fun x => by rw [kiff, List.length_map, List.take_length]
        have kne : ks ≠ [] := by
          intro h
          obtain ⟨o1, o2'⟩ := one_ltrs n1
          have h1 := kiff' 1
          have h2 := kiff' (-1)
          rw [h] at h1 h2
          simp only [List.not_mem_nil, false_iff, not_and, ne_eq, Decidable.not_not] at h1 h2
          have a1 := h1 o1
          have a2 := h2 o2'
          rw [a1] at a2; injection a2 with a2; omega
        have st5 := st4.same s5
        refine ⟨.ref o, rfl, .inl ⟨rfl, _, SqL.of (s5 _ _ eo4)⟩, .ref d, rfl, .ref o2, rfl, d, g, c, T + 1 + i, o2, ks, rfl, st5, by omega, e2, ne2.2, kne, by omega, fun H6 x hx k6 st6 => ?_⟩
        have hxk := (kiff' x).1 hx
        have eo6 := k6.lst st5 (s5 _ _ eo4) og
        refine ⟨o, _, _, rfl, rfl, eo6, by rw [List.length_map, hl]; exact Nat.lt_of_lt_of_le (by omega : i < 100000) (by decide), ?_⟩
        refine ⟨r ++ [x], _, _, _, rfl, Kept.own no ((k3.trans s4.kept).trans (s5.kept.trans k6)), ?_, by rw [upd_same, List.map_append]; rfl, K71.pl_snoc.2 ⟨hp, hxk.2⟩, fits_snoc hf (ltrs_fit hxk.1), by rw [List.length_append, hl]; rfl⟩
        exact st.own no (by have e : T + 1 + (i + 1) = T + 1 + i + 1 := by omega
                            rw [e]; exact st6)
    · obtain ⟨r, y5, y6, y7, rfl, k3, st3, eo, hp, hf, hl⟩ := h
      refine ⟨.ref o, rfl, o, _, rfl, .inl ⟨SqL.of eo, fun p np => ?_⟩⟩
      have s4 := same_upd (o := .tup (r.map V.int)) np
      exact q _ p r (k3.trans s4.kept) ((st3.same s4).mono (by omega)) (k3.free st3 np) upd_same hp hf (by omega)
abbrev sMkRaw : Stmt := topS 50
theorem scMkRaw : FnScope ["_law_state", "_law_deeds", "_law_row", "_law_found", "_law_lap", "_law_at", "_law_letter"] ["_law_state", "_law_deeds", "_law_row"] (defScope sMkRaw) := ⟨rfl, rfl, rfl, by decide +kernel, rfl, by decide +kernel, by decide +kernel⟩
def spMkRaw : Sp := fun vs H Q _ => ∃ (d g c : Addr) (T n : Nat) (a : Addr) (r : List Int), vs = [.ref d, .int (n : Int), .ref a] ∧ St d g c T H ∧ T + 20 ≤ 1000000 ∧ 1 ≤ n ∧ n ≤ 4 ∧ RA H a r ∧ Fits n r ∧ r.length ≤ 10 ∧
  ∀ H' p r', Kept d g H H' → St d g c (T + 5) H' → H p = none → RA H' p r' → Fits n r' → r'.length ≤ r.length + 4 → Q (.ref p) H'
theorem ok_mkRaw (D : ∃ f fd, Def K mg "_law_mk_raw" sMkRaw ["_law_state", "_law_deeds", "_law_row"] f fd) (DR : Fn P w K mg base "_law_draw" ["_law_state", "_law_room"] 2 spDraw)
    (PK : Fn P w K mg base "_law_pick" ["_law_state", "_law_some"] 3 spPick) (LT : Fn P w K mg base "_law_mk_letters" ["_law_deeds"] 1 spLetters) (mt : mg "tuple" = none) (mr : mg "range" = none) (ml : mg "len" = none) (m_list : mg "list" = none) :
    Fn P w K mg base "_law_mk_raw" ["_law_state", "_law_deeds", "_law_row"] 4 spMkRaw := by
  obtain ⟨f, fd, D⟩ := D
  obtain ⟨fD, fdD, bD, gD, kD, GD⟩ := DR
  obtain ⟨fP, fdP, bP, gP, kP, GP⟩ := PK
  obtain ⟨fL, fdL, bL, gL, kL, GL⟩ := LT
  refine D.fn (D.F.ok scMkRaw (fun vs H Q E h => ?_) (fun cdv A outer s H vs Q E hr h => ?_))
  · obtain ⟨d, g, c, T, n, a, r, rfl, _⟩ := h; rfl
  · obtain ⟨d, g, c, T, n, a, r, rfl, st, hT, n1, n4, hR, hf, hl, q⟩ := h
    refine ⟨_, (pss_cons (ps_set (i := 3) scMkRaw.nd rfl (.inl rfl) (pe_callTy call_list_of (by rfl) m_list (by decide +kernel) (pa_cons (pv 2) pa_nil)))
      (pss_cons (ps_for PassesOwn.never rfl (pi_range1 (by rfl) mr (pa_cons (pe_call GD (hr.mono (by decide)) (by rfl) gD kD bD .nil pass0 (pa_cons (pv 0) (pa_cons pe_int pa_nil))) pa_nil)) (pg_name (i := 4) scMkRaw.nd rfl (.inl rfl)) (pss_cons (ps_par (i := 5) (j := 6) (by rfl) scMkRaw.nd rfl rfl (by decide) rfl rfl (pa_cons (pe_call GD (hr.mono (by decide)) (by rfl) gD kD bD .nil pass0 (pa_cons (pv 0) (pa_cons (pe_op op_add (pe_callB call_len_seq (by rfl) ml PySem.boot_len (pa_cons (pv 3) pa_nil)) pe_int) pa_nil))) (pa_cons (pe_call GP (hr.mono (by decide)) (by rfl) gP kP bP .nil pass0 (pa_cons (pv 0) (pa_cons (pe_call GL (hr.mono (by decide)) (by rfl) gL kL bL .nil pass0 (pa_cons (pv 1) pa_nil)) pa_nil))) pa_nil)) (by rfl))
      (pss_one (ps_set (i := 3) scMkRaw.nd rfl (.inl rfl) (pe_op op_cat (pe_op op_cat (pe_slice sl_list (pv 3) po_none (po_some (pv 5))) (pe_lst (pa_cons (pv 6) (pa_cons (pe_op op_sub pe_int (pv 6)) pa_nil)))) (pe_slice sl_list (pv 3) (po_some (pv 5)) po_none))))))
      (pss_one (ps_ret (pe_callTy call_tuple_of (by rfl) mt (by decide +kernel) (pa_cons (pv 3) pa_nil)))))), ?_⟩
    refine ⟨.ref a, rfl, a, _, rfl, .inr hR.sq, fun o no => ?_⟩
    have s1 := same_upd (o := .lst (r.map V.int)) no
    have og := (st.ne no).2
    refine ⟨.ref d, rfl, d, g, c, T, 3, rfl, st.same s1, by omega, by decide, by decide, fun H1 z hz k1 st1 => ?_⟩
    refine ⟨_, rfl, by omega, by omega, ?_⟩
    have eo1 : H1 o = some (.lst (r.map V.int)) := k1.lst (st.same s1) upd_same og
    refine for_range (lo := 0) (n := ((z : Nat) : Int).toNat) (fun i σ H3 => ∃ (fo : Addr) (r' : List Int) (y4 y5 y6 : Option V), σ = [some (.ref d), some (.int (n : Int)), some (.ref a), some (.ref fo), y4, y5, y6] ∧ Kept d g H H3 ∧ St d g c (T + 1 + 2 * i) H3 ∧
        H3 fo = some (.lst (r'.map V.int)) ∧ fo ≠ g ∧ Fits n r' ∧ r'.length ≤ r.length + 2 * i)
      ⟨o, r, none, none, none, rfl, s1.kept.trans k1, st1, eo1, og, hf, Nat.le_refl _⟩ (fun i σ H3 hi h => ?_) (fun σ H3 h => ?_)
    · obtain ⟨fo, r', y4, y5, y6, rfl, k3, st3, eo, fg, hf', hl'⟩ := h
      refine ⟨.ref d, rfl, .ref fo, rfl, fo, _, rfl, .inl (SqL.of eo), _, 1, rfl, rfl, d, g, c, T + 1 + 2 * i, r'.length + 1, by rw [List.length_map]; rfl, st3, by omega, by omega, by omega, fun H4 at' hat k4 st4 => ?_⟩
      have eo4 := k4.lst st3 eo fg
      refine ⟨.ref d, rfl, .int (n : Int), rfl, n, rfl, n1, n4, fun H5 la s5 nla ela => ?_⟩
      have st5 := st4.same s5
      have lag := (st4.ne nla).2
      refine ⟨d, g, c, T + 1 + 2 * i + 1, la, ltrs n, rfl, st5, by omega, ela, lag, (fun h => by have := ltrs_length n; rw [h] at this; simp at this; omega), by rw [ltrs_length]; omega, fun H6 x hx k6 st6 => ?_⟩
      have eo6 := k6.lst st5 (s5 _ _ eo4) fg
      refine ⟨_, _, rfl, ?_⟩
      refine ⟨.ref fo, rfl, _, rfl, _, rfl, slL (SqL.of eo6) 0 at' rfl (by rw [sIx_nat]; omega) fun p1 n1' => ?_⟩
      have s7 := same_upd (o := .lst (((r'.drop 0).take (at' - 0)).map V.int)) n1'
      refine ⟨_, rfl, _, rfl, 0, _, rfl, rfl, by show (2 : Nat) ≤ sizeLine; decide, fun p2 n2' => ?_⟩
      have s8 := same_upd (o := .lst [.int x, .int (0 - x)]) n2'
      refine ⟨p1, p2, _, _, rfl, rfl, s8 _ _ upd_same, upd_same, ?_, fun p3 n3' => ?_⟩
      · rw [List.length_map, List.length_take, List.length_drop]; exact Nat.le_trans (by show _ + 2 ≤ 100000; omega) (by decide : 100000 ≤ sizeLine)
      have s9 := same_upd (o := .lst (((r'.drop 0).take (at' - 0)).map V.int ++ [.int x, .int (0 - x)])) n3'
      have s79 := (s7.trans s8).trans s9
      refine ⟨.ref fo, rfl, _, rfl, _, rfl, ?_⟩
      simp only [tNoPart]
      refine slL (SqL.of (s79 _ _ eo6)) at' r'.length (by rw [sIx_nat]; omega) rfl fun p4 n4' => ?_
      have s10 := same_upd (o := .lst (((r'.drop at').take (r'.length - at')).map V.int)) n4'
      refine ⟨p3, p4, _, _, rfl, rfl, s10 _ _ upd_same, upd_same, ?_, fun p5 n5' => ?_⟩
      · rw [List.length_append, List.length_map, List.length_map, List.length_take, List.length_take, List.length_drop, List.length_drop]; exact Nat.le_trans (by show _ + 2 + _ ≤ 100000; omega) (by decide : 100000 ≤ sizeLine)
      have s11 := same_upd (o := .lst (((r'.drop 0).take (at' - 0)).map V.int ++ [.int x, .int (0 - x)] ++ ((r'.drop at').take (r'.length - at')).map V.int)) n5'
      have sall := (s79.trans s10).trans s11
      have hxf := ltrs_fit hx
      refine ⟨p5, (r'.drop 0).take (at' - 0) ++ [x, 0 - x] ++ (r'.drop at').take (r'.length - at'), _, _, _, rfl, (((k3.trans k4).trans s5.kept).trans k6).trans sall.kept, ?_, ?_, ?_, ?_, ?_⟩
      · have e : T + 1 + 2 * (i + 1) = T + 1 + 2 * i + 1 + 1 := by omega
        rw [e]; exact st6.same sall
      · rw [upd_same, List.map_append, List.map_append]; rfl
      · exact ((st6.same (s79.trans s10)).ne n5').2
      · refine K71.Fits.append (K71.Fits.append (fun y hy => hf' y (List.mem_of_mem_drop (List.mem_of_mem_take hy))) ?_) (fun y hy => hf' y (List.mem_of_mem_drop (List.mem_of_mem_take hy)))
        intro y hy
        simp only [List.mem_cons, List.not_mem_nil, or_false] at hy
        omega
      · simp only [List.length_append, List.length_take, List.length_drop, List.length_cons, List.length_nil]; omega
    · obtain ⟨fo, r', y4, y5, y6, rfl, k3, st3, eo, fg, hf', hl'⟩ := h
      refine ⟨.ref fo, rfl, fo, _, rfl, .inl ⟨SqL.of eo, fun p np => ?_⟩⟩
      have s4 := same_upd (o := .tup (r'.map V.int)) np
      exact q _ p r' (k3.trans s4.kept) ((st3.same s4).mono (by omega)) (k3.free st3 np) upd_same hf' (by omega)
end
end K71W

/-! ## Wk22 -/
set_option Elab.async false
set_option linter.all false
set_option maxRecDepth 100000
namespace K71W
open PySem PySem.Spec PyProof.Rows L2
open K71 (Pl Fits pl core turn img ren conj ident)
section
variable {P : Program} {w : World} {K : PySem.W.Frag} {mg : Str → Option Value} {base : Heap}

abbrev sSpans : Stmt := topS 60
theorem scSpans : FnScope ["_law_row", "_law_found"] ["_law_row"] (defScope sSpans) := ⟨rfl, rfl, rfl, by decide +kernel, rfl, by decide +kernel, by decide +kernel⟩
/-- the two ends off -/
theorem strip_ends {w : List Int} {v : Int} {ys : List Int} {a : Int} {r : List Int} (e1 : w = ys ++ [v]) (e2 : w = a :: r) (hl : 1 < w.length) (h : a = 0 - v) : core w = core ((w.drop 1).take (w.length - 1 - 1)) := by
  subst e2
  have hr : r ≠ [] := by intro h; rw [h] at hl; simp at hl
  obtain ⟨m, z, rfl⟩ : ∃ m z, r = m ++ [z] := by
    obtain ⟨m, z, e⟩ := List.eq_nil_or_concat r |>.resolve_left hr
    exact ⟨m, z, by rw [e]; simp⟩
  have ev : z = v := by
    have h1 : (a :: (m ++ [z])).getLast? = some z := by rw [← List.cons_append]; exact List.getLast?_concat ..
    rw [e1, List.getLast?_concat] at h1; injection h1 with h1; exact h1.symm
  have ez : z = -a := by omega
  subst ez
  rw [K71.core_strip]
  congr 1
  simp
theorem ends_keep {w : List Int} (h : ¬ 1 < w.length ∨ ∃ a r v ys, w = a :: r ∧ w = ys ++ [v] ∧ a ≠ 0 - v) : core w = w := by
  cases w with
  | nil => exact K71.core_nil
  | cons a r =>
    refine K71.core_stop ?_
    intro e
    rcases h with h | ⟨a', r', v, ys, e1, e2, hne⟩
    · have hr : r = [] := List.length_eq_zero_iff.1 (by simp only [List.length_cons] at h; omega)
      rw [hr] at e; cases e
    · injection e1 with e1 _
      have h1 : (a :: r).getLast? = some (-a) := by rw [List.getLast?_cons, e]; rfl
      rw [e2, List.getLast?_concat] at h1
      injection h1 with h1
      omega
def spSpans (K : PySem.W.Frag) : Sp := fun vs H Q _ => ∃ (a : Addr) (r : List Int), vs = [.ref a] ∧ RA H a r ∧ r.length ≤ 1000 ∧ ∀ H', Same H H' → Q (.int ((core (pl r)).length : Nat)) H'
theorem ok_spans (D : ∃ f fd, Def K mg "_law_cu_spans" sSpans ["_law_row"] f fd) (F : Fn P w K mg base "_law_mk_plain" ["_law_letters"] 1 (spPlainT K)) (ml : mg "len" = none) (m_list : mg "list" = none) :
    Fn P w K mg base "_law_cu_spans" ["_law_row"] 2 (spSpans K) := by
  obtain ⟨f, fd, D⟩ := D
  obtain ⟨fF, fdF, bF, gF, kF, GF⟩ := F
  refine D.fn (D.F.ok scSpans (fun vs H Q E h => ?_) (fun cdv A outer s H vs Q E hr h => ?_))
  · obtain ⟨a, r, rfl, _⟩ := h; rfl
  · obtain ⟨a, r, rfl, hR, hl, q⟩ := h
    refine ⟨_, (pss_cons (ps_set (i := 1) scSpans.nd rfl (.inl rfl) (pe_callTy call_list_of (by rfl) m_list (by decide +kernel) (pa_cons (pe_call GF (hr.mono (by decide)) (by rfl) gF kF bF .nil pass0 (pa_cons (pv 0) pa_nil)) pa_nil)))
      (pss_cons (ps_while PassesOwn.never (PW.pt (pw_and (pt_cmpR op_gt (pe_callB call_len_seq (by rfl) ml PySem.boot_len (pa_cons (pv 1) pa_nil)) pe_int (nomark _)) (pw_and1 (pt_cmpR op_eq (pe_ix ix_list (pv 1) pe_int (fun _ _ => rfl)) (pe_op op_sub pe_int (pe_ix ix_list (pv 1) (pe_un un_neg pe_int) (fun _ _ => rfl))) (nomark _))))) (pss_one (ps_set (i := 1) scSpans.nd rfl (.inl rfl) (pe_slice sl_list (pv 1) (po_some pe_int) (po_some (pe_un un_neg pe_int))))))
      (pss_one (ps_ret (pe_callB call_len_seq (by rfl) ml PySem.boot_len (pa_cons (pv 1) pa_nil)))))), ?_⟩
    refine ⟨.ref a, rfl, a, r, rfl, hR.sq, by omega, fun H1 p s1 np hp => ?_⟩
    refine ⟨p, _, rfl, .inr (show RA H1 p (pl r) from hp).sq, fun o no => ?_⟩
    have s2 := same_upd (o := .lst ((pl r).map V.int)) no
    refine ⟨fun m σ H3 => ∃ (fo : Addr) (v : List Int), σ = [some (.ref a), some (.ref fo)] ∧ Same H H3 ∧ H3 fo = some (.lst (v.map V.int)) ∧ core v = core (pl r) ∧ v.length ≤ 1000 ∧ m = v.length,
      ⟨_, o, pl r, rfl, s1.trans s2, upd_same, rfl, Nat.le_trans (pl_len r) hl, rfl⟩, fun m σ H3 h => ?_⟩
    obtain ⟨fo, v, rfl, s3, eo, hc, hvl, rfl⟩ := h
    refine ⟨.ref fo, rfl, fo, _, rfl, .inl (SqL.of eo), _, 1, rfl, rfl, _, rfl, ?_⟩
    show if decide (((v.map V.int).length : Int) > 1) = true then _ else _
    rw [List.length_map]
    by_cases c1 : 1 < v.length
    · rw [if_pos (decide_eq_true (by omega))]
      obtain ⟨x, rest, e2⟩ : ∃ x rest, v = x :: rest := by cases v with
        | nil => simp at c1
        | cons x rest => exact ⟨x, rest, rfl⟩
      obtain ⟨ys, z, e1⟩ : ∃ ys z, v = ys ++ [z] := by
        obtain ⟨z, hz⟩ : ∃ z, v.getLast? = some z := by cases h : v.getLast? with
          | none => rw [List.getLast?_eq_none_iff] at h; rw [h] at c1; simp at c1
          | some z => exact ⟨z, rfl⟩
        obtain ⟨ys, e⟩ := List.getLast?_eq_some_iff.1 hz
        exact ⟨ys, z, e⟩
      have em : v.map V.int = ys.map V.int ++ [V.int z] := by rw [e1]; simp
      refine ⟨.ref fo, rfl, fo, _, 0, .int x, rfl, rfl, SqL.of eo, by rw [e2]; exact atI_nat (j := 0) rfl, .ref fo, rfl, 1, rfl, fo, _, _, .int z, rfl, rfl, SqL.of eo, by rw [em]; exact atI_last _ _, 0, z, rfl, rfl, rfl, _, rfl, ?_⟩
      show if decide (V.int x = V.int (0 - z)) = true then _ else _
      refine ite2 (fun e => ?_) (fun e => ?_)
      · have e' : x = 0 - z := V.int.inj (of_decide_eq_true e)
        refine ⟨fun σ' H' => ∃ m' < v.length, ∃ (fo : Addr) (v : List Int), σ' = [some (.ref a), some (.ref fo)] ∧ Same H H' ∧ H' fo = some (.lst (v.map V.int)) ∧ core v = core (pl r) ∧ v.length ≤ 1000 ∧ m' = v.length, fun σ' H' h => by obtain ⟨m', h1, h2⟩ := h; exact ⟨m', h1, h2⟩, ?_⟩
        refine ⟨.ref fo, rfl, _, rfl, 1, rfl, _, rfl, slL (SqL.of eo) 1 (v.length - 1) (by show min 1 v.length = 1; omega) (by show (-1 + (v.length : Int)).toNat = v.length - 1; omega) fun p1 n1 => ?_⟩
        have s4 := same_upd (o := .lst (((v.drop 1).take (v.length - 1 - 1)).map V.int)) n1
        have hl2 : ((v.drop 1).take (v.length - 1 - 1)).length = v.length - 2 := by rw [List.length_take, List.length_drop]; omega
        exact ⟨v.length - 2, by omega, p1, _, rfl, s3.trans s4, upd_same, by rw [← hc]; exact (strip_ends e1 e2 c1 e').symm, by omega, hl2.symm⟩
      · have hk := ends_keep (w := v) (.inr ⟨x, rest, z, ys, e2, e1, fun h => e (decide_eq_true (by rw [h]))⟩)
        refine ⟨.ref fo, rfl, fo, _, rfl, .inl (SqL.of eo), ?_⟩
        rw [List.length_map, ← hk, hc]
        exact q H3 s3
    · rw [if_neg (by simp; omega)]
      have hk := ends_keep (w := v) (.inl c1)
      refine ⟨.ref fo, rfl, fo, _, rfl, .inl (SqL.of eo), ?_⟩
      rw [List.length_map, ← hk, hc]
      exact q H3 s3
abbrev sMkRing : Stmt := topS 51
theorem scMkRing : FnScope ["_law_row", "_law_found", "_law_turns", "_law_at"] ["_law_row"] (defScope sMkRing) := ⟨rfl, rfl, rfl, by decide +kernel, rfl, by decide +kernel, by decide +kernel⟩
def spMkRing (K : PySem.W.Frag) : Sp := fun vs H Q _ => ∃ (a : Addr) (r : List Int), vs = [.ref a] ∧ RA H a r ∧ r.length ≤ 1000 ∧ ∀ H' t m, Same H H' → RA H' t m → (∀ x, m = [x] ↔ core (pl r) = [x]) → Q (.ref t) H'
theorem turn_one {v m : List Int} {t : Nat} (ht : t < v.length) (e : m = v.drop t ++ v.take t) (x : Int) : m = [x] ↔ v = [x] := by
  have hl : m.length = v.length := by rw [e, List.length_append, List.length_drop, List.length_take]; omega
  constructor
  · intro h
    rw [h] at hl
    have h1 : v.length = 1 := hl.symm
    have t0 : t = 0 := by omega
    rw [t0, List.drop_zero, List.take_zero, List.append_nil] at e
    rw [← e, h]
  · intro h
    rw [h] at ht
    have t0 : t = 0 := by simp at ht; omega
    rw [e, t0, List.drop_zero, List.take_zero, List.append_nil, h]
/-- [tuple(found[at:] + found[:at]) for at in range(len(found))], and the least of it -/
def tLeastTurn : TS := fun D σ H => ∃ (fo : Addr) (v : List Int) (y : Option V) , σ = [y, some (.ref fo), none, none] ∧ H fo = some (.lst (v.map V.int)) ∧ v.length ≤ 1000 ∧
  ∀ H1 o (L : Rws), Same H H1 → H1 o = some (.lst (refs L)) → All H1 L → rws L = (List.range v.length).map (fun t => v.drop t ++ v.take t) → D.nx [y, some (.ref fo), some (.ref o), none] H1
theorem ok_mkRing (D : ∃ f fd, Def K mg "_law_mk_ring" sMkRing ["_law_row"] f fd) (F : Fn P w K mg base "_law_mk_plain" ["_law_letters"] 1 (spPlainT K)) (ml : mg "len" = none) (m_list : mg "list" = none) (mt : mg "tuple" = none) (mr : mg "range" = none) (m_min : mg "min" = none) :
    Fn P w K mg base "_law_mk_ring" ["_law_row"] 2 (spMkRing K) := by
  obtain ⟨f, fd, D⟩ := D
  obtain ⟨fF, fdF, bF, gF, kF, GF⟩ := F
  refine D.fn (D.F.ok scMkRing (fun vs H Q E h => ?_) (fun cdv A outer s H vs Q E hr h => ?_))
  · obtain ⟨a, r, rfl, _⟩ := h; rfl
  · obtain ⟨a, r, rfl, hR, hl, q⟩ := h
    refine ⟨_, (pss_cons (ps_set (i := 1) scMkRing.nd rfl (.inr rfl) (pe_callTy call_list_of (by rfl) m_list (by decide +kernel) (pa_cons (pe_call GF (hr.mono (by decide)) (by rfl) gF kF bF .nil pass0 (pa_cons (pv 0) pa_nil)) pa_nil)))
      (pss_cons (ps_while PassesOwn.never (PW.pt (pw_and (pt_cmpR op_gt (pe_callB call_len_seq (by rfl) ml PySem.boot_len (pa_cons (pv 1) pa_nil)) pe_int (nomark _)) (pw_and1 (pt_cmpR op_eq (pe_ix ix_list (pv 1) pe_int (fun _ _ => rfl)) (pe_op op_sub pe_int (pe_ix ix_list (pv 1) (pe_un un_neg pe_int) (fun _ _ => rfl))) (nomark _))))) (pss_one (ps_set (i := 1) scMkRing.nd rfl (.inr rfl) (pe_slice sl_list (pv 1) (po_some pe_int) (po_some (pe_un un_neg pe_int))))))
      (pss_cons (ps_weak (t' := tLeastTurn) (ps_setLc (i := 2) (own := [("_law_at", 3)]) (g := gName 3) (tt := tYes) rfl scMkRing.nd rfl rfl (sw_true rfl rfl rfl (by decide +kernel)) (pi_range1 (by rfl) mr (pa_cons (pe_callB call_len_seq (by rfl) ml PySem.boot_len (pa_cons (pv 1) pa_nil)) pa_nil)) (blkOk_by (N := ["_law_row", "_law_found", "_law_turns", "_law_at"]) (sc := defScope sMkRing) (by decide +kernel))
        (fun _ _ _ _ _ => pg_name (i := 3) scMkRing.nd rfl (Or.inl rfl)) (fun _ _ _ _ _ => pts_nil) (fun _ _ _ _ _ => (pe_callTy (call_tupleK K rfl) (by rfl) mt (by decide +kernel) (pa_cons (pe_op op_cat (pe_slice (sl_listK K rfl) (pv 1) (po_some (pv 3)) po_none) (pe_slice (sl_listK K rfl) (pv 1) po_none (po_some (pv 3)))) pa_nil)))) (fun D σ H h => ?_))
      (pss_one (ps_ret (pe_ifExp (pt_cmpR (op_neD hr.units) (pv 2) (pe_lst pa_nil) (nomark _)) (pe_callB (cr_minR rfl hr.units) (by rfl) m_min (by decide +kernel) (pa_cons (pv 2) pa_nil)) (pe_tup pa_nil))))))), ?_⟩
    · obtain ⟨fo, v, y, rfl, eo, hvl, q⟩ := h
      refine ⟨.ref fo, rfl, fo, _, rfl, .inl (SqL.of eo), _, rfl, by omega, by rw [List.length_map]; omega, fun o no => ?_⟩
      rw [List.length_map]
      refine lc_range (lo := 0) (n := ((v.length : Nat) : Int).toNat) (fun i H3 => Same H H3 ∧ ∃ L : Rws, H3 o = some (.lst (refs L)) ∧ All H3 L ∧ rws L = (List.range i).map (fun t => v.drop t ++ v.take t))
        ⟨same_upd no, [], by rw [upd_same]; rfl, fun q hq => (by cases hq), rfl⟩ (fun i H3 hi h => ?_) (fun H3 h => ?_)
      · obtain ⟨sm, L, e2, hL, eL⟩ := h
        have hi' : i < v.length := by omega
        have eo3 := sm _ _ eo
        rw [Int.zero_add]
        refine ⟨rfl, .ref fo, rfl, _, rfl, _, rfl, ?_⟩
        simp only [tNoPart]
        refine slL (SqL.of eo3) i v.length (by rw [sIx_nat]; omega) rfl fun p1 n1 => ?_
        have s4 := same_upd (o := .lst (((v.drop i).take (v.length - i)).map V.int)) n1
        refine ⟨.ref fo, rfl, _, rfl, _, rfl, slL (SqL.of (s4 _ _ eo3)) 0 i rfl (by rw [sIx_nat]; omega) fun p2 n2 => ?_⟩
        have s5 := same_upd (o := .lst (((v.drop 0).take (i - 0)).map V.int)) n2
        refine ⟨p1, p2, _, _, rfl, rfl, s5 _ _ upd_same, upd_same, ?_, fun p3 n3 => ?_⟩
        · rw [List.length_map, List.length_map, List.length_take, List.length_take, List.length_drop, List.length_drop]; exact Nat.le_trans (by omega : _ ≤ 100000) (by decide : 100000 ≤ sizeLine)
        refine ⟨p3, _, rfl, .inl ⟨SqL.of upd_same, fun p4 n4 => ?_⟩⟩
        have s6 := same_upd (o := .lst (((v.drop i).take (v.length - i)).map V.int ++ ((v.drop 0).take (i - 0)).map V.int)) n3
        have s7 := same_upd (o := .tup (((v.drop i).take (v.length - i)).map V.int ++ ((v.drop 0).take (i - 0)).map V.int)) n4
        have s37 := ((s4.trans s5).trans s6).trans s7
        have eLl : L.length = i := by rw [← rws_length, eL]; simp
        refine ⟨_, s37 _ _ e2, ?_, same_own no (sm.trans s37), L ++ [(p4, v.drop i ++ v.take i)], by rw [upd_same, refs_snoc], ((hL.same s37).snoc ?_).upd (s37 _ _ e2), ?_⟩
        · rw [refs_length, eLl]; exact Nat.lt_of_lt_of_le (by omega : i < 100000) (by decide)
        · unfold RA; rw [upd_same, ← List.map_append, List.take_of_length_le (by rw [List.length_drop]; exact Nat.le_refl _), List.drop_zero, Nat.sub_zero]
        · rw [rws_snoc, eL, List.range_succ, List.map_append]; rfl
      · obtain ⟨sm, L, e2, hL, eL⟩ := h
        exact q H3 o L sm e2 hL (by rw [eL, Int.toNat_natCast])
    refine ⟨.ref a, rfl, a, r, rfl, hR.sq, by omega, fun H1 p s1 np hp => ?_⟩
    refine ⟨p, _, rfl, .inr (show RA H1 p (pl r) from hp).sq, fun o no => ?_⟩
    have s2 := same_upd (o := .lst ((pl r).map V.int)) no
    refine ⟨fun m σ H3 => ∃ (fo : Addr) (v : List Int), σ = [some (.ref a), some (.ref fo), none, none] ∧ Same H H3 ∧ H3 fo = some (.lst (v.map V.int)) ∧ core v = core (pl r) ∧ v.length ≤ 1000 ∧ m = v.length,
      ⟨_, o, pl r, rfl, s1.trans s2, upd_same, rfl, Nat.le_trans (pl_len r) hl, rfl⟩, fun m σ H3 h => ?_⟩
    obtain ⟨fo, v, rfl, s3, eo, hc, hvl, rfl⟩ := h
    refine ⟨.ref fo, rfl, fo, _, rfl, .inl (SqL.of eo), _, 1, rfl, rfl, _, rfl, ?_⟩
    show if decide (((v.map V.int).length : Int) > 1) = true then _ else _
    rw [List.length_map]
    by_cases c1 : 1 < v.length
    · rw [if_pos (decide_eq_true (by omega))]
      obtain ⟨x, rest, e2⟩ : ∃ x rest, v = x :: rest := by cases v with
        | nil => simp at c1
        | cons x rest => exact ⟨x, rest, rfl⟩
      obtain ⟨ys, z, e1⟩ : ∃ ys z, v = ys ++ [z] := by
        obtain ⟨z, hz⟩ : ∃ z, v.getLast? = some z := by cases h : v.getLast? with
          | none => rw [List.getLast?_eq_none_iff] at h; rw [h] at c1; simp at c1
          | some z => exact ⟨z, rfl⟩
        obtain ⟨ys, e⟩ := List.getLast?_eq_some_iff.1 hz
        exact ⟨ys, z, e⟩
      have em : v.map V.int = ys.map V.int ++ [V.int z] := by rw [e1]; simp
      refine ⟨.ref fo, rfl, fo, _, 0, .int x, rfl, rfl, SqL.of eo, by rw [e2]; exact atI_nat (j := 0) rfl, .ref fo, rfl, 1, rfl, fo, _, _, .int z, rfl, rfl, SqL.of eo, by rw [em]; exact atI_last _ _, 0, z, rfl, rfl, rfl, _, rfl, ?_⟩
      show if decide (V.int x = V.int (0 - z)) = true then _ else _
      refine ite2 (fun e => ?_) (fun e => ?_)
      · have e' : x = 0 - z := V.int.inj (of_decide_eq_true e)
        refine ⟨fun σ' H' => ∃ m' < v.length, ∃ (fo : Addr) (v : List Int), σ' = [some (.ref a), some (.ref fo), none, none] ∧ Same H H' ∧ H' fo = some (.lst (v.map V.int)) ∧ core v = core (pl r) ∧ v.length ≤ 1000 ∧ m' = v.length, fun σ' H' h => by obtain ⟨m', h1, h2⟩ := h; exact ⟨m', h1, h2⟩, ?_⟩
        refine ⟨.ref fo, rfl, _, rfl, 1, rfl, _, rfl, slL (SqL.of eo) 1 (v.length - 1) (by show min 1 v.length = 1; omega) (by show (-1 + (v.length : Int)).toNat = v.length - 1; omega) fun p1 n1 => ?_⟩
        have s4 := same_upd (o := .lst (((v.drop 1).take (v.length - 1 - 1)).map V.int)) n1
        have hl2 : ((v.drop 1).take (v.length - 1 - 1)).length = v.length - 2 := by rw [List.length_take, List.length_drop]; omega
        exact ⟨v.length - 2, by omega, p1, _, rfl, s3.trans s4, upd_same, by rw [← hc]; exact (strip_ends e1 e2 c1 e').symm, by omega, hl2.symm⟩
      · have hk := ends_keep (w := v) (.inr ⟨x, rest, z, ys, e2, e1, fun h => e (decide_eq_true (by rw [h]))⟩)
        refine ⟨fo, v, some (.ref a), rfl, eo, hvl, fun H5 o L s5 e5 hL eL => ?_⟩
        rw [hk] at hc
        refine ⟨.ref o, rfl, Nat.zero_le _, fun e ne => ?_⟩
        have s6 := same_upd (o := .lst []) ne
        refine ⟨.list ((rws L).map tupD), .list [], .lst (SqL.of (s6 _ _ e5)) (dp_rows L (hL.same s6)), .lst (SqL.of upd_same) .nil, shaped_rows_list _, shaped_list [], ?_⟩
        rw [eqv_rows_list]
        refine ⟨_, rfl, ?_⟩
        show if (!decide (rws L = [])) = true then _ else _
        by_cases c2 : rws L = []
        · rw [if_neg (by rw [decide_eq_true c2]; decide)]
          have hv0 : v = [] := by
            rw [c2] at eL
            have := congrArg List.length eL
            rw [List.length_map, List.length_range, List.length_nil] at this
            exact List.length_eq_zero_iff.1 this.symm
          refine ⟨Nat.zero_le _, fun t nt => q _ t [] (((s3.trans s5).trans s6).trans (same_upd nt)) (by unfold RA; rw [upd_same]; rfl) fun x => ?_⟩
          rw [← hc, hv0]
        · rw [if_pos (by rw [decide_eq_false c2]; rfl)]
          refine ⟨.ref o, rfl, o, L, rfl, SqL.of (s6 _ _ e5), fun h => c2 (by rw [h]; rfl), fun z hz => ((hL.same s6) z hz).sq, fun z hz hle => ?_⟩
          have hz2 : z.2 ∈ rws L := List.mem_map.2 ⟨z, hz, rfl⟩
          rw [eL] at hz2
          obtain ⟨t, ht, et⟩ := List.mem_map.1 hz2
          refine q _ z.1 z.2 ((s3.trans s5).trans s6) ((hL.same s6) z hz) fun x => ?_
          rw [← hc]
          exact turn_one (List.mem_range.1 ht) et.symm x
    · rw [if_neg (by simp; omega)]
      have hk := ends_keep (w := v) (.inl c1)
      refine ⟨fo, v, some (.ref a), rfl, eo, hvl, fun H5 o L s5 e5 hL eL => ?_⟩
      rw [hk] at hc
      refine ⟨.ref o, rfl, Nat.zero_le _, fun e ne => ?_⟩
      have s6 := same_upd (o := .lst []) ne
      refine ⟨.list ((rws L).map tupD), .list [], .lst (SqL.of (s6 _ _ e5)) (dp_rows L (hL.same s6)), .lst (SqL.of upd_same) .nil, shaped_rows_list _, shaped_list [], ?_⟩
      rw [eqv_rows_list]
      refine ⟨_, rfl, ?_⟩
      show if (!decide (rws L = [])) = true then _ else _
      by_cases c2 : rws L = []
      · rw [if_neg (by rw [decide_eq_true c2]; decide)]
        have hv0 : v = [] := by
          rw [c2] at eL
          have := congrArg List.length eL
          rw [List.length_map, List.length_range, List.length_nil] at this
          exact List.length_eq_zero_iff.1 this.symm
        refine ⟨Nat.zero_le _, fun t nt => q _ t [] (((s3.trans s5).trans s6).trans (same_upd nt)) (by unfold RA; rw [upd_same]; rfl) fun x => ?_⟩
        rw [← hc, hv0]
      · rw [if_pos (by rw [decide_eq_false c2]; rfl)]
        refine ⟨.ref o, rfl, o, L, rfl, SqL.of (s6 _ _ e5), fun h => c2 (by rw [h]; rfl), fun z hz => ((hL.same s6) z hz).sq, fun z hz hle => ?_⟩
        have hz2 : z.2 ∈ rws L := List.mem_map.2 ⟨z, hz, rfl⟩
        rw [eL] at hz2
        obtain ⟨t, ht, et⟩ := List.mem_map.1 hz2
        refine q _ z.1 z.2 ((s3.trans s5).trans s6) ((hL.same s6) z hz) fun x => ?_
        rw [← hc]
        exact turn_one (List.mem_range.1 ht) et.symm x
end
end K71W

/-! ## Wk23 -/
set_option Elab.async false
set_option linter.all false
set_option maxRecDepth 100000
namespace K71W
open PySem PySem.Spec PyProof.Rows L2
open K71 (Pl Fits pl core img ren conj ident)
section
variable {P : Program} {w : World} {K : PySem.W.Frag} {mg : Str → Option Value} {base : Heap}

abbrev sMkRen : Stmt := topS 52
theorem scMkRen : FnScope ["_law_images", "_law_row", "_law_found", "_law_letter"] ["_law_images", "_law_row"] (defScope sMkRen) := ⟨rfl, rfl, rfl, by decide +kernel, rfl, by decide +kernel, by decide +kernel⟩
/-- the image of a letter, the images a list or a tuple -/
def tPickS (i : Nat) : TE := fun σ H Q => ∃ (a : Addr) (L : Rws) (l : Int), σ[0]? = some (some (.ref a)) ∧ σ[i]? = some (some (.int l)) ∧ (H a = some (.lst (refs L)) ∨ H a = some (.tup (refs L))) ∧ All H L ∧ (l ≠ 0 ∧ -(L.length : Int) ≤ l ∧ l ≤ L.length) ∧ (img (rws L) l).length ≤ 100000 ∧
  ∀ H1 pm, Same H H1 → RA H1 pm (img (rws L) l) → Q (.ref pm) H1
def spMkRen : Sp := fun vs H Q _ => ∃ (a b : Addr) (L : Rws) (r : List Int), vs = [.ref a, .ref b] ∧ (H a = some (.lst (refs L)) ∨ H a = some (.tup (refs L))) ∧ All H L ∧ RA H b r ∧
  (∀ x ∈ r, x ≠ 0 ∧ -(L.length : Int) ≤ x ∧ x ≤ L.length) ∧ (r.flatMap (img (rws L))).length ≤ 100000 ∧ ∀ H' p, Same H H' → H p = none → RA H' p (ren (rws L) r) → Q (.ref p) H'
theorem ok_mkRen (D : ∃ f fd, Def K mg "_law_mk_renamed" sMkRen ["_law_images", "_law_row"] f fd)
    (U : Fn P w K mg base "_law_mk_undone" ["_law_row"] 1 (spUndone K)) (F : Fn P w K mg base "_law_mk_plain" ["_law_letters"] 1 (spPlainL K)) (m_list : mg "list" = none) :
    Fn P w K mg base "_law_mk_renamed" ["_law_images", "_law_row"] 2 spMkRen := by
  obtain ⟨f, fd, D⟩ := D
  obtain ⟨fU, fdU, bU, gU, kU, GU⟩ := U
  obtain ⟨fF, fdF, bF, gF, kF, GF⟩ := F
  refine D.fn (D.F.ok scMkRen (fun vs H Q E h => ?_) (fun cdv A outer s H vs Q E hr h => ?_))
  · obtain ⟨a, b, L, r, rfl, _⟩ := h; rfl
  · obtain ⟨a, b, L, r, rfl, hA, hL, hR, hx, hlen, q⟩ := h
    refine ⟨_, (pss_cons (ps_set (i := 2) scMkRen.nd rfl (.inl rfl) (pe_lst pa_nil))
      (pss_cons (ps_for PassesOwn.never rfl (pi_tup (pv 1)) (pg_name (i := 3) scMkRen.nd rfl (.inl rfl)) (pss_one (ps_set (i := 2) scMkRen.nd rfl (.inl rfl) (pe_op op_cat (pv 2) (pe_callTy call_list_of (by rfl) m_list (by decide +kernel) (pa_cons (pe_weak (t' := tPickS 3) (pe_ifExp (pt_cmpR op_gt (pv 3) pe_int (nomark _)) (pe_ix ix_seq (pv 0) (pe_op op_sub (pv 3) pe_int) (fun _ _ => rfl)) (pe_call GU (hr.mono (by decide)) (by rfl) gU kU bU .nil pass0 (pa_cons (pe_ix ix_seq (pv 0) (pe_op op_sub (pe_op op_sub pe_int (pv 3)) pe_int) (fun _ _ => rfl)) pa_nil))) (fun σ H Q h => ?_)) pa_nil))))))
      (pss_one (ps_ret (pe_call GF (hr.mono (by decide)) (by rfl) gF kF bF .nil pass0 (pa_cons (pv 2) pa_nil)))))), ?_⟩
    · obtain ⟨a, L, l, h0, hi, hA, hL, hl, h4, q⟩ := h
      refine ⟨.int l, hi, _, 0, rfl, rfl, _, rfl, ?_⟩
      show if decide (l > 0) = true then _ else _
      refine ite2 (fun e => ?_) (fun e => ?_)
      · have hp : 0 < l := of_decide_eq_true e
        obtain ⟨k, hk, e1, e2⟩ := img_pos' hp hl.2.2
        refine ⟨.ref a, h0, .int l, hi, _, 1, rfl, rfl, ?_⟩
        have fin := q H L[k].1 (Same.refl _) (by rw [e2]; exact hL _ (List.getElem_mem hk))
        rcases hA with hA | hA
        · exact .inl ⟨a, refs L, _, .ref L[k].1, rfl, rfl, SqL.of hA, by rw [e1]; exact atI_nat (refs_get hk), fin⟩
        · exact .inr (.inl ⟨a, refs L, _, .ref L[k].1, rfl, rfl, SqT.of hA, by rw [e1]; exact atI_nat (refs_get hk), fin⟩)
      · have hp : l < 0 := by have : ¬ l > 0 := fun h => e (decide_eq_true h)
                              omega
        obtain ⟨k, hk, e1, e2⟩ := img_neg' hp hl.2.1
        rw [e2, K71.inv_length] at h4
        refine ⟨.ref a, h0, .int l, hi, 0, _, rfl, rfl, _, 1, rfl, rfl, ?_⟩
        have fin : ∀ Q', (∀ H1 p, Same H H1 → RA H1 p (img (rws L) l) → Q' (.ref p) H1) → spUndone K [.ref L[k].1] H Q' E0 := fun Q' q => ⟨L[k].1, L[k].2, rfl, (hL _ (List.getElem_mem hk)).sq, h4, fun H1 p s1 np ep => q H1 p s1 (by rw [e2]; exact ep)⟩
        rcases hA with hA | hA
        · exact .inl ⟨a, refs L, _, .ref L[k].1, rfl, rfl, SqL.of hA, by rw [e1]; exact atI_nat (refs_get hk), fin _ q⟩
        · exact .inr (.inl ⟨a, refs L, _, .ref L[k].1, rfl, rfl, SqT.of hA, by rw [e1]; exact atI_nat (refs_get hk), fin _ q⟩)
    refine ⟨Nat.zero_le _, fun o no => ?_⟩
    have s1 : Same H (upd H o (.lst [])) := same_upd no
    have hA' : ∀ {H3}, Same H H3 → H3 a = some (.lst (refs L)) ∨ H3 a = some (.tup (refs L)) := fun sm => hA.imp (sm _ _) (sm _ _)
    refine ⟨.ref b, rfl, b, rfl, ⟨_, (hR.same s1).sq⟩, for_tup (xs := r.map V.int) (fun i σ H3 => ∃ fo y3, σ = [some (.ref a), some (.ref b), some (.ref fo), y3] ∧ Same H H3 ∧ H3 fo = some (.lst (((r.take i).flatMap (img (rws L))).map V.int)))
      ⟨o, none, rfl, s1, by rw [upd_same]; rfl⟩ (fun i σ H3 hi h => by obtain ⟨_, _, _, sm, _⟩ := h; exact (hR.same sm).sq) (fun i x σ H3 hx' h => ?_) (fun σ H3 h => ?_)⟩
    · obtain ⟨fo, y3, rfl, sm, eo⟩ := h
      have hi : i < r.length := by have := (List.getElem?_eq_some_iff.1 hx').1; simpa using this
      have ex : x = .int r[i] := by rw [ints_get hi] at hx'; exact (Option.some.inj hx').symm
      subst ex
      have hv := hx r[i] (List.getElem_mem hi)
      have hone : (img (rws L) r[i]).length ≤ 100000 := Nat.le_trans (len_flatMap (List.getElem_mem hi)) hlen
      have hb := len_take_flatMap (img (rws L)) r (i + 1)
      rw [take_flatMap hi, List.length_append] at hb
      refine ⟨.ref fo, rfl, a, L, r[i], rfl, rfl, hA' sm, hL.same sm, hv, hone, fun H4 pm s4 hpm => ?_⟩
      refine ⟨pm, _, rfl, .inr hpm.sq, fun l nl => ?_⟩
      have s5 := same_upd (o := .lst ((img (rws L) r[i]).map V.int)) nl
      refine ⟨fo, l, _, _, rfl, rfl, (s4.trans s5) _ _ eo, upd_same, ?_, fun p np => ?_⟩
      · rw [List.length_map, List.length_map]; exact Nat.le_trans (by omega : _ ≤ 100000) (by decide : 100000 ≤ sizeLine)
      · exact ⟨p, _, rfl, (sm.trans (s4.trans s5)).trans (same_upd np), by rw [upd_same, take_flatMap hi, List.map_append]⟩
    · obtain ⟨fo, y3, rfl, sm, eo⟩ := h
      rw [List.length_map, List.take_length] at eo
      exact ⟨.ref fo, rfl, fo, _, rfl, SqL.of eo, hlen, fun H4 p s4 np ep => q _ _ (sm.trans s4) (Same.free (sm) np) ep⟩
abbrev sIdent : Stmt := topS 55
theorem scIdent : FnScope ["_law_deeds", "_law_deed"] ["_law_deeds"] (defScope sIdent) := ⟨rfl, rfl, rfl, by decide +kernel, rfl, by decide +kernel, by decide +kernel⟩
def spIdent : Sp := fun vs H Q _ => ∃ n : Nat, vs = [.int (n : Int)] ∧ n ≤ 4 ∧ ∀ H' p L, Same H H' → H p = none → H' p = some (.tup (refs L)) → All H' L → rws L = ident n → Q (.ref p) H'
theorem ok_ident (D : ∃ f fd, Def K mg "_law_rn_ident" sIdent ["_law_deeds"] f fd) (mt : mg "tuple" = none) (mr : mg "range" = none) : Fn P w K mg base "_law_rn_ident" ["_law_deeds"] 1 spIdent := by
  obtain ⟨f, fd, D⟩ := D
  refine D.fn (D.F.ok scIdent (fun vs H Q E h => ?_) (fun cdv A outer s H vs Q E hr h => ?_))
  · obtain ⟨n, rfl, _⟩ := h; rfl
  · obtain ⟨n, rfl, n4, q⟩ := h
    refine ⟨_, (pss_one (ps_ret (pe_callTy call_tuple_of (by rfl) mt (by decide +kernel) (pa_cons (pe_lc (own := [("_law_deed", 1)]) (g := gName 1) (tt := tYes) rfl scIdent.nd (pi_range2 (by rfl) mr (pa_cons pe_int (pa_cons (pe_op op_add (pv 0) pe_int) pa_nil))) (blkOk_by (N := ["_law_deeds", "_law_deed"]) (sc := defScope sIdent) (by decide +kernel))
        (fun _ _ _ _ _ => pg_name (i := 1) scIdent.nd rfl (Or.inl rfl)) (fun _ _ _ _ _ => pts_nil) (fun _ _ _ _ _ => (pe_tup (pa_cons (pv 1) pa_nil)))) pa_nil)))), ?_⟩
    refine ⟨.int (n : Int), rfl, (n : Int), 1, rfl, rfl, 1, (n : Int) + 1, rfl, by omega, fun o no => ?_⟩
    refine lc_range (lo := 1) (n := ((n : Int) + 1 - 1).toNat) (fun i H3 => Same H H3 ∧ ∃ L : Rws, H3 o = some (.lst (refs L)) ∧ All H3 L ∧ rws L = ident i)
      ⟨same_upd no, [], by rw [upd_same]; rfl, fun q hq => (by cases hq), rfl⟩ (fun i H3 hi h => ?_) (fun H3 h => ?_)
    · obtain ⟨sm, L, eo, hL, eL⟩ := h
      have eLl : L.length = i := by rw [← rws_length, eL]; simp [ident]
      refine ⟨rfl, _, rfl, by show (1 : Nat) ≤ sizeLine; decide, fun t nt => ?_⟩
      have s4 := same_upd (o := .tup [.int ((1 : Int) + (i : Nat))]) nt
      refine ⟨_, s4 _ _ eo, ?_, same_own no (sm.trans s4), L ++ [(t, [((i + 1 : Nat) : Int)])], by rw [upd_same, refs_snoc], ((hL.same s4).snoc ?_).upd (s4 _ _ eo), ?_⟩
      · rw [refs_length, eLl]; exact Nat.lt_of_lt_of_le (by omega : i < 100000) (by decide)
      · unfold RA; rw [upd_same, show ((i + 1 : Nat) : Int) = (1 : Int) + (i : Nat) by omega]; rfl
      · rw [rws_snoc, eL]; unfold ident; rw [List.range_succ, List.map_append]; rfl
    · obtain ⟨sm, L, eo, hL, eL⟩ := h
      rw [show ((n : Int) + 1 - 1).toNat = n by omega] at eL
      refine ⟨o, _, rfl, .inl ⟨SqL.of eo, fun t nt => ?_⟩⟩
      have s4 := same_upd (o := .tup (refs L)) nt
      exact q _ t L (sm.trans s4) (Same.free sm nt) upd_same (hL.same s4) eL
abbrev sAfter : Stmt := topS 56
theorem scAfter : FnScope ["_law_images", "_law_step", "_law_row"] ["_law_images", "_law_step"] (defScope sAfter) := ⟨rfl, rfl, rfl, by decide +kernel, rfl, by decide +kernel, by decide +kernel⟩
def spAfter : Sp := fun vs H Q _ => ∃ (a b : Addr) (L M : Rws), vs = [.ref a, .ref b] ∧ H a = some (.tup (refs L)) ∧ All H L ∧ L.length ≤ 4 ∧ (H b = some (.lst (refs M)) ∨ H b = some (.tup (refs M))) ∧ All H M ∧
  (∀ q ∈ L, (∀ x ∈ q.2, x ≠ 0 ∧ -(M.length : Int) ≤ x ∧ x ≤ M.length) ∧ (q.2.flatMap (img (rws M))).length ≤ 100000) ∧
  ∀ H' p N, Same H H' → H p = none → H' p = some (.tup (refs N)) → All H' N → rws N = (rws L).map (ren (rws M)) → Q (.ref p) H'
theorem ok_after (D : ∃ f fd, Def K mg "_law_rn_after" sAfter ["_law_images", "_law_step"] f fd) (M : Fn P w K mg base "_law_mk_renamed" ["_law_images", "_law_row"] 2 spMkRen) (mt : mg "tuple" = none) :
    Fn P w K mg base "_law_rn_after" ["_law_images", "_law_step"] 3 spAfter := by
  obtain ⟨f, fd, D⟩ := D
  obtain ⟨fM, fdM, bM, gM, kM, GM⟩ := M
  refine D.fn (D.F.ok scAfter (fun vs H Q E h => ?_) (fun cdv A outer s H vs Q E hr h => ?_))
  · obtain ⟨a, b, L, M, rfl, _⟩ := h; rfl
  · obtain ⟨a, b, L, M, rfl, hA, hL, h4, hB, hM, hfit, q⟩ := h
    refine ⟨_, (pss_one (ps_ret (pe_callTy call_tuple_of (by rfl) mt (by decide +kernel) (pa_cons (pe_lc (own := [("_law_row", 2)]) (g := gName 2) (tt := tYes) rfl scAfter.nd (pi_tup (pv 0)) (blkOk_by (N := ["_law_images", "_law_step", "_law_row"]) (sc := defScope sAfter) (by decide +kernel))
        (fun _ _ _ _ _ => pg_name (i := 2) scAfter.nd rfl (Or.inl rfl)) (fun _ _ _ _ _ => pts_nil) (fun _ _ _ _ _ => (pe_call GM hr (by rfl) gM kM bM .nil pass0 (pa_cons (pv 1) (pa_cons (pv 2) pa_nil))))) pa_nil)))), ?_⟩
    refine ⟨.ref a, rfl, a, rfl, ⟨_, SqT.of hA⟩, fun o no => ?_⟩
    refine lc_tup (xs := refs L) (fun i H3 => Same H H3 ∧ ∃ N : Rws, H3 o = some (.lst (refs N)) ∧ All H3 N ∧ rws N = ((rws L).take i).map (ren (rws M)))
      ⟨same_upd no, [], by rw [upd_same]; rfl, fun q hq => (by cases hq), rfl⟩ (fun i H3 hi h => SqT.of (h.1 _ _ hA)) (fun i x H3 hx h => ?_) (fun H3 h => ?_)
    · obtain ⟨sm, N, eo, hN, eN⟩ := h
      obtain ⟨hi, rfl⟩ := refs_at hx
      have hiu : i < (rws L).length := by rw [rws_length]; exact hi
      have hf := hfit _ (List.getElem_mem hi)
      have eNl : N.length = i := by rw [← rws_length, eN, List.length_map, List.length_take]; omega
      refine ⟨rfl, .ref b, rfl, .ref L[i].1, rfl, b, L[i].1, M, L[i].2, rfl, hB.imp (sm _ _) (sm _ _), hM.same sm, (hL _ (List.getElem_mem hi)).same sm, hf.1, hf.2, fun H4 t s4 nt ht => ?_⟩
      refine ⟨_, s4 _ _ eo, ?_, same_own no (sm.trans s4), N ++ [(t, ren (rws M) L[i].2)], by rw [upd_same, refs_snoc], ?_, ?_⟩
      · rw [refs_length, eNl]; exact Nat.lt_of_lt_of_le (by omega : i < 100000) (by decide)
      · exact ((hN.same s4).snoc ht).upd (s4 _ _ eo)
      · rw [rws_snoc, eN, List.take_add_one, List.getElem?_eq_getElem hiu, List.map_append, rws_at hiu hi]; rfl
    · obtain ⟨sm, N, eo, hN, eN⟩ := h
      rw [refs_length, ← rws_length, List.take_length] at eN
      refine ⟨o, _, rfl, .inl ⟨SqL.of eo, fun t nt => ?_⟩⟩
      have s4 := same_upd (o := .tup (refs N)) nt
      exact q _ t N (sm.trans s4) (Same.free sm nt) upd_same (hN.same s4) eN
abbrev sRnTurned : Stmt := topS 57
theorem scRnTurned : FnScope ["_law_row", "_law_by"] ["_law_row", "_law_by"] (defScope sRnTurned) := ⟨rfl, rfl, rfl, by decide +kernel, rfl, by decide +kernel, by decide +kernel⟩
def spRnTurned : Sp := fun vs H Q _ => ∃ (a b : Addr) (r by' : List Int), vs = [.ref a, .ref b] ∧ RA H a r ∧ RA H b by' ∧ r.length ≤ 1000 ∧ by'.length ≤ 1000 ∧ ∀ H' p, Same H H' → H p = none → RA H' p (conj by' r) → Q (.ref p) H'
theorem ok_rnTurned (D : ∃ f fd, Def K mg "_law_rn_turned" sRnTurned ["_law_row", "_law_by"] f fd)
    (U : Fn P w K mg base "_law_mk_undone" ["_law_row"] 1 (spUndone K)) (F : Fn P w K mg base "_law_mk_plain" ["_law_letters"] 1 (spPlainT K)) (mt : mg "tuple" = none) :
    Fn P w K mg base "_law_rn_turned" ["_law_row", "_law_by"] 2 spRnTurned := by
  obtain ⟨f, fd, D⟩ := D
  obtain ⟨fU, fdU, bU, gU, kU, GU⟩ := U
  obtain ⟨fF, fdF, bF, gF, kF, GF⟩ := F
  refine D.fn (D.F.ok scRnTurned (fun vs H Q E h => ?_) (fun cdv A outer s H vs Q E hr h => ?_))
  · obtain ⟨a, b, r, by', rfl, _⟩ := h; rfl
  · obtain ⟨a, b, r, by', rfl, hR, hB, hl, hbl, q⟩ := h
    refine ⟨_, (pss_one (ps_ret (pe_call GF (hr.mono (by decide)) (by rfl) gF kF bF .nil pass0 (pa_cons (pe_op op_catA (pe_op op_catA (pe_callTy call_tuple_of (by rfl) mt (by decide +kernel) (pa_cons (pv 1) pa_nil)) (pe_callTy call_tuple_of (by rfl) mt (by decide +kernel) (pa_cons (pv 0) pa_nil))) (pe_call GU (hr.mono (by decide)) (by rfl) gU kU bU .nil pass0 (pa_cons (pv 1) pa_nil))) pa_nil)))), ?_⟩
    refine ⟨.ref b, rfl, b, _, rfl, .inr ⟨hB.sq, .ref a, rfl, a, _, rfl, .inr ⟨hR.sq, ?_⟩⟩⟩
    refine catA hB hR (by omega) fun t1 H1 s1 h1 => ?_
    refine ⟨.ref b, rfl, b, by', rfl, (hB.same s1).sq, by omega, fun H2 t2 s2 n2 h2 => ?_⟩
    refine catA (h1.same s2) (show RA H2 t2 _ from h2) (by rw [List.length_append, K71.inv_length]; omega) fun t3 H3 s3 h3 => ?_
    exact ⟨t3, _, rfl, h3.sq, by rw [List.length_append, List.length_append, K71.inv_length]; omega, fun H4 p s4 np hp => q H4 p (((s1.trans s2).trans s3).trans s4) (Same.free ((s1.trans s2).trans s3) np) hp⟩
abbrev sTurnedAll : Stmt := topS 62
theorem scTurnedAll : FnScope ["_law_images", "_law_by", "_law_row"] ["_law_images", "_law_by"] (defScope sTurnedAll) := ⟨rfl, rfl, rfl, by decide +kernel, rfl, by decide +kernel, by decide +kernel⟩
def spTurnedAll : Sp := fun vs H Q _ => ∃ (a b : Addr) (L : Rws) (by' : List Int), vs = [.ref a, .ref b] ∧ H a = some (.tup (refs L)) ∧ All H L ∧ L.length ≤ 4 ∧ (∀ q ∈ L, q.2.length ≤ 1000) ∧ RA H b by' ∧ by'.length ≤ 1000 ∧
  ∀ H' p N, Same H H' → H p = none → H' p = some (.tup (refs N)) → All H' N → rws N = (rws L).map (conj by') → Q (.ref p) H'
theorem ok_turnedAll (D : ∃ f fd, Def K mg "_law_turned_all" sTurnedAll ["_law_images", "_law_by"] f fd) (M : Fn P w K mg base "_law_rn_turned" ["_law_row", "_law_by"] 2 spRnTurned) (mt : mg "tuple" = none) :
    Fn P w K mg base "_law_turned_all" ["_law_images", "_law_by"] 3 spTurnedAll := by
  obtain ⟨f, fd, D⟩ := D
  obtain ⟨fM, fdM, bM, gM, kM, GM⟩ := M
  refine D.fn (D.F.ok scTurnedAll (fun vs H Q E h => ?_) (fun cdv A outer s H vs Q E hr h => ?_))
  · obtain ⟨a, b, L, M, rfl, _⟩ := h; rfl
  · obtain ⟨a, b, L, by', rfl, hA, hL, h4, hlen, hB, hbl, q⟩ := h
    refine ⟨_, (pss_one (ps_ret (pe_callTy call_tuple_of (by rfl) mt (by decide +kernel) (pa_cons (pe_lc (own := [("_law_row", 2)]) (g := gName 2) (tt := tYes) rfl scTurnedAll.nd (pi_tup (pv 0)) (blkOk_by (N := ["_law_images", "_law_by", "_law_row"]) (sc := defScope sTurnedAll) (by decide +kernel))
        (fun _ _ _ _ _ => pg_name (i := 2) scTurnedAll.nd rfl (Or.inl rfl)) (fun _ _ _ _ _ => pts_nil) (fun _ _ _ _ _ => (pe_call GM hr (by rfl) gM kM bM .nil pass0 (pa_cons (pv 2) (pa_cons (pv 1) pa_nil))))) pa_nil)))), ?_⟩
    refine ⟨.ref a, rfl, a, rfl, ⟨_, SqT.of hA⟩, fun o no => ?_⟩
    refine lc_tup (xs := refs L) (fun i H3 => Same H H3 ∧ ∃ N : Rws, H3 o = some (.lst (refs N)) ∧ All H3 N ∧ rws N = ((rws L).take i).map (conj by'))
      ⟨same_upd no, [], by rw [upd_same]; rfl, fun q hq => (by cases hq), rfl⟩ (fun i H3 hi h => SqT.of (h.1 _ _ hA)) (fun i x H3 hx h => ?_) (fun H3 h => ?_)
    · obtain ⟨sm, N, eo, hN, eN⟩ := h
      obtain ⟨hi, rfl⟩ := refs_at hx
      have hiu : i < (rws L).length := by rw [rws_length]; exact hi
      have eNl : N.length = i := by rw [← rws_length, eN, List.length_map, List.length_take]; omega
      refine ⟨rfl, .ref L[i].1, rfl, .ref b, rfl, L[i].1, b, L[i].2, by', rfl, (hL _ (List.getElem_mem hi)).same sm, hB.same sm, hlen _ (List.getElem_mem hi), hbl, fun H4 t s4 nt ht => ?_⟩
      refine ⟨_, s4 _ _ eo, ?_, same_own no (sm.trans s4), N ++ [(t, conj by' L[i].2)], by rw [upd_same, refs_snoc], ?_, ?_⟩
      · rw [refs_length, eNl]; exact Nat.lt_of_lt_of_le (by omega : i < 100000) (by decide)
      · exact ((hN.same s4).snoc ht).upd (s4 _ _ eo)
      · rw [rws_snoc, eN, List.take_add_one, List.getElem?_eq_getElem hiu, List.map_append, rws_at hiu hi]; rfl
    · obtain ⟨sm, N, eo, hN, eN⟩ := h
      rw [refs_length, ← rws_length, List.take_length] at eN
      refine ⟨o, _, rfl, .inl ⟨SqL.of eo, fun t nt => ?_⟩⟩
      have s4 := same_upd (o := .tup (refs N)) nt
      exact q _ t N (sm.trans s4) (Same.free sm nt) upd_same (hN.same s4) eN
abbrev sIsLetter : Stmt := topS 58
theorem scIsLetter : FnScope ["_law_deeds", "_law_thing"] ["_law_deeds", "_law_thing"] (defScope sIsLetter) := ⟨rfl, rfl, rfl, by decide +kernel, rfl, by decide +kernel, by decide +kernel⟩
def spIsLetter : Sp := fun vs H Q _ => ∃ n x : Int, vs = [.int n, .int x] ∧ x ≠ 0 ∧ 0 - n ≤ x ∧ x ≤ n ∧ Q (.bl true) H
theorem ok_isLetter (D : ∃ f fd, Def K mg "_law_rn_is_letter" sIsLetter ["_law_deeds", "_law_thing"] f fd) (m_isinstance : mg "isinstance" = none) (m_int : mg "int" = none) (m_bool : mg "bool" = none) (m_abs : mg "abs" = none) :
    Fn P w K mg base "_law_rn_is_letter" ["_law_deeds", "_law_thing"] 1 spIsLetter := by
  obtain ⟨f, fd, D⟩ := D
  refine D.fn (D.F.ok scIsLetter (fun vs H Q E h => ?_) (fun cdv A outer s H vs Q E hr h => ?_))
  · obtain ⟨n, x, rfl, _⟩ := h; rfl
  · obtain ⟨n, x, rfl, h0, h1, h2, q⟩ := h
    refine ⟨_, (pss_one (ps_ret (pe_and (pe_callB call_isi (by rfl) m_isinstance (by decide +kernel) (pa_cons (pv 1) (pa_cons (pe_bltn (v := .ty "int") (by rfl) m_int boot_int rfl) pa_nil))) (pe_and (pe_not (pe_callB call_isi (by rfl) m_isinstance (by decide +kernel) (pa_cons (pv 1) (pa_cons (pe_bltn (v := .ty "bool") (by rfl) m_bool boot_bool rfl) pa_nil)))) (pe_and (pe_cmpR op_ne (pv 1) pe_int (nomark _)) (pe_one (pe_cmpR op_le (pe_callB call_abs (by rfl) m_abs (by decide +kernel) (pa_cons (pv 1) pa_nil)) (pv 0) (nomark _)))))))), ?_⟩
    refine ⟨.int x, rfl, .int x, .ty "int", .type "int", .type "int", true, rfl, .ty _, .base (.int x), kit_ty (by decide +kernel), ?_⟩
    refine ⟨true, rfl, .int x, rfl, .int x, .ty "bool", .type "int", .type "bool", false, rfl, .ty _, .base (.int x), kit_ty (by decide +kernel), false, rfl, true, rfl, ?_⟩
    refine ⟨.int x, rfl, rfl, _, rfl, ?_⟩
    show if (!decide (V.int x = V.int 0)) = true then _ else _
    rw [if_pos (by simp [h0])]
    refine ⟨.int x, rfl, x, rfl, .int n, rfl, _, _, rfl, rfl, ?_⟩
    have e : decide ((if x < 0 then -x else x) ≤ n) = true := decide_eq_true (by split <;> omega)
    show Q (.bl (decide ((if x < 0 then -x else x) ≤ n))) H
    rw [e]; exact q
end
end K71W

/-! ## Wk24 -/
set_option Elab.async false
set_option linter.all false
set_option maxRecDepth 100000
namespace K71W
open PySem PySem.Spec PyProof.Rows L2
open K71 (Pl Fits pl core img ren conj ident Ren shI)
section
variable {P : Program} {w : World} {K : PySem.W.Frag} {mg : Str → Option Value} {base : Heap}
/-- a loop over enumerate of a list -/
theorem for_enumL {K : PySem.W.Frag} {a : Addr} {xs : List V} {g : TG} {tb : TS} {D : Ends} {σ : L2.St} {H : Hp} (Pv : Nat → L2.St → Hp → Prop) (start : Pv 0 σ H) (stays : ∀ i σ H, i ≤ xs.length → Pv i σ H → SqL K H a xs)
    (turn : ∀ i x T σ H, xs[i]? = some x → Pv i σ H → H T = none → g (.ref T) σ (upd H T (.tup [.int (i : Nat), x])) fun σ2 H2 => tb { D with nx := Pv (i + 1), ct := Pv (i + 1), bk := D.nx } σ2 H2) (stop : ∀ σ H, Pv xs.length σ H → D.nx σ H) :
    ∃ Inv : Nat → Nat → L2.St → Hp → Prop, (∃ left, Inv 0 left σ H) ∧ ∀ k left ρ G, Inv k left ρ G →
      ((Ite K a).stop k G ∧ D.nx ρ G) ∨ ((Ite K a).go k G ∧ ∃ N : L2.St → Hp → Prop, (∀ ρ' G', N ρ' G' → ∃ left', left' < left ∧ Inv (k + 1) left' ρ' G') ∧ ∀ x G', (Ite K a).yld k G x G' → g x ρ G' fun ρ2 G2 => tb { D with nx := N, ct := N, bk := D.nx } ρ2 G2) := by
  refine ⟨fun i m σ H => m = xs.length - i ∧ i ≤ xs.length ∧ Pv i σ H, ⟨_, rfl, Nat.zero_le _, start⟩, ?_⟩
  rintro i m σ H ⟨rfl, le, inv⟩
  have here := stays i σ H le inv
  rcases Nat.lt_or_ge i xs.length with lt | ge
  · refine .inr ⟨⟨xs, xs[i], here, List.getElem?_eq_getElem lt⟩, Pv (i + 1), fun σ' H' next => ⟨xs.length - (i + 1), by omega, rfl, lt, next⟩, fun x H' got => ?_⟩
    rcases got with ⟨T, z, rfl, free, rfl, item⟩
    exact turn i z T σ H (item xs here) inv free
  · have e : i = xs.length := Nat.le_antisymm le ge
    subst e
    exact .inl ⟨⟨xs, here, Nat.le_refl _⟩, stop σ H inv⟩

abbrev sShImages : Stmt := topS 54
theorem scShImages : FnScope ["_law_deeds", "_law_move_here", "_law_letter", "_law_lot", "_law_found", "_law_deed", "_law_image"] ["_law_deeds", "_law_move_here"] (defScope sShImages) := ⟨rfl, rfl, rfl, by decide +kernel, rfl, by decide +kernel, by decide +kernel⟩
theorem inV_int (x : Int) (ls : List Int) : inV (.int x) (ls.map V.int) = decide (x ∈ ls) := by
  unfold inV
  rw [List.any_map]
  induction ls with
  | nil => simp
  | cons y ls ih =>
    rw [List.any_cons, ih]
    by_cases h : x = y
    · subst h; simp [eqV]
    · have : ¬ y = x := fun e => h e.symm
      simp [eqV, h, this]
theorem flat_ints (ls : List Int) : (ls.map V.int).all flatV = true := by
  rw [List.all_map]; exact List.all_eq_true.2 fun _ _ => rfl
def tOptA : TE := fun σ H Q => ∃ (l x : Int) (p : Addr) (ls : List Int), σ[2]? = some (some (.int l)) ∧ σ[5]? = some (some (.int x)) ∧ σ[3]? = some (some (.ref p)) ∧ RA H p ls ∧ ∀ t H1, Same H H1 → RA H1 t (if x ∈ ls then [l] else []) → Q (.ref t) H1
def tOptB : TE := fun σ H Q => ∃ (l x : Int) (p : Addr) (ls : List Int), σ[2]? = some (some (.int l)) ∧ σ[5]? = some (some (.int x)) ∧ σ[3]? = some (some (.ref p)) ∧ RA H p ls ∧ ∀ t H1, Same H H1 → RA H1 t (if 0 - x ∈ ls then [0 - l] else []) → Q (.ref t) H1
def spShImages : Sp := fun vs H Q _ => ∃ (n : Nat) (mv lot : Addr) (l : Int) (ls : List Int), vs = [.int (n : Int), .ref mv] ∧ n ≤ 4 ∧ H mv = some (.tup [.int l, .ref lot]) ∧ RA H lot ls ∧
  ∀ H' p L, Same H H' → H p = none → H' p = some (.lst (refs L)) → All H' L → rws L = shI n l ls → Q (.ref p) H'
theorem ok_shImages (D : ∃ f fd, Def K mg "_law_sh_images" sShImages ["_law_deeds", "_law_move_here"] f fd) (mr : mg "range" = none) : Fn P w K mg base "_law_sh_images" ["_law_deeds", "_law_move_here"] 1 spShImages := by
  obtain ⟨f, fd, D⟩ := D
  refine D.fn (D.F.ok scShImages (fun vs H Q E h => ?_) (fun cdv A outer s H vs Q E hr h => ?_))
  · obtain ⟨n, mv, lot, l, ls, rfl, _⟩ := h; rfl
  · obtain ⟨n, mv, lot, l, ls, rfl, n4, hmv, hlot, q⟩ := h
    refine ⟨_, (pss_cons (ps_asg (pv 1) (pg_tup (by rfl) (pgs_cons (pg_name (i := 2) scShImages.nd rfl (.inl rfl)) (pgs_cons (pg_name (i := 3) scShImages.nd rfl (.inl rfl)) pgs_nil))))
      (pss_cons (ps_set (i := 4) scShImages.nd rfl (.inl rfl) (pe_lst pa_nil))
      (pss_cons (ps_for PassesOwn.never rfl (pi_range2 (by rfl) mr (pa_cons pe_int (pa_cons (pe_op op_add (pv 0) pe_int) pa_nil))) (pg_name (i := 5) scShImages.nd rfl (.inl rfl)) (pss_cons (ps_set (i := 6) scShImages.nd rfl (.inl rfl) (pe_op op_catA (pe_tup (pa_cons (pv 5) pa_nil)) (pe_weak (t' := tOptA) (pe_ifExp (pt_cmpR op_in_seq (pv 5) (pv 3) (by rfl)) (pe_tup (pa_cons (pv 2) pa_nil)) (pe_tup pa_nil)) (fun σ H Q h => ?_))))
      (pss_one (ps_expr (pe_bm PySem.F.plainAttrs_list PySem.F.slot_list_append PySem.F.type_list_append mt_append (pv 4) (pa_cons (pe_op op_catA (pe_weak (t' := tOptB) (pe_ifExp (pt_cmpR op_in_seq (pe_op op_sub pe_int (pv 5)) (pv 3) (by rfl)) (pe_tup (pa_cons (pe_op op_sub pe_int (pv 2)) pa_nil)) (pe_tup pa_nil)) (fun σ H Q h => ?_)) (pv 6)) pa_nil))))))
      (pss_one (ps_ret (pv 4)))))), ?_⟩
    · obtain ⟨l, x, p, ls, h2, h5, h3, hp, q⟩ := h
      refine ⟨.int x, h5, .ref p, h3, p, _, rfl, .inr hp.sq, rfl, flat_ints ls, _, rfl, ?_⟩
      show if inV (.int x) (ls.map V.int) = true then _ else _
      rw [inV_int]
      refine ite2 (fun e => ?_) (fun e => ?_)
      · have e' := of_decide_eq_true e
        exact ⟨.int l, h2, by show (1 : Nat) ≤ sizeLine; decide, fun t nt => q t _ (same_upd nt) (by unfold RA; rw [upd_same, if_pos e']; rfl)⟩
      · have e' : ¬ x ∈ ls := fun h => e (decide_eq_true h)
        exact ⟨Nat.zero_le _, fun t nt => q t _ (same_upd nt) (by unfold RA; rw [upd_same, if_neg e']; rfl)⟩
    · obtain ⟨l, x, p, ls, h2, h5, h3, hp, q⟩ := h
      refine ⟨.int x, h5, 0, x, rfl, rfl, .ref p, h3, p, _, rfl, .inr hp.sq, rfl, flat_ints ls, _, rfl, ?_⟩
      show if inV (.int (0 - x)) (ls.map V.int) = true then _ else _
      rw [inV_int]
      refine ite2 (fun e => ?_) (fun e => ?_)
      · have e' := of_decide_eq_true e
        exact ⟨.int l, h2, 0, l, rfl, rfl, by show (1 : Nat) ≤ sizeLine; decide, fun t nt => q t _ (same_upd nt) (by unfold RA; rw [upd_same, if_pos e']; rfl)⟩
      · have e' : ¬ 0 - x ∈ ls := fun h => e (decide_eq_true h)
        exact ⟨Nat.zero_le _, fun t nt => q t _ (same_upd nt) (by unfold RA; rw [upd_same, if_neg e']; rfl)⟩
    refine ⟨.ref mv, rfl, mv, _, rfl, SqT.of hmv, rfl, _, _, rfl, _, _, rfl, rfl, ?_⟩
    refine ⟨Nat.zero_le _, fun o no => ?_⟩
    have s1 := same_upd (o := .lst []) no
    refine ⟨.int (n : Int), rfl, (n : Int), 1, rfl, rfl, 1, (n : Int) + 1, rfl, by omega, ?_⟩
    refine for_range (lo := 1) (n := ((n : Int) + 1 - 1).toNat) (fun i σ H3 => ∃ (L : Rws) (y5 y6 : Option V), σ = [some (.int (n : Int)), some (.ref mv), some (.int l), some (.ref lot), some (.ref o), y5, y6] ∧ Same H H3 ∧ H3 o = some (.lst (refs L)) ∧ All H3 L ∧ rws L = shI i l ls)
      ⟨[], none, none, rfl, s1, by rw [upd_same]; rfl, fun q hq => (by cases hq), rfl⟩ (fun i σ H3 hi h => ?_) (fun σ H3 h => ?_)
    · obtain ⟨L, y5, y6, rfl, s3, eo, hL, eL⟩ := h
      have eLl : L.length = i := by rw [← rws_length, eL, K71.shI_length]
      have ex : (1 : Int) + (i : Nat) = ((i + 1 : Nat) : Int) := by omega
      rw [ex]
      refine ⟨_, rfl, by show (1 : Nat) ≤ sizeLine; decide, fun t1 n1 => ?_⟩
      have s4 := same_upd (o := .tup [.int ((i + 1 : Nat) : Int)]) n1
      have h1 : RA (upd H3 t1 (.tup [.int ((i + 1 : Nat) : Int)])) t1 [((i + 1 : Nat) : Int)] := by unfold RA; rw [upd_same]; rfl
      refine ⟨l, _, lot, ls, rfl, rfl, rfl, hlot.same (s3.trans s4), fun t2 H5 s5 h2 => ?_⟩
      refine catA (h1.same s5) h2 (by split <;> simp) fun t3 H6 s6 h3 => ?_
      have s46 := (s4.trans s5).trans s6
      refine ⟨.ref o, rfl, .inl ⟨rfl, _, SqL.of (s46 _ _ eo)⟩, l, _, lot, ls, rfl, rfl, rfl, hlot.same (s3.trans s46), fun t4 H7 s7 h4 => ?_⟩
      refine ⟨_, rfl, ?_⟩
      refine catA h4 (h3.same s7) (by split <;> split <;> simp) fun t5 H8 s8 h5 => ?_
      have s48 := (s46.trans s7).trans s8
      refine ⟨o, _, _, rfl, rfl, s48 _ _ eo, ?_, ?_⟩
      · rw [refs_length, eLl]; exact Nat.lt_of_lt_of_le (by omega : i < 100000) (by decide)
      · refine ⟨L ++ [(t5, _)], _, _, rfl, same_own no (s3.trans s48), by rw [upd_same, refs_snoc], ((hL.same s48).snoc h5).upd (s48 _ _ eo), ?_⟩
        rw [rws_snoc, eL]; unfold shI; rw [List.range_succ, List.map_append]; rfl
    · obtain ⟨L, y5, y6, rfl, s3, eo, hL, eL⟩ := h
      rw [show ((n : Int) + 1 - 1).toNat = n by omega] at eL
      exact ⟨_, rfl, q H3 o L s3 no eo hL eL⟩
abbrev sExch : Stmt := topS 59
theorem scExch : FnScope ["_law_state", "_law_deeds", "_law_some", "_law_images", "_law_back", "_law_spot", "_law_deed", "_law_sign"] ["_law_state", "_law_deeds"] (defScope sExch) := ⟨rfl, rfl, rfl, by decide +kernel, rfl, by decide +kernel, by decide +kernel⟩
def tSign : TE := fun σ H Q => ∃ (d g c : Addr) (T : Nat), σ[0]? = some (some (.ref d)) ∧ St d g c T H ∧ T ≤ 1000000 ∧ ∀ H1 s, s = 1 ∨ s = -1 → Kept d g H H1 → St d g c (T + 1) H1 → Q (.int s) H1
def spExch : Sp := fun vs H Q _ => ∃ (d g c : Addr) (T n : Nat), vs = [.ref d, .int (n : Int)] ∧ St d g c T H ∧ T + 20 ≤ 1000000 ∧ 1 ≤ n ∧ n ≤ 4 ∧
  ∀ H' t ti tb L, Kept d g H H' → St d g c (T + 8) H' → H' t = some (.tup [.ref ti, .ref tb]) → H' ti = some (.tup (refs L)) → All H' L → Ren n (rws L) → (∀ q ∈ L, q.2.length ≤ 1) → Q (.ref t) H'
theorem Kept.same_tup {d g : Addr} {H H' : Hp} (k : Kept d g H H') {p : Addr} {x : HO} (h : H p = some x) (n : p ≠ d ∧ p ≠ g) : H' p = some x := k p x n.1 n.2 h
theorem ok_exch (D : ∃ f fd, Def K mg "_law_rn_exchange" sExch ["_law_state", "_law_deeds"] f fd) (DR : Fn P w K mg base "_law_draw" ["_law_state", "_law_room"] 2 spDraw) (SH : Fn P w K mg base "_law_shuffled" ["_law_state", "_law_some"] 3 spShuf)
    (m_list : mg "list" = none) (mr : mg "range" = none) (m_enumerate : mg "enumerate" = none) (mt : mg "tuple" = none) : Fn P w K mg base "_law_rn_exchange" ["_law_state", "_law_deeds"] 4 spExch := by
  obtain ⟨f, fd, D⟩ := D
  obtain ⟨fD, fdD, bD, gD, kD, GD⟩ := DR
  obtain ⟨fS, fdS, bS, gS, kS, GS⟩ := SH
  refine D.fn (D.F.ok scExch (fun vs H Q E h => ?_) (fun cdv A outer s H vs Q E hr h => ?_))
  · obtain ⟨d, g, c, T, n, rfl, _⟩ := h; rfl
  · obtain ⟨d, g, c, T, n, rfl, st, hT, n1, n4, q⟩ := h
    refine ⟨_, (pss_cons (ps_set (i := 2) scExch.nd rfl (.inl rfl) (pe_call GS hr (by rfl) gS kS bS .nil pass0 (pa_cons (pv 0) (pa_cons (pe_listRg rfl (by rfl) m_list (prg_2 (by rfl) mr pe_int (pe_op op_add (pv 1) pe_int))) pa_nil))))
      (pss_cons (ps_par (i := 3) (j := 4) (by rfl) scExch.nd rfl rfl (by decide) rfl rfl (pa_cons (pe_lst pa_nil) (pa_cons (pe_op op_rep (pe_lst (pa_cons (pe_tup pa_nil) pa_nil)) (pv 1)) pa_nil)) (by rfl))
      (pss_cons (ps_for PassesOwn.never rfl (pi_enum (by rfl) m_enumerate (pa_cons (pv 2) pa_nil)) (pg_tup (by rfl) (pgs_cons (pg_name (i := 5) scExch.nd rfl (.inl rfl)) (pgs_cons (pg_name (i := 6) scExch.nd rfl (.inl rfl)) pgs_nil))) (pss_cons (ps_set (i := 7) scExch.nd rfl (.inl rfl) (pe_weak (t' := tSign) (pe_ifExp (pt_cmpR op_eq (pe_call GD (hr.mono (by decide)) (by rfl) gD kD bD .nil pass0 (pa_cons (pv 0) (pa_cons pe_int pa_nil))) pe_int (nomark _)) pe_int (pe_un un_neg pe_int)) (fun σ H Q h => ?_)))
      (pss_cons (ps_expr (pe_bm PySem.F.plainAttrs_list PySem.F.slot_list_append PySem.F.type_list_append mt_append (pv 3) (pa_cons (pe_tup (pa_cons (pe_op op_mul (pv 7) (pv 6)) pa_nil)) pa_nil)))
      (pss_one (ps_asg (pe_tup (pa_cons (pe_op op_mul (pv 7) (pe_op op_add (pv 5) pe_int)) pa_nil)) (pg_sub (pv 4) (pe_op op_sub (pv 6) pe_int) set_list))))))
      (pss_one (ps_ret (pe_tup (pa_cons (pe_callTy call_tuple_of (by rfl) mt (by decide +kernel) (pa_cons (pv 3) pa_nil)) (pa_cons (pe_callTy call_tuple_of (by rfl) mt (by decide +kernel) (pa_cons (pv 4) pa_nil)) pa_nil)))))))), ?_⟩
    · obtain ⟨d, g, c, T, h0, st, hT, q⟩ := h
      refine ⟨.ref d, h0, d, g, c, T, 2, rfl, st, hT, by decide, by decide, fun H1 z hz k1 st1 => ⟨rfl, _, rfl, ite2 (fun e => ?_) (fun e => ?_)⟩⟩
      · exact q H1 1 (.inl rfl) k1 st1
      · exact ⟨1, rfl, q H1 (-1) (.inr rfl) k1 st1⟩
    refine ⟨.ref d, rfl, .int (n : Int), rfl, (n : Int), 1, rfl, rfl, 1, (n : Int) + 1, rfl, rfl, RgOk.of_le (by decide) (by omega) (by decide) (by omega), fun a na => ?_⟩
    rw [rgV_one]
    have s1 := same_upd (o := .lst (((List.range n).map fun i => (1 : Int) + (i : Nat)).map V.int)) na
    refine ⟨d, g, c, T, a, _, rfl, st.same s1, by rw [List.length_map, List.length_range]; omega, upd_same, by rw [List.length_map, List.length_range]; omega, fun H2 p ms k2 st2 np hp perm => ?_⟩
    rw [List.length_map, List.length_range] at st2
    have hml : ms.length = n := by rw [perm.length_eq]; simp
    have hms : ∀ k (hk : k < ms.length), 1 ≤ ms[k] ∧ ms[k] ≤ n := fun k hk => by
      obtain ⟨i, hi, e⟩ := List.mem_map.1 (perm.mem_iff.1 (List.getElem_mem hk))
      have := List.mem_range.1 hi
      omega
    have k02 : Kept d g H H2 := s1.kept.trans k2
    have hpg := ((st.same s1).ne np).2
    refine ⟨Nat.zero_le _, fun oi noi => ⟨Nat.zero_le _, fun te nte => ⟨by show (1 : Nat) ≤ sizeLine; decide, fun lb nlb => ?_⟩⟩⟩
    have s3 := same_upd (o := .lst []) noi
    have s4 := same_upd (o := .tup []) nte
    have s5 := same_upd (o := .lst [.ref te]) nlb
    refine ⟨_, rfl, lb, (n : Int), _, rfl, rfl, upd_same, by omega, by omega, ?_, fun ob nob => ⟨_, _, rfl, ?_⟩⟩
    · rw [Int.toNat_natCast]; show 1 * n ≤ _; exact Nat.le_trans (by omega : 1 * n ≤ 100000) (by decide)
    have s6 := same_upd (o := .lst (List.replicate ((n : Nat) : Int).toNat [V.ref te]).flatten) nob
    have s26 := ((s3.trans s4).trans s5).trans s6
    have eoi : (upd (upd (upd (upd H2 oi (.lst [])) te (.tup [])) lb (.lst [.ref te])) ob (.lst (List.replicate ((n : Nat) : Int).toNat [V.ref te]).flatten)) oi = some (.lst []) := s6 _ _ (s5 _ _ (s4 _ _ upd_same))
    have eob : (upd (upd (upd (upd H2 oi (.lst [])) te (.tup [])) lb (.lst [.ref te])) ob (.lst (List.replicate ((n : Nat) : Int).toNat [V.ref te]).flatten)) ob = some (.lst (List.replicate ((n : Nat) : Int).toNat [V.ref te]).flatten) := upd_same
    have ep := s26 _ _ hp
    have hpo : p ≠ oi := ne_of_none hp noi
    have nob2 : H2 ob = none := Same.free ((s3.trans s4).trans s5) nob
    have hpb : p ≠ ob := ne_of_none hp nob2
    have hob : oi ≠ ob := ne_of_none (s5 _ _ (s4 _ _ upd_same)) nob
    have noi0 : H oi = none := k02.free st2 noi
    have nob0 : H ob = none := k02.free st2 nob2
    have st6 := st2.same s26
    have k06 : Kept d g H _ := k02.trans s26.kept
    generalize (upd (upd (upd (upd H2 oi (.lst [])) te (.tup [])) lb (.lst [.ref te])) ob (.lst (List.replicate ((n : Nat) : Int).toNat [V.ref te]).flatten)) = H6 at *
    refine ⟨.ref p, rfl, p, ms.map V.int, rfl, SqL.of ep, for_enumL (xs := ms.map V.int) (fun i σ H7 => ∃ (L : Rws) (bs : List V) (y5 y6 y7 : Option V), σ = [some (.ref d), some (.int (n : Int)), some (.ref p), some (.ref oi), some (.ref ob), y5, y6, y7] ∧ Kept d g H H7 ∧ St d g c (T + n + i) H7 ∧
        H7 p = some (.lst (ms.map V.int)) ∧ H7 oi = some (.lst (refs L)) ∧ All H7 L ∧ L.length = i ∧ (∀ k (hk : k < i), ∃ s : Int, (rws L).getD k [] = [s] ∧ ∃ hk' : k < ms.length, s = ms[k] ∨ s = -ms[k]) ∧ H7 ob = some (.lst bs) ∧ bs.length = n)
      ⟨[], _, none, none, none, rfl, k06, st6, ep, eoi, fun q hq => (by cases hq), rfl, fun k hk => absurd hk (Nat.not_lt_zero k), eob, by rw [Int.toNat_natCast]; simp⟩
      (fun i σ H7 hi h => by obtain ⟨_, _, _, _, _, _, _, _, e, _⟩ := h; exact SqL.of e) (fun i x TT σ H7 hx h nT => ?_) (fun σ H7 h => ?_)⟩
    · obtain ⟨L, bs, y5, y6, y7, rfl, k7, st7, ep7, eo7, hL, hLl, hLs, eb7, hbs⟩ := h
      have hi : i < ms.length := by have := (List.getElem?_eq_some_iff.1 hx).1; simpa using this
      have ex : x = .int ms[i] := by rw [ints_get hi] at hx; exact (Option.some.inj hx).symm
      subst ex
      have hv := hms i hi
      have s8 := same_upd (o := .tup [.int (i : Nat), .int ms[i]]) nT
      refine ⟨TT, _, rfl, SqT.of upd_same, rfl, _, _, rfl, _, _, rfl, rfl, ?_⟩
      have st8 := st7.same s8
      refine ⟨d, g, c, T + n + i, rfl, st8, by omega, fun H9 sg hsg k9 st9 => ?_⟩
      have noi8 := (st.ne noi0).2
      have nob8 := (st.ne nob0).2
      have ep9 := k9.lst st8 (s8 _ _ ep7) hpg
      have eo9 := k9.lst st8 (s8 _ _ eo7) noi8
      have eb9 := k9.lst st8 (s8 _ _ eb7) nob8
      have hL9 := k9.all st8 (hL.same s8)
      have k09 : Kept d g H H9 := (k7.trans s8.kept).trans k9
      refine ⟨.ref oi, rfl, .inl ⟨rfl, _, SqL.of eo9⟩, _, rfl, _, rfl, sg, ms[i], rfl, rfl, .inl ⟨by omega, by omega⟩, by show (1 : Nat) ≤ sizeLine; decide, fun t1 n1 => ?_⟩
      have s10 := same_upd (o := .tup [.int (sg * ms[i])]) n1
      have h1 : RA (upd H9 t1 (.tup [.int (sg * ms[i])])) t1 [sg * ms[i]] := by unfold RA; rw [upd_same]; rfl
      refine ⟨oi, _, _, rfl, rfl, s10 _ _ eo9, by rw [refs_length, hLl]; exact Nat.lt_of_lt_of_le (by omega : i < 100000) (by decide), ?_⟩
      have eb10 : (upd (upd H9 t1 (.tup [.int (sg * ms[i])])) oi (.lst (refs L ++ [.ref t1]))) ob = some (.lst bs) := by rw [upd_ne (Ne.symm hob)]; exact s10 _ _ eb9
      have ep10 : (upd (upd H9 t1 (.tup [.int (sg * ms[i])])) oi (.lst (refs L ++ [.ref t1]))) p = some (.lst (ms.map V.int)) := by rw [upd_ne hpo]; exact s10 _ _ ep9
      have hL10 : All (upd (upd H9 t1 (.tup [.int (sg * ms[i])])) oi (.lst (refs L ++ [.ref t1]))) (L ++ [(t1, [sg * ms[i]])]) := ((hL9.same s10).snoc h1).upd (s10 _ _ eo9)
      have k10 : Kept d g H (upd (upd H9 t1 (.tup [.int (sg * ms[i])])) oi (.lst (refs L ++ [.ref t1]))) := Kept.own noi0 (k09.trans s10.kept)
      have st10 : St d g c (T + n + i + 1) (upd (upd H9 t1 (.tup [.int (sg * ms[i])])) oi (.lst (refs L ++ [.ref t1]))) := st.own noi0 (st9.same s10)
      have eo10 : (upd (upd H9 t1 (.tup [.int (sg * ms[i])])) oi (.lst (refs L ++ [.ref t1]))) oi = some (.lst (refs (L ++ [(t1, [sg * ms[i]])]))) := by rw [upd_same, refs_snoc]
      generalize (upd (upd H9 t1 (.tup [.int (sg * ms[i])])) oi (.lst (refs L ++ [.ref t1]))) = H10 at *
      refine ⟨_, rfl, _, rfl, _, 1, rfl, rfl, sg, _, rfl, rfl, .inl ⟨by omega, by omega⟩, by show (1 : Nat) ≤ sizeLine; decide, fun t2 n2 => ?_⟩
      have s11 := same_upd (o := .tup [.int (sg * ((i : Nat) + 1))]) n2
      refine ⟨_, rfl, _, rfl, _, 1, rfl, rfl, ob, bs, _, (ms[i] - 1).toNat, rfl, rfl, s11 _ _ eb10, ?_, ?_⟩
      · unfold L2.ixN
        rw [hbs, if_pos (by omega), if_pos (by omega)]
      refine ⟨L ++ [(t1, [sg * ms[i]])], _, _, _, _, rfl, Kept.own nob0 (k10.trans s11.kept), st.own nob0 (st10.same s11), by rw [upd_ne hpb]; exact s11 _ _ ep10, by rw [upd_ne hob]; exact s11 _ _ eo10, (hL10.same s11).upd (s11 _ _ eb10), by rw [List.length_append, hLl]; rfl, fun k hk => ?_, upd_same, by rw [List.length_set]; exact hbs⟩
      rw [rws_snoc]
      by_cases e : k = i
      · subst e
        refine ⟨sg * ms[k], ?_, hi, ?_⟩
        · rw [List.getD_eq_getElem?_getD, List.getElem?_append_right (by rw [rws_length, hLl]; exact Nat.le_refl _), rws_length, hLl]; simp
        · rcases hsg with h | h
          · left; rw [h, Int.one_mul]
          · right; rw [h]; omega
      · obtain ⟨s, es, hs⟩ := hLs k (by omega)
        refine ⟨s, ?_, hs⟩
        rw [List.getD_eq_getElem?_getD, List.getElem?_append_left (by rw [rws_length, hLl]; omega), ← List.getD_eq_getElem?_getD]; exact es
    · obtain ⟨L, bs, y5, y6, y7, rfl, k7, st7, ep7, eo7, hL, hLl, hLs, eb7, hbs⟩ := h
      rw [List.length_map] at hLl hLs st7
      refine ⟨.ref oi, rfl, oi, _, rfl, .inl ⟨SqL.of eo7, fun ti nti => ?_⟩⟩
      have s8 := same_upd (o := .tup (refs L)) nti
      refine ⟨.ref ob, rfl, ob, _, rfl, .inl ⟨SqL.of (s8 _ _ eb7), fun tb ntb => ?_⟩⟩
      have s9 := same_upd (o := .tup bs) ntb
      refine ⟨by show (2 : Nat) ≤ sizeLine; decide, fun t nt => ?_⟩
      have s10 := same_upd (o := .tup [.ref ti, .ref tb]) nt
      have sall := (s8.trans s9).trans s10
      refine q _ t ti tb L (k7.trans sall.kept) ((st7.same sall).mono (by omega)) upd_same (s10 _ _ (s9 _ _ upd_same)) (hL.same sall) ?_ ?_
      · refine K71.ren_perm (ms := ms) (by rw [rws_length, hLl, hml]) n1 n4 perm fun k hk => ?_
        obtain ⟨s, es, _, hs⟩ := hLs k hk
        exact ⟨s, es, hs⟩
      · intro z hz
        obtain ⟨k, hk, e⟩ := List.mem_iff_getElem.1 hz
        obtain ⟨s, es, _⟩ := hLs k (by omega)
        rw [rws_getD hk, e] at es
        rw [es]; exact Nat.le_refl _
end
end K71W

/-! ## Wk25 -/
set_option Elab.async false
set_option linter.all false
set_option maxRecDepth 100000
namespace K71W
open PySem PySem.Spec PyProof.Rows L2
open K71 (Pl Fits pl core img ren conj ident Ren shI comp)
section
variable {P : Program} {w : World} {K : PySem.W.Frag} {mg : Str → Option Value} {base : Heap}

abbrev sMkRng : Stmt := topS 53
theorem scMkRng : FnScope ["_law_state", "_law_deeds", "_law_steps", "_law_images", "_law_deed", "_law_back", "_law_lap", "_law_way", "_law_one", "_law_other", "_law_step", "_law_sign", "_law_less", "_law_image"] ["_law_state", "_law_deeds", "_law_steps"] (defScope sMkRng) := ⟨rfl, rfl, rfl, by decide +kernel, rfl, by decide +kernel, by decide +kernel⟩
/-- another place -/
def tOther : TE := fun σ H Q => ∃ (d g c : Addr) (T n o : Nat), σ[0]? = some (some (.ref d)) ∧ σ[1]? = some (some (.int (n : Int))) ∧ σ[8]? = some (some (.int (o : Int))) ∧ St d g c T H ∧ T ≤ 1000000 ∧ 1 ≤ n ∧ n ≤ 4 ∧ o < n ∧
  ∀ H1 (p : Nat), p < n → Kept d g H H1 → St d g c (T + 1) H1 → Q (.int (p : Int)) H1
def tLess : TE := fun σ H Q => ∃ (b : Addr) (B : Rws) (p : Nat) (s : Int), σ[5]? = some (some (.ref b)) ∧ σ[9]? = some (some (.int (p : Int))) ∧ σ[11]? = some (some (.int s)) ∧ H b = some (.lst (refs B)) ∧ All H B ∧ p < B.length ∧ (∀ q ∈ B, q.2.length ≤ 1000) ∧
  ∀ H1 t r, Same H H1 → RA H1 t r → r.length ≤ (B.getD p (0, [])).2.length → Q (.ref t) H1
def tSgn : TE := fun σ H Q => ∃ y : Int, σ[7]? = some (some (.int y)) ∧ ∀ s : Int, s = 1 ∨ s = -1 → Q (.int s) H
/-- one step drawn: what the list of the step and the list of the ways back hold then -/
def tStep : TS := fun D σ H => ∃ (bk st : Addr) (L0 B : Rws) (m one p way : Nat) (b : Nat) (y0 y1 y2 y3 y4 y6 y11 y12 y13 : Option V),
  σ = [y0, y1, y2, y3, y4, some (.ref bk), y6, some (.int (way : Int)), some (.int (one : Int)), some (.int (p : Int)), some (.ref st), y11, y12, y13] ∧ H st = some (.lst (refs L0)) ∧ All H L0 ∧ rws L0 = ident m ∧ H bk = some (.lst (refs B)) ∧ All H B ∧ B.length = m ∧
  (∀ q ∈ B, q.2.length ≤ b) ∧ b ≤ 100 ∧ bk ≠ st ∧ one < m ∧ p < m ∧ m ≤ 4 ∧
  ∀ H1 L B' z11 z12, Kept st bk H H1 → H1 st = some (.lst (refs L)) → All H1 L → Ren m (rws L) → (∀ q ∈ L, q.2.length ≤ 2) → H1 bk = some (.lst (refs B')) → All H1 B' → B'.length = m → (∀ q ∈ B', q.2.length ≤ 2 * b) →
    D.nx [y0, y1, y2, y3, y4, some (.ref bk), y6, some (.int (way : Int)), some (.int (one : Int)), some (.int (p : Int)), some (.ref st), z11, z12, y13] H1
theorem other_lt {o z n : Nat} (ho : o < n) (hz : z < n - 1) : (o + 1 + z) % n < n := Nat.mod_lt _ (by omega)
theorem ixN_at {n i : Nat} (h : i < n) : L2.ixN n ((i : Nat) : Int) = some i := by
  unfold L2.ixN; rw [if_pos (by omega), if_pos (by omega)]; simp
theorem St.keep {d g c x y : Addr} {T : Nat} {H H1 : Hp} (st : St d g c T H) (k : Kept x y H H1) (h : (d ≠ x ∧ g ≠ x ∧ c ≠ x) ∧ (d ≠ y ∧ g ≠ y ∧ c ≠ y)) : St d g c T H1 := by
  obtain ⟨gs, cs, rest, turn, h1, h2, h3, h4⟩ := st
  exact ⟨gs, cs, rest, turn, k _ _ h.1.1 h.2.1 h1, k _ _ h.1.2.1 h.2.2.1 h2, k _ _ h.1.2.2 h.2.2.2 h3, h4⟩
theorem Kept.set {x y : Addr} {H H1 : Hp} {o : HO} (k : Kept x y H H1) : Kept x y H (upd H1 y o) := fun b z n1 n2 e => by rw [upd_ne n2]; exact k b z n1 n2 e
theorem Kept.lst2 {x y : Addr} {H H1 : Hp} (k : Kept x y H H1) {xs ys : List V} (hx : H x = some (.lst xs)) (hy : H y = some (.lst ys)) {L : Rws} (h : All H L) : All H1 L := fun q hq =>
  k _ _ (ne_of (h q hq) hx (by intro z; cases z)) (ne_of (h q hq) hy (by intro z; cases z)) (h q hq)
theorem all_set {H : Hp} {L : Rws} {p : Nat} {q : Addr × List Int} (h : All H L) (hq : RA H q.1 q.2) : All H (L.set p q) := h.set hq
theorem len_set {L : Rws} {p b : Nat} {q : Addr × List Int} (h : ∀ z ∈ L, z.2.length ≤ b) (hq : q.2.length ≤ b) : ∀ z ∈ L.set p q, z.2.length ≤ b := by
  intro z hz
  rcases List.mem_or_eq_of_mem_set hz with e | e
  · exact h z e
  · rw [e]; exact hq
theorem Kept.then {d g x y : Addr} {H H1 H2 : Hp} (k : Kept d g H H1) (k2 : Kept x y H1 H2) (nx : H x = none) (ny : H y = none) : Kept d g H H2 := fun b z n1 n2 e =>
  k2 b z (ne_of_none e nx) (ne_of_none e ny) (k b z n1 n2 e)
theorem St.ne3 {d g c : Addr} {T : Nat} {H : Hp} (st : St d g c T H) {p : Addr} (hp : H p = none) : d ≠ p ∧ g ≠ p ∧ c ≠ p := by
  obtain ⟨gs, cs, rest, turn, h1, h2, h3, _⟩ := st
  exact ⟨ne_of_none h1 hp, ne_of_none h2 hp, ne_of_none h3 hp⟩
def spMkRng : Sp := fun vs H Q _ => ∃ (d g c : Addr) (T n s : Nat), vs = [.ref d, .int (n : Int), .int (s : Int)] ∧ St d g c T H ∧ T + 40 ≤ 1000000 ∧ 1 ≤ n ∧ n ≤ 4 ∧ s ≤ 3 ∧
  ∀ H' t ti tb L, Kept d g H H' → St d g c (T + 9) H' → H' t = some (.tup [.ref ti, .ref tb]) → H' ti = some (.lst (refs L)) → All H' L → Ren n (rws L) → (∀ q ∈ L, q.2.length ≤ 8) → Q (.ref t) H'
theorem ok_mkRng (D : ∃ f fd, Def K mg "_law_mk_renaming" sMkRng ["_law_state", "_law_deeds", "_law_steps"] f fd) (DR : Fn P w K mg base "_law_draw" ["_law_state", "_law_room"] 2 spDraw)
    (U : Fn P w K mg base "_law_mk_undone" ["_law_row"] 1 (spUndone K)) (F : Fn P w K mg base "_law_mk_plain" ["_law_letters"] 1 (spPlainT K)) (M : Fn P w K mg base "_law_mk_renamed" ["_law_images", "_law_row"] 2 spMkRen)
    (m_list : mg "list" = none) (mr : mg "range" = none) : Fn P w K mg base "_law_mk_renaming" ["_law_state", "_law_deeds", "_law_steps"] 3 spMkRng := by
  obtain ⟨f, fd, D⟩ := D
  obtain ⟨fD, fdD, bD, gD, kD, GD⟩ := DR
  obtain ⟨fU, fdU, bU, gU, kU, GU⟩ := U
  obtain ⟨fF, fdF, bF, gF, kF, GF⟩ := F
  obtain ⟨fM, fdM, bM, gM, kM, GM⟩ := M
  refine D.fn (D.F.ok scMkRng (fun vs H Q E h => ?_) (fun cdv A outer s H vs Q E hr h => ?_))
  · obtain ⟨d, g, c, T, n, s, rfl, _⟩ := h; rfl
  · refine ⟨_, (pss_cons (ps_setLc (i := 3) (own := [("_law_deed", 4)]) (g := gName 4) (tt := tYes) rfl scMkRng.nd rfl rfl (sw_true rfl rfl rfl (by decide +kernel)) (pi_range2 (by rfl) mr (pa_cons pe_int (pa_cons (pe_op op_add (pv 1) pe_int) pa_nil))) (blkOk_by (N := ["_law_state", "_law_deeds", "_law_steps", "_law_images", "_law_deed", "_law_back", "_law_lap", "_law_way", "_law_one", "_law_other", "_law_step", "_law_sign", "_law_less", "_law_image"]) (sc := defScope sMkRng) (by decide +kernel))
        (fun _ _ _ _ _ => pg_name (i := 4) scMkRng.nd rfl (Or.inl rfl)) (fun _ _ _ _ _ => pts_nil) (fun _ _ _ _ _ => (pe_tup (pa_cons (pv 4) pa_nil))))
      (pss_cons (ps_set (i := 5) scMkRng.nd rfl (.inl rfl) (pe_callTy call_list_of (by rfl) m_list (by decide +kernel) (pa_cons (pv 3) pa_nil)))
      (pss_cons (ps_for PassesOwn.never rfl (pi_range1 (by rfl) mr (pa_cons (pv 2) pa_nil)) (pg_name (i := 6) scMkRng.nd rfl (.inl rfl)) (pss_cons (ps_par (i := 7) (j := 8) (by rfl) scMkRng.nd rfl rfl (by decide) rfl rfl (pa_cons (pe_call GD (hr.mono (by decide)) (by rfl) gD kD bD .nil pass0 (pa_cons (pv 0) (pa_cons pe_int pa_nil))) (pa_cons (pe_call GD (hr.mono (by decide)) (by rfl) gD kD bD .nil pass0 (pa_cons (pv 0) (pa_cons (pv 1) pa_nil))) pa_nil)) (by rfl))
      (pss_cons (ps_set (i := 9) scMkRng.nd rfl (.inl rfl) (pe_weak (t' := tOther) (pe_ifExp (pt_cmpR op_gt (pv 1) pe_int (nomark _)) (pe_op op_mod (pe_op op_add (pe_op op_add (pv 8) pe_int) (pe_call GD (hr.mono (by decide)) (by rfl) gD kD bD .nil pass0 (pa_cons (pv 0) (pa_cons (pe_op op_sub (pv 1) pe_int) pa_nil)))) (pv 1)) (pv 8)) (fun σ H Q h => ?_)))
      (pss_cons (ps_set (i := 10) scMkRng.nd rfl (.inr rfl) (pe_lc (own := [("_law_deed", 4)]) (g := gName 4) (tt := tYes) rfl scMkRng.nd (pi_range2 (by rfl) mr (pa_cons pe_int (pa_cons (pe_op op_add (pv 1) pe_int) pa_nil))) (blkOk_by (N := ["_law_state", "_law_deeds", "_law_steps", "_law_images", "_law_deed", "_law_back", "_law_lap", "_law_way", "_law_one", "_law_other", "_law_step", "_law_sign", "_law_less", "_law_image"]) (sc := defScope sMkRng) (by decide +kernel))
        (fun _ _ _ _ _ => pg_name (i := 4) scMkRng.nd rfl (Or.inl rfl)) (fun _ _ _ _ _ => pts_nil) (fun _ _ _ _ _ => (pe_tup (pa_cons (pv 4) pa_nil)))))
      (pss_cons (ps_weak (t' := tStep) (ps_if (PW.pt (pw_or (pt_cmpR op_eq (pv 7) pe_int (nomark _)) (pw_or1 (pt_cmpR op_eq (pv 9) (pv 8) (nomark _))))) (pss_cons (ps_asg (pe_tup (pa_cons (pe_op op_sub (pe_op op_sub pe_int (pv 8)) pe_int) pa_nil)) (pg_sub (pv 10) (pv 8) set_list))
      (pss_one (ps_asg (pe_call GU (hr.mono (by decide)) (by rfl) gU kU bU .nil pass0 (pa_cons (pe_ix ix_list (pv 5) (pv 8) (fun _ _ => rfl)) pa_nil)) (pg_sub (pv 5) (pv 8) set_list)))) (pss_one (ps_if (pt_cmpR op_eq (pv 7) pe_int (nomark _)) (pss_cons (ps_asg (pe_tup (pa_cons (pe_tup (pa_cons (pe_op op_add (pv 9) pe_int) pa_nil)) (pa_cons (pe_tup (pa_cons (pe_op op_add (pv 8) pe_int) pa_nil)) pa_nil))) (pg_tup (by rfl) (pgs_cons (pg_sub (pv 10) (pv 8) set_list) (pgs_cons (pg_sub (pv 10) (pv 9) set_list) pgs_nil))))
      (pss_one (ps_asg (pe_tup (pa_cons (pe_ix ix_list (pv 5) (pv 9) (fun _ _ => rfl)) (pa_cons (pe_ix ix_list (pv 5) (pv 8) (fun _ _ => rfl)) pa_nil))) (pg_tup (by rfl) (pgs_cons (pg_sub (pv 5) (pv 8) set_list) (pgs_cons (pg_sub (pv 5) (pv 9) set_list) pgs_nil)))))) (pss_cons (ps_set (i := 11) scMkRng.nd rfl (.inl rfl) (pe_weak (t' := tSgn) (pe_ifExp (pt_cmpR op_eq (pv 7) pe_int (nomark _)) pe_int (pe_un un_neg pe_int)) (fun σ H Q h => ?_)))
      (pss_cons (ps_asg (pe_tup (pa_cons (pe_op op_add (pv 8) pe_int) (pa_cons (pe_op op_mul (pv 11) (pe_op op_add (pv 9) pe_int)) pa_nil))) (pg_sub (pv 10) (pv 8) set_list))
      (pss_cons (ps_set (i := 12) scMkRng.nd rfl (.inl rfl) (pe_weak (t' := tLess) (pe_ifExp (pt_cmpR op_eq (pv 11) pe_int (nomark _)) (pe_call GU (hr.mono (by decide)) (by rfl) gU kU bU .nil pass0 (pa_cons (pe_ix ix_list (pv 5) (pv 9) (fun _ _ => rfl)) pa_nil)) (pe_ix ix_list (pv 5) (pv 9) (fun _ _ => rfl))) (fun σ H Q h => ?_)))
      (pss_one (ps_asg (pe_call GF (hr.mono (by decide)) (by rfl) gF kF bF .nil pass0 (pa_cons (pe_op op_catA (pe_ix ix_list (pv 5) (pv 8) (fun _ _ => rfl)) (pv 12)) pa_nil)) (pg_sub (pv 5) (pv 8) set_list))))))))) (fun D σ H h => ?_))
      (pss_one (ps_setLc (i := 3) (own := [("_law_image", 13)]) (g := gName 13) (tt := tYes) rfl scMkRng.nd rfl rfl (sw_true rfl rfl rfl (by decide +kernel)) (pi_list (pv 3)) (blkOk_by (N := ["_law_state", "_law_deeds", "_law_steps", "_law_images", "_law_deed", "_law_back", "_law_lap", "_law_way", "_law_one", "_law_other", "_law_step", "_law_sign", "_law_less", "_law_image"]) (sc := defScope sMkRng) (by decide +kernel))
        (fun _ _ _ _ _ => pg_name (i := 13) scMkRng.nd rfl (Or.inl rfl)) (fun _ _ _ _ _ => pts_nil) (fun _ _ _ _ _ => (pe_call GM hr (by rfl) gM kM bM .nil pass0 (pa_cons (pv 10) (pa_cons (pv 13) pa_nil)))))))))))
      (pss_one (ps_ret (pe_tup (pa_cons (pv 3) (pa_cons (pv 5) pa_nil)))))))), ?_⟩
    · -- another place
      obtain ⟨d, g, c, T, n, o, h0, h1, h8, st, hT, n1, n4, ho, q⟩ := h
      refine ⟨_, h1, _, 1, rfl, rfl, _, rfl, ?_⟩
      refine ite2 (fun e => ?_) (fun e => ?_)
      · have e' : (n : Int) > 1 := of_decide_eq_true e
        refine ⟨_, h8, _, 1, rfl, rfl, .ref d, h0, _, h1, _, 1, rfl, rfl, d, g, c, T, n - 1, by show [V.ref d, V.int ((n : Int) - 1)] = _; rw [show (n : Int) - 1 = ((n - 1 : Nat) : Int) by omega], st, hT, by omega, by omega, fun H1 z hz k1 st1 => ?_⟩
        refine ⟨_, _, rfl, rfl, _, h1, _, _, rfl, rfl, by show (0 : Int) < (n : Int); omega, ?_⟩
        show Q (.int (((o : Int) + 1 + (z : Int)) % (n : Int))) H1
        rw [show ((o : Int) + 1 + (z : Int)) % (n : Int) = (((o + 1 + z) % n : Nat) : Int) by rw [Int.natCast_emod]; rfl]
        exact q H1 _ (Nat.mod_lt _ (by omega)) k1 st1
      · exact ⟨_, h8, q H o ho (Kept.refl d g H) (st.mono (by omega))⟩
    · obtain ⟨y, h7, q⟩ := h
      refine ⟨_, h7, rfl, _, rfl, ite2 (fun e => ?_) (fun e => ?_)⟩
      · exact q 1 (.inl rfl)
      · exact ⟨1, rfl, q (-1) (.inr rfl)⟩
    · obtain ⟨b, B, p, s, h5, h9, h11, eb, hB, hp, hlen, q⟩ := h
      have ed : B.getD p (0, []) = B[p] := by rw [List.getD_eq_getElem?_getD, List.getElem?_eq_getElem hp]; rfl
      rw [ed] at q
      refine ⟨_, h11, rfl, _, rfl, ite2 (fun e => ?_) (fun e => ?_)⟩
      · refine ⟨.ref b, h5, _, h9, b, refs B, _, .ref B[p].1, rfl, rfl, SqL.of eb, atI_nat (refs_get hp), B[p].1, B[p].2, rfl, (hB _ (List.getElem_mem hp)).sq, by have := hlen _ (List.getElem_mem hp); omega, fun H1 t s1 nt ht => ?_⟩
        exact q H1 t _ s1 ht (by rw [K71.inv_length]; exact Nat.le_refl _)
      · exact ⟨.ref b, h5, _, h9, b, refs B, _, .ref B[p].1, rfl, rfl, SqL.of eb, atI_nat (refs_get hp), q H _ _ (Same.refl _) (hB _ (List.getElem_mem hp)) (Nat.le_refl _)⟩
    · obtain ⟨bk, st, L0, B, m, one, p, way, b, y0, y1, y2, y3, y4, y6, y11, y12, y13, rfl, est, hL0, eL0, ebk, hB, hBl, hBlen, hb, hne, h1, hp, h4, q⟩ := h
      have hL0l : L0.length = m := by rw [← rws_length, eL0, K71.ident_length]
      have hLlen : ∀ z ∈ L0, z.2.length ≤ 2 := fun z hz => Nat.le_trans (K71.ident_len (n := m) z.2 (by rw [← eL0]; exact List.mem_map.2 ⟨z, hz, rfl⟩)) (by decide)
      refine ⟨_, rfl, rfl, _, rfl, ite2 (fun e => ?_) (fun e => ?_)⟩
      · skip
        refine ⟨_, rfl, 0, _, rfl, rfl, _, 1, rfl, rfl, by show (1 : Nat) ≤ sizeLine; decide, fun t nt => ?_⟩
        have s1 := same_upd (o := .tup [.int (0 - (one : Int) - 1)]) nt
        refine ⟨.ref st, rfl, _, rfl, st, _, _, one, rfl, rfl, s1 _ _ est, by rw [refs_length]; exact ixN_at (by omega), ?_⟩
        rw [refs_set L0 one (t, [-((one + 1 : Nat) : Int)])]
        have ht : RA (upd H t (.tup [.int (0 - (one : Int) - 1)])) t [-((one + 1 : Nat) : Int)] := by unfold RA; rw [upd_same, show -((one + 1 : Nat) : Int) = 0 - (one : Int) - 1 by omega]; rfl
        have k2 : Kept st bk H (upd (upd H t (.tup [.int (0 - (one : Int) - 1)])) st (.lst (refs (L0.set one (t, [-((one + 1 : Nat) : Int)]))))) := fun b' z n1 n2 e => by rw [upd_ne n1]; exact s1 _ _ e
        have est2 : (upd (upd H t (.tup [.int (0 - (one : Int) - 1)])) st (.lst (refs (L0.set one (t, [-((one + 1 : Nat) : Int)]))))) st = some (.lst (refs (L0.set one (t, [-((one + 1 : Nat) : Int)])))) := upd_same
        have ebk2 : (upd (upd H t (.tup [.int (0 - (one : Int) - 1)])) st (.lst (refs (L0.set one (t, [-((one + 1 : Nat) : Int)]))))) bk = some (.lst (refs B)) := by rw [upd_ne hne]; exact s1 _ _ ebk
        have hL2 : All (upd (upd H t (.tup [.int (0 - (one : Int) - 1)])) st (.lst (refs (L0.set one (t, [-((one + 1 : Nat) : Int)]))))) (L0.set one (t, [-((one + 1 : Nat) : Int)])) := (all_set (hL0.same s1) ht).upd (s1 _ _ est)
        have hB2 : All (upd (upd H t (.tup [.int (0 - (one : Int) - 1)])) st (.lst (refs (L0.set one (t, [-((one + 1 : Nat) : Int)]))))) B := (hB.same s1).upd (s1 _ _ est)
        generalize (upd (upd H t (.tup [.int (0 - (one : Int) - 1)])) st (.lst (refs (L0.set one (t, [-((one + 1 : Nat) : Int)]))))) = H2 at *
        have hoB : one < B.length := by omega
        refine ⟨.ref bk, rfl, _, rfl, bk, refs B, _, .ref B[one].1, rfl, rfl, SqL.of ebk2, atI_nat (refs_get hoB), B[one].1, B[one].2, rfl, (hB2 _ (List.getElem_mem hoB)).sq, by have := hBlen _ (List.getElem_mem hoB); omega, fun H3 t2 s3 n2 ht2 => ?_⟩
        refine ⟨.ref bk, rfl, _, rfl, bk, _, _, one, rfl, rfl, s3 _ _ ebk2, by rw [refs_length]; exact ixN_at hoB, ?_⟩
        rw [refs_set B one (t2, K71.inv B[one].2)]
        have hobl := hBlen _ (List.getElem_mem hoB)
        refine q _ (L0.set one (t, [-((one + 1 : Nat) : Int)])) (B.set one (t2, K71.inv B[one].2)) y11 y12 (Kept.set (k2.trans s3.kept)) (by rw [upd_ne (Ne.symm hne)]; exact s3 _ _ est2) ((hL2.same s3).upd (s3 _ _ ebk2)) ?_ ?_ upd_same ((all_set (q := (t2, K71.inv B[one].2)) (hB2.same s3) ht2).upd (s3 _ _ ebk2)) (by rw [List.length_set]; exact hBl) ?_
        · rw [← rws_set, eL0]; exact K71.ren_flip (by omega) h4 h1
        · exact len_set hLlen (by show 1 ≤ 2; decide)
        · exact len_set (fun z hz => by have := hBlen z hz; omega) (by rw [K71.inv_length]; omega)
      · refine ⟨_, rfl, _, rfl, rfl, _, rfl, ite2 (fun e2 => ?_) (fun e2 => ?_)⟩
        · skip
          refine ⟨_, rfl, 0, _, rfl, rfl, _, 1, rfl, rfl, by show (1 : Nat) ≤ sizeLine; decide, fun t nt => ?_⟩
          have s1 := same_upd (o := .tup [.int (0 - (one : Int) - 1)]) nt
          refine ⟨.ref st, rfl, _, rfl, st, _, _, one, rfl, rfl, s1 _ _ est, by rw [refs_length]; exact ixN_at (by omega), ?_⟩
          rw [refs_set L0 one (t, [-((one + 1 : Nat) : Int)])]
          have ht : RA (upd H t (.tup [.int (0 - (one : Int) - 1)])) t [-((one + 1 : Nat) : Int)] := by unfold RA; rw [upd_same, show -((one + 1 : Nat) : Int) = 0 - (one : Int) - 1 by omega]; rfl
          have k2 : Kept st bk H (upd (upd H t (.tup [.int (0 - (one : Int) - 1)])) st (.lst (refs (L0.set one (t, [-((one + 1 : Nat) : Int)]))))) := fun b' z n1 n2 e => by rw [upd_ne n1]; exact s1 _ _ e
          have est2 : (upd (upd H t (.tup [.int (0 - (one : Int) - 1)])) st (.lst (refs (L0.set one (t, [-((one + 1 : Nat) : Int)]))))) st = some (.lst (refs (L0.set one (t, [-((one + 1 : Nat) : Int)])))) := upd_same
          have ebk2 : (upd (upd H t (.tup [.int (0 - (one : Int) - 1)])) st (.lst (refs (L0.set one (t, [-((one + 1 : Nat) : Int)]))))) bk = some (.lst (refs B)) := by rw [upd_ne hne]; exact s1 _ _ ebk
          have hL2 : All (upd (upd H t (.tup [.int (0 - (one : Int) - 1)])) st (.lst (refs (L0.set one (t, [-((one + 1 : Nat) : Int)]))))) (L0.set one (t, [-((one + 1 : Nat) : Int)])) := (all_set (hL0.same s1) ht).upd (s1 _ _ est)
          have hB2 : All (upd (upd H t (.tup [.int (0 - (one : Int) - 1)])) st (.lst (refs (L0.set one (t, [-((one + 1 : Nat) : Int)]))))) B := (hB.same s1).upd (s1 _ _ est)
          generalize (upd (upd H t (.tup [.int (0 - (one : Int) - 1)])) st (.lst (refs (L0.set one (t, [-((one + 1 : Nat) : Int)]))))) = H2 at *
          have hoB : one < B.length := by omega
          refine ⟨.ref bk, rfl, _, rfl, bk, refs B, _, .ref B[one].1, rfl, rfl, SqL.of ebk2, atI_nat (refs_get hoB), B[one].1, B[one].2, rfl, (hB2 _ (List.getElem_mem hoB)).sq, by have := hBlen _ (List.getElem_mem hoB); omega, fun H3 t2 s3 n2 ht2 => ?_⟩
          refine ⟨.ref bk, rfl, _, rfl, bk, _, _, one, rfl, rfl, s3 _ _ ebk2, by rw [refs_length]; exact ixN_at hoB, ?_⟩
          rw [refs_set B one (t2, K71.inv B[one].2)]
          have hobl := hBlen _ (List.getElem_mem hoB)
          refine q _ (L0.set one (t, [-((one + 1 : Nat) : Int)])) (B.set one (t2, K71.inv B[one].2)) y11 y12 (Kept.set (k2.trans s3.kept)) (by rw [upd_ne (Ne.symm hne)]; exact s3 _ _ est2) ((hL2.same s3).upd (s3 _ _ ebk2)) ?_ ?_ upd_same ((all_set (q := (t2, K71.inv B[one].2)) (hB2.same s3) ht2).upd (s3 _ _ ebk2)) (by rw [List.length_set]; exact hBl) ?_
          · rw [← rws_set, eL0]; exact K71.ren_flip (by omega) h4 h1
          · exact len_set hLlen (by show 1 ≤ 2; decide)
          · exact len_set (fun z hz => by have := hBlen z hz; omega) (by rw [K71.inv_length]; omega)
        · have e2 : p ≠ one := fun h => e2 (decide_eq_true (by rw [h]))
          refine ⟨_, rfl, rfl, _, rfl, ite2 (fun e3 => ?_) (fun e3 => ?_)⟩
          · skip
            refine ⟨_, rfl, _, 1, rfl, rfl, by show (1 : Nat) ≤ sizeLine; decide, fun t1 n1 => ⟨_, rfl, _, 1, rfl, rfl, by show (1 : Nat) ≤ sizeLine; decide, fun t2 n2 => ⟨by show (2 : Nat) ≤ sizeLine; decide, fun t3 n3 => ?_⟩⟩⟩
            have s1 := same_upd (o := .tup [.int ((p : Int) + 1)]) n1
            have s2 := same_upd (o := .tup [.int ((one : Int) + 1)]) n2
            have s3 := same_upd (o := .tup [.ref t1, .ref t2]) n3
            have s13 := (s1.trans s2).trans s3
            have ht1 : RA (upd (upd (upd H t1 (.tup [.int ((p : Int) + 1)])) t2 (.tup [.int ((one : Int) + 1)])) t3 (.tup [.ref t1, .ref t2])) t1 [((p + 1 : Nat) : Int)] := s3 _ _ (s2 _ _ (by rw [upd_same]; rfl))
            have ht2 : RA (upd (upd (upd H t1 (.tup [.int ((p : Int) + 1)])) t2 (.tup [.int ((one : Int) + 1)])) t3 (.tup [.ref t1, .ref t2])) t2 [((one + 1 : Nat) : Int)] := s3 _ _ (by rw [upd_same]; rfl)
            have et3 : (upd (upd (upd H t1 (.tup [.int ((p : Int) + 1)])) t2 (.tup [.int ((one : Int) + 1)])) t3 (.tup [.ref t1, .ref t2])) t3 = some (.tup [.ref t1, .ref t2]) := upd_same
            have est1 := s13 _ _ est
            have ebk1 := s13 _ _ ebk
            have hL1 := hL0.same s13
            have hB1 := hB.same s13
            have k1 : Kept st bk H (upd (upd (upd H t1 (.tup [.int ((p : Int) + 1)])) t2 (.tup [.int ((one : Int) + 1)])) t3 (.tup [.ref t1, .ref t2])) := s13.kept
            generalize (upd (upd (upd H t1 (.tup [.int ((p : Int) + 1)])) t2 (.tup [.int ((one : Int) + 1)])) t3 (.tup [.ref t1, .ref t2])) = H1 at *
            refine ⟨t3, _, rfl, SqT.of et3, rfl, _, _, rfl, .ref st, rfl, _, rfl, st, _, _, one, rfl, rfl, est1, by rw [refs_length]; exact ixN_at (by omega), _, _, rfl, .ref st, rfl, _, rfl, st, _, _, p, rfl, rfl, upd_same, by rw [List.length_set, refs_length]; exact ixN_at (by omega), rfl, ?_⟩
            rw [refs_set L0 one (t1, [((p + 1 : Nat) : Int)]), refs_set _ p (t2, [((one + 1 : Nat) : Int)])]
            have est2 : (upd (upd H1 st (.lst (refs (L0.set one (t1, [((p + 1 : Nat) : Int)]))))) st (.lst (refs ((L0.set one (t1, [((p + 1 : Nat) : Int)])).set p (t2, [((one + 1 : Nat) : Int)]))))) st = some (.lst (refs ((L0.set one (t1, [((p + 1 : Nat) : Int)])).set p (t2, [((one + 1 : Nat) : Int)])))) := upd_same
            have ebk2 : (upd (upd H1 st (.lst (refs (L0.set one (t1, [((p + 1 : Nat) : Int)]))))) st (.lst (refs ((L0.set one (t1, [((p + 1 : Nat) : Int)])).set p (t2, [((one + 1 : Nat) : Int)]))))) bk = some (.lst (refs B)) := by rw [upd_ne hne, upd_ne hne]; exact ebk1
            have e1s : (upd H1 st (.lst (refs (L0.set one (t1, [((p + 1 : Nat) : Int)]))))) st = some (.lst (refs (L0.set one (t1, [((p + 1 : Nat) : Int)])))) := upd_same
            have hL2 : All (upd (upd H1 st (.lst (refs (L0.set one (t1, [((p + 1 : Nat) : Int)]))))) st (.lst (refs ((L0.set one (t1, [((p + 1 : Nat) : Int)])).set p (t2, [((one + 1 : Nat) : Int)]))))) ((L0.set one (t1, [((p + 1 : Nat) : Int)])).set p (t2, [((one + 1 : Nat) : Int)])) := ((all_set (all_set hL1 ht1) ht2).upd est1).upd e1s
            have hB2 : All (upd (upd H1 st (.lst (refs (L0.set one (t1, [((p + 1 : Nat) : Int)]))))) st (.lst (refs ((L0.set one (t1, [((p + 1 : Nat) : Int)])).set p (t2, [((one + 1 : Nat) : Int)]))))) B := (hB1.upd est1).upd e1s
            have k2 : Kept st bk H (upd (upd H1 st (.lst (refs (L0.set one (t1, [((p + 1 : Nat) : Int)]))))) st (.lst (refs ((L0.set one (t1, [((p + 1 : Nat) : Int)])).set p (t2, [((one + 1 : Nat) : Int)]))))) := fun b' z n1 n2 e => by rw [upd_ne n1, upd_ne n1]; exact k1 _ _ n1 n2 e
            generalize (upd (upd H1 st (.lst (refs (L0.set one (t1, [((p + 1 : Nat) : Int)]))))) st (.lst (refs ((L0.set one (t1, [((p + 1 : Nat) : Int)])).set p (t2, [((one + 1 : Nat) : Int)]))))) = H2 at *
            have hoB : one < B.length := by omega
            have hpB : p < B.length := by omega
            refine ⟨.ref bk, rfl, _, rfl, bk, refs B, _, .ref B[p].1, rfl, rfl, SqL.of ebk2, atI_nat (refs_get hpB), .ref bk, rfl, _, rfl, bk, refs B, _, .ref B[one].1, rfl, rfl, SqL.of ebk2, atI_nat (refs_get hoB), by show (2 : Nat) ≤ sizeLine; decide, fun t4 n4 => ?_⟩
            have s4 := same_upd (o := .tup [.ref B[p].1, .ref B[one].1]) n4
            refine ⟨t4, _, rfl, SqT.of upd_same, rfl, _, _, rfl, .ref bk, rfl, _, rfl, bk, _, _, one, rfl, rfl, s4 _ _ ebk2, by rw [refs_length]; exact ixN_at hoB, _, _, rfl, .ref bk, rfl, _, rfl, bk, _, _, p, rfl, rfl, upd_same, by rw [List.length_set, refs_length]; exact ixN_at hpB, rfl, ?_⟩
            rw [refs_set B one B[p], refs_set _ p B[one]]
            have e3b : (upd (upd H2 t4 (.tup [.ref B[p].1, .ref B[one].1])) bk (.lst (refs (B.set one B[p])))) bk = some (.lst (refs (B.set one B[p]))) := upd_same
            refine q _ ((L0.set one (t1, [((p + 1 : Nat) : Int)])).set p (t2, [((one + 1 : Nat) : Int)])) ((B.set one B[p]).set p B[one]) y11 y12 (Kept.set (Kept.set (k2.trans s4.kept))) (by rw [upd_ne (Ne.symm hne), upd_ne (Ne.symm hne)]; exact s4 _ _ est2) (((hL2.same s4).upd (s4 _ _ ebk2)).upd e3b) ?_ ?_ upd_same ?_ (by rw [List.length_set, List.length_set]; exact hBl) ?_
            · rw [← rws_set, ← rws_set, eL0]; exact K71.ren_swap (by omega) h4 h1 hp e2
            · exact len_set (len_set hLlen (by show 1 ≤ 2; decide)) (by show 1 ≤ 2; decide)
            · exact ((all_set (all_set (hB2.same s4) ((hB2.same s4) _ (List.getElem_mem hpB))) ((hB2.same s4) _ (List.getElem_mem hoB))).upd (s4 _ _ ebk2)).upd e3b
            · exact len_set (len_set (fun z hz => by have := hBlen z hz; omega) (by have := hBlen _ (List.getElem_mem hpB); omega)) (by have := hBlen _ (List.getElem_mem hoB); omega)
          · skip
            refine ⟨_, rfl, fun s hs => ?_⟩
            refine ⟨_, rfl, _, 1, rfl, rfl, _, rfl, _, rfl, _, 1, rfl, rfl, s, _, rfl, rfl, .inl ⟨by omega, by omega⟩, by show (2 : Nat) ≤ sizeLine; decide, fun t1 n1 => ?_⟩
            have s1 := same_upd (o := .tup [.int ((one : Int) + 1), .int (s * ((p : Int) + 1))]) n1
            refine ⟨.ref st, rfl, _, rfl, st, _, _, one, rfl, rfl, s1 _ _ est, by rw [refs_length]; exact ixN_at (by omega), ?_⟩
            rw [refs_set L0 one (t1, [((one + 1 : Nat) : Int), s * ((p : Int) + 1)])]
            have ht : RA (upd H t1 (.tup [.int ((one : Int) + 1), .int (s * ((p : Int) + 1))])) t1 [((one + 1 : Nat) : Int), s * ((p : Int) + 1)] := by unfold RA; rw [upd_same]; rfl
            have k2 : Kept st bk H (upd (upd H t1 (.tup [.int ((one : Int) + 1), .int (s * ((p : Int) + 1))])) st (.lst (refs (L0.set one (t1, [((one + 1 : Nat) : Int), s * ((p : Int) + 1)]))))) := fun b' z n1 n2 e => by rw [upd_ne n1]; exact s1 _ _ e
            have est2 : (upd (upd H t1 (.tup [.int ((one : Int) + 1), .int (s * ((p : Int) + 1))])) st (.lst (refs (L0.set one (t1, [((one + 1 : Nat) : Int), s * ((p : Int) + 1)]))))) st = some (.lst (refs (L0.set one (t1, [((one + 1 : Nat) : Int), s * ((p : Int) + 1)])))) := upd_same
            have ebk2 : (upd (upd H t1 (.tup [.int ((one : Int) + 1), .int (s * ((p : Int) + 1))])) st (.lst (refs (L0.set one (t1, [((one + 1 : Nat) : Int), s * ((p : Int) + 1)]))))) bk = some (.lst (refs B)) := by rw [upd_ne hne]; exact s1 _ _ ebk
            have hL2 : All (upd (upd H t1 (.tup [.int ((one : Int) + 1), .int (s * ((p : Int) + 1))])) st (.lst (refs (L0.set one (t1, [((one + 1 : Nat) : Int), s * ((p : Int) + 1)]))))) (L0.set one (t1, [((one + 1 : Nat) : Int), s * ((p : Int) + 1)])) := (all_set (hL0.same s1) ht).upd (s1 _ _ est)
            have hB2 : All (upd (upd H t1 (.tup [.int ((one : Int) + 1), .int (s * ((p : Int) + 1))])) st (.lst (refs (L0.set one (t1, [((one + 1 : Nat) : Int), s * ((p : Int) + 1)]))))) B := (hB.same s1).upd (s1 _ _ est)
            generalize (upd (upd H t1 (.tup [.int ((one : Int) + 1), .int (s * ((p : Int) + 1))])) st (.lst (refs (L0.set one (t1, [((one + 1 : Nat) : Int), s * ((p : Int) + 1)]))))) = H2 at *
            have hoB : one < B.length := by omega
            have hpB : p < B.length := by omega
            refine ⟨bk, B, p, s, rfl, rfl, rfl, ebk2, hB2, hpB, fun z hz => by have := hBlen z hz; omega, fun H3 t2 r s3 h2 hrl => ?_⟩
            have hrl' : r.length ≤ b := by
              have e : B.getD p (0, []) = B[p] := by rw [List.getD_eq_getElem?_getD, List.getElem?_eq_getElem hpB]; rfl
              rw [e] at hrl
              exact Nat.le_trans hrl (hBlen _ (List.getElem_mem hpB))
            have hB3 := hB2.same s3
            have hobl := hBlen _ (List.getElem_mem hoB)
            refine ⟨.ref bk, rfl, _, rfl, bk, refs B, _, .ref B[one].1, rfl, rfl, SqL.of (s3 _ _ ebk2), atI_nat (refs_get hoB), _, rfl, ?_⟩
            refine catA (hB3 _ (List.getElem_mem hoB)) h2 (by omega) fun t3 H4 s4 h3 => ?_
            refine ⟨t3, _, rfl, h3.sq, by rw [List.length_append]; omega, fun H5 t4 s5 n4 h4' => ?_⟩
            have s35 := (s3.trans s4).trans s5
            refine ⟨.ref bk, rfl, _, rfl, bk, _, _, one, rfl, rfl, s35 _ _ ebk2, by rw [refs_length]; exact ixN_at hoB, ?_⟩
            rw [refs_set B one (t4, pl (B[one].2 ++ r))]
            refine q _ (L0.set one (t1, [((one + 1 : Nat) : Int), s * ((p : Int) + 1)])) (B.set one (t4, pl (B[one].2 ++ r))) (some (.int s)) (some (.ref t2)) (Kept.set (k2.trans s35.kept)) (by rw [upd_ne (Ne.symm hne)]; exact s35 _ _ est2) ((hL2.same s35).upd (s35 _ _ ebk2)) ?_ ?_ upd_same ((all_set (q := (t4, pl (B[one].2 ++ r))) (hB2.same s35) h4').upd (s35 _ _ ebk2)) (by rw [List.length_set]; exact hBl) ?_
            · rw [← rws_set, eL0]
              refine K71.ren_put (by omega) h4 h1 ?_ ?_
              · rcases hs with h | h
                · rw [h]; omega
                · rw [h]; omega
              · rcases hs with h | h
                · rw [h]; omega
                · rw [h]; omega
            · exact len_set hLlen (by show 2 ≤ 2; decide)
            · exact len_set (fun z hz => by have := hBlen z hz; omega) (by have := pl_len (B[one].2 ++ r); rw [List.length_append] at this; show (pl (B[one].2 ++ r)).length ≤ 2 * b; omega)
    obtain ⟨d, g, c, T, n, s, rfl, st, hT, n1, n4, hs, q⟩ := h
    refine ⟨.int (n : Int), rfl, (n : Int), 1, rfl, rfl, 1, (n : Int) + 1, rfl, by omega, fun im0 nim0 => ?_⟩
    refine lc_range (lo := 1) (n := ((n : Int) + 1 - 1).toNat) (fun i H3 => Same H H3 ∧ ∃ L : Rws, H3 im0 = some (.lst (refs L)) ∧ All H3 L ∧ rws L = ident i)
      ⟨same_upd nim0, [], by rw [upd_same]; rfl, fun q hq => (by cases hq), rfl⟩ (fun i H3 hi h => ?_) (fun H3 h => ?_)
    · obtain ⟨sm, L, eo, hL, eL⟩ := h
      have eLl : L.length = i := by rw [← rws_length, eL, K71.ident_length]
      refine ⟨rfl, _, rfl, by show (1 : Nat) ≤ sizeLine; decide, fun t nt => ?_⟩
      have s4 := same_upd (o := .tup [.int ((1 : Int) + (i : Nat))]) nt
      refine ⟨_, s4 _ _ eo, ?_, same_own nim0 (sm.trans s4), L ++ [(t, [((i + 1 : Nat) : Int)])], by rw [upd_same, refs_snoc], ((hL.same s4).snoc ?_).upd (s4 _ _ eo), ?_⟩
      · rw [refs_length, eLl]; exact Nat.lt_of_lt_of_le (by omega : i < 100000) (by decide)
      · unfold RA; rw [upd_same, show ((i + 1 : Nat) : Int) = (1 : Int) + (i : Nat) by omega]; rfl
      · rw [rws_snoc, eL]; unfold ident; rw [List.range_succ, List.map_append]; rfl
    obtain ⟨sm0, L0, eim0, hL0, eL0⟩ := h
    rw [show ((n : Int) + 1 - 1).toNat = n by omega] at eL0
    refine ⟨.ref im0, rfl, im0, _, rfl, .inl (SqL.of eim0), fun bk nbk => ?_⟩
    have s1 := same_upd (o := .lst (refs L0)) nbk
    have nbk0 : H bk = none := Same.free sm0 nbk
    have hL0l : L0.length = n := by rw [← rws_length, eL0, K71.ident_length]
    have hlen0 : ∀ z ∈ L0, z.2.length ≤ 1 := fun z hz => K71.ident_len (n := n) z.2 (by rw [← eL0]; exact List.mem_map.2 ⟨z, hz, rfl⟩)
    refine ⟨_, rfl, _, rfl, by omega, by omega, ?_⟩
    refine for_range (lo := 0) (n := ((s : Nat) : Int).toNat) (fun i σ H3 => ∃ (im : Addr) (L B : Rws) (y6 y7 y8 y9 y10 y11 y12 : Option V), σ = [some (.ref d), some (.int (n : Int)), some (.int (s : Int)), some (.ref im), none, some (.ref bk), y6, y7, y8, y9, y10, y11, y12, none] ∧
        Kept d g H H3 ∧ St d g c (T + 3 * i) H3 ∧ H3 im = some (.lst (refs L)) ∧ im ≠ g ∧ im ≠ bk ∧ All H3 L ∧ Ren n (rws L) ∧ (∀ z ∈ L, z.2.length ≤ 2 ^ i) ∧ H3 bk = some (.lst (refs B)) ∧ All H3 B ∧ B.length = n ∧ (∀ z ∈ B, z.2.length ≤ 2 ^ i))
      ⟨im0, L0, L0, none, none, none, none, none, none, none, rfl, (sm0.trans s1).kept, (st.same sm0).same s1, s1 _ _ eim0, (st.ne nim0).2, ne_of_none eim0 nbk, hL0.same s1, by rw [eL0]; exact K71.Ren.ident n1 n4, hlen0, upd_same, hL0.same s1, hL0l, hlen0⟩
      (fun i σ H3 hi h => ?_) (fun σ H3 h => ?_)
    · obtain ⟨im, L, B, y6, y7, y8, y9, y10, y11, y12, rfl, k3, st3, eim, img_, imb, hL, rn, hlen, ebk, hB, hBl, hBlen⟩ := h
      have hi' : i < s := by omega
      have hpow : 2 ^ i ≤ 4 := by
        have : i = 0 ∨ i = 1 ∨ i = 2 := by omega
        rcases this with h | h | h <;> (rw [h]; decide)
      refine ⟨.ref d, rfl, d, g, c, T + 3 * i, 4, rfl, st3, by omega, by decide, by decide, fun H4 z1 hz1 k4 st4 => ?_⟩
      refine ⟨.ref d, rfl, _, rfl, d, g, c, T + 3 * i + 1, n, rfl, st4, by omega, n1, by omega, fun H5 z2 hz2 k5 st5 => ⟨_, _, rfl, ?_⟩⟩
      refine ⟨d, g, c, T + 3 * i + 1 + 1, n, z2, rfl, rfl, rfl, st5, by omega, n1, n4, hz2, fun H6 p hp k6 st6 => ?_⟩
      have bkg := (st.ne nbk0).2
      have k36 := (k4.trans k5).trans k6
      have eim6 := k36.lst st3 eim img_
      have ebk6 := k36.lst st3 ebk bkg
      have hL6 := k36.all st3 hL
      have hB6 := k36.all st3 hB
      have k06 := k3.trans k36
      -- the step's list
      refine ⟨.int (n : Int), rfl, (n : Int), 1, rfl, rfl, 1, (n : Int) + 1, rfl, by omega, fun sp nsp => ?_⟩
      refine lc_range (lo := 1) (n := ((n : Int) + 1 - 1).toNat) (fun i H7 => Same H6 H7 ∧ ∃ M : Rws, H7 sp = some (.lst (refs M)) ∧ All H7 M ∧ rws M = ident i)
        ⟨same_upd nsp, [], by rw [upd_same]; rfl, fun q hq => (by cases hq), rfl⟩ (fun i H7 hi h => ?_) (fun H7 h => ?_)
      · obtain ⟨sm, L, eo, hL, eL⟩ := h
        have eLl : L.length = i := by rw [← rws_length, eL, K71.ident_length]
        refine ⟨rfl, _, rfl, by show (1 : Nat) ≤ sizeLine; decide, fun t nt => ?_⟩
        have s4 := same_upd (o := .tup [.int ((1 : Int) + (i : Nat))]) nt
        refine ⟨_, s4 _ _ eo, ?_, same_own nsp (sm.trans s4), L ++ [(t, [((i + 1 : Nat) : Int)])], by rw [upd_same, refs_snoc], ((hL.same s4).snoc ?_).upd (s4 _ _ eo), ?_⟩
        · rw [refs_length, eLl]; exact Nat.lt_of_lt_of_le (by omega : i < 100000) (by decide)
        · unfold RA; rw [upd_same, show ((i + 1 : Nat) : Int) = (1 : Int) + (i : Nat) by omega]; rfl
        · rw [rws_snoc, eL]; unfold ident; rw [List.range_succ, List.map_append]; rfl
      obtain ⟨s7, M, esp, hM, eM⟩ := h
      rw [show ((n : Int) + 1 - 1).toNat = n by omega] at eM
      have st7 := st6.same s7
      have nsp0 : H sp = none := k06.free st6 nsp
      have bksp : bk ≠ sp := ne_of_none ebk6 nsp
      have imsp : im ≠ sp := ne_of_none eim6 nsp
      refine ⟨bk, sp, M, B, n, z2, p, z1, 2 ^ i, _, _, _, _, _, _, _, _, _, rfl, esp, hM, eM, s7 _ _ ebk6, hB6.same s7, hBl, hBlen, by omega, bksp, hz2, hp, n4, fun H8 N B' z11 z12 k8 esp8 hN rnN hNlen ebk8 hB8 hB8l hB8len => ?_⟩
      have k08 : Kept d g H H8 := (k06.trans s7.kept).then k8 nsp0 nbk0
      have st8 : St d g c (T + 3 * i + 1 + 1 + 1) H8 := st7.keep k8 ⟨st.ne3 nsp0, st.ne3 nbk0⟩
      have eim8 : H8 im = some (.lst (refs L)) := k8 _ _ imsp imb (s7 _ _ eim6)
      have hL8 : All H8 L := k8.lst2 esp (s7 _ _ ebk6) (hL6.same s7)
      have hLl : L.length = n := by rw [← rws_length]; exact rn.len
      have hNl : N.length = n := by rw [← rws_length]; exact rnN.len
      have hNu : ∀ r ∈ rws N, r.length ≤ 2 := fun r hr => by obtain ⟨z, hz, rfl⟩ := List.mem_map.1 hr; exact hNlen z hz
      refine ⟨.ref im, rfl, im, rfl, ⟨_, SqL.of eim8⟩, fun o no => ?_⟩
      refine lc_list (xs := refs L) (fun j H9 => Same H8 H9 ∧ ∃ G : Rws, H9 o = some (.lst (refs G)) ∧ All H9 G ∧ rws G = ((rws L).take j).map (ren (rws N)))
        ⟨same_upd no, [], by rw [upd_same]; rfl, fun q hq => (by cases hq), rfl⟩ (fun j H9 hj h => SqL.of (h.1 _ _ eim8)) (fun j x H9 hx h => ?_) (fun H9 h => ?_)
      · obtain ⟨sm, G, eo, hG, eG⟩ := h
        obtain ⟨hj, rfl⟩ := refs_at hx
        have hju : j < (rws L).length := by rw [rws_length]; exact hj
        have hlt : ∀ v ∈ L[j].2, v ≠ 0 ∧ -(N.length : Int) ≤ v ∧ v ≤ N.length := fun v hv => by
          have := rn.lets j hju v (by rw [rows_get hj]; exact hv)
          omega
        have eGl : G.length = j := by rw [← rws_length, eG, List.length_map, List.length_take]; omega
        have hjl := hlen _ (List.getElem_mem hj)
        refine ⟨rfl, .ref sp, rfl, .ref L[j].1, rfl, sp, L[j].1, N, L[j].2, rfl, .inl (sm _ _ esp8), hN.same sm, (hL8 _ (List.getElem_mem hj)).same sm, hlt, by have := K71.flat_len hNu L[j].2; omega, fun H10 t s10 nt ht => ?_⟩
        refine ⟨_, s10 _ _ eo, ?_, same_own no (sm.trans s10), G ++ [(t, ren (rws N) L[j].2)], by rw [upd_same, refs_snoc], ?_, ?_⟩
        · rw [refs_length, eGl]; exact Nat.lt_of_lt_of_le (by omega : j < 100000) (by decide)
        · exact ((hG.same s10).snoc ht).upd (s10 _ _ eo)
        · rw [rws_snoc, eG, List.take_add_one, List.getElem?_eq_getElem hju, List.map_append, rws_at hju hj]; rfl
      obtain ⟨sm, G, eo, hG, eG⟩ := h
      rw [refs_length, ← rws_length, List.take_length] at eG
      have eG' : rws G = K71.comp (rws L) (rws N) := eG
      have oim := ne_of_none eim8 no
      refine ⟨o, G, B', _, _, _, _, _, _, _, rfl, k08.trans sm.kept, (show T + 3 * i + 1 + 1 + 1 = T + 3 * (i + 1) by omega) ▸ st8.same sm, eo, (st8.ne no).2, Ne.symm (ne_of_none ebk8 no), hG, by rw [eG']; exact rn.comp rnN, ?_, sm _ _ ebk8, hB8.same sm, hB8l, fun z hz => by have := hB8len z hz; rw [Nat.pow_succ]; omega⟩
      intro z hz
      have hz2 : z.2 ∈ rws G := List.mem_map.2 ⟨z, hz, rfl⟩
      rw [eG] at hz2
      obtain ⟨r, hr, er⟩ := List.mem_map.1 hz2
      obtain ⟨y, hy, rfl⟩ := List.mem_map.1 hr
      rw [← er]
      have h1 := K71.ren_len hNu y.2
      have h2 := hlen y hy
      rw [Nat.pow_succ]; omega
    · obtain ⟨im, L, B, y6, y7, y8, y9, y10, y11, y12, rfl, k3, st3, eim, img_, imb, hL, rn, hlen, ebk, hB, hBl, hBlen⟩ := h
      refine ⟨.ref im, rfl, .ref bk, rfl, by show (2 : Nat) ≤ sizeLine; decide, fun t nt => ?_⟩
      have s4 := same_upd (o := .tup [.ref im, .ref bk]) nt
      refine q _ t im bk L (k3.trans s4.kept) ((st3.same s4).mono (by omega)) upd_same (s4 _ _ eim) (hL.same s4) rn fun z hz => ?_
      have h1 := hlen z hz
      have : ((s : Nat) : Int).toNat = 0 ∨ ((s : Nat) : Int).toNat = 1 ∨ ((s : Nat) : Int).toNat = 2 ∨ ((s : Nat) : Int).toNat = 3 := by omega
      rcases this with h | h | h | h <;> (rw [h] at h1; omega)
end
end K71W

/-! ## Wk26 -/
set_option Elab.async false
set_option linter.all false
set_option maxRecDepth 100000
namespace K71W
open PySem PySem.Spec PyProof.Rows L2
open K71 (Pl Fits pl core img ren conj ident Ren shI comp)
section
variable {P : Program} {w : World} {K : PySem.W.Frag} {mg : Str → Option Value} {base : Heap}

abbrev sBase : Stmt := topS 61
theorem scBase : FnScope ["_law_state", "_law_deeds", "_law_way", "_law_found", "_law_lap", "_law_letter", "_law_others", "_law_x", "_law_some", "_law_lot"] ["_law_state", "_law_deeds"] (defScope sBase) := ⟨rfl, rfl, rfl, by decide +kernel, rfl, by decide +kernel, by decide +kernel⟩
def tLaps : TE := fun σ H Q => ∃ (d g c : Addr) (T n : Nat), σ[0]? = some (some (.ref d)) ∧ σ[1]? = some (some (.int (n : Int))) ∧ St d g c T H ∧ T ≤ 1000000 ∧ ∀ H1 (z : Nat), z ≤ 3 → (n ≤ 1 → z = 0) → Kept d g H H1 → St d g c (T + 1) H1 → Q (.int (z : Int)) H1
def spBase : Sp := fun vs H Q _ => ∃ (d g c : Addr) (T n : Nat), vs = [.ref d, .int (n : Int)] ∧ St d g c T H ∧ T + 100 ≤ 1000000 ∧ 1 ≤ n ∧ n ≤ 4 ∧
  ∀ H' p L, Kept d g H H' → St d g c (T + 40) H' → H' p = some (.tup (refs L)) → All H' L → Ren n (rws L) → (∀ q ∈ L, q.2.length ≤ 27) → Q (.ref p) H'
theorem ok_base (D : ∃ f fd, Def K mg "_law_base" sBase ["_law_state", "_law_deeds"] f fd) (DR : Fn P w K mg base "_law_draw" ["_law_state", "_law_room"] 2 spDraw) (PK : Fn P w K mg base "_law_pick" ["_law_state", "_law_some"] 3 spPick)
    (LT : Fn P w K mg base "_law_mk_letters" ["_law_deeds"] 1 spLetters) (X : Fn P w K mg base "_law_rn_exchange" ["_law_state", "_law_deeds"] 4 spExch) (M : Fn P w K mg base "_law_mk_renaming" ["_law_state", "_law_deeds", "_law_steps"] 3 spMkRng)
    (I : Fn P w K mg base "_law_rn_ident" ["_law_deeds"] 1 spIdent) (A' : Fn P w K mg base "_law_rn_after" ["_law_images", "_law_step"] 3 spAfter) (S : Fn P w K mg base "_law_sh_images" ["_law_deeds", "_law_move_here"] 1 spShImages)
    (mt : mg "tuple" = none) (mr : mg "range" = none) (m_abs : mg "abs" = none) (m_sorted : mg "sorted" = none) (m_set : mg "set" = none) : Fn P w K mg base "_law_base" ["_law_state", "_law_deeds"] 5 spBase := by
  obtain ⟨f, fd, D⟩ := D
  obtain ⟨fD, fdD, bD, gD, kD, GD⟩ := DR
  obtain ⟨fP, fdP, bP, gP, kP, GP⟩ := PK
  obtain ⟨fL, fdL, bL, gL, kL, GL⟩ := LT
  obtain ⟨fX, fdX, bX, gX, kX, GX⟩ := X
  obtain ⟨fM, fdM, bM, gM, kM, GM⟩ := M
  obtain ⟨fI, fdI, bI, gI, kI, GI⟩ := I
  obtain ⟨fA, fdA, bA, gA, kA, GA⟩ := A'
  obtain ⟨fS, fdS, bS, gS, kS, GS⟩ := S
  refine D.fn (D.F.ok scBase (fun vs H Q E h => ?_) (fun cdv A outer s H vs Q E hr h => ?_))
  · obtain ⟨d, g, c, T, n, rfl, _⟩ := h; rfl
  · refine ⟨_, (pss_cons (ps_set (i := 2) scBase.nd rfl (.inl rfl) (pe_call GD (hr.mono (by decide)) (by rfl) gD kD bD .nil pass0 (pa_cons (pv 0) (pa_cons pe_int pa_nil))))
      (pss_cons (ps_if (pt_cmpR op_eq (pv 2) pe_int (nomark _)) (pss_one (ps_ret (pe_ix ix_tup (pe_call GX (hr.mono (by decide)) (by rfl) gX kX bX .nil pass0 (pa_cons (pv 0) (pa_cons (pv 1) pa_nil))) pe_int (fun _ _ => rfl)))) pss_nil)
      (pss_cons (ps_if (pt_cmpR op_eq (pv 2) pe_int (nomark _)) (pss_one (ps_ret (pe_callTy call_tuple_of (by rfl) mt (by decide +kernel) (pa_cons (pe_ix ix_tup (pe_call GM (hr.mono (by decide)) (by rfl) gM kM bM .nil pass0 (pa_cons (pv 0) (pa_cons (pv 1) (pa_cons (pe_call GD (hr.mono (by decide)) (by rfl) gD kD bD .nil pass0 (pa_cons (pv 0) (pa_cons pe_int pa_nil))) pa_nil)))) pe_int (fun _ _ => rfl)) pa_nil)))) pss_nil)
      (pss_cons (ps_set (i := 3) scBase.nd rfl (.inl rfl) (pe_call GI (hr.mono (by decide)) (by rfl) gI kI bI .nil pass0 (pa_cons (pv 1) pa_nil)))
      (pss_cons (ps_for PassesOwn.never rfl (pi_range1 (by rfl) mr (pa_cons (pe_weak (t' := tLaps) (pe_ifExp (pt_cmpR op_gt (pv 1) pe_int (nomark _)) (pe_call GD (hr.mono (by decide)) (by rfl) gD kD bD .nil pass0 (pa_cons (pv 0) (pa_cons pe_int pa_nil))) pe_int) (fun σ H Q h => ?_)) pa_nil)) (pg_name (i := 4) scBase.nd rfl (.inl rfl)) (pss_cons (ps_set (i := 5) scBase.nd rfl (.inr rfl) (pe_call GP (hr.mono (by decide)) (by rfl) gP kP bP .nil pass0 (pa_cons (pv 0) (pa_cons (pe_call GL (hr.mono (by decide)) (by rfl) gL kL bL .nil pass0 (pa_cons (pv 1) pa_nil)) pa_nil))))
      (pss_cons (ps_setLc (i := 6) (own := [("_law_x", 7)]) (g := gName 7) rfl scBase.nd rfl rfl (sw_true rfl rfl rfl (by decide +kernel)) (pi_range2 (by rfl) mr (pa_cons pe_int (pa_cons (pe_op op_add (pv 1) pe_int) pa_nil))) (blkOk_by (N := ["_law_state", "_law_deeds", "_law_way", "_law_found", "_law_lap", "_law_letter", "_law_others", "_law_x", "_law_some", "_law_lot"]) (sc := defScope sBase) (by decide +kernel))
        (fun _ _ _ _ _ => pg_name (i := 7) scBase.nd rfl (Or.inl rfl)) (fun _ _ _ _ _ => (pts_one (pt_cmpR op_ne (pv 7) (pe_callB call_abs (by rfl) m_abs (by decide +kernel) (pa_cons (pv 5) pa_nil)) (nomark _)))) (fun _ _ _ _ _ => (pv 7)))
      (pss_cons (ps_set (i := 8) scBase.nd rfl (.inl rfl) (pe_op op_cat (pe_lc (own := [("_law_x", 7)]) (g := gName 7) rfl scBase.nd (pi_list (pv 6)) (blkOk_by (N := ["_law_state", "_law_deeds", "_law_way", "_law_found", "_law_lap", "_law_letter", "_law_others", "_law_x", "_law_some", "_law_lot"]) (sc := defScope sBase) (by decide +kernel))
        (fun _ _ _ _ _ => pg_name (i := 7) scBase.nd rfl (Or.inl rfl)) (fun _ _ _ _ _ => (pts_one (pt_cmpR op_eq (pe_call GD (hr.mono (by decide)) (by rfl) gD kD bD .nil pass0 (pa_cons (pv 0) (pa_cons pe_int pa_nil))) pe_int (nomark _)))) (fun _ _ _ _ _ => (pv 7))) (pe_lst (pa_cons (pe_call GP (hr.mono (by decide)) (by rfl) gP kP bP .nil pass0 (pa_cons (pv 0) (pa_cons (pv 6) pa_nil))) pa_nil))))
      (pss_cons (ps_set (i := 9) scBase.nd rfl (.inl rfl) (pe_callTy call_tuple_of (by rfl) mt (by decide +kernel) (pa_cons (pe_callB (cr_sortedSet rfl) (by rfl) m_sorted (by decide +kernel) (pa_cons (pe_callTy (cr_setL rfl) (by rfl) m_set (by decide +kernel) (pa_cons (pe_op op_cat (pv 8) (pe_lc (own := [("_law_x", 7)]) (g := gName 7) (tt := tYes) rfl scBase.nd (pi_list (pv 8)) (blkOk_by (N := ["_law_state", "_law_deeds", "_law_way", "_law_found", "_law_lap", "_law_letter", "_law_others", "_law_x", "_law_some", "_law_lot"]) (sc := defScope sBase) (by decide +kernel))
        (fun _ _ _ _ _ => pg_name (i := 7) scBase.nd rfl (Or.inl rfl)) (fun _ _ _ _ _ => pts_nil) (fun _ _ _ _ _ => (pe_op op_sub pe_int (pv 7))))) pa_nil)) pa_nil)) pa_nil)))
      (pss_one (ps_set (i := 3) scBase.nd rfl (.inl rfl) (pe_call GA (hr.mono (by decide)) (by rfl) gA kA bA .nil pass0 (pa_cons (pv 3) (pa_cons (pe_call GS (hr.mono (by decide)) (by rfl) gS kS bS .nil pass0 (pa_cons (pv 1) (pa_cons (pe_tup (pa_cons (pv 5) (pa_cons (pv 9) pa_nil))) pa_nil))) pa_nil))))))))))
      (pss_one (ps_ret (pv 3)))))))), ?_⟩
    · obtain ⟨d, g, c, T, n, h0, h1, st, hT, q⟩ := h
      refine ⟨_, h1, _, 1, rfl, rfl, _, rfl, ite2 (fun e => ?_) (fun e => ?_)⟩
      · have e' : (n : Int) > 1 := of_decide_eq_true e
        exact ⟨.ref d, h0, d, g, c, T, 4, rfl, st, hT, by decide, by decide, fun H1 z hz k1 st1 => q H1 z (by omega) (by omega) k1 st1⟩
      · exact q H 0 (by decide) (fun _ => rfl) (Kept.refl d g H) (st.mono (by omega))
    obtain ⟨d, g, c, T, n, rfl, st, hT, n1, n4, q⟩ := h
    refine ⟨.ref d, rfl, d, g, c, T, 5, rfl, st, by omega, by decide, by decide, fun H1 way hway k1 st1 => ?_⟩
    refine ⟨_, rfl, rfl, _, rfl, ite2 (fun e => ?_) (fun e => ?_)⟩
    · refine ⟨.ref d, rfl, _, rfl, d, g, c, T + 1, n, rfl, st1, by omega, n1, n4, fun H2 t ti tb L k2 st2 et eti hL rn hlen => ?_⟩
      exact ⟨t, _, 0, .ref ti, rfl, rfl, SqT.of et, atI_nat (j := 0) rfl, q H2 ti L (k1.trans k2) (st2.mono (by omega)) eti hL rn fun z hz => Nat.le_trans (hlen z hz) (by decide)⟩
    refine ⟨_, rfl, rfl, _, rfl, ite2 (fun e => ?_) (fun e => ?_)⟩
    · refine ⟨.ref d, rfl, _, rfl, .ref d, rfl, d, g, c, T + 1, 4, rfl, st1, by omega, by decide, by decide, fun H2 z hz k2 st2 => ?_⟩
      refine ⟨d, g, c, T + 1 + 1, n, z, rfl, st2, by omega, n1, n4, by omega, fun H3 t ti tb L k3 st3 et eti hL rn hlen => ?_⟩
      refine ⟨t, _, 0, .ref ti, rfl, rfl, SqT.of et, atI_nat (j := 0) rfl, ti, _, rfl, .inl ⟨SqL.of eti, fun p np => ?_⟩⟩
      have s4 := same_upd (o := .tup (refs L)) np
      exact q _ p L (((k1.trans k2).trans k3).trans s4.kept) ((st3.same s4).mono (by omega)) upd_same (hL.same s4) rn fun z hz => Nat.le_trans (hlen z hz) (by decide)
    refine ⟨_, rfl, n, rfl, n4, fun H2 fo0 L0 s2 nfo efo hL0 eL0 => ?_⟩
    have st2 := st1.same s2
    refine ⟨d, g, c, T + 1, n, rfl, rfl, st2, by omega, fun H3 laps hlaps h1laps k3 st3 => ?_⟩
    refine ⟨_, rfl, by omega, by omega, ?_⟩
    refine for_range (lo := 0) (n := ((laps : Nat) : Int).toNat) (fun i σ H4 => ∃ (fo : Addr) (L : Rws) (y4 y5 y6 y8 y9 : Option V), σ = [some (.ref d), some (.int (n : Int)), some (.int (way : Int)), some (.ref fo), y4, y5, y6, none, y8, y9] ∧
        Kept d g H H4 ∧ St d g c (T + 2 + 6 * i) H4 ∧ H4 fo = some (.tup (refs L)) ∧ All H4 L ∧ Ren n (rws L) ∧ (∀ z ∈ L, z.2.length ≤ 3 ^ i))
      ⟨fo0, L0, none, none, none, none, none, rfl, (k1.trans s2.kept).trans k3, st3, k3.tup st2 efo, k3.all st2 hL0, by rw [eL0]; exact K71.Ren.ident n1 n4, fun z hz => K71.ident_len (n := n) z.2 (by rw [← eL0]; exact List.mem_map.2 ⟨z, hz, rfl⟩)⟩
      (fun i σ H4 hi h => ?_) (fun σ H4 h => ?_)
    · obtain ⟨fo, L, y4, y5, y6, y8, y9, rfl, k4, st4, efo4, hL, rn, hlen⟩ := h
      have hi' : i < laps := by omega
      have n2 : 2 ≤ n := by
        rcases Nat.lt_or_ge n 2 with h | h
        · have := h1laps (by omega); omega
        · exact h
      have hpow : 3 ^ i ≤ 9 := by
        have : i = 0 ∨ i = 1 ∨ i = 2 := by omega
        rcases this with h | h | h <;> (rw [h]; decide)
      -- the letter
      refine ⟨.ref d, rfl, _, rfl, n, rfl, n1, n4, fun H5 la s5 nla ela => ?_⟩
      have st5 := st4.same s5
      refine ⟨d, g, c, T + 2 + 6 * i, la, ltrs n, rfl, st5, by omega, ela, (st4.ne nla).2, (fun h => by have := ltrs_length n; rw [h] at this; simp at this; omega), by rw [ltrs_length]; omega, fun H6 l hl k6 st6 => ?_⟩
      have hlf := ltrs_fit hl
      have efo6 := k6.tup st5 (s5 _ _ efo4)
      have hL6 := k6.all st5 (hL.same s5)
      have k06 : Kept d g H H6 := (k4.trans s5.kept).trans k6
      -- the others
      refine ⟨_, rfl, (n : Int), 1, rfl, rfl, 1, (n : Int) + 1, rfl, by omega, fun oo noo => ?_⟩
      refine lc_range (lo := 1) (n := ((n : Int) + 1 - 1).toNat) (fun j H7 => Same H6 H7 ∧ ∃ os : List Int, H7 oo = some (.lst (os.map V.int)) ∧ os.length ≤ j ∧ (∀ x, x ∈ os ↔ (1 ≤ x ∧ x ≤ j ∧ x ≠ (if l < 0 then -l else l))))
        ⟨same_upd noo, [], by rw [upd_same]; rfl, Nat.zero_le _, fun x => ⟨fun h => (by cases h), fun h => (by omega)⟩⟩ (fun j H7 hj h => ?_) (fun H7 h => ?_)
      · obtain ⟨sm, os, eo, hol, hos⟩ := h
        refine ⟨rfl, _, rfl, _, rfl, l, rfl, rfl, _, rfl, ?_⟩
        show if (!decide (V.int ((1 : Int) + (j : Nat)) = V.int (if l < 0 then -l else l))) = true then _ else _
        by_cases c1 : (1 : Int) + (j : Nat) = (if l < 0 then -l else l)
        · rw [if_neg (by rw [decide_eq_true (by rw [c1])]; decide)]
          refine ⟨sm, os, eo, by omega, fun x => ?_⟩
          rw [hos]
          constructor
          · rintro ⟨h1, h2, h3⟩; exact ⟨h1, by omega, h3⟩
          · rintro ⟨h1, h2, h3⟩; exact ⟨h1, by omega, h3⟩
        · rw [if_pos (by rw [decide_eq_false (fun h => c1 (V.int.inj h))]; rfl)]
          refine ⟨_, rfl, _, eo, ?_, same_own noo sm, os ++ [(1 : Int) + (j : Nat)], by rw [upd_same, List.map_append]; rfl, by rw [List.length_append, List.length_singleton]; omega, fun x => ?_⟩
          · rw [List.length_map]; exact Nat.lt_of_lt_of_le (by omega : os.length < 100000) (by decide)
          · rw [List.mem_append, hos, List.mem_singleton]
            constructor
            · rintro (⟨h1, h2, h3⟩ | h)
              · exact ⟨h1, by omega, h3⟩
              · rw [h]; exact ⟨by omega, by omega, c1⟩
            · rintro ⟨h1, h2, h3⟩
              by_cases e : x = (1 : Int) + (j : Nat)
              · exact .inr e
              · exact .inl ⟨h1, by omega, h3⟩
      obtain ⟨s7, os, eoo, hol, hos⟩ := h
      rw [show ((n : Int) + 1 - 1).toNat = n by omega] at hol hos
      have st7 := st6.same s7
      have oog := (st6.ne noo).2
      have hosne : os ≠ [] := by
        intro h
        have h1 := hos 1
        have h2 := hos 2
        rw [h] at h1 h2
        simp only [List.not_mem_nil, false_iff] at h1 h2
        omega
      have hos4 : ∀ x ∈ os, 1 ≤ x ∧ x ≤ n ∧ x.natAbs ≠ l.natAbs := fun x hx => by
        have := (hos x).1 hx
        refine ⟨this.1, this.2.1, ?_⟩
        have h3 := this.2.2
        split at h3 <;> omega
      -- some of them
      refine ⟨.ref oo, rfl, oo, rfl, ⟨_, SqL.of eoo⟩, fun so nso => ?_⟩
      have sog := (st7.ne nso).2
      refine lc_list (xs := os.map V.int) (fun j H8 => Kept d g H7 H8 ∧ St d g c (T + 2 + 6 * i + 1 + j) H8 ∧ H8 oo = some (.lst (os.map V.int)) ∧ ∃ ks : List Int, H8 so = some (.lst (ks.map V.int)) ∧ ks.length ≤ j ∧ (∀ x ∈ ks, x ∈ os))
        ⟨(same_upd nso).kept, st7.same (same_upd nso), (same_upd nso) _ _ eoo, [], by rw [upd_same]; rfl, Nat.zero_le _, fun x hx => (by cases hx)⟩ (fun j H8 hj h => SqL.of h.2.2.1) (fun j x H8 hx h => ?_) (fun H8 h => ?_)
      · obtain ⟨k8, st8, eoo8, ks, eks, hkl, hks⟩ := h
        rw [List.getElem?_map] at hx
        obtain ⟨y, hy, rfl⟩ := Option.map_eq_some_iff.1 hx
        have hj : j < os.length := (List.getElem?_eq_some_iff.1 hy).1
        have hyo : y ∈ os := List.mem_of_getElem? hy
        refine ⟨rfl, .ref d, rfl, d, g, c, T + 2 + 6 * i + 1 + j, 2, rfl, st8, by omega, by decide, by decide, fun H9 z hz k9 st9 => ⟨rfl, _, rfl, ite2 (fun e => ?_) (fun e => ?_)⟩⟩
        · have eks9 := k9.lst st8 eks sog
          have eoo9 := k9.lst st8 eoo8 oog
          have ne : oo ≠ so := ne_of_none eoo nso
          refine ⟨_, rfl, _, eks9, ?_, Kept.own nso (k8.trans k9), st7.own nso st9, by rw [upd_ne ne]; exact eoo9, ks ++ [y], by rw [upd_same, List.map_append]; rfl, by rw [List.length_append, List.length_singleton]; omega, fun x hx => ?_⟩
          · rw [List.length_map]; exact Nat.lt_of_lt_of_le (by omega : ks.length < 100000) (by decide)
          · rcases List.mem_append.1 hx with h | h
            · exact hks x h
            · rw [List.mem_singleton.1 h]; exact hyo
        · exact ⟨k8.trans k9, st9, k9.lst st8 eoo8 oog, ks, k9.lst st8 eks sog, by omega, hks⟩
      obtain ⟨k8, st8, eoo8, ks, eks, hkl, hks⟩ := h
      rw [List.length_map] at st8 hkl
      refine ⟨.ref d, rfl, .ref oo, rfl, d, g, c, T + 2 + 6 * i + 1 + os.length, oo, os, rfl, st8, by omega, eoo8, oog, hosne, by omega, fun H9 y hy k9 st9 => ?_⟩
      have eks9 := k9.lst st8 eks sog
      refine ⟨by show (1 : Nat) ≤ sizeLine; decide, fun p1 n1' => ?_⟩
      have s10 := same_upd (o := .lst [.int y]) n1'
      refine ⟨so, p1, _, _, rfl, rfl, s10 _ _ eks9, upd_same, by rw [List.length_map]; exact Nat.le_trans (by show _ + 1 ≤ 100000; omega) (by decide : 100000 ≤ sizeLine), fun sm nsm => ?_⟩
      have s11 := same_upd (o := .lst (ks.map V.int ++ [.int y])) nsm
      have esm : (upd (upd H9 p1 (.lst [.int y])) sm (.lst (ks.map V.int ++ [.int y]))) sm = some (.lst ((ks ++ [y]).map V.int)) := by rw [upd_same, List.map_append]; rfl
      have s911 := s10.trans s11
      have hsome : ∀ x ∈ ks ++ [y], x ∈ os := fun x hx => by
        rcases List.mem_append.1 hx with h | h
        · exact hks x h
        · rw [List.mem_singleton.1 h]; exact hy
      have hsl : (ks ++ [y]).length ≤ 5 := by rw [List.length_append, List.length_singleton]; omega
      generalize hso : ks ++ [y] = so' at *
      have st11 := st9.same s911
      have efo11 := s911 _ _ (k9.tup st8 (k8.tup st7 (s7 _ _ efo6)))
      have hL11 : All (upd (upd H9 p1 (.lst [.int y])) sm (.lst (ks.map V.int ++ [.int y]))) L := (k9.all st8 (k8.all st7 (hL6.same s7))).same s911
      have k011 : Kept d g H (upd (upd H9 p1 (.lst [.int y])) sm (.lst (ks.map V.int ++ [.int y]))) := (((k06.trans s7.kept).trans k8).trans k9).trans s911.kept
      generalize (upd (upd H9 p1 (.lst [.int y])) sm (.lst (ks.map V.int ++ [.int y]))) = H11 at *
      -- and their undone ones
      refine ⟨.ref sm, rfl, .ref sm, rfl, sm, rfl, ⟨_, SqL.of esm⟩, fun un nun => ?_⟩
      refine lc_list (xs := so'.map V.int) (fun j H12 => Same H11 H12 ∧ H12 un = some (.lst (((so'.map fun x => 0 - x).take j).map V.int)))
        ⟨same_upd nun, by rw [upd_same]; rfl⟩ (fun j H12 hj h => SqL.of (h.1 _ _ esm)) (fun j x H12 hx h => ?_) (fun H12 h => ?_)
      · obtain ⟨s12, eun⟩ := h
        rw [List.getElem?_map] at hx
        obtain ⟨x', hx', rfl⟩ := Option.map_eq_some_iff.1 hx
        refine ⟨rfl, _, rfl, 0, x', rfl, rfl, _, eun, ?_, same_own nun s12, ?_⟩
        · rw [List.length_map, List.length_take, List.length_map]; exact Nat.lt_of_lt_of_le (by omega : min j so'.length < 100000) (by decide)
        · rw [upd_same, List.take_add_one, List.getElem?_map, hx', List.map_append]; rfl
      obtain ⟨s12, eun⟩ := h
      rw [List.length_map, List.take_of_length_le (by rw [List.length_map]; exact Nat.le_refl _)] at eun
      refine ⟨sm, un, _, _, rfl, rfl, s12 _ _ esm, eun, by rw [List.length_map, List.length_map, List.length_map]; exact Nat.le_trans (by omega : _ ≤ 100000) (by decide : 100000 ≤ sizeLine), fun cc ncc => ?_⟩
      have s13 := same_upd (o := .lst (so'.map V.int ++ (so'.map fun x => 0 - x).map V.int)) ncc
      refine ⟨cc, so' ++ so'.map fun x => 0 - x, rfl, SqL.of (by rw [upd_same, List.map_append]), by rw [List.length_append, List.length_map]; omega, fun se mm nse hmm => ?_⟩
      rw [List.length_append, List.length_map] at hmm
      have s14 := same_upd (o := SetO w se (fun j => decide (j ∈ so' ++ so'.map fun x => 0 - x)) mm) nse
      refine ⟨se, _, mm, rfl, upd_same, by omega, fun ls so2 pw hmem hln nso2 => ?_⟩
      have s15 := same_upd (o := .lst (ls.map V.int)) nso2
      refine ⟨so2, _, rfl, .inl ⟨SqL.of upd_same, fun lot nlot => ?_⟩⟩
      have s16 := same_upd (o := .tup (ls.map V.int)) nlot
      have sall := (((s12.trans s13).trans s14).trans s15).trans s16
      have hls : ∀ x, x ∈ ls ↔ (x ∈ so' ∨ 0 - x ∈ so') := fun x => by
        rw [hmem x]
        simp only [decide_eq_true_eq, List.mem_append, List.mem_map]
        constructor
        · rintro (h | ⟨z, h, rfl⟩)
          · exact .inl h
          · exact .inr (by rw [show (0 : Int) - (0 - z) = z by omega]; exact h)
        · rintro (h | h)
          · exact .inl h
          · exact .inr ⟨0 - x, h, by omega⟩
      refine ⟨.ref fo, rfl, _, rfl, _, rfl, _, rfl, by show (2 : Nat) ≤ sizeLine; decide, fun mv nmv => ?_⟩
      have s17 := same_upd (o := .tup [.int l, .ref lot]) nmv
      refine ⟨n, mv, lot, l, ls, rfl, n4, upd_same, s17 lot _ upd_same, fun H18 shp SL s18 nsh esh hSL eSL => ?_⟩
      have sall2 := (sall.trans s17).trans s18
      have hLl : L.length = n := by rw [← rws_length]; exact rn.len
      have hSLl : SL.length = n := by rw [← rws_length, eSL, K71.shI_length]
      have hSu : ∀ r ∈ rws SL, r.length ≤ 3 := by rw [eSL]; exact K71.shI_len
      refine ⟨fo, shp, L, SL, rfl, sall2 _ _ efo11, hL11.same sall2, by omega, .inl esh, hSL, fun z hz => ?_, fun H19 p N s19 np ep hN eN => ?_⟩
      · obtain ⟨j, hj, rfl⟩ := List.mem_iff_getElem.1 hz
        have hju : j < (rws L).length := by rw [rws_length]; exact hj
        refine ⟨fun v hv => ?_, ?_⟩
        · have := rn.lets j hju v (by rw [rows_get hj]; exact hv)
          omega
        · have h1 := K71.flat_len hSu L[j].2
          have h2 := hlen _ (List.getElem_mem hj)
          omega
      · have sall3 := sall2.trans s19
        have eN' : rws N = K71.comp (rws L) (rws SL) := eN
        refine ⟨p, N, _, _, _, _, _, rfl, k011.trans sall3.kept, (st11.same sall3).mono (by omega), ep, hN, ?_, fun z hz => ?_⟩
        · rw [eN']
          refine rn.comp ?_
          rw [eSL]
          refine K71.ren_shI n1 n4 hlf (fun x => ?_) (fun x hx => ?_)
          · rw [hls, hls, show (0 : Int) - (0 - x) = x by omega]; exact Or.comm
          · rcases (hls x).1 hx with h | h
            · exact (hos4 x (hsome x h)).2.2
            · have := (hos4 _ (hsome _ h)).2.2; omega
        · have hz2 : z.2 ∈ rws N := List.mem_map.2 ⟨z, hz, rfl⟩
          rw [eN] at hz2
          obtain ⟨r, hr, er⟩ := List.mem_map.1 hz2
          obtain ⟨y', hy', rfl⟩ := List.mem_map.1 hr
          rw [← er]
          have h1 := K71.ren_len hSu y'.2
          have h2 := hlen y' hy'
          rw [Nat.pow_succ]; omega
    · obtain ⟨fo, L, y4, y5, y6, y8, y9, rfl, k4, st4, efo4, hL, rn, hlen⟩ := h
      refine ⟨.ref fo, rfl, q H4 fo L k4 (st4.mono (by omega)) efo4 hL rn fun z hz => ?_⟩
      have h1 := hlen z hz
      have : ((laps : Nat) : Int).toNat = 0 ∨ ((laps : Nat) : Int).toNat = 1 ∨ ((laps : Nat) : Int).toNat = 2 ∨ ((laps : Nat) : Int).toNat = 3 := by omega
      rcases this with h | h | h | h <;> (rw [h] at h1; omega)
end
end K71W

/-! ## Wk27 -/
set_option Elab.async false
set_option linter.all false
set_option maxRecDepth 100000
namespace K71W
open PySem PySem.Spec PyProof.Rows L2
open K71 (Pl Fits pl core img ren conj ident Ren mul rows Keeps)
section
variable {P : Program} {w : World} {K : PySem.W.Frag} {mg : Str → Option Value} {base : Heap}

abbrev sKeeps : Stmt := topS 63
theorem scKeeps : FnScope ["_law_deeds", "_law_images", "_law_deed", "_law_one", "_law_other", "_law_pairs", "_law_row"] ["_law_deeds", "_law_images"] (defScope sKeeps) := ⟨rfl, rfl, rfl, by decide +kernel, rfl, by decide +kernel, by decide +kernel⟩
def TwoOk (u : List (List Int)) (i j : Nat) : Prop := (core (mul (rows u i) (rows u j))).length = 2 ∧ (core (mul (rows u i) (K71.inv (rows u j)))).length = 2
theorem ren_two {u : List (List Int)} {i j : Nat} (hi : Pl (rows u i)) (hj : Pl (rows u j)) : ren u [((i + 1 : Nat) : Int), ((j + 1 : Nat) : Int)] = mul (rows u i) (rows u j) ∧
    ren u [((i + 1 : Nat) : Int), -((j + 1 : Nat) : Int)] = mul (rows u i) (K71.inv (rows u j)) := by
  have e1 : img u ((i + 1 : Nat) : Int) = rows u i := K71.img_pos u i
  have e2 : img u ((j + 1 : Nat) : Int) = rows u j := K71.img_pos u j
  have e3 : img u (-((j + 1 : Nat) : Int)) = K71.inv (rows u j) := by rw [show -((j + 1 : Nat) : Int) = 0 - (j : Int) - 1 by omega]; exact K71.img_neg u j
  constructor
  · rw [K71.ren_cons, K71.ren_one, K71.ren_one, e1, e2, K71.pl_of hi, K71.pl_of hj]
  · rw [K71.ren_cons, K71.ren_one, K71.ren_one, e1, e3, K71.pl_of hi, K71.pl_of hj.inv]
def spKeeps : Sp := fun vs H Q _ => ∃ (n : Nat) (a : Addr) (L : Rws), vs = [.int (n : Int), .ref a] ∧ H a = some (.tup (refs L)) ∧ All H L ∧ Ren n (rws L) ∧ (∀ q ∈ L, q.2.length ≤ 100) ∧
  ∀ H' b, Same H H' → (b = true ↔ Keeps n (rws L)) → Q (.bl b) H'
theorem ok_keeps (D : ∃ f fd, Def K mg "_law_keeps" sKeeps ["_law_deeds", "_law_images"] f fd) (R : Fn P w K mg base "_law_mk_ring" ["_law_row"] 2 (spMkRing K)) (C : Fn P w K mg base "_law_cu_spans" ["_law_row"] 2 (spSpans K))
    (M : Fn P w K mg base "_law_mk_renamed" ["_law_images", "_law_row"] 2 spMkRen) (mr : mg "range" = none) : Fn P w K mg base "_law_keeps" ["_law_deeds", "_law_images"] 3 spKeeps := by
  obtain ⟨f, fd, D⟩ := D
  obtain ⟨fR, fdR, bR, gR, kR, GR⟩ := R
  obtain ⟨fC, fdC, bC, gC, kC, GC⟩ := C
  obtain ⟨fM, fdM, bM, gM, kM, GM⟩ := M
  refine D.fn (D.F.ok scKeeps (fun vs H Q E h => ?_) (fun cdv A outer s H vs Q E hr h => ?_))
  · obtain ⟨n, a, L, rfl, _⟩ := h; rfl
  · obtain ⟨n, a, L, rfl, hA, hL, rn, hlen, q⟩ := h
    refine ⟨_, (pss_cons (ps_if (pt_cmpR (op_neD hr.units) (pe_lc (own := [("_law_deed", 2)]) (g := gName 2) rfl scKeeps.nd (pi_range2 (by rfl) mr (pa_cons pe_int (pa_cons (pe_op op_add (pv 0) pe_int) pa_nil))) (blkOk_by (N := ["_law_deeds", "_law_images", "_law_deed", "_law_one", "_law_other", "_law_pairs", "_law_row"]) (sc := defScope sKeeps) (by decide +kernel))
        (fun _ _ _ _ _ => pg_name (i := 2) scKeeps.nd rfl (Or.inl rfl)) (fun _ _ _ _ _ => (pts_one (pt_cmpR (op_neDK K rfl hr.units) (pe_call GR hr (by rfl) gR kR bR .nil pass0 (pa_cons (pe_ix (ix_tupK K rfl) (pv 1) (pe_op op_sub (pv 2) pe_int) (fun _ _ => rfl)) pa_nil)) (pe_tup (pa_cons (pv 2) pa_nil)) (nomark _)))) (fun _ _ _ _ _ => pe_int)) (pe_lst pa_nil) (nomark _)) (pss_one (ps_ret pe_bl)) pss_nil)
      (pss_cons (ps_for PassesOwn.never rfl (pi_range2 (by rfl) mr (pa_cons pe_int (pa_cons (pe_op op_add (pv 0) pe_int) pa_nil))) (pg_name (i := 3) scKeeps.nd rfl (.inl rfl)) (pss_one (ps_for PassesOwn.never rfl (pi_range2 (by rfl) mr (pa_cons (pe_op op_add (pv 3) pe_int) (pa_cons (pe_op op_add (pv 0) pe_int) pa_nil))) (pg_name (i := 4) scKeeps.nd rfl (.inl rfl)) (pss_cons (ps_set (i := 5) scKeeps.nd rfl (.inl rfl) (pe_lst (pa_cons (pe_tup (pa_cons (pv 3) (pa_cons (pv 4) pa_nil))) (pa_cons (pe_tup (pa_cons (pv 3) (pa_cons (pe_op op_sub pe_int (pv 4)) pa_nil))) pa_nil))))
      (pss_one (ps_if (pt_cmpR (op_neD hr.units) (pe_lc (own := [("_law_row", 6)]) (g := gName 6) rfl scKeeps.nd (pi_list (pv 5)) (blkOk_by (N := ["_law_deeds", "_law_images", "_law_deed", "_law_one", "_law_other", "_law_pairs", "_law_row"]) (sc := defScope sKeeps) (by decide +kernel))
        (fun _ _ _ _ _ => pg_name (i := 6) scKeeps.nd rfl (Or.inl rfl)) (fun _ _ _ _ _ => (pts_one (pt_cmpR op_ne (pe_call GC hr (by rfl) gC kC bC .nil pass0 (pa_cons (pe_call GM hr (by rfl) gM kM bM .nil pass0 (pa_cons (pv 1) (pa_cons (pv 6) pa_nil))) pa_nil)) pe_int (nomark _)))) (fun _ _ _ _ _ => pe_int)) (pe_lst pa_nil) (nomark _)) (pss_one (ps_ret pe_bl)) pss_nil))))))
      (pss_one (ps_ret pe_bl)))), ?_⟩
    have n1 := rn.n1
    have n4 := rn.n4
    have hLl : L.length = n := by rw [← rws_length]; exact rn.len
    have hpl : ∀ i, i < n → Pl (rows (rws L) i) := fun i hi => rn.pl i (by rw [rn.len]; exact hi)
    refine ⟨_, rfl, (n : Int), 1, rfl, rfl, 1, (n : Int) + 1, rfl, by omega, fun o no => ?_⟩
    refine lc_range (lo := 1) (n := ((n : Int) + 1 - 1).toNat) (fun i H3 => Same H H3 ∧ ∃ os : List Int, H3 o = some (.lst (os.map V.int)) ∧ os.length ≤ i ∧ (os = [] ↔ ∀ k, k < i → core (rows (rws L) k) = [((k + 1 : Nat) : Int)]))
      ⟨same_upd no, [], by rw [upd_same]; rfl, Nat.zero_le _, ⟨fun _ k hk => absurd hk (Nat.not_lt_zero k), fun _ => rfl⟩⟩ (fun i H3 hi h => ?_) (fun H3 h => ?_)
    · obtain ⟨sm, os, eo, hol, hos⟩ := h
      have hi' : i < L.length := by omega
      have ex : (1 : Int) + (i : Nat) - 1 = ((i : Nat) : Int) := by omega
      have erow : rows (rws L) i = L[i].2 := rows_get hi'
      refine ⟨rfl, .ref a, rfl, _, rfl, _, 1, rfl, rfl, a, refs L, _, .ref L[i].1, rfl, rfl, SqT.of (sm _ _ hA), by rw [ex]; exact atI_nat (refs_get hi'), L[i].1, L[i].2, rfl, (hL _ (List.getElem_mem hi')).same sm, by have := hlen _ (List.getElem_mem hi'); omega, fun H4 t m s4 hm hiff => ?_⟩
      refine ⟨_, rfl, by show (1 : Nat) ≤ sizeLine; decide, fun t2 n2 => ?_⟩
      have s5 := same_upd (o := .tup [.int ((1 : Int) + (i : Nat))]) n2
      have h2 : RA (upd H4 t2 (.tup [.int ((1 : Int) + (i : Nat))])) t2 [((i + 1 : Nat) : Int)] := by unfold RA; rw [upd_same, show ((i + 1 : Nat) : Int) = (1 : Int) + (i : Nat) by omega]; rfl
      refine ⟨_, _, (hm.same s5).dp, h2.dp, shaped_tup _, shaped_tup _, _, rfl, ?_⟩
      rw [eqv_tupD]
      have hc : m = [((i + 1 : Nat) : Int)] ↔ core (rows (rws L) i) = [((i + 1 : Nat) : Int)] := by rw [hiff, ← erow, K71.pl_of (hpl i (by omega))]
      have s35 := s4.trans s5
      show if (!decide (m = [((i + 1 : Nat) : Int)])) = true then _ else _
      by_cases c1 : m = [((i + 1 : Nat) : Int)]
      · rw [if_neg (by rw [decide_eq_true c1]; decide)]
        refine ⟨sm.trans s35, os, s35 _ _ eo, by omega, ?_⟩
        rw [hos]
        constructor
        · intro h k hk
          by_cases e : k = i
          · rw [e]; exact hc.1 c1
          · exact h k (by omega)
        · intro h k hk; exact h k (by omega)
      · rw [if_pos (by rw [decide_eq_false c1]; rfl)]
        refine ⟨_, s35 _ _ eo, ?_, same_own no (sm.trans s35), os ++ [1], by rw [upd_same, List.map_append]; rfl, by rw [List.length_append, List.length_singleton]; omega, ?_⟩
        · rw [List.length_map]; exact Nat.lt_of_lt_of_le (by omega : os.length < 100000) (by decide)
        · constructor
          · intro h; simp at h
          · intro h; exact absurd (hc.2 (h i (by omega))) c1
    obtain ⟨s3, os, eo, hol, hos⟩ := h
    rw [show ((n : Int) + 1 - 1).toNat = n by omega] at hos
    refine ⟨Nat.zero_le _, fun c nc => ?_⟩
    have s4 := same_upd (o := .lst []) nc
    refine ⟨.list (os.map .int), .list [], .lst (SqL.of (s4 _ _ eo)) (dp_ints _), .lst (SqL.of upd_same) .nil, shaped_list _, shaped_list [], ?_⟩
    have ev : PyData.eqv (.list (os.map .int)) (.list []) = decide (os = []) := eqv_ints _ []
    rw [ev]
    refine ⟨_, rfl, ?_⟩
    show if (!decide (os = [])) = true then _ else _
    have s04 := s3.trans s4
    by_cases c0 : os = []
    rotate_left
    · rw [if_pos (by rw [decide_eq_false c0]; rfl)]
      exact q _ false s04 ⟨fun h => (by cases h), fun h => absurd (hos.2 fun k hk => h.one k hk) c0⟩
    rw [if_neg (by rw [decide_eq_true c0]; decide)]
    have hones := hos.1 c0
    have hA4 := s04 _ _ hA
    have hL4 := hL.same s04
    generalize (upd H3 c (.lst [])) = H4 at *
    refine ⟨_, rfl, (n : Int), 1, rfl, rfl, 1, (n : Int) + 1, rfl, by omega, ?_⟩
    refine for_range (lo := 1) (n := ((n : Int) + 1 - 1).toNat) (fun i σ H5 => ∃ (y2 y3 y4 y5 y6 : Option V), σ = [some (.int (n : Int)), some (.ref a), y2, y3, y4, y5, y6] ∧ Same H4 H5 ∧ ∀ k j, k < i → k < j → j < n → TwoOk (rws L) k j)
      ⟨_, _, _, _, _, rfl, Same.refl _, fun k j hk => absurd hk (Nat.not_lt_zero k)⟩ (fun i σ H5 hi h => ?_) (fun σ H5 h => ?_)
    · obtain ⟨y2, y3, y4, y5, y6, rfl, s5, two5⟩ := h
      have hi' : i < n := by omega
      refine ⟨_, rfl, _, 1, rfl, rfl, _, rfl, (n : Int), 1, rfl, rfl, _, _, rfl, by omega, ?_⟩
      refine for_range (lo := (1 : Int) + (i : Nat) + 1) (n := ((n : Int) + 1 - ((1 : Int) + (i : Nat) + 1)).toNat) (fun j σ H6 => ∃ (y2 y4 y5 y6 : Option V), σ = [some (.int (n : Int)), some (.ref a), y2, some (.int ((1 : Int) + (i : Nat))), y4, y5, y6] ∧ Same H4 H6 ∧ ∀ k, i < k → k < i + 1 + j → k < n → TwoOk (rws L) i k)
        ⟨_, _, _, _, rfl, s5, fun k h1 h2 => by omega⟩ (fun j σ H6 hj h => ?_) (fun σ H6 h => ?_)
      · obtain ⟨y2, y4, y5, y6, rfl, s6, two6⟩ := h
        have hj' : i + 1 + j < n := by omega
        have e1 : (1 : Int) + (i : Nat) = ((i + 1 : Nat) : Int) := by omega
        have e2 : (1 : Int) + (i : Nat) + 1 + (j : Nat) = ((i + 1 + j + 1 : Nat) : Int) := by omega
        rw [e2, e1]
        refine ⟨_, rfl, _, rfl, by show (2 : Nat) ≤ sizeLine; decide, fun t1 n1' => ⟨_, rfl, _, rfl, 0, _, rfl, rfl, by show (2 : Nat) ≤ sizeLine; decide, fun t2 n2' => ⟨by show (2 : Nat) ≤ sizeLine; decide, fun pr npr => ?_⟩⟩⟩
        have s7 := same_upd (o := .tup [.int ((i + 1 : Nat) : Int), .int ((i + 1 + j + 1 : Nat) : Int)]) n1'
        have s8 := same_upd (o := .tup [.int ((i + 1 : Nat) : Int), .int (0 - ((i + 1 + j + 1 : Nat) : Int))]) n2'
        have s9 := same_upd (o := .lst [.ref t1, .ref t2]) npr
        have s79 := (s7.trans s8).trans s9
        have h1 : RA (upd (upd (upd H6 t1 (.tup [.int ((i + 1 : Nat) : Int), .int ((i + 1 + j + 1 : Nat) : Int)])) t2 (.tup [.int ((i + 1 : Nat) : Int), .int (0 - ((i + 1 + j + 1 : Nat) : Int))])) pr (.lst [.ref t1, .ref t2])) t1 [((i + 1 : Nat) : Int), ((i + 1 + j + 1 : Nat) : Int)] := s9 _ _ (s8 _ _ (by rw [upd_same]; rfl))
        have h2 : RA (upd (upd (upd H6 t1 (.tup [.int ((i + 1 : Nat) : Int), .int ((i + 1 + j + 1 : Nat) : Int)])) t2 (.tup [.int ((i + 1 : Nat) : Int), .int (0 - ((i + 1 + j + 1 : Nat) : Int))])) pr (.lst [.ref t1, .ref t2])) t2 [((i + 1 : Nat) : Int), -((i + 1 + j + 1 : Nat) : Int)] := s9 _ _ (by rw [upd_same, show -((i + 1 + j + 1 : Nat) : Int) = 0 - ((i + 1 + j + 1 : Nat) : Int) by omega]; rfl)
        have epr : (upd (upd (upd H6 t1 (.tup [.int ((i + 1 : Nat) : Int), .int ((i + 1 + j + 1 : Nat) : Int)])) t2 (.tup [.int ((i + 1 : Nat) : Int), .int (0 - ((i + 1 + j + 1 : Nat) : Int))])) pr (.lst [.ref t1, .ref t2])) pr = some (.lst (refs [(t1, [((i + 1 : Nat) : Int), ((i + 1 + j + 1 : Nat) : Int)]), (t2, [((i + 1 : Nat) : Int), -((i + 1 + j + 1 : Nat) : Int)])])) := upd_same
        have s49 := s6.trans s79
        generalize (upd (upd (upd H6 t1 (.tup [.int ((i + 1 : Nat) : Int), .int ((i + 1 + j + 1 : Nat) : Int)])) t2 (.tup [.int ((i + 1 : Nat) : Int), .int (0 - ((i + 1 + j + 1 : Nat) : Int))])) pr (.lst [.ref t1, .ref t2])) = H9 at *
        have hP : All H9 [(t1, [((i + 1 : Nat) : Int), ((i + 1 + j + 1 : Nat) : Int)]), (t2, [((i + 1 : Nat) : Int), -((i + 1 + j + 1 : Nat) : Int)])] := by
          intro z hz
          simp only [List.mem_cons, List.not_mem_nil, or_false] at hz
          rcases hz with rfl | rfl
          · exact h1
          · exact h2
        have hren := ren_two (u := rws L) (hpl i hi') (hpl (i + 1 + j) hj')
        have hgood : TwoOk (rws L) i (i + 1 + j) ↔ ∀ k (hk : k < 2), (core (ren (rws L) ([[((i + 1 : Nat) : Int), ((i + 1 + j + 1 : Nat) : Int)], [((i + 1 : Nat) : Int), -((i + 1 + j + 1 : Nat) : Int)]][k]))).length = 2 := by
          unfold TwoOk
          rw [← hren.1, ← hren.2]
          constructor
          · rintro ⟨a1, a2⟩ k hk
            match k, hk with
            | 0, _ => exact a1
            | 1, _ => exact a2
          · intro h; exact ⟨h 0 (by decide), h 1 (by decide)⟩
        refine ⟨.ref pr, rfl, pr, rfl, ⟨_, SqL.of epr⟩, fun o2 no2 => ?_⟩
        refine lc_list (xs := refs [(t1, [((i + 1 : Nat) : Int), ((i + 1 + j + 1 : Nat) : Int)]), (t2, [((i + 1 : Nat) : Int), -((i + 1 + j + 1 : Nat) : Int)])]) (fun k H10 => Same H9 H10 ∧ ∃ ps : List Int, H10 o2 = some (.lst (ps.map V.int)) ∧ ps.length ≤ k ∧
            (ps = [] ↔ ∀ z (hz : z < 2), z < k → (core (ren (rws L) ([[((i + 1 : Nat) : Int), ((i + 1 + j + 1 : Nat) : Int)], [((i + 1 : Nat) : Int), -((i + 1 + j + 1 : Nat) : Int)]][z]))).length = 2))
          ⟨same_upd no2, [], by rw [upd_same]; rfl, Nat.zero_le _, ⟨fun _ z _ hk => absurd hk (Nat.not_lt_zero z), fun _ => rfl⟩⟩ (fun k H10 hk h => SqL.of (h.1 _ _ epr)) (fun k x H10 hx h => ?_) (fun H10 h => ?_)
        · obtain ⟨s10, ps, eps, hpl2, hps⟩ := h
          obtain ⟨hk, rfl⟩ := refs_at hx
          have hk2 : k < 2 := hk
          have hat := (hP _ (List.getElem_mem hk)).same s10
          have erow : ([(t1, [((i + 1 : Nat) : Int), ((i + 1 + j + 1 : Nat) : Int)]), (t2, [((i + 1 : Nat) : Int), -((i + 1 + j + 1 : Nat) : Int)])][k]).2 = [[((i + 1 : Nat) : Int), ((i + 1 + j + 1 : Nat) : Int)], [((i + 1 : Nat) : Int), -((i + 1 + j + 1 : Nat) : Int)]][k] := by
            match k, hk2 with
            | 0, _ => rfl
            | 1, _ => rfl
          have hlet : ∀ x ∈ [[((i + 1 : Nat) : Int), ((i + 1 + j + 1 : Nat) : Int)], [((i + 1 : Nat) : Int), -((i + 1 + j + 1 : Nat) : Int)]][k], x ≠ 0 ∧ -(L.length : Int) ≤ x ∧ x ≤ L.length := by
            match k, hk2 with
            | 0, _ => intro x hx; simp only [List.getElem_cons_zero, List.mem_cons, List.not_mem_nil, or_false] at hx; omega
            | 1, _ => intro x hx; simp only [List.getElem_cons_succ, List.getElem_cons_zero, List.mem_cons, List.not_mem_nil, or_false] at hx; omega
          have hrl : ([[((i + 1 : Nat) : Int), ((i + 1 + j + 1 : Nat) : Int)], [((i + 1 : Nat) : Int), -((i + 1 + j + 1 : Nat) : Int)]][k]).length = 2 := by
            match k, hk2 with
            | 0, _ => rfl
            | 1, _ => rfl
          have hub : ∀ r ∈ rws L, r.length ≤ 100 := fun r hr => by obtain ⟨z, hz, rfl⟩ := List.mem_map.1 hr; exact hlen z hz
          rw [erow] at hat
          generalize hrw : [[((i + 1 : Nat) : Int), ((i + 1 + j + 1 : Nat) : Int)], [((i + 1 : Nat) : Int), -((i + 1 + j + 1 : Nat) : Int)]][k] = row at *
          have hfl := K71.flat_len hub row
          have hrn := K71.ren_len hub row
          refine ⟨rfl, .ref a, rfl, _, rfl, a, _, L, row, rfl, .inr ((s49.trans s10) _ _ hA4), hL4.same (s49.trans s10), hat, hlet, by omega, fun H11 p s11 np hp => ?_⟩
          refine ⟨p, ren (rws L) row, rfl, hp, by omega, fun H12 s12 => ⟨rfl, _, rfl, ?_⟩⟩
          rw [K71.pl_of (K71.ren_pl _ _)]
          have s1012 := s11.trans s12
          show if (!decide (V.int (((core (ren (rws L) row)).length : Nat) : Int) = V.int 2)) = true then _ else _
          by_cases c1 : (core (ren (rws L) row)).length = 2
          · rw [if_neg (by rw [decide_eq_true (by rw [c1]; rfl)]; decide)]
            refine ⟨s10.trans s1012, ps, s1012 _ _ eps, by omega, ?_⟩
            rw [hps]
            constructor
            · intro h z hz hzk
              by_cases e : z = k
              · subst e; rw [hrw]; exact c1
              · exact h z hz (by omega)
            · intro h z hz hzk; exact h z hz (by omega)
          · rw [if_pos (by rw [decide_eq_false (fun h => c1 (by have := V.int.inj h; omega))]; rfl)]
            refine ⟨_, s1012 _ _ eps, ?_, same_own no2 (s10.trans s1012), ps ++ [1], by rw [upd_same, List.map_append]; rfl, by rw [List.length_append, List.length_singleton]; omega, ?_⟩
            · rw [List.length_map]; exact Nat.lt_of_lt_of_le (by omega : ps.length < 100000) (by decide)
            · constructor
              · intro h; simp at h
              · intro h; have := h k hk2 (by omega); rw [hrw] at this; exact absurd this c1
        obtain ⟨s10, ps, eps, hpl2, hps⟩ := h
        refine ⟨Nat.zero_le _, fun cc ncc => ?_⟩
        have s11 := same_upd (o := .lst []) ncc
        refine ⟨.list (ps.map .int), .list [], .lst (SqL.of (s11 _ _ eps)) (dp_ints _), .lst (SqL.of upd_same) .nil, shaped_list _, shaped_list [], ?_⟩
        have ev : PyData.eqv (.list (ps.map .int)) (.list []) = decide (ps = []) := eqv_ints _ []
        rw [ev]
        refine ⟨_, rfl, ?_⟩
        show if (!decide (ps = [])) = true then _ else _
        have s411 := (s49.trans s10).trans s11
        by_cases c2 : ps = []
        · rw [if_neg (by rw [decide_eq_true c2]; decide)]
          have ok := hgood.2 fun z hz => hps.1 c2 z hz hz
          refine ⟨_, _, _, _, rfl, s411, fun k h1 h2 h3 => ?_⟩
          by_cases e : k = i + 1 + j
          · rw [e]; exact ok
          · exact two6 k h1 (by omega) h3
        · rw [if_pos (by rw [decide_eq_false c2]; rfl)]
          refine q _ false (s04.trans s411) ⟨fun h => (by cases h), fun h => ?_⟩
          exfalso
          have := h.two i (i + 1 + j) (by omega) hj'
          exact c2 (hps.2 fun z hz _ => hgood.1 this z hz)
      · obtain ⟨y2, y4, y5, y6, rfl, s6, two6⟩ := h
        refine ⟨_, _, _, _, _, rfl, s6, fun k j hk hkj hj => ?_⟩
        by_cases e : k = i
        · subst e; exact two6 j hkj (by omega) hj
        · exact two5 k j (by omega) hkj hj
    · obtain ⟨y2, y3, y4, y5, y6, rfl, s5, two5⟩ := h
      refine q H5 true (s04.trans s5) ⟨fun _ => ⟨fun i hi => hones i hi, fun i j hij hj => two5 i j (by omega) hij hj⟩, fun _ => rfl⟩
end
end K71W

/-! ## WkR4 -/
set_option Elab.async false
set_option linter.all false
set_option maxRecDepth 100000
namespace K71W
open PySem PySem.Spec PyProof.Rows L2
section
variable {X : Cx} {CX : CXT} {k : Nat} {f : Addr} {fd : FuncData} {ps ks : List Str} {sp : Sp} {E : XK} {x : Str} {p pos : Pos} {kws : List Keyword} {tk : TA} {g : List Value → List Value → List Value} {gV : List V → List V → List V}
/-- f(k = v, ..): all by keywords -/
def tCallKw (sp : Sp) (gV : List V → List V → List V) (E : XK) (tk : TA) : TE := fun σ H Q => tk σ H fun zs H1 => sp (gV [] zs) H1 Q E
theorem pe_callKw (F : FnOk X.prog X.w X.K X.mg X.base CX k f fd ps sp) (room : Room k X.A) (gl : Gl X x) (md : X.mg x = some (.ref f)) (kin : PySem.W.keepIn X.K (.ref f) = true) (kb : KBinds X.K fd ps ks g gV) (out : Passes CX X E)
    (args : PK X kws tk) (named : (backToKw pos (keywordEach kws X.env)).all (·.1.isSome) = true := by rfl) (names : (backToKw pos (keywordEach kws X.env)).filterMap (·.1) = ks := by rfl) (notDebug : (x == ("__debug__" : Str)) = false := by decide)
    (plain : ((backTo pos (starEach [] X.env)).any (·.1) || (backToKw pos (keywordEach kws X.env)).any (·.1.isNone)) = false := by rfl) :
    PE X (.Call (.Name x p) [] kws pos) (tCallKw sp gV E tk) := by
  constructor
  intro pins s σ H Q inv ask
  refine wpAny_Call_Name_kw (ld_glob inv gl md (PySem.W.callWith_KW0 (h₀ := X.base) inv.ok.mod.kin kin named ?_ plain) notDebug)
  refine thn (args.run pos pins s σ H _ inv ask) fun ws s2 got => ?_
  rcases got with ⟨zs, H2, inv2, rels, fin⟩
  refine ⟨inv2.kIn, ?_⟩
  rw [names]
  exact run_fnk F room kb out inv2 .nil rels fin
end
/-- two parameters by their names, the second first -/
def two21 {α : Type} : List α → List α → List α
  | [], [a, b] => [b, a]
  | _, _ => []
theorem two21_rel {vs : List V} {us : List Value} {zs : List V} {ws : List Value} (r : Vals vs us) (s : Vals zs ws) : Vals (two21 vs zs) (two21 us ws) := by
  cases r with
  | cons _ _ => cases s <;> exact .nil
  | nil =>
    cases s with
    | nil => exact .nil
    | cons a t =>
      cases t with
      | nil => exact .nil
      | cons b t =>
        cases t with
        | nil => exact .cons b (.cons a .nil)
        | cons c t => exact .nil
end K71W

/-! ## Wk28 -/
set_option Elab.async false
set_option linter.all false
set_option maxRecDepth 100000
namespace K71W
open PySem PySem.Spec PyProof.Rows L2
open K71 (Pl Fits pl core img ren conj ident inner Ren mul rows Keeps weight turnedBy turn Least)
section
variable {P : Program} {w : World} {K : PySem.W.Frag} {mg : Str → Option Value} {base : Heap}
/-- a def that is called by its place and by keywords, two parameters -/
def Fn2 (P : Program) (w : World) (K : PySem.W.Frag) (mg : Str → Option Value) (base : Heap) (x : Str) (ps ks : List Str) (n : Nat) (sp : Sp) : Prop :=
  ∃ f fd, Binds K fd ps [] ∧ mg x = some (.ref f) ∧ PySem.W.keepIn K (.ref f) = true ∧ FnOk P w K mg base CX0 n f fd ps sp ∧ KBinds K fd ps ks two21 two21
theorem pt_weak {X : Cx} {e : Expr} {t t' : TT} (h : PT X e t) (le : ∀ σ H Q, t' σ H Q → t σ H Q) : PT X e t' := ⟨fun pins s σ H Q I q => h.run pins s σ H Q I (le σ H Q q)⟩
def tOneTest : TT := fun σ H Q => ∃ (n : Nat) (b : Addr) (h : List Int), σ[3]? = some (some (.int (n : Int))) ∧ σ[6]? = some (some (.ref b)) ∧ RA H b h ∧ (n = 1 → h = []) ∧ ∀ H1, Same H H1 → Q false H1
theorem kb_turned {f : Addr} {fd : FuncData} (D : Def K mg "turned_by" sTurned ["deeds", "renaming"] f fd) : KBinds K fd ["deeds", "renaming"] ["renaming", "deeds"] two21 two21 := by
  rcases D.F.ex with ⟨oc, od, kV, doc, pm, an, cdv, ct, osl, rfl, lk, hcd⟩
  refine ⟨fun s us ws _ hl => ?_, two21_rel⟩
  match us, ws, hl with
  | [], [a, b], _ => exact .of_eq rfl

abbrev sLaw : Stmt := topS 64
theorem scLaw : FnScope ["_law_script", "_law_state", "_law_turn", "_law_deeds", "_law_by", "_law_images", "_law_found", "_law_due", "_law_x", "_law_row", "_law_more", "_law_second"] ["_law_script"] (defScope sLaw) := ⟨rfl, rfl, rfl, by decide +kernel, rfl, by decide +kernel, by decide +kernel⟩
def tWant : TE := fun σ H Q => ∃ (n : Nat) (a b : Addr) (m h : List Int), σ[3]? = some (some (.int (n : Int))) ∧ σ[10]? = some (some (.ref a)) ∧ σ[6]? = some (some (.ref b)) ∧ RA H a m ∧ RA H b h ∧ m.length + h.length ≤ 1000 ∧ ∀ H1 t, Same H H1 → RA H1 t (if n > 1 then pl (m ++ h) else []) → Q (.ref t) H1
def spLaw (K : PySem.W.Frag) : Sp := fun vs H Q _ => ∃ (a : Addr) (ns : List Int), vs = [.ref a] ∧ SqL K H a (ns.map V.int) ∧ ns.length ≤ 63 ∧ ∀ H', Q (.bl true) H'
theorem len_rws {L : Rws} {b : Nat} (h : ∀ q ∈ L, q.2.length ≤ b) : ∀ r ∈ rws L, r.length ≤ b := fun r hr => by obtain ⟨z, hz, rfl⟩ := List.mem_map.1 hr; exact h z hz
theorem rws_len {L : Rws} {b : Nat} (h : ∀ r ∈ rws L, r.length ≤ b) : ∀ q ∈ L, q.2.length ≤ b := fun q hq => h q.2 (List.mem_map.2 ⟨q, hq, rfl⟩)
theorem conj_rws {u : List (List Int)} {b : Nat} {c : List Int} (h : ∀ r ∈ u, r.length ≤ b) : ∀ r ∈ u.map (conj c), r.length ≤ b + 2 * c.length := fun r hr => by
  obtain ⟨z, hz, rfl⟩ := List.mem_map.1 hr
  have := K71.conj_len c z
  have := h z hz
  omega
theorem ok_law {f : Addr} {fd : FuncData} (D : Fun K "law" "law" sLaw f fd)
    (A0 : Fn P w K mg base "_law_begun" ["_law_script"] 1 (spBegun K)) (PK : Fn P w K mg base "_law_pick" ["_law_state", "_law_some"] 3 spPick) (R : Fn P w K mg base "_law_mk_row" ["_law_state", "_law_deeds", "_law_least", "_law_most"] 4 spMkRow)
    (T : Fn P w K mg base "_law_turned_all" ["_law_images", "_law_by"] 3 spTurnedAll) (B : Fn P w K mg base "_law_base" ["_law_state", "_law_deeds"] 5 spBase) (Y : Fn2 P w K mg base "turned_by" ["deeds", "renaming"] ["renaming", "deeds"] 8 spTurned)
    (KK : Fn P w K mg base "_law_keeps" ["_law_deeds", "_law_images"] 3 spKeeps) (L : Fn P w K mg base "_law_rn_is_letter" ["_law_deeds", "_law_thing"] 1 spIsLetter) (F : Fn P w K mg base "_law_mk_plain" ["_law_letters"] 1 (spPlainT K))
    (I : Fn P w K mg base "_law_rn_ident" ["_law_deeds"] 1 spIdent) (W : Fn P w K mg base "_law_mk_raw" ["_law_state", "_law_deeds", "_law_row"] 4 spMkRaw) (O : Fn P w K mg base "ring_of" ["deeds", "row"] 6 spRingOf)
    (N : Fn P w K mg base "renamed" ["deeds", "renaming", "row"] 8 spRenamed) (HB : Fn P w K mg base "behind" ["deeds", "first", "second"] 8 spBehind)
    (mr : mg "range" = none) (m_min : mg "min" = none) (ml : mg "len" = none) (m_isinstance : mg "isinstance" = none) (mt : mg "tuple" = none) : FnOk P w K mg base CX0 9 f fd ["_law_script"] (spLaw K) := by
  obtain ⟨fA, fdA, bA, gA, kA, GA⟩ := A0
  obtain ⟨fP, fdP, bP, gP, kP, GP⟩ := PK
  obtain ⟨fR, fdR, bR, gR, kR, GR⟩ := R
  obtain ⟨fT, fdT, bT, gT, kT, GT⟩ := T
  obtain ⟨fB, fdB, bB, gB, kB, GB⟩ := B
  obtain ⟨fY, fdY, bY, gY, kY, GY, qY⟩ := Y
  obtain ⟨fK, fdK, bK, gK, kK, GK⟩ := KK
  obtain ⟨fL, fdL, bL, gL, kL, GL⟩ := L
  obtain ⟨fF, fdF, bF, gF, kF, GF⟩ := F
  obtain ⟨fI, fdI, bI, gI, kI, GI⟩ := I
  obtain ⟨fW, fdW, bW, gW, kW, GW⟩ := W
  obtain ⟨fO, fdO, bO, gO, kO, GO⟩ := O
  obtain ⟨fN, fdN, bN, gN, kN, GN⟩ := N
  obtain ⟨fH, fdH, bH, gH, kH, GH⟩ := HB
  refine D.ok scLaw (fun vs H Q E h => ?_) (fun cdv A outer s H vs Q E hr h => ?_)
  · obtain ⟨a, ns, rfl, _⟩ := h; rfl
  · obtain ⟨a, ns, rfl, hS, hns, q⟩ := h
    have hr1 : Room 1 (A.deeper (envOfC "law" (defScope sLaw) s.heap.objs.size f cdv)) := hr.mono (by decide)
    refine ⟨_, (pss_cons (ps_set (i := 1) scLaw.nd rfl (.inl rfl) (pe_call GA (hr.mono (by decide)) (by rfl) gA kA bA .nil pass0 (pa_cons (pv 0) pa_nil)))
      (pss_cons (ps_for PassesOwn.never rfl (pi_range1 (by rfl) mr (pa_cons (pe_op op_add pe_int (pe_callB (call_min2 rfl) (by rfl) m_min (by decide +kernel) (pa_cons (pe_callB call_len_seq (by rfl) ml PySem.boot_len (pa_cons (pv 0) pa_nil)) (pa_cons pe_int pa_nil)))) pa_nil)) (pg_name (i := 2) scLaw.nd rfl (.inl rfl)) (pss_cons (ps_set (i := 3) scLaw.nd rfl (.inr rfl) (pe_call GP (hr.mono (by decide)) (by rfl) gP kP bP .nil pass0 (pa_cons (pv 1) (pa_cons (pe_lst (pa_cons pe_int (pa_cons pe_int (pa_cons pe_int (pa_cons pe_int (pa_cons pe_int pa_nil)))))) pa_nil))))
      (pss_cons (ps_set (i := 4) scLaw.nd rfl (.inl rfl) (pe_call GR (hr.mono (by decide)) (by rfl) gR kR bR .nil pass0 (pa_cons (pv 1) (pa_cons (pv 3) (pa_cons pe_int (pa_cons pe_int pa_nil))))))
      (pss_cons (ps_set (i := 5) scLaw.nd rfl (.inl rfl) (pe_call GT (hr.mono (by decide)) (by rfl) gT kT bT .nil pass0 (pa_cons (pe_call GB (hr.mono (by decide)) (by rfl) gB kB bB .nil pass0 (pa_cons (pv 1) (pa_cons (pv 3) pa_nil))) (pa_cons (pv 4) pa_nil))))
      (pss_cons (ps_par (i := 6) (j := 7) (by rfl) scLaw.nd rfl rfl (by decide) rfl rfl (pa_cons (pe_callKw GY hr (by rfl) gY kY qY pass0 (pk_cons (pv 5) (pk_cons (pv 3) pk_nil))) (pa_cons (pe_call GK (hr.mono (by decide)) (by rfl) gK kK bK .nil pass0 (pa_cons (pv 3) (pa_cons (pv 5) pa_nil))) pa_nil)) (by rfl))
      (pss_cons (ps_if (pt_cmpR op_ne (pv 7) (pe_cmpR op_notN (pv 6) pe_non (nomark _)) (nomark _)) (pss_one (ps_ret pe_bl)) pss_nil)
      (pss_cons (ps_if (pt_cmpR op_isN (pv 6) pe_non (nomark _)) (pss_one ps_continue) pss_nil)
      (pss_cons (ps_if (PW.pt (pw_or (pt_not (pt_val (pe_callB call_isi (by rfl) m_isinstance (by decide +kernel) (pa_cons (pv 6) (pa_cons (pe_bltn (v := .ty "tuple") (by rfl) mt (by decide +kernel) rfl) pa_nil))))) (pw_or1 (pt_cmpR (op_neD hr.units) (pe_lc (own := [("_law_x", 8)]) (g := gName 8) rfl scLaw.nd (pi_tup (pv 6)) (blkOk_by (N := ["_law_script", "_law_state", "_law_turn", "_law_deeds", "_law_by", "_law_images", "_law_found", "_law_due", "_law_x", "_law_row", "_law_more", "_law_second"]) (sc := defScope sLaw) (by decide +kernel))
        (fun _ _ _ _ _ => pg_name (i := 8) scLaw.nd rfl (Or.inl rfl)) (fun _ _ _ _ _ => (pts_one (pt_not (pt_val (pe_call GL hr1 (by rfl) gL kL bL .nil pass0 (pa_cons (pv 3) (pa_cons (pv 8) pa_nil))))))) (fun _ _ _ _ _ => pe_int)) (pe_lst pa_nil) (nomark _))))) (pss_one (ps_ret pe_bl)) pss_nil)
      (pss_cons (ps_if (PW.pt (pw_or (pt_cmpR (op_neD hr.units) (pe_call GF (hr.mono (by decide)) (by rfl) gF kF bF .nil pass0 (pa_cons (pv 6) pa_nil)) (pv 6) (nomark _)) (pw_or1 (pt_cmpR (op_neD hr.units) (pe_call GT (hr.mono (by decide)) (by rfl) gT kT bT .nil pass0 (pa_cons (pe_call GI (hr.mono (by decide)) (by rfl) gI kI bI .nil pass0 (pa_cons (pv 3) pa_nil)) (pa_cons (pv 6) pa_nil))) (pv 5) (nomark _))))) (pss_one (ps_ret pe_bl)) pss_nil)
      (pss_cons (ps_if (pt_weak (t' := tOneTest) (PW.pt (pw_and (pt_cmpR op_eq (pv 3) pe_int (nomark _)) (pw_and1 (pt_cmpR (op_neD hr.units) (pv 6) (pe_tup pa_nil) (nomark _))))) (fun σ H Q h => ?_)) (pss_one (ps_ret pe_bl)) pss_nil)
      (pss_cons (ps_set (i := 9) scLaw.nd rfl (.inl rfl) (pe_call GW (hr.mono (by decide)) (by rfl) gW kW bW .nil pass0 (pa_cons (pv 1) (pa_cons (pv 3) (pa_cons (pe_call GR (hr.mono (by decide)) (by rfl) gR kR bR .nil pass0 (pa_cons (pv 1) (pa_cons (pv 3) (pa_cons pe_int (pa_cons pe_int pa_nil))))) pa_nil)))))
      (pss_cons (ps_if (pt_cmpR (op_neD hr.units) (pe_call GO (hr.mono (by decide)) (by rfl) gO kO bO .nil pass0 (pa_cons (pv 3) (pa_cons (pe_call GN hr (by rfl) gN kN bN .nil pass0 (pa_cons (pv 3) (pa_cons (pv 5) (pa_cons (pv 9) pa_nil)))) pa_nil))) (pe_call GO (hr.mono (by decide)) (by rfl) gO kO bO .nil pass0 (pa_cons (pv 3) (pa_cons (pv 9) pa_nil))) (nomark _)) (pss_one (ps_ret pe_bl)) pss_nil)
      (pss_cons (ps_set (i := 10) scLaw.nd rfl (.inl rfl) (pe_call GR (hr.mono (by decide)) (by rfl) gR kR bR .nil pass0 (pa_cons (pv 1) (pa_cons (pv 3) (pa_cons pe_int (pa_cons pe_int pa_nil))))))
      (pss_cons (ps_set (i := 11) scLaw.nd rfl (.inl rfl) (pe_call GT (hr.mono (by decide)) (by rfl) gT kT bT .nil pass0 (pa_cons (pe_call GI (hr.mono (by decide)) (by rfl) gI kI bI .nil pass0 (pa_cons (pv 3) pa_nil)) (pa_cons (pv 10) pa_nil))))
      (pss_one (ps_if (pt_cmpR (op_neD hr.units) (pe_call GY hr (by rfl) gY kY bY .nil pass0 (pa_cons (pv 3) (pa_cons (pe_call GH hr (by rfl) gH kH bH .nil pass0 (pa_cons (pv 3) (pa_cons (pv 5) (pa_cons (pv 11) pa_nil)))) pa_nil))) (pe_weak (t' := tWant) (pe_ifExp (pt_cmpR op_gt (pv 3) pe_int (nomark _)) (pe_call GF (hr.mono (by decide)) (by rfl) gF kF bF .nil pass0 (pa_cons (pe_op op_catA (pv 10) (pv 6)) pa_nil)) (pe_tup pa_nil)) (fun σ H Q h => ?_)) (nomark _)) (pss_one (ps_ret pe_bl)) pss_nil))))))))))))))))
      (pss_one (ps_ret pe_bl)))), ?_⟩
    · obtain ⟨n, b, h, h3, h6, hb, h1, q⟩ := h
      refine ⟨_, h3, rfl, _, rfl, ite2 (fun e => ?_) (fun e => ?_)⟩
      · have e' : n = 1 := by have := V.int.inj (of_decide_eq_true e); omega
        have eh := h1 e'
        subst eh
        refine ⟨_, h6, Nat.zero_le _, fun t nt => ?_⟩
        have s1 := same_upd (o := .tup []) nt
        refine ⟨.tuple [], .tuple [], .tup (hb.same s1).sq .nil, .tup (SqT.of upd_same) .nil, shaped_tup [], shaped_tup [], _, rfl, ?_⟩
        exact q _ s1
      · exact q H (Same.refl H)
    · obtain ⟨n, a, b, m, h, h3, h10, h6, ha, hb, hlen, q⟩ := h
      refine ⟨_, h3, _, 1, rfl, rfl, _, rfl, ite2 (fun e => ?_) (fun e => ?_)⟩
      · have e' : (n : Int) > 1 := of_decide_eq_true e
        refine ⟨_, h10, _, h6, catA ha hb (by omega) fun t H1 s1 h1 => ?_⟩
        exact ⟨t, _, rfl, h1.sq, by rw [List.length_append]; omega, fun H2 p s2 np hp => q H2 p (s1.trans s2) (by rw [if_pos (by omega)]; exact hp)⟩
      · have e' : ¬ n > 1 := fun h => e (decide_eq_true (by omega))
        exact ⟨Nat.zero_le _, fun t nt => q _ t (same_upd nt) (by unfold RA; rw [upd_same, if_neg e']; rfl)⟩
    refine ⟨.ref a, rfl, a, ns, rfl, hS, hns, fun H1 d g c0 s1 st1 => ?_⟩
    refine ⟨.ref a, rfl, a, _, rfl, .inl (s1.seq hS), _, 3, rfl, 3, _, rfl, rfl, _, rfl, ?_⟩
    rw [List.length_map]
    have hm : (if (3 : Int) < (ns.length : Int) then (3 : Int) else (ns.length : Int)) = ((min ns.length 3 : Nat) : Int) := by split <;> omega
    rw [hm]
    refine ⟨by omega, by omega, ?_⟩
    refine for_range (lo := 0) (n := ((3 : Int) + ((min ns.length 3 : Nat) : Int)).toNat) (fun i σ H3 => ∃ (y2 y3 y4 y5 y6 y7 y9 y10 y11 : Option V), σ = [some (.ref a), some (.ref d), y2, y3, y4, y5, y6, y7, none, y9, y10, y11] ∧ St d g c0 (100 * i) H3)
      ⟨none, none, none, none, none, none, none, none, none, rfl, st1⟩ (fun i σ H3 hi h => ?_) (fun σ H3 h => ?_)
    rotate_left
    · exact q H3
    obtain ⟨y2, y3, y4, y5, y6, y7, y9, y10, y11, rfl, st3⟩ := h
    have hi6 : i < 6 := by omega
    -- the number of deeds
    refine ⟨.ref d, rfl, by show (5 : Nat) ≤ sizeLine; decide, fun la nla => ?_⟩
    have s4 := same_upd (o := .lst [.int 2, .int 3, .int 4, .int 3, .int 1]) nla
    have ela : (upd H3 la (.lst [.int 2, .int 3, .int 4, .int 3, .int 1])) la = some (.lst (([2, 3, 4, 3, 1] : List Int).map V.int)) := upd_same
    refine ⟨d, g, c0, 100 * i, la, [2, 3, 4, 3, 1], rfl, st3.same s4, by omega, ela, (st3.ne nla).2, by simp, by decide, fun H5 x hx k5 st5 => ?_⟩
    obtain ⟨n, rfl, n1, n4⟩ : ∃ n : Nat, x = (n : Int) ∧ 1 ≤ n ∧ n ≤ 4 := by
      simp only [List.mem_cons, List.not_mem_nil, or_false] at hx
      exact ⟨x.toNat, by omega, by omega, by omega⟩
    -- the row by which all is turned
    refine ⟨.ref d, rfl, _, rfl, d, g, c0, 100 * i + 1, n, 0, 3, rfl, st5, by omega, n1, n4, by decide, by decide, fun H6 pb rb k6 st6 npb hrb plb fib lnb => ?_⟩
    -- the images
    refine ⟨.ref d, rfl, _, rfl, d, g, c0, 100 * i + 1 + 1 + 3, n, rfl, st6, by omega, n1, n4, fun H7 p0 L0 k7 st7 ep0 hL0 rn0 hlen0 => ?_⟩
    have hrb7 := k7.ra st6 hrb
    have hL0l : L0.length = n := by rw [← rws_length]; exact rn0.len
    refine ⟨_, rfl, p0, pb, L0, rb, rfl, ep0, hL0, by omega, fun z hz => by have := hlen0 z hz; omega, hrb7, by omega, fun H8 pu L s8 npu epu hL eL => ?_⟩
    have st8 := st7.same s8
    have rn : Ren n (rws L) := by rw [eL]; exact rn0.turned fib
    have hlen : ∀ r ∈ rws L, r.length ≤ 33 := fun r hr => by
      rw [eL] at hr
      have := conj_rws (c := rb) (len_rws hlen0) r hr
      omega
    have hLl : L.length = n := by rw [← rws_length]; exact rn.len
    have hw : weight (rws L) ≤ 254 := by
      have h1 := K71.weight_le hlen
      rw [rn.len] at h1
      have : n * 33 ≤ 4 * 33 := Nat.mul_le_mul_right _ n4
      omega
    -- turned_by and what the law asks
    refine ⟨.ref pu, rfl, _, rfl, n, pu, L, rfl, epu, hL, rn, hw, fun H9 s9 e9 => ?_, fun H9 tf h s9 e9 htf => ?_⟩
    · -- no row
      have st9 := st8.same s9
      refine ⟨_, rfl, .ref pu, rfl, n, pu, L, rfl, s9 _ _ epu, hL.same s9, rn, fun z hz => by have := rws_len hlen z hz; omega, fun H10 b s10 hb => ⟨_, _, rfl, ?_⟩⟩
      have hkeep : ¬ Keeps n (rws L) := K71.turnedBy_none rn.pl rn.len n1 rn.lets e9
      have eb : b = false := by
        cases b with
        | false => rfl
        | true => exact absurd (hb.1 rfl) hkeep
      subst eb
      refine ⟨_, rfl, _, rfl, rfl, rfl, _, rfl, ?_⟩
      refine ⟨_, rfl, rfl, _, rfl, ?_⟩
      exact ⟨_, _, _, _, _, _, _, _, _, rfl, (st9.same s10).mono (by omega)⟩
    · -- a row
      have st9 := st8.same s9
      obtain ⟨ehd, ein⟩ := K71.turnedBy_head e9
      have plh := K71.head_pl ehd
      have fih : Fits n h := K71.head_fits ehd rn.lets rn.len n1
      have lnh : h.length ≤ 48 := K71.head_len' ehd hlen
      refine ⟨_, rfl, .ref pu, rfl, n, pu, L, rfl, s9 _ _ epu, hL.same s9, rn, fun z hz => by have := rws_len hlen z hz; omega, fun H10 b s10 hb => ⟨_, _, rfl, ?_⟩⟩
      have eb : b = true := hb.2 (by rw [← ein]; exact K71.keeps_inner)
      subst eb
      refine ⟨_, rfl, _, rfl, rfl, rfl, _, rfl, ?_⟩
      refine ⟨_, rfl, rfl, _, rfl, ?_⟩
      have htf10 := htf.same s10
      have epu10 := (s9.trans s10) _ _ epu
      have hL10 := hL.same (s9.trans s10)
      have st10 := st9.same s10
      -- it is a tuple of letters
      refine ⟨_, rfl, .ref tf, .ty "tuple", .type "tuple", .type "tuple", true, rfl, .ty _, .base (.tup htf10), kit_ty (by decide +kernel), true, rfl, ?_⟩
      refine ⟨_, rfl, tf, rfl, ⟨_, htf10.sq⟩, fun o no => ?_⟩
      refine lc_tup (xs := h.map V.int) (fun j H11 => Same H10 H11 ∧ H11 o = some (.lst []))
        ⟨same_upd no, upd_same⟩ (fun j H11 hj h' => (htf10.same h'.1).sq) (fun j x H11 hx h' => ?_) (fun H11 h' => ?_)
      · obtain ⟨s11, eo⟩ := h'
        have hj : j < h.length := by have := (List.getElem?_eq_some_iff.1 hx).1; simpa using this
        have ex : x = .int h[j] := by rw [ints_get hj] at hx; exact (Option.some.inj hx).symm
        subst ex
        have hv := fih h[j] (List.getElem_mem hj)
        exact ⟨rfl, _, rfl, _, rfl, n, h[j], rfl, hv.1, by omega, hv.2.2, true, rfl, s11, eo⟩
      obtain ⟨s11, eo⟩ := h'
      refine ⟨Nat.zero_le _, fun cc ncc => ?_⟩
      have s12 := same_upd (o := .lst []) ncc
      refine ⟨.list [], .list [], .lst (SqL.of (s12 _ _ eo)) .nil, .lst (SqL.of upd_same) .nil, shaped_list [], shaped_list [], _, rfl, ?_⟩
      show if (!PyData.eqv (.list []) (.list [])) = true then _ else _
      rw [if_neg (by decide)]
      have s1012 := s11.trans s12
      have htf12 := htf10.same s1012
      have epu12 := s1012 _ _ epu10
      have hL12 := hL10.same s1012
      have st12 := st10.same s1012
      generalize (upd H11 cc (.lst [])) = H12 at *
      -- it is plain, and turns the letters into the images
      refine ⟨_, rfl, tf, h, rfl, htf12.sq, by omega, fun H13 p13 s13 np13 hp13 => ?_⟩
      refine ⟨_, rfl, _, _, (show RA H13 p13 (pl h) from hp13).dp, (htf12.same s13).dp, shaped_tup _, shaped_tup _, _, rfl, ?_⟩
      rw [eqv_tupD, K71.pl_of plh]
      show if (!decide (h = h)) = true then _ else _
      rw [if_neg (by simp)]
      refine ⟨_, rfl, n, rfl, n4, fun H14 pi LI s14 npi epi hLI eLI => ?_⟩
      refine ⟨_, rfl, pi, tf, LI, h, rfl, epi, hLI, by rw [← rws_length, eLI, K71.ident_length]; exact n4, rws_len (b := 1000) (fun r hr => by rw [eLI] at hr; have := K71.ident_len (n := n) r hr; omega), (htf12.same s13).same s14, by omega, fun H15 pt LT s15 npt ept hLT eLT => ?_⟩
      have s1215 := (s13.trans s14).trans s15
      refine ⟨_, rfl, _, _, dp_tup ept hLT, dp_tup (s1215 _ _ epu12) (hL12.same s1215), shaped_rows _, shaped_rows _, _, rfl, ?_⟩
      rw [eqv_rows]
      have eimg : rws LT = rws L := by rw [eLT, eLI, K71.inner_ident, ein]
      show if (!decide (rws LT = rws L)) = true then _ else _
      rw [if_neg (by rw [decide_eq_true eimg]; decide)]
      -- one deed alone
      have htf15 := htf12.same s1215
      have epu15 := s1215 _ _ epu12
      have hL15 := hL12.same s1215
      have st15 := st12.same s1215
      refine ⟨n, tf, h, rfl, rfl, htf15, fun e => by rcases K71.head_form ehd with ⟨_, e2⟩ | ⟨e2, _⟩
                                                     · exact e2
                                                     · exact absurd e e2, fun H16 s16 => ?_⟩
      have htf16 := htf15.same s16
      have epu16 := s16 _ _ epu15
      have hL16 := hL15.same s16
      have st16 := st15.same s16
      -- the rings of a row and of the row renamed
      refine ⟨_, rfl, _, rfl, .ref d, rfl, _, rfl, d, g, c0, 100 * i + 1 + 1 + 3 + 40, n, 0, 5, rfl, st16, by omega, n1, n4, by decide, by decide, fun H17 pr0 r0 k17 st17 npr0 hr0 plr0 fir0 lnr0 => ?_⟩
      refine ⟨d, g, c0, _, n, pr0, r0, rfl, st17, by omega, n1, n4, hr0, fir0, by omega, fun H18 pr r k18 st18 npr hrr fir lnr => ?_⟩
      have k1618 := k17.trans k18
      have htf18 := k1618.ra st16 htf16
      have epu18 := k1618.tup st16 epu16
      have hL18 := k1618.all st16 hL16
      have fit' : ∀ v ∈ r, v ≠ 0 ∧ 0 - (n : Int) ≤ v ∧ v ≤ n := fun v hv => by have := fir v hv; omega
      refine ⟨_, rfl, _, rfl, _, rfl, _, rfl, n, pu, pr, L, r, rfl, epu18, hL18, rn, hw, hrr, by omega, fit', fun H19 pq s19 npq hpq => ?_⟩
      have eren : ren (rws L) (pl r) = conj h (pl r) := by rw [← ein]; exact K71.ren_inner fir.pl
      rw [eren] at hpq
      have hcl := K71.conj_len h (pl r)
      have hpl := pl_len r
      refine ⟨n, pq, conj h (pl r), rfl, by omega, by omega, hpq, by omega, fun v hv => ?_, fun H20 ta sa s20 hsa hta => ?_⟩
      · have := (fih.conj fir.pl) v hv
        omega
      rw [K71.pl_of (K71.conj_pl h (pl r))] at hsa hta
      refine ⟨_, rfl, _, rfl, n, pr, r, rfl, by omega, by omega, (hrr.same s19).same s20, by omega, fit', fun H21 tb sb s21 hsb htb => ?_⟩
      refine ⟨_, _, (hta.same s21).dp, htb.dp, shaped_tup _, shaped_tup _, _, rfl, ?_⟩
      rw [eqv_tupD]
      have ering := K71.ring_same (c := h) (w := pl r) (K71.pl_pl r) hsa hsb
      rw [ering]
      show if (!decide (turn (core (pl r)) sb = turn (core (pl r)) sb)) = true then _ else _
      rw [if_neg (by simp)]
      have s1821 := (s19.trans s20).trans s21
      have htf21 := htf18.same s1821
      have epu21 := s1821 _ _ epu18
      have hL21 := hL18.same s1821
      have st21 := st18.same s1821
      -- a second turning behind
      refine ⟨.ref d, rfl, _, rfl, d, g, c0, _, n, 0, 3, rfl, st21, by omega, n1, n4, by decide, by decide, fun H22 pm m k22 st22 npm hm plm fim lnm => ?_⟩
      have htf22 := k22.ra st21 htf21
      have epu22 := k22.tup st21 epu21
      have hL22 := k22.all st21 hL21
      refine ⟨_, rfl, n, rfl, n4, fun H23 pi2 LJ s23 npi2 epi2 hLJ eLJ => ?_⟩
      refine ⟨_, rfl, pi2, pm, LJ, m, rfl, epi2, hLJ, by rw [← rws_length, eLJ, K71.ident_length]; exact n4, rws_len (b := 1000) (fun r hr => by rw [eLJ] at hr; have := K71.ident_len (n := n) r hr; omega), hm.same s23, by omega, fun H24 ps LM s24 nps eps hLM eLM => ?_⟩
      have esec : rws LM = inner n m := by rw [eLM, eLJ, K71.inner_ident]
      have rm : Ren n (rws LM) := by rw [esec]; exact K71.Ren.inner n1 n4 fim
      have lenm : ∀ r ∈ rws LM, r.length ≤ 1 + 2 * m.length := by rw [eLM, eLJ]; exact conj_rws K71.ident_len
      have hwm : weight (rws LM) ≤ 254 := by
        have h1 := K71.weight_le lenm
        rw [rm.len] at h1
        have : n * (1 + 2 * m.length) ≤ 4 * 7 := Nat.mul_le_mul n4 (by omega)
        omega
      have ecomp : K71.comp (rws L) (rws LM) = (inner n h).map (conj m) := by rw [esec, K71.comp_inner rn.lets, ein]
      have lenc : ∀ r ∈ K71.comp (rws L) (rws LM), r.length ≤ 33 + 2 * m.length := by rw [ecomp, ein]; exact conj_rws hlen
      have rc : Ren n (K71.comp (rws L) (rws LM)) := rn.comp rm
      have hwc : weight (K71.comp (rws L) (rws LM)) ≤ 254 := by
        have h1 := K71.weight_le lenc
        rw [rc.len] at h1
        have : n * (33 + 2 * m.length) ≤ 4 * 39 := Nat.mul_le_mul n4 (by omega)
        omega
      have s2224 := s23.trans s24
      refine ⟨_, rfl, _, rfl, _, rfl, _, rfl, n, pu, ps, L, LM, rfl, s2224 _ _ epu22, hL22.same s2224, rn, hw, eps, hLM, rm, hwm, hwc, fun H25 pc LC s25 epc hLC eLC => ?_⟩
      have etold : turnedBy n (rws LC) = some (if n > 1 then pl (m ++ h) else []) := by rw [eLC, ecomp]; exact K71.behind_told n1 fih fim
      refine ⟨n, pc, LC, rfl, epc, hLC, by rw [eLC]; exact rc, by rw [eLC]; exact hwc, fun H26 s26 e26 => (by rw [etold] at e26; cases e26), fun H26 tt ht s26 e26 htt => ?_⟩
      rw [etold] at e26
      have e26' : (if n > 1 then pl (m ++ h) else []) = ht := by injection e26
      have s2226 := (s2224.trans s25).trans s26
      refine ⟨n, pm, tf, m, h, rfl, rfl, rfl, hm.same s2226, htf22.same s2226, by omega, fun H27 tw s27 htw => ?_⟩
      rw [e26'] at htw
      refine ⟨_, _, (htt.same s27).dp, htw.dp, shaped_tup _, shaped_tup _, _, rfl, ?_⟩
      rw [eqv_tupD]
      show if (!decide (ht = ht)) = true then _ else _
      rw [if_neg (by simp)]
      exact ⟨_, _, _, _, _, _, _, _, _, rfl, (st22.same (s2226.trans s27)).mono (by omega)⟩
end
end K71W

/-! ## Wk29 -/
set_option Elab.async false
set_option linter.all false
set_option maxRecDepth 100000
namespace K71W
open PySem PySem.Spec PyProof.Rows L2
/-- what the program's top has left -/
structure Defs (K : PySem.W.Frag) (mg : Str → Option Value) : Prop where
  d_is_whole : ∃ f fd, Def K mg "is_whole" sWhole ["value"] f fd
  d_is_between : ∃ f fd, Def K mg "is_between" sBetween ["value", "low", "high"] f fd
  d_need_deeds : ∃ f fd, Def K mg "need_deeds" sNeedDeeds ["deeds"] f fd
  d_fits_letter : ∃ f fd, Def K mg "fits_letter" sFitsLetter ["deeds", "value"] f fd
  d_fits_row : ∃ f fd, Def K mg "fits_row" sFitsRow ["deeds", "value"] f fd
  d_plain_of : ∃ f fd, Def K mg "plain_of" sPlain ["letters"] f fd
  d_undone_of : ∃ f fd, Def K mg "undone_of" sUndone ["row"] f fd
  d_need_row : ∃ f fd, Def K mg "need_row" sNeedRow ["deeds", "row"] f fd
  d_is_plain_row : ∃ f fd, Def K mg "is_plain_row" sPlainRow ["deeds", "value"] f fd
  d_renamed_by : ∃ f fd, Def K mg "renamed_by" sRenamedBy ["images", "row"] f fd
  d_letters_gone : ∃ f fd, Def K mg "letters_gone" sGone ["one", "other"] f fd
  d_both_halves : ∃ f fd, Def K mg "both_halves" sHalves ["row"] f fd
  d_nearer_image : ∃ f fd, Def K mg "nearer_image" sNearer ["images", "place", "letter", "ahead"] f fd
  d_near_step : ∃ f fd, Def K mg "near_step" sNear ["images"] f fd
  d_steps_down : ∃ f fd, Def K mg "steps_down" sDown ["images"] f fd
  d_is_renaming_in : ∃ f fd, Def K mg "is_renaming_in" sIsRen ["deeds", "value"] f fd
  d_need_renaming : ∃ f fd, Def K mg "need_renaming" sNeedRen ["deeds", "value"] f fd
  d_need_few : ∃ f fd, Def K mg "need_few" sNeedFew ["images"] f fd
  d_turning_head : ∃ f fd, Def K mg "turning_head" sTHead ["deeds", "images"] f fd
  d_renamed : ∃ f fd, Def K mg "renamed" sRenamed ["deeds", "renaming", "row"] f fd
  d_behind : ∃ f fd, Def K mg "behind" sBehind ["deeds", "first", "second"] f fd
  d_turned_by : ∃ f fd, Def K mg "turned_by" sTurned ["deeds", "renaming"] f fd
  d_tail_of : ∃ f fd, Def K mg "tail_of" sTail ["row"] f fd
  d_least_start : ∃ f fd, Def K mg "least_start" sLeast ["row"] f fd
  d_middle_of : ∃ f fd, Def K mg "middle_of" sMiddle ["row"] f fd
  d_ring_in : ∃ f fd, Def K mg "ring_in" sRingIn ["row"] f fd
  d_ring_of : ∃ f fd, Def K mg "ring_of" sRingOf ["deeds", "row"] f fd
  dL_begun : ∃ f fd, Def K mg "_law_begun" sBegun ["_law_script"] f fd
  dL_blended : ∃ f fd, Def K mg "_law_blended" sBlend ["_law_state"] f fd
  dL_draw : ∃ f fd, Def K mg "_law_draw" sDraw ["_law_state", "_law_room"] f fd
  dL_pick : ∃ f fd, Def K mg "_law_pick" sPick ["_law_state", "_law_some"] f fd
  dL_shuffled : ∃ f fd, Def K mg "_law_shuffled" sShuf ["_law_state", "_law_some"] f fd
  dL_mk_plain : ∃ f fd, Def K mg "_law_mk_plain" sMkPlain ["_law_letters"] f fd
  dL_mk_undone : ∃ f fd, Def K mg "_law_mk_undone" sMkUndone ["_law_row"] f fd
  dL_mk_letters : ∃ f fd, Def K mg "_law_mk_letters" sMkLetters ["_law_deeds"] f fd
  dL_mk_row : ∃ f fd, Def K mg "_law_mk_row" sMkRow ["_law_state", "_law_deeds", "_law_least", "_law_most"] f fd
  dL_mk_raw : ∃ f fd, Def K mg "_law_mk_raw" sMkRaw ["_law_state", "_law_deeds", "_law_row"] f fd
  dL_mk_ring : ∃ f fd, Def K mg "_law_mk_ring" sMkRing ["_law_row"] f fd
  dL_mk_renamed : ∃ f fd, Def K mg "_law_mk_renamed" sMkRen ["_law_images", "_law_row"] f fd
  dL_mk_renaming : ∃ f fd, Def K mg "_law_mk_renaming" sMkRng ["_law_state", "_law_deeds", "_law_steps"] f fd
  dL_sh_images : ∃ f fd, Def K mg "_law_sh_images" sShImages ["_law_deeds", "_law_move_here"] f fd
  dL_rn_ident : ∃ f fd, Def K mg "_law_rn_ident" sIdent ["_law_deeds"] f fd
  dL_rn_after : ∃ f fd, Def K mg "_law_rn_after" sAfter ["_law_images", "_law_step"] f fd
  dL_rn_turned : ∃ f fd, Def K mg "_law_rn_turned" sRnTurned ["_law_row", "_law_by"] f fd
  dL_rn_is_letter : ∃ f fd, Def K mg "_law_rn_is_letter" sIsLetter ["_law_deeds", "_law_thing"] f fd
  dL_rn_exchange : ∃ f fd, Def K mg "_law_rn_exchange" sExch ["_law_state", "_law_deeds"] f fd
  dL_cu_spans : ∃ f fd, Def K mg "_law_cu_spans" sSpans ["_law_row"] f fd
  dL_base : ∃ f fd, Def K mg "_law_base" sBase ["_law_state", "_law_deeds"] f fd
  dL_turned_all : ∃ f fd, Def K mg "_law_turned_all" sTurnedAll ["_law_images", "_law_by"] f fd
  dL_keeps : ∃ f fd, Def K mg "_law_keeps" sKeeps ["_law_deeds", "_law_images"] f fd
  n_isinstance : mg "isinstance" = none
  n_int : mg "int" = none
  n_bool : mg "bool" = none
  n_tuple : mg "tuple" = none
  n_len : mg "len" = none
  n_all : mg "all" = none
  n_range : mg "range" = none
  n_min : mg "min" = none
  n_abs : mg "abs" = none
  n_sorted : mg "sorted" = none
  n_list : mg "list" = none
  n_sum : mg "sum" = none
  n_reversed : mg "reversed" = none
  n_enumerate : mg "enumerate" = none
  n_set : mg "set" = none
  c_MOST_DEEDS : ∃ t, mg "MOST_DEEDS" = some (.int 4 t)
  c_MOST_IN_ROW : ∃ t, mg "MOST_IN_ROW" = some (.int 200 t)
  c_MOST_IMAGES : ∃ t, mg "MOST_IMAGES" = some (.int 2000 t)
section
variable {P : Program} {w : World} {K : PySem.W.Frag} {mg : Str → Option Value} {base : Heap}
theorem law_ok (S : Defs K mg) {f : Addr} {fd : FuncData} (D : Fun K "law" "law" sLaw f fd) : FnOk P w K mg base CX0 9 f fd ["_law_script"] (spLaw K) := by
  obtain ⟨fW, fdW, DW⟩ := S.d_is_whole
  obtain ⟨fB, fdB, DB⟩ := S.d_is_between
  obtain ⟨fD, fdD, DD⟩ := S.d_need_deeds
  obtain ⟨fFL, fdFL, DFL⟩ := S.d_fits_letter
  obtain ⟨fFR, fdFR, DFR⟩ := S.d_fits_row
  obtain ⟨fP, fdP, DP⟩ := S.d_plain_of
  obtain ⟨fU, fdU, DU⟩ := S.d_undone_of
  obtain ⟨fNR, fdNR, DNR⟩ := S.d_need_row
  obtain ⟨fG, fdG, DG⟩ := S.d_letters_gone
  obtain ⟨fMP, fdMP, DMP⟩ := S.dL_mk_plain
  obtain ⟨fTB, fdTB, DTB⟩ := S.d_turned_by
  obtain ⟨t1, c1⟩ := S.c_MOST_DEEDS
  obtain ⟨t2, c2⟩ := S.c_MOST_IN_ROW
  obtain ⟨t3, c3⟩ := S.c_MOST_IMAGES
  have whole : Fn P w K mg base "is_whole" ["value"] 1 spWhole := DW.fn (ok_whole (k := 0) DW S.n_isinstance S.n_int S.n_bool)
  have between : FnOk P w K mg base CX0 2 fB fdB ["value", "low", "high"] spBetween := ok_between (k := 0) DB DW (ok_whole (k := 0) DW S.n_isinstance S.n_int S.n_bool)
  have needDeeds : Fn P w K mg base "need_deeds" ["deeds"] 3 spNeedDeeds := DD.fn (ok_needDeeds (k := 1) DD DB between c1)
  have fitsLetter : FnOk P w K mg base CX0 3 fFL fdFL ["deeds", "value"] spFitsLetter := ok_fitsLetter (k := 1) DFL DB between
  have fitsRow : FnOk P w K mg base CX0 4 fFR fdFR ["deeds", "value"] (spFitsRow K) := ok_fitsRow (k := 2) DFR DFL fitsLetter S.n_isinstance S.n_tuple S.n_len S.n_all c2
  have needRow : Fn P w K mg base "need_row" ["deeds", "row"] 5 (spNeedRow K) := DNR.fn (ok_needRow (k := 3) DNR DFR fitsRow DP (ok_plainT (k := 3) DP S.n_tuple))
  have plainL : Fn P w K mg base "plain_of" ["letters"] 1 (spPlainL K) := DP.fn (ok_plainL (k := 0) DP S.n_tuple)
  have plainT : Fn P w K mg base "plain_of" ["letters"] 1 (spPlainT K) := DP.fn (ok_plainT (k := 0) DP S.n_tuple)
  have undone : Fn P w K mg base "undone_of" ["row"] 1 (spUndone K) := DU.fn (ok_undone (k := 0) DU S.n_tuple S.n_reversed)
  have gone : Fn P w K mg base "letters_gone" ["one", "other"] 1 (spGone K) := DG.fn (ok_gone (k := 0) DG S.n_len S.n_min)
  have plainRow := ok_plainRow (P := P) (w := w) (base := base) S.d_is_plain_row whole S.n_isinstance S.n_tuple S.n_len S.n_all S.n_range
  have renamedBy := ok_renamedBy S.d_renamed_by undone plainL
  have halves := ok_halves S.d_both_halves undone S.n_len S.n_sorted
  have nearer := ok_nearer S.d_nearer_image undone gone halves S.n_len
  have near := ok_near S.d_near_step nearer S.n_len S.n_range
  have down := ok_down S.d_steps_down near S.n_list
  have isRen := ok_isRen S.d_is_renaming_in down plainRow S.n_isinstance S.n_tuple S.n_len S.n_all S.n_range S.n_list S.n_abs S.n_sorted
  have needRen := ok_needRen S.d_need_renaming isRen
  have needFew := ok_needFew (P := P) (w := w) (base := base) S.d_need_few S.n_sum S.n_len c3
  have tHead := ok_tHead S.d_turning_head undone plainT S.n_len S.n_range S.n_abs
  have renamed := ok_renamed S.d_renamed needDeeds needRen needRow renamedBy
  have behind := ok_behind S.d_behind needDeeds needRen needFew renamedBy S.n_tuple
  have turned := ok_turned0 DTB needDeeds needRen tHead undone plainT S.n_tuple S.n_range
  have tail := ok_tail (P := P) (w := w) (base := base) S.d_tail_of S.n_len
  have middle := ok_middle S.d_middle_of tail S.n_len
  have least := ok_least (P := P) (w := w) (base := base) S.d_least_start S.n_len S.n_min
  have ringIn := ok_ringIn S.d_ring_in middle least
  have ringOf := ok_ringOf S.d_ring_of needDeeds needRow ringIn
  have begun := ok_begun (P := P) (w := w) (base := base) S.dL_begun S.n_abs
  have blend := ok_blend (P := P) (w := w) (base := base) S.dL_blended S.n_int
  have draw := ok_draw S.dL_draw blend S.n_int
  have pick := ok_pick S.dL_pick draw S.n_len
  have shuf := ok_shuf S.dL_shuffled draw S.n_len S.n_list
  have mkPlainL : Fn P w K mg base "_law_mk_plain" ["_law_letters"] 1 (spPlainL K) := DMP.fn (ok_mkPlainL (k := 0) DMP S.n_tuple)
  have mkPlainT : Fn P w K mg base "_law_mk_plain" ["_law_letters"] 1 (spPlainT K) := DMP.fn (ok_mkPlainT (k := 0) DMP S.n_tuple)
  have mkUndone := ok_mkUndone (P := P) (w := w) (base := base) S.dL_mk_undone S.n_tuple
  have mkLetters := ok_mkLetters (P := P) (w := w) (base := base) S.dL_mk_letters S.n_list S.n_range
  have mkRow := ok_mkRow S.dL_mk_row draw pick mkLetters S.n_tuple S.n_range
  have mkRaw := ok_mkRaw S.dL_mk_raw draw pick mkLetters S.n_tuple S.n_range S.n_len S.n_list
  have mkRing := ok_mkRing S.dL_mk_ring mkPlainT S.n_len S.n_list S.n_tuple S.n_range S.n_min
  have spans := ok_spans S.dL_cu_spans mkPlainT S.n_len S.n_list
  have mkRen := ok_mkRen S.dL_mk_renamed mkUndone mkPlainL S.n_list
  have mkRng := ok_mkRng S.dL_mk_renaming draw mkUndone mkPlainT mkRen S.n_list S.n_range
  have shI := ok_shImages (P := P) (w := w) (base := base) S.dL_sh_images S.n_range
  have idn := ok_ident (P := P) (w := w) (base := base) S.dL_rn_ident S.n_tuple S.n_range
  have aft := ok_after S.dL_rn_after mkRen S.n_tuple
  have rnT := ok_rnTurned S.dL_rn_turned mkUndone mkPlainT S.n_tuple
  have isL := ok_isLetter (P := P) (w := w) (base := base) S.dL_rn_is_letter S.n_isinstance S.n_int S.n_bool S.n_abs
  have exch := ok_exch S.dL_rn_exchange draw shuf S.n_list S.n_range S.n_enumerate S.n_tuple
  have bs := ok_base S.dL_base draw pick mkLetters exch mkRng idn aft shI S.n_tuple S.n_range S.n_abs S.n_sorted S.n_set
  have tAll := ok_turnedAll S.dL_turned_all rnT S.n_tuple
  have keeps := ok_keeps S.dL_keeps mkRing spans mkRen S.n_range
  exact ok_law D begun pick mkRow tAll bs ⟨fTB, fdTB, DTB.b, DTB.g, DTB.F.kp, turned, kb_turned DTB⟩ keeps isL mkPlainT idn mkRaw ringOf renamed behind S.n_range S.n_min S.n_len S.n_isinstance S.n_tuple
end
theorem def_mk {K : PySem.W.Frag} {h : Heap} {mg : Str → Option Value} {x : Str} {st : Stmt} {ps : List Str} {f : Addr} {oc kV dc pm cd ct : Value} {od an : Option Addr} {sl : Array (Option Value)} (X : K.In h) (G : h.Ns mainGlobals mg)
    (hb : ∀ (kV doc pm : Value) (an : Option Addr) (cdv ct : Value) (us : List Value), us.length = ps.length → bindArgs (PySem.W.fnOf x x (defArgs st) (defBody st) (defScope st) .none kV doc pm an cdv ct) ⟨us, []⟩ = pure (ps.zip us))
    (a : PySem.W.nsIn K mainGlobals x = some (some (.ref f))) (l : K.lookup f = some ⟨oc, od, .func (PySem.W.fnOf x x (defArgs st) (defBody st) (defScope st) .none kV dc pm an cd ct), sl⟩)
    (c : PySem.W.codeIn K cd x = true) (k : PySem.W.keepIn K (.ref f) = true) : ∃ f fd, Def K mg x st ps f fd :=
  ⟨f, _, ⟨fun_mk (st := st) l c k, (fun_mk (st := st) l c k).binds hb, PySem.W.mg_of X G a⟩⟩
set_option maxHeartbeats 0 in
theorem all_mk {l : PySem.W.OpenLaw} {w : World} {K : PySem.W.Frag} {h : Heap} {mg : Str → Option Value} {fa : Addr} (X : K.In h) (G : h.Ns mainGlobals mg) (hfa : mg "law" = some (.ref fa))
    {f7 : Addr} {oc7 kV7 dc7 pm7 cd7 ct7 : Value} {od7 an7 : Option Addr} {sl7 : Array (Option Value)} {f8 : Addr} {oc8 kV8 dc8 pm8 cd8 ct8 : Value} {od8 an8 : Option Addr} {sl8 : Array (Option Value)} {f12 : Addr} {oc12 kV12 dc12 pm12 cd12 ct12 : Value} {od12 an12 : Option Addr} {sl12 : Array (Option Value)} {f13 : Addr} {oc13 kV13 dc13 pm13 cd13 ct13 : Value} {od13 an13 : Option Addr} {sl13 : Array (Option Value)} {f14 : Addr} {oc14 kV14 dc14 pm14 cd14 ct14 : Value} {od14 an14 : Option Addr} {sl14 : Array (Option Value)} {f15 : Addr} {oc15 kV15 dc15 pm15 cd15 ct15 : Value} {od15 an15 : Option Addr} {sl15 : Array (Option Value)} {f16 : Addr} {oc16 kV16 dc16 pm16 cd16 ct16 : Value} {od16 an16 : Option Addr} {sl16 : Array (Option Value)} {f17 : Addr} {oc17 kV17 dc17 pm17 cd17 ct17 : Value} {od17 an17 : Option Addr} {sl17 : Array (Option Value)} {f20 : Addr} {oc20 kV20 dc20 pm20 cd20 ct20 : Value} {od20 an20 : Option Addr} {sl20 : Array (Option Value)} {f21 : Addr} {oc21 kV21 dc21 pm21 cd21 ct21 : Value} {od21 an21 : Option Addr} {sl21 : Array (Option Value)} {f22 : Addr} {oc22 kV22 dc22 pm22 cd22 ct22 : Value} {od22 an22 : Option Addr} {sl22 : Array (Option Value)} {f23 : Addr} {oc23 kV23 dc23 pm23 cd23 ct23 : Value} {od23 an23 : Option Addr} {sl23 : Array (Option Value)} {f24 : Addr} {oc24 kV24 dc24 pm24 cd24 ct24 : Value} {od24 an24 : Option Addr} {sl24 : Array (Option Value)} {f25 : Addr} {oc25 kV25 dc25 pm25 cd25 ct25 : Value} {od25 an25 : Option Addr} {sl25 : Array (Option Value)} {f26 : Addr} {oc26 kV26 dc26 pm26 cd26 ct26 : Value} {od26 an26 : Option Addr} {sl26 : Array (Option Value)} {f27 : Addr} {oc27 kV27 dc27 pm27 cd27 ct27 : Value} {od27 an27 : Option Addr} {sl27 : Array (Option Value)} {f28 : Addr} {oc28 kV28 dc28 pm28 cd28 ct28 : Value} {od28 an28 : Option Addr} {sl28 : Array (Option Value)} {f29 : Addr} {oc29 kV29 dc29 pm29 cd29 ct29 : Value} {od29 an29 : Option Addr} {sl29 : Array (Option Value)} {f30 : Addr} {oc30 kV30 dc30 pm30 cd30 ct30 : Value} {od30 an30 : Option Addr} {sl30 : Array (Option Value)} {f31 : Addr} {oc31 kV31 dc31 pm31 cd31 ct31 : Value} {od31 an31 : Option Addr} {sl31 : Array (Option Value)} {f32 : Addr} {oc32 kV32 dc32 pm32 cd32 ct32 : Value} {od32 an32 : Option Addr} {sl32 : Array (Option Value)} {f33 : Addr} {oc33 kV33 dc33 pm33 cd33 ct33 : Value} {od33 an33 : Option Addr} {sl33 : Array (Option Value)} {f35 : Addr} {oc35 kV35 dc35 pm35 cd35 ct35 : Value} {od35 an35 : Option Addr} {sl35 : Array (Option Value)} {f36 : Addr} {oc36 kV36 dc36 pm36 cd36 ct36 : Value} {od36 an36 : Option Addr} {sl36 : Array (Option Value)} {f37 : Addr} {oc37 kV37 dc37 pm37 cd37 ct37 : Value} {od37 an37 : Option Addr} {sl37 : Array (Option Value)} {f38 : Addr} {oc38 kV38 dc38 pm38 cd38 ct38 : Value} {od38 an38 : Option Addr} {sl38 : Array (Option Value)} {f39 : Addr} {oc39 kV39 dc39 pm39 cd39 ct39 : Value} {od39 an39 : Option Addr} {sl39 : Array (Option Value)} {f41 : Addr} {oc41 kV41 dc41 pm41 cd41 ct41 : Value} {od41 an41 : Option Addr} {sl41 : Array (Option Value)} {f42 : Addr} {oc42 kV42 dc42 pm42 cd42 ct42 : Value} {od42 an42 : Option Addr} {sl42 : Array (Option Value)} {f43 : Addr} {oc43 kV43 dc43 pm43 cd43 ct43 : Value} {od43 an43 : Option Addr} {sl43 : Array (Option Value)} {f44 : Addr} {oc44 kV44 dc44 pm44 cd44 ct44 : Value} {od44 an44 : Option Addr} {sl44 : Array (Option Value)} {f45 : Addr} {oc45 kV45 dc45 pm45 cd45 ct45 : Value} {od45 an45 : Option Addr} {sl45 : Array (Option Value)} {f46 : Addr} {oc46 kV46 dc46 pm46 cd46 ct46 : Value} {od46 an46 : Option Addr} {sl46 : Array (Option Value)} {f47 : Addr} {oc47 kV47 dc47 pm47 cd47 ct47 : Value} {od47 an47 : Option Addr} {sl47 : Array (Option Value)} {f48 : Addr} {oc48 kV48 dc48 pm48 cd48 ct48 : Value} {od48 an48 : Option Addr} {sl48 : Array (Option Value)} {f49 : Addr} {oc49 kV49 dc49 pm49 cd49 ct49 : Value} {od49 an49 : Option Addr} {sl49 : Array (Option Value)} {f50 : Addr} {oc50 kV50 dc50 pm50 cd50 ct50 : Value} {od50 an50 : Option Addr} {sl50 : Array (Option Value)} {f51 : Addr} {oc51 kV51 dc51 pm51 cd51 ct51 : Value} {od51 an51 : Option Addr} {sl51 : Array (Option Value)} {f52 : Addr} {oc52 kV52 dc52 pm52 cd52 ct52 : Value} {od52 an52 : Option Addr} {sl52 : Array (Option Value)} {f53 : Addr} {oc53 kV53 dc53 pm53 cd53 ct53 : Value} {od53 an53 : Option Addr} {sl53 : Array (Option Value)} {f54 : Addr} {oc54 kV54 dc54 pm54 cd54 ct54 : Value} {od54 an54 : Option Addr} {sl54 : Array (Option Value)} {f55 : Addr} {oc55 kV55 dc55 pm55 cd55 ct55 : Value} {od55 an55 : Option Addr} {sl55 : Array (Option Value)} {f56 : Addr} {oc56 kV56 dc56 pm56 cd56 ct56 : Value} {od56 an56 : Option Addr} {sl56 : Array (Option Value)} {f57 : Addr} {oc57 kV57 dc57 pm57 cd57 ct57 : Value} {od57 an57 : Option Addr} {sl57 : Array (Option Value)} {f58 : Addr} {oc58 kV58 dc58 pm58 cd58 ct58 : Value} {od58 an58 : Option Addr} {sl58 : Array (Option Value)} {f59 : Addr} {oc59 kV59 dc59 pm59 cd59 ct59 : Value} {od59 an59 : Option Addr} {sl59 : Array (Option Value)} {f60 : Addr} {oc60 kV60 dc60 pm60 cd60 ct60 : Value} {od60 an60 : Option Addr} {sl60 : Array (Option Value)} {f61 : Addr} {oc61 kV61 dc61 pm61 cd61 ct61 : Value} {od61 an61 : Option Addr} {sl61 : Array (Option Value)} {f62 : Addr} {oc62 kV62 dc62 pm62 cd62 ct62 : Value} {od62 an62 : Option Addr} {sl62 : Array (Option Value)} {f63 : Addr} {oc63 kV63 dc63 pm63 cd63 ct63 : Value} {od63 an63 : Option Addr} {sl63 : Array (Option Value)} {f64 : Addr} {oc64 kV64 dc64 pm64 cd64 ct64 : Value} {od64 an64 : Option Addr} {sl64 : Array (Option Value)} {t_MOST_DEEDS : Tok} {t_MOST_IN_ROW : Tok} {t_MOST_IMAGES : Tok}
    (a7 : PySem.W.nsIn K mainGlobals "is_whole" = some (some (.ref f7))) (l7 : K.lookup f7 = some ⟨oc7, od7, .func (PySem.W.fnOf "is_whole" "is_whole" (defArgs sWhole) (defBody sWhole) (defScope sWhole) .none kV7 dc7 pm7 an7 cd7 ct7), sl7⟩) (c7 : PySem.W.codeIn K cd7 "is_whole" = true) (k7 : PySem.W.keepIn K (.ref f7) = true)
    (a8 : PySem.W.nsIn K mainGlobals "is_between" = some (some (.ref f8))) (l8 : K.lookup f8 = some ⟨oc8, od8, .func (PySem.W.fnOf "is_between" "is_between" (defArgs sBetween) (defBody sBetween) (defScope sBetween) .none kV8 dc8 pm8 an8 cd8 ct8), sl8⟩) (c8 : PySem.W.codeIn K cd8 "is_between" = true) (k8 : PySem.W.keepIn K (.ref f8) = true)
    (a12 : PySem.W.nsIn K mainGlobals "need_deeds" = some (some (.ref f12))) (l12 : K.lookup f12 = some ⟨oc12, od12, .func (PySem.W.fnOf "need_deeds" "need_deeds" (defArgs sNeedDeeds) (defBody sNeedDeeds) (defScope sNeedDeeds) .none kV12 dc12 pm12 an12 cd12 ct12), sl12⟩) (c12 : PySem.W.codeIn K cd12 "need_deeds" = true) (k12 : PySem.W.keepIn K (.ref f12) = true)
    (a13 : PySem.W.nsIn K mainGlobals "fits_letter" = some (some (.ref f13))) (l13 : K.lookup f13 = some ⟨oc13, od13, .func (PySem.W.fnOf "fits_letter" "fits_letter" (defArgs sFitsLetter) (defBody sFitsLetter) (defScope sFitsLetter) .none kV13 dc13 pm13 an13 cd13 ct13), sl13⟩) (c13 : PySem.W.codeIn K cd13 "fits_letter" = true) (k13 : PySem.W.keepIn K (.ref f13) = true)
    (a14 : PySem.W.nsIn K mainGlobals "fits_row" = some (some (.ref f14))) (l14 : K.lookup f14 = some ⟨oc14, od14, .func (PySem.W.fnOf "fits_row" "fits_row" (defArgs sFitsRow) (defBody sFitsRow) (defScope sFitsRow) .none kV14 dc14 pm14 an14 cd14 ct14), sl14⟩) (c14 : PySem.W.codeIn K cd14 "fits_row" = true) (k14 : PySem.W.keepIn K (.ref f14) = true)
    (a15 : PySem.W.nsIn K mainGlobals "plain_of" = some (some (.ref f15))) (l15 : K.lookup f15 = some ⟨oc15, od15, .func (PySem.W.fnOf "plain_of" "plain_of" (defArgs sPlain) (defBody sPlain) (defScope sPlain) .none kV15 dc15 pm15 an15 cd15 ct15), sl15⟩) (c15 : PySem.W.codeIn K cd15 "plain_of" = true) (k15 : PySem.W.keepIn K (.ref f15) = true)
    (a16 : PySem.W.nsIn K mainGlobals "undone_of" = some (some (.ref f16))) (l16 : K.lookup f16 = some ⟨oc16, od16, .func (PySem.W.fnOf "undone_of" "undone_of" (defArgs sUndone) (defBody sUndone) (defScope sUndone) .none kV16 dc16 pm16 an16 cd16 ct16), sl16⟩) (c16 : PySem.W.codeIn K cd16 "undone_of" = true) (k16 : PySem.W.keepIn K (.ref f16) = true)
    (a17 : PySem.W.nsIn K mainGlobals "need_row" = some (some (.ref f17))) (l17 : K.lookup f17 = some ⟨oc17, od17, .func (PySem.W.fnOf "need_row" "need_row" (defArgs sNeedRow) (defBody sNeedRow) (defScope sNeedRow) .none kV17 dc17 pm17 an17 cd17 ct17), sl17⟩) (c17 : PySem.W.codeIn K cd17 "need_row" = true) (k17 : PySem.W.keepIn K (.ref f17) = true)
    (a20 : PySem.W.nsIn K mainGlobals "is_plain_row" = some (some (.ref f20))) (l20 : K.lookup f20 = some ⟨oc20, od20, .func (PySem.W.fnOf "is_plain_row" "is_plain_row" (defArgs sPlainRow) (defBody sPlainRow) (defScope sPlainRow) .none kV20 dc20 pm20 an20 cd20 ct20), sl20⟩) (c20 : PySem.W.codeIn K cd20 "is_plain_row" = true) (k20 : PySem.W.keepIn K (.ref f20) = true)
    (a21 : PySem.W.nsIn K mainGlobals "renamed_by" = some (some (.ref f21))) (l21 : K.lookup f21 = some ⟨oc21, od21, .func (PySem.W.fnOf "renamed_by" "renamed_by" (defArgs sRenamedBy) (defBody sRenamedBy) (defScope sRenamedBy) .none kV21 dc21 pm21 an21 cd21 ct21), sl21⟩) (c21 : PySem.W.codeIn K cd21 "renamed_by" = true) (k21 : PySem.W.keepIn K (.ref f21) = true)
    (a22 : PySem.W.nsIn K mainGlobals "letters_gone" = some (some (.ref f22))) (l22 : K.lookup f22 = some ⟨oc22, od22, .func (PySem.W.fnOf "letters_gone" "letters_gone" (defArgs sGone) (defBody sGone) (defScope sGone) .none kV22 dc22 pm22 an22 cd22 ct22), sl22⟩) (c22 : PySem.W.codeIn K cd22 "letters_gone" = true) (k22 : PySem.W.keepIn K (.ref f22) = true)
    (a23 : PySem.W.nsIn K mainGlobals "both_halves" = some (some (.ref f23))) (l23 : K.lookup f23 = some ⟨oc23, od23, .func (PySem.W.fnOf "both_halves" "both_halves" (defArgs sHalves) (defBody sHalves) (defScope sHalves) .none kV23 dc23 pm23 an23 cd23 ct23), sl23⟩) (c23 : PySem.W.codeIn K cd23 "both_halves" = true) (k23 : PySem.W.keepIn K (.ref f23) = true)
    (a24 : PySem.W.nsIn K mainGlobals "nearer_image" = some (some (.ref f24))) (l24 : K.lookup f24 = some ⟨oc24, od24, .func (PySem.W.fnOf "nearer_image" "nearer_image" (defArgs sNearer) (defBody sNearer) (defScope sNearer) .none kV24 dc24 pm24 an24 cd24 ct24), sl24⟩) (c24 : PySem.W.codeIn K cd24 "nearer_image" = true) (k24 : PySem.W.keepIn K (.ref f24) = true)
    (a25 : PySem.W.nsIn K mainGlobals "near_step" = some (some (.ref f25))) (l25 : K.lookup f25 = some ⟨oc25, od25, .func (PySem.W.fnOf "near_step" "near_step" (defArgs sNear) (defBody sNear) (defScope sNear) .none kV25 dc25 pm25 an25 cd25 ct25), sl25⟩) (c25 : PySem.W.codeIn K cd25 "near_step" = true) (k25 : PySem.W.keepIn K (.ref f25) = true)
    (a26 : PySem.W.nsIn K mainGlobals "steps_down" = some (some (.ref f26))) (l26 : K.lookup f26 = some ⟨oc26, od26, .func (PySem.W.fnOf "steps_down" "steps_down" (defArgs sDown) (defBody sDown) (defScope sDown) .none kV26 dc26 pm26 an26 cd26 ct26), sl26⟩) (c26 : PySem.W.codeIn K cd26 "steps_down" = true) (k26 : PySem.W.keepIn K (.ref f26) = true)
    (a27 : PySem.W.nsIn K mainGlobals "is_renaming_in" = some (some (.ref f27))) (l27 : K.lookup f27 = some ⟨oc27, od27, .func (PySem.W.fnOf "is_renaming_in" "is_renaming_in" (defArgs sIsRen) (defBody sIsRen) (defScope sIsRen) .none kV27 dc27 pm27 an27 cd27 ct27), sl27⟩) (c27 : PySem.W.codeIn K cd27 "is_renaming_in" = true) (k27 : PySem.W.keepIn K (.ref f27) = true)
    (a28 : PySem.W.nsIn K mainGlobals "need_renaming" = some (some (.ref f28))) (l28 : K.lookup f28 = some ⟨oc28, od28, .func (PySem.W.fnOf "need_renaming" "need_renaming" (defArgs sNeedRen) (defBody sNeedRen) (defScope sNeedRen) .none kV28 dc28 pm28 an28 cd28 ct28), sl28⟩) (c28 : PySem.W.codeIn K cd28 "need_renaming" = true) (k28 : PySem.W.keepIn K (.ref f28) = true)
    (a29 : PySem.W.nsIn K mainGlobals "need_few" = some (some (.ref f29))) (l29 : K.lookup f29 = some ⟨oc29, od29, .func (PySem.W.fnOf "need_few" "need_few" (defArgs sNeedFew) (defBody sNeedFew) (defScope sNeedFew) .none kV29 dc29 pm29 an29 cd29 ct29), sl29⟩) (c29 : PySem.W.codeIn K cd29 "need_few" = true) (k29 : PySem.W.keepIn K (.ref f29) = true)
    (a30 : PySem.W.nsIn K mainGlobals "turning_head" = some (some (.ref f30))) (l30 : K.lookup f30 = some ⟨oc30, od30, .func (PySem.W.fnOf "turning_head" "turning_head" (defArgs sTHead) (defBody sTHead) (defScope sTHead) .none kV30 dc30 pm30 an30 cd30 ct30), sl30⟩) (c30 : PySem.W.codeIn K cd30 "turning_head" = true) (k30 : PySem.W.keepIn K (.ref f30) = true)
    (a31 : PySem.W.nsIn K mainGlobals "renamed" = some (some (.ref f31))) (l31 : K.lookup f31 = some ⟨oc31, od31, .func (PySem.W.fnOf "renamed" "renamed" (defArgs sRenamed) (defBody sRenamed) (defScope sRenamed) .none kV31 dc31 pm31 an31 cd31 ct31), sl31⟩) (c31 : PySem.W.codeIn K cd31 "renamed" = true) (k31 : PySem.W.keepIn K (.ref f31) = true)
    (a32 : PySem.W.nsIn K mainGlobals "behind" = some (some (.ref f32))) (l32 : K.lookup f32 = some ⟨oc32, od32, .func (PySem.W.fnOf "behind" "behind" (defArgs sBehind) (defBody sBehind) (defScope sBehind) .none kV32 dc32 pm32 an32 cd32 ct32), sl32⟩) (c32 : PySem.W.codeIn K cd32 "behind" = true) (k32 : PySem.W.keepIn K (.ref f32) = true)
    (a33 : PySem.W.nsIn K mainGlobals "turned_by" = some (some (.ref f33))) (l33 : K.lookup f33 = some ⟨oc33, od33, .func (PySem.W.fnOf "turned_by" "turned_by" (defArgs sTurned) (defBody sTurned) (defScope sTurned) .none kV33 dc33 pm33 an33 cd33 ct33), sl33⟩) (c33 : PySem.W.codeIn K cd33 "turned_by" = true) (k33 : PySem.W.keepIn K (.ref f33) = true)
    (a35 : PySem.W.nsIn K mainGlobals "tail_of" = some (some (.ref f35))) (l35 : K.lookup f35 = some ⟨oc35, od35, .func (PySem.W.fnOf "tail_of" "tail_of" (defArgs sTail) (defBody sTail) (defScope sTail) .none kV35 dc35 pm35 an35 cd35 ct35), sl35⟩) (c35 : PySem.W.codeIn K cd35 "tail_of" = true) (k35 : PySem.W.keepIn K (.ref f35) = true)
    (a36 : PySem.W.nsIn K mainGlobals "least_start" = some (some (.ref f36))) (l36 : K.lookup f36 = some ⟨oc36, od36, .func (PySem.W.fnOf "least_start" "least_start" (defArgs sLeast) (defBody sLeast) (defScope sLeast) .none kV36 dc36 pm36 an36 cd36 ct36), sl36⟩) (c36 : PySem.W.codeIn K cd36 "least_start" = true) (k36 : PySem.W.keepIn K (.ref f36) = true)
    (a37 : PySem.W.nsIn K mainGlobals "middle_of" = some (some (.ref f37))) (l37 : K.lookup f37 = some ⟨oc37, od37, .func (PySem.W.fnOf "middle_of" "middle_of" (defArgs sMiddle) (defBody sMiddle) (defScope sMiddle) .none kV37 dc37 pm37 an37 cd37 ct37), sl37⟩) (c37 : PySem.W.codeIn K cd37 "middle_of" = true) (k37 : PySem.W.keepIn K (.ref f37) = true)
    (a38 : PySem.W.nsIn K mainGlobals "ring_in" = some (some (.ref f38))) (l38 : K.lookup f38 = some ⟨oc38, od38, .func (PySem.W.fnOf "ring_in" "ring_in" (defArgs sRingIn) (defBody sRingIn) (defScope sRingIn) .none kV38 dc38 pm38 an38 cd38 ct38), sl38⟩) (c38 : PySem.W.codeIn K cd38 "ring_in" = true) (k38 : PySem.W.keepIn K (.ref f38) = true)
    (a39 : PySem.W.nsIn K mainGlobals "ring_of" = some (some (.ref f39))) (l39 : K.lookup f39 = some ⟨oc39, od39, .func (PySem.W.fnOf "ring_of" "ring_of" (defArgs sRingOf) (defBody sRingOf) (defScope sRingOf) .none kV39 dc39 pm39 an39 cd39 ct39), sl39⟩) (c39 : PySem.W.codeIn K cd39 "ring_of" = true) (k39 : PySem.W.keepIn K (.ref f39) = true)
    (a41 : PySem.W.nsIn K mainGlobals "_law_begun" = some (some (.ref f41))) (l41 : K.lookup f41 = some ⟨oc41, od41, .func (PySem.W.fnOf "_law_begun" "_law_begun" (defArgs sBegun) (defBody sBegun) (defScope sBegun) .none kV41 dc41 pm41 an41 cd41 ct41), sl41⟩) (c41 : PySem.W.codeIn K cd41 "_law_begun" = true) (k41 : PySem.W.keepIn K (.ref f41) = true)
    (a42 : PySem.W.nsIn K mainGlobals "_law_blended" = some (some (.ref f42))) (l42 : K.lookup f42 = some ⟨oc42, od42, .func (PySem.W.fnOf "_law_blended" "_law_blended" (defArgs sBlend) (defBody sBlend) (defScope sBlend) .none kV42 dc42 pm42 an42 cd42 ct42), sl42⟩) (c42 : PySem.W.codeIn K cd42 "_law_blended" = true) (k42 : PySem.W.keepIn K (.ref f42) = true)
    (a43 : PySem.W.nsIn K mainGlobals "_law_draw" = some (some (.ref f43))) (l43 : K.lookup f43 = some ⟨oc43, od43, .func (PySem.W.fnOf "_law_draw" "_law_draw" (defArgs sDraw) (defBody sDraw) (defScope sDraw) .none kV43 dc43 pm43 an43 cd43 ct43), sl43⟩) (c43 : PySem.W.codeIn K cd43 "_law_draw" = true) (k43 : PySem.W.keepIn K (.ref f43) = true)
    (a44 : PySem.W.nsIn K mainGlobals "_law_pick" = some (some (.ref f44))) (l44 : K.lookup f44 = some ⟨oc44, od44, .func (PySem.W.fnOf "_law_pick" "_law_pick" (defArgs sPick) (defBody sPick) (defScope sPick) .none kV44 dc44 pm44 an44 cd44 ct44), sl44⟩) (c44 : PySem.W.codeIn K cd44 "_law_pick" = true) (k44 : PySem.W.keepIn K (.ref f44) = true)
    (a45 : PySem.W.nsIn K mainGlobals "_law_shuffled" = some (some (.ref f45))) (l45 : K.lookup f45 = some ⟨oc45, od45, .func (PySem.W.fnOf "_law_shuffled" "_law_shuffled" (defArgs sShuf) (defBody sShuf) (defScope sShuf) .none kV45 dc45 pm45 an45 cd45 ct45), sl45⟩) (c45 : PySem.W.codeIn K cd45 "_law_shuffled" = true) (k45 : PySem.W.keepIn K (.ref f45) = true)
    (a46 : PySem.W.nsIn K mainGlobals "_law_mk_plain" = some (some (.ref f46))) (l46 : K.lookup f46 = some ⟨oc46, od46, .func (PySem.W.fnOf "_law_mk_plain" "_law_mk_plain" (defArgs sMkPlain) (defBody sMkPlain) (defScope sMkPlain) .none kV46 dc46 pm46 an46 cd46 ct46), sl46⟩) (c46 : PySem.W.codeIn K cd46 "_law_mk_plain" = true) (k46 : PySem.W.keepIn K (.ref f46) = true)
    (a47 : PySem.W.nsIn K mainGlobals "_law_mk_undone" = some (some (.ref f47))) (l47 : K.lookup f47 = some ⟨oc47, od47, .func (PySem.W.fnOf "_law_mk_undone" "_law_mk_undone" (defArgs sMkUndone) (defBody sMkUndone) (defScope sMkUndone) .none kV47 dc47 pm47 an47 cd47 ct47), sl47⟩) (c47 : PySem.W.codeIn K cd47 "_law_mk_undone" = true) (k47 : PySem.W.keepIn K (.ref f47) = true)
    (a48 : PySem.W.nsIn K mainGlobals "_law_mk_letters" = some (some (.ref f48))) (l48 : K.lookup f48 = some ⟨oc48, od48, .func (PySem.W.fnOf "_law_mk_letters" "_law_mk_letters" (defArgs sMkLetters) (defBody sMkLetters) (defScope sMkLetters) .none kV48 dc48 pm48 an48 cd48 ct48), sl48⟩) (c48 : PySem.W.codeIn K cd48 "_law_mk_letters" = true) (k48 : PySem.W.keepIn K (.ref f48) = true)
    (a49 : PySem.W.nsIn K mainGlobals "_law_mk_row" = some (some (.ref f49))) (l49 : K.lookup f49 = some ⟨oc49, od49, .func (PySem.W.fnOf "_law_mk_row" "_law_mk_row" (defArgs sMkRow) (defBody sMkRow) (defScope sMkRow) .none kV49 dc49 pm49 an49 cd49 ct49), sl49⟩) (c49 : PySem.W.codeIn K cd49 "_law_mk_row" = true) (k49 : PySem.W.keepIn K (.ref f49) = true)
    (a50 : PySem.W.nsIn K mainGlobals "_law_mk_raw" = some (some (.ref f50))) (l50 : K.lookup f50 = some ⟨oc50, od50, .func (PySem.W.fnOf "_law_mk_raw" "_law_mk_raw" (defArgs sMkRaw) (defBody sMkRaw) (defScope sMkRaw) .none kV50 dc50 pm50 an50 cd50 ct50), sl50⟩) (c50 : PySem.W.codeIn K cd50 "_law_mk_raw" = true) (k50 : PySem.W.keepIn K (.ref f50) = true)
    (a51 : PySem.W.nsIn K mainGlobals "_law_mk_ring" = some (some (.ref f51))) (l51 : K.lookup f51 = some ⟨oc51, od51, .func (PySem.W.fnOf "_law_mk_ring" "_law_mk_ring" (defArgs sMkRing) (defBody sMkRing) (defScope sMkRing) .none kV51 dc51 pm51 an51 cd51 ct51), sl51⟩) (c51 : PySem.W.codeIn K cd51 "_law_mk_ring" = true) (k51 : PySem.W.keepIn K (.ref f51) = true)
    (a52 : PySem.W.nsIn K mainGlobals "_law_mk_renamed" = some (some (.ref f52))) (l52 : K.lookup f52 = some ⟨oc52, od52, .func (PySem.W.fnOf "_law_mk_renamed" "_law_mk_renamed" (defArgs sMkRen) (defBody sMkRen) (defScope sMkRen) .none kV52 dc52 pm52 an52 cd52 ct52), sl52⟩) (c52 : PySem.W.codeIn K cd52 "_law_mk_renamed" = true) (k52 : PySem.W.keepIn K (.ref f52) = true)
    (a53 : PySem.W.nsIn K mainGlobals "_law_mk_renaming" = some (some (.ref f53))) (l53 : K.lookup f53 = some ⟨oc53, od53, .func (PySem.W.fnOf "_law_mk_renaming" "_law_mk_renaming" (defArgs sMkRng) (defBody sMkRng) (defScope sMkRng) .none kV53 dc53 pm53 an53 cd53 ct53), sl53⟩) (c53 : PySem.W.codeIn K cd53 "_law_mk_renaming" = true) (k53 : PySem.W.keepIn K (.ref f53) = true)
    (a54 : PySem.W.nsIn K mainGlobals "_law_sh_images" = some (some (.ref f54))) (l54 : K.lookup f54 = some ⟨oc54, od54, .func (PySem.W.fnOf "_law_sh_images" "_law_sh_images" (defArgs sShImages) (defBody sShImages) (defScope sShImages) .none kV54 dc54 pm54 an54 cd54 ct54), sl54⟩) (c54 : PySem.W.codeIn K cd54 "_law_sh_images" = true) (k54 : PySem.W.keepIn K (.ref f54) = true)
    (a55 : PySem.W.nsIn K mainGlobals "_law_rn_ident" = some (some (.ref f55))) (l55 : K.lookup f55 = some ⟨oc55, od55, .func (PySem.W.fnOf "_law_rn_ident" "_law_rn_ident" (defArgs sIdent) (defBody sIdent) (defScope sIdent) .none kV55 dc55 pm55 an55 cd55 ct55), sl55⟩) (c55 : PySem.W.codeIn K cd55 "_law_rn_ident" = true) (k55 : PySem.W.keepIn K (.ref f55) = true)
    (a56 : PySem.W.nsIn K mainGlobals "_law_rn_after" = some (some (.ref f56))) (l56 : K.lookup f56 = some ⟨oc56, od56, .func (PySem.W.fnOf "_law_rn_after" "_law_rn_after" (defArgs sAfter) (defBody sAfter) (defScope sAfter) .none kV56 dc56 pm56 an56 cd56 ct56), sl56⟩) (c56 : PySem.W.codeIn K cd56 "_law_rn_after" = true) (k56 : PySem.W.keepIn K (.ref f56) = true)
    (a57 : PySem.W.nsIn K mainGlobals "_law_rn_turned" = some (some (.ref f57))) (l57 : K.lookup f57 = some ⟨oc57, od57, .func (PySem.W.fnOf "_law_rn_turned" "_law_rn_turned" (defArgs sRnTurned) (defBody sRnTurned) (defScope sRnTurned) .none kV57 dc57 pm57 an57 cd57 ct57), sl57⟩) (c57 : PySem.W.codeIn K cd57 "_law_rn_turned" = true) (k57 : PySem.W.keepIn K (.ref f57) = true)
    (a58 : PySem.W.nsIn K mainGlobals "_law_rn_is_letter" = some (some (.ref f58))) (l58 : K.lookup f58 = some ⟨oc58, od58, .func (PySem.W.fnOf "_law_rn_is_letter" "_law_rn_is_letter" (defArgs sIsLetter) (defBody sIsLetter) (defScope sIsLetter) .none kV58 dc58 pm58 an58 cd58 ct58), sl58⟩) (c58 : PySem.W.codeIn K cd58 "_law_rn_is_letter" = true) (k58 : PySem.W.keepIn K (.ref f58) = true)
    (a59 : PySem.W.nsIn K mainGlobals "_law_rn_exchange" = some (some (.ref f59))) (l59 : K.lookup f59 = some ⟨oc59, od59, .func (PySem.W.fnOf "_law_rn_exchange" "_law_rn_exchange" (defArgs sExch) (defBody sExch) (defScope sExch) .none kV59 dc59 pm59 an59 cd59 ct59), sl59⟩) (c59 : PySem.W.codeIn K cd59 "_law_rn_exchange" = true) (k59 : PySem.W.keepIn K (.ref f59) = true)
    (a60 : PySem.W.nsIn K mainGlobals "_law_cu_spans" = some (some (.ref f60))) (l60 : K.lookup f60 = some ⟨oc60, od60, .func (PySem.W.fnOf "_law_cu_spans" "_law_cu_spans" (defArgs sSpans) (defBody sSpans) (defScope sSpans) .none kV60 dc60 pm60 an60 cd60 ct60), sl60⟩) (c60 : PySem.W.codeIn K cd60 "_law_cu_spans" = true) (k60 : PySem.W.keepIn K (.ref f60) = true)
    (a61 : PySem.W.nsIn K mainGlobals "_law_base" = some (some (.ref f61))) (l61 : K.lookup f61 = some ⟨oc61, od61, .func (PySem.W.fnOf "_law_base" "_law_base" (defArgs sBase) (defBody sBase) (defScope sBase) .none kV61 dc61 pm61 an61 cd61 ct61), sl61⟩) (c61 : PySem.W.codeIn K cd61 "_law_base" = true) (k61 : PySem.W.keepIn K (.ref f61) = true)
    (a62 : PySem.W.nsIn K mainGlobals "_law_turned_all" = some (some (.ref f62))) (l62 : K.lookup f62 = some ⟨oc62, od62, .func (PySem.W.fnOf "_law_turned_all" "_law_turned_all" (defArgs sTurnedAll) (defBody sTurnedAll) (defScope sTurnedAll) .none kV62 dc62 pm62 an62 cd62 ct62), sl62⟩) (c62 : PySem.W.codeIn K cd62 "_law_turned_all" = true) (k62 : PySem.W.keepIn K (.ref f62) = true)
    (a63 : PySem.W.nsIn K mainGlobals "_law_keeps" = some (some (.ref f63))) (l63 : K.lookup f63 = some ⟨oc63, od63, .func (PySem.W.fnOf "_law_keeps" "_law_keeps" (defArgs sKeeps) (defBody sKeeps) (defScope sKeeps) .none kV63 dc63 pm63 an63 cd63 ct63), sl63⟩) (c63 : PySem.W.codeIn K cd63 "_law_keeps" = true) (k63 : PySem.W.keepIn K (.ref f63) = true)
    (a64 : PySem.W.nsIn K mainGlobals "law" = some (some (.ref f64))) (l64 : K.lookup f64 = some ⟨oc64, od64, .func (PySem.W.fnOf "law" "law" (defArgs sLaw) (defBody sLaw) (defScope sLaw) .none kV64 dc64 pm64 an64 cd64 ct64), sl64⟩) (c64 : PySem.W.codeIn K cd64 "law" = true) (k64 : PySem.W.keepIn K (.ref f64) = true)
    (z_isinstance : PySem.W.nsIn K mainGlobals "isinstance" = some none)
    (z_int : PySem.W.nsIn K mainGlobals "int" = some none)
    (z_bool : PySem.W.nsIn K mainGlobals "bool" = some none)
    (z_tuple : PySem.W.nsIn K mainGlobals "tuple" = some none)
    (z_len : PySem.W.nsIn K mainGlobals "len" = some none)
    (z_all : PySem.W.nsIn K mainGlobals "all" = some none)
    (z_range : PySem.W.nsIn K mainGlobals "range" = some none)
    (z_min : PySem.W.nsIn K mainGlobals "min" = some none)
    (z_abs : PySem.W.nsIn K mainGlobals "abs" = some none)
    (z_sorted : PySem.W.nsIn K mainGlobals "sorted" = some none)
    (z_list : PySem.W.nsIn K mainGlobals "list" = some none)
    (z_sum : PySem.W.nsIn K mainGlobals "sum" = some none)
    (z_reversed : PySem.W.nsIn K mainGlobals "reversed" = some none)
    (z_enumerate : PySem.W.nsIn K mainGlobals "enumerate" = some none)
    (z_set : PySem.W.nsIn K mainGlobals "set" = some none)
    (v_MOST_DEEDS : PySem.W.nsIn K mainGlobals "MOST_DEEDS" = some (some (.int 4 t_MOST_DEEDS)))
    (v_MOST_IN_ROW : PySem.W.nsIn K mainGlobals "MOST_IN_ROW" = some (some (.int 200 t_MOST_IN_ROW)))
    (v_MOST_IMAGES : PySem.W.nsIn K mainGlobals "MOST_IMAGES" = some (some (.int 2000 t_MOST_IMAGES))) :
    ∃ fd : FuncData, (∀ (s : Shared) (v : Value), BindsTo s fd ⟨[v], []⟩ [("_law_script", v)]) ∧ ∀ base : Heap, K.In base → base.Ns mainGlobals mg → FnOk l.prog w K mg base CX0 9 fa fd ["_law_script"] (spLaw K) := by
  have e := hfa.symm.trans (PySem.W.mg_of X G a64)
  cases e
  have S : Defs K mg := ⟨
    def_mk (st := sWhole) X G (fun _ _ _ _ _ _ us hl => match us, hl with | [_], _ => rfl) a7 l7 c7 k7,
    def_mk (st := sBetween) X G (fun _ _ _ _ _ _ us hl => match us, hl with | [_, _, _], _ => rfl) a8 l8 c8 k8,
    def_mk (st := sNeedDeeds) X G (fun _ _ _ _ _ _ us hl => match us, hl with | [_], _ => rfl) a12 l12 c12 k12,
    def_mk (st := sFitsLetter) X G (fun _ _ _ _ _ _ us hl => match us, hl with | [_, _], _ => rfl) a13 l13 c13 k13,
    def_mk (st := sFitsRow) X G (fun _ _ _ _ _ _ us hl => match us, hl with | [_, _], _ => rfl) a14 l14 c14 k14,
    def_mk (st := sPlain) X G (fun _ _ _ _ _ _ us hl => match us, hl with | [_], _ => rfl) a15 l15 c15 k15,
    def_mk (st := sUndone) X G (fun _ _ _ _ _ _ us hl => match us, hl with | [_], _ => rfl) a16 l16 c16 k16,
    def_mk (st := sNeedRow) X G (fun _ _ _ _ _ _ us hl => match us, hl with | [_, _], _ => rfl) a17 l17 c17 k17,
    def_mk (st := sPlainRow) X G (fun _ _ _ _ _ _ us hl => match us, hl with | [_, _], _ => rfl) a20 l20 c20 k20,
    def_mk (st := sRenamedBy) X G (fun _ _ _ _ _ _ us hl => match us, hl with | [_, _], _ => rfl) a21 l21 c21 k21,
    def_mk (st := sGone) X G (fun _ _ _ _ _ _ us hl => match us, hl with | [_, _], _ => rfl) a22 l22 c22 k22,
    def_mk (st := sHalves) X G (fun _ _ _ _ _ _ us hl => match us, hl with | [_], _ => rfl) a23 l23 c23 k23,
    def_mk (st := sNearer) X G (fun _ _ _ _ _ _ us hl => match us, hl with | [_, _, _, _], _ => rfl) a24 l24 c24 k24,
    def_mk (st := sNear) X G (fun _ _ _ _ _ _ us hl => match us, hl with | [_], _ => rfl) a25 l25 c25 k25,
    def_mk (st := sDown) X G (fun _ _ _ _ _ _ us hl => match us, hl with | [_], _ => rfl) a26 l26 c26 k26,
    def_mk (st := sIsRen) X G (fun _ _ _ _ _ _ us hl => match us, hl with | [_, _], _ => rfl) a27 l27 c27 k27,
    def_mk (st := sNeedRen) X G (fun _ _ _ _ _ _ us hl => match us, hl with | [_, _], _ => rfl) a28 l28 c28 k28,
    def_mk (st := sNeedFew) X G (fun _ _ _ _ _ _ us hl => match us, hl with | [_], _ => rfl) a29 l29 c29 k29,
    def_mk (st := sTHead) X G (fun _ _ _ _ _ _ us hl => match us, hl with | [_, _], _ => rfl) a30 l30 c30 k30,
    def_mk (st := sRenamed) X G (fun _ _ _ _ _ _ us hl => match us, hl with | [_, _, _], _ => rfl) a31 l31 c31 k31,
    def_mk (st := sBehind) X G (fun _ _ _ _ _ _ us hl => match us, hl with | [_, _, _], _ => rfl) a32 l32 c32 k32,
    def_mk (st := sTurned) X G (fun _ _ _ _ _ _ us hl => match us, hl with | [_, _], _ => rfl) a33 l33 c33 k33,
    def_mk (st := sTail) X G (fun _ _ _ _ _ _ us hl => match us, hl with | [_], _ => rfl) a35 l35 c35 k35,
    def_mk (st := sLeast) X G (fun _ _ _ _ _ _ us hl => match us, hl with | [_], _ => rfl) a36 l36 c36 k36,
    def_mk (st := sMiddle) X G (fun _ _ _ _ _ _ us hl => match us, hl with | [_], _ => rfl) a37 l37 c37 k37,
    def_mk (st := sRingIn) X G (fun _ _ _ _ _ _ us hl => match us, hl with | [_], _ => rfl) a38 l38 c38 k38,
    def_mk (st := sRingOf) X G (fun _ _ _ _ _ _ us hl => match us, hl with | [_, _], _ => rfl) a39 l39 c39 k39,
    def_mk (st := sBegun) X G (fun _ _ _ _ _ _ us hl => match us, hl with | [_], _ => rfl) a41 l41 c41 k41,
    def_mk (st := sBlend) X G (fun _ _ _ _ _ _ us hl => match us, hl with | [_], _ => rfl) a42 l42 c42 k42,
    def_mk (st := sDraw) X G (fun _ _ _ _ _ _ us hl => match us, hl with | [_, _], _ => rfl) a43 l43 c43 k43,
    def_mk (st := sPick) X G (fun _ _ _ _ _ _ us hl => match us, hl with | [_, _], _ => rfl) a44 l44 c44 k44,
    def_mk (st := sShuf) X G (fun _ _ _ _ _ _ us hl => match us, hl with | [_, _], _ => rfl) a45 l45 c45 k45,
    def_mk (st := sMkPlain) X G (fun _ _ _ _ _ _ us hl => match us, hl with | [_], _ => rfl) a46 l46 c46 k46,
    def_mk (st := sMkUndone) X G (fun _ _ _ _ _ _ us hl => match us, hl with | [_], _ => rfl) a47 l47 c47 k47,
    def_mk (st := sMkLetters) X G (fun _ _ _ _ _ _ us hl => match us, hl with | [_], _ => rfl) a48 l48 c48 k48,
    def_mk (st := sMkRow) X G (fun _ _ _ _ _ _ us hl => match us, hl with | [_, _, _, _], _ => rfl) a49 l49 c49 k49,
    def_mk (st := sMkRaw) X G (fun _ _ _ _ _ _ us hl => match us, hl with | [_, _, _], _ => rfl) a50 l50 c50 k50,
    def_mk (st := sMkRing) X G (fun _ _ _ _ _ _ us hl => match us, hl with | [_], _ => rfl) a51 l51 c51 k51,
    def_mk (st := sMkRen) X G (fun _ _ _ _ _ _ us hl => match us, hl with | [_, _], _ => rfl) a52 l52 c52 k52,
    def_mk (st := sMkRng) X G (fun _ _ _ _ _ _ us hl => match us, hl with | [_, _, _], _ => rfl) a53 l53 c53 k53,
    def_mk (st := sShImages) X G (fun _ _ _ _ _ _ us hl => match us, hl with | [_, _], _ => rfl) a54 l54 c54 k54,
    def_mk (st := sIdent) X G (fun _ _ _ _ _ _ us hl => match us, hl with | [_], _ => rfl) a55 l55 c55 k55,
    def_mk (st := sAfter) X G (fun _ _ _ _ _ _ us hl => match us, hl with | [_, _], _ => rfl) a56 l56 c56 k56,
    def_mk (st := sRnTurned) X G (fun _ _ _ _ _ _ us hl => match us, hl with | [_, _], _ => rfl) a57 l57 c57 k57,
    def_mk (st := sIsLetter) X G (fun _ _ _ _ _ _ us hl => match us, hl with | [_, _], _ => rfl) a58 l58 c58 k58,
    def_mk (st := sExch) X G (fun _ _ _ _ _ _ us hl => match us, hl with | [_, _], _ => rfl) a59 l59 c59 k59,
    def_mk (st := sSpans) X G (fun _ _ _ _ _ _ us hl => match us, hl with | [_], _ => rfl) a60 l60 c60 k60,
    def_mk (st := sBase) X G (fun _ _ _ _ _ _ us hl => match us, hl with | [_, _], _ => rfl) a61 l61 c61 k61,
    def_mk (st := sTurnedAll) X G (fun _ _ _ _ _ _ us hl => match us, hl with | [_, _], _ => rfl) a62 l62 c62 k62,
    def_mk (st := sKeeps) X G (fun _ _ _ _ _ _ us hl => match us, hl with | [_, _], _ => rfl) a63 l63 c63 k63,
    PySem.W.mg_none_of X G z_isinstance,
    PySem.W.mg_none_of X G z_int,
    PySem.W.mg_none_of X G z_bool,
    PySem.W.mg_none_of X G z_tuple,
    PySem.W.mg_none_of X G z_len,
    PySem.W.mg_none_of X G z_all,
    PySem.W.mg_none_of X G z_range,
    PySem.W.mg_none_of X G z_min,
    PySem.W.mg_none_of X G z_abs,
    PySem.W.mg_none_of X G z_sorted,
    PySem.W.mg_none_of X G z_list,
    PySem.W.mg_none_of X G z_sum,
    PySem.W.mg_none_of X G z_reversed,
    PySem.W.mg_none_of X G z_enumerate,
    PySem.W.mg_none_of X G z_set,
    ⟨_, PySem.W.mg_of X G v_MOST_DEEDS⟩,
    ⟨_, PySem.W.mg_of X G v_MOST_IN_ROW⟩,
    ⟨_, PySem.W.mg_of X G v_MOST_IMAGES⟩⟩
  exact ⟨_, fun s v => .of_eq rfl, fun base _ _ => law_ok S (fun_mk (st := sLaw) l64 c64 k64)⟩
theorem walk {l : PySem.W.OpenLaw} {q : Program} {loose : List Str} {XP : (Str → Option Value) → Heap → Prop} {YP : World → Heap → Prop} {d : DefRec} {K : Params → PySem.W.Frag} (hn : l.most = some 63) (hdf : d.params.defaults = [])
    (hY : ∀ (w : World) (h : Heap), YP w h → (K w.params).In h)
    (F : ∀ (w : World) (mg : Str → Option Value) (fa : Addr) (h : Heap), (K w.params).In h → h.Ns mainGlobals mg → mg d.name = some (.ref fa) →
      ∃ fd : FuncData, (∀ (s : Shared) (u : Value), BindsTo s fd ⟨[u], []⟩ [("_law_script", u)]) ∧ ∀ base : Heap, (K w.params).In base → base.Ns mainGlobals mg → FnOk l.prog w (K w.params) mg base CX0 9 fa fd ["_law_script"] (spLaw (K w.params))) :
    PySem.W.WalkO q loose XP YP l.row.toRowW d [] (fun f vs => PySem.call f vs) :=
  L2.walk_of (n := 63) (k := 9) (x := "_law_script") (CX := fun _ => CX0) (sp := fun w => spLaw (K w.params)) hn (by decide) hdf ⟨rfl, by decide, by decide⟩ hY F (fun _ _ a ns hl _ hS => ⟨a, ns, rfl, hS, hl, fun _ => rfl⟩) fun _ _ _ _ _ z => z
end K71W

/-! ## Wk30 -/
set_option Elab.async false
set_option linter.all false
set_option maxRecDepth 100000
open PySem PySem.W PyProof.Rows
set_option maxRecDepth 100000 in
set_option maxHeartbeats 0 in
theorem PySem.Challenge.cw_meankept_k71_whole_turnings_holds : PySem.Challenge.rw_meankept_k71_whole_turnings.Holds := by
  w_on; o_law; k_head; (case hw => w_witness2)
  k_fill
  refine K71W.walk (l := PySem.Challenge.rw_meankept_k71_whole_turnings) rfl rfl (fun w h Y => PySem.W.kIn_of Y) ?F
  case F =>
    intro w mg fa h KX G hmg
    refine' K71W.all_mk KX G hmg ?a7 ?l7 ?c7 ?k7 ?a8 ?l8 ?c8 ?k8 ?a12 ?l12 ?c12 ?k12 ?a13 ?l13 ?c13 ?k13 ?a14 ?l14 ?c14 ?k14 ?a15 ?l15 ?c15 ?k15 ?a16 ?l16 ?c16 ?k16 ?a17 ?l17 ?c17 ?k17 ?a20 ?l20 ?c20 ?k20 ?a21 ?l21 ?c21 ?k21 ?a22 ?l22 ?c22 ?k22 ?a23 ?l23 ?c23 ?k23 ?a24 ?l24 ?c24 ?k24 ?a25 ?l25 ?c25 ?k25 ?a26 ?l26 ?c26 ?k26 ?a27 ?l27 ?c27 ?k27 ?a28 ?l28 ?c28 ?k28 ?a29 ?l29 ?c29 ?k29 ?a30 ?l30 ?c30 ?k30 ?a31 ?l31 ?c31 ?k31 ?a32 ?l32 ?c32 ?k32 ?a33 ?l33 ?c33 ?k33 ?a35 ?l35 ?c35 ?k35 ?a36 ?l36 ?c36 ?k36 ?a37 ?l37 ?c37 ?k37 ?a38 ?l38 ?c38 ?k38 ?a39 ?l39 ?c39 ?k39 ?a41 ?l41 ?c41 ?k41 ?a42 ?l42 ?c42 ?k42 ?a43 ?l43 ?c43 ?k43 ?a44 ?l44 ?c44 ?k44 ?a45 ?l45 ?c45 ?k45 ?a46 ?l46 ?c46 ?k46 ?a47 ?l47 ?c47 ?k47 ?a48 ?l48 ?c48 ?k48 ?a49 ?l49 ?c49 ?k49 ?a50 ?l50 ?c50 ?k50 ?a51 ?l51 ?c51 ?k51 ?a52 ?l52 ?c52 ?k52 ?a53 ?l53 ?c53 ?k53 ?a54 ?l54 ?c54 ?k54 ?a55 ?l55 ?c55 ?k55 ?a56 ?l56 ?c56 ?k56 ?a57 ?l57 ?c57 ?k57 ?a58 ?l58 ?c58 ?k58 ?a59 ?l59 ?c59 ?k59 ?a60 ?l60 ?c60 ?k60 ?a61 ?l61 ?c61 ?k61 ?a62 ?l62 ?c62 ?k62 ?a63 ?l63 ?c63 ?k63 ?a64 ?l64 ?c64 ?k64 ?z_isinstance ?z_int ?z_bool ?z_tuple ?z_len ?z_all ?z_range ?z_min ?z_abs ?z_sorted ?z_list ?z_sum ?z_reversed ?z_enumerate ?z_set ?v_MOST_DEEDS ?v_MOST_IN_ROW ?v_MOST_IMAGES
    (case a7 => k_is)
    (case l7 => k_is)
    (case c7 => k_is)
    (case k7 => k_is)
    (case a8 => k_is)
    (case l8 => k_is)
    (case c8 => k_is)
    (case k8 => k_is)
    (case a12 => k_is)
    (case l12 => k_is)
    (case c12 => k_is)
    (case k12 => k_is)
    (case a13 => k_is)
    (case l13 => k_is)
    (case c13 => k_is)
    (case k13 => k_is)
    (case a14 => k_is)
    (case l14 => k_is)
    (case c14 => k_is)
    (case k14 => k_is)
    (case a15 => k_is)
    (case l15 => k_is)
    (case c15 => k_is)
    (case k15 => k_is)
    (case a16 => k_is)
    (case l16 => k_is)
    (case c16 => k_is)
    (case k16 => k_is)
    (case a17 => k_is)
    (case l17 => k_is)
    (case c17 => k_is)
    (case k17 => k_is)
    (case a20 => k_is)
    (case l20 => k_is)
    (case c20 => k_is)
    (case k20 => k_is)
    (case a21 => k_is)
    (case l21 => k_is)
    (case c21 => k_is)
    (case k21 => k_is)
    (case a22 => k_is)
    (case l22 => k_is)
    (case c22 => k_is)
    (case k22 => k_is)
    (case a23 => k_is)
    (case l23 => k_is)
    (case c23 => k_is)
    (case k23 => k_is)
    (case a24 => k_is)
    (case l24 => k_is)
    (case c24 => k_is)
    (case k24 => k_is)
    (case a25 => k_is)
    (case l25 => k_is)
    (case c25 => k_is)
    (case k25 => k_is)
    (case a26 => k_is)
    (case l26 => k_is)
    (case c26 => k_is)
    (case k26 => k_is)
    (case a27 => k_is)
    (case l27 => k_is)
    (case c27 => k_is)
    (case k27 => k_is)
    (case a28 => k_is)
    (case l28 => k_is)
    (case c28 => k_is)
    (case k28 => k_is)
    (case a29 => k_is)
    (case l29 => k_is)
    (case c29 => k_is)
    (case k29 => k_is)
    (case a30 => k_is)
    (case l30 => k_is)
    (case c30 => k_is)
    (case k30 => k_is)
    (case a31 => k_is)
    (case l31 => k_is)
    (case c31 => k_is)
    (case k31 => k_is)
    (case a32 => k_is)
    (case l32 => k_is)
    (case c32 => k_is)
    (case k32 => k_is)
    (case a33 => k_is)
    (case l33 => k_is)
    (case c33 => k_is)
    (case k33 => k_is)
    (case a35 => k_is)
    (case l35 => k_is)
    (case c35 => k_is)
    (case k35 => k_is)
    (case a36 => k_is)
    (case l36 => k_is)
    (case c36 => k_is)
    (case k36 => k_is)
    (case a37 => k_is)
    (case l37 => k_is)
    (case c37 => k_is)
    (case k37 => k_is)
    (case a38 => k_is)
    (case l38 => k_is)
    (case c38 => k_is)
    (case k38 => k_is)
    (case a39 => k_is)
    (case l39 => k_is)
    (case c39 => k_is)
    (case k39 => k_is)
    (case a41 => k_is)
    (case l41 => k_is)
    (case c41 => k_is)
    (case k41 => k_is)
    (case a42 => k_is)
    (case l42 => k_is)
    (case c42 => k_is)
    (case k42 => k_is)
    (case a43 => k_is)
    (case l43 => k_is)
    (case c43 => k_is)
    (case k43 => k_is)
    (case a44 => k_is)
    (case l44 => k_is)
    (case c44 => k_is)
    (case k44 => k_is)
    (case a45 => k_is)
    (case l45 => k_is)
    (case c45 => k_is)
    (case k45 => k_is)
    (case a46 => k_is)
    (case l46 => k_is)
    (case c46 => k_is)
    (case k46 => k_is)
    (case a47 => k_is)
    (case l47 => k_is)
    (case c47 => k_is)
    (case k47 => k_is)
    (case a48 => k_is)
    (case l48 => k_is)
    (case c48 => k_is)
    (case k48 => k_is)
    (case a49 => k_is)
    (case l49 => k_is)
    (case c49 => k_is)
    (case k49 => k_is)
    (case a50 => k_is)
    (case l50 => k_is)
    (case c50 => k_is)
    (case k50 => k_is)
    (case a51 => k_is)
    (case l51 => k_is)
    (case c51 => k_is)
    (case k51 => k_is)
    (case a52 => k_is)
    (case l52 => k_is)
    (case c52 => k_is)
    (case k52 => k_is)
    (case a53 => k_is)
    (case l53 => k_is)
    (case c53 => k_is)
    (case k53 => k_is)
    (case a54 => k_is)
    (case l54 => k_is)
    (case c54 => k_is)
    (case k54 => k_is)
    (case a55 => k_is)
    (case l55 => k_is)
    (case c55 => k_is)
    (case k55 => k_is)
    (case a56 => k_is)
    (case l56 => k_is)
    (case c56 => k_is)
    (case k56 => k_is)
    (case a57 => k_is)
    (case l57 => k_is)
    (case c57 => k_is)
    (case k57 => k_is)
    (case a58 => k_is)
    (case l58 => k_is)
    (case c58 => k_is)
    (case k58 => k_is)
    (case a59 => k_is)
    (case l59 => k_is)
    (case c59 => k_is)
    (case k59 => k_is)
    (case a60 => k_is)
    (case l60 => k_is)
    (case c60 => k_is)
    (case k60 => k_is)
    (case a61 => k_is)
    (case l61 => k_is)
    (case c61 => k_is)
    (case k61 => k_is)
    (case a62 => k_is)
    (case l62 => k_is)
    (case c62 => k_is)
    (case k62 => k_is)
    (case a63 => k_is)
    (case l63 => k_is)
    (case c63 => k_is)
    (case k63 => k_is)
    (case a64 => k_is)
    (case l64 => k_is)
    (case c64 => k_is)
    (case k64 => k_is)
    (case z_isinstance => k_is)
    (case z_int => k_is)
    (case z_bool => k_is)
    (case z_tuple => k_is)
    (case z_len => k_is)
    (case z_all => k_is)
    (case z_range => k_is)
    (case z_min => k_is)
    (case z_abs => k_is)
    (case z_sorted => k_is)
    (case z_list => k_is)
    (case z_sum => k_is)
    (case z_reversed => k_is)
    (case z_enumerate => k_is)
    (case z_set => k_is)
    (case v_MOST_DEEDS => k_is)
    (case v_MOST_IN_ROW => k_is)
    (case v_MOST_IMAGES => k_is)
