import PyProof.Rows.All
import Wide.All
import OpenK.AllK
import Wide.FinOn
import KE.KStateDown
import KE.KDictDisplayH
import HandS.ForMost
import HandS.More
import HandS.Exc
import HandS.Sort
import HandS.Codes
import HandS.Deep
import HandS.IsInst
import HandS.Defaults
import HandS.Head0
import HandS.Head1
import HandS.Head2
import HandS.Base
import HandS.Call
import HandS.Ends
import HandS.HeadEnd
import HandS.HeadHook1
import HandS.HeadHook2
import HandS.HeadHook3
import HandS.HeadHook4
import PySem.Challenge.RW_probewell_k97_whole_least_lists
set_option Elab.async false
set_option linter.all false
set_option maxRecDepth 100000
set_option maxHeartbeats 4000000
/-! Machines told apart: the mathematics, in plain Lean. -/
namespace Pw
abbrev Row := List (Int × Nat)
abbrev Mach := List Row
/-- the answer, the next state of the state s asked a -/
def ans (M : Mach) (s a : Nat) : Int := ((M.getD s []).getD a (0, 0)).1
def nxt (M : Mach) (s a : Nat) : Nat := ((M.getD s []).getD a (0, 0)).2
/-- a machine of n states, k asks -/
structure Ok (k n : Nat) (M : Mach) : Prop where
  len : M.length = n
  pos : 0 < n
  kpos : 0 < k
  rows : ∀ row ∈ M, row.length = k
  next : ∀ row ∈ M, ∀ c ∈ row, c.2 < n
theorem Ok.at {k n : Nat} {M : Mach} (o : Ok k n M) {s : Nat} (h : s < n) : ∃ row, M[s]? = some row ∧ row.length = k ∧ row ∈ M := by
  have h' : s < M.length := by rw [o.len]; exact h
  exact ⟨M[s], List.getElem?_eq_getElem h', o.rows _ (List.getElem_mem h'), List.getElem_mem h'⟩
theorem cell_of {M : Mach} {s a : Nat} {row : Row} {c : Int × Nat} (h : M[s]? = some row) (h2 : row[a]? = some c) : ans M s a = c.1 ∧ nxt M s a = c.2 := by
  unfold ans nxt
  have e : M.getD s [] = row := by rw [List.getD_eq_getElem?_getD, h]; rfl
  have e2 : row.getD a (0, 0) = c := by rw [List.getD_eq_getElem?_getD, h2]; rfl
  rw [e, e2]
  exact ⟨rfl, rfl⟩
theorem Ok.cell {k n : Nat} {M : Mach} (o : Ok k n M) {s a : Nat} (h : s < n) (ha : a < k) : ∃ row, M[s]? = some row ∧ row.length = k ∧ row[a]? = some (ans M s a, nxt M s a) ∧ nxt M s a < n := by
  obtain ⟨row, h1, h2, h3⟩ := o.at h
  have h' : a < row.length := by rw [h2]; exact ha
  have e := List.getElem?_eq_getElem h'
  obtain ⟨e1, e2⟩ := cell_of h1 e
  refine ⟨row, h1, h2, ?_, ?_⟩
  · rw [e1, e2, e]
  · rw [e2]; exact o.next row h3 _ (List.getElem_mem h')
theorem Ok.nxt_lt {k n : Nat} {M : Mach} (o : Ok k n M) {s a : Nat} (h : s < n) (ha : a < k) : nxt M s a < n := let ⟨_, _, _, _, z⟩ := o.cell h ha; z
/-! ### alike -/
/-- a bisimulation -/
def Bis (k : Nat) (M N : Mach) (R : Nat → Nat → Prop) : Prop := ∀ s t, R s t → ∀ a, a < k → ans M s a = ans N t a ∧ R (nxt M s a) (nxt N t a)
def Alike (k : Nat) (M N : Mach) (s t : Nat) : Prop := ∃ R, Bis k M N R ∧ R s t
section
variable {k : Nat} {M N L : Mach} {s t u a : Nat}
theorem Alike.step (h : Alike k M N s t) (ha : a < k) : ans M s a = ans N t a ∧ Alike k M N (nxt M s a) (nxt N t a) := by
  obtain ⟨R, b, r⟩ := h
  exact ⟨(b s t r a ha).1, R, b, (b s t r a ha).2⟩
theorem Alike.refl : Alike k M M s s := ⟨fun x y => x = y, fun x y e a _ => by subst e; exact ⟨rfl, rfl⟩, rfl⟩
theorem Alike.symm (h : Alike k M N s t) : Alike k N M t s := by
  obtain ⟨R, b, r⟩ := h
  exact ⟨fun x y => R y x, fun x y e a ha => ⟨(b y x e a ha).1.symm, (b y x e a ha).2⟩, r⟩
theorem Alike.trans (h : Alike k M N s t) (g : Alike k N L t u) : Alike k M L s u := by
  obtain ⟨R, b, r⟩ := h
  obtain ⟨S, c, q⟩ := g
  refine ⟨fun x z => ∃ y, R x y ∧ S y z, fun x z ⟨y, e, f⟩ a ha => ?_, t, r, q⟩
  exact ⟨(b x y e a ha).1.trans (c y z f a ha).1, _, (b x y e a ha).2, (c y z f a ha).2⟩
theorem Alike.not_ans (h : ¬ ans M s a = ans N t a) (ha : a < k) : ¬ Alike k M N s t := fun z => h (z.step ha).1
theorem Alike.not_nxt (h : ¬ Alike k M N (nxt M s a) (nxt N t a)) (ha : a < k) : ¬ Alike k M N s t := fun z => h (z.step ha).2
end
theorem nodup_one {α : Type} (x : α) : [x].Nodup := List.nodup_cons.mpr ⟨List.not_mem_nil, List.nodup_nil⟩
theorem sum_const (m : Nat) : ∀ l : List Nat, (l.map fun _ => m).sum = l.length * m
  | [] => by simp
  | x :: l => by
    rw [List.map_cons, List.sum_cons, sum_const m l, List.length_cons, Nat.add_mul]
    omega
/-- all pairs below n, m -/
def grid (n m : Nat) : List (Nat × Nat) := (List.range n).flatMap fun i => (List.range m).map fun j => (i, j)
theorem grid_len (n m : Nat) : (grid n m).length = n * m := by
  unfold grid
  rw [List.length_flatMap]
  have e : (List.range n).map (fun i => ((List.range m).map fun j => (i, j)).length) = (List.range n).map fun _ => m := by
    refine List.map_congr_left fun i _ => ?_
    rw [List.length_map, List.length_range]
  rw [e, sum_const, List.length_range]
theorem grid_mem {n m i j : Nat} (hi : i < n) (hj : j < m) : (i, j) ∈ grid n m := List.mem_flatMap.mpr ⟨i, List.mem_range.mpr hi, List.mem_map.mpr ⟨j, List.mem_range.mpr hj, rfl⟩⟩
/-! ### a walk over pairs -/
/-- P the pairs so far, those before at are looked through -/
structure Pairs (k : Nat) (M N : Mach) (s t : Nat) (P : List (Nat × Nat)) (at_ : Nat) : Prop where
  nd : P.Nodup
  start : (s, t) ∈ P
  seen : ∀ i p, i < at_ → P[i]? = some p → ∀ a, a < k → ans M p.1 a = ans N p.2 a ∧ (nxt M p.1 a, nxt N p.2 a) ∈ P
  imp : ∀ p ∈ P, Alike k M N s t → Alike k M N p.1 p.2
section
variable {k : Nat} {M N : Mach} {s t : Nat} {P : List (Nat × Nat)} {at_ : Nat}
theorem Pairs.init : Pairs k M N s t [(s, t)] 0 :=
  ⟨nodup_one _, List.mem_singleton_self _, fun i p h => absurd h (Nat.not_lt_zero _), fun p hp h => by
    have e := List.mem_singleton.mp hp
    subst e; exact h⟩
theorem Pairs.done (h : Pairs k M N s t P at_) (hl : P.length ≤ at_) : Alike k M N s t := by
  refine ⟨fun x y => (x, y) ∈ P, fun x y e a ha => ?_, h.start⟩
  obtain ⟨i, hi, e2⟩ := List.getElem_of_mem e
  exact h.seen i (x, y) (Nat.lt_of_lt_of_le hi hl) (by rw [List.getElem?_eq_getElem hi, e2]) a ha
theorem Pairs.unlike (h : Pairs k M N s t P at_) {p : Nat × Nat} (hp : p ∈ P) {a : Nat} (ha : a < k) (hn : ¬ ans M p.1 a = ans N p.2 a) : ¬ Alike k M N s t := fun z =>
  Alike.not_ans hn ha (h.imp p hp z)
/-- the pair at at_ looked through, up to the ask a -/
structure PairsIn (k : Nat) (M N : Mach) (s t : Nat) (P : List (Nat × Nat)) (at_ : Nat) (p : Nat × Nat) (b : Nat) : Prop where
  all : Pairs k M N s t P at_
  cur : P[at_]? = some p
  upto : ∀ a, a < b → ans M p.1 a = ans N p.2 a ∧ (nxt M p.1 a, nxt N p.2 a) ∈ P
theorem Pairs.enter (h : Pairs k M N s t P at_) {p : Nat × Nat} (hp : P[at_]? = some p) : PairsIn k M N s t P at_ p 0 := ⟨h, hp, fun a h => absurd h (Nat.not_lt_zero _)⟩
theorem PairsIn.leave {p : Nat × Nat} (h : PairsIn k M N s t P at_ p k) : Pairs k M N s t P (at_ + 1) := by
  refine ⟨h.all.nd, h.all.start, fun i q hi hq a ha => ?_, h.all.imp⟩
  by_cases e : i = at_
  · subst e
    have e2 : p = q := Option.some.inj (h.cur.symm.trans hq)
    subst e2
    exact h.upto a ha
  · exact h.all.seen i q (by omega) hq a ha
theorem PairsIn.old {p : Nat × Nat} {b : Nat} (h : PairsIn k M N s t P at_ p b) (e : ans M p.1 b = ans N p.2 b) (hm : (nxt M p.1 b, nxt N p.2 b) ∈ P) : PairsIn k M N s t P at_ p (b + 1) :=
  ⟨h.all, h.cur, fun a ha => by
    by_cases z : a = b
    · subst z; exact ⟨e, hm⟩
    · exact h.upto a (by omega)⟩
theorem PairsIn.new {p : Nat × Nat} {b : Nat} (h : PairsIn k M N s t P at_ p b) (hb : b < k) (e : ans M p.1 b = ans N p.2 b) (hm : ¬ (nxt M p.1 b, nxt N p.2 b) ∈ P) :
    PairsIn k M N s t (P ++ [(nxt M p.1 b, nxt N p.2 b)]) at_ p (b + 1) := by
  have hlt : at_ < P.length := (List.getElem?_eq_some_iff.mp h.cur).1
  have up : ∀ q, q ∈ P → q ∈ P ++ [(nxt M p.1 b, nxt N p.2 b)] := fun q hq => List.mem_append_left _ hq
  have hpP : p ∈ P := List.mem_of_getElem? h.cur
  refine ⟨⟨?_, up _ h.all.start, fun i q hi hq a ha => ?_, fun q hq z => ?_⟩, ?_, fun a ha => ?_⟩
  · rw [List.nodup_append]
    refine ⟨h.all.nd, nodup_one _, fun x hx y hy exy => ?_⟩
    rw [List.mem_singleton] at hy
    subst exy; subst hy
    exact hm hx
  · have hil : i < P.length := by omega
    rw [List.getElem?_append_left hil] at hq
    obtain ⟨e1, e2⟩ := h.all.seen i q hi hq a ha
    exact ⟨e1, up _ e2⟩
  · rcases List.mem_append.mp hq with hq | hq
    · exact h.all.imp q hq z
    · rw [List.mem_singleton] at hq
      subst hq
      exact ((h.all.imp p hpP z).step hb).2
  · rw [List.getElem?_append_left hlt]; exact h.cur
  · by_cases z : a = b
    · subst z; exact ⟨e, List.mem_append_right _ (List.mem_singleton_self _)⟩
    · obtain ⟨e1, e2⟩ := h.upto a (by omega)
      exact ⟨e1, up _ e2⟩
end
/-- how many pairs there are at most -/
theorem nodup_len {α : Type} [DecidableEq α] : ∀ (A B : List α), A.Nodup → (∀ x ∈ A, x ∈ B) → A.length ≤ B.length
  | [], _, _, _ => Nat.zero_le _
  | x :: A, B, nd, h => by
    have hx : x ∈ B := h x List.mem_cons_self
    obtain ⟨n1, n2⟩ := List.nodup_cons.mp nd
    have := nodup_len A (B.erase x) n2 fun y hy => by
      have ne : y ≠ x := fun e => by subst e; exact n1 hy
      exact (List.mem_erase_of_ne ne).mpr (h y (List.mem_cons_of_mem _ hy))
    have e := List.length_erase_of_mem hx
    have p : 0 < B.length := List.length_pos_of_mem hx
    rw [List.length_cons]
    omega
theorem pairs_len {n m : Nat} {P : List (Nat × Nat)} (nd : P.Nodup) (h : ∀ p ∈ P, p.1 < n ∧ p.2 < m) : P.length ≤ n * m := by
  have := nodup_len P (grid n m) nd fun p hp => grid_mem (h p hp).1 (h p hp).2
  rw [grid_len] at this
  exact this
theorem lt_len {n : Nat} {P : List Nat} (nd : P.Nodup) (h : ∀ p ∈ P, p < n) : P.length ≤ n := by
  have := nodup_len P (List.range n) nd fun p hp => List.mem_range.mpr (h p hp)
  rw [List.length_range] at this
  exact this
/-! ### the table of what is told apart -/
/-- by one ask more -/
def Tell (k : Nat) (M : Mach) (T : Nat → Nat → Bool) (i j : Nat) : Prop := ∃ a, a < k ∧ (ans M i a ≠ ans M j a ∨ T (nxt M i a) (nxt M j a) = true)
structure Tab (k n : Nat) (M : Mach) (T : Nat → Nat → Bool) : Prop where
  sound : ∀ i j, T i j = true → ¬ Alike k M M i j
  irr : ∀ i, T i i = false
  symm : ∀ i j, T i j = T j i
section
variable {k n : Nat} {M : Mach} {T : Nat → Nat → Bool}
theorem Tab.init : Tab k n M fun _ _ => false := ⟨fun _ _ h => (by cases h), fun _ => rfl, fun _ _ => rfl⟩
theorem Tab.tell (h : Tab k n M T) {i j : Nat} (e : Tell k M T i j) : ¬ Alike k M M i j := by
  obtain ⟨a, ha, z | z⟩ := e
  · exact Alike.not_ans z ha
  · exact Alike.not_nxt (h.sound _ _ z) ha
/-- with the pairs F, which one ask more tells apart -/
def addT (T : Nat → Nat → Bool) (F : List (Nat × Nat)) (i j : Nat) : Bool := T i j || decide ((i, j) ∈ F) || decide ((j, i) ∈ F)
theorem Tab.add (h : Tab k n M T) {F : List (Nat × Nat)} (hF : ∀ p ∈ F, p.1 < p.2 ∧ Tell k M T p.1 p.2) : Tab k n M (addT T F) where
  sound := fun i j e => by
    unfold addT at e
    rw [Bool.or_eq_true, Bool.or_eq_true, decide_eq_true_eq, decide_eq_true_eq] at e
    rcases e with (e | e) | e
    · exact h.sound i j e
    · exact h.tell (hF _ e).2
    · exact fun z => h.tell (hF _ e).2 z.symm
  irr := fun i => by
    unfold addT
    have e : ¬ (i, i) ∈ F := fun z => Nat.lt_irrefl i (hF _ z).1
    simp [e, h.irr]
  symm := fun i j => by
    unfold addT
    rw [h.symm i j, Bool.or_assoc, Bool.or_assoc, Bool.or_comm (decide ((i, j) ∈ F))]
theorem Tab.full (h : Tab k n M T) (o : Ok k n M) (c : ∀ i j, i < j → j < n → T i j = false → ¬ Tell k M T i j) {i j : Nat} (hi : i < n) (hj : j < n) (e : T i j = false) : Alike k M M i j := by
  have main : ∀ i j, i < j → j < n → T i j = false → ∀ a, a < k → ans M i a = ans M j a ∧ T (nxt M i a) (nxt M j a) = false := fun i j hij hj e a ha => by
    have z := c i j hij hj e
    refine ⟨Decidable.byContradiction fun q => z ⟨a, ha, .inl q⟩, ?_⟩
    cases q : T (nxt M i a) (nxt M j a) with
    | false => rfl
    | true => exact (z ⟨a, ha, .inr q⟩).elim
  refine ⟨fun x y => x < n ∧ y < n ∧ T x y = false, fun x y ⟨hx, hy, q⟩ a ha => ?_, hi, hj, e⟩
  have bx := o.nxt_lt hx ha
  have b_y := o.nxt_lt hy ha
  rcases Nat.lt_trichotomy x y with g | g | g
  · obtain ⟨e1, e2⟩ := main x y g hy q a ha
    exact ⟨e1, bx, b_y, e2⟩
  · subst g
    exact ⟨rfl, bx, bx, h.irr _⟩
  · obtain ⟨e1, e2⟩ := main y x g hx (by rw [h.symm]; exact q) a ha
    exact ⟨e1.symm, bx, b_y, by rw [h.symm]; exact e2⟩
end
/-- how many pairs are not told apart yet -/
def left (n : Nat) (T : Nat → Nat → Bool) : Nat := (grid n n).countP fun p => !T p.1 p.2
theorem countP_lt {α : Type} {p q : α → Bool} : ∀ {l : List α}, (∀ x ∈ l, q x = true → p x = true) → (∃ x ∈ l, p x = true ∧ q x = false) → l.countP q < l.countP p
  | [], _, ⟨_, h, _⟩ => by cases h
  | x :: l, h, ⟨y, hy, h1, h2⟩ => by
    have le : l.countP q ≤ l.countP p := List.countP_mono_left fun z hz => h z (List.mem_cons_of_mem _ hz)
    rcases List.mem_cons.mp hy with e | hy
    · subst e
      rw [List.countP_cons_of_pos h1, List.countP_cons_of_neg (by rw [h2]; exact Bool.false_ne_true)]
      omega
    · have := countP_lt (l := l) (fun z hz => h z (List.mem_cons_of_mem _ hz)) ⟨y, hy, h1, h2⟩
      rw [List.countP_cons, List.countP_cons]
      have hx := h x List.mem_cons_self
      cases ex : q x with
      | false =>
        simp
        omega
      | true =>
        rw [hx ex]
        simp
        omega
theorem left_le (n : Nat) (T : Nat → Nat → Bool) : left n T ≤ n * n := by
  have h := List.countP_le_length (p := fun p : Nat × Nat => !T p.1 p.2) (l := grid n n)
  rw [grid_len] at h
  exact h
theorem left_add {n : Nat} {T : Nat → Nat → Bool} {F : List (Nat × Nat)} {p : Nat × Nat} (hp : p ∈ F) (h1 : p.1 < n) (h2 : p.2 < n) (e : T p.1 p.2 = false) : left n (addT T F) < left n T := by
  refine countP_lt (fun x _ h => ?_) ⟨p, grid_mem h1 h2, (by simp [e]), ?_⟩
  · unfold addT at h
    cases q : T x.1 x.2 with
    | false => rfl
    | true =>
      rw [q] at h
      simp at h
  · unfold addT
    simp [hp]
end Pw

namespace Pw
/-! ### the first of each -/
def push (acc : List Nat) (x : Nat) : List Nat := if x ∈ acc then acc else acc ++ [x]
def dd (l : List Nat) : List Nat := l.foldl push []
theorem dd_snoc (l : List Nat) (x : Nat) : dd (l ++ [x]) = push (dd l) x := by unfold dd; rw [List.foldl_append]; rfl
theorem snoc_ind {α : Type} {P : List α → Prop} (h0 : P []) (h1 : ∀ l x, P l → P (l ++ [x])) (l : List α) : P l := by
  have : ∀ r : List α, P r.reverse := fun r => by
    induction r with
    | nil => exact h0
    | cons x r ih => rw [List.reverse_cons]; exact h1 _ _ ih
  have z := this l.reverse
  rw [List.reverse_reverse] at z
  exact z
theorem mem_push {acc : List Nat} {x y : Nat} : y ∈ push acc x ↔ y ∈ acc ∨ y = x := by
  unfold push
  split
  · rename_i h
    exact ⟨.inl, fun z => z.elim id fun e => by rw [e]; exact h⟩
  · rw [List.mem_append, List.mem_singleton]
theorem mem_dd {l : List Nat} {y : Nat} : y ∈ dd l ↔ y ∈ l := by
  induction l using snoc_ind with
  | h0 => exact Iff.rfl
  | h1 l x ih => rw [dd_snoc, mem_push, ih, List.mem_append, List.mem_singleton]
theorem nodup_snoc {α : Type} {l : List α} {x : α} (h : l.Nodup) (hx : ¬ x ∈ l) : (l ++ [x]).Nodup := by
  rw [List.nodup_append]
  refine ⟨h, nodup_one _, fun a ha b hb e => ?_⟩
  rw [List.mem_singleton] at hb
  subst e; subst hb
  exact hx ha
theorem nodup_dd (l : List Nat) : (dd l).Nodup := by
  induction l using snoc_ind with
  | h0 => exact List.nodup_nil
  | h1 l x ih =>
    rw [dd_snoc]
    unfold push
    split
    · exact ih
    · rename_i h
      exact nodup_snoc ih h
/-- where the j-th one comes first -/
theorem dd_first : ∀ (l : List Nat) (j c : Nat), (dd l)[j]? = some c → ∃ p, l[p]? = some c ∧ (dd l).take j = dd (l.take p) := by
  intro l
  induction l using snoc_ind with
  | h0 => intro j c h; cases j <;> cases h
  | h1 l x ih =>
    intro j c h
    rw [dd_snoc] at h ⊢
    unfold push at h ⊢
    split at h
    · rename_i hx
      obtain ⟨p, h1, h2⟩ := ih j c h
      have hp : p < l.length := (List.getElem?_eq_some_iff.mp h1).1
      refine ⟨p, by rw [List.getElem?_append_left hp]; exact h1, ?_⟩
      rw [List.take_append_of_le_length (Nat.le_of_lt hp), if_pos hx]
      exact h2
    · rename_i hx
      rw [if_neg hx]
      by_cases hj : j < (dd l).length
      · rw [List.getElem?_append_left hj] at h
        obtain ⟨p, h1, h2⟩ := ih j c h
        have hp : p < l.length := (List.getElem?_eq_some_iff.mp h1).1
        refine ⟨p, by rw [List.getElem?_append_left hp]; exact h1, ?_⟩
        rw [List.take_append_of_le_length (Nat.le_of_lt hp), List.take_append_of_le_length (Nat.le_of_lt hj)]
        exact h2
      · have hj2 : j < (dd l ++ [x]).length := (List.getElem?_eq_some_iff.mp h).1
        rw [List.length_append, List.length_singleton] at hj2
        have e : j = (dd l).length := by omega
        subst e
        rw [List.getElem?_append_right (Nat.le_refl _), Nat.sub_self] at h
        have e2 : x = c := Option.some.inj h
        subst e2
        refine ⟨l.length, by rw [List.getElem?_append_right (Nat.le_refl _), Nat.sub_self]; rfl, ?_⟩
        rw [List.take_append_of_le_length (Nat.le_refl _), List.take_append_of_le_length (Nat.le_refl _), List.take_length, List.take_length]
/-! ### what is reached -/
inductive Reach (k : Nat) (M : Mach) : Nat → Prop where
  | zero : Reach k M 0
  | step {x a : Nat} (h : Reach k M x) (ha : a < k) : Reach k M (nxt M x a)
theorem Reach.lt {k n : Nat} {M : Mach} (o : Ok k n M) {x : Nat} (h : Reach k M x) : x < n := by
  induction h with
  | zero => exact o.pos
  | step _ ha ih => exact o.nxt_lt ih ha
/-- the order of a search, those before at_ looked through -/
structure Bfs (k n : Nat) (M : Mach) (O : List Nat) (at_ : Nat) : Prop where
  nd : O.Nodup
  lt : ∀ x ∈ O, x < n
  start : O[0]? = some 0
  seen : ∀ i x, i < at_ → O[i]? = some x → ∀ a, a < k → nxt M x a ∈ O
  disc : ∀ p x, 0 < p → O[p]? = some x → ∃ q a y, q < p ∧ a < k ∧ O[q]? = some y ∧ nxt M y a = x ∧ ∀ q' a' y', a' < k → (q' < q ∨ (q' = q ∧ a' < a)) → O[q']? = some y' → nxt M y' a' ∈ O.take p
structure BfsIn (k n : Nat) (M : Mach) (O : List Nat) (at_ x b : Nat) : Prop where
  all : Bfs k n M O at_
  cur : O[at_]? = some x
  upto : ∀ a, a < b → nxt M x a ∈ O
section
variable {k n : Nat} {M : Mach} {O : List Nat} {at_ x b : Nat}
theorem Bfs.init (h : 0 < n) : Bfs k n M [0] 0 :=
  ⟨nodup_one _, fun x hx => by rw [List.mem_singleton] at hx; subst hx; exact h, rfl, fun i x h => absurd h (Nat.not_lt_zero _), fun p x hp e => by
    have := (List.getElem?_eq_some_iff.mp e).1
    rw [List.length_singleton] at this
    omega⟩
theorem Bfs.enter (h : Bfs k n M O at_) (hx : O[at_]? = some x) : BfsIn k n M O at_ x 0 := ⟨h, hx, fun a h => absurd h (Nat.not_lt_zero _)⟩
theorem BfsIn.leave (h : BfsIn k n M O at_ x k) : Bfs k n M O (at_ + 1) :=
  ⟨h.all.nd, h.all.lt, h.all.start, fun i y hi hy a ha => by
    by_cases e : i = at_
    · subst e
      have e2 : x = y := Option.some.inj (h.cur.symm.trans hy)
      subst e2
      exact h.upto a ha
    · exact h.all.seen i y (by omega) hy a ha, h.all.disc⟩
theorem BfsIn.old (h : BfsIn k n M O at_ x b) (hm : nxt M x b ∈ O) : BfsIn k n M O at_ x (b + 1) :=
  ⟨h.all, h.cur, fun a ha => by
    by_cases z : a = b
    · subst z; exact hm
    · exact h.upto a (by omega)⟩
theorem BfsIn.new (h : BfsIn k n M O at_ x b) (hb : b < k) (hn : nxt M x b < n) (hm : ¬ nxt M x b ∈ O) : BfsIn k n M (O ++ [nxt M x b]) at_ x (b + 1) := by
  have hlt : at_ < O.length := (List.getElem?_eq_some_iff.mp h.cur).1
  have up : ∀ q, q ∈ O → q ∈ O ++ [nxt M x b] := fun q hq => List.mem_append_left _ hq
  refine ⟨⟨nodup_snoc h.all.nd hm, fun y hy => ?_, ?_, fun i y hi hy a ha => ?_, fun p y hp hy => ?_⟩, ?_, fun a ha => ?_⟩
  · rcases List.mem_append.mp hy with hy | hy
    · exact h.all.lt y hy
    · rw [List.mem_singleton] at hy; subst hy; exact hn
  · rw [List.getElem?_append_left (by omega)]; exact h.all.start
  · rw [List.getElem?_append_left (by omega)] at hy
    exact up _ (h.all.seen i y hi hy a ha)
  · by_cases hpl : p < O.length
    · rw [List.getElem?_append_left hpl] at hy
      obtain ⟨q, a, z, h1, h2, h3, h4, h5⟩ := h.all.disc p y hp hy
      refine ⟨q, a, z, h1, h2, by rw [List.getElem?_append_left (by omega)]; exact h3, h4, fun q' a' y' ha' hq' hy' => ?_⟩
      rw [List.getElem?_append_left (by omega)] at hy'
      rw [List.take_append_of_le_length (Nat.le_of_lt hpl)]
      exact h5 q' a' y' ha' hq' hy'
    · have hp2 : p < (O ++ [nxt M x b]).length := (List.getElem?_eq_some_iff.mp hy).1
      rw [List.length_append, List.length_singleton] at hp2
      have e : p = O.length := by omega
      subst e
      rw [List.getElem?_append_right (Nat.le_refl _), Nat.sub_self] at hy
      have e2 : nxt M x b = y := Option.some.inj hy
      refine ⟨at_, b, x, hlt, hb, by rw [List.getElem?_append_left hlt]; exact h.cur, e2, fun q' a' y' ha' hq' hy' => ?_⟩
      rw [List.getElem?_append_left (by omega)] at hy'
      rw [List.take_append_of_le_length (Nat.le_refl _), List.take_length]
      rcases hq' with hq' | ⟨e3, hq'⟩
      · exact h.all.seen q' y' hq' hy' a' ha'
      · subst e3
        have e4 : x = y' := Option.some.inj (h.cur.symm.trans hy')
        subst e4
        exact h.upto a' hq'
  · rw [List.getElem?_append_left hlt]; exact h.cur
  · by_cases z : a = b
    · subst z; exact List.mem_append_right _ (List.mem_singleton_self _)
    · exact up _ (h.upto a (by omega))
theorem Bfs.closed (h : Bfs k n M O at_) (hl : O.length ≤ at_) {x a : Nat} (hx : x ∈ O) (ha : a < k) : nxt M x a ∈ O := by
  obtain ⟨i, hi, e⟩ := List.getElem_of_mem hx
  exact h.seen i x (by omega) (by rw [List.getElem?_eq_getElem hi, e]) a ha
theorem Bfs.zero (h : Bfs k n M O at_) : 0 ∈ O := List.mem_of_getElem? h.start
theorem Bfs.all_of (h : Bfs k n M O at_) (hl : O.length ≤ at_) {x : Nat} (r : Reach k M x) : x ∈ O := by
  induction r with
  | zero => exact h.zero
  | step _ ha ih => exact h.closed hl ih ha
theorem Bfs.reach (h : Bfs k n M O at_) : ∀ (p x : Nat), O[p]? = some x → Reach k M x := by
  intro p
  induction p using Nat.strongRecOn with
  | _ p ih =>
    intro x hx
    by_cases hp : p = 0
    · subst hp
      rw [h.start] at hx
      cases hx
      exact .zero
    · obtain ⟨q, a, y, h1, h2, h3, h4, _⟩ := h.disc p x (by omega) hx
      rw [← h4]
      exact .step (ih q h1 y h3) h2
theorem Bfs.reach_mem (h : Bfs k n M O at_) {x : Nat} (hx : x ∈ O) : Reach k M x := by
  obtain ⟨i, hi, e⟩ := List.getElem_of_mem hx
  exact h.reach i x (by rw [List.getElem?_eq_getElem hi, e])
end
/-! ### the leaders -/
def hd (hs : List Nat) (s : Nat) : Nat := hs.getD s 0
structure Heads (k n : Nat) (M : Mach) (hs : List Nat) : Prop where
  len : hs.length = n
  lt : ∀ s, s < n → hd hs s < n
  alike : ∀ s, s < n → Alike k M M s (hd hs s)
  least : ∀ s, s < n → ∀ t, t < hd hs s → ¬ Alike k M M s t
theorem hd_at {hs : List Nat} {s : Nat} (h : s < hs.length) : hs[s]? = some (hd hs s) := by
  unfold hd
  rw [List.getD_eq_getElem?_getD, List.getElem?_eq_getElem h]
  rfl
theorem Heads.iff {k n : Nat} {M : Mach} {hs : List Nat} (h : Heads k n M hs) {s t : Nat} (hs_ : s < n) (ht : t < n) : Alike k M M s t ↔ hd hs s = hd hs t := by
  constructor
  · intro z
    rcases Nat.lt_trichotomy (hd hs s) (hd hs t) with g | g | g
    · exact (h.least t ht _ g (z.symm.trans (h.alike s hs_))).elim
    · exact g
    · exact (h.least s hs_ _ g (z.trans (h.alike t ht))).elim
  · intro e
    refine (h.alike s hs_).trans ?_
    rw [e]
    exact (h.alike t ht).symm
/-! ### the least machine -/
/-- numbered as a search meets them -/
def Canon (k : Nat) (L : Mach) : Prop := ∀ j, 0 < j → j < L.length → ∃ q a, q < j ∧ a < k ∧ nxt L q a = j ∧ ∀ q' a', a' < k → (q' < q ∨ (q' = q ∧ a' < a)) → nxt L q' a' < j
structure Least (k : Nat) (M L : Mach) : Prop where
  ok : Ok k L.length L
  alike : Alike k L M 0 0
  red : ∀ i j, i < L.length → j < L.length → Alike k L L i j → i = j
  canon : Canon k L
  reps : ∃ C : List Nat, C.length = L.length ∧ C.Pairwise (fun x y => ¬ Alike k M M x y) ∧ (∀ c ∈ C, ∃ x, Reach k M x ∧ Alike k M M c x) ∧ ∀ x, Reach k M x → ∃ c ∈ C, Alike k M M x c
  from_ : ∀ row ∈ L, ∀ c ∈ row, ∃ r ∈ M, ∃ d ∈ r, d.1 = c.1
  len_le : L.length ≤ M.length
/-- the order of the classes, from the search's -/
def ordC (O hs : List Nat) : List Nat := dd (O.map (hd hs))
def leastRow (M : Mach) (hs C : List Nat) (h : Nat) : Row := (M.getD h []).map fun c => (c.1, C.idxOf (hd hs c.2))
def leastOf (M : Mach) (hs O : List Nat) : Mach := (ordC O hs).map (leastRow M hs (ordC O hs))
theorem getD_of {α : Type} {l : List α} {i : Nat} {x d : α} (h : l[i]? = some x) : l.getD i d = x := by rw [List.getD_eq_getElem?_getD, h]; rfl
theorem idxOf_at {l : List Nat} (nd : l.Nodup) {i x : Nat} (h : l[i]? = some x) : l.idxOf x = i := by
  obtain ⟨h1, h2⟩ := List.getElem?_eq_some_iff.mp h
  rw [← h2]
  exact nd.idxOf_getElem i h1
theorem idxOf_get {l : List Nat} {x : Nat} (h : x ∈ l) : l[l.idxOf x]? = some x := by
  have hl := List.idxOf_lt_length_iff.mpr h
  rw [List.getElem?_eq_getElem hl, List.getElem_idxOf hl]
section
variable {k n : Nat} {M : Mach} {O hs : List Nat} {at_ : Nat}
/-- the facts of the i-th class: its leader, the cells -/
theorem least_cell (o : Ok k n M) (b : Bfs k n M O at_) (hl : O.length ≤ at_) (H : Heads k n M hs) {i c : Nat} (hc : (ordC O hs)[i]? = some c) {a : Nat} (ha : a < k) :
    c < n ∧ ans (leastOf M hs O) i a = ans M c a ∧ (ordC O hs)[nxt (leastOf M hs O) i a]? = some (hd hs (nxt M c a)) ∧ ∃ x, x ∈ O ∧ hd hs x = c ∧ hd hs (nxt M c a) = hd hs (nxt M x a) := by
  have hm : c ∈ O.map (hd hs) := mem_dd.mp (List.mem_of_getElem? hc)
  obtain ⟨x, hx, ex⟩ := List.mem_map.mp hm
  have xn : x < n := b.lt x hx
  have cn : c < n := by rw [← ex]; exact H.lt x xn
  have al : Alike k M M c x := by rw [← ex]; exact (H.alike x xn).symm
  have e1 : hd hs (nxt M c a) = hd hs (nxt M x a) := (H.iff (o.nxt_lt cn ha) (o.nxt_lt xn ha)).mp (al.step ha).2
  obtain ⟨row, h1, h2, h3, h4⟩ := o.cell cn ha
  have hrow : (leastOf M hs O)[i]? = some (leastRow M hs (ordC O hs) c) := by unfold leastOf; rw [List.getElem?_map, hc]; rfl
  have hcell : (leastRow M hs (ordC O hs) c)[a]? = some (ans M c a, (ordC O hs).idxOf (hd hs (nxt M c a))) := by
    unfold leastRow
    rw [getD_of h1, List.getElem?_map, h3]; rfl
  obtain ⟨f1, f2⟩ := cell_of hrow hcell
  refine ⟨cn, f1, ?_, x, hx, ex, e1⟩
  rw [f2]
  refine idxOf_get (mem_dd.mpr ?_)
  rw [e1]
  exact List.mem_map.mpr ⟨_, b.closed hl hx ha, rfl⟩
theorem least_len : (leastOf M hs O).length = (ordC O hs).length := by unfold leastOf; rw [List.length_map]
theorem mem_take_of {α : Type} {l : List α} {p q : Nat} {x : α} (h : l[p]? = some x) (hq : p < q) : x ∈ l.take q := by
  obtain ⟨h1, h2⟩ := List.getElem?_eq_some_iff.mp h
  refine List.mem_of_getElem? (i := p) ?_
  rw [List.getElem?_take_of_lt hq]; exact h
theorem take_ix {α : Type} {l : List α} {q : Nat} {x : α} (h : x ∈ l.take q) : ∃ p, p < q ∧ l[p]? = some x := by
  obtain ⟨i, hi, e⟩ := List.getElem_of_mem h
  rw [List.length_take] at hi
  refine ⟨i, by omega, ?_⟩
  rw [List.getElem_take] at e
  rw [List.getElem?_eq_getElem (by omega), e]
theorem nodup_ix {l : List Nat} (nd : l.Nodup) {i j x : Nat} (a : l[i]? = some x) (b : l[j]? = some x) : i = j := by
  rw [← idxOf_at nd a, idxOf_at nd b]
theorem least_is (o : Ok k n M) (b : Bfs k n M O at_) (hl : O.length ≤ at_) (H : Heads k n M hs) : Least k M (leastOf M hs O) := by
  have nd : (ordC O hs).Nodup := nodup_dd _
  have ndx : ∀ {i j x : Nat}, (ordC O hs)[i]? = some x → (ordC O hs)[j]? = some x → i = j := fun h1 h2 => nodup_ix nd h1 h2
  have cls : ∀ {i c : Nat}, (ordC O hs)[i]? = some c → ∃ x, x ∈ O ∧ hd hs x = c := fun h => List.mem_map.mp (mem_dd.mp (List.mem_of_getElem? h))
  have all : ∀ {i : Nat}, i < (leastOf M hs O).length → ∃ c, (ordC O hs)[i]? = some c := fun {i} h => by
    rw [least_len] at h
    exact ⟨_, List.getElem?_eq_getElem h⟩
  -- the search's first comes first
  have hO0 : ∃ r, O = 0 :: r := by
    cases e : O with
    | nil => have := b.start; rw [e] at this; cases this
    | cons y r =>
      have := b.start
      rw [e] at this
      have e2 : y = 0 := Option.some.inj this
      rw [e2]
      exact ⟨r, rfl⟩
  have c0 : (ordC O hs)[0]? = some (hd hs 0) := by
    obtain ⟨r, e⟩ := hO0
    have pre : ∀ (r acc : List Nat) (x : Nat), acc[0]? = some x → (r.foldl push acc)[0]? = some x := fun r => by
      induction r with
      | nil => intro acc x h; exact h
      | cons y r ih =>
        intro acc x h
        refine ih _ x ?_
        unfold push
        split
        · exact h
        · rw [List.getElem?_append_left (List.getElem?_eq_some_iff.mp h).1]; exact h
    unfold ordC dd
    rw [e, List.map_cons, List.foldl_cons]
    have e1 : push [] (hd hs 0) = [hd hs 0] := by
      unfold push
      rw [if_neg List.not_mem_nil]
      rfl
    rw [e1]
    exact pre _ _ _ rfl
  have bis : Bis k (leastOf M hs O) M fun i s => s < n ∧ ∃ c, (ordC O hs)[i]? = some c ∧ Alike k M M c s := fun i s ⟨sn, c, hc, al⟩ a ha => by
    obtain ⟨cn, e1, e2, _⟩ := least_cell o b hl H hc ha
    refine ⟨e1.trans (al.step ha).1, o.nxt_lt sn ha, _, e2, ?_⟩
    exact (H.alike _ (o.nxt_lt cn ha)).symm.trans (al.step ha).2
  have ali : ∀ {i c : Nat}, (ordC O hs)[i]? = some c → c < n → Alike k (leastOf M hs O) M i c := fun hc cn => ⟨_, bis, cn, _, hc, .refl⟩
  have cn : ∀ {i c : Nat}, (ordC O hs)[i]? = some c → c < n := fun h => (least_cell o b hl H h o.kpos).1
  have hdd : ∀ {i c : Nat}, (ordC O hs)[i]? = some c → hd hs c = c := fun {i c} h => by
    obtain ⟨x, hx, ex⟩ := cls h
    have xn := b.lt x hx
    have z := (H.iff xn (H.lt x xn)).mp (H.alike x xn)
    rw [ex] at z
    exact z.symm
  have okL : Ok k (leastOf M hs O).length (leastOf M hs O) := by
    refine ⟨rfl, ?_, o.kpos, fun row hr => ?_, fun row hr c hc => ?_⟩
    · rw [least_len]; exact (List.getElem?_eq_some_iff.mp c0).1
    · obtain ⟨i, hi, e⟩ := List.getElem_of_mem hr
      obtain ⟨c, hc⟩ := all hi
      have hrow : (leastOf M hs O)[i]? = some (leastRow M hs (ordC O hs) c) := by unfold leastOf; rw [List.getElem?_map, hc]; rfl
      rw [List.getElem?_eq_getElem hi, e] at hrow
      rw [Option.some.inj hrow]
      unfold leastRow
      obtain ⟨row', h1, h2, _⟩ := o.at (cn hc)
      rw [List.length_map, getD_of h1, h2]
    · obtain ⟨i, hi, e⟩ := List.getElem_of_mem hr
      obtain ⟨h, hh⟩ := all hi
      have hrow : (leastOf M hs O)[i]? = some (leastRow M hs (ordC O hs) h) := by unfold leastOf; rw [List.getElem?_map, hh]; rfl
      obtain ⟨a, ha, e2⟩ := List.getElem_of_mem hc
      have hrl : row = leastRow M hs (ordC O hs) h := by
        rw [List.getElem?_eq_getElem hi, e] at hrow
        exact Option.some.inj hrow
      obtain ⟨row', h1, h2, _⟩ := o.at (cn hh)
      have ak : a < k := by
        have := ha
        rw [hrl] at this
        unfold leastRow at this
        rw [List.length_map, getD_of h1, h2] at this
        exact this
      have hcell : row[a]? = some c := by rw [List.getElem?_eq_getElem ha, e2]
      rw [← hrl] at hrow
      obtain ⟨_, f2⟩ := cell_of hrow hcell
      obtain ⟨_, _, g, _⟩ := least_cell o b hl H hh ak
      rw [← f2, least_len]
      exact (List.getElem?_eq_some_iff.mp g).1
  refine ⟨okL, ?_, fun i j hi hj z => ?_, fun j hj0 hj => ?_, ⟨ordC O hs, least_len.symm, ?_, fun c hc => ?_, fun x hx => ?_⟩, fun row hr c hc => ?_, ?_⟩
  · exact ⟨_, bis, o.pos, _, c0, (H.alike 0 o.pos).symm⟩
  · obtain ⟨c, hc⟩ := all hi
    obtain ⟨d, hd_⟩ := all hj
    have z2 : Alike k M M c d := (ali hc (cn hc)).symm.trans (z.trans (ali hd_ (cn hd_)))
    have e := (H.iff (cn hc) (cn hd_)).mp z2
    rw [hdd hc, hdd hd_] at e
    subst e
    exact ndx hc hd_
  · obtain ⟨c, hc⟩ := all hj
    obtain ⟨p, hp, ep⟩ := dd_first _ j c hc
    rw [List.getElem?_map] at hp
    have p0 : 0 < p := by
      rcases Nat.eq_zero_or_pos p with e | e
      · subst e
        rw [b.start] at hp
        have e2 : hd hs 0 = c := Option.some.inj hp
        rw [e2] at c0
        have := ndx c0 hc
        omega
      · exact e
    cases ex : O[p]? with
    | none => rw [ex] at hp; cases hp
    | some x =>
      rw [ex] at hp
      have ec : hd hs x = c := Option.some.inj hp
      obtain ⟨q, a, y, hq, ha, hy, e1, hb⟩ := b.disc p x p0 ex
      -- the class of y
      have take_j : ∀ {z : Nat}, z ∈ O.take p → ∃ i, i < j ∧ (ordC O hs)[i]? = some (hd hs z) := fun {z} hz => by
        refine take_ix ?_
        show hd hs z ∈ (dd (O.map (hd hs))).take j
        rw [ep]
        refine mem_dd.mpr ?_
        rw [← List.map_take]
        exact List.mem_map.mpr ⟨z, hz, rfl⟩
      obtain ⟨i, hij, hi⟩ := take_j (mem_take_of hy hq)
      -- a class's next, by any of its reached states
      have nx : ∀ {i c : Nat}, (ordC O hs)[i]? = some c → ∀ {z a : Nat}, z ∈ O → hd hs z = c → a < k → ∀ {m : Nat}, (ordC O hs)[m]? = some (hd hs (nxt M z a)) → nxt (leastOf M hs O) i a = m := fun {i c} hc {z a} hz ez ha {m} hm => by
        obtain ⟨cn', _, e3, _⟩ := least_cell o b hl H hc ha
        have zn := b.lt z hz
        have al : Alike k M M c z := by rw [← ez]; exact (H.alike z zn).symm
        have e4 := (H.iff (o.nxt_lt cn' ha) (o.nxt_lt zn ha)).mp (al.step ha).2
        rw [e4] at e3
        exact ndx e3 hm
      refine ⟨i, a, hij, ha, ?_, fun i' a' ha' hlex => ?_⟩
      · exact nx hi (List.mem_of_getElem? hy) rfl ha (by rw [e1, ec]; exact hc)
      · -- an earlier place
        have key : ∃ q' z, (q' < q ∨ (q' = q ∧ a' < a)) ∧ O[q']? = some z ∧ (ordC O hs)[i']? = some (hd hs z) := by
          rcases hlex with h | ⟨h, h2⟩
          · obtain ⟨c', hc'⟩ : ∃ c', (ordC O hs)[i']? = some c' := all (by omega)
            obtain ⟨q', hq', eq'⟩ := dd_first _ i' c' hc'
            rw [List.getElem?_map] at hq'
            cases ez : O[q']? with
            | none => rw [ez] at hq'; cases hq'
            | some z =>
              rw [ez] at hq'
              have ec' : hd hs z = c' := Option.some.inj hq'
              refine ⟨q', z, .inl ?_, ez, by rw [ec']; exact hc'⟩
              -- q' < q: else hd y stands in the take i'
              refine Decidable.byContradiction fun hge => ?_
              have hm : hd hs y ∈ (ordC O hs).take i' ∨ q' = q := by
                by_cases e : q' = q
                · exact .inr e
                · refine .inl ?_
                  show hd hs y ∈ (dd (O.map (hd hs))).take i'
                  rw [eq']
                  refine mem_dd.mpr ?_
                  rw [← List.map_take]
                  exact List.mem_map.mpr ⟨y, mem_take_of hy (by omega), rfl⟩
              rcases hm with hm | hm
              · obtain ⟨i2, hi2, hi3⟩ := take_ix hm
                have := ndx hi3 hi
                omega
              · rw [hm] at ez
                have e5 : y = z := Option.some.inj (hy.symm.trans ez)
                rw [e5, ec'] at hi
                have := ndx hi hc'
                omega
          · subst h
            exact ⟨q, y, .inr ⟨rfl, h2⟩, hy, hi⟩
        obtain ⟨q', z, hlt, hz, hiz⟩ := key
        obtain ⟨m, hm, hm2⟩ := take_j (hb q' a' z ha' hlt hz)
        rw [nx hiz (List.mem_of_getElem? hz) rfl ha' hm2]
        exact hm
  · rw [List.pairwise_iff_getElem]
    intro i j hi hj hij z
    have h1 := List.getElem?_eq_getElem hi
    have h2 := List.getElem?_eq_getElem hj
    have e := (H.iff (cn h1) (cn h2)).mp z
    rw [hdd h1, hdd h2] at e
    rw [e] at h1
    have := ndx h1 h2
    omega
  · obtain ⟨i, hi, e⟩ := List.getElem_of_mem hc
    have h1 : (ordC O hs)[i]? = some c := by rw [List.getElem?_eq_getElem hi, e]
    obtain ⟨x, hx, ex⟩ := cls h1
    refine ⟨x, b.reach_mem hx, ?_⟩
    rw [← ex]
    exact (H.alike x (b.lt x hx)).symm
  · have hxO := b.all_of hl hx
    exact ⟨hd hs x, mem_dd.mpr (List.mem_map.mpr ⟨x, hxO, rfl⟩), H.alike x (b.lt x hxO)⟩
  · obtain ⟨h, hh, e⟩ := List.mem_map.mp hr
    rw [← e] at hc
    unfold leastRow at hc
    obtain ⟨d, hd1, hd2⟩ := List.mem_map.mp hc
    obtain ⟨i, hi, e3⟩ := List.getElem_of_mem hh
    have hcn := cn (show (ordC O hs)[i]? = some h by rw [List.getElem?_eq_getElem hi, e3])
    obtain ⟨row', h1, _, h3⟩ := o.at hcn
    rw [getD_of h1] at hd1
    exact ⟨row', h3, d, hd1, by rw [← hd2]⟩
  · rw [least_len, o.len]
    refine lt_len nd fun c hc => ?_
    obtain ⟨i, hi, e3⟩ := List.getElem_of_mem hc
    exact cn (show (ordC O hs)[i]? = some c by rw [List.getElem?_eq_getElem hi, e3])
end
/-! ### one least machine -/
theorem canon_next {k : Nat} {L L' : Mach} (oL : Ok k L.length L) (oL' : Ok k L'.length L') (rL : ∀ i j, i < L.length → j < L.length → Alike k L L i j → i = j)
    (rL' : ∀ i j, i < L'.length → j < L'.length → Alike k L' L' i j → i = j) (cL : Canon k L) (cL' : Canon k L') (al : Alike k L L' 0 0) : ∀ j, j < L.length → j < L'.length ∧ Alike k L L' j j := by
  intro j
  induction j using Nat.strongRecOn with
  | _ j ih =>
    intro hj
    by_cases h0 : j = 0
    · subst h0; exact ⟨oL'.pos, al⟩
    · obtain ⟨q, a, hq, ha, e, hb⟩ := cL j (by omega) hj
      obtain ⟨hq', aq⟩ := ih q hq (by omega)
      -- the same place in the other one
      have hst := (aq.step ha).2
      rw [e] at hst
      have mn := oL'.nxt_lt hq' ha
      -- it isn't below j
      have hge : j ≤ nxt L' q a := by
        refine Decidable.byContradiction fun hlt => ?_
        have hm : nxt L' q a < j := by omega
        obtain ⟨_, am⟩ := ih _ hm (by omega)
        have z : Alike k L L j (nxt L' q a) := hst.trans am.symm
        have := rL j _ hj (by omega) z
        omega
      have heq : nxt L' q a = j := by
        refine Decidable.byContradiction fun hne => ?_
        have hjl : j < L'.length := by omega
        obtain ⟨q2, a2, hq2, ha2, e2, hb2⟩ := cL' j (by omega) hjl
        -- (q, a) isn't before (q2, a2)
        have nb : ¬ (q < q2 ∨ (q = q2 ∧ a < a2)) := fun z => by
          have := hb2 q a ha z
          omega
        -- so (q2, a2) is before (q, a)
        have nb2 : q2 < q ∨ (q2 = q ∧ a2 < a) := by
          by_cases z : q2 < q
          · exact .inl z
          · by_cases z2 : q2 = q
            · refine .inr ⟨z2, ?_⟩
              by_cases z3 : a2 = a
              · subst z2; subst z3; exact (hne e2).elim
              · have : ¬ a < a2 := fun z4 => nb (.inr ⟨z2.symm, z4⟩)
                omega
            · exact (nb (.inl (by omega))).elim
        have hm := hb q2 a2 ha2 nb2
        obtain ⟨hq2', aq2⟩ := ih q2 (by omega) (by omega)
        obtain ⟨hmL', am⟩ := ih _ hm (by omega)
        have z : Alike k L' L' (nxt L q2 a2) j := by
          have z1 := (aq2.step ha2).2
          rw [e2] at z1
          exact am.symm.trans z1
        have := rL' _ _ hmL' hjl z
        omega
      rw [heq] at hst mn
      exact ⟨mn, hst⟩
theorem ext_mach {k n : Nat} {L L' : Mach} (o : Ok k n L) (o' : Ok k n L') (h : ∀ s a, s < n → a < k → ans L s a = ans L' s a ∧ nxt L s a = nxt L' s a) : L = L' := by
  refine List.ext_getElem? fun s => ?_
  by_cases hs : s < n
  · obtain ⟨row, h1, h2, _⟩ := o.at hs
    obtain ⟨row', g1, g2, _⟩ := o'.at hs
    rw [h1, g1]
    congr 1
    refine List.ext_getElem? fun a => ?_
    by_cases ha : a < k
    · obtain ⟨r, i1, _, i3, _⟩ := o.cell hs ha
      obtain ⟨r', j1, _, j3, _⟩ := o'.cell hs ha
      have er : r = row := Option.some.inj (i1.symm.trans h1)
      have er' : r' = row' := Option.some.inj (j1.symm.trans g1)
      subst er; subst er'
      rw [i3, j3, (h s a hs ha).1, (h s a hs ha).2]
    · rw [List.getElem?_eq_none_iff.mpr (by omega), List.getElem?_eq_none_iff.mpr (by omega)]
  · have e1 := o.len
    have e2 := o'.len
    rw [List.getElem?_eq_none_iff.mpr (by omega), List.getElem?_eq_none_iff.mpr (by omega)]
theorem least_unique {k : Nat} {L L' : Mach} (oL : Ok k L.length L) (oL' : Ok k L'.length L') (rL : ∀ i j, i < L.length → j < L.length → Alike k L L i j → i = j)
    (rL' : ∀ i j, i < L'.length → j < L'.length → Alike k L' L' i j → i = j) (cL : Canon k L) (cL' : Canon k L') (al : Alike k L L' 0 0) : L = L' := by
  have f := canon_next oL oL' rL rL' cL cL' al
  have g := canon_next oL' oL rL' rL cL' cL al.symm
  have e : L.length = L'.length := by
    have h1 : L.length ≤ L'.length := Decidable.byContradiction fun z => by
      have := (f L'.length (by omega)).1
      omega
    have h2 : L'.length ≤ L.length := Decidable.byContradiction fun z => by
      have := (g L.length (by omega)).1
      omega
    omega
  refine ext_mach (n := L.length) oL (by rw [e]; exact oL') fun s a hs ha => ?_
  have z := (f s hs).2.step ha
  refine ⟨z.1, ?_⟩
  have m := oL.nxt_lt hs ha
  obtain ⟨m', am⟩ := f _ m
  exact rL' _ _ m' (oL'.nxt_lt (by omega) ha) (am.symm.trans z.2)
theorem Least.same {k : Nat} {M N L L' : Mach} (h : Least k M L) (g : Least k N L') (al : Alike k M N 0 0) : L = L' :=
  least_unique h.ok g.ok h.red g.red h.canon g.canon (h.alike.trans (al.trans g.alike.symm))
/-- a least machine's own least machine -/
theorem Least.self {k : Nat} {M L L' : Mach} (h : Least k M L) (g : Least k L L') : L' = L :=
  least_unique g.ok h.ok g.red h.red g.canon h.canon g.alike
/-! ### how many classes -/
theorem reps_le {k : Nat} {M : Mach} : ∀ (A B : List Nat), A.Pairwise (fun x y => ¬ Alike k M M x y) → (∀ x ∈ A, ∃ y ∈ B, Alike k M M x y) → A.length ≤ B.length
  | [], _, _, _ => Nat.zero_le _
  | x :: A, B, nd, h => by
    obtain ⟨y, hy, al⟩ := h x List.mem_cons_self
    obtain ⟨n1, n2⟩ := List.pairwise_cons.mp nd
    have := reps_le A (B.erase y) n2 fun z hz => by
      obtain ⟨w, hw, al2⟩ := h z (List.mem_cons_of_mem _ hz)
      have ne : w ≠ y := fun e => by
        subst e
        exact n1 z hz (al.trans al2.symm)
      exact ⟨w, (List.mem_erase_of_ne ne).mpr hw, al2⟩
    have e := List.length_erase_of_mem hy
    have p : 0 < B.length := List.length_pos_of_mem hy
    rw [List.length_cons]
    omega
theorem Least.many {k : Nat} {M L : Mach} (h : Least k M L) {D : List Nat} (h1 : D.Pairwise (fun x y => ¬ Alike k M M x y)) (h2 : ∀ c ∈ D, Reach k M c) (h3 : ∀ x, Reach k M x → ∃ c ∈ D, Alike k M M x c) : D.length = L.length := by
  obtain ⟨C, e, c1, c2, c3⟩ := h.reps
  have a := reps_le D C h1 fun x hx => c3 x (h2 x hx)
  have b := reps_le C D c1 fun x hx => by
    obtain ⟨y, r, al⟩ := c2 x hx
    obtain ⟨d, hd_, al2⟩ := h3 y r
    exact ⟨d, hd_, al.trans al2⟩
  omega
end Pw

namespace Pw
open PySem PySem.Spec PyProof.Rows L2
/-! ### the text -/
def top (i : Nat) : Stmt := PySem.Challenge.pw_probewell_k97_whole_least_lists.main.body.getD i (.Pass ⟨0, 0, 0, 0⟩)
/-! ### a display of one pair, its key a tuple -/
def tDispT1 (tk tv : TE) : TE := fun σ H Q => ∀ p, H p = none → tPairs [(tk, tv)] σ (upd H p (.dT [])) fun ps H2 => H2 p = some (.dT []) ∧ ∃ (b : Addr) (ks : List Key) (y : V), ps = [(.ref b, y)] ∧ H2 b = some (.tup (ks.map kV)) ∧ Q (.ref p) (upd H2 p (.dT [(ks, y)]))
theorem pe_dispT1 {X : Cx} {pos : Pos} {k v : Expr} {tk tv : TE} (hu : X.A.units + 1 < cLine) (hk : PE X k tk) (hv : PE X v tv) : PE X (.Dict [some k] [v] pos) (tDispT1 tk tv) := by
  refine ⟨fun pins s σ H Q I q => ?_⟩
  have hn := I.hok.fresh (Nat.le_refl s.heap.objs.size)
  have I1 := I.laid (a := s.heap.objs.size) (o := .dT []) (h' := s.heap.push { cls := .type "dict", data := .dict #[] }) (t' := s.toks) (fun _ _ q => Heap.get?_push_of_some _ q) (Nat.le_refl _) (dt_empty s.heap I.big)
  have hz := zip_pairTrees [some k] [v] X.env pos rfl rfl
  have hlen : (pairTrees [some k] [v] X.env pos).length = 1 := rfl
  rw [arm_eval_Dict, hz, dictDisplay_pairs (pairTrees [some k] [v] X.env pos) (by intro z; cases z) (by rw [hlen]; decide)]
  have hp : PPs X pos [some k] [v] [(tk, tv)] := pps_cons hk hv pps_nil
  have hroom : (tupleKind (mixKind X.prog X.w)).room X.A := by show X.A.units < cLine; omega
  refine wpAny_bind (wpAny_standAt (wpAny_bind (wpAny_subDictH (knd := tupleKind (mixKind X.prog X.w)) hroom (by rw [hlen]; decide) (thn (hp.run pins _ σ _ (fun ps H2 => H2 s.heap.objs.size = some (.dT []) ∧ ∃ (b : Addr) (ks : List Key) (y : V), ps = [(.ref b, y)] ∧ H2 b = some (.tup (ks.map kV)) ∧ Q (.ref s.heap.objs.size) (upd H2 s.heap.objs.size (.dT [(ks, y)]))) I1 ?_) fun ws s2 hh => ?_))))
  · exact q _ hn
  · obtain ⟨ps, H2, I2, rel, e, b, ks, y, ep, eb, q2⟩ := hh
    subst ep
    obtain ⟨z, hd, xs, rx, dd⟩ := dt_of I2.hok e
    cases rx
    cases rel with
    | cons h t =>
      cases t
      rename_i ww
      obtain ⟨u, v'⟩ := ww
      obtain ⟨h1, h2⟩ := h
      cases (show u = Value.ref b from h1)
      refine ⟨[(ks, b, v')], ⟨rfl, rfl, key_of I2.hok eb, trivial⟩, dd, fun h' tk' dd' hs => wpAny_pure ?_⟩
      obtain ⟨o2, es, ep, hq, g2, g3, g4, _, g5⟩ := dd'
      refine ⟨.ref s.heap.objs.size, _, d_write (t' := tk') (ob := .dT [(ks, y)]) I2 (by rw [e]; exact True.intro) hs ⟨o2, hq⟩ ⟨?_, hd, [(ks, b, v')], .cons ⟨rfl, ?_, h2⟩ .nil, o2, es, ep, hq, g2, g3, g4, ?_⟩, rfl, q2⟩
      · show 1 ≤ sizeLine
        decide
      · rw [upd_ne (ne_of eb e (fun z => nomatch z))]
        exact eb
      · exact g5

/-! ### heaps -/
/-- the heap but p -/
def wo (H : Hp) (p : Addr) : Hp := fun b => if b = p then none else H b
/-- what is new in H, seen from H0 -/
def nw (H0 H : Hp) : Hp := fun b => if (H0 b).isSome = true then none else H b
theorem wo_at {H : Hp} {p b : Addr} (h : b ≠ p) : wo H p b = H b := if_neg h
theorem wo_self {H : Hp} {p : Addr} : wo H p p = none := if_pos rfl
theorem nw_at {H0 H : Hp} {b : Addr} (h : H0 b = none) : nw H0 H b = H b := by unfold nw; rw [h]; rfl
theorem nw_some {H0 H : Hp} {b : Addr} {o : HO} (h : nw H0 H b = some o) : H0 b = none ∧ H b = some o := by
  unfold nw at h
  cases e : H0 b with
  | none => rw [e] at h; exact ⟨rfl, h⟩
  | some u => rw [e] at h; cases h
theorem wo_some {H : Hp} {p b : Addr} {o : HO} (h : wo H p b = some o) : b ≠ p ∧ H b = some o := by
  by_cases e : b = p
  · rw [e, wo_self] at h; cases h
  · rw [wo_at e] at h; exact ⟨e, h⟩
theorem wo_upd {H : Hp} {p : Addr} {o : HO} : wo (upd H p o) p = wo H p := by
  funext b
  by_cases e : b = p
  · rw [e, wo_self, wo_self]
  · rw [wo_at e, wo_at e, upd_ne e]
theorem _root_.L2.Same.wo (H : Hp) (p : Addr) : Same (wo H p) H := fun _ _ h => (wo_some h).2
theorem _root_.L2.Same.nw (H0 H : Hp) : Same (nw H0 H) H := fun _ _ h => (nw_some h).2
theorem _root_.L2.Same.of_wo {G H : Hp} {p : Addr} (h : Same G H) (n : G p = none) : Same G (Pw.wo H p) := fun b o e => by
  rw [wo_at (ne_of_none e n)]; exact h b o e
theorem _root_.L2.Same.wo2 {H H' : Hp} {p : Addr} (h : Same H H') : Same (Pw.wo H p) (Pw.wo H' p) := fun b o e => by
  obtain ⟨e1, e2⟩ := wo_some e
  rw [wo_at e1]; exact h b o e2
theorem _root_.L2.Same.nw2 {H0 H H' : Hp} (h : Same H H') : Same (Pw.nw H0 H) (Pw.nw H0 H') := fun b o e => by
  obtain ⟨e1, e2⟩ := nw_some e
  rw [nw_at e1]; exact h b o e2
/-- what is new behind a call is new from the outset on -/
theorem _root_.L2.Same.nwT {H0 H H' : Hp} (h : Same H0 H) : Same (Pw.nw H H') (Pw.nw H0 H') := fun b o e => by
  obtain ⟨e1, e2⟩ := nw_some e
  rw [nw_at (h.free e1)]; exact e2
/-- what is new isn't an old one -/
theorem _root_.L2.Same.nw_wo {H H' : Hp} {p : Addr} {o : HO} (h : H p = some o) : Same (Pw.nw H H') (Pw.wo H' p) := fun b u e => by
  obtain ⟨e1, e2⟩ := nw_some e
  rw [wo_at (ne_of_none h e1).symm]; exact e2
theorem _root_.L2.Same.upd {G H : Hp} {p : Addr} {o : HO} (h : Same G H) (n : G p = none) : Same G (L2.upd H p o) := fun b u e => by
  rw [upd_ne (ne_of_none e n)]; exact h b u e
theorem _root_.L2.Same.fresh {H : Hp} {q : Addr} {o : HO} (n : H q = none) : Same H (L2.upd H q o) := L2.Same.upd (L2.Same.refl H) n
theorem wo_none {H : Hp} {p q : Addr} (h : H q = none) : wo H p q = none := by
  by_cases e : q = p
  · rw [e]; exact wo_self
  · rw [wo_at e]; exact h
theorem nw_none {H0 H : Hp} {q : Addr} (h : H q = none) : nw H0 H q = none := by
  unfold nw
  split
  · rfl
  · exact h

/-! ### data in the heap -/
def cellV (c : Int × Nat) : HO := .tup [.int c.1, .int (c.2 : Int)]
def natsV (l : List Nat) : List V := l.map fun x : Nat => V.int (x : Int)
/-- a row of tuples at a, the tuples at ps -/
structure RowIn (H : Hp) (a : Addr) (ps : List Addr) (row : Row) : Prop where
  lst : H a = some (.lst (ps.map V.ref))
  len : ps.length = row.length
  cell : ∀ (i : Nat) (p : Addr) (c : Int × Nat), ps[i]? = some p → row[i]? = some c → H p = some (cellV c)
def RowAt (H : Hp) (a : Addr) (row : Row) : Prop := ∃ ps, RowIn H a ps row
structure RowsIn (H : Hp) (rs : List Addr) (M : Mach) : Prop where
  len : rs.length = M.length
  row : ∀ (i : Nat) (r : Addr) (row : Row), rs[i]? = some r → M[i]? = some row → RowAt H r row
def MachAt (H : Hp) (a : Addr) (M : Mach) : Prop := ∃ rs : List Addr, H a = some (.lst (rs.map V.ref)) ∧ RowsIn H rs M
theorem RowIn.mono {H H' : Hp} {a : Addr} {ps : List Addr} {row : Row} (h : RowIn H a ps row) (s : Same H H') : RowIn H' a ps row := ⟨s _ _ h.lst, h.len, fun i p c e1 e2 => s _ _ (h.cell i p c e1 e2)⟩
theorem RowAt.mono {H H' : Hp} {a : Addr} {row : Row} (h : RowAt H a row) (s : Same H H') : RowAt H' a row := let ⟨ps, z⟩ := h; ⟨ps, z.mono s⟩
theorem RowsIn.mono {H H' : Hp} {rs : List Addr} {M : Mach} (h : RowsIn H rs M) (s : Same H H') : RowsIn H' rs M := ⟨h.len, fun i r row e1 e2 => (h.row i r row e1 e2).mono s⟩
theorem MachAt.mono {H H' : Hp} {a : Addr} {M : Mach} (h : MachAt H a M) (s : Same H H') : MachAt H' a M := let ⟨rs, z, w⟩ := h; ⟨rs, s _ _ z, w.mono s⟩
theorem RowsIn.nil {H : Hp} : RowsIn H [] [] := ⟨rfl, fun i r row e => by cases i <;> cases e⟩
theorem snoc_at {α : Type} {l : List α} {x y : α} {i : Nat} (h : (l ++ [x])[i]? = some y) : (i < l.length ∧ l[i]? = some y) ∨ (i = l.length ∧ x = y) := by
  by_cases hi : i < l.length
  · rw [List.getElem?_append_left hi] at h
    exact .inl ⟨hi, h⟩
  · have h1 := (List.getElem?_eq_some_iff.mp h).1
    rw [List.length_append, List.length_singleton] at h1
    have e : i = l.length := by omega
    subst e
    rw [List.getElem?_append_right (Nat.le_refl _), Nat.sub_self] at h
    exact .inr ⟨rfl, Option.some.inj h⟩
theorem RowsIn.snoc {H : Hp} {rs : List Addr} {M : Mach} {r : Addr} {row : Row} (h : RowsIn H rs M) (g : RowAt H r row) : RowsIn H (rs ++ [r]) (M ++ [row]) := by
  refine ⟨by rw [List.length_append, List.length_append, h.len] <;> rfl, fun i r' row' e1 e2 => ?_⟩
  rcases snoc_at e1 with ⟨a1, a2⟩ | ⟨a1, a2⟩ <;> rcases snoc_at e2 with ⟨b1, b2⟩ | ⟨b1, b2⟩
  · exact h.row i r' row' a2 b2
  · have := h.len; omega
  · have := h.len; omega
  · rw [← a2, ← b2]; exact g
/-- the cells of a row so far -/
structure CellsIn (H : Hp) (ps : List Addr) (row : Row) : Prop where
  len : ps.length = row.length
  cell : ∀ (i : Nat) (p : Addr) (c : Int × Nat), ps[i]? = some p → row[i]? = some c → H p = some (cellV c)
theorem CellsIn.nil {H : Hp} : CellsIn H [] [] := ⟨rfl, fun i r row e => by cases i <;> cases e⟩
theorem CellsIn.mono {H H' : Hp} {ps : List Addr} {row : Row} (h : CellsIn H ps row) (s : Same H H') : CellsIn H' ps row := ⟨h.len, fun i p c e1 e2 => s _ _ (h.cell i p c e1 e2)⟩
theorem CellsIn.snoc {H : Hp} {ps : List Addr} {row : Row} {p : Addr} {c : Int × Nat} (h : CellsIn H ps row) (g : H p = some (cellV c)) : CellsIn H (ps ++ [p]) (row ++ [c]) := by
  refine ⟨by rw [List.length_append, List.length_append, h.len] <;> rfl, fun i p' c' e1 e2 => ?_⟩
  rcases snoc_at e1 with ⟨a1, a2⟩ | ⟨a1, a2⟩ <;> rcases snoc_at e2 with ⟨b1, b2⟩ | ⟨b1, b2⟩
  · exact h.cell i p' c' a2 b2
  · have := h.len; omega
  · have := h.len; omega
  · rw [← a2, ← b2]; exact g
theorem RowIn.cells {H : Hp} {a : Addr} {ps : List Addr} {row : Row} (h : RowIn H a ps row) : CellsIn H ps row := ⟨h.len, h.cell⟩
theorem CellsIn.row {H : Hp} {a : Addr} {ps : List Addr} {row : Row} (h : CellsIn H ps row) (e : H a = some (.lst (ps.map V.ref))) : RowAt H a row := ⟨ps, e, h.len, h.cell⟩
/-- an item by its place -/
theorem at_ref {rs : List Addr} {i : Nat} {r : Addr} (h : rs[i]? = some r) : atI (rs.map V.ref) (i : Int) = some (.ref r) := at_of rfl (by rw [List.getElem?_map, h]; rfl)
theorem at_nat {l : List Nat} {i x : Nat} (h : l[i]? = some x) : atI (natsV l) (i : Int) = some (.int (x : Int)) := at_of rfl (by unfold natsV; rw [List.getElem?_map, h]; rfl)
/-- the row of a state -/
theorem MachAt.at {H : Hp} {a : Addr} {M : Mach} (h : MachAt H a M) {s : Nat} {row : Row} (e : M[s]? = some row) : ∃ (rs : List Addr) (r : Addr), H a = some (.lst (rs.map V.ref)) ∧ atI (rs.map V.ref) (s : Int) = some (.ref r) ∧ RowAt H r row := by
  obtain ⟨rs, h1, h2⟩ := h
  have hs : s < rs.length := by rw [h2.len]; exact (List.getElem?_eq_some_iff.mp e).1
  have e1 := List.getElem?_eq_getElem hs
  exact ⟨rs, _, h1, at_ref e1, h2.row s _ row e1 e⟩
theorem RowAt.at {H : Hp} {r : Addr} {row : Row} (h : RowAt H r row) {a : Nat} {c : Int × Nat} (e : row[a]? = some c) : ∃ (ps : List Addr) (p : Addr), H r = some (.lst (ps.map V.ref)) ∧ atI (ps.map V.ref) (a : Int) = some (.ref p) ∧ H p = some (cellV c) := by
  obtain ⟨ps, h⟩ := h
  have hs : a < ps.length := by rw [h.len]; exact (List.getElem?_eq_some_iff.mp e).1
  have e1 := List.getElem?_eq_getElem hs
  exact ⟨ps, _, h.lst, at_ref e1, h.cell a _ c e1 e⟩
theorem cell_0 (c : Int × Nat) : atI [V.int c.1, V.int (c.2 : Int)] 0 = some (.int c.1) := rfl
theorem cell_1 (c : Int × Nat) : atI [V.int c.1, V.int (c.2 : Int)] 1 = some (.int (c.2 : Int)) := rfl
/-- M[s][a], with what it takes to read it -/
theorem MachAt.cell {k n : Nat} {H : Hp} {a : Addr} {M : Mach} (h : MachAt H a M) (o : Ok k n M) {s b : Nat} (hs : s < n) (hb : b < k) :
    ∃ (rs : List Addr) (r : Addr) (ps : List Addr) (p : Addr), H a = some (.lst (rs.map V.ref)) ∧ atI (rs.map V.ref) (s : Int) = some (.ref r) ∧ H r = some (.lst (ps.map V.ref)) ∧ atI (ps.map V.ref) (b : Int) = some (.ref p) ∧
      H p = some (.tup [.int (ans M s b), .int (nxt M s b : Int)]) ∧ nxt M s b < n := by
  obtain ⟨row, h1, h2, h3, h4⟩ := o.cell hs hb
  obtain ⟨rs, r, g1, g2, g3⟩ := h.at h1
  obtain ⟨ps, p, g4, g5, g6⟩ := g3.at h3
  exact ⟨rs, r, ps, p, g1, g2, g4, g5, g6, h4⟩
/-! ### what the top leaves -/
/-- a def of the module stands under its name -/
def DefAt (K : PySem.W.Frag) (mg : Str → Option Value) (x : Str) (st : Stmt) : Prop := ∃ f fd, FunD K x x (defArgs st) (defBody st) (defScope st) [] [] f fd ∧ mg x = some (.ref f)
/-- the built-ins' names are free -/
structure Txt (K : PySem.W.Frag) (mg : Str → Option Value) : Prop where
  n_isinstance : mg "isinstance" = none
  n_int : mg "int" = none
  n_bool : mg "bool" = none
  n_list : mg "list" = none
  n_tuple : mg "tuple" = none
  n_str : mg "str" = none
  n_len : mg "len" = none
  n_abs : mg "abs" = none
  n_max : mg "max" = none
  n_range : mg "range" = none
  n_sorted : mg "sorted" = none
  c_MOST_STATES_tables : ∃ u, mg "MOST_STATES_tables" = some u ∧ RelV (.int 30) u
  c_MOST_ASKS_tables : ∃ u, mg "MOST_ASKS_tables" = some u ∧ RelV (.int 5) u
  c_LONGEST : ∃ u, mg "LONGEST" = some u ∧ RelV (.int 60) u
  c_FIGURES : ∃ u, mg "FIGURES" = some u ∧ RelV (.str "0123456789") u
  c_LETTERS : ∃ u, mg "LETTERS" = some u ∧ RelV (.str "abcdefghijklmnopqrstuvwxyz") u
section
variable {P : Program} {w : World} {K : PySem.W.Frag} {mg : Str → Option Value} {base : Heap}
theorem mkCal {x : Str} {st : Stmt} {N ps : List Str} {k : Nat} {sp : Sp} (D : DefAt K mg x st) (bd : ∀ {f fd}, FunD K x x (defArgs st) (defBody st) (defScope st) [] [] f fd → Binds K fd ps []) (S : FnScope N ps (defScope st)) (len : ∀ vs H Q E, sp vs H Q E → vs.length = ps.length)
    (hbody : ∀ (f : Addr) (cdv : Value) (A : Around) (outer : List Env) (s : Shared) (H : Hp) (vs : List V) (Q : VK) (E : XK), Room k (A.deeper (envOfC x (defScope st) s.heap.objs.size f cdv)) → sp vs H Q E →
      ∃ t, PSs (cxOf CX0 P w K mg base N x (defScope st) f cdv A outer s H E).nox (defBody st) t ∧ t { nx := fun _ H' => Q .non H', rt := Q } (start N vs) H) : C8.Cal P w K mg base (k + 1) x sp [] := by
  obtain ⟨f, fd, F, m⟩ := D
  refine ⟨f, fd, ps, [], F.ok S len fun cdv A outer s H vs Q E hr h => ?_, m, F.kp, bd F, .nil⟩
  obtain ⟨t, h1, h2⟩ := hbody f cdv A outer s H vs Q E hr h
  exact ⟨t, h1.nox, h2⟩
end
theorem hu64_of {A : Around} {k : Nat} (hr : Room k A) : A.units + 64 < cLine := by have := hr.un; omega
theorem hu65_of {A : Around} {k : Nat} (hr : Room k A) : A.units + 65 < cLine := by have := hr.un; omega

/-! ### rules whose reading names the written part, for a comprehension's block -/
section
variable {X : Cx}
theorem ix_listK (K : PySem.W.Frag) (h : X.K = K := by rfl) : IxR X (rIxL K) := by subst h; exact ix_list
theorem ix_tupK (K : PySem.W.Frag) (h : X.K = K := by rfl) : IxR X (rIxT K) := by subst h; exact ix_tup
theorem call_list_ofK (K : PySem.W.Frag) (h : X.K = K := by rfl) : CallR X (.type "list") (fun xs H Q => ∃ p ys, xs = [.ref p] ∧ (SqL K H p ys ∨ SqT K H p ys) ∧ ∀ l, H l = none → Q (.ref l) (upd H l (.lst ys))) := by subst h; exact call_list_of
theorem call_len_seqK (K : PySem.W.Frag) (h : X.K = K := by rfl) : CallR X (.builtin "len") (fun xs H Q => ∃ p ys, xs = [.ref p] ∧ (SqL K H p ys ∨ SqT K H p ys) ∧ Q (.int ys.length) H) := by subst h; exact call_len_seq
theorem mt_indexK (K : PySem.W.Frag) (h : X.K = K := by rfl) : MtR X "list.index" (rIndex K) := by subst h; exact mt_index
theorem mt_indexDK (K : PySem.W.Frag) (hu : X.A.units + 65 < cLine) (h : X.K = K := by rfl) : MtR X "list.index" (rIndexD K) := by subst h; exact mt_indexD hu
theorem pg_tupK (K : PySem.W.Frag) {pos : Pos} {es : List Expr} {k : Nat} {t : TGs} {n : Nat} (hc : X.calm = true) (h : PGs X es t)
    (hn : (assignEach es X.env).length = n := by rfl) (hst : (assignEach es X.env).findIdx? (·.1) = none := by rfl) (hK : X.K = K := by rfl) : PG X (.Tuple es k pos) (gTup K n t) := by subst hK; exact pg_tup hc h hn hst
theorem pe_bmK (K : PySem.W.Frag) {T id : String} {name : Str} {r : V → List V → Hp → VK → Prop} {o e : Expr} {es : List Expr} {to : TE} {t : TA} {apos cpos : Pos} (pa : PlainAttrs T) (slot : Slot T name id) (hty : typeOf (.builtin id) = pure (.type "method_descriptor")) (hm : MtR X id r) (ho : PE X o to) (ha : PA X (e :: es) t)
    (hbase : attributeBase o name X.env (eval o X.env) = eval o X.env := by rfl)
    (hfew : ((backTo cpos (starEach (e :: es) X.env)).all (fun x => !x.1) && (backToKw cpos (keywordEach [] X.env)).all (fun x => x.1.isSome)
      && decide ((e :: es).length + ([] : List Keyword).length + (if ([] : List Keyword).isEmpty then 0 else 1) < 30)) = true := by rfl)
    (hline : (apos.endLine == cpos.line) = true := by rfl) (hs : starEach (e :: es) X.env = (false, eval e X.env) :: starEach es X.env := by rfl) (hplain : (backTo cpos (starEach es X.env)).any (·.1) = false := by rfl) (hK : X.K = K := by rfl) :
    PE X (.Call (.Attribute o name apos) (e :: es) [] cpos) (tBM K T r to t) := by subst hK; exact pe_bm pa slot hty hm ho ha hbase hfew hline hs hplain
end
end Pw

set_option maxHeartbeats 0
/-! ### the head: facts by names, the run -/
namespace PwH
open PySem PySem.Spec PyProof.Rows L2 Pw
abbrev R : PySem.W.OpenRow := PySem.W.OpenLaw.row PySem.Challenge.rw_probewell_k97_whole_least_lists
def qv : Program := PySem.W.view R.prog [148]
def nm0 : List PySem.Str := [("_wall" : PySem.Str), ("ProbeError" : PySem.Str), ("NoMachine" : PySem.Str), ("NoState" : PySem.Str), ("NoProbe" : PySem.Str), ("NoAnswers" : PySem.Str), ("NoSize" : PySem.Str), ("Unfit" : PySem.Str), ("TooMuch" : PySem.Str), ("Unsteady" : PySem.Str), ("Ended" : PySem.Str), ("NoText" : PySem.Str), ("NoRow" : PySem.Str), ("NoName" : PySem.Str), ("is_whole" : PySem.Str), ("MOST_STATES_tables" : PySem.Str), ("MOST_ASKS_tables" : PySem.Str), ("is_answer" : PySem.Str), ("is_step" : PySem.Str), ("is_row" : PySem.Str), ("is_machine" : PySem.Str), ("checked" : PySem.Str), ("asks_of" : PySem.Str), ("MOST_LONG" : PySem.Str), ("is_probe" : PySem.Str), ("is_state" : PySem.Str), ("steps" : PySem.Str), ("walk" : PySem.Str), ("run" : PySem.Str), ("next_told" : PySem.Str), ("new_ones" : PySem.Str), ("apart" : PySem.Str), ("told_apart" : PySem.Str), ("rank" : PySem.Str), ("marks" : PySem.Str)]
def nm1 : List PySem.Str := [("search" : PySem.Str), ("ways" : PySem.Str), ("reached" : PySem.Str), ("leaders" : PySem.Str), ("least" : PySem.Str), ("rows_of" : PySem.Str), ("book_size" : PySem.Str), ("MOST_STATES_books" : PySem.Str), ("MOST_PROBES" : PySem.Str), ("probes_of" : PySem.Str), ("book" : PySem.Str), ("next_pair" : PySem.Str), ("sources" : PySem.Str), ("lengths" : PySem.Str), ("never" : PySem.Str), ("MOST_gathering" : PySem.Str), ("led" : PySem.Str), ("led_gathering" : PySem.Str), ("is_set" : PySem.Str), ("together_of" : PySem.Str), ("together" : PySem.Str), ("ends" : PySem.Str), ("homed" : PySem.Str), ("first_unlike" : PySem.Str), ("parted" : PySem.Str), ("home" : PySem.Str), ("MANY_ASKS_limits" : PySem.Str), ("MOST_STATES_limits" : PySem.Str), ("within" : PySem.Str), ("within_limits" : PySem.Str), ("MOST_ASKS_notebook" : PySem.Str), ("MANY_ASKS_notebook" : PySem.Str), ("is_row_of_asks" : PySem.Str), ("are_answers" : PySem.Str), ("Notes" : PySem.Str)]
def nm2 : List PySem.Str := [("unlike_at" : PySem.Str), ("Learner" : PySem.Str), ("unlike_ask" : PySem.Str), ("compare" : PySem.Str), ("fault" : PySem.Str), ("MOST_STATES_slips" : PySem.Str), ("moved" : PySem.Str), ("slip" : PySem.Str), ("FIGURES" : PySem.Str), ("LONGEST" : PySem.Str), ("MOST_texts" : PySem.Str), ("written" : PySem.Str), ("show" : PySem.Str), ("read_step" : PySem.Str), ("read" : PySem.Str), ("show_row" : PySem.Str), ("read_row" : PySem.Str), ("read_probe" : PySem.Str), ("read_answers" : PySem.Str), ("thin" : PySem.Str), ("MOST_trees" : PySem.Str), ("look" : PySem.Str), ("led_trees" : PySem.Str), ("sets_of" : PySem.Str), ("within_trees" : PySem.Str), ("depths_of" : PySem.Str), ("best" : PySem.Str), ("reaches" : PySem.Str), ("grown" : PySem.Str), ("tree_of" : PySem.Str), ("tree" : PySem.Str), ("depth" : PySem.Str), ("LETTERS" : PySem.Str), ("ROWS" : PySem.Str), ("MAKES" : PySem.Str)]
def nm3 : List PySem.Str := [("words_of" : PySem.Str), ("name_of" : PySem.Str), ("state_of" : PySem.Str), ("size_of" : PySem.Str), ("fitting" : PySem.Str), ("said_apart" : PySem.Str), ("played" : PySem.Str), ("Desk" : PySem.Str), ("_law_cell_at" : PySem.Str), ("_law_kernel" : PySem.Str), ("_law_stream" : PySem.Str), ("_law_blown" : PySem.Str), ("_law_changed" : PySem.Str), ("_law_text" : PySem.Str), ("_law_alike" : PySem.Str), ("_law_many" : PySem.Str), ("_law_least" : PySem.Str)]
def names : List PySem.Str := nm0 ++ (nm1 ++ (nm2 ++ (nm3)))
def dis_whole : He.DefD := ⟨("is_whole", none), "is_whole", "is_whole", defArgs (top 16), defBody (top 16), defScope (top 16), [], []⟩
def dis_answer : He.DefD := ⟨("is_answer", none), "is_answer", "is_answer", defArgs (top 20), defBody (top 20), defScope (top 20), [], []⟩
def dis_step : He.DefD := ⟨("is_step", none), "is_step", "is_step", defArgs (top 21), defBody (top 21), defScope (top 21), [], []⟩
def dis_row : He.DefD := ⟨("is_row", none), "is_row", "is_row", defArgs (top 22), defBody (top 22), defScope (top 22), [], []⟩
def dis_machine : He.DefD := ⟨("is_machine", none), "is_machine", "is_machine", defArgs (top 23), defBody (top 23), defScope (top 23), [], []⟩
def dchecked : He.DefD := ⟨("checked", none), "checked", "checked", defArgs (top 24), defBody (top 24), defScope (top 24), [], []⟩
def dasks_of : He.DefD := ⟨("asks_of", none), "asks_of", "asks_of", defArgs (top 25), defBody (top 25), defScope (top 25), [], []⟩
def dnext_told : He.DefD := ⟨("next_told", none), "next_told", "next_told", defArgs (top 34), defBody (top 34), defScope (top 34), [], []⟩
def dnew_ones : He.DefD := ⟨("new_ones", none), "new_ones", "new_ones", defArgs (top 35), defBody (top 35), defScope (top 35), [], []⟩
def dapart : He.DefD := ⟨("apart", none), "apart", "apart", defArgs (top 36), defBody (top 36), defScope (top 36), [], []⟩
def dleaders : He.DefD := ⟨("leaders", none), "leaders", "leaders", defArgs (top 46), defBody (top 46), defScope (top 46), [], []⟩
def dsearch : He.DefD := ⟨("search", none), "search", "search", defArgs (top 42), defBody (top 42), defScope (top 42), [], []⟩
def dreached : He.DefD := ⟨("reached", none), "reached", "reached", defArgs (top 44), defBody (top 44), defScope (top 44), [], []⟩
def dleast : He.DefD := ⟨("least", none), "least", "least", defArgs (top 47), defBody (top 47), defScope (top 47), [], []⟩
def dunlike_ask : He.DefD := ⟨("unlike_ask", none), "unlike_ask", "unlike_ask", defArgs (top 89), defBody (top 89), defScope (top 89), [], []⟩
def dcompare : He.DefD := ⟨("compare", none), "compare", "compare", defArgs (top 90), defBody (top 90), defScope (top 90), [], []⟩
def dwritten : He.DefD := ⟨("written", none), "written", "written", defArgs (top 101), defBody (top 101), defScope (top 101), [], []⟩
def dshow : He.DefD := ⟨("show", none), "show", "show", defArgs (top 102), defBody (top 102), defScope (top 102), [], []⟩
def dread_step : He.DefD := ⟨("read_step", none), "read_step", "read_step", defArgs (top 103), defBody (top 103), defScope (top 103), [], []⟩
def dread : He.DefD := ⟨("read", none), "read", "read", defArgs (top 104), defBody (top 104), defScope (top 104), [], []⟩
def dshow_row : He.DefD := ⟨("show_row", none), "show_row", "show_row", defArgs (top 105), defBody (top 105), defScope (top 105), [], []⟩
def dwords_of : He.DefD := ⟨("words_of", none), "words_of", "words_of", defArgs (top 130), defBody (top 130), defScope (top 130), [], []⟩
def dname_of : He.DefD := ⟨("name_of", none), "name_of", "name_of", defArgs (top 131), defBody (top 131), defScope (top 131), [], []⟩
def dlaw_cell_at : He.DefD := ⟨("_law_cell_at", none), "_law_cell_at", "_law_cell_at", defArgs (top 139), defBody (top 139), defScope (top 139), [], []⟩
def dlaw_kernel : He.DefD := ⟨("_law_kernel", none), "_law_kernel", "_law_kernel", defArgs (top 140), defBody (top 140), defScope (top 140), [], []⟩
def dlaw_stream : He.DefD := ⟨("_law_stream", none), "_law_stream", "_law_stream", defArgs (top 141), defBody (top 141), defScope (top 141), [], []⟩
def dlaw_blown : He.DefD := ⟨("_law_blown", none), "_law_blown", "_law_blown", defArgs (top 142), defBody (top 142), defScope (top 142), [], []⟩
def dlaw_changed : He.DefD := ⟨("_law_changed", none), "_law_changed", "_law_changed", defArgs (top 143), defBody (top 143), defScope (top 143), [], []⟩
def dlaw_text : He.DefD := ⟨("_law_text", none), "_law_text", "_law_text", defArgs (top 144), defBody (top 144), defScope (top 144), [], []⟩
def dlaw_alike : He.DefD := ⟨("_law_alike", none), "_law_alike", "_law_alike", defArgs (top 145), defBody (top 145), defScope (top 145), [], []⟩
def dlaw_many : He.DefD := ⟨("_law_many", none), "_law_many", "_law_many", defArgs (top 146), defBody (top 146), defScope (top 146), [], []⟩
def dlaw_least : He.DefD := ⟨("_law_least", none), "_law_least", "_law_least", defArgs (top 147), defBody (top 147), defScope (top 147), [], []⟩
def dlaw : He.DefD := ⟨("law", none), "law", "law", defArgs (top 148), defBody (top 148), defScope (top 148), [], []⟩
def dDesk_init : He.DefD := ⟨("Desk", some "__init__"), "__init__", "Desk.__init__", defArgs (inClass (top 137) 0), defBody (inClass (top 137) 0), defScope (inClass (top 137) 0), [], []⟩
def dDesk_machine_of : He.DefD := ⟨("Desk", some "machine_of"), "machine_of", "Desk.machine_of", defArgs (inClass (top 137) 1), defBody (inClass (top 137) 1), defScope (inClass (top 137) 1), [], []⟩
def dDesk_say : He.DefD := ⟨("Desk", some "say"), "say", "Desk.say", defArgs (inClass (top 137) 2), defBody (inClass (top 137) 2), defScope (inClass (top 137) 2), [], []⟩
def dDesk_say_of_books : He.DefD := ⟨("Desk", some "say_of_books"), "say_of_books", "Desk.say_of_books", defArgs (inClass (top 137) 5), defBody (inClass (top 137) 5), defScope (inClass (top 137) 5), [], []⟩
def dDesk_make : He.DefD := ⟨("Desk", some "make"), "make", "Desk.make", defArgs (inClass (top 137) 6), defBody (inClass (top 137) 6), defScope (inClass (top 137) 6), [], []⟩
def fn : List He.DefD := [dis_whole, dis_answer, dis_step, dis_row, dis_machine, dchecked, dasks_of, dnext_told, dnew_ones, dapart, dleaders, dsearch, dreached, dleast, dunlike_ask, dcompare, dwritten, dshow, dread_step, dread, dshow_row, dwords_of, dname_of, dlaw_cell_at, dlaw_kernel, dlaw_stream, dlaw_blown, dlaw_changed, dlaw_text, dlaw_alike, dlaw_many, dlaw_least, dlaw, dDesk_init, dDesk_machine_of, dDesk_say, dDesk_say_of_books, dDesk_make]
def nms : List PySem.Str := [("is_whole" : PySem.Str), ("is_answer" : PySem.Str), ("is_step" : PySem.Str), ("is_row" : PySem.Str), ("is_machine" : PySem.Str), ("checked" : PySem.Str), ("asks_of" : PySem.Str), ("next_told" : PySem.Str), ("new_ones" : PySem.Str), ("apart" : PySem.Str), ("leaders" : PySem.Str), ("search" : PySem.Str), ("reached" : PySem.Str), ("least" : PySem.Str), ("unlike_ask" : PySem.Str), ("compare" : PySem.Str), ("written" : PySem.Str), ("show" : PySem.Str), ("read_step" : PySem.Str), ("read" : PySem.Str)] ++ [("show_row" : PySem.Str), ("words_of" : PySem.Str), ("name_of" : PySem.Str), ("_law_cell_at" : PySem.Str), ("_law_kernel" : PySem.Str), ("_law_stream" : PySem.Str), ("_law_blown" : PySem.Str), ("_law_changed" : PySem.Str), ("_law_text" : PySem.Str), ("_law_alike" : PySem.Str), ("_law_many" : PySem.Str), ("_law_least" : PySem.Str), ("law" : PySem.Str), ("ROWS" : PySem.Str), ("MAKES" : PySem.Str)]
def faA : List He.Fa := [.glo "is_whole", .glo "is_answer", .glo "is_step", .glo "is_row", .glo "is_machine", .glo "checked", .glo "asks_of", .glo "next_told", .glo "new_ones", .glo "apart", .glo "leaders", .glo "search", .glo "reached", .glo "least", .glo "unlike_ask", .glo "compare", .glo "written", .glo "show", .glo "read_step", .glo "read", .glo "show_row", .glo "words_of", .glo "name_of", .glo "_law_cell_at", .glo "_law_kernel", .glo "_law_stream", .glo "_law_blown", .glo "_law_changed", .glo "_law_text", .glo "_law_alike", .glo "_law_many", .glo "_law_least", .glo "law", .glo "Desk", .glo "ROWS", .glo "MAKES"]
def faB : List He.Fa := [.free "isinstance", .free "int", .free "bool", .free "list", .free "tuple", .free "str", .free "len", .free "abs", .free "max", .free "range", .free "sorted", .int "MOST_STATES_tables" 30, .int "MOST_ASKS_tables" 5, .int "LONGEST" 60, .str "FIGURES" "0123456789", .str "LETTERS" "abcdefghijklmnopqrstuvwxyz", .cls "Desk", .noat "Desk" "machines", .meth "Desk" "machine_of", .meth "Desk" "say", .meth "Desk" "say_of_books", .meth "Desk" "make", .mkr "Desk"]
def fa : List He.Fa := faA ++ faB
def ts : List He.Tab := [(fun K => He.ga K "ROWS", ["machine", "least", "slip", "drop", "learn", "show", "run", "apart", "same", "home", "homed", "together", "tree", "book", "test"])]
def rowV : List (Str × He.Dv) := [("machine", .int 3), ("least", .int 3), ("slip", .int 4), ("drop", .int 2), ("learn", .int 4), ("show", .int 2), ("run", .int 4), ("apart", .int 4), ("same", .int 3), ("home", .int 2), ("homed", .int 4), ("together", .int 2), ("tree", .int 2), ("book", .int 3), ("test", .int 4)]
def mkV : List He.Dv := [.str "machine", .str "least", .str "slip", .str "drop", .str "learn"]
def ex (K : PySem.W.Frag) : Bool := He.valsB K (He.ga K "ROWS") rowV && He.tupB K "MAKES" mkV
/-- what the objects name -/
def refs1 (g : Addr → Option Obj) (as : List Addr) : List Addr := as.flatMap fun a => match g a with
  | some o => He.refsD o
  | none => []
/-- the objects looked at: the defs, their code, the class and its methods, the two tables -/
def asP (g : Addr → Option Obj) : List Addr := asP2 g (nms.map (He.ga (He.frG g [mainGlobals]))) (He.ga (He.frG g [mainGlobals]) "Desk")
where
  asP2 (g : Addr → Option Obj) (L : List Addr) (C : Addr) : List Addr := asP3 g L (C :: refs1 g [C])
  asP3 (g : Addr → Option Obj) (L c1 : List Addr) : List Addr := asP4 g L c1 (refs1 g c1)
  asP4 (g : Addr → Option Obj) (L c1 c2 : List Addr) : List Addr := mainGlobals :: (c1 ++ (L ++ (refs1 g L ++ (c2 ++ refs1 g c2))))
def obsP (g : Addr → Option Obj) : He.AlX := obsK (He.frG g (asP g))
where
  obsK (K : PySem.W.Frag) : He.AlX := (He.obsT fa fn ts K, ex K)
abbrev hk : PySem.W.Hook where
  α := He.AlX
  obs := fun s => obsP s.heap.get?
  val := fun w => (He.valT fn ts w, true)
  says := fun w h => ∃ K : PySem.W.Frag, K.In h ∧ He.SaysT fa fn ts w K ∧ ex K = true
  of := fun _ _ e => ⟨_, He.frG_in, congrArg (fun z : He.AlX => z.1) e, congrArg (fun z : He.AlX => z.2) e⟩
  keeps := fun _ _ _ ⟨K, hK, c⟩ k => ⟨K, PySem.W.Frag.In.keeps hK k, c⟩
def ob (s : PySem.W.SharedT) : He.AlX := obsP (HandSHeadRun.getT s)
theorem ob_eq (s : PySem.W.SharedT) : ob s = hk.obs s.abs := by
  have e : HandSHeadRun.getT s = s.abs.heap.get? := funext (HandSHeadRun.getT_eq s)
  unfold ob
  rw [e]
theorem run_f (w : World) : HandSHeadRun.RunEq R qv hk ob 8000 names (w.withFollow "special-get-raises" false) := by
  intro os
  kernel_rfl
theorem run_t (w : World) : HandSHeadRun.RunEq R qv hk ob 8000 names (w.withFollow "special-get-raises" true) := by
  intro os
  kernel_rfl
theorem run (w : World) : HandSHeadRun.RunEq R qv hk ob 8000 names w := PySem.W.byRow2 "special-get-raises" run_f run_t w
end PwH

set_option maxHeartbeats 4000000
namespace Pw
open PySem PySem.Spec PyProof.Rows L2
open C8 (Cal Met pe_c pe_mt pe_mt0 pe_gc)
section
variable {P : Program} {w : World} {K : PySem.W.Frag} {mg : Str → Option Value} {base : Heap}
theorem kb {Q : VK} {b c : Bool} {H : Hp} (e : b = c) (k : Q (.bl c) H) : Q (.bl b) H := by rw [e]; exact k
/-! ### wholes -/
abbrev sis_whole : Stmt := top 16
abbrev nis_whole : List Str := ["thing"]
theorem scis_whole : FnScope nis_whole ["thing"] (defScope sis_whole) := ⟨rfl, rfl, rfl, by decide +kernel, rfl, by decide +kernel, by decide +kernel⟩
theorem bis_whole {K : PySem.W.Frag} {f : Addr} {fd : FuncData} (F : FunD K "is_whole" "is_whole" (defArgs sis_whole) (defBody sis_whole) (defScope sis_whole) [] [] f fd) : Binds K fd ["thing"] [] := F.bindsN fun _ _ _ _ _ _ us hl => match us, hl with | [_], _ => rfl
def spIsWhole : Sp := fun vs H Q _ => ∃ i : Int, vs = [.int i] ∧ Q (.bl true) H
theorem c_is_whole (D : DefAt K mg "is_whole" sis_whole) (T : Txt K mg) : Cal P w K mg base 1 "is_whole" spIsWhole [] := by
  refine mkCal D bis_whole scis_whole (fun vs H Q E h => ?_) fun f cdv A outer s H vs Q E hr h => ?_
  · obtain ⟨i, rfl, _⟩ := h; rfl
  · obtain ⟨i, rfl, k⟩ := h
    have nd := scis_whole.nd
    refine ⟨_, pss_one (ps_ret (pe_and (pe_callB (id := "isinstance") call_isi rfl T.n_isinstance (by decide +kernel) (pa_cons (pv 0) (pa_cons (pe_bltn (v := .ty "int") rfl T.n_int (by decide +kernel) rfl) pa_nil))) (pe_one (pe_not (pe_callB (id := "isinstance") call_isi rfl T.n_isinstance (by decide +kernel) (pa_cons (pv 0) (pa_cons (pe_bltn (v := .ty "bool") rfl T.n_bool (by decide +kernel) rfl) pa_nil))))))), ?_⟩
    exact ⟨_, rfl, _, _, _, _, true, rfl, .ty "int", .base (.int i), kit_ty (by decide +kernel), true, rfl, iteT ⟨_, rfl, _, _, _, _, false, rfl, .ty "bool", .base (.int i), kit_ty (by decide +kernel), false, rfl, k⟩⟩
/-! ### tables -/
abbrev sis_answer : Stmt := top 20
abbrev nis_answer : List Str := ["thing"]
theorem scis_answer : FnScope nis_answer ["thing"] (defScope sis_answer) := ⟨rfl, rfl, rfl, by decide +kernel, rfl, by decide +kernel, by decide +kernel⟩
theorem bis_answer {K : PySem.W.Frag} {f : Addr} {fd : FuncData} (F : FunD K "is_answer" "is_answer" (defArgs sis_answer) (defBody sis_answer) (defScope sis_answer) [] [] f fd) : Binds K fd ["thing"] [] := F.bindsN fun _ _ _ _ _ _ us hl => match us, hl with | [_], _ => rfl
def spIsAnswer : Sp := fun vs H Q _ => ∃ i : Int, vs = [.int i] ∧ i.natAbs < 10 ^ 60 ∧ Q (.bl true) H
theorem c_is_answer (D : DefAt K mg "is_answer" sis_answer) (T : Txt K mg) (C_is_whole : Cal P w K mg base 1 "is_whole" spIsWhole []) : Cal P w K mg base 2 "is_answer" spIsAnswer [] := by
  refine mkCal D bis_answer scis_answer (fun vs H Q E h => ?_) fun f cdv A outer s H vs Q E hr h => ?_
  · obtain ⟨i, rfl, _⟩ := h; rfl
  · obtain ⟨i, rfl, hi, k⟩ := h
    have nd := scis_answer.nd
    refine ⟨_, pss_one (ps_ret (pe_and (pe_c C_is_whole hr (by decide) rfl (pa_cons (pv 0) pa_nil)) (pe_one (pe_cmpR op_lt (pe_callB (id := "abs") call_abs rfl T.n_abs (by decide +kernel) (pa_cons (pv 0) pa_nil)) (pe_op op_pow pe_int pe_int) (nomark _))))), ?_⟩
    refine ⟨_, rfl, i, rfl, true, rfl, iteT ⟨_, rfl, i, rfl, _, _, rfl, rfl, ⟨by decide, by decide, by decide⟩, _, _, rfl, rfl, ?_⟩⟩
    have e : decide ((if i < 0 then -i else i) < (10 : Int) ^ (60 : Int).toNat) = true := by
      have e60 : (10 : Int) ^ (60 : Int).toNat = ((10 ^ 60 : Nat) : Int) := by decide
      rw [decide_eq_true_eq, e60]
      split <;> omega
    exact kb e k
/-- is_step: a tuple -/
abbrev sis_step : Stmt := top 21
abbrev nis_step : List Str := ["thing", "many"]
theorem scis_step : FnScope nis_step ["thing", "many"] (defScope sis_step) := ⟨rfl, rfl, rfl, by decide +kernel, rfl, by decide +kernel, by decide +kernel⟩
theorem bis_step {K : PySem.W.Frag} {f : Addr} {fd : FuncData} (F : FunD K "is_step" "is_step" (defArgs sis_step) (defBody sis_step) (defScope sis_step) [] [] f fd) : Binds K fd ["thing", "many"] [] := F.bindsN fun _ _ _ _ _ _ us hl => match us, hl with | [_, _], _ => rfl
def spIsStep : Sp := fun vs H Q _ => ∃ (p : Addr) (x : Int) (t n : Nat), vs = [.ref p, .int n] ∧ H p = some (.tup [.int x, .int t]) ∧ x.natAbs < 10 ^ 60 ∧ t < n ∧ Q (.bl true) H
theorem c_is_step (D : DefAt K mg "is_step" sis_step) (T : Txt K mg) (C_is_whole : Cal P w K mg base 1 "is_whole" spIsWhole []) (C_is_answer : Cal P w K mg base 2 "is_answer" spIsAnswer []) : Cal P w K mg base 3 "is_step" spIsStep [] := by
  refine mkCal D bis_step scis_step (fun vs H Q E h => ?_) fun f cdv A outer s H vs Q E hr h => ?_
  · obtain ⟨p, x, t, n, rfl, _⟩ := h; rfl
  · obtain ⟨p, x, t, n, rfl, hp, hx, ht, k⟩ := h
    have nd := scis_step.nd
    refine ⟨_, pss_cons (ps_if (PW.pt (pw_or (pt_not (pt_val (pe_callB (id := "isinstance") call_isi rfl T.n_isinstance (by decide +kernel) (pa_cons (pv 0) (pa_cons (pe_bltn (v := .ty "tuple") rfl T.n_tuple (by decide +kernel) rfl) pa_nil))))) (pw_or1 (pt_cmpR op_ne (pe_callB (id := "len") call_len_seq rfl T.n_len (by decide +kernel) (pa_cons (pv 0) pa_nil)) pe_int (nomark _)))))
      (pss_one (ps_ret pe_bl))
      (pss_nil))
      (pss_one (ps_ret (pe_and (pe_c C_is_answer hr (by decide) rfl (pa_cons (pe_ix ix_tup (pv 0) pe_int (fun _ _ => rfl)) pa_nil)) (pe_and (pe_c C_is_whole hr (by decide) rfl (pa_cons (pe_ix ix_tup (pv 0) pe_int (fun _ _ => rfl)) pa_nil)) (pe_one (pe_chain op_le op_lt pe_int (pe_ix ix_tup (pv 0) pe_int (fun _ _ => rfl)) (pv 1))))))), ?_⟩
    have hs : SqT K H p [.int x, .int t] := .inl (.inl hp)
    refine ⟨_, rfl, _, _, _, _, true, rfl, .ty "tuple", .base (.tup hp), kit_ty (by decide +kernel), true, rfl, ?_⟩
    refine iteF ⟨_, rfl, p, _, rfl, .inr hs, rfl, _, rfl, ?_⟩
    refine iteF ?_
    refine ⟨_, rfl, _, _, _, _, rfl, rfl, hs, rfl, x, rfl, hx, true, rfl, iteT ?_⟩
    refine ⟨_, rfl, _, _, _, _, rfl, rfl, hs, rfl, (t : Int), rfl, true, rfl, iteT ?_⟩
    refine ⟨_, rfl, _, _, _, _, rfl, rfl, hs, rfl, _, _, rfl, rfl, _, rfl, ?_⟩
    rw [decide_eq_true (show (0 : Int) ≤ (t : Int) by omega)]
    refine iteT ⟨_, rfl, _, _, rfl, rfl, ?_⟩
    exact kb (decide_eq_true (show (t : Int) < (n : Int) by omega)) k
/-- is_row: a list of such tuples -/
abbrev sis_row : Stmt := top 22
abbrev nis_row : List Str := ["thing", "asks", "many", "step"]
theorem scis_row : FnScope nis_row ["thing", "asks", "many"] (defScope sis_row) := ⟨rfl, rfl, rfl, by decide +kernel, rfl, by decide +kernel, by decide +kernel⟩
theorem bis_row {K : PySem.W.Frag} {f : Addr} {fd : FuncData} (F : FunD K "is_row" "is_row" (defArgs sis_row) (defBody sis_row) (defScope sis_row) [] [] f fd) : Binds K fd ["thing", "asks", "many"] [] := F.bindsN fun _ _ _ _ _ _ us hl => match us, hl with | [_, _, _], _ => rfl
def Big (row : Row) (n : Nat) : Prop := ∀ c ∈ row, c.1.natAbs < 10 ^ 60 ∧ c.2 < n
def spIsRow : Sp := fun vs H Q _ => ∃ (r : Addr) (row : Row) (n : Nat), vs = [.ref r, .int row.length, .int n] ∧ RowAt H r row ∧ Big row n ∧ Q (.bl true) H
theorem c_is_row (D : DefAt K mg "is_row" sis_row) (T : Txt K mg) (C_is_step : Cal P w K mg base 3 "is_step" spIsStep []) : Cal P w K mg base 4 "is_row" spIsRow [] := by
  refine mkCal D bis_row scis_row (fun vs H Q E h => ?_) fun f cdv A outer s H vs Q E hr h => ?_
  · obtain ⟨r, row, n, rfl, _⟩ := h; rfl
  · obtain ⟨r, row, n, rfl, ⟨ps, hR⟩, hB, k⟩ := h
    have nd := scis_row.nd
    refine ⟨_, pss_cons (ps_if (PW.pt (pw_or (pt_not (pt_val (pe_callB (id := "isinstance") call_isi rfl T.n_isinstance (by decide +kernel) (pa_cons (pv 0) (pa_cons (pe_bltn (v := .ty "list") rfl T.n_list (by decide +kernel) rfl) pa_nil))))) (pw_or1 (pt_cmpR op_ne (pe_callB (id := "len") call_len_seq rfl T.n_len (by decide +kernel) (pa_cons (pv 0) pa_nil)) (pv 1) (nomark _)))))
      (pss_one (ps_ret pe_bl))
      (pss_nil))
      (pss_cons (ps_for PassesOwn.never rfl (pi_list (pv 0)) (pg_name (i := 3) nd rfl (Or.inl rfl))
      (pss_one (ps_if (pt_not (pt_val (pe_c C_is_step hr (by decide) rfl (pa_cons (pv 3) (pa_cons (pv 2) pa_nil)))))
        (pss_one (ps_ret pe_bl))
        (pss_nil))))
      (pss_one (ps_ret pe_bl))), ?_⟩
    have hs : SqL K H r (ps.map V.ref) := SqL.of hR.lst
    refine ⟨_, rfl, _, _, _, _, true, rfl, .ty "list", .base (.lst hR.lst), kit_ty (by decide +kernel), true, rfl, ?_⟩
    refine iteF ⟨_, rfl, r, _, rfl, .inl hs, _, rfl, rfl, _, rfl, ?_⟩
    rw [decide_eq_true (show V.int ((ps.map V.ref).length : Int) = V.int (row.length : Int) by rw [List.length_map, hR.len])]
    refine iteF ?_
    refine ⟨_, rfl, r, rfl, ⟨_, hs⟩, for_list (K := K) (a := r) (xs := ps.map V.ref) (fun i σ H' => (∃ v, σ = [some (.ref r), some (.int row.length), some (.int n), v]) ∧ H' = H) ⟨⟨none, rfl⟩, rfl⟩ (fun i σ H' _ h => by rw [h.2]; exact hs) ?_ ?_⟩
    · rintro i y σ H' hi ⟨⟨v, rfl⟩, rfl⟩
      obtain ⟨p, hp, rfl⟩ : ∃ p, ps[i]? = some p ∧ y = V.ref p := by
        rw [List.getElem?_map] at hi
        cases e : ps[i]? with
        | none => rw [e] at hi; cases hi
        | some p => rw [e] at hi; exact ⟨p, rfl, (Option.some.inj hi).symm⟩
      have hil : i < row.length := by rw [← hR.len]; exact (List.getElem?_eq_some_iff.mp hp).1
      have hc := List.getElem?_eq_getElem hil
      have hb := hB _ (List.getElem_mem hil)
      exact ⟨_, rfl, _, rfl, p, _, _, n, rfl, hR.cell i p _ hp hc, hb.1, hb.2, true, rfl, iteF ⟨⟨_, rfl⟩, rfl⟩⟩
    · rintro σ H' ⟨⟨v, rfl⟩, rfl⟩
      exact k
abbrev sis_machine : Stmt := top 23
abbrev nis_machine : List Str := ["thing", "row"]
theorem scis_machine : FnScope nis_machine ["thing"] (defScope sis_machine) := ⟨rfl, rfl, rfl, by decide +kernel, rfl, by decide +kernel, by decide +kernel⟩
theorem bis_machine {K : PySem.W.Frag} {f : Addr} {fd : FuncData} (F : FunD K "is_machine" "is_machine" (defArgs sis_machine) (defBody sis_machine) (defScope sis_machine) [] [] f fd) : Binds K fd ["thing"] [] := F.bindsN fun _ _ _ _ _ _ us hl => match us, hl with | [_], _ => rfl
/-- a machine within the bounds of the text -/
structure Fit (k n : Nat) (M : Mach) : Prop where
  ok : Ok k n M
  n30 : n ≤ 30
  k5 : k ≤ 5
  big : ∀ row ∈ M, ∀ c ∈ row, c.1.natAbs < 10 ^ 60
theorem Fit.bigs {k n : Nat} {M : Mach} (f : Fit k n M) {row : Row} (h : row ∈ M) : Big row n := fun c hc => ⟨f.big row h c hc, f.ok.next row h c hc⟩
def spIsMachine : Sp := fun vs H Q _ => ∃ (a : Addr) (k n : Nat) (M : Mach), vs = [.ref a] ∧ MachAt H a M ∧ Fit k n M ∧ Q (.bl true) H
theorem c_is_machine (D : DefAt K mg "is_machine" sis_machine) (T : Txt K mg) (C_is_row : Cal P w K mg base 4 "is_row" spIsRow []) : Cal P w K mg base 5 "is_machine" spIsMachine [] := by
  refine mkCal D bis_machine scis_machine (fun vs H Q E h => ?_) fun f cdv A outer s H vs Q E hr h => ?_
  · obtain ⟨a, _, _, M, rfl, _⟩ := h; rfl
  · obtain ⟨a, kk, n, M, rfl, ⟨rs, hM, hR⟩, hF, k⟩ := h
    have nd := scis_machine.nd
    refine ⟨_, pss_cons (ps_if (PW.pt (pw_or (pt_not (pt_val (pe_callB (id := "isinstance") call_isi rfl T.n_isinstance (by decide +kernel) (pa_cons (pv 0) (pa_cons (pe_bltn (v := .ty "list") rfl T.n_list (by decide +kernel) rfl) pa_nil))))) (pw_or1 (pt_not (pt_chain op_le op_le pe_int (pe_callB (id := "len") call_len_seq rfl T.n_len (by decide +kernel) (pa_cons (pv 0) pa_nil)) (pe_gc rfl T.c_MOST_STATES_tables))))))
      (pss_one (ps_ret pe_bl))
      (pss_nil))
      (pss_cons (ps_if (PW.pt (pw_or (pt_not (pt_val (pe_callB (id := "isinstance") call_isi rfl T.n_isinstance (by decide +kernel) (pa_cons (pe_ix ix_list (pv 0) pe_int (fun _ _ => rfl)) (pa_cons (pe_bltn (v := .ty "list") rfl T.n_list (by decide +kernel) rfl) pa_nil))))) (pw_or1 (pt_not (pt_chain op_le op_le pe_int (pe_callB (id := "len") call_len_seq rfl T.n_len (by decide +kernel) (pa_cons (pe_ix ix_list (pv 0) pe_int (fun _ _ => rfl)) pa_nil)) (pe_gc rfl T.c_MOST_ASKS_tables))))))
      (pss_one (ps_ret pe_bl))
      (pss_nil))
      (pss_cons (ps_for PassesOwn.never rfl (pi_list (pv 0)) (pg_name (i := 1) nd rfl (Or.inl rfl))
      (pss_one (ps_if (pt_not (pt_val (pe_c C_is_row hr (by decide) rfl (pa_cons (pv 1) (pa_cons (pe_callB (id := "len") call_len_seq rfl T.n_len (by decide +kernel) (pa_cons (pe_ix ix_list (pv 0) pe_int (fun _ _ => rfl)) pa_nil)) (pa_cons (pe_callB (id := "len") call_len_seq rfl T.n_len (by decide +kernel) (pa_cons (pv 0) pa_nil)) pa_nil))))))
        (pss_one (ps_ret pe_bl))
        (pss_nil))))
      (pss_one (ps_ret pe_bl)))), ?_⟩
    have hs : SqL K H a (rs.map V.ref) := SqL.of hM
    have hl : (rs.map V.ref).length = n := by rw [List.length_map, hR.len, hF.ok.len]
    have hn := hF.ok.pos
    have hn30 := hF.n30
    have hk := hF.ok.kpos
    have hk5 := hF.k5
    obtain ⟨row0, hr0, hl0, hm0⟩ := hF.ok.at hn
    obtain ⟨rs', r, g1, g2, ps, g3⟩ := MachAt.at ⟨rs, hM, hR⟩ hr0
    have e : rs' = rs := by
      have z := g1.symm.trans hM
      injection z with z; injection z with z
      exact List.map_inj_right (fun _ _ q => by injection q) |>.mp z
    subst e
    have hs0 : SqL K H r (ps.map V.ref) := SqL.of g3.lst
    have hl2 : (ps.map V.ref).length = kk := by rw [List.length_map, g3.len, hl0]
    refine ⟨_, rfl, _, _, _, _, true, rfl, .ty "list", .base (.lst hM), kit_ty (by decide +kernel), true, rfl, ?_⟩
    refine iteF ⟨_, rfl, a, _, rfl, .inl hs, _, _, rfl, rfl, _, rfl, ?_⟩
    rw [hl, decide_eq_true (show (1 : Int) ≤ (n : Int) by omega)]
    refine iteT ⟨_, _, rfl, rfl, _, rfl, ?_⟩
    rw [decide_eq_true (show (n : Int) ≤ 30 by omega)]
    refine iteF ?_
    refine ⟨_, rfl, _, _, _, _, rfl, rfl, hs, g2, _, _, _, _, true, rfl, .ty "list", .base (.lst g3.lst), kit_ty (by decide +kernel), true, rfl, ?_⟩
    refine iteF ⟨_, rfl, _, _, _, _, rfl, rfl, hs, g2, r, _, rfl, .inl hs0, _, _, rfl, rfl, _, rfl, ?_⟩
    rw [hl2, decide_eq_true (show (1 : Int) ≤ (kk : Int) by omega)]
    refine iteT ⟨_, _, rfl, rfl, _, rfl, ?_⟩
    rw [decide_eq_true (show (kk : Int) ≤ 5 by omega)]
    refine iteF ?_
    refine ⟨_, rfl, a, rfl, ⟨_, hs⟩, for_list (K := K) (a := a) (xs := rs'.map V.ref) (fun i σ H' => (∃ v, σ = [some (.ref a), v]) ∧ H' = H) ⟨⟨none, rfl⟩, rfl⟩ (fun i σ H' _ h => by rw [h.2]; exact hs) ?_ ?_⟩
    · rintro i y σ H' hi ⟨⟨v, rfl⟩, rfl⟩
      obtain ⟨q, hq, rfl⟩ : ∃ q, rs'[i]? = some q ∧ y = V.ref q := by
        rw [List.getElem?_map] at hi
        cases e : rs'[i]? with
        | none => rw [e] at hi; cases hi
        | some q => rw [e] at hi; exact ⟨q, rfl, (Option.some.inj hi).symm⟩
      have hil : i < M.length := by rw [← hR.len]; exact (List.getElem?_eq_some_iff.mp hq).1
      have hc := List.getElem?_eq_getElem hil
      have hmem := List.getElem_mem hil
      have hkk := hF.ok.rows _ hmem
      refine ⟨_, rfl, _, rfl, _, _, _, _, rfl, rfl, hs, g2, r, _, rfl, .inl hs0, _, rfl, a, _, rfl, .inl hs, q, M[i], n, ?_, hR.row i q _ hq hc, hF.bigs hmem, true, rfl, iteF ⟨⟨_, rfl⟩, rfl⟩⟩
      rw [hl, hl2, hkk]
      rfl
    · rintro σ H' ⟨⟨v, rfl⟩, rfl⟩
      exact k
abbrev schecked : Stmt := top 24
abbrev nchecked : List Str := ["thing", "row"]
theorem scchecked : FnScope nchecked ["thing"] (defScope schecked) := ⟨rfl, rfl, rfl, by decide +kernel, rfl, by decide +kernel, by decide +kernel⟩
theorem bchecked {K : PySem.W.Frag} {f : Addr} {fd : FuncData} (F : FunD K "checked" "checked" (defArgs schecked) (defBody schecked) (defScope schecked) [] [] f fd) : Binds K fd ["thing"] [] := F.bindsN fun _ _ _ _ _ _ us hl => match us, hl with | [_], _ => rfl
/-- checked: the rows' tuples are the old ones, the lists are new -/
def spChecked : Sp := fun vs H Q _ => ∃ (a : Addr) (k n : Nat) (M : Mach) (rs : List Addr) (pss : List (List Addr)), vs = [.ref a] ∧ Fit k n M ∧ H a = some (.lst (rs.map V.ref)) ∧ rs.length = M.length ∧ pss.length = M.length ∧
  (∀ (i : Nat) (r : Addr) (ps : List Addr) (row : Row), rs[i]? = some r → pss[i]? = some ps → M[i]? = some row → RowIn H r ps row) ∧
  ∀ (H' : Hp) (b : Addr) (qs : List Addr), Same H H' → nw H H' b = some (.lst (qs.map V.ref)) → qs.length = M.length → (∀ (i : Nat) (q : Addr) (ps : List Addr), qs[i]? = some q → pss[i]? = some ps → nw H H' q = some (.lst (ps.map V.ref))) → Q (.ref b) H'
theorem c_checked (D : DefAt K mg "checked" schecked) (T : Txt K mg) (C_is_machine : Cal P w K mg base 5 "is_machine" spIsMachine []) : Cal P w K mg base 6 "checked" spChecked [] := by
  refine mkCal D bchecked scchecked (fun vs H Q E h => ?_) fun f cdv A outer s H vs Q E hr h => ?_
  · obtain ⟨a, _, _, M, rs, pss, rfl, _⟩ := h; rfl
  · obtain ⟨a, kk, n, M, rs, pss, rfl, hF, hM, hl, hl2, hR, k⟩ := h
    have nd := scchecked.nd
    refine ⟨_, pss_cons (ps_if (pt_not (pt_val (pe_c C_is_machine hr (by decide) rfl (pa_cons (pv 0) pa_nil))))
      (pss_one (ps_never))
      (pss_nil))
      (pss_one (ps_ret (pe_lc (own := [("row", 1)]) rfl nd (pi_list (pv 0)) (blkOk_by (N := nchecked) (sc := defScope schecked) (by decide +kernel)) (fun _ _ _ _ _ => pg_name (i := 1) nd rfl (Or.inl rfl)) (fun _ _ _ _ _ => pts_nil) (fun _ _ _ _ _ => (pe_callTy (T := "list") (call_list_ofK K) rfl T.n_list (by decide +kernel) (pa_cons (pv 1) pa_nil)))))), ?_⟩
    have hs : SqL K H a (rs.map V.ref) := SqL.of hM
    refine ⟨_, rfl, a, kk, n, M, rfl, ⟨rs, hM, hl, fun i r row e1 e2 => ?_⟩, hF, true, rfl, iteF ?_⟩
    · have hi : i < pss.length := by rw [hl2]; exact (List.getElem?_eq_some_iff.mp e2).1
      exact ⟨_, hR i r _ row e1 (List.getElem?_eq_getElem hi) e2⟩
    refine ⟨_, rfl, a, rfl, ⟨_, hs⟩, fun b nb => ?_⟩
    refine lc_list (K := K) (a := a) (xs := rs.map V.ref) (fun i H' => ∃ qs : List Addr, qs.length = i ∧ Same H H' ∧ H' b = some (.lst (qs.map V.ref)) ∧ ∀ (j : Nat) (q : Addr) (ps : List Addr), qs[j]? = some q → pss[j]? = some ps → nw H (wo H' b) q = some (.lst (ps.map V.ref)))
      ⟨[], rfl, Same.fresh nb, upd_same, fun j q ps e => by cases j <;> cases e⟩ (fun i H' _ ⟨_, _, s1, _⟩ => s1.seq hs) ?_ ?_
    · rintro i y H' hi ⟨qs, hq, s1, hb, hall⟩
      obtain ⟨r, hr', rfl⟩ : ∃ q, rs[i]? = some q ∧ y = V.ref q := by
        rw [List.getElem?_map] at hi
        cases e : rs[i]? with
        | none => rw [e] at hi; cases hi
        | some q => rw [e] at hi; exact ⟨q, rfl, (Option.some.inj hi).symm⟩
      have hil : i < M.length := by rw [← hl]; exact (List.getElem?_eq_some_iff.mp hr').1
      have hp := List.getElem?_eq_getElem (show i < pss.length by omega)
      have hR1 := hR i r _ _ hr' hp (List.getElem?_eq_getElem hil)
      refine ⟨rfl, _, rfl, r, _, rfl, .inl (s1.seq (SqL.of hR1.lst)), fun q nq => ?_⟩
      have nbq : b ≠ q := ne_of_none hb nq
      refine ⟨_, (by rw [upd_ne nbq]; exact hb), ?_, qs ++ [q], (by rw [List.length_append, hq] <;> rfl), ?_, ?_, fun j q' ps e1 e2 => ?_⟩
      · have h1 : i < 1000 := by have := hF.n30; have := hF.ok.len; omega
        rw [List.length_map, hq]
        exact small1000 (by omega)
      · exact (s1.upd (s1.free nq)).upd nb
      · rw [upd_same, List.map_append]; rfl
      · rw [wo_upd]
        rcases snoc_at e1 with ⟨a1, a2⟩ | ⟨a1, a2⟩
        · exact (Same.nw2 (Same.wo2 (Same.fresh nq))) _ _ (hall j q' ps a2 e2)
        · subst a2
          rw [nw_at (s1.free nq), wo_at nbq.symm, upd_same]
          rw [a1, hq, hp] at e2
          rw [Option.some.inj e2]
    · rintro H' ⟨qs, hq, s1, hb, hall⟩
      rw [List.length_map] at hq
      refine k H' b qs s1 (by rw [nw_at nb]; exact hb) (by omega) fun i q ps e1 e2 => ?_
      exact (Same.nw2 (Same.wo H' b)) _ _ (hall i q ps e1 e2)
abbrev sasks_of : Stmt := top 25
abbrev nasks_of : List Str := ["machine"]
theorem scasks_of : FnScope nasks_of ["machine"] (defScope sasks_of) := ⟨rfl, rfl, rfl, by decide +kernel, rfl, by decide +kernel, by decide +kernel⟩
theorem basks_of {K : PySem.W.Frag} {f : Addr} {fd : FuncData} (F : FunD K "asks_of" "asks_of" (defArgs sasks_of) (defBody sasks_of) (defScope sasks_of) [] [] f fd) : Binds K fd ["machine"] [] := F.bindsN fun _ _ _ _ _ _ us hl => match us, hl with | [_], _ => rfl
def spAsks : Sp := fun vs H Q _ => ∃ (a : Addr) (k n : Nat) (M : Mach), vs = [.ref a] ∧ MachAt H a M ∧ Ok k n M ∧ Q (.int k) H
theorem c_asks_of (D : DefAt K mg "asks_of" sasks_of) (T : Txt K mg) : Cal P w K mg base 1 "asks_of" spAsks [] := by
  refine mkCal D basks_of scasks_of (fun vs H Q E h => ?_) fun f cdv A outer s H vs Q E hr h => ?_
  · obtain ⟨a, _, _, M, rfl, _⟩ := h; rfl
  · obtain ⟨a, kk, n, M, rfl, hM, hO, k⟩ := h
    have nd := scasks_of.nd
    refine ⟨_, pss_one (ps_ret (pe_callB (id := "len") call_len_seq rfl T.n_len (by decide +kernel) (pa_cons (pe_ix ix_list (pv 0) pe_int (fun _ _ => rfl)) pa_nil))), ?_⟩
    obtain ⟨row0, hr0, hl0, hm0⟩ := hO.at hO.pos
    obtain ⟨rs, r, g1, g2, ps, g3⟩ := hM.at hr0
    refine ⟨_, rfl, _, _, _, _, rfl, rfl, SqL.of g1, g2, r, _, rfl, .inl (SqL.of g3.lst), ?_⟩
    rw [List.length_map, g3.len, hl0]
    exact k
end
end Pw

namespace Pw
open PySem PySem.Spec PyProof.Rows L2
open C8 (Cal Met pe_c pe_mt pe_mt0 pe_gc)
/-! ### the table in the heap -/
/-- an entry: None, or a list of at most B asks -/
def EntV (G : Hp) (B : Nat) (v : V) : Bool → Prop
  | false => v = .non
  | true => ∃ (q : Addr) (l : List Nat), v = .ref q ∧ G q = some (.lst (natsV l)) ∧ l.length ≤ B
structure TabAt (G H : Hp) (a : Addr) (rs : List Addr) (n B : Nat) (Tb : Nat → Nat → Bool) : Prop where
  lst : H a = some (.lst (rs.map V.ref))
  len : rs.length = n
  row : ∀ (i : Nat) (r : Addr), rs[i]? = some r → ∃ es : List V, H r = some (.lst es) ∧ es.length = n ∧ ∀ (j : Nat) (v : V), es[j]? = some v → EntV G B v (Tb i j)
  nd : rs.Nodup
  out : a ∉ rs
theorem EntV.mono {G G' : Hp} {B B' : Nat} {v : V} {b : Bool} (h : EntV G B v b) (s : Same G G') (hB : B ≤ B') : EntV G' B' v b := by
  cases b with
  | false => exact h
  | true =>
    obtain ⟨q, l, e1, e2, e3⟩ := h
    exact ⟨q, l, e1, s _ _ e2, Nat.le_trans e3 hB⟩
theorem TabAt.mono {G G' H H' : Hp} {a : Addr} {rs : List Addr} {n B B' : Nat} {Tb : Nat → Nat → Bool} (h : TabAt G H a rs n B Tb) (s : Same G G') (t : Same H H') (hB : B ≤ B') : TabAt G' H' a rs n B' Tb :=
  ⟨t _ _ h.lst, h.len, fun i r e => let ⟨es, e1, e2, e3⟩ := h.row i r e; ⟨es, t _ _ e1, e2, fun j v e4 => (e3 j v e4).mono s hB⟩, h.nd, h.out⟩
theorem TabAt.ent {G H : Hp} {a : Addr} {rs : List Addr} {n B : Nat} {Tb : Nat → Nat → Bool} (h : TabAt G H a rs n B Tb) {i j : Nat} (hi : i < n) (hj : j < n) :
    ∃ (r : Addr) (es : List V) (v : V), atI (rs.map V.ref) (i : Int) = some (.ref r) ∧ H r = some (.lst es) ∧ atI es (j : Int) = some v ∧ EntV G B v (Tb i j) := by
  have e1 := List.getElem?_eq_getElem (show i < rs.length by rw [h.len]; exact hi)
  obtain ⟨es, e2, e3, e4⟩ := h.row i _ e1
  have e5 := List.getElem?_eq_getElem (show j < es.length by rw [e3]; exact hj)
  exact ⟨_, es, _, at_ref e1, e2, at_of rfl e5, e4 j _ e5⟩
theorem ne_int {i j : Int} : (!decide (V.int i = V.int j)) = !decide (i = j) := by
  congr 1
  rw [dec_int, Bool.beq_eq_decide_eq]
/-! ### lists of asks as data -/
def natsD (l : List Nat) : PyData := .list (l.map fun x : Nat => .int (x : Int))
theorem natsD_all {K : PySem.W.Frag} {H : Hp} : ∀ l : List Nat, DpAll K H (natsV l) (l.map fun x : Nat => PyData.int (x : Int))
  | [] => .nil
  | x :: l => .cons (.int _) (natsD_all l)
theorem natsD_dp {K : PySem.W.Frag} {H : Hp} {q : Addr} {l : List Nat} (h : H q = some (.lst (natsV l))) : Dp K H (.ref q) (natsD l) := .lst (SqL.of h) (natsD_all l)
theorem natsD_lay : ∀ l : List Nat, PyData.canLayAll0 (l.map fun x : Nat => PyData.int (x : Int)) = true
  | [] => rfl
  | x :: l => by
    rw [List.map_cons]
    show (PyData.canLay0 (.int (x : Int)) && PyData.canLayAll0 (l.map fun x : Nat => PyData.int (x : Int))) = true
    rw [natsD_lay l]
    rfl
theorem natsD_depth : ∀ l : List Nat, PyData.depthAll (l.map fun x : Nat => PyData.int (x : Int)) = 0
  | [] => rfl
  | x :: l => by
    rw [List.map_cons]
    show max (PyData.depth (.int (x : Int))) (PyData.depthAll (l.map fun x : Nat => PyData.int (x : Int))) = 0
    rw [natsD_depth l]
    rfl
theorem natsD_canLay (l : List Nat) : (natsD l).canLay0 = true := natsD_lay l
theorem natsD_dep (l : List Nat) : (natsD l).depth = 1 := by
  show PyData.depthAll (l.map fun x : Nat => PyData.int (x : Int)) + 1 = 1
  rw [natsD_depth]
/-- data that is flat enough -/
def LowD (m : Nat) (d : PyData) : Prop := d.canLay0 = true ∧ d.depth ≤ m
theorem lowD_all {m : Nat} : ∀ {ds : List PyData}, (∀ d ∈ ds, LowD m d) → PyData.canLayAll0 ds = true ∧ PyData.depthAll ds ≤ m
  | [], _ => ⟨rfl, Nat.zero_le _⟩
  | d :: ds, h => by
    obtain ⟨h1, h2⟩ := lowD_all (ds := ds) fun x hx => h x (List.mem_cons_of_mem _ hx)
    obtain ⟨g1, g2⟩ := h d List.mem_cons_self
    refine ⟨?_, ?_⟩
    · show (PyData.canLay0 d && PyData.canLayAll0 ds) = true
      rw [g1, h1]; rfl
    · show max (PyData.depth d) (PyData.depthAll ds) ≤ m
      omega
theorem shaped_list {m : Nat} {ds : List PyData} (h : ∀ d ∈ ds, LowD m d) (hm : m + 1 ≤ 64) : SeqAt.shaped (.list ds) = true := by
  obtain ⟨h1, h2⟩ := lowD_all h
  refine Bool.and_eq_true_iff.mpr ⟨h1, decide_eq_true ?_⟩
  show PyData.depthAll ds + 1 ≤ 64
  omega
section
variable {P : Program} {w : World} {K : PySem.W.Frag} {mg : Str → Option Value} {base : Heap}
abbrev snext_told : Stmt := top 34
abbrev nnext_told : List Str := ["machine", "table", "one", "other", "ask", "here", "there", "behind"]
theorem scnext_told : FnScope nnext_told ["machine", "table", "one", "other"] (defScope snext_told) := ⟨rfl, rfl, rfl, by decide +kernel, rfl, by decide +kernel, by decide +kernel⟩
theorem bnext_told {K : PySem.W.Frag} {f : Addr} {fd : FuncData} (F : FunD K "next_told" "next_told" (defArgs snext_told) (defBody snext_told) (defScope snext_told) [] [] f fd) : Binds K fd ["machine", "table", "one", "other"] [] := F.bindsN fun _ _ _ _ _ _ us hl => match us, hl with | [_, _, _, _], _ => rfl
def spNext : Sp := fun vs H Q _ => ∃ (a t : Addr) (k n B : Nat) (M : Mach) (rs : List Addr) (Tb : Nat → Nat → Bool) (x y : Nat), vs = [.ref a, .ref t, .int x, .int y] ∧ MachAt H a M ∧ Ok k n M ∧ TabAt H H t rs n B Tb ∧ B ≤ 1000 ∧ k ≤ 5 ∧ x < n ∧ y < n ∧
  (¬ Tell k M Tb x y → Q .non H) ∧ ∀ (H' : Hp) (p : Addr) (l : List Nat), Tell k M Tb x y → Same H H' → nw H H' p = some (.lst (natsV l)) → l.length ≤ B + 1 → Q (.ref p) H'
theorem c_next_told (D : DefAt K mg "next_told" snext_told) (T : Txt K mg) (C_asks_of : Cal P w K mg base 1 "asks_of" spAsks []) : Cal P w K mg base 2 "next_told" spNext [] := by
  refine mkCal D bnext_told scnext_told (fun vs H Q E h => ?_) fun f cdv A outer s H vs Q E hr h => ?_
  · obtain ⟨a, t, k, n, B, M, rs, Tb, x, y, rfl, _⟩ := h; rfl
  · obtain ⟨a, t, kk, n, B, M, rs, Tb, x, y, rfl, hM, hO, hT, hB, hk, hx, hy, kN, kS⟩ := h
    have nd := scnext_told.nd
    refine ⟨_, pss_cons (ps_for PassesOwn.never rfl (pi_range1 rfl T.n_range (pa_cons (pe_c C_asks_of hr (by decide) rfl (pa_cons (pv 0) pa_nil)) pa_nil)) (pg_name (i := 4) nd rfl (Or.inl rfl))
      (pss_cons (ps_set (i := 5) nd rfl (Or.inl rfl) (pe_ix ix_list (pe_ix ix_list (pv 0) (pv 2) (fun _ _ => rfl)) (pv 4) (fun _ _ => rfl)))
        (pss_cons (ps_set (i := 6) nd rfl (Or.inl rfl) (pe_ix ix_list (pe_ix ix_list (pv 0) (pv 3) (fun _ _ => rfl)) (pv 4) (fun _ _ => rfl)))
        (pss_cons (ps_if (pt_cmpR op_ne (pe_ix ix_tup (pv 5) pe_int (fun _ _ => rfl)) (pe_ix ix_tup (pv 6) pe_int (fun _ _ => rfl)) (nomark _))
        (pss_one (ps_ret (pe_lst (pa_cons (pv 4) pa_nil))))
        (pss_nil))
        (pss_cons (ps_set (i := 7) nd rfl (Or.inl rfl) (pe_ix ix_list (pe_ix ix_list (pv 1) (pe_ix ix_tup (pv 5) pe_int (fun _ _ => rfl)) (fun _ _ => rfl)) (pe_ix ix_tup (pv 6) pe_int (fun _ _ => rfl)) (fun _ _ => rfl)))
        (pss_one (ps_if (pt_cmp (pc_notN (pv 7)))
        (pss_one (ps_ret (pe_op op_cat (pe_lst (pa_cons (pv 4) pa_nil)) (pv 7))))
        (pss_nil))))))))
      (pss_one (ps_ret pe_non)), ?_⟩
    refine ⟨_, rfl, a, kk, n, M, rfl, hM, hO, (kk : Int), rfl, by omega, by omega, for_range (lo := 0) (n := kk) (fun i σ H' => (∃ v4 v5 v6 v7, σ = [some (.ref a), some (.ref t), some (.int x), some (.int y), v4, v5, v6, v7]) ∧ H' = H ∧ ∀ b, b < i → ans M x b = ans M y b ∧ Tb (nxt M x b) (nxt M y b) = false)
      ⟨⟨none, none, none, none, rfl⟩, rfl, fun b hb => absurd hb (Nat.not_lt_zero _)⟩ ?_ ?_⟩
    · rintro i σ H' hi ⟨⟨v4, v5, v6, v7, rfl⟩, rfl, hall⟩
      rw [show (0 : Int) + (i : Int) = (i : Int) by omega]
      obtain ⟨rx, r1, ps1, p1, x1, x2, x3, x4, x5, x6⟩ := hM.cell hO hx hi
      obtain ⟨ry, r2, ps2, p2, y1, y2, y3, y4, y5, y6⟩ := hM.cell hO hy hi
      refine ⟨_, rfl, _, rfl, _, _, _, _, rfl, rfl, SqL.of x1, x2, _, rfl, _, _, _, _, rfl, rfl, SqL.of x3, x4, ?_⟩
      refine ⟨_, rfl, _, rfl, _, _, _, _, rfl, rfl, SqL.of y1, y2, _, rfl, _, _, _, _, rfl, rfl, SqL.of y3, y4, ?_⟩
      refine ⟨_, rfl, _, _, _, _, rfl, rfl, SqT.of x5, rfl, _, rfl, _, _, _, _, rfl, rfl, SqT.of y5, rfl, rfl, _, rfl, ?_⟩
      rw [ne_int]
      by_cases hne : ans M x i = ans M y i
      · rw [decide_eq_true hne]
        refine iteF ?_
        obtain ⟨r, es, v, t1, t2, t3, t4⟩ := hT.ent x6 y6
        refine ⟨_, rfl, _, rfl, _, _, _, _, rfl, rfl, SqT.of x5, rfl, _, _, _, _, rfl, rfl, SqL.of hT.lst, t1, _, rfl, _, _, _, _, rfl, rfl, SqT.of y5, rfl, _, _, _, _, rfl, rfl, SqL.of t2, t3, ?_⟩
        refine ⟨_, rfl, _, rfl, ?_⟩
        cases hb : Tb (nxt M x i) (nxt M y i) with
        | false =>
          rw [hb] at t4
          have e : v = .non := t4
          subst e
          refine iteF ⟨⟨_, _, _, _, rfl⟩, rfl, fun b hb' => ?_⟩
          by_cases z : b = i
          · subst z; exact ⟨hne, hb⟩
          · exact hall b (by omega)
        | true =>
          rw [hb] at t4
          obtain ⟨q, l, rfl, hq, hl⟩ := t4
          refine iteT ⟨_, rfl, (by show 1 ≤ sizeLine; decide), fun p1' np => ⟨_, rfl, p1', q, _, natsV l, rfl, rfl, upd_same, (Same.fresh np) _ _ hq, ?_, fun p2' np2 => ?_⟩⟩
          · have : (natsV l).length = l.length := List.length_map _
            show 1 + (natsV l).length ≤ sizeLine
            rw [this, sizeLine_eq]
            omega
          · refine kS _ p2' (i :: l) ⟨i, hi, .inr hb⟩ ((Same.fresh np).trans (Same.fresh np2)) ?_ (by rw [List.length_cons]; omega)
            have n2 : H' p2' = none := (Same.fresh (o := .lst [V.int (i : Int)]) np).free np2
            rw [nw_at n2, upd_same]
            rfl
      · rw [decide_eq_false hne]
        refine iteT ⟨_, rfl, (by show 1 ≤ sizeLine; decide), fun p np => ?_⟩
        refine kS _ p [i] ⟨i, hi, .inl hne⟩ (Same.fresh np) (by rw [nw_at np, upd_same]; rfl) (by show 1 ≤ B + 1; omega)
    · rintro σ H' ⟨⟨v4, v5, v6, v7, rfl⟩, rfl, hall⟩
      refine kN ?_
      rintro ⟨b, hb, z | z⟩
      · exact z (hall b hb).1
      · rw [(hall b hb).2] at z; cases z
/-- the pairs found: tuples at qs -/
structure FoundIn (G : Hp) (qs : List Addr) (F : List (Nat × Nat × List Nat)) (B : Nat) : Prop where
  len : qs.length = F.length
  tup : ∀ (i : Nat) (q : Addr) (p : Nat × Nat × List Nat), qs[i]? = some q → F[i]? = some p → ∃ pr : Addr, G q = some (.tup [.int (p.1 : Int), .int (p.2.1 : Int), .ref pr]) ∧ G pr = some (.lst (natsV p.2.2)) ∧ p.2.2.length ≤ B + 1
theorem FoundIn.nil {G : Hp} {B : Nat} : FoundIn G [] [] B := ⟨rfl, fun i q p e => by cases i <;> cases e⟩
theorem FoundIn.mono {G G' : Hp} {qs : List Addr} {F : List (Nat × Nat × List Nat)} {B : Nat} (h : FoundIn G qs F B) (s : Same G G') : FoundIn G' qs F B :=
  ⟨h.len, fun i q p e1 e2 => let ⟨pr, a, b, c⟩ := h.tup i q p e1 e2; ⟨pr, s _ _ a, s _ _ b, c⟩⟩
theorem FoundIn.snoc {G : Hp} {qs : List Addr} {F : List (Nat × Nat × List Nat)} {B : Nat} {q : Addr} {p : Nat × Nat × List Nat} (h : FoundIn G qs F B) {pr : Addr} (g1 : G q = some (.tup [.int (p.1 : Int), .int (p.2.1 : Int), .ref pr])) (g2 : G pr = some (.lst (natsV p.2.2))) (g3 : p.2.2.length ≤ B + 1) :
    FoundIn G (qs ++ [q]) (F ++ [p]) B := by
  refine ⟨by rw [List.length_append, List.length_append, h.len] <;> rfl, fun i q' p' e1 e2 => ?_⟩
  rcases snoc_at e1 with ⟨a1, a2⟩ | ⟨a1, a2⟩ <;> rcases snoc_at e2 with ⟨b1, b2⟩ | ⟨b1, b2⟩
  · exact h.tup i q' p' a2 b2
  · have := h.len; omega
  · have := h.len; omega
  · rw [← a2, ← b2]; exact ⟨pr, g1, g2, g3⟩
/-- all of the pairs found are to be told apart -/
def FoundOk (k n : Nat) (M : Mach) (Tb : Nat → Nat → Bool) (F : List (Nat × Nat × List Nat)) : Prop := ∀ p ∈ F, p.1 < p.2.1 ∧ p.2.1 < n ∧ Tb p.1 p.2.1 = false ∧ Tell k M Tb p.1 p.2.1
def Has (F : List (Nat × Nat × List Nat)) (i j : Nat) : Prop := ∃ l, (i, j, l) ∈ F
theorem Has.snoc {F : List (Nat × Nat × List Nat)} {p : Nat × Nat × List Nat} {i j : Nat} (h : Has F i j) : Has (F ++ [p]) i j := let ⟨l, z⟩ := h; ⟨l, List.mem_append_left _ z⟩
abbrev snew_ones : Stmt := top 35
abbrev nnew_ones : List Str := ["machine", "table", "found", "one", "other", "probe"]
theorem scnew_ones : FnScope nnew_ones ["machine", "table"] (defScope snew_ones) := ⟨rfl, rfl, rfl, by decide +kernel, rfl, by decide +kernel, by decide +kernel⟩
theorem bnew_ones {K : PySem.W.Frag} {f : Addr} {fd : FuncData} (F : FunD K "new_ones" "new_ones" (defArgs snew_ones) (defBody snew_ones) (defScope snew_ones) [] [] f fd) : Binds K fd ["machine", "table"] [] := F.bindsN fun _ _ _ _ _ _ us hl => match us, hl with | [_, _], _ => rfl
def spNew : Sp := fun vs H Q _ => ∃ (a t : Addr) (k n B : Nat) (M : Mach) (rs : List Addr) (Tb : Nat → Nat → Bool), vs = [.ref a, .ref t] ∧ MachAt H a M ∧ Ok k n M ∧ TabAt H H t rs n B Tb ∧ B ≤ 1000 ∧ k ≤ 5 ∧ n ≤ 30 ∧
  ∀ (H' : Hp) (b : Addr) (qs : List Addr) (F : List (Nat × Nat × List Nat)), Same H H' → nw H H' b = some (.lst (qs.map V.ref)) → FoundIn (nw H H') qs F B → FoundOk k n M Tb F → (∀ i j, i < j → j < n → Tb i j = false → ¬ Tell k M Tb i j ∨ Has F i j) → Q (.ref b) H'
theorem c_new_ones (D : DefAt K mg "new_ones" snew_ones) (T : Txt K mg) (C_next_told : Cal P w K mg base 2 "next_told" spNext []) : Cal P w K mg base 3 "new_ones" spNew [] := by
  refine mkCal D bnew_ones scnew_ones (fun vs H Q E h => ?_) fun f cdv A outer s H vs Q E hr h => ?_
  · obtain ⟨a, t, k, n, B, M, rs, Tb, rfl, _⟩ := h; rfl
  · obtain ⟨a, t, kk, n, B, M, rs, Tb, rfl, hM, hO, hT, hB, hk, hn30, k⟩ := h
    have nd := scnew_ones.nd
    refine ⟨_, pss_cons (ps_set (i := 2) nd rfl (Or.inl rfl) (pe_lst pa_nil))
      (pss_cons (ps_for PassesOwn.never rfl (pi_range1 rfl T.n_range (pa_cons (pe_callB (id := "len") call_len_seq rfl T.n_len (by decide +kernel) (pa_cons (pv 0) pa_nil)) pa_nil)) (pg_name (i := 3) nd rfl (Or.inl rfl))
      (pss_one (ps_for PassesOwn.never rfl (pi_range2 rfl T.n_range (pa_cons (pe_op op_add (pv 3) pe_int) (pa_cons (pe_callB (id := "len") call_len_seq rfl T.n_len (by decide +kernel) (pa_cons (pv 0) pa_nil)) pa_nil))) (pg_name (i := 4) nd rfl (Or.inl rfl))
        (pss_one (ps_if (pt_cmp (pc_isN (pe_ix ix_list (pe_ix ix_list (pv 1) (pv 3) (fun _ _ => rfl)) (pv 4) (fun _ _ => rfl))))
          (pss_cons (ps_set (i := 5) nd rfl (Or.inl rfl) (pe_c C_next_told hr (by decide) rfl (pa_cons (pv 0) (pa_cons (pv 1) (pa_cons (pv 3) (pa_cons (pv 4) pa_nil))))))
            (pss_one (ps_if (pt_cmp (pc_notN (pv 5)))
            (pss_one (ps_expr (pe_bm PySem.F.plainAttrs_list PySem.F.slot_list_append PySem.F.type_list_append mt_append (pv 2) (pa_cons (pe_tup (pa_cons (pv 3) (pa_cons (pv 4) (pa_cons (pv 5) pa_nil)))) pa_nil))))
            (pss_nil))))
          (pss_nil))))))
      (pss_one (ps_ret (pv 2)))), ?_⟩
    obtain ⟨ra, hA, hRs⟩ := id hM
    have hsA : SqL K H a (ra.map V.ref) := SqL.of hA
    have hlA : (ra.map V.ref).length = n := by rw [List.length_map, hRs.len, hO.len]
    refine ⟨(by show 0 ≤ sizeLine; decide), fun b nb => ?_⟩
    refine ⟨_, rfl, a, _, rfl, .inl ((Same.fresh nb).seq hsA), (n : Int), by rw [hlA], by omega, by omega, ?_⟩
    refine for_range (lo := 0) (n := n) (fun i σ H' => (∃ v3 v4 v5, σ = [some (.ref a), some (.ref t), some (.ref b), v3, v4, v5]) ∧ Same H H' ∧ ∃ qs F, H' b = some (.lst (qs.map V.ref)) ∧ FoundIn (nw H (wo H' b)) qs F B ∧ FoundOk kk n M Tb F ∧ F.length ≤ 30 * i ∧ ∀ x y, x < i → x < y → y < n → Tb x y = false → ¬ Tell kk M Tb x y ∨ Has F x y)
      ⟨⟨none, none, none, rfl⟩, Same.fresh nb, [], [], upd_same, FoundIn.nil, (fun p hp => by cases hp), Nat.le_refl _, fun x y hx => absurd hx (Nat.not_lt_zero _)⟩ ?_ ?_
    · rintro i σ H1 hi ⟨⟨v3, v4, v5, rfl⟩, s1, qs1, F1, hb1, hF1, hok1, hlen1, hall1⟩
      rw [show (0 : Int) + (i : Int) = (i : Int) by omega]
      refine ⟨_, rfl, _, _, rfl, rfl, _, rfl, a, _, rfl, .inl (s1.seq hsA), (i : Int) + 1, (n : Int), by rw [hlA], ⟨by omega, by omega, by omega, by omega⟩, ?_⟩
      refine for_range (lo := (i : Int) + 1) (n := ((n : Int) - ((i : Int) + 1)).toNat) (fun j σ H' => (∃ v4 v5, σ = [some (.ref a), some (.ref t), some (.ref b), some (.int i), v4, v5]) ∧ Same H H' ∧ ∃ qs F, H' b = some (.lst (qs.map V.ref)) ∧ FoundIn (nw H (wo H' b)) qs F B ∧ FoundOk kk n M Tb F ∧ F.length ≤ 30 * i + j ∧
        (∀ x y, x < i → x < y → y < n → Tb x y = false → ¬ Tell kk M Tb x y ∨ Has F x y) ∧ ∀ y, i < y → y < i + 1 + j → Tb i y = false → ¬ Tell kk M Tb i y ∨ Has F i y)
        ⟨⟨_, _, rfl⟩, s1, qs1, F1, hb1, hF1, hok1, hlen1, hall1, fun y h1 h2 => by omega⟩ ?_ ?_
      · rintro j σ H2 hj ⟨⟨v4, v5, rfl⟩, s2, qs, F, hb, hF, hok, hlen, hall, hrow⟩
        have hjn : i + 1 + j < n := by omega
        rw [show (i : Int) + 1 + (j : Int) = ((i + 1 + j : Nat) : Int) by omega]
        obtain ⟨r, es, v, t1, t2, t3, t4⟩ := hT.ent hi hjn
        refine ⟨_, rfl, _, rfl, _, _, _, _, rfl, rfl, SqL.of (s2 _ _ hT.lst), t1, _, rfl, _, _, _, _, rfl, rfl, SqL.of (s2 _ _ t2), t3, _, rfl, ?_⟩
        have more : ∀ {F' : List (Nat × Nat × List Nat)}, (∀ x y, Has F x y → Has F' x y) → (Tb i (i + 1 + j) = false → ¬ Tell kk M Tb i (i + 1 + j) ∨ Has F' i (i + 1 + j)) →
            (∀ x y, x < i → x < y → y < n → Tb x y = false → ¬ Tell kk M Tb x y ∨ Has F' x y) ∧ ∀ y, i < y → y < i + 1 + (j + 1) → Tb i y = false → ¬ Tell kk M Tb i y ∨ Has F' i y := fun up new =>
          ⟨fun x y h1 h2 h3 h4 => (hall x y h1 h2 h3 h4).imp id (up x y), fun y h1 h2 h3 => by
            by_cases z : y = i + 1 + j
            · subst z; exact new h3
            · exact (hrow y h1 (by omega) h3).imp id (up i y)⟩
        cases hb' : Tb i (i + 1 + j) with
        | true =>
          rw [hb'] at t4
          obtain ⟨q, l, rfl, hq, hl⟩ := t4
          obtain ⟨m1, m2⟩ := more (F' := F) (fun _ _ z => z) (fun z => by rw [hb'] at z; cases z)
          exact iteF ⟨⟨_, _, rfl⟩, s2, qs, F, hb, hF, hok, by omega, m1, m2⟩
        | false =>
          rw [hb'] at t4
          have e : v = .non := t4
          subst e
          refine iteT ⟨_, rfl, _, rfl, _, rfl, _, rfl, a, t, kk, n, B, M, rs, Tb, i, i + 1 + j, rfl, hM.mono s2, hO, hT.mono s2 s2 (Nat.le_refl _), hB, hk, hi, hjn, fun hno => ?_, fun H3 p l hte s3 hp hl => ?_⟩
          · obtain ⟨m1, m2⟩ := more (F' := F) (fun _ _ z => z) (fun _ => .inl hno)
            exact ⟨_, rfl, _, rfl, iteF ⟨⟨_, _, rfl⟩, s2, qs, F, hb, hF, hok, by omega, m1, m2⟩⟩
          · obtain ⟨m1, m2⟩ := more (F' := F ++ [(i, i + 1 + j, l)]) (fun _ _ z => z.snoc) (fun _ => .inr ⟨l, List.mem_append_right _ (List.mem_singleton_self _)⟩)
            obtain ⟨np, hp3⟩ := nw_some hp
            refine ⟨_, rfl, _, rfl, iteT ⟨_, rfl, .inl ⟨rfl, _, SqL.of (s3 _ _ hb)⟩, _, rfl, _, rfl, _, rfl, (by show 3 ≤ sizeLine; decide), fun q nq => ?_⟩⟩
            have nbq : b ≠ q := ne_of_none (s3 _ _ hb) nq
            have nbp : b ≠ p := ne_of_none hb np
            have sH3 : Same H H3 := s2.trans s3
            refine ⟨b, _, _, rfl, rfl, (by rw [upd_ne nbq]; exact s3 _ _ hb), ?_, ?_⟩
            · rw [List.length_map, hF.len]
              exact small1000 (by omega)
            · have sG : Same (nw H (wo H2 b)) (nw H (wo (upd H3 q (.tup [.int (i : Int), .int ((i + 1 + j : Nat) : Int), .ref p])) b)) := Same.nw2 (Same.wo2 (s3.trans (Same.fresh nq)))
              refine ⟨⟨_, _, rfl⟩, (sH3.trans (Same.fresh nq)).upd nb, qs ++ [q], F ++ [(i, i + 1 + j, l)], (by rw [upd_same, List.map_append] <;> rfl), ?_, ?_, ?_, m1, m2⟩
              · rw [wo_upd]
                refine (hF.mono sG).snoc (pr := p) ?_ ?_ hl
                · rw [nw_at (sH3.free nq), wo_at nbq.symm, upd_same]
                · have hpq : p ≠ q := ne_of_none hp3 nq
                  rw [nw_at (s2.free np), wo_at nbp.symm, upd_ne hpq]
                  exact hp3
              · intro z hz
                rcases List.mem_append.mp hz with hz | hz
                · exact hok z hz
                · rw [List.mem_singleton] at hz
                  subst hz
                  exact ⟨by show i < i + 1 + j; omega, hjn, hb', hte⟩
              · rw [List.length_append, List.length_singleton]
                omega
      · rintro σ H2 ⟨⟨v4, v5, rfl⟩, s2, qs, F, hb, hF, hok, hlen, hall, hrow⟩
        refine ⟨⟨_, _, _, rfl⟩, s2, qs, F, hb, hF, hok, by omega, fun x y h1 h2 h3 h4 => ?_⟩
        by_cases z : x = i
        · subst z; exact hrow y h2 (by omega) h4
        · exact hall x y (by omega) h2 h3 h4
    · rintro σ H' ⟨⟨v3, v4, v5, rfl⟩, s1, qs, F, hb, hF, hok, hlen, hall⟩
      exact ⟨_, rfl, k H' b qs F s1 (by rw [nw_at nb]; exact hb) (hF.mono (Same.nw2 (Same.wo H' b))) hok fun x y h1 h2 h3 => hall x y (by omega) h1 h2 h3⟩
/-! ### many addresses left out -/
def wos (H : Hp) (l : List Addr) : Hp := fun b => if b ∈ l then none else H b
theorem wos_at {H : Hp} {l : List Addr} {b : Addr} (h : b ∉ l) : wos H l b = H b := if_neg h
theorem wos_mem {H : Hp} {l : List Addr} {b : Addr} (h : b ∈ l) : wos H l b = none := if_pos h
theorem wos_some {H : Hp} {l : List Addr} {b : Addr} {o : HO} (h : wos H l b = some o) : b ∉ l ∧ H b = some o := by
  by_cases e : b ∈ l
  · rw [wos_mem e] at h; cases h
  · rw [wos_at e] at h; exact ⟨e, h⟩
theorem wos_upd {H : Hp} {l : List Addr} {p : Addr} {o : HO} (hp : p ∈ l) : wos (upd H p o) l = wos H l := by
  funext b
  by_cases e : b ∈ l
  · rw [wos_mem e, wos_mem e]
  · rw [wos_at e, wos_at e, upd_ne (fun z => e (by rw [z]; exact hp))]
theorem same_wos (H : Hp) (l : List Addr) : Same (wos H l) H := fun _ _ h => (wos_some h).2
theorem same_wos2 {H H' : Hp} {l : List Addr} (h : Same H H') : Same (wos H l) (wos H' l) := fun b o e => by
  obtain ⟨e1, e2⟩ := wos_some e
  rw [wos_at e1]; exact h b o e2
/-- what is new behind a call is none of these -/
theorem same_nw_wos {H H' : Hp} {l : List Addr} (h : ∀ p ∈ l, ∃ o, H p = some o) : Same (nw H H') (wos H' l) := fun b u e => by
  obtain ⟨e1, e2⟩ := nw_some e
  rw [wos_at fun z => by obtain ⟨o, q⟩ := h b z; rw [e1] at q; cases q]
  exact e2
theorem ixN_nat {n y : Nat} (h : y < n) : ixN n (y : Int) = some y := by
  unfold ixN
  rw [if_pos (by omega), if_pos (by omega)]
  rfl
def setT (Tb : Nat → Nat → Bool) (x y : Nat) : Nat → Nat → Bool := fun i j => Tb i j || (decide (i = x) && decide (j = y))
/-- an entry stored -/
theorem TabAt.set {G H : Hp} {a : Addr} {rs : List Addr} {n B : Nat} {Tb : Nat → Nat → Bool} (h : TabAt G H a rs n B Tb) {x y : Nat} (hx : x < n) (hy : y < n) {q : Addr} {l : List Nat} (hq : G q = some (.lst (natsV l))) (hl : l.length ≤ B) :
    ∃ (r : Addr) (es : List V), r ∈ rs ∧ atI (rs.map V.ref) (x : Int) = some (.ref r) ∧ H r = some (.lst es) ∧ ixN es.length (y : Int) = some y ∧ TabAt G (upd H r (.lst (es.set y (.ref q)))) a rs n B (setT Tb x y) := by
  obtain ⟨r0, e1, hm⟩ : ∃ r0, rs[x]? = some r0 ∧ r0 ∈ rs := ⟨_, List.getElem?_eq_getElem (show x < rs.length by rw [h.len]; exact hx), List.getElem_mem _⟩
  obtain ⟨es, e2, e3, e4⟩ := h.row x _ e1
  refine ⟨_, es, hm, at_ref e1, e2, ixN_nat (by rw [e3]; exact hy), ⟨?_, h.len, fun i r e => ?_, h.nd, h.out⟩⟩
  · rw [upd_ne (fun z => h.out (by rw [z]; exact hm))]; exact h.lst
  · by_cases z : i = x
    · subst z
      have er : r = r0 := Option.some.inj (e.symm.trans e1)
      subst er
      refine ⟨_, upd_same, by rw [List.length_set, e3], fun j v ev => ?_⟩
      by_cases zj : j = y
      · subst zj
        rw [List.getElem?_set_self (by rw [e3]; exact hy)] at ev
        have ev' := Option.some.inj ev
        have et : setT Tb i j i j = true := by simp [setT]
        rw [et]
        exact ⟨q, l, ev'.symm, hq, hl⟩
      · rw [List.getElem?_set_ne (Ne.symm zj)] at ev
        have et : setT Tb i y i j = Tb i j := by simp [setT, zj]
        rw [et]
        exact e4 j v ev
    · have ne : r ≠ r0 := fun q => by
        have := nd_ix h.nd e (by rw [e1, q])
        exact z this
      obtain ⟨es', f2, f3, f4⟩ := h.row i r e
      refine ⟨es', by rw [upd_ne ne]; exact f2, f3, fun j v ev => ?_⟩
      have et : setT Tb x y i j = Tb i j := by simp [setT, z]
      rw [et]
      exact f4 j v ev
def pr2 (p : Nat × Nat × List Nat) : Nat × Nat := (p.1, p.2.1)
theorem addT_snoc {Tb : Nat → Nat → Bool} {F : List (Nat × Nat × List Nat)} {i : Nat} {p : Nat × Nat × List Nat} (h : F[i]? = some p) : addT Tb ((F.take (i + 1)).map pr2) = setT (setT (addT Tb ((F.take i).map pr2)) p.1 p.2.1) p.2.1 p.1 := by
  have e : F.take (i + 1) = F.take i ++ [p] := by
    rw [List.take_add_one, h]; rfl
  funext x y
  rw [e, List.map_append]
  unfold setT addT
  show (Tb x y || decide ((x, y) ∈ (F.take i).map pr2 ++ [(p.1, p.2.1)]) || decide ((y, x) ∈ (F.take i).map pr2 ++ [(p.1, p.2.1)])) = _
  rw [Bool.eq_iff_iff]
  simp only [Bool.or_eq_true, Bool.and_eq_true, decide_eq_true_eq, List.mem_append, List.mem_singleton, Prod.mk.injEq]
  constructor
  · rintro ((h | h | ⟨h, h2⟩) | h | ⟨h, h2⟩)
    · exact .inl (.inl (.inl (.inl h)))
    · exact .inl (.inl (.inl (.inr h)))
    · exact .inl (.inr ⟨h, h2⟩)
    · exact .inl (.inl (.inr h))
    · exact .inr ⟨h2, h⟩
  · rintro ((((h | h) | h) | ⟨h, h2⟩) | ⟨h, h2⟩)
    · exact .inl (.inl h)
    · exact .inl (.inr (.inl h))
    · exact .inr (.inl h)
    · exact .inl (.inr (.inr ⟨h, h2⟩))
    · exact .inr (.inr ⟨h2, h⟩)
theorem addT_nil (Tb : Nat → Nat → Bool) : addT Tb [] = Tb := by
  funext x y
  simp [addT]
/-- what was found, as data -/
def foundD (F : List (Nat × Nat × List Nat)) : List PyData := F.map fun p => .tuple [.int (p.1 : Int), .int (p.2.1 : Int), natsD p.2.2]
theorem foundD_dp {K : PySem.W.Frag} {G : Hp} {B : Nat} : ∀ {qs : List Addr} {F : List (Nat × Nat × List Nat)}, FoundIn G qs F B → DpAll K G (qs.map V.ref) (foundD F)
  | [], [], _ => .nil
  | [], _ :: _, h => by have := h.len; cases this
  | _ :: _, [], h => by have := h.len; cases this
  | q :: qs, p :: F, h => by
    obtain ⟨pr, h1, h2, h3⟩ := h.tup 0 q p rfl rfl
    refine .cons (.tup (SqT.of h1) (.cons (.int _) (.cons (.int _) (.cons (natsD_dp h2) .nil)))) ?_
    exact foundD_dp (qs := qs) (F := F) ⟨by have := h.len; simpa using this, fun i q' p' e1 e2 => h.tup (i + 1) q' p' e1 e2⟩
theorem foundD_low (F : List (Nat × Nat × List Nat)) : ∀ d ∈ foundD F, LowD 2 d := by
  intro d hd
  obtain ⟨p, _, rfl⟩ := List.mem_map.mp hd
  refine ⟨?_, ?_⟩
  · show (true && (true && ((natsD p.2.2).canLay0 && true))) = true
    rw [natsD_canLay]; rfl
  · show max 0 (max 0 (max (natsD p.2.2).depth 0)) + 1 ≤ 2
    rw [natsD_dep]; decide
theorem foundD_ne : ∀ F : List (Nat × Nat × List Nat), PyData.eqv (.list (foundD F)) (.list []) = decide (F = [])
  | [] => rfl
  | p :: F => by
    rw [decide_eq_false (by intro z; cases z)]
    rfl
abbrev sapart : Stmt := top 36
abbrev napart : List Str := ["machine", "table", "going", "found", "one", "other", "probe", "row"]
theorem scapart : FnScope napart ["machine"] (defScope sapart) := ⟨rfl, rfl, rfl, by decide +kernel, rfl, by decide +kernel, by decide +kernel⟩
theorem bapart {K : PySem.W.Frag} {f : Addr} {fd : FuncData} (F : FunD K "apart" "apart" (defArgs sapart) (defBody sapart) (defScope sapart) [] [] f fd) : Binds K fd ["machine"] [] := F.bindsN fun _ _ _ _ _ _ us hl => match us, hl with | [_], _ => rfl
def spApart : Sp := fun vs H Q _ => ∃ (a : Addr) (k n : Nat) (M : Mach), vs = [.ref a] ∧ MachAt H a M ∧ Ok k n M ∧ k ≤ 5 ∧ n ≤ 30 ∧
  ∀ (H' : Hp) (t : Addr) (rs : List Addr) (B : Nat) (Tb : Nat → Nat → Bool), Same H H' → TabAt (nw H H') (nw H H') t rs n B Tb → Tab k n M Tb → (∀ i j, i < j → j < n → Tb i j = false → ¬ Tell k M Tb i j) → Q (.ref t) H'
/-- what holds between two turns of the while -/
structure ApartI (H : Hp) (a t : Addr) (rs : List Addr) (k n : Nat) (M : Mach) (going : Bool) (H' : Hp) (B : Nat) (Tb : Nat → Nat → Bool) : Prop where
  same : Same H H'
  tab : TabAt (nw H (wos H' rs)) H' t rs n B Tb
  ok : Tab k n M Tb
  room : going = true → B + left n Tb ≤ n * n
  done : going = false → ∀ i j, i < j → j < n → Tb i j = false → ¬ Tell k M Tb i j
def WApart (H : Hp) (a t : Addr) (rs : List Addr) (k n : Nat) (M : Mach) (m : Nat) (σ : L2.St) (H' : Hp) : Prop := ∃ (going : Bool) (v3 v4 v5 v6 v7 : Option V) (B : Nat) (Tb : Nat → Nat → Bool),
  σ = [some (.ref a), some (.ref t), some (.bl going), v3, v4, v5, v6, v7] ∧ ApartI H a t rs k n M going H' B Tb ∧ m = if going = true then left n Tb + 1 else 0
theorem rep_flat (n : Nat) (v : V) : (List.replicate n [v]).flatten = List.replicate n v := by
  induction n with
  | zero => rfl
  | succ n ih => rw [List.replicate_succ, List.replicate_succ, List.flatten_cons, ih]; rfl
theorem c_apart (D : DefAt K mg "apart" sapart) (T : Txt K mg) (C_new_ones : Cal P w K mg base 3 "new_ones" spNew []) : Cal P w K mg base 4 "apart" spApart [] := by
  refine mkCal D bapart scapart (fun vs H Q E h => ?_) fun f cdv A outer s H vs Q E hr h => ?_
  · obtain ⟨a, k, n, M, rfl, _⟩ := h; rfl
  · obtain ⟨a, kk, n, M, rfl, hM, hO, hk, hn30, k⟩ := h
    have hu64 := hu64_of hr
    have nd := scapart.nd
    refine ⟨_, pss_cons (ps_setLc (i := 1) rfl nd rfl rfl (sw_true rfl rfl rfl (by decide +kernel)) (own := [("row", 7)]) (pi_list (pv 0)) (blkOk_by (N := napart) (sc := defScope sapart) (by decide +kernel)) (fun _ _ _ _ _ => pg_name (i := 7) nd rfl (Or.inl rfl)) (fun _ _ _ _ _ => pts_nil) (fun _ _ _ _ _ => (pe_op op_rep (pe_lst (pa_cons pe_non pa_nil)) (pe_callB (id := "len") (call_len_seqK K) rfl T.n_len (by decide +kernel) (pa_cons (pv 0) pa_nil)))))
      (pss_cons (ps_set (i := 2) nd rfl (Or.inl rfl) pe_bl)
      (pss_cons (ps_while PassesOwn.never (pt_val (pv 2))
      (pss_cons (ps_set (i := 3) nd rfl (Or.inl rfl) (pe_c C_new_ones hr (by decide) rfl (pa_cons (pv 0) (pa_cons (pv 1) pa_nil))))
        (pss_cons (ps_for PassesOwn.never rfl (pi_list (pv 3)) (pg_tup rfl (pgs_cons (pg_name (i := 4) nd rfl (Or.inl rfl)) (pgs_cons (pg_name (i := 5) nd rfl (Or.inl rfl)) (pgs_cons (pg_name (i := 6) nd rfl (Or.inl rfl)) pgs_nil))))
        (pss_cons (ps_asg (pe_callTy (T := "list") call_list_of rfl T.n_list (by decide +kernel) (pa_cons (pv 6) pa_nil)) (pg_sub (pe_ix ix_list (pv 1) (pv 4) (fun _ _ => rfl)) (pv 5) set_list))
          (pss_one (ps_asg (pe_callTy (T := "list") call_list_of rfl T.n_list (by decide +kernel) (pa_cons (pv 6) pa_nil)) (pg_sub (pe_ix ix_list (pv 1) (pv 5) (fun _ _ => rfl)) (pv 4) set_list)))))
        (pss_one (ps_set (i := 2) nd rfl (Or.inl rfl) (pe_cmpR (op_neD hu64) (pv 3) (pe_lst pa_nil) (nomark _)))))))
      (pss_one (ps_ret (pv 1))))), ?_⟩
    obtain ⟨ra, hA, hRs⟩ := id hM
    have hsA : SqL K H a (ra.map V.ref) := SqL.of hA
    have hlA : (ra.map V.ref).length = n := by rw [List.length_map, hRs.len, hO.len]
    -- the table, nothing told apart yet
    refine ⟨_, rfl, a, rfl, ⟨_, hsA⟩, fun t nt => ?_⟩
    refine lc_list (K := K) (a := a) (xs := ra.map V.ref) (fun i H' => ∃ rs : List Addr, rs.length = i ∧ Same H H' ∧ H' t = some (.lst (rs.map V.ref)) ∧ (∀ r ∈ rs, H' r = some (.lst (List.replicate n .non)) ∧ H r = none) ∧ rs.Nodup ∧ t ∉ rs)
      ⟨[], rfl, Same.fresh nt, upd_same, (fun r h => by cases h), List.nodup_nil, List.not_mem_nil⟩ (fun i H' _ ⟨_, _, s1, _⟩ => s1.seq hsA) ?_ ?_
    · rintro i y H1 hi ⟨rs, hl, s1, ht, hall, nd1, out⟩
      refine ⟨rfl, ?_⟩
      refine ⟨(by show 1 ≤ sizeLine; decide), fun p1 np1 => ⟨_, rfl, a, _, rfl, .inl ((s1.trans (Same.fresh np1)).seq hsA), p1, _, _, rfl, rfl, upd_same, by omega, by omega, ?_, fun p2 np2 => ?_⟩⟩
      · rw [hlA]
        show 1 * n ≤ sizeLine
        rw [sizeLine_eq]; omega
      · have sF := (Same.fresh (o := .lst [.non]) np1).trans (Same.fresh (o := .lst (List.replicate ((ra.map V.ref).length : Int).toNat [V.non]).flatten) np2)
        have n2 : H1 p2 = none := (Same.fresh (o := .lst [.non]) np1).free np2
        have nt2 : t ≠ p2 := ne_of_none ht n2
        refine ⟨_, sF _ _ ht, ?_, rs ++ [p2], by rw [List.length_append, hl] <;> rfl, (s1.trans sF).upd nt, ?_, fun r hr' => ?_, ?_, ?_⟩
        · rw [List.length_map, hl]
          have h1 : i < (ra.map V.ref).length := (List.getElem?_eq_some_iff.mp hi).1
          exact small1000 (by omega)
        · rw [upd_same, List.map_append]; rfl
        · rcases List.mem_append.mp hr' with hr' | hr'
          · obtain ⟨g1, g2⟩ := hall r hr'
            have ne : r ≠ t := fun z => out (by rw [← z]; exact hr')
            exact ⟨by rw [upd_ne ne]; exact sF _ _ g1, g2⟩
          · rw [List.mem_singleton] at hr'
            subst hr'
            refine ⟨?_, s1.free n2⟩
            rw [upd_ne nt2.symm, upd_same, hlA, Int.toNat_natCast, rep_flat]
        · exact nodup_snoc nd1 fun z => by
            have := (hall p2 z).1
            rw [n2] at this; cases this
        · intro z
          rcases List.mem_append.mp z with z | z
          · exact out z
          · rw [List.mem_singleton] at z
            exact nt2 z
    · rintro H1 ⟨rs, hl, s1, ht, hall, nd1, out⟩
      rw [hlA] at hl
      -- going
      have nn : n * n ≤ 900 := Nat.mul_le_mul hn30 hn30
      refine ⟨WApart H a t rs kk n M, ⟨_, true, none, none, none, none, none, 0, fun _ _ => false, rfl, ⟨s1, ⟨ht, hl, fun i r e => ?_, nd1, out⟩, Tab.init, ?_, (fun z => by cases z)⟩, rfl⟩, ?_⟩
      · refine ⟨_, (hall r (List.mem_of_getElem? e)).1, List.length_replicate, fun j v ev => ?_⟩
        exact List.eq_of_mem_replicate (List.mem_of_getElem? ev)
      · intro _; rw [Nat.zero_add]; exact left_le n _
      · rintro m σ H2 ⟨going, v3, v4, v5, v6, v7, B, Tb, rfl, ⟨s2, hT, hTb, hB, hdone⟩, rfl⟩
        have hrsH : ∀ r ∈ rs, H r = none := fun r hr' => (hall r hr').2
        refine ⟨_, rfl, _, rfl, ?_⟩
        cases going with
        | false =>
          refine iteF ⟨_, rfl, k H2 t rs B Tb s2 ⟨by rw [nw_at nt]; exact hT.lst, hT.len, fun i r e => ?_, hT.nd, hT.out⟩ hTb (hdone rfl)⟩
          obtain ⟨es, e1, e2, e3⟩ := hT.row i r e
          exact ⟨es, by rw [nw_at (hrsH r (List.mem_of_getElem? e))]; exact e1, e2, fun j v ev => (e3 j v ev).mono (Same.nw2 (same_wos _ _)) (Nat.le_refl _)⟩
        | true =>
          have hB := hB rfl
          refine iteT ⟨fun σ' H' => ∃ m', m' < left n Tb + 1 ∧ WApart H a t rs kk n M m' σ' H', fun _ _ h => h, ?_⟩
          · refine ⟨_, rfl, _, rfl, a, t, kk, n, B, M, rs, Tb, rfl, hM.mono s2, hO, hT.mono ((Same.nw _ _).trans (same_wos _ _)) (Same.refl _) (Nat.le_refl _), by omega, hk, hn30, fun H3 b qs F s3 hb hF hok hcov => ?_⟩
            obtain ⟨nb, hb3⟩ := nw_some hb
            have rsSome : ∀ r ∈ rs, ∃ o, H2 r = some o := fun r hr' => by
              obtain ⟨i, hi, e⟩ := List.getElem_of_mem hr'
              obtain ⟨es, e1, _⟩ := hT.row i r (by rw [List.getElem?_eq_getElem hi, e])
              exact ⟨_, e1⟩
            have sN := same_nw_wos (H' := H3) rsSome
            refine ⟨_, rfl, b, rfl, ⟨_, SqL.of hb3⟩, for_list (K := K) (a := b) (xs := qs.map V.ref) (fun i σ H' => (∃ v4 v5 v6, σ = [some (.ref a), some (.ref t), some (.bl true), some (.ref b), v4, v5, v6, v7]) ∧ Same H H' ∧ Same (wos H3 rs) (wos H' rs) ∧ TabAt (nw H (wos H' rs)) H' t rs n (B + 1) (addT Tb ((F.take i).map pr2)))
              ⟨⟨_, _, _, rfl⟩, s2.trans s3, Same.refl _, ?_⟩ (fun i σ H' _ h => SqL.of (same_wos _ _ _ _ (h.2.2.1 _ _ (sN _ _ hb)))) ?_ ?_⟩
            · rw [List.take_zero, List.map_nil, addT_nil]
              exact hT.mono (Same.nw2 (same_wos2 s3)) s3 (Nat.le_succ _)
            · rintro i y σ H4 hi ⟨⟨v4', v5', v6', rfl⟩, s4, s34, hT4⟩
              obtain ⟨q, hq, rfl⟩ : ∃ q, qs[i]? = some q ∧ y = V.ref q := by
                rw [List.getElem?_map] at hi
                cases e : qs[i]? with
                | none => rw [e] at hi; cases hi
                | some q => rw [e] at hi; exact ⟨q, rfl, (Option.some.inj hi).symm⟩
              have hil : i < F.length := by rw [← hF.len]; exact (List.getElem?_eq_some_iff.mp hq).1
              have hFi := List.getElem?_eq_getElem hil
              generalize F[i] = p at hFi
              obtain ⟨hp1, hp2, hp3, hp4⟩ := hok p (List.mem_of_getElem? hFi)
              obtain ⟨pr, g1, g2, g3⟩ := hF.tup i q p hq hFi
              have up : ∀ {z : Addr} {o : HO}, nw H2 H3 z = some o → H4 z = some o := fun h => same_wos _ _ _ _ (s34 _ _ (sN _ _ h))
              refine ⟨q, _, rfl, SqT.of (up g1), rfl, _, _, rfl, _, _, rfl, _, _, rfl, rfl, ?_⟩
              refine ⟨_, rfl, pr, _, rfl, .inl (SqL.of (up g2)), fun l1 nl1 => ?_⟩
              have f1 : Same H4 (upd H4 l1 (.lst (natsV p.2.2))) := Same.fresh nl1
              have hrs4 : ∀ {z : Addr}, H4 z = none → z ∉ rs := fun {z} h hz => by
                obtain ⟨j, hj, e⟩ := List.getElem_of_mem hz
                obtain ⟨es, e1, _⟩ := hT4.row j z (by rw [List.getElem?_eq_getElem hj, e])
                rw [h] at e1; cases e1
              have hT5 := hT4.mono (Same.nw2 (same_wos2 f1)) f1 (Nat.le_refl _)
              obtain ⟨r1, es1, m1, a1, h1, x1, hT6⟩ := hT5.set (x := p.1) (y := p.2.1) (by omega) hp2 (q := l1) (l := p.2.2) (by rw [nw_at (s4.free nl1), wos_at (hrs4 nl1), upd_same]) g3
              refine ⟨_, rfl, _, rfl, _, _, _, _, rfl, rfl, SqL.of hT5.lst, a1, _, rfl, r1, es1, _, _, rfl, rfl, h1, x1, ?_⟩
              -- the other way round
              have sw : Same (wos (upd H4 l1 (.lst (natsV p.2.2))) rs) (wos (upd (upd H4 l1 (.lst (natsV p.2.2))) r1 (.lst (es1.set p.2.1 (.ref l1)))) rs) := by rw [wos_upd m1]; exact Same.refl _
              have up2 : ∀ {z : Addr} {o : HO}, nw H2 H3 z = some o → (upd (upd H4 l1 (.lst (natsV p.2.2))) r1 (.lst (es1.set p.2.1 (.ref l1)))) z = some o := fun h => same_wos _ _ _ _ (sw _ _ (same_wos2 f1 _ _ (s34 _ _ (sN _ _ h))))
              refine ⟨_, rfl, pr, _, rfl, .inl (SqL.of (up2 g2)), fun l2 nl2 => ?_⟩
              have s6 : Same H (upd (upd H4 l1 (.lst (natsV p.2.2))) r1 (.lst (es1.set p.2.1 (.ref l1)))) := (s4.trans f1).upd (hrsH r1 m1)
              have hT6' : TabAt (nw H (wos (upd (upd H4 l1 (.lst (natsV p.2.2))) r1 (.lst (es1.set p.2.1 (.ref l1)))) rs)) (upd (upd H4 l1 (.lst (natsV p.2.2))) r1 (.lst (es1.set p.2.1 (.ref l1)))) t rs n (B + 1) (setT (addT Tb ((F.take i).map pr2)) p.1 p.2.1) := by
                rw [wos_upd m1]; exact hT6
              revert s6 hT6' up2 sw nl2
              generalize upd (upd H4 l1 (.lst (natsV p.2.2))) r1 (.lst (es1.set p.2.1 (.ref l1))) = H6
              intro sw up2 nl2 s6 hT6'
              have f2 : Same H6 (upd H6 l2 (.lst (natsV p.2.2))) := Same.fresh nl2
              have hrs6 : ∀ {z : Addr}, H6 z = none → z ∉ rs := fun {z} h hz => by
                obtain ⟨j, hj, e⟩ := List.getElem_of_mem hz
                obtain ⟨es, e1, _⟩ := hT6'.row j z (by rw [List.getElem?_eq_getElem hj, e])
                rw [h] at e1; cases e1
              have hT7 := hT6'.mono (Same.nw2 (same_wos2 f2)) f2 (Nat.le_refl _)
              obtain ⟨r2, es2, m2, a2, h2, x2, hT8⟩ := hT7.set (x := p.2.1) (y := p.1) hp2 (by omega) (q := l2) (l := p.2.2) (by rw [nw_at (s6.free nl2), wos_at (hrs6 nl2), upd_same]) g3
              refine ⟨_, rfl, _, rfl, _, _, _, _, rfl, rfl, SqL.of hT7.lst, a2, _, rfl, r2, es2, _, _, rfl, rfl, h2, x2, ⟨_, _, _, rfl⟩, (s6.trans f2).upd (hrsH r2 m2), ?_, ?_⟩
              · rw [wos_upd m2]
                exact s34.trans ((same_wos2 f1).trans (sw.trans (same_wos2 f2)))
              · rw [wos_upd m2, addT_snoc hFi]
                exact hT8
            · rintro σ H4 ⟨⟨v4', v5', v6', rfl⟩, s4, s34, hT4⟩
              have hlen : F.take (qs.map V.ref).length = F := by rw [List.length_map, hF.len, List.take_length]
              rw [hlen] at hT4
              have hF4 : FoundIn (wos H4 rs) qs F B := (hF.mono sN).mono s34
              have hb4 : wos H4 rs b = some (.lst (qs.map V.ref)) := s34 _ _ (sN _ _ hb)
              have hok2 : ∀ p ∈ F.map pr2, p.1 < p.2 ∧ Tell kk M Tb p.1 p.2 := fun p hp => by
                obtain ⟨z, hz, rfl⟩ := List.mem_map.mp hp
                exact ⟨(hok z hz).1, (hok z hz).2.2.2⟩
              refine ⟨_, rfl, (by show 0 ≤ sizeLine; decide), fun e ne => ?_⟩
              have f5 : Same H4 (upd H4 e (.lst [])) := Same.fresh ne
              refine ⟨.list (foundD F), .list [], .lst (SqL.of (f5 _ _ (same_wos _ _ _ _ hb4))) (foundD_dp (hF4.mono ((same_wos _ _).trans f5))), .lst (SqL.of upd_same) .nil, shaped_list (foundD_low F) (by decide), by decide, ?_⟩
              rw [foundD_ne]
              have hT5 := hT4.mono (Same.nw2 (same_wos2 f5)) f5 (Nat.le_refl _)
              have hTb' : Tab kk n M (addT Tb (F.map pr2)) := hTb.add hok2
              have hall2 : ∀ i j, i < j → j < n → Tb i j = false → ¬ Tell kk M Tb i j ∨ (i, j) ∈ F.map pr2 := fun i j h1 h2 h3 => (hcov i j h1 h2 h3).imp id fun ⟨l, hl⟩ => List.mem_map.mpr ⟨_, hl, rfl⟩
              by_cases hFn : F = []
              · subst hFn
                rw [List.map_nil, addT_nil] at hT5 hTb'
                refine ⟨0, Nat.succ_pos _, false, some (.ref b), v4', v5', v6', v7, B + 1, Tb, rfl, ⟨s4.trans f5, hT5, hTb', ?_, fun _ i j h1 h2 h3 => ?_⟩, rfl⟩
                · exact fun z => by cases z
                · rcases hall2 i j h1 h2 h3 with z | z
                  · exact z
                  · cases z
              · obtain ⟨p, hp⟩ := List.exists_mem_of_ne_nil F hFn
                obtain ⟨o1, o2, o3, o4⟩ := hok p hp
                have hlt : left n (addT Tb (F.map pr2)) < left n Tb := left_add (p := pr2 p) (List.mem_map.mpr ⟨p, hp, rfl⟩) (by show p.1 < n; omega) o2 o3
                refine ⟨left n (addT Tb (F.map pr2)) + 1, by omega, true, some (.ref b), v4', v5', v6', v7, B + 1, addT Tb (F.map pr2), by rw [decide_eq_false hFn] <;> rfl, ⟨s4.trans f5, hT5, hTb', fun _ => by omega, fun z => by cases z⟩, rfl⟩
abbrev sleaders : Stmt := top 46
abbrev nleaders : List Str := ["machine", "row"]
theorem scleaders : FnScope nleaders ["machine"] (defScope sleaders) := ⟨rfl, rfl, rfl, by decide +kernel, rfl, by decide +kernel, by decide +kernel⟩
theorem bleaders {K : PySem.W.Frag} {f : Addr} {fd : FuncData} (F : FunD K "leaders" "leaders" (defArgs sleaders) (defBody sleaders) (defScope sleaders) [] [] f fd) : Binds K fd ["machine"] [] := F.bindsN fun _ _ _ _ _ _ us hl => match us, hl with | [_], _ => rfl
def spLeaders : Sp := fun vs H Q _ => ∃ (a : Addr) (k n : Nat) (M : Mach), vs = [.ref a] ∧ MachAt H a M ∧ Ok k n M ∧ k ≤ 5 ∧ n ≤ 30 ∧ ∀ (H' : Hp) (p : Addr) (hs : List Nat), Same H H' → nw H H' p = some (.lst (natsV hs)) → Heads k n M hs → Q (.ref p) H'
/-- the entries of a row, as data -/
theorem row_dp {K : PySem.W.Frag} {G : Hp} {B : Nat} {T1 : Nat → Bool} : ∀ (es : List V), (∀ (j : Nat) (v : V), es[j]? = some v → EntV G B v (T1 j)) → ∃ ds : List PyData, DpAll K G es ds ∧ ds.length = es.length ∧ (∀ d ∈ ds, LowD 1 d) ∧ ∀ (j : Nat) (d : PyData), ds[j]? = some d → PyData.eqv d .none = !T1 j := by
  intro es
  induction es generalizing T1 with
  | nil => exact fun _ => ⟨[], .nil, rfl, (fun d h => by cases h), fun j d e => by cases j <;> cases e⟩
  | cons v es ih =>
    intro h
    obtain ⟨ds, h1, h2, h3, h4⟩ := ih (T1 := fun j => T1 (j + 1)) fun j v e => h (j + 1) v e
    have h0 := h 0 v rfl
    obtain ⟨d, g1, g2, g3⟩ : ∃ d, Dp K G v d ∧ LowD 1 d ∧ PyData.eqv d .none = !T1 0 := by
      cases e : T1 0 with
      | false =>
        rw [e] at h0
        have ev : v = .non := h0
        subst ev
        exact ⟨.none, .non, ⟨rfl, by decide⟩, rfl⟩
      | true =>
        rw [e] at h0
        obtain ⟨q, l, rfl, hq, _⟩ := h0
        exact ⟨natsD l, natsD_dp hq, ⟨natsD_canLay l, by rw [natsD_dep]; decide⟩, rfl⟩
    refine ⟨d :: ds, .cons g1 h1, by rw [List.length_cons, List.length_cons, h2], fun x hx => ?_, fun j x e => ?_⟩
    · rcases List.mem_cons.mp hx with z | z
      · rw [z]; exact g2
      · exact h3 x z
    · cases j with
      | zero =>
        have ez : d = x := Option.some.inj e
        rw [← ez]; exact g3
      | succ j => exact h4 j x e
/-- the first place that isn't told apart -/
theorem first_no (Tb : Nat → Bool) : ∀ n : Nat, Tb n = false → ∃ j, j ≤ n ∧ Tb j = false ∧ ∀ m, m < j → Tb m = true := by
  intro n
  induction n using Nat.strongRecOn with
  | _ n ih =>
    intro h
    by_cases z : ∃ m, m < n ∧ Tb m = false
    · obtain ⟨m, h1, h2⟩ := z
      obtain ⟨j, g1, g2, g3⟩ := ih m h1 h2
      exact ⟨j, by omega, g2, g3⟩
    · refine ⟨n, Nat.le_refl _, h, fun m hm => ?_⟩
      cases e : Tb m with
      | true => rfl
      | false => exact (z ⟨m, hm, e⟩).elim
theorem c_leaders (D : DefAt K mg "leaders" sleaders) (T : Txt K mg) (C_apart : Cal P w K mg base 4 "apart" spApart []) : Cal P w K mg base 5 "leaders" spLeaders [] := by
  refine mkCal D bleaders scleaders (fun vs H Q E h => ?_) fun f cdv A outer s H vs Q E hr h => ?_
  · obtain ⟨a, k, n, M, rfl, _⟩ := h; rfl
  · obtain ⟨a, kk, n, M, rfl, hM, hO, hk, hn30, k⟩ := h
    have hu65 := hu65_of hr
    have nd := scleaders.nd
    refine ⟨_, pss_one (ps_ret (pe_lc (own := [("row", 1)]) rfl nd (pi_list (pe_c C_apart hr (by decide) rfl (pa_cons (pv 0) pa_nil))) (blkOk_by (N := nleaders) (sc := defScope sleaders) (by decide +kernel)) (fun _ _ _ _ _ => pg_name (i := 1) nd rfl (Or.inl rfl)) (fun _ _ _ _ _ => pts_nil) (fun _ _ _ _ _ => (pe_bmK K PySem.F.plainAttrs_list PySem.F.slot_list_index PySem.F.type_list_index (mt_indexDK K hu65) (pv 1) (pa_cons pe_non pa_nil))))), ?_⟩
    refine ⟨_, rfl, a, kk, n, M, rfl, hM, hO, hk, hn30, fun H1 t rs B Tb s1 hT hTb hC => ?_⟩
    have hT1 := hT.mono (Same.nw H H1) (Same.nw H H1) (Nat.le_refl _)
    have hsT : SqL K H1 t (rs.map V.ref) := SqL.of hT1.lst
    refine ⟨t, rfl, ⟨_, hsT⟩, fun p np => ?_⟩
    refine lc_list (K := K) (a := t) (xs := rs.map V.ref) (fun i H' => ∃ hs : List Nat, hs.length = i ∧ Same H1 H' ∧ H' p = some (.lst (natsV hs)) ∧ ∀ s, s < i → hd hs s < n ∧ Tb s (hd hs s) = false ∧ ∀ t, t < hd hs s → Tb s t = true)
      ⟨[], rfl, Same.fresh np, upd_same, fun s h => absurd h (Nat.not_lt_zero _)⟩ (fun i H' _ ⟨_, _, s2, _⟩ => s2.seq hsT) ?_ ?_
    · rintro i y H2 hi ⟨hs, hl, s2, hp, hall⟩
      obtain ⟨r, hr', rfl⟩ : ∃ q, rs[i]? = some q ∧ y = V.ref q := by
        rw [List.getElem?_map] at hi
        cases e : rs[i]? with
        | none => rw [e] at hi; cases hi
        | some q => rw [e] at hi; exact ⟨q, rfl, (Option.some.inj hi).symm⟩
      have hin : i < n := by rw [← hT1.len]; exact (List.getElem?_eq_some_iff.mp hr').1
      obtain ⟨es, e1, e2, e3⟩ := (hT1.mono s2 s2 (Nat.le_refl _)).row i r hr'
      obtain ⟨ds, d1, d2, d3, d4⟩ := row_dp (K := K) es e3
      obtain ⟨j, j1, j2, j3⟩ := first_no (Tb i) i (hTb.irr i)
      have hjd : j < ds.length := by omega
      have ej := List.getElem?_eq_getElem hjd
      refine ⟨rfl, ?_⟩
      refine ⟨_, rfl, .inl ⟨rfl, _, SqL.of e1⟩, r, .non, .none, ds, j, ds[j], rfl, rfl, .lst (SqL.of e1) d1, .non, shaped_list d3 (by decide), rfl, ej, by rw [d4 j _ ej, j2]; rfl, fun m z hm hz => by rw [d4 m z hz, j3 m hm]; rfl, ?_⟩
      refine ⟨_, hp, ?_, hs ++ [j], by rw [List.length_append, hl] <;> rfl, s2.upd np, ?_, fun s hs' => ?_⟩
      · unfold natsV
        rw [List.length_map, hl]
        exact small1000 (by omega)
      · rw [upd_same]
        unfold natsV
        rw [List.map_append]; rfl
      · by_cases z : s = i
        · subst z
          have eh : hd (hs ++ [j]) s = j := by
            unfold hd
            rw [List.getD_eq_getElem?_getD, List.getElem?_append_right (by omega), hl, Nat.sub_self]; rfl
          rw [eh]
          exact ⟨by omega, j2, j3⟩
        · have eh : hd (hs ++ [j]) s = hd hs s := by
            unfold hd
            rw [List.getD_eq_getElem?_getD, List.getD_eq_getElem?_getD, List.getElem?_append_left (by omega)]
          rw [eh]
          exact hall s (by omega)
    · rintro H2 ⟨hs, hl, s2, hp, hall⟩
      rw [List.length_map, hT1.len] at hl
      refine k H2 p hs (s1.trans s2) (by rw [nw_at (s1.free np)]; exact hp) ⟨hl, fun s hs' => ?_, fun s hs' => ?_, fun s hs' t ht => ?_⟩
      · exact (hall s (by rw [List.length_map, hT1.len]; exact hs')).1
      · obtain ⟨g1, g2, _⟩ := hall s (by rw [List.length_map, hT1.len]; exact hs')
        exact hTb.full hO hC hs' g1 g2
      · obtain ⟨_, _, g3⟩ := hall s (by rw [List.length_map, hT1.len]; exact hs')
        exact hTb.sound s t (g3 t ht)
end
end Pw

namespace Pw
open PySem PySem.Spec PyProof.Rows L2
open C8 (Cal Met pe_c pe_mt pe_mt0 pe_gc)
section
variable {P : Program} {w : World} {K : PySem.W.Frag} {mg : Str → Option Value} {base : Heap}
/-! ### the search -/
structure SearchI (H : Hp) (d o : Addr) (n : Nat) (H' : Hp) (O : List Nat) (fs : List V) : Prop where
  same : Same H H'
  f : H' d = some (.lst fs)
  flen : fs.length = n
  ent : ∀ (j : Nat) (v : V), fs[j]? = some v → EntV (wos H' [d, o]) O.length v (decide (j ∈ O))
  ord : H' o = some (.lst (natsV O))
theorem SearchI.mono {H : Hp} {d o : Addr} {n : Nat} {H1 H2 : Hp} {O : List Nat} {fs : List V} (h : SearchI H d o n H1 O fs) (s : Same H1 H2) : SearchI H d o n H2 O fs :=
  ⟨h.same.trans s, s _ _ h.f, h.flen, fun j v e => (h.ent j v e).mono (same_wos2 s) (Nat.le_refl _), s _ _ h.ord⟩
/-- a state met -/
theorem SearchI.add {H : Hp} {d o : Addr} {n : Nat} {H' : Hp} {O : List Nat} {fs : List V} (h : SearchI H d o n H' O fs) (hd : H d = none) (ho : H o = none) (ne : d ≠ o) {x : Nat} (hx : x < n) (hxO : ¬ x ∈ O) {q : Addr} {l : List Nat} (hq : wos H' [d, o] q = some (.lst (natsV l))) (hl : l.length ≤ O.length + 1) :
    SearchI H d o n (upd (upd H' d (.lst (fs.set x (.ref q)))) o (.lst (natsV (O ++ [x])))) (O ++ [x]) (fs.set x (.ref q)) := by
  have e : wos (upd (upd H' d (.lst (fs.set x (.ref q)))) o (.lst (natsV (O ++ [x])))) [d, o] = wos H' [d, o] := by
    rw [wos_upd (by simp), wos_upd (by simp)]
  refine ⟨(h.same.upd hd).upd ho, by rw [upd_ne ne, upd_same], by rw [List.length_set, h.flen], fun j v ev => ?_, upd_same⟩
  rw [e]
  by_cases z : j = x
  · subst z
    rw [List.getElem?_set_self (by rw [h.flen]; exact hx)] at ev
    rw [decide_eq_true (List.mem_append_right _ (List.mem_singleton_self _)), ← Option.some.inj ev]
    exact ⟨q, l, rfl, hq, by rw [List.length_append, List.length_singleton]; exact hl⟩
  · rw [List.getElem?_set_ne (Ne.symm z)] at ev
    have ed : decide (j ∈ O ++ [x]) = decide (j ∈ O) := by
      simp [z]
    rw [ed]
    exact (h.ent j v ev).mono (Same.refl _) (by rw [List.length_append, List.length_singleton]; omega)
abbrev ssearch : Stmt := top 42
abbrev nsearch : List Str := ["machine", "found", "order", "at", "state", "ask", "there"]
theorem scsearch : FnScope nsearch ["machine"] (defScope ssearch) := ⟨rfl, rfl, rfl, by decide +kernel, rfl, by decide +kernel, by decide +kernel⟩
theorem bsearch {K : PySem.W.Frag} {f : Addr} {fd : FuncData} (F : FunD K "search" "search" (defArgs ssearch) (defBody ssearch) (defScope ssearch) [] [] f fd) : Binds K fd ["machine"] [] := F.bindsN fun _ _ _ _ _ _ us hl => match us, hl with | [_], _ => rfl
def spSearch : Sp := fun vs H Q _ => ∃ (a : Addr) (k n : Nat) (M : Mach), vs = [.ref a] ∧ MachAt H a M ∧ Ok k n M ∧ k ≤ 5 ∧ n ≤ 30 ∧
  ∀ (H' : Hp) (p d o : Addr) (O : List Nat) (at_ : Nat), Same H H' → nw H H' p = some (.tup [.ref d, .ref o]) → nw H H' o = some (.lst (natsV O)) → Bfs k n M O at_ → O.length ≤ at_ → Q (.ref p) H'
def WSearch (H : Hp) (a d o : Addr) (k n : Nat) (M : Mach) (m : Nat) (σ : L2.St) (H' : Hp) : Prop := ∃ (at_ : Nat) (O : List Nat) (fs : List V) (v4 v5 v6 : Option V),
  σ = [some (.ref a), some (.ref d), some (.ref o), some (.int at_), v4, v5, v6] ∧ SearchI H d o n H' O fs ∧ Bfs k n M O at_ ∧ at_ ≤ O.length ∧ m = n - at_
theorem c_search (D : DefAt K mg "search" ssearch) (T : Txt K mg) (C_asks_of : Cal P w K mg base 1 "asks_of" spAsks []) : Cal P w K mg base 2 "search" spSearch [] := by
  refine mkCal D bsearch scsearch (fun vs H Q E h => ?_) fun f cdv A outer s H vs Q E hr h => ?_
  · obtain ⟨a, k, n, M, rfl, _⟩ := h; rfl
  · obtain ⟨a, kk, n, M, rfl, hM, hO, hk, hn30, k⟩ := h
    have nd := scsearch.nd
    refine ⟨_, pss_cons (ps_set (i := 1) nd rfl (Or.inl rfl) (pe_op op_rep (pe_lst (pa_cons pe_non pa_nil)) (pe_callB (id := "len") call_len_seq rfl T.n_len (by decide +kernel) (pa_cons (pv 0) pa_nil))))
      (pss_cons (ps_asg (pe_lst pa_nil) (pg_sub (pv 1) pe_int set_list))
      (pss_cons (ps_set (i := 2) nd rfl (Or.inl rfl) (pe_lst (pa_cons pe_int pa_nil)))
      (pss_cons (ps_set (i := 3) nd rfl (Or.inl rfl) pe_int)
      (pss_cons (ps_while PassesOwn.never (pt_cmpR op_lt (pv 3) (pe_callB (id := "len") call_len_seq rfl T.n_len (by decide +kernel) (pa_cons (pv 2) pa_nil)) (nomark _))
      (pss_cons (ps_set (i := 4) nd rfl (Or.inl rfl) (pe_ix ix_list (pv 2) (pv 3) (fun _ _ => rfl)))
        (pss_cons (ps_for PassesOwn.never rfl (pi_range1 rfl T.n_range (pa_cons (pe_c C_asks_of hr (by decide) rfl (pa_cons (pv 0) pa_nil)) pa_nil)) (pg_name (i := 5) nd rfl (Or.inl rfl))
        (pss_cons (ps_set (i := 6) nd rfl (Or.inl rfl) (pe_ix ix_tup (pe_ix ix_list (pe_ix ix_list (pv 0) (pv 4) (fun _ _ => rfl)) (pv 5) (fun _ _ => rfl)) pe_int (fun _ _ => rfl)))
          (pss_one (ps_if (pt_cmp (pc_isN (pe_ix ix_list (pv 1) (pv 6) (fun _ _ => rfl))))
          (pss_cons (ps_asg (pe_op op_cat (pe_ix ix_list (pv 1) (pv 4) (fun _ _ => rfl)) (pe_lst (pa_cons (pv 5) pa_nil))) (pg_sub (pv 1) (pv 6) set_list))
            (pss_one (ps_expr (pe_bm PySem.F.plainAttrs_list PySem.F.slot_list_append PySem.F.type_list_append mt_append (pv 2) (pa_cons (pv 6) pa_nil)))))
          (pss_nil)))))
        (pss_one (ps_set (i := 3) nd rfl (Or.inl rfl) (pe_op op_add (pv 3) pe_int))))))
      (pss_one (ps_ret (pe_tup (pa_cons (pv 1) (pa_cons (pv 2) pa_nil))))))))), ?_⟩
    obtain ⟨ra, hA, hRs⟩ := id hM
    have hsA : SqL K H a (ra.map V.ref) := SqL.of hA
    have hlA : (ra.map V.ref).length = n := by rw [List.length_map, hRs.len, hO.len]
    refine ⟨(by show 1 ≤ sizeLine; decide), fun p1 np1 => ⟨_, rfl, a, _, rfl, .inl ((Same.fresh np1).seq hsA), p1, _, _, rfl, rfl, upd_same, by omega, by omega, ?_, fun d nd1 => ?_⟩⟩
    · rw [hlA]
      show 1 * n ≤ sizeLine
      rw [sizeLine_eq]; omega
    rw [hlA, Int.toNat_natCast, rep_flat]
    have nd0 : H d = none := (Same.fresh (o := .lst [.non]) np1).free nd1
    have s1 : Same H (upd (upd H p1 (.lst [.non])) d (.lst (List.replicate n .non))) := (Same.fresh np1).trans (Same.fresh nd1)
    have f1 : (upd (upd H p1 (.lst [.non])) d (.lst (List.replicate n .non))) d = some (.lst (List.replicate n .non)) := upd_same
    revert s1 f1
    generalize upd (upd H p1 (.lst [.non])) d (.lst (List.replicate n .non)) = H1
    intro s1 f1
    -- found[0] = []; order = [0]
    refine ⟨(by show 0 ≤ sizeLine; decide), fun e ne => ?_⟩
    have nde : d ≠ e := ne_of_none f1 ne
    refine ⟨_, rfl, d, _, 0, 0, rfl, rfl, (Same.fresh ne) _ _ f1, ?_, (by show 1 ≤ sizeLine; decide), fun o no => ?_⟩
    · rw [List.length_replicate]; exact ixN_nat (y := 0) hO.pos
    have s2 : Same H (upd (upd H1 e (.lst [])) d (.lst ((List.replicate n V.non).set 0 (.ref e)))) := (s1.trans (Same.fresh ne)).upd nd0
    have ndo : d ≠ o := ne_of_none upd_same no
    have neo : e ≠ o := ne_of_none (show upd (upd H1 e (.lst [])) d (.lst ((List.replicate n V.non).set 0 (.ref e))) e = some (.lst []) by rw [upd_ne nde.symm, upd_same]) no
    have no0 : H o = none := s2.free no
    have I0 : SearchI H d o n (upd (upd (upd H1 e (.lst [])) d (.lst ((List.replicate n V.non).set 0 (.ref e)))) o (.lst (natsV [0]))) [0] ((List.replicate n V.non).set 0 (.ref e)) := by
      refine ⟨s2.trans (Same.fresh no), by rw [upd_ne ndo, upd_same], by rw [List.length_set, List.length_replicate], fun j v ev => ?_, upd_same⟩
      by_cases z : j = 0
      · subst z
        rw [List.getElem?_set_self (by rw [List.length_replicate]; exact hO.pos)] at ev
        refine ⟨e, [], (Option.some.inj ev).symm, ?_, Nat.zero_le _⟩
        rw [wos_at (by simp [nde.symm, neo]), upd_ne neo, upd_ne nde.symm, upd_same]
        rfl
      · rw [List.getElem?_set_ne (Ne.symm z)] at ev
        have : v = .non := List.eq_of_mem_replicate (List.mem_of_getElem? ev)
        rw [decide_eq_false (by simp [z]), this]
        rfl
    refine ⟨WSearch H a d o kk n M, ⟨_, 0, [0], _, none, none, none, rfl, I0, Bfs.init hO.pos, Nat.zero_le _, rfl⟩, ?_⟩
    rintro m σ H2 ⟨at_, O, fs, v4, v5, v6, rfl, I, B, hat, rfl⟩
    have hOn : O.length ≤ n := lt_len B.nd B.lt
    have hso : SqL K H2 o (natsV O) := SqL.of I.ord
    have hlO : (natsV O).length = O.length := List.length_map _
    refine ⟨_, rfl, _, rfl, o, _, rfl, .inl hso, _, _, rfl, rfl, _, rfl, ?_⟩
    rw [hlO]
    by_cases hlt : at_ < O.length
    · rw [decide_eq_true (show (at_ : Int) < (O.length : Int) by omega)]
      refine iteT ⟨fun σ' H' => ∃ m', m' < n - at_ ∧ WSearch H a d o kk n M m' σ' H', fun _ _ h => h, ?_⟩
      have eO := List.getElem?_eq_getElem hlt
      generalize O[at_] = x at eO
      have hxn : x < n := B.lt x (List.mem_of_getElem? eO)
      refine ⟨_, rfl, _, rfl, _, _, _, _, rfl, rfl, hso, at_nat eO, ?_⟩
      refine ⟨_, rfl, a, kk, n, M, rfl, hM.mono I.same, hO, (kk : Int), rfl, by omega, by omega, for_range (lo := 0) (n := kk) (fun b σ H' => ∃ (O : List Nat) (fs : List V) (v5 v6 : Option V),
        σ = [some (.ref a), some (.ref d), some (.ref o), some (.int at_), some (.int x), v5, v6] ∧ SearchI H d o n H' O fs ∧ BfsIn kk n M O at_ x b) ⟨O, fs, v5, v6, rfl, I, B.enter eO⟩ ?_ ?_⟩
      · rintro b σ H3 hb ⟨O, fs, v5, v6, rfl, I, B⟩
        rw [show (0 : Int) + (b : Int) = (b : Int) by omega]
        obtain ⟨rx, r1, ps1, p1, x1, x2, x3, x4, x5, x6⟩ := (hM.mono I.same).cell hO hxn hb
        refine ⟨_, rfl, _, rfl, _, _, _, _, rfl, rfl, SqL.of x1, x2, _, rfl, _, _, _, _, rfl, rfl, SqL.of x3, x4, _, _, _, _, rfl, rfl, SqT.of x5, rfl, ?_⟩
        have hOn : O.length ≤ n := lt_len B.all.nd B.all.lt
        have hj : nxt M x b < fs.length := by rw [I.flen]; exact x6
        have ev := List.getElem?_eq_getElem hj
        refine ⟨_, rfl, _, rfl, _, _, _, _, rfl, rfl, SqL.of I.f, at_of rfl ev, _, rfl, ?_⟩
        have hent := I.ent _ _ ev
        by_cases hm : nxt M x b ∈ O
        · rw [decide_eq_true hm] at hent
          obtain ⟨q, l, eq, _⟩ := hent
          rw [eq]
          exact iteF ⟨O, fs, _, _, rfl, I, B.old hm⟩
        · rw [decide_eq_false hm] at hent
          have en : fs[nxt M x b] = .non := hent
          rw [en]
          refine iteT ?_
          have hxO : x ∈ O := List.mem_of_getElem? B.cur
          have hxl : x < fs.length := by rw [I.flen]; exact hxn
          have ex := List.getElem?_eq_getElem hxl
          have hentx := I.ent _ _ ex
          rw [decide_eq_true hxO] at hentx
          obtain ⟨q, l, eq, hq, hl⟩ := hentx
          rw [eq] at ex
          obtain ⟨_, hq3⟩ := wos_some hq
          refine ⟨_, rfl, _, rfl, _, _, _, _, rfl, rfl, SqL.of I.f, at_of rfl ex, _, rfl, (by show 1 ≤ sizeLine; decide), fun p3 np3 => ⟨q, p3, natsV l, _, rfl, rfl, (Same.fresh np3) _ _ hq3, upd_same, ?_, fun p4 np4 => ?_⟩⟩
          · have : (natsV l).length = l.length := List.length_map _
            show (natsV l).length + 1 ≤ sizeLine
            rw [this, sizeLine_eq]
            omega
          have sF := (Same.fresh (o := .lst [V.int (b : Int)]) np3).trans (Same.fresh (o := .lst (natsV l ++ [V.int (b : Int)])) np4)
          have e4 : natsV l ++ [V.int (b : Int)] = natsV (l ++ [b]) := by unfold natsV; rw [List.map_append]; rfl
          rw [e4] at sF ⊢
          have I4 := I.mono sF
          have hp4 : wos (upd (upd H3 p3 (.lst [V.int (b : Int)])) p4 (.lst (natsV (l ++ [b])))) [d, o] p4 = some (.lst (natsV (l ++ [b]))) := by
            have g1 : d ≠ p4 := ne_of_none ((Same.fresh np3) _ _ I.f) np4
            have g2 : o ≠ p4 := ne_of_none ((Same.fresh np3) _ _ I.ord) np4
            rw [wos_at (by simp [g1.symm, g2.symm]), upd_same]
          revert I4 hp4
          generalize upd (upd H3 p3 (.lst [V.int (b : Int)])) p4 (.lst (natsV (l ++ [b]))) = H4
          intro I4 hp4
          have I5 := I4.add nd0 no0 ndo x6 hm hp4 (by rw [List.length_append, List.length_singleton]; omega)
          refine ⟨_, rfl, _, rfl, d, _, _, _, rfl, rfl, I4.f, ixN_nat hj, ?_⟩
          have io : (upd H4 d (.lst (fs.set (nxt M x b) (.ref p4)))) o = some (.lst (natsV O)) := by rw [upd_ne ndo.symm]; exact I4.ord
          refine ⟨_, rfl, .inl ⟨rfl, _, SqL.of io⟩, _, rfl, o, _, _, rfl, rfl, io, ?_, O ++ [nxt M x b], fs.set (nxt M x b) (.ref p4), _, _, rfl, ?_, B.new hb x6 hm⟩
          · unfold natsV
            rw [List.length_map]
            exact small1000 (by omega)
          · have e5 : natsV O ++ [V.int (nxt M x b : Int)] = natsV (O ++ [nxt M x b]) := by unfold natsV; rw [List.map_append]; rfl
            rw [e5]
            exact I5
      · rintro σ H3 ⟨O, fs, v5, v6, rfl, I, B⟩
        have hlt2 : at_ < O.length := (List.getElem?_eq_some_iff.mp B.cur).1
        have hOn : O.length ≤ n := lt_len B.all.nd B.all.lt
        refine ⟨_, rfl, _, _, rfl, rfl, n - (at_ + 1), by omega, at_ + 1, O, fs, _, _, _, rfl, I, B.leave, by omega, rfl⟩
    · rw [decide_eq_false (show ¬ (at_ : Int) < (O.length : Int) by omega)]
      refine iteF ⟨_, rfl, _, rfl, (by show 2 ≤ sizeLine; decide), fun p np => ?_⟩
      have nop : o ≠ p := ne_of_none I.ord np
      exact k _ p d o O at_ (I.same.trans (Same.fresh np)) (by rw [nw_at (I.same.free np), upd_same]) (by rw [nw_at no0, upd_ne nop]; exact I.ord) B (by omega)
abbrev sreached : Stmt := top 44
abbrev nreached : List Str := ["machine"]
theorem screached : FnScope nreached ["machine"] (defScope sreached) := ⟨rfl, rfl, rfl, by decide +kernel, rfl, by decide +kernel, by decide +kernel⟩
theorem breached {K : PySem.W.Frag} {f : Addr} {fd : FuncData} (F : FunD K "reached" "reached" (defArgs sreached) (defBody sreached) (defScope sreached) [] [] f fd) : Binds K fd ["machine"] [] := F.bindsN fun _ _ _ _ _ _ us hl => match us, hl with | [_], _ => rfl
def spReached : Sp := fun vs H Q _ => ∃ (a : Addr) (k n : Nat) (M : Mach), vs = [.ref a] ∧ MachAt H a M ∧ Ok k n M ∧ k ≤ 5 ∧ n ≤ 30 ∧
  ∀ (H' : Hp) (o : Addr) (O : List Nat) (at_ : Nat), Same H H' → nw H H' o = some (.lst (natsV O)) → Bfs k n M O at_ → O.length ≤ at_ → Q (.ref o) H'
theorem c_reached (D : DefAt K mg "reached" sreached) (T : Txt K mg) (C_search : Cal P w K mg base 2 "search" spSearch []) : Cal P w K mg base 3 "reached" spReached [] := by
  refine mkCal D breached screached (fun vs H Q E h => ?_) fun f cdv A outer s H vs Q E hr h => ?_
  · obtain ⟨a, k, n, M, rfl, _⟩ := h; rfl
  · obtain ⟨a, kk, n, M, rfl, hM, hO, hk, hn30, k⟩ := h
    have nd := screached.nd
    refine ⟨_, pss_one (ps_ret (pe_ix ix_tup (pe_c C_search hr (by decide) rfl (pa_cons (pv 0) pa_nil)) pe_int (fun _ _ => rfl))), ?_⟩
    refine ⟨_, rfl, a, kk, n, M, rfl, hM, hO, hk, hn30, fun H' p d o O at_ s1 hp ho B hl => ?_⟩
    exact ⟨_, _, _, _, rfl, rfl, SqT.of (nw_some hp).2, rfl, k H' o O at_ s1 ho B hl⟩
/-! ### lists of numbers asked -/
theorem flat_nats (l : List Nat) : (natsV l).all flatV = true := by
  rw [List.all_eq_true]
  intro v hv
  obtain ⟨x, _, rfl⟩ := List.mem_map.mp hv
  rfl
theorem inV_nats (x : Nat) (l : List Nat) : inV (.int (x : Int)) (natsV l) = decide (x ∈ l) := by
  unfold inV natsV
  rw [List.any_map, Bool.eq_iff_iff, List.any_eq_true, decide_eq_true_eq]
  constructor
  · rintro ⟨y, hy, e⟩
    have e2 : ((y : Int) == (x : Int)) = true := e
    rw [beq_iff_eq] at e2
    have : y = x := by omega
    rw [← this]; exact hy
  · intro h
    exact ⟨x, h, show ((x : Int) == (x : Int)) = true from beq_self_eq_true _⟩
theorem eqV_nat (x y : Nat) : eqV (.int (x : Int)) (.int (y : Int)) = decide (x = y) := by
  show ((x : Int) == (y : Int)) = _
  rw [Bool.eq_iff_iff, beq_iff_eq, decide_eq_true_eq]
  omega
theorem natsV_at {l : List Nat} {i x : Nat} (h : l[i]? = some x) : (natsV l)[i]? = some (.int (x : Int)) := by unfold natsV; rw [List.getElem?_map, h]; rfl
theorem natsV_inv {l : List Nat} {i : Nat} {v : V} (h : (natsV l)[i]? = some v) : ∃ x, l[i]? = some x ∧ v = .int (x : Int) := by
  unfold natsV at h
  rw [List.getElem?_map] at h
  cases e : l[i]? with
  | none => rw [e] at h; cases h
  | some x => rw [e] at h; exact ⟨x, rfl, (Option.some.inj h).symm⟩
theorem natsV_snoc (l : List Nat) (x : Nat) : natsV l ++ [V.int (x : Int)] = natsV (l ++ [x]) := by unfold natsV; rw [List.map_append]; rfl
/-! ### the least machine -/
abbrev sleast : Stmt := top 47
abbrev nleast : List Str := ["machine", "heads", "order", "state", "rows", "head", "answer", "there"]
theorem scleast : FnScope nleast ["machine"] (defScope sleast) := ⟨rfl, rfl, rfl, by decide +kernel, rfl, by decide +kernel, by decide +kernel⟩
theorem bleast {K : PySem.W.Frag} {f : Addr} {fd : FuncData} (F : FunD K "least" "least" (defArgs sleast) (defBody sleast) (defScope sleast) [] [] f fd) : Binds K fd ["machine"] [] := F.bindsN fun _ _ _ _ _ _ us hl => match us, hl with | [_], _ => rfl
def spLeast : Sp := fun vs H Q _ => ∃ (a : Addr) (k n : Nat) (M : Mach), vs = [.ref a] ∧ MachAt H a M ∧ Ok k n M ∧ k ≤ 5 ∧ n ≤ 30 ∧ ∀ (H' : Hp) (b : Addr) (L : Mach), Same H H' → MachAt (nw H H') b L → Least k M L → Q (.ref b) H'
theorem c_least (D : DefAt K mg "least" sleast) (T : Txt K mg) (C_leaders : Cal P w K mg base 5 "leaders" spLeaders []) (C_reached : Cal P w K mg base 3 "reached" spReached []) : Cal P w K mg base 6 "least" spLeast [] := by
  refine mkCal D bleast scleast (fun vs H Q E h => ?_) fun f cdv A outer s H vs Q E hr h => ?_
  · obtain ⟨a, k, n, M, rfl, _⟩ := h; rfl
  · obtain ⟨a, kk, n, M, rfl, hM, hO, hk, hn30, k⟩ := h
    have nd := scleast.nd
    refine ⟨_, pss_cons (ps_set (i := 1) nd rfl (Or.inr rfl) (pe_c C_leaders hr (by decide) rfl (pa_cons (pv 0) pa_nil)))
      (pss_cons (ps_set (i := 2) nd rfl (Or.inr rfl) (pe_lst pa_nil))
      (pss_cons (ps_for PassesOwn.never rfl (pi_list (pe_c C_reached hr (by decide) rfl (pa_cons (pv 0) pa_nil))) (pg_name (i := 3) nd rfl (Or.inl rfl))
      (pss_one (ps_if (pt_cmpR op_notIn_seq (pe_ix ix_list (pv 1) (pv 3) (fun _ _ => rfl)) (pv 2) (by rfl))
        (pss_one (ps_expr (pe_bm PySem.F.plainAttrs_list PySem.F.slot_list_append PySem.F.type_list_append mt_append (pv 2) (pa_cons (pe_ix ix_list (pv 1) (pv 3) (fun _ _ => rfl)) pa_nil))))
        (pss_nil))))
      (pss_cons (ps_set (i := 4) nd rfl (Or.inl rfl) (pe_lst pa_nil))
      (pss_cons (ps_for PassesOwn.never rfl (pi_list (pv 2)) (pg_name (i := 5) nd rfl (Or.inl rfl))
      (pss_one (ps_expr (pe_bm PySem.F.plainAttrs_list PySem.F.slot_list_append PySem.F.type_list_append mt_append (pv 4) (pa_cons (pe_lc (own := [("answer", 6), ("there", 7)]) rfl nd (pi_list (pe_ix ix_list (pv 0) (pv 5) (fun _ _ => rfl))) (blkOk_by (N := nleast) (sc := defScope sleast) (by decide +kernel)) (fun _ _ _ _ _ => pg_tupK K (n := 2) rfl (pgs_cons (pg_name (i := 6) nd rfl (Or.inl rfl)) (pgs_cons (pg_name (i := 7) nd rfl (Or.inl rfl)) pgs_nil))) (fun _ _ _ _ _ => pts_nil) (fun _ _ _ _ _ => (pe_tup (pa_cons (pv 6) (pa_cons (pe_bmK K PySem.F.plainAttrs_list PySem.F.slot_list_index PySem.F.type_list_index (mt_indexK K) (pv 2) (pa_cons (pe_ix (ix_listK K) (pv 1) (pv 7) (fun _ _ => rfl)) pa_nil)) pa_nil))))) pa_nil)))))
      (pss_one (ps_ret (pv 4))))))), ?_⟩
    refine ⟨_, rfl, a, kk, n, M, rfl, hM, hO, hk, hn30, fun H1 hp hs s1 hhp hH => ?_⟩
    obtain ⟨nhp, hhp1⟩ := nw_some hhp
    refine ⟨(by show 0 ≤ sizeLine; decide), fun o no => ?_⟩
    have s2 : Same H1 (upd H1 o (.lst [])) := Same.fresh no
    have no0 : H o = none := s1.free no
    refine ⟨_, rfl, a, kk, n, M, rfl, hM.mono (s1.trans s2), hO, hk, hn30, fun H3 r O at_ s3 hr3 B hl => ?_⟩
    obtain ⟨nr, hr4⟩ := nw_some hr3
    have nro : r ≠ o := fun z => by rw [z, upd_same] at nr; cases nr
    have hso3 : SqL K H3 r (natsV O) := SqL.of hr4
    have hOn : O.length ≤ n := lt_len B.nd B.lt
    -- the order of the classes
    refine ⟨r, rfl, ⟨_, hso3⟩, for_list (K := K) (a := r) (xs := natsV O) (fun i σ H' => (∃ v3, σ = [some (.ref a), some (.ref hp), some (.ref o), v3, none, none, none, none]) ∧ Same H1 H' ∧ H' r = some (.lst (natsV O)) ∧ H' o = some (.lst (natsV (dd ((O.take i).map (hd hs))))))
      ⟨⟨none, rfl⟩, s2.trans s3, hr4, s3 _ _ upd_same⟩ (fun i σ H' _ h => SqL.of h.2.2.1) ?_ ?_⟩
    · rintro i y σ H4 hi ⟨⟨v3, rfl⟩, s4, hr5, ho4⟩
      obtain ⟨x, hx, rfl⟩ := natsV_inv hi
      have hxn : x < n := B.lt x (List.mem_of_getElem? hx)
      have hdx := hd_at (hs := hs) (s := x) (by rw [hH.len]; exact hxn)
      have hsh : SqL K H4 hp (natsV hs) := SqL.of (s4 _ _ hhp1)
      have et : (O.take (i + 1)).map (hd hs) = (O.take i).map (hd hs) ++ [hd hs x] := by
        rw [List.take_add_one, hx, List.map_append]; rfl
      refine ⟨_, rfl, _, rfl, _, _, _, _, rfl, rfl, hsh, at_nat hdx, _, rfl, o, _, rfl, .inl (SqL.of ho4), rfl, flat_nats _, _, rfl, ?_⟩
      rw [inV_nats]
      by_cases hm : hd hs x ∈ dd ((O.take i).map (hd hs))
      · rw [decide_eq_true hm]
        refine iteF ⟨⟨_, rfl⟩, s4, hr5, ?_⟩
        rw [et, dd_snoc]
        unfold push
        rw [if_pos hm]
        exact ho4
      · rw [decide_eq_false hm]
        refine iteT ⟨_, rfl, .inl ⟨rfl, _, SqL.of ho4⟩, _, rfl, _, rfl, _, _, _, _, rfl, rfl, hsh, at_nat hdx, o, _, _, rfl, rfl, ho4, ?_, ⟨_, rfl⟩, s4.upd no, ?_, ?_⟩
        · unfold natsV
          rw [List.length_map]
          have h1 : (dd ((O.take i).map (hd hs))).length ≤ ((O.take i).map (hd hs)).length := nodup_len _ _ (nodup_dd _) fun z hz => mem_dd.mp hz
          rw [List.length_map, List.length_take] at h1
          exact small1000 (by omega)
        · rw [upd_ne nro]; exact hr5
        · rw [upd_same, natsV_snoc, et, dd_snoc]
          unfold push
          rw [if_neg hm]
    · rintro σ H4 ⟨⟨v3, rfl⟩, s4, hr5, ho4⟩
      have eC : dd ((O.take (natsV O).length).map (hd hs)) = ordC O hs := by
        have : (natsV O).length = O.length := List.length_map _
        rw [this, List.take_length]; rfl
      rw [eC] at ho4
      generalize hCdef : ordC O hs = C at ho4
      have hLst := least_is hO B hl hH
      have hCl : C.length ≤ n := by
        have h1 := hLst.len_le
        rw [least_len, hCdef, hO.len] at h1
        exact h1
      have hsC : SqL K H4 o (natsV C) := SqL.of ho4
      have s04 : Same H H4 := s1.trans s4
      -- the rows
      refine ⟨(by show 0 ≤ sizeLine; decide), fun b nb => ?_⟩
      have nbo : o ≠ b := ne_of_none ho4 nb
      have nb0 : H b = none := s04.free nb
      refine ⟨_, rfl, o, rfl, ⟨_, (Same.fresh nb).seq hsC⟩, for_list (K := K) (a := o) (xs := natsV C) (fun i σ H' => (∃ v5, σ = [some (.ref a), some (.ref hp), some (.ref o), v3, some (.ref b), v5, none, none]) ∧ Same H4 H' ∧ ∃ qs, H' b = some (.lst (qs.map V.ref)) ∧ RowsIn (nw H (wo H' b)) qs ((C.take i).map (leastRow M hs C)))
        ⟨⟨none, rfl⟩, Same.fresh nb, [], upd_same, RowsIn.nil⟩ (fun i σ H' _ h => h.2.1.seq hsC) ?_ ?_⟩
      · rintro i y σ H5 hi ⟨⟨v5, rfl⟩, s5, qs, hb5, hR⟩
        obtain ⟨c, hc, rfl⟩ := natsV_inv hi
        have hcC : (ordC O hs)[i]? = some c := by rw [hCdef]; exact hc
        obtain ⟨hcn, _⟩ := least_cell hO B hl hH hcC hO.kpos
        have s05 : Same H H5 := s04.trans s5
        obtain ⟨row, hrow, hrl, hrm⟩ := hO.at hcn
        obtain ⟨ra, rr, g1, g2, ps, g3⟩ := (hM.mono s05).at hrow
        have hsr : SqL K H5 rr (ps.map V.ref) := SqL.of g3.lst
        refine ⟨_, rfl, .inl ⟨rfl, _, SqL.of hb5⟩, ?_⟩
        refine ⟨_, rfl, _, rfl, _, _, _, _, rfl, rfl, SqL.of g1, g2, rr, rfl, ⟨_, hsr⟩, fun q nq => ?_⟩
        have nbq : b ≠ q := ne_of_none hb5 nq
        have nq0 : H q = none := s05.free nq
        refine lc_list (K := K) (a := rr) (xs := ps.map V.ref) (fun j H' => Same H5 H' ∧ ∃ ts : List Addr, H' q = some (.lst (ts.map V.ref)) ∧ CellsIn (nw H (wo (wo H' b) q)) ts ((row.take j).map fun z => (z.1, C.idxOf (hd hs z.2))))
          ⟨Same.fresh nq, [], upd_same, CellsIn.nil⟩ (fun j H' _ h => h.1.seq hsr) ?_ ?_
        · rintro j y H6 hj ⟨s6, ts, hq6, hcells⟩
          obtain ⟨p, hp', rfl⟩ : ∃ q, ps[j]? = some q ∧ y = V.ref q := by
            rw [List.getElem?_map] at hj
            cases e : ps[j]? with
            | none => rw [e] at hj; cases hj
            | some q => rw [e] at hj; exact ⟨q, rfl, (Option.some.inj hj).symm⟩
          have hjr : j < row.length := by rw [← g3.len]; exact (List.getElem?_eq_some_iff.mp hp').1
          have ez := List.getElem?_eq_getElem hjr
          generalize row[j] = z at ez
          have hcell := g3.cell j p z hp' ez
          have hjk : j < kk := by rw [← hrl]; exact hjr
          obtain ⟨f1, f2⟩ := cell_of hrow ez
          have hzn : z.2 < n := hO.next row hrm z (List.mem_of_getElem? ez)
          have hdz := hd_at (hs := hs) (s := z.2) (by rw [hH.len]; exact hzn)
          obtain ⟨_, _, _, x, hxO, hx1, hx2⟩ := least_cell hO B hl hH hcC hjk
          have hmC : hd hs z.2 ∈ C := by
            rw [← f2, hx2, ← hCdef]
            exact mem_dd.mpr (List.mem_map.mpr ⟨_, B.closed hl hxO hjk, rfl⟩)
          have hix := idxOf_get hmC
          have sH6 : Same H4 H6 := s5.trans s6
          refine ⟨p, _, rfl, SqT.of (s6 _ _ hcell), rfl, _, _, rfl, _, _, rfl, rfl, rfl, ?_⟩
          refine ⟨_, rfl, _, rfl, .inl ⟨rfl, _, SqL.of (sH6 _ _ ho4)⟩, _, rfl, _, rfl, _, _, _, _, rfl, rfl, SqL.of (sH6 _ _ (s4 _ _ hhp1)), at_nat hdz, o, _, _, C.idxOf (hd hs z.2), _, rfl, rfl, SqL.of (sH6 _ _ ho4), rfl, flat_nats _, natsV_at hix, ?_, fun m z' hm hz' => ?_, (by show 2 ≤ sizeLine; decide), fun t nt => ?_⟩
          · rw [eqV_nat, decide_eq_true rfl]
          · obtain ⟨y, hy, rfl⟩ := natsV_inv hz'
            rw [eqV_nat, decide_eq_false]
            intro e
            subst e
            have := idxOf_at (by rw [← hCdef]; exact nodup_dd _) hy
            omega
          · have nqt : q ≠ t := ne_of_none hq6 nt
            have nbt : b ≠ t := ne_of_none (s6 _ _ hb5) nt
            have s06 : Same H H6 := s05.trans s6
            refine ⟨_, (by rw [upd_ne nqt]; exact hq6), ?_, (s6.trans (Same.fresh nt)).upd nq, ts ++ [t], (by rw [upd_same, List.map_append] <;> rfl), ?_⟩
            · rw [List.length_map, hcells.len, List.length_map, List.length_take]
              exact small1000 (by omega)
            · have ew : ∀ o, wo (wo (upd (upd H6 t o) q (.lst (ts.map V.ref ++ [V.ref t]))) b) q = wo (wo (upd H6 t o) b) q := fun o => by
                funext x
                by_cases e : x = q
                · rw [e, wo_self, wo_self]
                · rw [wo_at e, wo_at e]
                  by_cases e2 : x = b
                  · rw [e2, wo_self, wo_self]
                  · rw [wo_at e2, wo_at e2, upd_ne e]
              rw [ew, List.take_add_one, ez, List.map_append]
              refine (hcells.mono (Same.nw2 (Same.wo2 (Same.wo2 (Same.fresh nt))))).snoc ?_
              rw [nw_at (s06.free nt), wo_at nqt.symm, wo_at nbt.symm, upd_same]
              rfl
        · rintro H6 ⟨s6, ts, hq6, hcells⟩
          rw [List.length_map, g3.len, List.take_length] at hcells
          refine ⟨b, _, _, rfl, rfl, s6 _ _ hb5, ?_, ⟨_, rfl⟩, (s5.trans s6).upd nb, qs ++ [q], (by rw [upd_same, List.map_append] <;> rfl), ?_⟩
          · rw [List.length_map, hR.len, List.length_map, List.length_take]
            exact small1000 (by omega)
          · rw [wo_upd, List.take_add_one, hc, List.map_append]
            refine (hR.mono (Same.nw2 (Same.wo2 s6))).snoc ?_
            have hrow2 : leastRow M hs C c = row.map fun z => (z.1, C.idxOf (hd hs z.2)) := by
              unfold leastRow
              rw [getD_of hrow]
            rw [hrow2]
            refine (hcells.mono (Same.nw2 (Same.wo (wo H6 b) q))).row ?_
            rw [nw_at nq0, wo_at nbq.symm]
            exact hq6
      · rintro σ H5 ⟨⟨v5, rfl⟩, s5, qs, hb5, hR⟩
        have hlC : (natsV C).length = C.length := List.length_map _
        rw [hlC, List.take_length] at hR
        refine ⟨_, rfl, k H5 b (leastOf M hs O) (s04.trans s5) ⟨qs, by rw [nw_at nb0]; exact hb5, ?_⟩ hLst⟩
        have e : leastOf M hs O = C.map (leastRow M hs C) := by
          unfold leastOf
          rw [hCdef]
        rw [e]
        exact hR.mono (Same.nw2 (Same.wo H5 b))
end
end Pw

namespace Pw
open PySem PySem.Spec PyProof.Rows L2
open C8 (Cal Met pe_c pe_mt pe_mt0 pe_gc)
/-! ### a walk over pairs in the heap -/
def keyOf (p : Nat × Nat) : List Key := [Sum.inl (p.1 : Int), Sum.inl (p.2 : Int)]
theorem keyOf_inj {p q : Nat × Nat} (h : keyOf p = keyOf q) : p = q := by
  unfold keyOf at h
  injection h with h1 h2
  injection h2 with h2 _
  have e1 := Sum.inl.inj h1
  have e2 := Sum.inl.inj h2
  exact Prod.ext (by omega) (by omega)
def pairHO (p : Nat × Nat) : HO := .tup [.int (p.1 : Int), .int (p.2 : Int)]
theorem pairHO_key (p : Nat × Nat) : pairHO p = .tup ((keyOf p).map kV) := rfl
/-- what the dict holds by each pair, if it is asked -/
def Lv (b : Bool) (G : Hp) (B : Nat) (v : V) : Prop := b = true → ∃ (q : Addr) (l : List Nat), v = .ref q ∧ G q = some (.lst (natsV l)) ∧ l.length ≤ B ∧ ∀ x ∈ l, x < 5
theorem Lv.mono {b : Bool} {G G' : Hp} {B B' : Nat} {v : V} (h : Lv b G B v) (s : Same G G') (hB : B ≤ B') : Lv b G' B' v := fun z => let ⟨q, l, e1, e2, e3, e4⟩ := h z; ⟨q, l, e1, s _ _ e2, Nat.le_trans e3 hB, e4⟩
structure LikeI (b : Bool) (H : Hp) (d o : Addr) (H' : Hp) (P : List (Nat × Nat)) (ts : List Addr) (kvs : List (List Key × V)) : Prop where
  same : Same H H'
  dic : H' d = some (.dT kvs)
  klen : kvs.length ≤ P.length
  has : ∀ p, (valV kvs (keyOf p)).isSome = decide (p ∈ P)
  val : ∀ p v, valV kvs (keyOf p) = some v → Lv b (wos H' [d, o]) P.length v
  ord : H' o = some (.lst (ts.map V.ref))
  tlen : ts.length = P.length
  tup : ∀ (i : Nat) (t : Addr) (p : Nat × Nat), ts[i]? = some t → P[i]? = some p → wos H' [d, o] t = some (pairHO p)
section
variable {b : Bool} {H : Hp} {d o : Addr} {H1 H2 : Hp} {P : List (Nat × Nat)} {ts : List Addr} {kvs : List (List Key × V)}
theorem LikeI.mono (h : LikeI b H d o H1 P ts kvs) (s : Same H1 H2) : LikeI b H d o H2 P ts kvs :=
  ⟨h.same.trans s, s _ _ h.dic, h.klen, h.has, fun p v e => (h.val p v e).mono (same_wos2 s) (Nat.le_refl _), s _ _ h.ord, h.tlen, fun i t p e1 e2 => same_wos2 s _ _ (h.tup i t p e1 e2)⟩
theorem LikeI.at (h : LikeI b H d o H1 P ts kvs) {i : Nat} {p : Nat × Nat} (e : P[i]? = some p) : ∃ t, atI (ts.map V.ref) (i : Int) = some (.ref t) ∧ H1 t = some (pairHO p) := by
  have hi : i < ts.length := by rw [h.tlen]; exact (List.getElem?_eq_some_iff.mp e).1
  have e1 := List.getElem?_eq_getElem hi
  exact ⟨_, at_ref e1, (wos_some (h.tup i _ p e1 e)).2⟩
theorem LikeI.add (h : LikeI b H d o H1 P ts kvs) (hd : H d = none) (ho : H o = none) (ne : d ≠ o) {p : Nat × Nat} (hp : ¬ p ∈ P) {t : Addr} (ht : wos H1 [d, o] t = some (pairHO p)) {v : V} (hv : Lv b (wos H1 [d, o]) (P.length + 1) v) :
    LikeI b H d o (upd (upd H1 d (.dT (putK kvs (keyOf p) v))) o (.lst ((ts ++ [t]).map V.ref))) (P ++ [p]) (ts ++ [t]) (putK kvs (keyOf p) v) := by
  have e : wos (upd (upd H1 d (.dT (putK kvs (keyOf p) v))) o (.lst ((ts ++ [t]).map V.ref))) [d, o] = wos H1 [d, o] := by
    rw [wos_upd (by simp), wos_upd (by simp)]
  have nov : valV kvs (keyOf p) = none := by
    have := h.has p
    rw [decide_eq_false hp] at this
    exact Option.not_isSome_iff_eq_none.mp (by rw [this]; exact Bool.false_ne_true)
  refine ⟨(h.same.upd hd).upd ho, by rw [upd_ne ne, upd_same], ?_, fun q => ?_, fun q u eq => ?_, upd_same, by rw [List.length_append, List.length_append, h.tlen] <;> rfl, fun i t' q e1 e2 => ?_⟩
  · rw [putK_new v nov, List.length_append, List.length_append]
    have := h.klen
    simp only [List.length_cons, List.length_nil]
    omega
  · rw [valV_put]
    by_cases z : q = p
    · subst z
      rw [if_pos rfl, decide_eq_true (List.mem_append_right _ (List.mem_singleton_self _))]
      rfl
    · rw [if_neg (fun y => z (keyOf_inj y)), h.has q]
      simp [z]
  · rw [e]
    rw [valV_put] at eq
    by_cases z : keyOf q = keyOf p
    · rw [if_pos z] at eq
      rw [← Option.some.inj eq, List.length_append, List.length_singleton]
      exact hv
    · rw [if_neg z] at eq
      exact (h.val q u eq).mono (Same.refl _) (by rw [List.length_append, List.length_singleton]; omega)
  · rw [e]
    rcases snoc_at e1 with ⟨a1, a2⟩ | ⟨a1, a2⟩ <;> rcases snoc_at e2 with ⟨b1, b2⟩ | ⟨b1, b2⟩
    · exact h.tup i t' q a2 b2
    · have := h.tlen; omega
    · have := h.tlen; omega
    · rw [← a2, ← b2]; exact ht
end
section
variable {P : Program} {w : World} {K : PySem.W.Frag} {mg : Str → Option Value} {base : Heap}
abbrev sunlike_ask : Stmt := top 89
abbrev nunlike_ask : List Str := ["row", "other_row", "ask"]
theorem scunlike_ask : FnScope nunlike_ask ["row", "other_row"] (defScope sunlike_ask) := ⟨rfl, rfl, rfl, by decide +kernel, rfl, by decide +kernel, by decide +kernel⟩
theorem bunlike_ask {K : PySem.W.Frag} {f : Addr} {fd : FuncData} (F : FunD K "unlike_ask" "unlike_ask" (defArgs sunlike_ask) (defBody sunlike_ask) (defScope sunlike_ask) [] [] f fd) : Binds K fd ["row", "other_row"] [] := F.bindsN fun _ _ _ _ _ _ us hl => match us, hl with | [_, _], _ => rfl
def spUnlike : Sp := fun vs H Q _ => ∃ (a b : Addr) (k : Nat) (row row' : Row), vs = [.ref a, .ref b] ∧ RowAt H a row ∧ RowAt H b row' ∧ row.length = k ∧ row'.length = k ∧ k ≤ 5 ∧
  ((∀ (i : Nat) (c d : Int × Nat), row[i]? = some c → row'[i]? = some d → c.1 = d.1) → Q .non H) ∧ ∀ (i : Nat) (c d : Int × Nat), row[i]? = some c → row'[i]? = some d → c.1 ≠ d.1 → Q (.int i) H
theorem c_unlike_ask (D : DefAt K mg "unlike_ask" sunlike_ask) (T : Txt K mg) : Cal P w K mg base 1 "unlike_ask" spUnlike [] := by
  refine mkCal D bunlike_ask scunlike_ask (fun vs H Q E h => ?_) fun f cdv A outer s H vs Q E hr h => ?_
  · obtain ⟨a, b, k, row, row', rfl, _⟩ := h; rfl
  · obtain ⟨a, b, kk, row, row', rfl, ⟨ps, hA⟩, ⟨qs, hB⟩, hl, hl', hk, kN, kS⟩ := h
    have nd := scunlike_ask.nd
    refine ⟨_, pss_cons (ps_for PassesOwn.never rfl (pi_range1 rfl T.n_range (pa_cons (pe_callB (id := "len") call_len_seq rfl T.n_len (by decide +kernel) (pa_cons (pv 0) pa_nil)) pa_nil)) (pg_name (i := 2) nd rfl (Or.inl rfl))
      (pss_one (ps_if (pt_cmpR op_ne (pe_ix ix_tup (pe_ix ix_list (pv 0) (pv 2) (fun _ _ => rfl)) pe_int (fun _ _ => rfl)) (pe_ix ix_tup (pe_ix ix_list (pv 1) (pv 2) (fun _ _ => rfl)) pe_int (fun _ _ => rfl)) (nomark _))
        (pss_one (ps_ret (pv 2)))
        (pss_nil))))
      (pss_one (ps_ret pe_non)), ?_⟩
    have hla : (ps.map V.ref).length = kk := by rw [List.length_map, hA.len, hl]
    have hsa : SqL K H a (ps.map V.ref) := SqL.of hA.lst
    have hsb : SqL K H b (qs.map V.ref) := SqL.of hB.lst
    refine ⟨_, rfl, a, _, rfl, .inl hsa, (kk : Int), by rw [hla], by omega, by omega, for_range (lo := 0) (n := kk) (fun i σ H' => (∃ v2, σ = [some (.ref a), some (.ref b), v2]) ∧ H' = H ∧ ∀ (j : Nat) (c d : Int × Nat), j < i → row[j]? = some c → row'[j]? = some d → c.1 = d.1)
      ⟨⟨none, rfl⟩, rfl, fun j c d hj => absurd hj (Nat.not_lt_zero _)⟩ ?_ ?_⟩
    · rintro i σ H' hi ⟨⟨v2, rfl⟩, rfl, hall⟩
      rw [show (0 : Int) + (i : Int) = (i : Int) by omega]
      have ec := List.getElem?_eq_getElem (show i < row.length by omega)
      have ed := List.getElem?_eq_getElem (show i < row'.length by omega)
      generalize row[i] = c at ec
      generalize row'[i] = d at ed
      obtain ⟨ps', p, x1, x2, x3⟩ := RowAt.at ⟨ps, hA⟩ ec
      obtain ⟨qs', q, y1, y2, y3⟩ := RowAt.at ⟨qs, hB⟩ ed
      refine ⟨_, rfl, _, rfl, _, _, _, _, rfl, rfl, SqL.of x1, x2, _, _, _, _, rfl, rfl, SqT.of x3, rfl, _, rfl, _, rfl, _, _, _, _, rfl, rfl, SqL.of y1, y2, _, _, _, _, rfl, rfl, SqT.of y3, rfl, rfl, _, rfl, ?_⟩
      rw [ne_int]
      by_cases h : c.1 = d.1
      · rw [decide_eq_true h]
        refine iteF ⟨⟨_, rfl⟩, rfl, fun j c' d' hj e1 e2 => ?_⟩
        by_cases z : j = i
        · subst z
          rw [ec] at e1; rw [ed] at e2
          cases e1; cases e2
          exact h
        · exact hall j c' d' (by omega) e1 e2
      · rw [decide_eq_false h]
        exact iteT ⟨_, rfl, kS i c d ec ed h⟩
    · rintro σ H' ⟨⟨v2, rfl⟩, rfl, hall⟩
      exact kN fun j c d e1 e2 => hall j c d (by have := (List.getElem?_eq_some_iff.mp e1).1; omega) e1 e2
abbrev scompare : Stmt := top 90
abbrev ncompare : List Str := ["one", "other", "found", "order", "at", "here", "there", "ask", "k", "pair"]
theorem sccompare : FnScope ncompare ["one", "other"] (defScope scompare) := ⟨rfl, rfl, rfl, by decide +kernel, rfl, by decide +kernel, by decide +kernel⟩
theorem bcompare {K : PySem.W.Frag} {f : Addr} {fd : FuncData} (F : FunD K "compare" "compare" (defArgs scompare) (defBody scompare) (defScope scompare) [] [] f fd) : Binds K fd ["one", "other"] [] := F.bindsN fun _ _ _ _ _ _ us hl => match us, hl with | [_, _], _ => rfl
def spCompare : Sp := fun vs H Q _ => ∃ (a b : Addr) (k n n' : Nat) (M N : Mach), vs = [.ref a, .ref b] ∧ MachAt H a M ∧ MachAt H b N ∧ Ok k n M ∧ Ok k n' N ∧ k ≤ 5 ∧ n ≤ 30 ∧ n' ≤ 30 ∧
  (∀ (H' : Hp) (p l : Addr), Alike k M N 0 0 → Same H H' → nw H H' p = some (.tup [.str "alike", .ref l]) → Q (.ref p) H') ∧
  ∀ (H' : Hp) (p q : Addr) (l : List Nat), ¬ Alike k M N 0 0 → Same H H' → nw H H' p = some (.tup [.str "unlike", .ref q]) → nw H H' q = some (.lst (natsV l)) → l ≠ [] → l.length ≤ 1000 → (∀ x ∈ l, x < 5) → Q (.ref p) H'
def WLike (H : Hp) (a b d o : Addr) (k n n' : Nat) (M N : Mach) (m : Nat) (σ : L2.St) (H' : Hp) : Prop := ∃ (at_ : Nat) (P : List (Nat × Nat)) (ts : List Addr) (kvs : List (List Key × V)) (v5 v6 v7 v8 v9 : Option V),
  σ = [some (.ref a), some (.ref b), some (.ref d), some (.ref o), some (.int at_), v5, v6, v7, v8, v9] ∧ LikeI true H d o H' P ts kvs ∧ Pairs k M N 0 0 P at_ ∧ (∀ p ∈ P, p.1 < n ∧ p.2 < n') ∧ at_ ≤ P.length ∧ m = n * n' - at_
theorem c_compare (D : DefAt K mg "compare" scompare) (T : Txt K mg) (C_asks_of : Cal P w K mg base 1 "asks_of" spAsks []) (C_unlike_ask : Cal P w K mg base 1 "unlike_ask" spUnlike []) : Cal P w K mg base 2 "compare" spCompare [] := by
  refine mkCal D bcompare sccompare (fun vs H Q E h => ?_) fun f cdv A outer s H vs Q E hr h => ?_
  · obtain ⟨a, b, k, n, n', M, N, rfl, _⟩ := h; rfl
  · obtain ⟨a, b, kk, n, n', M, N, rfl, hM, hN, hO, hO', hk, hn, hn', kA, kU⟩ := h
    have hu := hu_of hr
    have nd := sccompare.nd
    refine ⟨_, pss_cons (ps_if (pt_cmpR op_ne (pe_c C_asks_of hr (by decide) rfl (pa_cons (pv 0) pa_nil)) (pe_c C_asks_of hr (by decide) rfl (pa_cons (pv 1) pa_nil)) (nomark _))
      (pss_one (ps_never))
      (pss_nil))
      (pss_cons (ps_set (i := 2) nd rfl (Or.inl rfl) (pe_dispT1 hu (pe_tup (pa_cons pe_int (pa_cons pe_int pa_nil))) (pe_lst pa_nil)))
      (pss_cons (ps_set (i := 3) nd rfl (Or.inl rfl) (pe_lst (pa_cons (pe_tup (pa_cons pe_int (pa_cons pe_int pa_nil))) pa_nil)))
      (pss_cons (ps_set (i := 4) nd rfl (Or.inl rfl) pe_int)
      (pss_cons (ps_while PassesOwn.never (pt_cmpR op_lt (pv 4) (pe_callB (id := "len") call_len_seq rfl T.n_len (by decide +kernel) (pa_cons (pv 3) pa_nil)) (nomark _))
      (pss_cons (ps_asg (pe_ix ix_list (pv 3) (pv 4) (fun _ _ => rfl)) (pg_tup rfl (pgs_cons (pg_name (i := 5) nd rfl (Or.inl rfl)) (pgs_cons (pg_name (i := 6) nd rfl (Or.inl rfl)) pgs_nil))))
        (pss_cons (ps_set (i := 7) nd rfl (Or.inl rfl) (pe_c C_unlike_ask hr (by decide) rfl (pa_cons (pe_ix ix_list (pv 0) (pv 5) (fun _ _ => rfl)) (pa_cons (pe_ix ix_list (pv 1) (pv 6) (fun _ _ => rfl)) pa_nil))))
        (pss_cons (ps_if (pt_cmp (pc_notN (pv 7)))
        (pss_one (ps_ret (pe_tup (pa_cons pe_str (pa_cons (pe_op op_cat (pe_dget hu (pv 2) (pe_ix ix_list (pv 3) (pv 4) (fun _ _ => rfl)) (fun _ _ => rfl)) (pe_lst (pa_cons (pv 7) pa_nil))) pa_nil)))))
        (pss_nil))
        (pss_cons (ps_for PassesOwn.never rfl (pi_range1 rfl T.n_range (pa_cons (pe_c C_asks_of hr (by decide) rfl (pa_cons (pv 0) pa_nil)) pa_nil)) (pg_name (i := 8) nd rfl (Or.inl rfl))
        (pss_cons (ps_set (i := 9) nd rfl (Or.inl rfl) (pe_tup (pa_cons (pe_ix ix_tup (pe_ix ix_list (pe_ix ix_list (pv 0) (pv 5) (fun _ _ => rfl)) (pv 8) (fun _ _ => rfl)) pe_int (fun _ _ => rfl)) (pa_cons (pe_ix ix_tup (pe_ix ix_list (pe_ix ix_list (pv 1) (pv 6) (fun _ _ => rfl)) (pv 8) (fun _ _ => rfl)) pe_int (fun _ _ => rfl)) pa_nil))))
          (pss_one (ps_if (pt_cmp (pc_dnotin hu (pv 9) (pv 2)))
          (pss_cons (ps_dput hu (pv 2) (pv 9) (pe_op op_cat (pe_dget hu (pv 2) (pe_ix ix_list (pv 3) (pv 4) (fun _ _ => rfl)) (fun _ _ => rfl)) (pe_lst (pa_cons (pv 8) pa_nil))) rfl)
            (pss_one (ps_expr (pe_bm PySem.F.plainAttrs_list PySem.F.slot_list_append PySem.F.type_list_append mt_append (pv 3) (pa_cons (pv 9) pa_nil)))))
          (pss_nil)))))
        (pss_one (ps_set (i := 4) nd rfl (Or.inl rfl) (pe_op op_add (pv 4) pe_int))))))))
      (pss_one (ps_ret (pe_tup (pa_cons pe_str (pa_cons (pe_callB (id := "sorted") cr_sortedP rfl T.n_sorted (by decide +kernel) (pa_cons (pv 3) pa_nil)) pa_nil))))))))), ?_⟩
    have nn : n * n' ≤ 900 := Nat.mul_le_mul hn hn'
    refine ⟨_, rfl, a, kk, n, M, rfl, hM, hO, _, rfl, b, kk, n', N, rfl, hN, hO', rfl, _, rfl, ?_⟩
    rw [decide_eq_true rfl]
    refine iteF ?_
    -- found = {(0, 0): []}; order = [(0, 0)]; at = 0
    refine fun d nd => ⟨(by show 2 ≤ sizeLine; decide), fun t0 nt0 => ⟨(by show 0 ≤ sizeLine; decide), fun l0 nl0 => ⟨?_, t0, keyOf (0, 0), .ref l0, rfl, ?_, (by show 2 ≤ sizeLine; decide), fun t1 nt1 => ⟨(by show 1 ≤ sizeLine; decide), fun o no => ?_⟩⟩⟩⟩
    · have ndt : d ≠ t0 := ne_of_none upd_same nt0
      have ndl : d ≠ l0 := ne_of_none (show upd (upd H d (.dT [])) t0 (.tup [V.int 0, V.int 0]) d = some (.dT []) by rw [upd_ne ndt, upd_same]) nl0
      rw [upd_ne ndl, upd_ne ndt, upd_same]
    · have ntl : t0 ≠ l0 := ne_of_none upd_same nl0
      rw [upd_ne ntl, upd_same]
      rfl
    have ndt : d ≠ t0 := ne_of_none upd_same nt0
    have g0 : upd (upd H d (.dT [])) t0 (.tup [V.int 0, V.int 0]) d = some (.dT []) := by rw [upd_ne ndt, upd_same]
    have ndl : d ≠ l0 := ne_of_none g0 nl0
    have ntl : t0 ≠ l0 := ne_of_none upd_same nl0
    have ndt1 : d ≠ t1 := ne_of_none (o := .dT [(keyOf (0, 0), .ref l0)]) upd_same nt1
    have nlt1 : l0 ≠ t1 := ne_of_none (o := .lst []) (by rw [upd_ne ndl.symm, upd_same]) nt1
    have ndo : d ≠ o := ne_of_none (o := .dT [(keyOf (0, 0), .ref l0)]) (by rw [upd_ne ndt1, upd_same]) no
    have nlo : l0 ≠ o := ne_of_none (o := .lst []) (by rw [upd_ne nlt1, upd_ne ndl.symm, upd_same]) no
    have nto : t1 ≠ o := ne_of_none (o := .tup [V.int 0, V.int 0]) upd_same no
    have s1 : Same H (upd (upd (upd (upd H d (.dT [])) t0 (.tup [V.int 0, V.int 0])) l0 (.lst [])) d (.dT [(keyOf (0, 0), .ref l0)])) :=
      ((((Same.fresh nd).trans (Same.fresh nt0)).trans (Same.fresh nl0))).upd nd
    have s2 := (s1.trans (Same.fresh (o := .tup [V.int 0, V.int 0]) nt1)).trans (Same.fresh (o := .lst [V.ref t1]) no)
    have no0 : H o = none := (s1.trans (Same.fresh (o := .tup [V.int 0, V.int 0]) nt1)).free no
    have I0 : LikeI true H d o (upd (upd (upd (upd (upd (upd H d (.dT [])) t0 (.tup [V.int 0, V.int 0])) l0 (.lst [])) d (.dT [(keyOf (0, 0), .ref l0)])) t1 (.tup [V.int 0, V.int 0])) o (.lst [V.ref t1])) [(0, 0)] [t1] [(keyOf (0, 0), .ref l0)] := by
      refine ⟨s2, by rw [upd_ne ndo, upd_ne ndt1, upd_same], Nat.le_refl _, fun p => ?_, fun p v e _ => ?_, upd_same, rfl, fun i t p e1 e2 => ?_⟩
      · by_cases z : p = (0, 0)
        · subst z
          rw [valV_pos rfl, decide_eq_true (List.mem_singleton_self _)]
          rfl
        · rw [valV_neg (fun y => z (keyOf_inj y).symm), decide_eq_false (by simpa using z)]
          rfl
      · by_cases z : p = (0, 0)
        · subst z
          rw [valV_pos rfl] at e
          refine ⟨l0, [], (Option.some.inj e).symm, ?_, Nat.zero_le _, fun x hx => by cases hx⟩
          rw [wos_at (by simp [ndl.symm, nlo]), upd_ne nlo, upd_ne nlt1, upd_ne ndl.symm, upd_same]
          rfl
        · rw [valV_neg (fun y => z (keyOf_inj y).symm)] at e
          cases e
      · cases i with
        | zero =>
          have e3 : t1 = t := Option.some.inj e1
          have e4 : (0, 0) = p := Option.some.inj e2
          subst e3; subst e4
          rw [wos_at (by simp [ndt1.symm, nto]), upd_ne nto, upd_same]
          rfl
        | succ i => cases e1
    refine ⟨WLike H a b d o kk n n' M N, ⟨_, 0, [(0, 0)], [t1], _, none, none, none, none, none, rfl, I0, Pairs.init, fun p hp => ?_, Nat.zero_le _, rfl⟩, ?_⟩
    · rw [List.mem_singleton] at hp
      subst hp
      exact ⟨hO.pos, hO'.pos⟩
    rintro m σ H2 ⟨at_, Ps, ts, kvs, v5, v6, v7, v8, v9, rfl, I, B, hlt, hat, rfl⟩
    have hPn : Ps.length ≤ n * n' := pairs_len B.nd hlt
    have hlo : (ts.map V.ref).length = Ps.length := by rw [List.length_map, I.tlen]
    refine ⟨_, rfl, _, rfl, o, _, rfl, .inl (SqL.of I.ord), _, _, rfl, rfl, _, rfl, ?_⟩
    rw [hlo]
    by_cases hl : at_ < Ps.length
    · rw [decide_eq_true (show (at_ : Int) < (Ps.length : Int) by omega)]
      refine iteT ⟨fun σ' H' => ∃ m', m' < n * n' - at_ ∧ WLike H a b d o kk n n' M N m' σ' H', fun _ _ h => h, ?_⟩
      have eP := List.getElem?_eq_getElem hl
      generalize Ps[at_] = p at eP
      obtain ⟨p1, p2⟩ := hlt p (List.mem_of_getElem? eP)
      obtain ⟨t, ht1, ht2⟩ := I.at eP
      refine ⟨_, rfl, _, rfl, _, _, _, _, rfl, rfl, SqL.of I.ord, ht1, t, _, rfl, SqT.of ht2, rfl, _, _, rfl, _, _, rfl, rfl, ?_⟩
      obtain ⟨row, r1, r2, r3⟩ := hO.at p1
      obtain ⟨row', r1', r2', r3'⟩ := hO'.at p2
      obtain ⟨ra, rr, x1, x2, x3⟩ := (hM.mono I.same).at r1
      obtain ⟨rb, rr', y1, y2, y3⟩ := (hN.mono I.same).at r1'
      refine ⟨_, rfl, _, rfl, _, _, _, _, rfl, rfl, SqL.of x1, x2, _, rfl, _, rfl, _, _, _, _, rfl, rfl, SqL.of y1, y2, rr, rr', kk, row, row', rfl, x3, y3, r2, r2', hk, fun heq => ?_, fun i c e ec ee hne => ?_⟩
      · -- the answers are the same
        refine ⟨_, rfl, _, rfl, iteF ⟨_, rfl, a, kk, n, M, rfl, hM.mono I.same, hO, (kk : Int), rfl, by omega, by omega, for_range (lo := 0) (n := kk) (fun i σ H' => ∃ (Ps : List (Nat × Nat)) (ts : List Addr) (kvs : List (List Key × V)) (v8 v9 : Option V),
          σ = [some (.ref a), some (.ref b), some (.ref d), some (.ref o), some (.int at_), some (.int (p.1 : Int)), some (.int (p.2 : Int)), some .non, v8, v9] ∧ LikeI true H d o H' Ps ts kvs ∧ PairsIn kk M N 0 0 Ps at_ p i ∧ ∀ p ∈ Ps, p.1 < n ∧ p.2 < n')
          ⟨Ps, ts, kvs, _, _, rfl, I, B.enter eP, hlt⟩ ?_ ?_⟩⟩
        · rintro i σ H3 hi ⟨Ps, ts, kvs, v8, v9, rfl, I, B, hlt⟩
          rw [show (0 : Int) + (i : Int) = (i : Int) by omega]
          obtain ⟨ra, rr, ps1, q1, x1, x2, x3, x4, x5, x6⟩ := (hM.mono I.same).cell hO p1 hi
          obtain ⟨rb, rr', ps2, q2, y1, y2, y3, y4, y5, y6⟩ := (hN.mono I.same).cell hO' p2 hi
          have hans : ans M p.1 i = ans N p.2 i := by
            obtain ⟨rowx, z1, z2, z3, z4⟩ := hO.cell p1 hi
            obtain ⟨rowy, w1, w2, w3, w4⟩ := hO'.cell p2 hi
            rw [r1] at z1; cases z1
            rw [r1'] at w1; cases w1
            exact heq i _ _ z3 w3
          have hPn : Ps.length ≤ n * n' := pairs_len B.all.nd hlt
          refine ⟨_, rfl, _, rfl, _, _, _, _, rfl, rfl, SqL.of x1, x2, _, rfl, _, _, _, _, rfl, rfl, SqL.of x3, x4, _, _, _, _, rfl, rfl, SqT.of x5, rfl, _, rfl, _, rfl, _, _, _, _, rfl, rfl, SqL.of y1, y2, _, rfl, _, _, _, _, rfl, rfl, SqL.of y3, y4, _, _, _, _, rfl, rfl, SqT.of y5, rfl, (by show 2 ≤ sizeLine; decide), fun tq ntq => ?_⟩
          have I4 := I.mono (Same.fresh (o := .tup [V.int (nxt M p.1 i : Int), V.int (nxt N p.2 i : Int)]) ntq)
          have htq : wos (upd H3 tq (.tup [V.int (nxt M p.1 i : Int), V.int (nxt N p.2 i : Int)])) [d, o] tq = some (pairHO (nxt M p.1 i, nxt N p.2 i)) := by
            have g1 : d ≠ tq := ne_of_none I.dic ntq
            have g2 : o ≠ tq := ne_of_none I.ord ntq
            rw [wos_at (by simp [g1.symm, g2.symm]), upd_same]
            rfl
          revert I4 htq
          generalize upd H3 tq (.tup [V.int (nxt M p.1 i : Int), V.int (nxt N p.2 i : Int)]) = H4
          intro I4 htq
          have htq4 := (wos_some htq).2
          rw [pairHO_key] at htq4
          refine ⟨_, rfl, _, rfl, d, _, rfl, DGet.t I4.dic htq4, _, rfl, ?_⟩
          rw [I4.has]
          by_cases hm : (nxt M p.1 i, nxt N p.2 i) ∈ Ps
          · rw [decide_eq_true hm]
            exact iteF ⟨Ps, ts, kvs, _, _, rfl, I4, B.old hans hm, hlt⟩
          · rw [decide_eq_false hm]
            refine iteT ?_
            have hpP : p ∈ Ps := List.mem_of_getElem? B.cur
            obtain ⟨t, ht1, ht2⟩ := I4.at B.cur
            rw [pairHO_key] at ht2
            obtain ⟨v, hv⟩ : ∃ v, valV kvs (keyOf p) = some v := by
              have := I4.has p
              rw [decide_eq_true hpP] at this
              exact Option.isSome_iff_exists.mp this
            obtain ⟨q, l, rfl, hq, hql, hl5⟩ := I4.val p v hv rfl
            have hq4 := (wos_some hq).2
            have dg : DGet H4 d (.ref t) (some (.ref q)) := by rw [← hv]; exact DGet.t I4.dic ht2
            refine ⟨_, rfl, _, rfl, _, rfl, _, _, _, _, rfl, rfl, SqL.of I4.ord, ht1, d, _, rfl, dg, _, rfl, (by show 1 ≤ sizeLine; decide), fun p3 np3 => ⟨q, p3, natsV l, _, rfl, rfl, (Same.fresh np3) _ _ hq4, upd_same, ?_, fun p4 np4 => ?_⟩⟩
            · have : (natsV l).length = l.length := List.length_map _
              show (natsV l).length + 1 ≤ sizeLine
              rw [this, sizeLine_eq]
              omega
            have sF := (Same.fresh (o := .lst [V.int (i : Int)]) np3).trans (Same.fresh (o := .lst (natsV l ++ [V.int (i : Int)])) np4)
            rw [natsV_snoc] at sF ⊢
            have I5 := I4.mono sF
            have hp4 : wos (upd (upd H4 p3 (.lst [V.int (i : Int)])) p4 (.lst (natsV (l ++ [i])))) [d, o] p4 = some (.lst (natsV (l ++ [i]))) := by
              have g1 : d ≠ p4 := ne_of_none ((Same.fresh np3) _ _ I4.dic) np4
              have g2 : o ≠ p4 := ne_of_none ((Same.fresh np3) _ _ I4.ord) np4
              rw [wos_at (by simp [g1.symm, g2.symm]), upd_same]
            have htq5 := same_wos2 (l := [d, o]) sF _ _ htq
            revert I5 hp4 htq5
            generalize upd (upd H4 p3 (.lst [V.int (i : Int)])) p4 (.lst (natsV (l ++ [i]))) = H5
            intro I5 hp4 htq5
            have hk5 : H5 tq = some (.tup ((keyOf (nxt M p.1 i, nxt N p.2 i)).map kV)) := (wos_some htq5).2
            have I6 := I5.add nd no0 ndo hm htq5 (v := .ref p4) fun _ => ⟨p4, l ++ [i], rfl, hp4, by rw [List.length_append, List.length_singleton]; omega, fun x hx => by
              rcases List.mem_append.mp hx with z | z
              · exact hl5 x z
              · rw [List.mem_singleton] at z; omega⟩
            refine ⟨_, rfl, _, rfl, d, _, rfl, DPut.t I5.dic hk5 (small1000 (by have := I5.klen; omega)), ?_⟩
            have io : (upd H5 d (.dT (putK kvs (keyOf (nxt M p.1 i, nxt N p.2 i)) (.ref p4)))) o = some (.lst (ts.map V.ref)) := by rw [upd_ne ndo.symm]; exact I5.ord
            refine ⟨_, rfl, .inl ⟨rfl, _, SqL.of io⟩, _, rfl, o, _, _, rfl, rfl, io, ?_, Ps ++ [(nxt M p.1 i, nxt N p.2 i)], ts ++ [tq], putK kvs (keyOf (nxt M p.1 i, nxt N p.2 i)) (.ref p4), _, _, rfl, ?_, B.new hi hans hm, fun z hz => ?_⟩
            · rw [List.length_map, I5.tlen]
              exact small1000 (by omega)
            · rw [List.map_append] at I6
              exact I6
            · rcases List.mem_append.mp hz with hz | hz
              · exact hlt z hz
              · rw [List.mem_singleton] at hz
                subst hz
                exact ⟨x6, y6⟩
        · rintro σ H3 ⟨Ps, ts, kvs, v8, v9, rfl, I, B, hlt⟩
          have hl2 : at_ < Ps.length := (List.getElem?_eq_some_iff.mp B.cur).1
          have hPn : Ps.length ≤ n * n' := pairs_len B.all.nd hlt
          exact ⟨_, rfl, _, _, rfl, rfl, n * n' - (at_ + 1), by omega, at_ + 1, Ps, ts, kvs, _, _, _, _, _, rfl, I, B.leave, hlt, by omega, rfl⟩
      · -- an answer is another one
        have hik : i < kk := by rw [← r2]; exact (List.getElem?_eq_some_iff.mp ec).1
        have hna : ¬ Alike kk M N 0 0 := B.unlike (List.mem_of_getElem? eP) hik (by rw [(cell_of r1 ec).1, (cell_of r1' ee).1]; exact hne)
        obtain ⟨v, hv⟩ : ∃ v, valV kvs (keyOf p) = some v := by
          have := I.has p
          rw [decide_eq_true (List.mem_of_getElem? eP)] at this
          exact Option.isSome_iff_exists.mp this
        obtain ⟨q, l, rfl, hq, hql, hl5⟩ := I.val p v hv rfl
        have hq4 := (wos_some hq).2
        rw [pairHO_key] at ht2
        have dg : DGet H2 d (.ref t) (some (.ref q)) := by rw [← hv]; exact DGet.t I.dic ht2
        refine ⟨_, rfl, _, rfl, iteT ⟨_, rfl, _, rfl, _, rfl, _, _, _, _, rfl, rfl, SqL.of I.ord, ht1, d, _, rfl, dg, _, rfl, (by show 1 ≤ sizeLine; decide), fun p3 np3 => ⟨q, p3, natsV l, _, rfl, rfl, (Same.fresh np3) _ _ hq4, upd_same, ?_, fun p4 np4 => ⟨(by show 2 ≤ sizeLine; decide), fun p5 np5 => ?_⟩⟩⟩⟩
        · have : (natsV l).length = l.length := List.length_map _
          show (natsV l).length + 1 ≤ sizeLine
          rw [this, sizeLine_eq]
          omega
        · have sF := (Same.fresh (o := .lst [V.int (i : Int)]) np3).trans (Same.fresh (o := .lst (natsV l ++ [V.int (i : Int)])) np4)
          have sG := sF.trans (Same.fresh (o := .tup [V.str "unlike", V.ref p4]) np5)
          have s03 : Same H (upd H2 p3 (.lst [V.int (i : Int)])) := I.same.trans (Same.fresh np3)
          refine kU _ p5 p4 (l ++ [i]) hna (I.same.trans sG) ?_ ?_ (by simp) (by rw [List.length_append, List.length_singleton]; omega) fun x hx => by
            rcases List.mem_append.mp hx with z | z
            · exact hl5 x z
            · rw [List.mem_singleton] at z; omega
          · rw [nw_at ((I.same.trans sF).free np5), upd_same]
          · have n45 : p4 ≠ p5 := ne_of_none upd_same np5
            rw [nw_at (s03.free np4), upd_ne n45, upd_same, natsV_snoc]
    · rw [decide_eq_false (show ¬ (at_ : Int) < (Ps.length : Int) by omega)]
      refine iteF ⟨_, rfl, o, _, rfl, SqL.of I.ord, fun x hx => ?_, fun ys q hys nq => ⟨(by show 2 ≤ sizeLine; decide), fun p np => ?_⟩⟩
      · obtain ⟨t, htm, rfl⟩ := List.mem_map.mp hx
        obtain ⟨i, hi, e⟩ := List.getElem_of_mem htm
        have e1 : ts[i]? = some t := by rw [List.getElem?_eq_getElem hi, e]
        have e2 := List.getElem?_eq_getElem (show i < Ps.length by rw [← I.tlen]; exact hi)
        exact ⟨t, _, _, rfl, (wos_some (I.tup i t _ e1 e2)).2⟩
      · have sG := (Same.fresh (o := .lst ys) nq).trans (Same.fresh (o := .tup [V.str "alike", V.ref q]) np)
        exact kA _ p q (B.done (by omega)) (I.same.trans sG) (by rw [nw_at ((I.same.trans (Same.fresh nq)).free np), upd_same])
end
end Pw

namespace Pw
open PySem PySem.Spec PyProof.Rows L2 SX
/-! ### numbers written -/
/-- the signs of a number -/
def intL : Int → List Nat
  | .ofNat n => TL.numL n
  | .negSucc n => 45 :: TL.numL (n + 1)
theorem int_S (i : Int) : Str.ofString (toString i) = S (intL i) := by
  refine TL.ext_tl ?_
  cases i with
  | ofNat n => exact TL.tl_num n
  | negSucc n =>
    have e : toString (Int.negSucc n) = "-" ++ Nat.repr (n + 1) := rfl
    have e2 := TL.tl_num (n + 1)
    rw [TL.tl_ofString] at e2 ⊢
    rw [e, String.toList_append, List.map_append]
    show 45 :: (Nat.repr (n + 1)).toList.map Char.toNat = 45 :: TL.numL (n + 1)
    congr 1
theorem intL_free {i : Int} {s : Nat} (h : s ≠ 45 ∧ (s < 48 ∨ 57 < s)) : s ∉ intL i := by
  cases i with
  | ofNat n => exact TL.numL_free h.2
  | negSucc n =>
    intro z
    rcases List.mem_cons.mp z with z | z
    · exact h.1 z
    · exact TL.numL_free h.2 z
theorem intL_len {i : Int} {k : Nat} (hk : 0 < k) (h : i.natAbs < 10 ^ k) : (intL i).length ≤ k + 1 := by
  cases i with
  | ofNat n => exact Nat.le_succ_of_le (TL.numL_len hk h)
  | negSucc n =>
    show (TL.numL (n + 1)).length + 1 ≤ k + 1
    have := TL.numL_len (n := n + 1) hk h
    omega
theorem intL_read {i : Int} (h : (intL i).length ≤ 640) : PySem.intText? (S (intL i)) = some i := by
  cases i with
  | ofNat n =>
    have h2 : (TL.numL n).length ≤ 640 := h
    have e := TL.int_num (n := n) (by omega)
    have e2 := int_S (.ofNat n)
    rw [show (Int.ofNat n) = ((n : Nat) : Int) from rfl] at e2
    rw [e2] at e
    exact e
  | negSucc n =>
    have h2 : (TL.numL (n + 1)).length + 1 ≤ 640 := h
    have e := intText_neg (x := S (intL (.negSucc n))) (cs := TL.numL (n + 1)) rfl (TL.numL_digits _) (TL.numL_ne _) (by rw [S_len]; show (TL.numL (n + 1)).length + 1 ≤ 4300; omega)
    rw [TL.numL_val] at e
    exact e
theorem intL_inj {i j : Int} (h : intL i = intL j) : i = j := by
  have dig : ∀ n m : Nat, TL.numL n ≠ 45 :: TL.numL m := fun n m z => by
    have : 45 ∈ TL.numL n := by rw [z]; exact List.mem_cons_self
    exact TL.numL_free (by omega) this
  cases i with
  | ofNat n =>
    cases j with
    | ofNat m => rw [TL.numL_inj h]
    | negSucc m => exact (dig n (m + 1) h).elim
  | negSucc n =>
    cases j with
    | ofNat m => exact (dig m (n + 1) h.symm).elim
    | negSucc m =>
      have h2 : TL.numL (n + 1) = TL.numL (m + 1) := by injection h
      have := TL.numL_inj h2
      congr 1
      omega
/-- the first figure of a number that isn't 0 isn't 0 -/
theorem numL_head (n : Nat) : ∃ c r, TL.numL n = c :: r ∧ (c = 48 → n = 0) := by
  induction n using Nat.strongRecOn with
  | _ n ih =>
    by_cases h : n < 10
    · rw [TL.numL_lt h]
      exact ⟨_, _, rfl, fun z => by omega⟩
    · obtain ⟨c, r, e, hz⟩ := ih (n / 10) (by omega)
      rw [TL.numL_step (by omega), e]
      exact ⟨c, _, rfl, fun z => by have := hz z; omega⟩
/-! ### texts -/
def stepL (c : Int × Nat) : List Nat := intL c.1 ++ ([62] ++ intL (c.2 : Int))
def rowL (row : Row) : List Nat := TL.joinL [32] (row.map stepL)
def machL (M : Mach) : List Nat := TL.joinL [59, 32] (M.map rowL)
theorem stepL_free {c : Int × Nat} {s : Nat} (h : s ≠ 45 ∧ s ≠ 62 ∧ (s < 48 ∨ 57 < s)) : s ∉ stepL c := by
  unfold stepL
  intro z
  rcases List.mem_append.mp z with z | z
  · exact intL_free ⟨h.1, h.2.2⟩ z
  · rcases List.mem_append.mp z with z | z
    · exact h.2.1 (List.mem_singleton.mp z)
    · exact intL_free ⟨h.1, h.2.2⟩ z
theorem joinL_mem {sep : List Nat} {s : Nat} : ∀ {l : List (List Nat)}, s ∈ TL.joinL sep l → s ∈ sep ∨ ∃ p ∈ l, s ∈ p
  | [], h => by cases h
  | [p], h => .inr ⟨p, List.mem_singleton_self _, h⟩
  | p :: q :: l, h => by
    have h2 : s ∈ p ++ (sep ++ TL.joinL sep (q :: l)) := h
    rcases List.mem_append.mp h2 with h3 | h3
    · exact .inr ⟨p, List.mem_cons_self, h3⟩
    · rcases List.mem_append.mp h3 with h4 | h4
      · exact .inl h4
      · rcases joinL_mem h4 with z | ⟨r, hr, z⟩
        · exact .inl z
        · exact .inr ⟨r, List.mem_cons_of_mem _ hr, z⟩
theorem rowL_free {row : Row} {s : Nat} (h : s ≠ 45 ∧ s ≠ 62 ∧ s ≠ 32 ∧ (s < 48 ∨ 57 < s)) : s ∉ rowL row := by
  intro z
  rcases joinL_mem z with z | ⟨p, hp, z⟩
  · exact h.2.2.1 (List.mem_singleton.mp z)
  · obtain ⟨c, _, rfl⟩ := List.mem_map.mp hp
    exact stepL_free ⟨h.1, h.2.1, h.2.2.2⟩ z
/-! what is read off again -/
theorem split_mach {M : Mach} (h : M ≠ []) : TL.spl [59, 32] 0 [] (machL M) = M.map rowL :=
  spl_join (by simpa using h) fun p hp => by
    obtain ⟨r, _, rfl⟩ := List.mem_map.mp hp
    exact rowL_free (by omega)
theorem split_row {row : Row} (h : row ≠ []) : TL.spl [32] 0 [] (rowL row) = row.map stepL :=
  spl_join (by simpa using h) fun p hp => by
    obtain ⟨r, _, rfl⟩ := List.mem_map.mp hp
    exact stepL_free (by omega)
theorem split_step (c : Int × Nat) : TL.spl [62] 0 [] (stepL c) = [intL c.1, intL (c.2 : Int)] := by
  have e : stepL c = TL.joinL [62] [intL c.1, intL (c.2 : Int)] := rfl
  rw [e]
  refine spl_join (by simp) fun p hp => ?_
  rcases List.mem_cons.mp hp with z | z
  · rw [z]; exact intL_free (by omega)
  · rw [List.mem_singleton.mp z]; exact intL_free (by omega)
theorem stepL_inj {c d : Int × Nat} (h : stepL c = stepL d) : c = d := by
  have e := congrArg (TL.spl [62] 0 []) h
  rw [split_step, split_step] at e
  injection e with e1 e2
  injection e2 with e2 _
  refine Prod.ext (intL_inj e1) ?_
  have := intL_inj e2
  omega
theorem map_inj' {α β : Type} {f : α → β} (hf : ∀ a b, f a = f b → a = b) : ∀ {l m : List α}, l.map f = m.map f → l = m
  | [], [], _ => rfl
  | [], _ :: _, h => by cases h
  | _ :: _, [], h => by cases h
  | x :: l, y :: m, h => by
    rw [List.map_cons, List.map_cons] at h
    injection h with h1 h2
    rw [hf x y h1, map_inj' hf h2]
theorem machL_inj {M N : Mach} (hM : M ≠ []) (hN : N ≠ []) (rM : ∀ r ∈ M, r ≠ []) (rN : ∀ r ∈ N, r ≠ []) (h : machL M = machL N) : M = N := by
  have e := congrArg (TL.spl [59, 32] 0 []) h
  rw [split_mach hM, split_mach hN] at e
  have key : ∀ {M N : Mach}, (∀ r ∈ M, r ≠ []) → (∀ r ∈ N, r ≠ []) → M.map rowL = N.map rowL → M = N := fun {M} => by
    induction M with
    | nil =>
      intro N _ _ h
      cases N with
      | nil => rfl
      | cons _ _ => cases h
    | cons r M ih =>
      intro N h1 h2 h
      cases N with
      | nil => cases h
      | cons s N =>
        rw [List.map_cons, List.map_cons] at h
        injection h with g1 g2
        have e2 := congrArg (TL.spl [32] 0 []) g1
        rw [split_row (h1 r List.mem_cons_self), split_row (h2 s List.mem_cons_self)] at e2
        rw [map_inj' (fun a b => stepL_inj) e2, ih (fun x hx => h1 x (List.mem_cons_of_mem _ hx)) (fun x hx => h2 x (List.mem_cons_of_mem _ hx)) g2]
  exact key rM rN e
/-! sizes -/
theorem joinL_len {sep : List Nat} {B : Nat} : ∀ {l : List (List Nat)}, (∀ p ∈ l, p.length ≤ B) → (TL.joinL sep l).length ≤ l.length * (B + sep.length)
  | [], _ => by show 0 ≤ _; exact Nat.zero_le _
  | [p], h => by
    have := h p (List.mem_singleton_self _)
    show p.length ≤ 1 * _
    omega
  | p :: q :: l, h => by
    have h1 := h p List.mem_cons_self
    have h2 := joinL_len (sep := sep) (B := B) (l := q :: l) fun x hx => h x (List.mem_cons_of_mem _ hx)
    show (p ++ (sep ++ TL.joinL sep (q :: l))).length ≤ _
    rw [List.length_append, List.length_append, List.length_cons, Nat.add_mul]
    omega
theorem sum_le {B : Nat} : ∀ {l : List Nat}, (∀ x ∈ l, x ≤ B) → l.sum ≤ l.length * B
  | [], _ => by simp
  | x :: l, h => by
    have h1 := h x List.mem_cons_self
    have h2 := sum_le (B := B) (l := l) fun y hy => h y (List.mem_cons_of_mem _ hy)
    rw [List.sum_cons, List.length_cons, Nat.add_mul]
    omega
/-- a machine whose text is short -/
structure Short (M : Mach) : Prop where
  n30 : M.length ≤ 30
  k5 : ∀ row ∈ M, row.length ≤ 5
  big : ∀ row ∈ M, ∀ c ∈ row, c.1.natAbs < 10 ^ 60 ∧ c.2 < 30
theorem stepL_len {c : Int × Nat} (h : c.1.natAbs < 10 ^ 60 ∧ c.2 < 30) : (stepL c).length ≤ 70 := by
  have h1 := intL_len (k := 60) (by decide) h.1
  have h2 := intL_len (i := (c.2 : Int)) (k := 2) (by decide) (by show (c.2 : Int).natAbs < 10 ^ 2; omega)
  unfold stepL
  rw [List.length_append, List.length_append]
  show (intL c.1).length + (1 + (intL (c.2 : Int)).length) ≤ 70
  omega
theorem rowL_len {row : Row} (hk : row.length ≤ 5) (h : ∀ c ∈ row, c.1.natAbs < 10 ^ 60 ∧ c.2 < 30) : (rowL row).length ≤ 355 := by
  have h1 := joinL_len (sep := [32]) (B := 70) (l := row.map stepL) fun p hp => by
    obtain ⟨c, hc, rfl⟩ := List.mem_map.mp hp
    exact stepL_len (h c hc)
  rw [List.length_map] at h1
  unfold rowL
  have : row.length * (70 + [32].length) ≤ 5 * 71 := Nat.mul_le_mul hk (Nat.le_refl _)
  omega
theorem machL_len {M : Mach} (h : Short M) : (machL M).length ≤ 10710 := by
  have h1 := joinL_len (sep := [59, 32]) (B := 355) (l := M.map rowL) fun p hp => by
    obtain ⟨r, hr, rfl⟩ := List.mem_map.mp hp
    exact rowL_len (h.k5 r hr) (h.big r hr)
  rw [List.length_map] at h1
  unfold machL
  have : M.length * (355 + [59, 32].length) ≤ 30 * 357 := Nat.mul_le_mul h.n30 (Nat.le_refl _)
  omega
/-! words -/
theorem join_split (c : Nat) : ∀ (l acc : List Nat), TL.joinL [c] (TL.spl [c] 0 acc l) = acc ++ l
  | [], acc => by
    rw [TL.spl_nil]
    show acc = acc ++ []
    rw [List.append_nil]
  | x :: l, acc => by
    by_cases e : x = c
    · subst e
      rw [TL.spl_hit (by unfold TL.pre; simp)]
      have ih := join_split x l []
      show TL.joinL [x] (acc :: TL.spl [x] 0 [] l) = acc ++ x :: l
      cases q : TL.spl [x] 0 [] l with
      | nil =>
        exfalso
        have : ∀ (m a : List Nat), TL.spl [x] 0 a m ≠ [] := fun m => by
          induction m with
          | nil => intro a; rw [TL.spl_nil]; simp
          | cons y m ih =>
            intro a
            by_cases e : y = x
            · subst e; rw [TL.spl_hit (by unfold TL.pre; simp)]; simp
            · rw [TL.spl_miss (by unfold TL.pre; simpa using e)]; exact ih _
        exact this l [] q
      | cons p ps =>
        rw [q] at ih
        show acc ++ ([x] ++ TL.joinL [x] (p :: ps)) = acc ++ x :: l
        rw [ih]
        rfl
    · rw [TL.spl_miss (by unfold TL.pre; simpa using e), join_split c l (acc ++ [x]), List.append_assoc]
      rfl
end Pw

namespace Pw
open PySem PySem.Spec PyProof.Rows L2 SX
open C8 (Cal Met pe_c pe_mt pe_mt0 pe_gc sl_txt)
/-- over a text's signs -/
theorem for_str {x : Str} {g : TG} {tb : TS} {D : Ends} {σ : L2.St} {H : Hp} (Pv : Nat → L2.St → Hp → Prop) (h0 : Pv 0 σ H)
    (hs : ∀ i c σ H, x.cps[i]? = some c → Pv i σ H → g (.str ⟨#[c]⟩) σ H fun σ2 H2 => tb { D with nx := Pv (i + 1), ct := Pv (i + 1), bk := D.nx } σ2 H2) (hd : ∀ σ H, Pv x.cps.size σ H → D.nx σ H) :
    ∃ W : Nat → Nat → L2.St → Hp → Prop, (∃ m, W 0 m σ H) ∧ ∀ i m σ H, W i m σ H →
      ((Its x).stop i H ∧ D.nx σ H) ∨ ((Its x).go i H ∧ ∃ N : L2.St → Hp → Prop, (∀ σ' H', N σ' H' → ∃ m', m' < m ∧ W (i + 1) m' σ' H') ∧ ∀ v H', (Its x).yld i H v H' → g v σ H' fun σ2 H2 => tb { D with nx := N, ct := N, bk := D.nx } σ2 H2) := by
  refine ⟨fun i m σ H => m = x.cps.size - i ∧ i ≤ x.cps.size ∧ Pv i σ H, ⟨x.cps.size, by simp, Nat.zero_le _, h0⟩, ?_⟩
  rintro i m σ H ⟨rfl, hi, p⟩
  by_cases hlt : i < x.cps.size
  · refine .inr ⟨hlt, Pv (i + 1), fun σ' H' p' => ⟨x.cps.size - (i + 1), by omega, rfl, hlt, p'⟩, fun v H' y => ?_⟩
    obtain ⟨e, c, hc, ev⟩ := y
    subst e; subst ev
    exact hs i c σ _ hc p
  · have e : i = x.cps.size := by omega
    subst e
    exact .inl ⟨Nat.le_refl _, hd σ H p⟩
set_option exponentiation.threshold 3000 in
theorem log_ok {i : Int} (h : i.natAbs < 10 ^ 60) : i.natAbs.log2 < 1920 := by
  by_cases h0 : i.natAbs = 0
  · rw [h0]; decide
  · exact (Nat.log2_lt h0).mpr (Nat.lt_trans h (by decide))
theorem dash_S : (Str.ofString "-") = S [45] := TL.ext_tl (by decide +kernel)
theorem empty_S : (Str.ofString "") = S [] := TL.ext_tl (by decide +kernel)
theorem zero_S : (Str.ofString "0") = S [48] := TL.ext_tl (by decide +kernel)
theorem gt_S : (Str.ofString ">") = S [62] := TL.ext_tl (by decide +kernel)
theorem blank_S : (Str.ofString " ") = S [32] := TL.ext_tl (by decide +kernel)
theorem semi_S : (Str.ofString "; ") = S [59, 32] := TL.ext_tl (by decide +kernel)
theorem comma_S : (Str.ofString ",") = S [44] := TL.ext_tl (by decide +kernel)
theorem figs_S : (Str.ofString "0123456789") = S [48, 49, 50, 51, 52, 53, 54, 55, 56, 57] := TL.ext_tl (by decide +kernel)
theorem dec_S {a b : List Nat} : decide (V.str (S a) = V.str (S b)) = decide (a = b) := by
  rw [dec_str, S_beq_eq]
theorem fig_mem {c : Nat} (h : 48 ≤ c ∧ c ≤ 57) : c ∈ [48, 49, 50, 51, 52, 53, 54, 55, 56, 57] := by
  simp only [List.mem_cons, List.not_mem_nil, or_false]
  omega
/-- the figures of a number -/
def figL (i : Int) : List Nat := TL.numL i.natAbs
theorem intL_cases (i : Int) : (i < 0 ∧ intL i = 45 :: figL i) ∨ (0 ≤ i ∧ intL i = figL i) := by
  cases i with
  | ofNat n => exact .inr ⟨Int.natCast_nonneg n, rfl⟩
  | negSucc n => exact .inl ⟨Int.negSucc_lt_zero n, rfl⟩
section
variable {P : Program} {w : World} {K : PySem.W.Frag} {mg : Str → Option Value} {base : Heap}
abbrev swritten : Stmt := top 101
abbrev nwritten : List Str := ["text", "figures", "sign"]
theorem scwritten : FnScope nwritten ["text"] (defScope swritten) := ⟨rfl, rfl, rfl, by decide +kernel, rfl, by decide +kernel, by decide +kernel⟩
theorem bwritten {K : PySem.W.Frag} {f : Addr} {fd : FuncData} (F : FunD K "written" "written" (defArgs swritten) (defBody swritten) (defScope swritten) [] [] f fd) : Binds K fd ["text"] [] := F.bindsN fun _ _ _ _ _ _ us hl => match us, hl with | [_], _ => rfl
def spWritten : Sp := fun vs H Q _ => ∃ i : Int, vs = [.str (S (intL i))] ∧ i.natAbs < 10 ^ 60 ∧ Q (.int i) H
theorem c_written (D : DefAt K mg "written" swritten) (T : Txt K mg) : Cal P w K mg base 1 "written" spWritten [] := by
  refine mkCal D bwritten scwritten (fun vs H Q E h => ?_) fun f cdv A outer s H vs Q E hr h => ?_
  · obtain ⟨i, rfl, _⟩ := h; rfl
  · obtain ⟨i, rfl, hi, k⟩ := h
    have nd := scwritten.nd
    refine ⟨_, pss_cons (ps_set (i := 1) nd rfl (Or.inl rfl) (pv 0))
      (pss_cons (ps_if (pt_cmpR op_eq (pe_slice sl_txt (pv 0) po_none (po_some pe_int)) pe_str (nomark _))
      (pss_one (ps_set (i := 1) nd rfl (Or.inl rfl) (pe_slice sl_txt (pv 0) (po_some pe_int) po_none)))
      (pss_nil))
      (pss_cons (ps_if (PW.pt (pw_or (pt_cmpR op_eq (pv 1) pe_str (nomark _)) (pw_or1 (pt_cmpR op_gt (pe_callB (id := "len") call_len_str rfl T.n_len (by decide +kernel) (pa_cons (pv 1) pa_nil)) (pe_gc rfl T.c_LONGEST) (nomark _)))))
      (pss_one (ps_ret pe_non))
      (pss_nil))
      (pss_cons (ps_for PassesOwn.never rfl (pi_str (pv 1)) (pg_name (i := 2) nd rfl (Or.inl rfl))
      (pss_one (ps_if (pt_cmpR op_notIn_sign (pv 2) (pe_gc rfl T.c_FIGURES) (by rfl))
        (pss_one (ps_ret pe_non))
        (pss_nil))))
      (pss_cons (ps_if (PW.pt (pw_and (pt_cmpR op_eq (pe_ix ix_str (pv 1) pe_int (fun _ _ => rfl)) pe_str (nomark _)) (pw_and1 (PW.pt (pw_or (pt_cmpR op_gt (pe_callB (id := "len") call_len_str rfl T.n_len (by decide +kernel) (pa_cons (pv 1) pa_nil)) pe_int (nomark _)) (pw_or1 (pt_cmpR op_ne (pv 0) (pv 1) (nomark _))))))))
      (pss_one (ps_ret pe_non))
      (pss_nil))
      (pss_one (ps_ret (pe_callTy (T := "int") call_int_str rfl T.n_int (by decide +kernel) (pa_cons (pv 0) pa_nil)))))))), ?_⟩
    have hlen := intL_len (k := 60) (by decide) hi
    have hfl : (figL i).length ≤ 60 := TL.numL_len (by decide) hi
    obtain ⟨c0, r0, ec0, hz0⟩ := numL_head i.natAbs
    have hsz : sizeLine = 16777216 := sizeLine_eq
    have hread := intL_read (i := i) (by omega)
    have hdig := TL.numL_digits i.natAbs
    have hz : figL i = c0 :: r0 := ec0
    have hone : c0 = 48 → figL i = [48] := fun z => by
      unfold figL
      rw [hz0 z]
      decide +kernel
    obtain ⟨fl, hf⟩ : ∃ fl, fl = figL i := ⟨_, rfl⟩
    rw [← hf] at hfl hz hone
    have hdig2 : NumText.AllDigits fl := by rw [hf]; exact hdig
    refine ⟨_, rfl, _, rfl, _, rfl, _, rfl, (by rw [S_len]; omega), ?_⟩
    rcases intL_cases i with ⟨hn, e⟩ | ⟨hn, e⟩
    · rw [← hf] at e
      rw [e] at hread hlen ⊢
      rw [slice_to (by decide), dash_S]
      refine ⟨rfl, _, rfl, ?_⟩
      rw [dec_S, decide_eq_true (show List.take (Int.toNat 1) (45 :: fl) = [45] from rfl)]
      refine iteT ⟨_, rfl, _, rfl, _, rfl, (by rw [S_len]; omega), ?_⟩
      rw [slice_from (by decide), show List.drop (Int.toNat 1) (45 :: fl) = fl from rfl]
      have htx : c0 = 48 → (45 :: fl) = fl := fun z => by
        have := hz0 z
        omega
      have htl : (45 :: fl).length ≤ 640 := by omega
      revert hread htx htl
      show _ → _ → _ → _
      generalize 45 :: fl = tx
      intro hread htx htl
      refine ⟨_, rfl, ?_⟩
      rw [empty_S]
      refine ⟨rfl, _, rfl, ?_⟩
      rw [dec_S, decide_eq_false (show ¬ fl = [] by rw [hz]; simp)]
      refine iteF ⟨_, rfl, _, rfl, (by rw [S_len]; omega), _, _, rfl, rfl, _, rfl, ?_⟩
      rw [S_len, decide_eq_false (show ¬ (60 : Int) < (fl.length : Int) by omega)]
      refine iteF ?_
      refine ⟨_, rfl, _, rfl, for_str (fun j σ H' => (∃ v2, σ = [some (.str (S _)), some (.str (S fl)), v2]) ∧ H' = H) ⟨⟨none, rfl⟩, rfl⟩ ?_ ?_⟩
      · rintro j c σ H' hc ⟨⟨v2, rfl⟩, rfl⟩
        have hcm : c ∈ fl := by
          have h1 : fl.toArray[j]? = some c := hc
          rw [List.getElem?_toArray] at h1
          exact List.mem_of_getElem? h1
        refine ⟨_, rfl, c, _, rfl, rfl, _, rfl, ?_⟩
        rw [figs_S, decide_eq_true (show c ∈ (S [48, 49, 50, 51, 52, 53, 54, 55, 56, 57]).cps.toList from fig_mem (hdig2 c hcm))]
        exact iteF ⟨⟨_, rfl⟩, rfl⟩
      · rintro σ H' ⟨⟨v2, rfl⟩, rfl⟩
        refine ⟨_, rfl, _, _, c0, rfl, rfl, (by rw [S_len]; omega), (show atI (S fl).cps.toList ((0 : Nat) : Int) = some c0 from atI_nat (by rw [hz]; rfl)), ?_⟩
        rw [zero_S]
        refine ⟨rfl, _, rfl, ?_⟩
        rw [show (⟨#[c0]⟩ : Str) = S [c0] from rfl, dec_S]
        by_cases h48 : c0 = 48
        · rw [h48, decide_eq_true (show [48] = [48] from rfl)]
          refine iteT ⟨_, rfl, _, rfl, (by rw [S_len]; omega), _, _, rfl, rfl, _, rfl, ?_⟩
          rw [S_len, show fl.length = 1 by rw [hone h48]; rfl]
          refine iteF ⟨_, rfl, _, rfl, rfl, _, rfl, ?_⟩
          rw [dec_S, decide_eq_true (htx h48)]
          exact iteF ⟨_, rfl, _, i, rfl, hread, (by rw [S_len]; exact htl), k⟩
        · rw [decide_eq_false (show ¬ [c0] = [48] from fun z => by injection z with z _; exact h48 z)]
          exact iteF (iteF ⟨_, rfl, _, i, rfl, hread, (by rw [S_len]; exact htl), k⟩)
    · rw [← hf] at e
      rw [e] at hread hlen ⊢
      rw [slice_to (by decide), dash_S]
      refine ⟨rfl, _, rfl, ?_⟩
      have hc0 : c0 ≠ 45 := by
        have := hdig2 c0 (by rw [hz]; exact List.mem_cons_self)
        omega
      rw [dec_S, decide_eq_false (show ¬ List.take (Int.toNat 1) fl = [45] from fun z => by
        rw [hz] at z
        have z2 : [c0] = [45] := z
        injection z2 with z2 _
        exact hc0 z2)]
      refine iteF ?_
      have htx : c0 = 48 → fl = fl := fun z => rfl
      have htl : fl.length ≤ 640 := by omega
      refine ⟨_, rfl, ?_⟩
      rw [empty_S]
      refine ⟨rfl, _, rfl, ?_⟩
      rw [dec_S, decide_eq_false (show ¬ fl = [] by rw [hz]; simp)]
      refine iteF ⟨_, rfl, _, rfl, (by rw [S_len]; omega), _, _, rfl, rfl, _, rfl, ?_⟩
      rw [S_len, decide_eq_false (show ¬ (60 : Int) < (fl.length : Int) by omega)]
      refine iteF ?_
      refine ⟨_, rfl, _, rfl, for_str (fun j σ H' => (∃ v2, σ = [some (.str (S _)), some (.str (S fl)), v2]) ∧ H' = H) ⟨⟨none, rfl⟩, rfl⟩ ?_ ?_⟩
      · rintro j c σ H' hc ⟨⟨v2, rfl⟩, rfl⟩
        have hcm : c ∈ fl := by
          have h1 : fl.toArray[j]? = some c := hc
          rw [List.getElem?_toArray] at h1
          exact List.mem_of_getElem? h1
        refine ⟨_, rfl, c, _, rfl, rfl, _, rfl, ?_⟩
        rw [figs_S, decide_eq_true (show c ∈ (S [48, 49, 50, 51, 52, 53, 54, 55, 56, 57]).cps.toList from fig_mem (hdig2 c hcm))]
        exact iteF ⟨⟨_, rfl⟩, rfl⟩
      · rintro σ H' ⟨⟨v2, rfl⟩, rfl⟩
        refine ⟨_, rfl, _, _, c0, rfl, rfl, (by rw [S_len]; omega), (show atI (S fl).cps.toList ((0 : Nat) : Int) = some c0 from atI_nat (by rw [hz]; rfl)), ?_⟩
        rw [zero_S]
        refine ⟨rfl, _, rfl, ?_⟩
        rw [show (⟨#[c0]⟩ : Str) = S [c0] from rfl, dec_S]
        by_cases h48 : c0 = 48
        · rw [h48, decide_eq_true (show [48] = [48] from rfl)]
          refine iteT ⟨_, rfl, _, rfl, (by rw [S_len]; omega), _, _, rfl, rfl, _, rfl, ?_⟩
          rw [S_len, show fl.length = 1 by rw [hone h48]; rfl]
          refine iteF ⟨_, rfl, _, rfl, rfl, _, rfl, ?_⟩
          rw [dec_S, decide_eq_true (htx h48)]
          exact iteF ⟨_, rfl, _, i, rfl, hread, (by rw [S_len]; exact htl), k⟩
        · rw [decide_eq_false (show ¬ [c0] = [48] from fun z => by injection z with z _; exact h48 z)]
          exact iteF (iteF ⟨_, rfl, _, i, rfl, hread, (by rw [S_len]; exact htl), k⟩)
/-! ### a machine as a text -/
abbrev sshow : Stmt := top 102
abbrev nshow : List Str := ["machine", "parts", "row", "step"]
theorem scshow : FnScope nshow ["machine"] (defScope sshow) := ⟨rfl, rfl, rfl, by decide +kernel, rfl, by decide +kernel, by decide +kernel⟩
theorem bshow {K : PySem.W.Frag} {f : Addr} {fd : FuncData} (F : FunD K "show" "show" (defArgs sshow) (defBody sshow) (defScope sshow) [] [] f fd) : Binds K fd ["machine"] [] := F.bindsN fun _ _ _ _ _ _ us hl => match us, hl with | [_], _ => rfl
def spShow : Sp := fun vs H Q _ => ∃ (a : Addr) (M : Mach), vs = [.ref a] ∧ MachAt H a M ∧ Short M ∧ ∀ H', Same H H' → Q (.str (S (machL M))) H'
theorem c_show (D : DefAt K mg "show" sshow) (T : Txt K mg) : Cal P w K mg base 1 "show" spShow [] := by
  refine mkCal D bshow scshow (fun vs H Q E h => ?_) fun f cdv A outer s H vs Q E hr h => ?_
  · obtain ⟨a, M, rfl, _⟩ := h; rfl
  · obtain ⟨a, M, rfl, ⟨ra, hA, hRs⟩, hS, k⟩ := h
    have nd := scshow.nd
    refine ⟨_, pss_cons (ps_set (i := 1) nd rfl (Or.inl rfl) (pe_lst pa_nil))
      (pss_cons (ps_for PassesOwn.never rfl (pi_list (pv 0)) (pg_name (i := 2) nd rfl (Or.inl rfl))
      (pss_one (ps_expr (pe_bm PySem.F.plainAttrs_list PySem.F.slot_list_append PySem.F.type_list_append mt_append (pv 1) (pa_cons (pe_join pe_str (pe_lc (own := [("step", 3)]) rfl nd (pi_list (pv 2)) (blkOk_by (N := nshow) (sc := defScope sshow) (by decide +kernel)) (fun _ _ _ _ _ => pg_name (i := 3) nd rfl (Or.inl rfl)) (fun _ _ _ _ _ => pts_nil) (fun _ _ _ _ _ => (pe_op op_add_str (pe_op op_add_str (pe_callTy (T := "str") call_str_int rfl T.n_str (by decide +kernel) (pa_cons (pe_ix (ix_tupK K) (pv 3) pe_int (fun _ _ => rfl)) pa_nil)) pe_str) (pe_callTy (T := "str") call_str_int rfl T.n_str (by decide +kernel) (pa_cons (pe_ix (ix_tupK K) (pv 3) pe_int (fun _ _ => rfl)) pa_nil)))))) pa_nil)))))
      (pss_one (ps_ret (pe_join pe_str (pv 1))))), ?_⟩
    have hs : SqL K H a (ra.map V.ref) := SqL.of hA
    refine ⟨(by show 0 ≤ sizeLine; decide), fun b nb => ?_⟩
    have hsz : sizeLine = 16777216 := sizeLine_eq
    refine ⟨_, rfl, a, rfl, ⟨_, (Same.fresh nb).seq hs⟩, for_list (K := K) (a := a) (xs := ra.map V.ref) (fun i σ H' => (∃ v2, σ = [some (.ref a), some (.ref b), v2, none]) ∧ Same H H' ∧ H' b = some (.lst (((M.take i).map rowL).map fun l => V.str (S l))))
      ⟨⟨none, rfl⟩, Same.fresh nb, upd_same⟩ (fun i σ H' _ h => h.2.1.seq hs) ?_ ?_⟩
    · rintro i y σ H1 hi ⟨⟨v2, rfl⟩, s1, hb⟩
      obtain ⟨r, hr', rfl⟩ : ∃ q, ra[i]? = some q ∧ y = V.ref q := by
        rw [List.getElem?_map] at hi
        cases e : ra[i]? with
        | none => rw [e] at hi; cases hi
        | some q => rw [e] at hi; exact ⟨q, rfl, (Option.some.inj hi).symm⟩
      have hil : i < M.length := by rw [← hRs.len]; exact (List.getElem?_eq_some_iff.mp hr').1
      have erow := List.getElem?_eq_getElem hil
      generalize M[i] = row at erow
      have hrm : row ∈ M := List.mem_of_getElem? erow
      obtain ⟨ps, hR⟩ := (hRs.row i r row hr' erow).mono s1
      have hsr : SqL K H1 r (ps.map V.ref) := SqL.of hR.lst
      have hk := hS.k5 row hrm
      have hbig := hS.big row hrm
      have hn30 := hS.n30
      refine ⟨_, rfl, .inl ⟨rfl, _, SqL.of hb⟩, ⟨_, rfl⟩, _, rfl, r, rfl, ⟨_, hsr⟩, fun q nq => ?_⟩
      have nbq : b ≠ q := ne_of_none hb nq
      refine lc_list (K := K) (a := r) (xs := ps.map V.ref) (fun j H' => Same H1 H' ∧ H' q = some (.lst (((row.take j).map stepL).map fun l => V.str (S l))))
        ⟨Same.fresh nq, upd_same⟩ (fun j H' _ h => h.1.seq hsr) ?_ ?_
      · rintro j y H2 hj ⟨s2, hq⟩
        obtain ⟨p, hp, rfl⟩ : ∃ q, ps[j]? = some q ∧ y = V.ref q := by
          rw [List.getElem?_map] at hj
          cases e : ps[j]? with
          | none => rw [e] at hj; cases hj
          | some q => rw [e] at hj; exact ⟨q, rfl, (Option.some.inj hj).symm⟩
        have hjl : j < row.length := by rw [← hR.len]; exact (List.getElem?_eq_some_iff.mp hp).1
        have ec := List.getElem?_eq_getElem hjl
        generalize row[j] = c at ec
        have hcell := s2 _ _ (hR.cell j p c hp ec)
        have hcb := hbig c (List.mem_of_getElem? ec)
        have hc2 : (c.2 : Int).natAbs < 10 ^ 60 := by
          have : (c.2 : Int).natAbs = c.2 := Int.natAbs_natCast _
          rw [this]
          exact Nat.lt_of_lt_of_le hcb.2 (by decide)
        have hl1 := intL_len (k := 60) (by decide) hcb.1
        have hl2 := intL_len (k := 60) (by decide) hc2
        refine ⟨rfl, _, rfl, _, _, _, _, rfl, rfl, SqT.of hcell, rfl, _, rfl, log_ok hcb.1, ?_⟩
        rw [int_S, gt_S]
        refine ⟨_, _, rfl, rfl, (by rw [S_len, S_len]; show (intL c.1).length + 1 ≤ sizeLine; omega), _, rfl, _, _, _, _, rfl, rfl, SqT.of hcell, rfl, _, rfl, log_ok hc2, ?_⟩
        rw [int_S, S_cat]
        refine ⟨_, _, rfl, rfl, ?_, _, hq, ?_, s2.upd nq, ?_⟩
        · rw [S_len, S_len, List.length_append]
          show (intL c.1).length + 1 + (intL (c.2 : Int)).length ≤ sizeLine
          omega
        · rw [List.length_map, List.length_map, List.length_take]
          exact small1000 (by omega)
        · rw [upd_same, S_cat, List.take_add_one, ec, List.map_append, List.map_append, List.append_assoc]
          rfl
      · rintro H2 ⟨s2, hq⟩
        have e1 : (row.take (ps.map V.ref).length) = row := by rw [List.length_map, hR.len, List.take_length]
        rw [e1] at hq
        refine ⟨_, q, (row.map stepL).map S, rfl, rfl, .inl (SqL.of (by rw [hq]; simp [List.map_map, Function.comp_def])), ?_, ?_⟩
        · rw [lens, List.length_map, List.length_map, blank_S, S_len]
          have h1 := sum_le (B := 70) (l := (row.map stepL).map (·.length)) fun x hx => by
            rw [List.map_map] at hx
            obtain ⟨c, hc, rfl⟩ := List.mem_map.mp hx
            exact stepL_len (hbig c hc)
          rw [List.length_map, List.length_map] at h1
          show _ + row.length * 1 ≤ 16777216
          omega
        · rw [blank_S, join_S]
          refine ⟨b, _, _, rfl, rfl, s2 _ _ hb, ?_, ⟨_, rfl⟩, (s1.trans s2).upd nb, ?_⟩
          · rw [List.length_map, List.length_map, List.length_take]
            exact small1000 (by omega)
          · rw [upd_same, List.take_add_one, erow, List.map_append, List.map_append]
            rfl
    · rintro σ H1 ⟨⟨v2, rfl⟩, s1, hb⟩
      have e1 : M.take (ra.map V.ref).length = M := by rw [List.length_map, hRs.len, List.take_length]
      rw [e1] at hb
      refine ⟨⟨_, rfl⟩, _, rfl, _, b, (M.map rowL).map S, rfl, rfl, .inl (SqL.of (by rw [hb]; simp [List.map_map, Function.comp_def])), ?_, ?_⟩
      · rw [lens, List.length_map, List.length_map, semi_S, S_len]
        have h1 := sum_le (B := 355) (l := (M.map rowL).map (·.length)) fun x hx => by
          rw [List.map_map] at hx
          obtain ⟨r, hr', rfl⟩ := List.mem_map.mp hx
          exact rowL_len (hS.k5 r hr') (hS.big r hr')
        rw [List.length_map, List.length_map] at h1
        have := hS.n30
        show _ + M.length * 2 ≤ 16777216
        omega
      · rw [semi_S, join_S]
        exact k H1 s1
abbrev slaw_text : Stmt := top 144
abbrev nlaw_text : List Str := ["_law_rows", "_law_parts", "_law_row", "_law_step"]
theorem sclaw_text : FnScope nlaw_text ["_law_rows"] (defScope slaw_text) := ⟨rfl, rfl, rfl, by decide +kernel, rfl, by decide +kernel, by decide +kernel⟩
theorem blaw_text {K : PySem.W.Frag} {f : Addr} {fd : FuncData} (F : FunD K "_law_text" "_law_text" (defArgs slaw_text) (defBody slaw_text) (defScope slaw_text) [] [] f fd) : Binds K fd ["_law_rows"] [] := F.bindsN fun _ _ _ _ _ _ us hl => match us, hl with | [_], _ => rfl
theorem c_law_text (D : DefAt K mg "_law_text" slaw_text) (T : Txt K mg) : Cal P w K mg base 1 "_law_text" spShow [] := by
  refine mkCal D blaw_text sclaw_text (fun vs H Q E h => ?_) fun f cdv A outer s H vs Q E hr h => ?_
  · obtain ⟨a, M, rfl, _⟩ := h; rfl
  · obtain ⟨a, M, rfl, ⟨ra, hA, hRs⟩, hS, k⟩ := h
    have nd := sclaw_text.nd
    refine ⟨_, pss_cons (ps_set (i := 1) nd rfl (Or.inl rfl) (pe_lst pa_nil))
      (pss_cons (ps_for PassesOwn.never rfl (pi_list (pv 0)) (pg_name (i := 2) nd rfl (Or.inl rfl))
      (pss_one (ps_expr (pe_bm PySem.F.plainAttrs_list PySem.F.slot_list_append PySem.F.type_list_append mt_append (pv 1) (pa_cons (pe_join pe_str (pe_lc (own := [("_law_step", 3)]) rfl nd (pi_list (pv 2)) (blkOk_by (N := nlaw_text) (sc := defScope slaw_text) (by decide +kernel)) (fun _ _ _ _ _ => pg_name (i := 3) nd rfl (Or.inl rfl)) (fun _ _ _ _ _ => pts_nil) (fun _ _ _ _ _ => (pe_op op_add_str (pe_op op_add_str (pe_callTy (T := "str") call_str_int rfl T.n_str (by decide +kernel) (pa_cons (pe_ix (ix_tupK K) (pv 3) pe_int (fun _ _ => rfl)) pa_nil)) pe_str) (pe_callTy (T := "str") call_str_int rfl T.n_str (by decide +kernel) (pa_cons (pe_ix (ix_tupK K) (pv 3) pe_int (fun _ _ => rfl)) pa_nil)))))) pa_nil)))))
      (pss_one (ps_ret (pe_join pe_str (pv 1))))), ?_⟩
    have hs : SqL K H a (ra.map V.ref) := SqL.of hA
    refine ⟨(by show 0 ≤ sizeLine; decide), fun b nb => ?_⟩
    have hsz : sizeLine = 16777216 := sizeLine_eq
    refine ⟨_, rfl, a, rfl, ⟨_, (Same.fresh nb).seq hs⟩, for_list (K := K) (a := a) (xs := ra.map V.ref) (fun i σ H' => (∃ v2, σ = [some (.ref a), some (.ref b), v2, none]) ∧ Same H H' ∧ H' b = some (.lst (((M.take i).map rowL).map fun l => V.str (S l))))
      ⟨⟨none, rfl⟩, Same.fresh nb, upd_same⟩ (fun i σ H' _ h => h.2.1.seq hs) ?_ ?_⟩
    · rintro i y σ H1 hi ⟨⟨v2, rfl⟩, s1, hb⟩
      obtain ⟨r, hr', rfl⟩ : ∃ q, ra[i]? = some q ∧ y = V.ref q := by
        rw [List.getElem?_map] at hi
        cases e : ra[i]? with
        | none => rw [e] at hi; cases hi
        | some q => rw [e] at hi; exact ⟨q, rfl, (Option.some.inj hi).symm⟩
      have hil : i < M.length := by rw [← hRs.len]; exact (List.getElem?_eq_some_iff.mp hr').1
      have erow := List.getElem?_eq_getElem hil
      generalize M[i] = row at erow
      have hrm : row ∈ M := List.mem_of_getElem? erow
      obtain ⟨ps, hR⟩ := (hRs.row i r row hr' erow).mono s1
      have hsr : SqL K H1 r (ps.map V.ref) := SqL.of hR.lst
      have hk := hS.k5 row hrm
      have hbig := hS.big row hrm
      have hn30 := hS.n30
      refine ⟨_, rfl, .inl ⟨rfl, _, SqL.of hb⟩, ⟨_, rfl⟩, _, rfl, r, rfl, ⟨_, hsr⟩, fun q nq => ?_⟩
      have nbq : b ≠ q := ne_of_none hb nq
      refine lc_list (K := K) (a := r) (xs := ps.map V.ref) (fun j H' => Same H1 H' ∧ H' q = some (.lst (((row.take j).map stepL).map fun l => V.str (S l))))
        ⟨Same.fresh nq, upd_same⟩ (fun j H' _ h => h.1.seq hsr) ?_ ?_
      · rintro j y H2 hj ⟨s2, hq⟩
        obtain ⟨p, hp, rfl⟩ : ∃ q, ps[j]? = some q ∧ y = V.ref q := by
          rw [List.getElem?_map] at hj
          cases e : ps[j]? with
          | none => rw [e] at hj; cases hj
          | some q => rw [e] at hj; exact ⟨q, rfl, (Option.some.inj hj).symm⟩
        have hjl : j < row.length := by rw [← hR.len]; exact (List.getElem?_eq_some_iff.mp hp).1
        have ec := List.getElem?_eq_getElem hjl
        generalize row[j] = c at ec
        have hcell := s2 _ _ (hR.cell j p c hp ec)
        have hcb := hbig c (List.mem_of_getElem? ec)
        have hc2 : (c.2 : Int).natAbs < 10 ^ 60 := by
          have : (c.2 : Int).natAbs = c.2 := Int.natAbs_natCast _
          rw [this]
          exact Nat.lt_of_lt_of_le hcb.2 (by decide)
        have hl1 := intL_len (k := 60) (by decide) hcb.1
        have hl2 := intL_len (k := 60) (by decide) hc2
        refine ⟨rfl, _, rfl, _, _, _, _, rfl, rfl, SqT.of hcell, rfl, _, rfl, log_ok hcb.1, ?_⟩
        rw [int_S, gt_S]
        refine ⟨_, _, rfl, rfl, (by rw [S_len, S_len]; show (intL c.1).length + 1 ≤ sizeLine; omega), _, rfl, _, _, _, _, rfl, rfl, SqT.of hcell, rfl, _, rfl, log_ok hc2, ?_⟩
        rw [int_S, S_cat]
        refine ⟨_, _, rfl, rfl, ?_, _, hq, ?_, s2.upd nq, ?_⟩
        · rw [S_len, S_len, List.length_append]
          show (intL c.1).length + 1 + (intL (c.2 : Int)).length ≤ sizeLine
          omega
        · rw [List.length_map, List.length_map, List.length_take]
          exact small1000 (by omega)
        · rw [upd_same, S_cat, List.take_add_one, ec, List.map_append, List.map_append, List.append_assoc]
          rfl
      · rintro H2 ⟨s2, hq⟩
        have e1 : (row.take (ps.map V.ref).length) = row := by rw [List.length_map, hR.len, List.take_length]
        rw [e1] at hq
        refine ⟨_, q, (row.map stepL).map S, rfl, rfl, .inl (SqL.of (by rw [hq]; simp [List.map_map, Function.comp_def])), ?_, ?_⟩
        · rw [lens, List.length_map, List.length_map, blank_S, S_len]
          have h1 := sum_le (B := 70) (l := (row.map stepL).map (·.length)) fun x hx => by
            rw [List.map_map] at hx
            obtain ⟨c, hc, rfl⟩ := List.mem_map.mp hx
            exact stepL_len (hbig c hc)
          rw [List.length_map, List.length_map] at h1
          show _ + row.length * 1 ≤ 16777216
          omega
        · rw [blank_S, join_S]
          refine ⟨b, _, _, rfl, rfl, s2 _ _ hb, ?_, ⟨_, rfl⟩, (s1.trans s2).upd nb, ?_⟩
          · rw [List.length_map, List.length_map, List.length_take]
            exact small1000 (by omega)
          · rw [upd_same, List.take_add_one, erow, List.map_append, List.map_append]
            rfl
    · rintro σ H1 ⟨⟨v2, rfl⟩, s1, hb⟩
      have e1 : M.take (ra.map V.ref).length = M := by rw [List.length_map, hRs.len, List.take_length]
      rw [e1] at hb
      refine ⟨⟨_, rfl⟩, _, rfl, _, b, (M.map rowL).map S, rfl, rfl, .inl (SqL.of (by rw [hb]; simp [List.map_map, Function.comp_def])), ?_, ?_⟩
      · rw [lens, List.length_map, List.length_map, semi_S, S_len]
        have h1 := sum_le (B := 355) (l := (M.map rowL).map (·.length)) fun x hx => by
          rw [List.map_map] at hx
          obtain ⟨r, hr', rfl⟩ := List.mem_map.mp hx
          exact rowL_len (hS.k5 r hr') (hS.big r hr')
        rw [List.length_map, List.length_map] at h1
        have := hS.n30
        show _ + M.length * 2 ≤ 16777216
        omega
      · rw [semi_S, join_S]
        exact k H1 s1
/-! ### a text as a machine -/
abbrev sread_step : Stmt := top 103
abbrev nread_step : List Str := ["text", "halves", "answer", "goal"]
theorem scread_step : FnScope nread_step ["text"] (defScope sread_step) := ⟨rfl, rfl, rfl, by decide +kernel, rfl, by decide +kernel, by decide +kernel⟩
theorem bread_step {K : PySem.W.Frag} {f : Addr} {fd : FuncData} (F : FunD K "read_step" "read_step" (defArgs sread_step) (defBody sread_step) (defScope sread_step) [] [] f fd) : Binds K fd ["text"] [] := F.bindsN fun _ _ _ _ _ _ us hl => match us, hl with | [_], _ => rfl
def spReadStep : Sp := fun vs H Q _ => ∃ c : Int × Nat, vs = [.str (S (stepL c))] ∧ c.1.natAbs < 10 ^ 60 ∧ c.2 < 30 ∧ ∀ (H' : Hp) (p : Addr), Same H H' → nw H H' p = some (cellV c) → Q (.ref p) H'
theorem c_read_step (D : DefAt K mg "read_step" sread_step) (T : Txt K mg) (C_written : Cal P w K mg base 1 "written" spWritten []) : Cal P w K mg base 2 "read_step" spReadStep [] := by
  refine mkCal D bread_step scread_step (fun vs H Q E h => ?_) fun f cdv A outer s H vs Q E hr h => ?_
  · obtain ⟨c, rfl, _⟩ := h; rfl
  · obtain ⟨c, rfl, hc1, hc2, k⟩ := h
    have nd := scread_step.nd
    refine ⟨_, pss_cons (ps_set (i := 1) nd rfl (Or.inl rfl) (pe_split (pv 0) pe_str))
      (pss_cons (ps_if (pt_cmpR op_ne (pe_callB (id := "len") call_len_seq rfl T.n_len (by decide +kernel) (pa_cons (pv 1) pa_nil)) pe_int (nomark _))
      (pss_one (ps_ret pe_non))
      (pss_nil))
      (pss_cons (ps_set (i := 2) nd rfl (Or.inl rfl) (pe_c C_written hr (by decide) rfl (pa_cons (pe_ix ix_list (pv 1) pe_int (fun _ _ => rfl)) pa_nil)))
      (pss_cons (ps_set (i := 3) nd rfl (Or.inl rfl) (pe_c C_written hr (by decide) rfl (pa_cons (pe_ix ix_list (pv 1) pe_int (fun _ _ => rfl)) pa_nil)))
      (pss_cons (ps_if (PW.pt (pw_or (pt_cmp (pc_isN (pv 2))) (pw_or1 (pt_cmp (pc_isN (pv 3))))))
      (pss_one (ps_ret pe_non))
      (pss_nil))
      (pss_one (ps_ret (pe_tup (pa_cons (pv 2) (pa_cons (pv 3) pa_nil))))))))), ?_⟩
    have hsz : sizeLine = 16777216 := sizeLine_eq
    have hl := stepL_len (c := c) ⟨hc1, hc2⟩
    have hc2' : (c.2 : Int).natAbs < 10 ^ 60 := by
      have : (c.2 : Int).natAbs = c.2 := Int.natAbs_natCast _
      rw [this]
      exact Nat.lt_of_lt_of_le hc2 (by decide)
    refine ⟨_, rfl, ⟨_, rfl⟩, _, _, rfl, rfl, (by decide +kernel), (by rw [S_len]; omega), fun p np => ?_⟩
    rw [gt_S, split_S (by simp) (by decide), split_step]
    have hp : (upd H p (.lst (([intL c.1, intL (c.2 : Int)].map S).map V.str))) p = some (.lst [V.str (S (intL c.1)), V.str (S (intL (c.2 : Int)))]) := upd_same
    have hs : SqL K (upd H p (.lst (([intL c.1, intL (c.2 : Int)].map S).map V.str))) p [V.str (S (intL c.1)), V.str (S (intL (c.2 : Int)))] := SqL.of hp
    refine ⟨_, rfl, p, _, rfl, .inl hs, rfl, _, rfl, ?_⟩
    refine iteF ⟨_, rfl, _, _, _, _, rfl, rfl, hs, rfl, c.1, rfl, hc1, ?_⟩
    refine ⟨_, rfl, _, _, _, _, rfl, rfl, hs, rfl, (c.2 : Int), rfl, hc2', ?_⟩
    refine ⟨_, rfl, _, rfl, iteF ⟨_, rfl, _, rfl, iteF ⟨_, rfl, _, rfl, (by show 2 ≤ sizeLine; decide), fun q nq => ?_⟩⟩⟩
    have s1 : Same H (upd H p (.lst (([intL c.1, intL (c.2 : Int)].map S).map V.str))) := Same.fresh np
    exact k _ q (s1.trans (Same.fresh nq)) (by rw [nw_at (s1.free nq), upd_same]; rfl)
abbrev sread : Stmt := top 104
abbrev nread : List Str := ["text", "rows", "part", "row", "word", "step"]
theorem scread : FnScope nread ["text"] (defScope sread) := ⟨rfl, rfl, rfl, by decide +kernel, rfl, by decide +kernel, by decide +kernel⟩
theorem bread {K : PySem.W.Frag} {f : Addr} {fd : FuncData} (F : FunD K "read" "read" (defArgs sread) (defBody sread) (defScope sread) [] [] f fd) : Binds K fd ["text"] [] := F.bindsN fun _ _ _ _ _ _ us hl => match us, hl with | [_], _ => rfl
theorem Fit.short {k n : Nat} {M : Mach} (f : Fit k n M) : Short M := by
  have h1 := f.ok.len
  have h2 := f.n30
  have h3 := f.k5
  refine ⟨by omega, fun row hr => ?_, fun row hr c hc => ⟨f.big row hr c hc, ?_⟩⟩
  · rw [f.ok.rows row hr]; exact h3
  · have := f.ok.next row hr c hc
    omega
def spRead : Sp := fun vs H Q _ => ∃ (k n : Nat) (M : Mach), vs = [.str (S (machL M))] ∧ Fit k n M ∧ ∀ (H' : Hp) (b : Addr), Same H H' → MachAt (nw H H') b M → Q (.ref b) H'
theorem c_read (D : DefAt K mg "read" sread) (T : Txt K mg) (C_read_step : Cal P w K mg base 2 "read_step" spReadStep []) (C_checked : Cal P w K mg base 6 "checked" spChecked []) : Cal P w K mg base 7 "read" spRead [] := by
  refine mkCal D bread scread (fun vs H Q E h => ?_) fun f cdv A outer s H vs Q E hr h => ?_
  · obtain ⟨k, n, M, rfl, _⟩ := h; rfl
  · obtain ⟨kk, n, M, rfl, hF, k⟩ := h
    have nd := scread.nd
    refine ⟨_, pss_cons (ps_if (pt_not (pt_val (pe_callB (id := "isinstance") call_isi rfl T.n_isinstance (by decide +kernel) (pa_cons (pv 0) (pa_cons (pe_bltn (v := .ty "str") rfl T.n_str (by decide +kernel) rfl) pa_nil)))))
      (pss_one (ps_never))
      (pss_nil))
      (pss_cons (ps_set (i := 1) nd rfl (Or.inl rfl) (pe_lst pa_nil))
      (pss_cons (ps_for PassesOwn.never rfl (pi_list (pe_split (pv 0) pe_str)) (pg_name (i := 2) nd rfl (Or.inl rfl))
      (pss_cons (ps_set (i := 3) nd rfl (Or.inl rfl) (pe_lst pa_nil))
        (pss_cons (ps_for PassesOwn.never rfl (pi_list (pe_split (pv 2) pe_str)) (pg_name (i := 4) nd rfl (Or.inl rfl))
        (pss_cons (ps_set (i := 5) nd rfl (Or.inl rfl) (pe_c C_read_step hr (by decide) rfl (pa_cons (pv 4) pa_nil)))
          (pss_cons (ps_if (pt_cmp (pc_isN (pv 5)))
          (pss_one (ps_never))
          (pss_nil))
          (pss_one (ps_expr (pe_bm PySem.F.plainAttrs_list PySem.F.slot_list_append PySem.F.type_list_append mt_append (pv 3) (pa_cons (pv 5) pa_nil)))))))
        (pss_one (ps_expr (pe_bm PySem.F.plainAttrs_list PySem.F.slot_list_append PySem.F.type_list_append mt_append (pv 1) (pa_cons (pv 3) pa_nil)))))))
      (pss_one (ps_try_never (fun _ _ h => h)
      (pss_one (ps_ret (pe_c C_checked hr (by decide) rfl (pa_cons (pv 1) pa_nil))))
      (pss_nil))))), ?_⟩
    have hsz : sizeLine = 16777216 := sizeLine_eq
    have hS := hF.short
    have hl := machL_len hS
    have hM0 : M ≠ [] := fun z => by
      have := hF.ok.len
      rw [z] at this
      have h2 := hF.ok.pos
      simp at this
      omega
    refine ⟨_, rfl, _, _, _, _, true, rfl, .ty "str", .base (.str _), kit_ty (by decide +kernel), true, rfl, ?_⟩
    refine iteF ⟨(by show 0 ≤ sizeLine; decide), fun b nb => ?_⟩
    refine ⟨_, rfl, ⟨_, rfl⟩, _, _, rfl, rfl, (by decide +kernel), (by rw [S_len]; omega), fun p np => ?_⟩
    rw [semi_S, split_S (by simp) (by decide), split_mach hM0]
    have nbp : b ≠ p := ne_of_none upd_same np
    have nb0 : H b = none := nb
    have ep : ((M.map rowL).map S).map V.str = M.map fun r => V.str (S (rowL r)) := by simp [List.map_map, Function.comp_def]
    rw [ep]
    have s2 : Same H (upd (upd H b (.lst [])) p (.lst (M.map fun r => V.str (S (rowL r))))) := (Same.fresh nb).trans (Same.fresh np)
    have hb2 : (upd (upd H b (.lst [])) p (.lst (M.map fun r => V.str (S (rowL r))))) b = some (.lst []) := by rw [upd_ne nbp, upd_same]
    have hp2 : (upd (upd H b (.lst [])) p (.lst (M.map fun r => V.str (S (rowL r))))) p = some (.lst (M.map fun r => V.str (S (rowL r)))) := upd_same
    revert s2 hb2 hp2
    generalize upd (upd H b (.lst [])) p (.lst (M.map fun r => V.str (S (rowL r)))) = H2
    intro s2 hb2 hp2
    refine ⟨p, rfl, ⟨_, SqL.of hp2⟩, for_list (K := K) (a := p) (xs := M.map fun r => V.str (S (rowL r))) (fun i σ H' => (∃ v2 v3 v4 v5, σ = [some (.str (S (machL M))), some (.ref b), v2, v3, v4, v5]) ∧ Same H H' ∧ H' p = some (.lst (M.map fun r => V.str (S (rowL r)))) ∧ ∃ qs, H' b = some (.lst (qs.map V.ref)) ∧ RowsIn (nw H (wo H' b)) qs (M.take i))
      ⟨⟨none, none, none, none, rfl⟩, s2, hp2, [], hb2, RowsIn.nil⟩ (fun i σ H' _ h => SqL.of h.2.2.1) ?_ ?_⟩
    · rintro i y σ H3 hi ⟨⟨v2, v3, v4, v5, rfl⟩, s3, hp3, qs, hb3, hR⟩
      obtain ⟨row, erow, rfl⟩ : ∃ row, M[i]? = some row ∧ y = V.str (S (rowL row)) := by
        rw [List.getElem?_map] at hi
        cases e : M[i]? with
        | none => rw [e] at hi; cases hi
        | some q => rw [e] at hi; exact ⟨q, rfl, (Option.some.inj hi).symm⟩
      have hrm : row ∈ M := List.mem_of_getElem? erow
      have hrl : row.length = kk := hF.ok.rows row hrm
      have hr0 : row ≠ [] := fun z => by rw [z] at hrl; have := hF.ok.kpos; simp at hrl; omega
      have hrn := rowL_len (hS.k5 row hrm) (hS.big row hrm)
      have hk5 := hF.k5
      have hn30 := hF.n30
      have hlen := hF.ok.len
      have hil : i < M.length := (List.getElem?_eq_some_iff.mp erow).1
      refine ⟨(by show 0 ≤ sizeLine; decide), fun r nr => ?_⟩
      have nbr : b ≠ r := ne_of_none hb3 nr
      have nr0 : H r = none := s3.free nr
      refine ⟨_, rfl, ⟨_, rfl⟩, _, _, rfl, rfl, (by decide +kernel), (by rw [S_len]; omega), fun t nt => ?_⟩
      rw [blank_S, split_S (by simp) (by decide), split_row hr0]
      have et : ((row.map stepL).map S).map V.str = row.map fun c => V.str (S (stepL c)) := by simp [List.map_map, Function.comp_def]
      rw [et]
      have nrt : r ≠ t := ne_of_none upd_same nt
      have s4 : Same H3 (upd (upd H3 r (.lst [])) t (.lst (row.map fun c => V.str (S (stepL c))))) := (Same.fresh nr).trans (Same.fresh nt)
      have hr4 : (upd (upd H3 r (.lst [])) t (.lst (row.map fun c => V.str (S (stepL c))))) r = some (.lst []) := by rw [upd_ne nrt, upd_same]
      have ht4 : (upd (upd H3 r (.lst [])) t (.lst (row.map fun c => V.str (S (stepL c))))) t = some (.lst (row.map fun c => V.str (S (stepL c)))) := upd_same
      revert s4 hr4 ht4
      generalize upd (upd H3 r (.lst [])) t (.lst (row.map fun c => V.str (S (stepL c)))) = H4
      intro s4 hr4 ht4
      refine ⟨t, rfl, ⟨_, SqL.of ht4⟩, for_list (K := K) (a := t) (xs := row.map fun c => V.str (S (stepL c))) (fun j σ H' => (∃ v4 v5, σ = [some (.str (S (machL M))), some (.ref b), some (.str (S (rowL row))), some (.ref r), v4, v5]) ∧ Same H3 H' ∧ H' t = some (.lst (row.map fun c => V.str (S (stepL c)))) ∧ ∃ ts, H' r = some (.lst (ts.map V.ref)) ∧ CellsIn (nw H (wo (wo H' b) r)) ts (row.take j))
        ⟨⟨_, _, rfl⟩, s4, ht4, [], hr4, CellsIn.nil⟩ (fun j σ H' _ h => SqL.of h.2.2.1) ?_ ?_⟩
      · rintro j y σ H5 hj ⟨⟨v4, v5, rfl⟩, s5, ht5, ts, hr5, hC⟩
        obtain ⟨c, ec, rfl⟩ : ∃ c, row[j]? = some c ∧ y = V.str (S (stepL c)) := by
          rw [List.getElem?_map] at hj
          cases e : row[j]? with
          | none => rw [e] at hj; cases hj
          | some q => rw [e] at hj; exact ⟨q, rfl, (Option.some.inj hj).symm⟩
        have hcb := hS.big row hrm c (List.mem_of_getElem? ec)
        have hjl : j < row.length := (List.getElem?_eq_some_iff.mp ec).1
        refine ⟨_, rfl, c, rfl, hcb.1, hcb.2, fun H6 q s6 hq => ?_⟩
        obtain ⟨nq, hq6⟩ := nw_some hq
        have s06 : Same H H6 := (s3.trans s5).trans s6
        have hr6 := s6 _ _ hr5
        have nrq : r ≠ q := ne_of_none hr5 nq
        have nbq : b ≠ q := ne_of_none (s5 _ _ hb3) nq
        have ntr : t ≠ r := ne_of ht5 hr5 (fun z => by
          injection z with z
          have hp0 : 0 < row.length := List.length_pos_iff.mpr hr0
          have z2 : (row.map fun c => V.str (S (stepL c)))[0]? = (ts.map V.ref)[0]? := by rw [z]
          rw [List.getElem?_map, List.getElem?_map, List.getElem?_eq_getElem hp0] at z2
          cases e : ts[0]? with
          | none => rw [e] at z2; cases z2
          | some u => rw [e] at z2; cases z2)
        refine ⟨_, rfl, _, rfl, iteF ⟨_, rfl, .inl ⟨rfl, _, SqL.of hr6⟩, _, rfl, r, _, _, rfl, rfl, hr6, ?_, ⟨_, _, rfl⟩, (s5.trans s6).upd nr, ?_, ts ++ [q], (by rw [upd_same, List.map_append] <;> rfl), ?_⟩⟩
        · rw [List.length_map, hC.len, List.length_take]
          exact small1000 (by omega)
        · rw [upd_ne ntr]; exact s6 _ _ ht5
        · have ew : ∀ o, wo (wo (upd H6 r o) b) r = wo (wo H6 b) r := fun o => by
            funext x
            by_cases e : x = r
            · rw [e, wo_self, wo_self]
            · rw [wo_at e, wo_at e]
              by_cases e2 : x = b
              · rw [e2, wo_self, wo_self]
              · rw [wo_at e2, wo_at e2, upd_ne e]
          rw [ew, List.take_add_one, ec]
          refine (hC.mono (Same.nw2 (Same.wo2 (Same.wo2 s6)))).snoc ?_
          rw [nw_at ((s3.trans s5).free nq), wo_at nrq.symm, wo_at nbq.symm]
          exact hq6
      · rintro σ H5 ⟨⟨v4, v5, rfl⟩, s5, ht5, ts, hr5, hC⟩
        rw [List.length_map, List.take_length] at hC
        have hb5 := s5 _ _ hb3
        have npb : p ≠ b := ne_of (s5 _ _ hp3) hb5 (fun z => by
          injection z with z
          have hp0 : 0 < M.length := List.length_pos_iff.mpr hM0
          have z2 : (M.map fun r => V.str (S (rowL r)))[0]? = (qs.map V.ref)[0]? := by rw [z]
          rw [List.getElem?_map, List.getElem?_map, List.getElem?_eq_getElem hp0] at z2
          cases e : qs[0]? with
          | none => rw [e] at z2; cases z2
          | some u => rw [e] at z2; cases z2)
        refine ⟨_, rfl, .inl ⟨rfl, _, SqL.of hb5⟩, _, rfl, b, _, _, rfl, rfl, hb5, ?_, ⟨_, _, _, _, rfl⟩, (s3.trans s5).upd nb0, ?_, qs ++ [r], (by rw [upd_same, List.map_append] <;> rfl), ?_⟩
        · rw [List.length_map, hR.len, List.length_take]
          exact small1000 (by omega)
        · rw [upd_ne npb]; exact s5 _ _ hp3
        · rw [wo_upd, List.take_add_one, erow]
          refine (hR.mono (Same.nw2 (Same.wo2 s5))).snoc ?_
          refine (hC.mono (Same.nw2 (Same.wo (wo H5 b) r))).row ?_
          rw [nw_at nr0, wo_at nbr.symm]
          exact hr5
    · rintro σ H3 ⟨⟨v2, v3, v4, v5, rfl⟩, s3, hp3, qs, hb3, hR⟩
      rw [List.length_map, List.take_length] at hR
      -- the rows' places
      have hR3 := hR.mono ((Same.nw H (wo H3 b)).trans (Same.wo H3 b))
      obtain ⟨pss, hpl, hps⟩ : ∃ pss : List (List Addr), pss.length = M.length ∧ ∀ (i : Nat) (r : Addr) (ps : List Addr) (row : Row), qs[i]? = some r → pss[i]? = some ps → M[i]? = some row → RowIn (nw H (wo H3 b)) r ps row := by
        have key : ∀ (qs : List Addr) (M : Mach), RowsIn (nw H (wo H3 b)) qs M → ∃ pss : List (List Addr), pss.length = M.length ∧ ∀ (i : Nat) (r : Addr) (ps : List Addr) (row : Row), qs[i]? = some r → pss[i]? = some ps → M[i]? = some row → RowIn (nw H (wo H3 b)) r ps row := fun qs => by
          induction qs with
          | nil =>
            intro M h
            have := h.len
            have e : M = [] := List.length_eq_zero_iff.mp this.symm
            subst e
            exact ⟨[], rfl, fun i r ps row e => by cases i <;> cases e⟩
          | cons q qs ih =>
            intro M h
            cases M with
            | nil => have := h.len; cases this
            | cons row M =>
              obtain ⟨pss, h1, h2⟩ := ih M ⟨by have := h.len; simpa using this, fun i r row e1 e2 => h.row (i + 1) r row e1 e2⟩
              obtain ⟨ps, hps⟩ := h.row 0 q row rfl rfl
              refine ⟨ps :: pss, by rw [List.length_cons, List.length_cons, h1], fun i r ps' row' e1 e2 e3 => ?_⟩
              cases i with
              | zero =>
                have z1 : q = r := Option.some.inj e1
                have z2 : ps = ps' := Option.some.inj e2
                have z3 : row = row' := Option.some.inj e3
                subst z1; subst z2; subst z3
                exact hps
              | succ i => exact h2 i r ps' row' e1 e2 e3
        exact key qs M hR
      refine ⟨_, rfl, b, kk, n, M, qs, pss, rfl, hF, hb3, hR3.len, hpl, fun i r ps row e1 e2 e3 => (hps i r ps row e1 e2 e3).mono ((Same.nw H (wo H3 b)).trans (Same.wo H3 b)), fun H4 c qs' s4 hc4 hl4 hall => ?_⟩
      refine k H4 c (s3.trans s4) ⟨qs', s3.nwT _ _ hc4, hl4, fun i r row e1 e2 => ?_⟩
      have hi : i < pss.length := by rw [hpl]; exact (List.getElem?_eq_some_iff.mp e2).1
      have ep' := List.getElem?_eq_getElem hi
      have hiq : i < qs.length := by rw [hR3.len]; exact (List.getElem?_eq_some_iff.mp e2).1
      have hrow := hps i _ _ row (List.getElem?_eq_getElem hiq) ep' e2
      refine ⟨pss[i], s3.nwT _ _ (hall i r _ e1 ep'), hrow.len, fun j p' c' f1 f2 => ?_⟩
      have g := hrow.cell j p' c' f1 f2
      obtain ⟨g1, g2⟩ := nw_some g
      rw [nw_at g1]
      exact s4 _ _ (wo_some g2).2
/-! ### a row of asks as a text -/
abbrev sshow_row : Stmt := top 105
abbrev nshow_row : List Str := ["numbers", "number"]
theorem scshow_row : FnScope nshow_row ["numbers"] (defScope sshow_row) := ⟨rfl, rfl, rfl, by decide +kernel, rfl, by decide +kernel, by decide +kernel⟩
theorem bshow_row {K : PySem.W.Frag} {f : Addr} {fd : FuncData} (F : FunD K "show_row" "show_row" (defArgs sshow_row) (defBody sshow_row) (defScope sshow_row) [] [] f fd) : Binds K fd ["numbers"] [] := F.bindsN fun _ _ _ _ _ _ us hl => match us, hl with | [_], _ => rfl
def spShowRow : Sp := fun vs H Q _ => ∃ (a : Addr) (l : List Nat), vs = [.ref a] ∧ H a = some (.lst (natsV l)) ∧ l ≠ [] ∧ l.length ≤ 1000 ∧ (∀ x ∈ l, x < 5) ∧ ∀ (H' : Hp) (z : Str), Same H H' → z ≠ Str.ofString "alike" → Q (.str z) H'
theorem c_show_row (D : DefAt K mg "show_row" sshow_row) (T : Txt K mg) : Cal P w K mg base 1 "show_row" spShowRow [] := by
  refine mkCal D bshow_row scshow_row (fun vs H Q E h => ?_) fun f cdv A outer s H vs Q E hr h => ?_
  · obtain ⟨a, l, rfl, _⟩ := h; rfl
  · obtain ⟨a, l, rfl, ha, hl0, hl1, hl5, k⟩ := h
    have nd := scshow_row.nd
    refine ⟨_, pss_cons (ps_if (pt_cmpR op_eq (pe_callB (id := "len") call_len_seq rfl T.n_len (by decide +kernel) (pa_cons (pv 0) pa_nil)) pe_int (nomark _))
      (pss_one (ps_ret pe_str))
      (pss_nil))
      (pss_one (ps_ret (pe_join pe_str (pe_lc (own := [("number", 1)]) rfl nd (pi_list (pv 0)) (blkOk_by (N := nshow_row) (sc := defScope sshow_row) (by decide +kernel)) (fun _ _ _ _ _ => pg_name (i := 1) nd rfl (Or.inl rfl)) (fun _ _ _ _ _ => pts_nil) (fun _ _ _ _ _ => (pe_callTy (T := "str") call_str_int rfl T.n_str (by decide +kernel) (pa_cons (pv 1) pa_nil))))))), ?_⟩
    have hs : SqL K H a (natsV l) := SqL.of ha
    have hlv : (natsV l).length = l.length := List.length_map _
    have hpos : 0 < l.length := List.length_pos_iff.mpr hl0
    refine ⟨_, rfl, a, _, rfl, .inl hs, rfl, _, rfl, ?_⟩
    rw [hlv, dec_int, show ((l.length : Int) == 0) = false from beq_eq_false_iff_ne.mpr (by omega)]
    refine iteF ⟨⟨_, rfl⟩, _, rfl, a, rfl, ⟨_, hs⟩, fun q nq => ?_⟩
    refine lc_list (K := K) (a := a) (xs := natsV l) (fun j H' => Same H H' ∧ H' q = some (.lst (((l.take j).map fun x : Nat => intL (x : Int)).map fun l => V.str (S l))))
      ⟨Same.fresh nq, upd_same⟩ (fun j H' _ h => h.1.seq hs) ?_ ?_
    · rintro j y H1 hj ⟨s1, hq⟩
      obtain ⟨x, hx, rfl⟩ : ∃ x, l[j]? = some x ∧ y = .int (x : Int) := by
        unfold natsV at hj
        rw [List.getElem?_map] at hj
        cases e : l[j]? with
        | none => rw [e] at hj; cases hj
        | some x => rw [e] at hj; exact ⟨x, rfl, (Option.some.inj hj).symm⟩
      have hx5 := hl5 x (List.mem_of_getElem? hx)
      have hxa : (x : Int).natAbs < 10 ^ 60 := by
        have : (x : Int).natAbs = x := Int.natAbs_natCast _
        rw [this]
        exact Nat.lt_of_lt_of_le hx5 (by decide)
      have hjl : j < l.length := (List.getElem?_eq_some_iff.mp hx).1
      refine ⟨rfl, _, rfl, _, rfl, log_ok hxa, ?_⟩
      rw [int_S]
      refine ⟨_, hq, ?_, s1.upd nq, ?_⟩
      · rw [List.length_map, List.length_map, List.length_take]
        exact small1000 (by omega)
      · rw [upd_same, List.take_add_one, hx, List.map_append, List.map_append]
        rfl
    · rintro H1 ⟨s1, hq⟩
      have e1 : l.take (natsV l).length = l := by rw [hlv, List.take_length]
      rw [e1] at hq
      refine ⟨_, q, (l.map fun x : Nat => intL (x : Int)).map S, rfl, rfl, .inl (SqL.of (by rw [hq]; simp [List.map_map, Function.comp_def])), ?_, ?_⟩
      · rw [lens, List.length_map, List.length_map, comma_S, S_len]
        have h1 := sum_le (B := 2) (l := (l.map fun x : Nat => intL (x : Int)).map (·.length)) fun z hz => by
          rw [List.map_map] at hz
          obtain ⟨x, hx, rfl⟩ := List.mem_map.mp hz
          have := hl5 x hx
          exact intL_len (i := (x : Int)) (k := 1) (by decide) (by show (x : Int).natAbs < 10 ^ 1; omega)
        rw [List.length_map, List.length_map] at h1
        show _ + l.length * 1 ≤ 16777216
        omega
      · rw [comma_S, join_S]
        refine k H1 _ s1 fun z => ?_
        have hm : 97 ∈ (S (TL.joinL [44] (l.map fun x : Nat => intL (x : Int)))).cps.toList := by
          rw [z]
          decide +kernel
        rcases joinL_mem (show 97 ∈ TL.joinL [44] (l.map fun x : Nat => intL (x : Int)) from hm) with z | ⟨p, hp, z⟩
        · exact absurd (List.mem_singleton.mp z) (by decide)
        · obtain ⟨x, _, rfl⟩ := List.mem_map.mp hp
          exact intL_free (by omega) z
end
end Pw

namespace Pw
open PySem PySem.Spec PyProof.Rows L2
open C8 (Cal Met pe_c pe_mt pe_mt0 pe_gc)
section
variable {P : Program} {w : World} {K : PySem.W.Frag} {mg : Str → Option Value} {base : Heap}
/-! ### the law's own walk over pairs -/
abbrev slaw_alike : Stmt := top 145
abbrev nlaw_alike : List Str := ["_law_one", "_law_here", "_law_other", "_law_there", "_law_pairs", "_law_known", "_law_at", "_law_left", "_law_right", "_law_a", "_law_pair"]
theorem sclaw_alike : FnScope nlaw_alike ["_law_one", "_law_here", "_law_other", "_law_there"] (defScope slaw_alike) := ⟨rfl, rfl, rfl, by decide +kernel, rfl, by decide +kernel, by decide +kernel⟩
theorem blaw_alike {K : PySem.W.Frag} {f : Addr} {fd : FuncData} (F : FunD K "_law_alike" "_law_alike" (defArgs slaw_alike) (defBody slaw_alike) (defScope slaw_alike) [] [] f fd) : Binds K fd ["_law_one", "_law_here", "_law_other", "_law_there"] [] := F.bindsN fun _ _ _ _ _ _ us hl => match us, hl with | [_, _, _, _], _ => rfl
def spAlike : Sp := fun vs H Q _ => ∃ (a b : Addr) (k n n' : Nat) (M N : Mach) (x y : Nat), vs = [.ref a, .int x, .ref b, .int y] ∧ MachAt H a M ∧ MachAt H b N ∧ Ok k n M ∧ Ok k n' N ∧ k ≤ 5 ∧ n ≤ 30 ∧ n' ≤ 30 ∧ x < n ∧ y < n' ∧
  (Alike k M N x y → ∀ H', Same H H' → Q (.bl true) H') ∧ (¬ Alike k M N x y → ∀ H', Same H H' → Q (.bl false) H')
def WAlike (H : Hp) (a b d o : Addr) (k n n' : Nat) (M N : Mach) (x y : Nat) (m : Nat) (σ : L2.St) (H' : Hp) : Prop := ∃ (at_ : Nat) (P : List (Nat × Nat)) (ts : List Addr) (kvs : List (List Key × V)) (v7 v8 v9 v10 : Option V),
  σ = [some (.ref a), some (.int x), some (.ref b), some (.int y), some (.ref o), some (.ref d), some (.int at_), v7, v8, v9, v10] ∧ LikeI false H d o H' P ts kvs ∧ Pairs k M N x y P at_ ∧ (∀ p ∈ P, p.1 < n ∧ p.2 < n') ∧ at_ ≤ P.length ∧ m = n * n' - at_
theorem c_law_alike (D : DefAt K mg "_law_alike" slaw_alike) (T : Txt K mg) : Cal P w K mg base 1 "_law_alike" spAlike [] := by
  refine mkCal D blaw_alike sclaw_alike (fun vs H Q E h => ?_) fun f cdv A outer s H vs Q E hr h => ?_
  · obtain ⟨a, b, k, n, n', M, N, x, y, rfl, _⟩ := h; rfl
  · obtain ⟨a, b, kk, n, n', M, N, x, y, rfl, hM, hN, hO, hO', hk, hn, hn', hx, hy, kA, kU⟩ := h
    have hu := hu_of hr
    have nd := sclaw_alike.nd
    refine ⟨_, pss_cons (ps_set (i := 4) nd rfl (Or.inl rfl) (pe_lst (pa_cons (pe_tup (pa_cons (pv 1) (pa_cons (pv 3) pa_nil))) pa_nil)))
      (pss_cons (ps_set (i := 5) nd rfl (Or.inl rfl) (pe_dispT1 hu (pe_tup (pa_cons (pv 1) (pa_cons (pv 3) pa_nil))) pe_bl))
      (pss_cons (ps_set (i := 6) nd rfl (Or.inl rfl) pe_int)
      (pss_cons (ps_while PassesOwn.never (pt_cmpR op_lt (pv 6) (pe_callB (id := "len") call_len_seq rfl T.n_len (by decide +kernel) (pa_cons (pv 4) pa_nil)) (nomark _))
      (pss_cons (ps_asg (pe_ix ix_list (pv 4) (pv 6) (fun _ _ => rfl)) (pg_tup rfl (pgs_cons (pg_name (i := 7) nd rfl (Or.inl rfl)) (pgs_cons (pg_name (i := 8) nd rfl (Or.inl rfl)) pgs_nil))))
        (pss_cons (ps_for PassesOwn.never rfl (pi_range1 rfl T.n_range (pa_cons (pe_callB (id := "len") call_len_seq rfl T.n_len (by decide +kernel) (pa_cons (pe_ix ix_list (pv 0) pe_int (fun _ _ => rfl)) pa_nil)) pa_nil)) (pg_name (i := 9) nd rfl (Or.inl rfl))
        (pss_cons (ps_if (pt_cmpR op_ne (pe_ix ix_tup (pe_ix ix_list (pe_ix ix_list (pv 0) (pv 7) (fun _ _ => rfl)) (pv 9) (fun _ _ => rfl)) pe_int (fun _ _ => rfl)) (pe_ix ix_tup (pe_ix ix_list (pe_ix ix_list (pv 2) (pv 8) (fun _ _ => rfl)) (pv 9) (fun _ _ => rfl)) pe_int (fun _ _ => rfl)) (nomark _))
          (pss_one (ps_ret pe_bl))
          (pss_nil))
          (pss_cons (ps_set (i := 10) nd rfl (Or.inl rfl) (pe_tup (pa_cons (pe_ix ix_tup (pe_ix ix_list (pe_ix ix_list (pv 0) (pv 7) (fun _ _ => rfl)) (pv 9) (fun _ _ => rfl)) pe_int (fun _ _ => rfl)) (pa_cons (pe_ix ix_tup (pe_ix ix_list (pe_ix ix_list (pv 2) (pv 8) (fun _ _ => rfl)) (pv 9) (fun _ _ => rfl)) pe_int (fun _ _ => rfl)) pa_nil))))
          (pss_one (ps_if (pt_cmp (pc_dnotin hu (pv 10) (pv 5)))
          (pss_cons (ps_dput hu (pv 5) (pv 10) pe_bl rfl)
            (pss_one (ps_expr (pe_bm PySem.F.plainAttrs_list PySem.F.slot_list_append PySem.F.type_list_append mt_append (pv 4) (pa_cons (pv 10) pa_nil)))))
          (pss_nil))))))
        (pss_one (ps_set (i := 6) nd rfl (Or.inl rfl) (pe_op op_add (pv 6) pe_int))))))
      (pss_one (ps_ret pe_bl))))), ?_⟩
    have nn : n * n' ≤ 900 := Nat.mul_le_mul hn hn'
    refine ⟨_, rfl, _, rfl, (by show 2 ≤ sizeLine; decide), fun t1 nt1 => ⟨(by show 1 ≤ sizeLine; decide), fun o no => ?_⟩⟩
    refine fun d nd => ⟨_, rfl, _, rfl, (by show 2 ≤ sizeLine; decide), fun t0 nt0 => ⟨?_, t0, keyOf (x, y), .bl true, rfl, upd_same, ?_⟩⟩
    · exact (Same.fresh nt0) _ _ upd_same
    have no0 : H o = none := (Same.fresh (o := .tup [V.int (x : Int), V.int (y : Int)]) nt1).free no
    have s1 := (Same.fresh (o := .tup [V.int (x : Int), V.int (y : Int)]) nt1).trans (Same.fresh (o := .lst [V.ref t1]) no)
    have nd0 : H d = none := s1.free nd
    have nto : t1 ≠ o := ne_of_none (o := .tup [V.int (x : Int), V.int (y : Int)]) upd_same no
    have ndo : d ≠ o := (ne_of_none (o := .lst [V.ref t1]) upd_same nd).symm
    have ntd : t1 ≠ d := ne_of_none (o := .tup [V.int (x : Int), V.int (y : Int)]) (by rw [upd_ne nto, upd_same]) nd
    have s2 : Same H (upd (upd (upd (upd (upd H t1 (.tup [V.int (x : Int), V.int (y : Int)])) o (.lst [V.ref t1])) d (.dT [])) t0 (.tup [V.int (x : Int), V.int (y : Int)])) d (.dT [(keyOf (x, y), .bl true)])) :=
      ((s1.trans (Same.fresh nd)).trans (Same.fresh nt0)).upd nd0
    have nt10 : t1 ≠ t0 := ne_of_none (o := .tup [V.int (x : Int), V.int (y : Int)]) (by rw [upd_ne ntd, upd_ne nto, upd_same]) nt0
    have nto0 : o ≠ t0 := ne_of_none (o := .lst [V.ref t1]) (by rw [upd_ne ndo.symm, upd_same]) nt0
    have I0 : LikeI false H d o (upd (upd (upd (upd (upd H t1 (.tup [V.int (x : Int), V.int (y : Int)])) o (.lst [V.ref t1])) d (.dT [])) t0 (.tup [V.int (x : Int), V.int (y : Int)])) d (.dT [(keyOf (x, y), .bl true)])) [(x, y)] [t1] [(keyOf (x, y), .bl true)] := by
      refine ⟨s2, upd_same, Nat.le_refl _, fun p => ?_, fun p v e z => (by cases z), by rw [upd_ne ndo.symm, upd_ne nto0, upd_ne ndo.symm, upd_same]; rfl, rfl, fun i t p e1 e2 => ?_⟩
      · by_cases z : p = (x, y)
        · subst z
          rw [valV_pos rfl, decide_eq_true (List.mem_singleton_self _)]
          rfl
        · rw [valV_neg (fun y => z (keyOf_inj y).symm), decide_eq_false (by simpa using z)]
          rfl
      · cases i with
        | zero =>
          have e3 : t1 = t := Option.some.inj e1
          have e4 : (x, y) = p := Option.some.inj e2
          subst e3; subst e4
          rw [wos_at (by simp [ntd, nto]), upd_ne ntd, upd_ne nt10, upd_ne ntd, upd_ne nto, upd_same]
          rfl
        | succ i => cases e1
    refine ⟨WAlike H a b d o kk n n' M N x y, ⟨_, 0, [(x, y)], [t1], _, none, none, none, none, rfl, I0, Pairs.init, fun p hp => ?_, Nat.zero_le _, rfl⟩, ?_⟩
    · rw [List.mem_singleton] at hp
      subst hp
      exact ⟨hx, hy⟩
    rintro m σ H2 ⟨at_, Ps, ts, kvs, v7, v8, v9, v10, rfl, I, B, hlt, hat, rfl⟩
    have hPn : Ps.length ≤ n * n' := pairs_len B.nd hlt
    have hlo : (ts.map V.ref).length = Ps.length := by rw [List.length_map, I.tlen]
    refine ⟨_, rfl, _, rfl, o, _, rfl, .inl (SqL.of I.ord), _, _, rfl, rfl, _, rfl, ?_⟩
    rw [hlo]
    by_cases hl : at_ < Ps.length
    · rw [decide_eq_true (show (at_ : Int) < (Ps.length : Int) by omega)]
      refine iteT ⟨fun σ' H' => ∃ m', m' < n * n' - at_ ∧ WAlike H a b d o kk n n' M N x y m' σ' H', fun _ _ h => h, ?_⟩
      have eP := List.getElem?_eq_getElem hl
      generalize Ps[at_] = p at eP
      obtain ⟨p1, p2⟩ := hlt p (List.mem_of_getElem? eP)
      obtain ⟨t, ht1, ht2⟩ := I.at eP
      refine ⟨_, rfl, _, rfl, _, _, _, _, rfl, rfl, SqL.of I.ord, ht1, t, _, rfl, SqT.of ht2, rfl, _, _, rfl, _, _, rfl, rfl, ?_⟩
      obtain ⟨row0, z1, z2, _⟩ := hO.at hO.pos
      obtain ⟨ra0, rr0, g1, g2, ps0, g3⟩ := (hM.mono I.same).at z1
      have hlr : (ps0.map V.ref).length = kk := by rw [List.length_map, g3.len, z2]
      refine ⟨_, rfl, _, _, _, _, rfl, rfl, SqL.of g1, g2, rr0, _, rfl, .inl (SqL.of g3.lst), (kk : Int), by rw [hlr], by omega, by omega, for_range (lo := 0) (n := kk) (fun i σ H' => ∃ (Ps : List (Nat × Nat)) (ts : List Addr) (kvs : List (List Key × V)) (v9 v10 : Option V),
          σ = [some (.ref a), some (.int x), some (.ref b), some (.int y), some (.ref o), some (.ref d), some (.int at_), some (.int (p.1 : Int)), some (.int (p.2 : Int)), v9, v10] ∧ LikeI false H d o H' Ps ts kvs ∧ PairsIn kk M N x y Ps at_ p i ∧ ∀ p ∈ Ps, p.1 < n ∧ p.2 < n')
          ⟨Ps, ts, kvs, _, _, rfl, I, B.enter eP, hlt⟩ ?_ ?_⟩
      · rintro i σ H3 hi ⟨Ps, ts, kvs, v9, v10, rfl, I, B, hlt⟩
        rw [show (0 : Int) + (i : Int) = (i : Int) by omega]
        obtain ⟨ra, rr, ps1, q1, x1, x2, x3, x4, x5, x6⟩ := (hM.mono I.same).cell hO p1 hi
        obtain ⟨rb, rr', ps2, q2, y1, y2, y3, y4, y5, y6⟩ := (hN.mono I.same).cell hO' p2 hi
        have hPn : Ps.length ≤ n * n' := pairs_len B.all.nd hlt
        refine ⟨_, rfl, _, rfl, _, _, _, _, rfl, rfl, SqL.of x1, x2, _, rfl, _, _, _, _, rfl, rfl, SqL.of x3, x4, _, _, _, _, rfl, rfl, SqT.of x5, rfl, _, rfl, _, rfl, _, _, _, _, rfl, rfl, SqL.of y1, y2, _, rfl, _, _, _, _, rfl, rfl, SqL.of y3, y4, _, _, _, _, rfl, rfl, SqT.of y5, rfl, rfl, _, rfl, ?_⟩
        rw [ne_int]
        by_cases hans : ans M p.1 i = ans N p.2 i
        · rw [decide_eq_true hans]
          refine iteF ?_
          refine ⟨_, rfl, _, rfl, _, _, _, _, rfl, rfl, SqL.of x1, x2, _, rfl, _, _, _, _, rfl, rfl, SqL.of x3, x4, _, _, _, _, rfl, rfl, SqT.of x5, rfl, _, rfl, _, rfl, _, _, _, _, rfl, rfl, SqL.of y1, y2, _, rfl, _, _, _, _, rfl, rfl, SqL.of y3, y4, _, _, _, _, rfl, rfl, SqT.of y5, rfl, (by show 2 ≤ sizeLine; decide), fun tq ntq => ?_⟩
          have I4 := I.mono (Same.fresh (o := .tup [V.int (nxt M p.1 i : Int), V.int (nxt N p.2 i : Int)]) ntq)
          have htq : wos (upd H3 tq (.tup [V.int (nxt M p.1 i : Int), V.int (nxt N p.2 i : Int)])) [d, o] tq = some (pairHO (nxt M p.1 i, nxt N p.2 i)) := by
            have g1 : d ≠ tq := ne_of_none I.dic ntq
            have g2 : o ≠ tq := ne_of_none I.ord ntq
            rw [wos_at (by simp [g1.symm, g2.symm]), upd_same]
            rfl
          revert I4 htq
          generalize upd H3 tq (.tup [V.int (nxt M p.1 i : Int), V.int (nxt N p.2 i : Int)]) = H4
          intro I4 htq
          have htq4 := (wos_some htq).2
          rw [pairHO_key] at htq4
          refine ⟨_, rfl, _, rfl, d, _, rfl, DGet.t I4.dic htq4, _, rfl, ?_⟩
          rw [I4.has]
          by_cases hm : (nxt M p.1 i, nxt N p.2 i) ∈ Ps
          · rw [decide_eq_true hm]
            exact iteF ⟨Ps, ts, kvs, _, _, rfl, I4, B.old hans hm, hlt⟩
          · rw [decide_eq_false hm]
            refine iteT ?_
            have I6 := I4.add nd0 no0 ndo hm htq (v := .bl true) fun z => by cases z
            refine ⟨_, rfl, _, rfl, d, _, rfl, DPut.t I4.dic htq4 (small1000 (by have := I4.klen; omega)), ?_⟩
            have io : (upd H4 d (.dT (putK kvs (keyOf (nxt M p.1 i, nxt N p.2 i)) (.bl true)))) o = some (.lst (ts.map V.ref)) := by rw [upd_ne ndo.symm]; exact I4.ord
            refine ⟨_, rfl, .inl ⟨rfl, _, SqL.of io⟩, _, rfl, o, _, _, rfl, rfl, io, ?_, Ps ++ [(nxt M p.1 i, nxt N p.2 i)], ts ++ [tq], putK kvs (keyOf (nxt M p.1 i, nxt N p.2 i)) (.bl true), _, _, rfl, ?_, B.new hi hans hm, fun z hz => ?_⟩
            · rw [List.length_map, I4.tlen]
              exact small1000 (by omega)
            · rw [List.map_append] at I6
              exact I6
            · rcases List.mem_append.mp hz with hz | hz
              · exact hlt z hz
              · rw [List.mem_singleton] at hz
                subst hz
                exact ⟨x6, y6⟩
        · rw [decide_eq_false hans]
          exact iteT (kU (B.all.unlike (List.mem_of_getElem? B.cur) hi hans) H3 I.same)
      · rintro σ H3 ⟨Ps, ts, kvs, v9, v10, rfl, I, B, hlt⟩
        have hl2 : at_ < Ps.length := (List.getElem?_eq_some_iff.mp B.cur).1
        have hPn : Ps.length ≤ n * n' := pairs_len B.all.nd hlt
        exact ⟨_, rfl, _, _, rfl, rfl, n * n' - (at_ + 1), by omega, at_ + 1, Ps, ts, kvs, _, _, _, _, rfl, I, B.leave, hlt, by omega, rfl⟩
    · rw [decide_eq_false (show ¬ (at_ : Int) < (Ps.length : Int) by omega)]
      exact iteF (kA (B.done (by omega)) H2 I.same)
/-! ### how many classes -/
abbrev slaw_many : Stmt := top 146
abbrev nlaw_many : List Str := ["_law_rows", "_law_order", "_law_state", "_law_k", "_law_step", "_law_heads", "_law_head"]
theorem sclaw_many : FnScope nlaw_many ["_law_rows"] (defScope slaw_many) := ⟨rfl, rfl, rfl, by decide +kernel, rfl, by decide +kernel, by decide +kernel⟩
theorem blaw_many {K : PySem.W.Frag} {f : Addr} {fd : FuncData} (F : FunD K "_law_many" "_law_many" (defArgs slaw_many) (defBody slaw_many) (defScope slaw_many) [] [] f fd) : Binds K fd ["_law_rows"] [] := F.bindsN fun _ _ _ _ _ _ us hl => match us, hl with | [_], _ => rfl
def spMany : Sp := fun vs H Q _ => ∃ (a : Addr) (k n : Nat) (M : Mach), vs = [.ref a] ∧ MachAt H a M ∧ Ok k n M ∧ k ≤ 5 ∧ n ≤ 30 ∧
  ∀ (H' : Hp) (D : List Nat), Same H H' → D.Pairwise (fun x y => ¬ Alike k M M x y) → (∀ c ∈ D, Reach k M c) → (∀ x, Reach k M x → ∃ c ∈ D, Alike k M M x c) → Q (.int D.length) H'
structure OrdI (k n : Nat) (M : Mach) (O : List Nat) : Prop where
  nd : O.Nodup
  lt : ∀ x ∈ O, x < n
  re : ∀ x ∈ O, Reach k M x
  zero : 0 ∈ O
def Closed (k : Nat) (M : Mach) (O : List Nat) : Prop := ∀ x ∈ O, ∀ a, a < k → nxt M x a ∈ O
theorem OrdI.add {k n : Nat} {M : Mach} {O : List Nat} (h : OrdI k n M O) (o : Ok k n M) {x a : Nat} (hx : x ∈ O) (ha : a < k) (hm : ¬ nxt M x a ∈ O) : OrdI k n M (O ++ [nxt M x a]) := by
  refine ⟨nodup_snoc h.nd hm, fun y hy => ?_, fun y hy => ?_, List.mem_append_left _ h.zero⟩
  · rcases List.mem_append.mp hy with z | z
    · exact h.lt y z
    · rw [List.mem_singleton] at z; subst z; exact o.nxt_lt (h.lt x hx) ha
  · rcases List.mem_append.mp hy with z | z
    · exact h.re y z
    · rw [List.mem_singleton] at z; subst z; exact .step (h.re x hx) ha
theorem c_law_many (D : DefAt K mg "_law_many" slaw_many) (T : Txt K mg) (C__law_alike : Cal P w K mg base 1 "_law_alike" spAlike []) : Cal P w K mg base 2 "_law_many" spMany [] := by
  refine mkCal D blaw_many sclaw_many (fun vs H Q E h => ?_) fun f cdv A outer s H vs Q E hr h => ?_
  · obtain ⟨a, k, n, M, rfl, _⟩ := h; rfl
  · obtain ⟨a, kk, n, M, rfl, hM, hO, hk, hn30, k⟩ := h
    have hu64 := hu64_of hr
    have nd := sclaw_many.nd
    refine ⟨_, pss_cons (ps_set (i := 1) nd rfl (Or.inl rfl) (pe_lst (pa_cons pe_int pa_nil)))
      (pss_cons (ps_for PassesOwn.never rfl (pi_range1 rfl T.n_range (pa_cons (pe_callB (id := "len") call_len_seq rfl T.n_len (by decide +kernel) (pa_cons (pv 0) pa_nil)) pa_nil)) (pg_name (i := 2) nd rfl (Or.inr rfl))
      (pss_one (ps_for PassesOwn.never rfl (pi_range1 rfl T.n_range (pa_cons (pe_callB (id := "len") call_len_seq rfl T.n_len (by decide +kernel) (pa_cons (pv 1) pa_nil)) pa_nil)) (pg_name (i := 3) nd rfl (Or.inl rfl))
        (pss_one (ps_for PassesOwn.never rfl (pi_list (pe_ix ix_list (pv 0) (pe_ix ix_list (pv 1) (pv 3) (fun _ _ => rfl)) (fun _ _ => rfl))) (pg_name (i := 4) nd rfl (Or.inl rfl))
          (pss_one (ps_if (pt_cmpR op_notIn_seq (pe_ix ix_tup (pv 4) pe_int (fun _ _ => rfl)) (pv 1) (by rfl))
            (pss_one (ps_expr (pe_bm PySem.F.plainAttrs_list PySem.F.slot_list_append PySem.F.type_list_append mt_append (pv 1) (pa_cons (pe_ix ix_tup (pv 4) pe_int (fun _ _ => rfl)) pa_nil))))
            (pss_nil))))))))
      (pss_cons (ps_set (i := 5) nd rfl (Or.inl rfl) (pe_lst pa_nil))
      (pss_cons (ps_for PassesOwn.never rfl (pi_list (pv 1)) (pg_name (i := 2) nd rfl (Or.inr rfl))
      (pss_one (ps_if (pt_cmpR (op_eqD hu64) (pe_lc (own := [("_law_head", 6)]) rfl nd (pi_list (pv 5)) (blkOk_by (N := nlaw_many) (sc := defScope slaw_many) (by decide +kernel)) (fun _ _ _ _ _ => pg_name (i := 6) nd rfl (Or.inl rfl)) (fun _ _ _ _ _ => pts_one (pt_val (pe_c C__law_alike hr (by decide) rfl (pa_cons (pv 0) (pa_cons (pv 6) (pa_cons (pv 0) (pa_cons (pv 2) pa_nil))))))) (fun _ _ _ _ _ => (pv 6))) (pe_lst pa_nil) (nomark _))
        (pss_one (ps_expr (pe_bm PySem.F.plainAttrs_list PySem.F.slot_list_append PySem.F.type_list_append mt_append (pv 5) (pa_cons (pv 2) pa_nil))))
        (pss_nil))))
      (pss_one (ps_ret (pe_callB (id := "len") call_len_seq rfl T.n_len (by decide +kernel) (pa_cons (pv 5) pa_nil))))))), ?_⟩
    obtain ⟨ra, hA, hRs⟩ := id hM
    have hsA : SqL K H a (ra.map V.ref) := SqL.of hA
    have hlA : (ra.map V.ref).length = n := by rw [List.length_map, hRs.len, hO.len]
    refine ⟨(by show 1 ≤ sizeLine; decide), fun o no => ?_⟩
    refine ⟨_, rfl, a, _, rfl, .inl ((Same.fresh no).seq hsA), (n : Int), by rw [hlA], by omega, by omega, ?_⟩
    refine for_range (lo := 0) (n := n) (fun i σ H' => ∃ (O : List Nat) (v2 v3 v4 : Option V), σ = [some (.ref a), some (.ref o), v2, v3, v4, none, none] ∧ Same H H' ∧ H' o = some (.lst (natsV O)) ∧ OrdI kk n M O ∧ (Closed kk M O ∨ i + 1 ≤ O.length))
      ⟨[0], none, none, none, rfl, Same.fresh no, upd_same, ⟨nodup_one _, fun x hx => ?_, fun x hx => ?_, List.mem_singleton_self _⟩, .inr (Nat.le_refl _)⟩ ?_ ?_
    · rw [List.mem_singleton] at hx; subst hx; exact hO.pos
    · rw [List.mem_singleton] at hx; subst hx; exact .zero
    · rintro i σ H1 hi ⟨O0, v2, v3, v4, rfl, s1, ho1, I0, hc0⟩
      have hl0 : (natsV O0).length = O0.length := List.length_map _
      have hO0n : O0.length ≤ n := lt_len I0.nd I0.lt
      refine ⟨_, rfl, o, _, rfl, .inl (SqL.of ho1), (O0.length : Int), by rw [hl0], by omega, by omega, ?_⟩
      refine for_range (lo := 0) (n := O0.length) (fun j σ H' => ∃ (E : List Nat) (v3 v4 : Option V), σ = [some (.ref a), some (.ref o), some (.int (0 + (i : Int))), v3, v4, none, none] ∧ Same H H' ∧ H' o = some (.lst (natsV (O0 ++ E))) ∧ OrdI kk n M (O0 ++ E) ∧
          (Closed kk M O0 → E = []) ∧ ∀ j' x, j' < j → O0[j']? = some x → ∀ b, b < kk → nxt M x b ∈ O0 ++ E)
        ⟨[], _, _, rfl, s1, by rw [List.append_nil]; exact ho1, by rw [List.append_nil]; exact I0, fun _ => rfl, fun j' x h => absurd h (Nat.not_lt_zero _)⟩ ?_ ?_
      · rintro j σ H2 hj ⟨E, v3, v4, rfl, s2, ho2, I2, hcl, hall⟩
        rw [show (0 : Int) + (j : Int) = (j : Int) by omega]
        have ex := List.getElem?_eq_getElem hj
        generalize O0[j] = x at ex
        have ex2 : (O0 ++ E)[j]? = some x := by rw [List.getElem?_append_left hj]; exact ex
        have hxm : x ∈ O0 ++ E := List.mem_of_getElem? ex2
        have hxn : x < n := I2.lt x hxm
        obtain ⟨row, r1, r2, r3⟩ := hO.at hxn
        obtain ⟨ra', rr, g1, g2, ps, g3⟩ := (hM.mono s2).at r1
        have hsr : SqL K H2 rr (ps.map V.ref) := SqL.of g3.lst
        have hlp : (ps.map V.ref).length = kk := by rw [List.length_map, g3.len, r2]
        refine ⟨_, rfl, _, rfl, _, rfl, _, _, _, _, rfl, rfl, SqL.of ho2, at_nat ex2, _, _, _, _, rfl, rfl, SqL.of g1, g2, rr, rfl, ⟨_, hsr⟩, ?_⟩
        refine for_list (K := K) (a := rr) (xs := ps.map V.ref) (fun b σ H' => ∃ (E : List Nat) (v4 : Option V), σ = [some (.ref a), some (.ref o), some (.int (0 + (i : Int))), some (.int (j : Int)), v4, none, none] ∧ Same H H' ∧ (H' rr = some (.lst (ps.map V.ref)) ∧ ∀ (b : Nat) (p : Addr) (c : Int × Nat), ps[b]? = some p → row[b]? = some c → H' p = some (cellV c)) ∧ H' o = some (.lst (natsV (O0 ++ E))) ∧ OrdI kk n M (O0 ++ E) ∧
            (Closed kk M O0 → E = []) ∧ (∀ j' x, j' < j → O0[j']? = some x → ∀ b, b < kk → nxt M x b ∈ O0 ++ E) ∧ ∀ b', b' < b → nxt M x b' ∈ O0 ++ E)
          ⟨E, _, rfl, s2, ⟨g3.lst, g3.cell⟩, ho2, I2, hcl, hall, fun b' h => absurd h (Nat.not_lt_zero _)⟩ (fun b σ H' _ h => by obtain ⟨E, v4, _, _, z, _⟩ := h; exact SqL.of z.1) ?_ ?_
        · rintro b y σ H3 hb ⟨E, v4, rfl, s3, ⟨c1, c2⟩, ho3, I3, hcl3, hall3, hrow⟩
          obtain ⟨p, hp, rfl⟩ : ∃ q, ps[b]? = some q ∧ y = V.ref q := by
            rw [List.getElem?_map] at hb
            cases e : ps[b]? with
            | none => rw [e] at hb; cases hb
            | some q => rw [e] at hb; exact ⟨q, rfl, (Option.some.inj hb).symm⟩
          have hbr : b < row.length := by rw [← g3.len]; exact (List.getElem?_eq_some_iff.mp hp).1
          have hbk : b < kk := by rw [← r2]; exact hbr
          have ec := List.getElem?_eq_getElem hbr
          generalize row[b] = c at ec
          obtain ⟨f1, f2⟩ := cell_of r1 ec
          have hcell := c2 b p c hp ec
          have hxm3 : x ∈ O0 ++ E := List.mem_append_left _ (List.mem_of_getElem? ex)
          refine ⟨_, rfl, _, _, _, _, rfl, rfl, SqT.of hcell, rfl, _, rfl, o, _, rfl, .inl (SqL.of ho3), rfl, flat_nats _, _, rfl, ?_⟩
          rw [inV_nats, ← f2]
          have hlen3 : (O0 ++ E).length ≤ n := lt_len I3.nd I3.lt
          by_cases hm : nxt M x b ∈ O0 ++ E
          · rw [decide_eq_true hm]
            refine iteF ⟨E, _, rfl, s3, ⟨c1, c2⟩, ho3, I3, hcl3, hall3, fun b' hb' => ?_⟩
            by_cases z : b' = b
            · subst z; exact hm
            · exact hrow b' (by omega)
          · rw [decide_eq_false hm]
            have noo : ∀ {q : Addr} {ho : HO}, H3 q = some ho → ho ≠ .lst (natsV (O0 ++ E)) → q ≠ o := fun h1 h2 z => by
              rw [z, ho3] at h1
              exact h2 (Option.some.inj h1).symm
            refine iteT ⟨_, rfl, .inl ⟨rfl, _, SqL.of ho3⟩, _, rfl, _, _, _, _, rfl, rfl, SqT.of hcell, rfl, o, _, _, rfl, rfl, ho3, ?_, E ++ [nxt M x b], _, rfl, s3.upd no, ⟨?_, fun b' p' c' e1 e2 => ?_⟩, ?_, ?_, fun hc => ?_, fun j' x' h1 h2 b' h3 => ?_, fun b' hb' => ?_⟩
            · unfold natsV
              rw [List.length_map]
              exact small1000 (by omega)
            · rw [upd_ne]
              · exact c1
              · refine noo c1 fun z => ?_
                injection z with z
                have : (natsV (O0 ++ E))[0]? = (ps.map V.ref)[0]? := by rw [z]
                have hp0 : 0 < ps.length := by rw [g3.len, r2]; exact hO.kpos
                have hq0 : 0 < (O0 ++ E).length := List.length_pos_of_mem I3.zero
                unfold natsV at this
                rw [List.getElem?_map, List.getElem?_map, List.getElem?_eq_getElem hp0, List.getElem?_eq_getElem hq0] at this
                cases this
            · rw [upd_ne (noo (c2 b' p' c' e1 e2) (fun z => by cases z))]
              exact c2 b' p' c' e1 e2
            · rw [upd_same, ← f2, natsV_snoc, List.append_assoc]
            · rw [← List.append_assoc]
              exact I3.add hO hxm3 hbk hm
            · have e := hcl3 hc
              subst e
              rw [List.append_nil] at hm
              exact (hm (hc x (List.mem_of_getElem? ex) b hbk)).elim
            · rw [← List.append_assoc]
              exact List.mem_append_left _ (hall3 j' x' h1 h2 b' h3)
            · rw [← List.append_assoc]
              by_cases z : b' = b
              · subst z; exact List.mem_append_right _ (List.mem_singleton_self _)
              · exact List.mem_append_left _ (hrow b' (by omega))
        · rintro σ H3 ⟨E, v4, rfl, s3, _, ho3, I3, hcl3, hall3, hrow⟩
          rw [hlp] at hrow
          refine ⟨E, _, _, rfl, s3, ho3, I3, hcl3, fun j' x' h1 h2 b' h3 => ?_⟩
          by_cases z : j' = j
          · subst z
            rw [ex] at h2
            cases h2
            exact hrow b' h3
          · exact hall3 j' x' (by omega) h2 b' h3
      · rintro σ H2 ⟨E, v3, v4, rfl, s2, ho2, I2, hcl, hall⟩
        refine ⟨O0 ++ E, _, _, _, rfl, s2, ho2, I2, ?_⟩
        by_cases hE : E = []
        · subst hE
          rw [List.append_nil] at hall ⊢
          refine .inl fun x hx b hb => ?_
          obtain ⟨j, hj, e⟩ := List.getElem_of_mem hx
          exact hall j x hj (by rw [List.getElem?_eq_getElem hj, e]) b hb
        · rcases hc0 with z | z
          · exact (hE (hcl z)).elim
          · have := List.length_pos_iff.mpr hE
            refine .inr ?_
            rw [List.length_append]
            omega
    · rintro σ H1 ⟨O, v2, v3, v4, rfl, s1, ho1, I1, hc1⟩
      have hOn : O.length ≤ n := lt_len I1.nd I1.lt
      have hcl : Closed kk M O := hc1.elim id fun z => by omega
      have hall : ∀ x, Reach kk M x → x ∈ O := fun x h => by
        induction h with
        | zero => exact I1.zero
        | step _ ha ih => exact hcl _ ih _ ha
      have hso : SqL K H1 o (natsV O) := SqL.of ho1
      refine ⟨(by show 0 ≤ sizeLine; decide), fun b nb => ?_⟩
      have nbo : o ≠ b := ne_of_none ho1 nb
      have nb0 : H b = none := s1.free nb
      refine ⟨_, rfl, o, rfl, ⟨_, (Same.fresh nb).seq hso⟩, for_list (K := K) (a := o) (xs := natsV O) (fun i σ H' => ∃ (Ds : List Nat) (v2 : Option V), σ = [some (.ref a), some (.ref o), v2, v3, v4, some (.ref b), none] ∧ Same H1 H' ∧ H' b = some (.lst (natsV Ds)) ∧ Ds.length ≤ i ∧ (∀ c ∈ Ds, c ∈ O) ∧
          Ds.Pairwise (fun x y => ¬ Alike kk M M x y) ∧ ∀ j x, j < i → O[j]? = some x → ∃ c ∈ Ds, Alike kk M M x c)
        ⟨[], _, rfl, Same.fresh nb, upd_same, Nat.le_refl _, (fun c hc => by cases hc), List.Pairwise.nil, fun j x h => absurd h (Nat.not_lt_zero _)⟩ (fun i σ H' _ h => by obtain ⟨Ds, v2, _, z, _⟩ := h; exact z.seq hso) ?_ ?_⟩
      · rintro i y σ H2 hi ⟨Ds, v2, rfl, s2, hb2, hlen, hsub, hpw, hcov⟩
        obtain ⟨x, hx, rfl⟩ := natsV_inv hi
        have hil : i < O.length := (List.getElem?_eq_some_iff.mp hx).1
        have hxO : x ∈ O := List.mem_of_getElem? hx
        have hxn := I1.lt x hxO
        have hsb : SqL K H2 b (natsV Ds) := SqL.of hb2
        -- those alike to it
        refine ⟨_, rfl, b, rfl, ⟨_, hsb⟩, fun q nq => ?_⟩
        have nbq : b ≠ q := ne_of_none hb2 nq
        refine lc_list (K := K) (a := b) (xs := natsV Ds) (fun j H' => Same H2 H' ∧ ∃ F : List Nat, H' q = some (.lst (natsV F)) ∧ F.length ≤ j ∧ ((F = [] ∧ ∀ j' c, j' < j → Ds[j']? = some c → ¬ Alike kk M M c x) ∨ (F ≠ [] ∧ ∃ c ∈ Ds, Alike kk M M c x)))
          ⟨Same.fresh nq, [], upd_same, Nat.le_refl _, .inl ⟨rfl, fun j' c h => absurd h (Nat.not_lt_zero _)⟩⟩ (fun j H' _ h => h.1.seq hsb) ?_ ?_
        · rintro j y H3 hj ⟨s3, F, hq3, hF, hcase⟩
          obtain ⟨c, hc, rfl⟩ := natsV_inv hj
          have hcD : c ∈ Ds := List.mem_of_getElem? hc
          have s03 : Same H H3 := s1.trans (s2.trans s3)
          have hjl : j < Ds.length := (List.getElem?_eq_some_iff.mp hc).1
          refine ⟨rfl, _, rfl, _, rfl, _, rfl, _, rfl, a, a, kk, n, n, M, M, c, x, rfl, hM.mono s03, hM.mono s03, hO, hO, hk, hn30, hn30, I1.lt c (hsub c hcD), hxn, fun hal H4 s4 => ⟨true, rfl, ?_⟩, fun hal H4 s4 => ⟨false, rfl, ?_⟩⟩
          · refine ⟨_, rfl, _, s4 _ _ hq3, ?_, (s3.trans s4).upd nq, F ++ [c], by rw [upd_same, natsV_snoc], by rw [List.length_append, List.length_singleton]; omega, .inr ⟨by simp, c, hcD, hal⟩⟩
            unfold natsV
            rw [List.length_map]
            exact small1000 (by omega)
          · refine ⟨s3.trans s4, F, s4 _ _ hq3, by omega, ?_⟩
            rcases hcase with ⟨e, h⟩ | ⟨e, h⟩
            · refine .inl ⟨e, fun j' c' h1 h2 => ?_⟩
              by_cases z : j' = j
              · subst z; rw [hc] at h2; cases h2; exact hal
              · exact h j' c' (by omega) h2
            · exact .inr ⟨e, h⟩
        · rintro H3 ⟨s3, F, hq3, hF, hcase⟩
          have hlD : (natsV Ds).length = Ds.length := List.length_map _
          rw [hlD] at hcase
          refine ⟨(by show 0 ≤ sizeLine; decide), fun e ne => ?_⟩
          have s4 : Same H3 (upd H3 e (.lst [])) := Same.fresh ne
          refine ⟨natsD F, .list [], natsD_dp (s4 _ _ hq3), .lst (SqL.of upd_same) .nil, ?_, by decide, ?_⟩
          · exact Bool.and_eq_true_iff.mpr ⟨natsD_canLay F, by rw [natsD_dep]; rfl⟩
          · have hbe := s4 _ _ (s3 _ _ hb2)
            have ed : PyData.eqv (natsD F) (.list []) = decide (F = []) := by
              cases F with
              | nil => rfl
              | cons z F => rw [decide_eq_false (by intro q; cases q)]; rfl
            rw [ed]
            refine ⟨_, rfl, ?_⟩
            rcases hcase with ⟨eF, hno⟩ | ⟨eF, c, hcD, hal⟩
            · rw [decide_eq_true eF]
              refine iteT ⟨_, rfl, .inl ⟨rfl, _, SqL.of hbe⟩, _, rfl, b, _, _, rfl, rfl, hbe, ?_, Ds ++ [x], _, rfl, (s2.trans (s3.trans s4)).upd nb, by rw [upd_same, natsV_snoc], by rw [List.length_append, List.length_singleton]; omega, fun c hc => ?_, ?_, fun j z h1 h2 => ?_⟩
              · unfold natsV
                rw [List.length_map]
                exact small1000 (by omega)
              · rcases List.mem_append.mp hc with hc | hc
                · exact hsub c hc
                · rw [List.mem_singleton] at hc; subst hc; exact hxO
              · rw [List.pairwise_append]
                refine ⟨hpw, List.pairwise_singleton _ _, fun c hc z hz => ?_⟩
                rw [List.mem_singleton] at hz
                subst hz
                obtain ⟨j, hj, e⟩ := List.getElem_of_mem hc
                exact hno j c hj (by rw [List.getElem?_eq_getElem hj, e])
              · by_cases w' : j = i
                · subst w'
                  rw [hx] at h2; cases h2
                  exact ⟨x, List.mem_append_right _ (List.mem_singleton_self _), .refl⟩
                · obtain ⟨c, hc, hal⟩ := hcov j z (by omega) h2
                  exact ⟨c, List.mem_append_left _ hc, hal⟩
            · rw [decide_eq_false eF]
              refine iteF ⟨Ds, _, rfl, s2.trans (s3.trans s4), hbe, by omega, hsub, hpw, fun j z h1 h2 => ?_⟩
              by_cases w' : j = i
              · subst w'
                rw [hx] at h2; cases h2
                exact ⟨c, hcD, hal.symm⟩
              · exact hcov j z (by omega) h2
      · rintro σ H2 ⟨Ds, v2, rfl, s2, hb2, hlen, hsub, hpw, hcov⟩
        have hlD : (natsV Ds).length = Ds.length := List.length_map _
        refine ⟨_, rfl, b, _, rfl, .inl (SqL.of hb2), ?_⟩
        rw [hlD]
        have hlO : (natsV O).length = O.length := List.length_map _
        refine k H2 Ds (s1.trans s2) hpw (fun c hc => I1.re c (hsub c hc)) fun x hx => ?_
        obtain ⟨j, hj, e⟩ := List.getElem_of_mem (hall x hx)
        exact hcov j x (by omega) (by rw [List.getElem?_eq_getElem hj, e])
end
end Pw

namespace Pw
open PySem PySem.Spec PyProof.Rows L2 SX
open C8 (Cal Met pe_c pe_mt pe_mt0 pe_gc sl_txt)
/-! ### the desk's words -/
def mC : List Nat := [109, 97, 99, 104, 105, 110, 101]
def leastC : List Nat := [108, 101, 97, 115, 116]
def showC : List Nat := [115, 104, 111, 119]
def sameC : List Nat := [115, 97, 109, 101]
theorem machine_S : Str.ofString "machine" = S mC := TL.ext_tl (by decide +kernel)
theorem least_S : Str.ofString "least" = S leastC := TL.ext_tl (by decide +kernel)
theorem show_S : Str.ofString "show" = S showC := TL.ext_tl (by decide +kernel)
theorem same_S : Str.ofString "same" = S sameC := TL.ext_tl (by decide +kernel)
theorem drop_S : Str.ofString "drop" = S [100, 114, 111, 112] := TL.ext_tl (by decide +kernel)
theorem letters_S : Str.ofString "abcdefghijklmnopqrstuvwxyz" = S ((List.range 26).map (· + 97)) := TL.ext_tl (by decide +kernel)
def strsV (ws : List (List Nat)) : List V := ws.map fun l => V.str (S l)
theorem strsV_at {ws : List (List Nat)} {i : Nat} {l : List Nat} (h : ws[i]? = some l) : atI (strsV ws) (i : Int) = some (.str (S l)) := at_of rfl (by unfold strsV; rw [List.getElem?_map, h]; rfl)
theorem strsV_eq (ws : List (List Nat)) : (ws.map S).map V.str = strsV ws := by unfold strsV; rw [List.map_map]; rfl
/-- what the top leaves of the desk -/
structure DTxt (K : PySem.W.Frag) (w : World) (mg : Str → Option Value) (C rows mk : Addr) : Prop extends Txt K mg where
  cl : Cls K C
  nM : NoAttr K C "machines"
  mgC : mg "Desk" = some (.ref C)
  c_ROWS : ∃ u, mg "ROWS" = some u ∧ RelV (.ref rows) u
  c_MAKES : ∃ u, mg "MAKES" = some u ∧ RelV (.ref mk) u
  kdx : ∃ es n, KDict K w rows es n
  r_machine : KDct K w rows (S mC) (.int 3)
  r_least : KDct K w rows (S leastC) (.int 3)
  r_show : KDct K w rows (S showC) (.int 2)
  r_same : KDct K w rows (S sameC) (.int 3)
  mkT : ∀ H, SqT K H mk [.str "machine", .str "least", .str "slip", .str "drop", .str "learn"]
def NameOk (l : List Nat) : Prop := 1 ≤ l.length ∧ l.length ≤ 8 ∧ ∀ c ∈ l, 97 ≤ c ∧ c ≤ 122
/-- the desk at d, its machines at dd -/
structure DeskAt (C : Addr) (H : Hp) (d dd : Addr) (kvs : List (Key × V)) : Prop where
  ob : ∃ dx, H d = some (.ins C dx [(("machines" : Str), .ref dd)])
  dc : H dd = some (.dK kvs)
  few : kvs.length ≤ 100
theorem look_machines (dd : Addr) : List.lookup ("machines" : Str) [(("machines" : Str), V.ref dd)] = some (.ref dd) := by simp [List.lookup]
theorem look_other {m : Str} (h : ¬ m = "machines") (dd : Addr) : List.lookup m [(("machines" : Str), V.ref dd)] = none := by
  have : (m == ("machines" : Str)) = false := by simpa using h
  simp [List.lookup, this]
section
variable {P : Program} {w : World} {K : PySem.W.Frag} {mg : Str → Option Value} {base : Heap} {C rows mk : Addr}
/-- a method of the desk as the top leaves it -/
def DefM (K : PySem.W.Frag) (C : Addr) (m qual : Str) (st : Stmt) : Prop := ∃ f fd, FunD K m qual (defArgs st) (defBody st) (defScope st) [] [] f fd ∧ Meth K C m f
theorem mkMet {m qual : Str} {st : Stmt} {N ps : List Str} {k : Nat} {sp : Sp} (cl : Cls K C) (D : DefM K C m qual st) (bd : ∀ {f fd}, FunD K m qual (defArgs st) (defBody st) (defScope st) [] [] f fd → Binds K fd ps []) (Sc : FnScope N ps (defScope st)) (len : ∀ vs H Q E, sp vs H Q E → vs.length = ps.length)
    (hbody : ∀ (f : Addr) (cdv : Value) (A : Around) (outer : List Env) (s : Shared) (H : Hp) (vs : List V) (Q : VK) (E : XK), Room k (A.deeper (envOfC qual (defScope st) s.heap.objs.size f cdv)) → sp vs H Q E →
      ∃ t, PSs (cxOf CX0 P w K mg base N qual (defScope st) f cdv A outer s H E).nox (defBody st) t ∧ t { nx := fun _ H' => Q .non H', rt := Q } (start N vs) H) : Met P w K mg base (k + 1) C m sp [] := by
  obtain ⟨f, fd, F, me⟩ := D
  refine ⟨f, fd, ps, [], cl, me, F.ok Sc len fun cdv A outer s H vs Q E hr h => ?_, bd F, .nil⟩
  obtain ⟨t, h1, h2⟩ := hbody f cdv A outer s H vs Q E hr h
  exact ⟨t, h1.nox, h2⟩
abbrev swords_of : Stmt := top 130
abbrev nwords_of : List Str := ["row", "words"]
theorem scwords_of : FnScope nwords_of ["row"] (defScope swords_of) := ⟨rfl, rfl, rfl, by decide +kernel, rfl, by decide +kernel, by decide +kernel⟩
theorem bwords_of {K : PySem.W.Frag} {f : Addr} {fd : FuncData} (F : FunD K "words_of" "words_of" (defArgs swords_of) (defBody swords_of) (defScope swords_of) [] [] f fd) : Binds K fd ["row"] [] := F.bindsN fun _ _ _ _ _ _ us hl => match us, hl with | [_], _ => rfl
/-- the words of a row: us its parts; a machine's text is one word -/
def spWords (K : PySem.W.Frag) (w : World) (rows : Addr) : Sp := fun vs H Q _ => ∃ (row : List Nat) (us ws : List (List Nat)) (w0 : List Nat), vs = [.str (S row)] ∧ row.length ≤ 20000 ∧ TL.spl [32] 0 [] row = us ∧ us[0]? = some w0 ∧
  ((w0 = mC ∧ 3 ≤ us.length ∧ ws = us.take 2 ++ [TL.joinL [32] (us.drop 2)]) ∨ (w0 ≠ mC ∧ ws = us)) ∧ KDct K w rows (S w0) (.int (ws.length : Nat)) ∧
  ∀ (H' : Hp) (p : Addr), Same H H' → nw H H' p = some (.lst (strsV ws)) → Q (.ref p) H'
theorem spl_len : ∀ (l acc : List Nat), (TL.spl [32] 0 acc l).length ≤ l.length + 1
  | [], acc => by rw [TL.spl_nil]; exact Nat.le_refl _
  | x :: l, acc => by
    by_cases e : x = 32
    · subst e
      rw [TL.spl_hit (by unfold TL.pre; simp)]
      have := spl_len l []
      show (TL.spl [32] 0 [] l).length + 1 ≤ l.length + 1 + 1
      omega
    · rw [TL.spl_miss (by unfold TL.pre; simpa using e)]
      have := spl_len l (acc ++ [x])
      show _ ≤ l.length + 1 + 1
      omega
theorem spl_sum : ∀ (l acc : List Nat), ((TL.spl [32] 0 acc l).map (·.length)).sum ≤ acc.length + l.length
  | [], acc => by rw [TL.spl_nil]; simp
  | x :: l, acc => by
    by_cases e : x = 32
    · subst e
      rw [TL.spl_hit (by unfold TL.pre; simp)]
      have := spl_sum l []
      show acc.length + ((TL.spl [32] 0 [] l).map (·.length)).sum ≤ acc.length + (l.length + 1)
      simp only [List.length_nil] at this
      omega
    · rw [TL.spl_miss (by unfold TL.pre; simpa using e)]
      have := spl_sum l (acc ++ [x])
      rw [List.length_append, List.length_singleton] at this
      show _ ≤ acc.length + (l.length + 1)
      omega
theorem drop_sum (n : Nat) : ∀ l : List Nat, (l.drop n).sum ≤ l.sum := by
  induction n with
  | zero => intro l; simp
  | succ n ih =>
    intro l
    cases l with
    | nil => simp
    | cons x l =>
      have := ih l
      rw [List.drop_succ_cons, List.sum_cons]
      omega
theorem c_words_of (D : DefAt K mg "words_of" swords_of) (T : DTxt K w mg C rows mk) : Cal P w K mg base 1 "words_of" (spWords K w rows) [] := by
  refine mkCal D bwords_of scwords_of (fun vs H Q E h => ?_) fun f cdv A outer s H vs Q E hr h => ?_
  · obtain ⟨row, us, ws, w0, rfl, _⟩ := h; rfl
  · obtain ⟨row, us, ws, w0, rfl, hrl, hus, hw0, hcase, hk, k⟩ := h
    obtain ⟨es, nn, kd⟩ := T.kdx
    have nd := scwords_of.nd
    refine ⟨_, pss_cons (ps_if (pt_not (pt_val (pe_callB (id := "isinstance") call_isi rfl T.n_isinstance (by decide +kernel) (pa_cons (pv 0) (pa_cons (pe_bltn (v := .ty "str") rfl T.n_str (by decide +kernel) rfl) pa_nil)))))
      (pss_one (ps_never))
      (pss_nil))
      (pss_cons (ps_set (i := 1) nd rfl (Or.inl rfl) (pe_split (pv 0) pe_str))
      (pss_cons (ps_if (PW.pt (pw_and (pt_cmpR op_eq (pe_ix ix_list (pv 1) pe_int (fun _ _ => rfl)) pe_str (nomark _)) (pw_and1 (pt_cmpR op_gt (pe_callB (id := "len") call_len_seq rfl T.n_len (by decide +kernel) (pa_cons (pv 1) pa_nil)) pe_int (nomark _)))))
      (pss_one (ps_set (i := 1) nd rfl (Or.inl rfl) (pe_op op_cat (pe_slice sl_list (pv 1) po_none (po_some pe_int)) (pe_lst (pa_cons (pe_join pe_str (pe_slice sl_list (pv 1) (po_some pe_int) po_none)) pa_nil)))))
      (pss_nil))
      (pss_cons (ps_if (PW.pt (pw_or (pt_cmpR (op_notIn_kd kd) (pe_ix ix_list (pv 1) pe_int (fun _ _ => rfl)) (pe_gc rfl T.c_ROWS) (by rfl)) (pw_or1 (pt_cmpR op_ne (pe_callB (id := "len") call_len_seq rfl T.n_len (by decide +kernel) (pa_cons (pv 1) pa_nil)) (pe_ix ix_kdict (pe_gc rfl T.c_ROWS) (pe_ix ix_list (pv 1) pe_int (fun _ _ => rfl)) (fun _ _ => rfl)) (nomark _)))))
      (pss_one (ps_never))
      (pss_nil))
      (pss_one (ps_ret (pv 1)))))), ?_⟩
    have hsz : sizeLine = 16777216 := sizeLine_eq
    have hul := spl_len row []
    have hsum := spl_sum row []
    rw [hus] at hul hsum
    refine ⟨_, rfl, _, _, _, _, true, rfl, .ty "str", .base (.str _), kit_ty (by decide +kernel), true, rfl, ?_⟩
    refine iteF ⟨_, rfl, ⟨_, rfl⟩, _, _, rfl, rfl, (by decide +kernel), (by rw [S_len]; omega), fun p np => ?_⟩
    rw [blank_S, split_S (by simp) (by decide), hus, strsV_eq]
    have hpos : 0 < us.length := (List.getElem?_eq_some_iff.mp hw0).1
    -- behind the words
    have rest : ∀ (H1 : Hp) (q : Addr), Same H H1 → nw H H1 q = some (.lst (strsV ws)) → ∀ (v : Option V), v = some (.ref q) →
        (tIfS (tOr (tTest (tOp (fun x y H Q => ∃ (z : Str) (r : Option Value), x = .str z ∧ y = .ref rows ∧ PySem.W.nsIn K rows z = some r ∧ Q (.bl (!r.isSome)) H) (tOp (rIxL K) (tVar 1) (tC (.int 0))) (tC (.ref rows))))
          (tTest (tOp rNe (tCB (fun xs H Q => ∃ p ys, xs = [.ref p] ∧ (SqL K H p ys ∨ SqT K H p ys) ∧ Q (.int ys.length) H) (tCons (tVar 1) tNil)) (tOp (rIxD K w) (tC (.ref rows)) (tOp (rIxL K) (tVar 1) (tC (.int 0))))))) tNever tNext)
          { nx := tRet (tVar 1) { nx := fun _ H' => Q .non H', rt := Q }, rt := Q } [some (.str (S row)), v] H1 := fun H1 q s1 hq v ev => by
      subst ev
      have hq1 := (nw_some hq).2
      have hs : SqL K H1 q (strsV ws) := SqL.of hq1
      have hws0 : ws[0]? = some w0 := by
        rcases hcase with ⟨_, h3, rfl⟩ | ⟨_, rfl⟩
        · rw [List.getElem?_append_left (by rw [List.length_take]; omega), List.getElem?_take_of_lt (by omega)]
          exact hw0
        · exact hw0
      have ha := strsV_at hws0
      obtain ⟨es', n', u, k1, k2, k3, k4⟩ := id hk
      have hwl : (strsV ws).length = ws.length := List.length_map _
      refine ⟨_, rfl, _, _, _, _, rfl, rfl, hs, ha, _, _, rfl, rfl, k3, _, rfl, ?_⟩
      refine iteF ⟨_, rfl, q, _, rfl, .inl hs, _, rfl, _, _, _, _, rfl, rfl, hs, ha, _, _, _, rfl, rfl, hk, rfl, _, rfl, ?_⟩
      rw [hwl, decide_eq_true rfl]
      exact iteF ⟨_, rfl, k H1 q s1 hq⟩
    have hp1 : (upd H p (.lst (strsV us))) p = some (.lst (strsV us)) := upd_same
    have hs1 : SqL K (upd H p (.lst (strsV us))) p (strsV us) := SqL.of hp1
    have hlu : (strsV us).length = us.length := List.length_map _
    have sp1 : Same H (upd H p (.lst (strsV us))) := Same.fresh np
    refine ⟨_, rfl, _, _, _, _, rfl, rfl, hs1, strsV_at hw0, ?_⟩
    rw [machine_S]
    refine ⟨rfl, _, rfl, ?_⟩
    rw [dec_S]
    rcases hcase with ⟨e0, h3, rfl⟩ | ⟨e0, rfl⟩
    · rw [decide_eq_true e0]
      refine iteT ⟨_, rfl, p, _, rfl, .inl hs1, _, _, rfl, rfl, _, rfl, ?_⟩
      rw [hlu]
      by_cases h4 : 3 < us.length
      · rw [decide_eq_true (show (3 : Int) < (us.length : Int) by omega)]
        refine iteT ?_
        have e2 : cutV (strsV us) none (some ((2 : Nat) : Int)) = strsV (us.take 2) := by
          unfold cutV
          rw [HT.sIx_none, HT.sIx_nat, hlu, List.drop_zero, show min 2 us.length - 0 = 2 by omega]
          unfold strsV
          rw [List.map_take]
        have e3 : cutV (strsV us) (some ((2 : Nat) : Int)) none = strsV (us.drop 2) := by
          unfold cutV
          rw [HT.sIx_none, HT.sIx_nat, hlu, show min 2 us.length = 2 by omega]
          unfold strsV
          rw [← List.map_drop, List.take_of_length_le (by rw [List.length_map, List.length_drop]; exact Nat.le_refl _)]
        refine ⟨_, rfl, _, rfl, p, _, rfl, hs1, fun q nq => ?_⟩
        rw [show (some (2 : Int)) = some ((2 : Nat) : Int) from rfl, e2]
        have npq : p ≠ q := ne_of_none hp1 nq
        have hp2 : (upd (upd H p (.lst (strsV us))) q (.lst (strsV (us.take 2)))) p = some (.lst (strsV us)) := by rw [upd_ne npq]; exact hp1
        refine ⟨⟨_, rfl⟩, _, rfl, _, rfl, p, _, rfl, SqL.of hp2, fun r nr => ?_⟩
        rw [show (some (2 : Int)) = some ((2 : Nat) : Int) from rfl, e3]
        refine ⟨_, r, (us.drop 2).map S, rfl, rfl, .inl (SqL.of (by rw [strsV_eq]; exact upd_same)), ?_, ?_⟩
        · rw [lens, List.length_map, List.length_drop, S_len]
          have := drop_sum 2 (us.map (·.length))
          rw [← List.map_drop] at this
          simp only [List.length_nil] at hsum
          show _ + (us.length - 2) * 1 ≤ 16777216
          omega
        · rw [join_S]
          have nqr : q ≠ r := ne_of_none (o := .lst (strsV (us.take 2))) upd_same nr
          refine ⟨(by show 1 ≤ sizeLine; decide), fun t nt => ?_⟩
          have nqt : q ≠ t := ne_of_none (o := .lst (strsV (us.take 2))) (by rw [upd_ne nqr, upd_same]) nt
          refine ⟨q, t, _, _, rfl, rfl, by rw [upd_ne nqt, upd_ne nqr, upd_same], upd_same, ?_, fun z nz => ?_⟩
          · unfold strsV
            rw [List.length_map, List.length_take]
            show min 2 us.length + 1 ≤ sizeLine
            omega
          · have sA : Same H (upd (upd (upd (upd H p (.lst (strsV us))) q (.lst (strsV (us.take 2)))) r (.lst (strsV (us.drop 2)))) t (.lst [V.str (S (TL.joinL [32] (us.drop 2)))])) := ((sp1.trans (Same.fresh nq)).trans (Same.fresh nr)).trans (Same.fresh nt)
            refine rest _ z (sA.trans (Same.fresh nz)) ?_ _ rfl
            rw [nw_at (sA.free nz), upd_same]
            unfold strsV
            rw [List.map_append]
            rfl
      · rw [decide_eq_false (show ¬ (3 : Int) < (us.length : Int) by omega)]
        refine iteF ?_
        have e4 : us.take 2 ++ [TL.joinL [32] (us.drop 2)] = us := by
          have h5 : us.length = 3 := by omega
          match us, h5 with
          | [a, b, c], _ => rfl
        refine rest _ p sp1 ?_ _ rfl
        rw [nw_at np, upd_same, e4]
    · rw [decide_eq_false e0]
      refine iteF (iteF ?_)
      exact rest _ p sp1 (by rw [nw_at np, upd_same]) _ rfl
abbrev sname_of : Stmt := top 131
abbrev nname_of : List Str := ["word", "sign"]
theorem scname_of : FnScope nname_of ["word"] (defScope sname_of) := ⟨rfl, rfl, rfl, by decide +kernel, rfl, by decide +kernel, by decide +kernel⟩
theorem bname_of {K : PySem.W.Frag} {f : Addr} {fd : FuncData} (F : FunD K "name_of" "name_of" (defArgs sname_of) (defBody sname_of) (defScope sname_of) [] [] f fd) : Binds K fd ["word"] [] := F.bindsN fun _ _ _ _ _ _ us hl => match us, hl with | [_], _ => rfl
def spName : Sp := fun vs H Q _ => ∃ l : List Nat, vs = [.str (S l)] ∧ NameOk l ∧ Q (.str (S l)) H
theorem c_name_of (D : DefAt K mg "name_of" sname_of) (T : DTxt K w mg C rows mk) : Cal P w K mg base 1 "name_of" spName [] := by
  refine mkCal D bname_of scname_of (fun vs H Q E h => ?_) fun f cdv A outer s H vs Q E hr h => ?_
  · obtain ⟨l, rfl, _⟩ := h; rfl
  · obtain ⟨l, rfl, ⟨h1, h8, hall⟩, k⟩ := h
    have nd := scname_of.nd
    refine ⟨_, pss_cons (ps_if (pt_not (pt_chain op_le op_le pe_int (pe_callB (id := "len") call_len_str rfl T.n_len (by decide +kernel) (pa_cons (pv 0) pa_nil)) pe_int))
      (pss_one (ps_never))
      (pss_nil))
      (pss_cons (ps_for PassesOwn.never rfl (pi_str (pv 0)) (pg_name (i := 1) nd rfl (Or.inl rfl))
      (pss_one (ps_if (pt_cmpR op_notIn_sign (pv 1) (pe_gc rfl T.c_LETTERS) (by rfl))
        (pss_one (ps_never))
        (pss_nil))))
      (pss_one (ps_ret (pv 0)))), ?_⟩
    have hsz : sizeLine = 16777216 := sizeLine_eq
    refine ⟨_, rfl, _, rfl, (by rw [S_len]; omega), _, _, rfl, rfl, _, rfl, ?_⟩
    rw [S_len, decide_eq_true (show (1 : Int) ≤ (l.length : Int) by omega)]
    refine iteT ⟨_, _, rfl, rfl, _, rfl, ?_⟩
    rw [decide_eq_true (show (l.length : Int) ≤ 8 by omega)]
    refine iteF ⟨_, rfl, _, rfl, for_str (fun j σ H' => (∃ v1, σ = [some (.str (S l)), v1]) ∧ H' = H) ⟨⟨none, rfl⟩, rfl⟩ ?_ ?_⟩
    · rintro j c σ H' hc ⟨⟨v1, rfl⟩, rfl⟩
      have hcm : c ∈ l := by
        have h1 : l.toArray[j]? = some c := hc
        rw [List.getElem?_toArray] at h1
        exact List.mem_of_getElem? h1
      have hm : c ∈ (S ((List.range 26).map (· + 97))).cps.toList := by
        show c ∈ (List.range 26).map (· + 97)
        have := hall c hcm
        exact List.mem_map.mpr ⟨c - 97, List.mem_range.mpr (by omega), by omega⟩
      refine ⟨_, rfl, c, _, rfl, rfl, _, rfl, ?_⟩
      rw [letters_S, decide_eq_true hm]
      exact iteF ⟨⟨_, rfl⟩, rfl⟩
    · rintro σ H' ⟨⟨v1, rfl⟩, rfl⟩
      exact ⟨_, rfl, k⟩
/-! ### the desk -/
abbrev sDesk_init : Stmt := inClass (top 137) 0
abbrev nDesk_init : List Str := ["self"]
theorem scDesk_init : FnScope nDesk_init ["self"] (defScope sDesk_init) := ⟨rfl, rfl, rfl, by decide +kernel, rfl, by decide +kernel, by decide +kernel⟩
theorem bDesk_init {K : PySem.W.Frag} {f : Addr} {fd : FuncData} (F : FunD K "__init__" "Desk.__init__" (defArgs sDesk_init) (defBody sDesk_init) (defScope sDesk_init) [] [] f fd) : Binds K fd ["self"] [] := F.bindsN fun _ _ _ _ _ _ us hl => match us, hl with | [_], _ => rfl
def spInit (C : Addr) : Sp := fun vs H Q _ => ∃ (d dx : Addr), vs = [.ref d] ∧ H d = some (.ins C dx []) ∧ ∀ (dd : Addr) (H' : Hp), H dd = none → DeskAt C H' d dd [] → (∀ b o, H b = some o → b ≠ d → H' b = some o) → Q .non H'
abbrev sDesk_machine_of : Stmt := inClass (top 137) 1
abbrev nDesk_machine_of : List Str := ["self", "word"]
theorem scDesk_machine_of : FnScope nDesk_machine_of ["self", "word"] (defScope sDesk_machine_of) := ⟨rfl, rfl, rfl, by decide +kernel, rfl, by decide +kernel, by decide +kernel⟩
theorem bDesk_machine_of {K : PySem.W.Frag} {f : Addr} {fd : FuncData} (F : FunD K "machine_of" "Desk.machine_of" (defArgs sDesk_machine_of) (defBody sDesk_machine_of) (defScope sDesk_machine_of) [] [] f fd) : Binds K fd ["self", "word"] [] := F.bindsN fun _ _ _ _ _ _ us hl => match us, hl with | [_, _], _ => rfl
def spMachineOf (C : Addr) : Sp := fun vs H Q _ => ∃ (d dd : Addr) (kvs : List (Key × V)) (x : List Nat) (v : V), vs = [.ref d, .str (S x)] ∧ DeskAt C H d dd kvs ∧ NameOk x ∧ valV kvs (Sum.inr (S x)) = some v ∧ Q v H
theorem m_machine_of (D : DefM K C "machine_of" "Desk.machine_of" sDesk_machine_of) (T : DTxt K w mg C rows mk) (C_name_of : Cal P w K mg base 1 "name_of" spName []) : Met P w K mg base 2 C "machine_of" (spMachineOf C) [] := by
  refine mkMet T.cl D bDesk_machine_of scDesk_machine_of (fun vs H Q E h => ?_) fun f cdv A outer s H vs Q E hr h => ?_
  · obtain ⟨d, dd, kvs, x, v, rfl, _⟩ := h; rfl
  · obtain ⟨d, dd, kvs, x, v, rfl, ⟨⟨dx, hd⟩, hdd, hfew⟩, hx, hv, k⟩ := h
    have hu := hu_of hr
    have nd := scDesk_machine_of.nd
    refine ⟨_, pss_cons (ps_if (pt_cmp (pc_dnotin hu (pe_c C_name_of hr (by decide) rfl (pa_cons (pv 1) pa_nil)) (pe_fld (pv 0) rfl)))
      (pss_one (ps_never))
      (pss_nil))
      (pss_one (ps_ret (pe_dget hu (pe_fld (pv 0) rfl) (pv 1) (fun _ _ => rfl)))), ?_⟩
    have dg : DGet H dd (.str (S x)) (some v) := by rw [← hv]; exact DGet.k (k := Sum.inr (S x)) hdd
    refine ⟨_, rfl, x, rfl, hx, _, rfl, d, C, dx, _, _, rfl, hd, T.cl, T.nM, look_machines dd, dd, _, rfl, dg, _, rfl, ?_⟩
    refine iteF ⟨_, rfl, d, C, dx, _, _, rfl, hd, T.cl, T.nM, look_machines dd, _, rfl, dd, _, rfl, dg, k⟩
abbrev sDesk_make : Stmt := inClass (top 137) 6
abbrev nDesk_make : List Str := ["self", "words", "new", "made", "machine", "outcome"]
theorem scDesk_make : FnScope nDesk_make ["self", "words"] (defScope sDesk_make) := ⟨rfl, rfl, rfl, by decide +kernel, rfl, by decide +kernel, by decide +kernel⟩
theorem bDesk_make {K : PySem.W.Frag} {f : Addr} {fd : FuncData} (F : FunD K "make" "Desk.make" (defArgs sDesk_make) (defBody sDesk_make) (defScope sDesk_make) [] [] f fd) : Binds K fd ["self", "words"] [] := F.bindsN fun _ _ _ _ _ _ us hl => match us, hl with | [_, _], _ => rfl
def spMake (C : Addr) : Sp := fun vs H Q _ => ∃ (d dd : Addr) (kvs : List (Key × V)) (p : Addr) (w0 y z : List Nat), vs = [.ref d, .ref p] ∧ DeskAt C H d dd kvs ∧ H p = some (.lst (strsV [w0, y, z])) ∧ NameOk y ∧
  ((∃ (k n : Nat) (M : Mach), w0 = mC ∧ z = machL M ∧ Fit k n M ∧ ∀ (H' : Hp) (a : Addr), (∀ b o, H b = some o → b ≠ dd → H' b = some o) → H' dd = some (.dK (putK kvs (Sum.inr (S y)) (.ref a))) → MachAt (nw H H') a M → Q (.str "ok") H') ∨
   (∃ (k n : Nat) (M : Mach) (m : Addr), w0 = leastC ∧ NameOk z ∧ valV kvs (Sum.inr (S z)) = some (.ref m) ∧ MachAt H m M ∧ Ok k n M ∧ k ≤ 5 ∧ n ≤ 30 ∧
     ∀ (H' : Hp) (a : Addr) (L : Mach), (∀ b o, H b = some o → b ≠ dd → H' b = some o) → H' dd = some (.dK (putK kvs (Sum.inr (S y)) (.ref a))) → MachAt (nw H H') a L → Least k M L → Q (.str "ok") H'))
theorem m_make (D : DefM K C "make" "Desk.make" sDesk_make) (T : DTxt K w mg C rows mk) (C_name_of : Cal P w K mg base 1 "name_of" spName []) (C_read : Cal P w K mg base 7 "read" spRead []) (C_least : Cal P w K mg base 6 "least" spLeast [])
    (M_machine_of : Met P w K mg base 2 C "machine_of" (spMachineOf C) []) : Met P w K mg base 8 C "make" (spMake C) [] := by
  refine mkMet T.cl D bDesk_make scDesk_make (fun vs H Q E h => ?_) fun f cdv A outer s H vs Q E hr h => ?_
  · obtain ⟨d, dd, kvs, p, w0, y, z, rfl, _⟩ := h; rfl
  · obtain ⟨d, dd, kvs, p, w0, y, z, rfl, hD, hp, hy, hcase⟩ := h
    have hu := hu_of hr
    have nd := scDesk_make.nd
    refine ⟨_, pss_cons (ps_if (pt_cmpR op_eq (pe_ix ix_list (pv 1) pe_int (fun _ _ => rfl)) pe_str (nomark _))
      (pss_cons (ps_never)
        (pss_cons (ps_never)
        (pss_one (ps_ret pe_str))))
      (pss_nil))
      (pss_cons (ps_set (i := 2) nd rfl (Or.inl rfl) (pe_c C_name_of hr (by decide) rfl (pa_cons (pe_ix ix_list (pv 1) pe_int (fun _ _ => rfl)) pa_nil)))
      (pss_cons (ps_if (pt_cmpR op_eq (pe_ix ix_list (pv 1) pe_int (fun _ _ => rfl)) pe_str (nomark _))
      (pss_one (ps_set (i := 3) nd rfl (Or.inl rfl) (pe_c C_read hr (by decide) rfl (pa_cons (pe_ix ix_list (pv 1) pe_int (fun _ _ => rfl)) pa_nil))))
      (pss_one (ps_if (pt_cmpR op_eq (pe_ix ix_list (pv 1) pe_int (fun _ _ => rfl)) pe_str (nomark _))
        (pss_one (ps_set (i := 3) nd rfl (Or.inl rfl) (pe_c C_least hr (by decide) rfl (pa_cons (pe_mt M_machine_of hr (by decide) (pv 0) (pa_cons (pe_ix ix_list (pv 1) pe_int (fun _ _ => rfl)) pa_nil)) pa_nil))))
        (pss_one (ps_if (pt_cmpR op_eq (pe_ix ix_list (pv 1) pe_int (fun _ _ => rfl)) pe_str (nomark _))
          (pss_cons (ps_never)
            (pss_one (ps_never)))
          (pss_cons (ps_never)
            (pss_cons (ps_never)
            (pss_one (ps_never)))))))))
      (pss_cons (ps_dput hu (pe_fld (pv 0) rfl) (pv 2) (pv 3) rfl)
      (pss_one (ps_ret pe_str))))), ?_⟩
    obtain ⟨⟨dx, hd⟩, hdd, hfew⟩ := id hD
    have hs : SqL K H p (strsV [w0, y, z]) := SqL.of hp
    have h100 : kvs.length < sizeLine := small1000 (by omega)
    -- the machine is put down
    have put : ∀ (H1 : Hp) (a : Addr), Same H H1 → DeskAt C H1 d dd kvs → (∃ M, MachAt (nw H H1) a M) → (∀ H' : Hp, (∀ b o, H b = some o → b ≠ dd → H' b = some o) → H' dd = some (.dK (putK kvs (Sum.inr (S y)) (.ref a))) → (∀ M, MachAt (nw H H1) a M → MachAt (nw H H') a M) → Q (.str "ok") H') →
        ∀ v, v = some (.ref a) → ∀ v4 v5 : Option V, tSeq (sDPut (tFld K (tVar 0) "machines") (tVar 2) (tVar 3)) (tRet (tC (.str "ok"))) { nx := fun _ H' => Q .non H', rt := Q } [some (.ref d), some (.ref p), some (.str (S y)), v, v4, v5] H1 := fun H1 a s1 hD1 _ kk v ev v4 v5 => by
      subst ev
      obtain ⟨⟨dx1, hd1⟩, hdd1, _⟩ := hD1
      refine ⟨_, rfl, _, rfl, d, C, dx1, _, _, rfl, hd1, T.cl, T.nM, look_machines dd, _, rfl, dd, _, rfl, DPut.k (k := Sum.inr (S y)) hdd1 h100, ?_⟩
      refine kk _ (fun b o e ne => by rw [upd_ne ne]; exact s1 b o e) upd_same fun M hM => hM.mono fun b o e => ?_
      obtain ⟨e1, e2⟩ := nw_some e
      have nbd : b ≠ dd := (ne_of_none hdd e1).symm
      rw [nw_at e1, upd_ne nbd]
      exact e2
    have ha0 := strsV_at (ws := [w0, y, z]) (i := 0) rfl
    have ha1 := strsV_at (ws := [w0, y, z]) (i := 1) rfl
    have ha2 := strsV_at (ws := [w0, y, z]) (i := 2) rfl
    refine ⟨_, rfl, _, _, _, _, rfl, rfl, hs, ha0, ?_⟩
    rw [drop_S]
    refine ⟨rfl, _, rfl, ?_⟩
    rw [dec_S, decide_eq_false (show ¬ w0 = [100, 114, 111, 112] from by
      rcases hcase with ⟨_, _, _, e, _⟩ | ⟨_, _, _, _, e, _⟩ <;> rw [e] <;> decide)]
    refine iteF ⟨_, rfl, _, _, _, _, rfl, rfl, hs, ha1, y, rfl, hy, ?_⟩
    refine ⟨_, rfl, _, _, _, _, rfl, rfl, hs, ha0, ?_⟩
    rw [machine_S]
    refine ⟨rfl, _, rfl, ?_⟩
    rw [dec_S]
    rcases hcase with ⟨kk, n, M, e0, ez, hF, k⟩ | ⟨kk, n, M, m, e0, hz, hv, hM, hO, hk, hn, k⟩
    · rw [decide_eq_true e0]
      refine iteT ⟨_, rfl, _, _, _, _, rfl, rfl, hs, ha2, kk, n, M, by rw [ez]; rfl, hF, fun H1 b s1 hb => ?_⟩
      exact put H1 b s1 ⟨⟨dx, s1 _ _ hd⟩, s1 _ _ hdd, hfew⟩ ⟨M, hb⟩ (fun H' h1 h2 h3 => k H' b h1 h2 (h3 M hb)) _ rfl _ _
    · rw [decide_eq_false (show ¬ w0 = mC from by rw [e0]; decide)]
      refine iteF ⟨_, rfl, _, _, _, _, rfl, rfl, hs, ha0, ?_⟩
      rw [least_S]
      refine ⟨rfl, _, rfl, ?_⟩
      rw [dec_S, decide_eq_true e0]
      refine iteT ⟨_, rfl, d, dx, _, rfl, hd, look_other (by decide +kernel) dd, _, rfl, _, _, _, _, rfl, rfl, hs, ha2, d, dd, kvs, z, .ref m, rfl, hD, hz, hv, m, kk, n, M, rfl, hM, hO, hk, hn, fun H1 b L s1 hb hL => ?_⟩
      exact put H1 b s1 ⟨⟨dx, s1 _ _ hd⟩, s1 _ _ hdd, hfew⟩ ⟨L, hb⟩ (fun H' h1 h2 h3 => k H' b L h1 h2 (h3 L hb) hL) _ rfl _ _
end
end Pw

namespace Pw
open PySem PySem.Spec PyProof.Rows L2 SX
open C8 (Cal Met Mak pe_c pe_mt pe_mt0 pe_gc sl_txt)
section
variable {P : Program} {w : World} {K : PySem.W.Frag} {mg : Str → Option Value} {base : Heap} {C rows mk : Addr}
/-- the class can be made, its __init__ is the text's -/
def DefI (K : PySem.W.Frag) (C : Addr) : Prop := ∃ f fd, FunD K "__init__" "Desk.__init__" (defArgs sDesk_init) (defBody sDesk_init) (defScope sDesk_init) [] [] f fd ∧ Mk K C f
theorem m_init (D : DefI K C) (T : DTxt K w mg C rows mk) : Mak P w K mg base 1 "Desk" C (spInit C) [] := by
  obtain ⟨f, fd, F, M⟩ := D
  refine ⟨f, fd, ["self"], [], M, F.ok scDesk_init (fun vs H Q E h => ?_) fun cdv A outer s H vs Q E hr h => ?_, T.mgC, bDesk_init F, .nil⟩
  · obtain ⟨d, dx, rfl, _⟩ := h; rfl
  · suffices hh : ∃ t, PSs (cxOf CX0 P w K mg base nDesk_init "Desk.__init__" (defScope sDesk_init) f cdv A outer s H E).nox (defBody sDesk_init) t ∧ t { nx := fun _ H' => Q .non H', rt := Q } (start nDesk_init vs) H by
      obtain ⟨t, h1, h2⟩ := hh
      exact ⟨t, h1.nox, h2⟩
    obtain ⟨d, dx, rfl, hd, k⟩ := h
    have nd := scDesk_init.nd
    refine ⟨_, pss_one (ps_fld (pv 0) pe_dnewK rfl), ?_⟩
    intro dd hdd
    have npd : d ≠ dd := ne_of_none hd hdd
    refine ⟨_, rfl, d, C, dx, [], rfl, (by rw [upd_ne npd]; exact hd), T.cl, T.nM, (by show 0 < 1000; decide), ?_⟩
    refine k dd _ hdd ⟨⟨dx, upd_same⟩, by rw [upd_ne npd.symm, upd_same], Nat.zero_le _⟩ fun b o e hb => ?_
    rw [upd_ne hb, upd_ne (ne_of_none e hdd)]
    exact e
abbrev sDesk_say_of_books : Stmt := inClass (top 137) 5
abbrev nDesk_say_of_books : List Str := ["self", "words", "machine", "other", "kind", "found", "most"]
theorem scDesk_say_of_books : FnScope nDesk_say_of_books ["self", "words"] (defScope sDesk_say_of_books) := ⟨rfl, rfl, rfl, by decide +kernel, rfl, by decide +kernel, by decide +kernel⟩
theorem bDesk_say_of_books {K : PySem.W.Frag} {f : Addr} {fd : FuncData} (F : FunD K "say_of_books" "Desk.say_of_books" (defArgs sDesk_say_of_books) (defBody sDesk_say_of_books) (defScope sDesk_say_of_books) [] [] f fd) : Binds K fd ["self", "words"] [] := F.bindsN fun _ _ _ _ _ _ us hl => match us, hl with | [_, _], _ => rfl
def spBooks (C : Addr) : Sp := fun vs H Q _ => ∃ (d dd p a b : Addr) (kvs : List (Key × V)) (x y : List Nat) (k n n' : Nat) (M N : Mach), vs = [.ref d, .ref p] ∧ DeskAt C H d dd kvs ∧ H p = some (.lst (strsV [sameC, x, y])) ∧ NameOk x ∧ NameOk y ∧
  valV kvs (Sum.inr (S x)) = some (.ref a) ∧ valV kvs (Sum.inr (S y)) = some (.ref b) ∧ MachAt H a M ∧ MachAt H b N ∧ Ok k n M ∧ Ok k n' N ∧ k ≤ 5 ∧ n ≤ 30 ∧ n' ≤ 30 ∧
  (Alike k M N 0 0 → ∀ H', Same H H' → Q (.str "alike") H') ∧ (¬ Alike k M N 0 0 → ∀ (H' : Hp) (z : Str), Same H H' → z ≠ Str.ofString "alike" → Q (.str z) H')
theorem m_books (D : DefM K C "say_of_books" "Desk.say_of_books" sDesk_say_of_books) (T : DTxt K w mg C rows mk) (M_machine_of : Met P w K mg base 2 C "machine_of" (spMachineOf C) []) (C_compare : Cal P w K mg base 2 "compare" spCompare []) (C_show_row : Cal P w K mg base 1 "show_row" spShowRow []) :
    Met P w K mg base 3 C "say_of_books" (spBooks C) [] := by
  refine mkMet T.cl D bDesk_say_of_books scDesk_say_of_books (fun vs H Q E h => ?_) fun f cdv A outer s H vs Q E hr h => ?_
  · obtain ⟨d, dd, p, a, b, kvs, x, y, k, n, n', M, N, rfl, _⟩ := h; rfl
  · obtain ⟨d, dd, p, a, b, kvs, x, y, kk, n, n', M, N, rfl, hD, hp, hx, hy, hvx, hvy, hM, hN, hO, hO', hk, hn, hn', kA, kU⟩ := h
    have nd := scDesk_say_of_books.nd
    refine ⟨_, pss_cons (ps_set (i := 2) nd rfl (Or.inl rfl) (pe_mt M_machine_of hr (by decide) (pv 0) (pa_cons (pe_ix ix_list (pv 1) pe_int (fun _ _ => rfl)) pa_nil)))
      (pss_cons (ps_if (pt_cmpR op_eq (pe_ix ix_list (pv 1) pe_int (fun _ _ => rfl)) pe_str (nomark _))
      (pss_cons (ps_set (i := 3) nd rfl (Or.inl rfl) (pe_mt M_machine_of hr (by decide) (pv 0) (pa_cons (pe_ix ix_list (pv 1) pe_int (fun _ _ => rfl)) pa_nil)))
        (pss_cons (ps_asg (pe_c C_compare hr (by decide) rfl (pa_cons (pv 2) (pa_cons (pv 3) pa_nil))) (pg_tup rfl (pgs_cons (pg_name (i := 4) nd rfl (Or.inl rfl)) (pgs_cons (pg_name (i := 5) nd rfl (Or.inl rfl)) pgs_nil))))
        (pss_cons (ps_if (pt_cmpR op_eq (pv 4) pe_str (nomark _))
        (pss_one (ps_ret pe_str))
        (pss_nil))
        (pss_one (ps_ret (pe_c C_show_row hr (by decide) rfl (pa_cons (pv 5) pa_nil)))))))
      (pss_nil))
      (pss_cons (ps_never)
      (pss_cons (ps_never)
      (pss_cons (ps_never)
      (pss_cons (ps_never)
      (pss_cons (ps_never)
      (pss_cons (ps_never)
      (pss_one (ps_never))))))))), ?_⟩
    have hs : SqL K H p (strsV [sameC, x, y]) := SqL.of hp
    have ha0 := strsV_at (ws := [sameC, x, y]) (i := 0) rfl
    have ha1 := strsV_at (ws := [sameC, x, y]) (i := 1) rfl
    have ha2 := strsV_at (ws := [sameC, x, y]) (i := 2) rfl
    obtain ⟨⟨dx, hd⟩, hdd, hfew⟩ := id hD
    refine ⟨_, rfl, d, dx, _, rfl, hd, look_other (by decide +kernel) dd, _, rfl, _, _, _, _, rfl, rfl, hs, ha1, d, dd, kvs, x, .ref a, rfl, hD, hx, hvx, ?_⟩
    refine ⟨_, rfl, _, _, _, _, rfl, rfl, hs, ha0, ?_⟩
    rw [same_S]
    refine ⟨rfl, _, rfl, ?_⟩
    rw [dec_S, decide_eq_true rfl]
    refine iteT ⟨_, rfl, d, dx, _, rfl, hd, look_other (by decide +kernel) dd, _, rfl, _, _, _, _, rfl, rfl, hs, ha2, d, dd, kvs, y, .ref b, rfl, hD, hy, hvy, ?_⟩
    refine ⟨_, rfl, _, rfl, a, b, kk, n, n', M, N, rfl, hM, hN, hO, hO', hk, hn, hn', fun H' q l al s1 hq => ?_, fun H' q r l al s1 hq hr2 hl0 hl1 hl5 => ?_⟩
    · refine ⟨q, _, rfl, SqT.of (nw_some hq).2, rfl, _, _, rfl, _, _, rfl, rfl, _, rfl, rfl, _, rfl, ?_⟩
      rw [decide_eq_true rfl]
      exact iteT (kA al H' s1)
    · refine ⟨q, _, rfl, SqT.of (nw_some hq).2, rfl, _, _, rfl, _, _, rfl, rfl, _, rfl, rfl, _, rfl, ?_⟩
      rw [show decide (V.str (Str.ofString "unlike") = V.str (Str.ofString "alike")) = false by decide +kernel]
      exact iteF ⟨_, rfl, r, l, rfl, (nw_some hr2).2, hl0, hl1, hl5, fun H2 z s2 hz => kU al H2 z (s1.trans s2) hz⟩
abbrev sDesk_say : Stmt := inClass (top 137) 2
abbrev nDesk_say : List Str := ["self", "row", "words", "machine", "found"]
theorem scDesk_say : FnScope nDesk_say ["self", "row"] (defScope sDesk_say) := ⟨rfl, rfl, rfl, by decide +kernel, rfl, by decide +kernel, by decide +kernel⟩
theorem bDesk_say {K : PySem.W.Frag} {f : Addr} {fd : FuncData} (F : FunD K "say" "Desk.say" (defArgs sDesk_say) (defBody sDesk_say) (defScope sDesk_say) [] [] f fd) : Binds K fd ["self", "row"] [] := F.bindsN fun _ _ _ _ _ _ us hl => match us, hl with | [_, _], _ => rfl
abbrev makesL : List V := [.str "machine", .str "least", .str "slip", .str "drop", .str "learn"]
def spSay (C : Addr) : Sp := fun vs H Q _ => ∃ (d dd : Addr) (kvs : List (Key × V)) (row : List Nat), vs = [.ref d, .str (S row)] ∧ DeskAt C H d dd kvs ∧ row.length ≤ 20000 ∧
  ((∃ (k n : Nat) (M : Mach) (y : List Nat) (us : List (List Nat)), TL.spl [32] 0 [] row = mC :: y :: us ∧ us ≠ [] ∧ TL.joinL [32] us = machL M ∧ NameOk y ∧ Fit k n M ∧
      ∀ (H' : Hp) (a : Addr), (∀ b o, H b = some o → b ≠ dd → H' b = some o) → H' dd = some (.dK (putK kvs (Sum.inr (S y)) (.ref a))) → MachAt (nw H H') a M → Q (.str "ok") H') ∨
   (∃ (k n : Nat) (M : Mach) (y z : List Nat) (m : Addr), TL.spl [32] 0 [] row = [leastC, y, z] ∧ NameOk y ∧ NameOk z ∧ valV kvs (Sum.inr (S z)) = some (.ref m) ∧ MachAt H m M ∧ Ok k n M ∧ k ≤ 5 ∧ n ≤ 30 ∧
      ∀ (H' : Hp) (a : Addr) (L : Mach), (∀ b o, H b = some o → b ≠ dd → H' b = some o) → H' dd = some (.dK (putK kvs (Sum.inr (S y)) (.ref a))) → MachAt (nw H H') a L → Least k M L → Q (.str "ok") H') ∨
   (∃ (M : Mach) (x : List Nat) (m : Addr), TL.spl [32] 0 [] row = [showC, x] ∧ NameOk x ∧ valV kvs (Sum.inr (S x)) = some (.ref m) ∧ MachAt H m M ∧ Short M ∧ ∀ H', Same H H' → Q (.str (S (machL M))) H') ∨
   (∃ (a b : Addr) (x y : List Nat) (k n n' : Nat) (M N : Mach), TL.spl [32] 0 [] row = [sameC, x, y] ∧ NameOk x ∧ NameOk y ∧ valV kvs (Sum.inr (S x)) = some (.ref a) ∧ valV kvs (Sum.inr (S y)) = some (.ref b) ∧ MachAt H a M ∧ MachAt H b N ∧ Ok k n M ∧ Ok k n' N ∧ k ≤ 5 ∧ n ≤ 30 ∧ n' ≤ 30 ∧
      (Alike k M N 0 0 → ∀ H', Same H H' → Q (.str "alike") H') ∧ (¬ Alike k M N 0 0 → ∀ (H' : Hp) (z : Str), Same H H' → z ≠ Str.ofString "alike" → Q (.str z) H')))
theorem DeskAt.mono {H H' : Hp} {d dd : Addr} {kvs : List (Key × V)} (h : DeskAt C H d dd kvs) (s : Same H H') : DeskAt C H' d dd kvs := let ⟨⟨dx, h1⟩, h2, h3⟩ := h; ⟨⟨dx, s _ _ h1⟩, s _ _ h2, h3⟩
theorem m_say (D : DefM K C "say" "Desk.say" sDesk_say) (T : DTxt K w mg C rows mk) (C_words_of : Cal P w K mg base 1 "words_of" (spWords K w rows) []) (M_machine_of : Met P w K mg base 2 C "machine_of" (spMachineOf C) []) (M_make : Met P w K mg base 8 C "make" (spMake C) []) (M_say_of_books : Met P w K mg base 3 C "say_of_books" (spBooks C) []) (C_show : Cal P w K mg base 1 "show" spShow []) :
    Met P w K mg base 9 C "say" (spSay C) [] := by
  refine mkMet T.cl D bDesk_say scDesk_say (fun vs H Q E h => ?_) fun f cdv A outer s H vs Q E hr h => ?_
  · obtain ⟨d, dd, kvs, row, rfl, _⟩ := h; rfl
  · obtain ⟨d, dd, kvs, row, rfl, hD, hrl, hcase⟩ := h
    have nd := scDesk_say.nd
    refine ⟨_, pss_cons (ps_set (i := 2) nd rfl (Or.inl rfl) (pe_c C_words_of hr (by decide) rfl (pa_cons (pv 1) pa_nil)))
      (pss_cons (ps_if (pt_cmpR op_in_seq (pe_ix ix_list (pv 2) pe_int (fun _ _ => rfl)) (pe_gc rfl T.c_MAKES) (by rfl))
      (pss_one (ps_ret (pe_mt M_make hr (by decide) (pv 0) (pa_cons (pv 2) pa_nil))))
      (pss_nil))
      (pss_cons (ps_if (pt_cmpR op_in_seq (pe_ix ix_list (pv 2) pe_int (fun _ _ => rfl)) (pe_tup (pa_cons pe_str (pa_cons pe_str (pa_cons pe_str pa_nil)))) (by rfl))
      (pss_one (ps_ret (pe_mt M_say_of_books hr (by decide) (pv 0) (pa_cons (pv 2) pa_nil))))
      (pss_nil))
      (pss_cons (ps_set (i := 3) nd rfl (Or.inl rfl) (pe_mt M_machine_of hr (by decide) (pv 0) (pa_cons (pe_ix ix_list (pv 2) pe_int (fun _ _ => rfl)) pa_nil)))
      (pss_cons (ps_if (pt_cmpR op_eq (pe_ix ix_list (pv 2) pe_int (fun _ _ => rfl)) pe_str (nomark _))
      (pss_one (ps_ret (pe_c C_show hr (by decide) rfl (pa_cons (pv 3) pa_nil))))
      (pss_nil))
      (pss_cons (ps_never)
      (pss_cons (ps_never)
      (pss_cons (ps_never)
      (pss_one (ps_never))))))))), ?_⟩
    rcases hcase with ⟨kk, n, M, y, us, esp, hus, ej, hy, hF, k⟩ | ⟨kk, n, M, y, z, m, esp, hy, hz, hv, hM, hO, hk, hn, k⟩ | ⟨M, x, m, esp, hx, hv, hM, hS, k⟩ | ⟨a, b, x, y, kk, n, n', M, N, esp, hx, hy, hvx, hvy, hM, hN, hO, hO', hk, hn, hn', kA, kU⟩
    · refine ⟨_, rfl, row, _, [mC, y, machL M], mC, rfl, hrl, esp, rfl, .inl ⟨rfl, by have := List.length_pos_iff.mpr hus; show 3 ≤ us.length + 1 + 1; omega, by show _ = [mC, y] ++ [TL.joinL [32] us]; rw [ej]; rfl⟩, T.r_machine, fun H1 p s1 hp => ?_⟩
      have hp1 := (nw_some hp).2
      have hs : SqL K H1 p (strsV [mC, y, machL M]) := SqL.of hp1
      obtain ⟨⟨dx, hd⟩, hdd, hfew⟩ := id hD
      refine ⟨_, rfl, _, _, _, _, rfl, rfl, hs, strsV_at (i := 0) rfl, mk, _, rfl, .inr (T.mkT H1), rfl, rfl, _, rfl, ?_⟩
      rw [show (if false = true then !inV (V.str (S mC)) makesL else inV (V.str (S mC)) makesL) = true by decide +kernel]
      refine iteT ⟨_, rfl, d, dx, _, rfl, s1 _ _ hd, look_other (by decide +kernel) dd, _, rfl, d, dd, kvs, p, mC, y, machL M, rfl, hD.mono s1, hp1, hy, .inl ⟨kk, n, M, rfl, rfl, hF, fun H' a h1 h2 h3 => ?_⟩⟩
      exact k H' a (fun b o e ne => h1 b o (s1 _ _ e) ne) h2 (h3.mono (Same.nwT s1))
    · refine ⟨_, rfl, row, _, [leastC, y, z], leastC, rfl, hrl, esp, rfl, .inr ⟨by decide, rfl⟩, T.r_least, fun H1 p s1 hp => ?_⟩
      have hp1 := (nw_some hp).2
      have hs : SqL K H1 p (strsV [leastC, y, z]) := SqL.of hp1
      obtain ⟨⟨dx, hd⟩, hdd, hfew⟩ := id hD
      refine ⟨_, rfl, _, _, _, _, rfl, rfl, hs, strsV_at (i := 0) rfl, mk, _, rfl, .inr (T.mkT H1), rfl, rfl, _, rfl, ?_⟩
      rw [show (if false = true then !inV (V.str (S leastC)) makesL else inV (V.str (S leastC)) makesL) = true by decide +kernel]
      refine iteT ⟨_, rfl, d, dx, _, rfl, s1 _ _ hd, look_other (by decide +kernel) dd, _, rfl, d, dd, kvs, p, leastC, y, z, rfl, hD.mono s1, hp1, hy, .inr ⟨kk, n, M, m, rfl, hz, hv, hM.mono s1, hO, hk, hn, fun H' a L h1 h2 h3 h4 => ?_⟩⟩
      exact k H' a L (fun b o e ne => h1 b o (s1 _ _ e) ne) h2 (h3.mono (Same.nwT s1)) h4
    · refine ⟨_, rfl, row, _, [showC, x], showC, rfl, hrl, esp, rfl, .inr ⟨by decide, rfl⟩, T.r_show, fun H1 p s1 hp => ?_⟩
      have hp1 := (nw_some hp).2
      have hs : SqL K H1 p (strsV [showC, x]) := SqL.of hp1
      obtain ⟨⟨dx, hd⟩, hdd, hfew⟩ := id hD
      refine ⟨_, rfl, _, _, _, _, rfl, rfl, hs, strsV_at (i := 0) rfl, mk, _, rfl, .inr (T.mkT H1), rfl, rfl, _, rfl, ?_⟩
      rw [show (if false = true then !inV (V.str (S showC)) makesL else inV (V.str (S showC)) makesL) = false by decide +kernel]
      refine iteF ⟨_, rfl, _, _, _, _, rfl, rfl, hs, strsV_at (i := 0) rfl, (by show 3 ≤ sizeLine; decide), fun t nt => ⟨t, _, rfl, .inr (SqT.of upd_same), rfl, rfl, _, rfl, ?_⟩⟩
      rw [show (if false = true then !inV (V.str (S showC)) [V.str "same", V.str "book", V.str "test"] else inV (V.str (S showC)) [V.str "same", V.str "book", V.str "test"]) = false by decide +kernel]
      have s2 := s1.upd (o := .tup [V.str "same", V.str "book", V.str "test"]) (s1.free nt)
      have hp2 : (upd H1 t (.tup [V.str "same", V.str "book", V.str "test"])) p = some (.lst (strsV [showC, x])) := by rw [upd_ne (ne_of_none hp1 nt)]; exact hp1
      have hs2 : SqL K (upd H1 t (.tup [V.str "same", V.str "book", V.str "test"])) p (strsV [showC, x]) := SqL.of hp2
      refine iteF ⟨_, rfl, d, dx, _, rfl, s2 _ _ hd, look_other (by decide +kernel) dd, _, rfl, _, _, _, _, rfl, rfl, hs2, strsV_at (i := 1) rfl, d, dd, kvs, x, .ref m, rfl, hD.mono s2, hx, hv, ?_⟩
      refine ⟨_, rfl, _, _, _, _, rfl, rfl, hs2, strsV_at (i := 0) rfl, ?_⟩
      rw [show_S]
      refine ⟨rfl, _, rfl, ?_⟩
      rw [dec_S, decide_eq_true rfl]
      exact iteT ⟨_, rfl, m, M, rfl, hM.mono s2, hS, fun H' s3 => k H' (s2.trans s3)⟩
    · refine ⟨_, rfl, row, _, [sameC, x, y], sameC, rfl, hrl, esp, rfl, .inr ⟨by decide, rfl⟩, T.r_same, fun H1 p s1 hp => ?_⟩
      have hp1 := (nw_some hp).2
      have hs : SqL K H1 p (strsV [sameC, x, y]) := SqL.of hp1
      obtain ⟨⟨dx, hd⟩, hdd, hfew⟩ := id hD
      refine ⟨_, rfl, _, _, _, _, rfl, rfl, hs, strsV_at (i := 0) rfl, mk, _, rfl, .inr (T.mkT H1), rfl, rfl, _, rfl, ?_⟩
      rw [show (if false = true then !inV (V.str (S sameC)) makesL else inV (V.str (S sameC)) makesL) = false by decide +kernel]
      refine iteF ⟨_, rfl, _, _, _, _, rfl, rfl, hs, strsV_at (i := 0) rfl, (by show 3 ≤ sizeLine; decide), fun t nt => ⟨t, _, rfl, .inr (SqT.of upd_same), rfl, rfl, _, rfl, ?_⟩⟩
      rw [show (if false = true then !inV (V.str (S sameC)) [V.str "same", V.str "book", V.str "test"] else inV (V.str (S sameC)) [V.str "same", V.str "book", V.str "test"]) = true by decide +kernel]
      have s2 := s1.upd (o := .tup [V.str "same", V.str "book", V.str "test"]) (s1.free nt)
      have hp2 : (upd H1 t (.tup [V.str "same", V.str "book", V.str "test"])) p = some (.lst (strsV [sameC, x, y])) := by rw [upd_ne (ne_of_none hp1 nt)]; exact hp1
      exact iteT ⟨_, rfl, d, dx, _, rfl, s2 _ _ hd, look_other (by decide +kernel) dd, _, rfl, d, dd, p, a, b, kvs, x, y, kk, n, n', M, N, rfl, hD.mono s2, hp2, hx, hy, hvx, hvy, hM.mono s2, hN.mono s2, hO, hO', hk, hn, hn', fun al H' s3 => kA al H' (s2.trans s3), fun al H' z s3 hz => kU al H' z (s2.trans s3) hz⟩
end
end Pw

namespace Pw
open PySem PySem.Spec PyProof.Rows L2 SX
open C8 (Cal Met Mak pe_c pe_mt pe_mt0 pe_gc sl_txt)
/-! ### rows under way -/
def Bd (k n : Nat) (row : Row) : Prop := row.length = k ∧ ∀ c ∈ row, c.1.natAbs < 5 * 10 ^ 59 ∧ c.2 < n
def RowsB (H : Hp) (o : Addr) (k n i : Nat) (H' : Hp) : Prop := ∃ (rs : List Addr) (M : Mach), H' o = some (.lst (rs.map V.ref)) ∧ RowsIn (nw H (wo H' o)) rs M ∧ M.length = i ∧ ∀ row ∈ M, Bd k n row
def CellsB (H : Hp) (o q : Addr) (n j : Nat) (H' : Hp) : Prop := ∃ (ps : List Addr) (row : Row), H' q = some (.lst (ps.map V.ref)) ∧ CellsIn (nw H (wo (wo H' o) q)) ps row ∧ Bd j n row
theorem RowsB.init {H H1 : Hp} {o : Addr} {k n : Nat} : RowsB H o k n 0 (upd H1 o (.lst [])) := ⟨[], [], upd_same, RowsIn.nil, rfl, fun _ h => by cases h⟩
theorem CellsB.init {H H1 : Hp} {o q : Addr} {n : Nat} : CellsB H o q n 0 (upd H1 q (.lst [])) := ⟨[], [], upd_same, CellsIn.nil, rfl, fun _ h => by cases h⟩
theorem wo_upd2 {H : Hp} {o q : Addr} {u : HO} : wo (wo (upd H q u) o) q = wo (wo H o) q := by
  funext x
  by_cases e : x = q
  · rw [e, wo_self, wo_self]
  · rw [wo_at e, wo_at e]
    by_cases e2 : x = o
    · rw [e2, wo_self, wo_self]
    · rw [wo_at e2, wo_at e2, upd_ne e]
/-- the reading of an append of a cell -/
theorem CellsB.add {H H' : Hp} {o q t : Addr} {n j : Nat} {c : Int × Nat} {u : HO} (h : CellsB H o q n j H') (s : Same H H') (ho : H' o = some u) (ht : H' t = none) (hb : c.1.natAbs < 5 * 10 ^ 59 ∧ c.2 < n) :
    ∃ ps : List Addr, (upd H' t (cellV c)) q = some (.lst (ps.map V.ref)) ∧ ps.length = j ∧ CellsB H o q n (j + 1) (upd (upd H' t (cellV c)) q (.lst (ps.map V.ref ++ [V.ref t]))) := by
  obtain ⟨ps, row, hq, hc, hl, hB⟩ := h
  have nqt : q ≠ t := ne_of_none hq ht
  have not_ : o ≠ t := ne_of_none ho ht
  refine ⟨ps, by rw [upd_ne nqt]; exact hq, hc.len.trans hl, ps ++ [t], row ++ [c], by rw [upd_same, List.map_append]; rfl, ?_, by rw [List.length_append, hl]; rfl, fun d hd => ?_⟩
  · rw [wo_upd2]
    refine (hc.mono (Same.nw2 (Same.wo2 (Same.wo2 (Same.fresh ht))))).snoc ?_
    rw [nw_at (s.free ht), wo_at nqt.symm, wo_at not_.symm, upd_same]
  · rcases List.mem_append.mp hd with z | z
    · exact hB d z
    · rw [List.mem_singleton.mp z]; exact hb
theorem CellsB.at {H H' : Hp} {o q : Addr} {n j : Nat} (h : CellsB H o q n j H') : ∃ ps : List Addr, H' q = some (.lst (ps.map V.ref)) := let ⟨ps, _, z, _⟩ := h; ⟨ps, z⟩
theorem CellsB.mono {H H1 H2 : Hp} {o q : Addr} {n j : Nat} (h : CellsB H o q n j H1) (s : Same H1 H2) : CellsB H o q n j H2 := let ⟨ps, row, z, c, b⟩ := h; ⟨ps, row, s _ _ z, c.mono (Same.nw2 (Same.wo2 (Same.wo2 s))), b⟩
/-- .. of a row -/
theorem RowsB.add {H H1 H2 : Hp} {o q : Addr} {k n i : Nat} (h : RowsB H o k n i H1) (s : Same H H1) (s2 : Same H1 H2) (hq : H1 q = none) (g : CellsB H o q n k H2) :
    ∃ rs : List Addr, H2 o = some (.lst (rs.map V.ref)) ∧ rs.length = i ∧ RowsB H o k n (i + 1) (upd H2 o (.lst (rs.map V.ref ++ [V.ref q]))) := by
  obtain ⟨rs, M, ho, hR, hl, hB⟩ := h
  obtain ⟨ps, row, hq2, hc, hb⟩ := g
  have noq : o ≠ q := ne_of_none ho hq
  refine ⟨rs, s2 _ _ ho, hR.len.trans hl, rs ++ [q], M ++ [row], by rw [upd_same, List.map_append]; rfl, ?_, by rw [List.length_append, hl]; rfl, fun r hr => ?_⟩
  · rw [wo_upd]
    refine (hR.mono (Same.nw2 (Same.wo2 s2))).snoc ?_
    refine (hc.mono (Same.nw2 (Same.wo (wo H2 o) q))).row ?_
    rw [nw_at (s.free hq), wo_at noq.symm]
    exact hq2
  · rcases List.mem_append.mp hr with z | z
    · exact hB r z
    · rw [List.mem_singleton.mp z]; exact hb
theorem RowsB.done {H H' : Hp} {o : Addr} {k n : Nat} (h : RowsB H o k n n H') (ho : H o = none) (hk : 0 < k) (hn : 0 < n) : ∃ M, MachAt (nw H H') o M ∧ Ok k n M ∧ ∀ row ∈ M, Bd k n row := by
  obtain ⟨rs, M, h1, hR, hl, hB⟩ := h
  exact ⟨M, ⟨rs, by rw [nw_at ho]; exact h1, hR.mono (Same.nw2 (Same.wo H' o))⟩, ⟨hl, hn, hk, fun r hr => (hB r hr).1, fun r hr c hc => ((hB r hr).2 c hc).2⟩, hB⟩
theorem to_nat {i : Int} (h : 0 ≤ i) : ∃ n : Nat, i = (n : Int) := ⟨i.toNat, (Int.toNat_of_nonneg h).symm⟩
section
variable {P : Program} {w : World} {K : PySem.W.Frag} {mg : Str → Option Value} {base : Heap}
/-! ### the script's cells -/
abbrev slaw_cell_at : Stmt := top 139
abbrev nlaw_cell_at : List Str := ["_law_script", "_law_k"]
theorem sclaw_cell_at : FnScope nlaw_cell_at ["_law_script", "_law_k"] (defScope slaw_cell_at) := ⟨rfl, rfl, rfl, by decide +kernel, rfl, by decide +kernel, by decide +kernel⟩
theorem blaw_cell_at {K : PySem.W.Frag} {f : Addr} {fd : FuncData} (F : FunD K "_law_cell_at" "_law_cell_at" (defArgs slaw_cell_at) (defBody slaw_cell_at) (defScope slaw_cell_at) [] [] f fd) : Binds K fd ["_law_script", "_law_k"] [] := F.bindsN fun _ _ _ _ _ _ us hl => match us, hl with | [_, _], _ => rfl
def spCell (K : PySem.W.Frag) : Sp := fun vs H Q _ => ∃ (a : Addr) (ns : List Int) (j : Int), vs = [.ref a, .int j] ∧ SqL K H a (ns.map V.int) ∧ 0 ≤ j ∧ ∀ i : Int, Q (.int i) H
theorem c_law_cell_at (D : DefAt K mg "_law_cell_at" slaw_cell_at) (T : Txt K mg) : Cal P w K mg base 1 "_law_cell_at" (spCell K) [] := by
  refine mkCal D blaw_cell_at sclaw_cell_at (fun vs H Q E h => ?_) fun f cdv A outer s H vs Q E hr h => ?_
  · obtain ⟨a, ns, j, rfl, _⟩ := h; rfl
  · obtain ⟨a, ns, j, rfl, hS, hj, k⟩ := h
    have nd := sclaw_cell_at.nd
    refine ⟨_, pss_cons (ps_if (pt_cmpR op_lt (pv 1) (pe_callB (id := "len") call_len_seq rfl T.n_len (by decide +kernel) (pa_cons (pv 0) pa_nil)) (nomark _))
      (pss_one (ps_ret (pe_ix ix_list (pv 0) (pv 1) (fun _ _ => rfl))))
      (pss_nil))
      (pss_one (ps_ret pe_int)), ?_⟩
    refine ⟨_, rfl, _, rfl, a, _, rfl, .inl hS, _, _, rfl, rfl, _, rfl, ?_⟩
    by_cases h : j < ((ns.map V.int).length : Int)
    · rw [decide_eq_true h]
      obtain ⟨m, rfl⟩ := to_nat hj
      have hm : m < ns.length := by rw [List.length_map] at h; omega
      refine iteT ⟨_, rfl, _, rfl, a, _, _, .int (ns[m]), rfl, rfl, hS, at_of rfl (by rw [List.getElem?_map, List.getElem?_eq_getElem hm]; rfl), k _⟩
    · rw [decide_eq_false h]
      exact iteF (k 0)
abbrev slaw_kernel : Stmt := top 140
abbrev nlaw_kernel : List Str := ["_law_script", "_law_many_here", "_law_asks", "_law_kinds", "_law_far", "_law_rows", "_law_s", "_law_row", "_law_a", "_law_k", "_law_cell", "_law_number", "_law_answer"]
theorem sclaw_kernel : FnScope nlaw_kernel ["_law_script"] (defScope slaw_kernel) := ⟨rfl, rfl, rfl, by decide +kernel, rfl, by decide +kernel, by decide +kernel⟩
theorem blaw_kernel {K : PySem.W.Frag} {f : Addr} {fd : FuncData} (F : FunD K "_law_kernel" "_law_kernel" (defArgs slaw_kernel) (defBody slaw_kernel) (defScope slaw_kernel) [] [] f fd) : Binds K fd ["_law_script"] [] := F.bindsN fun _ _ _ _ _ _ us hl => match us, hl with | [_], _ => rfl
def spKernel (K : PySem.W.Frag) : Sp := fun vs H Q _ => ∃ (a : Addr) (ns : List Int), vs = [.ref a] ∧ SqL K H a (ns.map V.int) ∧ ns.length ≤ 63 ∧
  ∀ (H' : Hp) (b : Addr) (k n : Nat) (M : Mach), Same H H' → MachAt (nw H H') b M → Ok k n M → k ≤ 3 → n ≤ 4 → (∀ row ∈ M, Bd k n row) → Q (.ref b) H'
theorem c_law_kernel (D : DefAt K mg "_law_kernel" slaw_kernel) (T : Txt K mg) (C__law_cell_at : Cal P w K mg base 1 "_law_cell_at" (spCell K) []) : Cal P w K mg base 2 "_law_kernel" (spKernel K) [] := by
  refine mkCal D blaw_kernel sclaw_kernel (fun vs H Q E h => ?_) fun f cdv A outer s H vs Q E hr h => ?_
  · obtain ⟨a, ns, rfl, _⟩ := h; rfl
  · obtain ⟨a, ns, rfl, hS, hns, k⟩ := h
    have nd := sclaw_kernel.nd
    refine ⟨_, pss_cons (ps_set (i := 1) nd rfl (Or.inl rfl) (pe_op op_add pe_int (pe_op op_mod (pe_c C__law_cell_at hr (by decide) rfl (pa_cons (pv 0) (pa_cons pe_int pa_nil))) pe_int)))
      (pss_cons (ps_set (i := 2) nd rfl (Or.inl rfl) (pe_op op_add pe_int (pe_op op_mod (pe_op op_fdiv (pe_c C__law_cell_at hr (by decide) rfl (pa_cons (pv 0) (pa_cons pe_int pa_nil))) pe_int) pe_int)))
      (pss_cons (ps_set (i := 3) nd rfl (Or.inl rfl) (pe_op op_add pe_int (pe_op op_mod (pe_op op_fdiv (pe_c C__law_cell_at hr (by decide) rfl (pa_cons (pv 0) (pa_cons pe_int pa_nil))) pe_int) pe_int)))
      (pss_cons (ps_set (i := 4) nd rfl (Or.inl rfl) (pe_ix ix_list (pe_lst (pa_cons pe_int (pa_cons pe_int (pa_cons (pe_op op_sub (pe_op op_mul pe_int (pe_op op_pow pe_int pe_int)) pe_int) (pa_cons pe_int pa_nil))))) (pe_op op_mod (pe_op op_fdiv (pe_c C__law_cell_at hr (by decide) rfl (pa_cons (pv 0) (pa_cons pe_int pa_nil))) pe_int) pe_int) (fun _ _ => rfl)))
      (pss_cons (ps_set (i := 5) nd rfl (Or.inl rfl) (pe_lst pa_nil))
      (pss_cons (ps_for PassesOwn.never rfl (pi_range1 rfl T.n_range (pa_cons (pv 1) pa_nil)) (pg_name (i := 6) nd rfl (Or.inl rfl))
      (pss_cons (ps_set (i := 7) nd rfl (Or.inl rfl) (pe_lst pa_nil))
        (pss_cons (ps_for PassesOwn.never rfl (pi_range1 rfl T.n_range (pa_cons (pv 2) pa_nil)) (pg_name (i := 8) nd rfl (Or.inl rfl))
        (pss_cons (ps_set (i := 9) nd rfl (Or.inl rfl) (pe_op op_add (pe_op op_mul (pv 6) (pv 2)) (pv 8)))
          (pss_cons (ps_set (i := 10) nd rfl (Or.inl rfl) (pe_c C__law_cell_at hr (by decide) rfl (pa_cons (pv 0) (pa_cons (pe_op op_add pe_int (pe_op op_mod (pv 9) (pe_callB (id := "max") (call_max2 rfl) rfl T.n_max (by decide +kernel) (pa_cons pe_int (pa_cons (pe_op op_sub (pe_callB (id := "len") call_len_seq rfl T.n_len (by decide +kernel) (pa_cons (pv 0) pa_nil)) pe_int) pa_nil))))) pa_nil))))
          (pss_cons (ps_set (i := 11) nd rfl (Or.inl rfl) (pe_op op_mod (pe_op op_mul (pe_op op_mul (pe_op op_add (pe_op op_mod (pv 10) pe_int) (pe_op op_mul pe_int (pv 9))) (pe_op op_add (pe_op op_mul pe_int (pv 9)) pe_int)) pe_int) pe_int))
          (pss_cons (ps_set (i := 12) nd rfl (Or.inl rfl) (pe_op op_mul (pe_op op_sub pe_int (pe_op op_mod (pv 11) (pv 3))) (pv 4)))
          (pss_cons (ps_if (pt_cmpR op_eq (pv 4) pe_int (nomark _))
          (pss_one (ps_set (i := 12) nd rfl (Or.inl rfl) (pe_ix ix_list (pe_lst (pa_cons pe_int (pa_cons pe_int (pa_cons pe_int pa_nil)))) (pe_op op_mod (pv 11) pe_int) (fun _ _ => rfl))))
          (pss_nil))
          (pss_one (ps_expr (pe_bm PySem.F.plainAttrs_list PySem.F.slot_list_append PySem.F.type_list_append mt_append (pv 7) (pa_cons (pe_tup (pa_cons (pv 12) (pa_cons (pe_op op_mod (pe_op op_fdiv (pv 11) pe_int) (pv 1)) pa_nil))) pa_nil))))))))))
        (pss_one (ps_expr (pe_bm PySem.F.plainAttrs_list PySem.F.slot_list_append PySem.F.type_list_append mt_append (pv 5) (pa_cons (pv 7) pa_nil)))))))
      (pss_one (ps_ret (pv 5)))))))), ?_⟩
    have p0 : (0 : Int) < 4 := by decide
    have p3 : (0 : Int) < 3 := by decide
    refine ⟨_, rfl, a, ns, 0, rfl, hS, by decide, fun i1 => ⟨_, _, rfl, rfl, p0, _, _, rfl, rfl, ?_⟩⟩
    show gName 1 (.int (1 + i1 % 4)) _ _ _
    obtain ⟨n, en, hn1, hn4⟩ : ∃ n : Nat, (1 : Int) + i1 % 4 = (n : Int) ∧ 1 ≤ n ∧ n ≤ 4 := ⟨(1 + i1 % 4).toNat, by omega, by omega, by omega⟩
    rw [en]
    refine ⟨_, rfl, a, ns, 0, rfl, hS, by decide, fun i2 => ⟨_, _, rfl, rfl, ⟨by decide, by decide⟩, _, _, rfl, rfl, p3, _, _, rfl, rfl, ?_⟩⟩
    show gName 2 (.int (1 + i2 / 4 % 3)) _ _ _
    obtain ⟨kk, ek, hk1, hk3⟩ : ∃ n : Nat, (1 : Int) + i2 / 4 % 3 = (n : Int) ∧ 1 ≤ n ∧ n ≤ 3 := ⟨(1 + i2 / 4 % 3).toNat, by omega, by omega, by omega⟩
    rw [ek]
    refine ⟨_, rfl, a, ns, 0, rfl, hS, by decide, fun i3 => ⟨_, _, rfl, rfl, ⟨by decide, by decide⟩, _, _, rfl, rfl, p3, _, _, rfl, rfl, ?_⟩⟩
    show gName 3 (.int (1 + i3 / 12 % 3)) _ _ _
    obtain ⟨kd, ed, hd1, hd3⟩ : ∃ n : Nat, (1 : Int) + i3 / 12 % 3 = (n : Int) ∧ 1 ≤ n ∧ n ≤ 3 := ⟨(1 + i3 / 12 % 3).toNat, by omega, by omega, by omega⟩
    rw [ed]
    refine ⟨_, _, rfl, rfl, ⟨by decide, by decide, by decide⟩, _, _, rfl, rfl, .inl ⟨by decide, by decide⟩, _, _, rfl, rfl, (by show 4 ≤ sizeLine; decide), fun q0 nq0 => ?_⟩
    have s0 := Same.fresh (o := .lst [V.int 1, V.int 1, V.int (5 * 10 ^ (59 : Int).toNat - 1), V.int 0]) nq0
    refine ⟨_, rfl, a, ns, 0, rfl, s0.seq hS, by decide, fun i4 => ⟨_, _, rfl, rfl, ⟨by decide, by decide⟩, _, _, rfl, rfl, p0, ?_⟩⟩
    obtain ⟨far, hf, hfar⟩ : ∃ far : Int, atI [V.int 1, V.int 1, V.int (5 * 10 ^ (59 : Int).toNat - 1), V.int 0] (i4 / 36 % 4) = some (.int far) ∧ far.natAbs < 5 * 10 ^ 59 := by
      have h4 : i4 / 36 % 4 = 0 ∨ i4 / 36 % 4 = 1 ∨ i4 / 36 % 4 = 2 ∨ i4 / 36 % 4 = 3 := by omega
      rcases h4 with e | e | e | e <;> rw [e]
      · exact ⟨1, rfl, by decide⟩
      · exact ⟨1, rfl, by decide⟩
      · exact ⟨_, rfl, by decide⟩
      · exact ⟨0, rfl, by decide⟩
    refine ⟨_, _, _, _, rfl, rfl, SqL.of upd_same, hf, ?_⟩
    -- the rows
    generalize hH0 : upd H q0 (.lst [V.int 1, V.int 1, V.int (5 * 10 ^ (59 : Int).toNat - 1), V.int 0]) = H0
    have s0 : Same H H0 := by rw [← hH0]; exact Same.fresh nq0
    clear hH0 hf i4 i3 i2 i1 en ek ed
    refine ⟨(by show 0 ≤ sizeLine; decide), fun o no => ?_⟩
    have no0 : H o = none := s0.free no
    refine ⟨_, rfl, (n : Int), rfl, by omega, by omega, for_range (lo := 0) (n := n) (fun i σ H' => (∃ v6 v7 v8 v9 v10 v11 v12, σ = [some (.ref a), some (.int (n : Int)), some (.int (kk : Int)), some (.int (kd : Int)), some (.int far), some (.ref o), v6, v7, v8, v9, v10, v11, v12]) ∧ Same H H' ∧ RowsB H o kk n i H')
      ⟨⟨none, none, none, none, none, none, none, rfl⟩, s0.trans (Same.fresh no), RowsB.init⟩ ?_ ?_⟩
    · rintro i σ H1 hi ⟨⟨v6, v7, v8, v9, v10, v11, v12, rfl⟩, s1, hR⟩
      rw [Int.zero_add]
      refine ⟨(by show 0 ≤ sizeLine; decide), fun q nq => ?_⟩
      have nq0 : H q = none := s1.free nq
      obtain ⟨rs0, M0, ho1, _⟩ := id hR
      refine ⟨_, rfl, (kk : Int), rfl, by omega, by omega, for_range (lo := 0) (n := kk) (fun j σ H' => (∃ v8 v9 v10 v11 v12, σ = [some (.ref a), some (.int (n : Int)), some (.int (kk : Int)), some (.int (kd : Int)), some (.int far), some (.ref o), some (.int (i : Int)), some (.ref q), v8, v9, v10, v11, v12]) ∧ Same H1 H' ∧ CellsB H o q n j H')
        ⟨⟨v8, v9, v10, v11, v12, rfl⟩, Same.fresh nq, CellsB.init⟩ ?_ ?_⟩
      · rintro j σ H2 hj ⟨⟨v8, v9, v10, v11, v12, rfl⟩, s2, hC⟩
        rw [Int.zero_add]
        have hS2 : SqL K H2 a (ns.map V.int) := (s1.trans s2).seq hS
        have hik : i * kk ≤ 9 := Nat.mul_le_mul (show i ≤ 3 by omega) hk3
        refine ⟨_, rfl, _, rfl, _, _, rfl, rfl, .inl ⟨by omega, by omega⟩, _, rfl, _, _, rfl, rfl, ?_⟩
        show gName 9 (.int ((i : Int) * (kk : Int) + (j : Int))) _ _ _
        obtain ⟨kx, ekx, hkx⟩ : ∃ n : Nat, (i : Int) * (kk : Int) + (j : Int) = (n : Int) ∧ n ≤ 20 := ⟨i * kk + j, by rw [Int.natCast_add, Int.natCast_mul], by omega⟩
        rw [ekx]
        obtain ⟨mx, emx, hmx⟩ : ∃ m : Int, (if ((ns.map V.int).length : Int) - 4 > 1 then ((ns.map V.int).length : Int) - 4 else 1) = m ∧ 0 < m := ⟨_, rfl, by split <;> omega⟩
        refine ⟨_, rfl, _, rfl, _, rfl, a, _, rfl, .inl hS2, _, _, rfl, rfl, _, _, rfl, ?_⟩
        rw [emx]
        have hm0 := Int.emod_nonneg (kx : Int) (show mx ≠ 0 by omega)
        refine ⟨_, _, rfl, rfl, hmx, _, _, rfl, rfl, a, ns, _, rfl, hS2, by omega, fun i5 => ?_⟩
        refine ⟨_, rfl, _, _, rfl, rfl, (by show (0 : Int) < 1000000009; decide), _, rfl, _, _, rfl, rfl, .inl ⟨by decide, by decide⟩, _, _, rfl, rfl, _, rfl, _, _, rfl, rfl, .inl ⟨by decide, by decide⟩, _, _, rfl, rfl, _, _, rfl, rfl, .inr ⟨by omega, by omega⟩, _, _, rfl, rfl, .inr ⟨by decide, by decide⟩, _, _, rfl, rfl, (by show (0 : Int) < 1000000009; decide), ?_⟩
        show gName 11 (.int ((i5 % 1000000009 + 59 * (kx : Int)) * (3 * (kx : Int) + 4) * 40692 % 1000000009)) _ _ _
        generalize (i5 % 1000000009 + 59 * (kx : Int)) * (3 * (kx : Int) + 4) * 40692 = big
        obtain ⟨nu, enu⟩ : ∃ n : Nat, big % 1000000009 = (n : Int) := to_nat (Int.emod_nonneg _ (by decide))
        rw [enu]
        have hmod : (nu : Int) % (kd : Int) = ((nu % kd : Nat) : Int) := (Int.natCast_emod _ _).symm
        have hmlt : nu % kd < kd := Nat.mod_lt _ (by omega)
        refine ⟨_, rfl, _, rfl, _, _, rfl, rfl, (by show (0 : Int) < (kd : Int); omega), _, _, rfl, rfl, _, rfl, _, _, rfl, rfl, .inl ⟨by rw [hmod]; omega, by rw [hmod]; omega⟩, ?_⟩
        show gName 12 (.int ((1 - (nu : Int) % (kd : Int)) * far)) _ _ _
        obtain ⟨an, ean, han⟩ : ∃ z : Int, (1 - (nu : Int) % (kd : Int)) * far = z ∧ z.natAbs < 5 * 10 ^ 59 := by
          refine ⟨_, rfl, ?_⟩
          rw [Int.natAbs_mul]
          have h1 : (1 - (nu : Int) % (kd : Int)).natAbs ≤ 1 := by rw [hmod]; omega
          exact Nat.lt_of_le_of_lt (Nat.mul_le_mul_right _ h1) (by rw [Nat.one_mul]; exact hfar)
        rw [ean]
        refine ⟨_, rfl, rfl, _, rfl, ?_⟩
        rw [dec_int]
        have hgoal : ((nu / 6 % n : Nat) : Int) = (nu : Int) / 6 % (n : Int) := by rw [Int.natCast_emod, Int.natCast_ediv]; rfl
        have hlt : nu / 6 % n < n := Nat.mod_lt _ (by omega)
        cases efar : (far == 0) with
        | false =>
          refine iteF ?_
          have hk0 := hC.at
          obtain ⟨ps0, hq0⟩ := hk0
          refine ⟨_, rfl, .inl ⟨rfl, _, SqL.of hq0⟩, _, rfl, _, rfl, _, _, rfl, rfl, ⟨by decide, by decide⟩, _, rfl, _, _, rfl, rfl, (by show (0 : Int) < (n : Int); omega), (by show 2 ≤ sizeLine; decide), fun t nt => ?_⟩
          obtain ⟨ps, h1, h2, h3⟩ := hC.add (c := (an, nu / 6 % n)) (s1.trans s2) (s2 _ _ ho1) nt ⟨han, hlt⟩
          rw [show HO.tup [V.int an, V.int ((nu : Int) / 6 % (n : Int))] = cellV (an, nu / 6 % n) from by unfold cellV; rw [hgoal]]
          refine ⟨q, _, _, rfl, rfl, h1, ?_, ⟨_, _, _, _, _, rfl⟩, (s2.trans (Same.fresh nt)).upd nq, h3⟩
          rw [List.length_map, h2]
          exact small1000 (by omega)
        | true =>
          refine iteT ⟨(by show 3 ≤ sizeLine; decide), fun r nr => ?_⟩
          obtain ⟨an, hf, han⟩ : ∃ an : Int, atI [V.int 1, V.int 11, V.int 111] ((nu : Int) % 3) = some (.int an) ∧ an.natAbs < 5 * 10 ^ 59 := by
            have h4 : (nu : Int) % 3 = 0 ∨ (nu : Int) % 3 = 1 ∨ (nu : Int) % 3 = 2 := by omega
            rcases h4 with e | e | e <;> rw [e]
            · exact ⟨1, rfl, by decide⟩
            · exact ⟨11, rfl, by decide⟩
            · exact ⟨111, rfl, by decide⟩
          refine ⟨_, rfl, _, _, rfl, rfl, p3, _, _, _, _, rfl, rfl, SqL.of upd_same, hf, ?_⟩
          have s2' := s2.trans (Same.fresh (o := .lst [V.int 1, V.int 11, V.int 111]) nr)
          have hC' : CellsB H o q n j (upd H2 r (.lst [V.int 1, V.int 11, V.int 111])) := hC.mono (Same.fresh nr)
          revert s2' hC'
          generalize upd H2 r (.lst [V.int 1, V.int 11, V.int 111]) = H3
          clear s2 hC hS2
          intro s2 hC
          have hk0 := hC.at
          obtain ⟨ps0, hq0⟩ := hk0
          refine ⟨_, rfl, .inl ⟨rfl, _, SqL.of hq0⟩, _, rfl, _, rfl, _, _, rfl, rfl, ⟨by decide, by decide⟩, _, rfl, _, _, rfl, rfl, (by show (0 : Int) < (n : Int); omega), (by show 2 ≤ sizeLine; decide), fun t nt => ?_⟩
          obtain ⟨ps, h1, h2, h3⟩ := hC.add (c := (an, nu / 6 % n)) (s1.trans s2) (s2 _ _ ho1) nt ⟨han, hlt⟩
          rw [show HO.tup [V.int an, V.int ((nu : Int) / 6 % (n : Int))] = cellV (an, nu / 6 % n) from by unfold cellV; rw [hgoal]]
          refine ⟨q, _, _, rfl, rfl, h1, ?_, ⟨_, _, _, _, _, rfl⟩, (s2.trans (Same.fresh nt)).upd nq, h3⟩
          rw [List.length_map, h2]
          exact small1000 (by omega)
      · rintro σ H2 ⟨⟨v8, v9, v10, v11, v12, rfl⟩, s2, hC⟩
        obtain ⟨rs, h1, h2, h3⟩ := hR.add s1 s2 nq hC
        refine ⟨_, rfl, .inl ⟨rfl, _, SqL.of h1⟩, _, rfl, o, _, _, rfl, rfl, h1, ?_, ⟨_, _, _, _, _, _, _, rfl⟩, (s1.trans s2).upd no0, h3⟩
        rw [List.length_map, h2]
        exact small1000 (by omega)
    · rintro σ H1 ⟨⟨v6, v7, v8, v9, v10, v11, v12, rfl⟩, s1, hR⟩
      obtain ⟨M, h1, h2, h3⟩ := hR.done no0 (by omega) (by omega)
      exact ⟨_, rfl, k H1 o kk n M s1 h1 h2 hk3 hn4 h3⟩
end
end Pw

namespace Pw
open PySem PySem.Spec PyProof.Rows L2 SX
open C8 (Cal Met Mak pe_c pe_mt pe_mt0 pe_gc sl_txt)
/-! ### the places of the kernel's states -/
structure OfI (n m : Nat) (of : List Nat) : Prop where
  len : of.length = m
  lt : ∀ x ∈ of, x < n
  all : ∀ s, s < n → s ∈ of
theorem OfI.init {n m : Nat} (hn : 0 < n) (h : n ≤ m) : OfI n m (0 :: (List.range (m - 1)).map fun i => (1 + i) % n) := by
  refine ⟨by rw [List.length_cons, List.length_map, List.length_range]; omega, fun x hx => ?_, fun s hs => ?_⟩
  · rcases List.mem_cons.mp hx with e | e
    · omega
    · obtain ⟨i, _, e⟩ := List.mem_map.mp e
      rw [← e]; exact Nat.mod_lt _ hn
  · by_cases z : s = 0
    · rw [z]; exact List.mem_cons_self
    · refine List.mem_cons_of_mem _ (List.mem_map.mpr ⟨s - 1, List.mem_range.mpr (by omega), ?_⟩)
      show (1 + (s - 1)) % n = s
      rw [show 1 + (s - 1) = s by omega]
      exact Nat.mod_eq_of_lt hs
theorem OfI.swap {n m : Nat} {of : List Nat} (h : OfI n m of) {j k x y : Nat} (hj : of[j]? = some x) (hk : of[k]? = some y) : OfI n m ((of.set j y).set k x) := by
  have jl := (List.getElem?_eq_some_iff.mp hj).1
  have kl := (List.getElem?_eq_some_iff.mp hk).1
  refine ⟨by rw [List.length_set, List.length_set, h.len], fun z hz => ?_, fun s hs => ?_⟩
  · rcases List.mem_or_eq_of_mem_set hz with e | e
    · rcases List.mem_or_eq_of_mem_set e with e | e
      · exact h.lt z e
      · rw [e]; exact h.lt y (List.mem_of_getElem? hk)
    · rw [e]; exact h.lt x (List.mem_of_getElem? hj)
  · obtain ⟨i, hi, e⟩ := List.getElem_of_mem (h.all s hs)
    have ei : of[i]? = some s := by rw [List.getElem?_eq_getElem hi, e]
    by_cases a : i = j
    · subst a
      rw [ei] at hj
      cases hj
      exact List.mem_of_getElem? (i := k) (List.getElem?_set_self (by rw [List.length_set]; exact kl))
    · by_cases b : i = k
      · subst b
        rw [ei] at hk
        cases hk
        refine List.mem_of_getElem? (i := j) ?_
        rw [List.getElem?_set_ne a, List.getElem?_set_self jl]
      · refine List.mem_of_getElem? (i := i) ?_
        rw [List.getElem?_set_ne (Ne.symm b), List.getElem?_set_ne (Ne.symm a), ei]
theorem natsV_set (l : List Nat) (j x : Nat) : (natsV l).set j (V.int (x : Int)) = natsV (l.set j x) := by
  unfold natsV
  rw [List.map_set]
theorem at_natZ {l : List Nat} {i x : Nat} {z : Int} (h : l[i]? = some x) (e : z = (i : Int)) : atI (natsV l) z = some (.int (x : Int)) := by rw [e]; exact at_nat h
section
variable {P : Program} {w : World} {K : PySem.W.Frag} {mg : Str → Option Value} {base : Heap}
abbrev slaw_stream : Stmt := top 141
abbrev nlaw_stream : List Str := ["_law_cell", "_law_many_here", "_law_found", "_law_number", "_law_k"]
theorem sclaw_stream : FnScope nlaw_stream ["_law_cell", "_law_many_here"] (defScope slaw_stream) := ⟨rfl, rfl, rfl, by decide +kernel, rfl, by decide +kernel, by decide +kernel⟩
theorem blaw_stream {K : PySem.W.Frag} {f : Addr} {fd : FuncData} (F : FunD K "_law_stream" "_law_stream" (defArgs slaw_stream) (defBody slaw_stream) (defScope slaw_stream) [] [] f fd) : Binds K fd ["_law_cell", "_law_many_here"] [] := F.bindsN fun _ _ _ _ _ _ us hl => match us, hl with | [_, _], _ => rfl
def spStream : Sp := fun vs H Q _ => ∃ c : Int, vs = [.int c, .int 40] ∧ ∀ (H' : Hp) (q : Addr) (xs : List Nat), Same H H' → nw H H' q = some (.lst (natsV xs)) → xs.length = 40 → Q (.ref q) H'
theorem c_law_stream (D : DefAt K mg "_law_stream" slaw_stream) (T : Txt K mg) : Cal P w K mg base 1 "_law_stream" spStream [] := by
  refine mkCal D blaw_stream sclaw_stream (fun vs H Q E h => ?_) fun f cdv A outer s H vs Q E hr h => ?_
  · obtain ⟨c, rfl, _⟩ := h; rfl
  · obtain ⟨c, rfl, k⟩ := h
    have nd := sclaw_stream.nd
    refine ⟨_, pss_cons (ps_set (i := 2) nd rfl (Or.inl rfl) (pe_lst pa_nil))
      (pss_cons (ps_set (i := 3) nd rfl (Or.inl rfl) (pe_op op_add (pe_op op_mod (pv 0) pe_int) pe_int))
      (pss_cons (ps_for PassesOwn.never rfl (pi_range1 rfl T.n_range (pa_cons (pv 1) pa_nil)) (pg_name (i := 4) nd rfl (Or.inl rfl))
      (pss_cons (ps_set (i := 3) nd rfl (Or.inl rfl) (pe_op op_mod (pe_op op_add (pe_op op_add (pe_op op_add (pe_op op_mul (pv 3) (pv 3)) (pe_op op_mul pe_int (pv 3))) (pe_op op_mul pe_int (pv 4))) pe_int) pe_int))
        (pss_one (ps_expr (pe_bm PySem.F.plainAttrs_list PySem.F.slot_list_append PySem.F.type_list_append mt_append (pv 2) (pa_cons (pv 3) pa_nil))))))
      (pss_one (ps_ret (pv 2))))), ?_⟩
    refine ⟨(by show 0 ≤ sizeLine; decide), fun q nq => ?_⟩
    have hM : (0 : Int) < 1000000009 := by decide
    refine ⟨_, rfl, _, _, rfl, rfl, hM, _, _, rfl, rfl, ?_⟩
    show gName 3 (.int (c % 1000000009 + 12345)) _ _ _
    obtain ⟨z0, ez, hz0⟩ : ∃ z : Nat, c % 1000000009 + 12345 = (z : Int) ∧ z < 2000000000 := ⟨(c % 1000000009 + 12345).toNat, by omega, by omega⟩
    rw [ez]
    refine ⟨_, rfl, 40, rfl, by omega, by omega, for_range (lo := 0) (n := 40) (fun i σ H' => (∃ (z : Nat) (v4 : Option V), σ = [some (.int c), some (.int 40), some (.ref q), some (.int (z : Int)), v4] ∧ z < 2000000000) ∧ Same H H' ∧ ∃ xs : List Nat, H' q = some (.lst (natsV xs)) ∧ xs.length = i)
      ⟨⟨z0, none, rfl, hz0⟩, Same.fresh nq, [], upd_same, rfl⟩ ?_ ?_⟩
    · rintro i σ H1 hi ⟨⟨z, v4, rfl, hz⟩, s1, xs, hq, hl⟩
      rw [Int.zero_add]
      refine ⟨_, rfl, _, rfl, _, _, rfl, rfl, .inl ⟨by omega, by omega⟩, _, rfl, _, _, rfl, rfl, .inl ⟨by decide, by decide⟩, _, _, rfl, rfl, _, rfl, _, _, rfl, rfl, .inl ⟨by decide, by decide⟩, _, _, rfl, rfl, _, _, rfl, rfl, _, _, rfl, rfl, hM, ?_⟩
      show gName 3 (.int (((z : Int) * (z : Int) + 77 * (z : Int) + 12345 * (i : Int) + 4) % 1000000009)) _ _ _
      generalize (z : Int) * (z : Int) + 77 * (z : Int) + 12345 * (i : Int) + 4 = big
      obtain ⟨y, ey, hy⟩ : ∃ y : Nat, big % 1000000009 = (y : Int) ∧ y < 2000000000 := ⟨(big % 1000000009).toNat, by omega, by omega⟩
      rw [ey]
      refine ⟨_, rfl, .inl ⟨rfl, _, SqL.of hq⟩, _, rfl, q, _, _, rfl, rfl, hq, ?_, ⟨y, _, rfl, hy⟩, s1.upd nq, xs ++ [y], by rw [upd_same, natsV_snoc], by rw [List.length_append, hl]; rfl⟩
      unfold natsV
      rw [List.length_map, hl]
      exact small1000 (by omega)
    · rintro σ H1 ⟨⟨z, v4, rfl, hz⟩, s1, xs, hq, hl⟩
      exact ⟨_, rfl, k H1 q xs s1 (by rw [nw_at nq]; exact hq) hl⟩
abbrev slaw_blown : Stmt := top 142
abbrev nlaw_blown : List Str := ["_law_kernel_here", "_law_cell", "_law_xs", "_law_many_here", "_law_k", "_law_of", "_law_j", "_law_held", "_law_rows", "_law_row", "_law_a", "_law_answer", "_law_there", "_law_some"]
theorem sclaw_blown : FnScope nlaw_blown ["_law_kernel_here", "_law_cell"] (defScope slaw_blown) := ⟨rfl, rfl, rfl, by decide +kernel, rfl, by decide +kernel, by decide +kernel⟩
theorem blaw_blown {K : PySem.W.Frag} {f : Addr} {fd : FuncData} (F : FunD K "_law_blown" "_law_blown" (defArgs slaw_blown) (defBody slaw_blown) (defScope slaw_blown) [] [] f fd) : Binds K fd ["_law_kernel_here", "_law_cell"] [] := F.bindsN fun _ _ _ _ _ _ us hl => match us, hl with | [_, _], _ => rfl
def spBlown : Sp := fun vs H Q _ => ∃ (a : Addr) (c : Int) (k n : Nat) (M : Mach), vs = [.ref a, .int c] ∧ MachAt H a M ∧ Ok k n M ∧ k ≤ 3 ∧ n ≤ 4 ∧ (∀ row ∈ M, Bd k n row) ∧
  ∀ (H' : Hp) (b : Addr) (m : Nat) (N : Mach), Same H H' → MachAt (nw H H') b N → Ok k m N → m ≤ 10 → (∀ row ∈ N, Bd k m row) → Q (.ref b) H'
theorem c_law_blown (D : DefAt K mg "_law_blown" slaw_blown) (T : Txt K mg) (C__law_stream : Cal P w K mg base 1 "_law_stream" spStream []) : Cal P w K mg base 2 "_law_blown" spBlown [] := by
  refine mkCal D blaw_blown sclaw_blown (fun vs H Q E h => ?_) fun f cdv A outer s H vs Q E hr h => ?_
  · obtain ⟨a, c, k, n, M, rfl, _⟩ := h; rfl
  · obtain ⟨a, c, kk, n, M, rfl, hM, hO, hk, hn4, hB, k⟩ := h
    have nd := sclaw_blown.nd
    refine ⟨_, pss_cons (ps_set (i := 2) nd rfl (Or.inl rfl) (pe_c C__law_stream hr (by decide) rfl (pa_cons (pv 1) (pa_cons pe_int pa_nil))))
      (pss_cons (ps_set (i := 3) nd rfl (Or.inl rfl) (pe_callB (id := "max") (call_max2 rfl) rfl T.n_max (by decide +kernel) (pa_cons (pe_callB (id := "len") call_len_seq rfl T.n_len (by decide +kernel) (pa_cons (pv 0) pa_nil)) (pa_cons (pe_op op_add pe_int (pe_op op_mod (pv 1) pe_int)) pa_nil))))
      (pss_cons (ps_set (i := 5) nd rfl (Or.inr rfl) (pe_op op_cat (pe_lst (pa_cons pe_int pa_nil)) (pe_lc (own := [("_law_k", 4)]) rfl nd (pi_range2 rfl T.n_range (pa_cons pe_int (pa_cons (pv 3) pa_nil))) (blkOk_by (N := nlaw_blown) (sc := defScope slaw_blown) (by decide +kernel)) (fun _ _ _ _ _ => pg_name (i := 4) nd rfl (Or.inl rfl)) (fun _ _ _ _ _ => pts_nil) (fun _ _ _ _ _ => (pe_op op_mod (pv 4) (pe_callB (id := "len") (call_len_seqK K) rfl T.n_len (by decide +kernel) (pa_cons (pv 0) pa_nil)))))))
      (pss_cons (ps_for PassesOwn.never rfl (pi_range2 rfl T.n_range (pa_cons pe_int (pa_cons (pv 3) pa_nil))) (pg_name (i := 4) nd rfl (Or.inl rfl))
      (pss_cons (ps_set (i := 6) nd rfl (Or.inl rfl) (pe_op op_add pe_int (pe_op op_mod (pe_ix ix_list (pv 2) (pv 4) (fun _ _ => rfl)) (pe_op op_sub (pv 3) pe_int))))
        (pss_cons (ps_set (i := 7) nd rfl (Or.inl rfl) (pe_ix ix_list (pv 5) (pv 6) (fun _ _ => rfl)))
        (pss_cons (ps_asg (pe_ix ix_list (pv 5) (pv 4) (fun _ _ => rfl)) (pg_sub (pv 5) (pv 6) set_list))
        (pss_one (ps_asg (pv 7) (pg_sub (pv 5) (pv 4) set_list)))))))
      (pss_cons (ps_set (i := 8) nd rfl (Or.inl rfl) (pe_lst pa_nil))
      (pss_cons (ps_for PassesOwn.never rfl (pi_range1 rfl T.n_range (pa_cons (pv 3) pa_nil)) (pg_name (i := 4) nd rfl (Or.inl rfl))
      (pss_cons (ps_set (i := 9) nd rfl (Or.inl rfl) (pe_lst pa_nil))
        (pss_cons (ps_for PassesOwn.never rfl (pi_range1 rfl T.n_range (pa_cons (pe_callB (id := "len") call_len_seq rfl T.n_len (by decide +kernel) (pa_cons (pe_ix ix_list (pv 0) pe_int (fun _ _ => rfl)) pa_nil)) pa_nil)) (pg_name (i := 10) nd rfl (Or.inl rfl))
        (pss_cons (ps_asg (pe_ix ix_list (pe_ix ix_list (pv 0) (pe_ix ix_list (pv 5) (pv 4) (fun _ _ => rfl)) (fun _ _ => rfl)) (pv 10) (fun _ _ => rfl)) (pg_tup rfl (pgs_cons (pg_name (i := 11) nd rfl (Or.inl rfl)) (pgs_cons (pg_name (i := 12) nd rfl (Or.inr rfl)) pgs_nil))))
          (pss_cons (ps_setLc (i := 13) rfl nd rfl rfl (sw_true rfl rfl rfl (by decide +kernel)) (own := [("_law_j", 6)]) (pi_range1 rfl T.n_range (pa_cons (pv 3) pa_nil)) (blkOk_by (N := nlaw_blown) (sc := defScope slaw_blown) (by decide +kernel)) (fun _ _ _ _ _ => pg_name (i := 6) nd rfl (Or.inl rfl)) (fun _ _ _ _ _ => pts_one (pt_cmpR op_eq (pe_ix (ix_listK K) (pv 5) (pv 6) (fun _ _ => rfl)) (pv 12) (nomark _))) (fun _ _ _ _ _ => (pv 6)))
          (pss_one (ps_expr (pe_bm PySem.F.plainAttrs_list PySem.F.slot_list_append PySem.F.type_list_append mt_append (pv 9) (pa_cons (pe_tup (pa_cons (pv 11) (pa_cons (pe_ix ix_list (pv 13) (pe_op op_mod (pe_op op_fdiv (pe_ix ix_list (pv 2) (pe_op op_add (pe_op op_add pe_int (pe_op op_mul pe_int (pv 4))) (pv 10)) (fun _ _ => rfl)) pe_int) (pe_callB (id := "len") call_len_seq rfl T.n_len (by decide +kernel) (pa_cons (pv 13) pa_nil))) (fun _ _ => rfl)) pa_nil))) pa_nil)))))))
        (pss_one (ps_expr (pe_bm PySem.F.plainAttrs_list PySem.F.slot_list_append PySem.F.type_list_append mt_append (pv 8) (pa_cons (pv 9) pa_nil)))))))
      (pss_one (ps_ret (pv 8)))))))), ?_⟩
    have hn0 := hO.pos
    obtain ⟨ra, hA, hRs⟩ := id hM
    have hlA : (ra.map V.ref).length = n := by rw [List.length_map, hRs.len, hO.len]
    refine ⟨_, rfl, c, rfl, fun H1 xsA xs s1 hxs hxl => ?_⟩
    have hxs1 := (nw_some hxs).2
    have hA1 := s1 _ _ hA
    refine ⟨_, rfl, a, _, rfl, .inl (SqL.of hA1), _, rfl, _, _, rfl, rfl, (by show (0 : Int) < 10; decide), _, _, rfl, rfl, _, _, rfl, ?_⟩
    show gName 3 (.int (if 1 + c % 10 > ((ra.map V.ref).length : Int) then 1 + c % 10 else ((ra.map V.ref).length : Int))) _ _ _
    obtain ⟨m, em, hm1, hm2⟩ : ∃ m : Nat, (if 1 + c % 10 > ((ra.map V.ref).length : Int) then 1 + c % 10 else ((ra.map V.ref).length : Int)) = (m : Int) ∧ n ≤ m ∧ m ≤ 10 := by
      rw [hlA]
      refine ⟨(if 1 + c % 10 > (n : Int) then 1 + c % 10 else (n : Int)).toNat, ?_, ?_, ?_⟩ <;> split <;> omega
    rw [em]
    refine ⟨(by show 1 ≤ sizeLine; decide), fun z1 nz1 => ?_⟩
    have s2 := s1.trans (Same.fresh (o := .lst [V.int 0]) nz1)
    have em1 : ((m : Int) - 1).toNat = m - 1 := by omega
    refine ⟨_, rfl, _, _, rfl, ⟨by omega, by omega, by omega, by omega⟩, fun D1 nD1 => ?_⟩
    rw [em1]
    have n1D : z1 ≠ D1 := ne_of_none upd_same nD1
    refine lc_range (lo := 1) (n := m - 1) (fun i H' => Same (upd H1 z1 (.lst [V.int 0])) H' ∧ H' D1 = some (.lst (natsV ((List.range i).map fun i => (1 + i) % n))))
      ⟨Same.fresh nD1, upd_same⟩ ?_ ?_
    · rintro i H2 hi ⟨s3, hD⟩
      have hA2 := s3 _ _ ((Same.fresh nz1) _ _ hA1)
      refine ⟨rfl, ?_⟩
      refine ⟨_, rfl, _, rfl, a, _, rfl, .inl (SqL.of hA2), _, _, rfl, rfl, (by rw [hlA]; omega), _, hD, ?_, s3.upd nD1, ?_⟩
      · unfold natsV
        rw [List.length_map, List.length_map, List.length_range]
        exact small1000 (by omega)
      · rw [upd_same, hlA, List.range_succ, List.map_append]
        have e : V.int ((1 + (i : Int)) % (n : Int)) = V.int (((1 + i) % n : Nat) : Int) := by rw [Int.natCast_emod]; rfl
        show some (HO.lst (natsV _ ++ [V.int ((1 + (i : Int)) % (n : Int))])) = _
        rw [e, natsV_snoc]
        rfl
    rintro H2 ⟨s3, hD⟩
    have hz2 := s3 z1 (.lst [V.int 0]) upd_same
    refine ⟨_, _, _, _, rfl, rfl, hz2, hD, ?_, fun o no => ?_⟩
    · unfold natsV
      rw [List.length_map, List.length_map, List.length_range]
      show 1 + (m - 1) ≤ sizeLine
      rw [sizeLine_eq]; omega
    have ho : (upd H2 o (.lst ([V.int 0] ++ natsV ((List.range (m - 1)).map fun i => (1 + i) % n)))) o = some (.lst (natsV (0 :: (List.range (m - 1)).map fun i => (1 + i) % n))) := upd_same
    have s4 : Same H1 (upd H2 o (.lst ([V.int 0] ++ natsV ((List.range (m - 1)).map fun i => (1 + i) % n)))) := ((Same.fresh nz1).trans s3).trans (Same.fresh no)
    have no1 : H1 o = none := ((Same.fresh nz1).trans s3).free no
    have hof0 := OfI.init hn0 hm1
    revert ho s4
    generalize upd H2 o (.lst ([V.int 0] ++ natsV ((List.range (m - 1)).map fun i => (1 + i) % n))) = H3
    generalize (0 :: (List.range (m - 1)).map fun i => (1 + i) % n) = of0 at hof0
    intro ho s4
    clear s3 hD hz2 no em
    refine ⟨_, rfl, _, _, rfl, ⟨by omega, by omega, by omega, by omega⟩, ?_⟩
    rw [em1]
    refine for_range (lo := 1) (n := m - 1) (fun i σ H' => (∃ v4 v6 v7, σ = [some (.ref a), some (.int c), some (.ref xsA), some (.int (m : Int)), v4, some (.ref o), v6, v7, none, none, none, none, none, none]) ∧ Same H1 H' ∧ ∃ of : List Nat, H' o = some (.lst (natsV of)) ∧ OfI n m of)
      ⟨⟨none, none, none, rfl⟩, s4, of0, ho, hof0⟩ ?_ ?_
    · rintro i σ H4 hi ⟨⟨v4, v6, v7, rfl⟩, s5, of, ho4, hof⟩
      rw [show (1 : Int) + (i : Int) = ((1 + i : Nat) : Int) by omega]
      obtain ⟨x, hx⟩ : ∃ x, xs[1 + i]? = some x := ⟨_, List.getElem?_eq_getElem (by omega)⟩
      refine ⟨_, rfl, _, rfl, _, _, _, _, rfl, rfl, SqL.of (s5 _ _ hxs1), at_nat hx, _, rfl, _, _, rfl, rfl, _, _, rfl, rfl, (by show (0 : Int) < (m : Int) - 1; omega), _, _, rfl, rfl, ?_⟩
      show gName 6 (.int (1 + (x : Int) % ((m : Int) - 1))) _ _ _
      obtain ⟨j, ej, hj⟩ : ∃ j : Nat, 1 + (x : Int) % ((m : Int) - 1) = (j : Int) ∧ j < m := by
        have h1 := Int.emod_nonneg (x : Int) (show (m : Int) - 1 ≠ 0 by omega)
        have h2 := Int.emod_lt_of_pos (x : Int) (show (0 : Int) < (m : Int) - 1 by omega)
        exact ⟨(1 + (x : Int) % ((m : Int) - 1)).toNat, by omega, by omega⟩
      rw [ej]
      obtain ⟨oj, hoj⟩ : ∃ x, of[j]? = some x := ⟨_, List.getElem?_eq_getElem (by rw [hof.len]; exact hj)⟩
      obtain ⟨ok, hok⟩ : ∃ x, of[1 + i]? = some x := ⟨_, List.getElem?_eq_getElem (by rw [hof.len]; omega)⟩
      have hlo : (natsV of).length = m := by unfold natsV; rw [List.length_map, hof.len]
      refine ⟨_, rfl, _, rfl, _, _, _, _, rfl, rfl, SqL.of ho4, at_nat hoj, ?_⟩
      refine ⟨_, rfl, _, rfl, _, _, _, _, rfl, rfl, SqL.of ho4, at_nat hok, _, rfl, _, rfl, o, _, _, _, rfl, rfl, ho4, ixN_nat (by rw [hlo]; exact hj), ?_⟩
      refine ⟨_, rfl, _, rfl, _, rfl, o, _, _, _, rfl, rfl, upd_same, ixN_nat (by rw [List.length_set, hlo]; omega), ⟨_, _, _, rfl⟩, (s5.upd no1).upd no1, _, ?_, hof.swap hoj hok⟩
      rw [upd_same, natsV_set, natsV_set]
    rintro σ H4 ⟨⟨v4, v6, v7, rfl⟩, s5, of, ho4, hof⟩
    clear hof0 ho s4 of0
    have s05 : Same H H4 := s1.trans s5
    have no0 : H o = none := s1.free no1
    -- the rows
    refine ⟨(by show 0 ≤ sizeLine; decide), fun b nb => ?_⟩
    have nb0 : H b = none := s05.free nb
    refine ⟨_, rfl, (m : Int), rfl, by omega, by omega, for_range (lo := 0) (n := m) (fun i σ H' => (∃ v4 v6 v9 v10 v11 v12 v13, σ = [some (.ref a), some (.int c), some (.ref xsA), some (.int (m : Int)), v4, some (.ref o), v6, v7, some (.ref b), v9, v10, v11, v12, v13]) ∧ Same H4 H' ∧ RowsB H b kk m i H')
      ⟨⟨v4, v6, none, none, none, none, none, rfl⟩, Same.fresh nb, RowsB.init⟩ ?_ ?_⟩
    · rintro i σ H5 hi ⟨⟨v4, v6, v9, v10, v11, v12, v13, rfl⟩, s6, hR⟩
      rw [Int.zero_add]
      refine ⟨(by show 0 ≤ sizeLine; decide), fun q nq => ?_⟩
      have s06 : Same H H5 := s05.trans s6
      have nq0 : H q = none := s06.free nq
      obtain ⟨rs0, M0, hb5, _⟩ := id hR
      obtain ⟨ri, hri⟩ : ∃ x, of[i]? = some x := ⟨_, List.getElem?_eq_getElem (by rw [hof.len]; exact hi)⟩
      have hrin : ri < n := hof.lt ri (List.mem_of_getElem? hri)
      obtain ⟨row0, hr0, hrl0, _⟩ := hO.at hn0
      have sq5 := Same.fresh (o := .lst []) nq
      obtain ⟨rs', r0, g1, g2, ps0, g3⟩ := (hM.mono (s06.trans sq5)).at hr0
      refine ⟨_, rfl, _, _, _, _, rfl, rfl, SqL.of g1, g2, r0, _, rfl, .inl (SqL.of g3.lst), (kk : Int), (by rw [List.length_map, g3.len, hrl0]), by omega, by omega, for_range (lo := 0) (n := kk) (fun j σ H' => (∃ v6 v10 v11 v12 v13, σ = [some (.ref a), some (.int c), some (.ref xsA), some (.int (m : Int)), some (.int (i : Int)), some (.ref o), v6, v7, some (.ref b), some (.ref q), v10, v11, v12, v13]) ∧ Same H5 H' ∧ CellsB H b q m j H')
        ⟨⟨v6, v10, v11, v12, v13, rfl⟩, Same.fresh nq, CellsB.init⟩ ?_ ?_⟩
      · rintro j σ H6 hj ⟨⟨v6, v10, v11, v12, v13, rfl⟩, s7, hC⟩
        rw [Int.zero_add]
        have s07 : Same H H6 := s06.trans s7
        have s47 : Same H4 H6 := s6.trans s7
        obtain ⟨rs1, r, ps, p, x1, x2, x3, x4, x5, x6⟩ := (hM.mono s07).cell hO hrin hj
        refine ⟨_, rfl, _, rfl, _, rfl, _, _, _, _, rfl, rfl, SqL.of (s47 _ _ ho4), at_nat hri, _, _, _, _, rfl, rfl, SqL.of x1, x2, _, rfl, _, _, _, _, rfl, rfl, SqL.of x3, x4, p, _, rfl, SqT.of x5, rfl, _, _, rfl, _, _, rfl, rfl, ?_⟩
        refine ⟨_, rfl, (m : Int), rfl, by omega, by omega, fun D2 nD2 => ?_⟩
        refine lc_range (lo := 0) (n := m) (fun l H' => Same H6 H' ∧ ∃ F : List Nat, H' D2 = some (.lst (natsV F)) ∧ F.length ≤ l ∧ (∀ x ∈ F, x < m) ∧ ∀ l', l' < l → of[l']? = some (nxt M ri j) → F ≠ [])
          ⟨Same.fresh nD2, [], upd_same, Nat.le_refl _, (fun x hx => by cases hx), fun l' h => absurd h (Nat.not_lt_zero _)⟩ ?_ ?_
        · rintro l H7 hl ⟨s8, F, hD, hF1, hF2, hF3⟩
          rw [Int.zero_add]
          obtain ⟨ol, hol⟩ : ∃ x, of[l]? = some x := ⟨_, List.getElem?_eq_getElem (by rw [hof.len]; exact hl)⟩
          refine ⟨rfl, ?_⟩
          refine ⟨_, rfl, _, rfl, _, _, _, _, rfl, rfl, SqL.of (s8 _ _ (s47 _ _ ho4)), at_nat hol, _, rfl, rfl, _, rfl, ?_⟩
          by_cases z : ol = nxt M ri j
          · rw [decide_eq_true (show V.int (ol : Int) = V.int (nxt M ri j : Int) from by rw [z])]
            refine ⟨_, rfl, _, hD, ?_, (s8.upd nD2), F ++ [l], by rw [upd_same, natsV_snoc], by rw [List.length_append, List.length_singleton]; omega, fun x hx => ?_, fun l' _ _ => by simp⟩
            · unfold natsV
              rw [List.length_map]
              exact small1000 (by omega)
            · rcases List.mem_append.mp hx with hx | hx
              · exact hF2 x hx
              · rw [List.mem_singleton.mp hx]; exact hl
          · rw [decide_eq_false (show ¬ V.int (ol : Int) = V.int (nxt M ri j : Int) from fun q => by injection q with q; exact z (Int.ofNat.inj q))]
            refine ⟨s8, F, hD, by omega, hF2, fun l' h1 h2 => ?_⟩
            by_cases e : l' = l
            · subst e
              rw [hol] at h2
              exact absurd (Option.some.inj h2) z
            · exact hF3 l' (by omega) h2
        · rintro H7 ⟨s8, F, hD, hF1, hF2, hF3⟩
          obtain ⟨l0, hl0, el0⟩ := List.getElem_of_mem (hof.all _ x6)
          have hF0 : F ≠ [] := hF3 l0 (by rw [← hof.len]; exact hl0) (by rw [List.getElem?_eq_getElem hl0, el0])
          have hFp : 0 < F.length := List.length_pos_iff.mpr hF0
          have hFl : (natsV F).length = F.length := List.length_map _
          obtain ⟨x, hx⟩ : ∃ x, xs[10 + 3 * i + j]? = some x := ⟨_, List.getElem?_eq_getElem (by omega)⟩
          have hpick : x / 19 % F.length < F.length := Nat.mod_lt _ hFp
          obtain ⟨y, hy⟩ : ∃ y, F[x / 19 % F.length]? = some y := ⟨_, List.getElem?_eq_getElem hpick⟩
          have hym : y < m := hF2 y (List.mem_of_getElem? hy)
          have s48 : Same H4 H7 := s47.trans s8
          have hC7 : CellsB H b q m j H7 := hC.mono s8
          obtain ⟨pq, hq7⟩ := hC7.at
          have hxs7 := s48 _ _ (s5 _ _ hxs1)
          obtain ⟨rw0, hrw0, _, hrw2, _⟩ := hO.cell hrin hj
          have hrw1 := List.mem_of_getElem? hrw0
          have han : (ans M ri j).natAbs < 5 * 10 ^ 59 := by
            obtain ⟨row, e1, _, e3, _⟩ := hO.cell hrin hj
            exact ((hB row (List.mem_of_getElem? e1)).2 _ (List.mem_of_getElem? e3)).1
          refine ⟨_, rfl, .inl ⟨rfl, _, SqL.of hq7⟩, _, rfl, _, rfl, _, rfl, _, rfl, _, _, rfl, rfl, .inl ⟨by decide, by decide⟩, _, _, rfl, rfl, _, rfl, _, _, rfl, rfl, _, _, _, _, rfl, rfl, SqL.of hxs7, at_natZ hx (by omega), _, _, rfl, rfl, ⟨by decide, by decide⟩, _, rfl, D2, _, rfl, .inl (SqL.of hD), _, _, rfl, rfl, (by rw [hFl]; omega), _, _, _, _, rfl, rfl, SqL.of hD, at_natZ hy (by rw [hFl, Int.natCast_emod, Int.natCast_ediv]; rfl), (by show 2 ≤ sizeLine; decide), fun t nt => ?_⟩
          obtain ⟨pz, h1, h2, h3⟩ := hC7.add (c := (ans M ri j, y)) (s07.trans s8) ((s7.trans s8) _ _ hb5) nt ⟨han, hym⟩
          refine ⟨q, _, _, rfl, rfl, h1, ?_, ⟨_, _, _, _, _, rfl⟩, ((s7.trans s8).trans (Same.fresh nt)).upd nq, h3⟩
          rw [List.length_map, h2]
          exact small1000 (by omega)
      · rintro σ H6 ⟨⟨v6, v10, v11, v12, v13, rfl⟩, s7, hC⟩
        obtain ⟨rs, h1, h2, h3⟩ := hR.add s06 s7 nq hC
        refine ⟨_, rfl, .inl ⟨rfl, _, SqL.of h1⟩, _, rfl, b, _, _, rfl, rfl, h1, ?_, ⟨_, _, _, _, _, _, _, rfl⟩, (s6.trans s7).upd nb, h3⟩
        rw [List.length_map, h2]
        exact small1000 (by omega)
    · rintro σ H5 ⟨⟨v4, v6, v9, v10, v11, v12, v13, rfl⟩, s6, hR⟩
      obtain ⟨N, h1, h2, h3⟩ := hR.done nb0 hO.kpos (by omega)
      exact ⟨_, rfl, k H5 b m N (s05.trans s6) h1 h2 hm2 h3⟩
end
end Pw

namespace Pw
open PySem PySem.Spec PyProof.Rows L2 SX
open C8 (Cal Met Mak pe_c pe_mt pe_mt0 pe_gc sl_txt)
theorem refs_inj : ∀ {l m : List Addr}, l.map V.ref = m.map V.ref → l = m := fun h => map_inj' (fun a b e => by injection e) h
/-- the machine, one cell of one row put anew -/
def putN (rs : List Addr) (r : Addr) (N : Mach) (a : Nat) (c : Int × Nat) : Mach := (List.range N.length).map fun i => if rs[i]? = some r then (N.getD i []).set a c else N.getD i []
theorem putN_at {rs : List Addr} {r : Addr} {N : Mach} {a : Nat} {c : Int × Nat} {i : Nat} {row : Row} (h : N[i]? = some row) : (putN rs r N a c)[i]? = some (if rs[i]? = some r then row.set a c else row) := by
  unfold putN
  rw [List.getElem?_map, List.getElem?_range (List.getElem?_eq_some_iff.mp h).1]
  show some (if rs[i]? = some r then (N.getD i []).set a c else N.getD i []) = _
  rw [getD_of h]
theorem putN_len {rs : List Addr} {r : Addr} {N : Mach} {a : Nat} {c : Int × Nat} : (putN rs r N a c).length = N.length := by
  unfold putN
  rw [List.length_map, List.length_range]
theorem putN_mem {rs : List Addr} {r : Addr} {N : Mach} {a : Nat} {c : Int × Nat} {row : Row} (h : row ∈ putN rs r N a c) : ∃ row0 ∈ N, row = row0.set a c ∨ row = row0 := by
  obtain ⟨i, hi, e⟩ := List.getElem_of_mem h
  have hi2 : i < N.length := by rw [← putN_len (rs := rs) (r := r) (a := a) (c := c)]; exact hi
  have e2 := putN_at (rs := rs) (r := r) (a := a) (c := c) (List.getElem?_eq_getElem hi2)
  rw [List.getElem?_eq_getElem hi, e] at e2
  refine ⟨N[i], List.getElem_mem hi2, ?_⟩
  have e3 := Option.some.inj e2
  split at e3
  · exact .inl e3
  · exact .inr e3
theorem MachAt.put {H0 H : Hp} {b : Addr} {N : Mach} {k m s a : Nat} {t : Addr} (c : Int × Nat) (h : MachAt (nw H0 H) b N) (s0 : Same H0 H) (o : Ok k m N) (hs : s < m) (ha : a < k) (hc : c.2 < m) (nt : H t = none) :
    ∃ (rs : List Addr) (r : Addr) (ps : List Addr), H b = some (.lst (rs.map V.ref)) ∧ atI (rs.map V.ref) (s : Int) = some (.ref r) ∧ H r = some (.lst (ps.map V.ref)) ∧ ps.length = k ∧
      Same H0 (upd (upd H t (cellV c)) r (.lst ((ps.map V.ref).set a (.ref t)))) ∧ MachAt (nw H0 (upd (upd H t (cellV c)) r (.lst ((ps.map V.ref).set a (.ref t))))) b (putN rs r N a c) ∧ Ok k m (putN rs r N a c) := by
  obtain ⟨rs, hb, hR⟩ := h
  obtain ⟨nb, hb1⟩ := nw_some hb
  obtain ⟨row, hrow, hrl, hrm⟩ := o.at hs
  have hsl : s < rs.length := by rw [hR.len, o.len]; exact hs
  have ers := List.getElem?_eq_getElem hsl
  generalize rs[s] = r at ers
  obtain ⟨ps, hP⟩ := hR.row s r row ers hrow
  obtain ⟨nr, hr1⟩ := nw_some hP.lst
  have hpl : ps.length = k := hP.len.trans hrl
  have nbr : b ≠ r := fun z => by
    have e1 := hP.lst
    rw [← z, hb] at e1
    have e2 : rs.map V.ref = ps.map V.ref := by injection (Option.some.inj e1)
    have e3 := refs_inj e2
    obtain ⟨row0, hrow0, _, _⟩ := o.at o.pos
    have h0 : 0 < rs.length := by rw [hR.len, o.len]; exact o.pos
    obtain ⟨qs, hQ⟩ := hR.row 0 _ row0 (List.getElem?_eq_getElem h0) hrow0
    have h00 : 0 < row.length := by rw [hrl]; exact o.kpos
    have e4 := hP.cell 0 (rs[0]) _ (by rw [← e3]; exact List.getElem?_eq_getElem h0) (List.getElem?_eq_getElem h00)
    rw [hQ.lst] at e4
    cases e4
  have nbt : b ≠ t := ne_of_none hb1 nt
  have nrt : r ≠ t := ne_of_none hr1 nt
  have nt0 : H0 t = none := s0.free nt
  have key : ∀ (x : Addr) (u : HO), nw H0 H x = some u → x ≠ r → nw H0 (upd (upd H t (cellV c)) r (.lst ((ps.map V.ref).set a (.ref t)))) x = some u := fun x u e ne => by
    obtain ⟨e1, e2⟩ := nw_some e
    rw [nw_at e1, upd_ne ne, upd_ne (ne_of_none e2 nt)]
    exact e2
  have keyc : ∀ (x : Addr) (d : Int × Nat), nw H0 H x = some (cellV d) → nw H0 (upd (upd H t (cellV c)) r (.lst ((ps.map V.ref).set a (.ref t)))) x = some (cellV d) := fun x d e => key x _ e fun z => by
    rw [z, hP.lst] at e
    cases e
  refine ⟨rs, r, ps, hb1, at_ref ers, hr1, hpl, (s0.upd nt0).upd nr, ⟨rs, key b _ hb nbr, by rw [putN_len, hR.len], fun i r' row' e1 e2 => ?_⟩, ⟨by rw [putN_len, o.len], o.pos, o.kpos, fun row' hr' => ?_, fun row' hr' d hd => ?_⟩⟩
  · have hil : i < N.length := by rw [← hR.len]; exact (List.getElem?_eq_some_iff.mp e1).1
    have ei := List.getElem?_eq_getElem hil
    generalize N[i] = rowi at ei
    rw [putN_at ei] at e2
    obtain ⟨qs, hQ⟩ := hR.row i r' rowi e1 ei
    by_cases z : r' = r
    · subst z
      rw [if_pos e1] at e2
      have e2 := Option.some.inj e2
      subst e2
      have eq : qs = ps := by
        have e3 := hQ.lst
        rw [hP.lst] at e3
        have e4 : ps.map V.ref = qs.map V.ref := by injection (Option.some.inj e3)
        exact (refs_inj e4).symm
      subst eq
      refine ⟨qs.set a t, by rw [nw_at nr, upd_same, List.map_set], by rw [List.length_set, List.length_set, hQ.len], fun j p d f1 f2 => ?_⟩
      by_cases y : j = a
      · subst y
        rw [List.getElem?_set_self (by rw [hpl]; exact ha)] at f1
        have hjl : j < rowi.length := by
          have := (List.getElem?_eq_some_iff.mp f2).1
          rw [List.length_set] at this
          exact this
        rw [List.getElem?_set_self hjl] at f2
        rw [← Option.some.inj f1, ← Option.some.inj f2, nw_at nt0, upd_ne nrt.symm, upd_same]
      · rw [List.getElem?_set_ne (Ne.symm y)] at f1 f2
        exact keyc p d (hQ.cell j p d f1 f2)
    · rw [if_neg (fun q => z (by rw [e1] at q; exact Option.some.inj q))] at e2
      have e2 := Option.some.inj e2
      subst e2
      exact ⟨qs, key r' _ hQ.lst z, hQ.len, fun j p d f1 f2 => keyc p d (hQ.cell j p d f1 f2)⟩
  · obtain ⟨row0, h1, h2⟩ := putN_mem hr'
    rcases h2 with e | e <;> rw [e]
    · rw [List.length_set]; exact o.rows row0 h1
    · exact o.rows row0 h1
  · obtain ⟨row0, h1, h2⟩ := putN_mem hr'
    rcases h2 with e | e <;> rw [e] at hd
    · rcases List.mem_or_eq_of_mem_set hd with q | q
      · exact o.next row0 h1 d q
      · rw [q]; exact hc
    · exact o.next row0 h1 d hd
theorem putN_big {rs : List Addr} {r : Addr} {N : Mach} {k m a : Nat} {c : Int × Nat} (h : ∀ row ∈ N, Bd k m row) (hc : c.1.natAbs < 10 ^ 60) : ∀ row ∈ putN rs r N a c, ∀ d ∈ row, d.1.natAbs < 10 ^ 60 := fun row hr d hd => by
  obtain ⟨row0, h1, h2⟩ := putN_mem hr
  rcases h2 with e | e <;> rw [e] at hd
  · rcases List.mem_or_eq_of_mem_set hd with q | q
    · have := ((h row0 h1).2 d q).1
      omega
    · rw [q]; exact hc
  · have := ((h row0 h1).2 d hd).1
    omega
section
variable {P : Program} {w : World} {K : PySem.W.Frag} {mg : Str → Option Value} {base : Heap}
abbrev slaw_changed : Stmt := top 143
abbrev nlaw_changed : List Str := ["_law_rows", "_law_cell", "_law_s", "_law_a", "_law_answer", "_law_there"]
theorem sclaw_changed : FnScope nlaw_changed ["_law_rows", "_law_cell"] (defScope slaw_changed) := ⟨rfl, rfl, rfl, by decide +kernel, rfl, by decide +kernel, by decide +kernel⟩
theorem blaw_changed {K : PySem.W.Frag} {f : Addr} {fd : FuncData} (F : FunD K "_law_changed" "_law_changed" (defArgs slaw_changed) (defBody slaw_changed) (defScope slaw_changed) [] [] f fd) : Binds K fd ["_law_rows", "_law_cell"] [] := F.bindsN fun _ _ _ _ _ _ us hl => match us, hl with | [_, _], _ => rfl
def spChanged : Sp := fun vs H Q _ => ∃ (H0 : Hp) (b : Addr) (c : Int) (k m : Nat) (N : Mach), vs = [.ref b, .int c] ∧ Same H0 H ∧ MachAt (nw H0 H) b N ∧ Ok k m N ∧ (∀ row ∈ N, Bd k m row) ∧ m ≤ 10 ∧ k ≤ 3 ∧
  ∀ (H' : Hp) (N' : Mach), Same H0 H' → MachAt (nw H0 H') b N' → Ok k m N' → (∀ row ∈ N', ∀ d ∈ row, d.1.natAbs < 10 ^ 60) → Q .non H'
theorem c_law_changed (D : DefAt K mg "_law_changed" slaw_changed) (T : Txt K mg) : Cal P w K mg base 1 "_law_changed" spChanged [] := by
  refine mkCal D blaw_changed sclaw_changed (fun vs H Q E h => ?_) fun f cdv A outer s H vs Q E hr h => ?_
  · obtain ⟨H0, b, c, k, m, N, rfl, _⟩ := h; rfl
  · obtain ⟨H0, b, c, kk, m, N, rfl, s0, hN, hO, hB, hm, hk3, k⟩ := h
    have nd := sclaw_changed.nd
    refine ⟨_, pss_cons (ps_set (i := 2) nd rfl (Or.inl rfl) (pe_op op_mod (pv 1) (pe_callB (id := "len") call_len_seq rfl T.n_len (by decide +kernel) (pa_cons (pv 0) pa_nil))))
      (pss_cons (ps_set (i := 3) nd rfl (Or.inl rfl) (pe_op op_mod (pe_op op_fdiv (pv 1) pe_int) (pe_callB (id := "len") call_len_seq rfl T.n_len (by decide +kernel) (pa_cons (pe_ix ix_list (pv 0) pe_int (fun _ _ => rfl)) pa_nil))))
      (pss_cons (ps_asg (pe_ix ix_list (pe_ix ix_list (pv 0) (pv 2) (fun _ _ => rfl)) (pv 3) (fun _ _ => rfl)) (pg_tup rfl (pgs_cons (pg_name (i := 4) nd rfl (Or.inl rfl)) (pgs_cons (pg_name (i := 5) nd rfl (Or.inl rfl)) pgs_nil))))
      (pss_one (ps_if (pt_cmpR op_eq (pe_op op_mod (pe_op op_fdiv (pv 1) pe_int) pe_int) pe_int (nomark _))
      (pss_one (ps_asg (pe_tup (pa_cons (pe_op op_add (pv 4) pe_int) (pa_cons (pv 5) pa_nil))) (pg_sub (pe_ix ix_list (pv 0) (pv 2) (fun _ _ => rfl)) (pv 3) set_list)))
      (pss_one (ps_asg (pe_tup (pa_cons (pv 4) (pa_cons (pe_op op_mod (pe_op op_add (pe_op op_add (pv 5) pe_int) (pe_op op_mod (pe_op op_fdiv (pv 1) pe_int) pe_int)) (pe_callB (id := "len") call_len_seq rfl T.n_len (by decide +kernel) (pa_cons (pv 0) pa_nil))) pa_nil))) (pg_sub (pe_ix ix_list (pv 0) (pv 2) (fun _ _ => rfl)) (pv 3) set_list))))))), ?_⟩
    have hkp := hO.kpos
    have hmp := hO.pos
    have hN1 := hN.mono (Same.nw H0 H)
    obtain ⟨rb, hb1, hRb⟩ := id hN1
    have hlb : (rb.map V.ref).length = m := by rw [List.length_map, hRb.len, hO.len]
    obtain ⟨row0, hr0, hrl0, _⟩ := hO.at hmp
    obtain ⟨rs', r0, g1, g2, ps0, g3⟩ := hN1.at hr0
    refine ⟨_, rfl, _, rfl, b, _, rfl, .inl (SqL.of hb1), _, _, rfl, rfl, (by rw [hlb]; omega), ?_⟩
    show gName 2 (.int (c % ((rb.map V.ref).length : Int))) _ _ _
    obtain ⟨s, es, hs⟩ : ∃ s : Nat, c % ((rb.map V.ref).length : Int) = (s : Int) ∧ s < m := by
      rw [hlb]
      have h1 := Int.emod_nonneg c (show (m : Int) ≠ 0 by omega)
      have h2 := Int.emod_lt_of_pos c (show (0 : Int) < (m : Int) by omega)
      exact ⟨(c % (m : Int)).toNat, by omega, by omega⟩
    rw [es]
    refine ⟨_, rfl, _, _, rfl, rfl, ⟨by decide, by decide⟩, _, rfl, _, _, _, _, rfl, rfl, SqL.of g1, g2, r0, _, rfl, .inl (SqL.of g3.lst), _, _, rfl, rfl, (by rw [List.length_map, g3.len, hrl0]; omega), ?_⟩
    show gName 3 (.int (c / 10 % ((ps0.map V.ref).length : Int))) _ _ _
    have hl0 : (ps0.map V.ref).length = kk := by rw [List.length_map, g3.len, hrl0]
    obtain ⟨a, ea, ha⟩ : ∃ s : Nat, c / 10 % ((ps0.map V.ref).length : Int) = (s : Int) ∧ s < kk := by
      rw [hl0]
      have h1 := Int.emod_nonneg (c / 10) (show (kk : Int) ≠ 0 by omega)
      have h2 := Int.emod_lt_of_pos (c / 10) (show (0 : Int) < (kk : Int) by omega)
      exact ⟨(c / 10 % (kk : Int)).toNat, by omega, by omega⟩
    rw [ea]
    obtain ⟨rs1, r, ps, p, x1, x2, x3, x4, x5, x6⟩ := hN1.cell hO hs ha
    have han : (ans N s a).natAbs < 5 * 10 ^ 59 := by
      obtain ⟨row, e1, _, e3, _⟩ := hO.cell hs ha
      exact ((hB row (List.mem_of_getElem? e1)).2 _ (List.mem_of_getElem? e3)).1
    refine ⟨_, rfl, _, rfl, _, _, _, _, rfl, rfl, SqL.of x1, x2, _, rfl, _, _, _, _, rfl, rfl, SqL.of x3, x4, p, _, rfl, SqT.of x5, rfl, _, _, rfl, _, _, rfl, rfl, ?_⟩
    refine ⟨_, rfl, _, _, rfl, rfl, ⟨by decide, by decide⟩, _, _, rfl, rfl, (by show (0 : Int) < 2; decide), rfl, _, rfl, ?_⟩
    rw [dec_int]
    cases eq : (c / 30 % 2 == 0) with
    | true =>
      refine iteT ⟨_, rfl, _, _, rfl, rfl, _, rfl, (by show 2 ≤ sizeLine; decide), fun t nt => ?_⟩
      obtain ⟨rs, r2, ps2, y1, y2, y3, y4, y5, y6, y7⟩ := MachAt.put (a := a) (t := t) (ans N s a + 1, nxt N s a) hN s0 hO hs ha x6 nt
      have sT := Same.fresh (o := cellV (ans N s a + 1, nxt N s a)) nt
      refine ⟨_, rfl, _, rfl, _, _, _, _, rfl, rfl, SqL.of (sT _ _ y1), y2, _, rfl, r2, _, _, _, rfl, rfl, sT _ _ y3, ixN_nat (by rw [List.length_map, y4]; exact ha), ?_⟩
      refine k _ _ y5 y6 y7 (putN_big hB ?_)
      show (ans N s a + 1).natAbs < 10 ^ 60
      omega
    | false =>
      refine iteF ⟨_, rfl, _, rfl, _, _, rfl, rfl, _, rfl, _, _, rfl, rfl, ⟨by decide, by decide⟩, _, _, rfl, rfl, (by show (0 : Int) < 9; decide), _, _, rfl, rfl, _, rfl, b, _, rfl, .inl (SqL.of hb1), _, _, rfl, rfl, (by rw [hlb]; omega), (by show 2 ≤ sizeLine; decide), fun t nt => ?_⟩
      obtain ⟨th, eth, hth⟩ : ∃ z : Nat, ((nxt N s a : Int) + 1 + c / 60 % 9) % ((rb.map V.ref).length : Int) = (z : Int) ∧ z < m := by
        rw [hlb]
        have h1 := Int.emod_nonneg ((nxt N s a : Int) + 1 + c / 60 % 9) (show (m : Int) ≠ 0 by omega)
        have h2 := Int.emod_lt_of_pos ((nxt N s a : Int) + 1 + c / 60 % 9) (show (0 : Int) < (m : Int) by omega)
        exact ⟨(((nxt N s a : Int) + 1 + c / 60 % 9) % (m : Int)).toNat, by omega, by omega⟩
      rw [show HO.tup [V.int (ans N s a), V.int (((nxt N s a : Int) + 1 + c / 60 % 9) % ((rb.map V.ref).length : Int))] = cellV (ans N s a, th) from by unfold cellV; rw [eth]]
      obtain ⟨rs, r2, ps2, y1, y2, y3, y4, y5, y6, y7⟩ := MachAt.put (a := a) (t := t) (ans N s a, th) hN s0 hO hs ha hth nt
      have sT := Same.fresh (o := cellV (ans N s a, th)) nt
      refine ⟨_, rfl, _, rfl, _, _, _, _, rfl, rfl, SqL.of (sT _ _ y1), y2, _, rfl, r2, _, _, _, rfl, rfl, sT _ _ y3, ixN_nat (by rw [List.length_map, y4]; exact ha), ?_⟩
      refine k _ _ y5 y6 y7 (putN_big hB ?_)
      show (ans N s a).natAbs < 10 ^ 60
      omega
end
end Pw

namespace Pw
open PySem PySem.Spec PyProof.Rows L2 SX
open C8 (Cal Met Mak pe_c pe_mt pe_mt0 pe_gc sl_txt)
/-! ### all but the desk's dict stays -/
def Fr (H H' : Hp) (dd : Addr) : Prop := ∀ b o, H b = some o → b ≠ dd → H' b = some o
theorem Fr.trans {H H1 H2 : Hp} {dd : Addr} (h : Fr H H1 dd) (g : Fr H1 H2 dd) : Fr H H2 dd := fun b o e n => g b o (h b o e n) n
theorem Fr.of {H H' : Hp} {dd : Addr} (h : Same H H') : Fr H H' dd := fun b o e _ => h b o e
theorem Fr.wo {H H' : Hp} {dd : Addr} (h : Fr H H' dd) : Same (wo H dd) H' := fun b o e => h b o (wo_some e).2 (wo_some e).1
theorem MachAt.un {H : Hp} {x dd : Addr} {M : Mach} {kvs : List (Key × V)} (h : MachAt H x M) (e : H dd = some (.dK kvs)) : MachAt (wo H dd) x M := by
  obtain ⟨rs, h1, h2⟩ := h
  have key : ∀ {b : Addr} {o : HO}, H b = some o → o ≠ .dK kvs → wo H dd b = some o := fun hb ho => by
    rw [wo_at fun z => ho (by rw [z, e] at hb; exact (Option.some.inj hb).symm)]
    exact hb
  refine ⟨rs, key h1 (by intro z; cases z), h2.len, fun i r row e1 e2 => ?_⟩
  obtain ⟨ps, q1, q2, q3⟩ := h2.row i r row e1 e2
  exact ⟨ps, key q1 (by intro z; cases z), q2, fun j p c f1 f2 => key (q3 j p c f1 f2) (by intro z; cases z)⟩
theorem MachAt.fr {H H' : Hp} {x dd : Addr} {M : Mach} {kvs : List (Key × V)} (h : MachAt H x M) (e : H dd = some (.dK kvs)) (f : Fr H H' dd) : MachAt H' x M := (h.un e).mono f.wo
theorem putK_le (c : List (Key × V)) (k : Key) (x : V) : (putK c k x).length ≤ c.length + 1 := by
  unfold putK
  split
  · rw [List.length_map]; omega
  · rw [List.length_append]; exact Nat.le_refl _
theorem S_inj' {a b : List Nat} (h : S a = S b) : a = b := by
  have h2 : decide (V.str (S a) = V.str (S b)) = true := decide_eq_true (by rw [h])
  rw [dec_S] at h2
  exact of_decide_eq_true h2
theorem valV_putS {kvs : List (Key × V)} {y z : List Nat} {v : V} (h : z ≠ y) : valV (putK kvs (Sum.inr (S y)) v) (Sum.inr (S z)) = valV kvs (Sum.inr (S z)) := by
  rw [valV_put, if_neg fun e => h (S_inj' (Sum.inr.inj e))]
theorem valV_putS' {kvs : List (Key × V)} {y : List Nat} {v : V} : valV (putK kvs (Sum.inr (S y)) v) (Sum.inr (S y)) = some v := by
  rw [valV_put, if_pos rfl]
theorem Least.short {k : Nat} {M L : Mach} (h : Least k M L) (hn : M.length ≤ 30) (hk : k ≤ 5) (hb : ∀ row ∈ M, ∀ c ∈ row, c.1.natAbs < 10 ^ 60) : Short L := by
  refine ⟨Nat.le_trans h.len_le hn, fun r hr => by rw [h.ok.rows r hr]; exact hk, fun r hr c hc => ⟨?_, ?_⟩⟩
  · obtain ⟨r2, h2, d, h3, e⟩ := h.from_ r hr c hc
    rw [← e]
    exact hb r2 h2 d h3
  · have := h.ok.next r hr c hc
    have := h.len_le
    omega
abbrev lN : List Nat := [108]
theorem nameL : NameOk lN := ⟨by decide, by decide, by decide⟩
theorem nameMN {nm : List Nat} (h : nm = [109] ∨ nm = [110]) : NameOk nm := by rcases h with e | e <;> rw [e] <;> exact ⟨by decide, by decide, by decide⟩
theorem tx_least : Str.ofString "least l " = S (leastC ++ [32, 108, 32]) := TL.ext_tl (by decide +kernel)
theorem tx_same : Str.ofString "same l " = S (sameC ++ [32, 108, 32]) := TL.ext_tl (by decide +kernel)
theorem tx_show : Str.ofString "show l" = S (showC ++ [32, 108]) := TL.ext_tl (by decide +kernel)
theorem tx_ll : Str.ofString "least l l" = S (leastC ++ [32, 108, 32, 108]) := TL.ext_tl (by decide +kernel)
theorem sp_least {nm : List Nat} (h : nm = [109] ∨ nm = [110]) : TL.spl [32] 0 [] (leastC ++ [32, 108, 32] ++ nm) = [leastC, lN, nm] := by rcases h with e | e <;> rw [e] <;> decide
theorem sp_same {nm : List Nat} (h : nm = [109] ∨ nm = [110]) : TL.spl [32] 0 [] (sameC ++ [32, 108, 32] ++ nm) = [sameC, lN, nm] := by rcases h with e | e <;> rw [e] <;> decide
theorem sp_show : TL.spl [32] 0 [] (showC ++ [32, 108]) = [showC, lN] := by decide
theorem sp_ll : TL.spl [32] 0 [] (leastC ++ [32, 108, 32, 108]) = [leastC, lN, lN] := by decide
section
variable {P : Program} {w : World} {K : PySem.W.Frag} {mg : Str → Option Value} {base : Heap} {C rows mk : Addr}
abbrev slaw_least : Stmt := top 147
abbrev nlaw_least : List Str := ["_law_desk", "_law_name", "_law_rows", "_law_found"]
theorem sclaw_least : FnScope nlaw_least ["_law_desk", "_law_name", "_law_rows"] (defScope slaw_least) := ⟨rfl, rfl, rfl, by decide +kernel, rfl, by decide +kernel, by decide +kernel⟩
theorem blaw_least {K : PySem.W.Frag} {f : Addr} {fd : FuncData} (F : FunD K "_law_least" "_law_least" (defArgs slaw_least) (defBody slaw_least) (defScope slaw_least) [] [] f fd) : Binds K fd ["_law_desk", "_law_name", "_law_rows"] [] := F.bindsN fun _ _ _ _ _ _ us hl => match us, hl with | [_, _, _], _ => rfl
def spLawLeast (C : Addr) : Sp := fun vs H Q _ => ∃ (d dd x b : Addr) (kvs : List (Key × V)) (nm : List Nat) (k n : Nat) (M : Mach), vs = [.ref d, .str (S nm), .ref b] ∧ (nm = [109] ∨ nm = [110]) ∧ DeskAt C H d dd kvs ∧ kvs.length ≤ 50 ∧
  valV kvs (Sum.inr (S nm)) = some (.ref x) ∧ MachAt H x M ∧ MachAt H b M ∧ Fit k n M ∧
  ∀ (H' : Hp) (L : Mach) (kvs' : List (Key × V)), Fr H H' dd → DeskAt C H' d dd kvs' → kvs'.length ≤ kvs.length + 2 → (∀ y, y ≠ lN → valV kvs' (Sum.inr (S y)) = valV kvs (Sum.inr (S y))) → Least k M L → Q (.str (S (machL L))) H'
theorem c_law_least (D : DefAt K mg "_law_least" slaw_least) (T : DTxt K w mg C rows mk) (M_say : Met P w K mg base 9 C "say" (spSay C) []) (C__law_many : Cal P w K mg base 2 "_law_many" spMany []) : Cal P w K mg base 10 "_law_least" (spLawLeast C) [] := by
  refine mkCal D blaw_least sclaw_least (fun vs H Q E h => ?_) fun f cdv A outer s H vs Q E hr h => ?_
  · obtain ⟨d, dd, x, b, kvs, nm, k, n, M, rfl, _⟩ := h; rfl
  · obtain ⟨d, dd, x, b, kvs, nm, kk, n, M, rfl, hnm, hD, hfew, hv, hX, hB, hF, k⟩ := h
    have nd := sclaw_least.nd
    refine ⟨_, pss_cons (ps_if (pt_cmpR op_ne (pe_mt M_say hr (by decide) (pv 0) (pa_cons (pe_op op_add_str pe_str (pv 1)) pa_nil)) pe_str (nomark _))
      (pss_one (ps_ret pe_str))
      (pss_nil))
      (pss_cons (ps_set (i := 3) nd rfl (Or.inl rfl) (pe_mt M_say hr (by decide) (pv 0) (pa_cons pe_str pa_nil)))
      (pss_cons (ps_if (PW.pt (pw_or (pt_not (pt_val (pe_callB (id := "isinstance") call_isi rfl T.n_isinstance (by decide +kernel) (pa_cons (pv 3) (pa_cons (pe_bltn (v := .ty "str") rfl T.n_str (by decide +kernel) rfl) pa_nil))))) (pw_or1 (pt_cmpR op_ne (pe_callB (id := "len") call_len_seq rfl T.n_len (by decide +kernel) (pa_cons (pe_split (pv 3) pe_str) pa_nil)) (pe_c C__law_many hr (by decide) rfl (pa_cons (pv 2) pa_nil)) (nomark _)))))
      (pss_one (ps_ret pe_str))
      (pss_nil))
      (pss_cons (ps_if (PW.pt (pw_or (pt_cmpR op_ne (pe_mt M_say hr (by decide) (pv 0) (pa_cons (pe_op op_add_str pe_str (pv 1)) pa_nil)) pe_str (nomark _)) (pw_or (pt_cmpR op_ne (pe_mt M_say hr (by decide) (pv 0) (pa_cons pe_str pa_nil)) pe_str (nomark _)) (pw_or1 (pt_cmpR op_ne (pe_mt M_say hr (by decide) (pv 0) (pa_cons pe_str pa_nil)) (pv 3) (nomark _))))))
      (pss_one (ps_ret pe_str))
      (pss_nil))
      (pss_one (ps_ret (pv 3)))))), ?_⟩
    have hO := hF.ok
    have hk5 := hF.k5
    have hn30 := hF.n30
    have hsz : sizeLine = 16777216 := sizeLine_eq
    have hnl : nm.length = 1 := by rcases hnm with e | e <;> rw [e] <;> rfl
    obtain ⟨⟨dx, hd⟩, hdd, _⟩ := id hD
    refine ⟨_, rfl, d, dx, _, rfl, hd, look_other (by decide +kernel) dd, _, rfl, _, _, rfl, rfl, ?_, d, dd, kvs, leastC ++ [32, 108, 32] ++ nm, ?_, hD, ?_, .inr (.inl ⟨kk, n, M, lN, nm, x, sp_least hnm, nameL, nameMN hnm, hv, hX, hO, hk5, hn30, fun H1 a1 L f1 hdd1 hL1 hL => ?_⟩)⟩
    · rw [tx_least, S_len, S_len, hnl, hsz]; decide
    · rw [tx_least, S_cat]; rfl
    · rw [List.length_append, hnl]; decide
    have ad1 : (nw H H1) = nw H H1 := rfl
    have hd1 := f1 _ _ hd (ne_of hd hdd (by intro z; cases z))
    have hA1 : MachAt H1 a1 L := hL1.mono (Same.nw H H1)
    have hB1 : MachAt H1 b M := hB.fr hdd f1
    have hX1 : MachAt H1 x M := hX.fr hdd f1
    have hl1 : (putK kvs (Sum.inr (S lN)) (.ref a1)).length ≤ kvs.length + 1 := putK_le _ _ _
    have hD1 : DeskAt C H1 d dd (putK kvs (Sum.inr (S lN)) (.ref a1)) := ⟨⟨dx, hd1⟩, hdd1, by omega⟩
    have hSh : Short L := hL.short (by rw [hO.len]; exact hn30) hk5 hF.big
    have hnml : nm ≠ lN := by rcases hnm with e | e <;> rw [e] <;> decide
    refine ⟨rfl, _, rfl, ?_⟩
    rw [decide_eq_true rfl]
    refine iteF ⟨_, rfl, d, dx, _, rfl, hd1, look_other (by decide +kernel) dd, d, dd, _, showC ++ [32, 108], (by rw [tx_show]; rfl), hD1, by decide, .inr (.inr (.inl ⟨L, lN, a1, sp_show, nameL, valV_putS', hA1, hSh, fun H2 s2 => ?_⟩))⟩
    have hML : L ≠ [] := fun z => by
      have := hL.ok.pos
      rw [z] at this
      exact absurd this (Nat.lt_irrefl 0)
    have hd2 := s2 _ _ hd1
    have hdd2 := s2 _ _ hdd1
    have hln := machL_len hSh
    refine ⟨_, rfl, _, _, _, _, true, rfl, .ty "str", .base (.str _), kit_ty (by decide +kernel), true, rfl, ?_⟩
    refine iteF ⟨_, rfl, ⟨_, rfl⟩, _, _, rfl, rfl, (by decide +kernel), (by rw [S_len]; omega), fun p np => ?_⟩
    rw [show Str.ofString "; " = S [59, 32] from TL.ext_tl (by decide +kernel), split_S (by simp) (by decide), split_mach hML, strsV_eq]
    have s3 : Same H2 (upd H2 p (.lst (strsV (L.map rowL)))) := Same.fresh np
    refine ⟨p, _, rfl, .inl (SqL.of upd_same), _, rfl, b, kk, n, M, rfl, hB1.mono (s2.trans s3), hO, hk5, hn30, fun H3 Ds s4 hpw hre hcov => ⟨rfl, _, rfl, ?_⟩⟩
    have hmany := hL.many hpw hre hcov
    rw [show (strsV (L.map rowL)).length = Ds.length from by unfold strsV; rw [List.length_map, List.length_map, hmany], decide_eq_true rfl]
    have s13 : Same H1 H3 := s2.trans (s3.trans s4)
    have hd3 := s13 _ _ hd1
    have hdd3 := s13 _ _ hdd1
    have hD3 := hD1.mono s13
    refine iteF ⟨_, rfl, d, dx, _, rfl, hd3, look_other (by decide +kernel) dd, _, rfl, _, _, rfl, rfl, ?_, d, dd, _, sameC ++ [32, 108, 32] ++ nm, ?_, hD3, ?_, .inr (.inr (.inr ⟨a1, x, lN, nm, kk, L.length, n, L, M, sp_same hnm, nameL, nameMN hnm, valV_putS', (by rw [valV_putS hnml]; exact hv), hA1.mono s13, hX1.mono s13, hL.ok, hO, hk5, hSh.n30, hn30, fun al H4 s5 => ?_, fun na => absurd hL.alike na⟩))⟩
    · rw [tx_same, S_len, S_len, hnl, hsz]; decide
    · rw [tx_same, S_cat]; rfl
    · rw [List.length_append, hnl]; decide
    refine ⟨rfl, _, rfl, ?_⟩
    rw [decide_eq_true rfl]
    have s14 : Same H1 H4 := s13.trans s5
    have hd4 := s14 _ _ hd1
    have hdd4 := s14 _ _ hdd1
    have hD4 := hD1.mono s14
    refine iteF ⟨_, rfl, d, dx, _, rfl, hd4, look_other (by decide +kernel) dd, d, dd, _, leastC ++ [32, 108, 32, 108], (by rw [tx_ll]; rfl), hD4, by decide, .inr (.inl ⟨kk, L.length, L, lN, lN, a1, sp_ll, nameL, nameL, valV_putS', hA1.mono s14, hL.ok, hk5, hSh.n30, fun H5 a2 L2 f5 hdd5 hL5 hL2 => ⟨rfl, _, rfl, ?_⟩⟩)⟩
    have eL := hL.self hL2
    subst eL
    rw [decide_eq_true rfl]
    have hd5 := f5 _ _ hd4 (ne_of hd4 hdd4 (by intro z; cases z))
    have hl5 : (putK (putK kvs (Sum.inr (S lN)) (.ref a1)) (Sum.inr (S lN)) (.ref a2)).length ≤ kvs.length + 2 := Nat.le_trans (putK_le _ _ _) (by omega)
    have hD5 : DeskAt C H5 d dd (putK (putK kvs (Sum.inr (S lN)) (.ref a1)) (Sum.inr (S lN)) (.ref a2)) := ⟨⟨dx, hd5⟩, hdd5, by omega⟩
    refine iteF ⟨_, rfl, d, dx, _, rfl, hd5, look_other (by decide +kernel) dd, d, dd, _, showC ++ [32, 108], (by rw [tx_show]; rfl), hD5, by decide, .inr (.inr (.inl ⟨L2, lN, a2, sp_show, nameL, valV_putS', hL5.mono (Same.nw H4 H5), hSh, fun H6 s6 => ⟨_, rfl, rfl, _, rfl, ?_⟩⟩))⟩
    rw [decide_eq_true rfl]
    refine iteF ⟨_, rfl, k H6 L2 _ ?_ (hD5.mono s6) hl5 (fun y hy => by rw [valV_putS hy, valV_putS hy]) hL⟩
    exact Fr.trans (Fr.trans f1 (Fr.of s14)) (Fr.trans f5 (Fr.of s6))
end
end Pw

namespace Pw
open PySem PySem.Spec PyProof.Rows L2 SX
open C8 (Cal Met Mak pe_c pe_mt pe_mt0 pe_gc sl_txt)
theorem tx_mm : Str.ofString "machine m " = S (mC ++ [32, 109, 32]) := TL.ext_tl (by decide +kernel)
theorem tx_mn : Str.ofString "machine n " = S (mC ++ [32, 110, 32]) := TL.ext_tl (by decide +kernel)
theorem tx_m : Str.ofString "m" = S [109] := TL.ext_tl (by decide +kernel)
theorem tx_n : Str.ofString "n" = S [110] := TL.ext_tl (by decide +kernel)
theorem tx_0 : Str.ofString "" = S [] := TL.ext_tl (by decide +kernel)
theorem tx_smn : Str.ofString "same m n" = S (sameC ++ [32, 109, 32, 110]) := TL.ext_tl (by decide +kernel)
theorem tx_shm : Str.ofString "show m" = S (showC ++ [32, 109]) := TL.ext_tl (by decide +kernel)
theorem tx_shn : Str.ofString "show n" = S (showC ++ [32, 110]) := TL.ext_tl (by decide +kernel)
theorem sp_smn : TL.spl [32] 0 [] (sameC ++ [32, 109, 32, 110]) = [sameC, [109], [110]] := by decide
theorem sp_shm : TL.spl [32] 0 [] (showC ++ [32, 109]) = [showC, [109]] := by decide
theorem sp_shn : TL.spl [32] 0 [] (showC ++ [32, 110]) = [showC, [110]] := by decide
theorem spl_nn (s : List Nat) (k : Nat) : ∀ (acc l : List Nat), TL.spl s k acc l ≠ [] := by
  intro acc l
  induction l generalizing k acc with
  | nil => cases k <;> simp [TL.spl]
  | cons c r ih =>
    cases k with
    | zero =>
      simp only [TL.spl]
      split
      · simp
      · exact ih 0 _
    | succ k => simp only [TL.spl]; exact ih k acc
theorem sp_mach {nm l : List Nat} (h : nm = [109] ∨ nm = [110]) : TL.spl [32] 0 [] (mC ++ ([32] ++ nm ++ [32]) ++ l) = mC :: nm :: TL.spl [32] 0 [] l := by
  rcases h with e | e <;> rw [e] <;> rfl
theorem row_len {k n : Nat} {M : Mach} {p : List Nat} (f : Fit k n M) (h : p.length = 10 := by rfl) : (p ++ machL M).length ≤ 20000 := by
  have := machL_len f.short
  rw [List.length_append, h]; omega
theorem row_small {k n : Nat} {M : Mach} {p : List Nat} (f : Fit k n M) (h : p.length = 10 := by rfl) : p.length + (machL M).length ≤ sizeLine := by
  have := machL_len f.short
  rw [h, sizeLine_eq]; omega
theorem machL_ne {k n : Nat} {M : Mach} (o : Ok k n M) : machL M ≠ [] := fun h => by
  have hM : M ≠ [] := fun z => by
    have := o.len
    have := o.pos
    rw [z] at *
    simp at *
    omega
  have h1 := split_mach hM
  rw [h] at h1
  obtain ⟨row, e, _, hm⟩ := o.at o.pos
  have hr : row ≠ [] := fun z => by
    have := o.rows row hm
    have := o.kpos
    rw [z] at *
    simp at *
    omega
  have h2 : rowL row ∈ TL.spl [59, 32] 0 [] [] := by rw [h1]; exact List.mem_map.mpr ⟨row, hm, rfl⟩
  have h3 : rowL row = [] := by simpa [TL.spl] using h2
  have h4 := split_row hr
  rw [h3] at h4
  obtain ⟨c, hc⟩ : ∃ c, c ∈ row := List.exists_mem_of_ne_nil row hr
  have h5 : stepL c ∈ TL.spl [32] 0 [] [] := by rw [h4]; exact List.mem_map.mpr ⟨c, hc, rfl⟩
  have h6 : stepL c = [] := by simpa [TL.spl] using h5
  unfold stepL at h6
  simp at h6
theorem Ok.ne {k n : Nat} {M : Mach} (o : Ok k n M) : M ≠ [] := fun z => by
  have h1 := o.len
  have h2 := o.pos
  rw [z, List.length_nil] at h1
  omega
theorem Ok.rne {k n : Nat} {M : Mach} (o : Ok k n M) : ∀ r ∈ M, r ≠ [] := fun r hr z => by
  have h1 := o.rows r hr
  have h2 := o.kpos
  rw [z, List.length_nil] at h1
  omega
theorem Least.same_text {k : Nat} {M N L L' : Mach} (h : Least k M L) (g : Least k N L') (e : machL L = machL L') : L = L' := machL_inj h.ok.ne g.ok.ne h.ok.rne g.ok.rne e
theorem fit_of {k n : Nat} {M : Mach} (o : Ok k n M) (hn : n ≤ 10) (hk : k ≤ 3) (h : ∀ row ∈ M, ∀ c ∈ row, c.1.natAbs < 10 ^ 60) : Fit k n M := ⟨o, by omega, by omega, h⟩
theorem bd_big {k n : Nat} {M : Mach} (h : ∀ row ∈ M, Bd k n row) : ∀ row ∈ M, ∀ c ∈ row, c.1.natAbs < 10 ^ 60 := fun row hr c hc => by
  have := ((h row hr).2 c hc).1
  omega
section
variable {P : Program} {w : World} {K : PySem.W.Frag} {mg : Str → Option Value} {base : Heap} {C rows mk : Addr}
theorem mkFn {x : Str} {st : Stmt} {N ps : List Str} {k : Nat} {sp : Sp} {f : Addr} {fd : FuncData} (F : FunD K x x (defArgs st) (defBody st) (defScope st) [] [] f fd) (S : FnScope N ps (defScope st)) (len : ∀ vs H Q E, sp vs H Q E → vs.length = ps.length)
    (hbody : ∀ (f : Addr) (cdv : Value) (A : Around) (outer : List Env) (s : Shared) (H : Hp) (vs : List V) (Q : VK) (E : XK), Room k (A.deeper (envOfC x (defScope st) s.heap.objs.size f cdv)) → sp vs H Q E →
      ∃ t, PSs (cxOf CX0 P w K mg base N x (defScope st) f cdv A outer s H E).nox (defBody st) t ∧ t { nx := fun _ H' => Q .non H', rt := Q } (start N vs) H) : FnOk P w K mg base CX0 (k + 1) f fd ps sp :=
  F.ok S len fun cdv A outer s H vs Q E hr h => by
    obtain ⟨t, h1, h2⟩ := hbody f cdv A outer s H vs Q E hr h
    exact ⟨t, h1.nox, h2⟩
abbrev slaw : Stmt := top 148
abbrev nlaw : List Str := ["_law_script", "_law_kernel_here", "_law_one", "_law_other", "_law_desk", "_law_left", "_law_right", "_law_alike_here"]
theorem sclaw : FnScope nlaw ["_law_script"] (defScope slaw) := ⟨rfl, rfl, rfl, by decide +kernel, rfl, by decide +kernel, by decide +kernel⟩
theorem blaw {K : PySem.W.Frag} {f : Addr} {fd : FuncData} (F : FunD K "law" "law" (defArgs slaw) (defBody slaw) (defScope slaw) [] [] f fd) : Binds K fd ["_law_script"] [] := F.bindsN fun _ _ _ _ _ _ us hl => match us, hl with | [_], _ => rfl
def spLaw (K : PySem.W.Frag) : Sp := fun vs H Q _ => ∃ (a : Addr) (ns : List Int), vs = [.ref a] ∧ SqL K H a (ns.map V.int) ∧ ns.length ≤ 63 ∧ ∀ H', Q (.bl true) H'
theorem ok_law {f : Addr} {fd : FuncData} (D : FunD K "law" "law" (defArgs slaw) (defBody slaw) (defScope slaw) [] [] f fd) (T : DTxt K w mg C rows mk) (M_Desk : Mak P w K mg base 1 "Desk" C (spInit C) []) (M_say : Met P w K mg base 9 C "say" (spSay C) []) (C__law_kernel : Cal P w K mg base 2 "_law_kernel" (spKernel K) []) (C__law_blown : Cal P w K mg base 2 "_law_blown" spBlown [])
    (C__law_cell_at : Cal P w K mg base 1 "_law_cell_at" (spCell K) []) (C__law_changed : Cal P w K mg base 1 "_law_changed" spChanged []) (C__law_text : Cal P w K mg base 1 "_law_text" spShow []) (C__law_least : Cal P w K mg base 10 "_law_least" (spLawLeast C) []) (C__law_alike : Cal P w K mg base 1 "_law_alike" spAlike []) :
    FnOk P w K mg base CX0 11 f fd ["_law_script"] (spLaw K) := by
  obtain ⟨fI, fdI, psI, dsI, kMk, kFn, kMg, kBd, kVs⟩ := M_Desk
  refine mkFn D sclaw (fun vs H Q E h => ?_) fun f cdv A outer s H vs Q E hr h => ?_
  · obtain ⟨a, ns, rfl, _⟩ := h; rfl
  · obtain ⟨a, ns, rfl, hS, hns, kQ⟩ := h
    have nd := sclaw.nd
    refine ⟨_, pss_cons (ps_set (i := 1) nd rfl (Or.inl rfl) (pe_c C__law_kernel hr (by decide) rfl (pa_cons (pv 0) pa_nil)))
      (pss_cons (ps_set (i := 2) nd rfl (Or.inl rfl) (pe_c C__law_blown hr (by decide) rfl (pa_cons (pv 1) (pa_cons (pe_c C__law_cell_at hr (by decide) rfl (pa_cons (pv 0) (pa_cons pe_int pa_nil))) pa_nil))))
      (pss_cons (ps_set (i := 3) nd rfl (Or.inl rfl) (pe_c C__law_blown hr (by decide) rfl (pa_cons (pv 1) (pa_cons (pe_c C__law_cell_at hr (by decide) rfl (pa_cons (pv 0) (pa_cons pe_int pa_nil))) pa_nil))))
      (pss_cons (ps_if (pt_cmpR op_eq (pe_op op_mod (pe_c C__law_cell_at hr (by decide) rfl (pa_cons (pv 0) (pa_cons pe_int pa_nil))) pe_int) pe_int (nomark _))
      (pss_one (ps_expr (pe_c C__law_changed hr (by decide) rfl (pa_cons (pv 3) (pa_cons (pe_op op_fdiv (pe_c C__law_cell_at hr (by decide) rfl (pa_cons (pv 0) (pa_cons pe_int pa_nil))) pe_int) pa_nil)))))
      (pss_nil))
      (pss_cons (ps_set (i := 4) nd rfl (Or.inl rfl) (pe_make0 kMk kFn (hr.mono (by decide)) rfl kMg kBd kVs pass0))
      (pss_cons (ps_if (PW.pt (pw_or (pt_cmpR op_ne (pe_mt M_say hr (by decide) (pv 4) (pa_cons (pe_op op_add_str pe_str (pe_c C__law_text hr (by decide) rfl (pa_cons (pv 2) pa_nil))) pa_nil)) pe_str (nomark _)) (pw_or1 (pt_cmpR op_ne (pe_mt M_say hr (by decide) (pv 4) (pa_cons (pe_op op_add_str pe_str (pe_c C__law_text hr (by decide) rfl (pa_cons (pv 3) pa_nil))) pa_nil)) pe_str (nomark _)))))
      (pss_one (ps_ret pe_bl))
      (pss_nil))
      (pss_cons (ps_set (i := 5) nd rfl (Or.inl rfl) (pe_c C__law_least hr (by decide) rfl (pa_cons (pv 4) (pa_cons pe_str (pa_cons (pv 2) pa_nil)))))
      (pss_cons (ps_set (i := 6) nd rfl (Or.inl rfl) (pe_c C__law_least hr (by decide) rfl (pa_cons (pv 4) (pa_cons pe_str (pa_cons (pv 3) pa_nil)))))
      (pss_cons (ps_if (PW.pt (pw_or (pt_cmpR op_eq (pv 5) pe_str (nomark _)) (pw_or1 (pt_cmpR op_eq (pv 6) pe_str (nomark _)))))
      (pss_one (ps_ret pe_bl))
      (pss_nil))
      (pss_cons (ps_set (i := 7) nd rfl (Or.inl rfl) (pe_c C__law_alike hr (by decide) rfl (pa_cons (pv 2) (pa_cons pe_int (pa_cons (pv 3) (pa_cons pe_int pa_nil))))))
      (pss_cons (ps_if (PW.pt (pw_or (pt_cmpR op_ne (pe_cmpR op_eq (pe_mt M_say hr (by decide) (pv 4) (pa_cons pe_str pa_nil)) pe_str (nomark _)) (pv 7) (nomark _)) (pw_or1 (pt_cmpR op_ne (pe_cmpR op_eq (pv 5) (pv 6) (nomark _)) (pv 7) (nomark _)))))
      (pss_one (ps_ret pe_bl))
      (pss_nil))
      (pss_one (ps_ret (pe_and (pe_cmpR op_eq (pe_mt M_say hr (by decide) (pv 4) (pa_cons pe_str pa_nil)) (pe_c C__law_text hr (by decide) rfl (pa_cons (pv 2) pa_nil)) (nomark _)) (pe_one (pe_cmpR op_eq (pe_mt M_say hr (by decide) (pv 4) (pa_cons pe_str pa_nil)) (pe_c C__law_text hr (by decide) rfl (pa_cons (pv 3) pa_nil)) (nomark _)))))))))))))))), ?_⟩
    refine ⟨_, rfl, a, ns, rfl, hS, hns, fun H1 kb k n M0 s1 h0 o0 hk3 hn4 hB0 => ?_⟩
    have h01 := h0.mono (Same.nw H H1)
    refine ⟨_, rfl, _, rfl, a, ns, 1, rfl, s1.seq hS, by decide, fun c1 => ⟨kb, c1, k, n, M0, rfl, h01, o0, hk3, hn4, hB0, fun H2 b1 m1 N1 s2 h1n o1 hm1 hB1 => ?_⟩⟩
    have h1 := h1n.mono (Same.nw H1 H2)
    refine ⟨_, rfl, _, rfl, a, ns, 2, rfl, (s1.trans s2).seq hS, by decide, fun c2 => ⟨kb, c2, k, n, M0, rfl, h01.mono s2, o0, hk3, hn4, hB0, fun H3 b2 m2 N2 s3 h2n o2 hm2 hB2 => ?_⟩⟩
    have F1 := fit_of o1 hm1 hk3 (bd_big hB1)
    have s03 := s1.trans (s2.trans s3)
    refine ⟨_, rfl, a, ns, 3, rfl, s03.seq hS, by decide, fun c3 => ⟨_, _, rfl, rfl, (by show (0 : Int) < 2; decide), rfl, _, rfl, ?_⟩⟩
    rw [dec_int]
    clear h0 h01 o0 hB0 hn4
    cases (c3 % 2 == 1) with
    | true =>
      refine iteT ⟨_, rfl, _, rfl, a, ns, 3, rfl, s03.seq hS, by decide, fun c4 => ⟨_, _, rfl, rfl, ⟨by decide, by decide⟩, H2, b2, _, k, m2, N2, rfl, s3, h2n, o2, hB2, hm2, hk3, fun H4 N2' s4 h2n' o2' hb2' => ?_⟩⟩
      have F2 := fit_of o2' hm2 hk3 hb2'
      have h2 := h2n'.mono (Same.nw H2 H4)
      have h1 := h1.mono s4
      refine ?_
      intro d dx nd0 ndx nex
      have sd : Same H4 (upd (upd H4 dx (.own d)) d (.ins C dx [])) := fun b o e => by
        rw [upd_ne (ne_of_none e nd0), upd_ne (ne_of_none e ndx)]
        exact e
      refine ⟨d, dx, rfl, upd_same, fun dd H5 ndd D5 kp => ⟨rfl, ?_⟩⟩
      have s5 : Same H4 H5 := fun b o e => kp b o (sd b o e) (ne_of_none e nd0)
      obtain ⟨⟨dx1, hd5⟩, hdd5, _⟩ := id D5
      -- machine m
      refine ⟨_, rfl, d, dx1, _, rfl, hd5, look_other (by decide +kernel) dd, _, rfl, b1, N1, rfl, h1.mono s5, F1.short, fun H6 s6 => ⟨_, _, rfl, rfl, ?_, d, dd, [], mC ++ [32, 109, 32] ++ machL N1, ?_, D5.mono s6, ?_, .inl ⟨k, m1, N1, [109], _, sp_mach (.inl rfl), spl_nn _ _ _ _, join_split 32 _ _, nameMN (.inl rfl), F1, fun H7 a1 f7 hdd7 hA7 => ⟨rfl, _, rfl, ?_⟩⟩⟩⟩
      · rw [tx_mm, S_len, S_len]; exact row_small F1
      · rw [tx_mm, S_cat]; rfl
      · exact row_len F1
      rw [decide_eq_true rfl]
      have s46 : Same H4 H6 := s5.trans s6
      have hd6 := s6 _ _ hd5
      have hdd6 := s6 _ _ hdd5
      have hd7 := f7 _ _ hd6 (ne_of hd6 hdd6 (by intro z; cases z))
      have D7 : DeskAt C H7 d dd (putK ([] : List (Key × V)) (Sum.inr (S [109])) (.ref a1)) := ⟨⟨dx1, hd7⟩, hdd7, Nat.le_trans (putK_le _ _ _) (by show 0 + 1 ≤ 100; decide)⟩
      have hA7' : MachAt H7 a1 N1 := hA7.mono (Same.nw H6 H7)
      have h17 : MachAt H7 b1 N1 := (h1.mono s46).fr hdd6 f7
      have h27 : MachAt H7 b2 N2' := (h2.mono s46).fr hdd6 f7
      -- machine n
      refine iteF ⟨_, rfl, d, dx1, _, rfl, hd7, look_other (by decide +kernel) dd, _, rfl, b2, N2', rfl, h27, F2.short, fun H8 s8 => ⟨_, _, rfl, rfl, ?_, d, dd, _, mC ++ [32, 110, 32] ++ machL N2', ?_, D7.mono s8, ?_, .inl ⟨k, m2, N2', [110], _, sp_mach (.inr rfl), spl_nn _ _ _ _, join_split 32 _ _, nameMN (.inr rfl), F2, fun H9 a2 f9 hdd9 hA9 => ⟨rfl, _, rfl, ?_⟩⟩⟩⟩
      · rw [tx_mn, S_len, S_len]; exact row_small F2
      · rw [tx_mn, S_cat]; rfl
      · exact row_len F2
      rw [decide_eq_true rfl]
      have hd8 := s8 _ _ hd7
      have hdd8 := s8 _ _ hdd7
      have hd9 := f9 _ _ hd8 (ne_of hd8 hdd8 (by intro z; cases z))
      have hkl : (putK (putK ([] : List (Key × V)) (Sum.inr (S [109])) (.ref a1)) (Sum.inr (S [110])) (.ref a2)).length ≤ 2 := Nat.le_trans (putK_le _ _ _) (Nat.succ_le_succ (Nat.le_trans (putK_le _ _ _) (Nat.le_refl _)))
      have hvm : valV (putK (putK ([] : List (Key × V)) (Sum.inr (S [109])) (.ref a1)) (Sum.inr (S [110])) (.ref a2)) (Sum.inr (S [109])) = some (.ref a1) := by rw [valV_putS (by decide), valV_putS']
      have hvn : valV (putK (putK ([] : List (Key × V)) (Sum.inr (S [109])) (.ref a1)) (Sum.inr (S [110])) (.ref a2)) (Sum.inr (S [110])) = some (.ref a2) := valV_putS'
      revert hkl hvm hvn hdd9
      generalize putK (putK ([] : List (Key × V)) (Sum.inr (S [109])) (.ref a1)) (Sum.inr (S [110])) (.ref a2) = kvs
      intro hdd9 hkl hvm hvn
      have D9 : DeskAt C H9 d dd kvs := ⟨⟨dx1, hd9⟩, hdd9, by omega⟩
      have hA9' : MachAt H9 a2 N2' := hA9.mono (Same.nw H8 H9)
      have hM9 : MachAt H9 a1 N1 := (hA7'.mono s8).fr hdd8 f9
      have h19 : MachAt H9 b1 N1 := (h17.mono s8).fr hdd8 f9
      have h29 : MachAt H9 b2 N2' := (h27.mono s8).fr hdd8 f9
      -- the least ones
      refine iteF ⟨_, rfl, _, rfl, d, dd, a1, b1, kvs, [109], k, m1, N1, (by rw [tx_m]; rfl), .inl rfl, D9, by omega, hvm, hM9, h19, F1, fun H10 L1 kvs1 f10 D10 hl1 hv1 hL1 => ?_⟩
      have hvm1 := (hv1 [109] (by decide)).trans hvm
      have hvn1 := (hv1 [110] (by decide)).trans hvn
      have hM10 := hM9.fr hdd9 f10
      have hA10 := hA9'.fr hdd9 f10
      have h110 := h19.fr hdd9 f10
      have h210 := h29.fr hdd9 f10
      obtain ⟨_, hdd10, _⟩ := id D10
      refine ⟨_, rfl, _, rfl, d, dd, a2, b2, kvs1, [110], k, m2, N2', (by rw [tx_n]; rfl), .inr rfl, D10, by omega, hvn1, hA10, h210, F2, fun H11 L2 kvs2 f11 D11 hl2 hv2 hL2 => ?_⟩
      have hvm2 := (hv2 [109] (by decide)).trans hvm1
      have hvn2 := (hv2 [110] (by decide)).trans hvn1
      have hM11 := hM10.fr hdd10 f11
      have hA11 := hA10.fr hdd10 f11
      have h111 := h110.fr hdd10 f11
      have h211 := h210.fr hdd10 f11
      obtain ⟨⟨dx2, hd11⟩, hdd11, _⟩ := id D11
      rw [tx_0]
      refine ⟨_, rfl, rfl, _, rfl, ?_⟩
      rw [dec_S, decide_eq_false (machL_ne hL1.ok)]
      refine iteF ⟨_, rfl, rfl, _, rfl, ?_⟩
      rw [dec_S, decide_eq_false (machL_ne hL2.ok)]
      refine iteF ⟨_, rfl, _, rfl, b1, b2, k, m1, m2, N1, N2', 0, 0, rfl, h111, h211, o1, F2.ok, F1.k5, F1.n30, F2.n30, o1.pos, F2.ok.pos, fun al H12 s12 => ?_, fun na H12 s12 => ?_⟩
      · refine ⟨_, rfl, d, dx2, _, rfl, s12 _ _ hd11, look_other (by decide +kernel) dd, d, dd, kvs2, sameC ++ [32, 109, 32, 110], (by rw [tx_smn]; rfl), D11.mono s12, by decide, .inr (.inr (.inr ⟨a1, a2, [109], [110], k, m1, m2, N1, N2', sp_smn, nameMN (.inl rfl), nameMN (.inr rfl), hvm2, hvn2, hM11.mono s12, hA11.mono s12, o1, F2.ok, F1.k5, F1.n30, F2.n30, fun _ H13 s13 => ?_, fun na => absurd al na⟩))⟩
        refine ⟨rfl, _, rfl, rfl, _, rfl, ?_⟩
        have eL := hL1.same hL2 al
        subst eL
        have ea : decide (V.str (Str.ofString "alike") = V.str (Str.ofString "alike")) = true := decide_eq_true rfl
        have eb : decide (V.bl true = V.bl true) = true := decide_eq_true rfl
        rw [ea, eb]
        refine iteF ⟨_, rfl, _, rfl, rfl, _, rfl, rfl, _, rfl, ?_⟩
        rw [dec_S, decide_eq_true rfl, eb]
        refine iteF ?_
        have s13' := s12.trans s13
        clear ea eb
        generalize true = alb
        have s0z : Same H11 H13 := s13'
        refine ⟨_, rfl, d, dx2, _, rfl, s0z _ _ hd11, look_other (by decide +kernel) dd, d, dd, kvs2, showC ++ [32, 109], (by rw [tx_shm]; rfl), D11.mono s0z, by decide, .inr (.inr (.inl ⟨N1, [109], a1, sp_shm, nameMN (.inl rfl), hvm2, hM11.mono s0z, F1.short, fun H14 s14 => ⟨_, rfl, b1, N1, rfl, h111.mono (s0z.trans s14), F1.short, fun H15 s15 => ⟨rfl, _, rfl, ?_⟩⟩⟩))⟩
        rw [decide_eq_true rfl, if_pos rfl]
        have s0y : Same H11 H15 := s0z.trans (s14.trans s15)
        refine ⟨_, rfl, d, dx2, _, rfl, s0y _ _ hd11, look_other (by decide +kernel) dd, d, dd, kvs2, showC ++ [32, 110], (by rw [tx_shn]; rfl), D11.mono s0y, by decide, .inr (.inr (.inl ⟨N2', [110], a2, sp_shn, nameMN (.inr rfl), hvn2, hA11.mono s0y, F2.short, fun H16 s16 => ⟨_, rfl, b2, N2', rfl, h211.mono (s0y.trans s16), F2.short, fun H17 s17 => ⟨rfl, ?_⟩⟩⟩))⟩
        rw [decide_eq_true rfl]
        exact kQ H17
      · refine ⟨_, rfl, d, dx2, _, rfl, s12 _ _ hd11, look_other (by decide +kernel) dd, d, dd, kvs2, sameC ++ [32, 109, 32, 110], (by rw [tx_smn]; rfl), D11.mono s12, by decide, .inr (.inr (.inr ⟨a1, a2, [109], [110], k, m1, m2, N1, N2', sp_smn, nameMN (.inl rfl), nameMN (.inr rfl), hvm2, hvn2, hM11.mono s12, hA11.mono s12, o1, F2.ok, F1.k5, F1.n30, F2.n30, fun al => absurd al na, fun _ H13 z s13 hz => ?_⟩))⟩
        refine ⟨rfl, _, rfl, rfl, _, rfl, ?_⟩
        have ea : decide (V.str z = V.str (Str.ofString "alike")) = false := decide_eq_false fun q => hz (by injection q)
        have eb : decide (V.bl false = V.bl false) = true := decide_eq_true rfl
        rw [ea, eb]
        refine iteF ⟨_, rfl, _, rfl, rfl, _, rfl, rfl, _, rfl, ?_⟩
        have ec : ¬ machL L1 = machL L2 := fun q => na (by
          have := hL1.same_text hL2 q
          subst this
          exact hL1.alike.symm.trans hL2.alike)
        rw [dec_S, decide_eq_false ec, eb]
        refine iteF ?_
        have s13' := s12.trans s13
        clear ea eb ec
        generalize false = alb
        have s0z : Same H11 H13 := s13'
        refine ⟨_, rfl, d, dx2, _, rfl, s0z _ _ hd11, look_other (by decide +kernel) dd, d, dd, kvs2, showC ++ [32, 109], (by rw [tx_shm]; rfl), D11.mono s0z, by decide, .inr (.inr (.inl ⟨N1, [109], a1, sp_shm, nameMN (.inl rfl), hvm2, hM11.mono s0z, F1.short, fun H14 s14 => ⟨_, rfl, b1, N1, rfl, h111.mono (s0z.trans s14), F1.short, fun H15 s15 => ⟨rfl, _, rfl, ?_⟩⟩⟩))⟩
        rw [decide_eq_true rfl, if_pos rfl]
        have s0y : Same H11 H15 := s0z.trans (s14.trans s15)
        refine ⟨_, rfl, d, dx2, _, rfl, s0y _ _ hd11, look_other (by decide +kernel) dd, d, dd, kvs2, showC ++ [32, 110], (by rw [tx_shn]; rfl), D11.mono s0y, by decide, .inr (.inr (.inl ⟨N2', [110], a2, sp_shn, nameMN (.inr rfl), hvn2, hA11.mono s0y, F2.short, fun H16 s16 => ⟨_, rfl, b2, N2', rfl, h211.mono (s0y.trans s16), F2.short, fun H17 s17 => ⟨rfl, ?_⟩⟩⟩))⟩
        rw [decide_eq_true rfl]
        exact kQ H17
    | false =>
      refine iteF ?_
      have F2 := fit_of o2 hm2 hk3 (bd_big hB2)
      have h2 := h2n.mono (Same.nw H2 H3)
      have h1 := h1.mono s3
      clear s03 hB2 h2n
      clear s3
      generalize eN : N2 = N2' at *
      generalize eH : H3 = H4 at *
      refine ?_
      intro d dx nd0 ndx nex
      have sd : Same H4 (upd (upd H4 dx (.own d)) d (.ins C dx [])) := fun b o e => by
        rw [upd_ne (ne_of_none e nd0), upd_ne (ne_of_none e ndx)]
        exact e
      refine ⟨d, dx, rfl, upd_same, fun dd H5 ndd D5 kp => ⟨rfl, ?_⟩⟩
      have s5 : Same H4 H5 := fun b o e => kp b o (sd b o e) (ne_of_none e nd0)
      obtain ⟨⟨dx1, hd5⟩, hdd5, _⟩ := id D5
      -- machine m
      refine ⟨_, rfl, d, dx1, _, rfl, hd5, look_other (by decide +kernel) dd, _, rfl, b1, N1, rfl, h1.mono s5, F1.short, fun H6 s6 => ⟨_, _, rfl, rfl, ?_, d, dd, [], mC ++ [32, 109, 32] ++ machL N1, ?_, D5.mono s6, ?_, .inl ⟨k, m1, N1, [109], _, sp_mach (.inl rfl), spl_nn _ _ _ _, join_split 32 _ _, nameMN (.inl rfl), F1, fun H7 a1 f7 hdd7 hA7 => ⟨rfl, _, rfl, ?_⟩⟩⟩⟩
      · rw [tx_mm, S_len, S_len]; exact row_small F1
      · rw [tx_mm, S_cat]; rfl
      · exact row_len F1
      rw [decide_eq_true rfl]
      have s46 : Same H4 H6 := s5.trans s6
      have hd6 := s6 _ _ hd5
      have hdd6 := s6 _ _ hdd5
      have hd7 := f7 _ _ hd6 (ne_of hd6 hdd6 (by intro z; cases z))
      have D7 : DeskAt C H7 d dd (putK ([] : List (Key × V)) (Sum.inr (S [109])) (.ref a1)) := ⟨⟨dx1, hd7⟩, hdd7, Nat.le_trans (putK_le _ _ _) (by show 0 + 1 ≤ 100; decide)⟩
      have hA7' : MachAt H7 a1 N1 := hA7.mono (Same.nw H6 H7)
      have h17 : MachAt H7 b1 N1 := (h1.mono s46).fr hdd6 f7
      have h27 : MachAt H7 b2 N2' := (h2.mono s46).fr hdd6 f7
      -- machine n
      refine iteF ⟨_, rfl, d, dx1, _, rfl, hd7, look_other (by decide +kernel) dd, _, rfl, b2, N2', rfl, h27, F2.short, fun H8 s8 => ⟨_, _, rfl, rfl, ?_, d, dd, _, mC ++ [32, 110, 32] ++ machL N2', ?_, D7.mono s8, ?_, .inl ⟨k, m2, N2', [110], _, sp_mach (.inr rfl), spl_nn _ _ _ _, join_split 32 _ _, nameMN (.inr rfl), F2, fun H9 a2 f9 hdd9 hA9 => ⟨rfl, _, rfl, ?_⟩⟩⟩⟩
      · rw [tx_mn, S_len, S_len]; exact row_small F2
      · rw [tx_mn, S_cat]; rfl
      · exact row_len F2
      rw [decide_eq_true rfl]
      have hd8 := s8 _ _ hd7
      have hdd8 := s8 _ _ hdd7
      have hd9 := f9 _ _ hd8 (ne_of hd8 hdd8 (by intro z; cases z))
      have hkl : (putK (putK ([] : List (Key × V)) (Sum.inr (S [109])) (.ref a1)) (Sum.inr (S [110])) (.ref a2)).length ≤ 2 := Nat.le_trans (putK_le _ _ _) (Nat.succ_le_succ (Nat.le_trans (putK_le _ _ _) (Nat.le_refl _)))
      have hvm : valV (putK (putK ([] : List (Key × V)) (Sum.inr (S [109])) (.ref a1)) (Sum.inr (S [110])) (.ref a2)) (Sum.inr (S [109])) = some (.ref a1) := by rw [valV_putS (by decide), valV_putS']
      have hvn : valV (putK (putK ([] : List (Key × V)) (Sum.inr (S [109])) (.ref a1)) (Sum.inr (S [110])) (.ref a2)) (Sum.inr (S [110])) = some (.ref a2) := valV_putS'
      revert hkl hvm hvn hdd9
      generalize putK (putK ([] : List (Key × V)) (Sum.inr (S [109])) (.ref a1)) (Sum.inr (S [110])) (.ref a2) = kvs
      intro hdd9 hkl hvm hvn
      have D9 : DeskAt C H9 d dd kvs := ⟨⟨dx1, hd9⟩, hdd9, by omega⟩
      have hA9' : MachAt H9 a2 N2' := hA9.mono (Same.nw H8 H9)
      have hM9 : MachAt H9 a1 N1 := (hA7'.mono s8).fr hdd8 f9
      have h19 : MachAt H9 b1 N1 := (h17.mono s8).fr hdd8 f9
      have h29 : MachAt H9 b2 N2' := (h27.mono s8).fr hdd8 f9
      -- the least ones
      refine iteF ⟨_, rfl, _, rfl, d, dd, a1, b1, kvs, [109], k, m1, N1, (by rw [tx_m]; rfl), .inl rfl, D9, by omega, hvm, hM9, h19, F1, fun H10 L1 kvs1 f10 D10 hl1 hv1 hL1 => ?_⟩
      have hvm1 := (hv1 [109] (by decide)).trans hvm
      have hvn1 := (hv1 [110] (by decide)).trans hvn
      have hM10 := hM9.fr hdd9 f10
      have hA10 := hA9'.fr hdd9 f10
      have h110 := h19.fr hdd9 f10
      have h210 := h29.fr hdd9 f10
      obtain ⟨_, hdd10, _⟩ := id D10
      refine ⟨_, rfl, _, rfl, d, dd, a2, b2, kvs1, [110], k, m2, N2', (by rw [tx_n]; rfl), .inr rfl, D10, by omega, hvn1, hA10, h210, F2, fun H11 L2 kvs2 f11 D11 hl2 hv2 hL2 => ?_⟩
      have hvm2 := (hv2 [109] (by decide)).trans hvm1
      have hvn2 := (hv2 [110] (by decide)).trans hvn1
      have hM11 := hM10.fr hdd10 f11
      have hA11 := hA10.fr hdd10 f11
      have h111 := h110.fr hdd10 f11
      have h211 := h210.fr hdd10 f11
      obtain ⟨⟨dx2, hd11⟩, hdd11, _⟩ := id D11
      rw [tx_0]
      refine ⟨_, rfl, rfl, _, rfl, ?_⟩
      rw [dec_S, decide_eq_false (machL_ne hL1.ok)]
      refine iteF ⟨_, rfl, rfl, _, rfl, ?_⟩
      rw [dec_S, decide_eq_false (machL_ne hL2.ok)]
      refine iteF ⟨_, rfl, _, rfl, b1, b2, k, m1, m2, N1, N2', 0, 0, rfl, h111, h211, o1, F2.ok, F1.k5, F1.n30, F2.n30, o1.pos, F2.ok.pos, fun al H12 s12 => ?_, fun na H12 s12 => ?_⟩
      · refine ⟨_, rfl, d, dx2, _, rfl, s12 _ _ hd11, look_other (by decide +kernel) dd, d, dd, kvs2, sameC ++ [32, 109, 32, 110], (by rw [tx_smn]; rfl), D11.mono s12, by decide, .inr (.inr (.inr ⟨a1, a2, [109], [110], k, m1, m2, N1, N2', sp_smn, nameMN (.inl rfl), nameMN (.inr rfl), hvm2, hvn2, hM11.mono s12, hA11.mono s12, o1, F2.ok, F1.k5, F1.n30, F2.n30, fun _ H13 s13 => ?_, fun na => absurd al na⟩))⟩
        refine ⟨rfl, _, rfl, rfl, _, rfl, ?_⟩
        have eL := hL1.same hL2 al
        subst eL
        have ea : decide (V.str (Str.ofString "alike") = V.str (Str.ofString "alike")) = true := decide_eq_true rfl
        have eb : decide (V.bl true = V.bl true) = true := decide_eq_true rfl
        rw [ea, eb]
        refine iteF ⟨_, rfl, _, rfl, rfl, _, rfl, rfl, _, rfl, ?_⟩
        rw [dec_S, decide_eq_true rfl, eb]
        refine iteF ?_
        have s13' := s12.trans s13
        clear ea eb
        generalize true = alb
        have s0z : Same H11 H13 := s13'
        refine ⟨_, rfl, d, dx2, _, rfl, s0z _ _ hd11, look_other (by decide +kernel) dd, d, dd, kvs2, showC ++ [32, 109], (by rw [tx_shm]; rfl), D11.mono s0z, by decide, .inr (.inr (.inl ⟨N1, [109], a1, sp_shm, nameMN (.inl rfl), hvm2, hM11.mono s0z, F1.short, fun H14 s14 => ⟨_, rfl, b1, N1, rfl, h111.mono (s0z.trans s14), F1.short, fun H15 s15 => ⟨rfl, _, rfl, ?_⟩⟩⟩))⟩
        rw [decide_eq_true rfl, if_pos rfl]
        have s0y : Same H11 H15 := s0z.trans (s14.trans s15)
        refine ⟨_, rfl, d, dx2, _, rfl, s0y _ _ hd11, look_other (by decide +kernel) dd, d, dd, kvs2, showC ++ [32, 110], (by rw [tx_shn]; rfl), D11.mono s0y, by decide, .inr (.inr (.inl ⟨N2', [110], a2, sp_shn, nameMN (.inr rfl), hvn2, hA11.mono s0y, F2.short, fun H16 s16 => ⟨_, rfl, b2, N2', rfl, h211.mono (s0y.trans s16), F2.short, fun H17 s17 => ⟨rfl, ?_⟩⟩⟩))⟩
        rw [decide_eq_true rfl]
        exact kQ H17
      · refine ⟨_, rfl, d, dx2, _, rfl, s12 _ _ hd11, look_other (by decide +kernel) dd, d, dd, kvs2, sameC ++ [32, 109, 32, 110], (by rw [tx_smn]; rfl), D11.mono s12, by decide, .inr (.inr (.inr ⟨a1, a2, [109], [110], k, m1, m2, N1, N2', sp_smn, nameMN (.inl rfl), nameMN (.inr rfl), hvm2, hvn2, hM11.mono s12, hA11.mono s12, o1, F2.ok, F1.k5, F1.n30, F2.n30, fun al => absurd al na, fun _ H13 z s13 hz => ?_⟩))⟩
        refine ⟨rfl, _, rfl, rfl, _, rfl, ?_⟩
        have ea : decide (V.str z = V.str (Str.ofString "alike")) = false := decide_eq_false fun q => hz (by injection q)
        have eb : decide (V.bl false = V.bl false) = true := decide_eq_true rfl
        rw [ea, eb]
        refine iteF ⟨_, rfl, _, rfl, rfl, _, rfl, rfl, _, rfl, ?_⟩
        have ec : ¬ machL L1 = machL L2 := fun q => na (by
          have := hL1.same_text hL2 q
          subst this
          exact hL1.alike.symm.trans hL2.alike)
        rw [dec_S, decide_eq_false ec, eb]
        refine iteF ?_
        have s13' := s12.trans s13
        clear ea eb ec
        generalize false = alb
        have s0z : Same H11 H13 := s13'
        refine ⟨_, rfl, d, dx2, _, rfl, s0z _ _ hd11, look_other (by decide +kernel) dd, d, dd, kvs2, showC ++ [32, 109], (by rw [tx_shm]; rfl), D11.mono s0z, by decide, .inr (.inr (.inl ⟨N1, [109], a1, sp_shm, nameMN (.inl rfl), hvm2, hM11.mono s0z, F1.short, fun H14 s14 => ⟨_, rfl, b1, N1, rfl, h111.mono (s0z.trans s14), F1.short, fun H15 s15 => ⟨rfl, _, rfl, ?_⟩⟩⟩))⟩
        rw [decide_eq_true rfl, if_pos rfl]
        have s0y : Same H11 H15 := s0z.trans (s14.trans s15)
        refine ⟨_, rfl, d, dx2, _, rfl, s0y _ _ hd11, look_other (by decide +kernel) dd, d, dd, kvs2, showC ++ [32, 110], (by rw [tx_shn]; rfl), D11.mono s0y, by decide, .inr (.inr (.inl ⟨N2', [110], a2, sp_shn, nameMN (.inr rfl), hvn2, hA11.mono s0y, F2.short, fun H16 s16 => ⟨_, rfl, b2, N2', rfl, h211.mono (s0y.trans s16), F2.short, fun H17 s17 => ⟨rfl, ?_⟩⟩⟩))⟩
        rw [decide_eq_true rfl]
        exact kQ H17
end
end Pw

namespace PwH
open PySem PySem.Spec PyProof.Rows L2 Pw
section
variable {P : Program} {w : World} {K : PySem.W.Frag} {h : Heap} {mg : Str → Option Value}
theorem defAt (X : K.In h) (G : h.Ns mainGlobals mg) (c : He.SaysT fa fn ts w K) {x : Str} {st : Stmt} (i j : Nat) (hi : fn[i]? = some ⟨(x, none), x, x, defArgs st, defBody st, defScope st, [], []⟩) (hj : fa[j]? = some (.glo x)) : DefAt K mg x st := by
  obtain ⟨fd, F⟩ := c.d.def_ i hi
  exact ⟨_, fd, F, He.glo_ok X G (c.d.fact j hj)⟩
theorem defM (c : He.SaysT fa fn ts w K) {m q : Str} {st : Stmt} (i j : Nat) (hi : fn[i]? = some ⟨("Desk", some m), m, q, defArgs st, defBody st, defScope st, [], []⟩) (hj : fa[j]? = some (.meth "Desk" m)) : DefM K (He.ga K "Desk") m q st := by
  obtain ⟨fd, F⟩ := c.d.def_ i hi
  exact ⟨_, fd, F, He.meth_ok (c.d.fact j hj)⟩
theorem txt (X : K.In h) (G : h.Ns mainGlobals mg) (c : He.SaysT fa fn ts w K) : Txt K mg where
  n_isinstance := He.free_ok X G (c.d.fact 36 (f := .free "isinstance") rfl)
  n_int := He.free_ok X G (c.d.fact 37 (f := .free "int") rfl)
  n_bool := He.free_ok X G (c.d.fact 38 (f := .free "bool") rfl)
  n_list := He.free_ok X G (c.d.fact 39 (f := .free "list") rfl)
  n_tuple := He.free_ok X G (c.d.fact 40 (f := .free "tuple") rfl)
  n_str := He.free_ok X G (c.d.fact 41 (f := .free "str") rfl)
  n_len := He.free_ok X G (c.d.fact 42 (f := .free "len") rfl)
  n_abs := He.free_ok X G (c.d.fact 43 (f := .free "abs") rfl)
  n_max := He.free_ok X G (c.d.fact 44 (f := .free "max") rfl)
  n_range := He.free_ok X G (c.d.fact 45 (f := .free "range") rfl)
  n_sorted := He.free_ok X G (c.d.fact 46 (f := .free "sorted") rfl)
  c_MOST_STATES_tables := by
    obtain ⟨t, e⟩ := He.int_ok X G (c.d.fact 47 (f := .int "MOST_STATES_tables" 30) rfl)
    exact ⟨_, e, t, rfl⟩
  c_MOST_ASKS_tables := by
    obtain ⟨t, e⟩ := He.int_ok X G (c.d.fact 48 (f := .int "MOST_ASKS_tables" 5) rfl)
    exact ⟨_, e, t, rfl⟩
  c_LONGEST := by
    obtain ⟨t, e⟩ := He.int_ok X G (c.d.fact 49 (f := .int "LONGEST" 60) rfl)
    exact ⟨_, e, t, rfl⟩
  c_FIGURES := by
    obtain ⟨t, e⟩ := He.str_ok X G (c.d.fact 50 (f := .str "FIGURES" "0123456789") rfl)
    exact ⟨_, e, t, rfl⟩
  c_LETTERS := by
    obtain ⟨t, e⟩ := He.str_ok X G (c.d.fact 51 (f := .str "LETTERS" "abcdefghijklmnopqrstuvwxyz") rfl)
    exact ⟨_, e, t, rfl⟩
theorem rowOf (c : He.SaysT fa fn ts w K) (e : ex K = true) {z : Str} {i : Int} (hq : (z, He.Dv.int i) ∈ rowV) : KDct K w (He.ga K "ROWS") z (.int i) := by
  obtain ⟨es, n, kd⟩ := c.tab 0 (t := (fun K => He.ga K "ROWS", rowV.map (·.1))) rfl
  obtain ⟨u, h1, h2⟩ := He.valsB_ok (Bool.and_eq_true_iff.mp e).1 hq
  exact ⟨es, n, u, kd.at_, kd.lit, h1, h2⟩
theorem dtxt (X : K.In h) (G : h.Ns mainGlobals mg) (c : He.SaysT fa fn ts w K) (e : ex K = true) : DTxt K w mg (He.ga K "Desk") (He.ga K "ROWS") (He.ga K "MAKES") where
  toTxt := txt X G c
  cl := He.cls_ok (c.d.fact 52 (f := .cls "Desk") rfl)
  nM := He.noat_ok (c.d.fact 53 (f := .noat "Desk" "machines") rfl)
  mgC := He.glo_ok X G (c.d.fact 33 (f := .glo "Desk") rfl)
  c_ROWS := ⟨_, He.glo_ok X G (c.d.fact 34 (f := .glo "ROWS") rfl), rfl⟩
  c_MAKES := ⟨_, He.glo_ok X G (c.d.fact 35 (f := .glo "MAKES") rfl), rfl⟩
  kdx := c.tab 0 (t := (fun K => He.ga K "ROWS", rowV.map (·.1))) rfl
  r_machine := by
    rw [← machine_S]
    exact rowOf c e (by unfold rowV; simp)
  r_least := by
    rw [← least_S]
    exact rowOf c e (by unfold rowV; simp)
  r_show := by
    rw [← show_S]
    exact rowOf c e (by unfold rowV; simp)
  r_same := by
    rw [← same_S]
    exact rowOf c e (by unfold rowV; simp)
  mkT := fun H => He.tupB_ok (Bool.and_eq_true_iff.mp e).2 H
theorem facts {f : Addr} (X : K.In h) (G : h.Ns mainGlobals mg) (hfa : mg ("law" : Str) = some (.ref f)) (c : He.SaysT fa fn ts w K) (e : ex K = true) :
    ∃ fd : FuncData, (∀ (s : Shared) (u : Value), BindsTo s fd ⟨[u], []⟩ [("_law_script", u)]) ∧ ∀ base : Heap, K.In base → base.Ns mainGlobals mg → FnOk P w K mg base CX0 11 f fd ["_law_script"] (spLaw K) := by
  obtain ⟨fd, F⟩ := c.d.def_ 32 (d := dlaw) rfl
  have ef := hfa.symm.trans (He.glo_ok X G (c.d.fact 32 (f := .glo "law") rfl))
  cases ef
  have b := FunD.bindsA (ps := ["_law_script"]) F fun _ _ _ _ _ _ us hl => match us, hl with | [_], _ => rfl
  refine ⟨fd, fun s v => b s [v] rfl, fun base _ _ => ?_⟩
  have T := txt X G c
  have TD := dtxt X G c e
  have k_is_whole := c_is_whole (P := P) (w := w) (base := base) (defAt X G c (st := sis_whole) 0 0 rfl rfl) T
  have k_is_answer := c_is_answer (P := P) (w := w) (base := base) (defAt X G c (st := sis_answer) 1 1 rfl rfl) T k_is_whole
  have k_is_step := c_is_step (P := P) (w := w) (base := base) (defAt X G c (st := sis_step) 2 2 rfl rfl) T k_is_whole k_is_answer
  have k_is_row := c_is_row (P := P) (w := w) (base := base) (defAt X G c (st := sis_row) 3 3 rfl rfl) T k_is_step
  have k_is_machine := c_is_machine (P := P) (w := w) (base := base) (defAt X G c (st := sis_machine) 4 4 rfl rfl) T k_is_row
  have k_checked := c_checked (P := P) (w := w) (base := base) (defAt X G c (st := schecked) 5 5 rfl rfl) T k_is_machine
  have k_asks_of := c_asks_of (P := P) (w := w) (base := base) (defAt X G c (st := sasks_of) 6 6 rfl rfl) T
  have k_next_told := c_next_told (P := P) (w := w) (base := base) (defAt X G c (st := snext_told) 7 7 rfl rfl) T k_asks_of
  have k_new_ones := c_new_ones (P := P) (w := w) (base := base) (defAt X G c (st := snew_ones) 8 8 rfl rfl) T k_next_told
  have k_apart := c_apart (P := P) (w := w) (base := base) (defAt X G c (st := sapart) 9 9 rfl rfl) T k_new_ones
  have k_leaders := c_leaders (P := P) (w := w) (base := base) (defAt X G c (st := sleaders) 10 10 rfl rfl) T k_apart
  have k_search := c_search (P := P) (w := w) (base := base) (defAt X G c (st := ssearch) 11 11 rfl rfl) T k_asks_of
  have k_reached := c_reached (P := P) (w := w) (base := base) (defAt X G c (st := sreached) 12 12 rfl rfl) T k_search
  have k_least := c_least (P := P) (w := w) (base := base) (defAt X G c (st := sleast) 13 13 rfl rfl) T k_leaders k_reached
  have k_unlike_ask := c_unlike_ask (P := P) (w := w) (base := base) (defAt X G c (st := sunlike_ask) 14 14 rfl rfl) T
  have k_compare := c_compare (P := P) (w := w) (base := base) (defAt X G c (st := scompare) 15 15 rfl rfl) T k_asks_of k_unlike_ask
  have k_written := c_written (P := P) (w := w) (base := base) (defAt X G c (st := swritten) 16 16 rfl rfl) T
  have k_show := c_show (P := P) (w := w) (base := base) (defAt X G c (st := sshow) 17 17 rfl rfl) T
  have k_read_step := c_read_step (P := P) (w := w) (base := base) (defAt X G c (st := sread_step) 18 18 rfl rfl) T k_written
  have k_read := c_read (P := P) (w := w) (base := base) (defAt X G c (st := sread) 19 19 rfl rfl) T k_read_step k_checked
  have k_show_row := c_show_row (P := P) (w := w) (base := base) (defAt X G c (st := sshow_row) 20 20 rfl rfl) T
  have k_words_of := c_words_of (P := P) (w := w) (base := base) (defAt X G c (st := swords_of) 21 21 rfl rfl) TD
  have k_name_of := c_name_of (P := P) (w := w) (base := base) (defAt X G c (st := sname_of) 22 22 rfl rfl) TD
  have k_law_cell_at := c_law_cell_at (P := P) (w := w) (base := base) (defAt X G c (st := slaw_cell_at) 23 23 rfl rfl) T
  have k_law_kernel := c_law_kernel (P := P) (w := w) (base := base) (defAt X G c (st := slaw_kernel) 24 24 rfl rfl) T k_law_cell_at
  have k_law_stream := c_law_stream (P := P) (w := w) (base := base) (defAt X G c (st := slaw_stream) 25 25 rfl rfl) T
  have k_law_blown := c_law_blown (P := P) (w := w) (base := base) (defAt X G c (st := slaw_blown) 26 26 rfl rfl) T k_law_stream
  have k_law_changed := c_law_changed (P := P) (w := w) (base := base) (defAt X G c (st := slaw_changed) 27 27 rfl rfl) T
  have k_law_text := c_law_text (P := P) (w := w) (base := base) (defAt X G c (st := slaw_text) 28 28 rfl rfl) T
  have k_law_alike := c_law_alike (P := P) (w := w) (base := base) (defAt X G c (st := slaw_alike) 29 29 rfl rfl) T
  have k_law_many := c_law_many (P := P) (w := w) (base := base) (defAt X G c (st := slaw_many) 30 30 rfl rfl) T k_law_alike
  have q_machine_of := m_machine_of (P := P) (w := w) (base := base) (defM c (st := sDesk_machine_of) 34 54 rfl rfl) TD k_name_of
  have q_make := m_make (P := P) (w := w) (base := base) (defM c (st := sDesk_make) 37 57 rfl rfl) TD k_name_of k_read k_least q_machine_of
  have q_books := m_books (P := P) (w := w) (base := base) (defM c (st := sDesk_say_of_books) 36 56 rfl rfl) TD q_machine_of k_compare k_show_row
  have q_say := m_say (P := P) (w := w) (base := base) (defM c (st := sDesk_say) 35 55 rfl rfl) TD k_words_of q_machine_of q_make q_books k_show
  have q_init := m_init (P := P) (w := w) (base := base) (C := He.ga K "Desk") (by
    obtain ⟨fd, F⟩ := c.d.def_ 33 (d := dDesk_init) rfl
    exact ⟨_, fd, F, He.mkr_ok (c.d.fact 58 (f := .mkr "Desk") rfl)⟩) TD
  have k_law_least := c_law_least (P := P) (w := w) (base := base) (defAt X G c (st := slaw_least) 31 31 rfl rfl) TD q_say k_law_many
  exact ok_law F TD q_init q_say k_law_kernel k_law_blown k_law_cell_at k_law_changed k_law_text k_law_least k_law_alike
end
end PwH
open PySem PySem.W PySem.Calls PyProof.Rows
theorem PySem.Challenge.cw_probewell_k97_whole_least_lists_holds : PySem.Challenge.rw_probewell_k97_whole_least_lists.Holds := by
  w_on; o_law
  refine HandSHeadRun.head_any (r := OpenLaw.row PySem.Challenge.rw_probewell_k97_whole_least_lists) (q := PwH.qv) (H := PwH.hk) (ob := PwH.ob) (M := 8000) (loose := PwH.names) (d := HandSHeadRun.topDef (OpenLaw.row PySem.Challenge.rw_probewell_k97_whole_least_lists).prog 148) (kwd := []) PwH.ob_eq
    (by kernel_rfl) (fun s => by kernel_rfl) PwH.run (by kernel_rfl) (by kernel_rfl) (by kernel_rfl) (by rfl) (by first | assumption | decide +kernel) (by decide +kernel) ⟨rfl, rfl, rfl, rfl, rfl, by decide +kernel⟩ ?hw ?hc
  case hw => w_witness2
  case hc =>
    refine L2.walk_ofE (l := PySem.Challenge.rw_probewell_k97_whole_least_lists) (n := 63) (k := 11) (x := "_law_script") (CX := L2.CX0) rfl (by decide) (by kernel_rfl) ⟨rfl, by decide, by decide⟩ ?F (fun _ _ _ _ z => z)
    intro w mg fa h Y G hmg0
    obtain ⟨K, KX, c, e⟩ := Y
    have hmg : mg ("law" : PySem.Str) = some (.ref fa) := by
      have e : (HandSHeadRun.topDef (OpenLaw.row PySem.Challenge.rw_probewell_k97_whole_least_lists).prog 148).name = ("law" : PySem.Str) := by kernel_rfl
      rw [← e]
      exact hmg0
    obtain ⟨fd, hb, hF⟩ := PwH.facts (P := (PySem.Challenge.rw_probewell_k97_whole_least_lists).prog) (w := w) KX G hmg c e
    exact ⟨K, fd, Pw.spLaw K, KX, hb, fun H a ns hl _ hS => ⟨a, ns, rfl, hS, hl, fun _ => rfl⟩, hF⟩

