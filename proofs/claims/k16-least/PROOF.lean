import PyProof.Rows.All
import Wide.All
import OpenK.AllK
import Wide.FinOn
import HandS.ForMost
import HandS.IsInst
import HandS.Deep
import HandS.TupLen
import HandS.More
import KE.GoesMore
import KE.KeyNested
import PyProof.Rows.SetFrom
import PySem.Challenge.RW_figurewheel_k16_whole_one_least_form
set_option Elab.async false
set_option linter.all false
set_option maxRecDepth 100000

/-! Machines as lists: rooms reached, lots, least forms. Plain Lean, no program in sight. -/
namespace FW

structure Mac where
  rows : List (List Nat)
  signs : List Int

def row (M : Mac) (a : Nat) : List Nat := M.rows.getD a []
def nx (M : Mac) (a l : Nat) : Nat := (row M a).getD l 0
def sg (M : Mac) (a : Nat) : Int := M.signs.getD a 0

structure Ok (M : Mac) (L : Nat) : Prop where
  same : M.signs.length = M.rows.length
  pos : 0 < M.rows.length
  wide : ∀ r ∈ M.rows, r.length = L
  low : ∀ r ∈ M.rows, ∀ x ∈ r, x < M.rows.length

theorem row_mem {M : Mac} {a : Nat} (h : a < M.rows.length) : row M a ∈ M.rows := by
  unfold row
  rw [List.getD_eq_getElem?_getD, List.getElem?_eq_getElem h]
  exact List.getElem_mem h
theorem row_len {M : Mac} {L a : Nat} (o : Ok M L) (h : a < M.rows.length) : (row M a).length = L := o.wide _ (row_mem h)
theorem row_low {M : Mac} {L a x : Nat} (o : Ok M L) (h : a < M.rows.length) (hx : x ∈ row M a) : x < M.rows.length := o.low _ (row_mem h) x hx
theorem nx_mem {M : Mac} {L a l : Nat} (o : Ok M L) (h : a < M.rows.length) (hl : l < L) : nx M a l ∈ row M a := by
  have e := row_len o h
  unfold nx
  rw [List.getD_eq_getElem?_getD, List.getElem?_eq_getElem (by omega)]
  exact List.getElem_mem (by omega)
theorem nx_low {M : Mac} {L a l : Nat} (o : Ok M L) (h : a < M.rows.length) (hl : l < L) : nx M a l < M.rows.length := row_low o h (nx_mem o h hl)

/-! ### alike -/
def Bis (M N : Mac) (L : Nat) (R : Nat → Nat → Prop) : Prop := ∀ a b, R a b → sg M a = sg N b ∧ ∀ l, l < L → R (nx M a l) (nx N b l)
def Alike (M N : Mac) (L a b : Nat) : Prop := ∃ R : Nat → Nat → Prop, Bis M N L R ∧ R a b
theorem Alike.sign {M N : Mac} {L a b : Nat} (h : Alike M N L a b) : sg M a = sg N b := let ⟨_, k, r⟩ := h; (k a b r).1
theorem Alike.next {M N : Mac} {L a b l : Nat} (h : Alike M N L a b) (hl : l < L) : Alike M N L (nx M a l) (nx N b l) := let ⟨R, k, r⟩ := h; ⟨R, k, (k a b r).2 l hl⟩
theorem Alike.refl (M : Mac) (L a : Nat) : Alike M M L a a := ⟨fun x y => x = y, fun x y e => by subst e; exact ⟨rfl, fun _ _ => rfl⟩, rfl⟩
theorem Alike.symm {M N : Mac} {L a b : Nat} (h : Alike M N L a b) : Alike N M L b a := by
  obtain ⟨R, k, r⟩ := h
  exact ⟨fun x y => R y x, fun x y e => ⟨(k y x e).1.symm, (k y x e).2⟩, r⟩
theorem Alike.trans {M N P : Mac} {L a b c : Nat} (h : Alike M N L a b) (g : Alike N P L b c) : Alike M P L a c := by
  obtain ⟨R, k, r⟩ := h
  obtain ⟨S, q, s⟩ := g
  refine ⟨fun x z => ∃ y, R x y ∧ S y z, fun x z ⟨y, e, f⟩ => ⟨(k x y e).1.trans (q y z f).1, fun l hl => ⟨nx N y l, (k x y e).2 l hl, (q y z f).2 l hl⟩⟩, ⟨b, r, s⟩⟩

/-- the pairs of rooms to which some letters lead -/
inductive Met (M N : Mac) (L : Nat) : Nat → Nat → Prop
  | zero : Met M N L 0 0
  | step {a b l : Nat} : Met M N L a b → l < L → Met M N L (nx M a l) (nx N b l)
theorem Met.of {M N : Mac} {L a b : Nat} (h : Met M N L a b) (k : Alike M N L 0 0) : Alike M N L a b := by
  induction h with
  | zero => exact k
  | step _ hl ih => exact ih.next hl

/-! ### rooms as first reached -/
def put {α : Type} [DecidableEq α] (o : List α) (r : α) : List α := if r ∈ o then o else o ++ [r]
def putAll {α : Type} [DecidableEq α] (o : List α) (rs : List α) : List α := rs.foldl put o
theorem put_sub {α : Type} [DecidableEq α] {o : List α} {r : α} : ∃ m, put o r = o ++ m := by
  unfold put
  split
  · exact ⟨[], by simp⟩
  · exact ⟨[r], rfl⟩
theorem putAll_sub {α : Type} [DecidableEq α] : ∀ {rs o : List α}, ∃ m, putAll o rs = o ++ m
  | [], o => ⟨[], by simp [putAll]⟩
  | r :: rs, o => by
    obtain ⟨m, e⟩ := put_sub (o := o) (r := r)
    obtain ⟨m', e'⟩ := putAll_sub (rs := rs) (o := put o r)
    refine ⟨m ++ m', ?_⟩
    show putAll (put o r) rs = _
    rw [e', e, List.append_assoc]
theorem putAll_cons {α : Type} [DecidableEq α] (o : List α) (r : α) (rs : List α) : putAll o (r :: rs) = putAll (put o r) rs := rfl
theorem put_mem {α : Type} [DecidableEq α] {o : List α} {r : α} : r ∈ put o r := by
  unfold put
  split
  · assumption
  · simp
theorem put_keep {α : Type} [DecidableEq α] {o : List α} {r x : α} (h : x ∈ o) : x ∈ put o r := by
  obtain ⟨m, e⟩ := put_sub (o := o) (r := r)
  rw [e]
  exact List.mem_append_left _ h
theorem putAll_keep {α : Type} [DecidableEq α] {rs o : List α} {x : α} (h : x ∈ o) : x ∈ putAll o rs := by
  obtain ⟨m, e⟩ := putAll_sub (rs := rs) (o := o)
  rw [e]
  exact List.mem_append_left _ h
theorem putAll_mem {α : Type} [DecidableEq α] : ∀ {rs o : List α} {x : α}, x ∈ rs → x ∈ putAll o rs
  | r :: rs, o, x, h => by
    rw [putAll_cons]
    rcases List.mem_cons.mp h with e | h
    · subst e
      exact putAll_keep put_mem
    · exact putAll_mem h
theorem put_nodup {α : Type} [DecidableEq α] {o : List α} {r : α} (h : o.Nodup) : (put o r).Nodup := by
  unfold put
  split
  · exact h
  · rename_i q
    refine List.nodup_append.mpr ⟨h, by simp, fun a ha b hb => ?_⟩
    rw [List.mem_singleton] at hb
    subst hb
    exact fun e => q (e ▸ ha)
theorem putAll_nodup {α : Type} [DecidableEq α] : ∀ {rs o : List α}, o.Nodup → (putAll o rs).Nodup
  | [], _, h => h
  | r :: rs, o, h => putAll_nodup (rs := rs) (put_nodup h)
theorem put_low {o : List Nat} {r n : Nat} (h : ∀ x ∈ o, x < n) (hr : r < n) : ∀ x ∈ put o r, x < n := by
  unfold put
  split
  · exact h
  · intro x hx
    rcases List.mem_append.mp hx with e | e
    · exact h x e
    · rw [List.mem_singleton] at e
      rw [e]
      exact hr
theorem putAll_low : ∀ {rs o : List Nat} {n : Nat}, (∀ x ∈ o, x < n) → (∀ x ∈ rs, x < n) → ∀ x ∈ putAll o rs, x < n
  | [], _, _, h, _ => h
  | r :: rs, o, n, h, k => putAll_low (rs := rs) (put_low h (k r List.mem_cons_self)) fun x hx => k x (List.mem_cons_of_mem _ hx)

/-- the order behind k turns -/
def ord (M : Mac) : Nat → List Nat
  | 0 => [0]
  | k + 1 => if k < (ord M k).length then putAll (ord M k) (row M ((ord M k).getD k 0)) else ord M k
theorem ord_succ (M : Mac) {k : Nat} (h : k < (ord M k).length) : ord M (k + 1) = putAll (ord M k) (row M ((ord M k).getD k 0)) := by
  show (if _ then _ else _) = _
  rw [if_pos h]
theorem ord_stay (M : Mac) {k : Nat} (h : (ord M k).length ≤ k) : ∀ j, ord M (k + j) = ord M k
  | 0 => rfl
  | j + 1 => by
    have ih := ord_stay M h j
    show (if k + j < (ord M (k + j)).length then putAll (ord M (k + j)) (row M ((ord M (k + j)).getD (k + j) 0)) else ord M (k + j)) = _
    rw [ih, if_neg (by omega)]
theorem ord_sub (M : Mac) (k : Nat) : ∃ m, ord M (k + 1) = ord M k ++ m := by
  by_cases h : k < (ord M k).length
  · rw [ord_succ M h]
    exact putAll_sub
  · refine ⟨[], ?_⟩
    rw [ord_stay M (by omega) 1]
    simp
theorem ord_head (M : Mac) : ∀ k, ∃ m, ord M k = 0 :: m
  | 0 => ⟨[], rfl⟩
  | k + 1 => by
    obtain ⟨m, e⟩ := ord_head M k
    obtain ⟨m', e'⟩ := ord_sub M k
    exact ⟨m ++ m', by rw [e', e]; rfl⟩
theorem ord_nodup (M : Mac) : ∀ k, (ord M k).Nodup
  | 0 => by simp [ord]
  | k + 1 => by
    have ih := ord_nodup M k
    by_cases h : k < (ord M k).length
    · rw [ord_succ M h]
      exact putAll_nodup ih
    · rw [ord_stay M (by omega) 1]
      exact ih
theorem getD_mem {o : List Nat} {k : Nat} (h : k < o.length) : o.getD k 0 ∈ o := by
  rw [List.getD_eq_getElem?_getD, List.getElem?_eq_getElem h]
  exact List.getElem_mem h
theorem ord_low {M : Mac} {L : Nat} (o : Ok M L) : ∀ k, ∀ x ∈ ord M k, x < M.rows.length
  | 0 => by
    intro x hx
    have e : x = 0 := by simpa [ord] using hx
    rw [e]
    exact o.pos
  | k + 1 => by
    have ih := ord_low o k
    by_cases h : k < (ord M k).length
    · rw [ord_succ M h]
      exact putAll_low ih fun x hx => row_low o (ih _ (getD_mem h)) hx
    · rw [ord_stay M (by omega) 1]
      exact ih

/-! ### counting -/
theorem onto_le : ∀ (d c : Nat) (f : Nat → Nat), (∀ y, y < d → ∃ x, x < c ∧ f x = y) → d ≤ c
  | 0, _, _, _ => Nat.zero_le _
  | d + 1, c, f, h => by
    obtain ⟨x0, h0, e0⟩ := h d (Nat.lt_succ_self _)
    have q := onto_le d (c - 1) (fun x => if x < x0 then f x else f (x + 1)) fun y hy => by
      obtain ⟨x, hx, e⟩ := h y (by omega)
      have ne : x ≠ x0 := fun z => by
        rw [z, e0] at e
        omega
      by_cases lt : x < x0
      · exact ⟨x, by omega, by simp only [lt, if_true]; exact e⟩
      · refine ⟨x - 1, by omega, ?_⟩
        have n : ¬ x - 1 < x0 := by omega
        simp only [n, if_false]
        rw [show x - 1 + 1 = x by omega]
        exact e
    omega
theorem onto_inj {c : Nat} {f : Nat → Nat} (h : ∀ y, y < c → ∃ x, x < c ∧ f x = y) {x y : Nat} (hx : x < c) (hy : y < c) (e : f x = f y) : x = y := by
  rcases Nat.lt_trichotomy x y with lt | q | lt
  · exfalso
    have q := onto_le c (c - 1) (fun z => if z < y then f z else f (z + 1)) fun w hw => by
      obtain ⟨z, hz, ez⟩ := h w hw
      by_cases zy : z = y
      · exact ⟨x, by omega, by simp only [lt, if_true]; rw [← ez, zy, e]⟩
      · by_cases l2 : z < y
        · exact ⟨z, by omega, by simp only [l2, if_true]; exact ez⟩
        · refine ⟨z - 1, by omega, ?_⟩
          have n : ¬ z - 1 < y := by omega
          simp only [n, if_false]
          rw [show z - 1 + 1 = z by omega]
          exact ez
    omega
  · exact q
  · exfalso
    have q := onto_le c (c - 1) (fun z => if z < x then f z else f (z + 1)) fun w hw => by
      obtain ⟨z, hz, ez⟩ := h w hw
      by_cases zy : z = x
      · exact ⟨y, by omega, by simp only [lt, if_true]; rw [← ez, zy, e]⟩
      · by_cases l2 : z < x
        · exact ⟨z, by omega, by simp only [l2, if_true]; exact ez⟩
        · refine ⟨z - 1, by omega, ?_⟩
          have n : ¬ z - 1 < x := by omega
          simp only [n, if_false]
          rw [show z - 1 + 1 = z by omega]
          exact ez
    omega
theorem nodup_le {n : Nat} : ∀ {o : List Nat}, o.Nodup → (∀ x ∈ o, x < n) → o.length ≤ n := fun {o} hd hl => by
  refine onto_le o.length n (fun x => o.idxOf x) fun y hy => ⟨o[y], hl _ (List.getElem_mem hy), ?_⟩
  exact List.Nodup.idxOf_getElem hd y hy
theorem ord_le {M : Mac} {L : Nat} (o : Ok M L) (k : Nat) : (ord M k).length ≤ M.rows.length := nodup_le (ord_nodup M k) (ord_low o k)

/-! ### the machine as reached -/
def order (M : Mac) : List Nat := ord M M.rows.length
theorem order_eq {M : Mac} {k : Nat} (h : (ord M k).length ≤ k) (hk : k ≤ M.rows.length) : ord M k = order M := by
  have e := ord_stay M h (M.rows.length - k)
  rw [show k + (M.rows.length - k) = M.rows.length by omega] at e
  exact e.symm
theorem order_ge {M : Mac} {L : Nat} (o : Ok M L) (j : Nat) : ord M (M.rows.length + j) = order M := ord_stay M (ord_le o _) j
def asR (M : Mac) : Mac := ⟨(order M).map fun a => (row M a).map fun x => (order M).idxOf x, (order M).map fun a => sg M a⟩

theorem ord_done (M : Mac) : ∀ k i, i < k → i < (ord M k).length → ∀ x ∈ row M ((ord M k).getD i 0), x ∈ ord M k
  | k + 1, i, hi, hl, x, hx => by
    by_cases h : k < (ord M k).length
    · obtain ⟨m, e⟩ := ord_sub M k
      have il : i < (ord M k).length := by omega
      have ei : (ord M (k + 1)).getD i 0 = (ord M k).getD i 0 := by
        rw [e, List.getD_eq_getElem?_getD, List.getD_eq_getElem?_getD, List.getElem?_append_left il]
      rw [ei] at hx
      by_cases ik : i = k
      · subst ik
        rw [ord_succ M h]
        exact putAll_mem hx
      · have q := ord_done M k i (by omega) il x hx
        rw [e]
        exact List.mem_append_left _ q
    · have e := ord_stay M (k := k) (by omega) 1
      rw [e] at hl hx ⊢
      exact ord_done M k i (by omega) hl x hx
theorem order_closed {M : Mac} {L i x : Nat} (o : Ok M L) (hi : i < (order M).length) (hx : x ∈ row M ((order M).getD i 0)) : x ∈ order M :=
  ord_done M _ i (Nat.lt_of_lt_of_le hi (ord_le o _)) hi x hx
theorem order_low {M : Mac} {L i : Nat} (o : Ok M L) (hi : i < (order M).length) : (order M).getD i 0 < M.rows.length := ord_low o _ _ (getD_mem hi)
theorem order_pos (M : Mac) : 0 < (order M).length := by
  obtain ⟨m, e⟩ := ord_head M M.rows.length
  unfold order
  rw [e]
  exact Nat.succ_pos _
theorem order_zero (M : Mac) : (order M).getD 0 0 = 0 := by
  obtain ⟨m, e⟩ := ord_head M M.rows.length
  unfold order
  rw [e]
  rfl
theorem asR_rows (M : Mac) : (asR M).rows.length = (order M).length := List.length_map _
theorem asR_row {M : Mac} {i : Nat} (h : i < (order M).length) : row (asR M) i = (row M ((order M).getD i 0)).map fun x => (order M).idxOf x := by
  show ((order M).map fun a => (row M a).map fun x => (order M).idxOf x).getD i [] = _
  simp only [List.getD_eq_getElem?_getD, List.getElem?_map, List.getElem?_eq_getElem h, Option.map_some, Option.getD_some]
theorem asR_sg {M : Mac} {i : Nat} (h : i < (order M).length) : sg (asR M) i = sg M ((order M).getD i 0) := by
  show ((order M).map fun a => sg M a).getD i 0 = _
  simp only [List.getD_eq_getElem?_getD, List.getElem?_map, List.getElem?_eq_getElem h, Option.map_some, Option.getD_some]
theorem asR_nx {M : Mac} {L i l : Nat} (o : Ok M L) (h : i < (order M).length) (hl : l < L) : nx (asR M) i l = (order M).idxOf (nx M ((order M).getD i 0) l) := by
  have e := row_len o (order_low o h)
  unfold nx
  rw [asR_row h]
  simp only [List.getD_eq_getElem?_getD] at e ⊢
  rw [List.getElem?_map, List.getElem?_eq_getElem (by omega)]
  simp
theorem asR_ok {M : Mac} {L : Nat} (o : Ok M L) : Ok (asR M) L := by
  refine ⟨by simp [asR], by rw [asR_rows]; exact order_pos M, fun r hr => ?_, fun r hr x hx => ?_⟩
  · obtain ⟨a, ha, e⟩ := List.mem_map.mp hr
    subst e
    rw [List.length_map]
    exact row_len o (ord_low o _ _ ha)
  · obtain ⟨a, ha, e⟩ := List.mem_map.mp hr
    subst e
    obtain ⟨y, hy, e⟩ := List.mem_map.mp hx
    subst e
    rw [asR_rows]
    obtain ⟨i, hi, e⟩ := List.mem_iff_getElem.mp ha
    refine List.idxOf_lt_length_iff.mpr (order_closed o hi ?_)
    rw [List.getD_eq_getElem?_getD, List.getElem?_eq_getElem hi]
    rw [← e] at hy
    exact hy
theorem getD_idxOf {o : List Nat} {x : Nat} (h : x ∈ o) : o.getD (o.idxOf x) 0 = x := by
  have hl := List.idxOf_lt_length_iff.mpr h
  rw [List.getD_eq_getElem?_getD, List.getElem?_eq_getElem hl]
  exact List.getElem_idxOf hl
theorem asR_alike {M : Mac} {L : Nat} (o : Ok M L) : Alike M (asR M) L 0 0 := by
  refine ⟨fun a i => i < (order M).length ∧ a = (order M).getD i 0, fun a i ⟨hi, e⟩ => ⟨?_, fun l hl => ?_⟩, order_pos M, (order_zero M).symm⟩
  · rw [asR_sg hi, e]
  · have hm : nx M a l ∈ order M := by
      rw [e]
      exact order_closed o hi (nx_mem o (order_low o hi) hl)
    rw [asR_nx o hi hl, ← e]
    exact ⟨List.idxOf_lt_length_iff.mpr hm, (getD_idxOf hm).symm⟩

/-! ### two machines in step -/
inductive Rl (A : Nat → Nat → Prop) : List Nat → List Nat → Prop
  | nil : Rl A [] []
  | cons {a b : Nat} {as bs : List Nat} : A a b → Rl A as bs → Rl A (a :: as) (b :: bs)
section
variable {A : Nat → Nat → Prop}
theorem Rl.append : ∀ {o1 o2 p1 p2 : List Nat}, Rl A o1 o2 → Rl A p1 p2 → Rl A (o1 ++ p1) (o2 ++ p2)
  | _, _, _, _, .nil, h => h
  | _, _, _, _, .cons a t, h => .cons a (Rl.append t h)
theorem Rl.length : ∀ {o1 o2 : List Nat}, Rl A o1 o2 → o1.length = o2.length
  | _, _, .nil => rfl
  | _, _, .cons _ t => by rw [List.length_cons, List.length_cons, t.length]
theorem Rl.at : ∀ {o1 o2 : List Nat} {k : Nat}, Rl A o1 o2 → k < o1.length → A (o1.getD k 0) (o2.getD k 0)
  | _, _, 0, .cons a _, _ => a
  | _, _, k + 1, .cons _ t, h => by
    rw [List.getD_cons_succ, List.getD_cons_succ]
    exact t.at (by simpa using h)
theorem Rl.of : ∀ {o1 o2 : List Nat}, o1.length = o2.length → (∀ k, k < o1.length → A (o1.getD k 0) (o2.getD k 0)) → Rl A o1 o2
  | [], [], _, _ => .nil
  | a :: as, b :: bs, h, k => .cons (k 0 (by simp)) (Rl.of (by simpa using h) fun j hj => by
      have q := k (j + 1) (by simpa using hj)
      rw [List.getD_cons_succ, List.getD_cons_succ] at q
      exact q)
theorem Rl.map {β : Type} {f g : Nat → β} (h : ∀ a b, A a b → f a = g b) : ∀ {o1 o2 : List Nat}, Rl A o1 o2 → o1.map f = o2.map g
  | _, _, .nil => rfl
  | _, _, .cons a t => by rw [List.map_cons, List.map_cons, h _ _ a, Rl.map h t]
variable (one : ∀ a b c, A a b → A a c → b = c) (eno : ∀ a b c, A a b → A c b → a = c)
include one eno
theorem Rl.mem {x y : Nat} (hx : A x y) : ∀ {o1 o2 : List Nat}, Rl A o1 o2 → (x ∈ o1 ↔ y ∈ o2)
  | _, _, .nil => by simp
  | _, _, .cons (a := a) (b := b) h t => by
    rw [List.mem_cons, List.mem_cons, Rl.mem hx t]
    have e : x = a ↔ y = b := ⟨fun e => one x y b hx (e ▸ h), fun e => eno x y a hx (e ▸ h)⟩
    rw [e]
theorem Rl.idx {x y : Nat} (hx : A x y) : ∀ {o1 o2 : List Nat}, Rl A o1 o2 → o1.idxOf x = o2.idxOf y
  | _, _, .nil => rfl
  | _, _, .cons (a := a) (b := b) h t => by
    have e : a = x ↔ b = y := ⟨fun e => one x b y (e ▸ h) hx, fun e => eno a y x (e ▸ h) hx⟩
    rw [List.idxOf_cons, List.idxOf_cons, Rl.idx hx t]
    by_cases q : a = x
    · rw [show (a == x) = true by simp [q], show (b == y) = true by simp [e.mp q]]
    · rw [show (a == x) = false by simpa using q, show (b == y) = false by simpa using fun z => q (e.mpr z)]
theorem Rl.put {x y : Nat} (hx : A x y) {o1 o2 : List Nat} (h : Rl A o1 o2) : Rl A (put o1 x) (put o2 y) := by
  have e := Rl.mem one eno hx h
  unfold FW.put
  by_cases q : x ∈ o1
  · rw [if_pos q, if_pos (e.mp q)]
    exact h
  · rw [if_neg q, if_neg fun z => q (e.mpr z)]
    exact h.append (.cons hx .nil)
theorem Rl.putAll : ∀ {rs1 rs2 o1 o2 : List Nat}, Rl A rs1 rs2 → Rl A o1 o2 → Rl A (putAll o1 rs1) (putAll o2 rs2)
  | _, _, _, _, .nil, h => h
  | _, _, _, _, .cons (a := x) (b := y) a t, h => by
    rw [putAll_cons, putAll_cons]
    exact Rl.putAll t (Rl.put one eno a h)
end

/-- no two rooms are alike -/
def Red (Q : Mac) (L : Nat) : Prop := ∀ a b, a < Q.rows.length → b < Q.rows.length → Alike Q Q L a b → a = b
theorem canon {Q1 Q2 : Mac} {L : Nat} (o1 : Ok Q1 L) (o2 : Ok Q2 L) (r1 : Red Q1 L) (r2 : Red Q2 L) (h : Alike Q1 Q2 L 0 0) : asR Q1 = asR Q2 := by
  have one : ∀ a b c, (a < Q1.rows.length ∧ b < Q2.rows.length ∧ Alike Q1 Q2 L a b) → (a < Q1.rows.length ∧ c < Q2.rows.length ∧ Alike Q1 Q2 L a c) → b = c :=
    fun a b c x y => r2 b c x.2.1 y.2.1 (x.2.2.symm.trans y.2.2)
  have eno : ∀ a b c, (a < Q1.rows.length ∧ b < Q2.rows.length ∧ Alike Q1 Q2 L a b) → (c < Q1.rows.length ∧ b < Q2.rows.length ∧ Alike Q1 Q2 L c b) → a = c :=
    fun a b c x y => r1 a c x.1 y.1 (x.2.2.trans y.2.2.symm)
  generalize hA : (fun a b => a < Q1.rows.length ∧ b < Q2.rows.length ∧ Alike Q1 Q2 L a b) = A
  have unA : ∀ a b, A a b ↔ (a < Q1.rows.length ∧ b < Q2.rows.length ∧ Alike Q1 Q2 L a b) := fun a b => by rw [← hA]
  have one' : ∀ a b c, A a b → A a c → b = c := fun a b c x y => one a b c ((unA _ _).mp x) ((unA _ _).mp y)
  have eno' : ∀ a b c, A a b → A c b → a = c := fun a b c x y => eno a b c ((unA _ _).mp x) ((unA _ _).mp y)
  have rows : ∀ a b, A a b → Rl A (row Q1 a) (row Q2 b) := fun a b x => by
    obtain ⟨ha, hb, hab⟩ := (unA a b).mp x
    have la := row_len o1 ha
    have lb := row_len o2 hb
    refine Rl.of (by omega) fun l hl => (unA _ _).mpr ?_
    rw [la] at hl
    exact ⟨nx_low o1 ha hl, nx_low o2 hb hl, hab.next hl⟩
  have step : ∀ k, Rl A (ord Q1 k) (ord Q2 k) := by
    intro k
    induction k with
    | zero => exact .cons ((unA 0 0).mpr ⟨o1.pos, o2.pos, h⟩) .nil
    | succ k ih =>
      have hl := ih.length
      by_cases q : k < (ord Q1 k).length
      · rw [ord_succ Q1 q, ord_succ Q2 (by omega)]
        exact Rl.putAll one' eno' (rows _ _ (ih.at q)) ih
      · rw [ord_stay Q1 (by omega) 1, ord_stay Q2 (k := k) (by omega) 1]
        exact ih
  have fin : Rl A (order Q1) (order Q2) := by
    have q := step (Q1.rows.length + Q2.rows.length)
    rw [order_ge o1] at q
    rw [Nat.add_comm, order_ge o2] at q
    exact q
  have e1 : (asR Q1).rows = (asR Q2).rows := by
    show ((order Q1).map fun a => (row Q1 a).map fun x => (order Q1).idxOf x) = (order Q2).map fun a => (row Q2 a).map fun x => (order Q2).idxOf x
    exact Rl.map (fun a b x => Rl.map (A := A) (fun c d (y : A c d) => Rl.idx one' eno' y fin) (rows a b x)) fin
  have e2 : (asR Q1).signs = (asR Q2).signs := Rl.map (fun a b x => ((unA a b).mp x).2.2.sign) fin
  cases h1 : asR Q1
  cases h2 : asR Q2
  rw [h1, h2] at e1 e2
  simp only at e1 e2
  rw [e1, e2]

/-! ### lots: numbered as first met -/
/-- how many numbers stand ahead of place k -/
def mx (t : List Nat) : Nat → Nat
  | 0 => 0
  | k + 1 => if t.getD k 0 = mx t k then mx t k + 1 else mx t k
/-- the first place of each number -/
def reps (t : List Nat) : Nat → List Nat
  | 0 => []
  | k + 1 => if t.getD k 0 = (reps t k).length then reps t k ++ [k] else reps t k
def Fo (t : List Nat) : Prop := ∀ k, k < t.length → t.getD k 0 ≤ mx t k
def cnt (t : List Nat) : Nat := mx t t.length
theorem reps_len (t : List Nat) : ∀ k, (reps t k).length = mx t k
  | 0 => rfl
  | k + 1 => by
    unfold reps mx
    rw [reps_len t k]
    split
    · rw [List.length_append, reps_len t k]
      rfl
    · exact reps_len t k
theorem mx_le (t : List Nat) : ∀ k, mx t k ≤ k
  | 0 => Nat.le_refl _
  | k + 1 => by
    have ih := mx_le t k
    unfold mx
    split <;> omega
theorem mx_mono (t : List Nat) (k : Nat) : mx t k ≤ mx t (k + 1) := by
  show _ ≤ if t.getD k 0 = mx t k then mx t k + 1 else mx t k
  split <;> omega
theorem reps_low (t : List Nat) : ∀ k, ∀ x ∈ reps t k, x < k
  | 0 => by simp [reps]
  | k + 1 => by
    have ih := reps_low t k
    unfold reps
    intro x hx
    split at hx
    · rcases List.mem_append.mp hx with e | e
      · exact Nat.lt_succ_of_lt (ih x e)
      · rw [List.mem_singleton] at e
        omega
    · exact Nat.lt_succ_of_lt (ih x hx)
theorem reps_at (t : List Nat) : ∀ k c, c < mx t k → t.getD ((reps t k).getD c 0) 0 = c
  | k + 1, c, h => by
    have ih := reps_at t k
    have hl := reps_len t k
    unfold reps
    rw [hl]
    by_cases q : t.getD k 0 = mx t k
    · rw [if_pos q]
      unfold mx at h
      rw [if_pos q] at h
      by_cases qc : c < mx t k
      · have e : (reps t k ++ [k]).getD c 0 = (reps t k).getD c 0 := by
          rw [List.getD_eq_getElem?_getD, List.getD_eq_getElem?_getD, List.getElem?_append_left (by omega)]
        rw [e]
        exact ih c qc
      · have ec : c = mx t k := by omega
        have e : (reps t k ++ [k]).getD c 0 = k := by
          rw [List.getD_eq_getElem?_getD, List.getElem?_append_right (by omega), hl, ec]
          simp
        rw [e, q, ec]
    · rw [if_neg q]
      unfold mx at h
      rw [if_neg q] at h
      exact ih c h
theorem Fo.lt {t : List Nat} (f : Fo t) : ∀ k, k ≤ t.length → ∀ j, j < k → t.getD j 0 < mx t k
  | k + 1, hk, j, hj => by
    have m := mx_mono t k
    by_cases e : j = k
    · subst e
      have q := f j hk
      show _ < if t.getD j 0 = mx t j then mx t j + 1 else mx t j
      split <;> omega
    · have q := f.lt k (by omega) j (by omega)
      omega
theorem Fo.cnt {t : List Nat} (f : Fo t) {j : Nat} (h : j < t.length) : t.getD j 0 < cnt t := f.lt _ (Nat.le_refl _) j h
theorem Fo.zero {t : List Nat} (f : Fo t) (h : 0 < t.length) : t.getD 0 0 = 0 := by
  have q := f 0 h
  exact Nat.le_zero.mp q
theorem Fo.rep {t : List Nat} {c : Nat} (h : c < FW.cnt t) : (reps t t.length).getD c 0 < t.length ∧ t.getD ((reps t t.length).getD c 0) 0 = c := by
  refine ⟨reps_low t _ _ (getD_mem ?_), reps_at t _ c h⟩
  rw [reps_len]
  exact h

/-! ### the machine of the lots -/
structure LotsOk (R : Mac) (L : Nat) (t : List Nat) : Prop where
  len : t.length = R.rows.length
  sgn : ∀ a b, a < R.rows.length → b < R.rows.length → t.getD a 0 = t.getD b 0 → sg R a = sg R b
  stb : ∀ a b l, a < R.rows.length → b < R.rows.length → l < L → t.getD a 0 = t.getD b 0 → t.getD (nx R a l) 0 = t.getD (nx R b l) 0
  crs : ∀ a b, a < R.rows.length → b < R.rows.length → Alike R R L a b → t.getD a 0 = t.getD b 0
  fo : Fo t
def quot (R : Mac) (t : List Nat) : Mac := ⟨(reps t t.length).map fun k => (row R k).map fun x => t.getD x 0, (reps t t.length).map fun k => sg R k⟩
section
variable {R : Mac} {L : Nat} {t : List Nat}
theorem quot_rows : (quot R t).rows.length = cnt t := by
  show ((reps t t.length).map _).length = _
  rw [List.length_map, reps_len]
  rfl
theorem quot_row {c : Nat} (h : c < cnt t) : row (quot R t) c = (row R ((reps t t.length).getD c 0)).map fun x => t.getD x 0 := by
  have q : c < (reps t t.length).length := by rw [reps_len]; exact h
  show ((reps t t.length).map fun k => (row R k).map fun x => t.getD x 0).getD c [] = _
  simp only [List.getD_eq_getElem?_getD, List.getElem?_map, List.getElem?_eq_getElem q, Option.map_some, Option.getD_some]
theorem quot_sg {c : Nat} (h : c < cnt t) : sg (quot R t) c = sg R ((reps t t.length).getD c 0) := by
  have q : c < (reps t t.length).length := by rw [reps_len]; exact h
  show ((reps t t.length).map fun k => sg R k).getD c 0 = _
  simp only [List.getD_eq_getElem?_getD, List.getElem?_map, List.getElem?_eq_getElem q, Option.map_some, Option.getD_some]
theorem LotsOk.rep (k : LotsOk R L t) {c : Nat} (h : c < cnt t) : (reps t t.length).getD c 0 < R.rows.length ∧ t.getD ((reps t t.length).getD c 0) 0 = c :=
  ⟨Nat.lt_of_lt_of_eq (Fo.rep h).1 k.len, (Fo.rep h).2⟩
theorem LotsOk.cnt_pos (o : Ok R L) (k : LotsOk R L t) : 0 < cnt t := by
  have q := o.pos
  have e := k.len
  exact Nat.lt_of_le_of_lt (Nat.zero_le _) (k.fo.cnt (j := 0) (by omega))
theorem quot_nx (o : Ok R L) (k : LotsOk R L t) {c l : Nat} (h : c < cnt t) (hl : l < L) : nx (quot R t) c l = t.getD (nx R ((reps t t.length).getD c 0) l) 0 := by
  have e := row_len o (k.rep h).1
  unfold nx
  rw [quot_row h]
  simp only [List.getD_eq_getElem?_getD] at e ⊢
  rw [List.getElem?_map, List.getElem?_eq_getElem (by omega)]
  simp
theorem quot_ok (o : Ok R L) (k : LotsOk R L t) : Ok (quot R t) L := by
  have lowR : ∀ x ∈ reps t t.length, x < R.rows.length := fun x hx => by
    have q := reps_low t _ x hx
    rw [k.len] at q
    exact q
  refine ⟨by simp [quot], by rw [quot_rows]; exact k.cnt_pos o, fun r hr => ?_, fun r hr x hx => ?_⟩
  · obtain ⟨a, ha, e⟩ := List.mem_map.mp hr
    subst e
    rw [List.length_map]
    exact row_len o (lowR a ha)
  · obtain ⟨a, ha, e⟩ := List.mem_map.mp hr
    subst e
    obtain ⟨y, hy, e⟩ := List.mem_map.mp hx
    subst e
    rw [quot_rows]
    refine k.fo.cnt ?_
    rw [k.len]
    exact row_low o (lowR a ha) hy
theorem quot_alike (o : Ok R L) (k : LotsOk R L t) {a : Nat} (h : a < R.rows.length) : Alike R (quot R t) L a (t.getD a 0) := by
  refine ⟨fun a c => a < R.rows.length ∧ c = t.getD a 0, fun a c ⟨ha, e⟩ => ?_, h, rfl⟩
  have hc : c < cnt t := by
    rw [e]
    exact k.fo.cnt (by rw [k.len]; exact ha)
  obtain ⟨h1, h2⟩ := k.rep hc
  refine ⟨?_, fun l hl => ⟨nx_low o ha hl, ?_⟩⟩
  · rw [quot_sg hc]
    exact k.sgn _ _ ha h1 (by rw [h2, e])
  · rw [quot_nx o k hc hl]
    exact k.stb _ _ _ h1 ha hl (by rw [h2, e])
theorem quot_red (o : Ok R L) (k : LotsOk R L t) : Red (quot R t) L := by
  intro c d hc hd h
  rw [quot_rows] at hc hd
  obtain ⟨c1, c2⟩ := k.rep hc
  obtain ⟨d1, d2⟩ := k.rep hd
  have a1 := quot_alike o k c1
  have a2 := quot_alike o k d1
  rw [c2] at a1
  rw [d2] at a2
  have q := k.crs _ _ c1 d1 ((a1.trans h).trans a2.symm)
  rw [c2, d2] at q
  exact q
end

/-! ### least forms -/
def LeastOf (M : Mac) (L : Nat) (K : Mac) : Prop := ∃ t, LotsOk (asR M) L t ∧ K = asR (quot (asR M) t)
section
variable {M N K J : Mac} {L : Nat}
theorem LeastOf.alike (o : Ok M L) (h : LeastOf M L K) : Alike M K L 0 0 := by
  obtain ⟨t, k, e⟩ := h
  subst e
  have oR := asR_ok o
  have q := quot_alike oR k oR.pos
  rw [k.fo.zero (by rw [k.len]; exact oR.pos)] at q
  exact ((asR_alike o).trans q).trans (asR_alike (quot_ok oR k))
theorem LeastOf.ok (o : Ok M L) (h : LeastOf M L K) : Ok K L := by
  obtain ⟨t, k, e⟩ := h
  subst e
  exact asR_ok (quot_ok (asR_ok o) k)
theorem LeastOf.size (o : Ok M L) (h : LeastOf M L K) : K.rows.length ≤ (order M).length := by
  obtain ⟨t, k, e⟩ := h
  subst e
  have q := ord_le (quot_ok (asR_ok o) k) (quot (asR M) t).rows.length
  have z0 : (quot (asR M) t).rows.length = mx t t.length := quot_rows
  have z := mx_le t t.length
  have z2 := k.len
  rw [asR_rows] at z2 ⊢
  show (ord (quot (asR M) t) (quot (asR M) t).rows.length).length ≤ _
  omega
/-- THE LAW: the least forms are one just where the machines are alike -/
theorem least_iff (o : Ok M L) (p : Ok N L) (h : LeastOf M L K) (g : LeastOf N L J) : K = J ↔ Alike M N L 0 0 := by
  constructor
  · intro e
    subst e
    exact (h.alike o).trans (g.alike p).symm
  · intro a
    have ha := h.alike o
    have ga := g.alike p
    obtain ⟨t, k, e⟩ := h
    obtain ⟨u, q, f⟩ := g
    subst e f
    have oR := asR_ok o
    have pR := asR_ok p
    refine canon (quot_ok oR k) (quot_ok pR q) (quot_red oR k) (quot_red pR q) ?_
    have z1 := asR_alike (quot_ok oR k)
    have z2 := asR_alike (quot_ok pR q)
    exact ((z1.trans ha.symm).trans (a.trans ga)).trans z2.symm
end

/-! ### numbers by the first time that a key is met -/
section
variable {α : Type} [DecidableEq α]
abbrev ix (D : List α) (k : α) : Nat := D.idxOf k
theorem ix_self (k : α) (D : List α) : ix (k :: D) k = 0 := by
  unfold ix
  rw [List.idxOf_cons]
  simp
theorem ix_ne {x k : α} (h : ¬ x = k) (D : List α) : ix (x :: D) k = ix D k + 1 := by
  unfold ix
  rw [List.idxOf_cons, show (x == k) = false by simpa using h]
  rfl
def numb (ks : List α) : List Nat := ks.map fun k => (putAll [] ks).idxOf k
theorem putAll_append (o rs ts : List α) : putAll o (rs ++ ts) = putAll (putAll o rs) ts := List.foldl_append
theorem putAll_take (ks : List α) {i : Nat} {k : α} (h : ks[i]? = some k) : putAll [] (ks.take (i + 1)) = put (putAll [] (ks.take i)) k := by
  rw [List.take_add_one, h, putAll_append]
  rfl
theorem putAll_takeO (o ks : List α) {i : Nat} {k : α} (h : ks[i]? = some k) : putAll o (ks.take (i + 1)) = put (putAll o (ks.take i)) k := by
  rw [List.take_add_one, h, putAll_append]
  rfl
theorem putAll_pre (ks : List α) (i : Nat) : ∃ m, putAll [] ks = putAll [] (ks.take i) ++ m := by
  obtain ⟨m, e⟩ := putAll_sub (rs := ks.drop i) (o := putAll [] (ks.take i))
  rw [← putAll_append, List.take_append_drop] at e
  exact ⟨m, e⟩
theorem putAll_memTake (ks : List α) {i : Nat} {k : α} (h : ks[i]? = some k) : k ∈ putAll [] (ks.take (i + 1)) := by
  rw [putAll_take ks h]
  exact put_mem
/-- the number that place i gets, while the loop stands there -/
theorem idx_pre (ks : List α) {i : Nat} {k : α} (h : k ∈ putAll [] (ks.take i)) : (putAll [] (ks.take i)).idxOf k = (putAll [] ks).idxOf k := by
  obtain ⟨m, e⟩ := putAll_pre ks i
  rw [e, List.idxOf_append, if_pos h]
theorem numb_len (ks : List α) : (numb ks).length = ks.length := List.length_map _
theorem numb_at (ks : List α) {i : Nat} {k : α} (h : ks[i]? = some k) : (numb ks).getD i 0 = (putAll [] ks).idxOf k := by
  unfold numb
  rw [List.getD_eq_getElem?_getD, List.getElem?_map, h]
  rfl
theorem numb_eq (ks : List α) {i j : Nat} {k k' : α} (h : ks[i]? = some k) (h' : ks[j]? = some k') : (numb ks).getD i 0 = (numb ks).getD j 0 ↔ k = k' := by
  rw [numb_at ks h, numb_at ks h']
  constructor
  · intro e
    have m1 : k ∈ putAll [] ks := putAll_mem (List.mem_of_getElem? h)
    have m2 : k' ∈ putAll [] ks := putAll_mem (List.mem_of_getElem? h')
    have l1 := List.idxOf_lt_length_iff.mpr m1
    have l2 := List.idxOf_lt_length_iff.mpr m2
    have e1 := List.getElem_idxOf l1
    have e2 := List.getElem_idxOf l2
    rw [← e1, ← e2]
    simp only [e]
  · intro e
    rw [e]
theorem numb_mx (ks : List α) : ∀ i, i ≤ ks.length → mx (numb ks) i = (putAll [] (ks.take i)).length
  | 0, _ => rfl
  | i + 1, h => by
    have hi : ks[i]? = some ks[i] := List.getElem?_eq_getElem h
    have ih := numb_mx ks i (Nat.le_of_lt h)
    have e := numb_at ks hi
    have et := putAll_take ks hi
    have em := idx_pre ks (putAll_memTake ks hi)
    unfold mx
    rw [ih, e, et]
    rw [et] at em
    by_cases q : ks[i] ∈ putAll [] (ks.take i)
    · have q2 := List.idxOf_lt_length_iff.mpr q
      rw [idx_pre ks q] at q2
      rw [if_neg (by omega)]
      unfold put
      rw [if_pos q]
    · have z : put (putAll [] (ks.take i)) ks[i] = putAll [] (ks.take i) ++ [ks[i]] := by
        unfold put
        rw [if_neg q]
      rw [z, List.idxOf_append, if_neg q] at em
      rw [z, List.length_append, ← em]
      simp
theorem numb_fo (ks : List α) : Fo (numb ks) := fun i h => by
  rw [numb_len] at h
  have hi : ks[i]? = some ks[i] := List.getElem?_eq_getElem h
  rw [numb_mx ks i (Nat.le_of_lt h), numb_at ks hi, ← idx_pre ks (putAll_memTake ks hi), putAll_take ks hi]
  unfold put
  split
  · rename_i q
    exact Nat.le_of_lt (List.idxOf_lt_length_iff.mpr q)
  · rename_i q
    rw [List.idxOf_append, if_neg q]
    simp
end

/-! ### lots made finer -/
structure Pre (R : Mac) (L : Nat) (t : List Nat) : Prop where
  len : t.length = R.rows.length
  sgn : ∀ a b, a < R.rows.length → b < R.rows.length → t.getD a 0 = t.getD b 0 → sg R a = sg R b
  crs : ∀ a b, a < R.rows.length → b < R.rows.length → Alike R R L a b → t.getD a 0 = t.getD b 0
  fo : Fo t
structure Fin (R : Mac) (L : Nat) (old t : List Nat) : Prop where
  len : old.length = R.rows.length
  fo : Fo old
  fin : ∀ a b, a < R.rows.length → b < R.rows.length → t.getD a 0 = t.getD b 0 → old.getD a 0 = old.getD b 0
  stb : ∀ a b l, a < R.rows.length → b < R.rows.length → l < L → t.getD a 0 = t.getD b 0 → old.getD (nx R a l) 0 = old.getD (nx R b l) 0
/-- behind a turn of the while: many is the number of lots of the last turn's -/
structure Turn (R : Mac) (L many : Nat) (t : List Nat) : Prop where
  pre : Pre R L t
  old : many = 0 ∨ ∃ o, cnt o = many ∧ Fin R L o t
def keysOf (R : Mac) (t : List Nat) : List (Nat × List Nat) := (List.range R.rows.length).map fun k => (t.getD k 0, (row R k).map fun x => t.getD x 0)
section
variable {R : Mac} {L many : Nat} {t : List Nat}
theorem keysOf_at {a : Nat} (h : a < R.rows.length) : (keysOf R t)[a]? = some (t.getD a 0, (row R a).map fun x => t.getD x 0) := by
  unfold keysOf
  rw [List.getElem?_map, List.getElem?_range h]
  rfl
theorem keysOf_len : (keysOf R t).length = R.rows.length := by
  unfold keysOf
  rw [List.length_map, List.length_range]
theorem sg_at {a : Nat} (o : Ok R L) (h : a < R.rows.length) : R.signs[a]? = some (sg R a) := by
  have q := o.same
  unfold sg
  rw [List.getD_eq_getElem?_getD, List.getElem?_eq_getElem (by omega)]
  rfl
theorem turn0 (o : Ok R L) : Turn R L 0 (numb R.signs) := by
  refine ⟨⟨by rw [numb_len]; exact o.same, fun a b ha hb e => ?_, fun a b ha hb k => ?_, numb_fo _⟩, .inl rfl⟩
  · exact (numb_eq _ (sg_at o ha) (sg_at o hb)).mp e
  · exact (numb_eq _ (sg_at o ha) (sg_at o hb)).mpr k.sign
theorem map_row (o : Ok R L) {a b : Nat} (ha : a < R.rows.length) (hb : b < R.rows.length) : ((row R a).map fun x => t.getD x 0) = ((row R b).map fun x => t.getD x 0) ↔ ∀ l, l < L → t.getD (nx R a l) 0 = t.getD (nx R b l) 0 := by
  have la := row_len o ha
  have lb := row_len o hb
  have look : ∀ c, (row R c).length = L → ∀ l, l < L → ((row R c).map fun x => t.getD x 0)[l]? = some (t.getD (nx R c l) 0) := fun c hc l hl => by
    rw [List.getElem?_map, List.getElem?_eq_getElem (by omega)]
    have e : nx R c l = (row R c)[l]'(by omega) := by
      unfold nx
      rw [List.getD_eq_getElem?_getD, List.getElem?_eq_getElem (by omega)]
      rfl
    rw [e]
    rfl
  constructor
  · intro e l hl
    have q := look a la l hl
    rw [e, look b lb l hl] at q
    exact (Option.some.inj q).symm
  · intro h
    refine List.ext_getElem? fun l => ?_
    by_cases hl : l < L
    · rw [look a la l hl, look b lb l hl, h l hl]
    · rw [List.getElem?_eq_none (by rw [List.length_map]; omega), List.getElem?_eq_none (by rw [List.length_map]; omega)]
theorem key_iff (o : Ok R L) {a b : Nat} (ha : a < R.rows.length) (hb : b < R.rows.length) : (numb (keysOf R t)).getD a 0 = (numb (keysOf R t)).getD b 0 ↔ t.getD a 0 = t.getD b 0 ∧ ∀ l, l < L → t.getD (nx R a l) 0 = t.getD (nx R b l) 0 := by
  rw [numb_eq _ (keysOf_at ha) (keysOf_at hb), Prod.mk.injEq, map_row o ha hb]
theorem Turn.next (o : Ok R L) (h : Turn R L many t) : Turn R L (cnt t) (numb (keysOf R t)) := by
  refine ⟨⟨by rw [numb_len, keysOf_len], fun a b ha hb e => ?_, fun a b ha hb k => ?_, numb_fo _⟩, .inr ⟨t, rfl, ⟨h.pre.len, h.pre.fo, fun a b ha hb e => ?_, fun a b l ha hb hl e => ?_⟩⟩⟩
  · exact h.pre.sgn a b ha hb ((key_iff o ha hb).mp e).1
  · exact (key_iff o ha hb).mpr ⟨h.pre.crs a b ha hb k, fun l hl => h.pre.crs _ _ (nx_low o ha hl) (nx_low o hb hl) (k.next hl)⟩
  · exact ((key_iff o ha hb).mp e).1
  · exact ((key_iff o ha hb).mp e).2 l hl
theorem Fin.onto {old : List Nat} (p : Pre R L t) (f : Fin R L old t) : ∀ y, y < cnt old → ∃ x, x < cnt t ∧ old.getD ((reps t t.length).getD x 0) 0 = y := fun y hy => by
  obtain ⟨h1, h2⟩ := Fo.rep hy
  have h1' : (reps old old.length).getD y 0 < R.rows.length := Nat.lt_of_lt_of_eq h1 f.len
  have hx : t.getD ((reps old old.length).getD y 0) 0 < cnt t := p.fo.cnt (by rw [p.len]; exact h1')
  refine ⟨_, hx, ?_⟩
  obtain ⟨g1, g2⟩ := Fo.rep hx
  exact (f.fin _ _ (Nat.lt_of_lt_of_eq g1 p.len) h1' g2).trans h2
theorem Turn.cnt_pos (o : Ok R L) (h : Turn R L many t) : 0 < cnt t :=
  Nat.lt_of_le_of_lt (Nat.zero_le _) (h.pre.fo.cnt (j := 0) (by rw [h.pre.len]; exact o.pos))
theorem Turn.cnt_le (h : Turn R L many t) : cnt t ≤ R.rows.length := by
  rw [← h.pre.len]
  exact mx_le _ _
theorem Turn.le (h : Turn R L many t) : many ≤ cnt t := by
  rcases h.old with e | ⟨o, e, f⟩
  · rw [e]
    exact Nat.zero_le _
  · rw [← e]
    exact onto_le _ _ _ (f.onto h.pre)
/-- the while's end -/
theorem Turn.done (o : Ok R L) (h : Turn R L many t) (e : many = cnt t) : LotsOk R L t := by
  have q := h.cnt_pos o
  rcases h.old with z | ⟨old, z, f⟩
  · omega
  · refine ⟨h.pre.len, h.pre.sgn, fun a b l ha hb hl k => ?_, h.pre.crs, h.pre.fo⟩
    have on := f.onto h.pre
    rw [z, e] at on
    have at_ : ∀ c, c < R.rows.length → t.getD c 0 < cnt t ∧ old.getD ((reps t t.length).getD (t.getD c 0) 0) 0 = old.getD c 0 := fun c hc => by
      have hx : t.getD c 0 < cnt t := h.pre.fo.cnt (by rw [h.pre.len]; exact hc)
      obtain ⟨g1, g2⟩ := Fo.rep hx
      exact ⟨hx, f.fin _ _ (Nat.lt_of_lt_of_eq g1 h.pre.len) hc g2⟩
    obtain ⟨c1, c2⟩ := at_ _ (nx_low o ha hl)
    obtain ⟨d1, d2⟩ := at_ _ (nx_low o hb hl)
    exact onto_inj on c1 d1 (by rw [c2, d2]; exact f.stb a b l ha hb hl k)
end
/-- lists of pairs -/
theorem pairs_le {n m : Nat} {ps : List (Nat × Nat)} (hd : ps.Nodup) (h : ∀ p ∈ ps, p.1 < n ∧ p.2 < m) : ps.length ≤ n * m := by
  refine onto_le ps.length (n * m) (fun x => ps.idxOf (x / m, x % m)) fun y hy => ?_
  obtain ⟨h1, h2⟩ := h _ (List.getElem_mem hy)
  refine ⟨ps[y].1 * m + ps[y].2, ?_, ?_⟩
  · calc ps[y].1 * m + ps[y].2 < ps[y].1 * m + m := by omega
      _ = (ps[y].1 + 1) * m := by rw [Nat.succ_mul]
      _ ≤ n * m := Nat.mul_le_mul_right _ h1
  · have pos : 0 < m := by omega
    have e1 : (ps[y].1 * m + ps[y].2) / m = ps[y].1 := by
      rw [Nat.mul_comm, Nat.mul_add_div pos, Nat.div_eq_of_lt h2, Nat.add_zero]
    have e2 : (ps[y].1 * m + ps[y].2) % m = ps[y].2 := by
      rw [Nat.mul_comm, Nat.mul_add_mod, Nat.mod_eq_of_lt h2]
    simp only [e1, e2]
    exact List.Nodup.idxOf_getElem hd y hy
theorem part_le {M : Mac} {L k i : Nat} (o : Ok M L) (h : k < (ord M k).length) : (putAll (ord M k) ((row M ((ord M k).getD k 0)).take i)).length ≤ M.rows.length :=
  nodup_le (putAll_nodup (ord_nodup M k)) (putAll_low (ord_low o k) fun x hx => row_low o (ord_low o _ _ (getD_mem h)) (List.mem_of_mem_take hx))

/-! ### pairs of rooms, met in turn -/
structure Pst (M N : Mac) (L k : Nat) (ps : List (Nat × Nat)) : Prop where
  zero : (0, 0) ∈ ps
  nd : ps.Nodup
  low : ∀ p ∈ ps, p.1 < M.rows.length ∧ p.2 < N.rows.length
  met : ∀ p ∈ ps, Met M N L p.1 p.2
  done : ∀ (i : Nat) p, i < k → ps[i]? = some p → sg M p.1 = sg N p.2 ∧ ∀ l, l < L → (nx M p.1 l, nx N p.2 l) ∈ ps
section
variable {M N : Mac} {L k : Nat} {ps : List (Nat × Nat)}
theorem Pst.start (o : Ok M L) (p : Ok N L) : Pst M N L 0 [(0, 0)] :=
  ⟨List.mem_singleton.mpr rfl, by simp, fun q hq => by rw [List.mem_singleton.mp hq]; exact ⟨o.pos, p.pos⟩, fun q hq => by rw [List.mem_singleton.mp hq]; exact .zero, fun i p h => absurd h (Nat.not_lt_zero _)⟩
theorem Pst.len (h : Pst M N L k ps) : ps.length ≤ M.rows.length * N.rows.length := pairs_le h.nd h.low
theorem Pst.put (o : Ok M L) (p : Ok N L) (h : Pst M N L k ps) {x y l : Nat} (hk : k < ps.length) (hxy : (x, y) ∈ ps) (hl : l < L) : Pst M N L k (FW.put ps (nx M x l, nx N y l)) := by
  have lw := h.low _ hxy
  have mt := h.met _ hxy
  refine ⟨put_keep h.zero, put_nodup h.nd, fun q hq => ?_, fun q hq => ?_, fun i q hi hq => ?_⟩
  · unfold FW.put at hq
    split at hq
    · exact h.low q hq
    · rcases List.mem_append.mp hq with z | z
      · exact h.low q z
      · rw [List.mem_singleton] at z
        rw [z]
        exact ⟨nx_low o lw.1 hl, nx_low p lw.2 hl⟩
  · unfold FW.put at hq
    split at hq
    · exact h.met q hq
    · rcases List.mem_append.mp hq with z | z
      · exact h.met q z
      · rw [List.mem_singleton] at z
        rw [z]
        exact .step mt hl
  · obtain ⟨m, e⟩ := put_sub (o := ps) (r := (nx M x l, nx N y l))
    rw [e, List.getElem?_append_left (by omega)] at hq
    obtain ⟨a, b⟩ := h.done i q hi hq
    exact ⟨a, fun j hj => put_keep (b j hj)⟩
theorem Pst.next (h : Pst M N L k ps) {x y : Nat} (hxy : ps[k]? = some (x, y)) (hs : sg M x = sg N y) (hall : ∀ l, l < L → (nx M x l, nx N y l) ∈ ps) : Pst M N L (k + 1) ps := by
  refine ⟨h.zero, h.nd, h.low, h.met, fun i q hi hq => ?_⟩
  by_cases e : i = k
  · subst e
    rw [hxy] at hq
    have e2 := Option.some.inj hq
    subst e2
    exact ⟨hs, hall⟩
  · exact h.done i q (by omega) hq
theorem Pst.alike (h : Pst M N L k ps) (hk : ps.length ≤ k) : Alike M N L 0 0 := by
  refine ⟨fun a b => (a, b) ∈ ps, fun a b hab => ?_, h.zero⟩
  obtain ⟨i, hi, e⟩ := List.mem_iff_getElem.mp hab
  have q := h.done i (a, b) (by omega) (by rw [List.getElem?_eq_getElem hi, e])
  exact q
theorem Pst.apart (h : Pst M N L k ps) {x y : Nat} (hxy : (x, y) ∈ ps) (hs : sg M x ≠ sg N y) : ¬ Alike M N L 0 0 := fun a => hs ((h.met _ hxy).of a).sign
end
end FW

/-! Rules of our own: enumerate of a tuple, len(set(list)), a dict whose keys are (number, (numbers)). -/
namespace FwR
open PySem PySem.Spec PyProof.Rows L2

/-! ### enumerate(tuple) -/
abbrev itObj (t : Addr) : Obj := { cls := .type "tuple_iterator", data := .fields #[.ref t, .int 0 0] }
abbrev enObj (it : Addr) : Obj := { cls := .type "enumerate", data := .fields #[.none, .bool false, .ref it, rawInt 0, .none, .none] }
theorem meetsEnumT (t : Addr) (items : Array Value) :
    Meets (Builtin.«enumerate.__new__» ⟨[.type "enumerate", .ref t], []⟩) (fun _ R s => s.heap.IsTuple t items ∧
      R (.ok (.ret (.ref (s.heap.objs.size + 1))))
        { s with heap := (s.heap.push (itObj t)).push (enObj s.heap.objs.size) }) :=
  .of_wp fun pr wd Ar R s h => by
    obtain ⟨hh, g, d, tok, os⟩ := s
    obtain ⟨tyE, h⟩ := h
    have zln : (hh.push (itObj t)).objs.size = hh.objs.size + 1 := Heap.size_push ..
    have h : R (.ok (.ret (.ref (hh.objs.size + 1)))) ⟨(hh.push (itObj t)).push (enObj hh.objs.size), g, d, tok, os⟩ := h
    rw [← zln] at h
    obtain ⟨ob, ho, hcls, n, hdt⟩ := id tyE
    obtain ⟨oc, od, odt, osl⟩ := ob
    simp only at hcls hdt
    subst hcls hdt
    have hsub := sub_enumerate
    wp_walk using AutoSeq1.wpAny_loadPart' ho
    refine wpAny_stack_any fun sti => wpAny_pure ?_
    split
    · rename_i c _ _ _ _ _
      cases hce : (c == Value.type "enumerate")
      · wp_walk using AutoSeq1.wpAny_loadPart' ho, wpAny_pyIter_tuple tyE
        exact ⟨_, rfl, h⟩
      · wp_walk using AutoSeq1.wpAny_loadPart' ho, wpAny_pyIter_tuple tyE
        exact ⟨_, rfl, h⟩
    · wp_walk using AutoSeq1.wpAny_loadPart' ho, wpAny_pyIter_tuple tyE
      exact ⟨_, rfl, h⟩
theorem callEnumT {prog : Program} {w : World} {A : Around} {E : Value → Shared → Prop} {s : Shared} {t : Addr} {items : Array Value} {Q : Value → Shared → Prop} (ht : s.heap.IsTuple t items)
    (h : ∀ hn, IsEnum hn (s.heap.objs.size + 1) s.heap.objs.size 0 .none → hn.IsTupleIter s.heap.objs.size t 0 → hn.objs.size = s.heap.objs.size + 2 → (∀ c z, s.heap.get? c = some z → hn.get? c = some z) →
      Q (.ref (s.heap.objs.size + 1)) { s with heap := hn }) :
    wpAny (model prog w) A (call (.type "enumerate") [.ref t]) Q E s := by
  refine callType_new F.called_enumerate (by decide) (F.typeCall_enumerate_1 _) (F.newCall_enumerate_1 _)
    (fun obj => F.args_object_init_2 obj _) F.entry_enumerate_new (meetsEnumT t items) ⟨ht, ?_⟩
  have zln : (s.heap.push (itObj t)).objs.size = s.heap.objs.size + 1 := Heap.size_push ..
  have he := Heap.get?_push_size (s.heap.push (itObj t)) (o := enObj s.heap.objs.size) rfl
  rw [zln] at he
  refine ⟨⟨_, he, rfl⟩, h _ he ?_ ?_ ?_⟩
  · exact ⟨_, Heap.get?_push_of_some _ (Heap.get?_push_size _ rfl), rfl, rfl⟩
  · rw [Heap.size_push, zln]
  · exact fun b o x => Heap.get?_push_of_some _ (Heap.get?_push_of_some _ x)

/-- the tuple at a, turn by turn: a fresh0 pair of the place and the item -/
def ItE (K : PySem.W.Frag) (a : Addr) : It where
  go := fun i H => ∃ (xs : List V) (x : V), SqT K H a xs ∧ xs[i]? = some x
  yld := fun i H v H' => ∃ (T : Addr) (x : V), v = .ref T ∧ H T = none ∧ H' = upd H T (.tup [.int (i : Nat), x]) ∧
    ∀ xs, SqT K H a xs → xs[i]? = some x
  stop := fun i H => ∃ xs : List V, SqT K H a xs ∧ xs.length = i
theorem turnE {P : Program} {w : World} {K : PySem.W.Frag} {elts : List Expr} {kk : Nat} {tpos : Pos} {a e it : Addr} (hai : a ≠ it) (hae : a ≠ e) (hei : e ≠ it) :
    Turn P w K (.Tuple elts kk tpos) (ItE K a) [e, it] e (fun i h => (∃ old, IsEnum h e it ((i : Nat) : Int) old) ∧ h.IsTupleIter it a i) where
  mem := by simp
  obj := fun i h sti b hb => by
    obtain ⟨⟨old, he⟩, o, ho, clm, hd⟩ := sti
    rcases (show b = e ∨ b = it by simpa using hb) with z | z
    · rw [z]
      exact ⟨_, he, fun v q => nomatch q⟩
    · rw [z]
      exact ⟨o, ho, fun v q => by rw [hd] at q; cases q⟩
  keep := fun i h h' sti k => by
    obtain ⟨⟨old, he⟩, hi⟩ := sti
    exact ⟨⟨old, k e (by simp) _ he⟩, hi.at fun o q => k it (by simp) o q⟩
  item := by
    intro X e1 e2 e3 clm i pns s σ H E I hf sti hg
    subst e1 e2 e3
    obtain ⟨⟨old, he⟩, hit⟩ := sti
    obtain ⟨xs, x, sqa, hx⟩ := hg
    obtain ⟨ws, rws, tpl, zln⟩ := I.tuple sqa
    obtain ⟨wv, atw, rlu⟩ := rws.get hx
    have ltE : e < s.heap.objs.size := Heap.lt_size he
    have ltI : it < s.heap.objs.size := by
      obtain ⟨_, q, _⟩ := id hit
      exact Heap.lt_size q
    have hlt : i < ws.toArray.size := by
      have q := (List.getElem?_eq_some_iff.mp atw).1
      simpa using q
    have hal : a < s.heap.objs.size := by
      obtain ⟨_, q, _⟩ := id tpl
      exact Heap.lt_size q
    refine wpAny_pyNext_enum_itemD (Draws.tuple (A := X.A.in1) (I.ok.hd clm) it a hai ws.toArray) he ⟨hit, tpl⟩ hlt hei (by simp; exact ⟨hei, fun z => hae z.symm⟩) fun y h' tok hy ho hit' tyE hsz hk => ?_
    have eu : y = wv := by
      have q : ws.toArray[i]? = some wv := by simpa using atw
      exact Option.some.inj (hy.symm.trans q)
    subst eu
    refine ⟨_, rfl, wpAny_letOwnedTupleGo_enum (s := { s with heap := h', toks := tok + 1 }) ho fun h'' he' sb => ?_⟩
    have hT2 : h''.get? s.heap.objs.size = some { cls := .type "tuple", data := .seq #[.int i tok, y] } := (sb.2 _ (Nat.ne_of_gt ltE)).trans tyE
    have fresh0 : ObjOk X.prog X.w (upd H s.heap.objs.size (.tup [.int (i : Nat), x])) h'' s.heap.objs.size (.tup [.int (i : Nat), x]) := ⟨by show 2 ≤ sizeLine; decide, [.int i tok, y], .cons ⟨_, rfl⟩ (.cons rlu .nil), ⟨_, hT2, rfl, _, rfl⟩⟩
    have J1 : Inv X pns σ (upd H s.heap.objs.size (.tup [.int (i : Nat), x])) { s with heap := h'', toks := tok + 1 } :=
      I.turnedNew (ch := [e, it]) (fun b ob hb q => by
        have b1 : b ≠ e := fun z => hb (by simp [z])
        have b2 : b ≠ it := fun z => hb (by simp [z])
        exact (sb.2 b b1).trans (hk b ob b1 b2 q)) hf (Nat.le_refl _) fresh0
    refine ⟨.ref s.heap.objs.size, _, J1, rfl, ?_, ⟨⟨y, ?_⟩, ?_⟩, fun b hb => ?_⟩
    · exact ⟨_, x, rfl, I.hok.fresh (Nat.le_refl _), rfl, fun ys hy => by rw [I.tuple_inj hy sqa]; exact hx⟩
    · rw [show ((i + 1 : Nat) : Int) = (i : Int) + 1 by omega]
      exact he'
    · exact hit'.1.at fun o q => (sb.2 it (Ne.symm hei)).trans q
    · have ltB : b < s.heap.objs.size := by
        rcases (show b = e ∨ b = it by simpa using hb) with z | z
        · rw [z]; exact ltE
        · rw [z]; exact ltI
      rw [upd_ne (Nat.ne_of_lt ltB)]
      exact (hf b hb).1
  done := by
    intro X e1 e2 e3 clm i pns s σ H E I hf sti hg
    subst e1 e2 e3
    obtain ⟨⟨old, he⟩, hit⟩ := sti
    obtain ⟨xs, sqa, hx⟩ := hg
    obtain ⟨ws, rws, tpl, zln⟩ := I.tuple sqa
    have en : ws.toArray.size = i := by
      rw [List.size_toArray, ← rws.length, hx]
    have iok := hf it (by simp)
    refine wpAny_pyNext_enum_endD (Draws.tuple (A := X.A.in1) (I.ok.hd clm) it a hai ws.toArray) he (by rw [en]; exact ⟨hit, tpl⟩) fun hn ext => ⟨rfl, ?_⟩
    exact I.turned (t' := s.toks) (fun c z ne g => ext c z ne g) iok.1 iok.2.1 iok.2.2.2.1 iok.2.2.2.2.1 iok.2.2.2.2.2
  self := fun A i s Q E sti h => by
    obtain ⟨⟨_, he⟩, _⟩ := sti
    exact wpAny_pyIter_enum he h
def iEnumT (K : PySem.W.Frag) (ta : TA) : TI := fun σ H R => ta σ H fun vs H1 => ∃ a xs, vs = [.ref a] ∧ SqT K H1 a xs ∧ R (ItE K a) H1
theorem pi_enumT {X : Cx} {e : Expr} {ta : TA} {tpl pos tpos : Pos} {elts : List Expr} {kk : Nat} (hg : Gl X "enumerate") (hm : X.mg "enumerate" = none) (ha : PA X [e] ta)
    (hs : starEach [e] X.env = [(false, eval e X.env)] := by rfl) :
    PI X (.Tuple elts kk tpos) (.Call (.Name "enumerate" tpl) [e] [] pos) (iEnumT X.K ta) := by
  refine ⟨fun pns s σ H R I h => ?_⟩
  refine Call_ (ld_blt I hg hm boot_enumerate ?_)
  refine PyProof.Rows.callWith_type1 (thn (ha.run pos pns s σ H _ I h) fun us s1 ⟨vs, H1, J1, r1, q1⟩ => ?_) hs rfl
  obtain ⟨a, xs, ex, sqa, q⟩ := q1
  subst ex
  obtain ⟨wv, rfl, rlu⟩ := vals1 r1
  cases rlu
  obtain ⟨ws, rws, p', zln⟩ := J1.tuple sqa
  have hal : a < s1.heap.objs.size := by
    obtain ⟨_, q, _⟩ := id p'
    exact Heap.lt_size q
  refine callEnumT p' fun h' he hit hsz hk => wpAny_pyIter_enum he ?_
  have J2 : Inv X pns σ H1 { s1 with heap := h' } :=
    J1.kept (t' := s1.toks) hk
  refine ⟨s1.heap.objs.size + 1, [s1.heap.objs.size + 1, s1.heap.objs.size], _, _, H1, rfl, J2,
    turnE (Nat.ne_of_lt hal) (Nat.ne_of_lt (Nat.lt_succ_of_lt hal)) (Nat.succ_ne_self _), ⟨⟨.none, he⟩, hit⟩, fun b hb => ?_, q⟩
  have geS : s1.heap.objs.size ≤ b := by
    rcases (show b = s1.heap.objs.size + 1 ∨ b = s1.heap.objs.size by simpa using hb) with z | z
    · rw [z]; exact Nat.le_succ _
    · rw [z]; exact Nat.le_refl _
  exact J1.fpOk geS (J1.hok.fresh geS)

/-! ### len(set(list of numbers)) -/
def tLenSet (K : PySem.W.Frag) (ta : TE) : TE := fun σ H Q => ta σ H fun x H1 => ∃ (l : Addr) (ns : List Int), x = .ref l ∧ SqL K H1 l (ns.map V.int) ∧
  ns.length ≤ 4000 ∧ Q (.int (PyProof.Rows.firstMet (fun i => ns.getD i 0) ns.length).length) H1
theorem intsOf : ∀ {ns : List Int} {us : List Value}, Vals (ns.map V.int) us → PyProof.Rows.IntsAre us ns
  | [], _, .nil => .nil
  | n :: _, _, .cons r t => by
    obtain ⟨k, e⟩ := (show ∃ k, _ = Value.int n k from r)
    subst e
    exact .cons n k (intsOf t)
theorem pe_lenSet {X : Cx} {a : Expr} {ta : TE} {p p2 q pos : Pos} (hg : Gl X "len") (hm : X.mg "len" = none) (hg2 : Gl X "set") (hm2 : X.mg "set" = none) (ha : PE X a ta)
    (hc : X.calm = true := by rfl) (na : starEach [a] X.env = (false, eval a X.env) :: starEach [] X.env := by rfl) :
    PE X (.Call (.Name "len" p) [.Call (.Name "set" p2) [a] [] q] [] pos) (tLenSet X.K ta) := by
  refine ⟨fun pins s σ H Q I h => ?_⟩
  refine Call_ (ld_blt I hg hm boot_len (PyProof.Rows.callWith_builtin1 (PyProof.Rows.args_cons ?_ rfl) rfl rfl))
  refine Call_ (ld_blt I hg2 hm2 PyProof.Rows.boot_set (PyProof.Rows.callWith_type1 (PyProof.Rows.args_cons ?_ na) na rfl))
  refine thn (ha.run pins s σ H _ I h) fun v s1 ⟨x, H1, I1, r1, q1⟩ => PyProof.Rows.args_nil ?_
  obtain ⟨l, ns, ex, hq, hl, q1⟩ := q1
  subst ex
  cases r1
  obtain ⟨ws, r, pl, lez⟩ := I1.list hq
  have hlen : ws.toArray.size = ns.length := by
    have e := r.length
    rw [List.length_map] at e
    rw [List.size_toArray, e]
  refine PySem.call_set_list (I1.ok.hd hc) pl.isList (by simpa using intsOf r) (by rw [hlen]; unfold scanBound; omega) fun h' tk hS hk => PyProof.Rows.args_nil ?_
  rw [hlen] at hS
  obtain ⟨ob, ents, epo, tb, ho, hex, hd, _, _, _, hf, hn⟩ := hS
  have I2 : Inv X pins σ H1 { s1 with heap := h', toks := tk } :=
    I1.kept fun c z g => hk c z (Heap.lt_size g) g
  have small := firstMet_length_le (fun i => ns.getD i 0) ns.length
  refine call_len_set ho hex hd hf (by rw [hn]; omega) ?_
  exact ⟨.int (PyProof.Rows.firstMet (fun i => ns.getD i 0) ns.length).length, H1, I2.tok _, ⟨_, by rw [hn]⟩, q1⟩

/-! ### a dict whose keys are (number, (numbers)), its values numbers -/
abbrev NK := Nat × List Nat
def natV (xs : List Nat) : List V := xs.map fun (n : Nat) => V.int (n : Int)
def nums (xs : List Nat) : List NestedKey := xs.map fun (n : Nat) => NestedKey.num (n : Int)
def nk (k : NK) : NestedKey := .tup [.num (k.1 : Int), .tup (nums k.2)]
theorem nums_inj : ∀ {a b : List Nat}, nums a = nums b → a = b
  | [], [], _ => rfl
  | [], _ :: _, e => nomatch e
  | _ :: _, [], e => nomatch e
  | x :: xs, y :: ys, e => by
    have e : NestedKey.num (x : Int) :: nums xs = NestedKey.num (y : Int) :: nums ys := e
    injection e with e1 e2
    injection e1 with e1
    rw [Int.ofNat.inj e1, nums_inj e2]
theorem nk_inj {a b : NK} (e : nk a = nk b) : a = b := by
  obtain ⟨a1, a2⟩ := a
  obtain ⟨b1, b2⟩ := b
  unfold nk at e
  injection e with e
  injection e with e1 e2
  injection e1 with e1
  injection e2 with e2
  injection e2 with e2
  have h1 : a1 = b1 := Int.ofNat.inj e1
  have h2 : a2 = b2 := nums_inj e2
  rw [h1, h2]
theorem nums_depth : ∀ xs : List Nat, NestedKey.depthAll (nums xs) = 0
  | [] => by simp [nums, NestedKey.depthAll]
  | x :: xs => by
    show NestedKey.depthAll (.num (x : Int) :: nums xs) = 0
    simp only [NestedKey.depthAll, NestedKey.depth, nums_depth xs]
    rfl
theorem nk_depth (k : NK) : (nk k).depth ≤ 8 := by
  unfold nk
  simp only [NestedKey.depth, NestedKey.depthAll, nums_depth k.2]
  decide
/-- at a stands the tuple (k.1, (k.2 ..)) -/
def KeyAt (H : Hp) (k : NK) (a : Addr) : Prop := ∃ b, H a = some (.tup [.int (k.1 : Int), .ref b]) ∧ H b = some (.tup (natV k.2))
theorem nestedAll_of {h : Heap} : ∀ {xs : List Nat} {us : List Value}, Vals (natV xs) us → NestedAll h (nums xs) us
  | [], _, .nil => .nil
  | n :: _, _, .cons r t => by
    obtain ⟨k, e⟩ := (show ∃ k, _ = Value.int (n : Int) k from r)
    subst e
    exact .cons (.int _ _) (nestedAll_of t)
section
variable {P : Program} {w : World} {H : Hp} {h : Heap}
theorem KeyAt.is {k : NK} {a : Addr} (q : KeyAt H k a) (ok : HOk P w H h) : (nestedKind P w).is h (nk k) a := by
  obtain ⟨b, q1, q2⟩ := q
  obtain ⟨_, its, r, o, h1, h2, n, h3⟩ := (show ObjOk P w H h a (.tup [.int (k.1 : Int), .ref b]) from ok a _ q1)
  obtain ⟨_, its2, r2, o2, g1, g2, n2, g3⟩ := (show ObjOk P w H h b (.tup (natV k.2)) from ok b _ q2)
  refine ⟨?_, nk_depth k⟩
  obtain ⟨u1, u2, e, ru1, ru2⟩ := vals2 r
  obtain ⟨t, e1⟩ := (show ∃ t, u1 = Value.int (k.1 : Int) t from ru1)
  have e2 : u2 = Value.ref b := ru2
  subst e e1 e2
  have inner : NestedIs h (.tup (nums k.2)) (.ref b) := .tup g1 g2 g3 (by simpa using nestedAll_of r2)
  exact NestedIs.tup h1 h2 h3 (by simpa using NestedAll.cons (.int _ t) (.cons inner .nil))
end
/-- a key, where its tuple stands, its number -/
abbrev En := NK × Addr × Nat
def Raw : List En → List (NestedKey × Addr × Value) → Prop := Paired fun p q => q.1 = nk p.1 ∧ q.2.1 = p.2.1 ∧ RelV (.int (p.2.2 : Int)) q.2.2
def phiX (P : Program) (w : World) (d : Addr) (kvs : List En) (h : Heap) : Prop :=
  (d == sysModules) = false ∧ kvs.length ≤ sizeLine ∧ (kvs.map (·.1)).Nodup ∧ ∃ xs, Raw kvs xs ∧
    ∃ o es ep, h.get? d = some o ∧ o.ExactDict ∧ o.data = .dict es ep ∧ es.toList = xs.map (entryOfKey (nestedKind P w))
def XD (P : Program) (w : World) (d : Addr) (kvs : List En) : HO := .ext (phiX P w d kvs)
def Keyed (H : Hp) (kvs : List En) : Prop := ∀ e ∈ kvs, KeyAt H e.1 e.2.1
def xlook (kvs : List En) (k : NK) : Option Nat := (kvs.find? fun e => decide (e.1 = k)).map (·.2.2)
theorem Raw.keys : ∀ {kvs : List En} {xs : List (NestedKey × Addr × Value)}, Raw kvs xs → xs.map (·.1) = (kvs.map (·.1)).map nk := fun {kvs xs} r => by
  unfold Raw at r
  induction r with
  | nil => rfl
  | cons h t ih => rw [List.map_cons, List.map_cons, List.map_cons, ih, h.1]
theorem nodup_nk : ∀ {ks : List NK}, ks.Nodup → (ks.map nk).Nodup
  | [], _ => List.nodup_nil
  | k :: ks, h => by
    obtain ⟨no, nd⟩ := List.nodup_cons.mp h
    rw [List.map_cons]
    refine List.nodup_cons.mpr ⟨fun m => ?_, nodup_nk nd⟩
    obtain ⟨j, hj, e⟩ := List.mem_map.mp m
    rw [nk_inj e] at hj
    exact no hj
theorem Raw.look {kvs : List En} {xs : List (NestedKey × Addr × Value)} (r : Raw kvs xs) (k : NK) :
    match xlook kvs k with
    | none => atKey xs (nk k) = none
    | some n => ∃ p, atKey xs (nk k) = some p ∧ RelV (.int (n : Int)) p.2 := by
  unfold Raw at r
  induction r with
  | nil => exact rfl
  | @cons p q ps qs h t ih =>
    obtain ⟨h1, h2, h3⟩ := h
    by_cases e : p.1 = k
    · have a : xlook (p :: ps) k = some p.2.2 := by simp [xlook, List.find?_cons, e]
      have b : atKey (q :: qs) (nk k) = some q.2 := by simp [atKey, List.find?_cons, h1, e]
      rw [a]
      exact ⟨q.2, b, h3⟩
    · have ne : ¬ nk p.1 = nk k := fun z => e (nk_inj z)
      have a : xlook (p :: ps) k = xlook ps k := by simp [xlook, List.find?_cons, e]
      have b : atKey (q :: qs) (nk k) = atKey qs (nk k) := by simp [atKey, List.find?_cons, h1, ne]
      rw [a, b]
      exact ih
theorem Raw.isSome {kvs : List En} {xs : List (NestedKey × Addr × Value)} (r : Raw kvs xs) (k : NK) : (atKey xs (nk k)).isSome = (xlook kvs k).isSome := by
  have q := r.look k
  cases e : xlook kvs k with
  | none =>
    rw [e] at q
    simp only at q
    rw [q]
    rfl
  | some n =>
    rw [e] at q
    obtain ⟨p, q, _⟩ := q
    rw [q]
    rfl
section
variable {P : Program} {w : World} {H : Hp} {h : Heap} {d : Addr} {kvs : List En}
theorem xd_of (ok : HOk P w H h) (e : H d = some (XD P w d kvs)) (ks : Keyed H kvs) : (d == sysModules) = false ∧ kvs.length ≤ sizeLine ∧ (kvs.map (·.1)).Nodup ∧ ∃ xs, Raw kvs xs ∧ h.DictOfH (nestedKind P w) d xs := by
  obtain ⟨⟨hd, hz, hn, xs, r, o, es, ep, h1, h2, h3, h4⟩, _, _⟩ := (show ObjOk P w H h d (XD P w d kvs) from ok d _ e)
  refine ⟨hd, hz, hn, xs, r, o, es, ep, h1, h2, h3, h4, ?_, ?_⟩
  · have all : ∀ {l : List En} {m : List (NestedKey × Addr × Value)}, Raw l m → Keyed H l → ∀ x ∈ m, (nestedKind P w).is h x.1 x.2.1 := fun {l m} q => by
      unfold Raw at q
      induction q with
      | nil => intro _ x hx; exact nomatch hx
      | @cons p q ps qs hq t ih =>
        intro kd x hx
        rcases List.mem_cons.mp hx with z | hx
        · subst z
          rw [hq.1, hq.2.1]
          exact (kd p List.mem_cons_self).is ok
        · exact ih (fun e he => kd e (List.mem_cons_of_mem _ he)) x hx
    exact all r ks
  · rw [r.keys]
    exact nodup_nk hn
theorem xd_new {xs : List (NestedKey × Addr × Value)} {H' : Hp} (hd : (d == sysModules) = false) (hz : kvs.length ≤ sizeLine) (hn : (kvs.map (·.1)).Nodup) (r : Raw kvs xs) (x : h.DictOfH (nestedKind P w) d xs) : ObjOk P w H' h d (XD P w d kvs) := by
  obtain ⟨o, es, ep, h1, h2, h3, h4, _, _⟩ := x
  refine ⟨⟨hd, hz, hn, xs, r, o, es, ep, h1, h2, h3, h4⟩, ⟨o, h1⟩, fun g1 g2 q k => ?_⟩
  obtain ⟨a, b, c, ys, r', o', es', ep', k1, k2⟩ := q
  exact ⟨a, b, c, ys, r', o', es', ep', k _ k1, k2⟩
end
/-! the rules -/
def tXNew (P : Program) (w : World) : TE := fun _ H Q => ∀ p, H p = none → Q (.ref p) (upd H p (XD P w p []))
def tXNotIn (P : Program) (w : World) (ty td : TE) : TE := fun σ H Q => ty σ H fun y H1 => td σ H1 fun x H2 => ∃ (d : Addr) (kvs : List En) (a : Addr) (k : NK),
  x = .ref d ∧ y = .ref a ∧ H2 d = some (XD P w d kvs) ∧ Keyed H2 kvs ∧ KeyAt H2 k a ∧ Q (.bl (!(xlook kvs k).isSome)) H2
def tXGet (P : Program) (w : World) (td ty : TE) : TE := fun σ H Q => td σ H fun x H1 => ty σ H1 fun y H2 => ∃ (d : Addr) (kvs : List En) (a : Addr) (k : NK) (n : Nat),
  x = .ref d ∧ y = .ref a ∧ H2 d = some (XD P w d kvs) ∧ Keyed H2 kvs ∧ KeyAt H2 k a ∧ xlook kvs k = some n ∧ Q (.int (n : Int)) H2
def sXPut (P : Program) (w : World) (td ty tv : TE) : TS := fun D σ H => tv σ H fun v H1 => td σ H1 fun x H2 => ty σ H2 fun y H3 => ∃ (d : Addr) (kvs : List En) (a : Addr) (k : NK) (n : Nat),
  x = .ref d ∧ y = .ref a ∧ v = .int (n : Int) ∧ H3 d = some (XD P w d kvs) ∧ Keyed H3 kvs ∧ KeyAt H3 k a ∧ xlook kvs k = none ∧ kvs.length < sizeLine ∧ D.nx σ (upd H3 d (XD P w d (kvs ++ [(k, a, n)])))
section
variable {X : Cx} {o i e value : Expr} {pos pos' : Pos} {td ty tv : TE}
theorem pe_xnew : PE X (.Dict [] [] pos) (tXNew X.prog X.w) := ⟨fun pins s σ H Q I h => by
  refine wpAny_Dict_empty ⟨.ref s.heap.objs.size, _, I.laid (a := s.heap.objs.size) (o := XD X.prog X.w s.heap.objs.size []) (t' := s.toks) (fun _ _ q => Heap.get?_push_of_some _ q) (Nat.le_refl _) ?_, rfl, h _ (I.hok.fresh (Nat.le_refl _))⟩
  exact xd_new (beq_eq_false_iff_ne.mpr (Ne.symm (Nat.ne_of_lt I.big))) (Nat.zero_le _) List.nodup_nil .nil (Heap.DictOfH.new s.heap)⟩
theorem pc_xnotin (hu : X.A.units + 9 < cLine) (hi : PE X i ty) (ho : PE X o td) : PC X .NotIn i o (tXNotIn X.prog X.w ty td) := by
  refine ⟨fun pins s σ H Q I h => ?_⟩
  refine thn (hi.run pins s σ H _ I h) fun iv s1 ⟨y, H1, I1, ry, q1⟩ => ?_
  refine thn (ho.run pins s1 σ H1 _ I1 q1) fun u s2 ⟨x, H2, I2, rx, q2⟩ => ?_
  obtain ⟨d, kvs, a, k, ex, ey, e, ks, ka, q⟩ := q2
  subst ex ey
  cases rx
  cases ry
  obtain ⟨hd, _, _, xs, r, dd⟩ := xd_of I2.hok e ks
  refine wpAny_notIn_heap (knd := nestedKind X.prog X.w) (by show X.A.units + 1 + 8 < cLine; omega) (ka.is I2.hok) hd dd ?_
  rw [r.isSome k]
  exact ⟨.bl _, H2, I2.tok _, rfl, q⟩
theorem pe_xget (hu : X.A.units + 9 < cLine) (ho : PE X o td) (hi : PE X i ty) (hs : NoSl i) : PE X (.Subscript o i pos) (tXGet X.prog X.w td ty) := by
  refine ⟨fun pins s σ H Q I h => ?_⟩
  refine subD_of PySem.F.slot_dict_getitem.lookup hs (thn (ho.run pins s σ H _ I h) fun u s1 ⟨x, H1, I1, rx, q1⟩ => thn (hi.run pins s1 σ H1 _ I1 q1) fun iv s2 ⟨y, H2, I2, ry, q2⟩ => ?_)
  obtain ⟨d, kvs, a, k, n, ex, ey, e, ks, ka, l, q⟩ := q2
  subst ex ey
  cases rx
  cases ry
  obtain ⟨hd, _, _, xs, r, dd⟩ := xd_of I2.hok e ks
  refine ⟨dd.typeIs, ?_⟩
  have lk := r.look k
  rw [l] at lk
  obtain ⟨p, hp, rp⟩ := lk
  exact wpAny_getItem_heap (knd := nestedKind X.prog X.w) (by show X.A.units + 1 + 8 < cLine; omega) (ka.is I2.hok) dd hp ⟨.int (n : Int), H2, I2.tok _, rp, q⟩
theorem ps_xput (hu : X.A.units + 9 < cLine) (ho : PE X o td) (hi : PE X i ty) (hv : PE X value tv) (hs : swapsWith value (some (.Subscript o i pos')) pos.line X.env = pure false) :
    PS X (.Assign [.Subscript o i pos'] value pos) (sXPut X.prog X.w td ty tv) := by
  refine ⟨fun pins s σ H D I h => ?_⟩
  refine wpAny_Assign_Subscript (thn (hv.run pins s σ H _ I h) fun r s1 ⟨v, H1, I1, rv, q1⟩ => ?_) hs
  refine thn (ho.run pins s1 σ H1 _ I1 q1) fun u s2 ⟨x, H2, I2, rx, q2⟩ => thn (hi.run pins s2 σ H2 _ I2 q2) fun iv s3 ⟨y, H3, I3, ry, q3⟩ => ?_
  obtain ⟨d, kvs, a, k, n, ex, ey, ev, e, ks, ka, l, hl, q⟩ := q3
  subst ex ey ev
  cases rx
  cases ry
  obtain ⟨hd, hz, hn, xs, rr, dd⟩ := xd_of I3.hok e ks
  have lk := rr.look k
  rw [l] at lk
  have hxs : xs.length ≤ sizeLine := by
    rw [← Paired.length rr]
    exact hz
  refine wpAny_setItem_heap (knd := nestedKind X.prog X.w) (hsz := hxs) (by show X.A.units + 1 + 8 < cLine; omega) (ka.is I3.hok) dd fun h' dd' hs' => ?_
  rw [storedH_new lk] at dd'
  have rr' : Raw (kvs ++ [(k, a, n)]) (xs ++ [(nk k, a, r)]) := Paired.snoc rr ⟨rfl, rfl, rv⟩
  have hn' : ((kvs ++ [(k, a, n)]).map (·.1)).Nodup := by
    rw [List.map_append]
    refine nd_snoc hn fun m => ?_
    obtain ⟨z, hz1, hz2⟩ := List.mem_map.mp m
    have q0 : xlook kvs k ≠ none := by
      unfold xlook
      rw [Ne, Option.map_eq_none_iff, List.find?_eq_none]
      exact fun all => all z hz1 (decide_eq_true hz2)
    exact q0 l
  obtain ⟨o', es', ep', g1, _⟩ := id dd'
  refine ⟨σ, _, I3.write (x := d) (e := d) (o := XD X.prog X.w d (kvs ++ [(k, a, n)])) (by rw [e]; exact True.intro) (.inl rfl) (fun b z hb g => (hs'.2 b hb).trans g) ⟨_, g1⟩ ?_, q⟩
  exact xd_new hd (by rw [List.length_append]; exact hl) hn' rr' dd'
theorem call_lenX : CallR X (.builtin "len") (fun xs H Q => ∃ (d : Addr) (kvs : List En), xs = [.ref d] ∧ H d = some (XD X.prog X.w d kvs) ∧ Keyed H kvs ∧ Q (.int (kvs.length : Nat)) H) := by
  intro pns s σ H vs us Q I r h
  obtain ⟨d, kvs, ex, e, ks, q⟩ := h
  subst ex
  obtain ⟨u, eu, ru⟩ := vals1 r
  subst eu
  cases ru
  obtain ⟨hd, hz, _, ys, rr, dd⟩ := xd_of I.hok e ks
  have hl : kvs.length = ys.length := Paired.length rr
  refine call_len_dictH hd dd (by rw [← hl]; rw [sizeLine_eq] at hz; omega) ?_
  rw [← hl]
  exact ⟨.int _, H, I.tok _, ⟨_, rfl⟩, q⟩
end

/-! ### rules that name the written part K, for the inside of a comprehension -/
section
variable {X : Cx} {K : PySem.W.Frag}
theorem ix_tupK (K : PySem.W.Frag) (h : X.K = K) : IxR X (rIxT K) := h ▸ ix_tup
theorem ix_listK (K : PySem.W.Frag) (h : X.K = K) : IxR X (rIxL K) := h ▸ ix_list
theorem pi_tupK {tg l : Expr} {tl : TE} (K : PySem.W.Frag) (h : X.K = K) (hl : PE X l tl) : PI X tg l (iTup K tl) := h ▸ pi_tup hl
theorem pi_listK {tg l : Expr} {tl : TE} (K : PySem.W.Frag) (h : X.K = K) (hl : PE X l tl) : PI X tg l (iList K tl) := h ▸ pi_list hl
def rTupOf (K : PySem.W.Frag) : List V → Hp → VK → Prop := fun xs H Q => ∃ (p : Addr) (ys : List V), xs = [.ref p] ∧ ((SqL K H p ys ∧ ∀ l, H l = none → Q (.ref l) (upd H l (.tup ys))) ∨ (SqT K H p ys ∧ Q (.ref p) H))
theorem call_tupleK (K : PySem.W.Frag) (h : X.K = K) : CallR X (.type "tuple") (rTupOf K) := h ▸ call_tuple_of
/-- xs.index(e), named by K -/
theorem pe_indexK {o e : Expr} {to : TE} {t : TA} {apos cpos : Pos} (K : PySem.W.Frag) (h : X.K = K) (ho : PE X o to) (ha : PA X [e] t)
    (hb : attributeBase o "index" X.env (eval o X.env) = eval o X.env := by rfl) (hl : (apos.endLine == cpos.line) = true := by rfl)
    (h1 : starEach [e] X.env = (false, eval e X.env) :: starEach [] X.env := by rfl)
    (h2 : ((backTo cpos (starEach [e] X.env)).all (fun z => !z.1) && (backToKw cpos (keywordEach [] X.env)).all (fun z => z.1.isSome) && true) = true := by rfl)
    (h3 : (backTo cpos (starEach [] X.env)).any (·.1) = false := by rfl) : PE X (.Call (.Attribute o "index" apos) [e] [] cpos) (tBM K "list" (rIndex K) to t) := by
  subst h
  exact pe_bm PySem.F.plainAttrs_list PySem.F.slot_list_index PySem.F.type_list_index mt_index ho ha hb h2 hl h1 h3
end
section
variable {X : Cx}
theorem pg_tupK {es : List Expr} {k : Nat} {t : TGs} {n : Nat} {pos : Pos} (K : PySem.W.Frag) (he : X.K = K) (hc : X.calm = true) (h : PGs X es t)
    (hn : (assignEach es X.env).length = n := by rfl) (hst : (assignEach es X.env).findIdx? (·.1) = none := by rfl) : PG X (.Tuple es k pos) (gTup K n t) := he ▸ pg_tup hc h hn hst
end
/-- what a comprehension over J asks, D its new list -/
abbrev LcAsk (J : It) (g : TG) (tt : TT) (te : TE) (vs : List Nat) (σ : L2.St) (H1 : Hp) (D : Addr) (Qd : Hp → Prop) : Prop :=
  ∃ Wd : Nat → Nat → Hp → Prop, (∃ n, Wd 0 n (upd H1 D (.lst []))) ∧ ∀ k n Hk, Wd k n Hk →
    (J.stop k Hk ∧ Qd Hk) ∨ (J.go k Hk ∧ ∃ Nx : Hp → Prop, (∀ Ha, Nx Ha → ∃ n', n' < n ∧ Wd (k + 1) n' Ha) ∧ ∀ v Ha, J.yld k Hk v Ha →
      g v (wipe σ vs) Ha fun σ2 H2 => wipe σ2 vs = wipe σ vs ∧ tt σ2 H2 fun c H3 =>
        if c = true then te σ2 H3 fun y H4 => ∃ ys, H4 D = some (.lst ys) ∧ ys.length < sizeLine ∧ Nx (upd H4 D (.lst (ys ++ [y]))) else Nx H3)
/-- a comprehension over enumerate of a tuple -/
theorem lc_enumT {K : PySem.W.Frag} {a : Addr} {xs : List V} {g : TG} {tt : TT} {te : TE} {vs : List Nat} {σ : L2.St} {H1 : Hp} {D : Addr} {Qd : Hp → Prop} (Pv : Nat → Hp → Prop)
    (h0 : Pv 0 (upd H1 D (.lst []))) (hl : ∀ i H, i ≤ xs.length → Pv i H → SqT K H a xs)
    (hs : ∀ (i : Nat) x T H, xs[i]? = some x → Pv i H → H T = none → g (.ref T) (wipe σ vs) (upd H T (.tup [.int (i : Nat), x])) fun σ2 H2 => wipe σ2 vs = wipe σ vs ∧ tt σ2 H2 fun c H3 =>
      if c = true then te σ2 H3 fun y H4 => ∃ ys, H4 D = some (.lst ys) ∧ ys.length < sizeLine ∧ Pv (i + 1) (upd H4 D (.lst (ys ++ [y]))) else Pv (i + 1) H3)
    (hd : ∀ H, Pv xs.length H → Qd H) : LcAsk (ItE K a) g tt te vs σ H1 D Qd := by
  refine ⟨fun i m H => m = xs.length - i ∧ i ≤ xs.length ∧ Pv i H, ⟨_, rfl, Nat.zero_le _, h0⟩, fun i m H hW => ?_⟩
  obtain ⟨em, hi, p⟩ := hW
  have q := hl i H hi p
  by_cases lt : i < xs.length
  · have hx : xs[i]? = some xs[i] := List.getElem?_eq_getElem lt
    refine .inr ⟨⟨xs, _, q, hx⟩, Pv (i + 1), fun H' p' => ⟨_, ?_, rfl, lt, p'⟩, fun x H' hy => ?_⟩
    · omega
    · obtain ⟨T, y, e1, hT, e2, f⟩ := hy
      subst e1 e2
      exact hs i y T H (f xs q) p hT
  · have ei : i = xs.length := by omega
    subst ei
    exact .inl ⟨⟨xs, q, rfl⟩, hd H p⟩
/-- ways joined: N holds behind the statement, whichever way it went -/
def tJoin (t : TS) : TS := fun D σ H => ∃ N : L2.St → Hp → Prop, t { D with nx := N } σ H ∧ ∀ σ' H', N σ' H' → D.nx σ' H'
theorem ps_join {X : Cx} {st : Stmt} {t : TS} (h : PS X st t) : PS X st (tJoin t) := ⟨fun pins s σ H D I hw => by
  obtain ⟨N, h1, h2⟩ := hw
  refine thn (h.run pins s σ H { D with nx := N } I h1) fun f s1 q => ?_
  cases f with
  | next =>
    obtain ⟨σ', H', I', q⟩ := q
    exact ⟨σ', H', I', h2 σ' H' q⟩
  | ret v => exact q
  | brk => exact q
  | cont => exact q⟩
end FwR

/-! The text by places, what stands where, small lemmas. -/
namespace FwP
open PySem PySem.Spec PyProof.Rows L2 FwR

def topS (i : Nat) : Stmt := PySem.Challenge.pw_figurewheel_k16_whole_one_least_form.main.body.getD i (.Pass ⟨0, 0, 0, 0⟩)
abbrev sAsR : Stmt := topS 1
abbrev sNum : Stmt := topS 2
abbrev sLots : Stmt := topS 3
abbrev sLeast : Stmt := topS 4
abbrev sDraw : Stmt := topS 6
abbrev sWhole : Stmt := topS 7
abbrev sMachBy : Stmt := topS 8
abbrev sIsM : Stmt := topS 9
abbrev sReached : Stmt := topS 10
abbrev sParted : Stmt := topS 11
abbrev sCopied : Stmt := topS 12
abbrev sMore : Stmt := topS 13
abbrev sCalled : Stmt := topS 14
abbrev sLaw : Stmt := topS 15
theorem scAsR : FnScope ["machine", "rows", "order", "numbers", "at", "room", "fresh", "old"] ["machine"] (defScope sAsR) := ⟨rfl, rfl, rfl, by decide +kernel, rfl, by decide +kernel, by decide +kernel⟩
theorem scNum : FnScope ["keys", "numbers", "found", "key"] ["keys"] (defScope sNum) := ⟨rfl, rfl, rfl, by decide +kernel, rfl, by decide +kernel, by decide +kernel⟩
theorem scLots : FnScope ["machine", "lots", "many", "k", "row", "room"] ["machine"] (defScope sLots) := ⟨rfl, rfl, rfl, by decide +kernel, rfl, by decide +kernel, by decide +kernel⟩
theorem scLeast : FnScope ["machine", "reached", "lots", "rows", "signs", "k", "room"] ["machine"] (defScope sLeast) := ⟨rfl, rfl, rfl, by decide +kernel, rfl, by decide +kernel, by decide +kernel⟩
theorem scDraw : FnScope ["_law_script", "_law_k", "_law_others", "_law_cell", "_law_here", "_law_number", "_law_turn"] ["_law_script", "_law_k"] (defScope sDraw) := ⟨rfl, rfl, rfl, by decide +kernel, rfl, by decide +kernel, by decide +kernel⟩
theorem scWhole : FnScope ["_law_found"] ["_law_found"] (defScope sWhole) := ⟨rfl, rfl, rfl, by decide +kernel, rfl, by decide +kernel, by decide +kernel⟩
theorem scMachBy : FnScope ["_law_script", "_law_at", "_law_rooms", "_law_letters", "_law_most", "_law_rows", "_law_signs", "_law_k", "_law_number", "_law_row", "_law_j"] ["_law_script", "_law_at", "_law_rooms", "_law_letters", "_law_most"] (defScope sMachBy) := ⟨rfl, rfl, rfl, by decide +kernel, rfl, by decide +kernel, by decide +kernel⟩
theorem scIsM : FnScope ["_law_found", "_law_row", "_law_room", "_law_sign"] ["_law_found"] (defScope sIsM) := ⟨rfl, rfl, rfl, by decide +kernel, rfl, by decide +kernel, by decide +kernel⟩
theorem scReached : FnScope ["_law_machine", "_law_order", "_law_at", "_law_room", "_law_rows", "_law_old"] ["_law_machine"] (defScope sReached) := ⟨rfl, rfl, rfl, by decide +kernel, rfl, by decide +kernel, by decide +kernel⟩
theorem scParted : FnScope ["_law_one", "_law_other", "_law_pairs", "_law_lists", "_law_at", "_law_pair", "_law_letter", "_law_there"] ["_law_one", "_law_other"] (defScope sParted) := ⟨rfl, rfl, rfl, by decide +kernel, rfl, by decide +kernel, by decide +kernel⟩
theorem scCopied : FnScope ["_law_script", "_law_machine", "_law_many", "_law_rooms", "_law_rows", "_law_signs", "_law_j", "_law_k", "_law_number", "_law_row", "_law_room"] ["_law_script", "_law_machine", "_law_many"] (defScope sCopied) := ⟨rfl, rfl, rfl, by decide +kernel, rfl, by decide +kernel, by decide +kernel⟩
theorem scMore : FnScope ["_law_script", "_law_machine", "_law_many", "_law_rows", "_law_signs", "_law_size", "_law_k", "_law_number", "_law_row", "_law_at"] ["_law_script", "_law_machine", "_law_many"] (defScope sMore) := ⟨rfl, rfl, rfl, by decide +kernel, rfl, by decide +kernel, by decide +kernel⟩
theorem scCalled : FnScope ["_law_machine", "_law_number", "_law_order", "_law_k", "_law_rows", "_law_room", "_law_old"] ["_law_machine", "_law_number"] (defScope sCalled) := ⟨rfl, rfl, rfl, by decide +kernel, rfl, by decide +kernel, by decide +kernel⟩
theorem scLaw : FnScope ["_law_script", "_law_first", "_law_letters", "_law_machine", "_law_other", "_law_change", "_law_signs", "_law_at", "_law_one", "_law_two"] ["_law_script"] (defScope sLaw) := ⟨rfl, rfl, rfl, by decide +kernel, rfl, by decide +kernel, by decide +kernel⟩

/-! ### heaps -/
theorem same_new {H : Hp} {p : Addr} {o : HO} (h : H p = none) : Same H (upd H p o) := fun b x e => by
  rw [upd_ne (ne_of_none e h)]
  exact e
theorem _root_.L2.Same.put {H0 H : Hp} {p : Addr} {o : HO} (s : Same H0 H) (h : H0 p = none) : Same H0 (upd H p o) := fun b x e => by
  rw [upd_ne (ne_of_none e h)]
  exact s b x e
/-- tuples stay -/
def Tk (H H' : Hp) : Prop := ∀ b xs, H b = some (.tup xs) → H' b = some (.tup xs)
theorem _root_.L2.Same.tk {H H' : Hp} (s : Same H H') : Tk H H' := fun b _ e => s b _ e
theorem Tk.trans {H H1 H2 : Hp} (a : Tk H H1) (b : Tk H1 H2) : Tk H H2 := fun c xs e => b c xs (a c xs e)
theorem Tk.refl (H : Hp) : Tk H H := fun _ _ e => e
theorem tk_new {H : Hp} {p : Addr} {o : HO} (h : H p = none) : Tk H (upd H p o) := (same_new h).tk
theorem tk_lst {H : Hp} {l : Addr} {xs : List V} {o : HO} (h : H l = some (.lst xs)) : Tk H (upd H l o) := fun b ys e => by
  rw [upd_ne (ne_of e h (fun z => nomatch z))]
  exact e
theorem tk_of {H : Hp} {l : Addr} {u o : HO} (h : H l = some u) (hu : ∀ xs, u ≠ .tup xs) : Tk H (upd H l o) := fun b ys e => by
  rw [upd_ne (ne_of e h (fun z => hu ys z.symm))]
  exact e

/-! ### lists of numbers -/
theorem natV_len (xs : List Nat) : (natV xs).length = xs.length := List.length_map _
theorem natV_at {xs : List Nat} {i n : Nat} (h : xs[i]? = some n) : (natV xs)[i]? = some (.int (n : Int)) := by
  unfold natV
  rw [List.getElem?_map, h]
  rfl
theorem natV_snoc (xs : List Nat) (n : Nat) : natV (xs ++ [n]) = natV xs ++ [.int (n : Int)] := by
  unfold natV
  rw [List.map_append]
  rfl
theorem natV_eq (xs : List Nat) : natV xs = (xs.map fun (n : Nat) => (n : Int)).map V.int := by
  unfold natV
  rw [List.map_map]
  rfl
theorem natV_of {xs : List Nat} {i : Nat} {v : V} (h : (natV xs)[i]? = some v) : ∃ n, xs[i]? = some n ∧ v = .int (n : Int) := by
  unfold natV at h
  rw [List.getElem?_map] at h
  cases e : xs[i]? with
  | none => rw [e] at h; cases h
  | some n => rw [e] at h; exact ⟨n, rfl, (Option.some.inj h).symm⟩
theorem map_of {α : Type} {f : α → V} {xs : List α} {i : Nat} {v : V} (h : (xs.map f)[i]? = some v) : ∃ n, xs[i]? = some n ∧ v = f n := by
  rw [List.getElem?_map] at h
  cases e : xs[i]? with
  | none => rw [e] at h; cases h
  | some n => rw [e] at h; exact ⟨n, rfl, (Option.some.inj h).symm⟩
theorem map_at {α : Type} {f : α → V} {xs : List α} {i : Nat} {x : α} (h : xs[i]? = some x) : (xs.map f)[i]? = some (f x) := by
  rw [List.getElem?_map, h]
  rfl
theorem getD_at {α : Type} {xs : List α} {i : Nat} {x d : α} (h : xs[i]? = some x) : xs.getD i d = x := by
  rw [List.getD_eq_getElem?_getD, h]
  rfl
theorem at_lt {α : Type} {xs : List α} {i : Nat} {x : α} (h : xs[i]? = some x) : i < xs.length := (List.getElem?_eq_some_iff.mp h).1
theorem take_snoc {α : Type} {xs : List α} {i : Nat} {x : α} (h : xs[i]? = some x) : xs.take (i + 1) = xs.take i ++ [x] := by
  rw [List.take_add_one, h]
  rfl
theorem take_all {α : Type} (xs : List α) : xs.take xs.length = xs := List.take_length
theorem line {n : Nat} (h : n ≤ 10000) : n < sizeLine := Nat.lt_of_le_of_lt h (by decide)
theorem lineLe {n : Nat} (h : n ≤ 10000) : n ≤ sizeLine := Nat.le_of_lt (line h)

/-! ### a dict that numbers -/
def tab (D : List Int) : List (Key × V) := D.zipIdx.map fun p => ((Sum.inl p.1 : Key), V.int (p.2 : Int))
theorem tab_snoc (D : List Int) (k : Int) : tab (D ++ [k]) = tab D ++ [((Sum.inl k : Key), V.int (D.length : Int))] := by
  unfold tab
  rw [List.zipIdx_append, List.map_append]
  simp
theorem tab_len (D : List Int) : (tab D).length = D.length := by
  unfold tab
  rw [List.length_map, List.length_zipIdx]
theorem tab_look (k : Int) : ∀ (D : List Int) (n : Nat), valV ((D.zipIdx n).map fun p => ((Sum.inl p.1 : Key), V.int (p.2 : Int))) (Sum.inl k : Key) = if k ∈ D then some (.int ((n + D.idxOf k : Nat) : Int)) else none
  | [], n => rfl
  | x :: D, n => by
    rw [List.zipIdx_cons, List.map_cons]
    by_cases e : x = k
    · subst e
      rw [valV_pos (p := ((Sum.inl x : Key), V.int (n : Int))) rfl, if_pos List.mem_cons_self]
      simp
    · have ne : ¬ (Sum.inl x : Key) = Sum.inl k := fun z => e (Sum.inl.inj z)
      rw [valV_neg (p := ((Sum.inl x : Key), V.int (n : Int))) ne, tab_look k D (n + 1)]
      by_cases m : k ∈ D
      · rw [if_pos m, if_pos (List.mem_cons_of_mem _ m), List.idxOf_cons]
        rw [show (x == k) = false by simpa using e]
        simp only [cond_false]
        congr 3
        omega
      · rw [if_neg m, if_neg]
        intro z
        rcases List.mem_cons.mp z with z | z
        · exact e z.symm
        · exact m z
theorem tab_get (D : List Int) (k : Int) : valV (tab D) (Sum.inl k : Key) = if k ∈ D then some (.int (D.idxOf k : Int)) else none := by
  have q := tab_look k D 0
  rw [Nat.zero_add] at q
  exact q
theorem num_look (k : NK) : ∀ (D : List NK) (kvs : List En) (n : Nat), kvs.map (·.1) = D → (∀ i e, kvs[i]? = some e → e.2.2 = n + i) → xlook kvs k = if k ∈ D then some (n + FW.ix D k) else none
  | [], kvs, n, h, _ => by
    have e : kvs = [] := by simpa using h
    subst e
    rfl
  | x :: D, [], n, h, _ => by simp at h
  | x :: D, e :: kvs, n, h, g => by
    rw [List.map_cons] at h
    injection h with h1 h2
    have g0 := g 0 e rfl
    by_cases q : x = k
    · have a : xlook (e :: kvs) k = some e.2.2 := by simp [xlook, List.find?_cons, h1, q]
      rw [a, g0, if_pos (by rw [q]; exact List.mem_cons_self), q]
      rw [FW.ix_self]
    · have a : xlook (e :: kvs) k = xlook kvs k := by simp [xlook, List.find?_cons, h1, q]
      rw [a, num_look k D kvs (n + 1) h2 fun i e' he => by
        have := g (i + 1) e' (by simpa using he)
        omega]
      by_cases m : k ∈ D
      · rw [if_pos m, if_pos (List.mem_cons_of_mem _ m), FW.ix_ne q]
        congr 1
        omega
      · rw [if_neg m, if_neg]
        intro z
        rcases List.mem_cons.mp z with z | z
        · exact q z.symm
        · exact m z

/-! ### machines in the heap -/
def RowsAt (H : Hp) (bs : List Addr) (rows : List (List Nat)) : Prop := bs.length = rows.length ∧ ∀ (i : Nat) (b : Addr), bs[i]? = some b → H b = some (.tup (natV (rows.getD i [])))
theorem RowsAt.tk {H H' : Hp} {bs : List Addr} {rows : List (List Nat)} (k : Tk H H') (r : RowsAt H bs rows) : RowsAt H' bs rows := ⟨r.1, fun i b e => k b _ (r.2 i b e)⟩
theorem RowsAt.nil {H : Hp} : RowsAt H [] [] := ⟨rfl, fun i b e => by simp at e⟩
theorem RowsAt.snoc {H : Hp} {bs : List Addr} {rows : List (List Nat)} {b : Addr} {r : List Nat} (q : RowsAt H bs rows) (h : H b = some (.tup (natV r))) : RowsAt H (bs ++ [b]) (rows ++ [r]) := by
  refine ⟨by rw [List.length_append, List.length_append, q.1]; rfl, fun i c e => ?_⟩
  have l := q.1
  by_cases hi : i < bs.length
  · rw [List.getElem?_append_left hi] at e
    have z := q.2 i c e
    rw [List.getD_eq_getElem?_getD, List.getElem?_append_left (by omega), ← List.getD_eq_getElem?_getD]
    exact z
  · have ei : i = bs.length := by
      have z := at_lt e
      rw [List.length_append, List.length_singleton] at z
      omega
    subst ei
    rw [List.getElem?_append_right (Nat.le_refl _), Nat.sub_self] at e
    have ec : b = c := Option.some.inj e
    subst ec
    rw [List.getD_eq_getElem?_getD, List.getElem?_append_right (by omega), l, Nat.sub_self]
    exact h
structure MacIs (H : Hp) (m r s : Addr) (bs : List Addr) (M : FW.Mac) : Prop where
  top : H m = some (.tup [.ref r, .ref s])
  rows : H r = some (.tup (bs.map V.ref))
  each : RowsAt H bs M.rows
  signs : H s = some (.tup (M.signs.map V.int))
def MacAt (H : Hp) (v : V) (M : FW.Mac) : Prop := ∃ m r s bs, v = .ref m ∧ MacIs H m r s bs M
theorem MacIs.tk {H H' : Hp} {m r s : Addr} {bs : List Addr} {M : FW.Mac} (k : Tk H H') (q : MacIs H m r s bs M) : MacIs H' m r s bs M := ⟨k _ _ q.top, k _ _ q.rows, q.each.tk k, k _ _ q.signs⟩
theorem MacAt.tk {H H' : Hp} {v : V} {M : FW.Mac} (k : Tk H H') (q : MacAt H v M) : MacAt H' v M := by
  obtain ⟨m, r, s, bs, e, q⟩ := q
  exact ⟨m, r, s, bs, e, q.tk k⟩
theorem MacIs.bs_at {H : Hp} {m r s : Addr} {bs : List Addr} {M : FW.Mac} (q : MacIs H m r s bs M) {a : Nat} (h : a < M.rows.length) : ∃ b, bs[a]? = some b ∧ H b = some (.tup (natV (FW.row M a))) := by
  have l := q.each.1
  have e : bs[a]? = some bs[a] := List.getElem?_eq_getElem (by omega)
  exact ⟨_, e, q.each.2 a _ e⟩
theorem tabN_get (D : List Nat) (k : Nat) : valV (tab (D.map fun (n : Nat) => (n : Int))) (Sum.inl (k : Int) : Key) = if k ∈ D then some (.int (D.idxOf k : Int)) else none := by
  rw [tab_get]
  have e : ((k : Int) ∈ D.map fun (n : Nat) => (n : Int)) ↔ k ∈ D := by
    rw [List.mem_map]
    constructor
    · rintro ⟨x, hx, e⟩
      have e' : x = k := Int.ofNat.inj e
      rw [← e']
      exact hx
    · intro h
      exact ⟨k, h, rfl⟩
  have q : ∀ D : List Nat, (D.map fun (n : Nat) => (n : Int)).idxOf (k : Int) = D.idxOf k := by
    intro D
    induction D with
    | nil => rfl
    | cons x D ih =>
      rw [List.map_cons, List.idxOf_cons, List.idxOf_cons, ih]
      have z : ((x : Int) == (k : Int)) = (x == k) := by
        by_cases h : x = k
        · simp [h]
        · rw [show (x == k) = false by simpa using h, show ((x : Int) == (k : Int)) = false by simpa using fun z => h (Int.ofNat.inj z)]
      rw [z]
  by_cases m : k ∈ D
  · rw [if_pos m, if_pos (e.mpr m), q]
  · rw [if_neg m, if_neg fun z => m (e.mp z)]

/-! ### comprehensions whose elements make nothing; those that make rows -/
section
variable {K : PySem.W.Frag} {a : Addr} {xs : List V} {g : TG} {te : TE} {vs : List Nat} {σ : L2.St} {H1 : Hp} {D : Addr} {Qd : Hp → Prop}
theorem mapT (ys : List V) (hl : ys.length = xs.length) (hz : xs.length ≤ 10000) (hn : H1 D = none) (hS : ∀ H', Same H1 H' → SqT K H' a xs)
    (hs : ∀ (i : Nat) x y H', xs[i]? = some x → ys[i]? = some y → Same H1 H' → ∀ (R : V → Hp → Prop) (S : Hp → Prop), R y H' → g x (wipe σ vs) H' fun σ2 H2 => wipe σ2 vs = wipe σ vs ∧ tYes σ2 H2 fun b H3 => if b = true then te σ2 H3 R else S H3)
    (hd : Qd (upd H1 D (.lst ys))) : LcAsk (Itt K a) g tYes te vs σ H1 D Qd := by
  refine lc_tup (fun i H' => H' = upd H1 D (.lst (ys.take i))) (by rw [List.take_zero]) (fun i H' _ e => by subst e; exact hS _ (same_new hn)) (fun i x H' hx e => ?_) (fun H' e => ?_)
  · subst e
    have il := at_lt hx
    have hy : ys[i]? = some ys[i] := List.getElem?_eq_getElem (by omega)
    refine hs i x ys[i] _ hx hy (same_new hn) _ _ ⟨_, upd_same, ?_, ?_⟩
    · rw [List.length_take]
      exact line (by omega)
    · rw [upd_upd, take_snoc hy]
  · subst e
    rw [← hl, List.take_length]
    exact hd
theorem mapL (ys : List V) (hl : ys.length = xs.length) (hz : xs.length ≤ 10000) (hn : H1 D = none) (hS : ∀ H', Same H1 H' → SqL K H' a xs)
    (hs : ∀ (i : Nat) x y H', xs[i]? = some x → ys[i]? = some y → Same H1 H' → ∀ (R : V → Hp → Prop) (S : Hp → Prop), R y H' → g x (wipe σ vs) H' fun σ2 H2 => wipe σ2 vs = wipe σ vs ∧ tYes σ2 H2 fun b H3 => if b = true then te σ2 H3 R else S H3)
    (hd : Qd (upd H1 D (.lst ys))) : LcAsk (Itl K a) g tYes te vs σ H1 D Qd := by
  refine lc_list (fun i H' => H' = upd H1 D (.lst (ys.take i))) (by rw [List.take_zero]) (fun i H' _ e => by subst e; exact hS _ (same_new hn)) (fun i x H' hx e => ?_) (fun H' e => ?_)
  · subst e
    have il := at_lt hx
    have hy : ys[i]? = some ys[i] := List.getElem?_eq_getElem (by omega)
    refine hs i x ys[i] _ hx hy (same_new hn) _ _ ⟨_, upd_same, ?_, ?_⟩
    · rw [List.length_take]
      exact line (by omega)
    · rw [upd_upd, take_snoc hy]
  · subst e
    rw [← hl, List.take_length]
    exact hd
/-- each element makes a tuple of numbers -/
theorem rowsL (rows : List (List Nat)) (hl : rows.length = xs.length) (hz : xs.length ≤ 10000) (hn : H1 D = none) (hS : ∀ H', Same H1 H' → SqL K H' a xs)
    (hs : ∀ (i : Nat) x r H', xs[i]? = some x → rows[i]? = some r → Same H1 H' → ∀ (R : V → Hp → Prop) (S : Hp → Prop), (∀ H2 b, Same H' H2 → H2 b = some (.tup (natV r)) → R (.ref b) H2) → g x (wipe σ vs) H' fun σ2 H2 => wipe σ2 vs = wipe σ vs ∧ tYes σ2 H2 fun b H3 => if b = true then te σ2 H3 R else S H3)
    (hd : ∀ H' bs, Same H1 H' → H' D = some (.lst (bs.map V.ref)) → RowsAt H' bs rows → Qd H') : LcAsk (Itl K a) g tYes te vs σ H1 D Qd := by
  refine lc_list (fun i H' => ∃ bs, Same H1 H' ∧ H' D = some (.lst (bs.map V.ref)) ∧ RowsAt H' bs (rows.take i)) ⟨[], same_new hn, by rw [upd_same]; rfl, by rw [List.take_zero]; exact RowsAt.nil⟩ (fun i H' _ ⟨_, s, _⟩ => hS _ s) (fun i x H' hx ⟨bs, s, hD, hR⟩ => ?_) (fun H' ⟨bs, s, hD, hR⟩ => ?_)
  · have il := at_lt hx
    have hr : rows[i]? = some rows[i] := List.getElem?_eq_getElem (by omega)
    refine hs i x rows[i] H' hx hr s _ _ fun H2 b s2 hb => ⟨_, s2 _ _ hD, ?_, bs ++ [b], (s.trans s2).put hn, by rw [upd_same, List.map_append]; rfl, ?_⟩
    · have q := hR.1
      rw [List.length_take] at q
      rw [List.length_map]
      exact line (by omega)
    · have k : Tk H2 (upd H2 D (.lst (bs.map V.ref ++ [.ref b]))) := tk_lst (s2 _ _ hD)
      rw [take_snoc hr]
      exact ((hR.tk s2.tk).tk k).snoc (k _ _ hb)
  · rw [← hl, List.take_length] at hR
    exact hd H' bs s hD hR
end
theorem yesI {σ : L2.St} {H : Hp} {te : TE} {R : V → Hp → Prop} {S : Hp → Prop} (h : te σ H R) : tYes σ H fun b H3 => if b = true then te σ H3 R else S H3 := by
  show if true = true then te σ H R else S H
  rw [if_pos rfl]
  exact h
theorem idx_first : ∀ {l : List Nat} {m x : Nat}, l[m]? = some x → l.idxOf x ≤ m
  | y :: l, 0, x, h => by
    have e : y = x := Option.some.inj h
    rw [List.idxOf_cons, show (y == x) = true by simp [e]]
    exact Nat.le_refl _
  | y :: l, m + 1, x, h => by
    have q := idx_first (l := l) (m := m) (x := x) (by simpa using h)
    rw [List.idxOf_cons]
    cases (y == x) with
    | true => exact Nat.zero_le _
    | false => exact Nat.succ_le_succ q
theorem idx_at {l : List Nat} {x : Nat} (h : x ∈ l) : l[l.idxOf x]? = some x := by
  have q := List.idxOf_lt_length_iff.mpr h
  rw [List.getElem?_eq_getElem q, List.getElem_idxOf q]
theorem natV_flat (xs : List Nat) : (natV xs).all flatV = true := by
  unfold natV
  rw [List.all_map]
  exact List.all_eq_true.mpr fun _ _ => rfl
/-- order.index(x), x there -/
theorem index_read {K : PySem.W.Frag} {H : Hp} {Q : VK} {l : Addr} {xs : List Nat} {x : Nat} (hl : SqL K H l (natV xs)) (h : x ∈ xs) (q : Q (.int (xs.idxOf x : Nat)) H) : rIndex K (.ref l) [.int (x : Int)] H Q := by
  refine ⟨l, _, _, xs.idxOf x, .int (x : Int), rfl, rfl, hl, rfl, natV_flat xs, natV_at (idx_at h), beq_self_eq_true _, fun m z hm hz => ?_, q⟩
  obtain ⟨t, ht, rfl⟩ := natV_of hz
  show ((t : Int) == (x : Int)) = false
  refine beq_eq_false_iff_ne.mpr fun e => ?_
  have e' : t = x := Int.ofNat.inj e
  subst e'
  have := idx_first ht
  omega
end FwP

namespace FwP
open PySem PySem.Spec PyProof.Rows L2 FwR
/-! ### numbered -/
def spNumI : Sp := fun vs H Q _ => ∃ (a : Addr) (ks : List Int), vs = [.ref a] ∧ H a = some (.tup (ks.map V.int)) ∧ ks.length ≤ 1000 ∧
  ∀ H' l, Same H H' → H l = none → H' l = some (.lst (natV (FW.numb ks))) → Q (.ref l) H'
def spNumK : Sp := fun vs H Q _ => ∃ (a : Addr) (ps : List Addr) (ks : List NK), vs = [.ref a] ∧ H a = some (.lst (ps.map V.ref)) ∧ ps.length = ks.length ∧
  (∀ (i : Nat) p k, ps[i]? = some p → ks[i]? = some k → KeyAt H k p) ∧ ks.length ≤ 1000 ∧
  ∀ H' l, Same H H' → H l = none → H' l = some (.lst (natV (FW.numb ks))) → Q (.ref l) H'
theorem numb_at? {α : Type} [DecidableEq α] {ks : List α} {i : Nat} {k : α} (h : ks[i]? = some k) : (FW.numb ks)[i]? = some (FW.ix (FW.putAll [] ks) k) := by
  unfold FW.numb
  rw [List.getElem?_map, h]
  rfl
theorem putAll_small {α : Type} [DecidableEq α] (ks : List α) (i : Nat) : (FW.putAll [] (ks.take i)).length ≤ i := by
  by_cases h : i ≤ ks.length
  · rw [← FW.numb_mx ks i h]
    exact FW.mx_le _ _
  · rw [List.take_of_length_le (by omega)]
    have q := FW.mx_le (FW.numb ks) ks.length
    rw [FW.numb_mx ks ks.length (Nat.le_refl _), List.take_length] at q
    omega
section
variable {P : Program} {w : World} {K : PySem.W.Frag} {mg : Str → Option Value} {base : Heap}
theorem ok_numI {f : Addr} {fd : FuncData} (F : Fun K "numbered" "numbered" sNum f fd) (ml : mg "len" = none) : FnOk P w K mg base CX0 1 f fd ["keys"] spNumI := by
  refine F.ok scNum (fun vs H Q E h => ?_) (fun cdv A outer s H vs Q E hr h => ?_)
  · obtain ⟨a, ks, rfl, _⟩ := h
    rfl
  · obtain ⟨a, ks, rfl, hS, hlen, q⟩ := h
    have hu := hu_of hr
    refine ⟨_, pss_cons (ps_set (i := 1) scNum.nd rfl (.inl rfl) pe_dnewK)
      (pss_cons (ps_set (i := 2) scNum.nd rfl (.inl rfl) (pe_lst pa_nil))
      (pss_cons (ps_for PassesOwn.never rfl (pi_tup (pv 0)) (pg_name (i := 3) scNum.nd rfl (.inl rfl))
        (pss_cons (ps_if (pt_cmp (pc_dnotin hu (pv 3) (pv 1)) rfl)
            (pss_one (ps_dput hu (pv 1) (pv 3) (pe_callB call_lenD (by rfl) ml PySem.boot_len (pa_cons (pv 1) pa_nil)) rfl)) pss_nil)
        (pss_one (ps_expr (pe_bm PySem.F.plainAttrs_list PySem.F.slot_list_append PySem.F.type_list_append mt_append (pv 2) (pa_cons (pe_dget hu (pv 1) (pv 3) (fun _ _ => rfl)) pa_nil))))))
      (pss_one (ps_ret (pv 2))))), ?_⟩
    intro d hd
    refine ⟨Nat.zero_le _, fun l hl => ?_⟩
    have nld : l ≠ d := fun e => by
      rw [e, upd_same] at hl
      cases hl
    have hl0 : H l = none := by
      rw [upd_ne nld] at hl
      exact hl
    refine ⟨_, rfl, a, rfl, ⟨ks.map V.int, .inl (.inl (same_new hl _ _ (same_new hd _ _ hS)))⟩,
      for_tup (xs := ks.map V.int) (fun i σ H' => ∃ y, σ = [some (.ref a), some (.ref d), some (.ref l), y] ∧ Same H H' ∧ H' d = some (.dK (tab (FW.putAll [] (ks.take i)))) ∧ H' l = some (.lst (natV ((FW.numb ks).take i))))
        ⟨none, rfl, (same_new hd).trans (same_new hl), by rw [upd_ne nld.symm, upd_same]; rfl, by rw [upd_same]; rfl⟩
        (fun i σ H' _ ⟨_, _, sm, _⟩ => .inl (.inl (sm _ _ hS))) ?_ ?_⟩
    · rintro i x σ H' hx ⟨y, rfl, sm, hD, hL⟩
      obtain ⟨k, hk, rfl⟩ := map_of hx
      have hi := at_lt hk
      have em : FW.ix (FW.putAll [] (ks.take (i + 1))) k = FW.ix (FW.putAll [] ks) k := FW.idx_pre ks (FW.putAll_memTake ks hk)
      have et := FW.putAll_take ks hk
      have small := putAll_small ks i
      have nb := numb_at? hk
      have fin : ∀ H2, Same H H2 → H2 d = some (.dK (tab (FW.putAll [] (ks.take (i + 1))))) → H2 l = some (.lst (natV ((FW.numb ks).take i))) →
          tDrop (tBM K "list" rAppend (tVar 2) (tCons (tDGet (tVar 1) (tVar 3)) tNil)) { nx := fun σ H' => ∃ y, σ = [some (.ref a), some (.ref d), some (.ref l), y] ∧ Same H H' ∧ H' d = some (.dK (tab (FW.putAll [] (ks.take (i + 1))))) ∧ H' l = some (.lst (natV ((FW.numb ks).take (i + 1)))), rt := Q }
            [some (.ref a), some (.ref d), some (.ref l), some (.int k)] H2 := by
        intro H2 s2 d2 l2
        refine ⟨_, rfl, .inl ⟨rfl, _, SqL.of l2⟩, _, rfl, _, rfl, d, .int (FW.ix (FW.putAll [] (ks.take (i + 1))) k : Int), rfl, ?_, ?_⟩
        · have g := DGet.k (k := Sum.inl k) d2
          rw [tab_get, if_pos (FW.putAll_memTake ks hk)] at g
          exact g
        · refine ⟨l, _, _, rfl, rfl, l2, ?_, ?_⟩
          · rw [natV_len, List.length_take]
            exact line (by omega)
          · refine ⟨_, rfl, s2.put hl0, ?_, ?_⟩
            · rw [upd_ne nld.symm]
              exact d2
            · rw [upd_same, take_snoc nb, natV_snoc, em]
      refine ⟨_, rfl, _, rfl, d, _, rfl, DGet.k (k := Sum.inl k) hD, _, rfl, ?_⟩
      rw [tab_get]
      by_cases m : k ∈ FW.putAll [] (ks.take i)
      · rw [if_pos m]
        refine iteF ?_
        refine fin _ sm ?_ hL
        rw [et]
        unfold FW.put
        rw [if_pos m]
        exact hD
      · rw [if_neg m]
        refine iteT ?_
        refine ⟨_, rfl, d, _, rfl, hD, _, rfl, _, rfl, d, _, rfl, DPut.k (k := Sum.inl k) hD ?_, ?_⟩
        · rw [tab_len]
          exact line (by omega)
        · have np : valV (tab (FW.putAll [] (ks.take i))) (Sum.inl k : Key) = none := by
            rw [tab_get, if_neg m]
          refine fin _ (sm.put hd) ?_ ?_
          · rw [upd_same, putK_new _ np, et, tab_len, ← tab_snoc]
            unfold FW.put
            rw [if_neg m]
          · rw [upd_ne nld]
            exact hL
    · rintro σ H' ⟨y, rfl, sm, hD, hL⟩
      refine ⟨_, rfl, q H' l sm hl0 ?_⟩
      rw [hL, List.length_map, ← FW.numb_len ks, List.take_length]
theorem ok_numK {f : Addr} {fd : FuncData} (F : Fun K "numbered" "numbered" sNum f fd) (ml : mg "len" = none) : FnOk P w K mg base CX0 1 f fd ["keys"] spNumK := by
  refine F.ok scNum (fun vs H Q E h => ?_) (fun cdv A outer s H vs Q E hr h => ?_)
  · obtain ⟨a, ps, ks, rfl, _⟩ := h
    rfl
  · obtain ⟨a, ps, ks, rfl, hS, hpk, hK, hlen, q⟩ := h
    have hu : (A.deeper (envOfC "numbered" (defScope sNum) s.heap.objs.size f cdv)).units + 9 < cLine := by
      have := hr.un
      omega
    refine ⟨_, pss_cons (ps_set (i := 1) scNum.nd rfl (.inl rfl) pe_xnew)
      (pss_cons (ps_set (i := 2) scNum.nd rfl (.inl rfl) (pe_lst pa_nil))
      (pss_cons (ps_for PassesOwn.never rfl (pi_list (pv 0)) (pg_name (i := 3) scNum.nd rfl (.inl rfl))
        (pss_cons (ps_if (pt_cmp (pc_xnotin hu (pv 3) (pv 1)) rfl)
            (pss_one (ps_xput hu (pv 1) (pv 3) (pe_callB call_lenX (by rfl) ml PySem.boot_len (pa_cons (pv 1) pa_nil)) rfl)) pss_nil)
        (pss_one (ps_expr (pe_bm PySem.F.plainAttrs_list PySem.F.slot_list_append PySem.F.type_list_append mt_append (pv 2) (pa_cons (pe_xget hu (pv 1) (pv 3) (fun _ _ => rfl)) pa_nil))))))
      (pss_one (ps_ret (pv 2))))), ?_⟩
    intro d hd
    refine ⟨Nat.zero_le _, fun l hl => ?_⟩
    have nld : l ≠ d := fun e => by
      rw [e, upd_same] at hl
      cases hl
    have hl0 : H l = none := by
      rw [upd_ne nld] at hl
      exact hl
    refine ⟨_, rfl, a, rfl, ⟨ps.map V.ref, .inl (.inl (same_new hl _ _ (same_new hd _ _ hS)))⟩,
      for_list (xs := ps.map V.ref) (fun i σ H' => ∃ y kvs, σ = [some (.ref a), some (.ref d), some (.ref l), y] ∧ Same H H' ∧ H' d = some (XD P w d kvs) ∧
          kvs.map (·.1) = FW.putAll [] (ks.take i) ∧ (∀ (j : Nat) e, kvs[j]? = some e → e.2.2 = j) ∧ Keyed H kvs ∧ H' l = some (.lst (natV ((FW.numb ks).take i))))
        ⟨none, [], rfl, (same_new hd).trans (same_new hl), by rw [upd_ne nld.symm, upd_same]; rfl, rfl, (fun j e z => by simp at z), (fun e z => by simp at z), by rw [upd_same]; rfl⟩
        (fun i σ H' _ ⟨_, _, _, sm, _⟩ => .inl (.inl (sm _ _ hS))) ?_ ?_⟩
    · rintro i x σ H' hx ⟨y, kvs, rfl, sm, hD, hk1, hk2, hk3, hL⟩
      obtain ⟨p, hp, rfl⟩ := map_of hx
      have hpl := at_lt hp
      have hk : ks[i]? = some ks[i] := List.getElem?_eq_getElem (by omega)
      generalize ks[i] = k at hk
      have ka := hK i p k hp hk
      have hi := at_lt hk
      have em : FW.ix (FW.putAll [] (ks.take (i + 1))) k = FW.ix (FW.putAll [] ks) k := FW.idx_pre ks (FW.putAll_memTake ks hk)
      have et := FW.putAll_take ks hk
      have small := putAll_small ks i
      have nb := numb_at? hk
      have kl : kvs.length = (FW.putAll [] (ks.take i)).length := by rw [← hk1, List.length_map]
      have ktk : ∀ {H2 : Hp} {k : NK} {a : Addr}, Same H H2 → KeyAt H k a → KeyAt H2 k a := fun s ⟨b, z1, z2⟩ => ⟨b, s _ _ z1, s _ _ z2⟩
      have fin : ∀ H2 kvs2, Same H H2 → H2 d = some (XD P w d kvs2) → kvs2.map (·.1) = FW.putAll [] (ks.take (i + 1)) → (∀ (j : Nat) e, kvs2[j]? = some e → e.2.2 = j) → Keyed H kvs2 → H2 l = some (.lst (natV ((FW.numb ks).take i))) →
          tDrop (tBM K "list" rAppend (tVar 2) (tCons (tXGet P w (tVar 1) (tVar 3)) tNil)) { nx := fun σ H' => ∃ y kvs, σ = [some (.ref a), some (.ref d), some (.ref l), y] ∧ Same H H' ∧ H' d = some (XD P w d kvs) ∧ kvs.map (·.1) = FW.putAll [] (ks.take (i + 1)) ∧ (∀ (j : Nat) e, kvs[j]? = some e → e.2.2 = j) ∧ Keyed H kvs ∧ H' l = some (.lst (natV ((FW.numb ks).take (i + 1)))), rt := Q }
            [some (.ref a), some (.ref d), some (.ref l), some (.ref p)] H2 := by
        intro H2 kvs2 s2 d2 m1 m2 m3 l2
        have lk : xlook kvs2 k = some (FW.ix (FW.putAll [] (ks.take (i + 1))) k) := by
          rw [num_look k _ kvs2 0 m1 (fun j e z => by rw [m2 j e z, Nat.zero_add]), if_pos (FW.putAll_memTake ks hk), Nat.zero_add]
        refine ⟨_, rfl, .inl ⟨rfl, _, SqL.of l2⟩, _, rfl, _, rfl, d, kvs2, p, k, _, rfl, rfl, d2, fun e z => ktk s2 (m3 e z), ktk s2 ka, lk, ?_⟩
        refine ⟨l, _, _, rfl, rfl, l2, ?_, ?_⟩
        · rw [natV_len, List.length_take]
          exact line (by omega)
        · refine ⟨_, kvs2, rfl, s2.put hl0, ?_, m1, m2, m3, ?_⟩
          · rw [upd_ne nld.symm]
            exact d2
          · rw [upd_same, take_snoc nb, natV_snoc, em]
      have lk : xlook kvs k = if k ∈ FW.putAll [] (ks.take i) then some (0 + FW.ix (FW.putAll [] (ks.take i)) k) else none := num_look k _ kvs 0 hk1 (fun j e z => by rw [hk2 j e z, Nat.zero_add])
      refine ⟨_, rfl, _, rfl, d, kvs, p, k, rfl, rfl, hD, fun e z => ktk sm (hk3 e z), ktk sm ka, _, rfl, ?_⟩
      rw [lk]
      by_cases m : k ∈ FW.putAll [] (ks.take i)
      · rw [if_pos m]
        refine iteF ?_
        refine fin _ kvs sm hD ?_ hk2 hk3 hL
        rw [et, hk1]
        unfold FW.put
        rw [if_pos m]
      · rw [if_neg m]
        refine iteT ?_
        refine ⟨_, rfl, d, kvs, rfl, hD, fun e z => ktk sm (hk3 e z), _, rfl, _, rfl, d, kvs, p, k, kvs.length, rfl, rfl, rfl, hD, fun e z => ktk sm (hk3 e z), ktk sm ka, by rw [lk, if_neg m], line (by omega), ?_⟩
        refine fin _ (kvs ++ [(k, p, kvs.length)]) (sm.put hd) upd_same ?_ (fun j e z => ?_) (fun e z => ?_) ?_
        · rw [List.map_append, hk1, et]
          unfold FW.put
          rw [if_neg m]
          rfl
        · by_cases hj : j < kvs.length
          · rw [List.getElem?_append_left hj] at z
            exact hk2 j e z
          · have ej : j = kvs.length := by
              have z' := at_lt z
              rw [List.length_append, List.length_singleton] at z'
              omega
            subst ej
            rw [List.getElem?_append_right (Nat.le_refl _), Nat.sub_self] at z
            have z : (k, p, kvs.length) = e := Option.some.inj z
            rw [← z]
        · rcases List.mem_append.mp z with z | z
          · exact hk3 e z
          · rw [List.mem_singleton] at z
            subst z
            exact ka
        · rw [upd_ne nld]
          exact hL
    · rintro σ H' ⟨y, kvs, rfl, sm, hD, hk1, hk2, hk3, hL⟩
      refine ⟨_, rfl, q H' l sm hl0 ?_⟩
      rw [hL, List.length_map, hpk, ← FW.numb_len ks, List.take_length]
end
end FwP

namespace FwP
open PySem PySem.Spec PyProof.Rows L2 FwR
/-! ### as_reached -/
def spAsR : Sp := fun vs H Q _ => ∃ (v : V) (M : FW.Mac) (L : Nat), vs = [v] ∧ MacAt H v M ∧ FW.Ok M L ∧ M.rows.length ≤ 1000 ∧ L ≤ 1000 ∧
  ∀ H' v', Same H H' → MacAt H' v' (FW.asR M) → Q v' H'
abbrev nAsR : List Str := ["machine", "rows", "order", "numbers", "at", "room", "fresh", "old"]
abbrev zl (D : List Nat) : List Int := D.map fun (n : Nat) => (n : Int)
section
variable {P : Program} {w : World} {K : PySem.W.Frag} {mg : Str → Option Value} {base : Heap}
theorem ok_asR {f : Addr} {fd : FuncData} (F : Fun K "as_reached" "as_reached" sAsR f fd) (ml : mg "len" = none) (mt : mg "tuple" = none) : FnOk P w K mg base CX0 1 f fd ["machine"] spAsR := by
  refine F.ok scAsR (fun vs H Q E h => ?_) (fun cdv A outer s H vs Q E hr h => ?_)
  · obtain ⟨v, M, L, rfl, _⟩ := h
    rfl
  · obtain ⟨v, M, L, rfl, hM, ok, hn, hL, q⟩ := h
    have hu := hu_of hr
    obtain ⟨m, r, sg, bs, rfl, hM⟩ := hM
    refine ⟨_, pss_cons (ps_set (i := 1) scAsR.nd rfl (.inr rfl) (pe_ix ix_tup (pv 0) pe_int (fun _ _ => rfl)))
      (pss_cons (ps_set (i := 2) scAsR.nd rfl (.inl rfl) (pe_lst (pa_cons pe_int pa_nil)))
      (pss_cons (ps_set (i := 3) scAsR.nd rfl (.inr rfl) (pe_disp (pps_cons pe_int pe_int pps_nil) (by rfl) (by rfl) (fun z => by cases z) (by decide)))
      (pss_cons (ps_set (i := 4) scAsR.nd rfl (.inl rfl) pe_int)
      (pss_cons (ps_while PassesOwn.never (pt_cmpR op_lt (pv 4) (pe_callB call_len_seq (by rfl) ml PySem.boot_len (pa_cons (pv 2) pa_nil)) (nomark _))
        (pss_cons (ps_for PassesOwn.never rfl (pi_tup (pe_ix ix_tup (pv 1) (pe_ix ix_list (pv 2) (pv 4) (fun _ _ => rfl)) (fun _ _ => rfl))) (pg_name (i := 5) scAsR.nd rfl (.inl rfl))
            (pss_one (ps_if (pt_cmp (pc_dnotin hu (pv 5) (pv 3)) rfl)
              (pss_cons (ps_dput hu (pv 3) (pv 5) (pe_callB call_len_seq (by rfl) ml PySem.boot_len (pa_cons (pv 2) pa_nil)) rfl)
                (pss_one (ps_expr (pe_bm PySem.F.plainAttrs_list PySem.F.slot_list_append PySem.F.type_list_append mt_append (pv 2) (pa_cons (pv 5) pa_nil)))))
              pss_nil)))
        (pss_one (ps_set (i := 4) scAsR.nd rfl (.inl rfl) (pe_op op_add (pv 4) pe_int)))))
      (pss_cons (ps_set (i := 6) scAsR.nd rfl (.inl rfl)
        (pe_callTy call_tuple_of (by rfl) mt PyProof.Rows.boot_tuple (pa_cons
          (pe_lc (own := [("old", 7)]) (g := gName 7) (tt := tYes) rfl scAsR.nd (pi_list (pv 2)) (blkOk_by (N := nAsR) (sc := defScope sAsR) (by decide +kernel)) (fun _ _ _ _ _ => pg_name (i := 7) scAsR.nd rfl (Or.inl rfl)) (fun _ _ _ _ _ => pts_nil)
            (fun _ _ _ _ _ => pe_callTy (call_tupleK K (by rfl)) (by rfl) mt PyProof.Rows.boot_tuple (pa_cons
              (pe_lc (own := [("room", 5)]) (g := gName 5) (tt := tYes) rfl scAsR.nd (pi_tupK K (by rfl) (pe_ix (ix_tupK K (by rfl)) (pv 1) (pv 7) (fun _ _ => rfl))) (blkOk_by (N := nAsR) (by kernel_rfl)) (fun _ _ _ _ _ => pg_name (i := 5) scAsR.nd rfl (Or.inl rfl)) (fun _ _ _ _ _ => pts_nil)
                (fun _ _ _ _ _ => pe_dget hu (pv 3) (pv 5) (fun _ _ => rfl))) pa_nil))) pa_nil)))
      (pss_one (ps_ret (pe_tup (pa_cons (pv 6) (pa_cons
        (pe_callTy call_tuple_of (by rfl) mt PyProof.Rows.boot_tuple (pa_cons
          (pe_lc (own := [("old", 7)]) (g := gName 7) (tt := tYes) rfl scAsR.nd (pi_list (pv 2)) (blkOk_by (N := nAsR) (sc := defScope sAsR) (by decide +kernel)) (fun _ _ _ _ _ => pg_name (i := 7) scAsR.nd rfl (Or.inl rfl)) (fun _ _ _ _ _ => pts_nil)
            (fun _ _ _ _ _ => pe_ix (ix_tupK K (by rfl)) (pe_ix (ix_tupK K (by rfl)) (pv 0) pe_int (fun _ _ => rfl)) (pv 7) (fun _ _ => rfl))) pa_nil)) pa_nil)))))))))), ?_⟩
    -- rows = machine[0]
    refine ⟨_, rfl, m, _, 0, _, rfl, rfl, .inl (.inl hM.top), atI_nat (j := 0) rfl, ?_⟩
    -- order = [0]
    refine ⟨by show 1 ≤ sizeLine; decide, fun o ho => ?_⟩
    have s1 : Same H (upd H o (.lst [.int 0])) := same_new ho
    -- numbers = {0: 0}
    intro d hd
    have nod : o ≠ d := fun e => by
      rw [← e, upd_same] at hd
      cases hd
    have hd0 : H d = none := by
      rw [upd_ne nod.symm] at hd
      exact hd
    refine ⟨upd_same, [((Sum.inl 0 : Key), V.int 0)], rfl, by decide, ?_⟩
    rw [upd_upd]
    -- the while
    refine ⟨fun mm σ H' => ∃ (k : Nat) (y : Option V), mm = M.rows.length - k ∧ k ≤ M.rows.length ∧ k ≤ (FW.ord M k).length ∧
        σ = [some (.ref m), some (.ref r), some (.ref o), some (.ref d), some (.int (k : Int)), y, none, none] ∧ Same H H' ∧
        H' o = some (.lst (natV (FW.ord M k))) ∧ H' d = some (.dK (tab (zl (FW.ord M k)))),
      ⟨_, 0, none, rfl, Nat.zero_le _, Nat.zero_le _, rfl, s1.trans (same_new hd), ?_, ?_⟩, ?_⟩
    · rw [upd_ne nod, upd_same]
      rfl
    · rw [upd_same]
      rfl
    rintro mm σ H' ⟨k, y, rfl, kn, kl, rfl, sm, hO, hD⟩
    have ole := FW.ord_le ok k
    refine ⟨_, rfl, _, rfl, o, _, rfl, .inl (SqL.of hO), _, _, rfl, rfl, _, rfl, ?_⟩
    refine ite2 (fun hc => ?_) (fun hc => ?_)
    · -- a turn
      have hlt : k < (FW.ord M k).length := by
        have z := of_decide_eq_true hc
        rw [natV_len] at z
        omega
      have he : (FW.ord M k)[k]? = some ((FW.ord M k).getD k 0) := by
        rw [List.getD_eq_getElem?_getD, List.getElem?_eq_getElem hlt]
        rfl
      have hel : (FW.ord M k).getD k 0 < M.rows.length := FW.ord_low ok k _ (FW.getD_mem hlt)
      obtain ⟨b, hb, hB⟩ := hM.bs_at hel
      have osucc := FW.ord_succ M hlt
      have part : ∀ i, (FW.putAll (FW.ord M k) ((FW.row M ((FW.ord M k).getD k 0)).take i)).length ≤ M.rows.length := fun i => FW.part_le ok hlt
      have rlen := FW.row_len ok hel
      generalize hrow : FW.row M ((FW.ord M k).getD k 0) = rw0 at *
      refine ⟨fun σ' H'' => ∃ y, σ' = [some (.ref m), some (.ref r), some (.ref o), some (.ref d), some (.int ((k + 1 : Nat) : Int)), y, none, none] ∧ Same H H'' ∧
          H'' o = some (.lst (natV (FW.ord M (k + 1)))) ∧ H'' d = some (.dK (tab (zl (FW.ord M (k + 1))))), fun σ' H'' ⟨y', e1, e2, e3, e4⟩ => ?_, ?_⟩
      · refine ⟨_, ?_, k + 1, y', rfl, by omega, ?_, e1, e2, e3, e4⟩
        · omega
        · rw [osucc]
          obtain ⟨z, ez⟩ := FW.putAll_sub (rs := rw0) (o := FW.ord M k)
          rw [ez, List.length_append]
          omega
      · refine ⟨_, rfl, _, rfl, _, rfl, o, _, _, _, rfl, rfl, SqL.of hO, atI_nat (natV_at he), r, _, _, _, rfl, rfl, .inl (.inl (sm _ _ hM.rows)), atI_nat (map_at hb), b, rfl, ⟨_, .inl (.inl (sm _ _ hB))⟩,
          for_tup (xs := natV rw0) (fun i σ H' => ∃ y, σ = [some (.ref m), some (.ref r), some (.ref o), some (.ref d), some (.int (k : Int)), y, none, none] ∧ Same H H' ∧
            H' o = some (.lst (natV (FW.putAll (FW.ord M k) (rw0.take i)))) ∧ H' d = some (.dK (tab (zl (FW.putAll (FW.ord M k) (rw0.take i))))))
          ⟨y, rfl, sm, hO, hD⟩ (fun i σ H' _ ⟨_, _, sm, _⟩ => .inl (.inl (sm _ _ hB))) ?_ ?_⟩
        · rintro i x σ H2 hx ⟨y2, rfl, sm2, hO2, hD2⟩
          obtain ⟨n, hn2, rfl⟩ := natV_of hx
          have et := FW.putAll_takeO (FW.ord M k) rw0 hn2
          have small := part i
          refine ⟨_, rfl, _, rfl, d, _, rfl, DGet.k (k := Sum.inl (n : Int)) hD2, _, rfl, ?_⟩
          rw [tabN_get]
          by_cases mem : n ∈ FW.putAll (FW.ord M k) (rw0.take i)
          · rw [if_pos mem]
            refine iteF ⟨_, rfl, sm2, ?_, ?_⟩
            · rw [et]
              unfold FW.put
              rw [if_pos mem]
              exact hO2
            · rw [et]
              unfold FW.put
              rw [if_pos mem]
              exact hD2
          · rw [if_neg mem]
            have np : valV (tab (zl (FW.putAll (FW.ord M k) (rw0.take i)))) (Sum.inl (n : Int) : Key) = none := by
              rw [tabN_get, if_neg mem]
            have ep : FW.put (FW.putAll (FW.ord M k) (rw0.take i)) n = FW.putAll (FW.ord M k) (rw0.take i) ++ [n] := by
              unfold FW.put
              rw [if_neg mem]
            refine iteT ⟨_, rfl, o, _, rfl, .inl (SqL.of hO2), _, rfl, _, rfl, d, _, rfl, DPut.k (k := Sum.inl (n : Int)) hD2 ?_, ?_⟩
            · rw [tab_len, List.length_map]
              exact line (by omega)
            · refine ⟨_, rfl, .inl ⟨rfl, _, SqL.of ((upd_ne nod).trans hO2)⟩, _, rfl, o, _, _, rfl, rfl, (upd_ne nod).trans hO2, ?_, ?_⟩
              · rw [natV_len]
                exact line (by omega)
              · refine ⟨_, rfl, (sm2.put hd0).put ho, ?_, ?_⟩
                · rw [upd_same, et, ep, natV_snoc]
                · rw [upd_ne nod.symm, upd_same, putK_new _ np, et, ep, natV_len]
                  show some (HO.dK _) = some (HO.dK (tab (zl (_ ++ [n]))))
                  rw [show zl (FW.putAll (FW.ord M k) (rw0.take i) ++ [n]) = zl (FW.putAll (FW.ord M k) (rw0.take i)) ++ [(n : Int)] from List.map_append, tab_snoc, List.length_map]
        · rintro σ H2 ⟨y2, rfl, sm2, hO2, hD2⟩
          rw [natV_len, List.take_length, ← osucc] at hO2 hD2
          exact ⟨_, rfl, _, _, rfl, rfl, _, rfl, sm2, hO2, hD2⟩
    · -- the end
      have hge : (FW.ord M k).length ≤ k := by
        by_cases z : k < (FW.ord M k).length
        · exact absurd (decide_eq_true (by rw [natV_len]; omega)) hc
        · omega
      have eo := FW.order_eq hge kn
      rw [eo] at hO hD ole
      have olow : ∀ n, n ∈ FW.order M → n < M.rows.length := fun n z => FW.ord_low ok _ n z
      have closed : ∀ n, n ∈ FW.order M → ∀ x, x ∈ FW.row M n → x ∈ FW.order M := fun n z x hx => by
        obtain ⟨i, hi, e⟩ := List.mem_iff_getElem.mp z
        refine FW.order_closed ok hi ?_
        rw [List.getD_eq_getElem?_getD, List.getElem?_eq_getElem hi]
        rw [← e] at hx
        exact hx
      -- fresh = ..
      refine ⟨_, rfl, o, rfl, ⟨_, SqL.of hO⟩, fun D hD0 => rowsL (xs := natV (FW.order M)) (FW.asR M).rows (by rw [FW.asR_rows, natV_len]) (by rw [natV_len]; omega) hD0 (fun H2 s2 => SqL.of (s2 _ _ hO)) ?_ ?_⟩
      · intro i x rr H2 hx hr s2 R S hR
        obtain ⟨n, hn2, rfl⟩ := natV_of hx
        have nm := List.mem_of_getElem? hn2
        have nl := olow n nm
        obtain ⟨b, hb, hB⟩ := hM.bs_at nl
        have er : rr = (FW.row M n).map fun x => (FW.order M).idxOf x := by
          have z : (FW.asR M).rows[i]? = some ((FW.row M n).map fun x => (FW.order M).idxOf x) := by
            show ((FW.order M).map fun a => (FW.row M a).map fun x => (FW.order M).idxOf x)[i]? = _
            rw [List.getElem?_map, hn2]
            rfl
          exact Option.some.inj (hr.symm.trans z)
        have sH := sm.trans s2
        refine ⟨rfl, yesI ⟨_, rfl, _, rfl, r, _, _, _, rfl, rfl, .inl (.inl (sH _ _ hM.rows)), atI_nat (map_at hb), b, rfl, ⟨_, .inl (.inl (sH _ _ hB))⟩, fun D2 hD2 => mapT (xs := natV (FW.row M n)) (natV rr) ?_ ?_ hD2 (fun H3 s3 => .inl (.inl (s3 _ _ (sH _ _ hB)))) ?_ ?_⟩⟩
        · rw [natV_len, natV_len, er, List.length_map]
        · rw [natV_len, FW.row_len ok nl]
          omega
        · intro j y z H3 hy hz s3 R2 S2 hR2
          obtain ⟨t, ht, rfl⟩ := natV_of hy
          have et : z = .int ((FW.order M).idxOf t : Int) := by
            have z2 : (natV rr)[j]? = some (.int ((FW.order M).idxOf t : Int)) := by
              refine natV_at ?_
              rw [er, List.getElem?_map, ht]
              rfl
            exact Option.some.inj (hz.symm.trans z2)
          subst et
          have g := DGet.k (k := Sum.inl (t : Int)) (s3 _ _ (s2 _ _ hD))
          rw [tabN_get, if_pos (closed n nm t (List.mem_of_getElem? ht))] at g
          exact ⟨rfl, yesI ⟨_, rfl, _, rfl, d, _, rfl, g, hR2⟩⟩
        · exact ⟨D2, _, rfl, .inl ⟨SqL.of upd_same, fun T hT => hR _ T ((same_new hD2).trans (same_new hT)) upd_same⟩⟩
      · intro H2 bs2 s2 hD2 hR2
        refine ⟨D, _, rfl, .inl ⟨SqL.of hD2, fun T hT => ?_⟩⟩
        have sT : Same H2 (upd H2 T (.tup (bs2.map V.ref))) := same_new hT
        have sA := (sm.trans s2).trans sT
        -- return (fresh, tuple([..]))
        refine ⟨_, rfl, _, rfl, o, rfl, ⟨_, SqL.of (sT _ _ (s2 _ _ hO))⟩, fun D4 hD4 => mapL (xs := natV (FW.order M)) ((FW.asR M).signs.map V.int) ?_ ?_ hD4 (fun H3 s3 => SqL.of (s3 _ _ (sT _ _ (s2 _ _ hO)))) ?_ ?_⟩
        · rw [List.length_map, natV_len]
          exact List.length_map _
        · rw [natV_len]
          omega
        · intro i x z H3 hx hz s3 R S hR
          obtain ⟨n, hn2, rfl⟩ := natV_of hx
          have nl := olow n (List.mem_of_getElem? hn2)
          have ez : z = .int (FW.sg M n) := by
            have z2 : ((FW.asR M).signs.map V.int)[i]? = some (.int (FW.sg M n)) := by
              refine map_at ?_
              show ((FW.order M).map fun a => FW.sg M a)[i]? = _
              rw [List.getElem?_map, hn2]
              rfl
            exact Option.some.inj (hz.symm.trans z2)
          subst ez
          have sB := sA.trans s3
          exact ⟨rfl, yesI ⟨_, rfl, m, _, 1, _, rfl, rfl, .inl (.inl (sB _ _ hM.top)), atI_nat (j := 1) rfl, _, rfl, sg, _, _, _, rfl, rfl, .inl (.inl (sB _ _ hM.signs)), atI_nat (map_at (FW.sg_at ok nl)), hR⟩⟩
        · refine ⟨D4, _, rfl, .inl ⟨SqL.of upd_same, fun T2 hT2 => ⟨by show 2 ≤ sizeLine; decide, fun p hp => ?_⟩⟩⟩
          have s5 := (same_new (o := .lst ((FW.asR M).signs.map V.int)) hD4).trans (same_new (o := .tup ((FW.asR M).signs.map V.int)) hT2)
          have s6 := s5.trans (same_new (o := .tup [.ref T, .ref T2]) hp)
          refine q _ _ (sA.trans s6) ⟨p, T, T2, bs2, rfl, upd_same, s6 _ _ upd_same, hR2.tk (sT.trans s6).tk, ?_⟩
          exact same_new hp _ _ upd_same
end
end FwP

namespace FwP
open PySem PySem.Spec PyProof.Rows L2 FwR
/-! ### lots_of -/
def spLots : Sp := fun vs H Q _ => ∃ (v : V) (R : FW.Mac) (L : Nat), vs = [v] ∧ MacAt H v R ∧ FW.Ok R L ∧ R.rows.length ≤ 1000 ∧ L ≤ 1000 ∧
  ∀ H' l t, Same H H' → H l = none → H' l = some (.lst (natV t)) → FW.LotsOk R L t → Q (.ref l) H'
abbrev nLots : List Str := ["machine", "lots", "many", "k", "row", "room"]
theorem firstMet_fo {t : List Nat} (f : FW.Fo t) : ∀ k, k ≤ t.length → firstMet (fun i => (t.map fun (n : Nat) => (n : Int)).getD i 0) k = (List.range (FW.mx t k)).map fun (n : Nat) => (n : Int)
  | 0, _ => rfl
  | k + 1, h => by
    have ih := firstMet_fo f k (Nat.le_of_lt h)
    have at_ : (t.map fun (n : Nat) => (n : Int)).getD k 0 = ((t.getD k 0 : Nat) : Int) := by
      rw [List.getD_eq_getElem?_getD, List.getD_eq_getElem?_getD, List.getElem?_map, List.getElem?_eq_getElem h]
      rfl
    have low := f k h
    rw [firstMet_succ, ih]
    show step_dedup _ ((t.map fun (n : Nat) => (n : Int)).getD k 0) = _
    rw [at_]
    rw [show FW.mx t (k + 1) = if t.getD k 0 = FW.mx t k then FW.mx t k + 1 else FW.mx t k from rfl]
    unfold step_dedup
    by_cases e : t.getD k 0 = FW.mx t k
    · rw [if_pos e, if_neg, List.range_succ, List.map_append, e]
      · rfl
      · intro q
        obtain ⟨x, hx, ex⟩ := List.any_eq_true.mp q
        obtain ⟨y, hy, ey⟩ := List.mem_map.mp hx
        have ex : x = ((t.getD k 0 : Nat) : Int) := eq_of_beq ex
        rw [← ey, e] at ex
        have z := List.mem_range.mp hy
        have := Int.ofNat.inj ex
        omega
    · rw [if_neg e, if_pos]
      refine List.any_eq_true.mpr ⟨((t.getD k 0 : Nat) : Int), List.mem_map.mpr ⟨t.getD k 0, List.mem_range.mpr (by omega), rfl⟩, beq_self_eq_true _⟩
theorem cnt_set {t : List Nat} (f : FW.Fo t) : (firstMet (fun i => (t.map fun (n : Nat) => (n : Int)).getD i 0) (t.map fun (n : Nat) => (n : Int)).length).length = FW.cnt t := by
  rw [List.length_map, firstMet_fo f _ (Nat.le_refl _), List.length_map, List.length_range]
  rfl
section
variable {P : Program} {w : World} {K : PySem.W.Frag} {mg : Str → Option Value} {base : Heap}
theorem ok_lots {f fN : Addr} {fd fdN : FuncData} (F : Fun K "lots_of" "lots_of" sLots f fd) (FN : Fun K "numbered" "numbered" sNum fN fdN) (bN : Binds K fdN ["keys"] []) (gN : mg "numbered" = some (.ref fN))
    (ml : mg "len" = none) (mt : mg "tuple" = none) (ms : mg "set" = none) (me : mg "enumerate" = none) : FnOk P w K mg base CX0 2 f fd ["machine"] spLots := by
  have GI : FnOk P w K mg base CX0 1 fN fdN ["keys"] spNumI := ok_numI FN ml
  have GK : FnOk P w K mg base CX0 1 fN fdN ["keys"] spNumK := ok_numK FN ml
  refine F.ok scLots (fun vs H Q E h => ?_) (fun cdv A outer s H vs Q E hr h => ?_)
  · obtain ⟨v, R, L, rfl, _⟩ := h
    rfl
  · obtain ⟨v, R, L, rfl, hM, ok, hn, hL, q⟩ := h
    have hu := hu_of hr
    obtain ⟨m, r, sg, bs, rfl, hM⟩ := hM
    refine ⟨_, pss_cons (ps_set (i := 1) scLots.nd rfl (.inr rfl) (pe_call GI hr (by rfl) gN FN.kp bN .nil pass0 (pa_cons (pe_ix ix_tup (pv 0) pe_int (fun _ _ => rfl)) pa_nil)))
      (pss_cons (ps_set (i := 2) scLots.nd rfl (.inl rfl) pe_int)
      (pss_cons (ps_while PassesOwn.never (pt_cmpR op_ne (pv 2) (pe_lenSet (by rfl) ml (by rfl) ms (pv 1)) (nomark _))
        (pss_cons (ps_set (i := 2) scLots.nd rfl (.inl rfl) (pe_lenSet (by rfl) ml (by rfl) ms (pv 1)))
        (pss_one (ps_set (i := 1) scLots.nd rfl (.inr rfl) (pe_call GK hr (by rfl) gN FN.kp bN .nil pass0 (pa_cons
          (pe_lc (own := [("k", 3), ("row", 4)]) (g := gTup K 2 (gCons (gName 3) (gCons (gName 4) gNil))) (tt := tYes) rfl scLots.nd (pi_enumT (by rfl) me (pa_cons (pe_ix ix_tup (pv 0) pe_int (fun _ _ => rfl)) pa_nil))
            (blkOk_by (N := nLots) (sc := defScope sLots) (by decide +kernel))
            (fun _ _ _ _ _ => pg_tupK K (by rfl) rfl (pgs_cons (pg_name (i := 3) scLots.nd rfl (.inl rfl)) (pgs_cons (pg_name (i := 4) scLots.nd rfl (.inl rfl)) pgs_nil))) (fun _ _ _ _ _ => pts_nil)
            (fun _ _ _ _ _ => pe_tup (pa_cons (pe_ix (ix_listK K (by rfl)) (pv 1) (pv 3) (fun _ _ => rfl)) (pa_cons
              (pe_callTy (call_tupleK K (by rfl)) (by rfl) mt PyProof.Rows.boot_tuple (pa_cons
                (pe_lc (own := [("room", 5)]) (g := gName 5) (tt := tYes) rfl scLots.nd (pi_tupK K (by rfl) (pv 4)) (blkOk_by (N := nLots) (by kernel_rfl)) (fun _ _ _ _ _ => pg_name (i := 5) scLots.nd rfl (Or.inl rfl)) (fun _ _ _ _ _ => pts_nil)
                  (fun _ _ _ _ _ => pe_ix (ix_listK K (by rfl)) (pv 1) (pv 5) (fun _ _ => rfl))) pa_nil)) pa_nil)))) pa_nil))))))
      (pss_one (ps_ret (pv 1))))), ?_⟩
    have snl : R.signs.length = R.rows.length := ok.same
    -- lots = numbered(machine[1])
    refine ⟨_, rfl, m, _, 1, _, rfl, rfl, .inl (.inl hM.top), atI_nat (j := 1) rfl, sg, R.signs, rfl, hM.signs, by omega, fun H1 l1 sm1 nl1 hl1 => ?_⟩
    -- many = 0; the while
    refine ⟨fun mm σ H' => ∃ (many l : Nat) (t : List Nat), mm = R.rows.length - many ∧ σ = [some (.ref m), some (.ref l), some (.int (many : Int)), none, none, none] ∧ Same H H' ∧ H l = none ∧
        H' l = some (.lst (natV t)) ∧ FW.Turn R L many t, ⟨_, 0, l1, _, rfl, rfl, sm1, nl1, hl1, FW.turn0 ok⟩, ?_⟩
    rintro mm σ H' ⟨many, l, t, rfl, rfl, sm, nl, hl, T⟩
    have tl : t.length = R.rows.length := T.pre.len
    have sqt : SqL K H' l ((t.map fun (n : Nat) => (n : Int)).map V.int) := by
      rw [← natV_eq]
      exact SqL.of hl
    refine ⟨_, rfl, _, rfl, l, _, rfl, sqt, by rw [List.length_map]; omega, rfl, _, rfl, ?_⟩
    rw [cnt_set T.pre.fo]
    by_cases hc : many = FW.cnt t
    · -- the end
      rw [decide_eq_true (show V.int (many : Int) = V.int (FW.cnt t : Int) by rw [hc])]
      refine iteF ?_
      exact ⟨_, rfl, q H' l t sm nl hl (T.done ok hc)⟩
    · rw [decide_eq_false (show ¬ V.int (many : Int) = V.int (FW.cnt t : Int) from fun e => hc (Int.ofNat.inj (V.int.inj e)))]
      refine iteT ?_
      have T2 := T.next ok
      have le := T.le
      have cle := T.cnt_le
      refine ⟨fun σ' H'' => ∃ (l : Nat) (t' : List Nat), σ' = [some (.ref m), some (.ref l), some (.int (FW.cnt t : Int)), none, none, none] ∧ Same H H'' ∧ H l = none ∧ H'' l = some (.lst (natV t')) ∧ FW.Turn R L (FW.cnt t) t',
        fun σ' H'' ⟨l', t', e1, e2, e3, e4, e5⟩ => ⟨_, by omega, FW.cnt t, l', t', rfl, e1, e2, e3, e4, e5⟩, ?_⟩
      -- many = len(set(lots))
      refine ⟨_, rfl, l, _, rfl, sqt, by rw [List.length_map]; omega, ?_⟩
      rw [cnt_set T.pre.fo]
      -- lots = numbered([..])
      refine ⟨_, rfl, m, _, 0, _, rfl, rfl, .inl (.inl (sm _ _ hM.top)), atI_nat (j := 0) rfl, r, bs.map V.ref, rfl, .inl (.inl (sm _ _ hM.rows)), fun D hD => ?_⟩
      have bl : bs.length = R.rows.length := hM.each.1
      refine lc_enumT (xs := bs.map V.ref) (fun i H2 => ∃ ps : List Addr, Same H' H2 ∧ H2 D = some (.lst (ps.map V.ref)) ∧ ps.length = i ∧ ∀ (j : Nat) p k, ps[j]? = some p → (FW.keysOf R t)[j]? = some k → KeyAt H2 k p)
        ⟨[], same_new hD, by rw [upd_same]; rfl, rfl, fun j p k z => by simp at z⟩ (fun i H2 _ ⟨_, s2, _⟩ => .inl (.inl (s2 _ _ (sm _ _ hM.rows)))) ?_ ?_
      · rintro i x T0 H2 hx ⟨ps, s2, hD2, pl, hps⟩ hT0
        obtain ⟨b, hb, rfl⟩ := map_of hx
        have il : i < R.rows.length := by
          have z := at_lt hb
          omega
        have hB := sm _ _ (hM.each.2 i b hb)
        have sT : Same H2 (upd H2 T0 (.tup [.int (i : Nat), .ref b])) := same_new hT0
        have sTT := s2.trans sT
        have rl : (FW.row R i).length = L := FW.row_len ok il
        have at_ : ∀ j, j < R.rows.length → t[j]? = some (t.getD j 0) := fun j hj => by
          rw [List.getD_eq_getElem?_getD, List.getElem?_eq_getElem (by omega)]
          rfl
        refine ⟨T0, _, rfl, .inl (.inl upd_same), rfl, _, _, rfl, _, _, rfl, rfl, rfl, yesI ?_⟩
        refine ⟨_, rfl, _, rfl, l, _, _, _, rfl, rfl, SqL.of (sTT _ _ hl), atI_nat (natV_at (at_ i il)), ?_⟩
        refine ⟨_, rfl, b, rfl, ⟨_, .inl (.inl (sTT _ _ hB))⟩, fun D2 hD2' => mapT (xs := natV (FW.row R i)) (natV ((FW.row R i).map fun x => t.getD x 0)) ?_ ?_ hD2' (fun H3 s3 => .inl (.inl (s3 _ _ (sTT _ _ hB)))) ?_ ?_⟩
        · rw [natV_len, natV_len, List.length_map]
        · rw [natV_len, rl]
          omega
        · intro j y z H3 hy hz s3 R2 S2 hR2
          obtain ⟨n, hn2, rfl⟩ := natV_of hy
          have nl2 := FW.row_low ok il (List.mem_of_getElem? hn2)
          have ez : z = .int (t.getD n 0 : Int) := by
            have z2 : (natV ((FW.row R i).map fun x => t.getD x 0))[j]? = some (.int (t.getD n 0 : Int)) := by
              refine natV_at ?_
              rw [List.getElem?_map, hn2]
              rfl
            exact Option.some.inj (hz.symm.trans z2)
          subst ez
          exact ⟨rfl, yesI ⟨_, rfl, _, rfl, l, _, _, _, rfl, rfl, SqL.of (s3 _ _ (sTT _ _ hl)), atI_nat (natV_at (at_ n nl2)), hR2⟩⟩
        · refine ⟨D2, _, rfl, .inl ⟨SqL.of upd_same, fun B hB2 => ⟨by show 2 ≤ sizeLine; decide, fun p hp => ?_⟩⟩⟩
          have s4 := (same_new (o := .lst (natV ((FW.row R i).map fun x => t.getD x 0))) hD2').trans (same_new (o := .tup (natV ((FW.row R i).map fun x => t.getD x 0))) hB2)
          have s5 := s4.trans (same_new (o := .tup [.int (t.getD i 0 : Int), .ref B]) hp)
          have s6 := sTT.trans s5
          have hD5 := s5 _ _ (sT _ _ hD2)
          refine ⟨_, hD5, ?_, ps ++ [p], ?_, ?_, ?_, ?_⟩
          · rw [List.length_map]
            exact line (by omega)
          · exact s6.put hD
          · rw [upd_same, List.map_append]
            rfl
          · rw [List.length_append, pl]
            rfl
          · have tk := tk_lst (o := .lst (ps.map V.ref ++ [.ref p])) hD5
            intro j p' k hp' hk
            by_cases hj : j < ps.length
            · rw [List.getElem?_append_left hj] at hp'
              obtain ⟨b2, z1, z2⟩ := hps j p' k hp' hk
              exact ⟨b2, tk _ _ ((sT.trans s5) _ _ z1), tk _ _ ((sT.trans s5) _ _ z2)⟩
            · have ej : j = i := by
                have z := at_lt hp'
                rw [List.length_append, List.length_singleton] at z
                omega
              subst ej
              rw [List.getElem?_append_right (by omega), pl, Nat.sub_self] at hp'
              have ep : p = p' := Option.some.inj hp'
              subst ep
              rw [FW.keysOf_at il] at hk
              have ek := Option.some.inj hk
              subst ek
              exact ⟨B, tk _ _ upd_same, tk _ _ (same_new hp _ _ upd_same)⟩
      · rintro H2 ⟨ps, s2, hD2, pl, hps⟩
        rw [List.length_map, bl] at pl
        refine ⟨D, ps, FW.keysOf R t, rfl, hD2, by rw [FW.keysOf_len, pl], hps, by rw [FW.keysOf_len]; omega, fun H3 l3 s3 nl3 hl3 => ?_⟩
        have sA := sm.trans (s2.trans s3)
        exact ⟨l3, _, rfl, sA, (sm.trans s2).free nl3, hl3, T2⟩
end
end FwP

namespace FwP
open PySem PySem.Spec PyProof.Rows L2 FwR
/-! ### least -/
def spLeast : Sp := fun vs H Q _ => ∃ (v : V) (M : FW.Mac) (L : Nat), vs = [v] ∧ MacAt H v M ∧ FW.Ok M L ∧ M.rows.length ≤ 1000 ∧ L ≤ 1000 ∧
  ∀ H' v' J, Same H H' → MacAt H' v' J → FW.LeastOf M L J → Q v' H'
abbrev nLeast : List Str := ["machine", "reached", "lots", "rows", "signs", "k", "room"]
section
variable {P : Program} {w : World} {K : PySem.W.Frag} {mg : Str → Option Value} {base : Heap}
theorem ok_least {f fA fL fN : Addr} {fd fdA fdL fdN : FuncData} (F : Fun K "least" "least" sLeast f fd) (FA : Fun K "as_reached" "as_reached" sAsR fA fdA) (bA : Binds K fdA ["machine"] []) (gA : mg "as_reached" = some (.ref fA))
    (FL : Fun K "lots_of" "lots_of" sLots fL fdL) (bL : Binds K fdL ["machine"] []) (gL : mg "lots_of" = some (.ref fL)) (FN : Fun K "numbered" "numbered" sNum fN fdN) (bN : Binds K fdN ["keys"] []) (gN : mg "numbered" = some (.ref fN))
    (ml : mg "len" = none) (mt : mg "tuple" = none) (ms : mg "set" = none) (me : mg "enumerate" = none) (mr : mg "range" = none) : FnOk P w K mg base CX0 3 f fd ["machine"] spLeast := by
  have GA : FnOk P w K mg base CX0 1 fA fdA ["machine"] spAsR := ok_asR FA ml mt
  have GL : FnOk P w K mg base CX0 2 fL fdL ["machine"] spLots := ok_lots FL FN bN gN ml mt ms me
  refine F.ok scLeast (fun vs H Q E h => ?_) (fun cdv A outer s H vs Q E hr h => ?_)
  · obtain ⟨v, M, L, rfl, _⟩ := h
    rfl
  · obtain ⟨v, M, L, rfl, hM, ok, hn, hL, q⟩ := h
    refine ⟨_, pss_cons (ps_set (i := 1) scLeast.nd rfl (.inl rfl) (pe_call GA (hr.mono (by decide)) (by rfl) gA FA.kp bA .nil pass0 (pa_cons (pv 0) pa_nil)))
      (pss_cons (ps_set (i := 2) scLeast.nd rfl (.inr rfl) (pe_call GL hr (by rfl) gL FL.kp bL .nil pass0 (pa_cons (pv 1) pa_nil)))
      (pss_cons (ps_set (i := 3) scLeast.nd rfl (.inl rfl) (pe_lst pa_nil))
      (pss_cons (ps_set (i := 4) scLeast.nd rfl (.inl rfl) (pe_lst pa_nil))
      (pss_cons (ps_for PassesOwn.never rfl (pi_range1 (by rfl) mr (pa_cons (pe_callB call_len_seq (by rfl) ml PySem.boot_len (pa_cons (pv 2) pa_nil)) pa_nil)) (pg_name (i := 5) scLeast.nd rfl (.inl rfl))
        (pss_one (ps_if (pt_cmpR op_eq (pe_ix ix_list (pv 2) (pv 5) (fun _ _ => rfl)) (pe_callB call_len_seq (by rfl) ml PySem.boot_len (pa_cons (pv 3) pa_nil)) (nomark _))
          (pss_cons (ps_expr (pe_bm PySem.F.plainAttrs_list PySem.F.slot_list_append PySem.F.type_list_append mt_append (pv 3) (pa_cons
              (pe_callTy call_tuple_of (by rfl) mt PyProof.Rows.boot_tuple (pa_cons
                (pe_lc (own := [("room", 6)]) (g := gName 6) (tt := tYes) rfl scLeast.nd (pi_tup (pe_ix ix_tup (pe_ix ix_tup (pv 1) pe_int (fun _ _ => rfl)) (pv 5) (fun _ _ => rfl))) (blkOk_by (N := nLeast) (sc := defScope sLeast) (by decide +kernel)) (fun _ _ _ _ _ => pg_name (i := 6) scLeast.nd rfl (Or.inl rfl)) (fun _ _ _ _ _ => pts_nil)
                  (fun _ _ _ _ _ => pe_ix (ix_listK K (by rfl)) (pv 2) (pv 6) (fun _ _ => rfl))) pa_nil)) pa_nil)))
          (pss_one (ps_expr (pe_bm PySem.F.plainAttrs_list PySem.F.slot_list_append PySem.F.type_list_append mt_append (pv 4) (pa_cons (pe_ix ix_tup (pe_ix ix_tup (pv 1) pe_int (fun _ _ => rfl)) (pv 5) (fun _ _ => rfl)) pa_nil)))))
          pss_nil)))
      (pss_one (ps_ret (pe_call GA (hr.mono (by decide)) (by rfl) gA FA.kp bA .nil pass0 (pa_cons (pe_tup (pa_cons (pe_callTy call_tuple_of (by rfl) mt PyProof.Rows.boot_tuple (pa_cons (pv 3) pa_nil))
        (pa_cons (pe_callTy call_tuple_of (by rfl) mt PyProof.Rows.boot_tuple (pa_cons (pv 4) pa_nil)) pa_nil))) pa_nil)))))))), ?_⟩
    -- reached, lots
    refine ⟨_, rfl, v, M, L, rfl, hM, ok, hn, hL, fun H1 v1 s1 hM1 => ?_⟩
    have okR := FW.asR_ok ok
    have nR : (FW.asR M).rows.length ≤ M.rows.length := by
      rw [FW.asR_rows]
      exact FW.ord_le ok _
    refine ⟨_, rfl, v1, FW.asR M, L, rfl, hM1, okR, by omega, hL, fun H2 l t s2 nl hl T => ?_⟩
    have hM2 := hM1.tk s2.tk
    generalize hR : FW.asR M = R at *
    obtain ⟨m, r, sg, bs, rfl, hM2⟩ := hM2
    have tl := T.len
    -- rows = []; signs = []
    refine ⟨Nat.zero_le _, fun a ha => ?_⟩
    refine ⟨Nat.zero_le _, fun b hb => ?_⟩
    have nab : a ≠ b := fun e => by
      rw [← e, upd_same] at hb
      cases hb
    have hb2 : H2 b = none := by
      rw [upd_ne nab.symm] at hb
      exact hb
    have nla : l ≠ a := ne_of_none hl ha
    have nlb : l ≠ b := ne_of_none hl hb2
    have en : ((natV t).length : Int).toNat = t.length := by
      rw [natV_len]
      rfl
    have hl2 : Same H2 (upd (upd H2 a (.lst [])) b (.lst [])) := (same_new ha).trans (same_new hb)
    have s02 := s1.trans s2
    -- the loop
    refine ⟨_, rfl, l, _, rfl, .inl (SqL.of ((upd_ne nlb).trans ((upd_ne nla).trans hl))), _, rfl, ?_, ?_, for_range (lo := 0) (n := ((natV t).length : Int).toNat)
      (fun k σ H' => ∃ (y : Option V) (cs : List Addr), σ = [some v, some (.ref m), some (.ref l), some (.ref a), some (.ref b), y, none] ∧ Same H2 H' ∧ H' a = some (.lst (cs.map V.ref)) ∧
        RowsAt H' cs ((FW.reps t k).map fun j => (FW.row R j).map fun x => t.getD x 0) ∧ H' b = some (.lst (((FW.reps t k).map fun j => FW.sg R j).map V.int))) ?_ ?_ ?_⟩
    · rw [natV_len]
      omega
    · rw [natV_len]
      omega
    · exact ⟨none, [], rfl, hl2, by rw [upd_ne nab, upd_same]; rfl, RowsAt.nil, by rw [upd_same]; rfl⟩
    · rintro k σ H' hk ⟨y, cs, rfl, sm, hA, hRw, hB⟩
      rw [en] at hk
      have hkn : k < R.rows.length := by omega
      have rl := FW.reps_len t k
      have rle := FW.mx_le t k
      have csl : cs.length = (FW.reps t k).length := by
        have z := hRw.1
        rw [List.length_map] at z
        exact z
      have at_ : ∀ j, j < R.rows.length → t[j]? = some (t.getD j 0) := fun j hj => by
        rw [List.getD_eq_getElem?_getD, List.getElem?_eq_getElem (by omega)]
        rfl
      refine ⟨_, rfl, _, rfl, l, _, _, _, rfl, rfl, SqL.of (sm _ _ hl), (by rw [Int.zero_add]; exact atI_nat (natV_at (at_ k hkn))), _, rfl, a, _, rfl, .inl (SqL.of hA), rfl, _, rfl, ?_⟩
      refine ite2 (fun hc => ?_) (fun hc => ?_)
      · -- the first room of its lot
        have e0 : t.getD k 0 = (FW.reps t k).length := by
          have z := V.int.inj (of_decide_eq_true hc)
          rw [List.length_map, csl] at z
          exact Int.ofNat.inj z
        have er : FW.reps t (k + 1) = FW.reps t k ++ [k] := by
          rw [show FW.reps t (k + 1) = if t.getD k 0 = (FW.reps t k).length then FW.reps t k ++ [k] else FW.reps t k from rfl, if_pos e0]
        obtain ⟨rb, hrb, hRB⟩ := hM2.bs_at hkn
        have rowl := FW.row_len okR hkn
        refine ⟨_, rfl, .inl ⟨rfl, _, SqL.of hA⟩, ?_⟩
        refine ⟨_, rfl, m, _, 0, _, rfl, rfl, .inl (.inl (sm _ _ hM2.top)), atI_nat (j := 0) rfl, _, rfl, r, _, _, _, rfl, rfl, .inl (.inl (sm _ _ hM2.rows)), (by rw [Int.zero_add]; exact atI_nat (map_at hrb)), rb, rfl, ⟨_, .inl (.inl (sm _ _ hRB))⟩,
          fun D hD => mapT (xs := natV (FW.row R k)) (natV ((FW.row R k).map fun x => t.getD x 0)) ?_ ?_ hD (fun H3 s3 => .inl (.inl (s3 _ _ (sm _ _ hRB)))) ?_ ?_⟩
        · rw [natV_len, natV_len, List.length_map]
        · rw [natV_len]
          omega
        · intro j x z H3 hx hz s3 R2 S2 hR2
          obtain ⟨n, hn2, rfl⟩ := natV_of hx
          have nl2 := FW.row_low okR hkn (List.mem_of_getElem? hn2)
          have ez : z = .int (t.getD n 0 : Int) := by
            have z2 : (natV ((FW.row R k).map fun x => t.getD x 0))[j]? = some (.int (t.getD n 0 : Int)) := by
              refine natV_at ?_
              rw [List.getElem?_map, hn2]
              rfl
            exact Option.some.inj (hz.symm.trans z2)
          subst ez
          exact ⟨rfl, yesI ⟨_, rfl, _, rfl, l, _, _, _, rfl, rfl, SqL.of (s3 _ _ (sm _ _ hl)), atI_nat (natV_at (at_ n nl2)), hR2⟩⟩
        · refine ⟨D, _, rfl, .inl ⟨SqL.of upd_same, fun T0 hT0 => ?_⟩⟩
          have s4 := (same_new (o := .lst (natV ((FW.row R k).map fun x => t.getD x 0))) hD).trans (same_new (o := .tup (natV ((FW.row R k).map fun x => t.getD x 0))) hT0)
          have hA4 := s4 _ _ hA
          refine ⟨a, _, _, rfl, rfl, hA4, ?_, ?_⟩
          · rw [List.length_map]
            exact line (by omega)
          -- signs.append
          have tk1 := tk_lst (o := .lst (cs.map V.ref ++ [.ref T0])) hA4
          have sm4 := (sm.trans s4).put ha (o := .lst (cs.map V.ref ++ [.ref T0]))
          have hB4 : upd (upd (upd H' D (.lst (natV ((FW.row R k).map fun x => t.getD x 0)))) T0 (.tup (natV ((FW.row R k).map fun x => t.getD x 0)))) a (.lst (cs.map V.ref ++ [.ref T0])) b = some (.lst (((FW.reps t k).map fun j => FW.sg R j).map V.int)) := by
            rw [upd_ne nab.symm]
            exact s4 _ _ hB
          refine ⟨_, rfl, .inl ⟨rfl, _, SqL.of hB4⟩, _, rfl, m, _, 1, _, rfl, rfl, .inl (.inl (sm4 _ _ hM2.top)), atI_nat (j := 1) rfl, _, rfl, sg, _, _, _, rfl, rfl, .inl (.inl (sm4 _ _ hM2.signs)), (by rw [Int.zero_add]; exact atI_nat (map_at (FW.sg_at okR hkn))), b, _, _, rfl, rfl, hB4, ?_, ?_⟩
          · rw [List.length_map, List.length_map]
            exact line (by omega)
          have tk2 := tk_lst (o := .lst (((FW.reps t k).map fun j => FW.sg R j).map V.int ++ [.int (FW.sg R k)])) hB4
          refine ⟨_, cs ++ [T0], rfl, sm4.put hb2, ?_, ?_, ?_⟩
          · rw [upd_ne nab, upd_same, List.map_append]
            rfl
          · rw [er, List.map_append]
            refine ((hRw.tk s4.tk).tk (tk1.trans tk2)).snoc ?_
            exact (tk1.trans tk2) _ _ upd_same
          · rw [upd_same, er, List.map_append, List.map_append]
            rfl
      · have ne : ¬ t.getD k 0 = (FW.reps t k).length := fun z => hc (decide_eq_true (by
          rw [List.length_map, csl, z]))
        have er : FW.reps t (k + 1) = FW.reps t k := by
          rw [show FW.reps t (k + 1) = if t.getD k 0 = (FW.reps t k).length then FW.reps t k ++ [k] else FW.reps t k from rfl, if_neg ne]
        rw [er]
        exact ⟨_, cs, rfl, sm, hA, hRw, hB⟩
    · rintro σ H' ⟨y, cs, rfl, sm, hA, hRw, hB⟩
      rw [en] at hRw hB
      -- return as_reached((tuple(rows), tuple(signs)))
      refine ⟨_, rfl, a, _, rfl, .inl ⟨SqL.of hA, fun T1 hT1 => ?_⟩⟩
      have s3 := same_new (o := .tup (cs.map V.ref)) hT1
      refine ⟨_, rfl, b, _, rfl, .inl ⟨SqL.of (s3 _ _ hB), fun T2 hT2 => ⟨by show 2 ≤ sizeLine; decide, fun p hp => ?_⟩⟩⟩
      have s4 := s3.trans (same_new (o := .tup (((FW.reps t t.length).map fun j => FW.sg R j).map V.int)) hT2)
      have s5 := s4.trans (same_new (o := .tup [.ref T1, .ref T2]) hp)
      have okQ := FW.quot_ok okR T
      have cl : (FW.quot R t).rows.length ≤ R.rows.length := by
        rw [FW.quot_rows]
        exact Nat.le_trans (FW.mx_le _ _) (Nat.le_of_eq tl)
      refine ⟨.ref p, FW.quot R t, L, rfl, ⟨p, T1, T2, cs, rfl, upd_same, ((same_new hT2).trans (same_new hp)) _ _ upd_same, hRw.tk s5.tk, same_new hp _ _ upd_same⟩, okQ, by omega, hL, fun H3 v3 s6 hM3 => ?_⟩
      refine q _ _ _ (s02.trans (sm.trans (s5.trans s6))) hM3 ⟨t, ?_, ?_⟩
      · rw [hR]
        exact T
      · rw [hR]
end
end FwP

namespace FwP
open PySem PySem.Spec PyProof.Rows L2 FwR
/-! ### _law_draw, _law_whole, _law_is_machine -/
def spDraw (K : PySem.W.Frag) : Sp := fun vs H Q _ => ∃ (a : Addr) (ns : List Int) (k : Int), vs = [.ref a, .int k] ∧ SqL K H a (ns.map V.int) ∧ ns.length ≤ 63 ∧ 0 ≤ k ∧ k ≤ 100000 ∧ ∀ d : Int, Q (.int d) H
theorem idx_ex {ns : List Int} {z : Int} (h0 : 0 ≤ z) (h1 : z < (ns.length : Int)) : ∃ n : Int, atI (ns.map V.int) z = some (.int n) := by
  have e : z = (z.toNat : Int) := (Int.toNat_of_nonneg h0).symm
  have l : z.toNat < ns.length := by omega
  exact ⟨ns[z.toNat], at_of e (map_at (List.getElem?_eq_getElem l))⟩
section
variable {P : Program} {w : World} {K : PySem.W.Frag} {mg : Str → Option Value} {base : Heap}
theorem ok_draw {f : Addr} {fd : FuncData} (F : Fun K "_law_draw" "_law_draw" sDraw f fd) (ml : mg "len" = none) (mr : mg "range" = none) : FnOk P w K mg base CX0 1 f fd ["_law_script", "_law_k"] (spDraw K) := by
  refine F.ok scDraw (fun vs H Q E h => ?_) (fun cdv A outer s H vs Q E hr h => ?_)
  · obtain ⟨a, ns, k, rfl, _⟩ := h
    rfl
  · obtain ⟨a, ns, k, rfl, hS, hlen, k0, k1, q⟩ := h
    refine ⟨_, pss_cons (ps_set (i := 2) scDraw.nd rfl (.inl rfl) (pe_op op_sub (pe_callB call_len_seq (by rfl) ml PySem.boot_len (pa_cons (pv 0) pa_nil)) pe_int))
      (pss_cons (ps_join (ps_if (PW.pt (pw_and (pt_cmpR op_gt (pv 2) pe_int (nomark _)) (pw_and1 (pt_cmpR op_eq (pe_op op_mod (pe_ix ix_list (pv 0) pe_int (fun _ _ => rfl)) pe_int) pe_int (nomark _)))))
          (pss_one (ps_ret (pe_op op_mod (pe_op op_shr (pe_ix ix_list (pv 0) (pe_op op_add pe_int (pe_op op_mod (pv 1) (pv 2))) (fun _ _ => rfl)) (pe_op op_mul pe_int (pe_op op_fdiv (pv 1) (pv 2)))) (pe_op op_shl pe_int pe_int)))) pss_nil))
      (pss_cons (ps_set (i := 3) scDraw.nd rfl (.inl rfl) pe_int)
      (pss_cons (ps_join (ps_if (pt_cmpR op_gt (pe_callB call_len_seq (by rfl) ml PySem.boot_len (pa_cons (pv 0) pa_nil)) pe_int (nomark _))
          (pss_one (ps_set (i := 3) scDraw.nd rfl (.inl rfl) (pe_ix ix_list (pv 0) (pe_op op_mod (pv 1) (pe_callB call_len_seq (by rfl) ml PySem.boot_len (pa_cons (pv 0) pa_nil))) (fun _ _ => rfl)))) pss_nil))
      (pss_cons (ps_set (i := 4) scDraw.nd rfl (.inl rfl) (pe_op op_mod (pe_op op_mul (pe_op op_add (pe_op op_add (pe_op op_mod (pv 3) pe_int) (pe_op op_mul pe_int (pv 1))) pe_int) pe_int) pe_int))
      (pss_cons (ps_set (i := 5) scDraw.nd rfl (.inl rfl) pe_int)
      (pss_cons (ps_for PassesOwn.never rfl (pi_range1 (by rfl) mr (pa_cons pe_int pa_nil)) (pg_name (i := 6) scDraw.nd rfl (.inl rfl))
          (pss_cons (ps_set (i := 4) scDraw.nd rfl (.inl rfl) (pe_op op_mod (pe_op op_add (pe_op op_add (pe_op op_mul (pv 4) pe_int) (pv 6)) pe_int) pe_int))
          (pss_one (ps_set (i := 5) scDraw.nd rfl (.inl rfl) (pe_op op_add (pe_op op_mul (pv 5) pe_int) (pv 4))))))
      (pss_one (ps_ret (pv 5))))))))), ?_⟩
    -- _law_others = len(_law_script) - 1
    refine ⟨_, rfl, a, _, rfl, .inl hS, _, _, rfl, rfl, ?_⟩
    rw [List.length_map]
    -- if there are others, and the first one is odd: so many figures of them
    refine ⟨fun σ' H' => σ' = [some (.ref a), some (.int k), some (.int ((ns.length : Int) - 1)), none, none, none, none] ∧ H' = H, ?_, ?_⟩
    · refine ⟨_, rfl, _, _, rfl, rfl, _, rfl, ?_⟩
      refine ite2 (fun hc => ?_) (fun hc => iteF ⟨rfl, rfl⟩)
      have hc := of_decide_eq_true hc
      obtain ⟨n0, hn0⟩ := idx_ex (ns := ns) (z := 0) (by decide) (by omega)
      have m0 := Int.emod_nonneg k (b := (ns.length : Int) - 1) (by omega)
      have m1 := Int.emod_lt_of_pos k (b := (ns.length : Int) - 1) hc
      obtain ⟨n1, hn1⟩ := idx_ex (ns := ns) (z := 1 + k % ((ns.length : Int) - 1)) (by omega) (by omega)
      refine ⟨_, rfl, a, _, _, _, rfl, rfl, hS, hn0, _, _, rfl, rfl, (by show (0 : Int) < 2; decide), rfl, _, rfl, ?_⟩
      refine ite2 (fun hc2 => ?_) (fun hc2 => ⟨rfl, rfl⟩)
      have dv : 0 ≤ k / ((ns.length : Int) - 1) := Int.ediv_nonneg k0 (by omega)
      refine ⟨_, rfl, _, rfl, _, rfl, _, _, rfl, rfl, hc, _, _, rfl, rfl, a, _, _, _, rfl, rfl, hS, hn1, _, rfl, _, rfl, _, _, rfl, rfl, ⟨hc, by omega⟩, _, _, rfl, rfl, .inl ⟨by decide, by decide⟩, _, _, rfl, rfl, (by show (0 : Int) ≤ 160 * _; omega), _, _, rfl, rfl, ⟨by decide, by decide, by decide⟩, _, _, rfl, rfl, ?_, q _⟩
      show (0 : Int) < 1 * 2 ^ (160 : Int).toNat
      decide +kernel
    rintro σ H' ⟨rfl, rfl⟩
    -- the cell
    refine ⟨fun σ' H'' => ∃ c : Int, σ' = [some (.ref a), some (.int k), some (.int ((ns.length : Int) - 1)), some (.int c), none, none, none] ∧ H'' = H', ?_, ?_⟩
    · refine ⟨_, rfl, a, _, rfl, .inl hS, _, _, rfl, rfl, _, rfl, ?_⟩
      rw [List.length_map]
      refine ite2 (fun hc => ?_) (fun hc => ⟨0, rfl, rfl⟩)
      have hc := of_decide_eq_true hc
      obtain ⟨n, hn⟩ := idx_ex (ns := ns) (z := k % (ns.length : Int)) (Int.emod_nonneg _ (by omega)) (Int.emod_lt_of_pos _ hc)
      refine ⟨_, rfl, _, rfl, _, rfl, a, _, rfl, .inl hS, _, _, rfl, rfl, ?_, a, _, _, .int n, rfl, rfl, hS, ?_, ?_⟩
      · rw [List.length_map]
        exact hc
      · rw [List.length_map]
        exact hn
      · exact ⟨n, rfl, rfl⟩
    rintro σ H'' ⟨c, rfl, rfl⟩
    refine ⟨_, rfl, _, _, rfl, rfl, (by show (0 : Int) < 1000000007; decide), _, rfl, _, _, rfl, rfl, .inl ⟨by decide, by decide⟩, _, _, rfl, rfl, _, _, rfl, rfl, _, _, rfl, rfl, .inr ⟨by decide, by decide⟩, _, _, rfl, rfl, (by show (0 : Int) < 2147483647; decide), ?_⟩
    refine ⟨5, rfl, by decide, by decide, for_range (lo := 0) (n := 5) (fun i σ H' => ∃ (h n : Int) (z : Option V), σ = [some (.ref a), some (.int k), some (.int ((ns.length : Int) - 1)), some (.int c), some (.int h), some (.int n), z] ∧ H' = H'') ⟨_, _, none, rfl, rfl⟩ ?_ ?_⟩
    · rintro i σ H3 hi ⟨h, n, z, rfl, rfl⟩
      refine ⟨_, rfl, _, _, rfl, rfl, .inr ⟨by decide, by decide⟩, _, rfl, _, _, rfl, rfl, _, _, rfl, rfl, _, _, rfl, rfl, (by show (0 : Int) < 2147483629; decide), ?_⟩
      refine ⟨_, rfl, _, _, rfl, rfl, .inr ⟨by decide, by decide⟩, _, rfl, _, _, rfl, rfl, ?_⟩
      exact ⟨_, _, _, rfl, rfl⟩
    · rintro σ H3 ⟨h, n, z, rfl, rfl⟩
      exact ⟨_, rfl, q n⟩
end
end FwP

namespace FwP
open PySem PySem.Spec PyProof.Rows L2 FwR
/-! ### _law_whole, _law_is_machine -/
def spWhole : Sp := fun vs H Q _ => ∃ i : Int, vs = [.int i] ∧ Q (.bl true) H
def spIsM : Sp := fun vs H Q _ => ∃ (v : V) (M : FW.Mac) (L : Nat), vs = [v] ∧ MacAt H v M ∧ FW.Ok M L ∧ M.rows.length ≤ 1000 ∧ L ≤ 1000 ∧ ∀ H', Same H H' → Q (.bl true) H'
abbrev nIsM : List Str := ["_law_found", "_law_row", "_law_room", "_law_sign"]
section
variable {P : Program} {w : World} {K : PySem.W.Frag} {mg : Str → Option Value} {base : Heap}
theorem ok_whole {f : Addr} {fd : FuncData} (F : Fun K "_law_whole" "_law_whole" sWhole f fd) (mi : mg "isinstance" = none) (mn : mg "int" = none) (mb : mg "bool" = none) : FnOk P w K mg base CX0 1 f fd ["_law_found"] spWhole := by
  refine F.ok scWhole (fun vs H Q E h => ?_) (fun cdv A outer s H vs Q E hr h => ?_)
  · obtain ⟨i, rfl, _⟩ := h
    rfl
  · obtain ⟨i, rfl, q⟩ := h
    refine ⟨_, pss_one (ps_ret (pe_and (pe_callB call_isi (by rfl) mi PyProof.Rows.boot_isinstance (pa_cons (pv 0) (pa_cons (pe_bltn (v := .ty "int") (by rfl) mn PyProof.Rows.boot_int rfl) pa_nil)))
      (pe_one (pe_not (pe_callB call_isi (by rfl) mi PyProof.Rows.boot_isinstance (pa_cons (pv 0) (pa_cons (pe_bltn (v := .ty "bool") (by rfl) mb (by decide +kernel) rfl) pa_nil))))))), ?_⟩
    refine ⟨_, rfl, .int i, .ty "int", .type "int", .type "int", true, rfl, .ty "int", .base (.int i), kit_ty (by decide +kernel), true, rfl, ?_⟩
    refine iteT ?_
    exact ⟨_, rfl, .int i, .ty "bool", .type "int", .type "bool", false, rfl, .ty "bool", .base (.int i), kit_ty (by decide +kernel), false, rfl, q⟩
theorem ok_isM {f fW : Addr} {fd fdW : FuncData} (F : Fun K "_law_is_machine" "_law_is_machine" sIsM f fd) (FW_ : Fun K "_law_whole" "_law_whole" sWhole fW fdW) (bW : Binds K fdW ["_law_found"] []) (gW : mg "_law_whole" = some (.ref fW))
    (mi : mg "isinstance" = none) (mn : mg "int" = none) (mb : mg "bool" = none) (ml : mg "len" = none) (mt : mg "tuple" = none) (ma : mg "all" = none) : FnOk P w K mg base CX0 2 f fd ["_law_found"] spIsM := by
  have GW : FnOk P w K mg base CX0 1 fW fdW ["_law_found"] spWhole := ok_whole FW_ mi mn mb
  refine F.ok scIsM (fun vs H Q E h => ?_) (fun cdv A outer s H vs Q E hr h => ?_)
  · obtain ⟨v, M, L, rfl, _⟩ := h
    rfl
  · obtain ⟨v, M, L, rfl, hM, ok, hn, hL, q⟩ := h
    obtain ⟨m, r, sg, bs, rfl, hM⟩ := hM
    refine ⟨_, pss_cons (ps_if (PW.pt (pw_or (pt_not (pt_val (pe_callB call_isi (by rfl) mi PyProof.Rows.boot_isinstance (pa_cons (pv 0) (pa_cons (pe_bltn (v := .ty "tuple") (by rfl) mt PyProof.Rows.boot_tuple rfl) pa_nil)))))
        (pw_or1 (pt_cmpR op_ne (pe_callB call_len_seq (by rfl) ml PySem.boot_len (pa_cons (pv 0) pa_nil)) pe_int (nomark _))))) (pss_one (ps_ret pe_bl)) pss_nil)
      (pss_cons (ps_if (PW.pt (pw_or (pt_not (pt_val (pe_callB call_isi (by rfl) mi PyProof.Rows.boot_isinstance (pa_cons (pe_ix ix_tup (pv 0) pe_int (fun _ _ => rfl)) (pa_cons (pe_bltn (v := .ty "tuple") (by rfl) mt PyProof.Rows.boot_tuple rfl) pa_nil)))))
        (pw_or1 (pt_not (pt_val (pe_callB call_isi (by rfl) mi PyProof.Rows.boot_isinstance (pa_cons (pe_ix ix_tup (pv 0) pe_int (fun _ _ => rfl)) (pa_cons (pe_bltn (v := .ty "tuple") (by rfl) mt PyProof.Rows.boot_tuple rfl) pa_nil)))))))) (pss_one (ps_ret pe_bl)) pss_nil)
      (pss_cons (ps_for PassesOwn.never rfl (pi_tup (pe_ix ix_tup (pv 0) pe_int (fun _ _ => rfl))) (pg_name (i := 1) scIsM.nd rfl (.inl rfl))
        (pss_one (ps_if (PW.pt (pw_or (pt_not (pt_val (pe_callB call_isi (by rfl) mi PyProof.Rows.boot_isinstance (pa_cons (pv 1) (pa_cons (pe_bltn (v := .ty "tuple") (by rfl) mt PyProof.Rows.boot_tuple rfl) pa_nil)))))
          (pw_or1 (pt_not (pt_val (pe_callB (cr_all rfl) (by rfl) ma PyProof.Rows.boot_all (pa_cons
            (pe_lc (own := [("_law_room", 2)]) (g := gName 2) (tt := tYes) rfl scIsM.nd (pi_tup (pv 1)) (blkOk_by (N := nIsM) (sc := defScope sIsM) (by decide +kernel)) (fun _ _ _ _ _ => pg_name (i := 2) scIsM.nd rfl (Or.inl rfl)) (fun _ _ _ _ _ => pts_nil)
              (fun _ _ _ _ _ => pe_call GW (hr.mono (by decide)) (by rfl) gW FW_.kp bW .nil pass0 (pa_cons (pv 2) pa_nil))) pa_nil))))))) (pss_one (ps_ret pe_bl)) pss_nil)))
      (pss_one (ps_ret (pe_callB (cr_all rfl) (by rfl) ma PyProof.Rows.boot_all (pa_cons
            (pe_lc (own := [("_law_sign", 3)]) (g := gName 3) (tt := tYes) rfl scIsM.nd (pi_tup (pe_ix ix_tup (pv 0) pe_int (fun _ _ => rfl))) (blkOk_by (N := nIsM) (sc := defScope sIsM) (by decide +kernel)) (fun _ _ _ _ _ => pg_name (i := 3) scIsM.nd rfl (Or.inl rfl)) (fun _ _ _ _ _ => pts_nil)
              (fun _ _ _ _ _ => pe_call GW (hr.mono (by decide)) (by rfl) gW FW_.kp bW .nil pass0 (pa_cons (pv 3) pa_nil))) pa_nil)))))), ?_⟩
    have tt : PySem.W.kitOne K (.type "tuple") (.type "tuple") = some true := kit_ty (by decide +kernel)
    have allT : ∀ n, (List.replicate n true).all id = true := fun n => by simp
    have rep : ∀ (n i : Nat) y, ((List.replicate n true).map V.bl)[i]? = some y → y = V.bl true := fun n i y e => by
      obtain ⟨c, hc, rfl⟩ := map_of e
      rw [List.getElem?_replicate] at hc
      split at hc
      · rw [← Option.some.inj hc]
      · cases hc
    refine ⟨_, rfl, .ref m, .ty "tuple", .type "tuple", .type "tuple", true, rfl, .ty "tuple", .base (.tup hM.top), tt, true, rfl, ?_⟩
    refine iteF ?_
    refine ⟨_, rfl, m, _, rfl, .inr (.inl (.inl hM.top)), rfl, _, rfl, ?_⟩
    refine iteF ?_
    refine ⟨_, rfl, m, _, 0, _, rfl, rfl, .inl (.inl hM.top), atI_nat (j := 0) rfl, .ref r, .ty "tuple", .type "tuple", .type "tuple", true, rfl, .ty "tuple", .base (.tup hM.rows), tt, true, rfl, ?_⟩
    refine iteF ?_
    refine ⟨_, rfl, m, _, 1, _, rfl, rfl, .inl (.inl hM.top), atI_nat (j := 1) rfl, .ref sg, .ty "tuple", .type "tuple", .type "tuple", true, rfl, .ty "tuple", .base (.tup hM.signs), tt, true, rfl, ?_⟩
    refine iteF ?_
    refine ⟨_, rfl, m, _, 0, _, rfl, rfl, .inl (.inl hM.top), atI_nat (j := 0) rfl, r, rfl, ⟨_, .inl (.inl hM.rows)⟩,
      for_tup (xs := bs.map V.ref) (fun i σ H' => ∃ y, σ = [some (.ref m), y, none, none] ∧ Same H H') ⟨none, rfl, Same.refl H⟩ (fun i σ H' _ ⟨_, _, sm⟩ => .inl (.inl (sm _ _ hM.rows))) ?_ ?_⟩
    · rintro i x σ H' hx ⟨y, rfl, sm⟩
      obtain ⟨b, hb, rfl⟩ := map_of hx
      have hB := sm _ _ (hM.each.2 i b hb)
      have bl := hM.each.1
      have il := at_lt hb
      have rl : (M.rows.getD i []).length = L := FW.row_len ok (by omega)
      refine ⟨_, rfl, .ref b, .ty "tuple", .type "tuple", .type "tuple", true, rfl, .ty "tuple", .base (.tup hB), tt, true, rfl, ?_⟩
      refine iteF ?_
      refine ⟨_, rfl, b, rfl, ⟨_, .inl (.inl hB)⟩, fun D hD => mapT (xs := natV (M.rows.getD i [])) ((List.replicate L true).map V.bl) ?_ ?_ hD (fun H3 s3 => .inl (.inl (s3 _ _ hB))) ?_ ?_⟩
      · rw [List.length_map, List.length_replicate, natV_len, rl]
      · rw [natV_len, rl]
        omega
      · intro j x z H3 hx2 hz s3 R S hR
        obtain ⟨n, _, rfl⟩ := natV_of hx2
        rw [rep L j z hz] at hR
        exact ⟨rfl, yesI ⟨_, rfl, _, rfl, hR⟩⟩
      · refine ⟨D, _, rfl, .inl (.inl upd_same), true, ?_, ?_⟩
        · rw [allT]
        · exact iteF ⟨_, rfl, sm.trans (same_new hD)⟩
    · rintro σ H' ⟨y, rfl, sm⟩
      have hS := sm _ _ hM.signs
      have sl : M.signs.length = M.rows.length := ok.same
      refine ⟨_, rfl, m, _, 1, _, rfl, rfl, .inl (.inl (sm _ _ hM.top)), atI_nat (j := 1) rfl, sg, rfl, ⟨_, .inl (.inl hS)⟩, fun D hD => mapT (xs := M.signs.map V.int) ((List.replicate M.signs.length true).map V.bl) ?_ ?_ hD (fun H3 s3 => .inl (.inl (s3 _ _ hS))) ?_ ?_⟩
      · rw [List.length_map, List.length_replicate, List.length_map]
      · rw [List.length_map]
        omega
      · intro j x z H3 hx2 hz s3 R S hR
        obtain ⟨n, _, rfl⟩ := map_of hx2
        rw [rep _ j z hz] at hR
        exact ⟨rfl, yesI ⟨_, rfl, _, rfl, hR⟩⟩
      · refine ⟨D, _, rfl, .inl (.inl upd_same), ?_⟩
        rw [allT]
        exact q _ (sm.trans (same_new hD))
end
end FwP

namespace FwP
open PySem PySem.Spec PyProof.Rows L2 FwR
/-! ### rows of lists, drawn; how they end: rows[0][0] = 0, two tuples -/
def RowOk (H0 : Hp) (a b : Addr) (n L : Nat) (H : Hp) (c : Addr) : Prop := H0 c = none ∧ c ≠ a ∧ c ≠ b ∧ ∃ r : List Nat, H c = some (.lst (natV r)) ∧ r.length = L ∧ ∀ x ∈ r, x < n
section
variable {H0 H : Hp} {a b c p : Addr} {n L : Nat} {o : HO}
theorem RowOk.new (h : RowOk H0 a b n L H c) (hp : H p = none) : RowOk H0 a b n L (upd H p o) c := by
  obtain ⟨h1, h2, h3, r, h4, h5⟩ := h
  exact ⟨h1, h2, h3, r, by rw [upd_ne (ne_of_none h4 hp)]; exact h4, h5⟩
theorem RowOk.keep (h : RowOk H0 a b n L H c) (hp : c ≠ p) : RowOk H0 a b n L (upd H p o) c := by
  obtain ⟨h1, h2, h3, r, h4, h5⟩ := h
  exact ⟨h1, h2, h3, r, by rw [upd_ne hp]; exact h4, h5⟩
theorem RowOk.atA (h : RowOk H0 a b n L H c) : RowOk H0 a b n L (upd H a o) c := h.keep h.2.1
theorem RowOk.atB (h : RowOk H0 a b n L H c) : RowOk H0 a b n L (upd H b o) c := h.keep h.2.2.1
theorem RowOk.same {H' : Hp} (h : RowOk H0 a b n L H c) (s : Same H H') : RowOk H0 a b n L H' c := by
  obtain ⟨h1, h2, h3, r, h4, h5⟩ := h
  exact ⟨h1, h2, h3, r, s _ _ h4, h5⟩
end
theorem choose_rows {α β : Type} {R : α → β → Prop} : ∀ {cs : List α}, (∀ c ∈ cs, ∃ r, R c r) → ∃ rs : List β, rs.length = cs.length ∧ ∀ (i : Nat) c r, cs[i]? = some c → rs[i]? = some r → R c r
  | [], _ => ⟨[], rfl, fun i c r e => by simp at e⟩
  | c :: cs, h => by
    obtain ⟨r, hr⟩ := h c List.mem_cons_self
    obtain ⟨rs, e, k⟩ := choose_rows (R := R) fun d hd => h d (List.mem_cons_of_mem _ hd)
    refine ⟨r :: rs, by rw [List.length_cons, List.length_cons, e], fun i d t h1 h2 => ?_⟩
    cases i with
    | zero =>
      have e1 : c = d := Option.some.inj h1
      have e2 : r = t := Option.some.inj h2
      subst e1 e2
      exact hr
    | succ i => exact k i d t (by simpa using h1) (by simpa using h2)
theorem natV_set (r : List Nat) (i n : Nat) : (natV r).set i (.int (n : Int)) = natV (r.set i n) := by
  unfold natV
  rw [List.map_set]
theorem ixN0 {n : Nat} (h : 0 < n) : ixN n 0 = some 0 := by
  unfold ixN
  rw [if_pos (Int.le_refl 0), if_pos (by omega)]
  rfl
theorem tail_read {K : PySem.W.Frag} {D : Ends} {σ : L2.St} {H0 H : Hp} {ia ib ir : Nat} {a b : Addr} {cs : List Addr} {xs : List Int} {n L : Nat}
    (hia : σ[ia]? = some (some (.ref a))) (hib : σ[ib]? = some (some (.ref b))) (hir : ir < σ.length) (n0 : 0 < n) (L0 : 0 < L) (n1 : n ≤ 1000)
    (sm : Same H0 H) (ha0 : H0 a = none) (hA : H a = some (.lst (cs.map V.ref))) (hcs : cs.length = n) (hrow : ∀ c ∈ cs, RowOk H0 a b n L H c) (hB : H b = some (.lst (xs.map V.int))) (hxs : xs.length = n)
    (hq : ∀ H' v M, Same H0 H' → MacAt H' v M → FW.Ok M L → M.rows.length = n → D.rt v H') :
    tSeq (tAsg (tC (.int 0)) (gSub (tOp (rIxL K) (tVar ia) (tC (.int 0))) (tC (.int 0)) rSetL))
      (tRet (tTup (tCons (tCB (rTupOf K) (tCons (tLc (iList K (tVar ia)) (gName ir) tYes (tCB (rTupOf K) (tCons (tVar ir) tNil)) [ir]) tNil)) (tCons (tCB (rTupOf K) (tCons (tVar ib) tNil)) tNil)))) D σ H := by
  have hc0 : cs[0]? = some cs[0] := List.getElem?_eq_getElem (by omega)
  generalize cs[0] = c0 at hc0
  obtain ⟨z0, ca, cb, r0, hr0, rl, rlow⟩ := hrow c0 (List.mem_of_getElem? hc0)
  -- rows[0][0] = 0
  refine ⟨_, hia, a, _, 0, .ref c0, rfl, rfl, SqL.of hA, atI_nat (j := 0) (map_at hc0), c0, _, 0, 0, rfl, rfl, hr0, ixN0 (by rw [natV_len]; omega), ?_⟩
  have e0 : (natV r0).set 0 (.int 0) = natV (r0.set 0 0) := natV_set r0 0 0
  rw [e0]
  have hA1 : upd H c0 (.lst (natV (r0.set 0 0))) a = some (.lst (cs.map V.ref)) := by
    rw [upd_ne (Ne.symm ca)]
    exact hA
  have hB1 : upd H c0 (.lst (natV (r0.set 0 0))) b = some (.lst (xs.map V.int)) := by
    rw [upd_ne (Ne.symm cb)]
    exact hB
  have s1 : Same H0 (upd H c0 (.lst (natV (r0.set 0 0)))) := sm.put z0
  have rows1 : ∀ c ∈ cs, RowOk H0 a b n L (upd H c0 (.lst (natV (r0.set 0 0)))) c := fun c hc => by
    by_cases e : c = c0
    · subst e
      refine ⟨z0, ca, cb, _, upd_same, by rw [List.length_set]; exact rl, fun x hx => ?_⟩
      rcases List.mem_or_eq_of_mem_set hx with h | h
      · exact rlow x h
      · rw [h]
        exact n0
    · exact (hrow c hc).keep e
  generalize upd H c0 (.lst (natV (r0.set 0 0))) = H1 at *
  obtain ⟨rs, rsl, hrs⟩ := choose_rows (R := fun c r => H1 c = some (.lst (natV r)) ∧ r.length = L ∧ ∀ x ∈ r, x < n) (cs := cs) fun c hc => (rows1 c hc).2.2.2
  -- the tuples
  refine ⟨_, hia, a, rfl, ⟨_, SqL.of hA1⟩, fun E hE => rowsL (xs := cs.map V.ref) rs (by rw [rsl, List.length_map]) (by rw [List.length_map]; omega) hE (fun H2 s2 => SqL.of (s2 _ _ hA1)) ?_ ?_⟩
  · intro i x r H2 hx hr s2 R S hR
    obtain ⟨c, hc, rfl⟩ := map_of hx
    obtain ⟨h1, _⟩ := hrs i c r hc hr
    have len : (wipe σ [ir]).length = σ.length := wipe_length _ _
    refine ⟨?_, yesI ⟨_, ?_, c, _, rfl, .inl ⟨SqL.of (s2 _ _ h1), fun T hT => hR _ T (same_new hT) upd_same⟩⟩⟩
    · show ((σ.set ir none).set ir (some (V.ref c))).set ir none = σ.set ir none
      rw [List.set_set, List.set_set]
    · rw [List.getElem?_set_self (by rw [len]; exact hir)]
  · intro H2 bs s2 hE2 hR2
    refine ⟨E, _, rfl, .inl ⟨SqL.of hE2, fun T hT => ?_⟩⟩
    have s3 : Same H2 (upd H2 T (.tup (bs.map V.ref))) := same_new hT
    refine ⟨_, hib, b, _, rfl, .inl ⟨SqL.of (s3 _ _ (s2 _ _ hB1)), fun T2 hT2 => ⟨by show 2 ≤ sizeLine; decide, fun p hp => ?_⟩⟩⟩
    have s4 := (same_new (o := .tup (xs.map V.int)) hT2).trans (same_new (o := .tup [.ref T, .ref T2]) hp)
    have sA := s1.trans (s2.trans (s3.trans s4))
    have good : ∀ r ∈ rs, r.length = L ∧ ∀ x ∈ r, x < rs.length := fun r hr => by
      obtain ⟨i, hi, e⟩ := List.mem_iff_getElem.mp hr
      have h2 : rs[i]? = some r := by rw [List.getElem?_eq_getElem hi, e]
      have h1 : cs[i]? = some (cs[i]'(by omega)) := List.getElem?_eq_getElem (by omega)
      obtain ⟨_, k1, k2⟩ := hrs i _ r h1 h2
      rw [rsl, hcs]
      exact ⟨k1, k2⟩
    refine hq _ _ ⟨rs, xs⟩ sA ⟨p, T, T2, bs, rfl, upd_same, s4 _ _ upd_same, hR2.tk (s3.trans s4).tk, same_new hp _ _ upd_same⟩ ⟨?_, ?_, fun r hr => (good r hr).1, fun r hr => (good r hr).2⟩ (by rw [rsl]; exact hcs)
    · show xs.length = rs.length
      omega
    · show 0 < rs.length
      omega
end FwP

namespace FwP
open PySem PySem.Spec PyProof.Rows L2 FwR
/-! ### _law_machine_by -/
def spMachBy (K : PySem.W.Frag) : Sp := fun vs H Q _ => ∃ (s : Addr) (ns : List Int) (at_ most : Int) (n L : Nat), vs = [.ref s, .int at_, .int (n : Int), .int (L : Int), .int most] ∧ SqL K H s (ns.map V.int) ∧ ns.length ≤ 63 ∧
  0 ≤ at_ ∧ at_ ≤ 1000 ∧ 0 < n ∧ n ≤ 100 ∧ 0 < L ∧ L ≤ 100 ∧ 0 < most ∧ most < 1000 ∧ ∀ H' v M, Same H H' → MacAt H' v M → FW.Ok M L → M.rows.length = n → Q v H'
abbrev nMachBy : List Str := ["_law_script", "_law_at", "_law_rooms", "_law_letters", "_law_most", "_law_rows", "_law_signs", "_law_k", "_law_number", "_law_row", "_law_j"]
/-- a remainder, as a number of a room -/
theorem mod_room {d : Int} {n : Nat} (h : 0 < n) : ∃ x : Nat, x < n ∧ d % (n : Int) = (x : Int) := by
  have m0 := Int.emod_nonneg d (b := (n : Int)) (by omega)
  have m1 := Int.emod_lt_of_pos d (b := (n : Int)) (by omega)
  exact ⟨(d % (n : Int)).toNat, by omega, by omega⟩
section
variable {P : Program} {w : World} {K : PySem.W.Frag} {mg : Str → Option Value} {base : Heap}
theorem ok_machBy {f fD : Addr} {fd fdD : FuncData} (F : Fun K "_law_machine_by" "_law_machine_by" sMachBy f fd) (FD : Fun K "_law_draw" "_law_draw" sDraw fD fdD) (bD : Binds K fdD ["_law_script", "_law_k"] []) (gD : mg "_law_draw" = some (.ref fD))
    (ml : mg "len" = none) (mt : mg "tuple" = none) (mr : mg "range" = none) : FnOk P w K mg base CX0 2 f fd ["_law_script", "_law_at", "_law_rooms", "_law_letters", "_law_most"] (spMachBy K) := by
  have GD : FnOk P w K mg base CX0 1 fD fdD ["_law_script", "_law_k"] (spDraw K) := ok_draw FD ml mr
  refine F.ok scMachBy (fun vs H Q E h => ?_) (fun cdv A outer s H vs Q E hr h => ?_)
  · obtain ⟨s, ns, at_, most, n, L, rfl, _⟩ := h
    rfl
  · obtain ⟨sc, ns, at_, most, n, L, rfl, hS, hns, a0, a1, n0, n1, L0, L1, o0, o1, q⟩ := h
    refine ⟨_, pss_cons (ps_set (i := 5) scMachBy.nd rfl (.inl rfl) (pe_lst pa_nil))
      (pss_cons (ps_set (i := 6) scMachBy.nd rfl (.inl rfl) (pe_lst pa_nil))
      (pss_cons (ps_for PassesOwn.never rfl (pi_range1 (by rfl) mr (pa_cons (pv 2) pa_nil)) (pg_name (i := 7) scMachBy.nd rfl (.inl rfl))
        (pss_cons (ps_set (i := 8) scMachBy.nd rfl (.inl rfl) (pe_call GD hr (by rfl) gD FD.kp bD .nil pass0 (pa_cons (pv 0) (pa_cons (pe_op op_add (pv 1) (pv 7)) pa_nil))))
        (pss_cons (ps_expr (pe_bm PySem.F.plainAttrs_list PySem.F.slot_list_append PySem.F.type_list_append mt_append (pv 6) (pa_cons (pe_op op_mod (pv 8) (pv 4)) pa_nil)))
        (pss_cons (ps_set (i := 8) scMachBy.nd rfl (.inl rfl) (pe_op op_fdiv (pv 8) (pv 4)))
        (pss_cons (ps_set (i := 9) scMachBy.nd rfl (.inl rfl) (pe_lst pa_nil))
        (pss_cons (ps_for PassesOwn.never rfl (pi_range1 (by rfl) mr (pa_cons (pv 3) pa_nil)) (pg_name (i := 10) scMachBy.nd rfl (.inl rfl))
          (pss_cons (ps_expr (pe_bm PySem.F.plainAttrs_list PySem.F.slot_list_append PySem.F.type_list_append mt_append (pv 9) (pa_cons (pe_op op_mod (pv 8) (pv 2)) pa_nil)))
          (pss_one (ps_set (i := 8) scMachBy.nd rfl (.inl rfl) (pe_op op_fdiv (pv 8) (pv 2))))))
        (pss_one (ps_expr (pe_bm PySem.F.plainAttrs_list PySem.F.slot_list_append PySem.F.type_list_append mt_append (pv 5) (pa_cons (pv 9) pa_nil))))))))))
      (pss_cons (ps_asg pe_int (pg_sub (pe_ix (ix_listK K (by rfl)) (pv 5) pe_int (fun _ _ => rfl)) pe_int set_list))
      (pss_one (ps_ret (pe_tup (pa_cons (pe_callTy (call_tupleK K (by rfl)) (by rfl) mt PyProof.Rows.boot_tuple (pa_cons
          (pe_lc (own := [("_law_row", 9)]) (g := gName 9) (tt := tYes) rfl scMachBy.nd (pi_listK K (by rfl) (pv 5)) (blkOk_by (N := nMachBy) (sc := defScope sMachBy) (by decide +kernel)) (fun _ _ _ _ _ => pg_name (i := 9) scMachBy.nd rfl (Or.inl rfl)) (fun _ _ _ _ _ => pts_nil)
            (fun _ _ _ _ _ => pe_callTy (call_tupleK K (by rfl)) (by rfl) mt PyProof.Rows.boot_tuple (pa_cons (pv 9) pa_nil))) pa_nil))
        (pa_cons (pe_callTy (call_tupleK K (by rfl)) (by rfl) mt PyProof.Rows.boot_tuple (pa_cons (pv 6) pa_nil)) pa_nil)))))))), ?_⟩
    refine ⟨Nat.zero_le _, fun a ha => ?_⟩
    refine ⟨Nat.zero_le _, fun b hb => ?_⟩
    have nab : a ≠ b := fun e => by
      rw [← e, upd_same] at hb
      cases hb
    have hb0 : H b = none := by
      rw [upd_ne nab.symm] at hb
      exact hb
    have en : ((n : Nat) : Int).toNat = n := rfl
    refine ⟨_, rfl, _, rfl, by omega, by omega, for_range (lo := 0) (n := n)
      (fun k σ H' => ∃ (y7 y8 y9 y10 : Option V) (cs : List Addr) (xs : List Int), σ = [some (.ref sc), some (.int at_), some (.int (n : Int)), some (.int (L : Int)), some (.int most), some (.ref a), some (.ref b), y7, y8, y9, y10] ∧ Same H H' ∧
        H' a = some (.lst (cs.map V.ref)) ∧ cs.length = k ∧ (∀ c ∈ cs, RowOk H a b n L H' c) ∧ H' b = some (.lst (xs.map V.int)) ∧ xs.length = k)
      ⟨none, none, none, none, [], [], rfl, (same_new ha).trans (same_new hb), by rw [upd_ne nab, upd_same]; rfl, rfl, (fun c hc => nomatch hc), by rw [upd_same]; rfl, rfl⟩ ?_ ?_⟩
    · rintro k σ H1 hk ⟨y7, y8, y9, y10, cs, xs, rfl, sm, hA, cl, hrow, hB, xl⟩
      -- number = draw(script, at + k)
      refine ⟨_, rfl, _, rfl, _, rfl, _, _, rfl, rfl, sc, ns, _, rfl, sm.seq hS, hns, by omega, by omega, fun d => ?_⟩
      -- signs.append(number % most)
      refine ⟨_, rfl, .inl ⟨rfl, _, SqL.of hB⟩, _, rfl, _, rfl, _, _, rfl, rfl, o0, b, _, _, rfl, rfl, hB, ?_, ?_⟩
      · rw [List.length_map]
        exact line (by omega)
      have sm2 := sm.put hb0 (o := .lst (xs.map V.int ++ [.int (d % most)]))
      have hA2 : upd H1 b (.lst (xs.map V.int ++ [.int (d % most)])) a = some (.lst (cs.map V.ref)) := (upd_ne nab).trans hA
      have hB2 : upd H1 b (.lst (xs.map V.int ++ [.int (d % most)])) b = some (.lst ((xs ++ [d % most]).map V.int)) := by
        rw [upd_same, List.map_append]
        rfl
      have hrow2 : ∀ c ∈ cs, RowOk H a b n L (upd H1 b (.lst (xs.map V.int ++ [.int (d % most)]))) c := fun c hc => (hrow c hc).atB
      generalize upd H1 b (.lst (xs.map V.int ++ [.int (d % most)])) = H2 at *
      -- number = number // most; row = []
      refine ⟨_, rfl, _, rfl, _, _, rfl, rfl, ⟨o0, by omega⟩, ?_⟩
      refine ⟨Nat.zero_le _, fun c hc => ?_⟩
      have nca : a ≠ c := ne_of_none hA2 hc
      have ncb : b ≠ c := ne_of_none hB2 hc
      refine ⟨_, rfl, _, rfl, by omega, by omega, for_range (lo := 0) (n := L)
        (fun j σ H' => ∃ (num : Int) (y10 : Option V) (r : List Nat), σ = [some (.ref sc), some (.int at_), some (.int (n : Int)), some (.int (L : Int)), some (.int most), some (.ref a), some (.ref b), some (.int (0 + (k : Int))), some (.int num), some (.ref c), y10] ∧
          H' = upd H2 c (.lst (natV r)) ∧ r.length = j ∧ ∀ x ∈ r, x < n)
        ⟨_, _, [], rfl, rfl, rfl, (fun x hx => nomatch hx)⟩ ?_ ?_⟩
      · rintro j σ H3 hj ⟨num, z10, r, rfl, rfl, rl, rlow⟩
        obtain ⟨x, xn, ex⟩ := mod_room (d := num) n0
        refine ⟨_, rfl, .inl ⟨rfl, _, SqL.of upd_same⟩, _, rfl, _, rfl, _, _, rfl, rfl, by omega, c, _, _, rfl, rfl, upd_same, ?_, ?_⟩
        · rw [natV_len]
          exact line (by omega)
        · refine ⟨_, rfl, _, rfl, _, _, rfl, rfl, ⟨by omega, by omega⟩, ?_⟩
          refine ⟨_, _, r ++ [x], rfl, ?_, by rw [List.length_append, rl]; rfl, fun y hy => ?_⟩
          · rw [upd_upd]
            show upd H2 c (.lst (natV r ++ [.int (num % (n : Int))])) = _
            rw [ex, natV_snoc]
          · rcases List.mem_append.mp hy with h | h
            · exact rlow y h
            · rw [List.mem_singleton] at h
              omega
      · rintro σ H3 ⟨num, z10, r, rfl, rfl, rl, rlow⟩
        -- rows.append(row)
        have hA3 : upd H2 c (.lst (natV r)) a = some (.lst (cs.map V.ref)) := (upd_ne nca).trans hA2
        have hB3 : upd H2 c (.lst (natV r)) b = some (.lst ((xs ++ [d % most]).map V.int)) := (upd_ne ncb).trans hB2
        refine ⟨_, rfl, .inl ⟨rfl, _, SqL.of hA3⟩, _, rfl, a, _, _, rfl, rfl, hA3, ?_, ?_⟩
        · rw [List.length_map]
          exact line (by omega)
        · refine ⟨_, _, _, _, cs ++ [c], xs ++ [d % most], rfl, (sm2.put (sm2.free hc)).put ha, ?_, ?_, fun e he => ?_, ?_, ?_⟩
          · rw [upd_same, List.map_append]
            rfl
          · rw [List.length_append, cl]
            rfl
          · rcases List.mem_append.mp he with h | h
            · exact ((hrow2 e h).new hc).atA
            · rw [List.mem_singleton] at h
              subst h
              exact ⟨sm2.free hc, Ne.symm nca, Ne.symm ncb, r, by rw [upd_ne (Ne.symm nca), upd_same], rl, rlow⟩
          · rw [upd_ne nab.symm]
            exact hB3
          · rw [List.length_append, xl]
            rfl
    · rintro σ H1 ⟨y7, y8, y9, y10, cs, xs, rfl, sm, hA, cl, hrow, hB, xl⟩
      exact tail_read (ia := 5) (ib := 6) (ir := 9) rfl rfl (by simp) n0 L0 (by omega) sm ha hA cl hrow hB xl q
end
end FwP

namespace FwP
open PySem PySem.Spec PyProof.Rows L2 FwR
/-! ### _law_copied -/
def spCopied (K : PySem.W.Frag) : Sp := fun vs H Q _ => ∃ (s : Addr) (ns : List Int) (v : V) (M : FW.Mac) (many L : Nat), vs = [.ref s, v, .int (many : Int)] ∧ SqL K H s (ns.map V.int) ∧ ns.length ≤ 63 ∧
  MacAt H v M ∧ FW.Ok M L ∧ M.rows.length ≤ 30 ∧ 0 < L ∧ L ≤ 100 ∧ 0 < many ∧ many ≤ 10 ∧ ∀ H' v' M', Same H H' → MacAt H' v' M' → FW.Ok M' L → M'.rows.length = M.rows.length * many → Q v' H'
abbrev nCopied : List Str := ["_law_script", "_law_machine", "_law_many", "_law_rooms", "_law_rows", "_law_signs", "_law_j", "_law_k", "_law_number", "_law_row", "_law_room"]
section
variable {P : Program} {w : World} {K : PySem.W.Frag} {mg : Str → Option Value} {base : Heap}
theorem ok_copied {f fD : Addr} {fd fdD : FuncData} (F : Fun K "_law_copied" "_law_copied" sCopied f fd) (FD : Fun K "_law_draw" "_law_draw" sDraw fD fdD) (bD : Binds K fdD ["_law_script", "_law_k"] []) (gD : mg "_law_draw" = some (.ref fD))
    (ml : mg "len" = none) (mt : mg "tuple" = none) (mr : mg "range" = none) : FnOk P w K mg base CX0 2 f fd ["_law_script", "_law_machine", "_law_many"] (spCopied K) := by
  have GD : FnOk P w K mg base CX0 1 fD fdD ["_law_script", "_law_k"] (spDraw K) := ok_draw FD ml mr
  refine F.ok scCopied (fun vs H Q E h => ?_) (fun cdv A outer s H vs Q E hr h => ?_)
  · obtain ⟨s, ns, v, M, many, L, rfl, _⟩ := h
    rfl
  · obtain ⟨sc, ns, v, M, many, L, rfl, hS, hns, hM, ok, n1, L0, L1, m0, m1, q⟩ := h
    obtain ⟨m, r, sg, bs, rfl, hM⟩ := hM
    refine ⟨_, pss_cons (ps_set (i := 3) scCopied.nd rfl (.inl rfl) (pe_callB call_len_seq (by rfl) ml PySem.boot_len (pa_cons (pe_ix ix_tup (pv 1) pe_int (fun _ _ => rfl)) pa_nil)))
      (pss_cons (ps_set (i := 4) scCopied.nd rfl (.inl rfl) (pe_lst pa_nil))
      (pss_cons (ps_set (i := 5) scCopied.nd rfl (.inl rfl) (pe_lst pa_nil))
      (pss_cons (ps_for PassesOwn.never rfl (pi_range1 (by rfl) mr (pa_cons (pv 2) pa_nil)) (pg_name (i := 6) scCopied.nd rfl (.inl rfl))
        (pss_one (ps_for PassesOwn.never rfl (pi_range1 (by rfl) mr (pa_cons (pv 3) pa_nil)) (pg_name (i := 7) scCopied.nd rfl (.inl rfl))
          (pss_cons (ps_set (i := 8) scCopied.nd rfl (.inl rfl) (pe_call GD hr (by rfl) gD FD.kp bD .nil pass0 (pa_cons (pv 0) (pa_cons (pe_op op_add (pe_op op_add pe_int (pe_op op_mul (pv 3) (pv 6))) (pv 7)) pa_nil))))
          (pss_cons (ps_set (i := 9) scCopied.nd rfl (.inl rfl) (pe_lst pa_nil))
          (pss_cons (ps_for PassesOwn.never rfl (pi_tup (pe_ix ix_tup (pe_ix ix_tup (pv 1) pe_int (fun _ _ => rfl)) (pv 7) (fun _ _ => rfl))) (pg_name (i := 10) scCopied.nd rfl (.inl rfl))
            (pss_cons (ps_expr (pe_bm PySem.F.plainAttrs_list PySem.F.slot_list_append PySem.F.type_list_append mt_append (pv 9) (pa_cons (pe_op op_add (pv 10) (pe_op op_mul (pv 3) (pe_op op_mod (pv 8) (pv 2)))) pa_nil)))
            (pss_one (ps_set (i := 8) scCopied.nd rfl (.inl rfl) (pe_op op_fdiv (pv 8) (pv 2))))))
          (pss_cons (ps_expr (pe_bm PySem.F.plainAttrs_list PySem.F.slot_list_append PySem.F.type_list_append mt_append (pv 4) (pa_cons (pv 9) pa_nil)))
          (pss_one (ps_expr (pe_bm PySem.F.plainAttrs_list PySem.F.slot_list_append PySem.F.type_list_append mt_append (pv 5) (pa_cons (pe_ix ix_tup (pe_ix ix_tup (pv 1) pe_int (fun _ _ => rfl)) (pv 7) (fun _ _ => rfl)) pa_nil)))))))))))
      (pss_cons (ps_asg pe_int (pg_sub (pe_ix (ix_listK K (by rfl)) (pv 4) pe_int (fun _ _ => rfl)) pe_int set_list))
      (pss_one (ps_ret (pe_tup (pa_cons (pe_callTy (call_tupleK K (by rfl)) (by rfl) mt PyProof.Rows.boot_tuple (pa_cons
          (pe_lc (own := [("_law_row", 9)]) (g := gName 9) (tt := tYes) rfl scCopied.nd (pi_listK K (by rfl) (pv 4)) (blkOk_by (N := nCopied) (sc := defScope sCopied) (by decide +kernel)) (fun _ _ _ _ _ => pg_name (i := 9) scCopied.nd rfl (Or.inl rfl)) (fun _ _ _ _ _ => pts_nil)
            (fun _ _ _ _ _ => pe_callTy (call_tupleK K (by rfl)) (by rfl) mt PyProof.Rows.boot_tuple (pa_cons (pv 9) pa_nil))) pa_nil))
        (pa_cons (pe_callTy (call_tupleK K (by rfl)) (by rfl) mt PyProof.Rows.boot_tuple (pa_cons (pv 5) pa_nil)) pa_nil))))))))), ?_⟩
    have snl : M.signs.length = M.rows.length := ok.same
    have n0 := ok.pos
    -- rooms = len(machine[1])
    refine ⟨_, rfl, m, _, 1, _, rfl, rfl, .inl (.inl hM.top), atI_nat (j := 1) rfl, sg, _, rfl, .inr (.inl (.inl hM.signs)), ?_⟩
    rw [List.length_map, snl]
    generalize hN : M.rows.length = n at *
    refine ⟨Nat.zero_le _, fun a ha => ?_⟩
    refine ⟨Nat.zero_le _, fun b hb => ?_⟩
    have nab : a ≠ b := fun e => by
      rw [← e, upd_same] at hb
      cases hb
    have hb0 : H b = none := by
      rw [upd_ne nab.symm] at hb
      exact hb
    refine ⟨_, rfl, _, rfl, by omega, by omega, for_range (lo := 0) (n := many)
      (fun j σ H' => ∃ (y6 y7 y8 y9 y10 : Option V) (cs : List Addr) (xs : List Int), σ = [some (.ref sc), some (.ref m), some (.int (many : Int)), some (.int (n : Int)), some (.ref a), some (.ref b), y6, y7, y8, y9, y10] ∧ Same H H' ∧
        H' a = some (.lst (cs.map V.ref)) ∧ cs.length = n * j ∧ (∀ c ∈ cs, RowOk H a b (n * many) L H' c) ∧ H' b = some (.lst (xs.map V.int)) ∧ xs.length = n * j)
      ⟨none, none, none, none, none, [], [], rfl, (same_new ha).trans (same_new hb), by rw [upd_ne nab, upd_same]; rfl, rfl, (fun c hc => nomatch hc), by rw [upd_same]; rfl, rfl⟩ ?_ ?_⟩
    · rintro j σ H1 hj ⟨y6, y7, y8, y9, y10, cs, xs, rfl, sm, hA, cl, hrow, hB, xl⟩
      have bj : n * j ≤ n * many := Nat.mul_le_mul_left _ (Nat.le_of_lt hj)
      have bm : n * many ≤ 30 * 10 := Nat.mul_le_mul n1 m1
      have bs1 : n * (j + 1) = n * j + n := Nat.mul_succ _ _
      refine ⟨_, rfl, _, rfl, by omega, by omega, for_range (lo := 0) (n := n)
        (fun k σ H' => ∃ (y7 y8 y9 y10 : Option V) (cs : List Addr) (xs : List Int), σ = [some (.ref sc), some (.ref m), some (.int (many : Int)), some (.int (n : Int)), some (.ref a), some (.ref b), some (.int (0 + (j : Int))), y7, y8, y9, y10] ∧ Same H H' ∧
          H' a = some (.lst (cs.map V.ref)) ∧ cs.length = n * j + k ∧ (∀ c ∈ cs, RowOk H a b (n * many) L H' c) ∧ H' b = some (.lst (xs.map V.int)) ∧ xs.length = n * j + k)
        ⟨_, _, _, _, cs, xs, rfl, sm, hA, cl, hrow, hB, xl⟩ ?_ ?_⟩
      · rintro k σ H1 hk ⟨y7, y8, y9, y10, cs, xs, rfl, sm, hA, cl, hrow, hB, xl⟩
        have enj : (n : Int) * (0 + (j : Int)) = ((n * j : Nat) : Int) := by
          rw [Int.zero_add, Int.natCast_mul]
        -- number = draw(..)
        refine ⟨_, rfl, _, rfl, _, rfl, _, _, rfl, rfl, .inl ⟨by omega, by omega⟩, _, _, rfl, rfl, _, rfl, _, _, rfl, rfl, sc, ns, _, rfl, sm.seq hS, hns, ?_, ?_, fun d => ?_⟩
        · show (0 : Int) ≤ 20 + (n : Int) * (0 + (j : Int)) + (0 + (k : Int))
          rw [enj]
          omega
        · show 20 + (n : Int) * (0 + (j : Int)) + (0 + (k : Int)) ≤ 100000
          rw [enj]
          omega
        -- row = []
        refine ⟨Nat.zero_le _, fun c hc => ?_⟩
        have nca : a ≠ c := ne_of_none hA hc
        have ncb : b ≠ c := ne_of_none hB hc
        have hk' : k < M.rows.length := by omega
        obtain ⟨rb, hrb, hRB⟩ := hM.bs_at hk'
        have rowl := FW.row_len ok hk'
        have scr : ∀ r, Same H (upd H1 c (.lst (natV r))) := fun r => sm.put (sm.free hc)
        refine ⟨_, rfl, m, _, 0, _, rfl, rfl, .inl (.inl (scr [] _ _ hM.top)), atI_nat (j := 0) rfl, _, rfl, r, _, _, _, rfl, rfl, .inl (.inl (scr [] _ _ hM.rows)), (by rw [Int.zero_add]; exact atI_nat (map_at hrb)), rb, rfl, ⟨_, .inl (.inl (scr [] _ _ hRB))⟩,
          for_tup (xs := natV (FW.row M k)) (fun i σ H' => ∃ (num : Int) (y10 : Option V) (rr : List Nat), σ = [some (.ref sc), some (.ref m), some (.int (many : Int)), some (.int (n : Int)), some (.ref a), some (.ref b), some (.int (0 + (j : Int))), some (.int (0 + (k : Int))), some (.int num), some (.ref c), y10] ∧
            H' = upd H1 c (.lst (natV rr)) ∧ rr.length = i ∧ ∀ x ∈ rr, x < n * many)
          ⟨_, _, [], rfl, rfl, rfl, (fun x hx => nomatch hx)⟩ (fun i σ H' _ ⟨_, _, rr, _, e, _⟩ => by subst e; exact .inl (.inl (scr rr _ _ hRB))) ?_ ?_⟩
        · rintro i x σ H3 hx ⟨num, z10, rr, rfl, rfl, rl, rlow⟩
          obtain ⟨t, ht, rfl⟩ := natV_of hx
          have tl := FW.row_low ok hk' (List.mem_of_getElem? ht)
          have il := at_lt ht
          obtain ⟨y, yn, ey⟩ := mod_room (d := num) m0
          have low : t + n * y < n * many := by
            have z : n * (y + 1) ≤ n * many := Nat.mul_le_mul_left _ yn
            have z2 : n * (y + 1) = n * y + n := Nat.mul_succ _ _
            omega
          have ev : (t : Int) + (n : Int) * (num % (many : Int)) = ((t + n * y : Nat) : Int) := by
            rw [ey, Int.natCast_add, Int.natCast_mul]
          refine ⟨_, rfl, .inl ⟨rfl, _, SqL.of upd_same⟩, _, rfl, _, rfl, _, rfl, _, rfl, _, _, rfl, rfl, by omega, _, _, rfl, rfl, .inl ⟨by omega, by omega⟩, _, _, rfl, rfl, c, _, _, rfl, rfl, upd_same, ?_, ?_⟩
          · rw [natV_len]
            exact line (by omega)
          · refine ⟨_, rfl, _, rfl, _, _, rfl, rfl, ⟨by omega, by omega⟩, ?_⟩
            refine ⟨_, _, rr ++ [t + n * y], rfl, ?_, by rw [List.length_append, rl]; rfl, fun z hz => ?_⟩
            · rw [upd_upd]
              show upd H1 c (.lst (natV rr ++ [.int ((t : Int) + (n : Int) * (num % (many : Int)))])) = _
              rw [ev, natV_snoc]
            · rcases List.mem_append.mp hz with h | h
              · exact rlow z h
              · rw [List.mem_singleton] at h
                omega
        · rintro σ H3 ⟨num, z10, rr, rfl, rfl, rl, rlow⟩
          rw [natV_len, rowl] at rl
          -- rows.append(row)
          have hA3 : upd H1 c (.lst (natV rr)) a = some (.lst (cs.map V.ref)) := (upd_ne nca).trans hA
          have hB3 : upd H1 c (.lst (natV rr)) b = some (.lst (xs.map V.int)) := (upd_ne ncb).trans hB
          refine ⟨_, rfl, .inl ⟨rfl, _, SqL.of hA3⟩, _, rfl, a, _, _, rfl, rfl, hA3, ?_, ?_⟩
          · rw [List.length_map]
            exact line (by omega)
          have s4 : Same H (upd (upd H1 c (.lst (natV rr))) a (.lst (cs.map V.ref ++ [.ref c]))) := (scr rr).put ha
          have hB4 : upd (upd H1 c (.lst (natV rr))) a (.lst (cs.map V.ref ++ [.ref c])) b = some (.lst (xs.map V.int)) := (upd_ne nab.symm).trans hB3
          -- signs.append(machine[1][k])
          refine ⟨_, rfl, .inl ⟨rfl, _, SqL.of hB4⟩, _, rfl, m, _, 1, _, rfl, rfl, .inl (.inl (s4 _ _ hM.top)), atI_nat (j := 1) rfl, _, rfl, sg, _, _, _, rfl, rfl, .inl (.inl (s4 _ _ hM.signs)), (by rw [Int.zero_add]; exact atI_nat (map_at (FW.sg_at ok hk'))), b, _, _, rfl, rfl, hB4, ?_, ?_⟩
          · rw [List.length_map]
            exact line (by omega)
          · refine ⟨_, _, _, _, cs ++ [c], xs ++ [FW.sg M k], rfl, s4.put hb0, ?_, ?_, fun e he => ?_, ?_, ?_⟩
            · rw [upd_ne nab, upd_same, List.map_append]
              rfl
            · rw [List.length_append, cl]
              rfl
            · rcases List.mem_append.mp he with h | h
              · exact (((hrow e h).new hc).atA).atB
              · rw [List.mem_singleton] at h
                subst h
                exact ⟨sm.free hc, Ne.symm nca, Ne.symm ncb, rr, by rw [upd_ne (Ne.symm ncb), upd_ne (Ne.symm nca), upd_same], rl, rlow⟩
            · rw [upd_same, List.map_append]
              rfl
            · rw [List.length_append, xl]
              rfl
      · rintro σ H2 ⟨y7, y8, y9, y10, cs, xs, rfl, sm, hA, cl, hrow, hB, xl⟩
        exact ⟨_, _, _, _, _, cs, xs, rfl, sm, hA, by rw [bs1]; exact cl, hrow, hB, by rw [bs1]; exact xl⟩
    · rintro σ H1 ⟨y6, y7, y8, y9, y10, cs, xs, rfl, sm, hA, cl, hrow, hB, xl⟩
      have pos : 0 < n * many := Nat.mul_pos n0 m0
      have bm : n * many ≤ 30 * 10 := Nat.mul_le_mul n1 m1
      exact tail_read (ia := 4) (ib := 5) (ir := 9) rfl rfl (by simp) pos L0 (by omega) sm ha hA cl hrow hB xl q
end
end FwP

namespace FwP
open PySem PySem.Spec PyProof.Rows L2 FwR
/-! ### _law_with_more -/
def spMore (K : PySem.W.Frag) : Sp := fun vs H Q _ => ∃ (s : Addr) (ns : List Int) (v : V) (M : FW.Mac) (many L : Nat), vs = [.ref s, v, .int (many : Int)] ∧ SqL K H s (ns.map V.int) ∧ ns.length ≤ 63 ∧
  MacAt H v M ∧ FW.Ok M L ∧ M.rows.length ≤ 300 ∧ L ≤ 100 ∧ many ≤ 10 ∧ ∀ H' v' M', Same H H' → MacAt H' v' M' → FW.Ok M' L → M'.rows.length = M.rows.length + many → Q v' H'
section
variable {P : Program} {w : World} {K : PySem.W.Frag} {mg : Str → Option Value} {base : Heap}
theorem ok_more {f fD : Addr} {fd fdD : FuncData} (F : Fun K "_law_with_more" "_law_with_more" sMore f fd) (FD : Fun K "_law_draw" "_law_draw" sDraw fD fdD) (bD : Binds K fdD ["_law_script", "_law_k"] []) (gD : mg "_law_draw" = some (.ref fD))
    (ml : mg "len" = none) (mt : mg "tuple" = none) (mr : mg "range" = none) (mlst : mg "list" = none) (mi : mg "int" = none) : FnOk P w K mg base CX0 2 f fd ["_law_script", "_law_machine", "_law_many"] (spMore K) := by
  have GD : FnOk P w K mg base CX0 1 fD fdD ["_law_script", "_law_k"] (spDraw K) := ok_draw FD ml mr
  refine F.ok scMore (fun vs H Q E h => ?_) (fun cdv A outer s H vs Q E hr h => ?_)
  · obtain ⟨s, ns, v, M, many, L, rfl, _⟩ := h
    rfl
  · obtain ⟨sc, ns, v, M, many, L, rfl, hS, hns, hM, ok, n1, L1, m1, q⟩ := h
    obtain ⟨m, r, sg, bs, rfl, hM⟩ := hM
    refine ⟨_, pss_cons (ps_set (i := 3) scMore.nd rfl (.inl rfl) (pe_callTy call_list_of (by rfl) mlst PyProof.Rows.boot_list (pa_cons (pe_ix ix_tup (pv 1) pe_int (fun _ _ => rfl)) pa_nil)))
      (pss_cons (ps_set (i := 4) scMore.nd rfl (.inl rfl) (pe_callTy call_list_of (by rfl) mlst PyProof.Rows.boot_list (pa_cons (pe_ix ix_tup (pv 1) pe_int (fun _ _ => rfl)) pa_nil)))
      (pss_cons (ps_set (i := 5) scMore.nd rfl (.inl rfl) (pe_op op_add (pe_callB call_len_seq (by rfl) ml PySem.boot_len (pa_cons (pv 4) pa_nil)) (pv 2)))
      (pss_cons (ps_for PassesOwn.never rfl (pi_range1 (by rfl) mr (pa_cons (pv 2) pa_nil)) (pg_name (i := 6) scMore.nd rfl (.inl rfl))
        (pss_cons (ps_set (i := 7) scMore.nd rfl (.inl rfl) (pe_call GD hr (by rfl) gD FD.kp bD .nil pass0 (pa_cons (pv 0) (pa_cons (pe_op op_add pe_int (pv 6)) pa_nil))))
        (pss_cons (ps_expr (pe_bm PySem.F.plainAttrs_list PySem.F.slot_list_append PySem.F.type_list_append mt_append (pv 4) (pa_cons (pe_op op_mod (pv 7) pe_int) pa_nil)))
        (pss_cons (ps_set (i := 8) scMore.nd rfl (.inl rfl) (pe_lst pa_nil))
        (pss_cons (ps_for PassesOwn.never rfl (pi_range1 (by rfl) mr (pa_cons (pe_callB call_len_seq (by rfl) ml PySem.boot_len (pa_cons (pe_ix ix_list (pv 3) pe_int (fun _ _ => rfl)) pa_nil)) pa_nil)) (pg_name (i := 9) scMore.nd rfl (.inl rfl))
          (pss_cons (ps_set (i := 7) scMore.nd rfl (.inl rfl) (pe_op op_fdiv (pv 7) (pe_ix ix_list (pe_lst (pa_cons pe_int (pa_cons (pv 5) pa_nil))) (pe_callTy call_int1 (by rfl) mi PyProof.Rows.boot_int (pa_cons (pe_cmpR op_gt (pv 9) pe_int (nomark _)) pa_nil)) (fun _ _ => rfl))))
          (pss_one (ps_expr (pe_bm PySem.F.plainAttrs_list PySem.F.slot_list_append PySem.F.type_list_append mt_append (pv 8) (pa_cons (pe_op op_mod (pv 7) (pv 5)) pa_nil))))))
        (pss_one (ps_expr (pe_bm PySem.F.plainAttrs_list PySem.F.slot_list_append PySem.F.type_list_append mt_append (pv 3) (pa_cons (pe_callTy call_tuple_of (by rfl) mt PyProof.Rows.boot_tuple (pa_cons (pv 8) pa_nil)) pa_nil)))))))))
      (pss_one (ps_ret (pe_tup (pa_cons (pe_callTy call_tuple_of (by rfl) mt PyProof.Rows.boot_tuple (pa_cons (pv 3) pa_nil)) (pa_cons (pe_callTy call_tuple_of (by rfl) mt PyProof.Rows.boot_tuple (pa_cons (pv 4) pa_nil)) pa_nil)))))))), ?_⟩
    have snl : M.signs.length = M.rows.length := ok.same
    have n0 := ok.pos
    have bl := hM.each.1
    obtain ⟨rb0, hrb0, hRB0⟩ := hM.bs_at n0
    have row0 := FW.row_len ok n0
    generalize hN : M.rows.length = n at *
    -- rows, signs, size
    refine ⟨_, rfl, m, _, 0, _, rfl, rfl, .inl (.inl hM.top), atI_nat (j := 0) rfl, r, _, rfl, .inr (.inl (.inl hM.rows)), fun a ha => ?_⟩
    have sa : Same H (upd H a (.lst (bs.map V.ref))) := same_new ha
    refine ⟨_, rfl, m, _, 1, _, rfl, rfl, .inl (.inl (sa _ _ hM.top)), atI_nat (j := 1) rfl, sg, _, rfl, .inr (.inl (.inl (sa _ _ hM.signs))), fun b hb => ?_⟩
    have nab : a ≠ b := fun e => by
      rw [← e, upd_same] at hb
      cases hb
    have hb0 : H b = none := by
      rw [upd_ne nab.symm] at hb
      exact hb
    refine ⟨_, rfl, b, _, rfl, .inl (SqL.of upd_same), _, rfl, _, _, rfl, rfl, ?_⟩
    rw [List.length_map, snl]
    refine ⟨_, rfl, _, rfl, by omega, by omega, for_range (lo := 0) (n := many)
      (fun k σ H' => ∃ (y6 y7 y8 y9 : Option V) (cs : List Addr) (ms : List (List Nat)) (xs : List Int), σ = [some (.ref sc), some (.ref m), some (.int (many : Int)), some (.ref a), some (.ref b), some (.int ((n : Int) + (many : Int))), y6, y7, y8, y9] ∧ Same H H' ∧
        H' a = some (.lst ((bs ++ cs).map V.ref)) ∧ RowsAt H' (bs ++ cs) (M.rows ++ ms) ∧ ms.length = k ∧ (∀ t ∈ ms, t.length = L ∧ ∀ x ∈ t, x < n + many) ∧ H' b = some (.lst ((M.signs ++ xs).map V.int)) ∧ xs.length = k)
      ⟨none, none, none, none, [], [], [], rfl, sa.trans (same_new hb), by rw [upd_ne nab, upd_same, List.append_nil], by rw [List.append_nil, List.append_nil]; exact hM.each.tk (sa.trans (same_new hb)).tk, rfl, (fun c hc => nomatch hc), by rw [upd_same, List.append_nil], rfl⟩ ?_ ?_⟩
    · rintro k σ H1 hk ⟨y6, y7, y8, y9, cs, ms, xs, rfl, sm, hA, hR, ml, hgood, hB, xl⟩
      have lenA : (bs ++ cs).length = n + k := by
        have z := hR.1
        rw [List.length_append, List.length_append, ml] at z
        rw [List.length_append]
        omega
      -- number = draw(..)
      refine ⟨_, rfl, _, rfl, _, _, rfl, rfl, sc, ns, _, rfl, sm.seq hS, hns, (by show (0 : Int) ≤ 12 + (0 + (k : Int)); omega), (by show 12 + (0 + (k : Int)) ≤ 100000; omega), fun d => ?_⟩
      -- signs.append(number % 4)
      refine ⟨_, rfl, .inl ⟨rfl, _, SqL.of hB⟩, _, rfl, _, _, rfl, rfl, (by show (0 : Int) < 4; decide), b, _, _, rfl, rfl, hB, ?_, ?_⟩
      · rw [List.length_map, List.length_append]
        exact line (by omega)
      have sm2 := sm.put hb0 (o := .lst ((M.signs ++ xs).map V.int ++ [.int (d % 4)]))
      have tk2 := tk_lst (o := .lst ((M.signs ++ xs).map V.int ++ [.int (d % 4)])) hB
      have hA2 : upd H1 b (.lst ((M.signs ++ xs).map V.int ++ [.int (d % 4)])) a = some (.lst ((bs ++ cs).map V.ref)) := (upd_ne nab).trans hA
      have hB2 : upd H1 b (.lst ((M.signs ++ xs).map V.int ++ [.int (d % 4)])) b = some (.lst ((M.signs ++ (xs ++ [d % 4])).map V.int)) := by
        rw [upd_same, ← List.append_assoc, List.map_append (l₁ := M.signs ++ xs)]
        rfl
      have hR2 := hR.tk tk2
      generalize upd H1 b (.lst ((M.signs ++ xs).map V.int ++ [.int (d % 4)])) = H2 at *
      -- row = []
      refine ⟨Nat.zero_le _, fun c hc => ?_⟩
      have nca : a ≠ c := ne_of_none hA2 hc
      have ncb : b ≠ c := ne_of_none hB2 hc
      have sc1 : Same H2 (upd H2 c (.lst [])) := same_new hc
      have at0 : (bs ++ cs)[0]? = some rb0 := by
        rw [List.getElem?_append_left (by omega)]
        exact hrb0
      have hrow0 := (sm2.trans sc1) _ _ hRB0
      refine ⟨_, rfl, a, _, 0, _, rfl, rfl, SqL.of (sc1 _ _ hA2), atI_nat (j := 0) (map_at at0), rb0, _, rfl, .inr (.inl (.inl hrow0)), _, rfl, ?_⟩
      rw [natV_len, row0]
      refine ⟨by omega, by omega, for_range (lo := 0) (n := L)
        (fun i σ H' => ∃ (num : Int) (y9 : Option V) (rr : List Nat), σ = [some (.ref sc), some (.ref m), some (.int (many : Int)), some (.ref a), some (.ref b), some (.int ((n : Int) + (many : Int))), some (.int (0 + (k : Int))), some (.int num), some (.ref c), y9] ∧
          Same H2 H' ∧ H' c = some (.lst (natV rr)) ∧ rr.length = i ∧ ∀ x ∈ rr, x < n + many)
        ⟨_, _, [], rfl, sc1, upd_same, rfl, (fun x hx => nomatch hx)⟩ ?_ ?_⟩
      · rintro i σ H3 hi ⟨num, z9, rr, rfl, s3, hc3, rl, rlow⟩
        obtain ⟨z, hz, z0, z1⟩ : ∃ z : Int, atI [V.int 4, V.int ((n : Int) + (many : Int))] (if decide ((0 : Int) < 0 + (i : Int)) = true then 1 else 0) = some (V.int z) ∧ 0 < z ∧ z < 1073741824 := by
          by_cases hi0 : (0 : Int) < 0 + (i : Int)
          · rw [decide_eq_true hi0, if_pos rfl]
            exact ⟨_, atI_nat (j := 1) rfl, by omega, by omega⟩
          · rw [decide_eq_false hi0, if_neg Bool.false_ne_true]
            exact ⟨4, atI_nat (j := 0) rfl, by decide, by decide⟩
        refine ⟨_, rfl, _, rfl, by show 2 ≤ sizeLine; decide, fun p hp => ⟨_, rfl, _, _, rfl, rfl, .inr ⟨_, rfl, p, _, _, V.int z, rfl, rfl, SqL.of upd_same, hz, _, _, rfl, rfl, ⟨z0, z1⟩, ?_⟩⟩⟩
        have s4 : Same H3 (upd H3 p (.lst [V.int 4, V.int ((n : Int) + (many : Int))])) := same_new hp
        have hc4 := s4 _ _ hc3
        obtain ⟨x, xn, ex⟩ := mod_room (d := num / z) (n := n + many) (by omega)
        have ev : num / z % ((n : Int) + (many : Int)) = (x : Int) := by
          rw [← Int.natCast_add]
          exact ex
        refine ⟨_, rfl, .inl ⟨rfl, _, SqL.of hc4⟩, _, rfl, _, rfl, _, _, rfl, rfl, by omega, c, _, _, rfl, rfl, hc4, ?_, ?_⟩
        · rw [natV_len]
          exact line (by omega)
        · refine ⟨_, _, rr ++ [x], rfl, (s3.trans s4).put hc, ?_, by rw [List.length_append, rl]; rfl, fun y hy => ?_⟩
          · rw [upd_same]
            show some (HO.lst (natV rr ++ [V.int (num / z % ((n : Int) + (many : Int)))])) = _
            rw [ev, natV_snoc]
          · rcases List.mem_append.mp hy with h | h
            · exact rlow y h
            · rw [List.mem_singleton] at h
              omega
      · rintro σ H3 ⟨num, z9, rr, rfl, s3, hc3, rl, rlow⟩
        -- rows.append(tuple(row))
        have hA3 := s3 _ _ hA2
        refine ⟨_, rfl, .inl ⟨rfl, _, SqL.of hA3⟩, _, rfl, c, _, rfl, .inl ⟨SqL.of hc3, fun T hT => ?_⟩⟩
        have s4 : Same H3 (upd H3 T (.tup (natV rr))) := same_new hT
        have hA4 := s4 _ _ hA3
        have tk4 := tk_lst (o := .lst ((bs ++ cs).map V.ref ++ [.ref T])) hA4
        refine ⟨a, _, _, rfl, rfl, hA4, ?_, ?_⟩
        · rw [List.length_map, lenA]
          exact line (by omega)
        · refine ⟨_, _, _, _, cs ++ [T], ms ++ [rr], xs ++ [d % 4], rfl, (sm2.trans (s3.trans s4)).put ha, ?_, ?_, ?_, fun t ht => ?_, ?_, ?_⟩
          · rw [upd_same, ← List.append_assoc, List.map_append (l₁ := bs ++ cs)]
            rfl
          · rw [← List.append_assoc, ← List.append_assoc]
            exact ((hR2.tk (s3.trans s4).tk).tk tk4).snoc (tk4 _ _ upd_same)
          · rw [List.length_append, ml]
            rfl
          · rcases List.mem_append.mp ht with h | h
            · exact hgood t h
            · rw [List.mem_singleton] at h
              subst h
              exact ⟨rl, rlow⟩
          · rw [upd_ne nab.symm]
            exact (s3.trans s4) _ _ hB2
          · rw [List.length_append, xl]
            rfl
    · rintro σ H1 ⟨y6, y7, y8, y9, cs, ms, xs, rfl, sm, hA, hR, ml, hgood, hB, xl⟩
      refine ⟨_, rfl, a, _, rfl, .inl ⟨SqL.of hA, fun T hT => ?_⟩⟩
      have s3 := same_new (o := .tup ((bs ++ cs).map V.ref)) hT
      refine ⟨_, rfl, b, _, rfl, .inl ⟨SqL.of (s3 _ _ hB), fun T2 hT2 => ⟨by show 2 ≤ sizeLine; decide, fun p hp => ?_⟩⟩⟩
      have s4 := (same_new (o := .tup ((M.signs ++ xs).map V.int)) hT2).trans (same_new (o := .tup [.ref T, .ref T2]) hp)
      have sA := sm.trans (s3.trans s4)
      refine q _ _ ⟨M.rows ++ ms, M.signs ++ xs⟩ sA ⟨p, T, T2, bs ++ cs, rfl, upd_same, s4 _ _ upd_same, hR.tk (s3.trans s4).tk, same_new hp _ _ upd_same⟩ ⟨?_, ?_, fun t ht => ?_, fun t ht x hx => ?_⟩ ?_
      · show (M.signs ++ xs).length = (M.rows ++ ms).length
        rw [List.length_append, List.length_append]
        omega
      · show 0 < (M.rows ++ ms).length
        rw [List.length_append]
        omega
      · rcases List.mem_append.mp ht with h | h
        · exact ok.wide t h
        · exact (hgood t h).1
      · show x < (M.rows ++ ms).length
        rw [List.length_append, ml, hN]
        rcases List.mem_append.mp ht with h | h
        · have z := ok.low t h x hx
          omega
        · exact (hgood t h).2 x hx
      · show (M.rows ++ ms).length = n + many
        rw [List.length_append]
        omega
end
end FwP

namespace FwP
open PySem PySem.Spec PyProof.Rows L2 FwR
/-! ### _law_called -/
def spCalled : Sp := fun vs H Q _ => ∃ (v : V) (M : FW.Mac) (d : Int) (L : Nat), vs = [v, .int d] ∧ MacAt H v M ∧ FW.Ok M L ∧ M.rows.length ≤ 500 ∧ L ≤ 100 ∧
  ∀ H' v' M', Same H H' → MacAt H' v' M' → FW.Ok M' L → M'.rows.length = M.rows.length → Q v' H'
abbrev nCalled : List Str := ["_law_machine", "_law_number", "_law_order", "_law_k", "_law_rows", "_law_room", "_law_old"]
section
variable {P : Program} {w : World} {K : PySem.W.Frag} {mg : Str → Option Value} {base : Heap}
theorem ok_called {f : Addr} {fd : FuncData} (F : Fun K "_law_called" "_law_called" sCalled f fd) (ml : mg "len" = none) (mt : mg "tuple" = none) (mr : mg "range" = none) : FnOk P w K mg base CX0 1 f fd ["_law_machine", "_law_number"] spCalled := by
  refine F.ok scCalled (fun vs H Q E h => ?_) (fun cdv A outer s H vs Q E hr h => ?_)
  · obtain ⟨v, M, d, L, rfl, _⟩ := h
    rfl
  · obtain ⟨v, M, d, L, rfl, hM, ok, n1, L1, q⟩ := h
    obtain ⟨m, r, sg, bs, rfl, hM⟩ := hM
    refine ⟨_, pss_cons (ps_set (i := 2) scCalled.nd rfl (.inr rfl) (pe_lst (pa_cons pe_int pa_nil)))
      (pss_cons (ps_for PassesOwn.never rfl (pi_range2 (by rfl) mr (pa_cons pe_int (pa_cons (pe_callB call_len_seq (by rfl) ml PySem.boot_len (pa_cons (pe_ix ix_tup (pv 0) pe_int (fun _ _ => rfl)) pa_nil)) pa_nil))) (pg_name (i := 3) scCalled.nd rfl (.inl rfl))
        (pss_cons (ps_expr (pe_bm PySem.F.plainAttrs_list PySem.F.slot_list_insert PySem.F.type_list_insert mt_insert (pv 2) (pa_cons (pe_op op_add pe_int (pe_op op_mod (pv 1) (pe_callB call_len_seq (by rfl) ml PySem.boot_len (pa_cons (pv 2) pa_nil)))) (pa_cons (pv 3) pa_nil))))
        (pss_one (ps_set (i := 1) scCalled.nd rfl (.inl rfl) (pe_op op_fdiv (pv 1) (pe_op op_sub (pe_callB call_len_seq (by rfl) ml PySem.boot_len (pa_cons (pv 2) pa_nil)) pe_int))))))
      (pss_cons (ps_setLc (i := 4) (own := [("_law_old", 6)]) (g := gName 6) (tt := tYes) rfl scCalled.nd rfl rfl (sw_true rfl rfl rfl (by decide +kernel)) (pi_list (pv 2)) (blkOk_by (N := nCalled) (sc := defScope sCalled) (by decide +kernel)) (fun _ _ _ _ _ => pg_name (i := 6) scCalled.nd rfl (Or.inl rfl)) (fun _ _ _ _ _ => pts_nil)
          (fun _ _ _ _ _ => pe_callTy (call_tupleK K (by rfl)) (by rfl) mt PyProof.Rows.boot_tuple (pa_cons
            (pe_lc (own := [("_law_room", 5)]) (g := gName 5) (tt := tYes) rfl scCalled.nd (pi_tupK K (by rfl) (pe_ix (ix_tupK K (by rfl)) (pe_ix (ix_tupK K (by rfl)) (pv 0) pe_int (fun _ _ => rfl)) (pv 6) (fun _ _ => rfl))) (blkOk_by (N := nCalled) (by kernel_rfl)) (fun _ _ _ _ _ => pg_name (i := 5) scCalled.nd rfl (Or.inl rfl)) (fun _ _ _ _ _ => pts_nil)
              (fun _ _ _ _ _ => pe_indexK K (by rfl) (pv 2) (pa_cons (pv 5) pa_nil))) pa_nil)))
      (pss_one (ps_ret (pe_tup (pa_cons (pe_callTy call_tuple_of (by rfl) mt PyProof.Rows.boot_tuple (pa_cons (pv 4) pa_nil)) (pa_cons
        (pe_callTy call_tuple_of (by rfl) mt PyProof.Rows.boot_tuple (pa_cons
          (pe_lc (own := [("_law_old", 6)]) (g := gName 6) (tt := tYes) rfl scCalled.nd (pi_list (pv 2)) (blkOk_by (N := nCalled) (sc := defScope sCalled) (by decide +kernel)) (fun _ _ _ _ _ => pg_name (i := 6) scCalled.nd rfl (Or.inl rfl)) (fun _ _ _ _ _ => pts_nil)
            (fun _ _ _ _ _ => pe_ix (ix_tupK K (by rfl)) (pe_ix (ix_tupK K (by rfl)) (pv 0) pe_int (fun _ _ => rfl)) (pv 6) (fun _ _ => rfl))) pa_nil)) pa_nil))))))), ?_⟩
    have snl : M.signs.length = M.rows.length := ok.same
    have n0 := ok.pos
    have bl := hM.each.1
    have en : ((((M.signs.map V.int).length : Nat) : Int) - 1).toNat = M.rows.length - 1 := by
      rw [List.length_map]
      omega
    -- order = [0]
    refine ⟨by show 1 ≤ sizeLine; decide, fun o ho => ?_⟩
    have s0 : Same H (upd H o (.lst [.int 0])) := same_new ho
    refine ⟨_, rfl, m, _, 1, _, rfl, rfl, .inl (.inl (s0 _ _ hM.top)), atI_nat (j := 1) rfl, sg, _, rfl, .inr (.inl (.inl (s0 _ _ hM.signs))), 1, _, rfl, ?_, for_range (lo := 1) (n := ((((M.signs.map V.int).length : Nat) : Int) - 1).toNat)
      (fun i σ H' => ∃ (y3 : Option V) (num : Int) (os : List Nat), σ = [some (.ref m), some (.int num), some (.ref o), y3, none, none, none] ∧ Same H H' ∧ H' o = some (.lst (natV os)) ∧ os.length = i + 1 ∧ ∀ x, x ∈ os ↔ x < i + 1)
      ?_ ?_ ?_⟩
    · rw [List.length_map]
      exact ⟨by decide, by decide, by omega, by omega⟩
    · exact ⟨none, d, [0], rfl, s0, upd_same, rfl, fun x => by rw [List.mem_singleton]; omega⟩
    · rintro i σ H1 hi ⟨y3, num, os, rfl, sm, hO, ol, hmem⟩
      rw [en] at hi
      obtain ⟨x, xn, ex⟩ := mod_room (d := num) (n := os.length) (by omega)
      -- order.insert(..)
      refine ⟨_, rfl, .inl ⟨rfl, _, SqL.of hO⟩, _, rfl, _, rfl, o, _, rfl, .inl (SqL.of hO), _, _, rfl, rfl, ?_, _, _, rfl, rfl, _, rfl, o, _, _, _, rfl, rfl, hO, ?_, ?_, ?_, ?_⟩
      · rw [natV_len]
        omega
      · rw [natV_len]
        exact line (by omega)
      · rw [natV_len]
        show (0 : Int) ≤ 1 + num % (os.length : Int)
        omega
      · rw [natV_len]
        show 1 + num % (os.length : Int) < 2 ^ 63
        omega
      have eH : upd H1 o (.lst ((natV os).take ((1 : Int) + num % (((natV os).length : Nat) : Int)).toNat ++ [V.int (1 + (i : Int))] ++ (natV os).drop ((1 : Int) + num % (((natV os).length : Nat) : Int)).toNat)) = upd H1 o (.lst (natV (os.take (1 + x) ++ [1 + i] ++ os.drop (1 + x)))) := by
        rw [natV_len, ex]
        have e1 : ((1 : Int) + (x : Int)).toNat = 1 + x := by omega
        have e2 : V.int (1 + (i : Int)) = V.int ((1 + i : Nat) : Int) := by rw [Int.natCast_add]; rfl
        rw [e1, e2]
        unfold natV
        rw [List.map_append, List.map_append, List.map_take, List.map_drop]
        rfl
      rw [eH]
      have nl : (os.take (1 + x) ++ [1 + i] ++ os.drop (1 + x)).length = i + 2 := by
        rw [List.length_append, List.length_append, List.length_take, List.length_drop, List.length_singleton]
        omega
      refine ⟨_, rfl, _, rfl, o, _, rfl, .inl (SqL.of upd_same), _, _, rfl, rfl, _, _, rfl, rfl, ?_, ?_⟩
      · rw [natV_len, nl]
        exact ⟨by omega, by omega⟩
      · refine ⟨_, _, _, rfl, sm.put ho, upd_same, nl, fun z => ?_⟩
        have e : z ∈ os.take (1 + x) ++ [1 + i] ++ os.drop (1 + x) ↔ z ∈ os ∨ z = 1 + i := by
          rw [List.mem_append, List.mem_append, List.mem_singleton]
          have t := List.take_append_drop (1 + x) os
          have t2 : z ∈ os ↔ z ∈ os.take (1 + x) ∨ z ∈ os.drop (1 + x) := by
            rw [← List.mem_append, t]
          rw [t2]
          constructor
          · rintro ((h | h) | h)
            · exact .inl (.inl h)
            · exact .inr h
            · exact .inl (.inr h)
          · rintro ((h | h) | h)
            · exact .inl (.inl h)
            · exact .inr h
            · exact .inl (.inr h)
        rw [e, hmem]
        omega
    · rintro σ H1 ⟨y3, num, os, rfl, sm, hO, ol, hmem⟩
      rw [en] at ol hmem
      have on : os.length = M.rows.length := by omega
      have hm : ∀ x, x ∈ os ↔ x < M.rows.length := fun x => by
        rw [hmem]
        omega
      -- rows = [..]
      refine ⟨_, rfl, o, rfl, ⟨_, SqL.of hO⟩, fun D hD => rowsL (xs := natV os) (os.map fun a => (FW.row M a).map fun x => os.idxOf x) (by rw [List.length_map, natV_len]) (by rw [natV_len]; omega) hD (fun H2 s2 => SqL.of (s2 _ _ hO)) ?_ ?_⟩
      · intro i x rr H2 hx hr s2 R S hR
        obtain ⟨n, hn2, rfl⟩ := natV_of hx
        have nl := (hm n).mp (List.mem_of_getElem? hn2)
        obtain ⟨b, hb, hB⟩ := hM.bs_at nl
        have er : rr = (FW.row M n).map fun x => os.idxOf x := by
          rw [List.getElem?_map, hn2] at hr
          exact (Option.some.inj hr).symm
        have sH := sm.trans s2
        refine ⟨rfl, yesI ⟨_, rfl, m, _, 0, _, rfl, rfl, .inl (.inl (sH _ _ hM.top)), atI_nat (j := 0) rfl, _, rfl, r, _, _, _, rfl, rfl, .inl (.inl (sH _ _ hM.rows)), atI_nat (map_at hb), b, rfl, ⟨_, .inl (.inl (sH _ _ hB))⟩,
          fun D2 hD2 => mapT (xs := natV (FW.row M n)) (natV rr) ?_ ?_ hD2 (fun H3 s3 => .inl (.inl (s3 _ _ (sH _ _ hB)))) ?_ ?_⟩⟩
        · rw [natV_len, natV_len, er, List.length_map]
        · rw [natV_len, FW.row_len ok nl]
          omega
        · intro j y z H3 hy hz s3 R2 S2 hR2
          obtain ⟨t, ht, rfl⟩ := natV_of hy
          have et : z = .int (os.idxOf t : Int) := by
            have z2 : (natV rr)[j]? = some (.int (os.idxOf t : Int)) := by
              refine natV_at ?_
              rw [er, List.getElem?_map, ht]
              rfl
            exact Option.some.inj (hz.symm.trans z2)
          subst et
          have hO3 := s3 _ _ (s2 _ _ hO)
          have tm : t ∈ os := (hm t).mpr (FW.row_low ok nl (List.mem_of_getElem? ht))
          exact ⟨rfl, yesI ⟨_, rfl, .inl ⟨rfl, _, SqL.of hO3⟩, _, rfl, index_read (SqL.of hO3) tm hR2⟩⟩
        · exact ⟨D2, _, rfl, .inl ⟨SqL.of upd_same, fun T hT => hR _ T ((same_new hD2).trans (same_new hT)) upd_same⟩⟩
      · intro H2 bs2 s2 hD2 hR2
        refine ⟨_, rfl, D, _, rfl, .inl ⟨SqL.of hD2, fun T hT => ?_⟩⟩
        have sT : Same H2 (upd H2 T (.tup (bs2.map V.ref))) := same_new hT
        have sA := (sm.trans s2).trans sT
        refine ⟨_, rfl, o, rfl, ⟨_, SqL.of (sT _ _ (s2 _ _ hO))⟩, fun D4 hD4 => mapL (xs := natV os) ((os.map fun a => FW.sg M a).map V.int) ?_ ?_ hD4 (fun H3 s3 => SqL.of (s3 _ _ (sT _ _ (s2 _ _ hO)))) ?_ ?_⟩
        · rw [List.length_map, natV_len, List.length_map]
        · rw [natV_len]
          omega
        · intro i x z H3 hx hz s3 R S hR
          obtain ⟨n, hn2, rfl⟩ := natV_of hx
          have nl := (hm n).mp (List.mem_of_getElem? hn2)
          have ez : z = .int (FW.sg M n) := by
            have z2 : ((os.map fun a => FW.sg M a).map V.int)[i]? = some (.int (FW.sg M n)) := by
              refine map_at ?_
              rw [List.getElem?_map, hn2]
              rfl
            exact Option.some.inj (hz.symm.trans z2)
          subst ez
          have sB := sA.trans s3
          exact ⟨rfl, yesI ⟨_, rfl, m, _, 1, _, rfl, rfl, .inl (.inl (sB _ _ hM.top)), atI_nat (j := 1) rfl, _, rfl, sg, _, _, _, rfl, rfl, .inl (.inl (sB _ _ hM.signs)), atI_nat (map_at (FW.sg_at ok nl)), hR⟩⟩
        · refine ⟨D4, _, rfl, .inl ⟨SqL.of upd_same, fun T2 hT2 => ⟨by show 2 ≤ sizeLine; decide, fun p hp => ?_⟩⟩⟩
          have s5 := (same_new (o := .lst ((os.map fun a => FW.sg M a).map V.int)) hD4).trans (same_new (o := .tup ((os.map fun a => FW.sg M a).map V.int)) hT2)
          have s6 := s5.trans (same_new (o := .tup [.ref T, .ref T2]) hp)
          have lowO : ∀ n, n ∈ os → n < M.rows.length := fun n h => (hm n).mp h
          refine q _ _ ⟨os.map fun a => (FW.row M a).map fun x => os.idxOf x, os.map fun a => FW.sg M a⟩ (sA.trans s6) ⟨p, T, T2, bs2, rfl, upd_same, s6 _ _ upd_same, hR2.tk (sT.trans s6).tk, same_new hp _ _ upd_same⟩ ⟨?_, ?_, fun t ht => ?_, fun t ht x hx => ?_⟩ ?_
          · show (os.map _).length = (os.map _).length
            rw [List.length_map, List.length_map]
          · show 0 < (os.map _).length
            rw [List.length_map]
            omega
          · obtain ⟨n, hn, rfl⟩ := List.mem_map.mp ht
            rw [List.length_map]
            exact FW.row_len ok (lowO n hn)
          · show x < (os.map _).length
            rw [List.length_map]
            obtain ⟨n, hn, rfl⟩ := List.mem_map.mp ht
            obtain ⟨y, hy, rfl⟩ := List.mem_map.mp hx
            exact List.idxOf_lt_length_iff.mpr ((hm y).mpr (FW.row_low ok (lowO n hn) hy))
          · show (os.map _).length = M.rows.length
            rw [List.length_map]
            exact on
end
end FwP

namespace FwP
open PySem PySem.Spec PyProof.Rows L2 FwR
/-! ### _law_reached -/
def spReached : Sp := fun vs H Q _ => ∃ (v : V) (M : FW.Mac) (L : Nat), vs = [v] ∧ MacAt H v M ∧ FW.Ok M L ∧ M.rows.length ≤ 500 ∧ L ≤ 100 ∧
  ∀ H' p r s xs, Same H H' → H' p = some (.tup [.ref r, .ref s]) → H' s = some (.tup xs) → xs.length = (FW.order M).length → Q (.ref p) H'
abbrev nReached : List Str := ["_law_machine", "_law_order", "_law_at", "_law_room", "_law_rows", "_law_old"]
theorem inV_nat (n : Nat) : ∀ D : List Nat, inV (.int (n : Int)) (natV D) = decide (n ∈ D)
  | [] => rfl
  | x :: D => by
    show (((x : Int) == (n : Int)) || inV (.int (n : Int)) (natV D)) = _
    rw [inV_nat n D]
    by_cases e : x = n
    · subst e
      simp
    · rw [show ((x : Int) == (n : Int)) = false by simpa using fun z => e (Int.ofNat.inj z), Bool.false_or]
      by_cases m : n ∈ D
      · rw [decide_eq_true m, decide_eq_true (List.mem_cons_of_mem _ m)]
      · rw [decide_eq_false m, decide_eq_false]
        intro z
        rcases List.mem_cons.mp z with z | z
        · exact e z.symm
        · exact m z
section
variable {P : Program} {w : World} {K : PySem.W.Frag} {mg : Str → Option Value} {base : Heap}
theorem ok_reached {f : Addr} {fd : FuncData} (F : Fun K "_law_reached" "_law_reached" sReached f fd) (ml : mg "len" = none) (mt : mg "tuple" = none) : FnOk P w K mg base CX0 1 f fd ["_law_machine"] spReached := by
  refine F.ok scReached (fun vs H Q E h => ?_) (fun cdv A outer s H vs Q E hr h => ?_)
  · obtain ⟨v, M, L, rfl, _⟩ := h
    rfl
  · obtain ⟨v, M, L, rfl, hM, ok, n1, L1, q⟩ := h
    obtain ⟨m, r, sg, bs, rfl, hM⟩ := hM
    refine ⟨_, pss_cons (ps_set (i := 1) scReached.nd rfl (.inr rfl) (pe_lst (pa_cons pe_int pa_nil)))
      (pss_cons (ps_set (i := 2) scReached.nd rfl (.inl rfl) pe_int)
      (pss_cons (ps_while PassesOwn.never (pt_cmpR op_lt (pv 2) (pe_callB call_len_seq (by rfl) ml PySem.boot_len (pa_cons (pv 1) pa_nil)) (nomark _))
        (pss_cons (ps_for PassesOwn.never rfl (pi_tup (pe_ix ix_tup (pe_ix ix_tup (pv 0) pe_int (fun _ _ => rfl)) (pe_ix ix_list (pv 1) (pv 2) (fun _ _ => rfl)) (fun _ _ => rfl))) (pg_name (i := 3) scReached.nd rfl (.inl rfl))
            (pss_one (ps_if (pt_cmpR op_notIn_seq (pv 3) (pv 1) rfl)
              (pss_one (ps_expr (pe_bm PySem.F.plainAttrs_list PySem.F.slot_list_append PySem.F.type_list_append mt_append (pv 1) (pa_cons (pv 3) pa_nil)))) pss_nil)))
        (pss_one (ps_set (i := 2) scReached.nd rfl (.inl rfl) (pe_op op_add (pv 2) pe_int)))))
      (pss_cons (ps_set (i := 4) scReached.nd rfl (.inl rfl) (pe_lst pa_nil))
      (pss_cons (ps_for PassesOwn.never rfl (pi_list (pv 1)) (pg_name (i := 5) scReached.nd rfl (.inl rfl))
        (pss_one (ps_expr (pe_bm PySem.F.plainAttrs_list PySem.F.slot_list_append PySem.F.type_list_append mt_append (pv 4) (pa_cons (pe_callTy call_tuple_of (by rfl) mt PyProof.Rows.boot_tuple (pa_cons
          (pe_lc (own := [("_law_room", 3)]) (g := gName 3) (tt := tYes) rfl scReached.nd (pi_tup (pe_ix ix_tup (pe_ix ix_tup (pv 0) pe_int (fun _ _ => rfl)) (pv 5) (fun _ _ => rfl))) (blkOk_by (N := nReached) (sc := defScope sReached) (by decide +kernel)) (fun _ _ _ _ _ => pg_name (i := 3) scReached.nd rfl (Or.inl rfl)) (fun _ _ _ _ _ => pts_nil)
            (fun _ _ _ _ _ => pe_indexK K (by rfl) (pv 1) (pa_cons (pv 3) pa_nil))) pa_nil)) pa_nil)))))
      (pss_one (ps_ret (pe_tup (pa_cons (pe_callTy call_tuple_of (by rfl) mt PyProof.Rows.boot_tuple (pa_cons (pv 4) pa_nil)) (pa_cons
        (pe_callTy call_tuple_of (by rfl) mt PyProof.Rows.boot_tuple (pa_cons
          (pe_lc (own := [("_law_old", 5)]) (g := gName 5) (tt := tYes) rfl scReached.nd (pi_list (pv 1)) (blkOk_by (N := nReached) (sc := defScope sReached) (by decide +kernel)) (fun _ _ _ _ _ => pg_name (i := 5) scReached.nd rfl (Or.inl rfl)) (fun _ _ _ _ _ => pts_nil)
            (fun _ _ _ _ _ => pe_ix (ix_tupK K (by rfl)) (pe_ix (ix_tupK K (by rfl)) (pv 0) pe_int (fun _ _ => rfl)) (pv 5) (fun _ _ => rfl))) pa_nil)) pa_nil))))))))), ?_⟩
    have snl : M.signs.length = M.rows.length := ok.same
    -- order = [0]; at = 0
    refine ⟨by show 1 ≤ sizeLine; decide, fun o ho => ?_⟩
    have s1 : Same H (upd H o (.lst [.int 0])) := same_new ho
    refine ⟨fun mm σ H' => ∃ (k : Nat) (y : Option V), mm = M.rows.length - k ∧ k ≤ M.rows.length ∧ k ≤ (FW.ord M k).length ∧
        σ = [some (.ref m), some (.ref o), some (.int (k : Int)), y, none, none] ∧ Same H H' ∧ H' o = some (.lst (natV (FW.ord M k))),
      ⟨_, 0, none, rfl, Nat.zero_le _, Nat.zero_le _, rfl, s1, upd_same⟩, ?_⟩
    rintro mm σ H' ⟨k, y, rfl, kn, kl, rfl, sm, hO⟩
    have ole := FW.ord_le ok k
    refine ⟨_, rfl, _, rfl, o, _, rfl, .inl (SqL.of hO), _, _, rfl, rfl, _, rfl, ?_⟩
    refine ite2 (fun hc => ?_) (fun hc => ?_)
    · -- a turn
      have hlt : k < (FW.ord M k).length := by
        have z := of_decide_eq_true hc
        rw [natV_len] at z
        omega
      have he : (FW.ord M k)[k]? = some ((FW.ord M k).getD k 0) := by
        rw [List.getD_eq_getElem?_getD, List.getElem?_eq_getElem hlt]
        rfl
      have hel : (FW.ord M k).getD k 0 < M.rows.length := FW.ord_low ok k _ (FW.getD_mem hlt)
      obtain ⟨b, hb, hB⟩ := hM.bs_at hel
      have osucc := FW.ord_succ M hlt
      have part : ∀ i, (FW.putAll (FW.ord M k) ((FW.row M ((FW.ord M k).getD k 0)).take i)).length ≤ M.rows.length := fun i => FW.part_le ok hlt
      generalize hrow : FW.row M ((FW.ord M k).getD k 0) = rw0 at *
      refine ⟨fun σ' H'' => ∃ y, σ' = [some (.ref m), some (.ref o), some (.int ((k + 1 : Nat) : Int)), y, none, none] ∧ Same H H'' ∧ H'' o = some (.lst (natV (FW.ord M (k + 1)))),
        fun σ' H'' ⟨y', e1, e2, e3⟩ => ?_, ?_⟩
      · refine ⟨_, ?_, k + 1, y', rfl, by omega, ?_, e1, e2, e3⟩
        · omega
        · rw [osucc]
          obtain ⟨z, ez⟩ := FW.putAll_sub (rs := rw0) (o := FW.ord M k)
          rw [ez, List.length_append]
          omega
      · refine ⟨_, rfl, m, _, 0, _, rfl, rfl, .inl (.inl (sm _ _ hM.top)), atI_nat (j := 0) rfl, _, rfl, _, rfl, o, _, _, _, rfl, rfl, SqL.of hO, atI_nat (natV_at he), r, _, _, _, rfl, rfl, .inl (.inl (sm _ _ hM.rows)), atI_nat (map_at hb), b, rfl, ⟨_, .inl (.inl (sm _ _ hB))⟩,
          for_tup (xs := natV rw0) (fun i σ H' => ∃ y, σ = [some (.ref m), some (.ref o), some (.int (k : Int)), y, none, none] ∧ Same H H' ∧ H' o = some (.lst (natV (FW.putAll (FW.ord M k) (rw0.take i)))))
          ⟨y, rfl, sm, hO⟩ (fun i σ H' _ ⟨_, _, sm, _⟩ => .inl (.inl (sm _ _ hB))) ?_ ?_⟩
        · rintro i x σ H2 hx ⟨y2, rfl, sm2, hO2⟩
          obtain ⟨n, hn2, rfl⟩ := natV_of hx
          have et := FW.putAll_takeO (FW.ord M k) rw0 hn2
          have small := part i
          refine ⟨_, rfl, _, rfl, o, _, rfl, .inl (SqL.of hO2), rfl, natV_flat _, _, rfl, ?_⟩
          rw [inV_nat]
          by_cases mem : n ∈ FW.putAll (FW.ord M k) (rw0.take i)
          · rw [decide_eq_true mem]
            refine iteF ⟨_, rfl, sm2, ?_⟩
            rw [et]
            unfold FW.put
            rw [if_pos mem]
            exact hO2
          · rw [decide_eq_false mem]
            refine iteT ⟨_, rfl, .inl ⟨rfl, _, SqL.of hO2⟩, _, rfl, o, _, _, rfl, rfl, hO2, ?_, ?_⟩
            · rw [natV_len]
              exact line (by omega)
            · refine ⟨_, rfl, sm2.put ho, ?_⟩
              rw [upd_same, et]
              unfold FW.put
              rw [if_neg mem, natV_snoc]
        · rintro σ H2 ⟨y2, rfl, sm2, hO2⟩
          rw [natV_len, List.take_length, ← osucc] at hO2
          exact ⟨_, rfl, _, _, rfl, rfl, _, rfl, sm2, hO2⟩
    · -- the end
      have hge : (FW.ord M k).length ≤ k := by
        by_cases z : k < (FW.ord M k).length
        · exact absurd (decide_eq_true (by rw [natV_len]; omega)) hc
        · omega
      have eo := FW.order_eq hge kn
      rw [eo] at hO ole
      have olow : ∀ n, n ∈ FW.order M → n < M.rows.length := fun n z => FW.ord_low ok _ n z
      have closed : ∀ n, n ∈ FW.order M → ∀ x, x ∈ FW.row M n → x ∈ FW.order M := fun n z x hx => by
        obtain ⟨i, hi, e⟩ := List.mem_iff_getElem.mp z
        refine FW.order_closed ok hi ?_
        rw [List.getD_eq_getElem?_getD, List.getElem?_eq_getElem hi]
        rw [← e] at hx
        exact hx
      -- rows = []
      refine ⟨Nat.zero_le _, fun a ha => ?_⟩
      have noa : o ≠ a := ne_of_none hO ha
      have ha0 := sm.free ha
      refine ⟨_, rfl, o, rfl, ⟨_, SqL.of ((upd_ne noa).trans hO)⟩,
        for_list (xs := natV (FW.order M)) (fun i σ H2 => ∃ (y3 y5 : Option V) (cs : List V), σ = [some (.ref m), some (.ref o), some (.int (k : Int)), y3, some (.ref a), y5] ∧ Same H' H2 ∧ H2 a = some (.lst cs) ∧ cs.length = i)
          ⟨_, _, [], rfl, same_new ha, upd_same, rfl⟩ (fun i σ H2 _ ⟨_, _, _, _, s2, _⟩ => SqL.of (s2 _ _ hO)) ?_ ?_⟩
      · rintro i x σ H2 hx ⟨y3, y5, cs, rfl, s2, hA, cl⟩
        obtain ⟨n, hn2, rfl⟩ := natV_of hx
        have nm := List.mem_of_getElem? hn2
        have nl := olow n nm
        have il := at_lt hn2
        obtain ⟨b, hb, hB⟩ := hM.bs_at nl
        have sH := sm.trans s2
        refine ⟨_, rfl, .inl ⟨rfl, _, SqL.of hA⟩, _, rfl, m, _, 0, _, rfl, rfl, .inl (.inl (sH _ _ hM.top)), atI_nat (j := 0) rfl, _, rfl, r, _, _, _, rfl, rfl, .inl (.inl (sH _ _ hM.rows)), atI_nat (map_at hb), b, rfl, ⟨_, .inl (.inl (sH _ _ hB))⟩,
          fun D2 hD2 => mapT (xs := natV (FW.row M n)) (natV ((FW.row M n).map fun x => (FW.order M).idxOf x)) ?_ ?_ hD2 (fun H3 s3 => .inl (.inl (s3 _ _ (sH _ _ hB)))) ?_ ?_⟩
        · rw [natV_len, natV_len, List.length_map]
        · rw [natV_len, FW.row_len ok nl]
          omega
        · intro j y z H3 hy hz s3 R2 S2 hR2
          obtain ⟨t, ht, rfl⟩ := natV_of hy
          have et : z = .int ((FW.order M).idxOf t : Int) := by
            have z2 : (natV ((FW.row M n).map fun x => (FW.order M).idxOf x))[j]? = some (.int ((FW.order M).idxOf t : Int)) := by
              refine natV_at ?_
              rw [List.getElem?_map, ht]
              rfl
            exact Option.some.inj (hz.symm.trans z2)
          subst et
          have hO3 := s3 _ _ (s2 _ _ hO)
          exact ⟨rfl, yesI ⟨_, rfl, .inl ⟨rfl, _, SqL.of hO3⟩, _, rfl, index_read (SqL.of hO3) (closed n nm t (List.mem_of_getElem? ht)) hR2⟩⟩
        · refine ⟨D2, _, rfl, .inl ⟨SqL.of upd_same, fun T hT => ?_⟩⟩
          have s3 := (same_new (o := .lst (natV ((FW.row M n).map fun x => (FW.order M).idxOf x))) hD2).trans (same_new (o := .tup (natV ((FW.row M n).map fun x => (FW.order M).idxOf x))) hT)
          have hA3 := s3 _ _ hA
          refine ⟨a, _, _, rfl, rfl, hA3, line (by omega), ?_⟩
          refine ⟨_, _, _, rfl, (s2.trans s3).put ha, upd_same, ?_⟩
          rw [List.length_append, cl]
          rfl
      · rintro σ H2 ⟨y3, y5, cs, rfl, s2, hA, cl⟩
        refine ⟨_, rfl, a, _, rfl, .inl ⟨SqL.of hA, fun T hT => ?_⟩⟩
        have sT : Same H2 (upd H2 T (.tup cs)) := same_new hT
        have sA := (sm.trans s2).trans sT
        refine ⟨_, rfl, o, rfl, ⟨_, SqL.of (sT _ _ (s2 _ _ hO))⟩, fun D4 hD4 => mapL (xs := natV (FW.order M)) (((FW.order M).map fun a => FW.sg M a).map V.int) ?_ ?_ hD4 (fun H3 s3 => SqL.of (s3 _ _ (sT _ _ (s2 _ _ hO)))) ?_ ?_⟩
        · rw [List.length_map, natV_len, List.length_map]
        · rw [natV_len]
          omega
        · intro i x z H3 hx hz s3 R S hR
          obtain ⟨n, hn2, rfl⟩ := natV_of hx
          have nl := olow n (List.mem_of_getElem? hn2)
          have ez : z = .int (FW.sg M n) := by
            have z2 : (((FW.order M).map fun a => FW.sg M a).map V.int)[i]? = some (.int (FW.sg M n)) := by
              refine map_at ?_
              rw [List.getElem?_map, hn2]
              rfl
            exact Option.some.inj (hz.symm.trans z2)
          subst ez
          have sB := sA.trans s3
          exact ⟨rfl, yesI ⟨_, rfl, m, _, 1, _, rfl, rfl, .inl (.inl (sB _ _ hM.top)), atI_nat (j := 1) rfl, _, rfl, sg, _, _, _, rfl, rfl, .inl (.inl (sB _ _ hM.signs)), atI_nat (map_at (FW.sg_at ok nl)), hR⟩⟩
        · refine ⟨D4, _, rfl, .inl ⟨SqL.of upd_same, fun T2 hT2 => ⟨by show 2 ≤ sizeLine; decide, fun p hp => ?_⟩⟩⟩
          have s5 := (same_new (o := .lst (((FW.order M).map fun a => FW.sg M a).map V.int)) hD4).trans (same_new (o := .tup (((FW.order M).map fun a => FW.sg M a).map V.int)) hT2)
          have s6 := s5.trans (same_new (o := .tup [.ref T, .ref T2]) hp)
          refine q _ p T T2 _ (sA.trans s6) upd_same (same_new hp _ _ upd_same) ?_
          rw [List.length_map, List.length_map]
end
end FwP

namespace FwP
open PySem PySem.Spec PyProof.Rows L2 FwR
/-! ### _law_parted -/
def spParted : Sp := fun vs H Q _ => ∃ (v u : V) (M N : FW.Mac) (L : Nat), vs = [v, u] ∧ MacAt H v M ∧ MacAt H u N ∧ FW.Ok M L ∧ FW.Ok N L ∧ M.rows.length ≤ 50 ∧ N.rows.length ≤ 100 ∧ L ≤ 100 ∧
  (∀ H', Same H H' → FW.Alike M N L 0 0 → Q .non H') ∧ ∀ H' l, Same H H' → ¬ FW.Alike M N L 0 0 → Q (.ref l) H'
/-! pairs as data -/
def prP (p : Nat × Nat) : PyData := .tuple [.int (p.1 : Int), .int (p.2 : Int)]
theorem prP_depth (p : Nat × Nat) : (prP p).depth = 1 := by simp [prP, PyData.depth, PyData.depthAll]
theorem prP_lay (p : Nat × Nat) : (prP p).canLay0 = true := by simp [prP, PyData.canLay0, PyData.canLayAll0]
theorem prP_lays : ∀ ps : List (Nat × Nat), PyData.canLayAll0 (ps.map prP) = true
  | [] => by simp [PyData.canLayAll0]
  | p :: ps => by
    rw [List.map_cons]
    simp only [PyData.canLayAll0, prP_lay p, prP_lays ps]
    rfl
theorem prP_depths : ∀ ps : List (Nat × Nat), PyData.depthAll (ps.map prP) ≤ 1
  | [] => by simp [PyData.depthAll]
  | p :: ps => by
    have a := prP_depths ps
    have b := prP_depth p
    rw [List.map_cons]
    simp only [PyData.depthAll]
    omega
theorem prP_shaped (p : Nat × Nat) : SeqAt.shaped (prP p) = true := by
  have b := prP_depth p
  unfold SeqAt.shaped
  rw [Bool.and_eq_true]
  exact ⟨prP_lay p, decide_eq_true (by omega)⟩
theorem prP_shapeds (ps : List (Nat × Nat)) : SeqAt.shaped (.list (ps.map prP)) = true := by
  have a := prP_depths ps
  unfold SeqAt.shaped
  rw [Bool.and_eq_true]
  refine ⟨?_, decide_eq_true ?_⟩
  · simp only [PyData.canLay0]
    exact prP_lays ps
  · simp only [PyData.depth]
    omega
theorem prP_eqv (z t : Nat × Nat) : PyData.eqv (prP z) (prP t) = decide (t = z) := by
  obtain ⟨a, b⟩ := z
  obtain ⟨c, d⟩ := t
  have e : PyData.eqv (prP (a, b)) (prP (c, d)) = (((a : Int) == (c : Int)) && (((b : Int) == (d : Int)) && true)) := by simp only [prP, PyData.eqv, PyData.eqvAll]
  rw [e]
  by_cases h1 : a = c
  · by_cases h2 : b = d
    · subst h1 h2
      simp
    · rw [show ((b : Int) == (d : Int)) = false by simpa using fun q => h2 (Int.ofNat.inj q)]
      rw [decide_eq_false fun q => h2 (Prod.mk.inj q).2.symm]
      simp
  · rw [show ((a : Int) == (c : Int)) = false by simpa using fun q => h1 (Int.ofNat.inj q)]
    rw [decide_eq_false fun q => h1 (Prod.mk.inj q).1.symm]
    simp
theorem prP_any (t : Nat × Nat) : ∀ ps : List (Nat × Nat), ((ps.map prP).any fun z => PyData.eqv z (prP t)) = decide (t ∈ ps)
  | [] => by simp
  | p :: ps => by
    rw [List.map_cons, List.any_cons, prP_any t ps, prP_eqv]
    by_cases e : t = p
    · subst e
      simp
    · rw [decide_eq_false e, Bool.false_or]
      by_cases m : t ∈ ps
      · rw [decide_eq_true m, decide_eq_true (List.mem_cons_of_mem _ m)]
      · rw [decide_eq_false m, decide_eq_false]
        intro z
        rcases List.mem_cons.mp z with z | z
        · exact e z
        · exact m z
theorem dpAll_of {K : PySem.W.Frag} {H : Hp} : ∀ {qs : List Addr} {ps : List (Nat × Nat)}, qs.length = ps.length → (∀ (i : Nat) q p, qs[i]? = some q → ps[i]? = some p → H q = some (.tup [.int (p.1 : Int), .int (p.2 : Int)])) → DpAll K H (qs.map V.ref) (ps.map prP)
  | [], [], _, _ => .nil
  | q :: qs, p :: ps, h, k => by
    have k0 := k 0 q p rfl rfl
    refine .cons (.tup (.inl (.inl k0)) (.cons (.int _) (.cons (.int _) .nil))) (dpAll_of (by simpa using h) fun i q' p' h1 h2 => k (i + 1) q' p' (by simpa using h1) (by simpa using h2))
  | [], p :: ps, h, _ => by simp at h
  | q :: qs, [], h, _ => by simp at h

/-- the two lists: pairs at a, lists of letters at b -/
structure PairsAt (H : Hp) (a b : Addr) (qs ls : List Addr) (ps : List (Nat × Nat)) : Prop where
  pa : H a = some (.lst (qs.map V.ref))
  ql : qs.length = ps.length
  each : ∀ (i : Nat) q p, qs[i]? = some q → ps[i]? = some p → H q = some (.tup [.int (p.1 : Int), .int (p.2 : Int)])
  pb : H b = some (.lst (ls.map V.ref))
  ll : ls.length = ps.length
  lists : ∀ l ∈ ls, l ≠ a ∧ l ≠ b ∧ ∃ zs, H l = some (.lst zs) ∧ zs.length < ps.length
theorem PairsAt.same {H H' : Hp} {a b : Addr} {qs ls : List Addr} {ps : List (Nat × Nat)} (h : PairsAt H a b qs ls ps) (s : Same H H') : PairsAt H' a b qs ls ps :=
  ⟨s _ _ h.pa, h.ql, fun i q p h1 h2 => s _ _ (h.each i q p h1 h2), s _ _ h.pb, h.ll, fun l hl => by
    obtain ⟨h1, h2, zs, h3, h4⟩ := h.lists l hl
    exact ⟨h1, h2, zs, s _ _ h3, h4⟩⟩
theorem PairsAt.push {HT H5 : Hp} {a b T p : Addr} {qs ls : List Addr} {ps : List (Nat × Nat)} {t : Nat × Nat} {ws : List V} (h : PairsAt HT a b qs ls ps) (nab : a ≠ b) (hT : HT T = some (.tup [.int (t.1 : Int), .int (t.2 : Int)]))
    (s : Same (upd HT a (.lst (qs.map V.ref ++ [.ref T]))) H5) (hp : H5 p = some (.lst ws)) (hpa : p ≠ a) (hpb : p ≠ b) (hw : ws.length < ps.length + 1) :
    PairsAt (upd H5 b (.lst (ls.map V.ref ++ [.ref p]))) a b (qs ++ [T]) (ls ++ [p]) (ps ++ [t]) := by
  have hb5 : H5 b = some (.lst (ls.map V.ref)) := s _ _ ((upd_ne nab.symm).trans h.pb)
  have tk : Tk HT (upd H5 b (.lst (ls.map V.ref ++ [.ref p]))) := (tk_lst h.pa).trans (s.tk.trans (tk_lst hb5))
  have ql := h.ql
  have ll := h.ll
  refine ⟨?_, ?_, fun i q pr h1 h2 => ?_, ?_, ?_, fun l hl => ?_⟩
  · rw [upd_ne nab, s _ _ upd_same, List.map_append]
    rfl
  · rw [List.length_append, List.length_append, ql]
    rfl
  · by_cases hi : i < qs.length
    · rw [List.getElem?_append_left hi] at h1
      rw [List.getElem?_append_left (by omega)] at h2
      exact tk _ _ (h.each i q pr h1 h2)
    · have ei : i = qs.length := by
        have z := at_lt h1
        rw [List.length_append, List.length_singleton] at z
        omega
      subst ei
      rw [List.getElem?_append_right (Nat.le_refl _), Nat.sub_self] at h1
      rw [List.getElem?_append_right (by omega), ql, Nat.sub_self] at h2
      have e1 : T = q := Option.some.inj h1
      have e2 : t = pr := Option.some.inj h2
      subst e1 e2
      exact tk _ _ hT
  · rw [upd_same, List.map_append]
    rfl
  · rw [List.length_append, List.length_append, ll]
    rfl
  · rw [List.length_append, List.length_singleton]
    rcases List.mem_append.mp hl with z | z
    · obtain ⟨k1, k2, zs, k3, k4⟩ := h.lists l z
      exact ⟨k1, k2, zs, by rw [upd_ne k2]; exact s _ _ ((upd_ne k1).trans k3), by omega⟩
    · rw [List.mem_singleton] at z
      subst z
      exact ⟨hpa, hpb, ws, by rw [upd_ne hpb]; exact hp, hw⟩
theorem nx_at {M : FW.Mac} {L x i : Nat} (o : FW.Ok M L) (hx : x < M.rows.length) (hi : i < L) : (FW.row M x)[i]? = some (FW.nx M x i) := by
  have e := FW.row_len o hx
  unfold FW.nx
  rw [List.getD_eq_getElem?_getD, List.getElem?_eq_getElem (by omega)]
  rfl
section
variable {P : Program} {w : World} {K : PySem.W.Frag} {mg : Str → Option Value} {base : Heap}
theorem ok_parted {f : Addr} {fd : FuncData} (F : Fun K "_law_parted" "_law_parted" sParted f fd) (ml : mg "len" = none) (mr : mg "range" = none) : FnOk P w K mg base CX0 1 f fd ["_law_one", "_law_other"] spParted := by
  refine F.ok scParted (fun vs H Q E h => ?_) (fun cdv A outer s H vs Q E hr h => ?_)
  · obtain ⟨v, u, M, N, L, rfl, _⟩ := h
    rfl
  · obtain ⟨v, u, M, N, L, rfl, hM, hN, okM, okN, n1, n2, L1, q1, q2⟩ := h
    obtain ⟨m, r, sg, bs, rfl, hM⟩ := hM
    obtain ⟨m', r', sg', bs', rfl, hN⟩ := hN
    have hu : (A.deeper (envOfC "_law_parted" (defScope sParted) s.heap.objs.size f cdv)).units + 65 < cLine := by
      have := hr.un
      omega
    refine ⟨_, pss_cons (ps_set (i := 2) scParted.nd rfl (.inl rfl) (pe_lst (pa_cons (pe_tup (pa_cons pe_int (pa_cons pe_int pa_nil))) pa_nil)))
      (pss_cons (ps_set (i := 3) scParted.nd rfl (.inl rfl) (pe_lst (pa_cons (pe_lst pa_nil) pa_nil)))
      (pss_cons (ps_set (i := 4) scParted.nd rfl (.inl rfl) pe_int)
      (pss_cons (ps_while PassesOwn.never (pt_cmpR op_lt (pv 4) (pe_callB call_len_seq (by rfl) ml PySem.boot_len (pa_cons (pv 2) pa_nil)) (nomark _))
        (pss_cons (ps_set (i := 5) scParted.nd rfl (.inl rfl) (pe_ix ix_list (pv 2) (pv 4) (fun _ _ => rfl)))
        (pss_cons (ps_if (pt_cmpR op_ne (pe_ix ix_tup (pe_ix ix_tup (pv 0) pe_int (fun _ _ => rfl)) (pe_ix ix_tup (pv 5) pe_int (fun _ _ => rfl)) (fun _ _ => rfl))
            (pe_ix ix_tup (pe_ix ix_tup (pv 1) pe_int (fun _ _ => rfl)) (pe_ix ix_tup (pv 5) pe_int (fun _ _ => rfl)) (fun _ _ => rfl)) (nomark _)) (pss_one (ps_ret (pe_ix ix_list (pv 3) (pv 4) (fun _ _ => rfl)))) pss_nil)
        (pss_cons (ps_for PassesOwn.never rfl (pi_range1 (by rfl) mr (pa_cons (pe_callB call_len_seq (by rfl) ml PySem.boot_len (pa_cons (pe_ix ix_tup (pe_ix ix_tup (pv 0) pe_int (fun _ _ => rfl)) pe_int (fun _ _ => rfl)) pa_nil)) pa_nil)) (pg_name (i := 6) scParted.nd rfl (.inl rfl))
          (pss_cons (ps_set (i := 7) scParted.nd rfl (.inl rfl) (pe_tup (pa_cons
              (pe_ix ix_tup (pe_ix ix_tup (pe_ix ix_tup (pv 0) pe_int (fun _ _ => rfl)) (pe_ix ix_tup (pv 5) pe_int (fun _ _ => rfl)) (fun _ _ => rfl)) (pv 6) (fun _ _ => rfl)) (pa_cons
              (pe_ix ix_tup (pe_ix ix_tup (pe_ix ix_tup (pv 1) pe_int (fun _ _ => rfl)) (pe_ix ix_tup (pv 5) pe_int (fun _ _ => rfl)) (fun _ _ => rfl)) (pv 6) (fun _ _ => rfl)) pa_nil))))
          (pss_one (ps_if (pt_cmpR (op_notInD hu) (pv 7) (pv 2) rfl)
            (pss_cons (ps_expr (pe_bm PySem.F.plainAttrs_list PySem.F.slot_list_append PySem.F.type_list_append mt_append (pv 2) (pa_cons (pv 7) pa_nil)))
            (pss_one (ps_expr (pe_bm PySem.F.plainAttrs_list PySem.F.slot_list_append PySem.F.type_list_append mt_append (pv 3) (pa_cons (pe_op op_cat (pe_ix ix_list (pv 3) (pv 4) (fun _ _ => rfl)) (pe_lst (pa_cons (pv 6) pa_nil))) pa_nil)))))
            pss_nil))))
        (pss_one (ps_set (i := 4) scParted.nd rfl (.inl rfl) (pe_op op_add (pv 4) pe_int)))))))
      (pss_one (ps_ret pe_non))))), ?_⟩
    have bm := Nat.mul_le_mul n1 n2
    -- pairs = [(0, 0)]
    refine ⟨by show 2 ≤ sizeLine; decide, fun t0 ht0 => ⟨by show 1 ≤ sizeLine; decide, fun a ha => ?_⟩⟩
    have s1 : Same H (upd H t0 (.tup [.int 0, .int 0])) := same_new ht0
    have s2 := s1.trans (same_new (o := .lst [.ref t0]) ha)
    have ha0 : H a = none := s1.free ha
    -- lists = [[]]
    refine ⟨Nat.zero_le _, fun l0 hl0 => ⟨by show 1 ≤ sizeLine; decide, fun b hb => ?_⟩⟩
    have s3 := s2.trans (same_new (o := .lst []) hl0)
    have s4 := s3.trans (same_new (o := .lst [.ref l0]) hb)
    have hb0 : H b = none := s3.free hb
    have nta : t0 ≠ a := ne_of_none upd_same ha
    have nal : a ≠ l0 := ne_of_none upd_same hl0
    have nlb : l0 ≠ b := ne_of_none upd_same hb
    have nab : a ≠ b := ne_of_none ((same_new hl0) _ _ upd_same) hb
    -- the while
    refine ⟨fun mm σ H' => ∃ (k : Nat) (y5 y6 y7 : Option V) (qs ls : List Addr) (ps : List (Nat × Nat)), mm = M.rows.length * N.rows.length - k ∧ k ≤ ps.length ∧
        σ = [some (.ref m), some (.ref m'), some (.ref a), some (.ref b), some (.int (k : Int)), y5, y6, y7] ∧ Same H H' ∧ PairsAt H' a b qs ls ps ∧ FW.Pst M N L k ps,
      ⟨_, 0, none, none, none, [t0], [l0], [(0, 0)], rfl, Nat.zero_le _, rfl, s4, ⟨?_, rfl, fun i q p h1 h2 => ?_, upd_same, rfl, fun l hl => ?_⟩, FW.Pst.start okM okN⟩, ?_⟩
    · exact ((same_new hl0).trans (same_new hb)) _ _ upd_same
    · have hi := at_lt h1
      have e0 : i = 0 := by
        rw [List.length_singleton] at hi
        omega
      subst e0
      have e1 : t0 = q := Option.some.inj h1
      have e2 : (0, 0) = p := Option.some.inj h2
      subst e1 e2
      exact ((same_new ha).trans ((same_new hl0).trans (same_new hb))) _ _ upd_same
    · rw [List.mem_singleton] at hl
      subst hl
      exact ⟨Ne.symm nal, nlb, [], (same_new hb) _ _ upd_same, by decide⟩
    rintro mm σ H' ⟨k, y5, y6, y7, qs, ls, ps, rfl, kl, rfl, sm, hP, st⟩
    have pl := st.len
    refine ⟨_, rfl, _, rfl, a, _, rfl, .inl (SqL.of hP.pa), _, _, rfl, rfl, _, rfl, ?_⟩
    rw [List.length_map, hP.ql]
    refine ite2 (fun hc => ?_) (fun hc => ?_)
    · have hlt : k < ps.length := by
        have z := of_decide_eq_true hc
        omega
      have hp : ps[k]? = some ps[k] := List.getElem?_eq_getElem hlt
      have hq : qs[k]? = some (qs[k]'(by have := hP.ql; omega)) := List.getElem?_eq_getElem (by have := hP.ql; omega)
      have hl : ls[k]? = some (ls[k]'(by have := hP.ll; omega)) := List.getElem?_eq_getElem (by have := hP.ll; omega)
      generalize ps[k] = pr at hp
      generalize qs[k]'(by have := hP.ql; omega) = qk at hq
      generalize ls[k]'(by have := hP.ll; omega) = lk at hl
      obtain ⟨x, y⟩ := pr
      have hqk := hP.each k qk (x, y) hq hp
      have hpm := List.mem_of_getElem? hp
      have low := st.low _ hpm
      obtain ⟨nlka, nlkb, zs, hlk, zl⟩ := hP.lists lk (List.mem_of_getElem? hl)
      obtain ⟨bx, hbx, hBX⟩ := hM.bs_at low.1
      obtain ⟨by_, hby, hBY⟩ := hN.bs_at low.2
      obtain ⟨rb0, hrb0, hRB0⟩ := hM.bs_at okM.pos
      have row0 := FW.row_len okM okM.pos
      refine ⟨fun σ' H'' => ∃ (y5 y6 y7 : Option V) (qs ls : List Addr) (ps : List (Nat × Nat)), k + 1 ≤ ps.length ∧ σ' = [some (.ref m), some (.ref m'), some (.ref a), some (.ref b), some (.int ((k + 1 : Nat) : Int)), y5, y6, y7] ∧ Same H H'' ∧ PairsAt H'' a b qs ls ps ∧ FW.Pst M N L (k + 1) ps,
        fun σ' H'' ⟨z5, z6, z7, qs', ls', ps', e0, e1, e2, e3, e4⟩ => ⟨_, ?_, k + 1, z5, z6, z7, qs', ls', ps', rfl, e0, e1, e2, e3, e4⟩, ?_⟩
      · omega
      -- pair = pairs[at]
      refine ⟨_, rfl, _, rfl, a, _, _, _, rfl, rfl, SqL.of hP.pa, atI_nat (map_at hq), ?_⟩
      -- the signs
      refine ⟨_, rfl, m, _, 1, _, rfl, rfl, .inl (.inl (sm _ _ hM.top)), atI_nat (j := 1) rfl, _, rfl, qk, _, 0, _, rfl, rfl, .inl (.inl hqk), atI_nat (j := 0) rfl, sg, _, _, _, rfl, rfl, .inl (.inl (sm _ _ hM.signs)), atI_nat (map_at (FW.sg_at okM low.1)),
        _, rfl, m', _, 1, _, rfl, rfl, .inl (.inl (sm _ _ hN.top)), atI_nat (j := 1) rfl, _, rfl, qk, _, 1, _, rfl, rfl, .inl (.inl hqk), atI_nat (j := 1) rfl, sg', _, _, _, rfl, rfl, .inl (.inl (sm _ _ hN.signs)), atI_nat (map_at (FW.sg_at okN low.2)), rfl, _, rfl, ?_⟩
      by_cases hs : FW.sg M x = FW.sg N y
      · rw [decide_eq_true (show V.int (FW.sg M x) = V.int (FW.sg N y) by rw [hs])]
        refine iteF ?_
        -- the letters
        refine ⟨_, rfl, m, _, 0, _, rfl, rfl, .inl (.inl (sm _ _ hM.top)), atI_nat (j := 0) rfl, r, _, 0, _, rfl, rfl, .inl (.inl (sm _ _ hM.rows)), atI_nat (j := 0) (map_at hrb0), rb0, _, rfl, .inr (.inl (.inl (sm _ _ hRB0))), _, rfl, ?_⟩
        rw [natV_len, row0]
        refine ⟨by omega, by omega, for_range (lo := 0) (n := L)
          (fun i σ H2 => ∃ (y6 y7 : Option V) (qs ls : List Addr) (ps : List (Nat × Nat)), σ = [some (.ref m), some (.ref m'), some (.ref a), some (.ref b), some (.int (k : Int)), some (.ref qk), y6, y7] ∧ Same H H2 ∧ PairsAt H2 a b qs ls ps ∧ FW.Pst M N L k ps ∧
            ps[k]? = some (x, y) ∧ qs[k]? = some qk ∧ ls[k]? = some lk ∧ ∀ l, l < i → (FW.nx M x l, FW.nx N y l) ∈ ps)
          ⟨_, _, qs, ls, ps, rfl, sm, hP, st, hp, hq, hl, fun l h => absurd h (Nat.not_lt_zero _)⟩ ?_ ?_⟩
        · rintro i σ H2 hi ⟨z6, z7, qs, ls, ps, rfl, sm2, hP2, st2, hp2, hq2, hl2, hall⟩
          have hqk2 := hP2.each k qk (x, y) hq2 hp2
          have hpm2 := List.mem_of_getElem? hp2
          have pl2 := st2.len
          have klt := at_lt hp2
          -- there = (.., ..)
          refine ⟨_, rfl, m, _, 0, _, rfl, rfl, .inl (.inl (sm2 _ _ hM.top)), atI_nat (j := 0) rfl, _, rfl, qk, _, 0, _, rfl, rfl, .inl (.inl hqk2), atI_nat (j := 0) rfl, r, _, _, _, rfl, rfl, .inl (.inl (sm2 _ _ hM.rows)), atI_nat (map_at hbx), _, rfl, bx, _, _, _, rfl, rfl, .inl (.inl (sm2 _ _ hBX)), (by rw [Int.zero_add]; exact atI_nat (natV_at (nx_at okM low.1 hi))),
            _, rfl, m', _, 0, _, rfl, rfl, .inl (.inl (sm2 _ _ hN.top)), atI_nat (j := 0) rfl, _, rfl, qk, _, 1, _, rfl, rfl, .inl (.inl hqk2), atI_nat (j := 1) rfl, r', _, _, _, rfl, rfl, .inl (.inl (sm2 _ _ hN.rows)), atI_nat (map_at hby), _, rfl, by_, _, _, _, rfl, rfl, .inl (.inl (sm2 _ _ hBY)), (by rw [Int.zero_add]; exact atI_nat (natV_at (nx_at okN low.2 hi))),
            by show 2 ≤ sizeLine; decide, fun T hT => ?_⟩
          have sT : Same H2 (upd H2 T (.tup [.int (FW.nx M x i : Int), .int (FW.nx N y i : Int)])) := same_new hT
          have hPT := hP2.same sT
          have tT : upd H2 T (.tup [.int (FW.nx M x i : Int), .int (FW.nx N y i : Int)]) T = some (.tup [.int (FW.nx M x i : Int), .int (FW.nx N y i : Int)]) := upd_same
          have smT := sm2.trans sT
          have stp := st2.put okM okN klt hpm2 hi
          generalize upd H2 T (.tup [.int (FW.nx M x i : Int), .int (FW.nx N y i : Int)]) = HT at *
          -- if there not in pairs
          refine ⟨_, rfl, _, rfl, prP (FW.nx M x i, FW.nx N y i), ps.map prP, .tup (.inl (.inl tT)) (.cons (.int _) (.cons (.int _) .nil)), .lst (SqL.of hPT.pa) (dpAll_of hPT.ql hPT.each), prP_shaped _, prP_shapeds _, _, rfl, ?_⟩
          rw [prP_any]
          by_cases mem : (FW.nx M x i, FW.nx N y i) ∈ ps
          · rw [decide_eq_true mem]
            refine iteF ⟨_, _, qs, ls, ps, rfl, smT, hPT, st2, hp2, hq2, hl2, fun l h => ?_⟩
            by_cases e : l = i
            · subst e
              exact mem
            · exact hall l (by omega)
          · rw [decide_eq_false mem]
            refine iteT ?_
            have ep : FW.put ps (FW.nx M x i, FW.nx N y i) = ps ++ [(FW.nx M x i, FW.nx N y i)] := by
              unfold FW.put
              rw [if_neg mem]
            rw [ep] at stp
            -- pairs.append(there)
            refine ⟨_, rfl, .inl ⟨rfl, _, SqL.of hPT.pa⟩, _, rfl, a, _, _, rfl, rfl, hPT.pa, ?_, ?_⟩
            · rw [List.length_map, hPT.ql]
              exact line (by omega)
            have hb3 : upd HT a (.lst (qs.map V.ref ++ [.ref T])) b = some (.lst (ls.map V.ref)) := (upd_ne nab.symm).trans hPT.pb
            obtain ⟨nka, nkb, ws, hws, wl⟩ := hPT.lists lk (List.mem_of_getElem? hl2)
            have hk3 : upd HT a (.lst (qs.map V.ref ++ [.ref T])) lk = some (.lst ws) := (upd_ne nka).trans hws
            have ha3 : upd HT a (.lst (qs.map V.ref ++ [.ref T])) a = some (.lst (qs.map V.ref ++ [.ref T])) := upd_same
            have sm3 : Same H (upd HT a (.lst (qs.map V.ref ++ [.ref T]))) := smT.put ha0
            -- lists.append(lists[at] + [letter])
            refine ⟨_, rfl, .inl ⟨rfl, _, SqL.of hb3⟩, _, rfl, _, rfl, b, _, _, _, rfl, rfl, SqL.of hb3, atI_nat (map_at hl2), _, rfl, by show 1 ≤ sizeLine; decide, fun z hz => ?_⟩
            have sz := same_new (o := .lst [V.int (0 + (i : Int))]) hz
            refine ⟨lk, z, ws, [V.int (0 + (i : Int))], rfl, rfl, sz _ _ hk3, upd_same, ?_, fun p hp5 => ?_⟩
            · rw [List.length_singleton]
              exact lineLe (by omega)
            have s5 := sz.trans (same_new (o := .lst (ws ++ [V.int (0 + (i : Int))])) hp5)
            refine ⟨b, _, _, rfl, rfl, s5 _ _ hb3, ?_, ?_⟩
            · rw [List.length_map, hPT.ll]
              exact line (by omega)
            · have npa : p ≠ a := Ne.symm (ne_of_none (sz _ _ ha3) hp5)
              have npb : p ≠ b := Ne.symm (ne_of_none (sz _ _ hb3) hp5)
              refine ⟨_, _, qs ++ [T], ls ++ [p], ps ++ [(FW.nx M x i, FW.nx N y i)], rfl, (sm3.trans s5).put hb0, ?_, stp, ?_, ?_, ?_, fun l h => ?_⟩
              · refine hPT.push nab tT s5 upd_same npa npb ?_
                rw [List.length_append, List.length_singleton]
                omega
              · rw [List.getElem?_append_left klt]
                exact hp2
              · rw [List.getElem?_append_left (at_lt hq2)]
                exact hq2
              · rw [List.getElem?_append_left (at_lt hl2)]
                exact hl2
              · by_cases e : l = i
                · subst e
                  exact List.mem_append_right _ (List.mem_singleton.mpr rfl)
                · exact List.mem_append_left _ (hall l (by omega))
        · rintro σ H2 ⟨z6, z7, qs, ls, ps, rfl, sm2, hP2, st2, hp2, hq2, hl2, hall⟩
          have klt := at_lt hp2
          exact ⟨_, rfl, _, _, rfl, rfl, _, _, _, qs, ls, ps, klt, rfl, sm2, hP2, st2.next hp2 hs hall⟩
      · rw [decide_eq_false (show ¬ V.int (FW.sg M x) = V.int (FW.sg N y) from fun e => hs (V.int.inj e))]
        refine iteT ?_
        exact ⟨_, rfl, _, rfl, b, _, _, _, rfl, rfl, SqL.of hP.pb, atI_nat (map_at hl), q2 H' lk sm (st.apart hpm hs)⟩
    · have hge : ps.length ≤ k := by
        by_cases z : k < ps.length
        · exact absurd (decide_eq_true (by omega)) hc
        · omega
      exact q1 H' sm (st.alike hge)
end
end FwP

namespace FwP
open PySem PySem.Spec PyProof.Rows L2 FwR
/-! ### machines as data -/
theorem layAll : ∀ {ds : List PyData}, (∀ d ∈ ds, d.canLay0 = true) → PyData.canLayAll0 ds = true
  | [], _ => by simp [PyData.canLayAll0]
  | d :: ds, h => by
    simp only [PyData.canLayAll0, h d List.mem_cons_self, layAll fun e he => h e (List.mem_cons_of_mem _ he)]
    rfl
theorem depthAll_le {k : Nat} : ∀ {ds : List PyData}, (∀ d ∈ ds, d.depth ≤ k) → PyData.depthAll ds ≤ k
  | [], _ => by simp [PyData.depthAll]
  | d :: ds, h => by
    have a := h d List.mem_cons_self
    have b := depthAll_le fun e he => h e (List.mem_cons_of_mem _ he)
    simp only [PyData.depthAll]
    omega
theorem eqvAll_map {α : Type} [DecidableEq α] {f : α → PyData} (h : ∀ a b, PyData.eqv (f a) (f b) = decide (a = b)) : ∀ xs ys : List α, PyData.eqvAll (xs.map f) (ys.map f) = decide (xs = ys)
  | [], [] => by simp [PyData.eqvAll]
  | [], y :: ys => by simp [PyData.eqvAll]
  | x :: xs, [] => by simp [PyData.eqvAll]
  | x :: xs, y :: ys => by
    rw [List.map_cons, List.map_cons]
    simp only [PyData.eqvAll]
    rw [h x y, eqvAll_map h xs ys]
    by_cases e1 : x = y
    · by_cases e2 : xs = ys
      · subst e1 e2
        simp
      · rw [decide_eq_false e2, decide_eq_false fun q => e2 (List.cons.inj q).2, Bool.and_false]
    · rw [decide_eq_false e1, decide_eq_false fun q => e1 (List.cons.inj q).1, Bool.false_and]
def rowD (r : List Nat) : PyData := .tuple (r.map fun (n : Nat) => .int (n : Int))
def macD (M : FW.Mac) : PyData := .tuple [.tuple (M.rows.map rowD), .tuple (M.signs.map fun i => .int i)]
theorem rowD_eqv (a b : List Nat) : PyData.eqv (rowD a) (rowD b) = decide (a = b) := by
  unfold rowD
  simp only [PyData.eqv]
  refine eqvAll_map (fun x y => ?_) a b
  simp only [PyData.eqv]
  by_cases e : x = y
  · subst e
    simp
  · rw [decide_eq_false e]
    simpa using fun q => e (Int.ofNat.inj q)
theorem macD_eqv (M N : FW.Mac) : PyData.eqv (macD M) (macD N) = (decide (M.rows = N.rows) && decide (M.signs = N.signs)) := by
  unfold macD
  simp only [PyData.eqv, PyData.eqvAll]
  rw [eqvAll_map rowD_eqv, eqvAll_map (f := fun (i : Int) => PyData.int i) (fun x y => by
    simp only [PyData.eqv]
    exact Bool.beq_eq_decide_eq x y), Bool.and_true]
theorem macD_eq {M N : FW.Mac} (h : M = N) : PyData.eqv (macD M) (macD N) = true := by
  subst h
  rw [macD_eqv]
  simp
theorem macD_ne {M N : FW.Mac} (h : M ≠ N) : PyData.eqv (macD M) (macD N) = false := by
  rw [macD_eqv]
  cases M with
  | mk a b =>
    cases N with
    | mk c d =>
      by_cases h1 : a = c
      · by_cases h2 : b = d
        · subst h1 h2
          exact absurd rfl h
        · simp [h2]
      · simp [h1]
theorem rowD_lay (r : List Nat) : (rowD r).canLay0 = true := by
  unfold rowD
  simp only [PyData.canLay0]
  refine layAll fun d hd => ?_
  obtain ⟨n, _, rfl⟩ := List.mem_map.mp hd
  simp only [PyData.canLay0]
theorem rowD_depth (r : List Nat) : (rowD r).depth ≤ 1 := by
  unfold rowD
  simp only [PyData.depth]
  have z : PyData.depthAll (r.map fun (n : Nat) => .int (n : Int)) ≤ 0 := depthAll_le fun d hd => by
    obtain ⟨n, _, rfl⟩ := List.mem_map.mp hd
    simp only [PyData.depth]
    omega
  omega
theorem macD_shaped (M : FW.Mac) : SeqAt.shaped (macD M) = true := by
  unfold SeqAt.shaped
  rw [Bool.and_eq_true]
  refine ⟨?_, decide_eq_true ?_⟩
  · unfold macD
    simp only [PyData.canLay0, PyData.canLayAll0, Bool.and_eq_true]
    refine ⟨layAll fun d hd => ?_, layAll fun d hd => ?_, trivial⟩
    · obtain ⟨r, _, rfl⟩ := List.mem_map.mp hd
      exact rowD_lay r
    · obtain ⟨r, _, rfl⟩ := List.mem_map.mp hd
      simp only [PyData.canLay0]
  · unfold macD
    simp only [PyData.depth, PyData.depthAll]
    have z1 : PyData.depthAll (M.rows.map rowD) ≤ 1 := depthAll_le fun d hd => by
      obtain ⟨r, _, rfl⟩ := List.mem_map.mp hd
      exact rowD_depth r
    have z2 : PyData.depthAll (M.signs.map fun i => PyData.int i) ≤ 0 := depthAll_le fun d hd => by
      obtain ⟨r, _, rfl⟩ := List.mem_map.mp hd
      simp only [PyData.depth]
      omega
    omega
theorem dpInts {K : PySem.W.Frag} {H : Hp} : ∀ xs : List Int, DpAll K H (xs.map V.int) (xs.map fun i => .int i)
  | [] => .nil
  | x :: xs => .cons (.int x) (dpInts xs)
theorem dpNats {K : PySem.W.Frag} {H : Hp} : ∀ xs : List Nat, DpAll K H (natV xs) (xs.map fun (n : Nat) => .int (n : Int))
  | [] => .nil
  | x :: xs => .cons (.int _) (dpNats xs)
theorem dpRows {K : PySem.W.Frag} {H : Hp} : ∀ {bs : List Addr} {rows : List (List Nat)}, RowsAt H bs rows → DpAll K H (bs.map V.ref) (rows.map rowD)
  | [], [], _ => .nil
  | b :: bs, r :: rows, h => by
    have h0 := h.2 0 b rfl
    refine .cons (.tup (.inl (.inl h0)) (dpNats r)) (dpRows ⟨by have := h.1; simpa using this, fun i c hc => ?_⟩)
    have q := h.2 (i + 1) c (by simpa using hc)
    rw [List.getD_cons_succ] at q
    exact q
  | [], r :: rows, h => by have := h.1; simp at this
  | b :: bs, [], h => by have := h.1; simp at this
theorem dpMac {K : PySem.W.Frag} {H : Hp} {v : V} {M : FW.Mac} (h : MacAt H v M) : Dp K H v (macD M) := by
  obtain ⟨m, r, s, bs, rfl, h⟩ := h
  exact .tup (.inl (.inl h.top)) (.cons (.tup (.inl (.inl h.rows)) (dpRows h.each)) (.cons (.tup (.inl (.inl h.signs)) (dpInts _)) .nil))
theorem ixN_nat {n j : Nat} (h : j < n) : ixN n (j : Int) = some j := by
  unfold ixN
  rw [if_pos (by omega), if_pos (by omega)]
  rfl

/-! ### the law -/
def spLaw (K : PySem.W.Frag) : Sp := fun vs H Q _ => ∃ (a : Addr) (ns : List Int), vs = [.ref a] ∧ SqL K H a (ns.map V.int) ∧ ns.length ≤ 63 ∧ ∀ H', Q (.bl true) H'
/-- what stands of the text and the built-ins -/
structure Txt (K : PySem.W.Frag) (mg : Str → Option Value) : Prop where
  asR : ∃ f fd, Fun K "as_reached" "as_reached" sAsR f fd ∧ Binds K fd ["machine"] [] ∧ mg "as_reached" = some (.ref f)
  num : ∃ f fd, Fun K "numbered" "numbered" sNum f fd ∧ Binds K fd ["keys"] [] ∧ mg "numbered" = some (.ref f)
  lots : ∃ f fd, Fun K "lots_of" "lots_of" sLots f fd ∧ Binds K fd ["machine"] [] ∧ mg "lots_of" = some (.ref f)
  least : ∃ f fd, Fun K "least" "least" sLeast f fd ∧ Binds K fd ["machine"] [] ∧ mg "least" = some (.ref f)
  draw : ∃ f fd, Fun K "_law_draw" "_law_draw" sDraw f fd ∧ Binds K fd ["_law_script", "_law_k"] [] ∧ mg "_law_draw" = some (.ref f)
  whole : ∃ f fd, Fun K "_law_whole" "_law_whole" sWhole f fd ∧ Binds K fd ["_law_found"] [] ∧ mg "_law_whole" = some (.ref f)
  machBy : ∃ f fd, Fun K "_law_machine_by" "_law_machine_by" sMachBy f fd ∧ Binds K fd ["_law_script", "_law_at", "_law_rooms", "_law_letters", "_law_most"] [] ∧ mg "_law_machine_by" = some (.ref f)
  isM : ∃ f fd, Fun K "_law_is_machine" "_law_is_machine" sIsM f fd ∧ Binds K fd ["_law_found"] [] ∧ mg "_law_is_machine" = some (.ref f)
  reached : ∃ f fd, Fun K "_law_reached" "_law_reached" sReached f fd ∧ Binds K fd ["_law_machine"] [] ∧ mg "_law_reached" = some (.ref f)
  parted : ∃ f fd, Fun K "_law_parted" "_law_parted" sParted f fd ∧ Binds K fd ["_law_one", "_law_other"] [] ∧ mg "_law_parted" = some (.ref f)
  copied : ∃ f fd, Fun K "_law_copied" "_law_copied" sCopied f fd ∧ Binds K fd ["_law_script", "_law_machine", "_law_many"] [] ∧ mg "_law_copied" = some (.ref f)
  more : ∃ f fd, Fun K "_law_with_more" "_law_with_more" sMore f fd ∧ Binds K fd ["_law_script", "_law_machine", "_law_many"] [] ∧ mg "_law_with_more" = some (.ref f)
  called : ∃ f fd, Fun K "_law_called" "_law_called" sCalled f fd ∧ Binds K fd ["_law_machine", "_law_number"] [] ∧ mg "_law_called" = some (.ref f)
  ml : mg "len" = none
  mt : mg "tuple" = none
  ms : mg "set" = none
  me : mg "enumerate" = none
  mr : mg "range" = none
  mi : mg "isinstance" = none
  mn : mg "int" = none
  mb : mg "bool" = none
  ma : mg "all" = none
  mlst : mg "list" = none
section
variable {P : Program} {w : World} {K : PySem.W.Frag} {mg : Str → Option Value} {base : Heap}
theorem ok_law {f : Addr} {fd : FuncData} (F : Fun K "law" "law" sLaw f fd) (T : Txt K mg) : FnOk P w K mg base CX0 4 f fd ["_law_script"] (spLaw K) := by
  obtain ⟨fA, fdA, FA, bA, gA⟩ := T.asR
  obtain ⟨fN, fdN, FN, bN, gN⟩ := T.num
  obtain ⟨fL, fdL, FL, bL, gL⟩ := T.lots
  obtain ⟨fE, fdE, FE, bE, gE⟩ := T.least
  obtain ⟨fD, fdD, FD, bD, gD⟩ := T.draw
  obtain ⟨fW, fdW, FW_, bW, gW⟩ := T.whole
  obtain ⟨fB, fdB, FB, bB, gB⟩ := T.machBy
  obtain ⟨fI, fdI, FI, bI, gI⟩ := T.isM
  obtain ⟨fR, fdR, FR, bR, gR⟩ := T.reached
  obtain ⟨fP, fdP, FP, bP, gP⟩ := T.parted
  obtain ⟨fC, fdC, FC, bC, gC⟩ := T.copied
  obtain ⟨fM, fdM, FM, bM, gM⟩ := T.more
  obtain ⟨fO, fdO, FO, bO, gO⟩ := T.called
  have GD : FnOk P w K mg base CX0 1 fD fdD ["_law_script", "_law_k"] (spDraw K) := ok_draw FD T.ml T.mr
  have GB : FnOk P w K mg base CX0 2 fB fdB ["_law_script", "_law_at", "_law_rooms", "_law_letters", "_law_most"] (spMachBy K) := ok_machBy FB FD bD gD T.ml T.mt T.mr
  have GC : FnOk P w K mg base CX0 2 fC fdC ["_law_script", "_law_machine", "_law_many"] (spCopied K) := ok_copied FC FD bD gD T.ml T.mt T.mr
  have GM : FnOk P w K mg base CX0 2 fM fdM ["_law_script", "_law_machine", "_law_many"] (spMore K) := ok_more FM FD bD gD T.ml T.mt T.mr T.mlst T.mn
  have GO : FnOk P w K mg base CX0 1 fO fdO ["_law_machine", "_law_number"] spCalled := ok_called FO T.ml T.mt T.mr
  have GE : FnOk P w K mg base CX0 3 fE fdE ["machine"] spLeast := ok_least FE FA bA gA FL bL gL FN bN gN T.ml T.mt T.ms T.me T.mr
  have GI : FnOk P w K mg base CX0 2 fI fdI ["_law_found"] spIsM := ok_isM FI FW_ bW gW T.mi T.mn T.mb T.ml T.mt T.ma
  have GR : FnOk P w K mg base CX0 1 fR fdR ["_law_machine"] spReached := ok_reached FR T.ml T.mt
  have GP : FnOk P w K mg base CX0 1 fP fdP ["_law_one", "_law_other"] spParted := ok_parted FP T.ml T.mr
  refine F.ok scLaw (fun vs H Q E h => ?_) (fun cdv A outer s H vs Q E hr h => ?_)
  · obtain ⟨a, ns, rfl, _⟩ := h
    rfl
  · obtain ⟨a, ns, rfl, hS, hns, q⟩ := h
    have hu : (A.deeper (envOfC "law" (defScope sLaw) s.heap.objs.size f cdv)).units + 64 < cLine := hr.units
    have hr1 : Room 1 (A.deeper (envOfC "law" (defScope sLaw) s.heap.objs.size f cdv)) := hr.mono (by decide)
    have hr2 : Room 2 (A.deeper (envOfC "law" (defScope sLaw) s.heap.objs.size f cdv)) := hr.mono (by decide)
    refine ⟨_, pss_cons (ps_set (i := 1) scLaw.nd rfl (.inl rfl) (pe_call GD hr1 (by rfl) gD FD.kp bD .nil pass0 (pa_cons (pv 0) (pa_cons pe_int pa_nil))))
      (pss_cons (ps_set (i := 2) scLaw.nd rfl (.inl rfl) (pe_op op_add pe_int (pe_op op_mod (pe_op op_fdiv (pv 1) pe_int) pe_int)))
      (pss_cons (ps_set (i := 3) scLaw.nd rfl (.inl rfl) (pe_call GB hr2 (by rfl) gB FB.kp bB .nil pass0 (pa_cons (pv 0) (pa_cons pe_int (pa_cons (pe_op op_add pe_int (pe_op op_mod (pv 1) pe_int)) (pa_cons (pv 2)
          (pa_cons (pe_ix ix_list (pe_lst (pa_cons pe_int (pa_cons pe_int pa_nil))) (pe_op op_mod (pe_op op_fdiv (pv 1) pe_int) pe_int) (fun _ _ => rfl)) pa_nil)))))))
      (pss_cons (ps_set (i := 4) scLaw.nd rfl (.inl rfl) (pe_call GC hr2 (by rfl) gC FC.kp bC .nil pass0 (pa_cons (pv 0) (pa_cons (pv 3) (pa_cons (pe_op op_add pe_int (pe_op op_mod (pe_op op_fdiv (pv 1) pe_int) pe_int)) pa_nil)))))
      (pss_cons (ps_join (ps_if (pt_cmpR op_eq (pe_op op_mod (pe_op op_fdiv (pv 1) pe_int) pe_int) pe_int (nomark _))
          (pss_one (ps_set (i := 4) scLaw.nd rfl (.inl rfl) (pe_call GM hr2 (by rfl) gM FM.kp bM .nil pass0 (pa_cons (pv 0) (pa_cons (pv 4) (pa_cons (pe_op op_mod (pe_op op_fdiv (pv 1) pe_int) pe_int) pa_nil)))))) pss_nil))
      (pss_cons (ps_set (i := 4) scLaw.nd rfl (.inl rfl) (pe_call GO hr1 (by rfl) gO FO.kp bO .nil pass0 (pa_cons (pv 4) (pa_cons (pe_call GD hr1 (by rfl) gD FD.kp bD .nil pass0 (pa_cons (pv 0) (pa_cons pe_int pa_nil))) pa_nil))))
      (pss_cons (ps_set (i := 5) scLaw.nd rfl (.inl rfl) (pe_call GD hr1 (by rfl) gD FD.kp bD .nil pass0 (pa_cons (pv 0) (pa_cons pe_int pa_nil))))
      (pss_cons (ps_join (ps_if (pt_cmpR op_eq (pe_op op_mod (pv 5) pe_int) pe_int (nomark _))
          (pss_cons (ps_set (i := 6) scLaw.nd rfl (.inl rfl) (pe_callTy call_list_of (by rfl) T.mlst PyProof.Rows.boot_list (pa_cons (pe_ix ix_tup (pv 4) pe_int (fun _ _ => rfl)) pa_nil)))
          (pss_cons (ps_set (i := 7) scLaw.nd rfl (.inl rfl) (pe_op op_mod (pe_op op_fdiv (pv 5) pe_int) (pe_callB call_len_seq (by rfl) T.ml PySem.boot_len (pa_cons (pv 6) pa_nil))))
          (pss_cons (ps_asg (pe_op op_mod (pe_op op_add (pe_op op_add (pe_ix ix_list (pv 6) (pv 7) (fun _ _ => rfl)) pe_int) (pe_op op_mod (pe_op op_fdiv (pv 5) pe_int) pe_int)) pe_int) (pg_sub (pv 6) (pv 7) set_list))
          (pss_one (ps_set (i := 4) scLaw.nd rfl (.inl rfl) (pe_tup (pa_cons (pe_ix ix_tup (pv 4) pe_int (fun _ _ => rfl)) (pa_cons (pe_callTy call_tuple_of (by rfl) T.mt PyProof.Rows.boot_tuple (pa_cons (pv 6) pa_nil)) pa_nil)))))))) pss_nil))
      (pss_cons (ps_set (i := 8) scLaw.nd rfl (.inl rfl) (pe_call GE hr (by rfl) gE FE.kp bE .nil pass0 (pa_cons (pv 3) pa_nil)))
      (pss_cons (ps_set (i := 9) scLaw.nd rfl (.inl rfl) (pe_call GE hr (by rfl) gE FE.kp bE .nil pass0 (pa_cons (pv 4) pa_nil)))
      (pss_cons (ps_if (PW.pt (pw_or (pt_not (pt_val (pe_call GI hr2 (by rfl) gI FI.kp bI .nil pass0 (pa_cons (pv 8) pa_nil)))) (pw_or1 (pt_not (pt_val (pe_call GI hr2 (by rfl) gI FI.kp bI .nil pass0 (pa_cons (pv 9) pa_nil))))))) (pss_one (ps_ret pe_bl)) pss_nil)
      (pss_cons (ps_if (pt_cmpR op_gt (pe_callB call_len_seq (by rfl) T.ml PySem.boot_len (pa_cons (pe_ix ix_tup (pv 9) pe_int (fun _ _ => rfl)) pa_nil))
          (pe_callB call_len_seq (by rfl) T.ml PySem.boot_len (pa_cons (pe_ix ix_tup (pe_call GR hr1 (by rfl) gR FR.kp bR .nil pass0 (pa_cons (pv 4) pa_nil)) pe_int (fun _ _ => rfl)) pa_nil)) (nomark _)) (pss_one (ps_ret pe_bl)) pss_nil)
      (pss_one (ps_ret (pe_cmpR op_eq (pe_cmpR (op_eqD hu) (pv 8) (pv 9) (nomark _)) (pe_cmp (pc_isN (pe_call GP hr1 (by rfl) gP FP.kp bP .nil pass0 (pa_cons (pv 3) (pa_cons (pv 4) pa_nil)))) rfl) (nomark _))))))))))))))), ?_⟩
    -- first
    refine ⟨_, rfl, a, ns, 0, rfl, hS, hns, by omega, by omega, fun d => ?_⟩
    obtain ⟨l0, l1, el⟩ := mod_room (d := d / 8) (n := 4) (by decide)
    obtain ⟨r0, r1, er⟩ := mod_room (d := d) (n := 8) (by decide)
    obtain ⟨c0, c1, ec⟩ := mod_room (d := d / 64) (n := 4) (by decide)
    obtain ⟨m0, m1, em⟩ := mod_room (d := d / 512) (n := 6) (by decide)
    have eL : (1 : Int) + d / 8 % 4 = ((1 + l0 : Nat) : Int) := by omega
    have eR : (1 : Int) + d % 8 = ((1 + r0 : Nat) : Int) := by omega
    have eC : (1 : Int) + d / 64 % 4 = ((1 + c0 : Nat) : Int) := by omega
    have eM : d / 512 % 6 = (m0 : Int) := em
    obtain ⟨mo, hmo, mo0, mo1⟩ : ∃ mo : Int, atI [V.int 2, V.int 4] (d / 32 % 2) = some (V.int mo) ∧ 0 < mo ∧ mo < 1000 := by
      have e : d / 32 % 2 = 0 ∨ d / 32 % 2 = 1 := by omega
      rcases e with e | e
      · rw [e]
        exact ⟨2, atI_nat (j := 0) rfl, by decide, by decide⟩
      · rw [e]
        exact ⟨4, atI_nat (j := 1) rfl, by decide, by decide⟩
    -- letters
    refine ⟨_, rfl, _, _, rfl, rfl, ⟨by decide, by decide⟩, _, _, rfl, rfl, (by show (0 : Int) < 4; decide), _, _, rfl, rfl, ?_⟩
    -- machine
    refine ⟨_, rfl, _, rfl, _, _, rfl, rfl, (by show (0 : Int) < 8; decide), _, _, rfl, rfl, _, rfl, by show 2 ≤ sizeLine; decide, fun p hp => ⟨_, rfl, _, _, rfl, rfl, ⟨by decide, by decide⟩, _, _, rfl, rfl, (by show (0 : Int) < 2; decide), p, _, _, V.int mo, rfl, rfl, SqL.of upd_same, hmo, ?_⟩⟩
    have sp1 : Same H (upd H p (.lst [V.int 2, V.int 4])) := same_new hp
    refine ⟨a, ns, 4, mo, 1 + r0, 1 + l0, ?_, sp1.seq hS, hns, by decide, by decide, by omega, by omega, by omega, by omega, mo0, mo1, fun H1 v3 M s1 hM okM nM => ?_⟩
    · show [V.ref a, V.int 4, V.int (1 + d % 8), V.int (1 + d / 8 % 4), V.int mo] = _
      rw [eL, eR]
    have sm1 := sp1.trans s1
    -- other = _law_copied(..)
    refine ⟨_, rfl, _, rfl, _, rfl, _, _, rfl, rfl, ⟨by decide, by decide⟩, _, _, rfl, rfl, (by show (0 : Int) < 4; decide), _, _, rfl, rfl, a, ns, v3, M, 1 + c0, 1 + l0, ?_, sm1.seq hS, hns, hM, okM, by omega, by omega, by omega, by omega, by omega, fun H2 v4 N s2 hN okN nN => ?_⟩
    · show [V.ref a, v3, V.int (1 + d / 64 % 4)] = _
      rw [eC]
    have sm2 := sm1.trans s2
    have hM2 := hM.tk s2.tk
    have nN2 : N.rows.length ≤ 32 := by
      rw [nN, nM]
      have := Nat.mul_le_mul (show 1 + r0 ≤ 8 by omega) (show 1 + c0 ≤ 4 by omega)
      omega
    -- perhaps more rooms
    refine ⟨fun σ' H' => ∃ (v4 : V) (N : FW.Mac), σ' = [some (.ref a), some (.int d), some (.int (1 + d / 8 % 4)), some v3, some v4, none, none, none, none, none] ∧ Same H H' ∧ MacAt H' v3 M ∧ MacAt H' v4 N ∧ FW.Ok N (1 + l0) ∧ N.rows.length ≤ 40, ?_, ?_⟩
    · refine ⟨_, rfl, _, _, rfl, rfl, ⟨by decide, by decide⟩, _, _, rfl, rfl, (by show (0 : Int) < 2; decide), rfl, _, rfl, ?_⟩
      refine ite2 (fun _ => ?_) (fun _ => ⟨v4, N, rfl, sm2, hM2, hN, okN, by omega⟩)
      refine ⟨_, rfl, _, rfl, _, rfl, _, _, rfl, rfl, ⟨by decide, by decide⟩, _, _, rfl, rfl, (by show (0 : Int) < 6; decide), a, ns, v4, N, m0, 1 + l0, ?_, sm2.seq hS, hns, hN, okN, by omega, by omega, by omega, fun H3 v5 N3 s3 hN3 okN3 nN3 => ?_⟩
      · show [V.ref a, v4, V.int (d / 512 % 6)] = _
        rw [eM]
      · exact ⟨v5, N3, rfl, sm2.trans s3, hM2.tk s3.tk, hN3, okN3, by omega⟩
    clear hN okN nN nN2 hM2 sm2 s2
    rintro σ H3 ⟨v4, N, rfl, sm3, hM3, hN3, okN, nN⟩
    -- other = _law_called(other, draw)
    refine ⟨_, rfl, _, rfl, a, ns, 2, rfl, sm3.seq hS, hns, by decide, by decide, fun d2 => ?_⟩
    refine ⟨v4, N, d2, 1 + l0, rfl, hN3, okN, by omega, by omega, fun H4 v5 N4 s4 hN4 okN4 nN4 => ?_⟩
    have sm4 := sm3.trans s4
    have hM4 := hM3.tk s4.tk
    -- change
    refine ⟨_, rfl, a, ns, 3, rfl, sm4.seq hS, hns, by decide, by decide, fun d3 => ?_⟩
    refine ⟨fun σ' H' => ∃ (v5 : V) (N : FW.Mac) (y6 y7 : Option V), σ' = [some (.ref a), some (.int d), some (.int (1 + d / 8 % 4)), some v3, some v5, some (.int d3), y6, y7, none, none] ∧ Same H H' ∧ MacAt H' v3 M ∧ MacAt H' v5 N ∧ FW.Ok N (1 + l0) ∧ N.rows.length ≤ 40, ?_, ?_⟩
    · refine ⟨_, rfl, _, _, rfl, rfl, (by show (0 : Int) < 2; decide), rfl, _, rfl, ?_⟩
      refine ite2 (fun _ => ?_) (fun _ => ⟨v5, N4, none, none, rfl, sm4, hM4, hN4, okN4, by omega⟩)
      obtain ⟨m5, r5, sg5, bs5, rfl, hN5⟩ := hN4
      have sl : N4.signs.length = N4.rows.length := okN4.same
      have pos := okN4.pos
      obtain ⟨j, j1, ej⟩ := mod_room (d := d3 / 2) (n := N4.signs.length) (by omega)
      have hj : N4.signs[j]? = some N4.signs[j] := List.getElem?_eq_getElem j1
      generalize N4.signs[j] = z0 at hj
      -- signs = list(other[1])
      refine ⟨_, rfl, m5, _, 1, _, rfl, rfl, .inl (.inl hN5.top), atI_nat (j := 1) rfl, sg5, _, rfl, .inr (.inl (.inl hN5.signs)), fun b hb => ?_⟩
      have sb : Same H4 (upd H4 b (.lst (N4.signs.map V.int))) := same_new hb
      -- at
      refine ⟨_, rfl, _, _, rfl, rfl, ⟨by decide, by decide⟩, _, rfl, b, _, rfl, .inl (SqL.of upd_same), _, _, rfl, rfl, ?_, ?_⟩
      · rw [List.length_map]
        show (0 : Int) < _
        omega
      rw [List.length_map]
      -- signs[at] = ..
      have eat : atI (N4.signs.map V.int) (d3 / 2 % (N4.signs.length : Int)) = some (V.int z0) := by
        rw [ej]
        exact atI_nat (map_at hj)
      have eix : ixN (N4.signs.map V.int).length (d3 / 2 % (N4.signs.length : Int)) = some j := by
        rw [ej, List.length_map]
        exact ixN_nat j1
      refine ⟨_, rfl, _, rfl, b, _, _, V.int z0, rfl, rfl, SqL.of upd_same, eat, _, _, rfl, rfl, _, rfl, _, _, rfl, rfl, ⟨by decide, by decide⟩, _, _, rfl, rfl, (by show (0 : Int) < 3; decide), _, _, rfl, rfl, _, _, rfl, rfl, (by show (0 : Int) < 4; decide), _, rfl, _, rfl, b, _, _, j, rfl, rfl, upd_same, eix, ?_⟩
      rw [upd_upd]
      have eset : (N4.signs.map V.int).set j (V.int ((z0 + 1 + d3 / 128 % 3) % 4)) = (N4.signs.set j ((z0 + 1 + d3 / 128 % 3) % 4)).map V.int := by
        rw [List.map_set]
      have sb2 : ∀ o, Same H4 (upd H4 b o) := fun o => same_new hb
      -- other = (other[0], tuple(signs))
      refine ⟨_, rfl, m5, _, 0, _, rfl, rfl, .inl (.inl (sb2 _ _ _ hN5.top)), atI_nat (j := 0) rfl, _, rfl, b, (N4.signs.set j ((z0 + 1 + d3 / 128 % 3) % 4)).map V.int, rfl, .inl ⟨SqL.of (upd_same.trans (congrArg (fun z => some (HO.lst z)) eset)), fun T5 hT5 => ⟨by show 2 ≤ sizeLine; decide, fun p5 hp5 => ?_⟩⟩⟩
      have s5 := (same_new (o := .tup ((N4.signs.set j ((z0 + 1 + d3 / 128 % 3) % 4)).map V.int)) hT5).trans (same_new (o := .tup [.ref r5, .ref T5]) hp5)
      have s6 := (sb2 _).trans s5
      refine ⟨_, ⟨N4.rows, N4.signs.set j ((z0 + 1 + d3 / 128 % 3) % 4)⟩, _, _, rfl, sm4.trans s6, hM4.tk s6.tk, ⟨p5, r5, T5, bs5, rfl, upd_same, s6 _ _ hN5.rows, hN5.each.tk s6.tk, same_new hp5 _ _ upd_same⟩, ⟨?_, pos, okN4.wide, okN4.low⟩, by show N4.rows.length ≤ 40; omega⟩
      show (N4.signs.set j _).length = N4.rows.length
      rw [List.length_set]
      exact sl
    clear hN4 okN4 nN4 hM4 sm4 s4 hN3 okN nN hM3 sm3
    rintro σ H5 ⟨v5, N, y6, y7, rfl, sm5, hM5, hN5, okN, nN⟩
    -- one = least(machine), two = least(other)
    refine ⟨_, rfl, v3, M, 1 + l0, rfl, hM5, okM, by omega, by omega, fun H6 w1 J1 s6 hJ1 lf1 => ?_⟩
    have hN6 := hN5.tk s6.tk
    refine ⟨_, rfl, v5, N, 1 + l0, rfl, hN6, okN, by omega, by omega, fun H7 w2 J2 s7 hJ2 lf2 => ?_⟩
    have hJ17 := hJ1.tk s7.tk
    have okJ1 := lf1.ok okM
    have okJ2 := lf2.ok okN
    have size1 := lf1.size okM
    have size2 := lf2.size okN
    have o1 := FW.ord_le okM M.rows.length
    have o2 := FW.ord_le okN N.rows.length
    have o1' : (FW.order M).length ≤ M.rows.length := o1
    have o2' : (FW.order N).length ≤ N.rows.length := o2
    -- both are machines
    refine ⟨_, rfl, w1, J1, 1 + l0, rfl, hJ17, okJ1, by omega, by omega, fun H8 s8 => ⟨true, rfl, ?_⟩⟩
    refine iteF ?_
    refine ⟨_, rfl, w2, J2, 1 + l0, rfl, hJ2.tk s8.tk, okJ2, by omega, by omega, fun H9 s9 => ⟨true, rfl, ?_⟩⟩
    refine iteF ?_
    have s79 := s8.trans s9
    have hJ19 := hJ17.tk s79.tk
    have hJ29 := hJ2.tk s79.tk
    have hN9 := hN6.tk (s7.trans s79).tk
    have hM9 := hM5.tk (s6.trans (s7.trans s79)).tk
    have iff := FW.least_iff okM okN lf1 lf2
    -- not more rooms
    obtain ⟨mj, rj, sj, bj, rfl, hJ⟩ := id hJ29
    refine ⟨_, rfl, mj, _, 1, _, rfl, rfl, .inl (.inl hJ.top), atI_nat (j := 1) rfl, sj, _, rfl, .inr (.inl (.inl hJ.signs)), ?_⟩
    refine ⟨_, rfl, v5, N, 1 + l0, rfl, hN9, okN, by omega, by omega, fun H10 p r10 s10 xs sA hp hs hx => ?_⟩
    refine ⟨p, _, 1, _, rfl, rfl, .inl (.inl hp), atI_nat (j := 1) rfl, s10, xs, rfl, .inr (.inl (.inl hs)), _, _, rfl, rfl, _, rfl, ?_⟩
    have szJ : J2.signs.length = J2.rows.length := okJ2.same
    rw [List.length_map, decide_eq_false (show ¬ ((xs.length : Nat) : Int) < ((J2.signs.length : Nat) : Int) by omega)]
    refine iteF ?_
    have hJ1A := hJ19.tk sA.tk
    have hJ2A := hJ29.tk sA.tk
    -- the law's own word
    refine ⟨_, rfl, _, rfl, macD J1, macD J2, dpMac hJ1A, dpMac hJ2A, macD_shaped J1, macD_shaped J2, ?_⟩
    refine ⟨_, rfl, _, rfl, v3, v5, M, N, 1 + l0, rfl, hM9.tk sA.tk, hN9.tk sA.tk, okM, okN, by omega, by omega, by omega, fun H11 s11 al => ?_, fun H11 l11 s11 al => ?_⟩
    · rw [macD_eq (iff.mpr al)]
      exact ⟨rfl, q H11⟩
    · rw [macD_ne (fun e => al (iff.mp e))]
      exact ⟨rfl, q H11⟩
end
end FwP

namespace FwP
open PySem PySem.Spec PyProof.Rows L2 FwR
/-! ### what the top has written -/
theorem def_mk {K : PySem.W.Frag} {h : Heap} {mg : Str → Option Value} (X : K.In h) (G : h.Ns mainGlobals mg) {x : Str} {st : Stmt} {ps : List Str} {f : Addr} {oc kV doc pm cdv ct : Value} {od an : Option Addr} {osl : Array (Option Value)}
    (a : PySem.W.nsIn K mainGlobals x = some (some (.ref f)))
    (l : K.lookup f = some ⟨oc, od, .func (PySem.W.fnOf x x (defArgs st) (defBody st) (defScope st) .none kV doc pm an cdv ct), osl⟩)
    (c : PySem.W.codeIn K cdv x = true) (k : PySem.W.keepIn K (.ref f) = true)
    (hb : ∀ (kV doc pm : Value) (an : Option Addr) (cdv ct : Value) (us : List Value), us.length = ps.length → bindArgs (PySem.W.fnOf x x (defArgs st) (defBody st) (defScope st) .none kV doc pm an cdv ct) ⟨us, []⟩ = pure (ps.zip us)) :
    ∃ f fd, Fun K x x st f fd ∧ Binds K fd ps [] ∧ mg x = some (.ref f) :=
  ⟨f, _, fun_mk l c k, (fun_mk l c k).binds hb, PySem.W.mg_of X G a⟩
theorem all_mk {l : PySem.W.OpenLaw} {w : World} {K : PySem.W.Frag} {h : Heap} {mg : Str → Option Value} {fa : Addr} (X : K.In h) (G : h.Ns mainGlobals mg) (hfa : mg "law" = some (.ref fa))
    {f1 : Addr} {oc1 kV1 dc1 pm1 cd1 ct1 : Value} {od1 an1 : Option Addr} {sl1 : Array (Option Value)}
    (a1 : PySem.W.nsIn K mainGlobals "as_reached" = some (some (.ref f1))) (l1 : K.lookup f1 = some ⟨oc1, od1, .func (PySem.W.fnOf "as_reached" "as_reached" (defArgs sAsR) (defBody sAsR) (defScope sAsR) .none kV1 dc1 pm1 an1 cd1 ct1), sl1⟩) (c1 : PySem.W.codeIn K cd1 "as_reached" = true) (k1 : PySem.W.keepIn K (.ref f1) = true)
    {f2 : Addr} {oc2 kV2 dc2 pm2 cd2 ct2 : Value} {od2 an2 : Option Addr} {sl2 : Array (Option Value)}
    (a2 : PySem.W.nsIn K mainGlobals "numbered" = some (some (.ref f2))) (l2 : K.lookup f2 = some ⟨oc2, od2, .func (PySem.W.fnOf "numbered" "numbered" (defArgs sNum) (defBody sNum) (defScope sNum) .none kV2 dc2 pm2 an2 cd2 ct2), sl2⟩) (c2 : PySem.W.codeIn K cd2 "numbered" = true) (k2 : PySem.W.keepIn K (.ref f2) = true)
    {f3 : Addr} {oc3 kV3 dc3 pm3 cd3 ct3 : Value} {od3 an3 : Option Addr} {sl3 : Array (Option Value)}
    (a3 : PySem.W.nsIn K mainGlobals "lots_of" = some (some (.ref f3))) (l3 : K.lookup f3 = some ⟨oc3, od3, .func (PySem.W.fnOf "lots_of" "lots_of" (defArgs sLots) (defBody sLots) (defScope sLots) .none kV3 dc3 pm3 an3 cd3 ct3), sl3⟩) (c3 : PySem.W.codeIn K cd3 "lots_of" = true) (k3 : PySem.W.keepIn K (.ref f3) = true)
    {f4 : Addr} {oc4 kV4 dc4 pm4 cd4 ct4 : Value} {od4 an4 : Option Addr} {sl4 : Array (Option Value)}
    (a4 : PySem.W.nsIn K mainGlobals "least" = some (some (.ref f4))) (l4 : K.lookup f4 = some ⟨oc4, od4, .func (PySem.W.fnOf "least" "least" (defArgs sLeast) (defBody sLeast) (defScope sLeast) .none kV4 dc4 pm4 an4 cd4 ct4), sl4⟩) (c4 : PySem.W.codeIn K cd4 "least" = true) (k4 : PySem.W.keepIn K (.ref f4) = true)
    {f5 : Addr} {oc5 kV5 dc5 pm5 cd5 ct5 : Value} {od5 an5 : Option Addr} {sl5 : Array (Option Value)}
    (a5 : PySem.W.nsIn K mainGlobals "_law_draw" = some (some (.ref f5))) (l5 : K.lookup f5 = some ⟨oc5, od5, .func (PySem.W.fnOf "_law_draw" "_law_draw" (defArgs sDraw) (defBody sDraw) (defScope sDraw) .none kV5 dc5 pm5 an5 cd5 ct5), sl5⟩) (c5 : PySem.W.codeIn K cd5 "_law_draw" = true) (k5 : PySem.W.keepIn K (.ref f5) = true)
    {f6 : Addr} {oc6 kV6 dc6 pm6 cd6 ct6 : Value} {od6 an6 : Option Addr} {sl6 : Array (Option Value)}
    (a6 : PySem.W.nsIn K mainGlobals "_law_whole" = some (some (.ref f6))) (l6 : K.lookup f6 = some ⟨oc6, od6, .func (PySem.W.fnOf "_law_whole" "_law_whole" (defArgs sWhole) (defBody sWhole) (defScope sWhole) .none kV6 dc6 pm6 an6 cd6 ct6), sl6⟩) (c6 : PySem.W.codeIn K cd6 "_law_whole" = true) (k6 : PySem.W.keepIn K (.ref f6) = true)
    {f7 : Addr} {oc7 kV7 dc7 pm7 cd7 ct7 : Value} {od7 an7 : Option Addr} {sl7 : Array (Option Value)}
    (a7 : PySem.W.nsIn K mainGlobals "_law_machine_by" = some (some (.ref f7))) (l7 : K.lookup f7 = some ⟨oc7, od7, .func (PySem.W.fnOf "_law_machine_by" "_law_machine_by" (defArgs sMachBy) (defBody sMachBy) (defScope sMachBy) .none kV7 dc7 pm7 an7 cd7 ct7), sl7⟩) (c7 : PySem.W.codeIn K cd7 "_law_machine_by" = true) (k7 : PySem.W.keepIn K (.ref f7) = true)
    {f8 : Addr} {oc8 kV8 dc8 pm8 cd8 ct8 : Value} {od8 an8 : Option Addr} {sl8 : Array (Option Value)}
    (a8 : PySem.W.nsIn K mainGlobals "_law_is_machine" = some (some (.ref f8))) (l8 : K.lookup f8 = some ⟨oc8, od8, .func (PySem.W.fnOf "_law_is_machine" "_law_is_machine" (defArgs sIsM) (defBody sIsM) (defScope sIsM) .none kV8 dc8 pm8 an8 cd8 ct8), sl8⟩) (c8 : PySem.W.codeIn K cd8 "_law_is_machine" = true) (k8 : PySem.W.keepIn K (.ref f8) = true)
    {f9 : Addr} {oc9 kV9 dc9 pm9 cd9 ct9 : Value} {od9 an9 : Option Addr} {sl9 : Array (Option Value)}
    (a9 : PySem.W.nsIn K mainGlobals "_law_reached" = some (some (.ref f9))) (l9 : K.lookup f9 = some ⟨oc9, od9, .func (PySem.W.fnOf "_law_reached" "_law_reached" (defArgs sReached) (defBody sReached) (defScope sReached) .none kV9 dc9 pm9 an9 cd9 ct9), sl9⟩) (c9 : PySem.W.codeIn K cd9 "_law_reached" = true) (k9 : PySem.W.keepIn K (.ref f9) = true)
    {f10 : Addr} {oc10 kV10 dc10 pm10 cd10 ct10 : Value} {od10 an10 : Option Addr} {sl10 : Array (Option Value)}
    (a10 : PySem.W.nsIn K mainGlobals "_law_parted" = some (some (.ref f10))) (l10 : K.lookup f10 = some ⟨oc10, od10, .func (PySem.W.fnOf "_law_parted" "_law_parted" (defArgs sParted) (defBody sParted) (defScope sParted) .none kV10 dc10 pm10 an10 cd10 ct10), sl10⟩) (c10 : PySem.W.codeIn K cd10 "_law_parted" = true) (k10 : PySem.W.keepIn K (.ref f10) = true)
    {f11 : Addr} {oc11 kV11 dc11 pm11 cd11 ct11 : Value} {od11 an11 : Option Addr} {sl11 : Array (Option Value)}
    (a11 : PySem.W.nsIn K mainGlobals "_law_copied" = some (some (.ref f11))) (l11 : K.lookup f11 = some ⟨oc11, od11, .func (PySem.W.fnOf "_law_copied" "_law_copied" (defArgs sCopied) (defBody sCopied) (defScope sCopied) .none kV11 dc11 pm11 an11 cd11 ct11), sl11⟩) (c11 : PySem.W.codeIn K cd11 "_law_copied" = true) (k11 : PySem.W.keepIn K (.ref f11) = true)
    {f12 : Addr} {oc12 kV12 dc12 pm12 cd12 ct12 : Value} {od12 an12 : Option Addr} {sl12 : Array (Option Value)}
    (a12 : PySem.W.nsIn K mainGlobals "_law_with_more" = some (some (.ref f12))) (l12 : K.lookup f12 = some ⟨oc12, od12, .func (PySem.W.fnOf "_law_with_more" "_law_with_more" (defArgs sMore) (defBody sMore) (defScope sMore) .none kV12 dc12 pm12 an12 cd12 ct12), sl12⟩) (c12 : PySem.W.codeIn K cd12 "_law_with_more" = true) (k12 : PySem.W.keepIn K (.ref f12) = true)
    {f13 : Addr} {oc13 kV13 dc13 pm13 cd13 ct13 : Value} {od13 an13 : Option Addr} {sl13 : Array (Option Value)}
    (a13 : PySem.W.nsIn K mainGlobals "_law_called" = some (some (.ref f13))) (l13 : K.lookup f13 = some ⟨oc13, od13, .func (PySem.W.fnOf "_law_called" "_law_called" (defArgs sCalled) (defBody sCalled) (defScope sCalled) .none kV13 dc13 pm13 an13 cd13 ct13), sl13⟩) (c13 : PySem.W.codeIn K cd13 "_law_called" = true) (k13 : PySem.W.keepIn K (.ref f13) = true)
    {f14 : Addr} {oc14 kV14 dc14 pm14 cd14 ct14 : Value} {od14 an14 : Option Addr} {sl14 : Array (Option Value)}
    (a14 : PySem.W.nsIn K mainGlobals "law" = some (some (.ref f14))) (l14 : K.lookup f14 = some ⟨oc14, od14, .func (PySem.W.fnOf "law" "law" (defArgs sLaw) (defBody sLaw) (defScope sLaw) .none kV14 dc14 pm14 an14 cd14 ct14), sl14⟩) (c14 : PySem.W.codeIn K cd14 "law" = true) (k14 : PySem.W.keepIn K (.ref f14) = true)
    (z1 : PySem.W.nsIn K mainGlobals "len" = some none)
    (z2 : PySem.W.nsIn K mainGlobals "tuple" = some none)
    (z3 : PySem.W.nsIn K mainGlobals "set" = some none)
    (z4 : PySem.W.nsIn K mainGlobals "enumerate" = some none)
    (z5 : PySem.W.nsIn K mainGlobals "range" = some none)
    (z6 : PySem.W.nsIn K mainGlobals "isinstance" = some none)
    (z7 : PySem.W.nsIn K mainGlobals "int" = some none)
    (z8 : PySem.W.nsIn K mainGlobals "bool" = some none)
    (z9 : PySem.W.nsIn K mainGlobals "all" = some none)
    (z10 : PySem.W.nsIn K mainGlobals "list" = some none) :
    ∃ fd : FuncData, (∀ (s : Shared) (v : Value), BindsTo s fd ⟨[v], []⟩ [("_law_script", v)]) ∧ ∀ base : Heap, K.In base → base.Ns mainGlobals mg → FnOk l.prog w K mg base CX0 4 fa fd ["_law_script"] (spLaw K) := by
  have e := hfa.symm.trans (PySem.W.mg_of X G a14)
  cases e
  have T : Txt K mg := ⟨def_mk X G a1 l1 c1 k1 (fun _ _ _ _ _ _ us hl => match us, hl with | [_], _ => rfl),
    def_mk X G a2 l2 c2 k2 (fun _ _ _ _ _ _ us hl => match us, hl with | [_], _ => rfl),
    def_mk X G a3 l3 c3 k3 (fun _ _ _ _ _ _ us hl => match us, hl with | [_], _ => rfl),
    def_mk X G a4 l4 c4 k4 (fun _ _ _ _ _ _ us hl => match us, hl with | [_], _ => rfl),
    def_mk X G a5 l5 c5 k5 (fun _ _ _ _ _ _ us hl => match us, hl with | [_, _], _ => rfl),
    def_mk X G a6 l6 c6 k6 (fun _ _ _ _ _ _ us hl => match us, hl with | [_], _ => rfl),
    def_mk X G a7 l7 c7 k7 (fun _ _ _ _ _ _ us hl => match us, hl with | [_, _, _, _, _], _ => rfl),
    def_mk X G a8 l8 c8 k8 (fun _ _ _ _ _ _ us hl => match us, hl with | [_], _ => rfl),
    def_mk X G a9 l9 c9 k9 (fun _ _ _ _ _ _ us hl => match us, hl with | [_], _ => rfl),
    def_mk X G a10 l10 c10 k10 (fun _ _ _ _ _ _ us hl => match us, hl with | [_, _], _ => rfl),
    def_mk X G a11 l11 c11 k11 (fun _ _ _ _ _ _ us hl => match us, hl with | [_, _, _], _ => rfl),
    def_mk X G a12 l12 c12 k12 (fun _ _ _ _ _ _ us hl => match us, hl with | [_, _, _], _ => rfl),
    def_mk X G a13 l13 c13 k13 (fun _ _ _ _ _ _ us hl => match us, hl with | [_, _], _ => rfl),
    PySem.W.mg_none_of X G z1, PySem.W.mg_none_of X G z2, PySem.W.mg_none_of X G z3, PySem.W.mg_none_of X G z4, PySem.W.mg_none_of X G z5, PySem.W.mg_none_of X G z6, PySem.W.mg_none_of X G z7, PySem.W.mg_none_of X G z8, PySem.W.mg_none_of X G z9, PySem.W.mg_none_of X G z10⟩
  exact ⟨PySem.W.fnOf "law" "law" (defArgs sLaw) (defBody sLaw) (defScope sLaw) .none kV14 dc14 pm14 an14 cd14 ct14, fun s v => .of_eq rfl, fun base _ _ => ok_law (fun_mk (st := sLaw) l14 c14 k14) T⟩
end FwP
open PySem PySem.W PyProof.Rows
set_option maxRecDepth 100000 in
set_option maxHeartbeats 0 in
theorem PySem.Challenge.cw_figurewheel_k16_whole_one_least_form_holds : PySem.Challenge.rw_figurewheel_k16_whole_one_least_form.Holds := by
  w_on; o_law; k_head; (case hw => w_witness2)
  k_fill
  refine L2.walk_of (l := PySem.Challenge.rw_figurewheel_k16_whole_one_least_form) (n := 63) (k := 4) (x := "_law_script") (CX := fun _ => L2.CX0) (sp := fun w => FwP.spLaw _) rfl (by decide) rfl ⟨rfl, by decide, by decide⟩ (fun w h Y => PySem.W.kIn_of Y) ?F (fun _ _ a ns hl _ hS => ⟨a, ns, rfl, hS, hl, fun _ => rfl⟩) (fun _ _ _ _ _ h => h)
  case F =>
    intro w mg fa h KX G hmg
    refine' FwP.all_mk KX G hmg ?a1 ?l1 ?c1 ?k1 ?a2 ?l2 ?c2 ?k2 ?a3 ?l3 ?c3 ?k3 ?a4 ?l4 ?c4 ?k4 ?a5 ?l5 ?c5 ?k5 ?a6 ?l6 ?c6 ?k6 ?a7 ?l7 ?c7 ?k7 ?a8 ?l8 ?c8 ?k8 ?a9 ?l9 ?c9 ?k9 ?a10 ?l10 ?c10 ?k10 ?a11 ?l11 ?c11 ?k11 ?a12 ?l12 ?c12 ?k12 ?a13 ?l13 ?c13 ?k13 ?a14 ?l14 ?c14 ?k14 ?z1 ?z2 ?z3 ?z4 ?z5 ?z6 ?z7 ?z8 ?z9 ?z10
    (case a1 => k_is)
    (case l1 => k_is)
    (case c1 => k_is)
    (case k1 => k_is)
    (case a2 => k_is)
    (case l2 => k_is)
    (case c2 => k_is)
    (case k2 => k_is)
    (case a3 => k_is)
    (case l3 => k_is)
    (case c3 => k_is)
    (case k3 => k_is)
    (case a4 => k_is)
    (case l4 => k_is)
    (case c4 => k_is)
    (case k4 => k_is)
    (case a5 => k_is)
    (case l5 => k_is)
    (case c5 => k_is)
    (case k5 => k_is)
    (case a6 => k_is)
    (case l6 => k_is)
    (case c6 => k_is)
    (case k6 => k_is)
    (case a7 => k_is)
    (case l7 => k_is)
    (case c7 => k_is)
    (case k7 => k_is)
    (case a8 => k_is)
    (case l8 => k_is)
    (case c8 => k_is)
    (case k8 => k_is)
    (case a9 => k_is)
    (case l9 => k_is)
    (case c9 => k_is)
    (case k9 => k_is)
    (case a10 => k_is)
    (case l10 => k_is)
    (case c10 => k_is)
    (case k10 => k_is)
    (case a11 => k_is)
    (case l11 => k_is)
    (case c11 => k_is)
    (case k11 => k_is)
    (case a12 => k_is)
    (case l12 => k_is)
    (case c12 => k_is)
    (case k12 => k_is)
    (case a13 => k_is)
    (case l13 => k_is)
    (case c13 => k_is)
    (case k13 => k_is)
    (case a14 => k_is)
    (case l14 => k_is)
    (case c14 => k_is)
    (case k14 => k_is)
    (case z1 => k_is)
    (case z2 => k_is)
    (case z3 => k_is)
    (case z4 => k_is)
    (case z5 => k_is)
    (case z6 => k_is)
    (case z7 => k_is)
    (case z8 => k_is)
    (case z9 => k_is)
    (case z10 => k_is)
