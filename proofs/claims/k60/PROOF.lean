import PyProof.Rows.All
import Wide.All
import OpenK.AllK
import Wide.FinOn
import HandS.ForMost
import HandS.Gcd
import HandS.Strs
import HandS.SetFor
import HandS.Zip
import KE.KMathGC
import KE.GoesEnum
import HandS.DictTup
import KE.KDictCopyH
import KE.KDictPairs
import KE.KDictDisplayH
import HandS.IsInst
import HandS.CallLocal
import HandS.TupAny
import HandS.Style
import HandS.DictComp
import HandS.Conv
import HandS.RaiseMore
import HandS.TupLe
import HandS.Deep
import HandS.Flow
import HandS.Codes
import HandS.NoneIn
import PySem.Challenge.RW_everynext_k60_whole_ranks_place_by_place
set_option Elab.async false
set_option linter.all false
set_option maxRecDepth 100000
set_option maxHeartbeats 4000000
/-! The mathematics of k60, part 1: sums over lists, walks of a beginning, heaps. Core Lean alone. -/
namespace Ev

/-! ### sums -/
def sm {α : Type} (f : α → Nat) : List α → Nat
  | [] => 0
  | a :: l => f a + sm f l
section
variable {α β : Type}
theorem sm_append (f : α → Nat) : ∀ (l m : List α), sm f (l ++ m) = sm f l + sm f m
  | [], m => by simp [sm]
  | a :: l, m => by simp only [List.cons_append, sm, sm_append f l m]; omega
theorem sm_perm (f : α → Nat) {l m : List α} (h : l.Perm m) : sm f l = sm f m := by
  induction h with
  | nil => rfl
  | cons x _ ih => simp only [sm, ih]
  | swap x y l => simp only [sm]; omega
  | trans _ _ h1 h2 => exact h1.trans h2
theorem sm_congr {f g : α → Nat} : ∀ {l : List α}, (∀ a ∈ l, f a = g a) → sm f l = sm g l
  | [], _ => rfl
  | a :: l, h => by
    simp only [sm]
    rw [h a (List.mem_cons_self ..), sm_congr fun b hb => h b (List.mem_cons_of_mem _ hb)]
theorem sm_add (f g : α → Nat) : ∀ l : List α, sm (fun a => f a + g a) l = sm f l + sm g l
  | [] => rfl
  | a :: l => by simp only [sm, sm_add f g l]; omega
theorem sm_mul (c : Nat) (f : α → Nat) : ∀ l : List α, sm (fun a => c * f a) l = c * sm f l
  | [] => by simp [sm]
  | a :: l => by simp only [sm, sm_mul c f l, Nat.mul_add]
theorem sm_const (c : Nat) : ∀ l : List α, sm (fun _ => c) l = l.length * c
  | [] => by simp [sm]
  | a :: l => by simp only [sm, sm_const c l, List.length_cons, Nat.add_mul]; omega
theorem sm_zero {f : α → Nat} {l : List α} (h : ∀ a ∈ l, f a = 0) : sm f l = 0 := by
  rw [sm_congr h, sm_const]; simp
theorem sm_map (f : β → Nat) (g : α → β) : ∀ l : List α, sm f (l.map g) = sm (fun a => f (g a)) l
  | [] => rfl
  | a :: l => by simp only [List.map_cons, sm, sm_map f g l]
theorem sm_flatMap (f : β → Nat) (g : α → List β) : ∀ l : List α, sm f (l.flatMap g) = sm (fun a => sm f (g a)) l
  | [] => rfl
  | a :: l => by simp only [List.flatMap_cons, sm, sm_append, sm_flatMap f g l]
theorem sm_comm (f : α → β → Nat) (l : List α) (m : List β) : sm (fun a => sm (fun b => f a b) m) l = sm (fun b => sm (fun a => f a b) l) m := by
  induction l with
  | nil => exact (sm_zero fun _ _ => rfl).symm
  | cons a l ih => simp only [sm, sm_add, ih]
theorem sm_range_succ (f : Nat → Nat) (n : Nat) : sm f (List.range (n + 1)) = sm f (List.range n) + f n := by
  rw [List.range_succ, sm_append]; simp [sm]
theorem countP_sm (p : α → Bool) : ∀ l : List α, l.countP p = sm (fun a => if p a then 1 else 0) l
  | [] => rfl
  | a :: l => by
    rw [List.countP_cons, countP_sm p l]
    simp only [sm]
    omega
end

/-! ### walks of a beginning -/
def nx (b : List Nat) (x : Nat) : Nat := b.getD x 0
/-- from x one comes with l places (x among them) to the open place r -/
inductive Lds (b : List Nat) : Nat → Nat → Nat → Prop where
  | here {x : Nat} (h : b.length ≤ x) : Lds b x x 1
  | on {x r l : Nat} (h : x < b.length) (t : Lds b (nx b x) r l) : Lds b x r (l + 1)
theorem Lds.root {b : List Nat} {x r l : Nat} (h : Lds b x r l) : b.length ≤ r := by
  induction h with
  | here h => exact h
  | on _ _ ih => exact ih
theorem Lds.pos {b : List Nat} {x r l : Nat} (h : Lds b x r l) : 1 ≤ l := by
  cases h with
  | here _ => exact Nat.le_refl _
  | on _ _ => exact Nat.le_add_left ..
theorem Lds.det {b : List Nat} {x r l : Nat} (h : Lds b x r l) : ∀ {r' l' : Nat}, Lds b x r' l' → r = r' ∧ l = l' := by
  induction h with
  | here h =>
    intro r' l' h'
    cases h' with
    | here _ => exact ⟨rfl, rfl⟩
    | on q _ => omega
  | on h _ ih =>
    intro r' l' h'
    cases h' with
    | here q => omega
    | on _ t => obtain ⟨e1, e2⟩ := ih t; exact ⟨e1, by omega⟩
/-- the entries of a beginning are places -/
def Ent (b : List Nat) (n : Nat) : Prop := ∀ y ∈ b, y < n
theorem nx_lt {b : List Nat} {n x : Nat} (hb : Ent b n) (hx : x < b.length) : nx b x < n := by
  unfold nx
  rw [List.getD_eq_getElem?_getD, List.getElem?_eq_getElem hx]
  exact hb _ (List.getElem_mem hx)
/-- the way itself: its places, each once -/
theorem Lds.path {b : List Nat} {n x r l : Nat} (hb : Ent b n) (h : Lds b x r l) (hx : x < n) :
    ∃ L : List Nat, L.length = l ∧ L.Nodup ∧ (∀ y ∈ L, y < n) ∧ (∀ y ∈ L, ∃ j, j ≤ l ∧ Lds b y r j) := by
  induction h with
  | here h => exact ⟨[_], rfl, by simp, by simpa using hx, by simpa using ⟨1, Nat.le_refl _, .here h⟩⟩
  | @on x r l h t ih =>
    obtain ⟨L, e1, e2, e3, e4⟩ := ih (nx_lt hb h)
    refine ⟨x :: L, by simp [e1], List.nodup_cons.mpr ⟨fun hm => ?_, e2⟩, fun y hy => ?_, fun y hy => ?_⟩
    · obtain ⟨j, hj, q⟩ := e4 x hm
      obtain ⟨_, e⟩ := (Lds.on h t).det q
      omega
    · rcases List.mem_cons.mp hy with rfl | hy
      · exact hx
      · exact e3 y hy
    · rcases List.mem_cons.mp hy with rfl | hy
      · exact ⟨l + 1, Nat.le_refl _, .on h t⟩
      · obtain ⟨j, hj, q⟩ := e4 y hy
        exact ⟨j, by omega, q⟩
theorem nodup_le {L : List Nat} {n : Nat} (h : L.Nodup) (hl : ∀ y ∈ L, y < n) : L.length ≤ n := by
  have := h.length_le_of_subset (l₂ := List.range n) fun y hy => List.mem_range.mpr (hl y hy)
  simpa using this
theorem Lds.le {b : List Nat} {n x r l : Nat} (hb : Ent b n) (h : Lds b x r l) (hx : x < n) : l ≤ n ∧ r < n := by
  obtain ⟨L, e1, e2, e3, e4⟩ := h.path hb hx
  refine ⟨e1 ▸ nodup_le e2 e3, ?_⟩
  clear e1 e2 e3 e4 L
  induction h with
  | here _ => exact hx
  | on h _ ih => exact ih (nx_lt hb h)
/-- the same, reckoned -/
def go (b : List Nat) : Nat → Nat → Option (Nat × Nat)
  | 0, x => if b.length ≤ x then some (x, 1) else none
  | f + 1, x => if b.length ≤ x then some (x, 1) else (go b f (nx b x)).map fun q => (q.1, q.2 + 1)
theorem go_lds {b : List Nat} : ∀ {f x r l : Nat}, go b f x = some (r, l) → Lds b x r l
  | 0, x, r, l, h => by
    unfold go at h
    split at h
    · cases h; exact .here (by assumption)
    · cases h
  | f + 1, x, r, l, h => by
    unfold go at h
    split at h
    · cases h; exact .here (by assumption)
    · rename_i hx
      cases e : go b f (nx b x) with
      | none => rw [e] at h; cases h
      | some q =>
        rw [e] at h
        cases h
        exact .on (by omega) (go_lds e)
theorem lds_go {b : List Nat} {x r l : Nat} (h : Lds b x r l) : ∀ {f : Nat}, l ≤ f + 1 → go b f x = some (r, l) := by
  induction h with
  | here h =>
    intro f hf
    cases f <;> (unfold go; rw [if_pos h])
  | @on x r l h t ih =>
    intro f hf
    cases f with
    | zero => have := t.pos; omega
    | succ f =>
      unfold go
      rw [if_neg (by omega), ih (by omega)]
      rfl
def out (b : List Nat) (n x : Nat) : Option (Nat × Nat) := go b n x
theorem out_some {b : List Nat} {n x r l : Nat} (hb : Ent b n) (hx : x < n) : out b n x = some (r, l) ↔ Lds b x r l :=
  ⟨go_lds, fun h => lds_go h (by have := h.le hb hx; omega)⟩
theorem out_none {b : List Nat} {n x : Nat} (hb : Ent b n) (hx : x < n) : out b n x = none ↔ ∀ r l, ¬ Lds b x r l := by
  constructor
  · intro h r l q
    rw [(out_some hb hx).mpr q] at h
    cases h
  · intro h
    cases e : out b n x with
    | none => rfl
    | some q => exact absurd ((out_some hb hx).mp e) (h _ _)

/-! ### one place more -/
section
variable {b : List Nat} {p : Nat}
theorem nx_app {x : Nat} (hx : x < b.length) : nx (b ++ [p]) x = nx b x := by
  unfold nx
  rw [List.getD_eq_getElem?_getD, List.getD_eq_getElem?_getD, List.getElem?_append_left hx]
theorem nx_new : nx (b ++ [p]) b.length = p := by
  unfold nx
  rw [List.getD_eq_getElem?_getD, List.getElem?_concat_length]
  rfl
theorem Lds.ext {x r l : Nat} (h : Lds b x r l) (hr : r ≠ b.length) : Lds (b ++ [p]) x r l := by
  induction h with
  | here h => exact .here (by simp; omega)
  | @on x r l h t ih => exact .on (by simp; omega) (by rw [nx_app h]; exact ih hr)
theorem Lds.join {x l r m : Nat} (h : Lds b x b.length l) (h' : Lds (b ++ [p]) p r m) : Lds (b ++ [p]) x r (l + m) := by
  generalize e : b.length = k at h
  induction h with
  | @here x h =>
    subst e
    rw [Nat.add_comm]
    exact .on (by simp) (by rw [nx_new]; exact h')
  | @on x r' l h t ih =>
    rw [show l + 1 + m = l + m + 1 by omega]
    exact .on (by simp; omega) (by rw [nx_app h]; exact ih e)
theorem Lds.split {x r l : Nat} (h : Lds (b ++ [p]) x r l) : (Lds b x r l ∧ r ≠ b.length) ∨ (∃ l1 l2, Lds b x b.length l1 ∧ Lds (b ++ [p]) p r l2 ∧ l = l1 + l2) := by
  induction h with
  | @here x h =>
    simp only [List.length_append, List.length_singleton] at h
    exact .inl ⟨.here (by omega), by omega⟩
  | @on x r l h t ih =>
    simp only [List.length_append, List.length_singleton] at h
    by_cases hx : x = b.length
    · subst hx
      rw [nx_new] at t
      exact .inr ⟨1, l, .here (Nat.le_refl _), t, by omega⟩
    · have hx' : x < b.length := by omega
      rw [nx_app hx'] at ih t
      rcases ih with ⟨h1, h2⟩ | ⟨l1, l2, h1, h2, h3⟩
      · exact .inl ⟨.on hx' h1, h2⟩
      · exact .inr ⟨l1 + 1, l2, .on hx' h1, h2, by omega⟩
/-- the new place's own way: as before, unless it comes to the closed heap itself -/
theorem Lds.new {r l : Nat} (h : Lds (b ++ [p]) p r l) : Lds b p r l ∧ r ≠ b.length := by
  rcases h.split with q | ⟨l1, l2, h1, h2, h3⟩
  · exact q
  · have := (h.det h2).2
    have := h1.pos
    omega
end
end Ev
namespace Ev
/-! ### heaps, the closed ones, those on rings -/
/-- the steps of the places that come to the open place r, by places -/
def pick (r : Nat) : Option (Nat × Nat) → Option Nat
  | some (r', l) => if r' = r then some l else none
  | none => none
def hp (b : List Nat) (n r : Nat) : List Nat := (List.range n).filterMap fun x => pick r (out b n x)
def heaps (b : List Nat) (n : Nat) : List (List Nat) := (List.range (n - b.length)).map fun j => hp b n (b.length + j)
def cl (b : List Nat) (n : Nat) : Nat := (List.range n).countP fun x => (out b n x).isNone
/-- so many steps -/
def itr (b : List Nat) : Nat → Nat → Nat
  | 0, x => x
  | i + 1, x => itr b i (nx b x)
theorem itr_succ' (b : List Nat) : ∀ i x, itr b (i + 1) x = nx b (itr b i x)
  | 0, _ => rfl
  | i + 1, x => itr_succ' b i (nx b x)
theorem itr_add (b : List Nat) : ∀ i j x, itr b (i + j) x = itr b i (itr b j x)
  | i, 0, _ => rfl
  | i, j + 1, x => itr_add b i j (nx b x)
def onR (b : List Nat) (n x : Nat) : Bool := (List.range n).any fun i => itr b (i + 1) x == x
theorem onR_iff {b : List Nat} {n x : Nat} : onR b n x = true ↔ ∃ i, i < n ∧ itr b (i + 1) x = x := by
  unfold onR
  rw [List.any_eq_true]
  simp only [List.mem_range, beq_iff_eq]
def rg (b : List Nat) (n : Nat) : Nat := (List.range n).countP fun x => (out b n x).isNone && onR b n x

section
variable {b : List Nat} {n p : Nat}
theorem ent_app (hb : Ent b n) (hp : p < n) : Ent (b ++ [p]) n := fun y hy => by
  rcases List.mem_append.mp hy with h | h
  · exact hb y h
  · rw [List.mem_singleton.mp h]; exact hp
/-- what becomes of a place's way -/
def after (k : Nat) (op : Option (Nat × Nat)) (ox : Option (Nat × Nat)) : Option (Nat × Nat) :=
  match ox with
  | none => none
  | some (r, l) => if r = k then (match op with | none => none | some (r2, l2) => if r2 = k then none else some (r2, l + l2)) else some (r, l)
theorem out_app (hb : Ent b n) (hp : p < n) {x : Nat} (hx : x < n) : out (b ++ [p]) n x = after b.length (out b n p) (out b n x) := by
  have hb' := ent_app hb hp
  cases e : out b n x with
  | none =>
    show _ = none
    rw [out_none hb' hx]
    intro r l q
    rw [out_none hb hx] at e
    rcases q.split with ⟨h, _⟩ | ⟨l1, l2, h, _⟩
    · exact e _ _ h
    · exact e _ _ h
  | some q =>
    obtain ⟨r, l⟩ := q
    rw [out_some hb hx] at e
    show _ = (if r = b.length then _ else _)
    split
    · rename_i hr
      subst hr
      cases ep : out b n p with
      | none =>
        show _ = none
        rw [out_none hb hp] at ep
        rw [out_none hb' hx]
        intro r l q
        rcases q.split with ⟨h, hne⟩ | ⟨l1, l2, h, h2, _⟩
        · exact hne (h.det e).1
        · exact ep _ _ h2.new.1
      | some q =>
        obtain ⟨r2, l2⟩ := q
        rw [out_some hb hp] at ep
        show _ = (if r2 = b.length then none else _)
        split
        · rename_i hr
          rw [out_none hb' hx]
          intro r l q
          rcases q.split with ⟨h, hne⟩ | ⟨l1, l3, h, h2, _⟩
          · exact hne (h.det e).1
          · exact h2.new.2 ((h2.new.1.det ep).1.trans hr)
        · rename_i hr
          rw [out_some hb' hx]
          exact e.join (ep.ext hr)
    · rename_i hr
      rw [out_some hb' hx]
      exact e.ext hr

/-! the open heaps behind one place more -/
theorem pick_app_same {r : Nat} (hr : r ≠ b.length) (op : Option (Nat × Nat)) (h : pick r op = none) (ox : Option (Nat × Nat)) : pick r (after b.length op ox) = pick r ox := by
  unfold after
  cases ox with
  | none => rfl
  | some q =>
    obtain ⟨r', l⟩ := q
    simp only
    split
    · rename_i e
      subst e
      cases op with
      | none => simp [pick]; omega
      | some q =>
        obtain ⟨r2, l2⟩ := q
        simp only
        split
        · simp [pick]; omega
        · rename_i h2
          simp only [pick] at h ⊢
          have : r2 ≠ r := fun e => by rw [if_pos e] at h; cases h
          rw [if_neg this, if_neg (by omega)]
    · rfl
theorem filterMap_two {α β : Type} {u v w : α → Option β} : ∀ (L : List α), (∀ x ∈ L, (w x = u x ∧ v x = none) ∨ (u x = none ∧ w x = v x)) → (L.filterMap w).Perm (L.filterMap u ++ L.filterMap v)
  | [], _ => .refl _
  | a :: L, h => by
    have ih := filterMap_two L fun x hx => h x (List.mem_cons_of_mem _ hx)
    rcases h a (List.mem_cons_self ..) with ⟨e1, e2⟩ | ⟨e1, e2⟩
    · rw [List.filterMap_cons, List.filterMap_cons, List.filterMap_cons, e1, e2]
      cases u a with
      | none => exact ih
      | some y => exact ih.cons y
    · rw [List.filterMap_cons, List.filterMap_cons, List.filterMap_cons, e1, e2]
      cases v a with
      | none => exact ih
      | some y => exact (ih.cons y).trans List.perm_middle.symm
theorem filterMap_cong {α β : Type} {u w : α → Option β} : ∀ {L : List α}, (∀ x ∈ L, w x = u x) → L.filterMap w = L.filterMap u
  | [], _ => rfl
  | a :: L, h => by
    rw [List.filterMap_cons, List.filterMap_cons, h a (List.mem_cons_self ..), filterMap_cong fun x hx => h x (List.mem_cons_of_mem _ hx)]
theorem hp_app_same (hb : Ent b n) (hpn : p < n) {r : Nat} (hr : r ≠ b.length) (h : pick r (out b n p) = none) : hp (b ++ [p]) n r = hp b n r := by
  unfold hp
  refine filterMap_cong fun x hx => ?_
  rw [out_app hb hpn (List.mem_range.mp hx), pick_app_same hr _ h]
theorem hp_app_join (hb : Ent b n) (hpn : p < n) {r l2 : Nat} (hr : r ≠ b.length) (h : out b n p = some (r, l2)) : (hp (b ++ [p]) n r).Perm (hp b n r ++ (hp b n b.length).map fun l => l + l2) := by
  unfold hp
  rw [List.map_filterMap]
  refine filterMap_two _ fun x hx => ?_
  rw [out_app hb hpn (List.mem_range.mp hx), h]
  cases e : out b n x with
  | none => exact .inl ⟨rfl, rfl⟩
  | some q =>
    obtain ⟨r', l⟩ := q
    by_cases hk : r' = b.length
    · subst hk
      refine .inr ⟨by simp [pick]; omega, ?_⟩
      unfold after
      simp only [if_pos]
      rw [if_neg hr]
      simp [pick]
    · refine .inl ⟨by unfold after; simp only; rw [if_neg hk], by simp [pick, hk]⟩
theorem heaps_cons (h : b.length < n) : heaps b n = hp b n b.length :: (List.range (n - b.length - 1)).map fun j => hp b n (b.length + 1 + j) := by
  unfold heaps
  obtain ⟨m, hm⟩ : ∃ m, n - b.length = m + 1 := ⟨n - b.length - 1, by omega⟩
  rw [hm, List.range_succ_eq_map, List.map_cons, List.map_map]
  show _ :: _ = _ :: _
  congr 1
  refine List.map_congr_left fun j _ => ?_
  show hp b n (b.length + (j + 1)) = _
  rw [show b.length + (j + 1) = b.length + 1 + j by omega]
theorem heaps_app : heaps (b ++ [p]) n = (List.range (n - b.length - 1)).map fun j => hp (b ++ [p]) n (b.length + 1 + j) := by
  unfold heaps
  rw [List.length_append, List.length_singleton, Nat.sub_add_eq]

/-! the closed ones -/
theorem filterMap_len {α β : Type} (u : α → Option β) : ∀ L : List α, (L.filterMap u).length = sm (fun x => if (u x).isSome then 1 else 0) L
  | [] => rfl
  | a :: L => by
    rw [List.filterMap_cons]
    simp only [sm]
    cases e : u a with
    | none => simp [filterMap_len u L]
    | some y => simp [filterMap_len u L]; omega
theorem cl_app_open (hb : Ent b n) (hpn : p < n) {r l2 : Nat} (hr : r ≠ b.length) (h : out b n p = some (r, l2)) : cl (b ++ [p]) n = cl b n := by
  unfold cl
  rw [countP_sm, countP_sm]
  refine sm_congr fun x hx => ?_
  rw [out_app hb hpn (List.mem_range.mp hx), h]
  cases e : out b n x with
  | none => rfl
  | some q =>
    obtain ⟨r', l⟩ := q
    by_cases hk : r' = b.length
    · simp [after, hk, hr]
    · simp [after, hk]
theorem cl_app_closed (hb : Ent b n) (hpn : p < n) (h : ∀ r l, out b n p = some (r, l) → r = b.length) : cl (b ++ [p]) n = cl b n + (hp b n b.length).length := by
  unfold cl hp
  rw [countP_sm, countP_sm, filterMap_len, ← sm_add]
  refine sm_congr fun x hx => ?_
  rw [out_app hb hpn (List.mem_range.mp hx)]
  cases e : out b n x with
  | none => rfl
  | some q =>
    obtain ⟨r', l⟩ := q
    by_cases hk : r' = b.length
    · cases ep : out b n p with
      | none => simp [after, pick, hk]
      | some q =>
        obtain ⟨r2, l2⟩ := q
        have := h r2 l2 ep
        simp [after, pick, hk, this]
    · simp [after, pick, hk]
/-! all places: the closed ones and those of the heaps -/
theorem sm_swap_range (f : Nat → Nat → Nat) (m : Nat) (L : List Nat) : sm (fun j => sm (fun x => f j x) L) (List.range m) = sm (fun x => sm (fun j => f j x) (List.range m)) L := sm_comm f _ _
theorem sm_one {m j : Nat} (h : j < m) (f : Nat → Nat) (hf : ∀ i, i ≠ j → f i = 0) : sm f (List.range m) = f j := by
  induction m with
  | zero => omega
  | succ m ih =>
    rw [sm_range_succ]
    by_cases e : j = m
    · subst e
      rw [sm_zero fun i hi => hf i (by have := List.mem_range.mp hi; omega)]
      omega
    · rw [ih (by omega), hf m (fun q => e q.symm)]
      omega

/-! those on rings -/
theorem itr_lds {x r l : Nat} (h : Lds b x r l) : ∀ i, i < l → Lds b (itr b i x) r (l - i) := by
  induction h with
  | here h =>
    intro i hi
    have : i = 0 := by omega
    subst this
    exact .here h
  | @on x r l h t ih =>
    intro i hi
    cases i with
    | zero => exact .on h t
    | succ i =>
      show Lds b (itr b i (nx b x)) r (l + 1 - (i + 1))
      rw [show l + 1 - (i + 1) = l - i by omega]
      exact ih i (by omega)
/-- within the ways that come nowhere -/
theorem closed_nx (hb : Ent b n) {x : Nat} (hx : x < n) (h : out b n x = none) : x < b.length ∧ nx b x < n ∧ out b n (nx b x) = none := by
  have e := (out_none hb hx).mp h
  have hx' : x < b.length := by
    refine Nat.lt_of_not_le fun q => e _ _ (.here q)
  have hn := nx_lt hb hx'
  exact ⟨hx', hn, (out_none hb hn).mpr fun r l q => e _ _ (.on hx' q)⟩
theorem closed_itr (hb : Ent b n) : ∀ {i x : Nat}, x < n → out b n x = none → itr b i x < n ∧ out b n (itr b i x) = none
  | 0, _, hx, h => ⟨hx, h⟩
  | i + 1, x, hx, h => by
    obtain ⟨_, h1, h2⟩ := closed_nx hb hx h
    exact closed_itr hb (i := i) h1 h2
theorem itr_app_closed (hb : Ent b n) : ∀ {i x : Nat}, x < n → out b n x = none → itr (b ++ [p]) i x = itr b i x
  | 0, _, _, _ => rfl
  | i + 1, x, hx, h => by
    obtain ⟨h0, h1, h2⟩ := closed_nx hb hx h
    show itr (b ++ [p]) i (nx (b ++ [p]) x) = itr b i (nx b x)
    rw [nx_app h0]
    exact itr_app_closed hb h1 h2
theorem itr_app_open {x r l : Nat} (h : Lds b x r l) : ∀ i, i < l → itr (b ++ [p]) i x = itr b i x := by
  induction h with
  | here h =>
    intro i hi
    have : i = 0 := by omega
    subst this
    rfl
  | @on x r l h t ih =>
    intro i hi
    cases i with
    | zero => rfl
    | succ i =>
      show itr (b ++ [p]) i (nx (b ++ [p]) x) = itr b i (nx b x)
      rw [nx_app h]
      exact ih i (by omega)
theorem itr_last {x r l : Nat} (h : Lds b x r l) : itr b (l - 1) x = r := by
  have q := itr_lds h (l - 1) (by have := h.pos; omega)
  rw [show l - (l - 1) = 1 by have := h.pos; omega] at q
  cases q with
  | here _ => rfl
  | on _ t => exact absurd t.pos (by omega)
/-- from a place of the heap that is hung on: with l steps at p -/
theorem itr_app_root {x l : Nat} (h : Lds b x b.length l) : itr (b ++ [p]) l x = p := by
  have hl := h.pos
  have e : itr (b ++ [p]) (l - 1 + 1) x = p := by
    rw [itr_succ', itr_app_open h _ (by omega), itr_last h, nx_new]
  rw [show l - 1 + 1 = l by omega] at e
  exact e
theorem onR_app_closed (hb : Ent b n) {x : Nat} (hx : x < n) (h : out b n x = none) : onR (b ++ [p]) n x = onR b n x := by
  unfold onR
  congr 1
  funext i
  rw [itr_app_closed hb hx h]
/-- hung on a closed heap: no ring -/
theorem onR_app_hung (hb : Ent b n) (hpn : p < n) {x l : Nat} (hx : x < n) (h : Lds b x b.length l) (hp : out b n p = none) : onR (b ++ [p]) n x = false := by
  rw [Bool.eq_false_iff]
  intro q
  obtain ⟨i, hi, e⟩ := onR_iff.mp q
  by_cases hl : i + 1 < l
  · rw [itr_app_open h _ hl] at e
    have t := itr_lds h (i + 1) hl
    rw [e] at t
    have := (t.det h).2
    omega
  · obtain ⟨d, hd⟩ : ∃ d, i + 1 = d + l := ⟨i + 1 - l, by omega⟩
    rw [hd, itr_add, itr_app_root h, itr_app_closed hb hpn hp] at e
    have t := (closed_itr hb (i := d) hpn hp).2
    rw [e] at t
    exact (out_none hb hx).mp t _ _ h
/-- the heap is closed by one of its own places: the ring has the places of its way -/
theorem onR_app_ring (hb : Ent b n) (hpn : p < n) {x l m : Nat} (hx : x < n) (h : Lds b x b.length l) (hp : Lds b p b.length m) : onR (b ++ [p]) n x = true ↔ ∃ i, i < m ∧ itr b i p = x := by
  have hm := hp.pos
  have hmn := (hp.le hb hpn).1
  have round : itr (b ++ [p]) m p = p := itr_app_root hp
  rw [onR_iff]
  constructor
  · rintro ⟨i, hi, e⟩
    by_cases hl : i + 1 < l
    · rw [itr_app_open h _ hl] at e
      have t := itr_lds h (i + 1) hl
      rw [e] at t
      have := (t.det h).2
      omega
    · obtain ⟨d, hd⟩ : ∃ d, i + 1 = d + l := ⟨i + 1 - l, by omega⟩
      rw [hd, itr_add, itr_app_root h] at e
      clear hd hl hi
      induction d using Nat.strongRecOn with
      | ind d ih =>
        by_cases hdm : d < m
        · rw [itr_app_open hp _ hdm] at e
          exact ⟨d, hdm, e⟩
        · refine ih (d - m) (by omega) ?_
          have e2 : d = (d - m) + m := by omega
          rw [e2, itr_add, round] at e
          exact e
  · rintro ⟨i, hi, e⟩
    refine ⟨m - 1, by omega, ?_⟩
    rw [show m - 1 + 1 = m by omega, ← e, ← itr_app_open hp i hi, ← itr_add, Nat.add_comm, itr_add, round]
theorem way_nodup {m : Nat} {r : Nat} (hp : Lds b p r m) : ((List.range m).map fun i => itr b i p).Nodup := by
  unfold List.Nodup
  rw [List.pairwise_map]
  refine List.Pairwise.imp_of_mem ?_ List.pairwise_lt_range
  intro i j hi hj hij e
  have h1 := itr_lds hp i (List.mem_range.mp hi)
  have h2 := itr_lds hp j (List.mem_range.mp hj)
  rw [e] at h1
  have := (h1.det h2).2
  have := List.mem_range.mp hj
  omega
/-- so many of the places stand in a list that has each once -/
theorem count_in {L : List Nat} (hd : L.Nodup) (hl : ∀ y ∈ L, y < n) : (List.range n).countP (fun x => decide (x ∈ L)) = L.length := by
  rw [List.countP_eq_length_filter]
  refine List.Perm.length_eq ((List.perm_ext_iff_of_nodup (List.nodup_range.filter _) hd).mpr fun y => ?_)
  rw [List.mem_filter, List.mem_range, decide_eq_true_eq]
  exact ⟨fun h => h.2, fun h => ⟨hl y h, h⟩⟩
theorem rg_app_other (hb : Ent b n) (hpn : p < n) (h : ∀ l, out b n p ≠ some (b.length, l)) : rg (b ++ [p]) n = rg b n := by
  unfold rg
  rw [countP_sm, countP_sm]
  refine sm_congr fun x hx => ?_
  have hx := List.mem_range.mp hx
  rw [out_app hb hpn hx]
  cases e : out b n x with
  | none =>
    show (if (true && onR (b ++ [p]) n x) = true then 1 else 0) = (if (true && onR b n x) = true then 1 else 0)
    rw [onR_app_closed hb hx e]
  | some q =>
    obtain ⟨r', l⟩ := q
    by_cases hk : r' = b.length
    · subst hk
      cases ep : out b n p with
      | none =>
        have := onR_app_hung hb hpn hx ((out_some hb hx).mp e) ep
        simp [after, this]
      | some q =>
        obtain ⟨r2, l2⟩ := q
        have : r2 ≠ b.length := fun e => h l2 (by rw [ep, e])
        simp [after, this]
    · simp [after, hk]
theorem rg_app_ring (hb : Ent b n) (hpn : p < n) {m : Nat} (h : out b n p = some (b.length, m)) : rg (b ++ [p]) n = rg b n + m := by
  have hp := (out_some hb hpn).mp h
  have e : (List.range n).countP (fun x => decide (x ∈ (List.range m).map fun i => itr b i p)) = m := by
    rw [count_in (way_nodup hp)]
    · simp
    · intro y hy
      obtain ⟨i, hi, rfl⟩ := List.mem_map.mp hy
      have t := itr_lds hp i (List.mem_range.mp hi)
      have hbk : b.length < n := (hp.le hb hpn).2
      generalize itr b i p = y at t
      generalize m - i = z at t
      generalize hk : b.length = k at t
      cases t with
      | here _ => omega
      | on h _ => omega
  rw [← e]
  clear e
  unfold rg
  rw [countP_sm, countP_sm, countP_sm, ← sm_add]
  refine sm_congr fun x hx => ?_
  have hx := List.mem_range.mp hx
  rw [out_app hb hpn hx, h]
  have mem : decide (x ∈ (List.range m).map fun i => itr b i p) = decide (∃ i, i < m ∧ itr b i p = x) := by
    simp only [List.mem_map, List.mem_range]
  rw [mem]
  cases e : out b n x with
  | none =>
    have no : ¬ ∃ i, i < m ∧ itr b i p = x := by
      rintro ⟨i, hi, q⟩
      have := itr_lds hp i hi
      rw [q] at this
      exact (out_none hb hx).mp e _ _ this
    rw [decide_eq_false no]
    show (if (true && onR (b ++ [p]) n x) = true then 1 else 0) = (if (true && onR b n x) = true then 1 else 0) + 0
    rw [onR_app_closed hb hx e]
    rfl
  | some q =>
    obtain ⟨r', l⟩ := q
    unfold after
    simp only
    by_cases hk : r' = b.length
    · subst hk
      have t := onR_app_ring hb hpn hx ((out_some hb hx).mp e) hp
      cases eo : onR (b ++ [p]) n x with
      | true => simp [t.mp eo]
      | false =>
        have no : ¬ ∃ i, i < m ∧ itr b i p = x := fun q => by
          rw [t.mpr q] at eo
          cases eo
        simp [no]
    · have no : ¬ ∃ i, i < m ∧ itr b i p = x := by
        rintro ⟨i, hi, q⟩
        have := itr_lds hp i hi
        rw [q] at this
        exact hk ((((out_some hb hx).mp e).det this).1)
      simp [hk, no]
end
end Ev
namespace Ev
/-! ### choices of heaps that lie on rings, each entered at a place -/
abbrev F3 := Nat → Nat → Nat → Nat
def sh (f : F3) (a b c : Nat) : F3 := fun s p r => f (s + a) (p + b) (r + c)
def E : List (List Nat) → F3 → Nat
  | [], f => f 0 0 0
  | h :: A, f => E A f + sm (fun t => E A (sh f 1 h.length t)) h
def tot (A : List (List Nat)) : Nat := sm List.length A
theorem E_congr' : ∀ {A : List (List Nat)} {f g : F3}, (∀ s p r, s ≤ A.length → (s = A.length → p = tot A) → f s p r = g s p r) → E A f = E A g
  | [], _, _, h => h 0 0 0 (Nat.le_refl _) fun _ => rfl
  | a :: A, f, g, h => by
    simp only [E]
    rw [E_congr' (A := A) (f := f) (g := g) fun s p r h1 h2 => h s p r (by rw [List.length_cons]; omega) fun e => by rw [List.length_cons] at e; omega]
    congr 1
    refine sm_congr fun t _ => E_congr' fun s p r h1 h2 => ?_
    refine h _ _ _ (by rw [List.length_cons]; omega) fun e => ?_
    rw [List.length_cons] at e
    rw [h2 (by omega)]
    show tot A + a.length = a.length + tot A
    omega
theorem E_congr {A : List (List Nat)} {f g : F3} (h : ∀ s p r, f s p r = g s p r) : E A f = E A g := E_congr' fun s p r _ _ => h s p r
theorem E_add : ∀ (A : List (List Nat)) (f g : F3), E A (fun s p r => f s p r + g s p r) = E A f + E A g
  | [], _, _ => rfl
  | a :: A, f, g => by
    simp only [E]
    rw [E_add A f g]
    have : (fun t => E A (sh (fun s p r => f s p r + g s p r) 1 a.length t)) = fun t => E A (sh f 1 a.length t) + E A (sh g 1 a.length t) := by
      funext t
      exact E_add A _ _
    rw [this, sm_add]
    omega
theorem E_mul (c : Nat) : ∀ (A : List (List Nat)) (f : F3), E A (fun s p r => c * f s p r) = c * E A f
  | [], _ => rfl
  | a :: A, f => by
    simp only [E]
    rw [E_mul c A f]
    have : (fun t => E A (sh (fun s p r => c * f s p r) 1 a.length t)) = fun t => c * E A (sh f 1 a.length t) := by
      funext t
      exact E_mul c A _
    rw [this, sm_mul, Nat.mul_add]
theorem E_zero {A : List (List Nat)} {f : F3} (h : ∀ s p r, f s p r = 0) : E A f = 0 := by
  rw [E_congr (g := fun s p r => 0 * f s p r) fun s p r => by rw [h], E_mul]
  simp
theorem E_perm {a a' : List Nat} (h : a.Perm a') (A : List (List Nat)) (f : F3) : E (a :: A) f = E (a' :: A) f := by
  simp only [E]
  rw [h.length_eq, sm_perm _ h]
theorem E_permAll : ∀ {A B : List (List Nat)}, A.length = B.length → (∀ (i : Nat) (a b : List Nat), A[i]? = some a → B[i]? = some b → a.Perm b) → ∀ f, E A f = E B f
  | [], [], _, _, _ => rfl
  | [], _ :: _, h, _, _ => by simp at h
  | _ :: _, [], h, _, _ => by simp at h
  | a :: A, b :: B, hl, h, f => by
    have ih := fun g => E_permAll (A := A) (B := B) (by simpa using hl) (fun i x y e1 e2 => h (i + 1) x y (by simpa using e1) (by simpa using e2)) g
    rw [E_perm (h 0 a b rfl rfl)]
    simp only [E, ih]
/-- one heap gets another one hung on, at each of its places -/
def hang (a h : List Nat) (l : Nat) : List Nat := a ++ h.map fun t => t + l
def Mm : List (List Nat) → List Nat → F3 → Nat
  | [], _, _ => 0
  | a :: A, h, f => sm (fun l => E (hang a h l :: A) f) a + (Mm A h f + sm (fun t => Mm A h (sh f 1 a.length t)) a)
theorem Mm_eq (h : List Nat) : ∀ (A : List (List Nat)) (f : F3), sm (fun j => sm (fun l => E (A.set j (hang (A.getD j []) h l)) f) (A.getD j [])) (List.range A.length) = Mm A h f
  | [], _ => rfl
  | a :: A, f => by
    rw [List.length_cons, List.range_succ_eq_map]
    simp only [sm, Mm, sm_map]
    show sm (fun l => E (hang a h l :: A) f) a + sm (fun j => sm (fun l => E (a :: A.set j (hang (A.getD j []) h l)) f) (A.getD j [])) (List.range A.length) = _
    congr 1
    simp only [E]
    have e1 : (fun j => sm (fun l => E (A.set j (hang (A.getD j []) h l)) f + sm (fun t => E (A.set j (hang (A.getD j []) h l)) (sh f 1 a.length t)) a) (A.getD j []))
        = fun j => sm (fun l => E (A.set j (hang (A.getD j []) h l)) f) (A.getD j []) + sm (fun t => sm (fun l => E (A.set j (hang (A.getD j []) h l)) (sh f 1 a.length t)) (A.getD j [])) a := by
      funext j
      rw [sm_add]
      congr 1
      exact sm_comm _ _ _
    rw [e1, sm_add, Mm_eq h A f]
    congr 1
    rw [sm_comm]
    exact sm_congr fun t _ => Mm_eq h A _
theorem Mm_law (h : List Nat) : ∀ (A : List (List Nat)) (f : F3), Mm A h f + E A (fun s p r => p * f s p r) =
    tot A * E A f + E A (fun s p r => p * f s (p + h.length) r) + sm (fun u => E A (fun s p r => s * f s (p + h.length) (r + u))) h
  | [], f => by simp only [Mm, E, tot, sm, Nat.zero_mul, Nat.zero_add, sm_zero]; exact (sm_zero fun _ _ => rfl).symm
  | a :: A, f => by
    have ih := Mm_law h A f
    have iht := fun t => Mm_law h A (sh f 1 a.length t)
    have ihs : sm (fun t => Mm A h (sh f 1 a.length t)) a + sm (fun t => E A (fun s p r => p * sh f 1 a.length t s p r)) a =
        tot A * sm (fun t => E A (sh f 1 a.length t)) a + sm (fun t => E A (fun s p r => p * sh f 1 a.length t s (p + h.length) r)) a
        + sm (fun t => sm (fun u => E A (fun s p r => s * sh f 1 a.length t s (p + h.length) (r + u))) h) a := by
      rw [← sm_add, ← sm_mul, ← sm_add, ← sm_add]
      exact sm_congr fun t _ => iht t
    clear iht
    -- the first sum
    have e1 : sm (fun l => E (hang a h l :: A) f) a = a.length * E A f + a.length * sm (fun t => E A (sh f 1 (a.length + h.length) t)) a
        + sm (fun l => sm (fun u => E A (sh f 1 (a.length + h.length) (u + l))) h) a := by
      have : ∀ l ∈ a, E (hang a h l :: A) f = (E A f + sm (fun t => E A (sh f 1 (a.length + h.length) t)) a) + sm (fun u => E A (sh f 1 (a.length + h.length) (u + l))) h := by
        intro l _
        simp only [E, hang]
        rw [List.length_append, List.length_map, sm_append, sm_map]
        omega
      rw [sm_congr this, sm_add, sm_const, Nat.mul_add]
    have e2 : E (a :: A) (fun s p r => p * f s p r) = E A (fun s p r => p * f s p r) + (sm (fun t => E A (fun s p r => p * sh f 1 a.length t s p r)) a + a.length * sm (fun t => E A (sh f 1 a.length t)) a) := by
      simp only [E]
      congr 1
      rw [← sm_mul, ← sm_add]
      refine sm_congr fun t _ => ?_
      rw [← E_mul, ← E_add]
      refine E_congr fun s p r => ?_
      simp only [sh]
      rw [Nat.add_mul]
    have e3 : E (a :: A) (fun s p r => p * f s (p + h.length) r) = E A (fun s p r => p * f s (p + h.length) r)
        + (sm (fun t => E A (fun s p r => p * sh f 1 a.length t s (p + h.length) r)) a + a.length * sm (fun t => E A (sh f 1 (a.length + h.length) t)) a) := by
      simp only [E]
      congr 1
      rw [← sm_mul, ← sm_add]
      refine sm_congr fun t _ => ?_
      rw [← E_mul, ← E_add]
      refine E_congr fun s p r => ?_
      simp only [sh]
      rw [Nat.add_mul, show p + h.length + a.length = p + a.length + h.length by omega, show p + (a.length + h.length) = p + a.length + h.length by omega]
    have e4 : sm (fun u => E (a :: A) (fun s p r => s * f s (p + h.length) (r + u))) h = sm (fun u => E A (fun s p r => s * f s (p + h.length) (r + u))) h
        + (sm (fun t => sm (fun u => E A (fun s p r => s * sh f 1 a.length t s (p + h.length) (r + u))) h) a + sm (fun l => sm (fun u => E A (sh f 1 (a.length + h.length) (u + l))) h) a) := by
      simp only [E]
      rw [sm_add]
      congr 1
      rw [sm_comm, ← sm_add]
      refine sm_congr fun t _ => ?_
      rw [← sm_add]
      refine sm_congr fun u _ => ?_
      rw [← E_add]
      refine E_congr fun s p r => ?_
      simp only [sh]
      rw [Nat.add_mul, Nat.one_mul, show p + h.length + a.length = p + a.length + h.length by omega, show p + (a.length + h.length) = p + a.length + h.length by omega,
        show r + u + t = r + t + u by omega, show r + (u + t) = r + t + u by omega]
    rw [e2, e3, e4]
    show (sm (fun l => E (hang a h l :: A) f) a + (Mm A h f + sm (fun t => Mm A h (sh f 1 a.length t)) a)) + _ = _
    rw [e1]
    have e6 : E (a :: A) f = E A f + sm (fun t => E A (sh f 1 a.length t)) a := rfl
    rw [e6]
    have e5 : tot (a :: A) = a.length + tot A := rfl
    rw [e5, Nat.add_mul, Nat.mul_add, Nat.mul_add]
    omega

/-! ### how many charts begin so -/
def fact : Nat → Nat
  | 0 => 1
  | n + 1 => (n + 1) * fact n
/-- in how many ways so many other heaps hang on -/
def hung (n x o : Nat) : Nat := if o = 0 then 1 else x * n ^ (o - 1)
def wt (n count M c R : Nat) : F3 := fun s p r => if R + r = count then fact s * hung n (c + p) (M - s) else 0
def W (n count : Nat) (b : List Nat) : Nat := E (heaps b n) (wt n count (n - b.length) (cl b n) (rg b n))
theorem W_full {n count : Nat} {b : List Nat} (h : b.length = n) : W n count b = if rg b n = count then 1 else 0 := by
  unfold W heaps
  rw [h, Nat.sub_self]
  show wt n count 0 (cl b n) (rg b n) 0 0 0 = _
  unfold wt hung
  simp [fact]
def ov {β : Type} (f : β → Nat) : Option β → Nat
  | some y => f y
  | none => 0
theorem sm_filterMap {α β : Type} (f : β → Nat) (u : α → Option β) : ∀ L : List α, sm f (L.filterMap u) = sm (fun x => ov f (u x)) L
  | [] => rfl
  | a :: L => by
    rw [List.filterMap_cons]
    simp only [sm]
    cases e : u a with
    | none => simp [ov, sm_filterMap f u L]
    | some y => simp [ov, sm, sm_filterMap f u L]
section
variable {b : List Nat} {n : Nat}
/-- all first places, by what they come to -/
theorem by_way (hb : Ent b n) (hk : b.length < n) (G0 : Nat) (G1 : Nat → Nat) (G2 : Nat → Nat → Nat) :
    sm (fun p => match out b n p with | none => G0 | some (r, l) => if r = b.length then G1 l else G2 (r - (b.length + 1)) l) (List.range n)
      = cl b n * G0 + sm G1 (hp b n b.length) + sm (fun j => sm (G2 j) (hp b n (b.length + 1 + j))) (List.range (n - b.length - 1)) := by
  have e1 : cl b n * G0 = sm (fun x => if (out b n x).isNone then G0 else 0) (List.range n) := by
    unfold cl
    rw [countP_sm, Nat.mul_comm, ← sm_mul]
    refine sm_congr fun x _ => ?_
    split <;> simp
  have e2 : sm (fun j => sm (G2 j) (hp b n (b.length + 1 + j))) (List.range (n - b.length - 1)) =
      sm (fun x => sm (fun j => ov (G2 j) (pick (b.length + 1 + j) (out b n x))) (List.range (n - b.length - 1))) (List.range n) := by
    rw [sm_comm]
    refine sm_congr fun j _ => ?_
    unfold hp
    rw [sm_filterMap]
  rw [e1, e2]
  unfold hp
  rw [sm_filterMap, ← sm_add, ← sm_add]
  refine sm_congr fun x hx => ?_
  have hx := List.mem_range.mp hx
  cases e : out b n x with
  | none =>
    simp only [pick, Option.isNone, if_true, ov]
    rw [sm_zero fun _ _ => rfl]
    simp
  | some q =>
    obtain ⟨r, l⟩ := q
    have hl := (out_some hb hx).mp e
    have h1 := hl.root
    have h2 := (hl.le hb hx).2
    simp only [pick, Option.isNone]
    by_cases hr : r = b.length
    · simp only [hr, if_true, Bool.false_eq_true, if_false]
      rw [sm_zero fun j _ => by rw [if_neg (show ¬ b.length = b.length + 1 + j by omega)]; rfl]
      simp [ov]
    · simp only [hr, Bool.false_eq_true, if_false]
      rw [sm_one (j := r - (b.length + 1)) (by omega) _ fun i hi => by rw [if_neg (show ¬ r = b.length + 1 + i by omega)]; rfl]
      rw [if_pos (show r = b.length + 1 + (r - (b.length + 1)) by omega)]
      simp [ov]
theorem places_all (hb : Ent b n) (hk : b.length < n) : cl b n + (hp b n b.length).length + tot ((List.range (n - b.length - 1)).map fun j => hp b n (b.length + 1 + j)) = n := by
  have := by_way hb hk 1 (fun _ => 1) (fun _ _ => 1)
  rw [sm_const, Nat.mul_one, Nat.mul_one] at this
  unfold tot
  rw [sm_map]
  have e : sm (fun p => match out b n p with | none => 1 | some (r, l) => if r = b.length then 1 else 1) (List.range n) = n := by
    rw [sm_congr (g := fun _ => 1) fun p _ => by
      cases out b n p with
      | none => rfl
      | some q => simp, sm_const]
    simp
  rw [e] at this
  rw [sm_congr (g := fun j => sm (fun _ => 1) (hp b n (b.length + 1 + j))) fun j _ => by rw [sm_const, Nat.mul_one]]
  omega
theorem fact_mul (s : Nat) : (s + 1) * fact s = fact (s + 1) := rfl
theorem W_rec {count : Nat} (hb : Ent b n) (hk : b.length < n) : sm (fun p => W n count (b ++ [p])) (List.range n) = W n count b := by
  generalize hA : ((List.range (n - b.length - 1)).map fun j => hp b n (b.length + 1 + j)) = A
  have hAl : A.length = n - b.length - 1 := by rw [← hA]; simp
  have hall := places_all hb hk
  rw [hA] at hall
  generalize hh : hp b n b.length = h at hall
  have hW : W n count b = E (h :: A) (wt n count (n - b.length) (cl b n) (rg b n)) := by
    unfold W
    rw [heaps_cons hk, hA, hh]
  -- each first place
  have each : ∀ p ∈ List.range n, W n count (b ++ [p]) = (match out b n p with
      | none => E A (wt n count (n - b.length - 1) (cl b n + h.length) (rg b n))
      | some (r, l) => if r = b.length then E A (wt n count (n - b.length - 1) (cl b n + h.length) (rg b n + l))
        else E (A.set (r - (b.length + 1)) (hang (A.getD (r - (b.length + 1)) []) h l)) (wt n count (n - b.length - 1) (cl b n) (rg b n))) := by
    intro p hp'
    have hpn := List.mem_range.mp hp'
    have hlen : n - (b ++ [p]).length = n - b.length - 1 := by simp; omega
    cases e : out b n p with
    | none =>
      show E (heaps (b ++ [p]) n) (wt n count (n - (b ++ [p]).length) (cl (b ++ [p]) n) (rg (b ++ [p]) n)) = _
      rw [hlen, cl_app_closed hb hpn (fun r l q => by rw [e] at q; cases q), rg_app_other hb hpn (fun l q => by rw [e] at q; cases q), heaps_app, hh, ← hA]
      congr 1
      refine List.map_congr_left fun j _ => ?_
      exact hp_app_same hb hpn (by omega) (by rw [e]; rfl)
    | some q =>
      obtain ⟨r, l⟩ := q
      have hl := (out_some hb hpn).mp e
      have h1 := hl.root
      have h2 := (hl.le hb hpn).2
      show E (heaps (b ++ [p]) n) (wt n count (n - (b ++ [p]).length) (cl (b ++ [p]) n) (rg (b ++ [p]) n)) = if r = b.length then _ else _
      rw [hlen]
      by_cases hr : r = b.length
      · rw [if_pos hr]
        subst hr
        rw [cl_app_closed hb hpn (fun r l q => by rw [e] at q; cases q; rfl), rg_app_ring hb hpn e, heaps_app, hh, ← hA]
        congr 1
        refine List.map_congr_left fun j _ => ?_
        exact hp_app_same hb hpn (by omega) (by rw [e]; simp [pick]; omega)
      · rw [if_neg hr, cl_app_open hb hpn hr e, rg_app_other hb hpn (fun l q => by rw [e] at q; cases q; exact hr rfl), heaps_app]
        refine E_permAll (by simp [hAl]) (fun i x y e1 e2 => ?_) _
        rw [List.getElem?_map] at e1
        have hi : i < n - b.length - 1 := by
          rcases Nat.lt_or_ge i (n - b.length - 1) with q | q
          · exact q
          · rw [List.getElem?_eq_none (by simpa using q)] at e1
            cases e1
        rw [List.getElem?_range hi] at e1
        have e1 : hp (b ++ [p]) n (b.length + 1 + i) = x := Option.some.inj e1
        have eA : ∀ i, i < n - b.length - 1 → A[i]? = some (hp b n (b.length + 1 + i)) := fun i hi => by
          rw [← hA, List.getElem?_map, List.getElem?_range hi]
          rfl
        by_cases hri : i = r - (b.length + 1)
        · rw [← hri, List.getElem?_set_self (by omega), List.getD_eq_getElem?_getD, eA i hi] at e2
          have e2 : hang (hp b n (b.length + 1 + i)) h l = y := Option.some.inj e2
          rw [← e1, ← e2]
          have er : b.length + 1 + i = r := by omega
          rw [er, ← hh]
          exact hp_app_join hb hpn hr e
        · rw [List.getElem?_set_ne (by omega), eA i hi] at e2
          have e2 := Option.some.inj e2
          rw [← e1, ← e2, hp_app_same hb hpn (by omega) (by rw [e]; simp [pick]; omega)]
  rw [sm_congr each, by_way hb hk _ (fun l => E A (wt n count (n - b.length - 1) (cl b n + h.length) (rg b n + l)))
    (fun j l => E (A.set j (hang (A.getD j []) h l)) (wt n count (n - b.length - 1) (cl b n) (rg b n)))]
  clear each
  have e3 : sm (fun j => sm (fun l => E (A.set j (hang (A.getD j []) h l)) (wt n count (n - b.length - 1) (cl b n) (rg b n))) (hp b n (b.length + 1 + j))) (List.range (n - b.length - 1))
      = Mm A h (wt n count (n - b.length - 1) (cl b n) (rg b n)) := by
    rw [← Mm_eq, hAl]
    refine sm_congr fun j hj => ?_
    have : A.getD j [] = hp b n (b.length + 1 + j) := by
      rw [List.getD_eq_getElem?_getD, ← hA, List.getElem?_map, List.getElem?_range (List.mem_range.mp hj)]
      rfl
    rw [this]
  rw [e3, hW, hh]
  clear e3 hW hh hA
  generalize hm : n - b.length - 1 = m at *
  have hm2 : n - b.length = m + 1 := by omega
  rw [hm2]
  generalize cl b n = c at *
  generalize rg b n = R at *
  have law := Mm_law h A (wt n count m c R)
  -- the two functions of a choice
  have key : ∀ s p r, s ≤ A.length → (s = A.length → p = tot A) →
      wt n count (m + 1) c R s p r + p * wt n count m c R s p r = (c + p) * wt n count m c R s (p + h.length) r + tot A * wt n count m c R s p r := by
    intro s p r hs hall'
    unfold wt
    split
    · rename_i hR
      by_cases hsm : s = m
      · subst hsm
        have hp := hall' hAl.symm
        subst hp
        unfold hung
        rw [if_neg (by omega), if_pos (by omega), if_pos (by omega), show s + 1 - s - 1 = 0 by omega]
        simp only [Nat.pow_zero, Nat.mul_one]
        rw [Nat.mul_comm (fact s) (c + tot A)]
      · obtain ⟨d, hd⟩ : ∃ d, m - s = d + 1 := ⟨m - s - 1, by omega⟩
        have hd2 : m + 1 - s = d + 2 := by omega
        unfold hung
        rw [hd, hd2, if_neg (by omega), if_neg (by omega), if_neg (by omega)]
        simp only [Nat.add_sub_cancel, show d + 2 - 1 = d + 1 by omega, Nat.pow_succ]
        have hn : n = c + h.length + tot A := by omega
        generalize n ^ d = X
        rw [hn]
        grind
    · simp
  have l1 : E A (wt n count (m + 1) c R) + E A (fun s p r => p * wt n count m c R s p r) = E A (fun s p r => (c + p) * wt n count m c R s (p + h.length) r) + tot A * E A (wt n count m c R) := by
    rw [← E_add, ← E_mul, ← E_add]
    exact E_congr' key
  have l2 : E A (fun s p r => (c + p) * wt n count m c R s (p + h.length) r) = c * E A (wt n count m (c + h.length) R) + E A (fun s p r => p * wt n count m c R s (p + h.length) r) := by
    rw [← E_mul, ← E_add]
    refine E_congr fun s p r => ?_
    rw [Nat.add_mul]
    congr 2
    unfold wt
    rw [show c + (p + h.length) = c + h.length + p by omega]
  have l3 : sm (fun t => E A (sh (wt n count (m + 1) c R) 1 h.length t)) h = sm (fun l => E A (wt n count m (c + h.length) (R + l))) h + sm (fun u => E A (fun s p r => s * wt n count m c R s (p + h.length) (r + u))) h := by
    rw [← sm_add]
    refine sm_congr fun u _ => ?_
    rw [← E_add]
    refine E_congr fun s p r => ?_
    unfold sh wt
    rw [show c + (p + h.length) = c + h.length + p by omega, show m + 1 - (s + 1) = m - s by omega, show R + u + r = R + (r + u) by omega]
    split
    · rw [← fact_mul]
      grind
    · simp
  simp only [E]
  rw [l3]
  omega
end
end Ev
namespace Ev
/-! ### the rank -/
/-- from the k-th place on: the charts that go on with a lesser place -/
def lessAt (n count : Nat) (c : List Nat) (k q : Nat) : Nat := sm (fun p => W n count (c.take k ++ [p])) (List.range q)
def rankTo (n count : Nat) (c : List Nat) (k : Nat) : Nat := sm (fun j => lessAt n count c j (c.getD j 0)) (List.range k)
def rank (n count : Nat) (c : List Nat) : Nat := rankTo n count c n
/-- what is left of the rank from place k on -/
def rankFrom (n count : Nat) (c : List Nat) : Nat → Nat → Nat
  | _, 0 => 0
  | k, m + 1 => lessAt n count c k (c.getD k 0) + rankFrom n count c (k + 1) m
theorem rankTo_from (n count : Nat) (c : List Nat) : ∀ m k, rankTo n count c (k + m) = rankTo n count c k + rankFrom n count c k m
  | 0, k => rfl
  | m + 1, k => by
    rw [show k + (m + 1) = k + 1 + m by omega, rankTo_from n count c m (k + 1)]
    unfold rankTo
    rw [sm_range_succ]
    simp only [rankFrom]
    omega
theorem rank_from (n count : Nat) (c : List Nat) : rank n count c = rankFrom n count c 0 n := by
  have := rankTo_from n count c n 0
  rw [Nat.zero_add] at this
  unfold rank
  rw [this]
  show 0 + _ = _
  omega
section
variable {n count : Nat} {c : List Nat}
theorem take_succ_getD {k : Nat} (hk : k < c.length) : c.take (k + 1) = c.take k ++ [c.getD k 0] := by
  rw [List.take_add_one, List.getD_eq_getElem?_getD, List.getElem?_eq_getElem hk]
  rfl
theorem ent_take (hc : Ent c n) (k : Nat) : Ent (c.take k) n := fun y hy => hc y (List.mem_of_mem_take hy)
theorem getD_lt (hc : Ent c n) {k : Nat} (hk : k < c.length) : c.getD k 0 < n := by
  rw [List.getD_eq_getElem?_getD, List.getElem?_eq_getElem hk]
  exact hc _ (List.getElem_mem hk)
theorem sm_le_add (f : Nat → Nat) : ∀ {a b : Nat}, a < b → sm f (List.range a) + f a ≤ sm f (List.range b) := by
  intro a b h
  induction b with
  | zero => omega
  | succ b ih =>
    rw [sm_range_succ]
    by_cases e : a = b
    · subst e
      omega
    · have := ih (by omega)
      omega
theorem sm_mono (f : Nat → Nat) : ∀ {a b : Nat}, a ≤ b → sm f (List.range a) ≤ sm f (List.range b) := by
  intro a b h
  by_cases e : a = b
  · subst e
    exact Nat.le_refl _
  · have := sm_le_add f (show a < b by omega)
    omega
/-- what is left is less than the charts that begin so -/
theorem rankFrom_lt (hc : Ent c n) (hl : c.length = n) (hr : rg c n = count) : ∀ (m k : Nat), k + m = n → rankFrom n count c k m < W n count (c.take k)
  | 0, k, e => by
    rw [List.take_of_length_le (by omega), W_full hl, if_pos hr]
    exact Nat.zero_lt_one
  | m + 1, k, e => by
    have ih := rankFrom_lt hc hl hr m (k + 1) (by omega)
    have hk : k < c.length := by omega
    rw [take_succ_getD hk] at ih
    simp only [rankFrom]
    have hlen : (c.take k).length = k := by rw [List.length_take]; omega
    rw [← W_rec (b := c.take k) (count := count) (ent_take hc k) (by omega)]
    have := sm_le_add (fun p => W n count (c.take k ++ [p])) (getD_lt hc hk)
    unfold lessAt
    omega
theorem rank_lt (hc : Ent c n) (hl : c.length = n) (hr : rg c n = count) : rank n count c < W n count [] := by
  rw [rank_from]
  exact rankFrom_lt hc hl hr n 0 (by omega)
/-- tuples as Python orders them -/
def lexLt : List Nat → List Nat → Bool
  | [], [] => false
  | [], _ :: _ => true
  | _ :: _, [] => false
  | a :: l, b :: m => if a = b then lexLt l m else decide (a < b)
theorem rankFrom_congr {d : List Nat} : ∀ (m k : Nat), c.take (k + m) = d.take (k + m) → c.length = d.length → k + m ≤ c.length → rankFrom n count c k m = rankFrom n count d k m
  | 0, _, _, _, _ => rfl
  | m + 1, k, h, e, hl => by
    simp only [rankFrom]
    have h' : c.take (k + 1 + m) = d.take (k + 1 + m) := by rw [show k + 1 + m = k + (m + 1) by omega]; exact h
    rw [rankFrom_congr m (k + 1) h' e (by omega)]
    have t : c.take k = d.take k := by
      have := congrArg (List.take k) h
      rwa [List.take_take, List.take_take, Nat.min_eq_left (by omega)] at this
    have g : c.getD k 0 = d.getD k 0 := by
      have := congrArg (fun l => l.getD k 0) h
      simp only [List.getD_eq_getElem?_getD, List.getElem?_take] at this
      rw [if_pos (by omega), if_pos (by omega)] at this
      rw [List.getD_eq_getElem?_getD, List.getD_eq_getElem?_getD]
      exact this
    unfold lessAt
    rw [t, g]
theorem rankFrom_mono {d : List Nat} (hc : Ent c n) (hd : Ent d n) (hlc : c.length = n) (hld : d.length = n) (hrc : rg c n = count) (hrd : rg d n = count) :
    ∀ (m k : Nat), k + m = n → c.take k = d.take k → lexLt (c.drop k) (d.drop k) = true → rankFrom n count c k m < rankFrom n count d k m
  | 0, k, e, _, hx => by
    rw [List.drop_of_length_le (by omega), List.drop_of_length_le (by omega)] at hx
    cases hx
  | m + 1, k, e, ht, hx => by
    have hkc : k < c.length := by omega
    have hkd : k < d.length := by omega
    rw [List.drop_eq_getElem_cons hkc, List.drop_eq_getElem_cons hkd] at hx
    have gc : c.getD k 0 = c[k] := by rw [List.getD_eq_getElem?_getD, List.getElem?_eq_getElem hkc]; rfl
    have gd : d.getD k 0 = d[k] := by rw [List.getD_eq_getElem?_getD, List.getElem?_eq_getElem hkd]; rfl
    simp only [lexLt] at hx
    simp only [rankFrom]
    by_cases q : c[k] = d[k]
    · rw [if_pos q] at hx
      have t2 : c.take (k + 1) = d.take (k + 1) := by rw [take_succ_getD hkc, take_succ_getD hkd, ht, gc, gd, q]
      have ih := rankFrom_mono hc hd hlc hld hrc hrd m (k + 1) (by omega) t2 hx
      unfold lessAt
      rw [ht, gc, gd, q]
      omega
    · rw [if_neg q] at hx
      have lt : c[k] < d[k] := of_decide_eq_true hx
      have h1 := rankFrom_lt hc hlc hrc m (k + 1) (by omega)
      rw [take_succ_getD hkc, gc] at h1
      have h2 := sm_le_add (fun p => W n count (c.take k ++ [p])) lt
      unfold lessAt
      rw [gc, gd, ← ht]
      omega
theorem rank_mono {d : List Nat} (hc : Ent c n) (hd : Ent d n) (hlc : c.length = n) (hld : d.length = n) (hrc : rg c n = count) (hrd : rg d n = count) (h : lexLt c d = true) : rank n count c < rank n count d := by
  rw [rank_from, rank_from]
  exact rankFrom_mono hc hd hlc hld hrc hrd n 0 (by omega) rfl h
theorem lexLt_total : ∀ {c d : List Nat}, c.length = d.length → lexLt c d = false → c = d ∨ lexLt d c = true
  | [], [], _, _ => .inl rfl
  | [], _ :: _, h, _ => by simp at h
  | _ :: _, [], h, _ => by simp at h
  | a :: c, b :: d, hl, h => by
    simp only [lexLt] at h ⊢
    by_cases e : a = b
    · subst e
      rw [if_pos rfl] at h ⊢
      rcases lexLt_total (by simpa using hl) h with q | q
      · exact .inl (by rw [q])
      · exact .inr q
    · rw [if_neg e] at h
      rw [if_neg (fun q => e q.symm)]
      have := of_decide_eq_false h
      exact .inr (decide_eq_true (by omega))
theorem rank_iff {d : List Nat} (hc : Ent c n) (hd : Ent d n) (hlc : c.length = n) (hld : d.length = n) (hrc : rg c n = count) (hrd : rg d n = count) : lexLt c d = decide (rank n count c < rank n count d) := by
  cases h : lexLt c d with
  | true => exact (decide_eq_true (rank_mono hc hd hlc hld hrc hrd h)).symm
  | false =>
    refine (decide_eq_false ?_).symm
    rcases lexLt_total (by omega) h with q | q
    · subst q
      omega
    · have := rank_mono hd hc hld hlc hrd hrc q
      omega
end

/-! ### the places on rings, by steps -/
section
variable {c : List Nat} {n : Nat}
theorem full_out (hc : Ent c n) (hl : c.length = n) {x : Nat} (hx : x < n) : out c n x = none := by
  rw [out_none hc hx]
  intro r l h
  have h1 := h.root
  have h2 := (h.le hc hx).2
  omega
theorem itr_lt (hc : Ent c n) (hl : c.length = n) : ∀ {i x : Nat}, x < n → itr c i x < n
  | 0, _, hx => hx
  | i + 1, x, hx => itr_lt hc hl (i := i) (nx_lt hc (by omega))
theorem itr_mul {i y : Nat} (h : itr c i y = y) : ∀ m, itr c (m * i) y = y
  | 0 => by rw [Nat.zero_mul]; rfl
  | m + 1 => by rw [Nat.add_mul, Nat.one_mul, itr_add, h]; exact itr_mul h m
/-- two of the first n + 1 places of a way are one -/
theorem repeats (hc : Ent c n) (hl : c.length = n) {x : Nat} (hx : x < n) : ∃ i j, i < j ∧ j ≤ n ∧ itr c i x = itr c j x := by
  refine Classical.byContradiction fun no => ?_
  have nd : ((List.range (n + 1)).map fun i => itr c i x).Nodup := by
    unfold List.Nodup
    rw [List.pairwise_map]
    refine List.Pairwise.imp_of_mem ?_ List.pairwise_lt_range
    intro i j hi hj hij e
    exact no ⟨i, j, hij, by have := List.mem_range.mp hj; omega, e⟩
  have := nodup_le (n := n) nd fun y hy => by
    obtain ⟨i, _, rfl⟩ := List.mem_map.mp hy
    exact itr_lt hc hl hx
  simp at this
  omega
theorem onR_image (hc : Ent c n) (hl : c.length = n) {m : Nat} (hm : n ≤ m) {y : Nat} (hy : y < n) : onR c n y = true ↔ ∃ x, x < n ∧ itr c m x = y := by
  rw [onR_iff]
  constructor
  · rintro ⟨i, hi, e⟩
    refine ⟨itr c ((m + 1) * (i + 1) - m) y, itr_lt hc hl hy, ?_⟩
    rw [← itr_add, show m + ((m + 1) * (i + 1) - m) = (m + 1) * (i + 1) by
      have : m ≤ (m + 1) * (i + 1) := by rw [Nat.mul_add, Nat.mul_one]; omega
      omega]
    exact itr_mul e _
  · rintro ⟨x, hx, rfl⟩
    obtain ⟨i, j, hij, hjn, e⟩ := repeats hc hl hx
    refine ⟨j - i - 1, by omega, ?_⟩
    rw [show j - i - 1 + 1 = j - i by omega, show m = (m - i) + i by omega, itr_add c (m - i) i x, ← itr_add, Nat.add_comm, itr_add, ← itr_add c (j - i) i x, show j - i + i = j by omega, e]
/-- the lot of what stands in a list -/
def img (n : Nat) (l : List Nat) : List Nat := (List.range n).filter fun y => decide (y ∈ l)
def stepL (c : List Nat) (n m : Nat) : List Nat := (List.range n).map fun x => itr c m x
theorem img_steps (hc : Ent c n) (hl : c.length = n) {m : Nat} (hm : n ≤ m) : (img n (stepL c n m)).length = rg c n := by
  unfold img rg
  rw [← List.countP_eq_length_filter, countP_sm, countP_sm]
  refine sm_congr fun y hy => ?_
  have hy := List.mem_range.mp hy
  rw [full_out hc hl hy]
  have t := onR_image hc hl hm hy
  have : decide (y ∈ stepL c n m) = onR c n y := by
    unfold stepL
    simp only [List.mem_map, List.mem_range]
    cases e : onR c n y with
    | true => exact decide_eq_true (t.mp e)
    | false => exact decide_eq_false fun q => by rw [t.mpr q] at e; cases e
  rw [this]
  rfl
theorem rg_pos (hc : Ent c n) (hl : c.length = n) (hn : 0 < n) : 0 < rg c n := by
  rw [← img_steps hc hl (Nat.le_refl n)]
  refine List.length_pos_of_mem (a := itr c n 0) ?_
  unfold img stepL
  rw [List.mem_filter, List.mem_range, decide_eq_true_eq, List.mem_map]
  exact ⟨itr_lt hc hl hn, 0, List.mem_range.mpr hn, rfl⟩
theorem rg_le : rg c n ≤ n := by
  unfold rg
  have := List.countP_le_length (p := fun x => (out c n x).isNone && onR c n x) (l := List.range n)
  simpa using this
end

/-! ### the counts of the kind, for few places -/
def binom : Nat → Nat → Nat
  | _, 0 => 1
  | 0, _ + 1 => 0
  | n + 1, k + 1 => binom n k + binom n (k + 1)
def ringCount (n k : Nat) : Nat := binom n k * (if k < n then k * n ^ (n - k - 1) else 1) * fact k
def Wsmall (n k : Nat) : Bool := W n k [] == ringCount n k
theorem small_all : ((List.range 9).all fun n => (List.range (n + 1)).all fun k => k == 0 || Wsmall n k) = true := by decide +kernel
theorem W_nil {n k : Nat} (hn : n ≤ 8) (h1 : 1 ≤ k) (hk : k ≤ n) : W n k [] = ringCount n k := by
  have a := List.all_eq_true.mp small_all n (List.mem_range.mpr (by omega))
  have b := List.all_eq_true.mp a k (List.mem_range.mpr (by omega))
  have : (k == 0) = false := by simp; omega
  rw [this, Bool.false_or] at b
  exact eq_of_beq b
theorem small_lt : ((List.range 9).all fun n => (List.range (n + 1)).all fun k => decide (W n k [] < 2 ^ 30)) = true := by decide +kernel
theorem W_lt {n k : Nat} (hn : n ≤ 8) (hk : k ≤ n) : W n k [] < 2 ^ 30 := by
  have a := List.all_eq_true.mp small_lt n (List.mem_range.mpr (by omega))
  have b := List.all_eq_true.mp a k (List.mem_range.mpr (by omega))
  exact of_decide_eq_true b
end Ev
/-! more of the mathematics: the steps as lists, ascending lists -/
namespace Ev
theorem asc_eq : ∀ {a b : List Int}, a.Pairwise (· < ·) → b.Pairwise (· < ·) → (∀ k, k ∈ a ↔ k ∈ b) → a = b
  | [], [], _, _, _ => rfl
  | [], y :: b, _, _, h => absurd ((h y).mpr (List.mem_cons_self ..)) (by simp)
  | x :: a, [], _, _, h => absurd ((h x).mp (List.mem_cons_self ..)) (by simp)
  | x :: a, y :: b, ha, hb, h => by
    rw [List.pairwise_cons] at ha hb
    have e : x = y := by
      have h1 := (h x).mp (List.mem_cons_self ..)
      have h2 := (h y).mpr (List.mem_cons_self ..)
      rcases List.mem_cons.mp h1 with e | e
      · exact e
      rcases List.mem_cons.mp h2 with e' | e'
      · exact e'.symm
      have := hb.1 x e
      have := ha.1 y e'
      omega
    subst e
    rw [asc_eq ha.2 hb.2 fun k => ?_]
    have hk := h k
    rw [List.mem_cons, List.mem_cons] at hk
    constructor
    · intro m
      rcases hk.mp (.inr m) with e | e
      · have := ha.1 k m
        omega
      · exact e
    · intro m
      rcases hk.mpr (.inr m) with e | e
      · have := hb.1 k m
        omega
      · exact e
theorem img_asc (n : Nat) (l : List Nat) : ((img n l).map fun (x : Nat) => (x : Int)).Pairwise (· < ·) := by
  rw [List.pairwise_map]
  refine List.Pairwise.imp (fun h => ?_) (List.pairwise_lt_range.filter _)
  omega
theorem img_mem {n : Nat} {l : List Nat} (hl : ∀ x ∈ l, x < n) (k : Int) : k ∈ ((img n l).map fun (x : Nat) => (x : Int)) ↔ k ∈ l.map fun (x : Nat) => (x : Int) := by
  rw [List.mem_map, List.mem_map]
  constructor
  · rintro ⟨x, hx, e⟩
    unfold img at hx
    rw [List.mem_filter, decide_eq_true_eq] at hx
    exact ⟨x, hx.2, e⟩
  · rintro ⟨x, hx, e⟩
    refine ⟨x, ?_, e⟩
    unfold img
    rw [List.mem_filter, decide_eq_true_eq, List.mem_range]
    exact ⟨hl x hx, hx⟩
theorem img_is {n : Nat} {l : List Nat} (hl : ∀ x ∈ l, x < n) {ns : List Int} (h1 : ns.Pairwise (· < ·)) (h2 : ∀ k : Int, k ∈ ns ↔ k ∈ l.map fun (x : Nat) => (x : Int)) : ns = (img n l).map fun (x : Nat) => (x : Int) :=
  asc_eq h1 (img_asc n l) fun k => (h2 k).trans (img_mem hl k).symm
theorem img_lt {n : Nat} {l : List Nat} {x : Nat} (h : x ∈ img n l) : x < n := by
  unfold img at h
  exact List.mem_range.mp (List.mem_filter.mp h).1
theorem img_len (n : Nat) (l : List Nat) : (img n l).length ≤ n := by
  have := List.length_filter_le (fun y => decide (y ∈ l)) (List.range n)
  simpa [img] using this
/-- the same lot twice -/
theorem img_cong {n : Nat} {l m : List Nat} (h : ∀ x, x ∈ l ↔ x ∈ m) : img n l = img n m := by
  unfold img
  congr 1
  funext y
  simp only [h]
section
variable {c : List Nat} {n : Nat}
theorem stepL_len (m : Nat) : (stepL c n m).length = n := by simp [stepL]
theorem stepL_at {x : Nat} (m : Nat) (hx : x < n) : (stepL c n m).getD x 0 = itr c m x := by
  unfold stepL
  rw [List.getD_eq_getElem?_getD, List.getElem?_map, List.getElem?_range hx]
  rfl
theorem stepL_lt (hc : Ent c n) (hl : c.length = n) {m x : Nat} (h : x ∈ stepL c n m) : x < n := by
  unfold stepL at h
  obtain ⟨y, hy, rfl⟩ := List.mem_map.mp h
  exact itr_lt hc hl (List.mem_range.mp hy)
theorem stepL_zero : stepL c n 0 = List.range n := by
  unfold stepL
  exact List.map_id' (List.range n)
theorem stepL_one (hl : c.length = n) : stepL c n 1 = c := by
  subst hl
  refine List.ext_getElem? fun i => ?_
  unfold stepL
  rw [List.getElem?_map]
  by_cases h : i < c.length
  · rw [List.getElem?_range h, List.getElem?_eq_getElem h]
    show some (nx c i) = _
    unfold nx
    rw [List.getD_eq_getElem?_getD, List.getElem?_eq_getElem h]
    rfl
  · rw [List.getElem?_eq_none (by simpa using h), List.getElem?_eq_none (by omega)]
    rfl
theorem stepL_comp (hc : Ent c n) (hl : c.length = n) (j m : Nat) : ((stepL c n j).map fun x => (stepL c n m).getD x 0) = stepL c n (m + j) := by
  show ((List.range n).map fun x => itr c j x).map _ = (List.range n).map fun x => itr c (m + j) x
  rw [List.map_map]
  refine List.map_congr_left fun x hx => ?_
  show (stepL c n m).getD (itr c j x) 0 = _
  rw [stepL_at m (itr_lt hc hl (List.mem_range.mp hx)), ← itr_add]
theorem img_next (hc : Ent c n) (hl : c.length = n) (m : Nat) : img n ((img n (stepL c n m)).map fun x => c.getD x 0) = img n (stepL c n (m + 1)) := by
  refine img_cong fun y => ?_
  unfold stepL img
  simp only [List.mem_map, List.mem_filter, List.mem_range, decide_eq_true_eq]
  constructor
  · rintro ⟨z, ⟨hz, x, hx, rfl⟩, rfl⟩
    exact ⟨x, hx, by rw [itr_succ']; rfl⟩
  · rintro ⟨x, hx, rfl⟩
    exact ⟨itr c m x, ⟨itr_lt hc hl hx, x, hx, rfl⟩, by rw [itr_succ']; rfl⟩
end
end Ev
/-! the ways of the places, as the two programs go them -/
namespace Ev
/-- the first l places of the way of x -/
def pathN (b : List Nat) (x l : Nat) : List Nat := (List.range l).map fun i => itr b i x
section
variable {b : List Nat} {n x l : Nat}
theorem pathN_len : (pathN b x l).length = l := by simp [pathN]
theorem pathN_at {i : Nat} (h : i < l) : (pathN b x l)[i]? = some (itr b i x) := by
  unfold pathN
  rw [List.getElem?_map, List.getElem?_range h]
  rfl
theorem pathN_D {i : Nat} (h : i < l) : (pathN b x l).getD i 0 = itr b i x := by
  rw [List.getD_eq_getElem?_getD, pathN_at h]
  rfl
theorem pathN_succ : pathN b x (l + 1) = pathN b x l ++ [itr b l x] := by
  unfold pathN
  rw [List.range_succ, List.map_append]
  rfl
theorem pathN_one : pathN b x 1 = [x] := rfl
theorem pathN_mem {y : Nat} : y ∈ pathN b x l ↔ ∃ i, i < l ∧ itr b i x = y := by
  unfold pathN
  simp only [List.mem_map, List.mem_range]
theorem pathN_tail : (pathN b x (l + 1)).drop 1 = (List.range l).map fun i => itr b (i + 1) x := by
  unfold pathN
  rw [List.range_succ_eq_map, List.map_cons, List.map_map]
  rfl
theorem itr_ent (hb : Ent b n) : ∀ {i x : Nat}, x < n → (∀ j, j < i → itr b j x < b.length) → itr b i x < n
  | 0, _, hx, _ => hx
  | i + 1, x, hx, h => by
    have h0 : x < b.length := h 0 (by omega)
    exact itr_ent hb (i := i) (nx_lt hb h0) fun j hj => h (j + 1) (by omega)
theorem lds_path : ∀ {l x : Nat}, (∀ i, i < l → itr b i x < b.length) → b.length ≤ itr b l x → Lds b x (itr b l x) (l + 1)
  | 0, x, _, h => .here h
  | l + 1, x, h, hr => .on (h 0 (by omega)) (lds_path (l := l) (fun i hi => h (i + 1) (by omega)) hr)
theorem out_path (hb : Ent b n) (hx : x < n) (h : ∀ i, i < l → itr b i x < b.length) (hr : b.length ≤ itr b l x) : out b n x = some (itr b l x, l + 1) :=
  (out_some hb hx).mpr (lds_path h hr)
theorem out_long (hb : Ent b n) (hx : x < n) (h : ∀ i, i < n → itr b i x < b.length) : out b n x = none := by
  rw [out_none hb hx]
  intro r l q
  have h1 := q.root
  have h2 := (q.le hb hx).1
  have h3 := q.pos
  have h4 := h (l - 1) (by omega)
  rw [itr_last q] at h4
  omega
theorem mem_tail : x ∈ (pathN b x (n + 1)).drop 1 ↔ onR b n x = true := by
  rw [pathN_tail, onR_iff]
  simp only [List.mem_map, List.mem_range]
theorem all_low {j : Nat} (h : ∀ i, i < l → itr b i x < b.length) (hj : j < l) (e : itr b l x = itr b j x) : ∀ i, itr b i x < b.length := by
  intro i
  induction i using Nat.strongRecOn with
  | ind i ih =>
    by_cases hi : i < l
    · exact h i hi
    · have e1 : i = (i - l) + l := by omega
      rw [e1, itr_add, e, ← itr_add]
      exact ih _ (by omega)
theorem out_back (hb : Ent b n) (hx : x < n) (h : ∀ i, i < l → itr b i x < b.length) (hm : itr b l x ∈ pathN b x l) : out b n x = none := by
  obtain ⟨j, hj, e⟩ := pathN_mem.mp hm
  exact out_long hb hx fun i _ => all_low h hj e.symm i
theorem onR_back (hnd : (pathN b x l).Nodup) (hl : 1 ≤ l) (hln : l ≤ n) (hm : itr b l x ∈ pathN b x l) : onR b n x = decide (itr b l x = x) := by
  obtain ⟨j, hj, e⟩ := pathN_mem.mp hm
  cases q : onR b n x with
  | false =>
    refine (decide_eq_false fun z => ?_).symm
    have : onR b n x = true := onR_iff.mpr ⟨l - 1, by omega, by rw [show l - 1 + 1 = l by omega]; exact z⟩
    rw [q] at this
    cases this
  | true =>
    refine (decide_eq_true ?_).symm
    obtain ⟨i, hi, z⟩ := onR_iff.mp q
    by_cases hj0 : j = 0
    · subst hj0
      exact e.symm
    · exfalso
      have z2 : itr b (j * (i + 1)) x = x := itr_mul z j
      have hge : j ≤ j * (i + 1) := Nat.le_mul_of_pos_right j (by omega)
      have e1 : itr b (j * (i + 1) - j + l) x = x := by
        rw [itr_add, ← e, ← itr_add, show j * (i + 1) - j + j = j * (i + 1) by omega, z2]
      rw [show j * (i + 1) - j + l = (l - j) + j * (i + 1) by omega, itr_add, z2] at e1
      unfold pathN List.Nodup at hnd
      rw [List.pairwise_map] at hnd
      have := List.pairwise_iff_getElem.mp hnd 0 (l - j) (by simp; omega) (by simp; omega) (by omega)
      simp only [List.getElem_range] at this
      exact this e1.symm
theorem nodup_succ (hnd : (pathN b x l).Nodup) (h : itr b l x ∉ pathN b x l) : (pathN b x (l + 1)).Nodup := by
  rw [pathN_succ]
  refine List.nodup_append.mpr ⟨hnd, by simp, fun a ha c hc => ?_⟩
  rw [List.mem_singleton.mp hc]
  intro e
  exact h (e ▸ ha)
theorem path_le (hb : Ent b n) (hx : x < n) (hnd : (pathN b x l).Nodup) (h : ∀ i, i + 1 < l → itr b i x < b.length) : l ≤ n := by
  have := nodup_le (n := n) hnd fun y hy => by
    obtain ⟨i, hi, rfl⟩ := pathN_mem.mp hy
    exact itr_ent hb hx fun j hj => h j (by omega)
  rwa [pathN_len] at this
end
/-! ### the heaps of the first places -/
def hpU (b : List Nat) (n r i : Nat) : List Nat := (List.range i).filterMap fun x => pick r (out b n x)
def heapsU (b : List Nat) (n i : Nat) : List (List Nat) := (List.range (n - b.length)).map fun j => hpU b n (b.length + j) i
def clU (b : List Nat) (n i : Nat) : Nat := (List.range i).countP fun x => (out b n x).isNone
def rgU (b : List Nat) (n i : Nat) : Nat := (List.range i).countP fun x => (out b n x).isNone && onR b n x
section
variable {b : List Nat} {n i : Nat}
theorem heapsU_all : heapsU b n n = heaps b n := rfl
theorem clU_all : clU b n n = cl b n := rfl
theorem rgU_all : rgU b n n = rg b n := rfl
theorem heapsU_zero : heapsU b n 0 = List.replicate (n - b.length) [] := by
  unfold heapsU
  show (List.range (n - b.length)).map (fun _ => []) = _
  rw [List.map_const']
  simp
theorem heapsU_len : (heapsU b n i).length = n - b.length := by simp [heapsU]
theorem heapsU_at {j : Nat} (h : j < n - b.length) : (heapsU b n i)[j]? = some (hpU b n (b.length + j) i) := by
  unfold heapsU
  rw [List.getElem?_map, List.getElem?_range h]
  rfl
theorem hpU_succ (r : Nat) : hpU b n r (i + 1) = hpU b n r i ++ (pick r (out b n i)).toList := by
  unfold hpU
  rw [List.range_succ, List.filterMap_append]
  cases e : pick r (out b n i) with
  | none => simp [e]
  | some y => simp [e]
theorem step_open {r l : Nat} (h : out b n i = some (r, l)) (hr : b.length ≤ r) (hrn : r < n) :
    heapsU b n (i + 1) = (heapsU b n i).set (r - b.length) (hpU b n r i ++ [l]) ∧ clU b n (i + 1) = clU b n i ∧ rgU b n (i + 1) = rgU b n i := by
  refine ⟨List.ext_getElem? fun j => ?_, ?_, ?_⟩
  · by_cases hj : j < n - b.length
    · rw [heapsU_at hj, hpU_succ, h]
      by_cases e : j = r - b.length
      · rw [← e, List.getElem?_set_self (by rw [heapsU_len]; exact hj), show b.length + j = r by omega]
        simp [pick]
      · rw [List.getElem?_set_ne (by omega), heapsU_at hj]
        simp [pick, show ¬ r = b.length + j by omega]
    · rw [List.getElem?_eq_none (by rw [heapsU_len]; omega), List.getElem?_eq_none (by rw [List.length_set, heapsU_len]; omega)]
  · unfold clU
    rw [List.range_succ, List.countP_append]
    simp [h]
  · unfold rgU
    rw [List.range_succ, List.countP_append]
    simp [h]
theorem step_closed (h : out b n i = none) : heapsU b n (i + 1) = heapsU b n i ∧ clU b n (i + 1) = clU b n i + 1 ∧ rgU b n (i + 1) = rgU b n i + (if onR b n i = true then 1 else 0) := by
  refine ⟨?_, ?_, ?_⟩
  · unfold heapsU
    refine List.map_congr_left fun j _ => ?_
    rw [hpU_succ, h]
    simp [pick]
  · unfold clU
    rw [List.range_succ, List.countP_append]
    simp [h]
  · unfold rgU
    rw [List.range_succ, List.countP_append]
    simp [h, List.countP_cons]
theorem clU_le : clU b n i ≤ i := by
  have := List.countP_le_length (p := fun x => (out b n x).isNone) (l := List.range i)
  simpa [clU] using this
theorem rgU_le : rgU b n i ≤ i := by
  have := List.countP_le_length (p := fun x => (out b n x).isNone && onR b n x) (l := List.range i)
  simpa [rgU] using this
theorem hpU_le (r : Nat) : (hpU b n r i).length ≤ i := by
  have := List.length_filterMap_le (fun x => pick r (out b n x)) (List.range i)
  simpa [hpU] using this
end
end Ev
/-! what is chosen: by a list, by a dict -/
namespace Ev
abbrev T3 := Nat × Nat × Nat
def nx3 (t : T3) (h : List Nat) (s : Nat) : T3 := (t.1 + 1, t.2.1 + h.length, t.2.2 + s)
def chStep (ts : List T3) (h : List Nat) : List T3 := ts ++ ts.flatMap fun t => h.map fun s => nx3 t h s
def shT (f : F3) (t : T3) : F3 := sh f t.1 t.2.1 t.2.2
theorem shT_nx (f : F3) (t : T3) (h : List Nat) (s : Nat) (A : List (List Nat)) : E A (sh (shT f t) 1 h.length s) = E A (shT f (nx3 t h s)) := by
  refine E_congr fun a b c => ?_
  show f (a + 1 + t.1) (b + h.length + t.2.1) (c + s + t.2.2) = f (a + (t.1 + 1)) (b + (t.2.1 + h.length)) (c + (t.2.2 + s))
  rw [show a + 1 + t.1 = a + (t.1 + 1) by omega, show b + h.length + t.2.1 = b + (t.2.1 + h.length) by omega, show c + s + t.2.2 = c + (t.2.2 + s) by omega]
theorem E_cons (h : List Nat) (A : List (List Nat)) (f : F3) (t : T3) : E (h :: A) (shT f t) = E A (shT f t) + sm (fun s => E A (shT f (nx3 t h s))) h := by
  simp only [E]
  congr 1
  exact sm_congr fun s _ => shT_nx f t h s A
theorem chosen_sum (f : F3) : ∀ (hs : List (List Nat)) (ts : List T3), sm (fun t => f t.1 t.2.1 t.2.2) (hs.foldl chStep ts) = sm (fun t => E hs (shT f t)) ts
  | [], ts => by
    refine sm_congr fun t _ => ?_
    show _ = f (0 + t.1) (0 + t.2.1) (0 + t.2.2)
    rw [Nat.zero_add, Nat.zero_add, Nat.zero_add]
  | h :: A, ts => by
    rw [List.foldl_cons, chosen_sum f A]
    unfold chStep
    rw [sm_append, sm_flatMap, ← sm_add]
    refine sm_congr fun t _ => ?_
    rw [sm_map, E_cons]
theorem chStep_len (ts : List T3) (h : List Nat) : (chStep ts h).length = ts.length * (1 + h.length) := by
  unfold chStep
  rw [List.length_append, Nat.mul_add, Nat.mul_one]
  congr 1
  induction ts with
  | nil => simp
  | cons a l ih =>
    rw [List.flatMap_cons, List.length_append, ih, List.length_map, List.length_cons, Nat.add_mul, Nat.one_mul]
    omega
theorem one_le_two (a : Nat) : 1 + a ≤ 2 ^ a := by
  induction a with
  | zero => decide
  | succ a ih =>
    rw [Nat.pow_succ]
    omega
theorem mul_two {x a c : Nat} (h : x ≤ 2 ^ c) : x * (1 + a) ≤ 2 ^ (c + a) := by
  rw [Nat.pow_add]
  exact Nat.mul_le_mul h (one_le_two a)
theorem tot_take {hs : List (List Nat)} {i : Nat} (h : i < hs.length) : tot (hs.take (i + 1)) = tot (hs.take i) + (hs[i]).length := by
  unfold tot
  rw [List.take_add_one, List.getElem?_eq_getElem h, sm_append]
  rfl
theorem tot_take_le (hs : List (List Nat)) (i : Nat) : tot (hs.take i) ≤ tot hs := by
  have : hs = hs.take i ++ hs.drop i := (List.take_append_drop i hs).symm
  have e : tot hs = tot (hs.take i) + tot (hs.drop i) := by
    conv => lhs; rw [this]
    exact sm_append _ _ _
  omega
theorem tot_heaps {b : List Nat} {n : Nat} (hb : Ent b n) : cl b n + tot (heaps b n) ≤ n := by
  by_cases hk : b.length < n
  · have := places_all hb hk
    rw [heaps_cons hk]
    show cl b n + (_ + tot _) ≤ n
    omega
  · have : heaps b n = [] := by
      unfold heaps
      rw [show n - b.length = 0 by omega]
      rfl
    rw [this]
    have h1 : cl b n ≤ n := clU_le (i := n)
    show cl b n + 0 ≤ n
    omega
theorem flat_len (h : List Nat) : ∀ l : List T3, (l.flatMap fun t => h.map fun s => nx3 t h s).length = l.length * h.length
  | [] => by simp
  | a :: l => by
    rw [List.flatMap_cons, List.length_append, flat_len h l, List.length_map, List.length_cons, Nat.add_mul, Nat.one_mul]
    omega
theorem chosen_len : ∀ (hs : List (List Nat)) (ts : List T3), (hs.foldl chStep ts).length ≤ ts.length * 2 ^ tot hs
  | [], ts => by
    show ts.length ≤ ts.length * 2 ^ 0
    omega
  | h :: A, ts => by
    rw [List.foldl_cons]
    refine Nat.le_trans (chosen_len A (chStep ts h)) ?_
    rw [chStep_len, Nat.mul_assoc]
    refine Nat.mul_le_mul_left _ ?_
    show (1 + h.length) * 2 ^ tot A ≤ 2 ^ (h.length + tot A)
    rw [Nat.pow_add]
    exact Nat.mul_le_mul_right _ (one_le_two _)
theorem chosen_few {hs : List (List Nat)} (h : tot hs ≤ 10) (i : Nat) : ((hs.take i).foldl chStep [(0, 0, 0)]).length ≤ 1024 := by
  refine Nat.le_trans (chosen_len _ _) ?_
  rw [List.length_singleton, Nat.one_mul]
  exact Nat.pow_le_pow_right (by decide) (Nat.le_trans (tot_take_le hs i) h)
theorem part_few {ts : List T3} {h : List Nat} (j : Nat) (hl : (chStep ts h).length ≤ 1024) : (ts ++ (ts.take j).flatMap fun t => h.map fun s => nx3 t h s).length ≤ 1024 := by
  rw [chStep_len, Nat.mul_add, Nat.mul_one] at hl
  rw [List.length_append, flat_len]
  have := Nat.mul_le_mul_right h.length (show (ts.take j).length ≤ ts.length by rw [List.length_take]; omega)
  omega
theorem chosen_bd : ∀ (hs : List (List Nat)) (ts : List T3) (a c : Nat), (∀ t ∈ ts, t.1 ≤ a ∧ t.2.1 ≤ c) → ∀ t ∈ hs.foldl chStep ts, t.1 ≤ a + hs.length ∧ t.2.1 ≤ c + tot hs
  | [], ts, a, c, h, t, ht => h t ht
  | g :: A, ts, a, c, h, t, ht => by
    rw [List.foldl_cons] at ht
    have := chosen_bd A (chStep ts g) (a + 1) (c + g.length) (fun u hu => by
      unfold chStep at hu
      rcases List.mem_append.mp hu with hu | hu
      · have := h u hu
        omega
      · obtain ⟨v, hv, hm⟩ := List.mem_flatMap.mp hu
        obtain ⟨s, _, rfl⟩ := List.mem_map.mp hm
        have := h v hv
        show v.1 + 1 ≤ a + 1 ∧ v.2.1 + g.length ≤ c + g.length
        omega) t ht
    rw [List.length_cons]
    show t.1 ≤ a + (A.length + 1) ∧ t.2.1 ≤ c + (g.length + tot A)
    omega
theorem foldl_take {hs : List (List Nat)} {ts : List T3} {i : Nat} (h : i < hs.length) : (hs.take (i + 1)).foldl chStep ts = chStep ((hs.take i).foldl chStep ts) hs[i] := by
  rw [List.take_add_one, List.getElem?_eq_getElem h, List.foldl_append]
  rfl
/-! ### by a dict -/
abbrev Dn := List (T3 × Nat)
def WS (F : T3 → Nat) (d : Dn) : Nat := sm (fun e => e.2 * F e.1) d
def lookN (d : Dn) (k : T3) : Nat := ((d.find? fun e => decide (e.1 = k)).map (·.2)).getD 0
def putN (d : Dn) (k : T3) (v : Nat) : Dn := if (d.any fun e => decide (e.1 = k)) = true then d.map fun e => if e.1 = k then (e.1, v) else e else d ++ [(k, v)]
theorem putN_keys (d : Dn) (k : T3) (v : Nat) : (putN d k v).map (·.1) = if (d.any fun e => decide (e.1 = k)) = true then d.map (·.1) else d.map (·.1) ++ [k] := by
  unfold putN
  split
  · rw [List.map_map]
    refine List.map_congr_left fun e _ => ?_
    show (if e.1 = k then (e.1, v) else e).1 = e.1
    split <;> rfl
  · rw [List.map_append]
    rfl
theorem putN_nodup {d : Dn} (k : T3) (v : Nat) (h : (d.map (·.1)).Nodup) : ((putN d k v).map (·.1)).Nodup := by
  rw [putN_keys]
  split
  · exact h
  · rename_i hn
    refine List.nodup_append.mpr ⟨h, by simp, fun a ha c hc => ?_⟩
    rw [List.mem_singleton.mp hc]
    rintro rfl
    obtain ⟨e, he, rfl⟩ := List.mem_map.mp ha
    exact hn (List.any_eq_true.mpr ⟨e, he, by simp⟩)
theorem putN_len (d : Dn) (k : T3) (v : Nat) : (putN d k v).length ≤ d.length + 1 := by
  unfold putN
  split
  · simp
  · simp
theorem putN_mem {d : Dn} {k : T3} {v : Nat} {e : T3 × Nat} (h : e ∈ putN d k v) : e.1 = k ∨ e.1 ∈ d.map (·.1) := by
  have : e.1 ∈ (putN d k v).map (·.1) := List.mem_map_of_mem h
  rw [putN_keys] at this
  split at this
  · exact .inr this
  · rcases List.mem_append.mp this with h | h
    · exact .inr h
    · exact .inl (List.mem_singleton.mp h)
theorem WS_put (F : T3 → Nat) (k : T3) (v : Nat) : ∀ {d : Dn}, (d.map (·.1)).Nodup → WS F (putN d k (lookN d k + v)) = WS F d + v * F k
  | [], _ => by simp [putN, lookN, WS, sm]
  | e :: d, hn => by
    rw [List.map_cons, List.nodup_cons] at hn
    by_cases he : e.1 = k
    · have no : ∀ x ∈ d, x.1 ≠ k := fun x hx z => hn.1 (by rw [he, ← z]; exact List.mem_map_of_mem hx)
      have e1 : lookN (e :: d) k = e.2 := by simp [lookN, he]
      have e2 : putN (e :: d) k (lookN (e :: d) k + v) = (e.1, e.2 + v) :: d := by
        unfold putN
        rw [if_pos (by simp [he]), List.map_cons, if_pos he, e1]
        congr 1
        refine (List.map_congr_left fun x hx => ?_).trans (List.map_id d)
        rw [if_neg (no x hx)]
        rfl
      rw [e2]
      show (e.2 + v) * F e.1 + WS F d = (e.2 * F e.1 + WS F d) + v * F k
      rw [he, Nat.add_mul]
      omega
    · have ih := WS_put F k v hn.2
      have e1 : lookN (e :: d) k = lookN d k := by simp [lookN, he]
      have e2 : putN (e :: d) k (lookN (e :: d) k + v) = e :: putN d k (lookN d k + v) := by
        rw [e1]
        unfold putN
        rw [List.any_cons, decide_eq_false he, Bool.false_or]
        split
        · rw [List.map_cons, if_neg he]
        · rfl
      rw [e2]
      show e.2 * F e.1 + WS F (putN d k (lookN d k + v)) = (e.2 * F e.1 + WS F d) + v * F k
      rw [ih]
      omega
theorem E_over {n count M : Nat} {A : List (List Nat)} {t : T3} (h : count < t.2.2) : E A (shT (wt n count M 0 0) t) = 0 := by
  refine E_zero fun s p r => ?_
  show wt n count M 0 0 (s + t.1) (p + t.2.1) (r + t.2.2) = 0
  unfold wt
  rw [if_neg (by omega)]
theorem E_start {n count M c R : Nat} (A : List (List Nat)) : E A (shT (wt n count M 0 0) (0, c, R)) = E A (wt n count M c R) := by
  refine E_congr fun s p r => ?_
  show wt n count M 0 0 (s + 0) (p + c) (r + R) = _
  unfold wt
  rw [show 0 + (p + c) = c + p by omega, show 0 + (r + R) = R + r by omega, Nat.add_zero]
end Ev
namespace Ev
open PySem PySem.Spec PySem.Calls PyProof.Rows L2
section
variable {X : Cx}
/-! ### math.factorial, math.comb of few -/
theorem factN : ∀ n : Nat, Builtin.Math.factorialNat n = fact n
  | 0 => rfl
  | n + 1 => by
    have ih := factN n
    unfold Builtin.Math.factorialNat at ih ⊢
    rw [List.range_succ, List.foldl_append, ih]
    show fact n * (n + 1) = (n + 1) * fact n
    exact Nat.mul_comm _ _
theorem fact_few : ((List.range 11).all fun n => decide ((fact n : Int).natAbs.log2 < bitsLine)) = true := by decide +kernel
def rFact : List V → Hp → VK → Prop := fun vs H Q => ∃ n : Nat, vs = [.int (n : Int)] ∧ n ≤ 10 ∧ Q (.int (fact n : Nat)) H
theorem cr_fact : CallR X (.builtin "math.factorial") rFact := by
  intro pins s σ H vs us Q I r h
  obtain ⟨n, rfl, hn, q⟩ := h
  obtain ⟨t, rfl⟩ : ∃ t, us = [Value.int (n : Int) t] := by
    cases r with
    | cons a b =>
      cases b
      obtain ⟨t, rfl⟩ := a
      exact ⟨t, rfl⟩
  have hs := of_decide_eq_true (List.all_eq_true.mp fact_few n (List.mem_range.mpr (by omega)))
  refine PySem.W.mg_factorial_v (c := (fact n : Nat)) ?_ (by omega) ?_ (by rw [Int.toNat_natCast, factN]) hs ⟨.int _, H, I.tok _, ⟨_, rfl⟩, q⟩
  · have : (10 : Int) ≤ Builtin.Math.maxSsize := by decide
    omega
  · have : (10 : Int) ≤ Builtin.Math.manyFactors := by decide
    omega
theorem comb_few : ((List.range 11).all fun n => (List.range 11).all fun k => PySem.W.mcComb (n : Int) (k : Int) == ((binom n k : Nat) : Int)) = true := by decide +kernel
def rComb : List V → Hp → VK → Prop := fun vs H Q => ∃ n k : Nat, vs = [.int (n : Int), .int (k : Int)] ∧ n ≤ 10 ∧ k ≤ 10 ∧ Q (.int (binom n k : Nat)) H
theorem cr_comb : CallR X (.builtin "math.comb") rComb := by
  intro pins s σ H vs us Q I r h
  obtain ⟨n, k, rfl, hn, hk, q⟩ := h
  obtain ⟨t, u, rfl⟩ := Vals.int2 r
  have e := eq_of_beq (List.all_eq_true.mp (List.all_eq_true.mp comb_few n (List.mem_range.mpr (by omega))) k (List.mem_range.mpr (by omega)))
  exact PySem.W.mc_comb_v (by omega) (by omega) (by omega) (.inl (by omega)) e ⟨.int _, H, I.tok _, ⟨_, rfl⟩, q⟩

/-! ### enumerate of a tuple -/
end
set_option maxHeartbeats 1000000 in
theorem enum_new1 {v : Value} {o : Obj} {G : Heap → Prop} (B : Begins v o G) : Meets (Builtin.«enumerate.__new__» ⟨[.type "enumerate", v], []⟩) (fun _ R s => G s.heap ∧
    R (.ok (.ret (.ref (s.heap.push o).objs.size))) { s with heap := (s.heap.push o).push { cls := .type "enumerate", data := .fields #[.none, .bool false, .ref s.heap.objs.size, rawInt 0, .none, .none] } }) :=
  .of_wp fun prog w A R st hw => by
    obtain ⟨hp, gs, dr, tk, os⟩ := st
    obtain ⟨h1, hr⟩ := hw
    have sube := sub_enumerate
    have it : ∀ {A' : Around} {E : Value → Shared → Prop} {Q : Value → Shared → Prop}, Q (.ref hp.objs.size) ⟨hp.push o, gs, dr, tk, os⟩ → wpAny (model prog w) A' (pyIter v) Q E ⟨hp, gs, dr, tk, os⟩ := fun q =>
      B.iter prog w _ _ ⟨hp, gs, dr, tk, os⟩ _ h1 q
    wp_walk
    refine wpAny_stack_any fun sk => wpAny_pure ?_
    split
    · rename_i c _ _ _ _ _
      cases (c == Value.type "enumerate") <;> (wp_walk using it; exact ⟨_, rfl, hr⟩)
    · wp_walk using it
      exact ⟨_, rfl, hr⟩
theorem call_enum1 {prog : Program} {w : World} {A : Around} {E : Value → Shared → Prop} {s : Shared} {v : Value} {o : Obj} {G : Heap → Prop} {Q : Value → Shared → Prop} (B : Begins v o G) (h1 : G s.heap)
    (h : ∀ h', IsEnum h' (s.heap.objs.size + 1) s.heap.objs.size 0 .none → h'.get? s.heap.objs.size = some o → (∀ b o, s.heap.get? b = some o → h'.get? b = some o) → Q (.ref (s.heap.objs.size + 1)) { s with heap := h' }) :
    wpAny (model prog w) A (call (.type "enumerate") [v]) Q E s := by
  refine callType_new F.called_enumerate (by decide) (F.typeCall_enumerate_1 _) (F.newCall_enumerate_1 _) (fun obj => F.args_object_init_2 obj _) F.entry_enumerate_new (enum_new1 B) ⟨h1, ?_⟩
  show _ ∧ _
  have ez : (s.heap.push o).objs.size = s.heap.objs.size + 1 := Heap.size_push ..
  have e0 := Heap.get?_push_size (s.heap.push o) (o := { cls := .type "enumerate", data := .fields #[.none, .bool false, .ref s.heap.objs.size, rawInt 0, .none, .none] }) rfl
  rw [ez] at e0 ⊢
  exact ⟨⟨_, e0, rfl⟩, h _ e0 (Heap.get?_push_of_some _ (Heap.get?_push_size _ B.free)) fun b o x => Heap.get?_push_of_some _ (Heap.get?_push_of_some _ x)⟩
/-- the tuple at a, each item in a new pair -/
def Itet (K : PySem.W.Frag) (a : Addr) : It :=
  ⟨fun i H => ∃ (xs : List V) (x : V), SqT K H a xs ∧ xs[i]? = some x, fun i H v H' => ∃ T x, v = .ref T ∧ H T = none ∧ H' = upd H T (.tup [.int (i : Nat), x]) ∧ ∀ xs, SqT K H a xs → xs[i]? = some x, fun i H => ∃ xs : List V, SqT K H a xs ∧ xs.length ≤ i⟩
theorem turn_enumT {P : Program} {w : World} {K : PySem.W.Frag} {elts : List Expr} {kk : Nat} {tpos : Pos} (a e it : Addr) :
    Turn P w K (.Tuple elts kk tpos) (Itet K a) [e, it] e (fun i h => (∃ old, IsEnum h e it ((i : Nat) : Int) old) ∧ h.IsTupleIter it a i ∧ e ≠ it) where
  mem := by simp
  obj := fun i h st b hb => by
    obtain ⟨⟨old, he⟩, ⟨o, ho, hc, hd⟩, _⟩ := st
    rcases (show b = e ∨ b = it by simpa using hb) with z | z
    · subst z; exact ⟨_, he, fun v q => nomatch q⟩
    · subst z; exact ⟨o, ho, fun v q => by rw [hd] at q; cases q⟩
  keep := fun i h h' st k => by
    obtain ⟨⟨old, he⟩, hi, hne⟩ := st
    exact ⟨⟨old, k e (by simp) _ he⟩, hi.at fun o q => k it (by simp) o q, hne⟩
  item := by
    intro X hP hw hK hc i pins s σ H E I hf st hg
    subst hP hw hK
    obtain ⟨⟨old, he⟩, hit, hne⟩ := st
    obtain ⟨xs, x, hq, hx⟩ := hg
    obtain ⟨its, rv, p, hz⟩ := I.tuple hq
    obtain ⟨u, hu, ru⟩ := rv.get hx
    have hel : e < s.heap.objs.size := Heap.lt_size he
    have hil : it < s.heap.objs.size := by
      obtain ⟨_, q, _⟩ := hit
      exact Heap.lt_size q
    have hai : a ≠ it := by
      rintro rfl
      obtain ⟨o1, q1, _, _, d1⟩ := p
      obtain ⟨o2, q2, _, d2⟩ := hit
      rw [q1] at q2
      cases q2
      rw [d1] at d2
      cases d2
    have hea : e ≠ a := by
      rintro rfl
      obtain ⟨o1, q1, _, _, d1⟩ := p
      unfold IsEnum at he
      rw [q1] at he
      cases he
      cases d1
    refine wpAny_pyNext_enum_itemD (Draws.tuple (A := X.A.in1) (I.ok.hd hc) it a hai its.toArray) he ⟨hit, p⟩ (by
      have := (List.getElem?_eq_some_iff.mp hu).1
      simpa using this) hne (by simp [hne, hea]) fun y h' tk hy ho hst hT hsz hk => ?_
    have ey : y = u := by
      have : its[i]? = some y := by simpa using hy
      rw [hu] at this
      exact (Option.some.inj this).symm
    subst ey
    refine ⟨_, rfl, wpAny_letOwnedTupleGo_enum (s := { s with heap := h', toks := tk + 1 }) ho fun h2 he2 sb => ?_⟩
    have hT2 := (sb.2 _ (Nat.ne_of_gt hel)).trans hT
    have laid : ObjOk X.prog X.w (upd H s.heap.objs.size (.tup [.int (i : Nat), x])) h2 s.heap.objs.size (.tup [.int (i : Nat), x]) :=
      ⟨(by decide : 2 ≤ sizeLine), [.int i tk, y], .cons ⟨_, rfl⟩ (.cons ru .nil), ⟨_, hT2, rfl, _, rfl⟩⟩
    have ne2 : ∀ b, b ∉ [e, it] → b ≠ e ∧ b ≠ it := fun b hb => by simpa using hb
    have I1 : Inv X pins σ (upd H s.heap.objs.size (.tup [.int (i : Nat), x])) { s with heap := h2, toks := tk + 1 } :=
      I.turnedNew (ch := [e, it]) (fun b ob hb q => (sb.2 b (ne2 b hb).1).trans (hk b ob (ne2 b hb).1 (ne2 b hb).2 q)) hf (Nat.le_refl _) laid
    refine ⟨.ref s.heap.objs.size, _, I1, rfl, ⟨_, x, rfl, I.hok.fresh (Nat.le_refl _), rfl, fun ys hy => by rw [I.tuple_inj hy hq]; exact hx⟩, ⟨⟨y, ?_⟩, hst.1.at fun o q => (sb.2 it (Ne.symm hne)).trans q, hne⟩, fun b hb => ?_⟩
    · rw [show ((i + 1 : Nat) : Int) = (i : Int) + 1 by omega]
      exact he2
    · rcases (show b = e ∨ b = it by simpa using hb) with z | z
      · subst z
        rw [upd_ne (Nat.ne_of_lt hel)]
        exact (hf _ hb).1
      · subst z
        rw [upd_ne (Nat.ne_of_lt hil)]
        exact (hf _ hb).1
  done := by
    intro X hP hw hK hc i pins s σ H E I hf st hg
    subst hP hw hK
    obtain ⟨⟨old, he⟩, hit, hne⟩ := st
    obtain ⟨xs, hq, hx⟩ := hg
    obtain ⟨its, rv, p, hz⟩ := I.tuple hq
    obtain ⟨f0, f1, f2, f3, f4, f5⟩ := hf it (by simp)
    have hl := rv.length
    have D : Draws X.prog X.w X.A.in1 it [it, a] i (fun _ _ => False) (fun j h => j = i ∧ h.IsTupleIter it a i ∧ h.IsTuple a its.toArray) := {
      live := fun _ _ st => let ⟨o, ho, _⟩ := st.2.1; ⟨o, ho⟩
      frame := fun _ _ _ st k => ⟨st.1, st.2.1.at fun o e => k it (by simp) o e, st.2.2.at fun o e => k a (by simp) o e⟩
      item := fun j s Q E hj st _ => absurd st.1 (by omega)
      done := fun s Q E st hE => wpAny_nextOf_tuple_end (I.ok.hd hc) st.2.1 st.2.2 (by simp; omega) hE }
    exact wpAny_pyNext_enum_endD D he ⟨rfl, hit, p⟩ fun h' eb => ⟨rfl, I.turned (t' := s.toks) (fun b o hb q => eb b o hb q) f0 f1 f3 f4 f5⟩
  self := fun A i s Q E st h => by
    obtain ⟨⟨_, he⟩, _⟩ := st
    exact wpAny_pyIter_enum he h
def iEnumT (K : PySem.W.Frag) (ta : TA) : TI := fun σ H R => ta σ H fun vs H1 => ∃ a xs, vs = [.ref a] ∧ SqT K H1 a xs ∧ R (Itet K a) H1
theorem pi_enumT {X : Cx} {e : Expr} {ta : TA} {p pos tpos : Pos} {elts : List Expr} {kk : Nat} (hg : Gl X "enumerate") (hm : X.mg "enumerate" = none) (ha : PA X [e] ta) (hs : starEach [e] X.env = [(false, eval e X.env)] := by rfl) :
    PI X (.Tuple elts kk tpos) (.Call (.Name "enumerate" p) [e] [] pos) (iEnumT X.K ta) := by
  refine ⟨fun pins s σ H R I h => Call_ (ld_blt I hg hm boot_enumerate (PyProof.Rows.callWith_type1 (thn (ha.run pos pins s σ H _ I h) fun us s1 ⟨vs, H1, I1, r1, a, xs, ex, hq, q⟩ => ?_) hs rfl))⟩
  subst ex
  rw [Vals.ref1 r1]
  obtain ⟨its, rv, p', hz⟩ := I1.tuple hq
  refine call_enum1 (begins_tuple a its.toArray) p' fun h' he hit hk => wpAny_pyIter_enum he ?_
  have I2 : Inv X pins σ H1 { s1 with heap := h' } := I1.kept (t' := s1.toks) hk
  refine ⟨s1.heap.objs.size + 1, [s1.heap.objs.size + 1, s1.heap.objs.size], _, _, H1, rfl, I2, turn_enumT a (s1.heap.objs.size + 1) s1.heap.objs.size, ⟨⟨.none, he⟩, ⟨_, hit, rfl, rfl⟩, Nat.succ_ne_self _⟩, fun b hb => ?_, q⟩
  have hle : s1.heap.objs.size ≤ b := by
    rcases (show b = s1.heap.objs.size + 1 ∨ b = s1.heap.objs.size by simpa using hb) with z | z <;> rw [z]
    · exact Nat.le_add_right _ _
    · exact Nat.le_refl _
  exact I1.fpOk hle (I1.hok.fresh hle)
end Ev
namespace Ev
open PySem PySem.Spec PySem.Calls PyProof.Rows L2
/-! ### set(xs) of a list of ints, with its table -/
abbrev fresh0 (w : World) : Obj := { cls := .type "set", dict := none, data := .set #[] 0 (.fresh 0 0 (!w.params.followText "set-order")) }
section
variable {P : Program} {w : World} {A : Around} {E : Value → Shared → Prop} {s : Shared}
theorem init_lst {l : Addr} {items : Array Value} (ns : List Int) {R : Value → Shared → Prop} (hh : A.handled = none) (hl : s.heap.IsList l items) (hit : IntsAre items.toList ns) (hb : ns.length + 1 < scanBound)
    (h : ∀ (h' : Heap) (tk c : Nat), SetR w h' s.heap.objs.size (fun j => decide (j ∈ ns)) c → c ≤ ns.length → (∀ b o, s.heap.get? b = some o → h'.get? b = some o) → R .none { s with heap := h', toks := tk }) :
    codeAny (model P w) A (.call (.builtin "set.__init__") ⟨[.ref s.heap.objs.size, .ref l], []⟩) (wants R E) { s with heap := s.heap.push (fresh0 w) } := by
  have esz : items.size = ns.length := by
    have q := IntsAre.length hit
    rwa [Array.length_toList] at q
  have hS : (s.heap.push (fresh0 w)).get? s.heap.objs.size = some (fresh0 w) := Heap.get?_push_size _ rfl
  have hT : Shared.TypeIs { s with heap := s.heap.push (fresh0 w) } (.ref s.heap.objs.size) "set" := ⟨_, hS, rfl⟩
  refine codeAny_call_builtin F.called_set.init.plain F.entry_set_init (check_set_init_1 hT ?_)
  obtain ⟨⟨oc, od, odt, osl⟩, hol, hcl, nl, hdl⟩ := hl
  simp only at hcl hdl
  subst hcl; subst hdl
  have ho1 : (s.heap.push (fresh0 w)).get? l = some { cls := .type "list", dict := od, data := .seq items nl, slots := osl } := Heap.get?_push_of_some _ hol
  have sb1 := F.sub_list_set
  have sb2 := F.sub_list_frozenset
  have ne1 : (Value.type "list" == Value.type "dict") = false := by decide
  have hl1 : (s.heap.push (fresh0 w)).IsList l items := ⟨_, ho1, rfl, nl, rfl⟩
  unfold Builtin.«set.__init__» noKeywords Builtin.Frozenset.updateFrom
  generalize hPI : pyIter = PI
  wp_walk
  subst hPI
  refine wpAny_pyIter_list hl1 ?_
  refine wpAny_bind (wpAny_runValue ?_)
  have hlS : l < s.heap.objs.size := Heap.lt_size hol
  have h3 : A.in1.in1.handled = none := by simp [hh]
  have ez : (s.heap.push (fresh0 w)).objs.size = s.heap.objs.size + 1 := Heap.size_push ..
  have nI : l ≠ (s.heap.push (fresh0 w)).objs.size := by
    rw [ez]; exact Nat.ne_of_lt (Nat.lt_succ_of_lt hlS)
  have nS : s.heap.objs.size ∉ [(s.heap.push (fresh0 w)).objs.size, l] := by
    rw [ez]
    intro z
    rcases List.mem_cons.mp z with z | z
    · exact absurd z (Nat.ne_of_lt (Nat.lt_succ_self _))
    · exact absurd (List.mem_singleton.mp z) (Nat.ne_of_gt hlS)
  have val : ∀ (i : Nat) (v : Value), items[i]? = some v → ∃ k t, ns[i]? = some k ∧ v = .int k t := fun i v hv => by
    have hi : i < ns.length := esz ▸ (Array.getElem?_eq_some_iff.mp hv).1
    obtain ⟨t, e⟩ := PyProof.Rows.IntsAre.int_at hit i v (by rw [Array.getElem?_toList]; exact hv)
    exact ⟨ns[i], t, List.getElem?_eq_getElem hi, by rw [e, List.getD_eq_getElem?_getD, List.getElem?_eq_getElem hi]; rfl⟩
  have hget : ((s.heap.push (fresh0 w)).push { cls := .type "list_iterator", data := .fields #[.ref l, .int 0 0] }).get? s.heap.objs.size = some (fresh0 w) := Heap.get?_push_of_some _ hS
  refine set_update_ints ((Walks.list (by simp [hh]) _ l nI items).toS) s.heap.objs.size nS ns esz hb val (items.size - 0) 0 _ (by omega) (Nat.zero_le _) ⟨⟨_, Heap.get?_push_size _ rfl, rfl, rfl⟩, hl1.push _⟩ ⟨0, Nat.le_refl 0, setR_new_at hget⟩ fun s' c' hm hc' hS' => ?_
  obtain ⟨h', g2, d', tk', os'⟩ := s'
  obtain rfl : g2 = s.gens := hm.gens
  obtain rfl : d' = s.drawn := hm.drawn
  obtain rfl : os' = s.os := hm.os
  rw [esz] at hc'
  show wpAny _ _ _ _ _ _
  refine wpAny_pure ?_
  show wpAny _ _ (ret Value.none) _ _ _
  refine wpAny_pure (h h' tk' c' hS' hc' fun b o e => ?_)
  have l0 : b < s.heap.objs.size := Heap.lt_size e
  refine hm.heap b o (fun z => ?_) (Heap.get?_push_of_some _ (Heap.get?_push_of_some _ e))
  rcases List.mem_cons.mp z with z | z
  · exact absurd z (Nat.ne_of_lt l0)
  · have := List.mem_singleton.mp z
    rw [ez] at this
    exact absurd this (Nat.ne_of_lt (Nat.lt_succ_of_lt l0))
theorem call_lst {l : Addr} {items : Array Value} (ns : List Int) {Q : Value → Shared → Prop} (hh : A.handled = none) (hl : s.heap.IsList l items) (hit : IntsAre items.toList ns) (hb : ns.length + 1 < scanBound)
    (h : ∀ (h' : Heap) (tk c : Nat), SetR w h' s.heap.objs.size (fun j => decide (j ∈ ns)) c → c ≤ ns.length → (∀ b o, s.heap.get? b = some o → h'.get? b = some o) → Q (.ref s.heap.objs.size) { s with heap := h', toks := tk }) :
    wpAny (model P w) A (call (.type "set") [.ref l]) Q E s := by
  obtain ⟨cm, tlm, hmro⟩ := F.called_set.mro
  have a1 := F.called_set.made
  have a2 := F.called_set.sub
  have a3 := F.called_set.notType
  have a4 := F.called_set.canCreate
  have a5 := F.typeCall_set_1 (.ref l)
  refine wpAny_call (codeAny_of_tree ?_)
  show wpAny _ _ (callAny (.type "set") _) _ _ _
  refine wpAny_pure ⟨Code.quiet_builtin _ (by decide +kernel), codeAny_builtin F.entry_type_call ?_⟩
  rw [Around.under_plain (weight_type_call_type "set" [.ref l] []) rfl]
  repeat (any_goals (first | assumption | wp_step))

  refine codeAny_mono (code_set_led1 (.ref l) (E := E) (Q₁ := fun v s1 => v = .ref s.heap.objs.size ∧ s1 = { s with heap := s.heap.push (fresh0 w) }) ⟨rfl, rfl⟩) fun r s1 hr => ?_
  cases r with
  | error e => exact hr
  | ok fl =>
    cases fl with
    | ret obj =>
      obtain ⟨rfl, rfl⟩ := hr
      have hT : Shared.TypeIs { s with heap := s.heap.push (fresh0 w) } (.ref s.heap.objs.size) "set" := ⟨_, Heap.get?_push_size _ rfl, rfl⟩
      have b1 := F.called_set.init.lookup
      have b2 := F.called_set.init.bind (.ref s.heap.objs.size)
      repeat (any_goals (first | assumption | wp_step))

      refine codeAny_mono (init_lst (A := A.in1) (E := E) ns (R := fun r s2 => r = .none ∧ ∃ h' tk c, s2 = { s with heap := h', toks := tk } ∧ SetR w h' s.heap.objs.size (fun j => decide (j ∈ ns)) c ∧ c ≤ ns.length ∧
        (∀ b o, s.heap.get? b = some o → h'.get? b = some o)) hh hl hit hb fun h' tk c e1 e2 e3 => ⟨rfl, h', tk, c, rfl, e1, e2, e3⟩) fun r2 s2 hr2 => ?_
      cases r2 with
      | error e => exact hr2
      | ok fl2 =>
        cases fl2 with
        | ret r =>
          obtain ⟨rfl, h', tk, c, rfl, e1, e2, e3⟩ := hr2
          repeat (any_goals (first | assumption | wp_step))
          exact h _ _ _ e1 e2 e3
        | _ => exact hr2.elim
    | _ => exact hr.elim
end
section
variable {X : Cx}
def rSetI (w : World) (G : Hp → Addr → List V → Prop) : List V → Hp → VK → Prop := fun vs H Q => ∃ (a : Addr) (ns : List Int), vs = [.ref a] ∧ G H a (ns.map V.int) ∧ ns.length ≤ 1000 ∧
  ∀ (p : Addr) (c : Nat), c ≤ ns.length → H p = none → Q (.ref p) (upd H p (SetO w p (fun j => decide (j ∈ ns)) c))
theorem cr_setT (hc : X.calm = true) : CallR X (.type "set") (rSetI X.w (SqT X.K)) := by
  intro pins s σ H vs us Q I r h
  obtain ⟨a, ns, rfl, hq, hl, q⟩ := h
  rw [Vals.ref1 r]
  obtain ⟨its, rv, p, hz⟩ := I.tuple hq
  refine call_set_tupI ns (I.ok.hd hc) p (by simpa using RZ.intsAre_vals rv) (by unfold scanBound; omega) fun h' tk c R hcn k => ?_
  exact ⟨.ref s.heap.objs.size, _, I.laid (t' := tk) k (Nat.le_refl _) (setO_new R), rfl, q _ c hcn (I.hok.fresh (Nat.le_refl _))⟩
theorem cr_setL (hc : X.calm = true) : CallR X (.type "set") (rSetI X.w (SqL X.K)) := by
  intro pins s σ H vs us Q I r h
  obtain ⟨a, ns, rfl, hq, hl, q⟩ := h
  rw [Vals.ref1 r]
  obtain ⟨its, rv, p, hz⟩ := I.list hq
  refine call_lst ns (I.ok.hd hc) p.isList (by simpa using RZ.intsAre_vals rv) (by unfold scanBound; omega) fun h' tk c R hcn k => ?_
  exact ⟨.ref s.heap.objs.size, _, I.laid (t' := tk) k (Nat.le_refl _) (setO_new R), rfl, q _ c hcn (I.hok.fresh (Nat.le_refl _))⟩
end
end Ev
namespace Ev
open PySem PySem.Spec PySem.Calls PyProof.Rows L2
/-! ### dict(d), keys that are tuples -/
theorem call_dict_heap {prog : Program} {w : World} {A : Around} {E : Value → Shared → Prop} {s : Shared} {T : Type} [DecidableEq T] {knd : HeapKind prog w T} {d : Addr} {xs : List (T × Addr × Value)} {Q : Value → Shared → Prop}
    (hu : knd.room A.in1.in1) (hS : (d == sysModules) = false) (hd : s.heap.DictOfH knd d xs) (hty : ∀ x ∈ xs, s.TypeIs (.ref x.2.1) "tuple") (hap : (xs.map fun x => knd.hash x.1).Nodup) (hsz : xs.length ≤ sizeLine)
    (hst : ∀ h', (∀ b o, s.heap.get? b = some o → h'.get? b = some o) → ∀ x ∈ xs, knd.is h' x.1 x.2.1)
    (h : ∀ h', h'.DictOfH knd s.heap.objs.size xs → (∀ b o, s.heap.get? b = some o → h'.get? b = some o) → Q (.ref s.heap.objs.size) { s with heap := h' }) :
    wpAny (model prog w) A (call (.type "dict") [.ref d]) Q E s := by
  refine callType_codes (Q₁ := fun v s1 => v = .ref s.heap.objs.size ∧ s1 = { s with heap := s.heap.push { cls := .type "dict", data := .dict #[] } }) F.kt_called_dict (F.kt_typeCall_dict_1 _) F.entry_dict_init (kt_code_dict_new _ ⟨rfl, rfl⟩) ?_
  intro v s1 hv
  obtain ⟨rfl, rfl⟩ := hv
  have nT : Shared.TypeIs { s with heap := s.heap.push { cls := .type "dict", data := .dict #[] } } (.ref s.heap.objs.size) "dict" := ⟨_, Heap.get?_push_size _ rfl, rfl⟩
  refine ⟨nT, F.args_dict_init_2 _ _, ?_⟩
  unfold Builtin.«dict.__init__»
  refine wpAny_bind ?_
  unfold Builtin.Dict.selfAndRest
  refine wpAny_bind (wpAny_notOrdered_dict nT ?_)
  show wpAny _ _ (pure (s.heap.objs.size, [Value.ref d])) _ _ _
  refine wpAny_pure ?_
  have hd0 := hd
  obtain ⟨o, es, ep, e1, e2, e3, e4, e5, e6⟩ := hd
  have hds : d < s.heap.objs.size := Heap.lt_size e1
  have up : ∀ b o, s.heap.get? b = some o → (s.heap.push { cls := .type "dict", data := .dict #[] }).get? b = some o := fun b o e => Heap.get?_push_of_some _ e
  refine updateFrom_dictH (A := A.in1) (kvs := []) (more := xs) .none hu (Nat.ne_of_gt hds) hS (Heap.DictOfH.new s.heap) ⟨o, es, ep, up _ _ e1, e2, e3, e4, hst _ up, e6⟩
    (.inr ⟨fun x hx => ?_, hap⟩) (by simpa using hsz) fun h' dn do' sb => ?_
  · obtain ⟨ob, q1, q2⟩ := hty x hx
    exact ⟨ob, up _ _ q1, q2⟩
  · rw [storedAllH_nil_of_nodup xs e6] at dn
    exact ⟨rfl, h h' dn fun b ob q => (sb.2 b (Nat.ne_of_lt (Heap.lt_size q))).trans (up _ _ q)⟩
section
variable {X : Cx}
theorem KT.keys : ∀ {H : Hp} {kvs : List (List Key × V)} {xs : List (List Key × Addr × Value)}, KT H kvs xs → xs.map (·.1) = kvs.map (·.1)
  | _, _, _, .nil => rfl
  | _, _, _, .cons r t => by rw [List.map_cons, List.map_cons, KT.keys t, r.1]
theorem KT.tup : ∀ {H : Hp} {kvs : List (List Key × V)} {xs : List (List Key × Addr × Value)}, KT H kvs xs → ∀ x ∈ xs, H x.2.1 = some (.tup (x.1.map kV))
  | _, _, _, .nil, x, hx => by simp at hx
  | _, _, _, .cons r t, x, hx => by
    rcases List.mem_cons.mp hx with rfl | hx
    · rw [← r.1]; exact r.2.1
    · exact KT.tup t x hx
def rDictT (P : Program) (w : World) : List V → Hp → VK → Prop := fun vs H Q => ∃ (a : Addr) (kvs : List (List Key × V)), vs = [.ref a] ∧ Rd H a (.dT kvs) ∧ (kvs.map fun kv => tupleKeyHash (mixKind P w) kv.1).Nodup ∧
  ∀ p, H p = none → Q (.ref p) (upd H p (.dT kvs))
theorem cr_dictT (hu : X.A.units + 64 < cLine) : CallR X (.type "dict") (rDictT X.prog X.w) := by
  intro pins s σ H vs us Q I r h
  obtain ⟨a, kvs, rfl, hq, hn, q⟩ := h
  rw [Vals.ref1 r]
  obtain ⟨z, hs, xs, rel, dd⟩ := dt_rd I.hok hq
  have hz : xs.length ≤ sizeLine := by rw [← Paired.length rel]; exact z
  have isT : ∀ x ∈ xs, IsTupleKey (mixKind X.prog X.w) s.heap x.1 x.2.1 := fun x hx => by
    obtain ⟨_, _, _, _, _, _, _, k5, _⟩ := id dd
    exact k5 x hx
  refine call_dict_heap (knd := tupleKind (mixKind X.prog X.w)) (by show X.A.in1.in1.units < cLine; simp [Around.in1]; omega) hs dd (fun x hx => (isT x hx).typeIs) ?_ hz (fun h' k x hx => ?_) fun h' dn k => ?_
  · have e : (xs.map fun x => (tupleKind (mixKind X.prog X.w)).hash x.1) = kvs.map fun kv => tupleKeyHash (mixKind X.prog X.w) kv.1 := by
      have := congrArg (List.map (tupleKeyHash (mixKind X.prog X.w))) (KT.keys rel)
      rw [List.map_map, List.map_map] at this
      exact this
    rw [e]
    exact hn
  · obtain ⟨o, items, n, k1, k2, k3, k4⟩ := isT x hx
    exact ⟨o, items, n, k _ _ k1, k2, k3, k4⟩
  · have hf : H s.heap.objs.size = none := I.hok.fresh (Nat.le_refl _)
    have hm : (s.heap.objs.size == sysModules) = false := beq_eq_false_iff_ne.mpr (Nat.ne_of_gt I.big)
    obtain ⟨o, es, ep, k1, k2, k3, k4, _, k6⟩ := dn
    have tups : ∀ b ys, H b = some (.tup ys) → upd H s.heap.objs.size (.dT kvs) b = some (.tup ys) := fun b ys e => by
      rw [upd_ne (ne_of_none e hf)]
      exact e
    refine ⟨.ref s.heap.objs.size, upd H s.heap.objs.size (.dT kvs), I.laid (t' := s.toks) k (Nat.le_refl _) ?_, rfl, q _ hf⟩
    exact ⟨z, hm, xs, Paired.mapP rel fun p q r => ⟨r.1, tups _ _ r.2.1, r.2.2⟩, o, es, ep, k1, k2, k3, k4, k6⟩
/-! ### for (k, v) in d.items(), keys that are tuples -/
/-- the pairs, each a new tuple: the key's own tuple, the value -/
def Itit (d : Addr) (o : Obj) (kvs : List (List Key × V)) : It :=
  ⟨fun i H => H d = some (.frz o (.dT kvs)) ∧ i < kvs.length,
    fun i H x H' => ∃ (T q : Addr) (k : List Key) (v : V), kvs[i]? = some (k, v) ∧ x = .ref T ∧ H T = none ∧ H q = some (.tup (k.map kV)) ∧ H' = upd H T (.tup [.ref q, v]), fun i H => H d = some (.frz o (.dT kvs)) ∧ kvs.length ≤ i⟩
theorem frzT2 {pins : List (Addr × Obj)} {σ : L2.St} {H : Hp} {s : Shared} {d : Addr} {o : Obj} {kvs : List (List Key × V)} (I : Inv X pins σ H s) (h : H d = some (.frz o (.dT kvs))) :
    (d == sysModules) = false ∧ s.heap.get? d = some o ∧ o.ExactDict ∧ ∃ (es : Array DictEntry) (ep : Nat), o.data = .dict es ep ∧ es.size = kvs.length ∧
      ∀ (i : Nat) (k : List Key) (v : V), kvs[i]? = some (k, v) → ∃ (en : DictEntry) (q : Addr), es[i]? = some en ∧ en.key = .ref q ∧ H q = some (.tup (k.map kV)) ∧ RelV v en.val := by
  obtain ⟨g, z, hs, xs, pr, o', es, ep, k1, k2, k3, k4, _⟩ := I.hok d _ h
  rw [g] at k1
  cases k1
  have l1 : es.size = xs.length := size_of_entries k4
  have l2 : kvs.length = xs.length := Paired.length pr
  refine ⟨hs, g, k2, es, ep, k3, by omega, fun i k v e => ?_⟩
  obtain ⟨b, hb, e1, e2, e3⟩ := paired_get pr e
  have q := entry_at k4 i
  rw [hb] at q
  exact ⟨_, b.2.1, q, rfl, e2, e3⟩
theorem turn_itemsT {P : Program} {w : World} {K : PySem.W.Frag} {elts : List Expr} {kk : Nat} {tpos : Pos} {d : Addr} {o : Obj} {es : Array DictEntry} {ep : Nat} {kvs : List (List Key × V)} (it : Addr) (hod : o.data = .dict es ep) :
    Turn P w K (.Tuple elts kk tpos) (Itit d o kvs) [it] it (fun i h => ∃ ok ov, IsItemIter h it d i kvs.length ep ok ov) where
  mem := by simp
  obj := fun i h st b hb => by
    obtain ⟨ok, ov, e⟩ := st
    obtain rfl : b = it := by simpa using hb
    exact ⟨_, e, fun v z => nomatch z⟩
  keep := fun i h h' st k => by
    obtain ⟨ok, ov, e⟩ := st
    exact ⟨ok, ov, k it (by simp) _ e⟩
  item := by
    intro X hP hw hK hc i pins s σ H E I hf st hg
    subst hP hw hK
    obtain ⟨hd, hi⟩ := hg
    obtain ⟨hs, hgd, hx, es', ep', hdt, hsz, ent⟩ := frzT2 I hd
    obtain ⟨rfl, rfl⟩ := dict_ep hod hdt
    obtain ⟨⟨k, v⟩, hkv⟩ : ∃ p, kvs[i]? = some p := ⟨kvs[i], List.getElem?_eq_getElem hi⟩
    obtain ⟨en, q, hen, hkey, hq, rv⟩ := ent i k v hkv
    obtain ⟨ok, ov, he⟩ := st
    rw [← hsz] at he
    have hlt : it < s.heap.objs.size := Heap.lt_size he
    have hie : i < es'.size := by omega
    have een : es'[i] = en := by
      rw [Array.getElem?_eq_getElem hie] at hen
      exact Option.some.inj hen
    refine DT.nextI he ⟨o, hgd, hx, hdt⟩ hie fun h' ho hT hz hk => ?_
    rw [een] at ho hT
    refine ⟨_, rfl, wpAny_letOwnedTupleGo_items (s := { s with heap := h' }) ho fun h2 he2 sb => ?_⟩
    have hT2 := (sb.2 _ (Nat.ne_of_gt hlt)).trans hT
    have laid : ObjOk X.prog X.w (upd H s.heap.objs.size (.tup [.ref q, v])) h2 s.heap.objs.size (.tup [.ref q, v]) :=
      ⟨(by decide : 2 ≤ sizeLine), [en.key, en.val], .cons hkey (.cons rv .nil), ⟨_, hT2, rfl, _, rfl⟩⟩
    have I1 : Inv X pins σ (upd H s.heap.objs.size (.tup [.ref q, v])) { s with heap := h2 } :=
      I.turnedNew (t' := s.toks) (ch := [it]) (fun b ob hb z => (sb.2 b (by simpa using hb)).trans (hk b ob (by simpa using hb) z)) hf (Nat.le_refl _) laid
    refine ⟨.ref s.heap.objs.size, _, I1, rfl, ⟨_, q, k, v, hkv, rfl, I.hok.fresh (Nat.le_refl _), hq, rfl⟩, ⟨en.key, en.val, by rw [← hsz]; exact he2⟩, fun b hb => ?_⟩
    obtain rfl : b = it := by simpa using hb
    rw [upd_ne (Nat.ne_of_lt hlt)]
    exact (hf b hb).1
  done := by
    intro X hP hw hK hc i pins s σ H E I hf st hg
    subst hP hw hK
    obtain ⟨hd, hi⟩ := hg
    obtain ⟨f0, f1, f2, f3, f4, f5⟩ := hf it (by simp)
    obtain ⟨hs, hgd, hx, es', ep', hdt, hsz, ent⟩ := frzT2 I hd
    obtain ⟨rfl, rfl⟩ := dict_ep hod hdt
    obtain ⟨ok, ov, he⟩ := st
    rw [← hsz] at he
    exact DT.endI (I.ok.hd hc) he ⟨o, hgd, hx, hdt⟩ (by omega) fun h' eb => ⟨rfl, I.turned (t' := s.toks) (fun b ob hb e => eb b ob hb e) f0 f1 f3 f4 f5⟩
  self := fun A i s Q E st h => by
    obtain ⟨_, _, e⟩ := st
    exact PySem.W.kcp_self e h
def iItemsT (td : TE) : TI := fun σ H R => td σ H fun x H1 => ∃ d o kvs, x = .ref d ∧ H1 d = some (.frz o (.dT kvs)) ∧ R (Itit d o kvs) H1
theorem pi_itemsT {e : Expr} {td : TE} {apos cpos tpos : Pos} {elts : List Expr} {kk : Nat} (he : PE X e td) (hbase : attributeBase e "items" X.env (eval e X.env) = eval e X.env := by rfl) (hline : (apos.endLine == cpos.line) = true := by rfl) :
    PI X (.Tuple elts kk tpos) (.Call (.Attribute e "items" apos) [] [] cpos) (iItemsT td) := by
  refine ⟨fun pins s σ H R I h => ?_⟩
  refine wpAny_Call_method (T := "dict") (id := "dict.items") hbase rfl hline F.plainAttrs_dict F.slot_dict_items F.type_dict_items (thn (he.run pins s σ H _ I h) fun u s1 ⟨x, H1, I1, rx, d, o, kvs, ex, hd, q⟩ => ?_)
  subst ex
  obtain rfl : u = Value.ref d := rx
  obtain ⟨hs, hgd, hx, es, ep, hdt, hsz, ent⟩ := frzT2 I1 hd
  have raw : DT.Raw s1.heap d es ep := ⟨o, hgd, hx, hdt⟩
  refine ⟨raw.typeIs, fun b q => by cases q; exact ⟨o, hgd, hx.2.1⟩, ?_⟩
  have I2 : Inv X pins σ H1 { s1 with heap := s1.heap.push { cls := .type "dict_items", data := .fields #[.ref d] } } := I1.kept (t' := s1.toks) fun b ob q => Heap.get?_push_of_some _ q
  have fin : wpAny (model X.prog X.w) X.A (pyIter (.ref s1.heap.objs.size)) (PIE X pins σ (.Tuple elts kk tpos) R) X.xe { s1 with heap := s1.heap.push { cls := .type "dict_items", data := .fields #[.ref d] } } := by
    refine DT.iterI (d := d) (es := es) (ep := ep) ⟨_, Heap.get?_push_size _ rfl, rfl, rfl⟩ (raw.push _) (pi_one (tk := s1.toks) I2 _ (turn_itemsT _ hdt) ⟨.none, .none, ?_⟩ q)
    rw [← hsz]
    exact Heap.get?_push_size _ rfl
  show wpAny _ _ (callWith cpos (.builtin "dict.items") [.ref d] [] []) _ X.xe s1
  exact method_meetsIn F.slot_dict_items F.entry_dict_items rfl (PySem.evalArgs_none ⟨rfl, raw.typeIs, F.args_dict_items_1 _, _, DT.meetsItems (es := es) (ep := ep) hs, ⟨raw, fin⟩⟩)
end
end Ev
namespace Ev
open PySem PySem.Spec PySem.Calls PyProof.Rows L2
section
variable {X : Cx}
/-! ### {k: v}, k a tuple -/
def tDisp1 (tk tv : TE) : TE := fun σ H Q => ∀ p, H p = none → tk σ (upd H p (.dT [])) fun x H1 => tv σ H1 fun y H2 => H2 p = some (.dT []) ∧ ∃ (b : Addr) (k : List Key), x = .ref b ∧ H2 b = some (.tup (k.map kV)) ∧ Q (.ref p) (upd H2 p (.dT [(k, y)]))
theorem pe_disp1 {pos : Pos} {ke ve : Expr} {tk tv : TE} (hu : X.A.units + 1 < cLine) (hk : PE X ke tk) (hv : PE X ve tv) : PE X (.Dict [some ke] [ve] pos) (tDisp1 tk tv) := by
  refine ⟨fun pins s σ H Q I h => ?_⟩
  have hn := I.hok.fresh (Nat.le_refl s.heap.objs.size)
  have I1 := I.laid (a := s.heap.objs.size) (o := .dT []) (h' := s.heap.push { cls := .type "dict", data := .dict #[] }) (t' := s.toks) (fun _ _ q => Heap.get?_push_of_some _ q) (Nat.le_refl _) (dt_empty s.heap I.big)
  rw [arm_eval_Dict, zip_pairTrees [some ke] [ve] X.env pos rfl rfl, dictDisplay_pairs (pairTrees [some ke] [ve] X.env pos) (by simp [pairTrees]) (by simp [pairTrees])]
  refine wpAny_bind (wpAny_standAt (wpAny_bind (wpAny_subDictH (knd := tupleKind (mixKind X.prog X.w)) (by show X.A.units < cLine; omega) (by simp [pairTrees]) ?_)))
  refine pairTrees_cons_walk (thn (hk.run pins _ σ _ _ I1 (h _ hn)) fun u s1 ⟨x, H1, I2, rx, q1⟩ => thn (hv.run pins s1 σ H1 _ I2 q1) fun w2 s2 ⟨y, H2, I3, ry, hp, b, k, ex, hb, q2⟩ => pairTrees_nil_walk ?_)
  subst ex
  obtain rfl : u = Value.ref b := rx
  obtain ⟨z, hd, xs, rel, dd⟩ := dt_of I3.hok hp
  cases rel
  have ik : (tupleKind (mixKind X.prog X.w)).is s2.heap k b := key_of I3.hok hb
  refine ⟨[(k, b, w2)], ⟨rfl, rfl, ik, trivial⟩, dd, fun h' tk dn sb => wpAny_pure ?_⟩
  have e1 : storedAllH [] [(k, b, w2)] = [(k, b, w2)] := rfl
  rw [e1] at dn
  obtain ⟨o, es, ep, k1, k2, k3, k4, _, k6⟩ := dn
  have nb : b ≠ s.heap.objs.size := fun e => by
    rw [e, hp] at hb
    cases hb
  have tups : upd H2 s.heap.objs.size (.dT [(k, y)]) b = some (.tup (k.map kV)) := by
    rw [upd_ne nb]
    exact hb
  exact ⟨.ref s.heap.objs.size, _, d_write (ob := .dT [(k, y)]) I3 (by rw [hp]; trivial) sb ⟨o, k1⟩ ⟨(by decide : 1 ≤ sizeLine), hd, [(k, b, w2)], .cons ⟨rfl, tups, ry⟩ .nil, o, es, ep, k1, k2, k3, k4, k6⟩, rfl, q2⟩
end
end Ev
namespace Ev
open PySem
/-! ### the hashes of few triples -/
def hT : List Nat := [
  3010437511937009226, 16564107556673864476, 226646856081943157, 13780316900818798407, 1841213583211245216, 15394883627948100466, 17504167001065730763, 5565063683458177572, 671989654485481206, 7619408953831620358, 14127049709933618783, 2187946392326065592, 15741616437062920842, 17850899810180551139, 12957825781207854773, 1018722463600301582, 7526363219702300007, 16681675881454787129, 4753388729894279496, 6862672103011909793, 13370312859113908218, 8477238830141211852, 14984879586243210277, 10091805557270513911, 12201088930388144208, 7308014901415447842, 13815655657517446267,
  2316330883154033803, 8823971639256032228, 15331612395358030653, 6040180983400966159, 12547821739502964584, 7654747710530268218, 14162388466632266643, 4870957054675202149, 11378597810777200574, 18326017110123339726, 6386913792515786535, 1493839763543090169, 8001480519645088594, 10110763892762718891, 5217689863790022525, 11725330619892020950, 6832256590919324584, 13339897347021323009, 2683392399743319337, 16237062444480174587, 4297959126872621396, 13453271788625108518, 1514168471017555327, 15067838515754410577, 3128735198146857386, 5238018571264487683, 344944542291791317,
  13022939039445753171, 1083835721838199980, 14637505766575055230, 2698402448967502039, 4807685822085132336, 18361355866821987586, 6422252549214434395, 1529178520241738029, 3638461893359368326, 4426343617700589607, 10933984373802588032, 17441625129904586457, 8150193717947521963, 14657834474049520388, 9764760445076824022, 16272401201178822447, 6980969789221757953, 13488610545323756378, 1989285770960343914, 8496926527062342339, 15004567283164340764, 10111493254191644398, 12220776627309274695, 7327702598336578329, 13835343354438576754, 8942269325465880388, 11051552698583510685,
  7839147235533974352, 2946073206561277986, 9453713962663276411, 11562997335780906708, 6669923306808210342, 13177564062910208767, 8284490033937512401, 10393773407055142698, 5500699378082446332, 17689295887498362404, 5750192569890809213, 14905505231643296335, 2966401914035743144, 16520071958772598394, 4580968641165045203, 6690252014282675500, 1797177985309979134, 8304818741411977559, 15252238040758116711, 3313134723150563520, 16866804767887418770, 529344067295497451, 14083014112032352701, 2143910794424799510, 15697580839161654760, 17806864212279285057, 5867760894671731866,
  99011318116142104, 13652681362852997354, 1713578045245444163, 15267248089982299413, 17376531463099929710, 5437428145492376519, 544354116519680153, 7051994872621678578, 16207307534374165700, 9949159970080530156, 5056085941107833790, 11563726697209832215, 13673010070327462512, 8779936041354766146, 15287576797456764571, 10394502768484068205, 12503786141601698502, 564682823994145311, 7512102123340284463, 2619028094367588097, 9126668850469586522, 15634309606571584947, 6342878194614520453, 12850518950716518878, 7957444921743822512, 14465085677845820937, 5173654265888756443,
  17362250775304672515, 5423147457697119324, 530073428724422958, 2639356801842053255, 16193026846578908505, 4253923528971355314, 10761564285073353739, 1470132873116289245, 7977773629218287670, 2209024052662697908, 15762694097399553158, 3823590779791999967, 5932874152909630264, 1039800123936933898, 7547440880038932323, 2654366851066235957, 9162007607168234382, 18317320268920721504, 4170323588906820343, 13325636250659307465, 1386532933051754274, 14940202977788609524, 3001099660181056333, 5110383033298686630, 217309004325990264, 6724949760427988689, 1831875731455292323,
  5744133208557280471, 7853416581674910768, 2960342552702214402, 9467983308804212827, 15975624064906211252, 6684192652949146758, 13191833409051145183, 8298759380078448817, 14806400136180447242, 9037650559624857480, 11146933932742487777, 6253859903769791411, 12761500659871789836, 7868426630899093470, 14376067387001091895, 5084635975044027401, 11592276731146025826, 18099917487248024251, 14489441828604877404, 2550338510997324213, 16104008555734179463, 4164905238126626272, 13320217899879113394, 1381114582271560203, 7888755338373558628, 2995681309400862262, 9503322065502860687,
  16450741364848999839, 4511638047241446648, 13666950708993933770, 1727847391386380579, 15281517436123235829, 3342414118515682638, 5451697491633312935, 558623462660616569, 7066264218762614994, 7854145943103836275, 9963429316221466572, 5070355287248770206, 11577996043350768631, 18085636799452767056, 8794205387495702562, 15301846143597700987, 10408772114625004621, 16916412870727003046, 5417088096363590582, 11924728852465589007, 2633297440508524513, 9140938196610522938, 15648578952712521363, 10755504923739824997, 12864788296857455294, 7971714267884758928, 14479355023986757353,
  8710605447431167591, 15218246203533166016, 10325172174560469650, 12434455547678099947, 7541381518705403581, 14049022274807402006, 9155948245834705640, 11265231618952335937, 17772872375054334362, 114010025686004027, 2223293398803634324, 15776963443540489574, 3837860125932936383, 17391530170669791633, 5452426853062238442, 7561710226179868739, 2668636197207172373, 9176276953309170798, 16123696252655309950, 4184592935047756759, 17738262979784612009, 1400802279192690690, 14954472323929545940, 3015369006321992749, 9523009762423991174, 231578350466926680, 6739219106568925105,
  15001340606283562792, 10108266577310866426, 16615907333412864851, 11722833304440168485, 18230474060542166910, 1893013359950245591, 15446683404687100841, 3507580087079547650, 17061250131816402900, 16962640142527685227, 12069566113554988861, 14178849486672619158, 9285775457699922792, 15793416213801921217, 3854312896194368026, 13009625557946855148, 1070522240339301957, 14624192285076157207, 8366044720782521663, 17521357382535008785, 5582254064927455594, 12089894821029454019, 7196820792056757653, 9306104165174387950, 4413030136201691584, 10920670892303690009, 6027596863330993643,
  11659562071850098672, 2368130659893034178, 8875771415995032603, 3982697387022336237, 10490338143124334662, 1198906731167270168, 7706547487269268593, 14214188243371267018, 9321114214398570652, 17111353340830118596, 12218279311857422230, 279175994249869039, 13832846038986724289, 15942129412104354586, 4003026094496801395, 17556696139233656645, 5617592821626103454, 14772905483378590576, 625908803364689415, 14179578848101544665, 16288862221219174962, 11395788192246478596, 17903428948348477021, 5964325630740923830, 15119638292493410952, 3180534974885857761, 16734205019622713011,
  16635595030333995338, 11742521001361298972, 18250161757463297397, 8958730345506232903, 15466371101608231328, 3527267784000678137, 17080937828737533387, 743477128145612068, 14297147172882467318, 13769574806396654476, 4478143394439589982, 10985784150541588407, 6092710121568892041, 12600350877670890466, 3308919465713825972, 9816560221815824397, 16324200977917822822, 11431126948945126456, 11332516959656408783, 6439442930683712417, 8548726303801342714, 3655652274828646348, 10163293030930644773, 5270219001957948407, 11777859758059946832, 13887143131177577129, 8994069102204880763,
  12906326579306868911, 967223261699315720, 14520893306436170970, 16630176679553801267, 11737102650581104901, 18244743406683103326, 6305640089075550135, 15460952750828037257, 3521849433220484066, 10469268732566623218, 16976909488668621643, 12083835459695925277, 144732142088372086, 9300044803840859208, 15807685559942857633, 10914611530970161267, 17422252287072159692, 1084791586480238373, 7603248508629282356, 14110889264731280781, 4819457852774216287, 11327098608876214712, 6434024579903518346, 12941665336005516771, 3650233924048452277, 10157874680150450702, 16665515436252449127,
  5166190661889036663, 273116632916340297, 6780757389018338722, 8890040762135969019, 3996966733163272653, 10504607489265271078, 5611533460292574712, 12119174216394573137, 14228457589512203434, 7127490198133159098, 16282802859885646220, 4343699542278093029, 10851340298380091454, 5958266269407395088, 8067549642525025385, 3174475613552329019, 9682116369654327444, 4789042340681631078, 12579281467113179022, 640178149505625831, 14193848194242481081, 2254744876634927890, 11410057538387415012, 17917698294489413437, 5978594976881860246, 1085520947909163880, 3194804321026794177,
  15872798818180756031, 10979724789208059665, 17487365545310058090, 12594291516337361724, 14703574889454992021, 2764471571847438830, 16318141616584294080, 4379038298976740889, 13534350960729228011, 7276203396435592467, 13783844152537590892, 8890770123564894526, 11000053496682524823, 6106979467709828457, 12614620223811826882, 7721546194839130516, 9830829567956760813, 16338470324058759238, 4839145549695346774, 18392815594432202024, 6453712276824648833, 12961353032926647258, 8068279003953950892, 10177562377071581189, 5284488348098884823, 11792129104200883248, 18299769860302881673,
  17735036302903834037, 5795932985296280846, 12303573741398279271, 3012142329441214777, 9519783085543213202, 4626709056570516836, 11134349812672515261, 6241275783699818895, 8350559156817449192, 1249591765438404856, 3358875138556035153, 9866515894658033578, 4973441865685337212, 11481082621787335637, 2189651209830271143, 8697291965932269568, 3804217936959573202, 10311858693061571627, 12431958232226247482, 492854914618694291, 14046524959355549541, 16155808332473179838, 4216705014865626647, 17770375059602481897, 5831271741994928706, 14986584403747415828, 3047481086139862637,
  9994900385486001789, 16502541141588000214, 11609467112615303848, 18117107868717302273, 1779647168125380954, 15333317212862236204, 3394213895254683013, 16947883939991538263, 610423239399616944, 1398304963740838225, 7905945719842836650, 14413586475944835075, 5122155063987770581, 11629795820089769006, 6736721791117072640, 13244362547219071065, 15353645920336701362, 10460571891364004996, 17407991190710144148, 5468887873102590957, 11976528629204589382, 7083454600231893016, 13591095356333891441, 4299663944376826947, 10807304700478825372, 5914230671506129006, 12421871427608127431,
  14541970966772803286, 2602867649165250095, 4712151022282880392, 18265821067019735642, 6326717749412182451, 1433643720439486085, 7941284476541484510, 17096597138293971632, 5157493820686418441, 12104913120032557593, 165809802425004402, 13719479847161859652, 1780376529554306461, 3889659902671936758, 17443329947408792008, 5504226629801238817, 611152600828542451, 2720435973946172748, 14066212656276680028, 16175496029394310325, 11282422000421613959, 17790062756523612384, 5850959438916059193, 15006272100668546315, 3067168783060993124, 16620838827797848374, 4681735510190295183,
  12943857009904932870, 8050782980932236504, 14558423737034234929, 16667707110151865226, 11774633081179168860, 18282273837281167285, 13389199808308470919, 15498483181426101216, 3559379863818548025, 4347261588159769306, 10854902344261767731, 1563470932304703237, 8071111688406701662, 3178037659434005296, 9685678415536003721, 11794961788653634018, 6901887759680937652, 13409528515782936077, 1910203741419523613, 8417844497521522038, 3524770468548825672, 5634053841666455969, 740979812693759603, 7248620568795758028, 2355546539823061662, 4464829912940691959, 10972470669042690384,
  17919889968388829536, 5980786650781276345, 1087712621808579979, 7595353377910578404, 2702279348937882038, 4811562722055512335, 18365232766792367585, 6426129449184814394, 12933770205286812819, 15053869744451488674, 3114766426843935483, 16668436471580790733, 330975770988869414, 13884645815725724664, 1945542498118171473, 15499212542855026723, 17608495915972657020, 5669392598365103829, 12616811897711242981, 7723737868738546615, 14231378624840545040, 2292275307232991849, 11447587968985478971, 17955228725087477396, 13062154696114781030, 1123051378507227839, 3232334751624858136,
  4020216475966079417, 10527857232068077842, 5634783203095381476, 7744066576213011773, 2850992547240315407, 9358633303342313832, 15866274059444312257, 6574842647487247763, 13082483403589246188, 1583158629225833724, 8090799385327832149, 3197725356355135783, 9705366112457134208, 413934700500069714, 6921575456602068139, 13429216212704066564, 8536142183731370198, 15043782939833368623, 9275033363277778861, 18430346025030265983, 6491242707422712792, 1598168678450016426, 8105809434552014851, 10215092807669645148, 5322018778696948782, 11829659534798947207, 6936585505826250841,
  10848842982928238989, 12958126356045869286, 8065052327073172920, 14572693083175171345, 2633589765567618154, 11788902427320105276, 18296543183422103701, 13403469154449407335, 1464365836841854144, 8411785136187993296, 14919425892289991721, 5627994480332927227, 12135635236434925652, 196531918827372461, 13750201963564227711, 15859485336681858008, 10966411307709161642, 17474052063811160067, 18261933788152381348, 1924473087560460029, 8432113843662458454, 3539039814689762088, 10046680570791760513, 755249158834696019, 7262889914936694444, 2369815885963998078, 8877456642065996503,
  3108707065510406741, 9616347821612405166, 324916409655340672, 6832557165757339097, 1939483136784642731, 8447123892886641156, 10556407266004271453, 5663333237031575087, 12170973993133573512, 12958855717474794793, 15068139090592425090, 10175065061619728724, 16682705817721727149, 4743602500114173958, 13898915161866661080, 1959811844259107889, 15513481888995963139, 3574378571388409948, 10521797870734549100, 17029438626836547525, 7738007214879483031, 14245647970981481456, 2306544653373928265, 15860214698110783515, 17969498071228413812, 13076424042255717446, 1137320724648164255,
  8084740023994303407, 14592380780096301832, 9699306751123605466, 16206947507225603891, 18316230880343234188, 13423156851370537822, 1484053533762984631, 15037723578499839881, 17147006951617470178, 5218719800056962545, 7328003173174592842, 2434929144201896476, 8942569900303894901, 4049495871331198535, 10557136627433196960, 12666420000550827257, 7773345971578130891, 14280986727680129316, 2781661953316716852, 9289302709418715277, 4396228680446018911, 6505512053563649208, 1612438024590952842, 8120078780692951267, 14627719536794949692, 5336288124837885198, 11843928880939883623,
  1659306306944969694, 15212976351681824944, 3273873034074271753, 16827543078811127003, 490082378219205684, 6997723134321204109, 2104649105348507743, 8612289861450506168, 3719215832477809802, 3620605843189092129, 17174275887925947379, 836815187334026060, 14390485232070881310, 2451381914463328119, 8959022670565326544, 18114335332317813666, 6175232014710260475, 1282157985737564109, 13470754495153480181, 4179323083196415687, 10686963839298414112, 17194604595400412537, 12301530566427716171, 14410813939545346468, 9517739910572650102, 16025380666674648527, 11132306637701952161,
  11033696648413234488, 6140622619440538122, 8249905992558168419, 14757546748660166844, 9864472719687470478, 16372113475789468903, 7080682063832404409, 13588322819934402834, 8695248790961706468, 3769319041491525498, 17322989086228380748, 5383885768620827557, 490811739648131191, 2600095112765761488, 9107735868867759913, 4214661839895063547, 10722302595997061972, 1430871184039997478, 5730618577735647933, 14885931239488135055, 2946827921880581864, 16500497966617437114, 4561394649009883923, 11069035405111882348, 1777603993154817854, 8285244749256816279, 3392170720284119913,
  3293560730995402240, 16847230775732257490, 4908127458124704299, 14063440119877191421, 2124336802269638230, 8631977558371636655, 3738903529398940289, 5848186902516570586, 955112873543874220, 13143709382959790292, 8250635353987093926, 10359918727104724223, 16867559483206722648, 11974485454234026282, 35382136626473091, 9190694798378960213, 15698335554480958638, 10805261525508262272, 16437226734027367301, 11544152705054670935, 13653436078172301232, 8760362049199604866, 15268002805301603291, 10374928776328906925, 16882569532430905350, 545108831838984031, 14098778876575839281]

def h3 (a b c : Nat) : Int := reduceHash (Builtin.Tuple.tupleHashOf [hashInt (a : Int), hashInt (b : Int), hashInt (c : Int)])
def mod64 (i : Int) : Nat := (i % 18446744073709551616).toNat
def sameN : List Nat → List Nat → Bool
  | [], [] => true
  | a :: l, b :: m => Nat.beq a b && sameN l m
  | _, _ => false
def inN (a : Nat) : List Nat → Bool
  | [] => false
  | b :: l => Nat.beq a b || inN a l
def onceN : List Nat → Bool
  | [] => true
  | a :: l => !inN a l && onceN l
theorem hT_is : sameN ((List.range 729).map fun i => mod64 (h3 (i / 81) (i / 9 % 9) (i % 9))) hT = true := by decide +kernel
theorem hT_once : onceN hT = true := by decide +kernel
theorem sameN_eq : ∀ {l m : List Nat}, sameN l m = true → l = m
  | [], [], _ => rfl
  | [], _ :: _, h => nomatch h
  | _ :: _, [], h => nomatch h
  | a :: l, b :: m, h => by
    have h' : (Nat.beq a b && sameN l m) = true := h
    rw [Bool.and_eq_true] at h'
    rw [Nat.eq_of_beq_eq_true h'.1, sameN_eq h'.2]
theorem inN_mem : ∀ {l : List Nat} {a : Nat}, a ∈ l → inN a l = true
  | b :: l, a, h => by
    show (Nat.beq a b || inN a l) = true
    rcases List.mem_cons.mp h with rfl | h
    · rw [Nat.beq_refl]; rfl
    · rw [inN_mem h, Bool.or_true]
theorem onceN_nodup : ∀ {l : List Nat}, onceN l = true → l.Nodup
  | [], _ => List.nodup_nil
  | a :: l, h => by
    have h' : (!inN a l && onceN l) = true := h
    rw [Bool.and_eq_true, Bool.not_eq_true'] at h'
    refine List.nodup_cons.mpr ⟨fun hm => ?_, onceN_nodup h'.2⟩
    rw [inN_mem hm] at h'
    exact nomatch h'.1
theorem h3_inj {a b c a' b' c' : Nat} (ha : a ≤ 8) (hb : b ≤ 8) (hc : c ≤ 8) (ha' : a' ≤ 8) (hb' : b' ≤ 8) (hc' : c' ≤ 8) (e : h3 a b c = h3 a' b' c') : a = a' ∧ b = b' ∧ c = c' := by
  have nd := onceN_nodup hT_once
  rw [← sameN_eq hT_is] at nd
  have at_ : ∀ {x y z : Nat}, x ≤ 8 → y ≤ 8 → z ≤ 8 → (((List.range 729).map fun i => mod64 (h3 (i / 81) (i / 9 % 9) (i % 9))))[81 * x + 9 * y + z]? = some (mod64 (h3 x y z)) := fun {x y z} hx hy hz => by
    rw [List.getElem?_map, List.getElem?_range (by omega)]
    show some (mod64 (h3 ((81 * x + 9 * y + z) / 81) ((81 * x + 9 * y + z) / 9 % 9) ((81 * x + 9 * y + z) % 9))) = _
    rw [show (81 * x + 9 * y + z) / 81 = x by omega, show (81 * x + 9 * y + z) / 9 % 9 = y by omega, show (81 * x + 9 * y + z) % 9 = z by omega]
  have g1 := at_ ha hb hc
  have g2 := at_ ha' hb' hc'
  rw [← e] at g2
  obtain ⟨i1, j1⟩ := List.getElem?_eq_some_iff.mp g1
  obtain ⟨i2, j2⟩ := List.getElem?_eq_some_iff.mp g2
  have q := (List.getElem_inj (h₀ := i1) (h₁ := i2) nd).mp (j1.trans j2.symm)
  omega
end Ev
namespace Ev
open PySem PySem.Spec PyProof.Rows L2
/-! ### the text by places -/
def topS (i : Nat) : Stmt := PySem.Challenge.pw_everynext_k60_whole_ranks_place_by_place.main.body.getD i (.Pass ⟨0, 0, 0, 0⟩)
/-- a def of the module that keeps a promise -/
structure Cal (P : Program) (w : World) (K : PySem.W.Frag) (mg : Str → Option Value) (base : Heap) (x : Str) (k : Nat) (ps : List Str) (sp : Sp) where
  f : Addr
  fd : FuncData
  ok : FnOk P w K mg base CX0 k f fd ps sp
  at_ : mg x = some (.ref f)
  kp : PySem.W.keepIn K (.ref f) = true
  b : Binds K fd ps []
theorem pe_cal {X : Cx} {x : Str} {k : Nat} {ps : List Str} {sp : Sp} {p pos : Pos} {e : Expr} {es : List Expr} {t : TA} (C : Cal X.prog X.w X.K X.mg X.base x k ps sp) (hr : Room k X.A) (hg : Gl X x) (ha : PA X (e :: es) t)
    (he : starEach (e :: es) X.env = (false, eval e X.env) :: starEach es X.env := by rfl) (hpl : (backTo pos (starEach es X.env)).any (·.1) = false := by rfl) (hdb : (x == ("__debug__" : Str)) = false := by decide) :
    PE X (.Call (.Name x p) (e :: es) [] pos) (tCall sp [] E0 t) := pe_call (hdb := hdb) (he := he) (hpl := hpl) C.ok hr hg C.at_ C.kp C.b .nil pass0 ha
/-- the module's names -/
structure Mg (mg : Str → Option Value) : Prop where
  len : mg "len" = none
  range : mg "range" = none
  int : mg "int" = none
  bool : mg "bool" = none
  isi : mg "isinstance" = none
  tuple : mg "tuple" = none
  sorted : mg "sorted" = none
  set : mg "set" = none
  dict : mg "dict" = none
  enum : mg "enumerate" = none
  list : mg "list" = none
  all : mg "all" = none
  max : mg "max" = none
  repr : mg "repr" = none
  comb : mg "comb" = some (.builtin "math.comb")
  fact : mg "factorial" = some (.builtin "math.factorial")
  most : ∃ t, mg "MOST_PLACES" = some (.int 10 t)
/-! ### lists of places -/
def vI (l : List Nat) : List V := l.map fun (n : Nat) => V.int (n : Int)
theorem vI_len (l : List Nat) : (vI l).length = l.length := List.length_map _
theorem vI_get (l : List Nat) (i : Nat) : (vI l)[i]? = (l[i]?).map fun (n : Nat) => V.int (n : Int) := List.getElem?_map
theorem vI_at {l : List Nat} {i : Nat} (h : i < l.length) : (vI l)[i]? = some (.int (l[i] : Nat)) := by
  rw [vI_get, List.getElem?_eq_getElem h]
  rfl
theorem vI_D {l : List Nat} {i : Nat} (h : i < l.length) : (vI l)[i]? = some (.int (l.getD i 0 : Nat)) := by
  rw [vI_at h, List.getD_eq_getElem?_getD, List.getElem?_eq_getElem h]
  rfl
theorem vI_ints (l : List Nat) : vI l = (l.map fun (n : Nat) => (n : Int)).map V.int := by
  unfold vI
  rw [List.map_map]
  rfl
theorem vI_app (l m : List Nat) : vI (l ++ m) = vI l ++ vI m := List.map_append
theorem same_upd {H : Hp} {p : Addr} {o : HO} (h : H p = none) : Same H (upd H p o) := fun b x e => by
  rw [upd_ne (ne_of_none e h)]
  exact e
theorem seqT {K : PySem.W.Frag} {H H' : Hp} {a : Addr} {xs : List V} (e : Same H H') (h : SqT K H a xs) : SqT K H' a xs := by
  rcases h with (h | ⟨o, h⟩) | h
  · exact .inl (.inl (e _ _ h))
  · exact .inl (.inr ⟨o, e _ _ h⟩)
  · exact .inr h
theorem ofT {K : PySem.W.Frag} {H : Hp} {a : Addr} {xs : List V} (h : H a = some (.tup xs)) : SqT K H a xs := .inl (.inl h)
theorem ofL {K : PySem.W.Frag} {H : Hp} {a : Addr} {xs : List V} (h : H a = some (.lst xs)) : SqL K H a xs := .inl (.inl h)
/-! ### rules with the written part named (for comprehensions) -/
def rLen (K : PySem.W.Frag) : List V → Hp → VK → Prop := fun xs H Q => ∃ p ys, xs = [V.ref p] ∧ (SqL K H p ys ∨ SqT K H p ys) ∧ Q (.int (ys.length : Nat)) H
theorem cr_len {X : Cx} {K : PySem.W.Frag} (hK : X.K = K) : CallR X (.builtin "len") (rLen K) := by
  subst hK
  exact call_len_seq
theorem ix_tupK {X : Cx} {K : PySem.W.Frag} (hK : X.K = K) : IxR X (fun x y H Q => ∃ p items i v, x = V.ref p ∧ y = V.int i ∧ SqT K H p items ∧ atI items i = some v ∧ Q v H) := by
  subst hK
  exact ix_tup
theorem ix_listK {X : Cx} {K : PySem.W.Frag} (hK : X.K = K) : IxR X (fun x y H Q => ∃ p items i v, x = V.ref p ∧ y = V.int i ∧ SqL K H p items ∧ atI items i = some v ∧ Q v H) := by
  subst hK
  exact ix_list
theorem kept {σ : L2.St} {H : Hp} {t : TE} {F : VK} {G : Hp → Prop} (h : t σ H F) : tYes σ H (fun b H3 => if b = true then t σ H3 F else G H3) := by
  show if true = true then t σ H F else G H
  rw [if_pos rfl]
  exact h
theorem few {n : Nat} (h : n ≤ 1000000) : n ≤ sizeLine := Nat.le_trans h (by decide)
theorem fewlt {n : Nat} (h : n ≤ 1000000) : n < sizeLine := Nat.lt_of_le_of_lt h (by decide)
end Ev
namespace Ev
open PySem PySem.Spec PyProof.Rows L2
section
variable {P : Program} {w : World} {K : PySem.W.Frag} {mg : Str → Option Value} {base : Heap}
/-! ### is_integer, is_from, is_between, the checks -/
abbrev sIsInt : Stmt := topS 7
theorem scIsInt : FnScope ["value"] ["value"] (defScope sIsInt) := ⟨rfl, rfl, rfl, by decide +kernel, rfl, by decide +kernel, by decide +kernel⟩
def spIsInt : Sp := fun vs H Q _ => ∃ i : Int, vs = [.int i] ∧ Q (.bl true) H
theorem ok_isInt {f : Addr} {fd : FuncData} {k : Nat} (F : Fun K "is_integer" "is_integer" sIsInt f fd) (M : Mg mg) : FnOk P w K mg base CX0 (k + 1) f fd ["value"] spIsInt := by
  refine F.ok scIsInt (fun vs H Q E h => ?_) (fun cdv A outer s H vs Q E hr h => ?_)
  · obtain ⟨i, rfl, _⟩ := h
    rfl
  · obtain ⟨i, rfl, q⟩ := h
    refine ⟨_, pss_one (ps_ret (pe_and (pe_callB call_isi (by rfl) M.isi (by decide +kernel) (pa_cons (pv 0) (pa_cons (pe_bltn (v := .ty "int") (by rfl) M.int (by decide +kernel) rfl) pa_nil)))
      (pe_one (pe_not (pe_callB call_isi (by rfl) M.isi (by decide +kernel) (pa_cons (pv 0) (pa_cons (pe_bltn (v := .ty "bool") (by rfl) M.bool (by decide +kernel) rfl) pa_nil))))))), ?_⟩
    refine ⟨.int i, rfl, .int i, .ty "int", .type "int", .type "int", true, rfl, .ty _, .base (.int i), kit_ty (by decide +kernel), true, rfl, iteT ?_⟩
    refine ⟨.int i, rfl, .int i, .ty "bool", .type "int", .type "bool", false, rfl, .ty _, .base (.int i), kit_ty (by decide +kernel), false, rfl, q⟩
abbrev sIsFrom : Stmt := topS 8
theorem scIsFrom : FnScope ["low", "value"] ["low", "value"] (defScope sIsFrom) := ⟨rfl, rfl, rfl, by decide +kernel, rfl, by decide +kernel, by decide +kernel⟩
def spIsFrom : Sp := fun vs H Q _ => ∃ l i : Int, vs = [.int l, .int i] ∧ Q (.bl (decide (l ≤ i))) H
theorem ok_isFrom {f : Addr} {fd : FuncData} {k : Nat} (F : Fun K "is_from" "is_from" sIsFrom f fd) (C1 : Cal P w K mg base "is_integer" k ["value"] spIsInt) : FnOk P w K mg base CX0 (k + 1) f fd ["low", "value"] spIsFrom := by
  refine F.ok scIsFrom (fun vs H Q E h => ?_) (fun cdv A outer s H vs Q E hr h => ?_)
  · obtain ⟨l, i, rfl, _⟩ := h
    rfl
  · obtain ⟨l, i, rfl, q⟩ := h
    refine ⟨_, pss_one (ps_ret (pe_and (pe_cal C1 hr (by rfl) (pa_cons (pv 1) pa_nil)) (pe_one (pe_cmpR op_ge (pv 1) (pv 0) (nomark _))))), ?_⟩
    exact ⟨.int i, rfl, i, rfl, true, rfl, iteT ⟨.int i, rfl, .int l, rfl, i, l, rfl, rfl, q⟩⟩
abbrev sIsBetween : Stmt := topS 9
theorem scIsBetween : FnScope ["low", "value", "high"] ["low", "value", "high"] (defScope sIsBetween) := ⟨rfl, rfl, rfl, by decide +kernel, rfl, by decide +kernel, by decide +kernel⟩
def spIsBetween : Sp := fun vs H Q _ => ∃ l i j : Int, vs = [.int l, .int i, .int j] ∧ l ≤ i ∧ i ≤ j ∧ Q (.bl true) H
theorem ok_isBetween {f : Addr} {fd : FuncData} {k : Nat} (F : Fun K "is_between" "is_between" sIsBetween f fd) (C1 : Cal P w K mg base "is_integer" k ["value"] spIsInt) : FnOk P w K mg base CX0 (k + 1) f fd ["low", "value", "high"] spIsBetween := by
  refine F.ok scIsBetween (fun vs H Q E h => ?_) (fun cdv A outer s H vs Q E hr h => ?_)
  · obtain ⟨l, i, j, rfl, _⟩ := h
    rfl
  · obtain ⟨l, i, j, rfl, h1, h2, q⟩ := h
    refine ⟨_, pss_one (ps_ret (pe_and (pe_cal C1 hr (by rfl) (pa_cons (pv 1) pa_nil)) (pe_one (pe_chain op_le op_le (pv 0) (pv 1) (pv 2))))), ?_⟩
    refine ⟨.int i, rfl, i, rfl, true, rfl, iteT ⟨.int l, rfl, .int i, rfl, l, i, rfl, rfl, true, ?_, iteT ⟨.int j, rfl, i, j, rfl, rfl, ?_⟩⟩⟩
    · exact congrArg V.bl (decide_eq_true h1)
    · show Q (V.bl (decide (i ≤ j))) H
      rw [decide_eq_true h2]
      exact q
abbrev sChkNum : Stmt := topS 10
theorem scChkNum : FnScope ["value"] ["value"] (defScope sChkNum) := ⟨rfl, rfl, rfl, by decide +kernel, rfl, by decide +kernel, by decide +kernel⟩
def spChkNum : Sp := fun vs H Q _ => ∃ i : Int, vs = [.int i] ∧ 0 ≤ i ∧ Q .non H
theorem ok_chkNum {f : Addr} {fd : FuncData} {k : Nat} (F : Fun K "check_number" "check_number" sChkNum f fd) (C1 : Cal P w K mg base "is_from" k ["low", "value"] spIsFrom) : FnOk P w K mg base CX0 (k + 1) f fd ["value"] spChkNum := by
  refine F.ok scChkNum (fun vs H Q E h => ?_) (fun cdv A outer s H vs Q E hr h => ?_)
  · obtain ⟨i, rfl, _⟩ := h
    rfl
  · obtain ⟨i, rfl, h0, q⟩ := h
    refine ⟨_, pss_one (ps_if (pt_not (pt_val (pe_cal C1 hr (by rfl) (pa_cons pe_int (pa_cons (pv 0) pa_nil))))) (pss_one ps_never) pss_nil), ?_⟩
    refine ⟨.int i, rfl, 0, i, rfl, _, rfl, ?_⟩
    rw [decide_eq_true h0]
    exact iteF q
abbrev sChkCnt : Stmt := topS 11
theorem scChkCnt : FnScope ["value"] ["value"] (defScope sChkCnt) := ⟨rfl, rfl, rfl, by decide +kernel, rfl, by decide +kernel, by decide +kernel⟩
def spChkCnt : Sp := fun vs H Q _ => ∃ i : Int, vs = [.int i] ∧ 1 ≤ i ∧ Q .non H
theorem ok_chkCnt {f : Addr} {fd : FuncData} {k : Nat} (F : Fun K "check_count" "check_count" sChkCnt f fd) (C1 : Cal P w K mg base "is_from" k ["low", "value"] spIsFrom) : FnOk P w K mg base CX0 (k + 1) f fd ["value"] spChkCnt := by
  refine F.ok scChkCnt (fun vs H Q E h => ?_) (fun cdv A outer s H vs Q E hr h => ?_)
  · obtain ⟨i, rfl, _⟩ := h
    rfl
  · obtain ⟨i, rfl, h0, q⟩ := h
    refine ⟨_, pss_one (ps_if (pt_not (pt_val (pe_cal C1 hr (by rfl) (pa_cons pe_int (pa_cons (pv 0) pa_nil))))) (pss_one ps_never) pss_nil), ?_⟩
    refine ⟨.int i, rfl, 1, i, rfl, _, rfl, ?_⟩
    rw [decide_eq_true h0]
    exact iteF q
abbrev sChkMany : Stmt := topS 21
theorem scChkMany : FnScope ["value"] ["value"] (defScope sChkMany) := ⟨rfl, rfl, rfl, by decide +kernel, rfl, by decide +kernel, by decide +kernel⟩
def spChkMany : Sp := fun vs H Q _ => ∃ i : Int, vs = [.int i] ∧ 1 ≤ i ∧ i ≤ 10 ∧ Q .non H
theorem ok_chkMany {f : Addr} {fd : FuncData} {k : Nat} (F : Fun K "check_many" "check_many" sChkMany f fd) (M : Mg mg) (C1 : Cal P w K mg base "is_between" k ["low", "value", "high"] spIsBetween) : FnOk P w K mg base CX0 (k + 1) f fd ["value"] spChkMany := by
  refine F.ok scChkMany (fun vs H Q E h => ?_) (fun cdv A outer s H vs Q E hr h => ?_)
  · obtain ⟨i, rfl, _⟩ := h
    rfl
  · obtain ⟨i, rfl, h0, h1, q⟩ := h
    obtain ⟨tm, hm⟩ := M.most
    refine ⟨_, pss_one (ps_if (pt_not (pt_val (pe_cal C1 hr (by rfl) (pa_cons pe_int (pa_cons (pv 0) (pa_cons (pe_glob (v := .int 10) (by rfl) hm ⟨_, rfl⟩) pa_nil)))))) (pss_one ps_never) pss_nil), ?_⟩
    exact ⟨.int i, rfl, 1, i, 10, rfl, h0, h1, true, rfl, iteF q⟩
end
end Ev
namespace Ev
open PySem PySem.Spec PyProof.Rows L2
section
variable {P : Program} {w : World} {K : PySem.W.Frag} {mg : Str → Option Value} {base : Heap}
/-! ### is_chart, check_chart -/
abbrev sIsChart : Stmt := topS 13
theorem scIsChart : FnScope ["value", "place"] ["value"] (defScope sIsChart) := ⟨rfl, rfl, rfl, by decide +kernel, rfl, by decide +kernel, by decide +kernel⟩
def spIsChart (K : PySem.W.Frag) : Sp := fun vs H Q _ => ∃ (a : Addr) (c : List Nat), vs = [.ref a] ∧ SqT K H a (vI c) ∧ TyX K H (.ref a) (.type "tuple") ∧ 1 ≤ c.length ∧ c.length ≤ 10 ∧ Ent c c.length ∧ ∀ H', Same H H' → Q (.bl true) H'
theorem ok_isChart {f : Addr} {fd : FuncData} {k : Nat} (F : Fun K "is_chart" "is_chart" sIsChart f fd) (M : Mg mg) (C1 : Cal P w K mg base "is_between" k ["low", "value", "high"] spIsBetween) : FnOk P w K mg base CX0 (k + 1) f fd ["value"] (spIsChart K) := by
  refine F.ok scIsChart (fun vs H Q E h => ?_) (fun cdv A outer s H vs Q E hr h => ?_)
  · obtain ⟨a, c, rfl, _⟩ := h
    rfl
  · obtain ⟨a, c, rfl, hS, hty, h1, h10, hc, q⟩ := h
    obtain ⟨tm, hm⟩ := M.most
    refine ⟨_, pss_cons (ps_if (PW.pt (pw_or (pt_not (pt_val (pe_callB call_isi (by rfl) M.isi (by decide +kernel) (pa_cons (pv 0) (pa_cons (pe_bltn (v := .ty "tuple") (by rfl) M.tuple (by decide +kernel) rfl) pa_nil)))))
        (pw_or1 (pt_not (pt_chain op_le op_le pe_int (pe_callB call_len_seq (by rfl) M.len PySem.boot_len (pa_cons (pv 0) pa_nil)) (pe_glob (v := .int 10) (by rfl) hm ⟨_, rfl⟩))))))
        (pss_one (ps_ret pe_bl)) pss_nil)
      (pss_one (ps_ret (pe_callB (cr_all rfl) (by rfl) M.all (by decide +kernel) (pa_cons
        (pe_lc (own := [("place", 1)]) (g := gName 1) (tt := tYes) rfl scIsChart.nd (pi_tup (pv 0)) (blkOk_by (N := ["value", "place"]) (sc := defScope sIsChart) (by decide +kernel))
          (fun _ _ _ _ _ => pg_name (i := 1) scIsChart.nd rfl (Or.inl rfl)) (fun _ _ _ _ _ => pts_nil)
          (fun _ _ _ _ _ => pe_cal C1 hr (by rfl) (pa_cons pe_int (pa_cons (pv 1) (pa_cons (pe_op op_sub (pe_callB (cr_len (K := K) rfl) (by rfl) M.len PySem.boot_len (pa_cons (pv 0) pa_nil)) pe_int) pa_nil))))) pa_nil)))), ?_⟩
    refine ⟨.ref a, rfl, .ref a, .ty "tuple", .type "tuple", .type "tuple", true, rfl, .ty _, hty, kit_ty (by decide +kernel), true, rfl, iteF ?_⟩
    refine ⟨.ref a, rfl, a, vI c, rfl, .inr hS, 1, ((vI c).length : Nat), rfl, rfl, true, ?_, iteT ⟨((vI c).length : Nat), 10, rfl, rfl, true, ?_, iteF ?_⟩⟩
    · exact congrArg V.bl (decide_eq_true (by rw [vI_len]; omega))
    · exact congrArg V.bl (decide_eq_true (by rw [vI_len]; omega))
    refine ⟨.ref a, rfl, a, rfl, ⟨_, hS⟩, fun D hD => ?_⟩
    refine lc_tup (K := K) (a := a) (xs := vI c) (fun i H' => ∃ acc : List V, H' D = some (.lst acc) ∧ acc = List.replicate i (.bl true) ∧ (∀ b o, b ≠ D → H b = some o → H' b = some o)) ⟨[], upd_same, rfl, fun b o hb e => by rw [upd_ne hb]; exact e⟩
      (fun i H' hi ⟨acc, h1, h2, h3⟩ => ?_) (fun i x H' hx ⟨acc, e1, e2, e3⟩ => ?_) (fun H' ⟨acc, e1, e2, e3⟩ => ?_)
    · rcases hS with (hS | ⟨o, hS⟩) | hS
      · exact .inl (.inl (h3 _ _ (ne_of_none hS hD) hS))
      · exact .inl (.inr ⟨o, h3 _ _ (ne_of_none hS hD) hS⟩)
      · exact .inr hS
    · have hS' : SqT K H' a (vI c) := by
        rcases hS with (hS | ⟨o, hS⟩) | hS
        · exact .inl (.inl (e3 _ _ (ne_of_none hS hD) hS))
        · exact .inl (.inr ⟨o, e3 _ _ (ne_of_none hS hD) hS⟩)
        · exact .inr hS
      have hi : i < c.length := by
        have := (List.getElem?_eq_some_iff.mp hx).1
        rwa [vI_len] at this
      obtain rfl : V.int (c[i] : Nat) = x := by
        rw [vI_at hi] at hx
        exact Option.some.inj hx
      have hlt := hc _ (List.getElem_mem hi)
      refine ⟨rfl, kept ?_⟩
      refine ⟨.int (c[i] : Nat), rfl, .ref a, rfl, a, vI c, rfl, .inr hS', ((vI c).length : Nat), 1, rfl, rfl, 0, (c[i] : Nat), ((vI c).length : Nat) - 1, rfl, by omega, by rw [vI_len]; omega, acc, e1, ?_, ?_⟩
      · rw [e2, List.length_replicate]
        exact fewlt (by omega)
      · refine ⟨_, upd_same, ?_, fun b o hb e => ?_⟩
        · rw [e2, ← List.replicate_succ']
        · rw [upd_ne hb]
          exact e3 _ _ hb e
    · refine ⟨D, List.replicate (vI c).length true, rfl, ofL (by rw [e1, e2, List.map_replicate]), ?_⟩
      have ea : (List.replicate (vI c).length true).all id = true := List.all_eq_true.mpr fun x hx => (List.mem_replicate.mp hx).2
      show Q (.bl ((List.replicate (vI c).length true).all id)) H'
      rw [ea]
      exact q H' fun b o e => e3 b o (ne_of_none e hD) e
abbrev sChkChart : Stmt := topS 14
theorem scChkChart : FnScope ["value"] ["value"] (defScope sChkChart) := ⟨rfl, rfl, rfl, by decide +kernel, rfl, by decide +kernel, by decide +kernel⟩
def spChkChart (K : PySem.W.Frag) : Sp := fun vs H Q _ => ∃ (a : Addr) (c : List Nat), vs = [.ref a] ∧ SqT K H a (vI c) ∧ TyX K H (.ref a) (.type "tuple") ∧ 1 ≤ c.length ∧ c.length ≤ 10 ∧ Ent c c.length ∧ ∀ H', Same H H' → Q .non H'
theorem ok_chkChart {f : Addr} {fd : FuncData} {k : Nat} (F : Fun K "check_chart" "check_chart" sChkChart f fd) (C1 : Cal P w K mg base "is_chart" k ["value"] (spIsChart K)) : FnOk P w K mg base CX0 (k + 1) f fd ["value"] (spChkChart K) := by
  refine F.ok scChkChart (fun vs H Q E h => ?_) (fun cdv A outer s H vs Q E hr h => ?_)
  · obtain ⟨a, c, rfl, _⟩ := h
    rfl
  · obtain ⟨a, c, rfl, hS, hty, h1, h10, hc, q⟩ := h
    refine ⟨_, pss_one (ps_if (pt_not (pt_val (pe_cal C1 hr (by rfl) (pa_cons (pv 0) pa_nil)))) (pss_one ps_never) pss_nil), ?_⟩
    exact ⟨.ref a, rfl, a, c, rfl, hS, hty, h1, h10, hc, fun H' s' => ⟨true, rfl, iteF (q H' s')⟩⟩
/-! ### behind_of -/
abbrev sBehind : Stmt := topS 15
theorem scBehind : FnScope ["chart", "other", "place"] ["chart", "other"] (defScope sBehind) := ⟨rfl, rfl, rfl, by decide +kernel, rfl, by decide +kernel, by decide +kernel⟩
def spBehind (K : PySem.W.Frag) : Sp := fun vs H Q _ => ∃ (a b : Addr) (c d : List Nat), vs = [.ref a, .ref b] ∧ SqT K H a (vI c) ∧ SqT K H b (vI d) ∧ (∀ x ∈ c, x < d.length) ∧ c.length ≤ 10 ∧ ∀ H' p, Same H H' → H p = none → H' p = some (.tup (vI (c.map fun x => d.getD x 0))) → Q (.ref p) H'
theorem ok_behind {f : Addr} {fd : FuncData} {k : Nat} (F : Fun K "behind_of" "behind_of" sBehind f fd) (M : Mg mg) : FnOk P w K mg base CX0 (k + 1) f fd ["chart", "other"] (spBehind K) := by
  refine F.ok scBehind (fun vs H Q E h => ?_) (fun cdv A outer s H vs Q E hr h => ?_)
  · obtain ⟨a, b, c, d, rfl, _⟩ := h
    rfl
  · obtain ⟨a, b, c, d, rfl, hS, hT, hlt, hlen, q⟩ := h
    refine ⟨_, pss_one (ps_ret (pe_callTy call_tuple_of (by rfl) M.tuple (by decide +kernel) (pa_cons
        (pe_lc (own := [("place", 2)]) (g := gName 2) (tt := tYes) rfl scBehind.nd (pi_tup (pv 0)) (blkOk_by (N := ["chart", "other", "place"]) (sc := defScope sBehind) (by decide +kernel))
          (fun _ _ _ _ _ => pg_name (i := 2) scBehind.nd rfl (Or.inl rfl)) (fun _ _ _ _ _ => pts_nil)
          (fun _ _ _ _ _ => pe_ix (ix_tupK (K := K) rfl) (pv 1) (pv 2) (fun _ _ => rfl))) pa_nil))), ?_⟩
    refine ⟨.ref a, rfl, a, rfl, ⟨_, hS⟩, fun D hD => ?_⟩
    refine lc_tup (K := K) (a := a) (xs := vI c) (fun i H' => Same H H' ∧ H' D = some (.lst (vI ((c.map fun x => d.getD x 0).take i)))) ⟨same_upd hD, upd_same⟩
      (fun i H' hi ⟨h1, h2⟩ => seqT h1 hS) (fun i x H' hx ⟨e1, e2⟩ => ?_) (fun H' ⟨e1, e2⟩ => ?_)
    · have hi : i < c.length := by
        have := (List.getElem?_eq_some_iff.mp hx).1
        rwa [vI_len] at this
      obtain rfl : V.int (c[i] : Nat) = x := by
        rw [vI_at hi] at hx
        exact Option.some.inj hx
      have hl := hlt _ (List.getElem_mem hi)
      refine ⟨rfl, kept ?_⟩
      refine ⟨.ref b, rfl, .int (c[i] : Nat), rfl, b, vI d, (c[i] : Nat), .int (d.getD c[i] 0 : Nat), rfl, rfl, seqT e1 hT, atI_nat (vI_D hl), _, e2, ?_, fun b' o e => ?_, ?_⟩
      · rw [vI_len, List.length_take, List.length_map]
        exact fewlt (by omega)
      · rw [upd_ne (ne_of_none e hD)]
        exact e1 _ _ e
      · rw [upd_same, List.take_add_one, vI_app, List.getElem?_map, List.getElem?_eq_getElem hi]
        rfl
    · rw [vI_len, List.take_of_length_le (by rw [List.length_map]; exact Nat.le_refl _)] at e2
      refine ⟨D, _, rfl, .inl ⟨ofL e2, fun l hl => ?_⟩⟩
      exact q _ l (e1.trans (same_upd hl)) (e1.free hl) upd_same
end
end Ev
namespace Ev
open PySem PySem.Spec PyProof.Rows L2
theorem iop_times {X : Cx} : PIp X .Mult (rI CMul fun i j => .int (i * j)) := fun pins s σ H x y v u Q I r1 r2 h => iop_mul pins s σ H x y v u Q I r1 r2 h
theorem iop_half {X : Cx} : PIp X .FloorDiv (rI CDiv fun i j => .int (i / j)) := fun pins s σ H x y v u Q I r1 r2 h => iop_fdiv pins s σ H x y v u Q I r1 r2 h
section
variable {P : Program} {w : World} {K : PySem.W.Frag} {mg : Str → Option Value} {base : Heap}
/-! ### image_of -/
abbrev sImage : Stmt := topS 17
theorem scImage : FnScope ["chart"] ["chart"] (defScope sImage) := ⟨rfl, rfl, rfl, by decide +kernel, rfl, by decide +kernel, by decide +kernel⟩
def spImage (K : PySem.W.Frag) : Sp := fun vs H Q _ => ∃ (a : Addr) (c : List Nat) (n : Nat), vs = [.ref a] ∧ SqT K H a (vI c) ∧ c.length ≤ 10 ∧ (∀ x ∈ c, x < n) ∧ ∀ H' p, Same H H' → H' p = some (.tup (vI (img n c))) → Q (.ref p) H'
theorem ok_image {f : Addr} {fd : FuncData} {k : Nat} (F : Fun K "image_of" "image_of" sImage f fd) (M : Mg mg) : FnOk P w K mg base CX0 (k + 1) f fd ["chart"] (spImage K) := by
  refine F.ok scImage (fun vs H Q E h => ?_) (fun cdv A outer s H vs Q E hr h => ?_)
  · obtain ⟨a, c, n, rfl, _⟩ := h
    rfl
  · obtain ⟨a, c, n, rfl, hS, hlen, hlt, q⟩ := h
    refine ⟨_, pss_one (ps_ret (pe_callTy call_tuple_of (by rfl) M.tuple (by decide +kernel) (pa_cons (pe_callB (cr_sortedSet rfl) (by rfl) M.sorted (by decide +kernel) (pa_cons
      (pe_callTy (cr_setT rfl) (by rfl) M.set (by decide +kernel) (pa_cons (pv 0) pa_nil)) pa_nil)) pa_nil))), ?_⟩
    rw [vI_ints] at hS
    refine ⟨.ref a, rfl, a, _, rfl, hS, by rw [List.length_map]; omega, fun b cn hcn hb => ?_⟩
    rw [List.length_map] at hcn
    refine ⟨b, _, cn, rfl, upd_same, by omega, fun ns l h1 h2 h3 hl => ?_⟩
    have e : ns = (img n c).map fun (x : Nat) => (x : Int) := img_is hlt h1 fun z => by rw [h2, decide_eq_true_eq]
    subst e
    refine ⟨l, _, rfl, .inl ⟨ofL upd_same, fun t ht => ?_⟩⟩
    refine q _ t ((same_upd hb).trans ((same_upd hl).trans (same_upd ht))) ?_
    rw [upd_same, vI_ints]
/-! ### step_of -/
abbrev sStep : Stmt := topS 16
theorem scStep : FnScope ["chart", "number", "found", "power"] ["chart", "number"] (defScope sStep) := ⟨rfl, rfl, rfl, by decide +kernel, rfl, by decide +kernel, by decide +kernel⟩
def spStep (K : PySem.W.Frag) : Sp := fun vs H Q _ => ∃ (a : Addr) (c : List Nat) (N : Nat), vs = [.ref a, .int (N : Nat)] ∧ SqT K H a (vI c) ∧ c.length ≤ 10 ∧ Ent c c.length ∧ ∀ H' p, Same H H' → SqT K H' p (vI (stepL c c.length N)) → Q (.ref p) H'
theorem ok_step {f : Addr} {fd : FuncData} {k : Nat} (F : Fun K "step_of" "step_of" sStep f fd) (M : Mg mg) (C1 : Cal P w K mg base "behind_of" k ["chart", "other"] (spBehind K)) : FnOk P w K mg base CX0 (k + 1) f fd ["chart", "number"] (spStep K) := by
  refine F.ok scStep (fun vs H Q E h => ?_) (fun cdv A outer s H vs Q E hr h => ?_)
  · obtain ⟨a, c, N, rfl, _⟩ := h
    rfl
  · obtain ⟨a, c, N, rfl, hS, hlen, hc, q⟩ := h
    refine ⟨_, pss_cons (ps_set (i := 2) scStep.nd rfl (.inl rfl) (pe_tupRg rfl (by rfl) M.tuple (prg_1 (by rfl) M.range (pe_callB call_len_seq (by rfl) M.len PySem.boot_len (pa_cons (pv 0) pa_nil)))))
      (pss_cons (ps_set (i := 3) scStep.nd rfl (.inl rfl) (pv 0))
      (pss_cons (ps_while PassesOwn.never (pt_cmpR op_gt (pv 1) pe_int (nomark _))
        (pss_cons (ps_if (pt_cmpR op_eq (pe_op op_mod (pv 1) pe_int) pe_int (nomark _)) (pss_one (ps_set (i := 2) scStep.nd rfl (.inl rfl) (pe_cal C1 hr (by rfl) (pa_cons (pv 2) (pa_cons (pv 3) pa_nil))))) pss_nil)
        (pss_cons (ps_set (i := 3) scStep.nd rfl (.inl rfl) (pe_cal C1 hr (by rfl) (pa_cons (pv 3) (pa_cons (pv 3) pa_nil))))
        (pss_one (ps_aug (i := 1) scStep.nd rfl (.inl rfl) pe_int iop_half)))))
      (pss_one (ps_ret (pv 2))))), ?_⟩
    refine ⟨.ref a, rfl, a, vI c, rfl, .inr hS, ((vI c).length : Nat), rfl, .of_le (by decide) (by rw [vI_len]; omega) (by decide) (by omega), fun b hb => ?_⟩
    refine ⟨.ref a, rfl, ?_⟩
    have e0 : rgV 0 ((vI c).length : Nat) = vI (stepL c c.length 0) := by
      rw [stepL_zero, vI_len]
      unfold rgV vI
      rw [show (((c.length : Nat) : Int) - 0).toNat = c.length by omega]
      refine List.map_congr_left fun i _ => ?_
      show V.int (0 + (i : Nat)) = V.int (i : Nat)
      rw [Int.zero_add]
    refine ⟨fun m σ H' => ∃ (p1 p2 : Addr) (j d r : Nat), σ = [some (.ref a), some (.int (r : Nat)), some (.ref p1), some (.ref p2)] ∧ m = r ∧ Same H H' ∧ SqT K H' p1 (vI (stepL c c.length j)) ∧ SqT K H' p2 (vI (stepL c c.length d)) ∧ j + d * r = N,
      ⟨N, b, a, 0, 1, N, rfl, rfl, same_upd hb, ofT (by rw [upd_same, e0]), seqT (same_upd hb) (by rw [stepL_one rfl]; exact hS), by omega⟩, ?_⟩
    rintro m σ H' ⟨p1, p2, j, d, r, rfl, rfl, sm, h1, h2, hN⟩
    refine ⟨.int (m : Nat), rfl, (m : Nat), 0, rfl, rfl, _, rfl, ite2 (fun hpos => ?_) (fun hneg => ?_)⟩
    · have hm : 0 < m := by
        have := of_decide_eq_true hpos
        omega
      refine ⟨fun σ' H2 => ∃ m', m' < m ∧ ∃ (p1 p2 : Addr) (j d r : Nat), σ' = [some (.ref a), some (.int (r : Nat)), some (.ref p1), some (.ref p2)] ∧ m' = r ∧ Same H H2 ∧ SqT K H2 p1 (vI (stepL c c.length j)) ∧ SqT K H2 p2 (vI (stepL c c.length d)) ∧ j + d * r = N, fun σ' H2 h => h, ?_⟩
      have lt1 : ∀ x, ∀ y ∈ stepL c c.length x, y < (stepL c c.length d).length := fun x y hy => by
        rw [stepL_len]
        exact stepL_lt hc rfl hy
      -- what follows the if
      have tail : ∀ (p3 : Addr) (j' : Nat) (H2 : Hp), Same H' H2 → SqT K H2 p3 (vI (stepL c c.length j')) → j' + d * 2 * (m / 2) = N →
          tCall (spBehind K) [] E0 (tCons (tVar 3) (tCons (tVar 3) tNil)) [some (.ref a), some (.int (m : Nat)), some (.ref p3), some (.ref p2)] H2 fun y H3 =>
            tAug 1 (tC (.int 2)) (rI CDiv fun i j => .int (i / j)) { nx := fun σ' H2 => ∃ m', m' < m ∧ ∃ (p1 p2 : Addr) (j d r : Nat), σ' = [some (.ref a), some (.int (r : Nat)), some (.ref p1), some (.ref p2)] ∧ m' = r ∧ Same H H2 ∧ SqT K H2 p1 (vI (stepL c c.length j)) ∧ SqT K H2 p2 (vI (stepL c c.length d)) ∧ j + d * r = N, rt := Q }
              ([some (.ref a), some (.int (m : Nat)), some (.ref p3), some y]) H3 := by
        intro p3 j' H2 s2 h3 hN'
        refine ⟨.ref p2, rfl, .ref p2, rfl, p2, p2, stepL c c.length d, stepL c c.length d, rfl, seqT s2 h2, seqT s2 h2, lt1 d, by rw [stepL_len]; exact hlen, fun H3 p4 s3 np e4 => ?_⟩
        refine ⟨.int (m : Nat), rfl, (m : Nat), 2, rfl, rfl, ⟨by decide, by decide⟩, m / 2, by omega, p3, p4, j', d * 2, m / 2, ?_, rfl, sm.trans (s2.trans s3), seqT s3 h3, ofT ?_, hN'⟩
        · show [_, some (V.int ((m : Int) / 2)), _, _] = _
          rw [show ((m : Int) / 2) = ((m / 2 : Nat) : Int) by omega]
        · rw [e4, stepL_comp hc rfl, show d + d = d * 2 by omega]
      refine ⟨.int (m : Nat), rfl, (m : Nat), 2, rfl, rfl, (by decide : (0 : Int) < 2), rfl, _, rfl, ite2 (fun hodd => ?_) (fun heven => ?_)⟩
      · have ho : m % 2 = 1 := by
          have := V.int.inj (of_decide_eq_true hodd)
          omega
        refine ⟨.ref p1, rfl, .ref p2, rfl, p1, p2, stepL c c.length j, stepL c c.length d, rfl, h1, h2, lt1 j, by rw [stepL_len]; exact hlen, fun H2 p3 s2 np e3 => ?_⟩
        rw [stepL_comp hc rfl] at e3
        refine tail p3 (d + j) H2 s2 (ofT e3) ?_
        have : m = 2 * (m / 2) + 1 := by omega
        have e : d * m = d * 2 * (m / 2) + d := by
          conv => lhs; rw [this]
          rw [Nat.mul_add, Nat.mul_assoc, Nat.mul_one]
        omega
      · have he : m % 2 = 0 := by
          have h0 : ¬ (V.int ((m : Int) % 2) = V.int 1) := fun z => heven (decide_eq_true z)
          have : ¬ ((m : Int) % 2 = 1) := fun z => h0 (by rw [z])
          omega
        refine tail p1 j H' (Same.refl _) h1 ?_
        have : m = 2 * (m / 2) := by omega
        have e : d * m = d * 2 * (m / 2) := by
          conv => lhs; rw [this]
          rw [Nat.mul_assoc]
        omega
    · have hm : m = 0 := by
        have : ¬ ((m : Int) > 0) := fun z => hneg (decide_eq_true z)
        omega
      subst hm
      have : j = N := by omega
      subst this
      exact ⟨.ref p1, rfl, q H' p1 sm h1⟩
end
end Ev
namespace Ev
open PySem PySem.Spec PyProof.Rows L2
section
variable {P : Program} {w : World} {K : PySem.W.Frag} {mg : Str → Option Value} {base : Heap}
/-! ### on_rings_of -/
abbrev sOnRings : Stmt := topS 19
theorem scOnRings : FnScope ["chart"] ["chart"] (defScope sOnRings) := ⟨rfl, rfl, rfl, by decide +kernel, rfl, by decide +kernel, by decide +kernel⟩
def spOnRings (K : PySem.W.Frag) : Sp := fun vs H Q _ => ∃ (a : Addr) (c : List Nat), vs = [.ref a] ∧ SqT K H a (vI c) ∧ c.length ≤ 10 ∧ Ent c c.length ∧ ∀ H' p, Same H H' → H' p = some (.tup (vI (img c.length (stepL c c.length c.length)))) → Q (.ref p) H'
theorem ok_onRings {f : Addr} {fd : FuncData} {k : Nat} (F : Fun K "on_rings_of" "on_rings_of" sOnRings f fd) (M : Mg mg) (C1 : Cal P w K mg base "image_of" k ["chart"] (spImage K)) (C2 : Cal P w K mg base "step_of" k ["chart", "number"] (spStep K)) : FnOk P w K mg base CX0 (k + 1) f fd ["chart"] (spOnRings K) := by
  refine F.ok scOnRings (fun vs H Q E h => ?_) (fun cdv A outer s H vs Q E hr h => ?_)
  · obtain ⟨a, c, rfl, _⟩ := h
    rfl
  · obtain ⟨a, c, rfl, hS, hlen, hc, q⟩ := h
    refine ⟨_, pss_one (ps_ret (pe_cal C1 hr (by rfl) (pa_cons (pe_cal C2 hr (by rfl) (pa_cons (pv 0) (pa_cons (pe_callB call_len_seq (by rfl) M.len PySem.boot_len (pa_cons (pv 0) pa_nil)) pa_nil))) pa_nil))), ?_⟩
    refine ⟨.ref a, rfl, .ref a, rfl, a, vI c, rfl, .inr hS, a, c, c.length, by rw [vI_len]; rfl, hS, hlen, hc, fun H1 p s1 h1 => ?_⟩
    exact ⟨p, _, c.length, rfl, h1, by rw [stepL_len]; exact hlen, fun x hx => stepL_lt hc rfl hx, fun H2 p2 s2 e2 => q H2 p2 (s1.trans s2) e2⟩
/-! ### times_itself, forests_on, ring_ways, ring_place_counts -/
abbrev sTimes : Stmt := topS 22
theorem scTimes : FnScope ["base", "times", "found", "turn"] ["base", "times"] (defScope sTimes) := ⟨rfl, rfl, rfl, by decide +kernel, rfl, by decide +kernel, by decide +kernel⟩
def spTimes : Sp := fun vs H Q _ => ∃ (b t : Nat), vs = [.int (b : Nat), .int (t : Nat)] ∧ b ≤ 1000 ∧ t ≤ 1000 ∧ Q (.int (b ^ t : Nat)) H
theorem ok_times {f : Addr} {fd : FuncData} {k : Nat} (F : Fun K "times_itself" "times_itself" sTimes f fd) (M : Mg mg) : FnOk P w K mg base CX0 (k + 1) f fd ["base", "times"] spTimes := by
  refine F.ok scTimes (fun vs H Q E h => ?_) (fun cdv A outer s H vs Q E hr h => ?_)
  · obtain ⟨b, t, rfl, _⟩ := h
    rfl
  · obtain ⟨b, t, rfl, hb, ht, q⟩ := h
    refine ⟨_, pss_cons (ps_set (i := 2) scTimes.nd rfl (.inl rfl) pe_int)
      (pss_cons (ps_for PassesOwn.never rfl (pi_range1 (by rfl) M.range (pa_cons (pv 1) pa_nil)) (pg_name (i := 3) scTimes.nd rfl (Or.inl rfl)) (pss_one (ps_aug (i := 2) scTimes.nd rfl (.inl rfl) (pv 0) iop_times)))
      (pss_one (ps_ret (pv 2)))), ?_⟩
    refine ⟨.int (t : Nat), rfl, (t : Nat), rfl, by omega, by omega, for_range (n := t) (fun i σ H' => ∃ y, σ = [some (.int (b : Nat)), some (.int (t : Nat)), some (.int (b ^ i : Nat)), y] ∧ H' = H) ⟨none, rfl, rfl⟩ ?_ ?_⟩
    · rintro i σ H' hi ⟨y, rfl, rfl⟩
      refine ⟨_, rfl, .int (b : Nat), rfl, (b ^ i : Nat), (b : Nat), rfl, rfl, .inr ⟨by omega, by omega⟩, some (.int (0 + (i : Nat))), ?_, rfl⟩
      show [_, _, some (V.int (((b ^ i : Nat) : Int) * ((b : Nat) : Int))), _] = _
      rw [Nat.pow_succ, Int.natCast_mul]
    · rintro σ H' ⟨y, rfl, rfl⟩
      exact ⟨_, rfl, q⟩
abbrev sForests : Stmt := topS 23
theorem scForests : FnScope ["many", "roots"] ["many", "roots"] (defScope sForests) := ⟨rfl, rfl, rfl, by decide +kernel, rfl, by decide +kernel, by decide +kernel⟩
def spForests : Sp := fun vs H Q _ => ∃ (n r : Nat), vs = [.int (n : Nat), .int (r : Nat)] ∧ n ≤ 10 ∧ r ≤ 10 ∧ Q (.int (if r < n then r * n ^ (n - r - 1) else 1 : Nat)) H
theorem ok_forests {f : Addr} {fd : FuncData} {k : Nat} (F : Fun K "forests_on" "forests_on" sForests f fd) (C1 : Cal P w K mg base "times_itself" k ["base", "times"] spTimes) : FnOk P w K mg base CX0 (k + 1) f fd ["many", "roots"] spForests := by
  refine F.ok scForests (fun vs H Q E h => ?_) (fun cdv A outer s H vs Q E hr h => ?_)
  · obtain ⟨b, t, rfl, _⟩ := h
    rfl
  · obtain ⟨n, r, rfl, hn, hr', q⟩ := h
    refine ⟨_, pss_one (ps_ret (pe_ifExp (pt_cmpR op_lt (pv 1) (pv 0) (nomark _)) (pe_op op_mul (pv 1) (pe_cal C1 hr (by rfl) (pa_cons (pv 0) (pa_cons (pe_op op_sub (pe_op op_sub (pv 0) (pv 1)) pe_int) pa_nil)))) pe_int)), ?_⟩
    refine ⟨_, rfl, _, rfl, (r : Nat), (n : Nat), rfl, rfl, _, rfl, ite2 (fun hl => ?_) (fun hl => ?_)⟩
    · have hlt : r < n := by
        have := of_decide_eq_true hl
        omega
      refine ⟨_, rfl, .int (n : Nat), rfl, .int (n : Nat), rfl, .int (r : Nat), rfl, (n : Nat), (r : Nat), rfl, rfl, ((n : Nat) : Int) - (r : Nat), 1, rfl, rfl, n, n - r - 1, ?_, by omega, by omega, (r : Nat), (n ^ (n - r - 1) : Nat), rfl, rfl, .inl ⟨by omega, by omega⟩, ?_⟩
      · show [V.int (n : Nat), V.int ((((n : Nat) : Int) - (r : Nat)) - 1)] = _
        rw [show (((n : Nat) : Int) - (r : Nat)) - 1 = ((n - r - 1 : Nat) : Int) by omega]
      · rw [if_pos hlt] at q
        show Q (.int (((r : Nat) : Int) * ((n ^ (n - r - 1) : Nat) : Int))) H
        rw [← Int.natCast_mul]
        exact q
    · have hlt : ¬ r < n := fun z => hl (decide_eq_true (by omega))
      rw [if_neg hlt] at q
      exact q
abbrev sRingWays : Stmt := topS 25
theorem scRingWays : FnScope ["many", "places"] ["many", "places"] (defScope sRingWays) := ⟨rfl, rfl, rfl, by decide +kernel, rfl, by decide +kernel, by decide +kernel⟩
def spRingWays : Sp := fun vs H Q _ => ∃ (n r : Nat), vs = [.int (n : Nat), .int (r : Nat)] ∧ n ≤ 10 ∧ r ≤ n ∧ Q (.int (binom n r * (if r < n then r * n ^ (n - r - 1) else 1) : Nat)) H
theorem binom_few : ((List.range 11).all fun n => (List.range 11).all fun k => decide (binom n k < 2 ^ 30)) = true := by decide +kernel
theorem fact_sm : ((List.range 11).all fun n => decide (fact n < 2 ^ 30)) = true := by decide +kernel
theorem fact_lt {n : Nat} (hn : n ≤ 10) : fact n < 2 ^ 30 := of_decide_eq_true (List.all_eq_true.mp fact_sm n (List.mem_range.mpr (by omega)))
theorem binom_lt {n k : Nat} (hn : n ≤ 10) (hk : k ≤ 10) : binom n k < 2 ^ 30 := of_decide_eq_true (List.all_eq_true.mp (List.all_eq_true.mp binom_few n (List.mem_range.mpr (by omega))) k (List.mem_range.mpr (by omega)))
theorem ok_ringWays {f : Addr} {fd : FuncData} {k : Nat} (F : Fun K "ring_ways" "ring_ways" sRingWays f fd) (M : Mg mg) (C1 : Cal P w K mg base "forests_on" k ["many", "roots"] spForests) : FnOk P w K mg base CX0 (k + 1) f fd ["many", "places"] spRingWays := by
  refine F.ok scRingWays (fun vs H Q E h => ?_) (fun cdv A outer s H vs Q E hr h => ?_)
  · obtain ⟨b, t, rfl, _⟩ := h
    rfl
  · obtain ⟨n, r, rfl, hn, hr', q⟩ := h
    refine ⟨_, pss_one (ps_ret (pe_op op_mul (pe_callBfun cr_comb (by rfl) M.comb (pa_cons (pv 0) (pa_cons (pv 1) pa_nil))) (pe_cal C1 hr (by rfl) (pa_cons (pv 0) (pa_cons (pv 1) pa_nil))))), ?_⟩
    have hb := binom_lt (n := n) (k := r) hn (by omega)
    refine ⟨.int (n : Nat), rfl, .int (r : Nat), rfl, n, r, rfl, hn, by omega, .int (n : Nat), rfl, .int (r : Nat), rfl, n, r, rfl, hn, by omega, (binom n r : Nat), _, rfl, rfl, .inl ⟨by omega, by omega⟩, ?_⟩
    show Q (.int (((binom n r : Nat) : Int) * (((if r < n then r * n ^ (n - r - 1) else 1) : Nat) : Int))) H
    rw [← Int.natCast_mul]
    exact q
abbrev sCounts : Stmt := topS 26
theorem scCounts : FnScope ["many", "places"] ["many"] (defScope sCounts) := ⟨rfl, rfl, rfl, by decide +kernel, rfl, by decide +kernel, by decide +kernel⟩
def spCounts : Sp := fun vs H Q _ => ∃ (n : Nat), vs = [.int (n : Nat)] ∧ 1 ≤ n ∧ n ≤ 10 ∧ ∀ H' p, Same H H' → H' p = some (.lst (vI (0 :: (List.range n).map fun i => ringCount n (i + 1)))) → Q (.ref p) H'
theorem ok_counts {f : Addr} {fd : FuncData} {k : Nat} (F : Fun K "ring_place_counts" "ring_place_counts" sCounts f fd) (M : Mg mg) (C1 : Cal P w K mg base "ring_ways" k ["many", "places"] spRingWays) (C2 : Cal P w K mg base "check_many" k ["value"] spChkMany) : FnOk P w K mg base CX0 (k + 1) f fd ["many"] spCounts := by
  refine F.ok scCounts (fun vs H Q E h => ?_) (fun cdv A outer s H vs Q E hr h => ?_)
  · obtain ⟨n, rfl, _⟩ := h
    rfl
  · obtain ⟨n, rfl, h1, h10, q⟩ := h
    refine ⟨_, pss_cons (ps_expr (pe_cal C2 hr (by rfl) (pa_cons (pv 0) pa_nil)))
      (pss_one (ps_ret (pe_op op_cat (pe_lst (pa_cons pe_int pa_nil))
        (pe_lc (own := [("places", 1)]) (g := gName 1) (tt := tYes) rfl scCounts.nd (pi_range2 (by rfl) M.range (pa_cons pe_int (pa_cons (pe_op op_add (pv 0) pe_int) pa_nil))) (blkOk_by (N := ["many", "places"]) (sc := defScope sCounts) (by decide +kernel))
          (fun _ _ _ _ _ => pg_name (i := 1) scCounts.nd rfl (Or.inl rfl)) (fun _ _ _ _ _ => pts_nil)
          (fun _ _ _ _ _ => pe_op op_mul (pe_cal C1 hr (by rfl) (pa_cons (pv 0) (pa_cons (pv 1) pa_nil))) (pe_callBfun cr_fact (by rfl) M.fact (pa_cons (pv 1) pa_nil))))))), ?_⟩
    refine ⟨.int (n : Nat), rfl, (n : Nat), rfl, by omega, by omega, by show 1 ≤ sizeLine; decide, fun b hb => ?_⟩
    refine ⟨.int (n : Nat), rfl, (n : Nat), 1, rfl, rfl, 1, ((n : Nat) : Int) + 1, rfl, ⟨by decide, by decide, by omega, by omega⟩, fun D hD => ?_⟩
    have hDb : b ≠ D := ne_of_none upd_same hD
    refine lc_range (lo := 1) (n := (((n : Nat) : Int) + 1 - 1).toNat) (fun i H' => Same H H' ∧ H' b = some (.lst [.int 0]) ∧ H' D = some (.lst (vI ((List.range i).map fun i => ringCount n (i + 1))))) ⟨(same_upd hb).trans (same_upd hD), by rw [upd_ne hDb, upd_same], upd_same⟩
      (fun i H' hi ⟨e1, e2, e3⟩ => ?_) (fun H' ⟨e1, e2, e3⟩ => ?_)
    · have hin : i < n := by omega
      have hfree : H D = none := (same_upd hb).free hD
      refine ⟨rfl, kept ⟨.int (n : Nat), rfl, .int (1 + (i : Nat)), rfl, n, i + 1, ?_, h10, hin, .int (1 + (i : Nat)), rfl, i + 1, ?_, by omega, _, (fact (i + 1) : Nat), rfl, rfl, .inr ⟨by omega, ?_⟩, _, e3, ?_, fun b' o e => ?_, ?_, ?_⟩⟩
      · rw [show (1 : Int) + ((i : Nat) : Int) = ((i + 1 : Nat) : Int) by omega]
        rfl
      · rw [show (1 : Int) + ((i : Nat) : Int) = ((i + 1 : Nat) : Int) by omega]
      · have := fact_lt (n := i + 1) (by omega)
        omega
      · rw [vI_len, List.length_map, List.length_range]
        exact fewlt (by omega)
      · rw [upd_ne (ne_of_none e hfree)]
        exact e1 _ _ e
      · rw [upd_ne hDb]
        exact e2
      · rw [upd_same, List.range_succ, List.map_append, vI_app]
        show _ = some (HO.lst (_ ++ [V.int ((ringCount n (i + 1) : Nat) : Int)]))
        unfold ringCount
        rw [Int.natCast_mul (binom n (i + 1) * _)]
    · refine ⟨b, D, [.int 0], _, rfl, rfl, e2, e3, ?_, fun p hp => ?_⟩
      · rw [vI_len, List.length_map, List.length_range]
        exact few (by show 1 + _ ≤ _; omega)
      · refine q _ p (e1.trans (same_upd hp)) ?_
        rw [upd_same, show (((n : Nat) : Int) + 1 - 1).toNat = n by omega]
        rfl
/-! ### _law_on_rings -/
abbrev sLOnRings : Stmt := topS 41
theorem scLOnRings : FnScope ["_law_chart_here", "_law_there", "_law_turn", "_law_x"] ["_law_chart_here"] (defScope sLOnRings) := ⟨rfl, rfl, rfl, by decide +kernel, rfl, by decide +kernel, by decide +kernel⟩
def spLOnRings (K : PySem.W.Frag) : Sp := fun vs H Q _ => ∃ (a : Addr) (c : List Nat), vs = [.ref a] ∧ SqT K H a (vI c) ∧ c.length ≤ 10 ∧ Ent c c.length ∧ ∀ H' p, Same H H' → H' p = some (.lst (vI (img c.length (stepL c c.length (c.length + 1))))) → Q (.ref p) H'
theorem ok_lOnRings {f : Addr} {fd : FuncData} {k : Nat} (F : Fun K "_law_on_rings" "_law_on_rings" sLOnRings f fd) (M : Mg mg) : FnOk P w K mg base CX0 (k + 1) f fd ["_law_chart_here"] (spLOnRings K) := by
  refine F.ok scLOnRings (fun vs H Q E h => ?_) (fun cdv A outer s H vs Q E hr h => ?_)
  · obtain ⟨a, c, rfl, _⟩ := h
    rfl
  · obtain ⟨a, c, rfl, hS, hlen, hc, q⟩ := h
    refine ⟨_, pss_cons (ps_set (i := 1) scLOnRings.nd rfl (.inl rfl) (pe_callB (cr_sortedSet rfl) (by rfl) M.sorted (by decide +kernel) (pa_cons (pe_callTy (cr_setT rfl) (by rfl) M.set (by decide +kernel) (pa_cons (pv 0) pa_nil)) pa_nil)))
      (pss_cons (ps_for PassesOwn.never rfl (pi_tup (pv 0)) (pg_name (i := 2) scLOnRings.nd rfl (Or.inl rfl))
        (pss_one (ps_set (i := 1) scLOnRings.nd rfl (.inl rfl) (pe_callB (cr_sortedSet rfl) (by rfl) M.sorted (by decide +kernel) (pa_cons (pe_callTy (cr_setL rfl) (by rfl) M.set (by decide +kernel) (pa_cons
          (pe_lc (own := [("_law_x", 3)]) (g := gName 3) (tt := tYes) rfl scLOnRings.nd (pi_list (pv 1)) (blkOk_by (N := ["_law_chart_here", "_law_there", "_law_turn", "_law_x"]) (sc := defScope sLOnRings) (by decide +kernel))
            (fun _ _ _ _ _ => pg_name (i := 3) scLOnRings.nd rfl (Or.inl rfl)) (fun _ _ _ _ _ => pts_nil)
            (fun _ _ _ _ _ => pe_ix (ix_tupK (K := K) rfl) (pv 0) (pv 3) (fun _ _ => rfl))) pa_nil)) pa_nil)))))
      (pss_one (ps_ret (pv 1)))), ?_⟩
    have hSi : SqT K H a ((c.map fun (x : Nat) => (x : Int)).map V.int) := by rw [← vI_ints]; exact hS
    refine ⟨.ref a, rfl, a, _, rfl, hSi, by rw [List.length_map]; omega, fun b cn hcn hb => ?_⟩
    rw [List.length_map] at hcn
    refine ⟨b, _, cn, rfl, upd_same, by omega, fun ns l h1 h2 h3 hl => ?_⟩
    have e : ns = (img c.length c).map fun (x : Nat) => (x : Int) := img_is hc h1 fun z => by rw [h2, decide_eq_true_eq]
    subst e
    have s0 : Same H (upd (upd H b (SetO w b (fun j => decide (j ∈ c.map fun (x : Nat) => (x : Int))) cn)) l (.lst (((img c.length c).map fun (x : Nat) => (x : Int)).map V.int))) := (same_upd hb).trans (same_upd hl)
    refine ⟨.ref a, rfl, a, rfl, ⟨_, seqT s0 hS⟩, for_tup (K := K) (a := a) (xs := vI c) (fun i σ H' => ∃ (p : Addr) (y z : Option V), σ = [some (.ref a), some (.ref p), y, z] ∧ Same H H' ∧ H' p = some (.lst (vI (img c.length (stepL c c.length (i + 1)))))) ⟨l, none, none, rfl, s0, ?_⟩ (fun i σ H' hi ⟨p, y, z, e1, e2, e3⟩ => seqT e2 hS) ?_ ?_⟩
    · rw [upd_same, stepL_one rfl, vI_ints]
    · rintro i x σ H' hx ⟨p, y, z, rfl, e2, e3⟩
      have hi : i < c.length := by
        have := (List.getElem?_eq_some_iff.mp hx).1
        rwa [vI_len] at this
      generalize hg : img c.length (stepL c c.length (i + 1)) = g at e3
      have hgl : g.length ≤ 10 := by
        have := img_len c.length (stepL c c.length (i + 1))
        rw [hg] at this
        omega
      have hgm : ∀ x ∈ g, x < c.length := fun x hx => by
        rw [← hg] at hx
        exact img_lt hx
      refine ⟨.ref p, rfl, p, rfl, ⟨_, ofL e3⟩, fun D hD => ?_⟩
      refine lc_list (K := K) (a := p) (xs := vI g) (fun j H2 => Same H' H2 ∧ H2 D = some (.lst (vI ((g.map fun x => c.getD x 0).take j)))) ⟨same_upd hD, upd_same⟩
        (fun j H2 hj ⟨k1, k2⟩ => Same.seq k1 (ofL e3)) (fun j x H2 hx2 ⟨k1, k2⟩ => ?_) (fun H2 ⟨k1, k2⟩ => ?_)
      · have hj : j < g.length := by
          have := (List.getElem?_eq_some_iff.mp hx2).1
          rwa [vI_len] at this
        obtain rfl : V.int (g[j] : Nat) = x := by
          rw [vI_at hj] at hx2
          exact Option.some.inj hx2
        refine ⟨rfl, kept ⟨.ref a, rfl, .int (g[j] : Nat), rfl, a, vI c, (g[j] : Nat), .int (c.getD g[j] 0 : Nat), rfl, rfl, seqT k1 (seqT e2 hS), atI_nat (vI_D (hgm _ (List.getElem_mem hj))), _, k2, ?_, fun b' o e => ?_, ?_⟩⟩
        · rw [vI_len, List.length_take, List.length_map]
          exact fewlt (by omega)
        · rw [upd_ne (ne_of_none e hD)]
          exact k1 _ _ e
        · rw [upd_same, List.take_add_one, vI_app, List.getElem?_map, List.getElem?_eq_getElem hj]
          rfl
      · rw [vI_len, List.take_of_length_le (by rw [List.length_map]; exact Nat.le_refl _)] at k2
        have k3 := k2
        rw [vI_ints] at k3
        refine ⟨D, _, rfl, ofL k3, by rw [List.length_map, List.length_map]; omega, fun b2 cn2 hcn2 hb2 => ?_⟩
        rw [List.length_map, List.length_map] at hcn2
        refine ⟨b2, _, cn2, rfl, upd_same, by omega, fun ns2 l2 j1 j2 j3 hl2 => ?_⟩
        have en : ns2 = (img c.length (g.map fun x => c.getD x 0)).map fun (x : Nat) => (x : Int) := img_is (fun y hy => by
          obtain ⟨z, hz, rfl⟩ := List.mem_map.mp hy
          exact getD_lt hc (hgm z hz)) j1 fun z => by rw [j2, decide_eq_true_eq]
        subst en
        refine ⟨l2, _, _, rfl, e2.trans (k1.trans ((same_upd hb2).trans (same_upd hl2))), ?_⟩
        rw [upd_same, ← vI_ints, ← hg, img_next hc rfl]
    · rintro σ H' ⟨p, y, z, rfl, e2, e3⟩
      exact ⟨_, rfl, q H' p e2 (by rw [e3, vI_len])⟩
end
end Ev
namespace Ev
open PySem PySem.Spec PyProof.Rows L2
/-! ### the draws -/
def m61 : Int := 2305843009213693951
/-- the source at p, drawn from t times at most -/
def SrcAt (B : Int) (H : Hp) (p : Addr) : Prop := ∃ d m t : Int, H p = some (.lst [.int d, .int m, .int t]) ∧ 0 ≤ d ∧ 0 ≤ m ∧ m < m61 ∧ 0 ≤ t ∧ t ≤ B
def But (p : Addr) (H H' : Hp) : Prop := ∀ b o, b ≠ p → H b = some o → H' b = some o
theorem But.refl (p : Addr) (H : Hp) : But p H H := fun _ _ _ e => e
theorem But.trans {p : Addr} {H H1 H2 : Hp} (a : But p H H1) (b : But p H1 H2) : But p H H2 := fun c o h e => b c o h (a c o h e)
theorem But.of {p : Addr} {H H' : Hp} (a : Same H H') : But p H H' := fun c o _ e => a c o e
theorem But.upd {p : Addr} {H : Hp} {o : HO} : But p H (L2.upd H p o) := fun b x hb e => by rw [upd_ne hb]; exact e
theorem But.seqT {K : PySem.W.Frag} {p : Addr} {H H' : Hp} {xs ys : List V} {a : Addr} (e : But p H H') (hp : H p = some (.lst ys)) (h : SqT K H a xs) : SqT K H' a xs := by
  rcases h with (h | ⟨o, h⟩) | h
  · exact .inl (.inl (e _ _ (ne_of h hp (by intro z; cases z)) h))
  · exact .inl (.inr ⟨o, e _ _ (ne_of h hp (by intro z; cases z)) h⟩)
  · exact .inr h
theorem SrcAt.mono {B C : Int} {H : Hp} {p : Addr} (h : SrcAt B H p) (hb : B ≤ C) : SrcAt C H p := by
  obtain ⟨d, m, t, h1, h2, h3, h4, h5, h6⟩ := h
  exact ⟨d, m, t, h1, h2, h3, h4, h5, by omega⟩
section
variable {P : Program} {w : World} {K : PySem.W.Frag} {mg : Str → Option Value} {base : Heap}
abbrev sSource : Stmt := topS 34
theorem scSource : FnScope ["_law_cell", "_law_digits"] ["_law_cell"] (defScope sSource) := ⟨rfl, rfl, rfl, by decide +kernel, rfl, by decide +kernel, by decide +kernel⟩
def spSource : Sp := fun vs H Q _ => ∃ z : Int, vs = [.int z] ∧ ∀ H' p, Same H H' → H p = none → SrcAt 0 H' p → Q (.ref p) H'
theorem ok_source {f : Addr} {fd : FuncData} {k : Nat} (F : Fun K "_law_source" "_law_source" sSource f fd) (M : Mg mg) : FnOk P w K mg base CX0 (k + 1) f fd ["_law_cell"] spSource := by
  refine F.ok scSource (fun vs H Q E h => ?_) (fun cdv A outer s H vs Q E hr h => ?_)
  · obtain ⟨z, rfl, _⟩ := h
    rfl
  · obtain ⟨z, rfl, q⟩ := h
    refine ⟨_, pss_cons (ps_set (i := 1) scSource.nd rfl (.inl rfl) (pe_ifExp (pt_cmpR op_ge (pv 0) (pe_op op_pow pe_int pe_int) (nomark _)) (pe_op op_sub (pv 0) (pe_op op_pow pe_int pe_int)) pe_int))
      (pss_one (ps_ret (pe_lst (pa_cons (pv 1) (pa_cons (pe_op op_mod (pe_callTy call_int1 (by rfl) M.int (by decide +kernel) (pa_cons (pv 0) pa_nil)) pe_int) (pa_cons pe_int pa_nil)))))), ?_⟩
    have tail : ∀ d : Int, 0 ≤ d → tLst (tCons (tVar 1) (tCons (tOp (rI (fun _ j => 0 < j) fun i j => .int (i % j)) (tCB (fun xs H Q => (∃ i, xs = [.int i] ∧ Q (.int i) H) ∨ ∃ k, xs = [.bl k] ∧ Q (.int (if k then 1 else 0)) H) (tCons (tVar 0) tNil)) (tC (.int 2305843009213693951))) (tCons (tC (.int 0)) tNil)))
        [some (.int z), some (.int d)] H Q := by
      intro d hd
      refine ⟨.int d, rfl, .int z, rfl, .inl ⟨z, rfl, z, 2305843009213693951, rfl, rfl, (by show (0 : Int) < 2305843009213693951; decide), by show 3 ≤ sizeLine; decide, fun p hp => ?_⟩⟩
      refine q _ p (same_upd hp) hp ⟨d, z % 2305843009213693951, 0, upd_same, hd, Int.emod_nonneg _ (by decide), Int.emod_lt_of_pos _ (by decide), Int.le_refl _, Int.le_refl _⟩
    refine ⟨.int z, rfl, 10, 18, rfl, rfl, ⟨by decide, by decide, by decide⟩, z, (10 : Int) ^ 18, rfl, rfl, _, rfl, ite2 (fun h => ?_) (fun h => ?_)⟩
    · have h' : (10 : Int) ^ 18 ≤ z := of_decide_eq_true h
      refine ⟨.int z, rfl, 10, 18, rfl, rfl, ⟨by decide, by decide, by decide⟩, z, (10 : Int) ^ 18, rfl, rfl, ?_⟩
      exact tail (z - (10 : Int) ^ 18) (by omega)
    · exact tail 0 (Int.le_refl _)
def mix1 (m u : Int) : Int := (m * (2 * u + 31) + 7919 * u * u + 17) % 2305843009213693951
def mix2 (x u : Int) : Int := (x * x + 104729 * x + u) % 2305843009213693951 / 1021
theorem mix1_in (m u : Int) : 0 ≤ mix1 m u ∧ mix1 m u < 2305843009213693951 := ⟨Int.emod_nonneg _ (by decide), Int.emod_lt_of_pos _ (by decide)⟩
theorem mix2_in (x u : Int) : 0 ≤ mix2 x u ∧ mix2 x u < 2305843009213693951 := by
  unfold mix2
  have h1 := Int.emod_nonneg (x * x + 104729 * x + u) (show (2305843009213693951 : Int) ≠ 0 by decide)
  have h2 := Int.emod_lt_of_pos (x * x + 104729 * x + u) (show (0 : Int) < 2305843009213693951 by decide)
  omega
abbrev sDraw : Stmt := topS 35
theorem scDraw : FnScope ["_law_source_here", "_law_many", "_law_rest", "_law_found", "_law_turn", "_law_mixed"] ["_law_source_here", "_law_many"] (defScope sDraw) := ⟨rfl, rfl, rfl, by decide +kernel, rfl, by decide +kernel, by decide +kernel⟩
def spDraw : Sp := fun vs H Q _ => ∃ (p : Addr) (n B : Int), vs = [.ref p, .int n] ∧ SrcAt B H p ∧ 1 ≤ n ∧ n ≤ 1000 ∧ B ≤ 1000000 ∧ ∀ H' (v : Int), But p H H' → SrcAt (B + 1) H' p → 0 ≤ v → v < n → Q (.int v) H'
theorem ok_draw {f : Addr} {fd : FuncData} {k : Nat} (F : Fun K "_law_draw" "_law_draw" sDraw f fd) (M : Mg mg) : FnOk P w K mg base CX0 (k + 1) f fd ["_law_source_here", "_law_many"] spDraw := by
  refine F.ok scDraw (fun vs H Q E h => ?_) (fun cdv A outer s H vs Q E hr h => ?_)
  · obtain ⟨p, n, B, rfl, _⟩ := h
    rfl
  · obtain ⟨p, n, B, rfl, ⟨d, m, t, hp, h1, h2, h3, h4, h5⟩, hn1, hn2, hB, q⟩ := h
    refine ⟨_, C8.pss_cut (ps_if (PW.pt (pw_and (pt_cmpR op_gt (pe_ix ix_list (pv 0) pe_int (fun _ _ => rfl)) pe_int (nomark _)) (pw_and1 (pt_cmpR op_gt (pv 1) pe_int (nomark _)))))
        (pss_cons (ps_set (i := 2) scDraw.nd rfl (.inl rfl) (pe_op op_fdiv (pe_ix ix_list (pv 0) pe_int (fun _ _ => rfl)) (pv 1)))
        (pss_cons (ps_set (i := 3) scDraw.nd rfl (.inl rfl) (pe_op op_sub (pe_ix ix_list (pv 0) pe_int (fun _ _ => rfl)) (pe_op op_mul (pv 2) (pv 1))))
        (pss_cons (ps_asg (pv 2) (pg_sub (pv 0) pe_int set_list)) (pss_one (ps_ret (pv 3)))))) pss_nil)
      (pss_cons (ps_asg (pe_op op_add (pe_ix ix_list (pv 0) pe_int (fun _ _ => rfl)) pe_int) (pg_sub (pv 0) pe_int set_list))
      (pss_cons (ps_set (i := 4) scDraw.nd rfl (.inl rfl) (pe_ix ix_list (pv 0) pe_int (fun _ _ => rfl)))
      (pss_cons (ps_set (i := 5) scDraw.nd rfl (.inl rfl) (pe_op op_mod (pe_callTy call_int1 (by rfl) M.int (by decide +kernel) (pa_cons (pe_op op_add (pe_op op_add
          (pe_op op_mul (pe_ix ix_list (pv 0) pe_int (fun _ _ => rfl)) (pe_op op_add (pe_op op_mul pe_int (pv 4)) pe_int)) (pe_op op_mul (pe_op op_mul pe_int (pv 4)) (pv 4))) pe_int) pa_nil)) pe_int))
      (pss_cons (ps_set (i := 5) scDraw.nd rfl (.inl rfl) (pe_op op_fdiv (pe_op op_mod (pe_callTy call_int1 (by rfl) M.int (by decide +kernel) (pa_cons (pe_op op_add (pe_op op_add (pe_op op_mul (pv 5) (pv 5)) (pe_op op_mul pe_int (pv 5))) (pv 4)) pa_nil)) pe_int) pe_int))
      (pss_cons (ps_set (i := 5) scDraw.nd rfl (.inl rfl) (pe_op op_fdiv (pe_op op_mod (pe_callTy call_int1 (by rfl) M.int (by decide +kernel) (pa_cons (pe_op op_add (pe_op op_mul (pv 5) (pv 5)) (pe_op op_mul pe_int (pv 4))) pa_nil)) pe_int) pe_int))
      (pss_one (ps_ret (pe_op op_mod (pe_callTy call_int1 (by rfl) M.int (by decide +kernel) (pa_cons (pv 5) pa_nil)) (pv 1))))))))), ?_⟩
    have i0 : ∀ a b c : Int, atI [V.int a, V.int b, V.int c] 0 = some (.int a) := fun _ _ _ => atI_nat (j := 0) rfl
    have i1 : ∀ a b c : Int, atI [V.int a, V.int b, V.int c] 1 = some (.int b) := fun _ _ _ => atI_nat (j := 1) rfl
    have i2 : ∀ a b c : Int, atI [V.int a, V.int b, V.int c] 2 = some (.int c) := fun _ _ _ => atI_nat (j := 2) rfl
    refine ⟨fun σ' H' => σ' = [some (.ref p), some (.int n), none, none, none, none] ∧ H' = H, ?_, ?_⟩
    refine ⟨.ref p, rfl, p, _, 0, .int d, rfl, rfl, ofL hp, i0 _ _ _, d, 0, rfl, rfl, _, rfl, ite2 (fun hd => ?_) (fun hd => ?_)⟩
    · refine ⟨.int n, rfl, n, 0 + 1, rfl, rfl, _, rfl, ite2 (fun hn => ?_) (fun hn => ?_)⟩
      · have hd' : 0 < d := of_decide_eq_true hd
        refine ⟨.ref p, rfl, p, _, 0, .int d, rfl, rfl, ofL hp, i0 _ _ _, .int n, rfl, d, n, rfl, rfl, ⟨by omega, by omega⟩, ?_⟩
        refine ⟨.ref p, rfl, p, _, 0, .int d, rfl, rfl, ofL hp, i0 _ _ _, .int (d / n), rfl, .int n, rfl, d / n, n, rfl, rfl, .inr ⟨by omega, by omega⟩, d, d / n * n, rfl, rfl, ?_⟩
        refine ⟨.int (d / n), rfl, .ref p, rfl, p, _, 0, 0, rfl, rfl, hp, rfl, ?_⟩
        refine ⟨.int (d - d / n * n), rfl, ?_⟩
        have e : d - d / n * n = d % n := by
          have := Int.mul_ediv_add_emod d n
          rw [Int.mul_comm] at this
          omega
        rw [e]
        refine q _ _ But.upd ⟨d / n, m, t, upd_same, Int.ediv_nonneg h1 (by omega), h2, h3, h4, by omega⟩ (Int.emod_nonneg _ (by omega)) (Int.emod_lt_of_pos _ (by omega))
      · exact ⟨rfl, rfl⟩
    · exact ⟨rfl, rfl⟩
    -- the mixed numbers
    rintro σ' H' ⟨rfl, rfl⟩
    refine ⟨.ref p, rfl, p, _, 2, .int t, rfl, rfl, ofL hp, i2 _ _ _, t, 1, rfl, rfl, .ref p, rfl, p, _, 2, 2, rfl, rfl, hp, rfl, ?_⟩
    have hq : upd H' p (.lst [.int d, .int m, .int (t + 1)]) p = some (.lst [.int d, .int m, .int (t + 1)]) := upd_same
    refine ⟨.ref p, rfl, p, [.int d, .int m, .int (t + 1)], 2, .int (t + 1), rfl, rfl, ofL hq, i2 _ _ _, ?_⟩
    have h3' : m < 2305843009213693951 := h3
    obtain ⟨x0, x1⟩ := mix1_in m (t + 1)
    obtain ⟨y0, y1⟩ := mix2_in (mix1 m (t + 1)) (t + 1)
    refine ⟨.ref p, rfl, p, [.int d, .int m, .int (t + 1)], 1, .int m, rfl, rfl, ofL hq, i1 _ _ _, .int (t + 1), rfl, 2, t + 1, rfl, rfl, .inl ⟨by decide, by decide⟩, 2 * (t + 1), 31, rfl, rfl, m, 2 * (t + 1) + 31, rfl, rfl, .inl ⟨by omega, by omega⟩,
      .int (t + 1), rfl, 7919, t + 1, rfl, rfl, .inl ⟨by decide, by decide⟩, .int (t + 1), rfl, 7919 * (t + 1), t + 1, rfl, rfl, .inr ⟨by omega, by omega⟩, m * (2 * (t + 1) + 31), 7919 * (t + 1) * (t + 1), rfl, rfl, m * (2 * (t + 1) + 31) + 7919 * (t + 1) * (t + 1), 17, rfl, rfl,
      .inl ⟨_, rfl, _, 2305843009213693951, rfl, rfl, (by show (0 : Int) < 2305843009213693951; decide), ?_⟩⟩
    refine ⟨.int (mix1 m (t + 1)), rfl, .int (mix1 m (t + 1)), rfl, mix1 m (t + 1), mix1 m (t + 1), rfl, rfl, .inl ⟨by omega, by omega⟩, .int (mix1 m (t + 1)), rfl, 104729, mix1 m (t + 1), rfl, rfl, .inl ⟨by decide, by decide⟩, _, _, rfl, rfl, .int (t + 1), rfl, _, t + 1, rfl, rfl,
      .inl ⟨_, rfl, _, 2305843009213693951, rfl, rfl, (by show (0 : Int) < 2305843009213693951; decide), _, 1021, rfl, rfl, ⟨by decide, by decide⟩, ?_⟩⟩
    refine ⟨.int (mix2 (mix1 m (t + 1)) (t + 1)), rfl, .int (mix2 (mix1 m (t + 1)) (t + 1)), rfl, mix2 (mix1 m (t + 1)) (t + 1), mix2 (mix1 m (t + 1)) (t + 1), rfl, rfl, .inl ⟨by omega, by omega⟩, .int (t + 1), rfl, 611953, t + 1, rfl, rfl, .inl ⟨by decide, by decide⟩, _, _, rfl, rfl,
      .inl ⟨_, rfl, _, 1152921504606846883, rfl, rfl, (by show (0 : Int) < 1152921504606846883; decide), _, 4099, rfl, rfl, ⟨by decide, by decide⟩, ?_⟩⟩
    refine ⟨_, rfl, .inl ⟨_, rfl, .int n, rfl, _, n, rfl, rfl, (by show (0 : Int) < n; omega), ?_⟩⟩
    exact q _ _ But.upd ⟨d, m, t + 1, hq, h1, h2, h3, by omega, by omega⟩ (Int.emod_nonneg _ (by omega)) (Int.emod_lt_of_pos _ (by omega))
end
end Ev
namespace Ev
open PySem PySem.Spec PyProof.Rows L2
theorem SrcAt.upd {B : Int} {H : Hp} {p a : Addr} {o : HO} (h : SrcAt B H p) (ne : p ≠ a) : SrcAt B (L2.upd H a o) p := by
  obtain ⟨d, m, t, h1, h2⟩ := h
  exact ⟨d, m, t, by rw [upd_ne ne]; exact h1, h2⟩
theorem SrcAt.same {B : Int} {H H' : Hp} {p : Addr} (h : SrcAt B H p) (e : Same H H') : SrcAt B H' p := by
  obtain ⟨d, m, t, h1, h2⟩ := h
  exact ⟨d, m, t, e _ _ h1, h2⟩
theorem SrcAt.ne {B : Int} {H : Hp} {p a : Addr} (h : SrcAt B H p) (ha : H a = none) : p ≠ a := by
  obtain ⟨d, m, t, h1, h2⟩ := h
  exact ne_of_none h1 ha
theorem SrcAt.is {B : Int} {H : Hp} {p : Addr} (h : SrcAt B H p) : ∃ ys, H p = some (.lst ys) := by
  obtain ⟨d, m, t, h1, h2⟩ := h
  exact ⟨_, h1⟩
theorem But.free {p r : Addr} {H H' : Hp} (b : But p H H') (ne : r ≠ p) (h : H' r = none) : H r = none := by
  cases e : H r with
  | none => rfl
  | some o =>
    rw [b _ _ ne e] at h
    cases h
theorem erase_map {α β : Type} (g : α → β) : ∀ (l : List α) (i : Nat), (l.map g).eraseIdx i = (l.eraseIdx i).map g
  | [], _ => rfl
  | _ :: _, 0 => rfl
  | a :: l, i + 1 => by
    show g a :: (l.map g).eraseIdx i = g a :: (l.eraseIdx i).map g
    rw [erase_map g l i]
theorem seq_at {n : Nat} {i : Int} (h0 : 0 ≤ i) (h1 : i < n) : seqIndex? i n = some i.toNat := by
  refine (ixN_seq ?_).1
  unfold ixN
  rw [if_pos h0, if_pos h1]
theorem ix_at {n : Nat} {i : Int} (h0 : 0 ≤ i) (h1 : i < n) : ixN n i = some i.toNat := by
  unfold ixN
  rw [if_pos h0, if_pos h1]
section
variable {P : Program} {w : World} {K : PySem.W.Frag} {mg : Str → Option Value} {base : Heap}
abbrev sRow : Stmt := topS 36
theorem scRow : FnScope ["_law_source_here", "_law_many", "_law_left", "_law_row_here", "_law_step"] ["_law_source_here", "_law_many"] (defScope sRow) := ⟨rfl, rfl, rfl, by decide +kernel, rfl, by decide +kernel, by decide +kernel⟩
def spRow : Sp := fun vs H Q _ => ∃ (p : Addr) (n : Nat) (B : Int), vs = [.ref p, .int (n : Nat)] ∧ SrcAt B H p ∧ 1 ≤ n ∧ n ≤ 10 ∧ B ≤ 900000 ∧ ∀ H' r (l : List Nat), But p H H' → SrcAt (B + n) H' p → H r = none → H' r = some (.tup (vI l)) → l.length = n → (∀ x ∈ l, x < n) → Q (.ref r) H'
theorem ok_row {f : Addr} {fd : FuncData} {k : Nat} (F : Fun K "_law_row" "_law_row" sRow f fd) (M : Mg mg) (C1 : Cal P w K mg base "_law_draw" k ["_law_source_here", "_law_many"] spDraw) : FnOk P w K mg base CX0 (k + 1) f fd ["_law_source_here", "_law_many"] spRow := by
  refine F.ok scRow (fun vs H Q E h => ?_) (fun cdv A outer s H vs Q E hr h => ?_)
  · obtain ⟨p, n, B, rfl, _⟩ := h
    rfl
  · obtain ⟨p, n, B, rfl, hp, hn1, hn2, hB, q⟩ := h
    refine ⟨_, pss_cons (ps_set (i := 2) scRow.nd rfl (.inl rfl) (pe_listRg rfl (by rfl) M.list (prg_1 (by rfl) M.range (pv 1))))
      (pss_cons (ps_set (i := 3) scRow.nd rfl (.inl rfl) (pe_lst pa_nil))
      (pss_cons (ps_for PassesOwn.never rfl (pi_range1 (by rfl) M.range (pa_cons (pv 1) pa_nil)) (pg_name (i := 4) scRow.nd rfl (Or.inl rfl))
        (pss_one (ps_expr (pe_bm PySem.F.plainAttrs_list PySem.F.slot_list_append PySem.F.type_list_append mt_append (pv 3) (pa_cons
          (pe_bm PySem.F.plainAttrs_list PySem.F.slot_list_pop PySem.F.type_list_pop mt_popAt (pv 2) (pa_cons
            (pe_cal C1 hr (by rfl) (pa_cons (pv 0) (pa_cons (pe_callB call_len_seq (by rfl) M.len PySem.boot_len (pa_cons (pv 2) pa_nil)) pa_nil))) pa_nil)) pa_nil)))))
      (pss_one (ps_ret (pe_callTy call_tuple_of (by rfl) M.tuple (by decide +kernel) (pa_cons (pv 3) pa_nil)))))), ?_⟩
    have e0 : rgV 0 (n : Nat) = vI (List.range n) := by
      unfold rgV vI
      rw [show (((n : Nat) : Int) - 0).toNat = n by omega]
      refine List.map_congr_left fun i _ => ?_
      show V.int (0 + (i : Nat)) = V.int (i : Nat)
      rw [Int.zero_add]
    refine ⟨.int (n : Nat), rfl, n, rfl, .of_le (by decide) (by omega) (by decide) (by omega), fun a ha => ⟨Nat.zero_le _, fun b hb => ?_⟩⟩
    have nab : a ≠ b := ne_of_none upd_same hb
    have hbH : H b = none := (same_upd ha).free hb
    have npa : p ≠ a := hp.ne ha
    have npb : p ≠ b := hp.ne hbH
    refine ⟨.int (n : Nat), rfl, n, rfl, by omega, by omega, for_range (n := n) (fun i σ H' => ∃ (lf rw_ : List Nat) (y : Option V), σ = [some (.ref p), some (.int (n : Nat)), some (.ref a), some (.ref b), y] ∧ But p H H' ∧ SrcAt (B + i) H' p ∧
        H' a = some (.lst (vI lf)) ∧ H' b = some (.lst (vI rw_)) ∧ lf.length = n - i ∧ rw_.length = i ∧ (∀ x ∈ lf, x < n) ∧ (∀ x ∈ rw_, x < n)) ⟨List.range n, [], none, rfl, .of ((same_upd ha).trans (same_upd hb)), (hp.upd npa).upd npb |>.mono (by omega), ?_, upd_same, by simp, rfl, fun x hx => List.mem_range.mp hx, fun x hx => nomatch hx⟩ ?_ ?_⟩
    · rw [upd_ne nab, upd_same, e0]
    · rintro i σ H' hi ⟨lf, rw_, y, rfl, hb', hs, h1, h2, h3, h4, h5, h6⟩
      refine ⟨.ref b, rfl, .inl ⟨rfl, _, ofL h2⟩, .ref a, rfl, .inl ⟨rfl, _, ofL h1⟩, .ref p, rfl, .ref a, rfl, a, vI lf, rfl, .inl (ofL h1), p, ((vI lf).length : Nat), B + i, rfl, hs, by rw [vI_len]; omega, by rw [vI_len]; omega, by omega, fun H2 v b2 s2 v0 v1 => ?_⟩
      have g1 : H2 a = some (.lst (vI lf)) := b2 _ _ npa.symm h1
      have g2 : H2 b = some (.lst (vI rw_)) := b2 _ _ npb.symm h2
      have hv : v.toNat < lf.length := by
        rw [vI_len] at v1
        omega
      refine ⟨a, vI lf, v, v.toNat, .int (lf[v.toNat] : Nat), rfl, rfl, g1, by omega, by rw [vI_len] at v1; omega, seq_at v0 v1, vI_at hv, ?_⟩
      refine ⟨b, vI rw_, _, rfl, rfl, by rw [upd_ne nab.symm]; exact g2, by rw [vI_len]; exact fewlt (by omega), ?_⟩
      refine ⟨lf.eraseIdx v.toNat, rw_ ++ [lf[v.toNat]], some (.int (0 + (i : Nat))), rfl, fun c o hc e => ?_, ((s2.upd npa).upd npb).mono (by omega), ?_, ?_, ?_, ?_, fun x hx => h5 x (List.mem_of_mem_eraseIdx hx), fun x hx => ?_⟩
      · rw [upd_ne (ne_of_none e hbH), upd_ne (ne_of_none e ha)]
        exact b2 _ _ hc (hb' _ _ hc e)
      · rw [upd_ne nab, upd_same]
        unfold vI
        rw [erase_map]
      · rw [upd_same, vI_app]
        rfl
      · rw [List.length_eraseIdx, if_pos hv]
        omega
      · rw [List.length_append, h4]
        rfl
      · rcases List.mem_append.mp hx with hx | hx
        · exact h6 x hx
        · rw [List.mem_singleton.mp hx]
          exact h5 _ (List.getElem_mem hv)
    · rintro σ H' ⟨lf, rw_, y, rfl, hb', hs, h1, h2, h3, h4, h5, h6⟩
      refine ⟨.ref b, rfl, b, _, rfl, .inl ⟨ofL h2, fun r hr' => ?_⟩⟩
      refine q _ r rw_ (hb'.trans (.of (same_upd hr'))) (hs.upd (hs.ne hr')) (hb'.free (hs.ne hr').symm hr') upd_same h4 h6
/-! ### a chart is drawn -/
abbrev sSome : Stmt := topS 39
theorem scSome : FnScope ["_law_source_here", "_law_many", "_law_kind", "_law_share", "_law_row_here", "_law_found", "_law_k", "_law_following"] ["_law_source_here", "_law_many"] (defScope sSome) := ⟨rfl, rfl, rfl, by decide +kernel, rfl, by decide +kernel, by decide +kernel⟩
def spSome : Sp := fun vs H Q _ => ∃ (p : Addr) (n : Nat) (B : Int), vs = [.ref p, .int (n : Nat)] ∧ SrcAt B H p ∧ 1 ≤ n ∧ n ≤ 8 ∧ B ≤ 800000 ∧ ∀ H' r (c : List Nat), But p H H' → SrcAt (B + 100) H' p → H r = none → H' r = some (.tup (vI c)) → c.length = n → Ent c n → Q (.ref r) H'
/-- inside of the loop -/
structure ChI (H : Hp) (p rr ff : Addr) (rw_ fd : List Nat) (B : Int) (H' : Hp) : Prop where
  but : But p H H'
  src : SrcAt B H' p
  row : H' rr = some (.tup (vI rw_))
  fnd : H' ff = some (.lst (vI fd))
  ne : ff ≠ p
theorem ChI.next {H : Hp} {p rr ff : Addr} {rw_ fd : List Nat} {B C : Int} {H1 H2 : Hp} (h : ChI H p rr ff rw_ fd B H1) (b : But p H1 H2) (s : SrcAt (B + 1) H2 p) (hC : B + 1 ≤ C) : ChI H p rr ff rw_ fd C H2 := by
  obtain ⟨ys, h5⟩ := h.src.is
  exact ⟨h.but.trans b, s.mono hC, b _ _ (ne_of h.row h5 (by intro z; cases z)) h.row, b _ _ h.ne h.fnd, h.ne⟩
theorem ChI.mono {H : Hp} {p rr ff : Addr} {rw_ fd : List Nat} {B C : Int} {H1 : Hp} (h : ChI H p rr ff rw_ fd B H1) (hC : B ≤ C) : ChI H p rr ff rw_ fd C H1 := ⟨h.but, h.src.mono hC, h.row, h.fnd, h.ne⟩
theorem atI_i {l : List Nat} {v : Int} (h0 : 0 ≤ v) (h1 : v < l.length) : atI (vI l) v = some (.int (l.getD v.toNat 0 : Nat)) := by
  have e : v = ((v.toNat : Nat) : Int) := by omega
  rw [e]
  exact atI_nat (vI_D (by omega))
theorem getD_all {l : List Nat} {n i : Nat} (h : ∀ x ∈ l, x < n) (hi : i < l.length) : l.getD i 0 < n := by
  rw [List.getD_eq_getElem?_getD, List.getElem?_eq_getElem hi]
  exact h _ (List.getElem_mem hi)
theorem ok_some {f : Addr} {fd : FuncData} {k : Nat} (F : Fun K "_law_some_chart" "_law_some_chart" sSome f fd) (M : Mg mg) (C1 : Cal P w K mg base "_law_draw" k ["_law_source_here", "_law_many"] spDraw) (C2 : Cal P w K mg base "_law_row" k ["_law_source_here", "_law_many"] spRow) : FnOk P w K mg base CX0 (k + 1) f fd ["_law_source_here", "_law_many"] spSome := by
  refine F.ok scSome (fun vs H Q E h => ?_) (fun cdv A outer s H vs Q E hr h => ?_)
  · obtain ⟨p, n, B, rfl, _⟩ := h
    rfl
  · obtain ⟨p, n, B, rfl, hp, hn1, hn2, hB, q⟩ := h
    refine ⟨_, pss_cons (ps_set (i := 2) scSome.nd rfl (.inl rfl) (pe_cal C1 hr (by rfl) (pa_cons (pv 0) (pa_cons pe_int pa_nil))))
      (pss_cons (ps_set (i := 3) scSome.nd rfl (.inl rfl) (pe_op op_add pe_int (pe_cal C1 hr (by rfl) (pa_cons (pv 0) (pa_cons (pv 1) pa_nil)))))
      (pss_cons (ps_set (i := 4) scSome.nd rfl (.inl rfl) (pe_cal C2 hr (by rfl) (pa_cons (pv 0) (pa_cons (pv 1) pa_nil))))
      (pss_cons (ps_set (i := 5) scSome.nd rfl (.inl rfl) (pe_op op_rep (pe_lst (pa_cons pe_int pa_nil)) (pv 1)))
      (pss_cons (ps_for PassesOwn.never rfl (pi_range1 (by rfl) M.range (pa_cons (pv 1) pa_nil)) (pg_name (i := 6) scSome.nd rfl (Or.inl rfl))
        (pss_cons (ps_set (i := 7) scSome.nd rfl (.inl rfl) (pe_cal C1 hr (by rfl) (pa_cons (pv 0) (pa_cons (pv 1) pa_nil))))
        (C8.pss_cut (ps_if (pt_cmpR op_eq (pv 2) pe_int (nomark _)) (pss_one (ps_set (i := 7) scSome.nd rfl (.inl rfl) (pe_cal C1 hr (by rfl) (pa_cons (pv 0) (pa_cons (pv 3) pa_nil))))) pss_nil)
        (C8.pss_cut (ps_if (pt_cmpR op_eq (pv 2) pe_int (nomark _)) (pss_one (ps_set (i := 7) scSome.nd rfl (.inl rfl) (pe_callB (call_max2 rfl) (by rfl) M.max (by decide +kernel) (pa_cons pe_int (pa_cons
            (pe_op op_sub (pe_op op_sub (pv 6) pe_int) (pe_cal C1 hr (by rfl) (pa_cons (pv 0) (pa_cons pe_int pa_nil)))) pa_nil))))) pss_nil)
        (C8.pss_cut (ps_if (pt_cmpR op_eq (pv 2) pe_int (nomark _)) (pss_one (ps_set (i := 7) scSome.nd rfl (.inl rfl) (pe_ifExp (pt_cmpR op_lt (pv 6) (pv 3) (nomark _))
            (pe_op op_mod (pe_callTy call_int1 (by rfl) M.int (by decide +kernel) (pa_cons (pe_op op_add (pv 6) pe_int) pa_nil)) (pv 3)) (pe_cal C1 hr (by rfl) (pa_cons (pv 0) (pa_cons (pv 1) pa_nil)))))) pss_nil)
        (C8.pss_cut (ps_if (pt_cmpR op_eq (pv 2) pe_int (nomark _)) (pss_one (ps_set (i := 7) scSome.nd rfl (.inl rfl) (pe_cal C1 hr (by rfl) (pa_cons (pv 0) (pa_cons (pe_op op_add (pv 6) pe_int) pa_nil))))) pss_nil)
        (C8.pss_cut (ps_if (pt_cmpR op_eq (pv 2) pe_int (nomark _)) (pss_one (ps_set (i := 7) scSome.nd rfl (.inl rfl) (pe_ix ix_tup (pv 4) (pv 6) (fun _ _ => rfl)))) pss_nil)
        (C8.pss_cut (ps_if (pt_cmpR op_eq (pv 2) pe_int (nomark _)) (pss_one (ps_set (i := 7) scSome.nd rfl (.inl rfl) (pe_ifExp (pt_cmpR op_lt (pv 6) (pv 3) (nomark _)) (pv 6) (pe_cal C1 hr (by rfl) (pa_cons (pv 0) (pa_cons (pv 6) pa_nil)))))) pss_nil)
        (pss_one (ps_asg (pe_ix ix_tup (pv 4) (pv 7) (fun _ _ => rfl)) (pg_sub (pv 5) (pe_ix ix_tup (pv 4) (pv 6) (fun _ _ => rfl)) set_list)))))))))))
      (pss_one (ps_ret (pe_callTy call_tuple_of (by rfl) M.tuple (by decide +kernel) (pa_cons (pv 5) pa_nil)))))))), ?_⟩
    refine ⟨.ref p, rfl, p, 7, B, rfl, hp, by omega, by omega, by omega, fun H1 kd b1 s1 kd0 kd1 => ?_⟩
    refine ⟨.ref p, rfl, .int (n : Nat), rfl, p, n, B + 1, rfl, s1, by omega, by omega, by omega, fun H2 s0 b2 s2 s00 s01 => ?_⟩
    refine ⟨1, s0, rfl, rfl, ?_⟩
    obtain ⟨sh, hsh⟩ : ∃ sh : Int, 1 + s0 = sh := ⟨_, rfl⟩
    refine ⟨.ref p, rfl, .int (n : Nat), rfl, p, n, B + 1 + 1, rfl, s2, hn1, by omega, by omega, fun H3 rr rw_ b3 s3 nr3 h3 lr hr3 => ?_⟩
    refine ⟨by show 1 ≤ sizeLine; decide, fun l hl => ⟨.int (n : Nat), rfl, l, n, [.int 0], rfl, rfl, upd_same, by omega, by omega, few (by simp; omega), fun ff hff => ?_⟩⟩
    have efd : (List.replicate ((n : Nat) : Int).toNat [V.int 0]).flatten = vI (List.replicate n 0) := by
      rw [Int.toNat_natCast]
      unfold vI
      rw [List.map_replicate]
      exact List.flatten_replicate_singleton
    rw [efd]
    have s4 : Same H3 (L2.upd (L2.upd H3 l (.lst [.int 0])) ff (.lst (vI (List.replicate n 0)))) := (same_upd hl).trans (same_upd hff)
    have b03 : But p H H3 := (b1.trans b2).trans b3
    have hff3 : H3 ff = none := (same_upd hl).free hff
    have npf : p ≠ ff := s3.ne hff3
    have nff : H ff = none := b03.free npf.symm hff3
    refine ⟨.int (n : Nat), rfl, n, rfl, by omega, by omega, for_range (n := n) (fun i σ H' => ∃ (fd : List Nat) (y z : Option V), σ = [some (.ref p), some (.int (n : Nat)), some (.int kd), some (.int sh), some (.ref rr), some (.ref ff), y, z] ∧
      ChI H p rr ff rw_ fd (B + 20 + 8 * i) H' ∧ fd.length = n ∧ (∀ x ∈ fd, x < n)) ⟨List.replicate n 0, none, none, (by show [some (V.ref p), some (V.int (n : Nat)), some (V.int kd), some (V.int (1 + s0)), some (V.ref rr), some (V.ref ff), none, none] = _; rw [hsh]), ⟨b03.trans (.of s4), (s3.same s4).mono (by omega), s4 _ _ h3, upd_same, npf.symm⟩, List.length_replicate .., fun x hx => by rw [List.eq_of_mem_replicate hx]; omega⟩ ?_ ?_⟩
    · rintro i σ H' hi ⟨fd', y, z, rfl, c0, lf, hf⟩
      rw [Int.zero_add]
      refine ⟨.ref p, rfl, .int (n : Nat), rfl, p, n, _, rfl, c0.src, by omega, by omega, by omega, fun H4 v b4 s4' v0 v1 => ?_⟩
      have c1 := c0.next b4 s4' (C := B + 20 + 8 * i + 1) (by omega)
      -- kind 1
      refine ⟨fun σ' H' => ∃ v : Int, σ' = [some (.ref p), some (.int (n : Nat)), some (.int kd), some (.int sh), some (.ref rr), some (.ref ff), some (.int (i : Nat)), some (.int v)] ∧ ChI H p rr ff rw_ fd' (B + 20 + 8 * i + 2) H' ∧ 0 ≤ v ∧ v < n,
        ⟨.int kd, rfl, rfl, _, rfl, ite2 (fun _ => ⟨.ref p, rfl, .int sh, rfl, p, sh, _, rfl, c1.src, by omega, by omega, by omega, fun H5 v2 b5 s5 u0 u1 => ⟨v2, rfl, c1.next b5 s5 (by omega), u0, by omega⟩⟩) (fun _ => ⟨v, rfl, c1.mono (by omega), v0, v1⟩)⟩, ?_⟩
      clear c1 v0 v1
      rintro σ' H5 ⟨v, rfl, c1, v0, v1⟩
      -- kind 2
      refine ⟨fun σ' H' => ∃ v : Int, σ' = [some (.ref p), some (.int (n : Nat)), some (.int kd), some (.int sh), some (.ref rr), some (.ref ff), some (.int (i : Nat)), some (.int v)] ∧ ChI H p rr ff rw_ fd' (B + 20 + 8 * i + 3) H' ∧ 0 ≤ v ∧ v < n,
        ⟨.int kd, rfl, rfl, _, rfl, ite2 (fun _ => ⟨.int (i : Nat), rfl, (i : Nat), 1, rfl, rfl, .ref p, rfl, p, 2, _, rfl, c1.src, by omega, by omega, by omega, fun H6 v2 b6 s6 u0 u1 => ⟨_, v2, rfl, rfl, 0, _, rfl, ⟨_, rfl, c1.next b6 s6 (by omega), by split <;> omega, by split <;> omega⟩⟩⟩) (fun _ => ⟨v, rfl, c1.mono (by omega), v0, v1⟩)⟩, ?_⟩
      clear c1 v0 v1
      rintro σ' H6 ⟨v, rfl, c1, v0, v1⟩
      -- kind 3
      refine ⟨fun σ' H' => ∃ v : Int, σ' = [some (.ref p), some (.int (n : Nat)), some (.int kd), some (.int sh), some (.ref rr), some (.ref ff), some (.int (i : Nat)), some (.int v)] ∧ ChI H p rr ff rw_ fd' (B + 20 + 8 * i + 4) H' ∧ 0 ≤ v ∧ v < n,
        ⟨.int kd, rfl, rfl, _, rfl, ite2 (fun _ => ⟨.int (i : Nat), rfl, .int sh, rfl, (i : Nat), sh, rfl, rfl, _, rfl, ite2
          (fun _ => ⟨.int (i : Nat), rfl, (i : Nat), 1, rfl, rfl, .inl ⟨_, rfl, .int sh, rfl, _, sh, rfl, rfl, (by show (0 : Int) < sh; omega), ⟨_, rfl, c1.mono (by omega), Int.emod_nonneg _ (by omega), Int.lt_of_lt_of_le (Int.emod_lt_of_pos _ (by omega)) (by omega)⟩⟩⟩)
          (fun _ => ⟨.ref p, rfl, .int (n : Nat), rfl, p, n, _, rfl, c1.src, by omega, by omega, by omega, fun H7 v2 b7 s7 u0 u1 => ⟨v2, rfl, c1.next b7 s7 (by omega), u0, u1⟩⟩)⟩) (fun _ => ⟨v, rfl, c1.mono (by omega), v0, v1⟩)⟩, ?_⟩
      clear c1 v0 v1
      rintro σ' H7 ⟨v, rfl, c1, v0, v1⟩
      -- kind 4
      refine ⟨fun σ' H' => ∃ v : Int, σ' = [some (.ref p), some (.int (n : Nat)), some (.int kd), some (.int sh), some (.ref rr), some (.ref ff), some (.int (i : Nat)), some (.int v)] ∧ ChI H p rr ff rw_ fd' (B + 20 + 8 * i + 5) H' ∧ 0 ≤ v ∧ v < n,
        ⟨.int kd, rfl, rfl, _, rfl, ite2 (fun _ => ⟨.ref p, rfl, .int (i : Nat), rfl, (i : Nat), 1, rfl, rfl, p, (i : Nat) + 1, _, rfl, c1.src, by omega, by omega, by omega, fun H8 v2 b8 s8 u0 u1 => ⟨v2, rfl, c1.next b8 s8 (by omega), u0, by omega⟩⟩) (fun _ => ⟨v, rfl, c1.mono (by omega), v0, v1⟩)⟩, ?_⟩
      clear c1 v0 v1
      rintro σ' H8 ⟨v, rfl, c1, v0, v1⟩
      have hri := getD_all hr3 (show i < rw_.length by omega)
      -- kind 5
      refine ⟨fun σ' H' => ∃ v : Int, σ' = [some (.ref p), some (.int (n : Nat)), some (.int kd), some (.int sh), some (.ref rr), some (.ref ff), some (.int (i : Nat)), some (.int v)] ∧ ChI H p rr ff rw_ fd' (B + 20 + 8 * i + 6) H' ∧ 0 ≤ v ∧ v < n,
        ⟨.int kd, rfl, rfl, _, rfl, ite2 (fun _ => ⟨.ref rr, rfl, .int (i : Nat), rfl, rr, vI rw_, (i : Nat), .int (rw_.getD i 0 : Nat), rfl, rfl, ofT c1.row, atI_nat (vI_D (by omega)), ⟨_, rfl, c1.mono (by omega), by omega, by omega⟩⟩) (fun _ => ⟨v, rfl, c1.mono (by omega), v0, v1⟩)⟩, ?_⟩
      clear c1 v0 v1
      rintro σ' H9 ⟨v, rfl, c1, v0, v1⟩
      -- kind 6
      refine ⟨fun σ' H' => ∃ v : Int, σ' = [some (.ref p), some (.int (n : Nat)), some (.int kd), some (.int sh), some (.ref rr), some (.ref ff), some (.int (i : Nat)), some (.int v)] ∧ ChI H p rr ff rw_ fd' (B + 20 + 8 * i + 7) H' ∧ 0 ≤ v ∧ v < n,
        ⟨.int kd, rfl, rfl, _, rfl, ite2 (fun _ => ⟨.int (i : Nat), rfl, .int sh, rfl, (i : Nat), sh, rfl, rfl, _, rfl, ite2
          (fun _ => ⟨.int (i : Nat), rfl, ⟨_, rfl, c1.mono (by omega), by omega, by omega⟩⟩)
          (fun hge => by
            have hge' : ¬ (((i : Nat) : Int) < sh) := fun z => hge (decide_eq_true z)
            exact ⟨.ref p, rfl, .int (i : Nat), rfl, p, (i : Nat), _, rfl, c1.src, by omega, by omega, by omega, fun H7 v2 b7 s7 u0 u1 => ⟨v2, rfl, c1.next b7 s7 (by omega), u0, by omega⟩⟩)⟩) (fun _ => ⟨v, rfl, c1.mono (by omega), v0, v1⟩)⟩, ?_⟩
      clear c1 v0 v1
      rintro σ' HA ⟨v, rfl, c1, v0, v1⟩
      refine ⟨.ref rr, rfl, .int v, rfl, rr, vI rw_, v, _, rfl, rfl, ofT c1.row, atI_i v0 (by omega), .ref ff, rfl, .ref rr, rfl, .int (i : Nat), rfl, rr, vI rw_, (i : Nat), .int (rw_.getD i 0 : Nat), rfl, rfl, ofT c1.row, atI_nat (vI_D (by omega)), ff, vI fd', (rw_.getD i 0 : Nat), rw_.getD i 0, rfl, rfl, c1.fnd, ?_, ?_⟩
      · rw [vI_len, lf]
        exact ix_at (n := n) (by omega) (by omega)
      · refine ⟨fd'.set (rw_.getD i 0) (rw_.getD v.toNat 0), _, _, rfl, ⟨fun b o hb e => ?_, (c1.src.upd npf).mono (by omega), ?_, ?_, c1.ne⟩, by rw [List.length_set]; exact lf, fun x hx => ?_⟩
        · rw [upd_ne (ne_of_none e nff)]
          exact c1.but _ _ hb e
        · rw [upd_ne (ne_of c1.row c1.fnd (by intro z; cases z))]
          exact c1.row
        · rw [upd_same]
          unfold vI
          rw [List.map_set]
        · rcases List.mem_or_eq_of_mem_set hx with h | h
          · exact hf x h
          · rw [h]
            exact getD_all hr3 (by omega)
    · rintro σ H' ⟨fd', y, z, rfl, c0, lf, hf⟩
      refine ⟨.ref ff, rfl, ff, _, rfl, .inl ⟨ofL c0.fnd, fun r hr' => ?_⟩⟩
      have npr := c0.src.ne hr'
      exact q _ r fd' (c0.but.trans (.of (same_upd hr'))) ((c0.src.upd npr).mono (by omega)) (c0.but.free npr.symm hr') upd_same lf hf
/-! ### _law_chart -/
abbrev sLChart : Stmt := topS 40
theorem scLChart : FnScope ["_law_source_here", "_law_most"] ["_law_source_here", "_law_most"] (defScope sLChart) := ⟨rfl, rfl, rfl, by decide +kernel, rfl, by decide +kernel, by decide +kernel⟩
def spLChart : Sp := fun vs H Q _ => ∃ (p : Addr) (n : Nat) (B : Int), vs = [.ref p, .int (n : Nat)] ∧ SrcAt B H p ∧ 1 ≤ n ∧ n ≤ 8 ∧ B ≤ 700000 ∧ ∀ H' r (c : List Nat), But p H H' → SrcAt (B + 101) H' p → H r = none → H' r = some (.tup (vI c)) → 1 ≤ c.length → c.length ≤ n → Ent c c.length → Q (.ref r) H'
theorem ok_lChart {f : Addr} {fd : FuncData} {k : Nat} (F : Fun K "_law_chart" "_law_chart" sLChart f fd) (C1 : Cal P w K mg base "_law_draw" k ["_law_source_here", "_law_many"] spDraw) (C2 : Cal P w K mg base "_law_some_chart" k ["_law_source_here", "_law_many"] spSome) : FnOk P w K mg base CX0 (k + 1) f fd ["_law_source_here", "_law_most"] spLChart := by
  refine F.ok scLChart (fun vs H Q E h => ?_) (fun cdv A outer s H vs Q E hr h => ?_)
  · obtain ⟨p, n, B, rfl, _⟩ := h
    rfl
  · obtain ⟨p, n, B, rfl, hp, hn1, hn2, hB, q⟩ := h
    refine ⟨_, pss_one (ps_ret (pe_cal C2 hr (by rfl) (pa_cons (pv 0) (pa_cons (pe_op op_add pe_int (pe_cal C1 hr (by rfl) (pa_cons (pv 0) (pa_cons (pv 1) pa_nil)))) pa_nil)))), ?_⟩
    refine ⟨.ref p, rfl, .ref p, rfl, .int (n : Nat), rfl, p, n, B, rfl, hp, by omega, by omega, by omega, fun H1 v b1 s1 v0 v1 => ?_⟩
    refine ⟨1, v, rfl, rfl, p, (1 + v).toNat, B + 1, ?_, s1, by omega, by omega, by omega, fun H2 r c b2 s2 nr h2 lc hc => ?_⟩
    · show [V.ref p, V.int (1 + v)] = _
      rw [Int.toNat_of_nonneg (by omega)]
    · have nrp : p ≠ r := s1.ne nr
      exact q H2 r c (b1.trans b2) (s2.mono (by omega)) (b1.free nrp.symm nr) h2 (by omega) (by omega) (by rw [lc]; exact hc)
end
end Ev
namespace Ev
open PySem PySem.Spec PyProof.Rows L2
/-! ### rows of lists -/
structure Rws (H : Hp) (as : List Addr) (hs : List (List Nat)) : Prop where
  len : as.length = hs.length
  nd : as.Nodup
  at_ : ∀ (i : Nat) (a : Addr) (h : List Nat), as[i]? = some a → hs[i]? = some h → H a = some (.lst (vI h))
theorem Rws.is {H : Hp} {as : List Addr} {hs : List (List Nat)} (R : Rws H as hs) {a : Addr} (ha : a ∈ as) : ∃ h, H a = some (.lst (vI h)) := by
  obtain ⟨i, hi⟩ := List.getElem?_of_mem ha
  have hl := (List.getElem?_eq_some_iff.mp hi).1
  exact ⟨_, R.at_ i a _ hi (List.getElem?_eq_getElem (by rw [← R.len]; exact hl))⟩
theorem Rws.nil {H : Hp} : Rws H [] [] := ⟨rfl, List.nodup_nil, fun i a h e => by simp at e⟩
theorem Rws.keep {H H' : Hp} {as : List Addr} {hs : List (List Nat)} (R : Rws H as hs) (e : ∀ a ∈ as, ∀ o, H a = some o → H' a = some o) : Rws H' as hs :=
  ⟨R.len, R.nd, fun i a h e1 e2 => e a (List.mem_of_getElem? e1) _ (R.at_ i a h e1 e2)⟩
theorem Rws.same {H H' : Hp} {as : List Addr} {hs : List (List Nat)} (R : Rws H as hs) (e : Same H H') : Rws H' as hs := R.keep fun a _ o h => e a o h
theorem Rws.fresh {H : Hp} {as : List Addr} {hs : List (List Nat)} (R : Rws H as hs) {a : Addr} (h : H a = none) : a ∉ as := fun hm => by
  obtain ⟨x, e⟩ := R.is hm
  rw [h] at e
  cases e
theorem Rws.updO {H : Hp} {as : List Addr} {hs : List (List Nat)} (R : Rws H as hs) {a : Addr} {o : HO} (h : a ∉ as) : Rws (L2.upd H a o) as hs := R.keep fun b hb x e => by
  have : b ≠ a := fun z => h (by rw [← z]; exact hb)
  rw [upd_ne this]
  exact e
theorem Rws.snoc {H : Hp} {as : List Addr} {hs : List (List Nat)} (R : Rws H as hs) {a : Addr} {l : List Nat} (h : H a = none) : Rws (L2.upd H a (.lst (vI l))) (as ++ [a]) (hs ++ [l]) := by
  have hn := R.fresh h
  refine ⟨by rw [List.length_append, List.length_append, R.len]; rfl, List.nodup_append.mpr ⟨R.nd, by simp, fun x hx y hy => ?_⟩, fun i b x e1 e2 => ?_⟩
  · rw [List.mem_singleton.mp hy]
    exact fun z => hn (z ▸ hx)
  · by_cases hi : i < as.length
    · rw [List.getElem?_append_left hi] at e1
      rw [List.getElem?_append_left (by rw [← R.len]; exact hi)] at e2
      have : b ≠ a := fun z => hn (by rw [← z]; exact List.mem_of_getElem? e1)
      rw [upd_ne this]
      exact R.at_ i b x e1 e2
    · have hi2 : i = as.length := by
        have := (List.getElem?_eq_some_iff.mp e1).1
        rw [List.length_append, List.length_singleton] at this
        omega
      subst hi2
      rw [List.getElem?_concat_length] at e1
      rw [R.len, List.getElem?_concat_length] at e2
      cases e1
      cases e2
      exact upd_same
theorem Rws.set {H : Hp} {as : List Addr} {hs : List (List Nat)} (R : Rws H as hs) {a : Addr} {j : Nat} {l : List Nat} (h : as[j]? = some a) : Rws (L2.upd H a (.lst (vI l))) as (hs.set j l) := by
  have hj := (List.getElem?_eq_some_iff.mp h).1
  refine ⟨by rw [List.length_set]; exact R.len, R.nd, fun i b x e1 e2 => ?_⟩
  by_cases hi : i = j
  · subst hi
    rw [h] at e1
    cases e1
    rw [List.getElem?_set_self (by rw [← R.len]; exact hj)] at e2
    cases e2
    exact upd_same
  · rw [List.getElem?_set_ne (fun z => hi z.symm)] at e2
    have hne : b ≠ a := fun z => by
      subst z
      have h1 := List.getElem?_eq_some_iff.mp e1
      have h2 := List.getElem?_eq_some_iff.mp h
      exact hi ((List.getElem_inj R.nd).mp (h1.2.trans h2.2.symm))
    rw [upd_ne hne]
    exact R.at_ i b x e1 e2
theorem cut_one (l : List Nat) : cutV (vI l) (some 1) none = vI (l.drop 1) := by
  unfold cutV vI
  rw [show HT.sIx (l.map _).length 0 (some 1) = min 1 (l.map _).length from HT.sIx_nat (l.map _).length 0 1, HT.sIx_none, ← List.map_drop, ← List.map_take]
  congr 1
  rw [List.length_map]
  cases l with
  | nil => rfl
  | cons x r =>
    rw [show min 1 (x :: r).length = 1 by rw [List.length_cons]; omega]
    show List.take ((x :: r).length - 1) r = r
    rw [List.length_cons, Nat.add_sub_cancel]
    exact List.take_length
theorem inV_int (x : Nat) : ∀ l : List Nat, inV (.int (x : Nat)) (vI l) = decide (x ∈ l)
  | [] => rfl
  | y :: l => by
    have ih := inV_int x l
    unfold inV vI at ih ⊢
    rw [List.map_cons, List.any_cons, ih]
    show (eqV (.int (y : Nat)) (.int (x : Nat)) || decide (x ∈ l)) = decide (x ∈ y :: l)
    by_cases e : x = y
    · subst e
      simp [eqV]
    · have : eqV (.int (y : Nat)) (.int (x : Nat)) = false := by
        simp [eqV]
        omega
      rw [this, Bool.false_or]
      simp [e]
theorem flat_vI (l : List Nat) : (vI l).all flatV = true := by
  rw [List.all_eq_true]
  intro v hv
  obtain ⟨x, _, rfl⟩ := List.mem_map.mp hv
  rfl
theorem path_last {b : List Nat} {x l : Nat} (h : 1 ≤ l) : atI (vI (pathN b x l)) ((((vI (pathN b x l)).length : Nat) : Int) - 1) = some (.int (itr b (l - 1) x : Nat)) := by
  rw [vI_len, pathN_len, show ((l : Nat) : Int) - 1 = ((l - 1 : Nat) : Int) by omega]
  refine atI_nat ?_
  rw [vI_get, pathN_at (by omega)]
  rfl
theorem refs_at {as : List Addr} {j : Nat} {a : Addr} (h : as[j]? = some a) : (as.map V.ref)[j]? = some (.ref a) := by
  rw [List.getElem?_map, h]
  rfl
section
variable {P : Program} {w : World} {K : PySem.W.Frag} {mg : Str → Option Value} {base : Heap}
/-! ### _law_heaps -/
abbrev sLHeaps : Stmt := topS 43
theorem scLHeaps : FnScope ["_law_many", "_law_begun", "_law_x", "_law_open_steps", "_law_closed", "_law_ring", "_law_here"] ["_law_many", "_law_begun"] (defScope sLHeaps) := ⟨rfl, rfl, rfl, by decide +kernel, rfl, by decide +kernel, by decide +kernel⟩
def spLHeaps (K : PySem.W.Frag) : Sp := fun vs H Q _ => ∃ (n : Nat) (a : Addr) (b : List Nat), vs = [.int (n : Nat), .ref a] ∧ SqT K H a (vI b) ∧ b.length ≤ n ∧ n ≤ 10 ∧ Ent b n ∧
  ∀ H' p q as, Same H H' → H' p = some (.lst [.int (cl b n : Nat), .int (rg b n : Nat), .ref q]) → H' q = some (.lst (as.map V.ref)) → Rws H' as (heaps b n) → Q (.ref p) H'
theorem ok_lHeaps {f : Addr} {fd : FuncData} {k : Nat} (F : Fun K "_law_heaps" "_law_heaps" sLHeaps f fd) (M : Mg mg) : FnOk P w K mg base CX0 (k + 1) f fd ["_law_many", "_law_begun"] (spLHeaps K) := by
  refine F.ok scLHeaps (fun vs H Q E h => ?_) (fun cdv A outer s H vs Q E hr h => ?_)
  · obtain ⟨n, a, b, rfl, _⟩ := h
    rfl
  · obtain ⟨n, a, b, rfl, hS, hbn, hn, hb, q⟩ := h
    have nd := scLHeaps.nd
    refine ⟨_, pss_cons (ps_par3 (i := 3) (j := 4) (l := 5) rfl nd rfl rfl rfl (by decide) (by decide) (by decide) rfl rfl rfl (pa_cons (pe_lc (own := [("_law_x", 2)]) (g := gName 2) (tt := tYes) rfl nd (pi_range1 (by rfl) M.range (pa_cons (pe_op op_sub (pv 0) (pe_callB call_len_seq (by rfl) M.len PySem.boot_len (pa_cons (pv 1) (pa_nil)))) (pa_nil))) (blkOk_by (N := ["_law_many", "_law_begun", "_law_x", "_law_open_steps", "_law_closed", "_law_ring", "_law_here"]) (sc := defScope sLHeaps) (by decide +kernel)) (fun _ _ _ _ _ => pg_name (i := 2) nd rfl (Or.inl rfl)) (fun _ _ _ _ _ => pts_nil) (fun _ _ _ _ _ => pe_lst (pa_nil))) (pa_cons (pe_int) (pa_cons (pe_int) (pa_nil)))) (by rfl)) (pss_cons (ps_for PassesOwn.never rfl (pi_range1 (by rfl) M.range (pa_cons (pv 0) (pa_nil))) (pg_name (i := 2) nd rfl (Or.inl rfl)) (pss_cons (ps_set (i := 6) nd rfl (.inl rfl) (pe_lst (pa_cons (pv 2) (pa_nil)))) (C8.pss_cut (ps_while PassesOwn.never (PW.pt (pw_and (pt_cmpR op_lt (pe_ix ix_list (pv 6) (pe_op op_sub (pe_callB call_len_seq (by rfl) M.len PySem.boot_len (pa_cons (pv 6) (pa_nil))) (pe_int)) (fun _ _ => rfl)) (pe_callB call_len_seq (by rfl) M.len PySem.boot_len (pa_cons (pv 1) (pa_nil))) (nomark _)) (pw_and1 (pt_cmpR op_le (pe_callB call_len_seq (by rfl) M.len PySem.boot_len (pa_cons (pv 6) (pa_nil))) (pv 0) (nomark _))))) (pss_one (ps_expr (pe_bm PySem.F.plainAttrs_list PySem.F.slot_list_append PySem.F.type_list_append mt_append (pv 6) (pa_cons (pe_ix ix_tup (pv 1) (pe_ix ix_list (pv 6) (pe_op op_sub (pe_callB call_len_seq (by rfl) M.len PySem.boot_len (pa_cons (pv 6) (pa_nil))) (pe_int)) (fun _ _ => rfl)) (fun _ _ => rfl)) (pa_nil)))))) (pss_one (ps_if (pt_cmpR op_le (pe_callB call_len_seq (by rfl) M.len PySem.boot_len (pa_cons (pv 6) (pa_nil))) (pv 0) (nomark _)) (pss_one (ps_expr (pe_bm PySem.F.plainAttrs_list PySem.F.slot_list_append PySem.F.type_list_append mt_append (pe_ix ix_list (pv 3) (pe_op op_sub (pe_ix ix_list (pv 6) (pe_op op_sub (pe_callB call_len_seq (by rfl) M.len PySem.boot_len (pa_cons (pv 6) (pa_nil))) (pe_int)) (fun _ _ => rfl)) (pe_callB call_len_seq (by rfl) M.len PySem.boot_len (pa_cons (pv 1) (pa_nil)))) (fun _ _ => rfl)) (pa_cons (pe_callB call_len_seq (by rfl) M.len PySem.boot_len (pa_cons (pv 6) (pa_nil))) (pa_nil))))) (pss_cons (ps_set (i := 4) nd rfl (.inl rfl) (pe_op op_add (pv 4) (pe_int))) (pss_one (ps_set (i := 5) nd rfl (.inl rfl) (pe_op op_add (pv 5) (pe_callTy call_int1 (by rfl) M.int (by decide +kernel) (pa_cons (pe_cmpR op_in_seq (pv 2) (pe_slice sl_list (pv 6) (po_some pe_int) po_none) (by rfl)) (pa_nil)))))))))))) (pss_one (ps_ret (pe_lst (pa_cons (pv 4) (pa_cons (pv 5) (pa_cons (pv 3) (pa_nil)))))))), ?_⟩
    have hlb : (vI b).length = b.length := vI_len b
    refine ⟨.int (n : Nat), rfl, .ref a, rfl, a, vI b, rfl, .inr hS, (n : Nat), ((vI b).length : Nat), rfl, rfl, ((n : Nat) : Int) - ((vI b).length : Nat), rfl, by omega, by omega, fun D hD => ?_⟩
    refine lc_range (lo := 0) (n := (((n : Nat) : Int) - ((vI b).length : Nat)).toNat) (fun i H' => ∃ as : List Addr, Same H H' ∧ H' D = some (.lst (as.map V.ref)) ∧ D ∉ as ∧ Rws H' as (List.replicate i []) ∧ ∀ x ∈ as, H x = none)
      ⟨[], same_upd hD, upd_same, by simp, Rws.nil, fun x hx => nomatch hx⟩ (fun i H' hi ⟨as, e1, e2, e3, e4, e5⟩ => ?_) (fun H' ⟨as, e1, e2, e3, e4, e5⟩ => ?_)
    · refine ⟨rfl, kept ⟨Nat.zero_le _, fun l hl => ?_⟩⟩
      have nDl : D ≠ l := ne_of_none e2 hl
      refine ⟨as.map V.ref, by rw [upd_ne nDl]; exact e2, ?_, as ++ [l], fun c o e => ?_, ?_, ?_, ?_, fun x hx => ?_⟩
      · rw [List.length_map, e4.len, List.length_replicate]
        exact fewlt (by omega)
      · rw [upd_ne (ne_of_none e hD), upd_ne (ne_of_none e (e1.free hl))]
        exact e1 _ _ e
      · rw [upd_same, List.map_append]
        rfl
      · intro z
        rcases List.mem_append.mp z with z | z
        · exact e3 z
        · exact nDl (List.mem_singleton.mp z)
      · rw [List.replicate_succ']
        refine Rws.updO (e4.snoc (l := []) hl) fun z => ?_
        rcases List.mem_append.mp z with z | z
        · exact e3 z
        · exact nDl (List.mem_singleton.mp z)
      · rcases List.mem_append.mp hx with hx | hx
        · exact e5 x hx
        · rw [List.mem_singleton.mp hx]
          exact e1.free hl
    refine ⟨.ref D, .int 0, .int 0, rfl, .int (n : Nat), rfl, n, rfl, by omega, by omega, for_range (n := n) (fun i σ H' => ∃ (as : List Addr) (y z : Option V), σ = [some (.int (n : Nat)), some (.ref a), y, some (.ref D), some (.int (clU b n i : Nat)), some (.int (rgU b n i : Nat)), z] ∧
      Same H H' ∧ H' D = some (.lst (as.map V.ref)) ∧ D ∉ as ∧ Rws H' as (heapsU b n i) ∧ ∀ x ∈ as, H x = none) ⟨as, none, none, rfl, e1, e2, e3, ?_, e5⟩ ?_ ?_⟩
    · rw [heapsU_zero]
      rw [show (((n : Nat) : Int) - ((vI b).length : Nat)).toNat = n - b.length by omega] at e4
      exact e4
    · clear e1 e2 e3 e4 e5
      rintro i σ H' hi ⟨as, y, z, rfl, e1, e2, e3, e4, e5⟩
      rw [Int.zero_add]
      refine ⟨.int (i : Nat), rfl, by show 1 ≤ sizeLine; decide, fun hh nh => ?_⟩
      have hhH : H hh = none := e1.free nh
      have nDh : D ≠ hh := ne_of_none e2 nh
      have nah : hh ∉ as := e4.fresh nh
      -- the way
      refine ⟨fun σ' H2 => ∃ l : Nat, σ' = [some (.int (n : Nat)), some (.ref a), some (.int (i : Nat)), some (.ref D), some (.int (clU b n i : Nat)), some (.int (rgU b n i : Nat)), some (.ref hh)] ∧ H2 hh = some (.lst (vI (pathN b i l))) ∧ But hh H' H2 ∧ 1 ≤ l ∧
        (∀ j, j + 1 < l → itr b j i < b.length) ∧ ((l ≤ n ∧ b.length ≤ itr b (l - 1) i) ∨ l = n + 1),
        ⟨fun m σ' H2 => ∃ l : Nat, σ' = [some (.int (n : Nat)), some (.ref a), some (.int (i : Nat)), some (.ref D), some (.int (clU b n i : Nat)), some (.int (rgU b n i : Nat)), some (.ref hh)] ∧ H2 hh = some (.lst (vI (pathN b i l))) ∧ But hh H' H2 ∧ 1 ≤ l ∧
          (∀ j, j + 1 < l → itr b j i < b.length) ∧ l ≤ n + 1 ∧ m = n + 1 - l, ⟨n, 1, rfl, upd_same, But.upd, Nat.le_refl _, fun j hj => absurd hj (by omega), by omega, by omega⟩, ?_⟩, ?_⟩
      · rintro m σ' H2 ⟨l, rfl, k1, k2, k3, k4, k5, rfl⟩
        have hS2 : SqT K H2 a (vI b) := by
          have := seqT e1 hS
          rcases this with (t | ⟨o, t⟩) | t
          · exact .inl (.inl (k2 _ _ (ne_of_none t nh) t))
          · exact .inl (.inr ⟨o, k2 _ _ (ne_of_none t nh) t⟩)
          · exact .inr t
        have lp : ((vI (pathN b i l)).length : Nat) = l := by rw [vI_len, pathN_len]
        refine ⟨.ref hh, rfl, .ref hh, rfl, hh, _, rfl, .inl (ofL k1), _, 1, rfl, rfl, hh, _, _, _, rfl, rfl, ofL k1, path_last k3, .ref a, rfl, a, _, rfl, .inr hS2, (itr b (l - 1) i : Nat), ((vI b).length : Nat), rfl, rfl, _, rfl, ite2 (fun hlt => ?_) (fun hge => ?_)⟩
        · have hlt' : itr b (l - 1) i < b.length := by
            have := of_decide_eq_true hlt
            omega
          refine ⟨.ref hh, rfl, hh, _, rfl, .inl (ofL k1), .int (n : Nat), rfl, _, (n : Nat), rfl, rfl, _, rfl, ite2 (fun hle => ?_) (fun hgt => ?_)⟩
          · have hle' : l ≤ n := by
              have := of_decide_eq_true hle
              omega
            refine ⟨fun σ' H2 => ∃ l' : Nat, l < l' ∧ σ' = [some (.int (n : Nat)), some (.ref a), some (.int (i : Nat)), some (.ref D), some (.int (clU b n i : Nat)), some (.int (rgU b n i : Nat)), some (.ref hh)] ∧ H2 hh = some (.lst (vI (pathN b i l'))) ∧ But hh H' H2 ∧
              (∀ j, j + 1 < l' → itr b j i < b.length) ∧ l' ≤ n + 1, fun σ' H3 ⟨l', j1, j2, j3, j4, j5, j6⟩ => ⟨n + 1 - l', by omega, l', j2, j3, j4, by omega, j5, j6, rfl⟩, ?_⟩
            have hix : (vI b)[itr b (l - 1) i]? = some (.int (itr b l i : Nat)) := by
              rw [vI_D hlt', show l = l - 1 + 1 by omega, itr_succ', show l - 1 + 1 - 1 = l - 1 by omega]
              rfl
            refine ⟨.ref hh, rfl, .inl ⟨rfl, _, ofL k1⟩, .ref a, rfl, .ref hh, rfl, .ref hh, rfl, hh, _, rfl, .inl (ofL k1), _, 1, rfl, rfl, hh, _, _, _, rfl, rfl, ofL k1, path_last k3, a, _, _, _, rfl, rfl, hS2, atI_nat hix, hh, _, _, rfl, rfl, k1, ?_, ?_⟩
            · rw [lp]
              exact fewlt (by omega)
            · refine ⟨l + 1, by omega, rfl, ?_, k2.trans But.upd, fun j hj => ?_, by omega⟩
              · rw [upd_same, pathN_succ, vI_app]
                rfl
              · by_cases e : j + 1 < l
                · exact k4 j e
                · rw [show j = l - 1 by omega]
                  exact hlt'
          · have hgt' : ¬ l ≤ n := fun z => hgt (decide_eq_true (by rw [lp]; omega))
            exact ⟨l, rfl, k1, k2, k3, k4, .inr (by omega)⟩
        · have hge' : ¬ itr b (l - 1) i < b.length := fun z => hge (decide_eq_true (by rw [hlb]; omega))
          by_cases hl : l ≤ n
          · exact ⟨l, rfl, k1, k2, k3, k4, .inl ⟨hl, by omega⟩⟩
          · exact ⟨l, rfl, k1, k2, k3, k4, .inr (by omega)⟩
      · rintro σ' H2 ⟨l, rfl, k1, k2, k3, k4, k5⟩
        have hS2 : SqT K H2 a (vI b) := by
          have := seqT e1 hS
          rcases this with (t | ⟨o, t⟩) | t
          · exact .inl (.inl (k2 _ _ (ne_of_none t nh) t))
          · exact .inl (.inr ⟨o, k2 _ _ (ne_of_none t nh) t⟩)
          · exact .inr t
        have lp : ((vI (pathN b i l)).length : Nat) = l := by rw [vI_len, pathN_len]
        have s2 : Same H H2 := fun c o e => k2 c o (ne_of_none e hhH) (e1 c o e)
        have R2 : Rws H2 as (heapsU b n i) := e4.keep fun c hc o e => k2 c o (fun z => nah (by rw [← z]; exact hc)) e
        have D2 : H2 D = some (.lst (as.map V.ref)) := k2 _ _ nDh e2
        refine ⟨.ref hh, rfl, hh, _, rfl, .inl (ofL k1), .int (n : Nat), rfl, _, (n : Nat), rfl, rfl, _, rfl, ite2 (fun hle => ?_) (fun hgt => ?_)⟩
        · have hle' : l ≤ n := by
            have := of_decide_eq_true hle
            omega
          obtain ⟨hl, hr⟩ : l ≤ n ∧ b.length ≤ itr b (l - 1) i := by
            rcases k5 with k5 | k5
            · exact k5
            · omega
          have ho : out b n i = some (itr b (l - 1) i, l) := by
            have := out_path (l := l - 1) hb hi (fun j hj => k4 j (by omega)) hr
            rwa [show l - 1 + 1 = l by omega] at this
          have hrn := (((out_some hb hi).mp ho).le hb hi).2
          obtain ⟨t1, t2, t3⟩ := step_open ho hr hrn
          have pl := path_last (b := b) (x := i) k3
          generalize itr b (l - 1) i = r at hr ho hrn t1 pl
          obtain ⟨aj, haj⟩ : ∃ aj, as[r - b.length]? = some aj := ⟨_, List.getElem?_eq_getElem (by rw [R2.len, heapsU_len]; omega)⟩
          have hrow := R2.at_ _ _ _ haj (heapsU_at (by omega))
          rw [show b.length + (r - b.length) = r by omega] at hrow
          have hja := List.mem_of_getElem? haj
          refine ⟨.ref D, rfl, .ref hh, rfl, .ref hh, rfl, hh, _, rfl, .inl (ofL k1), _, 1, rfl, rfl, hh, _, _, _, rfl, rfl, ofL k1, pl, .ref a, rfl, a, _, rfl, .inr hS2, (r : Nat), ((vI b).length : Nat), rfl, rfl, D, _, _, .ref aj, rfl, rfl, ofL D2, ?_,
            .inl ⟨rfl, _, ofL hrow⟩, .ref hh, rfl, hh, _, rfl, .inl (ofL k1), aj, _, _, rfl, rfl, hrow, ?_, ?_⟩
          · show atI _ (((r : Nat) : Int) - ((vI b).length : Nat)) = _
            rw [hlb, show ((r : Nat) : Int) - (b.length : Nat) = ((r - b.length : Nat) : Int) by omega]
            exact atI_nat (refs_at haj)
          · rw [vI_len]
            exact fewlt (Nat.le_trans (hpU_le r) (by omega))
          · refine ⟨as, some (.int (i : Nat)), some (.ref hh), ?_, fun c o e => ?_, ?_, e3, ?_, e5⟩
            · rw [t2, t3]
            · rw [upd_ne (ne_of_none e (e5 aj hja))]
              exact s2 _ _ e
            · rw [upd_ne (fun z => e3 (by rw [z]; exact hja))]
              exact D2
            · have eq : vI (hpU b n r i) ++ [V.int (((vI (pathN b i l)).length : Nat) : Int)] = vI (hpU b n r i ++ [l]) := by
                rw [vI_app, lp]
                rfl
              rw [eq, t1]
              exact R2.set haj
        · have hgt' : l = n + 1 := by
            rcases k5 with k5 | k5
            · exact absurd (decide_eq_true (by rw [lp]; omega)) hgt
            · exact k5
          subst hgt'
          have ho : out b n i = none := out_long hb hi fun j hj => k4 j (by omega)
          obtain ⟨t1, t2, t3⟩ := step_closed ho
          refine ⟨_, rfl, _, 1, rfl, rfl, _, rfl, .int (i : Nat), rfl, .ref hh, rfl, 1, rfl, hh, _, rfl, ofL k1, fun sl nsl => ⟨sl, _, rfl, .inl (ofL upd_same), rfl, ?_, .inr ⟨_, rfl, _, _, rfl, rfl, as, some (.int (i : Nat)), some (.ref hh), ?_, s2.trans (same_upd nsl), ?_, e3, ?_, e5⟩⟩⟩
          · rw [cut_one]
            exact flat_vI _
          · rw [t2, t3]
            show [_, _, _, _, some (V.int (((clU b n i : Nat) : Int) + 1)), some (V.int (((rgU b n i : Nat) : Int) + if (if false = true then !inV (V.int (i : Nat)) (cutV (vI (pathN b i (n + 1))) (some 1) none) else inV (V.int (i : Nat)) (cutV (vI (pathN b i (n + 1))) (some 1) none)) = true then 1 else 0)), _] = _
            rw [if_neg Bool.false_ne_true, cut_one, inV_int]
            have em : decide (i ∈ (pathN b i (n + 1)).drop 1) = onR b n i := by
              cases e : onR b n i with
              | true => exact decide_eq_true (mem_tail.mpr e)
              | false => exact decide_eq_false fun z => by rw [mem_tail.mp z] at e; cases e
            rw [em]
            cases onR b n i <;> rfl
          · rw [upd_ne (ne_of_none D2 nsl)]
            exact D2
          · rw [t1]
            exact R2.same (same_upd nsl)
    · rintro σ H' ⟨as', y, z, rfl, e1', e2', e3', e4', e5'⟩
      refine ⟨_, rfl, _, rfl, _, rfl, by show 3 ≤ sizeLine; decide, fun p hp => ?_⟩
      refine q _ p D as' (e1'.trans (same_upd hp)) ?_ ?_ (e4'.same (same_upd hp))
      · rw [upd_same]
        rfl
      · rw [upd_ne (ne_of_none e2' hp)]
        exact e2'
end
end Ev
namespace Ev
open PySem PySem.Spec PyProof.Rows L2
/-! ### heaps_begun -/
theorem dc_range {lo : Int} {n : Nat} {g : TG} {tt : TT} {tk tv : TE} {vs : List Nat} {σ : L2.St} {H1 : Hp} {D : Addr} {Qd : Hp → Prop} (Pv : Nat → Hp → Prop) (h0 : Pv 0 (upd H1 D (.dK [])))
    (hs : ∀ i H, i < n → Pv i H → g (.int (lo + (i : Nat))) (wipe σ vs) H fun σ2 H2 => wipe σ2 vs = wipe σ vs ∧ tt σ2 H2 fun b H3 =>
      if b = true then tk σ2 H3 fun y H4 => tv σ2 H4 fun z H5 => ∃ kvs k, y = kV k ∧ H5 D = some (.dK kvs) ∧ kvs.length < sizeLine ∧ Pv (i + 1) (upd H5 D (.dK (putK kvs k z))) else Pv (i + 1) H3) (hd : ∀ H, Pv n H → Qd H) :
    ∃ W : Nat → Nat → Hp → Prop, (∃ m, W 0 m (upd H1 D (.dK []))) ∧ ∀ i m H, W i m H → ((Itr lo n).stop i H ∧ Qd H) ∨ ((Itr lo n).go i H ∧ ∃ Nx : Hp → Prop, (∀ H', Nx H' → ∃ m', m' < m ∧ W (i + 1) m' H') ∧ ∀ x H', (Itr lo n).yld i H x H' → g x (wipe σ vs) H' fun σ2 H2 => wipe σ2 vs = wipe σ vs ∧ tt σ2 H2 fun b H3 =>
      if b = true then tk σ2 H3 fun y H4 => tv σ2 H4 fun z H5 => ∃ kvs k, y = kV k ∧ H5 D = some (.dK kvs) ∧ kvs.length < sizeLine ∧ Nx (upd H5 D (.dK (putK kvs k z))) else Nx H3) := by
  refine ⟨fun i m H => m + i = n ∧ Pv i H, ⟨n, rfl, h0⟩, fun i m H hW => ?_⟩
  obtain ⟨hm, p⟩ := hW
  by_cases hlt : i < n
  · refine .inr ⟨hlt, Pv (i + 1), fun H' p' => ⟨m - 1, by omega, by omega, p'⟩, fun x H' y => ?_⟩
    obtain ⟨rfl, rfl⟩ := y
    exact hs i _ hlt p
  · obtain rfl : i = n := by omega
    exact .inl ⟨Nat.le_refl _, hd H p⟩
theorem kept2 {σ : L2.St} {H : Hp} {tk : TE} {F : V → Hp → Prop} {G : Hp → Prop} (h : tk σ H F) : tYes σ H (fun b H3 => if b = true then tk σ H3 F else G H3) := kept h
/-- the dict of the open places: from k on -/
def kvOf : Nat → List Addr → List (Key × V)
  | _, [] => []
  | k, a :: r => (.inl (k : Int), .ref a) :: kvOf (k + 1) r
theorem kvOf_len : ∀ (k : Nat) (as : List Addr), (kvOf k as).length = as.length
  | _, [] => rfl
  | k, a :: r => by rw [kvOf, List.length_cons, List.length_cons, kvOf_len (k + 1) r]
theorem kvOf_snoc : ∀ (k : Nat) (as : List Addr) (a : Addr), kvOf k (as ++ [a]) = kvOf k as ++ [(.inl ((k + as.length : Nat) : Int), .ref a)]
  | _, [], _ => rfl
  | k, b :: r, a => by
    show _ :: kvOf (k + 1) (r ++ [a]) = _ :: (kvOf (k + 1) r ++ _)
    rw [kvOf_snoc (k + 1) r a, List.length_cons, show k + 1 + r.length = k + (r.length + 1) by omega]
theorem kvOf_val : ∀ (k : Nat) (as : List Addr) (r : Nat), k ≤ r → valV (kvOf k as) (.inl (r : Int)) = (as[r - k]?).map V.ref
  | _, [], _, _ => by simp [kvOf, valV_nil]
  | k, a :: t, r, h => by
    by_cases e : k = r
    · subst e
      rw [Nat.sub_self]
      exact valV_pos (p := ((.inl (k : Int) : Key), V.ref a)) rfl
    · have ne : ¬ ((.inl (k : Int) : Key)) = .inl (r : Int) := fun z => by
        have := Sum.inl.inj z
        omega
      show valV (((.inl (k : Int) : Key), V.ref a) :: kvOf (k + 1) t) (.inl (r : Int)) = _
      rw [valV_neg (p := ((.inl (k : Int) : Key), V.ref a)) ne, kvOf_val (k + 1) t r (by omega)]
      obtain ⟨d, hd⟩ : ∃ d, r - k = d + 1 := ⟨r - k - 1, by omega⟩
      rw [hd, show r - (k + 1) = d by omega, List.getElem?_cons_succ]
theorem path_neg {b : List Nat} {x l : Nat} (h : 1 ≤ l) : atI (vI (pathN b x l)) (-1) = some (.int (itr b (l - 1) x : Nat)) := by
  obtain ⟨m, rfl⟩ : ∃ m, l = m + 1 := ⟨l - 1, by omega⟩
  rw [pathN_succ, vI_app]
  exact atI_last _ _
section
variable {P : Program} {w : World} {K : PySem.W.Frag} {mg : Str → Option Value} {base : Heap}
abbrev sHeaps : Stmt := topS 27
theorem scHeaps : FnScope ["begun", "many", "place", "steps", "closed", "on_rings", "here"] ["begun", "many"] (defScope sHeaps) := ⟨rfl, rfl, rfl, by decide +kernel, rfl, by decide +kernel, by decide +kernel⟩
def spHeaps (K : PySem.W.Frag) : Sp := fun vs H Q _ => ∃ (n : Nat) (a : Addr) (b : List Nat), vs = [.ref a, .int (n : Nat)] ∧ SqT K H a (vI b) ∧ b.length ≤ n ∧ n ≤ 10 ∧ Ent b n ∧
  ∀ H' p q as, Same H H' → H' p = some (.tup [.int (cl b n : Nat), .int (rg b n : Nat), .ref q]) → H' q = some (.lst (as.map V.ref)) → Rws H' as (heaps b n) → Q (.ref p) H'
theorem ok_heaps {f : Addr} {fd : FuncData} {k : Nat} (F : Fun K "heaps_begun" "heaps_begun" sHeaps f fd) (M : Mg mg) : FnOk P w K mg base CX0 (k + 1) f fd ["begun", "many"] (spHeaps K) := by
  refine F.ok scHeaps (fun vs H Q E h => ?_) (fun cdv A outer s H vs Q E hr h => ?_)
  · obtain ⟨n, a, b, rfl, _⟩ := h
    rfl
  · obtain ⟨n, a, b, rfl, hS, hbn, hn, hb, q⟩ := h
    have nd := scHeaps.nd
    have hu := hu_of hr
    refine ⟨_, pss_cons (ps_set (i := 3) nd rfl (.inr rfl) (pe_dc (own := [("place", 2)]) (g := gName 2) (tt := tYes) rfl nd (pi_range2 (by rfl) M.range (pa_cons (pe_callB call_len_seq (by rfl) M.len PySem.boot_len (pa_cons (pv 0) (pa_nil))) (pa_cons (pv 1) (pa_nil)))) (blkOk_by (N := ["begun", "many", "place", "steps", "closed", "on_rings", "here"]) (sc := defScope sHeaps) (by decide +kernel)) (fun _ _ _ _ _ => pg_name (i := 2) nd rfl (Or.inl rfl)) (fun _ _ _ _ _ => pts_nil) (fun _ _ _ _ _ => pv 2) (fun _ _ _ _ _ => pe_lst pa_nil))) (pss_cons (ps_asg (pe_tup (pa_cons (pe_int) (pa_cons (pe_int) (pa_nil)))) (pg_tup rfl (pgs_cons (pg_name (i := 4) nd rfl (Or.inl rfl)) (pgs_cons (pg_name (i := 5) nd rfl (Or.inl rfl)) (pgs_nil))))) (pss_cons (ps_for PassesOwn.never rfl (pi_range1 (by rfl) M.range (pa_cons (pv 1) (pa_nil))) (pg_name (i := 2) nd rfl (Or.inl rfl)) (pss_cons (ps_set (i := 6) nd rfl (.inl rfl) (pe_lst (pa_cons (pv 2) (pa_nil)))) (C8.pss_cut (ps_while PassesOwn.never (PW.pt (pw_and (pt_cmpR op_lt (pe_ix ix_list (pv 6) (pe_un un_neg pe_int) (fun _ _ => rfl)) (pe_callB call_len_seq (by rfl) M.len PySem.boot_len (pa_cons (pv 0) (pa_nil))) (nomark _)) (pw_and1 (pt_cmpR op_notIn_seq (pe_ix ix_tup (pv 0) (pe_ix ix_list (pv 6) (pe_un un_neg pe_int) (fun _ _ => rfl)) (fun _ _ => rfl)) (pv 6) (by rfl))))) (pss_one (ps_expr (pe_bm PySem.F.plainAttrs_list PySem.F.slot_list_append PySem.F.type_list_append mt_append (pv 6) (pa_cons (pe_ix ix_tup (pv 0) (pe_ix ix_list (pv 6) (pe_un un_neg pe_int) (fun _ _ => rfl)) (fun _ _ => rfl)) (pa_nil)))))) (pss_one (ps_if (pt_cmpR op_ge (pe_ix ix_list (pv 6) (pe_un un_neg pe_int) (fun _ _ => rfl)) (pe_callB call_len_seq (by rfl) M.len PySem.boot_len (pa_cons (pv 0) (pa_nil))) (nomark _)) (pss_one (ps_expr (pe_bm PySem.F.plainAttrs_list PySem.F.slot_list_append PySem.F.type_list_append mt_append (pe_dget hu (pv 3) (pe_ix ix_list (pv 6) (pe_un un_neg pe_int) (fun _ _ => rfl)) (fun _ _ => rfl)) (pa_cons (pe_callB call_len_seq (by rfl) M.len PySem.boot_len (pa_cons (pv 6) (pa_nil))) (pa_nil))))) (pss_cons (ps_aug (i := 4) nd rfl (.inl rfl) (pe_int) ip_add) (pss_one (ps_aug (i := 5) nd rfl (.inl rfl) (pe_callTy call_int1 (by rfl) M.int (by decide +kernel) (pa_cons (pe_cmpR op_eq (pe_ix ix_tup (pv 0) (pe_ix ix_list (pv 6) (pe_un un_neg pe_int) (fun _ _ => rfl)) (fun _ _ => rfl)) (pv 2) (nomark _)) (pa_nil))) ip_add)))))))) (pss_one (ps_ret (pe_tup (pa_cons (pv 4) (pa_cons (pv 5) (pa_cons (pe_lc (own := [("place", 2)]) (g := gName 2) (tt := tYes) rfl nd (pi_range2 (by rfl) M.range (pa_cons (pe_callB call_len_seq (by rfl) M.len PySem.boot_len (pa_cons (pv 0) (pa_nil))) (pa_cons (pv 1) (pa_nil)))) (blkOk_by (N := ["begun", "many", "place", "steps", "closed", "on_rings", "here"]) (sc := defScope sHeaps) (by decide +kernel)) (fun _ _ _ _ _ => pg_name (i := 2) nd rfl (Or.inl rfl)) (fun _ _ _ _ _ => pts_nil) (fun _ _ _ _ _ => pe_dget hu (pv 3) (pv 2) (fun _ _ => rfl))) (pa_nil))))))))), ?_⟩
    have hlb : (vI b).length = b.length := vI_len b
    refine ⟨.ref a, rfl, a, vI b, rfl, .inr hS, .int (n : Nat), rfl, ((vI b).length : Nat), (n : Nat), rfl, ⟨by omega, by omega, by omega, by omega⟩, fun D hD => ?_⟩
    have eN : (((n : Nat) : Int) - ((vI b).length : Nat)).toNat = n - b.length := by omega
    refine dc_range (lo := ((vI b).length : Nat)) (n := (((n : Nat) : Int) - ((vI b).length : Nat)).toNat) (fun i H' => ∃ as : List Addr, Same H H' ∧ H' D = some (.dK (kvOf b.length as)) ∧ D ∉ as ∧ Rws H' as (List.replicate i []) ∧ ∀ x ∈ as, H x = none)
      ⟨[], same_upd hD, upd_same, by simp, Rws.nil, fun x hx => nomatch hx⟩ (fun i H' hi ⟨as, e1, e2, e3, e4, e5⟩ => ?_) (fun H' ⟨as, e1, e2, e3, e4, e5⟩ => ?_)
    · have las : as.length = i := by rw [e4.len, List.length_replicate]
      refine ⟨rfl, kept2 ⟨.int (((vI b).length : Nat) + (i : Nat)), rfl, Nat.zero_le _, fun l hl => ?_⟩⟩
      have nDl : D ≠ l := ne_of_none e2 hl
      have ek : (((vI b).length : Nat) : Int) + (i : Nat) = ((b.length + as.length : Nat) : Int) := by omega
      refine ⟨kvOf b.length as, .inl ((b.length + as.length : Nat) : Int), by rw [ek]; rfl, by rw [upd_ne nDl]; exact e2, ?_, as ++ [l], fun c o e => ?_, ?_, ?_, ?_, fun x hx => ?_⟩
      · rw [kvOf_len, las]
        exact fewlt (by omega)
      · rw [upd_ne (ne_of_none e hD), upd_ne (ne_of_none e (e1.free hl))]
        exact e1 _ _ e
      · rw [upd_same, putK_new, kvOf_snoc]
        rw [kvOf_val _ _ _ (by omega), List.getElem?_eq_none (by omega)]
        rfl
      · intro z
        rcases List.mem_append.mp z with z | z
        · exact e3 z
        · exact nDl (List.mem_singleton.mp z)
      · rw [List.replicate_succ']
        refine Rws.updO (e4.snoc (l := []) hl) fun z => ?_
        rcases List.mem_append.mp z with z | z
        · exact e3 z
        · exact nDl (List.mem_singleton.mp z)
      · rcases List.mem_append.mp hx with hx | hx
        · exact e5 x hx
        · rw [List.mem_singleton.mp hx]
          exact e1.free hl
    refine ⟨by show 2 ≤ sizeLine; decide, fun t ht => ⟨t, [.int 0, .int 0], rfl, ofT upd_same, rfl, .int 0, [.int 0], rfl, .int 0, [], rfl, rfl, ?_⟩⟩
    have nDt : D ≠ t := ne_of_none e2 ht
    rw [eN] at e4
    refine ⟨.int (n : Nat), rfl, n, rfl, by omega, by omega, for_range (n := n) (fun i σ H' => ∃ (as : List Addr) (y z : Option V), σ = [some (.ref a), some (.int (n : Nat)), y, some (.ref D), some (.int (clU b n i : Nat)), some (.int (rgU b n i : Nat)), z] ∧
      Same H H' ∧ H' D = some (.dK (kvOf b.length as)) ∧ D ∉ as ∧ Rws H' as (heapsU b n i) ∧ ∀ x ∈ as, H x = none) ⟨as, none, none, rfl, e1.trans (same_upd ht), by rw [upd_ne nDt]; exact e2, e3, by rw [heapsU_zero]; exact e4.same (same_upd ht), e5⟩ ?_ ?_⟩
    · clear e1 e2 e3 e4 e5
      rintro i σ H' hi ⟨as, y, z, rfl, e1, e2, e3, e4, e5⟩
      rw [Int.zero_add]
      refine ⟨.int (i : Nat), rfl, by show 1 ≤ sizeLine; decide, fun hh nh => ?_⟩
      have hhH : H hh = none := e1.free nh
      have nDh : D ≠ hh := ne_of_none e2 nh
      have nah : hh ∉ as := e4.fresh nh
      -- the way
      refine ⟨fun σ' H2 => ∃ l : Nat, σ' = [some (.ref a), some (.int (n : Nat)), some (.int (i : Nat)), some (.ref D), some (.int (clU b n i : Nat)), some (.int (rgU b n i : Nat)), some (.ref hh)] ∧ H2 hh = some (.lst (vI (pathN b i l))) ∧ But hh H' H2 ∧ 1 ≤ l ∧
        (∀ j, j + 1 < l → itr b j i < b.length) ∧ (pathN b i l).Nodup ∧ (b.length ≤ itr b (l - 1) i ∨ (itr b (l - 1) i < b.length ∧ itr b l i ∈ pathN b i l)),
        ⟨fun m σ' H2 => ∃ l : Nat, σ' = [some (.ref a), some (.int (n : Nat)), some (.int (i : Nat)), some (.ref D), some (.int (clU b n i : Nat)), some (.int (rgU b n i : Nat)), some (.ref hh)] ∧ H2 hh = some (.lst (vI (pathN b i l))) ∧ But hh H' H2 ∧ 1 ≤ l ∧
          (∀ j, j + 1 < l → itr b j i < b.length) ∧ (pathN b i l).Nodup ∧ m = n + 1 - l, ⟨n, 1, rfl, upd_same, But.upd, Nat.le_refl _, fun j hj => absurd hj (by omega), by rw [pathN_one]; simp, by omega⟩, ?_⟩, ?_⟩
      · rintro m σ' H2 ⟨l, rfl, k1, k2, k3, k4, k5, rfl⟩
        have hS2 : SqT K H2 a (vI b) := by
          have := seqT e1 hS
          rcases this with (t | ⟨o, t⟩) | t
          · exact .inl (.inl (k2 _ _ (ne_of_none t nh) t))
          · exact .inl (.inr ⟨o, k2 _ _ (ne_of_none t nh) t⟩)
          · exact .inr t
        have lp : ((vI (pathN b i l)).length : Nat) = l := by rw [vI_len, pathN_len]
        have hln : l ≤ n := path_le hb hi k5 k4
        refine ⟨.ref hh, rfl, 1, rfl, hh, _, _, _, rfl, rfl, ofL k1, path_neg k3, .ref a, rfl, a, _, rfl, .inr hS2, (itr b (l - 1) i : Nat), ((vI b).length : Nat), rfl, rfl, _, rfl, ite2 (fun hlt => ?_) (fun hge => ?_)⟩
        · have hlt' : itr b (l - 1) i < b.length := by
            have := of_decide_eq_true hlt
            omega
          have hix : (vI b)[itr b (l - 1) i]? = some (.int (itr b l i : Nat)) := by
            rw [vI_D hlt', show l = l - 1 + 1 by omega, itr_succ', show l - 1 + 1 - 1 = l - 1 by omega]
            rfl
          refine ⟨.ref a, rfl, .ref hh, rfl, 1, rfl, hh, _, _, _, rfl, rfl, ofL k1, path_neg k3, a, _, _, _, rfl, rfl, hS2, atI_nat hix, .ref hh, rfl, hh, _, rfl, .inl (ofL k1), rfl, flat_vI _, _, rfl, ite2 (fun hno => ?_) (fun hyes => ?_)⟩
          · have hno' : itr b l i ∉ pathN b i l := fun z => by
              have : (if true = true then !inV (V.int (itr b l i : Nat)) (vI (pathN b i l)) else inV (V.int (itr b l i : Nat)) (vI (pathN b i l))) = true := hno
              rw [if_pos rfl, inV_int, decide_eq_true z] at this
              cases this
            refine ⟨fun σ' H2 => ∃ l' : Nat, l < l' ∧ σ' = [some (.ref a), some (.int (n : Nat)), some (.int (i : Nat)), some (.ref D), some (.int (clU b n i : Nat)), some (.int (rgU b n i : Nat)), some (.ref hh)] ∧ H2 hh = some (.lst (vI (pathN b i l'))) ∧ But hh H' H2 ∧
              (∀ j, j + 1 < l' → itr b j i < b.length) ∧ (pathN b i l').Nodup, fun σ' H3 ⟨l', j1, j2, j3, j4, j5, j6⟩ => ⟨n + 1 - l', by omega, l', j2, j3, j4, by omega, j5, j6, rfl⟩, ?_⟩
            refine ⟨.ref hh, rfl, .inl ⟨rfl, _, ofL k1⟩, .ref a, rfl, .ref hh, rfl, 1, rfl, hh, _, _, _, rfl, rfl, ofL k1, path_neg k3, a, _, _, _, rfl, rfl, hS2, atI_nat hix, hh, _, _, rfl, rfl, k1, ?_, ?_⟩
            · rw [lp]
              exact fewlt (by omega)
            · refine ⟨l + 1, by omega, rfl, ?_, k2.trans But.upd, fun j hj => ?_, nodup_succ k5 hno'⟩
              · rw [upd_same, pathN_succ, vI_app]
                rfl
              · by_cases e : j + 1 < l
                · exact k4 j e
                · rw [show j = l - 1 by omega]
                  exact hlt'
          · have hyes' : itr b l i ∈ pathN b i l := Decidable.byContradiction fun z => hyes (by
              show (if true = true then !inV (V.int (itr b l i : Nat)) (vI (pathN b i l)) else inV (V.int (itr b l i : Nat)) (vI (pathN b i l))) = true
              rw [if_pos rfl, inV_int, decide_eq_false z]
              rfl)
            exact ⟨l, rfl, k1, k2, k3, k4, k5, .inr ⟨hlt', hyes'⟩⟩
        · have hge' : ¬ itr b (l - 1) i < b.length := fun z => hge (decide_eq_true (by rw [hlb]; omega))
          exact ⟨l, rfl, k1, k2, k3, k4, k5, .inl (by omega)⟩
      · rintro σ' H2 ⟨l, rfl, k1, k2, k3, k4, k5, k6⟩
        have hS2 : SqT K H2 a (vI b) := by
          have := seqT e1 hS
          rcases this with (t | ⟨o, t⟩) | t
          · exact .inl (.inl (k2 _ _ (ne_of_none t nh) t))
          · exact .inl (.inr ⟨o, k2 _ _ (ne_of_none t nh) t⟩)
          · exact .inr t
        have lp : ((vI (pathN b i l)).length : Nat) = l := by rw [vI_len, pathN_len]
        have hln : l ≤ n := path_le hb hi k5 k4
        have s2 : Same H H2 := fun c o e => k2 c o (ne_of_none e hhH) (e1 c o e)
        have R2 : Rws H2 as (heapsU b n i) := e4.keep fun c hc o e => k2 c o (fun z => nah (by rw [← z]; exact hc)) e
        have D2 : H2 D = some (.dK (kvOf b.length as)) := k2 _ _ nDh e2
        have pl := path_neg (b := b) (x := i) k3
        refine ⟨.ref hh, rfl, 1, rfl, hh, _, _, _, rfl, rfl, ofL k1, pl, .ref a, rfl, a, _, rfl, .inr hS2, (itr b (l - 1) i : Nat), ((vI b).length : Nat), rfl, rfl, _, rfl, ite2 (fun hge => ?_) (fun hlt => ?_)⟩
        · have hr : b.length ≤ itr b (l - 1) i := by
            have := of_decide_eq_true hge
            omega
          have ho : out b n i = some (itr b (l - 1) i, l) := by
            have := out_path (l := l - 1) hb hi (fun j hj => k4 j (by omega)) hr
            rwa [show l - 1 + 1 = l by omega] at this
          have hrn := (((out_some hb hi).mp ho).le hb hi).2
          obtain ⟨t1, t2, t3⟩ := step_open ho hr hrn
          generalize itr b (l - 1) i = r at hr ho hrn t1 pl
          obtain ⟨aj, haj⟩ : ∃ aj, as[r - b.length]? = some aj := ⟨_, List.getElem?_eq_getElem (by rw [R2.len, heapsU_len]; omega)⟩
          have hrow := R2.at_ _ _ _ haj (heapsU_at (by omega))
          rw [show b.length + (r - b.length) = r by omega] at hrow
          have hja := List.mem_of_getElem? haj
          have hget : DGet H2 D (.int (r : Nat)) (some (.ref aj)) := by
            have := DGet.k (k := .inl ((r : Nat) : Int)) D2
            rw [kvOf_val _ _ _ hr, haj] at this
            exact this
          refine ⟨.ref D, rfl, .ref hh, rfl, 1, rfl, hh, _, _, _, rfl, rfl, ofL k1, pl, D, .ref aj, rfl, hget, .inl ⟨rfl, _, ofL hrow⟩, .ref hh, rfl, hh, _, rfl, .inl (ofL k1), aj, _, _, rfl, rfl, hrow, ?_, ?_⟩
          · rw [vI_len]
            exact fewlt (Nat.le_trans (hpU_le r) (by omega))
          · refine ⟨as, some (.int (i : Nat)), some (.ref hh), ?_, fun c o e => ?_, ?_, e3, ?_, e5⟩
            · rw [t2, t3]
            · rw [upd_ne (ne_of_none e (e5 aj hja))]
              exact s2 _ _ e
            · rw [upd_ne (fun z => e3 (by rw [z]; exact hja))]
              exact D2
            · have eq : vI (hpU b n r i) ++ [V.int (((vI (pathN b i l)).length : Nat) : Int)] = vI (hpU b n r i ++ [l]) := by
                rw [vI_app, lp]
                rfl
              rw [eq, t1]
              exact R2.set haj
        · obtain ⟨hlt', hm⟩ : itr b (l - 1) i < b.length ∧ itr b l i ∈ pathN b i l := by
            rcases k6 with k6 | k6
            · exact absurd (decide_eq_true (by rw [hlb]; omega)) hlt
            · exact k6
          have low : ∀ j, j < l → itr b j i < b.length := fun j hj => by
            by_cases e : j + 1 < l
            · exact k4 j e
            · rw [show j = l - 1 by omega]
              exact hlt'
          have ho : out b n i = none := out_back hb hi low hm
          have hR := onR_back k5 k3 hln hm
          obtain ⟨t1, t2, t3⟩ := step_closed ho
          have hix : (vI b)[itr b (l - 1) i]? = some (.int (itr b l i : Nat)) := by
            rw [vI_D hlt', show l = l - 1 + 1 by omega, itr_succ', show l - 1 + 1 - 1 = l - 1 by omega]
            rfl
          refine ⟨_, rfl, _, 1, rfl, rfl, _, rfl, .ref a, rfl, .ref hh, rfl, 1, rfl, hh, _, _, _, rfl, rfl, ofL k1, pl, a, _, _, _, rfl, rfl, hS2, atI_nat hix, .int (i : Nat), rfl, rfl, .inr ⟨_, rfl, _, _, rfl, rfl, as, some (.int (i : Nat)), some (.ref hh), ?_, s2, D2, e3, ?_, e5⟩⟩
          · rw [t2, t3, hR]
            show [_, _, _, _, some (V.int (((clU b n i : Nat) : Int) + 1)), some (V.int (((rgU b n i : Nat) : Int) + if decide (V.int (itr b l i : Nat) = V.int (i : Nat)) = true then 1 else 0)), _] = _
            have ed : decide (V.int (itr b l i : Nat) = V.int (i : Nat)) = decide (itr b l i = i) := by
              by_cases e : itr b l i = i
              · rw [e]
                simp
              · rw [decide_eq_false e]
                refine decide_eq_false fun z => e ?_
                have := V.int.inj z
                omega
            rw [ed]
            cases decide (itr b l i = i) <;> rfl
          · rw [t1]
            exact R2
    · rintro σ H' ⟨as', y, z, rfl, e1', e2', e3', e4', e5'⟩
      refine ⟨_, rfl, _, rfl, .ref a, rfl, a, vI b, rfl, .inr (seqT e1' hS), .int (n : Nat), rfl, ((vI b).length : Nat), (n : Nat), rfl, ⟨by omega, by omega, by omega, by omega⟩, fun L hL => ?_⟩
      have nDL : D ≠ L := ne_of_none e2' hL
      have las : as'.length = n - b.length := by rw [e4'.len, heapsU_len]
      refine lc_range (lo := ((vI b).length : Nat)) (n := (((n : Nat) : Int) - ((vI b).length : Nat)).toNat) (fun i H2 => Same H' H2 ∧ H2 L = some (.lst ((as'.take i).map V.ref))) ⟨same_upd hL, by rw [upd_same]; rfl⟩
        (fun i H2 hi ⟨k1, k2⟩ => ?_) (fun H2 ⟨k1, k2⟩ => ?_)
      · have hia : i < as'.length := by omega
        have ek : (((vI b).length : Nat) : Int) + (i : Nat) = ((b.length + i : Nat) : Int) := by omega
        have hget : DGet H2 D (.int ((((vI b).length : Nat) : Int) + (i : Nat))) (some (.ref as'[i])) := by
          have := DGet.k (k := .inl ((b.length + i : Nat) : Int)) (k1 _ _ e2')
          rw [kvOf_val _ _ _ (by omega), show b.length + i - b.length = i by omega, List.getElem?_eq_getElem hia] at this
          rw [ek]
          exact this
        refine ⟨rfl, kept ⟨.ref D, rfl, _, rfl, D, .ref as'[i], rfl, hget, _, k2, ?_, fun c o e => ?_, ?_⟩⟩
        · rw [List.length_map, List.length_take]
          exact fewlt (by omega)
        · rw [upd_ne (ne_of_none e hL)]
          exact k1 _ _ e
        · rw [upd_same, List.take_add_one, List.map_append, List.getElem?_eq_getElem hia]
          rfl
      · rw [eN, List.take_of_length_le (by omega)] at k2
        refine ⟨by show 3 ≤ sizeLine; decide, fun p hp => ?_⟩
        have nLp : L ≠ p := ne_of_none k2 hp
        refine q _ p L as' (e1'.trans (k1.trans (same_upd hp))) ?_ (by rw [upd_ne nLp]; exact k2) ((e4'.same k1).same (same_upd hp))
        rw [upd_same]
        rfl
end
end Ev
namespace Ev
open PySem PySem.Spec PyProof.Rows L2
/-! ### rows of triples -/
def tV (t : T3) : List V := [.int (t.1 : Nat), .int (t.2.1 : Nat), .int (t.2.2 : Nat)]
structure Tps (H : Hp) (as : List Addr) (ts : List T3) : Prop where
  len : as.length = ts.length
  at_ : ∀ (i : Nat) (a : Addr) (t : T3), as[i]? = some a → ts[i]? = some t → H a = some (.tup (tV t))
theorem Tps.nil {H : Hp} : Tps H [] [] := ⟨rfl, fun i a h e => by simp at e⟩
theorem Tps.same {H H' : Hp} {as : List Addr} {ts : List T3} (R : Tps H as ts) (e : Same H H') : Tps H' as ts := ⟨R.len, fun i a t e1 e2 => e a _ (R.at_ i a t e1 e2)⟩
theorem Tps.app {H : Hp} {as bs : List Addr} {ts us : List T3} (R : Tps H as ts) (S : Tps H bs us) : Tps H (as ++ bs) (ts ++ us) := by
  refine ⟨by rw [List.length_append, List.length_append, R.len, S.len], fun i a t e1 e2 => ?_⟩
  by_cases hi : i < as.length
  · rw [List.getElem?_append_left hi] at e1
    rw [List.getElem?_append_left (by rw [← R.len]; exact hi)] at e2
    exact R.at_ i a t e1 e2
  · rw [List.getElem?_append_right (by omega)] at e1
    rw [List.getElem?_append_right (by rw [← R.len]; omega), ← R.len] at e2
    exact S.at_ _ a t e1 e2
theorem Tps.one {H : Hp} {a : Addr} {t : T3} (h : H a = some (.tup (tV t))) : Tps H [a] [t] := by
  refine ⟨rfl, fun i b u e1 e2 => ?_⟩
  cases i with
  | zero =>
    cases e1
    cases e2
    exact h
  | succ i => simp at e1
section
variable {P : Program} {w : World} {K : PySem.W.Frag} {mg : Str → Option Value} {base : Heap}
/-! ### _law_chosen -/
abbrev sLChosen : Stmt := topS 44
theorem scLChosen : FnScope ["_law_heaps_here", "_law_found", "_law_heap", "_law_longer", "_law_chosen_here", "_law_places", "_law_rings_here", "_law_steps"] ["_law_heaps_here"] (defScope sLChosen) := ⟨rfl, rfl, rfl, by decide +kernel, rfl, by decide +kernel, by decide +kernel⟩
def spLChosen (K : PySem.W.Frag) : Sp := fun vs H Q _ => ∃ (a : Addr) (as : List Addr) (hs : List (List Nat)), vs = [.ref a] ∧ H a = some (.lst (as.map V.ref)) ∧ Rws H as hs ∧ tot hs ≤ 10 ∧
  ∀ H' p bs, Same H H' → H' p = some (.lst (bs.map V.ref)) → Tps H' bs (hs.foldl chStep [(0, 0, 0)]) → Q (.ref p) H'
theorem ok_lChosen {f : Addr} {fd : FuncData} {k : Nat} (F : Fun K "_law_chosen" "_law_chosen" sLChosen f fd) (M : Mg mg) : FnOk P w K mg base CX0 (k + 1) f fd ["_law_heaps_here"] (spLChosen K) := by
  refine F.ok scLChosen (fun vs H Q E h => ?_) (fun cdv A outer s H vs Q E hr h => ?_)
  · obtain ⟨a, as, hs, rfl, _⟩ := h
    rfl
  · obtain ⟨a, as, hs, rfl, ha, hR, hT, q⟩ := h
    have nd := scLChosen.nd
    refine ⟨_, pss_cons (ps_set (i := 1) nd rfl (.inl rfl) (pe_lst (pa_cons (pe_tup (pa_cons (pe_int) (pa_cons (pe_int) (pa_cons (pe_int) (pa_nil))))) (pa_nil)))) (pss_cons (ps_for PassesOwn.never rfl (pi_list (pv 0)) (pg_name (i := 2) nd rfl (Or.inr rfl)) (pss_cons (ps_set (i := 3) nd rfl (.inl rfl) (pe_callTy (call_list_of) (by rfl) M.list (by decide +kernel) (pa_cons (pv 1) (pa_nil)))) (pss_cons (ps_for PassesOwn.never rfl (pi_list (pv 1)) (pg_tup rfl (pgs_cons (pg_name (i := 4) nd rfl (Or.inr rfl)) (pgs_cons (pg_name (i := 5) nd rfl (Or.inr rfl)) (pgs_cons (pg_name (i := 6) nd rfl (Or.inr rfl)) pgs_nil)))) (pss_one (ps_set (i := 3) nd rfl (.inl rfl) (pe_op op_cat (pv 3) (pe_lc (own := [("_law_steps", 7)]) (g := gName 7) (tt := tYes) rfl nd (pi_list (pv 2)) (blkOk_by (N := ["_law_heaps_here", "_law_found", "_law_heap", "_law_longer", "_law_chosen_here", "_law_places", "_law_rings_here", "_law_steps"]) (sc := defScope sLChosen) (by decide +kernel)) (fun _ _ _ _ _ => pg_name (i := 7) nd rfl (Or.inl rfl)) (fun _ _ _ _ _ => pts_nil) (fun _ _ _ _ _ => pe_tup (pa_cons (pe_op op_add (pv 4) (pe_int)) (pa_cons (pe_op op_add (pv 5) (pe_callB (cr_len (K := K) rfl) (by rfl) M.len PySem.boot_len (pa_cons (pv 2) (pa_nil)))) (pa_cons (pe_op op_add (pv 6) (pv 7)) (pa_nil)))))))))) (pss_one (ps_set (i := 1) nd rfl (.inl rfl) (pv 3)))))) (pss_one (ps_ret (pv 1)))), ?_⟩
    refine ⟨by show 3 ≤ sizeLine; decide, fun t0 ht0 => ⟨by show 1 ≤ sizeLine; decide, fun l0 hl0 => ?_⟩⟩
    have n00 : t0 ≠ l0 := ne_of_none upd_same hl0
    have s0 : Same H (L2.upd (L2.upd H t0 (.tup [.int 0, .int 0, .int 0])) l0 (.lst [.ref t0])) := (same_upd ht0).trans (same_upd hl0)
    refine ⟨.ref a, rfl, a, rfl, ⟨_, ofL (s0 _ _ ha)⟩, for_list (K := K) (a := a) (xs := as.map V.ref) (fun i σ H' => ∃ (p : Addr) (bs : List Addr) (y2 y3 y4 y5 y6 y7 : Option V), σ = [some (.ref a), some (.ref p), y2, y3, y4, y5, y6, y7] ∧ Same H H' ∧ H' p = some (.lst (bs.map V.ref)) ∧
      Tps H' bs ((hs.take i).foldl chStep [(0, 0, 0)])) ⟨l0, [t0], none, none, none, none, none, none, rfl, s0, upd_same, .one (t := (0, 0, 0)) (by rw [upd_ne n00, upd_same]; rfl)⟩ (fun i σ H' hi ⟨_, _, _, _, _, _, _, _, _, e1, _⟩ => ofL (e1 _ _ ha)) ?_ ?_⟩
    · rintro i x σ H' hx ⟨p, bs, y2, y3, y4, y5, y6, y7, rfl, e1, e2, e3⟩
      have hi : i < as.length := by
        have := (List.getElem?_eq_some_iff.mp hx).1
        rwa [List.length_map] at this
      have hih : i < hs.length := by rw [← hR.len]; exact hi
      obtain rfl : V.ref as[i] = x := by
        rw [refs_at (List.getElem?_eq_getElem hi)] at hx
        exact Option.some.inj hx
      have hrow : H' as[i] = some (.lst (vI hs[i])) := e1 _ _ (hR.at_ i _ _ (List.getElem?_eq_getElem hi) (List.getElem?_eq_getElem hih))
      have few1 := chosen_few hT (i + 1)
      rw [foldl_take hih] at few1
      have few0 := chosen_few hT i
      have goal2 : (hs.take (i + 1)).foldl chStep [(0, 0, 0)] = chStep ((hs.take i).foldl chStep [(0, 0, 0)]) hs[i] := foldl_take hih
      rw [goal2]
      clear goal2
      generalize (hs.take i).foldl chStep [(0, 0, 0)] = ts at *
      generalize hs[i] = h at *
      generalize as[i] = ai at *
      clear hx
      refine ⟨.ref p, rfl, p, _, rfl, .inl (ofL e2), fun l hl => ?_⟩
      refine ⟨.ref p, rfl, p, rfl, ⟨_, ofL (same_upd hl _ _ e2)⟩, for_list (K := K) (a := p) (xs := bs.map V.ref) (fun j σ H2 => ∃ (l : Addr) (cs : List Addr) (y4 y5 y6 y7 : Option V), σ = [some (.ref a), some (.ref p), some (.ref ai), some (.ref l), y4, y5, y6, y7] ∧ Same H' H2 ∧ H2 l = some (.lst (cs.map V.ref)) ∧
        Tps H2 cs (ts ++ (ts.take j).flatMap fun t => h.map fun s => nx3 t h s)) ⟨l, bs, y4, y5, y6, y7, rfl, same_upd hl, upd_same, by rw [List.take_zero, List.flatMap_nil, List.append_nil]; exact e3.same (same_upd hl)⟩ (fun j σ H2 hj ⟨_, _, _, _, _, _, _, k1, _⟩ => ofL (k1 _ _ e2)) ?_ ?_⟩
      · rintro j x σ H2 hx ⟨l, cs, y4, y5, y6, y7, rfl, k1, k2, k3⟩
        have hj : j < bs.length := by
          have := (List.getElem?_eq_some_iff.mp hx).1
          rwa [List.length_map] at this
        have hjt : j < ts.length := by rw [← e3.len]; exact hj
        obtain rfl : V.ref bs[j] = x := by
          rw [refs_at (List.getElem?_eq_getElem hj)] at hx
          exact Option.some.inj hx
        have htup : H2 bs[j] = some (.tup (tV ts[j])) := k1 _ _ (e3.at_ j _ _ (List.getElem?_eq_getElem hj) (List.getElem?_eq_getElem hjt))
        have egoal : (ts ++ (ts.take (j + 1)).flatMap fun t => h.map fun s => nx3 t h s) = (ts ++ (ts.take j).flatMap fun t => h.map fun s => nx3 t h s) ++ h.map fun s => nx3 ts[j] h s := by
          rw [List.take_add_one, List.getElem?_eq_getElem hjt, List.flatMap_append, List.append_assoc]
          simp
        have fewp := part_few (j + 1) few1
        rw [egoal, List.length_append, List.length_map] at fewp
        rw [egoal]
        generalize ts[j] = t at *
        generalize bs[j] = bj at *
        refine ⟨bj, tV t, rfl, ofT htup, rfl, .int (t.1 : Nat), _, rfl, .int (t.2.1 : Nat), _, rfl, .int (t.2.2 : Nat), [], rfl, rfl, ?_⟩
        have hrow2 := k1 _ _ hrow
        refine ⟨.ref l, rfl, .ref ai, rfl, ai, rfl, ⟨_, ofL hrow2⟩, fun D hD => ?_⟩
        have nlD : l ≠ D := ne_of_none k2 hD
        refine lc_list (K := K) (a := ai) (xs := vI h) (fun m H3 => ∃ ds : List Addr, Same H2 H3 ∧ H3 D = some (.lst (ds.map V.ref)) ∧ Tps H3 ds ((h.take m).map fun s => nx3 t h s)) ⟨[], same_upd hD, upd_same, .nil⟩
          (fun m H3 hm ⟨_, j1, _⟩ => ofL (j1 _ _ hrow2)) (fun m x H3 hx3 ⟨ds, j1, j2, j3⟩ => ?_) (fun H3 ⟨ds, j1, j2, j3⟩ => ?_)
        · have hm : m < h.length := by
            have := (List.getElem?_eq_some_iff.mp hx3).1
            rwa [vI_len] at this
          obtain rfl : V.int (h[m] : Nat) = x := by
            rw [vI_at hm] at hx3
            exact Option.some.inj hx3
          refine ⟨rfl, kept ⟨.int (t.1 : Nat), rfl, (t.1 : Nat), 1, rfl, rfl, .int (t.2.1 : Nat), rfl, .ref ai, rfl, ai, _, rfl, .inl (ofL (j1 _ _ hrow2)), (t.2.1 : Nat), ((vI h).length : Nat), rfl, rfl, .int (t.2.2 : Nat), rfl, .int (h[m] : Nat), rfl, (t.2.2 : Nat), (h[m] : Nat), rfl, rfl, by show 3 ≤ sizeLine; decide, fun tp htp => ?_⟩⟩
          have nDt : D ≠ tp := ne_of_none j2 htp
          have etp : [V.int (((t.1 : Nat) : Int) + 1), V.int (((t.2.1 : Nat) : Int) + ((vI h).length : Nat)), V.int (((t.2.2 : Nat) : Int) + (h[m] : Nat))] = tV (nx3 t h h[m]) := by
            rw [vI_len]
            rfl
          have s3 : Same H3 (L2.upd (L2.upd H3 tp (.tup (tV (nx3 t h h[m])))) D (.lst ((ds ++ [tp]).map V.ref))) ∨ True := .inr trivial
          refine ⟨ds.map V.ref, by rw [upd_ne nDt]; exact j2, ?_, ds ++ [tp], fun c o e => ?_, ?_, ?_⟩
          · rw [List.length_map, j3.len, List.length_map, List.length_take]
            exact fewlt (by omega)
          · rw [upd_ne (ne_of_none e hD), upd_ne (ne_of_none (j1 _ _ e) htp)]
            exact j1 _ _ e
          · rw [upd_same, List.map_append]
            rfl
          · rw [List.take_add_one, List.getElem?_eq_getElem hm, List.map_append]
            refine Tps.app ⟨j3.len, fun i b u q1 q2 => ?_⟩ (.one ?_)
            · have hbu := j3.at_ i b u q1 q2
              rw [upd_ne (ne_of hbu j2 (by intro z; cases z)), upd_ne (ne_of_none hbu htp)]
              exact hbu
            · rw [upd_ne nDt.symm, upd_same]
              exact congrArg (fun z => some (HO.tup z)) etp
        · rw [vI_len, List.take_of_length_le (Nat.le_refl _)] at j3
          refine ⟨l, D, cs.map V.ref, ds.map V.ref, rfl, rfl, j1 _ _ k2, j2, ?_, fun pn hpn => ?_⟩
          · rw [List.length_map, List.length_map, k3.len, j3.len, List.length_map]
            exact few (by omega)
          · refine ⟨pn, cs ++ ds, _, _, _, _, rfl, (k1.trans j1).trans (same_upd hpn), ?_, ?_⟩
            · rw [upd_same, List.map_append]
            · exact ((k3.same j1).app j3).same (same_upd hpn)
      · rintro σ H2 ⟨l, cs, y4, y5, y6, y7, rfl, k1, k2, k3⟩
        rw [List.length_map, e3.len, List.take_length] at k3
        exact ⟨.ref l, rfl, l, cs, _, _, _, _, _, _, rfl, e1.trans k1, k2, k3⟩
    · rintro σ H' ⟨p, bs, y2, y3, y4, y5, y6, y7, rfl, e1, e2, e3⟩
      rw [List.length_map, hR.len, List.take_length] at e3
      exact ⟨.ref p, rfl, q H' p bs e1 e2 e3⟩
end
end Ev
namespace Ev
open PySem PySem.Spec PyProof.Rows L2
theorem sm_take {α : Type} (f : α → Nat) {l : List α} {i : Nat} (h : i < l.length) : sm f (l.take (i + 1)) = sm f (l.take i) + f l[i] := by
  rw [List.take_add_one, List.getElem?_eq_getElem h, sm_append]
  rfl
section
variable {P : Program} {w : World} {K : PySem.W.Frag} {mg : Str → Option Value} {base : Heap}
/-! ### _law_follow -/
abbrev sLFollow : Stmt := topS 45
theorem scLFollow : FnScope ["_law_many", "_law_begun", "_law_count", "_law_closed", "_law_ring", "_law_heaps_here", "_law_total", "_law_chosen_here", "_law_places", "_law_rings_here", "_law_ways", "_law_others", "_law_k", "_law_turn"] ["_law_many", "_law_begun", "_law_count"] (defScope sLFollow) :=
  ⟨rfl, rfl, rfl, by decide +kernel, rfl, by decide +kernel, by decide +kernel⟩
def spLFollow (K : PySem.W.Frag) : Sp := fun vs H Q _ => ∃ (n : Nat) (a : Addr) (b : List Nat) (c : Nat), vs = [.int (n : Nat), .ref a, .int (c : Nat)] ∧ SqT K H a (vI b) ∧ b.length ≤ n ∧ n ≤ 8 ∧ Ent b n ∧ ∀ H', Same H H' → Q (.int (W n c b : Nat)) H'
theorem ok_lFollow {f : Addr} {fd : FuncData} {k : Nat} (F : Fun K "_law_follow" "_law_follow" sLFollow f fd) (M : Mg mg) (C1 : Cal P w K mg base "_law_heaps" k ["_law_many", "_law_begun"] (spLHeaps K)) (C2 : Cal P w K mg base "_law_chosen" k ["_law_heaps_here"] (spLChosen K)) :
    FnOk P w K mg base CX0 (k + 1) f fd ["_law_many", "_law_begun", "_law_count"] (spLFollow K) := by
  refine F.ok scLFollow (fun vs H Q E h => ?_) (fun cdv A outer s H vs Q E hr h => ?_)
  · obtain ⟨n, a, b, c, rfl, _⟩ := h
    rfl
  · obtain ⟨n, a, b, c, rfl, hS, hbn, hn, hb, q⟩ := h
    have nd := scLFollow.nd
    refine ⟨_, pss_cons (ps_asg (pe_cal C1 hr (by rfl) (pa_cons (pv 0) (pa_cons (pv 1) (pa_nil)))) (pg_unl rfl (pgs_cons (pg_name (i := 3) nd rfl (Or.inl rfl)) (pgs_cons (pg_name (i := 4) nd rfl (Or.inl rfl)) (pgs_cons (pg_name (i := 5) nd rfl (Or.inl rfl)) pgs_nil))) rfl rfl)) (pss_cons (ps_set (i := 6) nd rfl (.inl rfl) (pe_int)) (pss_cons (ps_for PassesOwn.never rfl (pi_list (pe_cal C2 hr (by rfl) (pa_cons (pv 5) (pa_nil)))) (pg_tup rfl (pgs_cons (pg_name (i := 7) nd rfl (Or.inl rfl)) (pgs_cons (pg_name (i := 8) nd rfl (Or.inl rfl)) (pgs_cons (pg_name (i := 9) nd rfl (Or.inl rfl)) (pgs_nil))))) (pss_one (ps_if (pt_cmpR op_eq (pe_op op_add (pv 4) (pv 9)) (pv 2) (nomark _)) (pss_cons (ps_par (i := 10) (j := 11) rfl nd rfl rfl (by decide) rfl rfl (pa_cons (pe_int) (pa_cons (pe_op op_sub (pe_callB call_len_seq (by rfl) M.len PySem.boot_len (pa_cons (pv 5) (pa_nil))) (pv 7)) (pa_nil))) (by rfl)) (pss_cons (ps_for PassesOwn.never rfl (pi_range1 (by rfl) M.range (pa_cons (pv 7) (pa_nil))) (pg_name (i := 12) nd rfl (Or.inl rfl)) (pss_one (ps_set (i := 10) nd rfl (.inl rfl) (pe_op op_mul (pv 10) (pe_op op_add (pv 12) (pe_int)))))) (C8.pss_cut (ps_if (pt_cmpR op_gt (pv 11) (pe_int) (nomark _)) (pss_one (ps_set (i := 10) nd rfl (.inl rfl) (pe_op op_mul (pv 10) (pe_op op_add (pv 3) (pv 8))))) (pss_nil)) (pss_cons (ps_for PassesOwn.never rfl (pi_range1 (by rfl) M.range (pa_cons (pe_op op_sub (pv 11) (pe_int)) (pa_nil))) (pg_name (i := 13) nd rfl (Or.inl rfl)) (pss_one (ps_set (i := 10) nd rfl (.inl rfl) (pe_op op_mul (pv 10) (pv 0))))) (pss_one (ps_set (i := 6) nd rfl (.inl rfl) (pe_op op_add (pv 6) (pv 10)))))))) (pss_nil)))) (pss_one (ps_ret (pv 6))))), ?_⟩
    refine ⟨.int (n : Nat), rfl, .ref a, rfl, n, a, b, rfl, hS, hbn, by omega, hb, fun H1 p1 q1 as s1 h1 h2 hR => ?_⟩
    refine ⟨p1, _, rfl, ofL h1, rfl, .int (cl b n : Nat), _, rfl, .int (rg b n : Nat), _, rfl, .ref q1, [], rfl, rfl, ?_⟩
    have htot := tot_heaps hb
    have hcl : cl b n ≤ n := clU_le (i := n)
    have hM : as.length = n - b.length := by rw [hR.len, ← heapsU_all, heapsU_len]
    refine ⟨.ref q1, rfl, q1, as, heaps b n, rfl, h2, hR, by omega, fun H2 p2 bs s2 h3 hT => ?_⟩
    have hbd := chosen_bd (heaps b n) [(0, 0, 0)] 0 0 (fun t ht => by rw [List.mem_singleton.mp ht]; exact ⟨Nat.le_refl _, Nat.le_refl _⟩)
    have hsum := chosen_sum (wt n c (n - b.length) (cl b n) (rg b n)) (heaps b n) [(0, 0, 0)]
    have hW : sm (fun t => Ev.E (heaps b n) (shT (wt n c (n - b.length) (cl b n) (rg b n)) t)) [(0, 0, 0)] = W n c b := by
      show Ev.E (heaps b n) (shT (wt n c (n - b.length) (cl b n) (rg b n)) (0, 0, 0)) + 0 = W n c b
      rw [Nat.add_zero]
      rfl
    rw [hW] at hsum
    have hhl : (heaps b n).length = n - b.length := by rw [← heapsU_all, heapsU_len]
    rw [hhl] at hbd
    generalize (heaps b n).foldl chStep [(0, 0, 0)] = ts at hT hbd hsum
    generalize hF : (fun t : T3 => wt n c (n - b.length) (cl b n) (rg b n) t.1 t.2.1 t.2.2) = Fw at hsum
    have hq1 : ∀ {H3 : Hp}, Same H2 H3 → H3 q1 = some (.lst (as.map V.ref)) := fun s3 => s3 _ _ (s2 _ _ h2)
    refine ⟨p2, rfl, ⟨_, ofL h3⟩, for_list (K := K) (a := p2) (xs := bs.map V.ref) (fun j σ H' => ∃ y7 y8 y9 y10 y11 y12 y13 : Option V, σ = [some (.int (n : Nat)), some (.ref a), some (.int (c : Nat)), some (.int (cl b n : Nat)), some (.int (rg b n : Nat)), some (.ref q1), some (.int (sm Fw (ts.take j) : Nat)), y7, y8, y9, y10, y11, y12, y13] ∧ Same H2 H')
      ⟨none, none, none, none, none, none, none, rfl, Same.refl _⟩ (fun j σ H' hj ⟨_, _, _, _, _, _, _, _, e1⟩ => ofL (e1 _ _ h3)) ?_ ?_⟩
    · rintro j x σ H' hx ⟨y7, y8, y9, y10, y11, y12, y13, rfl, e1⟩
      have hj : j < bs.length := by
        have := (List.getElem?_eq_some_iff.mp hx).1
        rwa [List.length_map] at this
      have hjt : j < ts.length := by rw [← hT.len]; exact hj
      obtain rfl : V.ref bs[j] = x := by
        rw [refs_at (List.getElem?_eq_getElem hj)] at hx
        exact Option.some.inj hx
      have htup : H' bs[j] = some (.tup (tV ts[j])) := e1 _ _ (hT.at_ j _ _ (List.getElem?_eq_getElem hj) (List.getElem?_eq_getElem hjt))
      obtain ⟨b1, b2⟩ := hbd _ (List.getElem_mem hjt)
      have enext : sm Fw (ts.take (j + 1)) = sm Fw (ts.take j) + Fw ts[j] := sm_take Fw hjt
      rw [enext]
      clear enext
      have hft : Fw ts[j] = wt n c (n - b.length) (cl b n) (rg b n) ts[j].1 ts[j].2.1 ts[j].2.2 := by rw [← hF]
      rw [hft]
      generalize ts[j] = t at *
      generalize bs[j] = bj at *
      generalize sm Fw (ts.take j) = T
      clear hft hx
      refine ⟨bj, tV t, rfl, ofT htup, rfl, .int (t.1 : Nat), _, rfl, .int (t.2.1 : Nat), _, rfl, .int (t.2.2 : Nat), [], rfl, rfl, ?_⟩
      refine ⟨.int (rg b n : Nat), rfl, .int (t.2.2 : Nat), rfl, (rg b n : Nat), (t.2.2 : Nat), rfl, rfl, .int (c : Nat), rfl, rfl, _, rfl, ite2 (fun he => ?_) (fun hne => ?_)⟩
      · have he' : rg b n + t.2.2 = c := by
          have := V.int.inj (of_decide_eq_true he)
          omega
        have hwt : wt n c (n - b.length) (cl b n) (rg b n) t.1 t.2.1 t.2.2 = fact t.1 * hung n (cl b n + t.2.1) (n - b.length - t.1) := by
          unfold wt
          rw [if_pos he']
        rw [hwt]
        obtain ⟨o, ho⟩ : ∃ o, n - b.length - t.1 = o := ⟨_, rfl⟩
        rw [ho]
        have eo : ((((as.map V.ref).length : Nat) : Int) - (t.1 : Nat)) = ((o : Nat) : Int) := by
          rw [List.length_map, hM]
          omega
        refine ⟨.ref q1, rfl, q1, _, rfl, .inl (ofL (hq1 e1)), .int (t.1 : Nat), rfl, (((as.map V.ref).length : Nat) : Int), (t.1 : Nat), rfl, rfl, .int 1, _, rfl, ?_⟩
        refine ⟨.int (t.1 : Nat), rfl, t.1, rfl, by omega, by omega, for_range (n := t.1) (fun i σ H3 => ∃ y12 y13 : Option V, σ = [some (.int (n : Nat)), some (.ref a), some (.int (c : Nat)), some (.int (cl b n : Nat)), some (.int (rg b n : Nat)), some (.ref q1), some (.int (T : Nat)),
          some (.int (t.1 : Nat)), some (.int (t.2.1 : Nat)), some (.int (t.2.2 : Nat)), some (.int (fact i : Nat)), some (.int (o : Nat)), y12, y13] ∧ H3 = H') ⟨y12, y13, ?_, rfl⟩ ?_ ?_⟩
        · show [_, _, _, _, _, _, _, _, _, _, some (V.int 1), some (V.int ((((as.map V.ref).length : Nat) : Int) - (t.1 : Nat))), _, _] = _
          rw [eo]
          rfl
        · rintro i σ H3 hi ⟨z12, z13, rfl, rfl⟩
          refine ⟨_, rfl, .int (0 + (i : Nat)), rfl, 0 + (i : Nat), 1, rfl, rfl, (fact i : Nat), 0 + (i : Nat) + 1, rfl, rfl, .inr ⟨by omega, by omega⟩, some (.int (0 + (i : Nat))), z13, ?_, rfl⟩
          show [_, _, _, _, _, _, _, _, _, _, some (V.int (((fact i : Nat) : Int) * (0 + (i : Nat) + 1))), _, _, _] = _
          rw [show (0 : Int) + ((i : Nat) : Int) + 1 = ((i + 1 : Nat) : Int) by omega, ← Int.natCast_mul, Nat.mul_comm]
          rfl
        · rintro σ H3 ⟨z12, z13, rfl, rfl⟩
          refine ⟨fun σ' H4 => ∃ (u : Nat), σ' = [some (.int (n : Nat)), some (.ref a), some (.int (c : Nat)), some (.int (cl b n : Nat)), some (.int (rg b n : Nat)), some (.ref q1), some (.int (T : Nat)),
            some (.int (t.1 : Nat)), some (.int (t.2.1 : Nat)), some (.int (t.2.2 : Nat)), some (.int (u : Nat)), some (.int (o : Nat)), z12, z13] ∧ H4 = H3 ∧ u = if o = 0 then fact t.1 else fact t.1 * (cl b n + t.2.1), ?_, ?_⟩
          · refine ⟨.int (o : Nat), rfl, (o : Nat), 0, rfl, rfl, _, rfl, ite2 (fun hp => ?_) (fun hz => ?_)⟩
            · have ho1 : ¬ o = 0 := by
                have := of_decide_eq_true hp
                omega
              refine ⟨.int (fact t.1 : Nat), rfl, .int (cl b n : Nat), rfl, .int (t.2.1 : Nat), rfl, (cl b n : Nat), (t.2.1 : Nat), rfl, rfl, (fact t.1 : Nat), _, rfl, rfl, .inr ⟨by omega, by omega⟩, fact t.1 * (cl b n + t.2.1), ?_, rfl, by rw [if_neg ho1]⟩
              show [_, _, _, _, _, _, _, _, _, _, some (V.int (((fact t.1 : Nat) : Int) * (((cl b n : Nat) : Int) + (t.2.1 : Nat)))), _, _, _] = _
              rw [show (((cl b n : Nat) : Int) + ((t.2.1 : Nat) : Int)) = ((cl b n + t.2.1 : Nat) : Int) by omega, ← Int.natCast_mul]
            · have ho1 : o = 0 := by
                have : ¬ ((o : Int) > 0) := fun z => hz (decide_eq_true z)
                omega
              exact ⟨fact t.1, rfl, rfl, by rw [if_pos ho1]⟩
          · rintro σ' H4 ⟨u, rfl, rfl, hu⟩
            refine ⟨.int (o : Nat), rfl, (o : Nat), 1, rfl, rfl, ((o : Nat) : Int) - 1, rfl, by omega, by omega, for_range (n := (((o : Nat) : Int) - 1).toNat) (fun i σ H5 => ∃ y13 : Option V, σ = [some (.int (n : Nat)), some (.ref a), some (.int (c : Nat)), some (.int (cl b n : Nat)), some (.int (rg b n : Nat)), some (.ref q1), some (.int (T : Nat)),
              some (.int (t.1 : Nat)), some (.int (t.2.1 : Nat)), some (.int (t.2.2 : Nat)), some (.int (u * n ^ i : Nat)), some (.int (o : Nat)), z12, y13] ∧ H5 = H4) ⟨z13, by rw [Nat.pow_zero, Nat.mul_one], rfl⟩ ?_ ?_⟩
            · rintro i σ H5 hi ⟨w13, rfl, rfl⟩
              refine ⟨_, rfl, .int (n : Nat), rfl, (u * n ^ i : Nat), (n : Nat), rfl, rfl, .inr ⟨by omega, by omega⟩, some (.int (0 + (i : Nat))), ?_, rfl⟩
              show [_, _, _, _, _, _, _, _, _, _, some (V.int (((u * n ^ i : Nat) : Int) * (n : Nat))), _, _, _] = _
              rw [← Int.natCast_mul, Nat.mul_assoc, ← Nat.pow_succ]
            · rintro σ H5 ⟨w13, rfl, rfl⟩
              refine ⟨.int (T : Nat), rfl, _, rfl, (T : Nat), _, rfl, rfl, some (.int (t.1 : Nat)), some (.int (t.2.1 : Nat)), some (.int (t.2.2 : Nat)), some (.int (u * n ^ (((o : Nat) : Int) - 1).toNat : Nat)), some (.int (o : Nat)), z12, w13, ?_, e1⟩
              show [_, _, _, _, _, _, some (V.int (((T : Nat) : Int) + ((u * n ^ (((o : Nat) : Int) - 1).toNat : Nat) : Int))), _, _, _, _, _, _, _] = _
              have ev : u * n ^ (((o : Nat) : Int) - 1).toNat = fact t.1 * hung n (cl b n + t.2.1) o := by
                rw [hu, show (((o : Nat) : Int) - 1).toNat = o - 1 by omega]
                unfold hung
                by_cases h0 : o = 0
                · rw [if_pos h0, if_pos h0, h0]
                  show fact t.1 * n ^ 0 = fact t.1 * 1
                  rw [Nat.pow_zero]
                · rw [if_neg h0, if_neg h0, Nat.mul_assoc]
              rw [ev]
              rfl
      · have he' : ¬ rg b n + t.2.2 = c := fun z => hne (decide_eq_true (by
          show V.int (((rg b n : Nat) : Int) + ((t.2.2 : Nat) : Int)) = V.int (c : Nat)
          rw [show (((rg b n : Nat) : Int) + ((t.2.2 : Nat) : Int)) = ((rg b n + t.2.2 : Nat) : Int) by omega, z]))
        have hwt : wt n c (n - b.length) (cl b n) (rg b n) t.1 t.2.1 t.2.2 = 0 := by
          unfold wt
          rw [if_neg he']
        rw [hwt]
        exact ⟨_, _, _, _, _, _, _, rfl, e1⟩
    · rintro σ H' ⟨y7, y8, y9, y10, y11, y12, y13, rfl, e1⟩
      rw [List.length_map, hT.len, List.take_length, hsum]
      exact ⟨_, rfl, q H' (s1.trans (s2.trans e1))⟩
end
end Ev
namespace Ev
open PySem PySem.Spec PyProof.Rows L2
/-! ### the dict of the ways -/
def kk (t : T3) : List Key := [.inl (t.1 : Int), .inl (t.2.1 : Int), .inl (t.2.2 : Int)]
theorem kk_inj {t u : T3} (h : kk t = kk u) : t = u := by
  obtain ⟨a, b, c⟩ := t
  obtain ⟨a', b', c'⟩ := u
  unfold kk at h
  injection h with h1 h2
  injection h2 with h2 h3
  injection h3 with h3 _
  have e1 := Sum.inl.inj h1
  have e2 := Sum.inl.inj h2
  have e3 := Sum.inl.inj h3
  simp only at e1 e2 e3
  have e1' : a = a' := by omega
  have e2' : b = b' := by omega
  have e3' : c = c' := by omega
  subst e1'; subst e2'; subst e3'
  rfl
theorem kk_tV (t : T3) : (kk t).map kV = tV t := rfl
def dd (d : Dn) : List (List Key × V) := d.map fun e => (kk e.1, V.int (e.2 : Nat))
theorem dd_len (d : Dn) : (dd d).length = d.length := List.length_map _
theorem dd_at {d : Dn} {i : Nat} (h : i < d.length) : (dd d)[i]? = some (kk d[i].1, V.int (d[i].2 : Nat)) := by
  unfold dd
  rw [List.getElem?_map, List.getElem?_eq_getElem h]
  rfl
theorem dd_dec (t u : T3) : decide (kk t = kk u) = decide (t = u) := by
  by_cases e : t = u
  · subst e
    simp
  · rw [decide_eq_false e, decide_eq_false fun z => e (kk_inj z)]
theorem dd_look : ∀ (d : Dn) (k : T3), (valV (dd d) (kk k)).getD (.int 0) = .int (lookN d k : Nat)
  | [], k => rfl
  | e :: d, k => by
    have ih := dd_look d k
    by_cases h : e.1 = k
    · have : valV (dd (e :: d)) (kk k) = some (V.int (e.2 : Nat)) := valV_pos (p := (kk e.1, V.int (e.2 : Nat))) (by rw [h])
      rw [this]
      simp [lookN, h]
    · have : valV (dd (e :: d)) (kk k) = valV (dd d) (kk k) := valV_neg (p := (kk e.1, V.int (e.2 : Nat))) fun z => h (kk_inj z)
      rw [this, ih]
      simp [lookN, h]
theorem dd_put (d : Dn) (k : T3) (x : Nat) : putK (dd d) (kk k) (.int (x : Nat)) = dd (putN d k x) := by
  have ea : ((dd d).any fun kv => decide (kv.1 = kk k)) = d.any fun e => decide (e.1 = k) := by
    unfold dd
    rw [List.any_map]
    congr 1
    funext e
    exact dd_dec e.1 k
  unfold putK putN
  rw [ea]
  by_cases h : (d.any fun e => decide (e.1 = k)) = true
  · rw [if_pos h, if_pos h]
    unfold dd
    rw [List.map_map, List.map_map]
    refine List.map_congr_left fun e _ => ?_
    show (if kk e.1 = kk k then (kk e.1, V.int (x : Nat)) else (kk e.1, V.int (e.2 : Nat))) = _
    by_cases he : e.1 = k
    · rw [if_pos (by rw [he])]
      show _ = (kk (if e.1 = k then (e.1, x) else e).1, V.int ((if e.1 = k then (e.1, x) else e).2 : Nat))
      rw [if_pos he]
    · rw [if_neg fun z => he (kk_inj z)]
      show _ = (kk (if e.1 = k then (e.1, x) else e).1, V.int ((if e.1 = k then (e.1, x) else e).2 : Nat))
      rw [if_neg he]
  · rw [if_neg h, if_neg h]
    unfold dd
    rw [List.map_append]
    rfl
theorem kk_hash {P : Program} {w : World} (t : T3) : tupleKeyHash (mixKind P w) (kk t) = h3 t.1 t.2.1 t.2.2 := by
  have e : (kk t).map (mixKind P w).hash = [hashInt (t.1 : Int), hashInt (t.2.1 : Int), hashInt (t.2.2 : Int)] := rfl
  unfold tupleKeyHash h3
  rw [e]
theorem dd_hashes {P : Program} {w : World} : ∀ d : Dn, ((dd d).map fun kv => tupleKeyHash (mixKind P w) kv.1) = d.map fun e => h3 e.1.1 e.1.2.1 e.1.2.2
  | [] => rfl
  | e :: d => by
    show tupleKeyHash (mixKind P w) (kk e.1) :: ((dd d).map fun kv => tupleKeyHash (mixKind P w) kv.1) = h3 e.1.1 e.1.2.1 e.1.2.2 :: _
    rw [kk_hash, dd_hashes d]
theorem dd_hash {P : Program} {w : World} {d : Dn} (hn : (d.map (·.1)).Nodup) (hb : ∀ e ∈ d, e.1.1 ≤ 8 ∧ e.1.2.1 ≤ 8 ∧ e.1.2.2 ≤ 8) : ((dd d).map fun kv => tupleKeyHash (mixKind P w) kv.1).Nodup := by
  rw [dd_hashes]
  unfold List.Nodup at hn ⊢
  rw [List.pairwise_map] at hn ⊢
  refine List.Pairwise.imp_of_mem ?_ hn
  intro x y hx hy ne e
  obtain ⟨x1, x2, x3⟩ := hb x hx
  obtain ⟨y1, y2, y3⟩ := hb y hy
  obtain ⟨q1, q2, q3⟩ := h3_inj x1 x2 x3 y1 y2 y3 e
  exact ne (Prod.ext q1 (Prod.ext q2 q3))
/-- the loop over the items of a dict that is locked -/
theorem for_itemsT {d : Addr} {o : Obj} {kvs : List (List Key × V)} {g : TG} {tb : TS} {D : Ends} {σ : L2.St} {H : Hp} (Pv : Nat → L2.St → Hp → Prop) (h0 : Pv 0 σ H) (hl : ∀ i σ H, Pv i σ H → H d = some (.frz o (.dT kvs)))
    (hs : ∀ (i : Nat) (k : List Key) (v : V) (T q : Addr) (σ : L2.St) (H : Hp), kvs[i]? = some (k, v) → H T = none → H q = some (.tup (k.map kV)) → Pv i σ H → g (.ref T) σ (upd H T (.tup [.ref q, v])) fun σ2 H2 => tb { D with nx := Pv (i + 1), ct := Pv (i + 1), bk := D.nx } σ2 H2)
    (hd : ∀ σ H, Pv kvs.length σ H → D.nx σ H) :
    ∃ W : Nat → Nat → L2.St → Hp → Prop, (∃ m, W 0 m σ H) ∧ ∀ i m σ H, W i m σ H → ((Itit d o kvs).stop i H ∧ D.nx σ H) ∨
      ((Itit d o kvs).go i H ∧ ∃ N : L2.St → Hp → Prop, (∀ σ' H', N σ' H' → ∃ m', m' < m ∧ W (i + 1) m' σ' H') ∧ ∀ x H', (Itit d o kvs).yld i H x H' → g x σ H' fun σ2 H2 => tb { D with nx := N, ct := N, bk := D.nx } σ2 H2) := by
  refine ⟨fun i m σ H => m + i = kvs.length ∧ Pv i σ H, ⟨kvs.length, rfl, h0⟩, fun i m σ H hW => ?_⟩
  obtain ⟨hm, p⟩ := hW
  by_cases hlt : i < kvs.length
  · refine .inr ⟨⟨hl i σ H p, hlt⟩, Pv (i + 1), fun σ' H' p' => ⟨m - 1, by omega, by omega, p'⟩, fun x H' y => ?_⟩
    obtain ⟨T, q, k, v, e1, rfl, e2, e3, rfl⟩ := y
    exact hs i k v T q σ H e1 e2 e3 p
  · obtain rfl : i = kvs.length := by omega
    exact .inl ⟨⟨hl _ σ H p, Nat.le_refl _⟩, hd σ H p⟩
end Ev
namespace Ev
open PySem PySem.Spec PyProof.Rows L2
section
variable {P : Program} {w : World} {K : PySem.W.Frag} {mg : Str → Option Value} {base : Heap}
/-! ### with_rings -/
theorem hung_lt {n x o : Nat} (hn : n ≤ 8) (hx : x ≤ 8) (ho : o ≤ 8) : hung n x o < 2 ^ 40 := by
  unfold hung
  split
  · decide
  · have h1 : n ^ (o - 1) ≤ 8 ^ (o - 1) := Nat.pow_le_pow_left hn _
    have h2 : 8 ^ (o - 1) ≤ 8 ^ 8 := Nat.pow_le_pow_right (by decide) (by omega)
    have h3 : x * n ^ (o - 1) ≤ 8 * 8 ^ 8 := Nat.mul_le_mul hx (Nat.le_trans h1 h2)
    have h4 : 8 * 8 ^ 8 < 2 ^ 40 := by decide
    omega
abbrev sWith : Stmt := topS 28
theorem scWith : FnScope ["begun", "many", "count", "closed", "on_rings", "heaps", "ways", "heap", "longer", "state", "number", "chosen", "places", "rings", "steps", "key", "found", "others", "hung"] ["begun", "many", "count"] (defScope sWith) :=
  ⟨rfl, rfl, rfl, by decide +kernel, rfl, by decide +kernel, by decide +kernel⟩
def spWith (K : PySem.W.Frag) : Sp := fun vs H Q _ => ∃ (n : Nat) (a : Addr) (b : List Nat) (c : Nat), vs = [.ref a, .int (n : Nat), .int (c : Nat)] ∧ SqT K H a (vI b) ∧ b.length ≤ n ∧ n ≤ 8 ∧ c ≤ 8 ∧ Ent b n ∧ ∀ H', Same H H' → Q (.int (W n c b : Nat)) H'
theorem ok_with {f : Addr} {fd : FuncData} {k : Nat} (F : Fun K "with_rings" "with_rings" sWith f fd) (M : Mg mg) (C1 : Cal P w K mg base "heaps_begun" k ["begun", "many"] (spHeaps K)) (C2 : Cal P w K mg base "times_itself" k ["base", "times"] spTimes) :
    FnOk P w K mg base CX0 (k + 1) f fd ["begun", "many", "count"] (spWith K) := by
  refine F.ok scWith (fun vs H Q E h => ?_) (fun cdv A outer s H vs Q E hr h => ?_)
  · obtain ⟨n, a, b, c, rfl, _⟩ := h
    rfl
  · obtain ⟨n, a, b, c, rfl, hS, hbn, hn, hc8, hb, q⟩ := h
    have nd := scWith.nd
    have hu := hu_of hr
    have hu64 := hr.units
    refine ⟨_, pss_cons (ps_asg (pe_cal C1 hr (by rfl) (pa_cons (pv 0) (pa_cons (pv 1) (pa_nil)))) (pg_tup rfl (pgs_cons (pg_name (i := 3) nd rfl (Or.inl rfl)) (pgs_cons (pg_name (i := 4) nd rfl (Or.inl rfl)) (pgs_cons (pg_name (i := 5) nd rfl (Or.inl rfl)) (pgs_nil)))))) (pss_cons (ps_set (i := 6) nd rfl (.inl rfl) (pe_disp1 hu (pe_tup (pa_cons (pe_int) (pa_cons (pv 3) (pa_cons (pv 4) (pa_nil))))) pe_int)) (pss_cons (ps_for PassesOwn.never rfl (pi_list (pv 5)) (pg_name (i := 7) nd rfl (Or.inl rfl)) (pss_cons (ps_set (i := 8) nd rfl (.inl rfl) (pe_callTy (cr_dictT hu64) (by rfl) M.dict (by decide +kernel) (pa_cons (pv 6) (pa_nil)))) (pss_cons (ps_lock (ps_for PassesOwn.never rfl (pi_itemsT (pv 6)) (pg_tup rfl (pgs_cons (pg_name (i := 9) nd rfl (Or.inl rfl)) (pgs_cons (pg_name (i := 10) nd rfl (Or.inl rfl)) (pgs_nil)))) (pss_cons (ps_asg (pv 9) (pg_tup rfl (pgs_cons (pg_name (i := 11) nd rfl (Or.inl rfl)) (pgs_cons (pg_name (i := 12) nd rfl (Or.inl rfl)) (pgs_cons (pg_name (i := 13) nd rfl (Or.inl rfl)) (pgs_nil)))))) (pss_one (ps_for PassesOwn.never rfl (pi_list (pv 7)) (pg_name (i := 14) nd rfl (Or.inl rfl)) (pss_one (ps_if (pt_cmpR op_le (pe_op op_add (pv 13) (pv 14)) (pv 2) (nomark _)) (pss_cons (ps_set (i := 15) nd rfl (.inl rfl) (pe_tup (pa_cons (pe_op op_add (pv 11) (pe_int)) (pa_cons (pe_op op_add (pv 12) (pe_callB call_len_seq (by rfl) M.len PySem.boot_len (pa_cons (pv 7) (pa_nil)))) (pa_cons (pe_op op_add (pv 13) (pv 14)) (pa_nil)))))) (pss_one (ps_dput hu (pv 8) (pv 15) (pe_op op_add (pe_dget2 hu (pv 8) (pv 15) pe_int ⟨rfl, rfl, rfl, rfl⟩) (pv 10)) rfl))) (pss_nil)))))))) (pss_one (ps_set (i := 6) nd rfl (.inl rfl) (pv 8)))))) (pss_cons (ps_set (i := 16) nd rfl (.inl rfl) (pe_int)) (pss_cons (ps_lock (ps_for PassesOwn.never rfl (pi_itemsT (pv 6)) (pg_tup rfl (pgs_cons (pg_name (i := 9) nd rfl (Or.inl rfl)) (pgs_cons (pg_name (i := 10) nd rfl (Or.inl rfl)) (pgs_nil)))) (pss_cons (ps_asg (pv 9) (pg_tup rfl (pgs_cons (pg_name (i := 11) nd rfl (Or.inl rfl)) (pgs_cons (pg_name (i := 12) nd rfl (Or.inl rfl)) (pgs_cons (pg_name (i := 13) nd rfl (Or.inl rfl)) (pgs_nil)))))) (pss_cons (ps_set (i := 17) nd rfl (.inl rfl) (pe_op op_sub (pe_callB call_len_seq (by rfl) M.len PySem.boot_len (pa_cons (pv 5) (pa_nil))) (pv 11))) (C8.pss_cut (ps_set (i := 18) nd rfl (.inl rfl) (pe_ifExp (pt_cmpR op_gt (pv 17) (pe_int) (nomark _)) (pe_op op_mul (pv 12) (pe_cal C2 hr (by rfl) (pa_cons (pv 1) (pa_cons (pe_op op_sub (pv 17) (pe_int)) (pa_nil))))) (pe_int))) (pss_one (ps_aug (i := 16) nd rfl (.inl rfl) (pe_ifExp (pt_cmpR op_eq (pv 13) (pv 2) (nomark _)) (pe_op op_mul (pe_op op_mul (pv 10) (pe_callBfun cr_fact (by rfl) M.fact (pa_cons (pv 11) (pa_nil)))) (pv 18)) (pe_int)) ip_add))))))) (pss_one (ps_ret (pv 16))))))), ?_⟩
    refine ⟨.ref a, rfl, .int (n : Nat), rfl, n, a, b, rfl, hS, hbn, by omega, hb, fun H1 p1 q1 as s1 h1 h2 hR => ?_⟩
    refine ⟨p1, _, rfl, ofT h1, rfl, .int (cl b n : Nat), _, rfl, .int (rg b n : Nat), _, rfl, .ref q1, [], rfl, rfl, ?_⟩
    have htot := tot_heaps hb
    have hcl : cl b n ≤ n := clU_le (i := n)
    have hrg : rg b n ≤ n := rgU_le (i := n)
    have hM : as.length = n - b.length := by rw [hR.len, ← heapsU_all, heapsU_len]
    have hhl : (heaps b n).length = n - b.length := by rw [← heapsU_all, heapsU_len]
    -- {(0, closed, on_rings): 1}
    intro dW hdW
    refine ⟨.int (cl b n : Nat), rfl, .int (rg b n : Nat), rfl, by show 3 ≤ sizeLine; decide, fun t0 ht0 => ?_⟩
    have n0 : dW ≠ t0 := ne_of_none upd_same ht0
    refine ⟨by rw [upd_ne n0, upd_same], t0, kk (0, cl b n, rg b n), rfl, by rw [upd_same]; rfl, ?_⟩
    have hst : Same H1 (upd (upd (upd H1 dW (.dT [])) t0 (.tup [.int 0, .int (cl b n : Nat), .int (rg b n : Nat)])) dW (.dT [(kk (0, cl b n, rg b n), .int 1)])) := fun x o e => by
      rw [upd_ne (ne_of_none e hdW), upd_ne (ne_of_none ((same_upd hdW) _ _ e) ht0), upd_ne (ne_of_none e hdW)]
      exact e
    have hWs : Ev.E (heaps b n) (shT (wt n c (n - b.length) 0 0) (0, cl b n, rg b n)) = W n c b := E_start _
    generalize hhs : heaps b n = hs at *
    -- the heaps one by one
    refine ⟨.ref q1, rfl, q1, rfl, ⟨_, ofL (hst _ _ h2)⟩, for_list (K := K) (a := q1) (xs := as.map V.ref) (fun i σ H' => ∃ (dW : Addr) (d : Dn) (y7 y8 y9 y10 y11 y12 y13 y14 y15 : Option V),
      σ = [some (.ref a), some (.int (n : Nat)), some (.int (c : Nat)), some (.int (cl b n : Nat)), some (.int (rg b n : Nat)), some (.ref q1), some (.ref dW), y7, y8, y9, y10, y11, y12, y13, y14, y15, none, none, none] ∧
      Same H1 H' ∧ H1 dW = none ∧ H' dW = some (.dT (dd d)) ∧ (d.map (·.1)).Nodup ∧ (∀ e ∈ d, e.1.1 ≤ i ∧ e.1.2.1 ≤ cl b n + tot (hs.take i) ∧ e.1.2.2 ≤ 8) ∧ d.length ≤ 2 ^ tot (hs.take i) ∧
      WS (fun t => Ev.E (hs.drop i) (shT (wt n c (n - b.length) 0 0) t)) d = W n c b)
      ⟨dW, [((0, cl b n, rg b n), 1)], none, none, none, none, none, none, none, none, none, rfl, hst, hdW, upd_same, by simp, ?_, Nat.le_refl _, ?_⟩ (fun i σ H' hi ⟨_, _, _, _, _, _, _, _, _, _, _, _, e1, _⟩ => ofL (e1 _ _ h2)) ?_ ?_⟩
    · intro e he
      rw [List.mem_singleton.mp he]
      exact ⟨Nat.le_refl _, by show cl b n ≤ _; omega, by show rg b n ≤ 8; omega⟩
    · show 1 * Ev.E hs (shT (wt n c (n - b.length) 0 0) (0, cl b n, rg b n)) + 0 = W n c b
      rw [hWs]
      omega
    · clear hst hdW ht0 n0 dW t0
      rintro i x σ H' hx ⟨dW, d, y7, y8, y9, y10, y11, y12, y13, y14, y15, rfl, e1, e2, e3, e4, e5, e6, e7⟩
      have hi : i < as.length := by
        have := (List.getElem?_eq_some_iff.mp hx).1
        rwa [List.length_map] at this
      have hih : i < hs.length := by rw [← hR.len]; exact hi
      obtain rfl : V.ref as[i] = x := by
        rw [refs_at (List.getElem?_eq_getElem hi)] at hx
        exact Option.some.inj hx
      have hrow : H' as[i] = some (.lst (vI hs[i])) := e1 _ _ (hR.at_ i _ _ (List.getElem?_eq_getElem hi) (List.getElem?_eq_getElem hih))
      have htk := tot_take hih
      have htl := tot_take_le hs (i + 1)
      rw [List.drop_eq_getElem_cons hih] at e7
      have e7' : WS (fun t => Ev.E (hs.drop (i + 1)) (shT (wt n c (n - b.length) 0 0) t)) d + sm (fun e => e.2 * sm (fun s => Ev.E (hs.drop (i + 1)) (shT (wt n c (n - b.length) 0 0) (nx3 e.1 hs[i] s))) hs[i]) d = W n c b := by
        rw [← e7]
        unfold WS
        rw [← sm_add]
        refine sm_congr fun e _ => ?_
        rw [← Nat.mul_add, ← E_cons]
      have hzero : ∀ t : T3, c < t.2.2 → Ev.E (hs.drop (i + 1)) (shT (wt n c (n - b.length) 0 0) t) = 0 := fun t h => E_over h
      rw [htk]
      rw [htk] at htl
      generalize hF : (fun t : T3 => Ev.E (hs.drop (i + 1)) (shT (wt n c (n - b.length) 0 0) t)) = Fw at e7'
      have hFe : ∀ t : T3, Ev.E (hs.drop (i + 1)) (shT (wt n c (n - b.length) 0 0) t) = Fw t := fun t => by rw [← hF]
      simp only [hFe] at e7' hzero
      clear e7 hFe hF htk
      generalize hs[i] = h at *
      generalize as[i] = ai at *
      generalize tot (hs.take i) = tt at *
      have hi8 : i < 8 := by omega
      have h2k : 2 ^ (tt + h.length) ≤ 2 ^ 8 := Nat.pow_le_pow_right (by decide) (by omega)
      have hdl : d.length * (1 + h.length) ≤ 2 ^ (tt + h.length) := mul_two e6
      have hdl2 : d.length * (1 + h.length) = d.length + d.length * h.length := by rw [Nat.mul_add, Nat.mul_one]
      -- longer = dict(ways)
      refine ⟨.ref dW, rfl, dW, dd d, rfl, .inl e3, dd_hash e4 (fun e he => ?_), fun dl hdl0 => ?_⟩
      · have := e5 e he
        omega
      have nWl : dW ≠ dl := ne_of_none e3 hdl0
      have hlH : H1 dl = none := e1.free hdl0
      have nal : ai ≠ dl := ne_of_none hrow hdl0
      have nql : q1 ≠ dl := ne_of_none (e1 _ _ h2) hdl0
      -- the items, locked
      refine ⟨dW, .dT (dd d), by rw [upd_ne nWl]; exact e3, trivial, fun od => ?_⟩
      refine ⟨.ref dW, rfl, dW, od, dd d, rfl, upd_same, for_itemsT (fun j σ H2 => ∃ (lo : Dn) (y9 y10 y11 y12 y13 y14 y15 : Option V),
        σ = [some (.ref a), some (.int (n : Nat)), some (.int (c : Nat)), some (.int (cl b n : Nat)), some (.int (rg b n : Nat)), some (.ref q1), some (.ref dW), some (.ref ai), some (.ref dl), y9, y10, y11, y12, y13, y14, y15, none, none, none] ∧
        H2 dW = some (.frz od (.dT (dd d))) ∧ (∀ x o, x ≠ dW → x ≠ dl → H' x = some o → H2 x = some o) ∧ H2 dl = some (.dT (dd lo)) ∧ (lo.map (·.1)).Nodup ∧ (∀ e ∈ lo, e.1.1 ≤ i + 1 ∧ e.1.2.1 ≤ cl b n + (tt + h.length) ∧ e.1.2.2 ≤ 8) ∧
        lo.length ≤ d.length + j * h.length ∧ WS Fw lo = WS Fw d + sm (fun e => e.2 * sm (fun s => Fw (nx3 e.1 h s)) h) (d.take j))
        ⟨d, y9, y10, y11, y12, y13, y14, y15, rfl, upd_same, fun x o hx1 hx2 e => by rw [upd_ne hx1, upd_ne hx2]; exact e, by rw [upd_ne nWl.symm, upd_same], e4, fun e he => by have := e5 e he; omega, by omega, by rw [List.take_zero]; rfl⟩
        (fun j σ H2 ⟨_, _, _, _, _, _, _, _, _, k1, _⟩ => k1) ?_ ?_⟩
      · rintro j kx vx T qx σ H2 hkv hT hqx ⟨lo, z9, z10, z11, z12, z13, z14, z15, rfl, k1, k2, k3, k4, k5, k6, k7⟩
        have hj : j < d.length := by
          have := (List.getElem?_eq_some_iff.mp hkv).1
          rwa [dd_len] at this
        rw [dd_at hj] at hkv
        obtain ⟨rfl, rfl⟩ : kk d[j].1 = kx ∧ V.int (d[j].2 : Nat) = vx := by
          have := Option.some.inj hkv
          exact ⟨congrArg Prod.fst this, congrArg Prod.snd this⟩
        rw [kk_tV] at hqx
        obtain ⟨b1, b2, b3⟩ := e5 _ (List.getElem_mem hj)
        have enext : sm (fun e => e.2 * sm (fun s => Fw (nx3 e.1 h s)) h) (d.take (j + 1)) = sm (fun e => e.2 * sm (fun s => Fw (nx3 e.1 h s)) h) (d.take j) + d[j].2 * sm (fun s => Fw (nx3 d[j].1 h s)) h := sm_take _ hj
        rw [enext]
        clear enext hkv
        have hj1 : (j + 1) * h.length ≤ d.length * h.length := Nat.mul_le_mul_right _ hj
        generalize d[j].1 = t at *
        generalize d[j].2 = num at *
        generalize sm (fun e => e.2 * sm (fun s => Fw (nx3 e.1 h s)) h) (d.take j) = Sj at *
        have kT : ∀ x o, H2 x = some o → upd H2 T (.tup [.ref qx, .int (num : Nat)]) x = some o := fun x o e => by
          rw [upd_ne (ne_of_none e hT)]
          exact e
        refine ⟨T, _, rfl, ofT upd_same, rfl, .ref qx, _, rfl, .int (num : Nat), [], rfl, rfl, ?_⟩
        refine ⟨.ref qx, rfl, qx, tV t, rfl, ofT (kT _ _ hqx), rfl, .int (t.1 : Nat), _, rfl, .int (t.2.1 : Nat), _, rfl, .int (t.2.2 : Nat), [], rfl, rfl, ?_⟩
        have hrow2 : H2 ai = some (.lst (vI h)) := k2 _ _ (ne_of hrow e3 (by intro z; cases z)) nal hrow
        refine ⟨.ref ai, rfl, ai, rfl, ⟨_, ofL (kT _ _ hrow2)⟩, for_list (K := K) (a := ai) (xs := vI h) (fun m σ H3 => ∃ (lo : Dn) (y14 y15 : Option V),
          σ = [some (.ref a), some (.int (n : Nat)), some (.int (c : Nat)), some (.int (cl b n : Nat)), some (.int (rg b n : Nat)), some (.ref q1), some (.ref dW), some (.ref ai), some (.ref dl), some (.ref qx), some (.int (num : Nat)), some (.int (t.1 : Nat)), some (.int (t.2.1 : Nat)), some (.int (t.2.2 : Nat)), y14, y15, none, none, none] ∧
          H3 dW = some (.frz od (.dT (dd d))) ∧ (∀ x o, x ≠ dW → x ≠ dl → H' x = some o → H3 x = some o) ∧ H3 dl = some (.dT (dd lo)) ∧ (lo.map (·.1)).Nodup ∧ (∀ e ∈ lo, e.1.1 ≤ i + 1 ∧ e.1.2.1 ≤ cl b n + (tt + h.length) ∧ e.1.2.2 ≤ 8) ∧
          lo.length ≤ d.length + j * h.length + m ∧ WS Fw lo = WS Fw d + Sj + num * sm (fun s => Fw (nx3 t h s)) (h.take m))
          ⟨lo, z14, z15, rfl, kT _ _ k1, fun x o hx1 hx2 e => kT _ _ (k2 x o hx1 hx2 e), kT _ _ k3, k4, k5, by omega, by rw [List.take_zero]; show _ = _ + num * 0; omega⟩
          (fun m σ H3 hm ⟨_, _, _, _, _, j2, _⟩ => ofL (j2 _ _ (ne_of hrow e3 (by intro z; cases z)) nal hrow)) ?_ ?_⟩
        · clear k1 k2 k3 k4 k5 k6 k7 hqx hT kT hrow2
          rintro m x σ H3 hx3 ⟨lo, w14, w15, rfl, j1, j2, j3, j4, j5, j6, j7⟩
          have hm : m < h.length := by
            have := (List.getElem?_eq_some_iff.mp hx3).1
            rwa [vI_len] at this
          obtain rfl : V.int (h[m] : Nat) = x := by
            rw [vI_at hm] at hx3
            exact Option.some.inj hx3
          have enext : sm (fun s => Fw (nx3 t h s)) (h.take (m + 1)) = sm (fun s => Fw (nx3 t h s)) (h.take m) + Fw (nx3 t h h[m]) := sm_take _ hm
          rw [enext, Nat.mul_add]
          clear enext
          generalize h[m] = s at *
          generalize num * sm (fun s => Fw (nx3 t h s)) (h.take m) = Sm at *
          have hj2 : (j + 1) * h.length = j * h.length + h.length := by rw [Nat.add_mul, Nat.one_mul]
          refine ⟨.int (t.2.2 : Nat), rfl, .int (s : Nat), rfl, (t.2.2 : Nat), (s : Nat), rfl, rfl, .int (c : Nat), rfl, _, (c : Nat), rfl, rfl, _, rfl, ite2 (fun hle => ?_) (fun hgt => ?_)⟩
          · have hle' : t.2.2 + s ≤ c := by
              have := of_decide_eq_true hle
              omega
            refine ⟨.int (t.1 : Nat), rfl, (t.1 : Nat), 1, rfl, rfl, .int (t.2.1 : Nat), rfl, .ref ai, rfl, ai, _, rfl, .inl (ofL (j2 _ _ (ne_of hrow e3 (by intro z; cases z)) nal hrow)), (t.2.1 : Nat), ((vI h).length : Nat), rfl, rfl, .int (t.2.2 : Nat), rfl, .int (s : Nat), rfl, (t.2.2 : Nat), (s : Nat), rfl, rfl, by show 3 ≤ sizeLine; decide, fun tp htp => ?_⟩
            have etp : [V.int (((t.1 : Nat) : Int) + 1), V.int (((t.2.1 : Nat) : Int) + ((vI h).length : Nat)), V.int (((t.2.2 : Nat) : Int) + (s : Nat))] = tV (nx3 t h s) := by
              rw [vI_len]
              rfl
            have hk : upd H3 tp (.tup [V.int (((t.1 : Nat) : Int) + 1), V.int (((t.2.1 : Nat) : Int) + ((vI h).length : Nat)), V.int (((t.2.2 : Nat) : Int) + (s : Nat))]) tp = some (.tup ((kk (nx3 t h s)).map kV)) := by
              rw [upd_same, kk_tV, etp]
            have nlt : dl ≠ tp := ne_of_none j3 htp
            have nWt : dW ≠ tp := ne_of_none j1 htp
            have hdl3 : upd H3 tp (.tup [V.int (((t.1 : Nat) : Int) + 1), V.int (((t.2.1 : Nat) : Int) + ((vI h).length : Nat)), V.int (((t.2.2 : Nat) : Int) + (s : Nat))]) dl = some (.dT (dd lo)) := by
              rw [upd_ne nlt]
              exact j3
            refine ⟨.ref dl, rfl, dl, rfl, .inr ⟨_, .inl hdl3⟩, .ref tp, rfl, _, DGet.t hdl3 hk, .int (num : Nat), rfl, (lookN lo (nx3 t h s) : Nat), (num : Nat), dd_look lo _, rfl, .ref dl, rfl, .ref tp, rfl, dl, _, rfl, DPut.t hdl3 hk ?_, ?_⟩
            · rw [dd_len]
              exact fewlt (by omega)
            · have eput : putK (dd lo) (kk (nx3 t h s)) (V.int (((lookN lo (nx3 t h s) : Nat) : Int) + (num : Nat))) = dd (putN lo (nx3 t h s) (lookN lo (nx3 t h s) + num)) := by
                rw [← dd_put]
                rfl
              refine ⟨putN lo (nx3 t h s) (lookN lo (nx3 t h s) + num), some (.int (s : Nat)), some (.ref tp), rfl, ?_, fun x o hx1 hx2 e => ?_, ?_, putN_nodup _ _ j4, fun e he => ?_, ?_, ?_⟩
              · rw [upd_ne nWl, upd_ne nWt]
                exact j1
              · rw [upd_ne hx2, upd_ne (ne_of_none (j2 x o hx1 hx2 e) htp)]
                exact j2 x o hx1 hx2 e
              · rw [upd_same]
                exact congrArg (fun z => some (HO.dT z)) eput
              · rcases putN_mem he with z | z
                · rw [z]
                  show t.1 + 1 ≤ i + 1 ∧ t.2.1 + h.length ≤ cl b n + (tt + h.length) ∧ t.2.2 + s ≤ 8
                  omega
                · obtain ⟨e', he', ee⟩ := List.mem_map.mp z
                  rw [← ee]
                  exact j5 e' he'
              · have := putN_len lo (nx3 t h s) (lookN lo (nx3 t h s) + num)
                omega
              · rw [WS_put Fw (nx3 t h s) num j4, j7]
                omega
          · have hgt' : c < t.2.2 + s := by
              have : ¬ (((t.2.2 : Nat) : Int) + (s : Nat) ≤ (c : Nat)) := fun z => hgt (decide_eq_true z)
              omega
            have hz : Fw (nx3 t h s) = 0 := hzero (nx3 t h s) hgt'
            rw [hz, Nat.mul_zero, Nat.add_zero]
            exact ⟨lo, some (.int (s : Nat)), w15, rfl, j1, j2, j3, j4, j5, by omega, j7⟩
        · rintro σ H3 ⟨lo, w14, w15, rfl, j1, j2, j3, j4, j5, j6, j7⟩
          rw [vI_len, List.take_of_length_le (Nat.le_refl _)] at j7
          rw [vI_len] at j6
          have hj2 : (j + 1) * h.length = j * h.length + h.length := by rw [Nat.add_mul, Nat.one_mul]
          exact ⟨lo, _, _, _, _, _, w14, w15, rfl, j1, j2, j3, j4, j5, by omega, by rw [j7]; omega⟩
      · rintro σ H2 ⟨lo, z9, z10, z11, z12, z13, z14, z15, rfl, k1, k2, k3, k4, k5, k6, k7⟩
        rw [dd_len] at k6 k7
        rw [List.take_length, e7'] at k7
        refine ⟨k1, .ref dl, rfl, ?_⟩
        refine ⟨dl, lo, _, _, z9, z10, z11, z12, z13, z14, z15, rfl, fun x o e => ?_, hlH, by rw [upd_ne nWl.symm]; exact k3, k4, k5, by omega, k7⟩
        have nxW : x ≠ dW := fun z => by
          rw [z, e2] at e
          cases e
        rw [upd_ne nxW]
        exact k2 _ _ nxW (ne_of_none e hlH) (e1 _ _ e)
    · rintro σ H' ⟨dW, d, y7, y8, y9, y10, y11, y12, y13, y14, y15, rfl, e1, e2, e3, e4, e5, e6, e7⟩
      rw [List.length_map, hR.len] at e5 e6 e7
      rw [List.drop_length] at e7
      have e7' : sm (fun e : T3 × Nat => e.2 * wt n c (n - b.length) 0 0 e.1.1 e.1.2.1 e.1.2.2) d = W n c b := by
        rw [← e7]
        refine sm_congr fun e _ => ?_
        show _ = e.2 * wt n c (n - b.length) 0 0 (0 + e.1.1) (0 + e.1.2.1) (0 + e.1.2.2)
        rw [Nat.zero_add, Nat.zero_add, Nat.zero_add]
      have b8 : ∀ e ∈ d, e.1.1 ≤ n - b.length ∧ e.1.2.1 ≤ 8 := fun e he => by
        have := e5 e he
        have := tot_take_le hs hs.length
        omega
      generalize hG : (fun e : T3 × Nat => e.2 * wt n c (n - b.length) 0 0 e.1.1 e.1.2.1 e.1.2.2) = G at e7'
      clear e5 e6 e7 e4
      refine ⟨dW, .dT (dd d), e3, trivial, fun od => ?_⟩
      refine ⟨.ref dW, rfl, dW, od, dd d, rfl, upd_same, for_itemsT (fun j σ H2 => ∃ (y7 y8 y9 y10 y11 y12 y13 y14 y15 y17 y18 : Option V),
        σ = [some (.ref a), some (.int (n : Nat)), some (.int (c : Nat)), some (.int (cl b n : Nat)), some (.int (rg b n : Nat)), some (.ref q1), some (.ref dW), y7, y8, y9, y10, y11, y12, y13, y14, y15, some (.int (sm G (d.take j) : Nat)), y17, y18] ∧
        H2 dW = some (.frz od (.dT (dd d))) ∧ (∀ x o, x ≠ dW → H' x = some o → H2 x = some o)) ⟨y7, y8, y9, y10, y11, y12, y13, y14, y15, none, none, rfl, upd_same, fun x o hx e => by rw [upd_ne hx]; exact e⟩
        (fun j σ H2 ⟨_, _, _, _, _, _, _, _, _, _, _, _, k1, _⟩ => k1) ?_ ?_⟩
      · rintro j kx vx T qx σ H2 hkv hT hqx ⟨z7, z8, z9, z10, z11, z12, z13, z14, z15, z17, z18, rfl, k1, k2⟩
        have hj : j < d.length := by
          have := (List.getElem?_eq_some_iff.mp hkv).1
          rwa [dd_len] at this
        rw [dd_at hj] at hkv
        obtain ⟨rfl, rfl⟩ : kk d[j].1 = kx ∧ V.int (d[j].2 : Nat) = vx := by
          have := Option.some.inj hkv
          exact ⟨congrArg Prod.fst this, congrArg Prod.snd this⟩
        rw [kk_tV] at hqx
        obtain ⟨b1, b2⟩ := b8 _ (List.getElem_mem hj)
        have enext : sm G (d.take (j + 1)) = sm G (d.take j) + d[j].2 * wt n c (n - b.length) 0 0 d[j].1.1 d[j].1.2.1 d[j].1.2.2 := by
          rw [sm_take _ hj, ← hG]
        rw [enext]
        clear enext hkv
        generalize d[j].1 = t at *
        generalize d[j].2 = num at *
        generalize sm G (d.take j) = Sj at *
        have kT : ∀ x o, H2 x = some o → upd H2 T (.tup [.ref qx, .int (num : Nat)]) x = some o := fun x o e => by
          rw [upd_ne (ne_of_none e hT)]
          exact e
        refine ⟨T, _, rfl, ofT upd_same, rfl, .ref qx, _, rfl, .int (num : Nat), [], rfl, rfl, ?_⟩
        refine ⟨.ref qx, rfl, qx, tV t, rfl, ofT (kT _ _ hqx), rfl, .int (t.1 : Nat), _, rfl, .int (t.2.1 : Nat), _, rfl, .int (t.2.2 : Nat), [], rfl, rfl, ?_⟩
        have hq2 : upd H2 T (.tup [.ref qx, .int (num : Nat)]) q1 = some (.lst (as.map V.ref)) := kT _ _ (k2 _ _ (ne_of (e1 _ _ h2) e3 (by intro z; cases z)) (e1 _ _ h2))
        obtain ⟨o, ho⟩ : ∃ o, n - b.length - t.1 = o := ⟨_, rfl⟩
        have eo : ((((as.map V.ref).length : Nat) : Int) - (t.1 : Nat)) = ((o : Nat) : Int) := by
          rw [List.length_map, hM]
          omega
        have hlt := hung_lt (n := n) (x := t.2.1) (o := o) hn b2 (by omega)
        refine ⟨.ref q1, rfl, q1, _, rfl, .inl (ofL hq2), .int (t.1 : Nat), rfl, (((as.map V.ref).length : Nat) : Int), (t.1 : Nat), rfl, rfl, ?_⟩
        refine ⟨fun σ' H3 => σ' = [some (.ref a), some (.int (n : Nat)), some (.int (c : Nat)), some (.int (cl b n : Nat)), some (.int (rg b n : Nat)), some (.ref q1), some (.ref dW), z7, z8, some (.ref qx), some (.int (num : Nat)), some (.int (t.1 : Nat)), some (.int (t.2.1 : Nat)), some (.int (t.2.2 : Nat)), z14, z15,
          some (.int (Sj : Nat)), some (.int (o : Nat)), some (.int (hung n t.2.1 o : Nat))] ∧ H3 = upd H2 T (.tup [.ref qx, .int (num : Nat)]), ?_, ?_⟩
        · refine ⟨.int ((((as.map V.ref).length : Nat) : Int) - (t.1 : Nat)), rfl, (((as.map V.ref).length : Nat) : Int) - (t.1 : Nat), 0, rfl, rfl, _, rfl, ite2 (fun hp => ?_) (fun hz => ?_)⟩
          · have ho1 : ¬ o = 0 := by
              have : (((as.map V.ref).length : Nat) : Int) - (t.1 : Nat) > 0 := of_decide_eq_true hp
              omega
            refine ⟨.int (t.2.1 : Nat), rfl, .int (n : Nat), rfl, .int ((((as.map V.ref).length : Nat) : Int) - (t.1 : Nat)), rfl, (((as.map V.ref).length : Nat) : Int) - (t.1 : Nat), 1, rfl, rfl, n, o - 1, ?_, by omega, by omega, (t.2.1 : Nat), (n ^ (o - 1) : Nat), rfl, rfl, .inl ⟨by omega, by omega⟩, ?_, rfl⟩
            · show [V.int (n : Nat), V.int ((((as.map V.ref).length : Nat) : Int) - (t.1 : Nat) - 1)] = _
              rw [eo, show ((o : Nat) : Int) - 1 = ((o - 1 : Nat) : Int) by omega]
            · show [_, _, _, _, _, _, _, _, _, _, _, _, _, _, _, _, _, some (V.int ((((as.map V.ref).length : Nat) : Int) - (t.1 : Nat))), some (V.int (((t.2.1 : Nat) : Int) * ((n ^ (o - 1) : Nat) : Int)))] = _
              rw [eo, ← Int.natCast_mul]
              unfold hung
              rw [if_neg ho1]
          · have ho1 : o = 0 := by
              have : ¬ ((((as.map V.ref).length : Nat) : Int) - (t.1 : Nat) > 0) := fun z => hz (decide_eq_true z)
              omega
            refine ⟨?_, rfl⟩
            show [_, _, _, _, _, _, _, _, _, _, _, _, _, _, _, _, _, some (V.int ((((as.map V.ref).length : Nat) : Int) - (t.1 : Nat))), some (V.int 1)] = _
            rw [eo]
            unfold hung
            rw [if_pos ho1]
            rfl
        · rintro σ' H3 ⟨rfl, rfl⟩
          refine ⟨.int (Sj : Nat), rfl, .int (t.2.2 : Nat), rfl, .int (c : Nat), rfl, rfl, _, rfl, ite2 (fun he => ?_) (fun hne => ?_)⟩
          · have he' : t.2.2 = c := by
              have := V.int.inj (of_decide_eq_true he)
              omega
            have hwt : wt n c (n - b.length) 0 0 t.1 t.2.1 t.2.2 = fact t.1 * hung n t.2.1 o := by
              unfold wt
              rw [if_pos (by omega), Nat.zero_add, ho]
            rw [hwt]
            have hf := fact_lt (n := t.1) (by omega)
            refine ⟨.int (num : Nat), rfl, .int (t.1 : Nat), rfl, t.1, rfl, by omega, (num : Nat), (fact t.1 : Nat), rfl, rfl, .inr ⟨by omega, by omega⟩, .int (hung n t.2.1 o : Nat), rfl, _, (hung n t.2.1 o : Nat), rfl, rfl, .inr ⟨by omega, by omega⟩, (Sj : Nat), _, rfl, rfl, ?_⟩
            refine ⟨z7, z8, some (.ref qx), some (.int (num : Nat)), some (.int (t.1 : Nat)), some (.int (t.2.1 : Nat)), some (.int (t.2.2 : Nat)), z14, z15, some (.int (o : Nat)), some (.int (hung n t.2.1 o : Nat)), ?_, kT _ _ k1, fun x o hx e => kT _ _ (k2 x o hx e)⟩
            show [_, _, _, _, _, _, _, _, _, _, _, _, _, _, _, _, some (V.int (((Sj : Nat) : Int) + ((num : Nat) : Int) * ((fact t.1 : Nat) : Int) * ((hung n t.2.1 o : Nat) : Int))), _, _] = _
            rw [← Int.natCast_mul, ← Int.natCast_mul, Nat.mul_assoc]
            rfl
          · have he' : ¬ 0 + t.2.2 = c := fun z => hne (decide_eq_true (by rw [← z, Nat.zero_add]))
            have hwt : wt n c (n - b.length) 0 0 t.1 t.2.1 t.2.2 = 0 := by
              unfold wt
              rw [if_neg he']
            rw [hwt, Nat.mul_zero, Nat.add_zero]
            refine ⟨(Sj : Nat), 0, rfl, rfl, ?_⟩
            refine ⟨z7, z8, some (.ref qx), some (.int (num : Nat)), some (.int (t.1 : Nat)), some (.int (t.2.1 : Nat)), some (.int (t.2.2 : Nat)), z14, z15, some (.int (o : Nat)), some (.int (hung n t.2.1 o : Nat)), ?_, kT _ _ k1, fun x o hx e => kT _ _ (k2 x o hx e)⟩
            show [_, _, _, _, _, _, _, _, _, _, _, _, _, _, _, _, some (V.int (((Sj : Nat) : Int) + 0)), _, _] = _
            rw [Int.add_zero]
      · rintro σ H2 ⟨z7, z8, z9, z10, z11, z12, z13, z14, z15, z17, z18, rfl, k1, k2⟩
        rw [dd_len, List.take_length, e7']
        refine ⟨k1, _, rfl, q _ fun x o e => ?_⟩
        have e' := s1 _ _ e
        have nxW : x ≠ dW := fun z => by
          rw [z, e2] at e'
          cases e'
        rw [upd_ne nxW]
        exact k2 _ _ nxW (e1 _ _ e')
end
end Ev
namespace Ev
open PySem PySem.Spec PyProof.Rows L2
/-! ### slices and sums of tuples -/
theorem cut_to (l : List Nat) (i : Nat) (h : i ≤ l.length) : cutV (vI l) none (some (i : Int)) = vI (l.take i) := by
  unfold cutV vI
  rw [HT.sIx_none, show HT.sIx (l.map _).length (l.map _).length (some (i : Int)) = min i (l.map _).length from HT.sIx_nat _ _ i, List.drop_zero, Nat.sub_zero, ← List.map_take, List.length_map, Nat.min_eq_left h]
theorem cut_from (l : List Nat) (i : Nat) (h : i ≤ l.length) : cutV (vI l) (some (i : Int)) none = vI (l.drop i) := by
  unfold cutV vI
  rw [HT.sIx_none, show HT.sIx (l.map _).length 0 (some (i : Int)) = min i (l.map _).length from HT.sIx_nat _ _ i, List.length_map, Nat.min_eq_left h, ← List.map_drop]
  exact List.take_of_length_le (by rw [List.length_map, List.length_drop]; exact Nat.le_refl _)
section
variable {X : Cx}
def rTo (K : PySem.W.Frag) : V → Option Int → Option Int → Hp → VK → Prop := fun x lo hi H Q => ∃ (a : Addr) (l : List Nat) (i : Nat), x = .ref a ∧ SqT K H a (vI l) ∧ lo = none ∧ hi = some (i : Int) ∧ i ≤ l.length ∧ ∀ H' p, Same H H' → SqT K H' p (vI (l.take i)) → Q (.ref p) H'
theorem sl_to : SlR X (rTo X.K) := by
  intro pins s σ H x v vl vu lo hi sl Q I rx hs pl pu h
  obtain ⟨a, l, i, rfl, hq, rfl, rfl, hi, q⟩ := h
  refine sl_tupA pins s σ H _ v vl vu none (some (i : Int)) sl Q I rx hs pl pu ⟨a, vI l, rfl, hq, fun hw => q H a (Same.refl _) ?_, fun _ p hp => q _ p (same_upd hp) (ofT (by rw [upd_same, cut_to l i hi]))⟩
  have e : HT.sIx (vI l).length (vI l).length (some (i : Int)) = min i (vI l).length := HT.sIx_nat _ _ i
  rw [e, vI_len] at hw
  have : l.take i = l := List.take_of_length_le (by omega)
  rw [this]
  exact hq
def rFrom (K : PySem.W.Frag) : V → Option Int → Option Int → Hp → VK → Prop := fun x lo hi H Q => ∃ (a : Addr) (l : List Nat) (i : Nat), x = .ref a ∧ SqT K H a (vI l) ∧ lo = some (i : Int) ∧ hi = none ∧ i ≤ l.length ∧ ∀ H' p, Same H H' → SqT K H' p (vI (l.drop i)) → Q (.ref p) H'
theorem sl_from : SlR X (rFrom X.K) := by
  intro pins s σ H x v vl vu lo hi sl Q I rx hs pl pu h
  obtain ⟨a, l, i, rfl, hq, rfl, rfl, hi, q⟩ := h
  refine sl_tupA pins s σ H _ v vl vu (some (i : Int)) none sl Q I rx hs pl pu ⟨a, vI l, rfl, hq, fun hw => q H a (Same.refl _) ?_, fun _ p hp => q _ p (same_upd hp) (ofT (by rw [upd_same, cut_from l i hi]))⟩
  have e : HT.sIx (vI l).length 0 (some (i : Int)) = min i (vI l).length := HT.sIx_nat _ _ i
  rw [e, vI_len] at hw
  have : i = 0 ∨ l.length = 0 := by omega
  rcases this with z | z
  · rw [z, List.drop_zero]
    exact hq
  · have e0 : l = [] := List.length_eq_zero_iff.mp z
    subst e0
    rw [List.drop_nil]
    exact hq
def rApp2 (K : PySem.W.Frag) : V → V → Hp → VK → Prop := fun x y H Q => ∃ (a b : Addr) (l m : List Nat), x = .ref a ∧ y = .ref b ∧ SqT K H a (vI l) ∧ SqT K H b (vI m) ∧ l.length + m.length ≤ 1000 ∧ ∀ H' p, Same H H' → SqT K H' p (vI (l ++ m)) → Q (.ref p) H'
theorem op_app : OpR X (binaryOp .Add) (rApp2 X.K) := by
  intro pins s σ H x y v u Q I rx ry h
  obtain ⟨a, b, l, m, rfl, rfl, ha, hb, hz, q⟩ := h
  refine op_catA pins s σ H _ _ v u Q I rx ry ⟨a, b, vI l, vI m, rfl, rfl, ha, hb, ?_, fun e => q H b (Same.refl _) ?_, fun _ e => q H a (Same.refl _) ?_, fun _ _ p hp => q _ p (same_upd hp) (ofT (by rw [upd_same, vI_app]))⟩
  · rw [vI_len, vI_len]
    exact few (by omega)
  · rw [vI_app, e, List.nil_append]
    exact hb
  · rw [vI_app, e, List.append_nil]
    exact ha
end
theorem lessAt_succ (n c : Nat) (ch : List Nat) (k q : Nat) : lessAt n c ch k (q + 1) = lessAt n c ch k q + W n c (ch.take k ++ [q]) := sm_range_succ _ _
theorem rankTo_succ (n c : Nat) (ch : List Nat) (k : Nat) : rankTo n c ch (k + 1) = rankTo n c ch k + lessAt n c ch k (ch.getD k 0) := sm_range_succ _ _
theorem ent_snoc {ch : List Nat} {n k q : Nat} (hc : Ent ch n) (hq : q < n) : Ent (ch.take k ++ [q]) n := ent_app (ent_take hc k) hq
section
variable {P : Program} {w : World} {K : PySem.W.Frag} {mg : Str → Option Value} {base : Heap}
/-! ### rank_of -/
abbrev sRank : Stmt := topS 30
theorem scRank : FnScope ["chart", "count", "ways", "found", "k", "following", "less"] ["chart", "count", "ways"] (defScope sRank) := ⟨rfl, rfl, rfl, by decide +kernel, rfl, by decide +kernel, by decide +kernel⟩
def spRank (K : PySem.W.Frag) (fW : Addr) : Sp := fun vs H Q _ => ∃ (a : Addr) (c : Nat) (ch : List Nat), vs = [.ref a, .int (c : Nat), .ref fW] ∧ SqT K H a (vI ch) ∧ ch.length ≤ 8 ∧ c ≤ 8 ∧ Ent ch ch.length ∧ ∀ H', Same H H' → Q (.int (rank ch.length c ch : Nat)) H'
theorem ok_rank {f : Addr} {fd : FuncData} {k : Nat} (F : Fun K "rank_of" "rank_of" sRank f fd) (M : Mg mg) (CW : Cal P w K mg base "with_rings" k ["begun", "many", "count"] (spWith K)) : FnOk P w K mg base CX0 (k + 1) f fd ["chart", "count", "ways"] (spRank K CW.f) := by
  refine F.ok scRank (fun vs H Q E h => ?_) (fun cdv A outer s H vs Q E hr h => ?_)
  · obtain ⟨a, c, ch, rfl, _⟩ := h
    rfl
  · obtain ⟨a, c, ch, rfl, hS, hn, hc8, hc, q⟩ := h
    have nd := scRank.nd
    refine ⟨_, pss_cons (ps_set (i := 3) nd rfl (.inl rfl) (pe_int)) (pss_cons (ps_for PassesOwn.never rfl (pi_enumT (by rfl) M.enum (pa_cons (pv 0) (pa_nil))) (pg_tup rfl (pgs_cons (pg_name (i := 4) nd rfl (Or.inl rfl)) (pgs_cons (pg_name (i := 5) nd rfl (Or.inl rfl)) (pgs_nil)))) (pss_one (ps_for PassesOwn.never rfl (pi_range1 (by rfl) M.range (pa_cons (pv 5) (pa_nil))) (pg_name (i := 6) nd rfl (Or.inl rfl)) (pss_one (ps_aug (i := 3) nd rfl (.inl rfl) (pe_callL (i := 2) (f := CW.f) CW.ok hr rfl (.inl rfl) CW.kp CW.b .nil pass0 (pa_cons (pe_op op_app (pe_slice sl_to (pv 0) po_none (po_some (pv 4))) (pe_tup (pa_cons (pv 6) (pa_nil)))) (pa_cons (pe_callB call_len_seq (by rfl) M.len PySem.boot_len (pa_cons (pv 0) (pa_nil))) (pa_cons (pv 1) (pa_nil))))) ip_add))))) (pss_one (ps_ret (pv 3)))), ?_⟩
    refine ⟨.ref a, rfl, a, vI ch, rfl, hS, ?_⟩
    refine ⟨fun i m σ H' => ∃ (y4 y5 y6 : Option V), σ = [some (.ref a), some (.int (c : Nat)), some (.ref CW.f), some (.int (rankTo ch.length c ch i : Nat)), y4, y5, y6] ∧ m + i = ch.length ∧ Same H H', ⟨ch.length, none, none, none, rfl, rfl, Same.refl _⟩, fun i m σ H' hW => ?_⟩
    obtain ⟨y4, y5, y6, rfl, hm, e1⟩ := hW
    by_cases hi : i < ch.length
    · have hx := vI_D hi
      have hlt := getD_lt hc hi
      refine .inr ⟨⟨vI ch, _, seqT e1 hS, hx⟩, fun σ' H2 => ∃ (y4 y5 y6 : Option V), σ' = [some (.ref a), some (.int (c : Nat)), some (.ref CW.f), some (.int (rankTo ch.length c ch (i + 1) : Nat)), y4, y5, y6] ∧ Same H H2, fun σ' H2 ⟨z4, z5, z6, g1, g2⟩ => ⟨m - 1, by omega, z4, z5, z6, g1, by omega, g2⟩, fun x H2 hy => ?_⟩
      obtain ⟨T, x1, rfl, nT, rfl, hx1⟩ := hy
      obtain rfl : x1 = V.int (ch.getD i 0 : Nat) := Option.some.inj ((hx1 _ (seqT e1 hS)).symm.trans hx)
      have s2 : Same H (upd H' T (.tup [.int (i : Nat), .int (ch.getD i 0 : Nat)])) := e1.trans (same_upd nT)
      refine ⟨T, _, rfl, ofT upd_same, rfl, .int (i : Nat), _, rfl, .int (ch.getD i 0 : Nat), [], rfl, rfl, ?_⟩
      refine ⟨.int (ch.getD i 0 : Nat), rfl, ch.getD i 0, rfl, by omega, by omega, for_range (n := ch.getD i 0) (fun p σ H3 => ∃ y6 : Option V, σ = [some (.ref a), some (.int (c : Nat)), some (.ref CW.f), some (.int (rankTo ch.length c ch i + lessAt ch.length c ch i p : Nat)), some (.int (i : Nat)), some (.int (ch.getD i 0 : Nat)), y6] ∧ Same H H3) ⟨y6, rfl, s2⟩ ?_ ?_⟩
      · rintro p σ H3 hp ⟨z6, rfl, g1⟩
        rw [Int.zero_add]
        have hS3 := seqT g1 hS
        refine ⟨_, rfl, rfl, .ref a, rfl, .int (i : Nat), rfl, (i : Nat), rfl, a, ch, i, rfl, hS3, rfl, rfl, by omega, fun H4 b s4 hb => ?_⟩
        refine ⟨.int (p : Nat), rfl, by show 1 ≤ sizeLine; decide, fun t ht => ⟨b, t, ch.take i, [p], rfl, rfl, seqT (same_upd ht) hb, ofT upd_same, by rw [List.length_take]; show _ + 1 ≤ _; omega, fun H5 u s5 hu => ?_⟩⟩
        have s35 : Same H3 H5 := s4.trans ((same_upd ht).trans s5)
        refine ⟨.ref a, rfl, a, vI ch, rfl, .inr (seqT s35 hS3), .int (c : Nat), rfl, ch.length, u, ch.take i ++ [p], c, by rw [vI_len]; rfl, hu, by rw [List.length_append, List.length_take]; show _ + 1 ≤ _; omega, hn, hc8, ent_snoc hc (by omega), fun H6 s6 => ?_⟩
        refine ⟨_, _, rfl, rfl, some (.int (p : Nat)), ?_, g1.trans (s35.trans s6)⟩
        show [_, _, _, some (V.int (((rankTo ch.length c ch i + lessAt ch.length c ch i p : Nat) : Int) + (W ch.length c (ch.take i ++ [p]) : Nat))), _, _, _] = _
        rw [← Int.natCast_add, Nat.add_assoc, ← lessAt_succ]
      · rintro σ H3 ⟨z6, rfl, g1⟩
        exact ⟨_, _, _, by rw [rankTo_succ], g1⟩
    · obtain rfl : i = ch.length := by omega
      exact .inl ⟨⟨vI ch, seqT e1 hS, by rw [vI_len]; exact Nat.le_refl _⟩, ⟨_, rfl, q H' e1⟩⟩
/-! ### _law_rank -/
abbrev sLRank : Stmt := topS 46
theorem scLRank : FnScope ["_law_chart_here", "_law_count", "_law_found", "_law_k", "_law_less"] ["_law_chart_here"] (defScope sLRank) := ⟨rfl, rfl, rfl, by decide +kernel, rfl, by decide +kernel, by decide +kernel⟩
def spLRank (K : PySem.W.Frag) : Sp := fun vs H Q _ => ∃ (a : Addr) (ch : List Nat), vs = [.ref a] ∧ SqT K H a (vI ch) ∧ ch.length ≤ 8 ∧ Ent ch ch.length ∧ ∀ H', Same H H' → Q (.int (rank ch.length (rg ch ch.length) ch : Nat)) H'
theorem ok_lRank {f : Addr} {fd : FuncData} {k : Nat} (F : Fun K "_law_rank" "_law_rank" sLRank f fd) (M : Mg mg) (C1 : Cal P w K mg base "_law_on_rings" k ["_law_chart_here"] (spLOnRings K)) (C2 : Cal P w K mg base "_law_follow" k ["_law_many", "_law_begun", "_law_count"] (spLFollow K)) :
    FnOk P w K mg base CX0 (k + 1) f fd ["_law_chart_here"] (spLRank K) := by
  refine F.ok scLRank (fun vs H Q E h => ?_) (fun cdv A outer s H vs Q E hr h => ?_)
  · obtain ⟨a, ch, rfl, _⟩ := h
    rfl
  · obtain ⟨a, ch, rfl, hS, hn, hc, q⟩ := h
    have nd := scLRank.nd
    refine ⟨_, pss_cons (ps_par (i := 1) (j := 2) rfl nd rfl rfl (by decide) rfl rfl (pa_cons (pe_callB call_len_seq (by rfl) M.len PySem.boot_len (pa_cons (pe_cal C1 hr (by rfl) (pa_cons (pv 0) (pa_nil))) (pa_nil))) (pa_cons (pe_int) (pa_nil))) (by rfl)) (pss_cons (ps_for PassesOwn.never rfl (pi_range1 (by rfl) M.range (pa_cons (pe_callB call_len_seq (by rfl) M.len PySem.boot_len (pa_cons (pv 0) (pa_nil))) (pa_nil))) (pg_name (i := 3) nd rfl (Or.inl rfl)) (pss_one (ps_for PassesOwn.never rfl (pi_range1 (by rfl) M.range (pa_cons (pe_ix ix_tup (pv 0) (pv 3) (fun _ _ => rfl)) (pa_nil))) (pg_name (i := 4) nd rfl (Or.inl rfl)) (pss_one (ps_set (i := 2) nd rfl (.inl rfl) (pe_op op_add (pv 2) (pe_cal C2 hr (by rfl) (pa_cons (pe_callB call_len_seq (by rfl) M.len PySem.boot_len (pa_cons (pv 0) (pa_nil))) (pa_cons (pe_op op_app (pe_slice sl_to (pv 0) po_none (po_some (pv 3))) (pe_tup (pa_cons (pv 4) (pa_nil)))) (pa_cons (pv 1) (pa_nil))))))))))) (pss_one (ps_ret (pv 2)))), ?_⟩
    refine ⟨.ref a, rfl, a, ch, rfl, hS, by omega, hc, fun H1 p s1 h1 => ⟨p, _, rfl, .inl (ofL h1), ?_⟩⟩
    refine ⟨_, .int 0, rfl, ?_⟩
    have ec : (vI (img ch.length (stepL ch ch.length (ch.length + 1)))).length = rg ch ch.length := by rw [vI_len, img_steps hc rfl (by omega)]
    generalize hcc : rg ch ch.length = c at ec q
    refine ⟨.ref a, rfl, a, vI ch, rfl, .inr (seqT s1 hS), ((vI ch).length : Nat), rfl, by rw [vI_len]; omega, by rw [vI_len]; omega, for_range (n := ((vI ch).length : Nat)) (fun i σ H' => ∃ (y3 y4 : Option V), σ = [some (.ref a), some (.int (c : Nat)), some (.int (rankTo ch.length c ch i : Nat)), y3, y4] ∧ Same H H')
      ⟨none, none, ?_, s1⟩ ?_ ?_⟩
    · show [_, some (V.int (((vI (img ch.length (stepL ch ch.length (ch.length + 1)))).length : Nat) : Int)), some (V.int 0), _, _] = _
      rw [ec]
      rfl
    · rintro i σ H' hi0 ⟨y3, y4, rfl, e1⟩
      rw [Int.zero_add]
      have hi : i < ch.length := by
        rw [vI_len] at hi0
        exact hi0
      have hlt := getD_lt hc hi
      have hS' := seqT e1 hS
      refine ⟨.ref a, rfl, .int (i : Nat), rfl, a, vI ch, (i : Nat), .int (ch.getD i 0 : Nat), rfl, rfl, hS', atI_nat (vI_D hi), (ch.getD i 0 : Nat), rfl, by omega, by omega, for_range (n := ch.getD i 0) (fun p σ H3 => ∃ y4 : Option V, σ = [some (.ref a), some (.int (c : Nat)), some (.int (rankTo ch.length c ch i + lessAt ch.length c ch i p : Nat)), some (.int (i : Nat)), y4] ∧ Same H H3) ⟨y4, rfl, e1⟩ ?_ ?_⟩
      · rintro p σ H3 hp ⟨z4, rfl, g1⟩
        rw [Int.zero_add]
        have hS3 := seqT g1 hS
        refine ⟨_, rfl, .ref a, rfl, a, vI ch, rfl, .inr hS3, .ref a, rfl, .int (i : Nat), rfl, (i : Nat), rfl, a, ch, i, rfl, hS3, rfl, rfl, by omega, fun H4 b s4 hb => ?_⟩
        refine ⟨.int (p : Nat), rfl, by show 1 ≤ sizeLine; decide, fun t ht => ⟨b, t, ch.take i, [p], rfl, rfl, seqT (same_upd ht) hb, ofT upd_same, by rw [List.length_take]; show _ + 1 ≤ _; omega, fun H5 u s5 hu => ?_⟩⟩
        have s35 : Same H3 H5 := s4.trans ((same_upd ht).trans s5)
        refine ⟨.int (c : Nat), rfl, ch.length, u, ch.take i ++ [p], c, by rw [vI_len]; rfl, hu, by rw [List.length_append, List.length_take]; show _ + 1 ≤ _; omega, hn, ent_snoc hc (by omega), fun H6 s6 => ?_⟩
        refine ⟨_, _, rfl, rfl, some (.int (p : Nat)), ?_, g1.trans (s35.trans s6)⟩
        show [_, _, some (V.int (((rankTo ch.length c ch i + lessAt ch.length c ch i p : Nat) : Int) + (W ch.length c (ch.take i ++ [p]) : Nat))), _, _] = _
        rw [← Int.natCast_add, Nat.add_assoc, ← lessAt_succ]
      · rintro σ H3 ⟨z4, rfl, g1⟩
        exact ⟨_, _, by rw [rankTo_succ], g1⟩
    · rintro σ H' ⟨y3, y4, rfl, e1⟩
      rw [vI_len]
      exact ⟨_, rfl, q H' e1⟩
end
end Ev
namespace Ev
open PySem PySem.Spec PyProof.Rows L2
theorem rankFrom_step {n c : Nat} {ch : List Nat} {i : Nat} (hi : i < n) : rankFrom n c ch i (n - i) = lessAt n c ch i (ch.getD i 0) + rankFrom n c ch (i + 1) (n - (i + 1)) := by
  rw [show n - i = (n - (i + 1)) + 1 by omega]
  rfl
section
variable {P : Program} {w : World} {K : PySem.W.Frag} {mg : Str → Option Value} {base : Heap}
/-! ### nth_of -/
abbrev sNth : Stmt := topS 29
theorem scNth : FnScope ["many", "count", "number", "ways", "begun", "turn", "place", "here"] ["many", "count", "number", "ways"] (defScope sNth) := ⟨rfl, rfl, rfl, by decide +kernel, rfl, by decide +kernel, by decide +kernel⟩
def spNth (K : PySem.W.Frag) (fW : Addr) : Sp := fun vs H Q _ => ∃ (n c : Nat) (ch : List Nat), vs = [.int (n : Nat), .int (c : Nat), .int (rank n c ch : Nat), .ref fW] ∧ ch.length = n ∧ 1 ≤ n ∧ n ≤ 8 ∧ Ent ch n ∧ rg ch n = c ∧ ∀ H' p, Same H H' → SqT K H' p (vI ch) → Q (.ref p) H'
theorem ok_nth {f : Addr} {fd : FuncData} {k : Nat} (F : Fun K "nth_of" "nth_of" sNth f fd) (M : Mg mg) (CW : Cal P w K mg base "with_rings" k ["begun", "many", "count"] (spWith K)) : FnOk P w K mg base CX0 (k + 1) f fd ["many", "count", "number", "ways"] (spNth K CW.f) := by
  refine F.ok scNth (fun vs H Q E h => ?_) (fun cdv A outer s H vs Q E hr h => ?_)
  · obtain ⟨n, c, ch, rfl, _⟩ := h
    rfl
  · obtain ⟨n, c, ch, rfl, hl, h1, hn, hc, hr0, q⟩ := h
    have nd := scNth.nd
    have hrl := rank_lt hc hl hr0
    have hc8 : c ≤ 8 := by
      have := rg_le (c := ch) (n := n)
      omega
    refine ⟨_, pss_cons (ps_if (pt_cmpR op_ge (pv 2) (pe_callL (i := 3) (f := CW.f) CW.ok hr rfl (.inl rfl) CW.kp CW.b .nil pass0 (pa_cons (pe_tup pa_nil) (pa_cons (pv 0) (pa_cons (pv 1) (pa_nil))))) (nomark _)) (pss_one (ps_ret (pe_non))) (pss_nil)) (pss_cons (ps_set (i := 4) nd rfl (.inl rfl) (pe_tup pa_nil)) (pss_cons (ps_for PassesOwn.never rfl (pi_range1 (by rfl) M.range (pa_cons (pv 0) (pa_nil))) (pg_name (i := 5) nd rfl (Or.inl rfl)) (pss_cons (ps_set (i := 6) nd rfl (.inl rfl) (pe_int)) (pss_cons (ps_set (i := 7) nd rfl (.inl rfl) (pe_callL (i := 3) (f := CW.f) CW.ok hr rfl (.inl rfl) CW.kp CW.b .nil pass0 (pa_cons (pe_op op_app (pv 4) (pe_tup (pa_cons (pe_int) (pa_nil)))) (pa_cons (pv 0) (pa_cons (pv 1) (pa_nil)))))) (pss_cons (ps_while PassesOwn.never (pt_cmpR op_ge (pv 2) (pv 7) (nomark _)) (pss_cons (ps_aug (i := 2) nd rfl (.inl rfl) (pv 7) ip_sub) (pss_cons (ps_aug (i := 6) nd rfl (.inl rfl) (pe_int) ip_add) (pss_one (ps_set (i := 7) nd rfl (.inl rfl) (pe_callL (i := 3) (f := CW.f) CW.ok hr rfl (.inl rfl) CW.kp CW.b .nil pass0 (pa_cons (pe_op op_app (pv 4) (pe_tup (pa_cons (pv 6) (pa_nil)))) (pa_cons (pv 0) (pa_cons (pv 1) (pa_nil)))))))))) (pss_one (ps_set (i := 4) nd rfl (.inl rfl) (pe_op op_app (pv 4) (pe_tup (pa_cons (pv 6) (pa_nil)))))))))) (pss_one (ps_ret (pv 4))))), ?_⟩
    refine ⟨.int (rank n c ch : Nat), rfl, rfl, by show 0 ≤ sizeLine; exact Nat.zero_le _, fun t0 ht0 => ?_⟩
    refine ⟨.int (n : Nat), rfl, .int (c : Nat), rfl, n, t0, [], c, rfl, ofT upd_same, Nat.zero_le _, hn, hc8, fun y hy => absurd hy List.not_mem_nil, fun H1 s1 => ?_⟩
    refine ⟨(rank n c ch : Nat), (W n c [] : Nat), rfl, rfl, _, rfl, ite2 (fun ht => ?_) (fun _ => ?_)⟩
    · exfalso
      have := of_decide_eq_true ht
      omega
    · refine ⟨Nat.zero_le _, fun b0 hb0 => ?_⟩
      have e0 : Same H (upd H1 b0 (.tup [])) := (same_upd ht0).trans (s1.trans (same_upd hb0))
      refine ⟨.int (n : Nat), rfl, (n : Nat), rfl, by omega, by omega, for_range (n := n) (fun i σ H' => ∃ (g : Addr) (y5 y6 y7 : Option V), σ = [some (.int (n : Nat)), some (.int (c : Nat)), some (.int (rankFrom n c ch i (n - i) : Nat)), some (.ref CW.f), some (.ref g), y5, y6, y7] ∧ Same H H' ∧ SqT K H' g (vI (ch.take i)))
        ⟨b0, none, none, none, ?_, e0, ofT upd_same⟩ ?_ ?_⟩
      · show [_, _, some (V.int (rank n c ch : Nat)), _, _, _, _, _] = _
        rw [rank_from]
        rfl
      · rintro i σ H' hi ⟨g, y5, y6, y7, rfl, e1, hg⟩
        rw [Int.zero_add]
        have hlt := getD_lt hc (show i < ch.length by omega)
        have hstep := rankFrom_step (c := c) (ch := ch) hi
        have hnext := rankFrom_lt hc hl hr0 (n - (i + 1)) (i + 1) (by omega)
        rw [take_succ_getD (by omega)] at hnext
        have htk : (ch.take i).length ≤ 8 := by rw [List.length_take]; omega
        have htk1 : (ch.take i).length + 1 ≤ n := by rw [List.length_take]; omega
        refine ⟨rfl, .ref g, rfl, by show 1 ≤ sizeLine; decide, fun t ht => ⟨g, t, ch.take i, [0], rfl, rfl, seqT (same_upd ht) hg, ofT (by rw [upd_same]; rfl), by show _ + 1 ≤ _; omega, fun H2 u s2 hu => ?_⟩⟩
        refine ⟨.int (n : Nat), rfl, .int (c : Nat), rfl, n, u, ch.take i ++ [0], c, rfl, hu, by rw [List.length_append]; exact htk1, hn, hc8, ent_snoc hc (by omega), fun H3 s3 => ?_⟩
        have e3 : Same H' H3 := (same_upd ht).trans (s2.trans s3)
        refine ⟨fun m σ H' => ∃ (q num : Nat), σ = [some (.int (n : Nat)), some (.int (c : Nat)), some (.int (num : Nat)), some (.ref CW.f), some (.ref g), some (.int (i : Nat)), some (.int (q : Nat)), some (.int (W n c (ch.take i ++ [q]) : Nat))] ∧ m + q = ch.getD i 0 ∧ num + lessAt n c ch i q = rankFrom n c ch i (n - i) ∧ Same H H' ∧ SqT K H' g (vI (ch.take i)),
          ⟨ch.getD i 0, 0, rankFrom n c ch i (n - i), rfl, rfl, rfl, e1.trans e3, seqT e3 hg⟩, ?_⟩
        clear e3 hg e1 hu s3 s2 ht
        rintro m σ H' ⟨p, num, rfl, hm, hnum, e1, hg⟩
        refine ⟨.int (num : Nat), rfl, .int (W n c (ch.take i ++ [p]) : Nat), rfl, (num : Nat), (W n c (ch.take i ++ [p]) : Nat), rfl, rfl, _, rfl, ite2 (fun hge => ?_) (fun hlt2 => ?_)⟩
        · have hge := of_decide_eq_true hge
          have hpl : p < ch.getD i 0 := by
            rcases Nat.lt_or_ge p (ch.getD i 0) with h | h
            · exact h
            · exfalso
              obtain rfl : p = ch.getD i 0 := by omega
              omega
          refine ⟨fun σ' H2 => ∃ m', m' < m ∧ ∃ (q num : Nat), σ' = [some (.int (n : Nat)), some (.int (c : Nat)), some (.int (num : Nat)), some (.ref CW.f), some (.ref g), some (.int (i : Nat)), some (.int (q : Nat)), some (.int (W n c (ch.take i ++ [q]) : Nat))] ∧ m' + q = ch.getD i 0 ∧ num + lessAt n c ch i q = rankFrom n c ch i (n - i) ∧ Same H H2 ∧ SqT K H2 g (vI (ch.take i)), fun σ' H2 h => h, ?_⟩
          refine ⟨.int (num : Nat), rfl, .int (W n c (ch.take i ++ [p]) : Nat), rfl, (num : Nat), (W n c (ch.take i ++ [p]) : Nat), rfl, rfl, .int (p : Nat), rfl, (p : Nat), 1, rfl, rfl, ?_⟩
          refine ⟨rfl, .ref g, rfl, .int ((p : Nat) + 1), rfl, by show 1 ≤ sizeLine; decide, fun t ht => ⟨g, t, ch.take i, [p + 1], rfl, rfl, seqT (same_upd ht) hg, ofT (by rw [upd_same]; rfl), by show _ + 1 ≤ _; omega, fun H2 u s2 hu => ?_⟩⟩
          refine ⟨.int (n : Nat), rfl, .int (c : Nat), rfl, n, u, ch.take i ++ [p + 1], c, rfl, hu, by rw [List.length_append]; exact htk1, hn, hc8, ent_snoc hc (by omega), fun H3 s3 => ?_⟩
          have e3 : Same H' H3 := (same_upd ht).trans (s2.trans s3)
          refine ⟨m - 1, by omega, p + 1, num - W n c (ch.take i ++ [p]), ?_, by omega, ?_, e1.trans e3, seqT e3 hg⟩
          · show [_, _, some (V.int ((num : Int) - (W n c (ch.take i ++ [p]) : Nat))), _, _, _, _, _] = _
            rw [← Int.ofNat_sub (by omega)]
            rfl
          · rw [lessAt_succ]
            omega
        · have hlt2 : ¬ W n c (ch.take i ++ [p]) ≤ num := fun z => hlt2 (decide_eq_true (by omega))
          have hpe : p = ch.getD i 0 := by
            rcases Nat.lt_or_ge p (ch.getD i 0) with h | h
            · exfalso
              have := sm_le_add (fun p => W n c (ch.take i ++ [p])) h
              have : lessAt n c ch i p + W n c (ch.take i ++ [p]) ≤ lessAt n c ch i (ch.getD i 0) := this
              omega
            · omega
          refine ⟨.ref g, rfl, .int (p : Nat), rfl, by show 1 ≤ sizeLine; decide, fun t ht => ⟨g, t, ch.take i, [p], rfl, rfl, seqT (same_upd ht) hg, ofT upd_same, by show _ + 1 ≤ _; omega, fun H2 u s2 hu => ?_⟩⟩
          refine ⟨u, some (.int (i : Nat)), some (.int (p : Nat)), some (.int (W n c (ch.take i ++ [p]) : Nat)), ?_, e1.trans ((same_upd ht).trans s2), ?_⟩
          · rw [show rankFrom n c ch (i + 1) (n - (i + 1)) = num by rw [hpe] at hnum; omega]
            rfl
          · rw [take_succ_getD (by omega), ← hpe]
            exact hu
      · rintro σ H' ⟨g, y5, y6, y7, rfl, e1, hg⟩
        rw [List.take_of_length_le (by omega)] at hg
        exact ⟨.ref g, rfl, q H' g e1 hg⟩
/-! ### nth_by_ring_places, ring_places_rank -/
abbrev sNthBy : Stmt := topS 31
theorem scNthBy : FnScope ["many", "count", "number"] ["many", "count", "number"] (defScope sNthBy) := ⟨rfl, rfl, rfl, by decide +kernel, rfl, by decide +kernel, by decide +kernel⟩
def spNthBy (K : PySem.W.Frag) : Sp := fun vs H Q _ => ∃ (n c : Nat) (ch : List Nat), vs = [.int (n : Nat), .int (c : Nat), .int (rank n c ch : Nat)] ∧ ch.length = n ∧ 1 ≤ n ∧ n ≤ 8 ∧ Ent ch n ∧ rg ch n = c ∧ 1 ≤ c ∧ ∀ H' p, Same H H' → SqT K H' p (vI ch) → Q (.ref p) H'
theorem ok_nthBy {f : Addr} {fd : FuncData} {k : Nat} {fW : Addr} (F : Fun K "nth_by_ring_places" "nth_by_ring_places" sNthBy f fd) (hW : mg "with_rings" = some (.ref fW)) (C1 : Cal P w K mg base "check_many" k ["value"] spChkMany) (C2 : Cal P w K mg base "check_count" k ["value"] spChkCnt) (C3 : Cal P w K mg base "check_number" k ["value"] spChkNum)
    (C4 : Cal P w K mg base "nth_of" k ["many", "count", "number", "ways"] (spNth K fW)) : FnOk P w K mg base CX0 (k + 1) f fd ["many", "count", "number"] (spNthBy K) := by
  refine F.ok scNthBy (fun vs H Q E h => ?_) (fun cdv A outer s H vs Q E hr h => ?_)
  · obtain ⟨n, c, ch, rfl, _⟩ := h
    rfl
  · obtain ⟨n, c, ch, rfl, hl, h1, hn, hc, hr0, hc1, q⟩ := h
    refine ⟨_, pss_cons (ps_expr (pe_cal C1 hr (by rfl) (pa_cons (pv 0) (pa_nil)))) (pss_cons (ps_expr (pe_cal C2 hr (by rfl) (pa_cons (pv 1) (pa_nil)))) (pss_cons (ps_expr (pe_cal C3 hr (by rfl) (pa_cons (pv 2) (pa_nil)))) (pss_one (ps_ret (pe_cal C4 hr (by rfl) (pa_cons (pv 0) (pa_cons (pv 1) (pa_cons (pv 2) (pa_cons (pe_glob (v := .ref fW) (by rfl) hW rfl) (pa_nil)))))))))), ?_⟩
    refine ⟨.int (n : Nat), rfl, (n : Nat), rfl, by omega, by omega, ?_⟩
    refine ⟨.int (c : Nat), rfl, (c : Nat), rfl, by omega, ?_⟩
    refine ⟨.int (rank n c ch : Nat), rfl, (rank n c ch : Nat), rfl, by omega, ?_⟩
    exact ⟨.int (n : Nat), rfl, .int (c : Nat), rfl, .int (rank n c ch : Nat), rfl, n, c, ch, rfl, hl, h1, hn, hc, hr0, q⟩
theorem tyT {K : PySem.W.Frag} {H : Hp} {a : Addr} {xs : List V} (h : SqT K H a xs) : TyX K H (.ref a) (.type "tuple") := by
  rcases h with h | ⟨o, its, n, h1, h2, _⟩
  · rcases h with h | ⟨o, h⟩
    · exact .base (.tup h)
    · exact .fTuple h
  · exact .kTuple h1 h2
abbrev sRRank : Stmt := topS 32
theorem scRRank : FnScope ["chart"] ["chart"] (defScope sRRank) := ⟨rfl, rfl, rfl, by decide +kernel, rfl, by decide +kernel, by decide +kernel⟩
def spRRank (K : PySem.W.Frag) : Sp := fun vs H Q _ => ∃ (a : Addr) (ch : List Nat), vs = [.ref a] ∧ SqT K H a (vI ch) ∧ 1 ≤ ch.length ∧ ch.length ≤ 8 ∧ Ent ch ch.length ∧ ∀ H', Same H H' → Q (.int (rank ch.length (rg ch ch.length) ch : Nat)) H'
theorem ok_rRank {f : Addr} {fd : FuncData} {k : Nat} {fW : Addr} (F : Fun K "ring_places_rank" "ring_places_rank" sRRank f fd) (M : Mg mg) (hW : mg "with_rings" = some (.ref fW)) (C1 : Cal P w K mg base "check_chart" k ["value"] (spChkChart K)) (C2 : Cal P w K mg base "on_rings_of" k ["chart"] (spOnRings K))
    (C4 : Cal P w K mg base "rank_of" k ["chart", "count", "ways"] (spRank K fW)) : FnOk P w K mg base CX0 (k + 1) f fd ["chart"] (spRRank K) := by
  refine F.ok scRRank (fun vs H Q E h => ?_) (fun cdv A outer s H vs Q E hr h => ?_)
  · obtain ⟨a, ch, rfl, _⟩ := h
    rfl
  · obtain ⟨a, ch, rfl, hS, h1, hn, hc, q⟩ := h
    refine ⟨_, pss_cons (ps_expr (pe_cal C1 hr (by rfl) (pa_cons (pv 0) (pa_nil)))) (pss_one (ps_ret (pe_cal C4 hr (by rfl) (pa_cons (pv 0) (pa_cons (pe_callB call_len_seq (by rfl) M.len PySem.boot_len (pa_cons (pe_cal C2 hr (by rfl) (pa_cons (pv 0) (pa_nil))) (pa_nil))) (pa_cons (pe_glob (v := .ref fW) (by rfl) hW rfl) (pa_nil))))))), ?_⟩
    refine ⟨.ref a, rfl, a, ch, rfl, hS, tyT hS, h1, by omega, hc, fun H1 s1 => ?_⟩
    refine ⟨.ref a, rfl, .ref a, rfl, a, ch, rfl, seqT s1 hS, by omega, hc, fun H2 p s2 hp => ⟨p, _, rfl, .inr (ofT hp), ?_⟩⟩
    have ec : (vI (img ch.length (stepL ch ch.length ch.length))).length = rg ch ch.length := by rw [vI_len, img_steps hc rfl (Nat.le_refl _)]
    rw [ec]
    have hrg : rg ch ch.length ≤ ch.length := rg_le
    exact ⟨a, rg ch ch.length, ch, rfl, seqT (s1.trans s2) hS, hn, by omega, hc, fun H3 s3 => q H3 (s1.trans (s2.trans s3))⟩
end
end Ev
namespace Ev
open PySem PySem.Spec PyProof.Rows L2
/-! ### the law -/
def dI (l : List Nat) : List PyData := l.map fun (n : Nat) => PyData.int (n : Int)
theorem dI_can : ∀ l : List Nat, PyData.canLayAll0 (dI l) = true
  | [] => rfl
  | n :: l => by
    show PyData.canLayAll0 (PyData.int (n : Int) :: dI l) = true
    rw [PyData.canLayAll0, dI_can l]
    rfl
theorem dI_deep : ∀ l : List Nat, PyData.depthAll (dI l) = 0
  | [] => rfl
  | n :: l => by
    show PyData.depthAll (PyData.int (n : Int) :: dI l) = 0
    rw [PyData.depthAll, dI_deep l]
    rfl
theorem dI_shaped (l : List Nat) : SeqAt.shaped (.tuple (dI l)) = true := by
  unfold SeqAt.shaped
  rw [PyData.canLay0, dI_can, PyData.depth, dI_deep]
  rfl
theorem dI_dp {K : PySem.W.Frag} {H : Hp} : ∀ l : List Nat, DpAll K H (vI l) (dI l)
  | [] => .nil
  | n :: l => .cons (.int _) (dI_dp l)
theorem dI_eqv (l : List Nat) : PyData.eqv (.tuple (dI l)) (.tuple (dI l)) = true := SeqAt.eqv_refl _ (by rw [PyData.canLay0]; exact dI_can l)
theorem dp_tup {K : PySem.W.Frag} {H : Hp} {a : Addr} {l : List Nat} (h : SqT K H a (vI l)) : Dp K H (.ref a) (.tuple (dI l)) := .tup h (dI_dp l)
theorem lexI : ∀ l m : List Nat, HT.lexLt (l.map fun (n : Nat) => (n : Int)) (m.map fun (n : Nat) => (n : Int)) = lexLt l m
  | [], [] => rfl
  | [], _ :: _ => rfl
  | _ :: _, [] => rfl
  | a :: l, b :: m => by
    show (if (a : Int) = (b : Int) then _ else decide ((a : Int) < (b : Int))) = if a = b then lexLt l m else decide (a < b)
    by_cases h : a = b
    · rw [if_pos (by omega), if_pos h]
      exact lexI l m
    · rw [if_neg (by omega), if_neg h]
      exact decide_eq_decide.mpr (by omega)
theorem log_small {r : Nat} (h : r < 2 ^ 30) : ((r : Nat) : Int).natAbs.log2 < 1920 := by
  rw [Int.natAbs_natCast]
  by_cases h0 : r = 0
  · subst h0
    decide
  · have := (Nat.log2_lt h0).mpr h
    omega
theorem cutI {ns : List Int} {lo hi : Option Int} {x : V} (h : x ∈ cutV (ns.map V.int) lo hi) : ∃ z, x = V.int z := by
  have := List.mem_of_mem_drop (List.mem_of_mem_take h)
  obtain ⟨z, _, e⟩ := List.mem_map.mp this
  exact ⟨z, e.symm⟩
theorem seqL {K : PySem.W.Frag} {H H' : Hp} {a : Addr} {xs : List V} (e : Same H H') (h : SqL K H a xs) : SqL K H' a xs := by
  rcases h with (h | ⟨o, h⟩) | h
  · exact .inl (.inl (e _ _ h))
  · exact .inl (.inr ⟨o, e _ _ h⟩)
  · exact .inr h
theorem cnt_at {n c : Nat} (h1 : 1 ≤ c) (hc : c ≤ n) : (0 :: (List.range n).map fun i => ringCount n (i + 1)).getD c 0 = ringCount n c := by
  obtain ⟨d, rfl⟩ : ∃ d, c = d + 1 := ⟨c - 1, by omega⟩
  rw [List.getD_eq_getElem?_getD, List.getElem?_cons_succ, List.getElem?_map, List.getElem?_range (by omega)]
  rfl
/-- the same chart with one next place changed -/
def near (c : List Nat) (i o : Nat) : List Nat := c.take i ++ [o] ++ c.drop (i + 1)
theorem near_len {c : List Nat} {i o : Nat} (h : i < c.length) : (near c i o).length = c.length := by
  unfold near
  rw [List.length_append, List.length_append, List.length_take, List.length_drop]
  show min i c.length + 1 + _ = _
  omega
theorem near_ent {c : List Nat} {n i o : Nat} (hc : Ent c n) (ho : o < n) : Ent (near c i o) n := fun y hy => by
  rcases List.mem_append.mp hy with h | h
  · exact ent_snoc hc ho y h
  · exact hc y (List.mem_of_mem_drop h)
section
variable {P : Program} {w : World} {K : PySem.W.Frag} {mg : Str → Option Value} {base : Heap}
abbrev sLaw : Stmt := topS 47
theorem scLaw : FnScope ["_law_script", "_law_cell", "_law_source_here", "_law_chart_here", "_law_many", "_law_count", "_law_rank_here", "_law_at", "_law_other", "_law_near"] ["_law_script"] (defScope sLaw) := ⟨rfl, rfl, rfl, by decide +kernel, rfl, by decide +kernel, by decide +kernel⟩
def spLaw (K : PySem.W.Frag) : Sp := fun vs H Q _ => ∃ (a : Addr) (ns : List Int), vs = [.ref a] ∧ SqL K H a (ns.map V.int) ∧ ns.length ≤ 63 ∧ ∀ H', Q (.bl true) H'
theorem ok_law {f : Addr} {fd : FuncData} {k : Nat} (F : Fun K "law" "law" sLaw f fd) (M : Mg mg) (C1 : Cal P w K mg base "_law_source" k ["_law_cell"] spSource) (C2 : Cal P w K mg base "_law_draw" k ["_law_source_here", "_law_many"] spDraw)
    (C3 : Cal P w K mg base "_law_chart" k ["_law_source_here", "_law_most"] spLChart) (C4 : Cal P w K mg base "_law_some_chart" k ["_law_source_here", "_law_many"] spSome) (C5 : Cal P w K mg base "_law_on_rings" k ["_law_chart_here"] (spLOnRings K))
    (C6 : Cal P w K mg base "_law_rank" k ["_law_chart_here"] (spLRank K)) (C7 : Cal P w K mg base "ring_places_rank" k ["chart"] (spRRank K)) (CN : Cal P w K mg base "nth_by_ring_places" k ["many", "count", "number"] (spNthBy K))
    (C9 : Cal P w K mg base "_law_follow" k ["_law_many", "_law_begun", "_law_count"] (spLFollow K)) (C10 : Cal P w K mg base "ring_place_counts" k ["many"] spCounts) :
    FnOk P w K mg base CX0 (k + 1) f fd ["_law_script"] (spLaw K) := by
  refine F.ok scLaw (fun vs H Q E h => ?_) (fun cdv A outer s H vs Q E hr h => ?_)
  · obtain ⟨a, ns, rfl, _⟩ := h
    rfl
  · obtain ⟨a, ns, rfl, hS, hns, q⟩ := h
    have nd := scLaw.nd
    have hu1 := hu_of hr
    have hu64 := hr.units
    have hu := Nat.lt_of_succ_lt hu1
    refine ⟨_, pss_cons (ps_for PassesOwn.never rfl (pi_list (pe_op op_cat (pe_lst (pa_cons (pe_callB call_len_seq (by rfl) M.len PySem.boot_len (pa_cons (pv 0) (pa_nil))) (pa_nil))) (pe_slice sl_list (pv 0) po_none (po_some (pe_int))))) (pg_name (i := 1) nd rfl (Or.inl rfl)) (pss_cons (ps_set (i := 2) nd rfl (.inl rfl) (pe_cal C1 hr (by rfl) (pa_cons (pv 1) (pa_nil)))) (C8.pss_cut (ps_set (i := 3) nd rfl (.inl rfl) (pe_ifExp (pt_cmpR op_gt (pe_cal C2 hr (by rfl) (pa_cons (pv 2) (pa_cons (pe_int) (pa_nil)))) (pe_int) (nomark _)) (pe_cal C3 hr (by rfl) (pa_cons (pv 2) (pa_cons (pe_int) (pa_nil)))) (pe_cal C4 hr (by rfl) (pa_cons (pv 2) (pa_cons (pe_int) (pa_nil)))))) (C8.pss_cut (ps_par (i := 4) (j := 5) rfl nd rfl rfl (by decide) rfl rfl (pa_cons (pe_callB call_len_seq (by rfl) M.len PySem.boot_len (pa_cons (pv 3) (pa_nil))) (pa_cons (pe_callB call_len_seq (by rfl) M.len PySem.boot_len (pa_cons (pe_cal C5 hr (by rfl) (pa_cons (pv 3) (pa_nil))) (pa_nil))) (pa_nil))) (by rfl)) (pss_cons (ps_set (i := 6) nd rfl (.inl rfl) (pe_cal C6 hr (by rfl) (pa_cons (pv 3) (pa_nil)))) (pss_cons (ps_if (PW.pt (pw_or (pt_cmpR op_ne (pe_callB (SkE.call_repr_int) (by rfl) M.repr (by decide +kernel) (pa_cons (pe_cal C7 hr (by rfl) (pa_cons (pv 3) (pa_nil))) (pa_nil))) (pe_callB (SkE.call_repr_int) (by rfl) M.repr (by decide +kernel) (pa_cons (pv 6) (pa_nil))) (nomark _)) (pw_or1 (pt_cmpR (op_neD hu64) (pe_cal CN hr (by rfl) (pa_cons (pv 4) (pa_cons (pv 5) (pa_cons (pv 6) (pa_nil))))) (pv 3) (nomark _))))) (pss_one ps_never) (pss_nil)) (pss_cons (ps_if (pt_cmpR op_ne (pe_cal C9 hr (by rfl) (pa_cons (pv 4) (pa_cons (pe_tup pa_nil) (pa_cons (pv 5) (pa_nil))))) (pe_ix ix_list (pe_cal C10 hr (by rfl) (pa_cons (pv 4) (pa_nil))) (pv 5) (fun _ _ => rfl)) (nomark _)) (pss_one ps_never) (pss_nil)) (C8.pss_cut (ps_par (i := 7) (j := 8) rfl nd rfl rfl (by decide) rfl rfl (pa_cons (pe_cal C2 hr (by rfl) (pa_cons (pv 2) (pa_cons (pv 4) (pa_nil)))) (pa_cons (pe_cal C2 hr (by rfl) (pa_cons (pv 2) (pa_cons (pv 4) (pa_nil)))) (pa_nil))) (by rfl)) (C8.pss_cut (ps_set (i := 9) nd rfl (.inl rfl) (pe_op op_app (pe_op op_app (pe_slice sl_to (pv 3) po_none (po_some (pv 7))) (pe_tup (pa_cons (pv 8) (pa_nil)))) (pe_slice sl_from (pv 3) (po_some (pe_op op_add (pv 7) (pe_int))) po_none))) (pss_cons (ps_if (pt_cmpR op_ne (pe_cal C7 hr (by rfl) (pa_cons (pv 9) (pa_nil))) (pe_cal C6 hr (by rfl) (pa_cons (pv 9) (pa_nil))) (nomark _)) (pss_one ps_never) (pss_nil)) (pss_one (ps_if (PW.pt (pw_and (pt_cmpR op_eq (pe_callB call_len_seq (by rfl) M.len PySem.boot_len (pa_cons (pe_cal C5 hr (by rfl) (pa_cons (pv 9) (pa_nil))) (pa_nil))) (pv 5) (nomark _)) (pw_and1 (pt_cmpR op_ne (pe_cmpR (op_ltT hu) (pv 9) (pv 3) (nomark _)) (pe_cmpR op_lt (pe_cal C7 hr (by rfl) (pa_cons (pv 9) (pa_nil))) (pv 6) (nomark _)) (nomark _))))) (pss_one ps_never) (pss_nil))))))))))))) (pss_one (ps_ret (pe_bl))), ?_⟩
    refine ⟨.ref a, rfl, a, _, rfl, .inl hS, by show 1 ≤ sizeLine; decide, fun b0 hb0 => ?_⟩
    have hS1 := seqL (same_upd hb0 (o := .lst [.int ((ns.map V.int).length : Nat)])) hS
    refine ⟨.ref a, rfl, 2, rfl, a, _, rfl, hS1, fun b1 hb1 => ?_⟩
    have hcl := cutV_length (ns.map V.int) none (some 2)
    rw [List.length_map] at hcl
    have ne01 : b0 ≠ b1 := ne_of_none upd_same hb1
    refine ⟨b0, b1, _, _, rfl, rfl, by rw [upd_ne ne01, upd_same], upd_same, few (by show 1 + _ ≤ _; omega), fun L hL => ?_⟩
    generalize hH0 : upd _ L _ = H0
    have hL0 : H0 L = some (.lst (([.int ((ns.map V.int).length : Nat)] : List V) ++ cutV (ns.map V.int) none (some 2))) := by
      rw [← hH0]
      exact upd_same
    have hall : ∀ (i : Nat) (x : V), (([.int ((ns.map V.int).length : Nat)] : List V) ++ cutV (ns.map V.int) none (some 2))[i]? = some x → ∃ z, x = V.int z := fun i x e => by
      rcases List.mem_append.mp (List.mem_of_getElem? e) with h | h
      · exact ⟨_, List.mem_singleton.mp h⟩
      · exact cutI h
    generalize ([.int ((ns.map V.int).length : Nat)] : List V) ++ cutV (ns.map V.int) none (some 2) = cells at hL0 hall
    refine ⟨L, rfl, ⟨cells, ofL hL0⟩, for_list (K := K) (a := L) (xs := cells) (fun i σ H' => ∃ (y1 y2 y3 y4 y5 y6 y7 y8 y9 : Option V), σ = [some (.ref a), y1, y2, y3, y4, y5, y6, y7, y8, y9] ∧ Same H0 H')
      ⟨none, none, none, none, none, none, none, none, none, rfl, Same.refl _⟩ (fun i σ H' hi ⟨_, _, _, _, _, _, _, _, _, _, e⟩ => ofL (e _ _ hL0)) ?_ ?_⟩
    · rintro i x σ H' hx ⟨y1, y2, y3, y4, y5, y6, y7, y8, y9, rfl, e1⟩
      obtain ⟨z, rfl⟩ := hall i x hx
      refine ⟨.int z, rfl, z, rfl, fun H1 p s1 np hp => ?_⟩
      -- the chart
      refine ⟨fun σ H2 => ∃ (r : Addr) (ch : List Nat), σ = [some (.ref a), some (.int z), some (.ref p), some (.ref r), y4, y5, y6, y7, y8, y9] ∧ But p H1 H2 ∧ SrcAt 1000 H2 p ∧ SqT K H2 r (vI ch) ∧ 1 ≤ ch.length ∧ ch.length ≤ 8 ∧ Ent ch ch.length, ?_, ?_⟩
      · refine ⟨.ref p, rfl, p, 8, 0, rfl, hp, by omega, by omega, by omega, fun H2 v b2 s2 v0 v1 => ?_⟩
        refine ⟨v, 0, rfl, rfl, _, rfl, ite2 (fun _ => ?_) (fun _ => ?_)⟩
        · exact ⟨.ref p, rfl, p, 7, 0 + 1, rfl, s2, by omega, by omega, by omega, fun H3 r ch b3 s3 nr hr3 l1 l2 hc => ⟨r, ch, rfl, b2.trans b3, s3.mono (by omega), ofT hr3, l1, by omega, hc⟩⟩
        · exact ⟨.ref p, rfl, p, 8, 0 + 1, rfl, s2, by omega, by omega, by omega, fun H3 r ch b3 s3 nr hr3 l1 hc => ⟨r, ch, rfl, b2.trans b3, s3.mono (by omega), ofT hr3, by omega, by omega, by rw [l1]; exact hc⟩⟩
      · rintro σ H2 ⟨r, ch, rfl, b2, s2, hr2, l1, l8, hc⟩
        have hmine : ∀ H3, But p H1 H3 → Same H0 H3 := fun H3 b => e1.trans fun x o e => b x o (ne_of_none e np) (s1 x o e)
        obtain ⟨n, hn⟩ : ∃ n, ch.length = n := ⟨_, rfl⟩
        rw [hn] at l1 l8 hc
        have hrg : rg ch n ≤ n := rg_le
        have hrp : 1 ≤ rg ch n := rg_pos hc hn l1
        have hrk := rank_lt hc hn rfl
        have hW := W_lt l8 hrg
        have ei : (img n (stepL ch n (n + 1))).length = rg ch n := img_steps hc hn (by omega)
        generalize hcnt : rg ch n = c at *
        generalize hrank : rank n c ch = rk at *
        -- how many, how many on rings
        refine ⟨fun σ H3 => σ = [some (.ref a), some (.int z), some (.ref p), some (.ref r), some (.int (n : Nat)), some (.int (c : Nat)), y6, y7, y8, y9] ∧ Same H2 H3, ?_, ?_⟩
        · refine ⟨.ref r, rfl, r, _, rfl, .inr hr2, .ref r, rfl, r, ch, rfl, hr2, by omega, by rw [hn]; exact hc, fun H3 t s3 ht => ⟨t, _, rfl, .inl (ofL ht), ?_⟩⟩
          refine ⟨_, _, rfl, ?_, s3⟩
          show [_, _, _, _, some (V.int ((vI ch).length : Nat)), some (V.int ((vI _).length : Nat)), _, _, _, _] = _
          rw [vI_len, vI_len, hn, ei]
        · rintro σ H3 ⟨rfl, s3⟩
          have rd : ∀ H4, Same H3 H4 → SqT K H4 r (vI ch) := fun H4 s4 => seqT (s3.trans s4) hr2
          -- the rank
          refine ⟨.ref r, rfl, r, ch, rfl, rd _ (Same.refl _), by omega, by rw [hn]; exact hc, fun H4 s4 => ?_⟩
          rw [hn, hcnt, hrank]
          -- both ranks, and back
          refine ⟨.ref r, rfl, r, ch, rfl, rd _ s4, by omega, by omega, by rw [hn]; exact hc, fun H5 s5 => ?_⟩
          rw [hn, hcnt, hrank]
          refine ⟨(rk : Nat), rfl, log_small (by omega), .int (rk : Nat), rfl, (rk : Nat), rfl, log_small (by omega), rfl, _, rfl, ?_⟩
          rw [decide_eq_true rfl]
          refine iteF ?_
          refine ⟨.int (n : Nat), rfl, .int (c : Nat), rfl, .int (rk : Nat), rfl, n, c, ch, by rw [hrank]; rfl, hn, l1, l8, hc, hcnt, hrp, fun H6 u s6 hu6 => ?_⟩
          have s46 := s4.trans (s5.trans s6)
          refine ⟨.ref r, rfl, .tuple (dI ch), .tuple (dI ch), dp_tup hu6, dp_tup (rd _ s46), dI_shaped _, dI_shaped _, _, rfl, ?_⟩
          rw [dI_eqv]
          refine iteF ?_
          -- all together
          refine ⟨.int (n : Nat), rfl, by show 0 ≤ sizeLine; exact Nat.zero_le _, fun t0 ht0 => ?_⟩
          refine ⟨.int (c : Nat), rfl, n, t0, [], c, rfl, ofT upd_same, Nat.zero_le _, l8, fun y hy => absurd hy List.not_mem_nil, fun H7 s7 => ?_⟩
          refine ⟨.int (n : Nat), rfl, n, rfl, l1, by omega, fun H8 t8 s8 ht8 => ?_⟩
          refine ⟨.int (c : Nat), rfl, t8, _, (c : Nat), _, rfl, rfl, ofL ht8, atI_nat (vI_D (by rw [List.length_cons, List.length_map, List.length_range]; omega)), rfl, _, rfl, ?_⟩
          rw [cnt_at hrp hrg, W_nil l8 hrp hrg, decide_eq_true rfl]
          refine iteF ?_
          have s48 := s46.trans ((same_upd ht0).trans (s7.trans s8))
          have b8 : But p H1 H8 := b2.trans (.of (s3.trans s48))
          have hp8 : SrcAt 1000 H8 p := s2.same (s3.trans s48)
          have hr8 := rd _ s48
          clear hu6 s46 ht0 s7 s8 s48 s6 s5 s4 rd s3 s2 ht8
          -- the place, and the other next one
          refine ⟨fun σ H9 => ∃ (k o : Nat), σ = [some (.ref a), some (.int z), some (.ref p), some (.ref r), some (.int (n : Nat)), some (.int (c : Nat)), some (.int (rk : Nat)), some (.int (k : Nat)), some (.int (o : Nat)), y9] ∧ But p H8 H9 ∧ k < n ∧ o < n, ?_, ?_⟩
          · refine ⟨.ref p, rfl, .int (n : Nat), rfl, p, (n : Nat), 1000, rfl, hp8, by omega, by omega, by omega, fun H9 v b9 s9 v0 v1 => ?_⟩
            refine ⟨.ref p, rfl, .int (n : Nat), rfl, p, (n : Nat), 1000 + 1, rfl, s9, by omega, by omega, by omega, fun H10 u b10 s10 u0 u1 => ?_⟩
            obtain ⟨k, rfl⟩ := Int.eq_ofNat_of_zero_le v0
            obtain ⟨o, rfl⟩ := Int.eq_ofNat_of_zero_le u0
            exact ⟨_, _, rfl, k, o, rfl, b9.trans b10, by omega, by omega⟩
          · rintro σ H9 ⟨k, o, rfl, b9, hk, ho⟩
            obtain ⟨ys, hys⟩ := hp8.is
            have hr9 := But.seqT b9 hys hr8
            have b19 := b8.trans b9
            clear hp8 hr8 b8 b9 hys
            -- the near chart
            refine ⟨fun σ H10 => ∃ t : Addr, σ = [some (.ref a), some (.int z), some (.ref p), some (.ref r), some (.int (n : Nat)), some (.int (c : Nat)), some (.int (rk : Nat)), some (.int (k : Nat)), some (.int (o : Nat)), some (.ref t)] ∧ Same H9 H10 ∧ SqT K H10 t (vI (near ch k o)), ?_, ?_⟩
            · refine ⟨.ref r, rfl, .int (k : Nat), rfl, (k : Nat), rfl, r, ch, k, rfl, hr9, rfl, rfl, by omega, fun H10 t10 s10 ht10 => ?_⟩
              refine ⟨.int (o : Nat), rfl, by show 1 ≤ sizeLine; decide, fun t11 ht11 => ?_⟩
              refine ⟨t10, t11, ch.take k, [o], rfl, rfl, seqT (same_upd ht11) ht10, ofT upd_same, by rw [List.length_take]; show _ + 1 ≤ _; omega, fun H12 t12 s12 ht12 => ?_⟩
              have s912 := s10.trans ((same_upd ht11).trans s12)
              refine ⟨.ref r, rfl, .int (k : Nat), rfl, (k : Nat), 1, rfl, rfl, _, rfl, r, ch, k + 1, rfl, seqT s912 hr9, rfl, rfl, by omega, fun H13 t13 s13 ht13 => ?_⟩
              refine ⟨t12, t13, ch.take k ++ [o], ch.drop (k + 1), rfl, rfl, seqT s13 ht12, ht13, by rw [List.length_append, List.length_take, List.length_drop]; show _ + 1 + _ ≤ _; omega, fun H14 t14 s14 ht14 => ?_⟩
              exact ⟨t14, rfl, s912.trans (s13.trans s14), ht14⟩
            · rintro σ H10 ⟨t, rfl, s10, ht⟩
              have hnl : (near ch k o).length = n := by rw [near_len (by omega), hn]
              have hne : Ent (near ch k o) n := near_ent hc ho
              generalize near ch k o = nr at *
              have hrn : rg nr n ≤ n := rg_le
              have ein : (img n (stepL nr n (n + 1))).length = rg nr n := img_steps hne hnl (by omega)
              refine ⟨.ref t, rfl, t, nr, rfl, ht, by omega, by omega, by rw [hnl]; exact hne, fun H11 s11 => ?_⟩
              rw [hnl]
              refine ⟨.ref t, rfl, t, nr, rfl, seqT s11 ht, by omega, by rw [hnl]; exact hne, fun H12 s12 => ?_⟩
              rw [hnl]
              refine ⟨rfl, _, rfl, ?_⟩
              rw [decide_eq_true rfl]
              refine iteF ?_
              have s912 := s11.trans s12
              refine ⟨.ref t, rfl, t, nr, rfl, seqT s912 ht, by omega, by rw [hnl]; exact hne, fun H13 w13 s13 hw13 => ⟨w13, _, rfl, .inl (ofL hw13), ?_⟩⟩
              rw [vI_len, hnl, ein]
              have s913 := s912.trans s13
              have fin : ∀ H14, Same H10 H14 → Same H0 H14 := fun H14 s14 => hmine _ (b19.trans (.of (s10.trans s14)))
              refine ⟨.int (c : Nat), rfl, rfl, _, rfl, ite2 (fun heq => ?_) (fun _ => ?_)⟩
              · have hcc : rg nr n = c := by
                  have := V.int.inj (of_decide_eq_true heq)
                  omega
                have key := rank_iff hne hc hnl hn hcc hcnt
                refine ⟨.ref t, rfl, .ref r, rfl, t, r, nr.map fun (n : Nat) => (n : Int), ch.map fun (n : Nat) => (n : Int), rfl, rfl, by rw [← vI_ints]; exact seqT s913 ht, by rw [← vI_ints]; exact seqT (s10.trans s913) hr9, ?_⟩
                rw [lexI]
                refine ⟨.ref t, rfl, t, nr, rfl, seqT s913 ht, by omega, by omega, by rw [hnl]; exact hne, fun H14 s14 => ?_⟩
                rw [hnl, hcc]
                refine ⟨.int (rk : Nat), rfl, (rank n c nr : Nat), (rk : Nat), rfl, rfl, rfl, _, rfl, ?_⟩
                have e0 : lexLt nr ch = decide (((rank n c nr : Nat) : Int) < (rk : Nat)) := by
                  rw [key, hrank]
                  exact decide_eq_decide.mpr (by omega)
                rw [e0, decide_eq_true rfl]
                exact iteF ⟨_, _, _, _, _, _, _, _, _, rfl, fin _ (s913.trans s14)⟩
              · exact iteF ⟨_, _, _, _, _, _, _, _, _, rfl, fin _ s913⟩
    · rintro σ H' ⟨y1, y2, y3, y4, y5, y6, y7, y8, y9, rfl, e⟩
      exact q H'
end
end Ev
namespace Ev
open PySem PySem.Spec PyProof.Rows L2
/-! ### what the top has written -/
structure Df (K : PySem.W.Frag) (mg : Str → Option Value) (x : Str) (st : Stmt) : Prop where
  ex : ∃ (f : Addr) (fd : FuncData), Fun K x x st f fd ∧ mg x = some (.ref f)
theorem df_mk {K : PySem.W.Frag} {h : Heap} {mg : Str → Option Value} (X : K.In h) (G : h.Ns mainGlobals mg) {x : Str} {st : Stmt} {f : Addr} {oc : Value} {od an : Option Addr} {osl : Array (Option Value)} {kV doc pm cdv ct : Value}
    (a : PySem.W.nsIn K mainGlobals x = some (some (.ref f))) (l : K.lookup f = some ⟨oc, od, .func (PySem.W.fnOf x x (defArgs st) (defBody st) (defScope st) .none kV doc pm an cdv ct), osl⟩)
    (c : PySem.W.codeIn K cdv x = true) (k : PySem.W.keepIn K (.ref f) = true) : Df K mg x st := ⟨f, _, fun_mk l c k, PySem.W.mg_of X G a⟩
theorem mg_mk {K : PySem.W.Frag} {h : Heap} {mg : Str → Option Value} (X : K.In h) (G : h.Ns mainGlobals mg) {t : Tok}
    (z1 : PySem.W.nsIn K mainGlobals "len" = some none) (z2 : PySem.W.nsIn K mainGlobals "range" = some none) (z3 : PySem.W.nsIn K mainGlobals "int" = some none) (z4 : PySem.W.nsIn K mainGlobals "bool" = some none) (z5 : PySem.W.nsIn K mainGlobals "isinstance" = some none) (z6 : PySem.W.nsIn K mainGlobals "tuple" = some none) (z7 : PySem.W.nsIn K mainGlobals "sorted" = some none) (z8 : PySem.W.nsIn K mainGlobals "set" = some none) (z9 : PySem.W.nsIn K mainGlobals "dict" = some none) (z10 : PySem.W.nsIn K mainGlobals "enumerate" = some none) (z11 : PySem.W.nsIn K mainGlobals "list" = some none) (z12 : PySem.W.nsIn K mainGlobals "all" = some none) (z13 : PySem.W.nsIn K mainGlobals "max" = some none) (z14 : PySem.W.nsIn K mainGlobals "repr" = some none)
    (b1 : PySem.W.nsIn K mainGlobals "comb" = some (some (.builtin "math.comb"))) (b2 : PySem.W.nsIn K mainGlobals "factorial" = some (some (.builtin "math.factorial"))) (b3 : PySem.W.nsIn K mainGlobals "MOST_PLACES" = some (some (.int 10 t))) : Mg mg :=
  ⟨PySem.W.mg_none_of X G z1, PySem.W.mg_none_of X G z2, PySem.W.mg_none_of X G z3, PySem.W.mg_none_of X G z4, PySem.W.mg_none_of X G z5, PySem.W.mg_none_of X G z6, PySem.W.mg_none_of X G z7, PySem.W.mg_none_of X G z8, PySem.W.mg_none_of X G z9, PySem.W.mg_none_of X G z10, PySem.W.mg_none_of X G z11, PySem.W.mg_none_of X G z12, PySem.W.mg_none_of X G z13, PySem.W.mg_none_of X G z14, PySem.W.mg_of X G b1, PySem.W.mg_of X G b2, t, PySem.W.mg_of X G b3⟩
theorem all_law {l : PySem.W.OpenLaw} {w : World} {K : PySem.W.Frag} {mg : Str → Option Value} {fa : Addr} (hfa : mg "law" = some (.ref fa)) (M : Mg mg)
    (dIsInt : Df K mg "is_integer" sIsInt)
    (dIsFrom : Df K mg "is_from" sIsFrom)
    (dIsBetween : Df K mg "is_between" sIsBetween)
    (dChkNum : Df K mg "check_number" sChkNum)
    (dChkCnt : Df K mg "check_count" sChkCnt)
    (dChkMany : Df K mg "check_many" sChkMany)
    (dIsChart : Df K mg "is_chart" sIsChart)
    (dChkChart : Df K mg "check_chart" sChkChart)
    (dBehind : Df K mg "behind_of" sBehind)
    (dImage : Df K mg "image_of" sImage)
    (dStep : Df K mg "step_of" sStep)
    (dOnRings : Df K mg "on_rings_of" sOnRings)
    (dTimes : Df K mg "times_itself" sTimes)
    (dForests : Df K mg "forests_on" sForests)
    (dRingWays : Df K mg "ring_ways" sRingWays)
    (dCounts : Df K mg "ring_place_counts" sCounts)
    (dHeaps : Df K mg "heaps_begun" sHeaps)
    (dWith : Df K mg "with_rings" sWith)
    (dNth : Df K mg "nth_of" sNth)
    (dRank : Df K mg "rank_of" sRank)
    (dNthBy : Df K mg "nth_by_ring_places" sNthBy)
    (dRRank : Df K mg "ring_places_rank" sRRank)
    (dSource : Df K mg "_law_source" sSource)
    (dDraw : Df K mg "_law_draw" sDraw)
    (dRow : Df K mg "_law_row" sRow)
    (dSome : Df K mg "_law_some_chart" sSome)
    (dLChart : Df K mg "_law_chart" sLChart)
    (dLOnRings : Df K mg "_law_on_rings" sLOnRings)
    (dLHeaps : Df K mg "_law_heaps" sLHeaps)
    (dLChosen : Df K mg "_law_chosen" sLChosen)
    (dLFollow : Df K mg "_law_follow" sLFollow)
    (dLRank : Df K mg "_law_rank" sLRank)
    (dLaw : Df K mg "law" sLaw) :
    ∃ fd : FuncData, (∀ (s : Shared) (v : Value), BindsTo s fd ⟨[v], []⟩ [("_law_script", v)]) ∧ ∀ base : Heap, K.In base → base.Ns mainGlobals mg → FnOk l.prog w K mg base CX0 6 fa fd ["_law_script"] (spLaw K) := by
  obtain ⟨fIsInt, gIsInt, FIsInt, aIsInt⟩ := dIsInt.ex
  have bIsInt : Binds K gIsInt ["value"] [] := FIsInt.binds fun _ _ _ _ _ _ us hl => match us, hl with | [_], _ => rfl
  obtain ⟨fIsFrom, gIsFrom, FIsFrom, aIsFrom⟩ := dIsFrom.ex
  have bIsFrom : Binds K gIsFrom ["low", "value"] [] := FIsFrom.binds fun _ _ _ _ _ _ us hl => match us, hl with | [_, _], _ => rfl
  obtain ⟨fIsBetween, gIsBetween, FIsBetween, aIsBetween⟩ := dIsBetween.ex
  have bIsBetween : Binds K gIsBetween ["low", "value", "high"] [] := FIsBetween.binds fun _ _ _ _ _ _ us hl => match us, hl with | [_, _, _], _ => rfl
  obtain ⟨fChkNum, gChkNum, FChkNum, aChkNum⟩ := dChkNum.ex
  have bChkNum : Binds K gChkNum ["value"] [] := FChkNum.binds fun _ _ _ _ _ _ us hl => match us, hl with | [_], _ => rfl
  obtain ⟨fChkCnt, gChkCnt, FChkCnt, aChkCnt⟩ := dChkCnt.ex
  have bChkCnt : Binds K gChkCnt ["value"] [] := FChkCnt.binds fun _ _ _ _ _ _ us hl => match us, hl with | [_], _ => rfl
  obtain ⟨fChkMany, gChkMany, FChkMany, aChkMany⟩ := dChkMany.ex
  have bChkMany : Binds K gChkMany ["value"] [] := FChkMany.binds fun _ _ _ _ _ _ us hl => match us, hl with | [_], _ => rfl
  obtain ⟨fIsChart, gIsChart, FIsChart, aIsChart⟩ := dIsChart.ex
  have bIsChart : Binds K gIsChart ["value"] [] := FIsChart.binds fun _ _ _ _ _ _ us hl => match us, hl with | [_], _ => rfl
  obtain ⟨fChkChart, gChkChart, FChkChart, aChkChart⟩ := dChkChart.ex
  have bChkChart : Binds K gChkChart ["value"] [] := FChkChart.binds fun _ _ _ _ _ _ us hl => match us, hl with | [_], _ => rfl
  obtain ⟨fBehind, gBehind, FBehind, aBehind⟩ := dBehind.ex
  have bBehind : Binds K gBehind ["chart", "other"] [] := FBehind.binds fun _ _ _ _ _ _ us hl => match us, hl with | [_, _], _ => rfl
  obtain ⟨fImage, gImage, FImage, aImage⟩ := dImage.ex
  have bImage : Binds K gImage ["chart"] [] := FImage.binds fun _ _ _ _ _ _ us hl => match us, hl with | [_], _ => rfl
  obtain ⟨fStep, gStep, FStep, aStep⟩ := dStep.ex
  have bStep : Binds K gStep ["chart", "number"] [] := FStep.binds fun _ _ _ _ _ _ us hl => match us, hl with | [_, _], _ => rfl
  obtain ⟨fOnRings, gOnRings, FOnRings, aOnRings⟩ := dOnRings.ex
  have bOnRings : Binds K gOnRings ["chart"] [] := FOnRings.binds fun _ _ _ _ _ _ us hl => match us, hl with | [_], _ => rfl
  obtain ⟨fTimes, gTimes, FTimes, aTimes⟩ := dTimes.ex
  have bTimes : Binds K gTimes ["base", "times"] [] := FTimes.binds fun _ _ _ _ _ _ us hl => match us, hl with | [_, _], _ => rfl
  obtain ⟨fForests, gForests, FForests, aForests⟩ := dForests.ex
  have bForests : Binds K gForests ["many", "roots"] [] := FForests.binds fun _ _ _ _ _ _ us hl => match us, hl with | [_, _], _ => rfl
  obtain ⟨fRingWays, gRingWays, FRingWays, aRingWays⟩ := dRingWays.ex
  have bRingWays : Binds K gRingWays ["many", "places"] [] := FRingWays.binds fun _ _ _ _ _ _ us hl => match us, hl with | [_, _], _ => rfl
  obtain ⟨fCounts, gCounts, FCounts, aCounts⟩ := dCounts.ex
  have bCounts : Binds K gCounts ["many"] [] := FCounts.binds fun _ _ _ _ _ _ us hl => match us, hl with | [_], _ => rfl
  obtain ⟨fHeaps, gHeaps, FHeaps, aHeaps⟩ := dHeaps.ex
  have bHeaps : Binds K gHeaps ["begun", "many"] [] := FHeaps.binds fun _ _ _ _ _ _ us hl => match us, hl with | [_, _], _ => rfl
  obtain ⟨fWith, gWith, FWith, aWith⟩ := dWith.ex
  have bWith : Binds K gWith ["begun", "many", "count"] [] := FWith.binds fun _ _ _ _ _ _ us hl => match us, hl with | [_, _, _], _ => rfl
  obtain ⟨fNth, gNth, FNth, aNth⟩ := dNth.ex
  have bNth : Binds K gNth ["many", "count", "number", "ways"] [] := FNth.binds fun _ _ _ _ _ _ us hl => match us, hl with | [_, _, _, _], _ => rfl
  obtain ⟨fRank, gRank, FRank, aRank⟩ := dRank.ex
  have bRank : Binds K gRank ["chart", "count", "ways"] [] := FRank.binds fun _ _ _ _ _ _ us hl => match us, hl with | [_, _, _], _ => rfl
  obtain ⟨fNthBy, gNthBy, FNthBy, aNthBy⟩ := dNthBy.ex
  have bNthBy : Binds K gNthBy ["many", "count", "number"] [] := FNthBy.binds fun _ _ _ _ _ _ us hl => match us, hl with | [_, _, _], _ => rfl
  obtain ⟨fRRank, gRRank, FRRank, aRRank⟩ := dRRank.ex
  have bRRank : Binds K gRRank ["chart"] [] := FRRank.binds fun _ _ _ _ _ _ us hl => match us, hl with | [_], _ => rfl
  obtain ⟨fSource, gSource, FSource, aSource⟩ := dSource.ex
  have bSource : Binds K gSource ["_law_cell"] [] := FSource.binds fun _ _ _ _ _ _ us hl => match us, hl with | [_], _ => rfl
  obtain ⟨fDraw, gDraw, FDraw, aDraw⟩ := dDraw.ex
  have bDraw : Binds K gDraw ["_law_source_here", "_law_many"] [] := FDraw.binds fun _ _ _ _ _ _ us hl => match us, hl with | [_, _], _ => rfl
  obtain ⟨fRow, gRow, FRow, aRow⟩ := dRow.ex
  have bRow : Binds K gRow ["_law_source_here", "_law_many"] [] := FRow.binds fun _ _ _ _ _ _ us hl => match us, hl with | [_, _], _ => rfl
  obtain ⟨fSome, gSome, FSome, aSome⟩ := dSome.ex
  have bSome : Binds K gSome ["_law_source_here", "_law_many"] [] := FSome.binds fun _ _ _ _ _ _ us hl => match us, hl with | [_, _], _ => rfl
  obtain ⟨fLChart, gLChart, FLChart, aLChart⟩ := dLChart.ex
  have bLChart : Binds K gLChart ["_law_source_here", "_law_most"] [] := FLChart.binds fun _ _ _ _ _ _ us hl => match us, hl with | [_, _], _ => rfl
  obtain ⟨fLOnRings, gLOnRings, FLOnRings, aLOnRings⟩ := dLOnRings.ex
  have bLOnRings : Binds K gLOnRings ["_law_chart_here"] [] := FLOnRings.binds fun _ _ _ _ _ _ us hl => match us, hl with | [_], _ => rfl
  obtain ⟨fLHeaps, gLHeaps, FLHeaps, aLHeaps⟩ := dLHeaps.ex
  have bLHeaps : Binds K gLHeaps ["_law_many", "_law_begun"] [] := FLHeaps.binds fun _ _ _ _ _ _ us hl => match us, hl with | [_, _], _ => rfl
  obtain ⟨fLChosen, gLChosen, FLChosen, aLChosen⟩ := dLChosen.ex
  have bLChosen : Binds K gLChosen ["_law_heaps_here"] [] := FLChosen.binds fun _ _ _ _ _ _ us hl => match us, hl with | [_], _ => rfl
  obtain ⟨fLFollow, gLFollow, FLFollow, aLFollow⟩ := dLFollow.ex
  have bLFollow : Binds K gLFollow ["_law_many", "_law_begun", "_law_count"] [] := FLFollow.binds fun _ _ _ _ _ _ us hl => match us, hl with | [_, _, _], _ => rfl
  obtain ⟨fLRank, gLRank, FLRank, aLRank⟩ := dLRank.ex
  have bLRank : Binds K gLRank ["_law_chart_here"] [] := FLRank.binds fun _ _ _ _ _ _ us hl => match us, hl with | [_], _ => rfl
  obtain ⟨fLaw, gLaw, FLaw, aLaw⟩ := dLaw.ex
  obtain rfl : fa = fLaw := by
    have e := hfa.symm.trans aLaw
    cases e
    rfl
  refine ⟨gLaw, fun s v => ?_, fun base _ _ => ?_⟩
  · obtain ⟨oc, od, kV, doc, pm, an, cdv, ct, osl, rfl, lk, hcd⟩ := FLaw.ex
    exact .of_eq rfl
  · have kIsInt : ∀ k, FnOk l.prog w K mg base CX0 (k + 1) fIsInt gIsInt ["value"] spIsInt := fun k => ok_isInt FIsInt M
    have kIsFrom : ∀ k, FnOk l.prog w K mg base CX0 (k + 2) fIsFrom gIsFrom ["low", "value"] spIsFrom := fun k => ok_isFrom FIsFrom ⟨fIsInt, gIsInt, kIsInt (k + 0), aIsInt, FIsInt.kp, bIsInt⟩
    have kIsBetween : ∀ k, FnOk l.prog w K mg base CX0 (k + 2) fIsBetween gIsBetween ["low", "value", "high"] spIsBetween := fun k => ok_isBetween FIsBetween ⟨fIsInt, gIsInt, kIsInt (k + 0), aIsInt, FIsInt.kp, bIsInt⟩
    have kChkNum : ∀ k, FnOk l.prog w K mg base CX0 (k + 3) fChkNum gChkNum ["value"] spChkNum := fun k => ok_chkNum FChkNum ⟨fIsFrom, gIsFrom, kIsFrom (k + 0), aIsFrom, FIsFrom.kp, bIsFrom⟩
    have kChkCnt : ∀ k, FnOk l.prog w K mg base CX0 (k + 3) fChkCnt gChkCnt ["value"] spChkCnt := fun k => ok_chkCnt FChkCnt ⟨fIsFrom, gIsFrom, kIsFrom (k + 0), aIsFrom, FIsFrom.kp, bIsFrom⟩
    have kChkMany : ∀ k, FnOk l.prog w K mg base CX0 (k + 3) fChkMany gChkMany ["value"] spChkMany := fun k => ok_chkMany FChkMany M ⟨fIsBetween, gIsBetween, kIsBetween (k + 0), aIsBetween, FIsBetween.kp, bIsBetween⟩
    have kIsChart : ∀ k, FnOk l.prog w K mg base CX0 (k + 3) fIsChart gIsChart ["value"] (spIsChart K) := fun k => ok_isChart FIsChart M ⟨fIsBetween, gIsBetween, kIsBetween (k + 0), aIsBetween, FIsBetween.kp, bIsBetween⟩
    have kChkChart : ∀ k, FnOk l.prog w K mg base CX0 (k + 4) fChkChart gChkChart ["value"] (spChkChart K) := fun k => ok_chkChart FChkChart ⟨fIsChart, gIsChart, kIsChart (k + 0), aIsChart, FIsChart.kp, bIsChart⟩
    have kBehind : ∀ k, FnOk l.prog w K mg base CX0 (k + 1) fBehind gBehind ["chart", "other"] (spBehind K) := fun k => ok_behind FBehind M
    have kImage : ∀ k, FnOk l.prog w K mg base CX0 (k + 1) fImage gImage ["chart"] (spImage K) := fun k => ok_image FImage M
    have kStep : ∀ k, FnOk l.prog w K mg base CX0 (k + 2) fStep gStep ["chart", "number"] (spStep K) := fun k => ok_step FStep M ⟨fBehind, gBehind, kBehind (k + 0), aBehind, FBehind.kp, bBehind⟩
    have kOnRings : ∀ k, FnOk l.prog w K mg base CX0 (k + 3) fOnRings gOnRings ["chart"] (spOnRings K) := fun k => ok_onRings FOnRings M ⟨fImage, gImage, kImage (k + 1), aImage, FImage.kp, bImage⟩ ⟨fStep, gStep, kStep (k + 0), aStep, FStep.kp, bStep⟩
    have kTimes : ∀ k, FnOk l.prog w K mg base CX0 (k + 1) fTimes gTimes ["base", "times"] spTimes := fun k => ok_times FTimes M
    have kForests : ∀ k, FnOk l.prog w K mg base CX0 (k + 2) fForests gForests ["many", "roots"] spForests := fun k => ok_forests FForests ⟨fTimes, gTimes, kTimes (k + 0), aTimes, FTimes.kp, bTimes⟩
    have kRingWays : ∀ k, FnOk l.prog w K mg base CX0 (k + 3) fRingWays gRingWays ["many", "places"] spRingWays := fun k => ok_ringWays FRingWays M ⟨fForests, gForests, kForests (k + 0), aForests, FForests.kp, bForests⟩
    have kCounts : ∀ k, FnOk l.prog w K mg base CX0 (k + 4) fCounts gCounts ["many"] spCounts := fun k => ok_counts FCounts M ⟨fRingWays, gRingWays, kRingWays (k + 0), aRingWays, FRingWays.kp, bRingWays⟩ ⟨fChkMany, gChkMany, kChkMany (k + 0), aChkMany, FChkMany.kp, bChkMany⟩
    have kHeaps : ∀ k, FnOk l.prog w K mg base CX0 (k + 1) fHeaps gHeaps ["begun", "many"] (spHeaps K) := fun k => ok_heaps FHeaps M
    have kWith : ∀ k, FnOk l.prog w K mg base CX0 (k + 2) fWith gWith ["begun", "many", "count"] (spWith K) := fun k => ok_with FWith M ⟨fHeaps, gHeaps, kHeaps (k + 0), aHeaps, FHeaps.kp, bHeaps⟩ ⟨fTimes, gTimes, kTimes (k + 0), aTimes, FTimes.kp, bTimes⟩
    have kNth : ∀ k, FnOk l.prog w K mg base CX0 (k + 3) fNth gNth ["many", "count", "number", "ways"] (spNth K fWith) := fun k => ok_nth FNth M ⟨fWith, gWith, kWith (k + 0), aWith, FWith.kp, bWith⟩
    have kRank : ∀ k, FnOk l.prog w K mg base CX0 (k + 3) fRank gRank ["chart", "count", "ways"] (spRank K fWith) := fun k => ok_rank FRank M ⟨fWith, gWith, kWith (k + 0), aWith, FWith.kp, bWith⟩
    have kNthBy : ∀ k, FnOk l.prog w K mg base CX0 (k + 4) fNthBy gNthBy ["many", "count", "number"] (spNthBy K) := fun k => ok_nthBy FNthBy aWith ⟨fChkMany, gChkMany, kChkMany (k + 0), aChkMany, FChkMany.kp, bChkMany⟩ ⟨fChkCnt, gChkCnt, kChkCnt (k + 0), aChkCnt, FChkCnt.kp, bChkCnt⟩ ⟨fChkNum, gChkNum, kChkNum (k + 0), aChkNum, FChkNum.kp, bChkNum⟩ ⟨fNth, gNth, kNth (k + 0), aNth, FNth.kp, bNth⟩
    have kRRank : ∀ k, FnOk l.prog w K mg base CX0 (k + 5) fRRank gRRank ["chart"] (spRRank K) := fun k => ok_rRank FRRank M aWith ⟨fChkChart, gChkChart, kChkChart (k + 0), aChkChart, FChkChart.kp, bChkChart⟩ ⟨fOnRings, gOnRings, kOnRings (k + 1), aOnRings, FOnRings.kp, bOnRings⟩ ⟨fRank, gRank, kRank (k + 1), aRank, FRank.kp, bRank⟩
    have kSource : ∀ k, FnOk l.prog w K mg base CX0 (k + 1) fSource gSource ["_law_cell"] spSource := fun k => ok_source FSource M
    have kDraw : ∀ k, FnOk l.prog w K mg base CX0 (k + 1) fDraw gDraw ["_law_source_here", "_law_many"] spDraw := fun k => ok_draw FDraw M
    have kRow : ∀ k, FnOk l.prog w K mg base CX0 (k + 2) fRow gRow ["_law_source_here", "_law_many"] spRow := fun k => ok_row FRow M ⟨fDraw, gDraw, kDraw (k + 0), aDraw, FDraw.kp, bDraw⟩
    have kSome : ∀ k, FnOk l.prog w K mg base CX0 (k + 3) fSome gSome ["_law_source_here", "_law_many"] spSome := fun k => ok_some FSome M ⟨fDraw, gDraw, kDraw (k + 1), aDraw, FDraw.kp, bDraw⟩ ⟨fRow, gRow, kRow (k + 0), aRow, FRow.kp, bRow⟩
    have kLChart : ∀ k, FnOk l.prog w K mg base CX0 (k + 4) fLChart gLChart ["_law_source_here", "_law_most"] spLChart := fun k => ok_lChart FLChart ⟨fDraw, gDraw, kDraw (k + 2), aDraw, FDraw.kp, bDraw⟩ ⟨fSome, gSome, kSome (k + 0), aSome, FSome.kp, bSome⟩
    have kLOnRings : ∀ k, FnOk l.prog w K mg base CX0 (k + 1) fLOnRings gLOnRings ["_law_chart_here"] (spLOnRings K) := fun k => ok_lOnRings FLOnRings M
    have kLHeaps : ∀ k, FnOk l.prog w K mg base CX0 (k + 1) fLHeaps gLHeaps ["_law_many", "_law_begun"] (spLHeaps K) := fun k => ok_lHeaps FLHeaps M
    have kLChosen : ∀ k, FnOk l.prog w K mg base CX0 (k + 1) fLChosen gLChosen ["_law_heaps_here"] (spLChosen K) := fun k => ok_lChosen FLChosen M
    have kLFollow : ∀ k, FnOk l.prog w K mg base CX0 (k + 2) fLFollow gLFollow ["_law_many", "_law_begun", "_law_count"] (spLFollow K) := fun k => ok_lFollow FLFollow M ⟨fLHeaps, gLHeaps, kLHeaps (k + 0), aLHeaps, FLHeaps.kp, bLHeaps⟩ ⟨fLChosen, gLChosen, kLChosen (k + 0), aLChosen, FLChosen.kp, bLChosen⟩
    have kLRank : ∀ k, FnOk l.prog w K mg base CX0 (k + 3) fLRank gLRank ["_law_chart_here"] (spLRank K) := fun k => ok_lRank FLRank M ⟨fLOnRings, gLOnRings, kLOnRings (k + 1), aLOnRings, FLOnRings.kp, bLOnRings⟩ ⟨fLFollow, gLFollow, kLFollow (k + 0), aLFollow, FLFollow.kp, bLFollow⟩
    exact ok_law FLaw M ⟨fSource, gSource, kSource (4), aSource, FSource.kp, bSource⟩ ⟨fDraw, gDraw, kDraw (4), aDraw, FDraw.kp, bDraw⟩ ⟨fLChart, gLChart, kLChart (1), aLChart, FLChart.kp, bLChart⟩ ⟨fSome, gSome, kSome (2), aSome, FSome.kp, bSome⟩ ⟨fLOnRings, gLOnRings, kLOnRings (4), aLOnRings, FLOnRings.kp, bLOnRings⟩ ⟨fLRank, gLRank, kLRank (2), aLRank, FLRank.kp, bLRank⟩ ⟨fRRank, gRRank, kRRank (0), aRRank, FRRank.kp, bRRank⟩ ⟨fNthBy, gNthBy, kNthBy (1), aNthBy, FNthBy.kp, bNthBy⟩ ⟨fLFollow, gLFollow, kLFollow (3), aLFollow, FLFollow.kp, bLFollow⟩ ⟨fCounts, gCounts, kCounts (1), aCounts, FCounts.kp, bCounts⟩
end Ev
set_option maxHeartbeats 0 in
open PySem PySem.W PyProof.Rows in
theorem PySem.Challenge.cw_everynext_k60_whole_ranks_place_by_place_holds : PySem.Challenge.rw_everynext_k60_whole_ranks_place_by_place.Holds := by
  w_on; o_law; k_head; (case hw => w_witness2)
  k_fill
  refine L2.walk_of (l := PySem.Challenge.rw_everynext_k60_whole_ranks_place_by_place) (n := 63) (k := 6) (x := "_law_script") (CX := fun _ => L2.CX0) (sp := fun w => Ev.spLaw _) rfl (by decide) rfl ⟨rfl, by decide, by decide⟩ (fun w h Y => PySem.W.kIn_of Y) ?F (fun _ _ a ns hl _ hS => ⟨a, ns, rfl, hS, hl, fun _ => rfl⟩) (fun _ _ _ _ _ h => h)
  case F =>
    intro w mg fa h KX G hmg
    refine' Ev.all_law hmg ?mm ?dIsInt ?dIsFrom ?dIsBetween ?dChkNum ?dChkCnt ?dChkMany ?dIsChart ?dChkChart ?dBehind ?dImage ?dStep ?dOnRings ?dTimes ?dForests ?dRingWays ?dCounts ?dHeaps ?dWith ?dNth ?dRank ?dNthBy ?dRRank ?dSource ?dDraw ?dRow ?dSome ?dLChart ?dLOnRings ?dLHeaps ?dLChosen ?dLFollow ?dLRank ?dLaw
    (case mm =>
      refine' Ev.mg_mk KX G ?z1 ?z2 ?z3 ?z4 ?z5 ?z6 ?z7 ?z8 ?z9 ?z10 ?z11 ?z12 ?z13 ?z14 ?b1 ?b2 ?b3
      (case z1 => k_is)
      (case z2 => k_is)
      (case z3 => k_is)
      (case z4 => k_is)
      (case z5 => k_is)
      (case z6 => k_is)
      (case z7 => k_is)
      (case z8 => k_is)
      (case z9 => k_is)
      (case z10 => k_is)
      (case z11 => k_is)
      (case z12 => k_is)
      (case z13 => k_is)
      (case z14 => k_is)
      (case b1 => k_is)
      (case b2 => k_is)
      (case b3 => k_is))
    (case dIsInt => refine' Ev.df_mk KX G ?a ?l ?c ?k; (case a => k_is); (case l => k_is); (case c => k_is); (case k => k_is))
    (case dIsFrom => refine' Ev.df_mk KX G ?a ?l ?c ?k; (case a => k_is); (case l => k_is); (case c => k_is); (case k => k_is))
    (case dIsBetween => refine' Ev.df_mk KX G ?a ?l ?c ?k; (case a => k_is); (case l => k_is); (case c => k_is); (case k => k_is))
    (case dChkNum => refine' Ev.df_mk KX G ?a ?l ?c ?k; (case a => k_is); (case l => k_is); (case c => k_is); (case k => k_is))
    (case dChkCnt => refine' Ev.df_mk KX G ?a ?l ?c ?k; (case a => k_is); (case l => k_is); (case c => k_is); (case k => k_is))
    (case dChkMany => refine' Ev.df_mk KX G ?a ?l ?c ?k; (case a => k_is); (case l => k_is); (case c => k_is); (case k => k_is))
    (case dIsChart => refine' Ev.df_mk KX G ?a ?l ?c ?k; (case a => k_is); (case l => k_is); (case c => k_is); (case k => k_is))
    (case dChkChart => refine' Ev.df_mk KX G ?a ?l ?c ?k; (case a => k_is); (case l => k_is); (case c => k_is); (case k => k_is))
    (case dBehind => refine' Ev.df_mk KX G ?a ?l ?c ?k; (case a => k_is); (case l => k_is); (case c => k_is); (case k => k_is))
    (case dImage => refine' Ev.df_mk KX G ?a ?l ?c ?k; (case a => k_is); (case l => k_is); (case c => k_is); (case k => k_is))
    (case dStep => refine' Ev.df_mk KX G ?a ?l ?c ?k; (case a => k_is); (case l => k_is); (case c => k_is); (case k => k_is))
    (case dOnRings => refine' Ev.df_mk KX G ?a ?l ?c ?k; (case a => k_is); (case l => k_is); (case c => k_is); (case k => k_is))
    (case dTimes => refine' Ev.df_mk KX G ?a ?l ?c ?k; (case a => k_is); (case l => k_is); (case c => k_is); (case k => k_is))
    (case dForests => refine' Ev.df_mk KX G ?a ?l ?c ?k; (case a => k_is); (case l => k_is); (case c => k_is); (case k => k_is))
    (case dRingWays => refine' Ev.df_mk KX G ?a ?l ?c ?k; (case a => k_is); (case l => k_is); (case c => k_is); (case k => k_is))
    (case dCounts => refine' Ev.df_mk KX G ?a ?l ?c ?k; (case a => k_is); (case l => k_is); (case c => k_is); (case k => k_is))
    (case dHeaps => refine' Ev.df_mk KX G ?a ?l ?c ?k; (case a => k_is); (case l => k_is); (case c => k_is); (case k => k_is))
    (case dWith => refine' Ev.df_mk KX G ?a ?l ?c ?k; (case a => k_is); (case l => k_is); (case c => k_is); (case k => k_is))
    (case dNth => refine' Ev.df_mk KX G ?a ?l ?c ?k; (case a => k_is); (case l => k_is); (case c => k_is); (case k => k_is))
    (case dRank => refine' Ev.df_mk KX G ?a ?l ?c ?k; (case a => k_is); (case l => k_is); (case c => k_is); (case k => k_is))
    (case dNthBy => refine' Ev.df_mk KX G ?a ?l ?c ?k; (case a => k_is); (case l => k_is); (case c => k_is); (case k => k_is))
    (case dRRank => refine' Ev.df_mk KX G ?a ?l ?c ?k; (case a => k_is); (case l => k_is); (case c => k_is); (case k => k_is))
    (case dSource => refine' Ev.df_mk KX G ?a ?l ?c ?k; (case a => k_is); (case l => k_is); (case c => k_is); (case k => k_is))
    (case dDraw => refine' Ev.df_mk KX G ?a ?l ?c ?k; (case a => k_is); (case l => k_is); (case c => k_is); (case k => k_is))
    (case dRow => refine' Ev.df_mk KX G ?a ?l ?c ?k; (case a => k_is); (case l => k_is); (case c => k_is); (case k => k_is))
    (case dSome => refine' Ev.df_mk KX G ?a ?l ?c ?k; (case a => k_is); (case l => k_is); (case c => k_is); (case k => k_is))
    (case dLChart => refine' Ev.df_mk KX G ?a ?l ?c ?k; (case a => k_is); (case l => k_is); (case c => k_is); (case k => k_is))
    (case dLOnRings => refine' Ev.df_mk KX G ?a ?l ?c ?k; (case a => k_is); (case l => k_is); (case c => k_is); (case k => k_is))
    (case dLHeaps => refine' Ev.df_mk KX G ?a ?l ?c ?k; (case a => k_is); (case l => k_is); (case c => k_is); (case k => k_is))
    (case dLChosen => refine' Ev.df_mk KX G ?a ?l ?c ?k; (case a => k_is); (case l => k_is); (case c => k_is); (case k => k_is))
    (case dLFollow => refine' Ev.df_mk KX G ?a ?l ?c ?k; (case a => k_is); (case l => k_is); (case c => k_is); (case k => k_is))
    (case dLRank => refine' Ev.df_mk KX G ?a ?l ?c ?k; (case a => k_is); (case l => k_is); (case c => k_is); (case k => k_is))
    (case dLaw => refine' Ev.df_mk KX G ?a ?l ?c ?k; (case a => k_is); (case l => k_is); (case c => k_is); (case k => k_is))
