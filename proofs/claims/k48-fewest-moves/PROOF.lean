import PyProof.Rows.All
import Wide.All
import OpenK.AllK
import Wide.FinOn
import HandS.ForMost
import HandS.Deep
import HandS.TupAny
import HandS.Style
import HandS.Wide
import HandS.More
import KE.KeyNested
import KE.DataFind
import KE.KDictPairs
import KE.KDictDisplayH
import PySem.Challenge.RW_viewwood_k48_whole_fewest_moves_gone_thr
set_option Elab.async false
set_option linter.all false
set_option maxRecDepth 100000
set_option maxHeartbeats 4000000
/-! The mirrors in plain Lean: what the defs compute, over any type of labels. -/
namespace KM
section
variable {α : Type} [DecidableEq α]

/-! ### piles -/
/-- what a dict of pairs holds -/
def lk {β : Type} : List (α × β) → α → Option β
  | [], _ => none
  | p :: r, k => if p.1 = k then some p.2 else lk r k
/-- the last one of a pile stands ahead of the label -/
def lastLt (new : List α) (p : List α) (l : α) : Bool := match p.getLast? with
  | some y => decide (new.idxOf y < new.idxOf l)
  | none => false
def fp (new : List α) (l : α) : List (List α) → Nat
  | [] => 0
  | p :: r => if lastLt new p l = true then fp new l r + 1 else 0
def addAt (l : α) : Nat → List (List α) → List (List α)
  | _, [] => [[l]]
  | 0, p :: r => (p ++ [l]) :: r
  | k + 1, p :: r => p :: addAt l k r
def lastAt : Nat → List (List α) → Option α
  | _, [] => none
  | 0, p :: _ => p.getLast?
  | k + 1, _ :: r => lastAt k r
abbrev PS (α : Type) := List (List α) × List (α × Option α)
def aheadOf (k : Nat) (piles : List (List α)) : Option α := match k with
  | 0 => none
  | j + 1 => lastAt j piles
def pstep (new : List α) (st : PS α) (l : α) : PS α :=
  (addAt l (fp new l st.1) st.1, st.2 ++ [(l, aheadOf (fp new l st.1) st.1)])
def pilesAt (old new : List α) : Nat → PS α
  | 0 => ([], [])
  | i + 1 => match old[i]? with
    | some l => pstep new (pilesAt old new i) l
    | none => pilesAt old new i
def pilesOf (old new : List α) : PS α := pilesAt old new old.length
/-! ### the row that stays -/
def next (ah : List (α × Option α)) (s : Option α) : Option α := match s with
  | none => none
  | some x => (lk ah x).getD none
def chainIt (ah : List (α × Option α)) (s : Option α) : Nat → Option α
  | 0 => s
  | i + 1 => next ah (chainIt ah s i)
def chain (ah : List (α × Option α)) (s : Option α) : Nat → List α
  | 0 => []
  | i + 1 => match chainIt ah s i with
    | none => chain ah s i
    | some x => chain ah s i ++ [x]
def startOf (ps : List (List α)) : Option α := match ps.getLast? with
  | none => none
  | some p => p.getLast?
def stays (old new : List α) : List α := (chain (pilesOf old new).2 (startOf (pilesOf old new).1) old.length).reverse
/-! ### the order's deeds -/
abbrev OS (α : Type) := List α × List (α × Nat)
def ins (p : Nat) (x : α) (l : List α) : List α := l.take p ++ x :: l.drop p
def placeOf (now : List α) (prev : Option α) : Nat := match prev with
  | none => 0
  | some y => now.idxOf y + 1
def ostep (st : List α) (prev : Option α) (l : α) (s : OS α) : OS α :=
  if l ∈ st then s else (ins (placeOf (s.1.erase l) prev) l (s.1.erase l), s.2 ++ [(l, placeOf (s.1.erase l) prev)])
def prevOf (new : List α) : Nat → Option α
  | 0 => none
  | i + 1 => new[i]?
def ordAt (old new st : List α) : Nat → OS α
  | 0 => (old, [])
  | i + 1 => match new[i]? with
    | some l => ostep st (prevOf new i) l (ordAt old new st i)
    | none => ordAt old new st i
def order (old new : List α) : OS α := ordAt old new (stays old new) new.length
/-! ### a move -/
def mv (row : List α) (d : α × Nat) : List α := ins d.2 d.1 (row.erase d.1)
end

/-! ### all rows that one move makes, the search -/
def leftOf {α : Type} (row : List α) (k : Nat) : List α := row.take k ++ row.drop (k + 1)
def movedTo {α : Type} (row : List α) (k j : Nat) : List α := (leftOf row k).take j ++ ((row.drop k).take 1 ++ (leftOf row k).drop j)
def movedK {α : Type} (row : List α) (k : Nat) : Nat → List (List α)
  | 0 => []
  | j + 1 => if j = k then movedK row k j else movedK row k j ++ [movedTo row k j]
def movedAt {α : Type} (row : List α) : Nat → List (List α)
  | 0 => []
  | k + 1 => movedAt row k ++ movedK row k row.length
def moved {α : Type} (row : List α) : List (List α) := movedAt row row.length
section
variable {β : Type} [DecidableEq β]
abbrev BS (β : Type) := List (β × Nat) × List β
def see (row : β) (s : BS β) (o : β) : BS β :=
  if (lk s.1 o).isSome = true then s else (s.1 ++ [(o, (lk s.1 row).getD 0 + 1)], s.2 ++ [o])
def seeAll (row : β) (os : List β) (s : BS β) : BS β := os.foldl (see row) s
def bstep (m : β → List β) (s : BS β) : BS β := match s.2 with
  | [] => s
  | row :: rest => seeAll row (m row) (s.1, rest)
def bfsAt (m : β → List β) (b : β) : Nat → BS β
  | 0 => ([(b, 0)], [b])
  | t + 1 => bstep m (bfsAt m b t)
end
end KM
/-! The mirrors commute with an injective renaming. -/
namespace KM
section
variable {α β : Type} [DecidableEq α] [DecidableEq β] {f : α → β}
def Inj (f : α → β) : Prop := ∀ a b, f a = f b → a = b
theorem map_lk {γ δ : Type} (hf : Inj f) (g : γ → δ) : ∀ (ps : List (α × γ)) (k : α), lk (ps.map fun p => (f p.1, g p.2)) (f k) = (lk ps k).map g
  | [], _ => rfl
  | p :: r, k => by
    rw [List.map_cons, lk, lk]
    by_cases h : p.1 = k
    · rw [if_pos h, if_pos (by rw [h])]
      rfl
    · rw [if_neg h, if_neg (fun e => h (hf _ _ e))]
      exact map_lk hf g r k
theorem map_idx (hf : Inj f) : ∀ (l : List α) (a : α), (l.map f).idxOf (f a) = l.idxOf a
  | [], _ => rfl
  | b :: l, a => by
    rw [List.map_cons, List.idxOf_cons, List.idxOf_cons]
    by_cases h : b = a
    · subst h
      simp
    · have h2 : f b ≠ f a := fun e => h (hf _ _ e)
      rw [beq_eq_false_iff_ne.mpr h, beq_eq_false_iff_ne.mpr h2, map_idx hf l a]
theorem map_mem (hf : Inj f) {l : List α} {a : α} : f a ∈ l.map f ↔ a ∈ l := by
  constructor
  · intro h
    obtain ⟨b, hb, e⟩ := List.mem_map.mp h
    rw [← hf _ _ e]
    exact hb
  · exact fun h => List.mem_map_of_mem h
theorem map_erase (hf : Inj f) : ∀ (l : List α) (a : α), (l.map f).erase (f a) = (l.erase a).map f
  | [], _ => rfl
  | b :: l, a => by
    rw [List.map_cons, List.erase_cons, List.erase_cons]
    by_cases h : b = a
    · subst h
      simp
    · have h2 : f b ≠ f a := fun e => h (hf _ _ e)
      rw [beq_eq_false_iff_ne.mpr h, beq_eq_false_iff_ne.mpr h2, map_erase hf l a]
      rfl
theorem map_lastLt (hf : Inj f) (new p : List α) (l : α) : lastLt (new.map f) (p.map f) (f l) = lastLt new p l := by
  unfold lastLt
  rw [List.getLast?_map]
  cases p.getLast? with
  | none => rfl
  | some y =>
    show decide ((new.map f).idxOf (f y) < (new.map f).idxOf (f l)) = decide (new.idxOf y < new.idxOf l)
    rw [map_idx hf, map_idx hf]
theorem map_fp (hf : Inj f) (new : List α) (l : α) : ∀ ps : List (List α), fp (new.map f) (f l) (ps.map (List.map f)) = fp new l ps
  | [] => rfl
  | p :: r => by
    rw [List.map_cons, fp, fp, map_lastLt hf, map_fp hf new l r]
theorem map_addAt (l : α) : ∀ (k : Nat) (ps : List (List α)), addAt (f l) k (ps.map (List.map f)) = (addAt l k ps).map (List.map f)
  | 0, [] => rfl
  | _ + 1, [] => rfl
  | 0, p :: r => by simp [addAt]
  | k + 1, p :: r => by
    rw [List.map_cons, addAt, addAt, map_addAt l k r]
    rfl
theorem map_lastAt : ∀ (k : Nat) (ps : List (List α)), lastAt k (ps.map (List.map f)) = (lastAt k ps).map f
  | 0, [] => rfl
  | _ + 1, [] => rfl
  | 0, p :: r => by
    rw [List.map_cons, lastAt, lastAt, List.getLast?_map]
  | k + 1, p :: r => by
    rw [List.map_cons, lastAt, lastAt, map_lastAt k r]
theorem map_aheadOf (k : Nat) (ps : List (List α)) : aheadOf k (ps.map (List.map f)) = (aheadOf k ps).map f := by
  cases k with
  | zero => rfl
  | succ k => exact map_lastAt k ps
def mAh (f : α → β) (ah : List (α × Option α)) : List (β × Option β) := ah.map fun p => (f p.1, p.2.map f)
def mPS (f : α → β) (s : PS α) : PS β := (s.1.map (List.map f), mAh f s.2)
theorem map_pstep (hf : Inj f) (new : List α) (s : PS α) (l : α) : pstep (new.map f) (mPS f s) (f l) = mPS f (pstep new s l) := by
  unfold pstep mPS mAh
  simp only [map_fp hf, map_addAt, map_aheadOf, List.map_append, List.map_cons, List.map_nil]
theorem map_pilesAt (hf : Inj f) (old new : List α) : ∀ i, pilesAt (old.map f) (new.map f) i = mPS f (pilesAt old new i)
  | 0 => rfl
  | i + 1 => by
    rw [pilesAt, pilesAt, map_pilesAt hf old new i, List.getElem?_map]
    cases old[i]? with
    | none => rfl
    | some l => exact map_pstep hf new _ l
theorem map_pilesOf (hf : Inj f) (old new : List α) : pilesOf (old.map f) (new.map f) = mPS f (pilesOf old new) := by
  unfold pilesOf
  rw [List.length_map]
  exact map_pilesAt hf old new _
theorem map_next (hf : Inj f) (ah : List (α × Option α)) (s : Option α) : next (mAh f ah) (s.map f) = (next ah s).map f := by
  cases s with
  | none => rfl
  | some x =>
    show (lk (mAh f ah) (f x)).getD none = ((lk ah x).getD none).map f
    unfold mAh
    rw [map_lk hf (Option.map f)]
    cases lk ah x with
    | none => rfl
    | some o => rfl
theorem map_chainIt (hf : Inj f) (ah : List (α × Option α)) (s : Option α) : ∀ i, chainIt (mAh f ah) (s.map f) i = (chainIt ah s i).map f
  | 0 => rfl
  | i + 1 => by
    rw [chainIt, chainIt, map_chainIt hf ah s i, map_next hf]
theorem map_chain (hf : Inj f) (ah : List (α × Option α)) (s : Option α) : ∀ i, chain (mAh f ah) (s.map f) i = (chain ah s i).map f
  | 0 => rfl
  | i + 1 => by
    rw [chain, chain, map_chainIt hf, map_chain hf ah s i]
    cases chainIt ah s i with
    | none => rfl
    | some x =>
      show (chain ah s i).map f ++ [f x] = (chain ah s i ++ [x]).map f
      rw [List.map_append]
      rfl
theorem map_startOf (ps : List (List α)) : startOf (ps.map (List.map f)) = (startOf ps).map f := by
  unfold startOf
  rw [List.getLast?_map]
  cases ps.getLast? with
  | none => rfl
  | some p => exact List.getLast?_map ..
theorem map_stays (hf : Inj f) (old new : List α) : stays (old.map f) (new.map f) = (stays old new).map f := by
  unfold stays
  rw [map_pilesOf hf]
  show (chain (mAh f _) (startOf (List.map (List.map f) _)) _).reverse = _
  rw [map_startOf, map_chain hf, List.length_map, List.map_reverse]
theorem map_ins (p : Nat) (x : α) (l : List α) : ins p (f x) (l.map f) = (ins p x l).map f := by
  unfold ins
  rw [List.map_append, List.map_cons, List.map_take, List.map_drop]
theorem map_placeOf (hf : Inj f) (now : List α) (p : Option α) : placeOf (now.map f) (p.map f) = placeOf now p := by
  cases p with
  | none => rfl
  | some y =>
    show (now.map f).idxOf (f y) + 1 = now.idxOf y + 1
    rw [map_idx hf]
def mDs (f : α → β) (ds : List (α × Nat)) : List (β × Nat) := ds.map fun d => (f d.1, d.2)
def mOS (f : α → β) (s : OS α) : OS β := (s.1.map f, mDs f s.2)
theorem map_ostep (hf : Inj f) (st : List α) (prev : Option α) (l : α) (s : OS α) : ostep (st.map f) (prev.map f) (f l) (mOS f s) = mOS f (ostep st prev l s) := by
  unfold ostep
  by_cases h : l ∈ st
  · rw [if_pos h, if_pos ((map_mem hf).mpr h)]
  · rw [if_neg h, if_neg (fun z => h ((map_mem hf).mp z))]
    unfold mOS mDs
    simp only [map_erase hf, map_placeOf hf, map_ins, List.map_append, List.map_cons, List.map_nil]
theorem map_prevOf (new : List α) (i : Nat) : prevOf (new.map f) i = (prevOf new i).map f := by
  cases i with
  | zero => rfl
  | succ i => exact List.getElem?_map ..
theorem map_ordAt (hf : Inj f) (old new st : List α) : ∀ i, ordAt (old.map f) (new.map f) (st.map f) i = mOS f (ordAt old new st i)
  | 0 => rfl
  | i + 1 => by
    rw [ordAt, ordAt, map_ordAt hf old new st i, List.getElem?_map, map_prevOf]
    cases new[i]? with
    | none => rfl
    | some l => exact map_ostep hf st _ l _
theorem map_mv (hf : Inj f) (row : List α) (d : α × Nat) : mv (row.map f) (f d.1, d.2) = (mv row d).map f := by
  unfold mv
  rw [map_erase hf]
  exact map_ins ..
theorem map_run (hf : Inj f) : ∀ (ds : List (α × Nat)) (row : List α), (mDs f ds).foldl mv (row.map f) = (ds.foldl mv row).map f
  | [], _ => rfl
  | d :: ds, row => by
    show (mDs f ds).foldl mv (mv (row.map f) (f d.1, d.2)) = (ds.foldl mv (mv row d)).map f
    rw [map_mv hf]
    exact map_run hf ds _
def okG : List α → List (α × Nat) → Bool
  | _, [] => true
  | L, d :: ds => decide (d.1 ∈ L) && (decide (d.2 < L.length) && okG (mv L d) ds)
theorem map_okG (hf : Inj f) : ∀ (ds : List (α × Nat)) (row : List α), okG (row.map f) (mDs f ds) = okG row ds
  | [], _ => rfl
  | d :: ds, row => by
    show (decide (f d.1 ∈ row.map f) && (decide (d.2 < (row.map f).length) && okG (mv (row.map f) (f d.1, d.2)) (mDs f ds))) = _
    rw [map_mv hf, map_okG hf ds, List.length_map, okG]
    congr 1
    exact decide_eq_decide.mpr (map_mem hf)
theorem map_leftOf (row : List α) (k : Nat) : leftOf (row.map f) k = (leftOf row k).map f := by
  unfold leftOf
  rw [List.map_append, List.map_take, List.map_drop]
theorem map_movedTo (row : List α) (k j : Nat) : movedTo (row.map f) k j = (movedTo row k j).map f := by
  unfold movedTo
  rw [map_leftOf, List.map_append, List.map_append, List.map_take, List.map_drop, List.map_take, List.map_drop]
theorem map_movedK (row : List α) (k : Nat) : ∀ j, movedK (row.map f) k j = (movedK row k j).map (List.map f)
  | 0 => rfl
  | j + 1 => by
    rw [movedK, movedK, map_movedK row k j, map_movedTo]
    split
    · rfl
    · rw [List.map_append]
      rfl
theorem map_movedAt (row : List α) : ∀ k, movedAt (row.map f) k = (movedAt row k).map (List.map f)
  | 0 => rfl
  | k + 1 => by
    rw [movedAt, movedAt, map_movedAt row k, map_movedK, List.length_map, List.map_append]
theorem map_moved (row : List α) : moved (row.map f) = (moved row).map (List.map f) := by
  unfold moved
  rw [List.length_map, map_movedAt]
/-! the search -/
def mBS (f : α → β) (s : BS α) : BS β := (s.1.map fun p => (f p.1, p.2), s.2.map f)
theorem map_lkN (hf : Inj f) (ps : List (α × Nat)) (k : α) : lk (ps.map fun p => (f p.1, p.2)) (f k) = lk ps k := by
  have := map_lk hf (fun n : Nat => n) ps k
  rw [this]
  cases lk ps k <;> rfl
theorem map_see (hf : Inj f) (row : α) (s : BS α) (o : α) : see (f row) (mBS f s) (f o) = mBS f (see row s o) := by
  unfold see
  have h1 : lk (mBS f s).1 (f o) = lk s.1 o := map_lkN hf s.1 o
  have h2 : lk (mBS f s).1 (f row) = lk s.1 row := map_lkN hf s.1 row
  rw [h1, h2]
  split
  · rfl
  · unfold mBS
    simp only [List.map_append, List.map_cons, List.map_nil]
theorem map_seeAll (hf : Inj f) (row : α) : ∀ (os : List α) (s : BS α), seeAll (f row) (os.map f) (mBS f s) = mBS f (seeAll row os s)
  | [], _ => rfl
  | o :: os, s => by
    show seeAll (f row) (os.map f) (see (f row) (mBS f s) (f o)) = mBS f (seeAll row os (see row s o))
    rw [map_see hf]
    exact map_seeAll hf row os _
theorem map_bstep (hf : Inj f) {m : α → List α} {m' : β → List β} (hm : ∀ r, m' (f r) = (m r).map f) (s : BS α) : bstep m' (mBS f s) = mBS f (bstep m s) := by
  obtain ⟨a, q⟩ := s
  cases q with
  | nil => rfl
  | cons row rest =>
    show seeAll (f row) (m' (f row)) (mBS f (a, rest)) = mBS f (seeAll row (m row) (a, rest))
    rw [hm, map_seeAll hf]
theorem map_bfs (hf : Inj f) {m : α → List α} {m' : β → List β} (hm : ∀ r, m' (f r) = (m r).map f) (b : α) : ∀ t, bfsAt m' (f b) t = mBS f (bfsAt m b t)
  | 0 => rfl
  | t + 1 => by
    rw [bfsAt, bfsAt, map_bfs hf hm b t, map_bstep hf hm]
end
theorem inj_map {α β : Type} {f : α → β} [DecidableEq α] [DecidableEq β] (hf : Inj f) : Inj (List.map f) := fun a b => by
  intro h
  induction a generalizing b with
  | nil => cases b with
    | nil => rfl
    | cons y b => simp at h
  | cons x a ih => cases b with
    | nil => simp at h
    | cons y b =>
      rw [List.map_cons, List.map_cons] at h
      injection h with h1 h2
      rw [hf _ _ h1, ih _ h2]
/-! ### what was seen stays -/
section
variable {β : Type} [DecidableEq β]
theorem lk_app {γ : Type} : ∀ (a b : List (β × γ)) (k : β) (v : γ), lk a k = some v → lk (a ++ b) k = some v
  | [], _, _, _, h => by cases h
  | p :: a, b, k, v, h => by
    rw [List.cons_append, lk]
    rw [lk] at h
    split
    · rename_i e
      rw [if_pos e] at h
      exact h
    · rename_i e
      rw [if_neg e] at h
      exact lk_app a b k v h
theorem see_mono (row : β) (s : BS β) (o k : β) (v : Nat) (h : lk s.1 k = some v) : lk (see row s o).1 k = some v := by
  unfold see
  split
  · exact h
  · exact lk_app _ _ _ _ h
theorem seeAll_mono (row : β) (k : β) (v : Nat) : ∀ (os : List β) (s : BS β), lk s.1 k = some v → lk (seeAll row os s).1 k = some v
  | [], _, h => h
  | o :: os, s, h => seeAll_mono row k v os (see row s o) (see_mono row s o k v h)
theorem bstep_mono (m : β → List β) (s : BS β) (k : β) (v : Nat) (h : lk s.1 k = some v) : lk (bstep m s).1 k = some v := by
  obtain ⟨a, q⟩ := s
  cases q with
  | nil => exact h
  | cons row rest => exact seeAll_mono row k v (m row) (a, rest) h
theorem bfs_mono (m : β → List β) (b k : β) (v : Nat) (t : Nat) (h : lk (bfsAt m b t).1 k = some v) : ∀ d, lk (bfsAt m b (t + d)).1 k = some v
  | 0 => h
  | d + 1 => bstep_mono m _ k v (bfs_mono m b k v t h d)
theorem bfs_stop (m : β → List β) (b : β) (t : Nat) (h : (bfsAt m b t).2 = []) : ∀ d, bfsAt m b (t + d) = bfsAt m b t
  | 0 => rfl
  | d + 1 => by
    show bstep m (bfsAt m b (t + d)) = _
    rw [bfs_stop m b t h d]
    unfold bstep
    rw [h]
end
/-! ### all orders -/
section
variable {α : Type} [DecidableEq α]
def perms : List α → List (List α)
  | [] => [[]]
  | a :: l => (perms l).flatMap fun r => (List.range (l.length + 1)).map fun i => ins i a r
theorem mem_perms : ∀ (l m : List α), m.Perm l → m ∈ perms l
  | [], m, h => by
    rw [List.perm_nil.mp h]
    exact List.mem_cons_self ..
  | a :: l, m, h => by
    have ha : a ∈ m := h.mem_iff.mpr (List.mem_cons_self ..)
    obtain ⟨s, t, rfl⟩ := List.append_of_mem ha
    have h2 : (s ++ t).Perm l := (List.perm_cons a).mp ((List.perm_middle.symm).trans h)
    refine List.mem_flatMap.mpr ⟨s ++ t, mem_perms l _ h2, List.mem_map.mpr ⟨s.length, ?_, ?_⟩⟩
    · have := h2.length_eq
      rw [List.length_append] at this
      rw [List.mem_range]
      omega
    · unfold ins
      rw [List.take_left, List.drop_left]
end
/-! ### the facts, by number -/
def chainB (old new : List Nat) : Bool := (chainIt (pilesOf old new).2 (startOf (pilesOf old new).1) old.length == none) && (List.range old.length).all fun i => match chainIt (pilesOf old new).2 (startOf (pilesOf old new).1) i with
  | none => true
  | some x => (lk (pilesOf old new).2 x).isSome
def rowB (old new : List Nat) (ds : List (Nat × Nat)) : Bool := okG old ds && (ds.foldl mv old == new)
def orderB (old new : List Nat) : Bool := chainB old new && rowB old new (order old new).2
def allB (n : Nat) (s : BS (List Nat)) : Bool := s.2.isEmpty && decide (s.1.length ≤ 500) && (perms (List.range n)).all fun m => orderB (List.range n) m && (lk s.1 m == some (order (List.range n) m).2.length)
def fact : Nat → Nat
  | 0 => 1
  | n + 1 => (n + 1) * fact n
end KM
namespace KM
theorem b0 : allB 0 (bfsAt moved (List.range 0) (fact 0)) = true := by decide +kernel
theorem b1 : allB 1 (bfsAt moved (List.range 1) (fact 1)) = true := by decide +kernel
theorem b2 : allB 2 (bfsAt moved (List.range 2) (fact 2)) = true := by decide +kernel
theorem b3 : allB 3 (bfsAt moved (List.range 3) (fact 3)) = true := by decide +kernel
theorem b4 : allB 4 (bfsAt moved (List.range 4) (fact 4)) = true := by decide +kernel
end KM
namespace KM
section
variable {β : Type} [DecidableEq β]
def bfsOn (m : β → List β) (s : BS β) : Nat → BS β
  | 0 => s
  | t + 1 => bstep m (bfsOn m s t)
theorem bfsOn_at (m : β → List β) (b : β) (t : Nat) : ∀ d, bfsAt m b (t + d) = bfsOn m (bfsAt m b t) d
  | 0 => rfl
  | d + 1 => by
    show bstep m (bfsAt m b (t + d)) = bstep m (bfsOn m (bfsAt m b t) d)
    rw [bfsOn_at m b t d]
end
def fs1 : BS (List Nat) := ([([0,1,2,3,4], 0), ([1,0,2,3,4], 1), ([1,2,0,3,4], 1), ([1,2,3,0,4], 1), ([1,2,3,4,0], 1), ([0,2,1,3,4], 1), ([0,2,3,1,4], 1), ([0,2,3,4,1], 1), ([2,0,1,3,4], 1), ([0,1,3,2,4], 1), ([0,1,3,4,2], 1), ([3,0,1,2,4], 1), ([0,3,1,2,4], 1), ([0,1,2,4,3], 1), ([4,0,1,2,3], 1), ([0,4,1,2,3], 1), ([0,1,4,2,3], 1), ([2,1,0,3,4], 2), ([1,0,3,2,4], 2), ([1,0,3,4,2], 2), ([3,1,0,2,4], 2), ([1,3,0,2,4], 2), ([1,0,2,4,3], 2), ([4,1,0,2,3], 2), ([1,4,0,2,3], 2), ([1,0,4,2,3], 2), ([2,0,3,1,4], 2), ([2,0,3,4,1], 2), ([3,1,2,0,4], 2), ([1,3,2,0,4], 2), ([1,2,0,4,3], 2), ([4,1,2,0,3], 2), ([1,4,2,0,3], 2), ([1,2,4,0,3], 2), ([2,1,3,0,4], 2), ([2,3,1,0,4], 2), ([2,3,0,1,4], 2), ([2,3,0,4,1], 2), ([1,3,0,4,2], 2), ([4,1,2,3,0], 2), ([1,4,2,3,0], 2), ([1,2,4,3,0], 2), ([2,1,3,4,0], 2), ([2,3,1,4,0], 2), ([2,3,4,1,0], 2), ([2,3,4,0,1], 2), ([1,3,2,4,0], 2), ([1,3,4,2,0], 2), ([1,3,4,0,2], 2), ([3,1,2,4,0], 2), ([3,0,2,1,4], 2), ([0,3,2,1,4], 2), ([0,2,1,4,3], 2), ([4,0,2,1,3], 2), ([0,4,2,1,3], 2), ([0,2,4,1,3], 2), ([0,3,1,4,2], 2), ([4,0,2,3,1], 2), ([0,4,2,3,1], 2), ([0,2,4,3,1], 2), ([0,3,2,4,1], 2), ([0,3,4,2,1], 2), ([0,3,4,1,2], 2), ([3,0,2,4,1], 2), ([3,2,0,1,4], 2), ([2,0,1,4,3], 2), ([4,2,0,1,3], 2), ([2,4,0,1,3], 2), ([2,0,4,1,3], 2), ([4,0,1,3,2], 2), ([0,4,1,3,2], 2), ([0,1,4,3,2], 2)], [[0,1,3,4,2], [3,0,1,2,4], [0,3,1,2,4], [0,1,2,4,3], [4,0,1,2,3], [0,4,1,2,3], [0,1,4,2,3], [2,1,0,3,4], [1,0,3,2,4], [1,0,3,4,2], [3,1,0,2,4], [1,3,0,2,4], [1,0,2,4,3], [4,1,0,2,3], [1,4,0,2,3], [1,0,4,2,3], [2,0,3,1,4], [2,0,3,4,1], [3,1,2,0,4], [1,3,2,0,4], [1,2,0,4,3], [4,1,2,0,3], [1,4,2,0,3], [1,2,4,0,3], [2,1,3,0,4], [2,3,1,0,4], [2,3,0,1,4], [2,3,0,4,1], [1,3,0,4,2], [4,1,2,3,0], [1,4,2,3,0], [1,2,4,3,0], [2,1,3,4,0], [2,3,1,4,0], [2,3,4,1,0], [2,3,4,0,1], [1,3,2,4,0], [1,3,4,2,0], [1,3,4,0,2], [3,1,2,4,0], [3,0,2,1,4], [0,3,2,1,4], [0,2,1,4,3], [4,0,2,1,3], [0,4,2,1,3], [0,2,4,1,3], [0,3,1,4,2], [4,0,2,3,1], [0,4,2,3,1], [0,2,4,3,1], [0,3,2,4,1], [0,3,4,2,1], [0,3,4,1,2], [3,0,2,4,1], [3,2,0,1,4], [2,0,1,4,3], [4,2,0,1,3], [2,4,0,1,3], [2,0,4,1,3], [4,0,1,3,2], [0,4,1,3,2], [0,1,4,3,2]])
def fs2 : BS (List Nat) := ([([0,1,2,3,4], 0), ([1,0,2,3,4], 1), ([1,2,0,3,4], 1), ([1,2,3,0,4], 1), ([1,2,3,4,0], 1), ([0,2,1,3,4], 1), ([0,2,3,1,4], 1), ([0,2,3,4,1], 1), ([2,0,1,3,4], 1), ([0,1,3,2,4], 1), ([0,1,3,4,2], 1), ([3,0,1,2,4], 1), ([0,3,1,2,4], 1), ([0,1,2,4,3], 1), ([4,0,1,2,3], 1), ([0,4,1,2,3], 1), ([0,1,4,2,3], 1), ([2,1,0,3,4], 2), ([1,0,3,2,4], 2), ([1,0,3,4,2], 2), ([3,1,0,2,4], 2), ([1,3,0,2,4], 2), ([1,0,2,4,3], 2), ([4,1,0,2,3], 2), ([1,4,0,2,3], 2), ([1,0,4,2,3], 2), ([2,0,3,1,4], 2), ([2,0,3,4,1], 2), ([3,1,2,0,4], 2), ([1,3,2,0,4], 2), ([1,2,0,4,3], 2), ([4,1,2,0,3], 2), ([1,4,2,0,3], 2), ([1,2,4,0,3], 2), ([2,1,3,0,4], 2), ([2,3,1,0,4], 2), ([2,3,0,1,4], 2), ([2,3,0,4,1], 2), ([1,3,0,4,2], 2), ([4,1,2,3,0], 2), ([1,4,2,3,0], 2), ([1,2,4,3,0], 2), ([2,1,3,4,0], 2), ([2,3,1,4,0], 2), ([2,3,4,1,0], 2), ([2,3,4,0,1], 2), ([1,3,2,4,0], 2), ([1,3,4,2,0], 2), ([1,3,4,0,2], 2), ([3,1,2,4,0], 2), ([3,0,2,1,4], 2), ([0,3,2,1,4], 2), ([0,2,1,4,3], 2), ([4,0,2,1,3], 2), ([0,4,2,1,3], 2), ([0,2,4,1,3], 2), ([0,3,1,4,2], 2), ([4,0,2,3,1], 2), ([0,4,2,3,1], 2), ([0,2,4,3,1], 2), ([0,3,2,4,1], 2), ([0,3,4,2,1], 2), ([0,3,4,1,2], 2), ([3,0,2,4,1], 2), ([3,2,0,1,4], 2), ([2,0,1,4,3], 2), ([4,2,0,1,3], 2), ([2,4,0,1,3], 2), ([2,0,4,1,3], 2), ([4,0,1,3,2], 2), ([0,4,1,3,2], 2), ([0,1,4,3,2], 2), ([3,0,1,4,2], 2), ([4,3,0,1,2], 2), ([3,4,0,1,2], 2), ([3,0,4,1,2], 2), ([4,0,3,1,2], 2), ([0,4,3,1,2], 2), ([3,2,1,0,4], 3), ([2,1,0,4,3], 3), ([4,2,1,0,3], 3), ([2,4,1,0,3], 3), ([2,1,4,0,3], 3), ([4,1,0,3,2], 3), ([1,4,0,3,2], 3), ([1,0,4,3,2], 3), ([3,1,0,4,2], 3)], [[3,1,0,2,4], [1,3,0,2,4], [1,0,2,4,3], [4,1,0,2,3], [1,4,0,2,3], [1,0,4,2,3], [2,0,3,1,4], [2,0,3,4,1], [3,1,2,0,4], [1,3,2,0,4], [1,2,0,4,3], [4,1,2,0,3], [1,4,2,0,3], [1,2,4,0,3], [2,1,3,0,4], [2,3,1,0,4], [2,3,0,1,4], [2,3,0,4,1], [1,3,0,4,2], [4,1,2,3,0], [1,4,2,3,0], [1,2,4,3,0], [2,1,3,4,0], [2,3,1,4,0], [2,3,4,1,0], [2,3,4,0,1], [1,3,2,4,0], [1,3,4,2,0], [1,3,4,0,2], [3,1,2,4,0], [3,0,2,1,4], [0,3,2,1,4], [0,2,1,4,3], [4,0,2,1,3], [0,4,2,1,3], [0,2,4,1,3], [0,3,1,4,2], [4,0,2,3,1], [0,4,2,3,1], [0,2,4,3,1], [0,3,2,4,1], [0,3,4,2,1], [0,3,4,1,2], [3,0,2,4,1], [3,2,0,1,4], [2,0,1,4,3], [4,2,0,1,3], [2,4,0,1,3], [2,0,4,1,3], [4,0,1,3,2], [0,4,1,3,2], [0,1,4,3,2], [3,0,1,4,2], [4,3,0,1,2], [3,4,0,1,2], [3,0,4,1,2], [4,0,3,1,2], [0,4,3,1,2], [3,2,1,0,4], [2,1,0,4,3], [4,2,1,0,3], [2,4,1,0,3], [2,1,4,0,3], [4,1,0,3,2], [1,4,0,3,2], [1,0,4,3,2], [3,1,0,4,2]])
def fs3 : BS (List Nat) := ([([0,1,2,3,4], 0), ([1,0,2,3,4], 1), ([1,2,0,3,4], 1), ([1,2,3,0,4], 1), ([1,2,3,4,0], 1), ([0,2,1,3,4], 1), ([0,2,3,1,4], 1), ([0,2,3,4,1], 1), ([2,0,1,3,4], 1), ([0,1,3,2,4], 1), ([0,1,3,4,2], 1), ([3,0,1,2,4], 1), ([0,3,1,2,4], 1), ([0,1,2,4,3], 1), ([4,0,1,2,3], 1), ([0,4,1,2,3], 1), ([0,1,4,2,3], 1), ([2,1,0,3,4], 2), ([1,0,3,2,4], 2), ([1,0,3,4,2], 2), ([3,1,0,2,4], 2), ([1,3,0,2,4], 2), ([1,0,2,4,3], 2), ([4,1,0,2,3], 2), ([1,4,0,2,3], 2), ([1,0,4,2,3], 2), ([2,0,3,1,4], 2), ([2,0,3,4,1], 2), ([3,1,2,0,4], 2), ([1,3,2,0,4], 2), ([1,2,0,4,3], 2), ([4,1,2,0,3], 2), ([1,4,2,0,3], 2), ([1,2,4,0,3], 2), ([2,1,3,0,4], 2), ([2,3,1,0,4], 2), ([2,3,0,1,4], 2), ([2,3,0,4,1], 2), ([1,3,0,4,2], 2), ([4,1,2,3,0], 2), ([1,4,2,3,0], 2), ([1,2,4,3,0], 2), ([2,1,3,4,0], 2), ([2,3,1,4,0], 2), ([2,3,4,1,0], 2), ([2,3,4,0,1], 2), ([1,3,2,4,0], 2), ([1,3,4,2,0], 2), ([1,3,4,0,2], 2), ([3,1,2,4,0], 2), ([3,0,2,1,4], 2), ([0,3,2,1,4], 2), ([0,2,1,4,3], 2), ([4,0,2,1,3], 2), ([0,4,2,1,3], 2), ([0,2,4,1,3], 2), ([0,3,1,4,2], 2), ([4,0,2,3,1], 2), ([0,4,2,3,1], 2), ([0,2,4,3,1], 2), ([0,3,2,4,1], 2), ([0,3,4,2,1], 2), ([0,3,4,1,2], 2), ([3,0,2,4,1], 2), ([3,2,0,1,4], 2), ([2,0,1,4,3], 2), ([4,2,0,1,3], 2), ([2,4,0,1,3], 2), ([2,0,4,1,3], 2), ([4,0,1,3,2], 2), ([0,4,1,3,2], 2), ([0,1,4,3,2], 2), ([3,0,1,4,2], 2), ([4,3,0,1,2], 2), ([3,4,0,1,2], 2), ([3,0,4,1,2], 2), ([4,0,3,1,2], 2), ([0,4,3,1,2], 2), ([3,2,1,0,4], 3), ([2,1,0,4,3], 3), ([4,2,1,0,3], 3), ([2,4,1,0,3], 3), ([2,1,4,0,3], 3), ([4,1,0,3,2], 3), ([1,4,0,3,2], 3), ([1,0,4,3,2], 3), ([3,1,0,4,2], 3), ([4,3,1,0,2], 3), ([3,4,1,0,2], 3), ([3,1,4,0,2], 3), ([4,1,3,0,2], 3), ([1,4,3,0,2], 3), ([4,2,0,3,1], 3), ([2,4,0,3,1], 3), ([2,0,4,3,1], 3), ([3,2,0,4,1], 3), ([4,3,1,2,0], 3), ([3,4,1,2,0], 3), ([3,1,4,2,0], 3), ([4,1,3,2,0], 3), ([1,4,3,2,0], 3)], [[1,2,0,4,3], [4,1,2,0,3], [1,4,2,0,3], [1,2,4,0,3], [2,1,3,0,4], [2,3,1,0,4], [2,3,0,1,4], [2,3,0,4,1], [1,3,0,4,2], [4,1,2,3,0], [1,4,2,3,0], [1,2,4,3,0], [2,1,3,4,0], [2,3,1,4,0], [2,3,4,1,0], [2,3,4,0,1], [1,3,2,4,0], [1,3,4,2,0], [1,3,4,0,2], [3,1,2,4,0], [3,0,2,1,4], [0,3,2,1,4], [0,2,1,4,3], [4,0,2,1,3], [0,4,2,1,3], [0,2,4,1,3], [0,3,1,4,2], [4,0,2,3,1], [0,4,2,3,1], [0,2,4,3,1], [0,3,2,4,1], [0,3,4,2,1], [0,3,4,1,2], [3,0,2,4,1], [3,2,0,1,4], [2,0,1,4,3], [4,2,0,1,3], [2,4,0,1,3], [2,0,4,1,3], [4,0,1,3,2], [0,4,1,3,2], [0,1,4,3,2], [3,0,1,4,2], [4,3,0,1,2], [3,4,0,1,2], [3,0,4,1,2], [4,0,3,1,2], [0,4,3,1,2], [3,2,1,0,4], [2,1,0,4,3], [4,2,1,0,3], [2,4,1,0,3], [2,1,4,0,3], [4,1,0,3,2], [1,4,0,3,2], [1,0,4,3,2], [3,1,0,4,2], [4,3,1,0,2], [3,4,1,0,2], [3,1,4,0,2], [4,1,3,0,2], [1,4,3,0,2], [4,2,0,3,1], [2,4,0,3,1], [2,0,4,3,1], [3,2,0,4,1], [4,3,1,2,0], [3,4,1,2,0], [3,1,4,2,0], [4,1,3,2,0], [1,4,3,2,0]])
def fs4 : BS (List Nat) := ([([0,1,2,3,4], 0), ([1,0,2,3,4], 1), ([1,2,0,3,4], 1), ([1,2,3,0,4], 1), ([1,2,3,4,0], 1), ([0,2,1,3,4], 1), ([0,2,3,1,4], 1), ([0,2,3,4,1], 1), ([2,0,1,3,4], 1), ([0,1,3,2,4], 1), ([0,1,3,4,2], 1), ([3,0,1,2,4], 1), ([0,3,1,2,4], 1), ([0,1,2,4,3], 1), ([4,0,1,2,3], 1), ([0,4,1,2,3], 1), ([0,1,4,2,3], 1), ([2,1,0,3,4], 2), ([1,0,3,2,4], 2), ([1,0,3,4,2], 2), ([3,1,0,2,4], 2), ([1,3,0,2,4], 2), ([1,0,2,4,3], 2), ([4,1,0,2,3], 2), ([1,4,0,2,3], 2), ([1,0,4,2,3], 2), ([2,0,3,1,4], 2), ([2,0,3,4,1], 2), ([3,1,2,0,4], 2), ([1,3,2,0,4], 2), ([1,2,0,4,3], 2), ([4,1,2,0,3], 2), ([1,4,2,0,3], 2), ([1,2,4,0,3], 2), ([2,1,3,0,4], 2), ([2,3,1,0,4], 2), ([2,3,0,1,4], 2), ([2,3,0,4,1], 2), ([1,3,0,4,2], 2), ([4,1,2,3,0], 2), ([1,4,2,3,0], 2), ([1,2,4,3,0], 2), ([2,1,3,4,0], 2), ([2,3,1,4,0], 2), ([2,3,4,1,0], 2), ([2,3,4,0,1], 2), ([1,3,2,4,0], 2), ([1,3,4,2,0], 2), ([1,3,4,0,2], 2), ([3,1,2,4,0], 2), ([3,0,2,1,4], 2), ([0,3,2,1,4], 2), ([0,2,1,4,3], 2), ([4,0,2,1,3], 2), ([0,4,2,1,3], 2), ([0,2,4,1,3], 2), ([0,3,1,4,2], 2), ([4,0,2,3,1], 2), ([0,4,2,3,1], 2), ([0,2,4,3,1], 2), ([0,3,2,4,1], 2), ([0,3,4,2,1], 2), ([0,3,4,1,2], 2), ([3,0,2,4,1], 2), ([3,2,0,1,4], 2), ([2,0,1,4,3], 2), ([4,2,0,1,3], 2), ([2,4,0,1,3], 2), ([2,0,4,1,3], 2), ([4,0,1,3,2], 2), ([0,4,1,3,2], 2), ([0,1,4,3,2], 2), ([3,0,1,4,2], 2), ([4,3,0,1,2], 2), ([3,4,0,1,2], 2), ([3,0,4,1,2], 2), ([4,0,3,1,2], 2), ([0,4,3,1,2], 2), ([3,2,1,0,4], 3), ([2,1,0,4,3], 3), ([4,2,1,0,3], 3), ([2,4,1,0,3], 3), ([2,1,4,0,3], 3), ([4,1,0,3,2], 3), ([1,4,0,3,2], 3), ([1,0,4,3,2], 3), ([3,1,0,4,2], 3), ([4,3,1,0,2], 3), ([3,4,1,0,2], 3), ([3,1,4,0,2], 3), ([4,1,3,0,2], 3), ([1,4,3,0,2], 3), ([4,2,0,3,1], 3), ([2,4,0,3,1], 3), ([2,0,4,3,1], 3), ([3,2,0,4,1], 3), ([4,3,1,2,0], 3), ([3,4,1,2,0], 3), ([3,1,4,2,0], 3), ([4,1,3,2,0], 3), ([1,4,3,2,0], 3), ([4,2,1,3,0], 3), ([2,4,1,3,0], 3), ([2,1,4,3,0], 3), ([4,2,3,1,0], 3), ([2,4,3,1,0], 3), ([4,2,3,0,1], 3), ([2,4,3,0,1], 3), ([3,0,4,2,1], 3)], [[1,4,2,3,0], [1,2,4,3,0], [2,1,3,4,0], [2,3,1,4,0], [2,3,4,1,0], [2,3,4,0,1], [1,3,2,4,0], [1,3,4,2,0], [1,3,4,0,2], [3,1,2,4,0], [3,0,2,1,4], [0,3,2,1,4], [0,2,1,4,3], [4,0,2,1,3], [0,4,2,1,3], [0,2,4,1,3], [0,3,1,4,2], [4,0,2,3,1], [0,4,2,3,1], [0,2,4,3,1], [0,3,2,4,1], [0,3,4,2,1], [0,3,4,1,2], [3,0,2,4,1], [3,2,0,1,4], [2,0,1,4,3], [4,2,0,1,3], [2,4,0,1,3], [2,0,4,1,3], [4,0,1,3,2], [0,4,1,3,2], [0,1,4,3,2], [3,0,1,4,2], [4,3,0,1,2], [3,4,0,1,2], [3,0,4,1,2], [4,0,3,1,2], [0,4,3,1,2], [3,2,1,0,4], [2,1,0,4,3], [4,2,1,0,3], [2,4,1,0,3], [2,1,4,0,3], [4,1,0,3,2], [1,4,0,3,2], [1,0,4,3,2], [3,1,0,4,2], [4,3,1,0,2], [3,4,1,0,2], [3,1,4,0,2], [4,1,3,0,2], [1,4,3,0,2], [4,2,0,3,1], [2,4,0,3,1], [2,0,4,3,1], [3,2,0,4,1], [4,3,1,2,0], [3,4,1,2,0], [3,1,4,2,0], [4,1,3,2,0], [1,4,3,2,0], [4,2,1,3,0], [2,4,1,3,0], [2,1,4,3,0], [4,2,3,1,0], [2,4,3,1,0], [4,2,3,0,1], [2,4,3,0,1], [3,0,4,2,1]])
def fs5 : BS (List Nat) := ([([0,1,2,3,4], 0), ([1,0,2,3,4], 1), ([1,2,0,3,4], 1), ([1,2,3,0,4], 1), ([1,2,3,4,0], 1), ([0,2,1,3,4], 1), ([0,2,3,1,4], 1), ([0,2,3,4,1], 1), ([2,0,1,3,4], 1), ([0,1,3,2,4], 1), ([0,1,3,4,2], 1), ([3,0,1,2,4], 1), ([0,3,1,2,4], 1), ([0,1,2,4,3], 1), ([4,0,1,2,3], 1), ([0,4,1,2,3], 1), ([0,1,4,2,3], 1), ([2,1,0,3,4], 2), ([1,0,3,2,4], 2), ([1,0,3,4,2], 2), ([3,1,0,2,4], 2), ([1,3,0,2,4], 2), ([1,0,2,4,3], 2), ([4,1,0,2,3], 2), ([1,4,0,2,3], 2), ([1,0,4,2,3], 2), ([2,0,3,1,4], 2), ([2,0,3,4,1], 2), ([3,1,2,0,4], 2), ([1,3,2,0,4], 2), ([1,2,0,4,3], 2), ([4,1,2,0,3], 2), ([1,4,2,0,3], 2), ([1,2,4,0,3], 2), ([2,1,3,0,4], 2), ([2,3,1,0,4], 2), ([2,3,0,1,4], 2), ([2,3,0,4,1], 2), ([1,3,0,4,2], 2), ([4,1,2,3,0], 2), ([1,4,2,3,0], 2), ([1,2,4,3,0], 2), ([2,1,3,4,0], 2), ([2,3,1,4,0], 2), ([2,3,4,1,0], 2), ([2,3,4,0,1], 2), ([1,3,2,4,0], 2), ([1,3,4,2,0], 2), ([1,3,4,0,2], 2), ([3,1,2,4,0], 2), ([3,0,2,1,4], 2), ([0,3,2,1,4], 2), ([0,2,1,4,3], 2), ([4,0,2,1,3], 2), ([0,4,2,1,3], 2), ([0,2,4,1,3], 2), ([0,3,1,4,2], 2), ([4,0,2,3,1], 2), ([0,4,2,3,1], 2), ([0,2,4,3,1], 2), ([0,3,2,4,1], 2), ([0,3,4,2,1], 2), ([0,3,4,1,2], 2), ([3,0,2,4,1], 2), ([3,2,0,1,4], 2), ([2,0,1,4,3], 2), ([4,2,0,1,3], 2), ([2,4,0,1,3], 2), ([2,0,4,1,3], 2), ([4,0,1,3,2], 2), ([0,4,1,3,2], 2), ([0,1,4,3,2], 2), ([3,0,1,4,2], 2), ([4,3,0,1,2], 2), ([3,4,0,1,2], 2), ([3,0,4,1,2], 2), ([4,0,3,1,2], 2), ([0,4,3,1,2], 2), ([3,2,1,0,4], 3), ([2,1,0,4,3], 3), ([4,2,1,0,3], 3), ([2,4,1,0,3], 3), ([2,1,4,0,3], 3), ([4,1,0,3,2], 3), ([1,4,0,3,2], 3), ([1,0,4,3,2], 3), ([3,1,0,4,2], 3), ([4,3,1,0,2], 3), ([3,4,1,0,2], 3), ([3,1,4,0,2], 3), ([4,1,3,0,2], 3), ([1,4,3,0,2], 3), ([4,2,0,3,1], 3), ([2,4,0,3,1], 3), ([2,0,4,3,1], 3), ([3,2,0,4,1], 3), ([4,3,1,2,0], 3), ([3,4,1,2,0], 3), ([3,1,4,2,0], 3), ([4,1,3,2,0], 3), ([1,4,3,2,0], 3), ([4,2,1,3,0], 3), ([2,4,1,3,0], 3), ([2,1,4,3,0], 3), ([4,2,3,1,0], 3), ([2,4,3,1,0], 3), ([4,2,3,0,1], 3), ([2,4,3,0,1], 3), ([3,0,4,2,1], 3), ([3,2,1,4,0], 3), ([3,2,4,1,0], 3), ([3,4,2,1,0], 3), ([3,2,4,0,1], 3), ([3,4,2,0,1], 3), ([3,4,0,2,1], 3)], [[3,0,2,1,4], [0,3,2,1,4], [0,2,1,4,3], [4,0,2,1,3], [0,4,2,1,3], [0,2,4,1,3], [0,3,1,4,2], [4,0,2,3,1], [0,4,2,3,1], [0,2,4,3,1], [0,3,2,4,1], [0,3,4,2,1], [0,3,4,1,2], [3,0,2,4,1], [3,2,0,1,4], [2,0,1,4,3], [4,2,0,1,3], [2,4,0,1,3], [2,0,4,1,3], [4,0,1,3,2], [0,4,1,3,2], [0,1,4,3,2], [3,0,1,4,2], [4,3,0,1,2], [3,4,0,1,2], [3,0,4,1,2], [4,0,3,1,2], [0,4,3,1,2], [3,2,1,0,4], [2,1,0,4,3], [4,2,1,0,3], [2,4,1,0,3], [2,1,4,0,3], [4,1,0,3,2], [1,4,0,3,2], [1,0,4,3,2], [3,1,0,4,2], [4,3,1,0,2], [3,4,1,0,2], [3,1,4,0,2], [4,1,3,0,2], [1,4,3,0,2], [4,2,0,3,1], [2,4,0,3,1], [2,0,4,3,1], [3,2,0,4,1], [4,3,1,2,0], [3,4,1,2,0], [3,1,4,2,0], [4,1,3,2,0], [1,4,3,2,0], [4,2,1,3,0], [2,4,1,3,0], [2,1,4,3,0], [4,2,3,1,0], [2,4,3,1,0], [4,2,3,0,1], [2,4,3,0,1], [3,0,4,2,1], [3,2,1,4,0], [3,2,4,1,0], [3,4,2,1,0], [3,2,4,0,1], [3,4,2,0,1], [3,4,0,2,1]])
def fs6 : BS (List Nat) := ([([0,1,2,3,4], 0), ([1,0,2,3,4], 1), ([1,2,0,3,4], 1), ([1,2,3,0,4], 1), ([1,2,3,4,0], 1), ([0,2,1,3,4], 1), ([0,2,3,1,4], 1), ([0,2,3,4,1], 1), ([2,0,1,3,4], 1), ([0,1,3,2,4], 1), ([0,1,3,4,2], 1), ([3,0,1,2,4], 1), ([0,3,1,2,4], 1), ([0,1,2,4,3], 1), ([4,0,1,2,3], 1), ([0,4,1,2,3], 1), ([0,1,4,2,3], 1), ([2,1,0,3,4], 2), ([1,0,3,2,4], 2), ([1,0,3,4,2], 2), ([3,1,0,2,4], 2), ([1,3,0,2,4], 2), ([1,0,2,4,3], 2), ([4,1,0,2,3], 2), ([1,4,0,2,3], 2), ([1,0,4,2,3], 2), ([2,0,3,1,4], 2), ([2,0,3,4,1], 2), ([3,1,2,0,4], 2), ([1,3,2,0,4], 2), ([1,2,0,4,3], 2), ([4,1,2,0,3], 2), ([1,4,2,0,3], 2), ([1,2,4,0,3], 2), ([2,1,3,0,4], 2), ([2,3,1,0,4], 2), ([2,3,0,1,4], 2), ([2,3,0,4,1], 2), ([1,3,0,4,2], 2), ([4,1,2,3,0], 2), ([1,4,2,3,0], 2), ([1,2,4,3,0], 2), ([2,1,3,4,0], 2), ([2,3,1,4,0], 2), ([2,3,4,1,0], 2), ([2,3,4,0,1], 2), ([1,3,2,4,0], 2), ([1,3,4,2,0], 2), ([1,3,4,0,2], 2), ([3,1,2,4,0], 2), ([3,0,2,1,4], 2), ([0,3,2,1,4], 2), ([0,2,1,4,3], 2), ([4,0,2,1,3], 2), ([0,4,2,1,3], 2), ([0,2,4,1,3], 2), ([0,3,1,4,2], 2), ([4,0,2,3,1], 2), ([0,4,2,3,1], 2), ([0,2,4,3,1], 2), ([0,3,2,4,1], 2), ([0,3,4,2,1], 2), ([0,3,4,1,2], 2), ([3,0,2,4,1], 2), ([3,2,0,1,4], 2), ([2,0,1,4,3], 2), ([4,2,0,1,3], 2), ([2,4,0,1,3], 2), ([2,0,4,1,3], 2), ([4,0,1,3,2], 2), ([0,4,1,3,2], 2), ([0,1,4,3,2], 2), ([3,0,1,4,2], 2), ([4,3,0,1,2], 2), ([3,4,0,1,2], 2), ([3,0,4,1,2], 2), ([4,0,3,1,2], 2), ([0,4,3,1,2], 2), ([3,2,1,0,4], 3), ([2,1,0,4,3], 3), ([4,2,1,0,3], 3), ([2,4,1,0,3], 3), ([2,1,4,0,3], 3), ([4,1,0,3,2], 3), ([1,4,0,3,2], 3), ([1,0,4,3,2], 3), ([3,1,0,4,2], 3), ([4,3,1,0,2], 3), ([3,4,1,0,2], 3), ([3,1,4,0,2], 3), ([4,1,3,0,2], 3), ([1,4,3,0,2], 3), ([4,2,0,3,1], 3), ([2,4,0,3,1], 3), ([2,0,4,3,1], 3), ([3,2,0,4,1], 3), ([4,3,1,2,0], 3), ([3,4,1,2,0], 3), ([3,1,4,2,0], 3), ([4,1,3,2,0], 3), ([1,4,3,2,0], 3), ([4,2,1,3,0], 3), ([2,4,1,3,0], 3), ([2,1,4,3,0], 3), ([4,2,3,1,0], 3), ([2,4,3,1,0], 3), ([4,2,3,0,1], 3), ([2,4,3,0,1], 3), ([3,0,4,2,1], 3), ([3,2,1,4,0], 3), ([3,2,4,1,0], 3), ([3,4,2,1,0], 3), ([3,2,4,0,1], 3), ([3,4,2,0,1], 3), ([3,4,0,2,1], 3), ([4,3,0,2,1], 3), ([4,0,3,2,1], 3), ([0,4,3,2,1], 3)], [[0,3,2,4,1], [0,3,4,2,1], [0,3,4,1,2], [3,0,2,4,1], [3,2,0,1,4], [2,0,1,4,3], [4,2,0,1,3], [2,4,0,1,3], [2,0,4,1,3], [4,0,1,3,2], [0,4,1,3,2], [0,1,4,3,2], [3,0,1,4,2], [4,3,0,1,2], [3,4,0,1,2], [3,0,4,1,2], [4,0,3,1,2], [0,4,3,1,2], [3,2,1,0,4], [2,1,0,4,3], [4,2,1,0,3], [2,4,1,0,3], [2,1,4,0,3], [4,1,0,3,2], [1,4,0,3,2], [1,0,4,3,2], [3,1,0,4,2], [4,3,1,0,2], [3,4,1,0,2], [3,1,4,0,2], [4,1,3,0,2], [1,4,3,0,2], [4,2,0,3,1], [2,4,0,3,1], [2,0,4,3,1], [3,2,0,4,1], [4,3,1,2,0], [3,4,1,2,0], [3,1,4,2,0], [4,1,3,2,0], [1,4,3,2,0], [4,2,1,3,0], [2,4,1,3,0], [2,1,4,3,0], [4,2,3,1,0], [2,4,3,1,0], [4,2,3,0,1], [2,4,3,0,1], [3,0,4,2,1], [3,2,1,4,0], [3,2,4,1,0], [3,4,2,1,0], [3,2,4,0,1], [3,4,2,0,1], [3,4,0,2,1], [4,3,0,2,1], [4,0,3,2,1], [0,4,3,2,1]])
def fs7 : BS (List Nat) := ([([0,1,2,3,4], 0), ([1,0,2,3,4], 1), ([1,2,0,3,4], 1), ([1,2,3,0,4], 1), ([1,2,3,4,0], 1), ([0,2,1,3,4], 1), ([0,2,3,1,4], 1), ([0,2,3,4,1], 1), ([2,0,1,3,4], 1), ([0,1,3,2,4], 1), ([0,1,3,4,2], 1), ([3,0,1,2,4], 1), ([0,3,1,2,4], 1), ([0,1,2,4,3], 1), ([4,0,1,2,3], 1), ([0,4,1,2,3], 1), ([0,1,4,2,3], 1), ([2,1,0,3,4], 2), ([1,0,3,2,4], 2), ([1,0,3,4,2], 2), ([3,1,0,2,4], 2), ([1,3,0,2,4], 2), ([1,0,2,4,3], 2), ([4,1,0,2,3], 2), ([1,4,0,2,3], 2), ([1,0,4,2,3], 2), ([2,0,3,1,4], 2), ([2,0,3,4,1], 2), ([3,1,2,0,4], 2), ([1,3,2,0,4], 2), ([1,2,0,4,3], 2), ([4,1,2,0,3], 2), ([1,4,2,0,3], 2), ([1,2,4,0,3], 2), ([2,1,3,0,4], 2), ([2,3,1,0,4], 2), ([2,3,0,1,4], 2), ([2,3,0,4,1], 2), ([1,3,0,4,2], 2), ([4,1,2,3,0], 2), ([1,4,2,3,0], 2), ([1,2,4,3,0], 2), ([2,1,3,4,0], 2), ([2,3,1,4,0], 2), ([2,3,4,1,0], 2), ([2,3,4,0,1], 2), ([1,3,2,4,0], 2), ([1,3,4,2,0], 2), ([1,3,4,0,2], 2), ([3,1,2,4,0], 2), ([3,0,2,1,4], 2), ([0,3,2,1,4], 2), ([0,2,1,4,3], 2), ([4,0,2,1,3], 2), ([0,4,2,1,3], 2), ([0,2,4,1,3], 2), ([0,3,1,4,2], 2), ([4,0,2,3,1], 2), ([0,4,2,3,1], 2), ([0,2,4,3,1], 2), ([0,3,2,4,1], 2), ([0,3,4,2,1], 2), ([0,3,4,1,2], 2), ([3,0,2,4,1], 2), ([3,2,0,1,4], 2), ([2,0,1,4,3], 2), ([4,2,0,1,3], 2), ([2,4,0,1,3], 2), ([2,0,4,1,3], 2), ([4,0,1,3,2], 2), ([0,4,1,3,2], 2), ([0,1,4,3,2], 2), ([3,0,1,4,2], 2), ([4,3,0,1,2], 2), ([3,4,0,1,2], 2), ([3,0,4,1,2], 2), ([4,0,3,1,2], 2), ([0,4,3,1,2], 2), ([3,2,1,0,4], 3), ([2,1,0,4,3], 3), ([4,2,1,0,3], 3), ([2,4,1,0,3], 3), ([2,1,4,0,3], 3), ([4,1,0,3,2], 3), ([1,4,0,3,2], 3), ([1,0,4,3,2], 3), ([3,1,0,4,2], 3), ([4,3,1,0,2], 3), ([3,4,1,0,2], 3), ([3,1,4,0,2], 3), ([4,1,3,0,2], 3), ([1,4,3,0,2], 3), ([4,2,0,3,1], 3), ([2,4,0,3,1], 3), ([2,0,4,3,1], 3), ([3,2,0,4,1], 3), ([4,3,1,2,0], 3), ([3,4,1,2,0], 3), ([3,1,4,2,0], 3), ([4,1,3,2,0], 3), ([1,4,3,2,0], 3), ([4,2,1,3,0], 3), ([2,4,1,3,0], 3), ([2,1,4,3,0], 3), ([4,2,3,1,0], 3), ([2,4,3,1,0], 3), ([4,2,3,0,1], 3), ([2,4,3,0,1], 3), ([3,0,4,2,1], 3), ([3,2,1,4,0], 3), ([3,2,4,1,0], 3), ([3,4,2,1,0], 3), ([3,2,4,0,1], 3), ([3,4,2,0,1], 3), ([3,4,0,2,1], 3), ([4,3,0,2,1], 3), ([4,0,3,2,1], 3), ([0,4,3,2,1], 3), ([4,3,2,0,1], 3)], [[0,4,1,3,2], [0,1,4,3,2], [3,0,1,4,2], [4,3,0,1,2], [3,4,0,1,2], [3,0,4,1,2], [4,0,3,1,2], [0,4,3,1,2], [3,2,1,0,4], [2,1,0,4,3], [4,2,1,0,3], [2,4,1,0,3], [2,1,4,0,3], [4,1,0,3,2], [1,4,0,3,2], [1,0,4,3,2], [3,1,0,4,2], [4,3,1,0,2], [3,4,1,0,2], [3,1,4,0,2], [4,1,3,0,2], [1,4,3,0,2], [4,2,0,3,1], [2,4,0,3,1], [2,0,4,3,1], [3,2,0,4,1], [4,3,1,2,0], [3,4,1,2,0], [3,1,4,2,0], [4,1,3,2,0], [1,4,3,2,0], [4,2,1,3,0], [2,4,1,3,0], [2,1,4,3,0], [4,2,3,1,0], [2,4,3,1,0], [4,2,3,0,1], [2,4,3,0,1], [3,0,4,2,1], [3,2,1,4,0], [3,2,4,1,0], [3,4,2,1,0], [3,2,4,0,1], [3,4,2,0,1], [3,4,0,2,1], [4,3,0,2,1], [4,0,3,2,1], [0,4,3,2,1], [4,3,2,0,1]])
def fs8 : BS (List Nat) := ([([0,1,2,3,4], 0), ([1,0,2,3,4], 1), ([1,2,0,3,4], 1), ([1,2,3,0,4], 1), ([1,2,3,4,0], 1), ([0,2,1,3,4], 1), ([0,2,3,1,4], 1), ([0,2,3,4,1], 1), ([2,0,1,3,4], 1), ([0,1,3,2,4], 1), ([0,1,3,4,2], 1), ([3,0,1,2,4], 1), ([0,3,1,2,4], 1), ([0,1,2,4,3], 1), ([4,0,1,2,3], 1), ([0,4,1,2,3], 1), ([0,1,4,2,3], 1), ([2,1,0,3,4], 2), ([1,0,3,2,4], 2), ([1,0,3,4,2], 2), ([3,1,0,2,4], 2), ([1,3,0,2,4], 2), ([1,0,2,4,3], 2), ([4,1,0,2,3], 2), ([1,4,0,2,3], 2), ([1,0,4,2,3], 2), ([2,0,3,1,4], 2), ([2,0,3,4,1], 2), ([3,1,2,0,4], 2), ([1,3,2,0,4], 2), ([1,2,0,4,3], 2), ([4,1,2,0,3], 2), ([1,4,2,0,3], 2), ([1,2,4,0,3], 2), ([2,1,3,0,4], 2), ([2,3,1,0,4], 2), ([2,3,0,1,4], 2), ([2,3,0,4,1], 2), ([1,3,0,4,2], 2), ([4,1,2,3,0], 2), ([1,4,2,3,0], 2), ([1,2,4,3,0], 2), ([2,1,3,4,0], 2), ([2,3,1,4,0], 2), ([2,3,4,1,0], 2), ([2,3,4,0,1], 2), ([1,3,2,4,0], 2), ([1,3,4,2,0], 2), ([1,3,4,0,2], 2), ([3,1,2,4,0], 2), ([3,0,2,1,4], 2), ([0,3,2,1,4], 2), ([0,2,1,4,3], 2), ([4,0,2,1,3], 2), ([0,4,2,1,3], 2), ([0,2,4,1,3], 2), ([0,3,1,4,2], 2), ([4,0,2,3,1], 2), ([0,4,2,3,1], 2), ([0,2,4,3,1], 2), ([0,3,2,4,1], 2), ([0,3,4,2,1], 2), ([0,3,4,1,2], 2), ([3,0,2,4,1], 2), ([3,2,0,1,4], 2), ([2,0,1,4,3], 2), ([4,2,0,1,3], 2), ([2,4,0,1,3], 2), ([2,0,4,1,3], 2), ([4,0,1,3,2], 2), ([0,4,1,3,2], 2), ([0,1,4,3,2], 2), ([3,0,1,4,2], 2), ([4,3,0,1,2], 2), ([3,4,0,1,2], 2), ([3,0,4,1,2], 2), ([4,0,3,1,2], 2), ([0,4,3,1,2], 2), ([3,2,1,0,4], 3), ([2,1,0,4,3], 3), ([4,2,1,0,3], 3), ([2,4,1,0,3], 3), ([2,1,4,0,3], 3), ([4,1,0,3,2], 3), ([1,4,0,3,2], 3), ([1,0,4,3,2], 3), ([3,1,0,4,2], 3), ([4,3,1,0,2], 3), ([3,4,1,0,2], 3), ([3,1,4,0,2], 3), ([4,1,3,0,2], 3), ([1,4,3,0,2], 3), ([4,2,0,3,1], 3), ([2,4,0,3,1], 3), ([2,0,4,3,1], 3), ([3,2,0,4,1], 3), ([4,3,1,2,0], 3), ([3,4,1,2,0], 3), ([3,1,4,2,0], 3), ([4,1,3,2,0], 3), ([1,4,3,2,0], 3), ([4,2,1,3,0], 3), ([2,4,1,3,0], 3), ([2,1,4,3,0], 3), ([4,2,3,1,0], 3), ([2,4,3,1,0], 3), ([4,2,3,0,1], 3), ([2,4,3,0,1], 3), ([3,0,4,2,1], 3), ([3,2,1,4,0], 3), ([3,2,4,1,0], 3), ([3,4,2,1,0], 3), ([3,2,4,0,1], 3), ([3,4,2,0,1], 3), ([3,4,0,2,1], 3), ([4,3,0,2,1], 3), ([4,0,3,2,1], 3), ([0,4,3,2,1], 3), ([4,3,2,0,1], 3), ([4,3,2,1,0], 4)], [[4,2,1,0,3], [2,4,1,0,3], [2,1,4,0,3], [4,1,0,3,2], [1,4,0,3,2], [1,0,4,3,2], [3,1,0,4,2], [4,3,1,0,2], [3,4,1,0,2], [3,1,4,0,2], [4,1,3,0,2], [1,4,3,0,2], [4,2,0,3,1], [2,4,0,3,1], [2,0,4,3,1], [3,2,0,4,1], [4,3,1,2,0], [3,4,1,2,0], [3,1,4,2,0], [4,1,3,2,0], [1,4,3,2,0], [4,2,1,3,0], [2,4,1,3,0], [2,1,4,3,0], [4,2,3,1,0], [2,4,3,1,0], [4,2,3,0,1], [2,4,3,0,1], [3,0,4,2,1], [3,2,1,4,0], [3,2,4,1,0], [3,4,2,1,0], [3,2,4,0,1], [3,4,2,0,1], [3,4,0,2,1], [4,3,0,2,1], [4,0,3,2,1], [0,4,3,2,1], [4,3,2,0,1], [4,3,2,1,0]])
def fs9 : BS (List Nat) := ([([0,1,2,3,4], 0), ([1,0,2,3,4], 1), ([1,2,0,3,4], 1), ([1,2,3,0,4], 1), ([1,2,3,4,0], 1), ([0,2,1,3,4], 1), ([0,2,3,1,4], 1), ([0,2,3,4,1], 1), ([2,0,1,3,4], 1), ([0,1,3,2,4], 1), ([0,1,3,4,2], 1), ([3,0,1,2,4], 1), ([0,3,1,2,4], 1), ([0,1,2,4,3], 1), ([4,0,1,2,3], 1), ([0,4,1,2,3], 1), ([0,1,4,2,3], 1), ([2,1,0,3,4], 2), ([1,0,3,2,4], 2), ([1,0,3,4,2], 2), ([3,1,0,2,4], 2), ([1,3,0,2,4], 2), ([1,0,2,4,3], 2), ([4,1,0,2,3], 2), ([1,4,0,2,3], 2), ([1,0,4,2,3], 2), ([2,0,3,1,4], 2), ([2,0,3,4,1], 2), ([3,1,2,0,4], 2), ([1,3,2,0,4], 2), ([1,2,0,4,3], 2), ([4,1,2,0,3], 2), ([1,4,2,0,3], 2), ([1,2,4,0,3], 2), ([2,1,3,0,4], 2), ([2,3,1,0,4], 2), ([2,3,0,1,4], 2), ([2,3,0,4,1], 2), ([1,3,0,4,2], 2), ([4,1,2,3,0], 2), ([1,4,2,3,0], 2), ([1,2,4,3,0], 2), ([2,1,3,4,0], 2), ([2,3,1,4,0], 2), ([2,3,4,1,0], 2), ([2,3,4,0,1], 2), ([1,3,2,4,0], 2), ([1,3,4,2,0], 2), ([1,3,4,0,2], 2), ([3,1,2,4,0], 2), ([3,0,2,1,4], 2), ([0,3,2,1,4], 2), ([0,2,1,4,3], 2), ([4,0,2,1,3], 2), ([0,4,2,1,3], 2), ([0,2,4,1,3], 2), ([0,3,1,4,2], 2), ([4,0,2,3,1], 2), ([0,4,2,3,1], 2), ([0,2,4,3,1], 2), ([0,3,2,4,1], 2), ([0,3,4,2,1], 2), ([0,3,4,1,2], 2), ([3,0,2,4,1], 2), ([3,2,0,1,4], 2), ([2,0,1,4,3], 2), ([4,2,0,1,3], 2), ([2,4,0,1,3], 2), ([2,0,4,1,3], 2), ([4,0,1,3,2], 2), ([0,4,1,3,2], 2), ([0,1,4,3,2], 2), ([3,0,1,4,2], 2), ([4,3,0,1,2], 2), ([3,4,0,1,2], 2), ([3,0,4,1,2], 2), ([4,0,3,1,2], 2), ([0,4,3,1,2], 2), ([3,2,1,0,4], 3), ([2,1,0,4,3], 3), ([4,2,1,0,3], 3), ([2,4,1,0,3], 3), ([2,1,4,0,3], 3), ([4,1,0,3,2], 3), ([1,4,0,3,2], 3), ([1,0,4,3,2], 3), ([3,1,0,4,2], 3), ([4,3,1,0,2], 3), ([3,4,1,0,2], 3), ([3,1,4,0,2], 3), ([4,1,3,0,2], 3), ([1,4,3,0,2], 3), ([4,2,0,3,1], 3), ([2,4,0,3,1], 3), ([2,0,4,3,1], 3), ([3,2,0,4,1], 3), ([4,3,1,2,0], 3), ([3,4,1,2,0], 3), ([3,1,4,2,0], 3), ([4,1,3,2,0], 3), ([1,4,3,2,0], 3), ([4,2,1,3,0], 3), ([2,4,1,3,0], 3), ([2,1,4,3,0], 3), ([4,2,3,1,0], 3), ([2,4,3,1,0], 3), ([4,2,3,0,1], 3), ([2,4,3,0,1], 3), ([3,0,4,2,1], 3), ([3,2,1,4,0], 3), ([3,2,4,1,0], 3), ([3,4,2,1,0], 3), ([3,2,4,0,1], 3), ([3,4,2,0,1], 3), ([3,4,0,2,1], 3), ([4,3,0,2,1], 3), ([4,0,3,2,1], 3), ([0,4,3,2,1], 3), ([4,3,2,0,1], 3), ([4,3,2,1,0], 4)], [[4,1,3,0,2], [1,4,3,0,2], [4,2,0,3,1], [2,4,0,3,1], [2,0,4,3,1], [3,2,0,4,1], [4,3,1,2,0], [3,4,1,2,0], [3,1,4,2,0], [4,1,3,2,0], [1,4,3,2,0], [4,2,1,3,0], [2,4,1,3,0], [2,1,4,3,0], [4,2,3,1,0], [2,4,3,1,0], [4,2,3,0,1], [2,4,3,0,1], [3,0,4,2,1], [3,2,1,4,0], [3,2,4,1,0], [3,4,2,1,0], [3,2,4,0,1], [3,4,2,0,1], [3,4,0,2,1], [4,3,0,2,1], [4,0,3,2,1], [0,4,3,2,1], [4,3,2,0,1], [4,3,2,1,0]])
def fs10 : BS (List Nat) := ([([0,1,2,3,4], 0), ([1,0,2,3,4], 1), ([1,2,0,3,4], 1), ([1,2,3,0,4], 1), ([1,2,3,4,0], 1), ([0,2,1,3,4], 1), ([0,2,3,1,4], 1), ([0,2,3,4,1], 1), ([2,0,1,3,4], 1), ([0,1,3,2,4], 1), ([0,1,3,4,2], 1), ([3,0,1,2,4], 1), ([0,3,1,2,4], 1), ([0,1,2,4,3], 1), ([4,0,1,2,3], 1), ([0,4,1,2,3], 1), ([0,1,4,2,3], 1), ([2,1,0,3,4], 2), ([1,0,3,2,4], 2), ([1,0,3,4,2], 2), ([3,1,0,2,4], 2), ([1,3,0,2,4], 2), ([1,0,2,4,3], 2), ([4,1,0,2,3], 2), ([1,4,0,2,3], 2), ([1,0,4,2,3], 2), ([2,0,3,1,4], 2), ([2,0,3,4,1], 2), ([3,1,2,0,4], 2), ([1,3,2,0,4], 2), ([1,2,0,4,3], 2), ([4,1,2,0,3], 2), ([1,4,2,0,3], 2), ([1,2,4,0,3], 2), ([2,1,3,0,4], 2), ([2,3,1,0,4], 2), ([2,3,0,1,4], 2), ([2,3,0,4,1], 2), ([1,3,0,4,2], 2), ([4,1,2,3,0], 2), ([1,4,2,3,0], 2), ([1,2,4,3,0], 2), ([2,1,3,4,0], 2), ([2,3,1,4,0], 2), ([2,3,4,1,0], 2), ([2,3,4,0,1], 2), ([1,3,2,4,0], 2), ([1,3,4,2,0], 2), ([1,3,4,0,2], 2), ([3,1,2,4,0], 2), ([3,0,2,1,4], 2), ([0,3,2,1,4], 2), ([0,2,1,4,3], 2), ([4,0,2,1,3], 2), ([0,4,2,1,3], 2), ([0,2,4,1,3], 2), ([0,3,1,4,2], 2), ([4,0,2,3,1], 2), ([0,4,2,3,1], 2), ([0,2,4,3,1], 2), ([0,3,2,4,1], 2), ([0,3,4,2,1], 2), ([0,3,4,1,2], 2), ([3,0,2,4,1], 2), ([3,2,0,1,4], 2), ([2,0,1,4,3], 2), ([4,2,0,1,3], 2), ([2,4,0,1,3], 2), ([2,0,4,1,3], 2), ([4,0,1,3,2], 2), ([0,4,1,3,2], 2), ([0,1,4,3,2], 2), ([3,0,1,4,2], 2), ([4,3,0,1,2], 2), ([3,4,0,1,2], 2), ([3,0,4,1,2], 2), ([4,0,3,1,2], 2), ([0,4,3,1,2], 2), ([3,2,1,0,4], 3), ([2,1,0,4,3], 3), ([4,2,1,0,3], 3), ([2,4,1,0,3], 3), ([2,1,4,0,3], 3), ([4,1,0,3,2], 3), ([1,4,0,3,2], 3), ([1,0,4,3,2], 3), ([3,1,0,4,2], 3), ([4,3,1,0,2], 3), ([3,4,1,0,2], 3), ([3,1,4,0,2], 3), ([4,1,3,0,2], 3), ([1,4,3,0,2], 3), ([4,2,0,3,1], 3), ([2,4,0,3,1], 3), ([2,0,4,3,1], 3), ([3,2,0,4,1], 3), ([4,3,1,2,0], 3), ([3,4,1,2,0], 3), ([3,1,4,2,0], 3), ([4,1,3,2,0], 3), ([1,4,3,2,0], 3), ([4,2,1,3,0], 3), ([2,4,1,3,0], 3), ([2,1,4,3,0], 3), ([4,2,3,1,0], 3), ([2,4,3,1,0], 3), ([4,2,3,0,1], 3), ([2,4,3,0,1], 3), ([3,0,4,2,1], 3), ([3,2,1,4,0], 3), ([3,2,4,1,0], 3), ([3,4,2,1,0], 3), ([3,2,4,0,1], 3), ([3,4,2,0,1], 3), ([3,4,0,2,1], 3), ([4,3,0,2,1], 3), ([4,0,3,2,1], 3), ([0,4,3,2,1], 3), ([4,3,2,0,1], 3), ([4,3,2,1,0], 4)], [[1,4,3,2,0], [4,2,1,3,0], [2,4,1,3,0], [2,1,4,3,0], [4,2,3,1,0], [2,4,3,1,0], [4,2,3,0,1], [2,4,3,0,1], [3,0,4,2,1], [3,2,1,4,0], [3,2,4,1,0], [3,4,2,1,0], [3,2,4,0,1], [3,4,2,0,1], [3,4,0,2,1], [4,3,0,2,1], [4,0,3,2,1], [0,4,3,2,1], [4,3,2,0,1], [4,3,2,1,0]])
def fs11 : BS (List Nat) := ([([0,1,2,3,4], 0), ([1,0,2,3,4], 1), ([1,2,0,3,4], 1), ([1,2,3,0,4], 1), ([1,2,3,4,0], 1), ([0,2,1,3,4], 1), ([0,2,3,1,4], 1), ([0,2,3,4,1], 1), ([2,0,1,3,4], 1), ([0,1,3,2,4], 1), ([0,1,3,4,2], 1), ([3,0,1,2,4], 1), ([0,3,1,2,4], 1), ([0,1,2,4,3], 1), ([4,0,1,2,3], 1), ([0,4,1,2,3], 1), ([0,1,4,2,3], 1), ([2,1,0,3,4], 2), ([1,0,3,2,4], 2), ([1,0,3,4,2], 2), ([3,1,0,2,4], 2), ([1,3,0,2,4], 2), ([1,0,2,4,3], 2), ([4,1,0,2,3], 2), ([1,4,0,2,3], 2), ([1,0,4,2,3], 2), ([2,0,3,1,4], 2), ([2,0,3,4,1], 2), ([3,1,2,0,4], 2), ([1,3,2,0,4], 2), ([1,2,0,4,3], 2), ([4,1,2,0,3], 2), ([1,4,2,0,3], 2), ([1,2,4,0,3], 2), ([2,1,3,0,4], 2), ([2,3,1,0,4], 2), ([2,3,0,1,4], 2), ([2,3,0,4,1], 2), ([1,3,0,4,2], 2), ([4,1,2,3,0], 2), ([1,4,2,3,0], 2), ([1,2,4,3,0], 2), ([2,1,3,4,0], 2), ([2,3,1,4,0], 2), ([2,3,4,1,0], 2), ([2,3,4,0,1], 2), ([1,3,2,4,0], 2), ([1,3,4,2,0], 2), ([1,3,4,0,2], 2), ([3,1,2,4,0], 2), ([3,0,2,1,4], 2), ([0,3,2,1,4], 2), ([0,2,1,4,3], 2), ([4,0,2,1,3], 2), ([0,4,2,1,3], 2), ([0,2,4,1,3], 2), ([0,3,1,4,2], 2), ([4,0,2,3,1], 2), ([0,4,2,3,1], 2), ([0,2,4,3,1], 2), ([0,3,2,4,1], 2), ([0,3,4,2,1], 2), ([0,3,4,1,2], 2), ([3,0,2,4,1], 2), ([3,2,0,1,4], 2), ([2,0,1,4,3], 2), ([4,2,0,1,3], 2), ([2,4,0,1,3], 2), ([2,0,4,1,3], 2), ([4,0,1,3,2], 2), ([0,4,1,3,2], 2), ([0,1,4,3,2], 2), ([3,0,1,4,2], 2), ([4,3,0,1,2], 2), ([3,4,0,1,2], 2), ([3,0,4,1,2], 2), ([4,0,3,1,2], 2), ([0,4,3,1,2], 2), ([3,2,1,0,4], 3), ([2,1,0,4,3], 3), ([4,2,1,0,3], 3), ([2,4,1,0,3], 3), ([2,1,4,0,3], 3), ([4,1,0,3,2], 3), ([1,4,0,3,2], 3), ([1,0,4,3,2], 3), ([3,1,0,4,2], 3), ([4,3,1,0,2], 3), ([3,4,1,0,2], 3), ([3,1,4,0,2], 3), ([4,1,3,0,2], 3), ([1,4,3,0,2], 3), ([4,2,0,3,1], 3), ([2,4,0,3,1], 3), ([2,0,4,3,1], 3), ([3,2,0,4,1], 3), ([4,3,1,2,0], 3), ([3,4,1,2,0], 3), ([3,1,4,2,0], 3), ([4,1,3,2,0], 3), ([1,4,3,2,0], 3), ([4,2,1,3,0], 3), ([2,4,1,3,0], 3), ([2,1,4,3,0], 3), ([4,2,3,1,0], 3), ([2,4,3,1,0], 3), ([4,2,3,0,1], 3), ([2,4,3,0,1], 3), ([3,0,4,2,1], 3), ([3,2,1,4,0], 3), ([3,2,4,1,0], 3), ([3,4,2,1,0], 3), ([3,2,4,0,1], 3), ([3,4,2,0,1], 3), ([3,4,0,2,1], 3), ([4,3,0,2,1], 3), ([4,0,3,2,1], 3), ([0,4,3,2,1], 3), ([4,3,2,0,1], 3), ([4,3,2,1,0], 4)], [[3,2,4,1,0], [3,4,2,1,0], [3,2,4,0,1], [3,4,2,0,1], [3,4,0,2,1], [4,3,0,2,1], [4,0,3,2,1], [0,4,3,2,1], [4,3,2,0,1], [4,3,2,1,0]])
def fs12 : BS (List Nat) := ([([0,1,2,3,4], 0), ([1,0,2,3,4], 1), ([1,2,0,3,4], 1), ([1,2,3,0,4], 1), ([1,2,3,4,0], 1), ([0,2,1,3,4], 1), ([0,2,3,1,4], 1), ([0,2,3,4,1], 1), ([2,0,1,3,4], 1), ([0,1,3,2,4], 1), ([0,1,3,4,2], 1), ([3,0,1,2,4], 1), ([0,3,1,2,4], 1), ([0,1,2,4,3], 1), ([4,0,1,2,3], 1), ([0,4,1,2,3], 1), ([0,1,4,2,3], 1), ([2,1,0,3,4], 2), ([1,0,3,2,4], 2), ([1,0,3,4,2], 2), ([3,1,0,2,4], 2), ([1,3,0,2,4], 2), ([1,0,2,4,3], 2), ([4,1,0,2,3], 2), ([1,4,0,2,3], 2), ([1,0,4,2,3], 2), ([2,0,3,1,4], 2), ([2,0,3,4,1], 2), ([3,1,2,0,4], 2), ([1,3,2,0,4], 2), ([1,2,0,4,3], 2), ([4,1,2,0,3], 2), ([1,4,2,0,3], 2), ([1,2,4,0,3], 2), ([2,1,3,0,4], 2), ([2,3,1,0,4], 2), ([2,3,0,1,4], 2), ([2,3,0,4,1], 2), ([1,3,0,4,2], 2), ([4,1,2,3,0], 2), ([1,4,2,3,0], 2), ([1,2,4,3,0], 2), ([2,1,3,4,0], 2), ([2,3,1,4,0], 2), ([2,3,4,1,0], 2), ([2,3,4,0,1], 2), ([1,3,2,4,0], 2), ([1,3,4,2,0], 2), ([1,3,4,0,2], 2), ([3,1,2,4,0], 2), ([3,0,2,1,4], 2), ([0,3,2,1,4], 2), ([0,2,1,4,3], 2), ([4,0,2,1,3], 2), ([0,4,2,1,3], 2), ([0,2,4,1,3], 2), ([0,3,1,4,2], 2), ([4,0,2,3,1], 2), ([0,4,2,3,1], 2), ([0,2,4,3,1], 2), ([0,3,2,4,1], 2), ([0,3,4,2,1], 2), ([0,3,4,1,2], 2), ([3,0,2,4,1], 2), ([3,2,0,1,4], 2), ([2,0,1,4,3], 2), ([4,2,0,1,3], 2), ([2,4,0,1,3], 2), ([2,0,4,1,3], 2), ([4,0,1,3,2], 2), ([0,4,1,3,2], 2), ([0,1,4,3,2], 2), ([3,0,1,4,2], 2), ([4,3,0,1,2], 2), ([3,4,0,1,2], 2), ([3,0,4,1,2], 2), ([4,0,3,1,2], 2), ([0,4,3,1,2], 2), ([3,2,1,0,4], 3), ([2,1,0,4,3], 3), ([4,2,1,0,3], 3), ([2,4,1,0,3], 3), ([2,1,4,0,3], 3), ([4,1,0,3,2], 3), ([1,4,0,3,2], 3), ([1,0,4,3,2], 3), ([3,1,0,4,2], 3), ([4,3,1,0,2], 3), ([3,4,1,0,2], 3), ([3,1,4,0,2], 3), ([4,1,3,0,2], 3), ([1,4,3,0,2], 3), ([4,2,0,3,1], 3), ([2,4,0,3,1], 3), ([2,0,4,3,1], 3), ([3,2,0,4,1], 3), ([4,3,1,2,0], 3), ([3,4,1,2,0], 3), ([3,1,4,2,0], 3), ([4,1,3,2,0], 3), ([1,4,3,2,0], 3), ([4,2,1,3,0], 3), ([2,4,1,3,0], 3), ([2,1,4,3,0], 3), ([4,2,3,1,0], 3), ([2,4,3,1,0], 3), ([4,2,3,0,1], 3), ([2,4,3,0,1], 3), ([3,0,4,2,1], 3), ([3,2,1,4,0], 3), ([3,2,4,1,0], 3), ([3,4,2,1,0], 3), ([3,2,4,0,1], 3), ([3,4,2,0,1], 3), ([3,4,0,2,1], 3), ([4,3,0,2,1], 3), ([4,0,3,2,1], 3), ([0,4,3,2,1], 3), ([4,3,2,0,1], 3), ([4,3,2,1,0], 4)], [])
theorem fe1 : bfsAt moved (List.range 5) 10 = fs1 := by decide +kernel
theorem ft2 : bfsOn moved fs1 10 = fs2 := by decide +kernel
theorem fe2 : bfsAt moved (List.range 5) 20 = fs2 := by
  have h := bfsOn_at moved (List.range 5) 10 10
  rw [fe1, ft2] at h
  exact h
theorem ft3 : bfsOn moved fs2 10 = fs3 := by decide +kernel
theorem fe3 : bfsAt moved (List.range 5) 30 = fs3 := by
  have h := bfsOn_at moved (List.range 5) 20 10
  rw [fe2, ft3] at h
  exact h
theorem ft4 : bfsOn moved fs3 10 = fs4 := by decide +kernel
theorem fe4 : bfsAt moved (List.range 5) 40 = fs4 := by
  have h := bfsOn_at moved (List.range 5) 30 10
  rw [fe3, ft4] at h
  exact h
theorem ft5 : bfsOn moved fs4 10 = fs5 := by decide +kernel
theorem fe5 : bfsAt moved (List.range 5) 50 = fs5 := by
  have h := bfsOn_at moved (List.range 5) 40 10
  rw [fe4, ft5] at h
  exact h
theorem ft6 : bfsOn moved fs5 10 = fs6 := by decide +kernel
theorem fe6 : bfsAt moved (List.range 5) 60 = fs6 := by
  have h := bfsOn_at moved (List.range 5) 50 10
  rw [fe5, ft6] at h
  exact h
theorem ft7 : bfsOn moved fs6 10 = fs7 := by decide +kernel
theorem fe7 : bfsAt moved (List.range 5) 70 = fs7 := by
  have h := bfsOn_at moved (List.range 5) 60 10
  rw [fe6, ft7] at h
  exact h
theorem ft8 : bfsOn moved fs7 10 = fs8 := by decide +kernel
theorem fe8 : bfsAt moved (List.range 5) 80 = fs8 := by
  have h := bfsOn_at moved (List.range 5) 70 10
  rw [fe7, ft8] at h
  exact h
theorem ft9 : bfsOn moved fs8 10 = fs9 := by decide +kernel
theorem fe9 : bfsAt moved (List.range 5) 90 = fs9 := by
  have h := bfsOn_at moved (List.range 5) 80 10
  rw [fe8, ft9] at h
  exact h
theorem ft10 : bfsOn moved fs9 10 = fs10 := by decide +kernel
theorem fe10 : bfsAt moved (List.range 5) 100 = fs10 := by
  have h := bfsOn_at moved (List.range 5) 90 10
  rw [fe9, ft10] at h
  exact h
theorem ft11 : bfsOn moved fs10 10 = fs11 := by decide +kernel
theorem fe11 : bfsAt moved (List.range 5) 110 = fs11 := by
  have h := bfsOn_at moved (List.range 5) 100 10
  rw [fe10, ft11] at h
  exact h
theorem ft12 : bfsOn moved fs11 10 = fs12 := by decide +kernel
theorem fe12 : bfsAt moved (List.range 5) 120 = fs12 := by
  have h := bfsOn_at moved (List.range 5) 110 10
  rw [fe11, ft12] at h
  exact h
theorem fa : allB 5 fs12 = true := by decide +kernel
theorem b5 : allB 5 (bfsAt moved (List.range 5) (fact 5)) = true := by
  have h : fact 5 = 120 := rfl
  rw [h, fe12]
  exact fa
end KM
namespace KW
open PySem PySem.Spec PyProof.Rows L2

/-! ### immutable data -/
mutual
inductive Nk (K : PySem.W.Frag) (H : Hp) : V → NestedKey → Prop
  | non : Nk K H .non .none
  | int (i : Int) : Nk K H (.int i) (.num i)
  | str (x : Str) : Nk K H (.str x) (.text x)
  | tup {a : Addr} {xs : List V} {ks : List NestedKey} : SqT K H a xs → NkAll K H xs ks → Nk K H (.ref a) (.tup ks)
inductive NkAll (K : PySem.W.Frag) (H : Hp) : List V → List NestedKey → Prop
  | nil : NkAll K H [] []
  | cons {v : V} {vs : List V} {k : NestedKey} {ks : List NestedKey} : Nk K H v k → NkAll K H vs ks → NkAll K H (v :: vs) (k :: ks)
end
/-- the tuples stay -/
structure Pe (H H' : Hp) : Prop where
  t : ∀ b xs, H b = some (.tup xs) → H' b = some (.tup xs)
  f : ∀ b o u, H b = some (.frz o u) → H' b = some (.frz o u)
abbrev Ex (H H' : Hp) : Prop := Same H H'
theorem Pe.refl (H : Hp) : Pe H H := ⟨fun _ _ h => h, fun _ _ _ h => h⟩
theorem Pe.trans {H H1 H2 : Hp} (a : Pe H H1) (b : Pe H1 H2) : Pe H H2 := ⟨fun c o h => b.t c o (a.t c o h), fun c o u h => b.f c o u (a.f c o u h)⟩
theorem ex_pe {H H' : Hp} (e : Ex H H') : Pe H H' := ⟨fun _ _ h => e _ _ h, fun _ _ _ h => e _ _ h⟩
theorem Pe.sqT {K : PySem.W.Frag} {H H' : Hp} {a : Addr} {xs : List V} (e : Pe H H') (h : SqT K H a xs) : SqT K H' a xs := by
  rcases h with (h | ⟨o, h⟩) | h
  · exact .inl (.inl (e.t _ _ h))
  · exact .inl (.inr ⟨o, e.f _ _ _ h⟩)
  · exact .inr h
mutual
theorem Nk.pe {K : PySem.W.Frag} {H H' : Hp} (e : Pe H H') : ∀ {v : V} (k : NestedKey), Nk K H v k → Nk K H' v k
  | _, .none, h => by cases h; exact .non
  | _, .num i, h => by cases h; exact .int i
  | _, .text x, h => by cases h; exact .str x
  | _, .tup ks, h => by
    cases h with
    | tup h1 h2 => exact .tup (e.sqT h1) (NkAll.pe e ks h2)
theorem NkAll.pe {K : PySem.W.Frag} {H H' : Hp} (e : Pe H H') : ∀ {vs : List V} (ks : List NestedKey), NkAll K H vs ks → NkAll K H' vs ks
  | _, [], h => by cases h; exact .nil
  | _, k :: ks, h => by
    cases h with
    | cons h1 h2 => exact .cons (Nk.pe e k h1) (NkAll.pe e ks h2)
end
theorem Nk.ex {K : PySem.W.Frag} {H H' : Hp} {v : V} {k : NestedKey} (h : Nk K H v k) (e : Ex H H') : Nk K H' v k := Nk.pe (ex_pe e) k h
theorem NkAll.ex {K : PySem.W.Frag} {H H' : Hp} {vs : List V} {ks : List NestedKey} (h : NkAll K H vs ks) (e : Ex H H') : NkAll K H' vs ks := NkAll.pe (ex_pe e) ks h
/-- a list, a dict (no tuple) may change, a free place may be taken -/
theorem pe_upd {H : Hp} {l : Addr} {o : HO} (h1 : ∀ xs, H l ≠ some (.tup xs)) (h2 : ∀ ob u, H l ≠ some (.frz ob u)) : Pe H (upd H l o) :=
  ⟨fun b xs e => by
    have hb : b ≠ l := fun z => by
      rw [z] at e
      exact h1 xs e
    rw [upd_ne hb]
    exact e, fun b ob u e => by
    have hb : b ≠ l := fun z => by
      rw [z] at e
      exact h2 ob u e
    rw [upd_ne hb]
    exact e⟩
theorem pe_updL {H : Hp} {l : Addr} {o : HO} {xs : List V} (h : H l = some (.lst xs)) : Pe H (upd H l o) := pe_upd (fun ys e => by rw [h] at e; cases e) fun ob u e => by rw [h] at e; cases e
theorem pe_updE {H : Hp} {l : Addr} {o : HO} {φ : Heap → Prop} (h : H l = some (.ext φ)) : Pe H (upd H l o) := pe_upd (fun ys e => by rw [h] at e; cases e) fun ob u e => by rw [h] at e; cases e
theorem ex_new {H : Hp} {p : Addr} {o : HO} (h : H p = none) : Ex H (upd H p o) := fun b x e => by
  rw [upd_ne (ne_of_none e h)]
  exact e
/-- an object that H does not know may change -/
theorem ex_mut {H H' : Hp} {p : Addr} {o : HO} (e : Ex H H') (h : H p = none) : Ex H (upd H' p o) := fun a u ha => by
  rw [upd_ne (ne_of_none ha h)]
  exact e a u ha
theorem NkAll.length {K : PySem.W.Frag} {H : Hp} : ∀ {vs : List V} {ks : List NestedKey}, NkAll K H vs ks → vs.length = ks.length
  | _, _, .nil => rfl
  | _, _, .cons _ t => by rw [List.length_cons, List.length_cons, NkAll.length t]
theorem NkAll.get {K : PySem.W.Frag} {H : Hp} : ∀ {vs : List V} {ks : List NestedKey} {i : Nat} {k : NestedKey}, NkAll K H vs ks → ks[i]? = some k → ∃ v, vs[i]? = some v ∧ Nk K H v k
  | _, _, _, _, .nil, e => by simp at e
  | _, _, 0, _, .cons r _, e => by
    simp at e
    subst e
    exact ⟨_, rfl, r⟩
  | _, _, i + 1, k, .cons _ t, e => by
    obtain ⟨v, h1, h2⟩ := NkAll.get (i := i) (k := k) t (by simpa using e)
    exact ⟨v, by simpa using h1, h2⟩
theorem NkAll.getV {K : PySem.W.Frag} {H : Hp} : ∀ {vs : List V} {ks : List NestedKey} {i : Nat} {v : V}, NkAll K H vs ks → vs[i]? = some v → ∃ k, ks[i]? = some k ∧ Nk K H v k
  | _, _, _, _, .nil, e => by simp at e
  | _, _, 0, _, .cons r _, e => by
    simp at e
    subst e
    exact ⟨_, rfl, r⟩
  | _, _, i + 1, v, .cons _ t, e => by
    obtain ⟨k, h1, h2⟩ := NkAll.getV (i := i) (v := v) t (by simpa using e)
    exact ⟨k, by simpa using h1, h2⟩
theorem NkAll.append {K : PySem.W.Frag} {H : Hp} : ∀ {vs ws : List V} {ks ls : List NestedKey}, NkAll K H vs ks → NkAll K H ws ls → NkAll K H (vs ++ ws) (ks ++ ls)
  | _, _, _, _, .nil, s => s
  | _, _, _, _, .cons r t, s => .cons r (NkAll.append t s)
theorem NkAll.take {K : PySem.W.Frag} {H : Hp} : ∀ {vs : List V} {ks : List NestedKey} (n : Nat), NkAll K H vs ks → NkAll K H (vs.take n) (ks.take n)
  | _, _, 0, _ => .nil
  | _, _, _ + 1, .nil => .nil
  | _, _, n + 1, .cons r t => .cons r (NkAll.take n t)
theorem NkAll.drop {K : PySem.W.Frag} {H : Hp} : ∀ {vs : List V} {ks : List NestedKey} (n : Nat), NkAll K H vs ks → NkAll K H (vs.drop n) (ks.drop n)
  | _, _, 0, r => r
  | _, _, _ + 1, .nil => .nil
  | _, _, n + 1, .cons _ t => NkAll.drop n t
theorem NkAll.reverse {K : PySem.W.Frag} {H : Hp} {vs : List V} {ks : List NestedKey} (h : NkAll K H vs ks) : NkAll K H vs.reverse ks.reverse := by
  have go : ∀ {vs : List V} (ks : List NestedKey), NkAll K H vs ks → NkAll K H vs.reverse ks.reverse := by
    intro vs ks
    induction ks generalizing vs with
    | nil => intro h; cases h; exact .nil
    | cons k ks ih =>
      intro h
      cases h with
      | cons h1 h2 =>
        rw [List.reverse_cons, List.reverse_cons]
        exact NkAll.append (ih h2) (.cons h1 .nil)
  exact go ks h
theorem NkAll.eraseIdx {K : PySem.W.Frag} {H : Hp} : ∀ {vs : List V} {ks : List NestedKey} (n : Nat), NkAll K H vs ks → NkAll K H (vs.eraseIdx n) (ks.eraseIdx n)
  | _, _, _, .nil => .nil
  | _, _, 0, .cons _ t => t
  | _, _, n + 1, .cons r t => .cons r (NkAll.eraseIdx n t)
theorem NkAll.one {K : PySem.W.Frag} {H : Hp} {v : V} {k : NestedKey} (h : Nk K H v k) : NkAll K H [v] [k] := .cons h .nil

/-! ### the data as PyData, as a key -/
mutual
theorem Nk.dp {K : PySem.W.Frag} {H : Hp} : ∀ {v : V} (k : NestedKey), Nk K H v k → Dp K H v k.data
  | _, .none, h => by cases h; exact .non
  | _, .num i, h => by cases h; exact .int i
  | _, .text x, h => by cases h; exact .str x
  | _, .tup ks, h => by
    cases h with
    | tup h1 h2 => exact .tup h1 (NkAll.dp ks h2)
theorem NkAll.dp {K : PySem.W.Frag} {H : Hp} : ∀ {vs : List V} (ks : List NestedKey), NkAll K H vs ks → DpAll K H vs (NestedKey.datas ks)
  | _, [], h => by cases h; exact .nil
  | _, k :: ks, h => by
    cases h with
    | cons h1 h2 => exact .cons (Nk.dp k h1) (NkAll.dp ks h2)
end
mutual
theorem data_plain : ∀ k : NestedKey, k.data.plain = true
  | .none => rfl
  | .num _ => rfl
  | .text _ => rfl
  | .tup ks => by
    simp only [NestedKey.data, PyData.plain]
    exact datas_plain ks
theorem datas_plain : ∀ ks : List NestedKey, PyData.plainAll (NestedKey.datas ks) = true
  | [] => rfl
  | k :: ks => by simp only [NestedKey.datas, PyData.plainAll, data_plain k, datas_plain ks, Bool.and_self]
end
mutual
theorem data_depth : ∀ k : NestedKey, k.data.depth = k.depth
  | .none => by simp [NestedKey.data, PyData.depth, NestedKey.depth]
  | .num _ => by simp [NestedKey.data, PyData.depth, NestedKey.depth]
  | .text _ => by simp [NestedKey.data, PyData.depth, NestedKey.depth]
  | .tup ks => by simp only [NestedKey.data, PyData.depth, NestedKey.depth, datas_depth ks]
theorem datas_depth : ∀ ks : List NestedKey, PyData.depthAll (NestedKey.datas ks) = NestedKey.depthAll ks
  | [] => by simp [NestedKey.datas, PyData.depthAll, NestedKey.depthAll]
  | k :: ks => by simp only [NestedKey.datas, PyData.depthAll, NestedKey.depthAll, data_depth k, datas_depth ks]
end
mutual
theorem data_eqv : ∀ k l : NestedKey, PyData.eqv k.data l.data = NestedKey.beq k l
  | .none, .none => by simp [NestedKey.data, PyData.eqv, NestedKey.beq]
  | .none, .num _ => by simp [NestedKey.data, PyData.eqv, NestedKey.beq]
  | .none, .text _ => by simp [NestedKey.data, PyData.eqv, NestedKey.beq]
  | .none, .tup _ => by simp [NestedKey.data, PyData.eqv, NestedKey.beq]
  | .num _, .none => by simp [NestedKey.data, PyData.eqv, NestedKey.beq]
  | .num a, .num b => by simp [NestedKey.data, PyData.eqv, NestedKey.beq]; exact Bool.beq_eq_decide_eq a b
  | .num _, .text _ => by simp [NestedKey.data, PyData.eqv, NestedKey.beq]
  | .num _, .tup _ => by simp [NestedKey.data, PyData.eqv, NestedKey.beq]
  | .text _, .none => by simp [NestedKey.data, PyData.eqv, NestedKey.beq]
  | .text _, .num _ => by simp [NestedKey.data, PyData.eqv, NestedKey.beq]
  | .text a, .text b => by simp [NestedKey.data, PyData.eqv, NestedKey.beq]; exact Bool.beq_eq_decide_eq a b
  | .text _, .tup _ => by simp [NestedKey.data, PyData.eqv, NestedKey.beq]
  | .tup _, .none => by simp [NestedKey.data, PyData.eqv, NestedKey.beq]
  | .tup _, .num _ => by simp [NestedKey.data, PyData.eqv, NestedKey.beq]
  | .tup _, .text _ => by simp [NestedKey.data, PyData.eqv, NestedKey.beq]
  | .tup a, .tup b => by
    simp only [NestedKey.data, PyData.eqv, NestedKey.beq]
    exact datas_eqv a b
theorem datas_eqv : ∀ k l : List NestedKey, PyData.eqvAll (NestedKey.datas k) (NestedKey.datas l) = NestedKey.beqAll k l
  | [], [] => by simp [NestedKey.datas, PyData.eqvAll, NestedKey.beqAll]
  | [], _ :: _ => by simp [NestedKey.datas, PyData.eqvAll, NestedKey.beqAll]
  | _ :: _, [] => by simp [NestedKey.datas, PyData.eqvAll, NestedKey.beqAll]
  | a :: as, b :: bs => by simp only [NestedKey.datas, PyData.eqvAll, NestedKey.beqAll, data_eqv a b, datas_eqv as bs]
end
theorem data_eq (k l : NestedKey) : PyData.eqv k.data l.data = decide (k = l) := by rw [data_eqv, NestedKey.decide_eq]
theorem datas_map : ∀ ks : List NestedKey, NestedKey.datas ks = ks.map NestedKey.data
  | [] => rfl
  | k :: ks => by rw [NestedKey.datas, List.map_cons, datas_map ks]

section
variable {X : Cx} {pins : List (Addr × Obj)} {σ : L2.St} {H : Hp} {s : Shared}
mutual
/-- data is a key -/
theorem Nk.isKey (I : Inv X pins σ H s) : ∀ (k : NestedKey) (v : V) (u : Value), Nk X.K H v k → RelV v u → NestedIs s.heap k u
  | .none, _, _, h, r => by
    cases h
    cases r
    exact .none
  | .num i, _, _, h, r => by
    cases h
    obtain ⟨t, rfl⟩ := r
    exact .int i t
  | .text x, _, _, h, r => by
    cases h
    obtain ⟨t, rfl⟩ := r
    exact .text x t
  | .tup ks, _, _, h, r => by
    cases h with
    | tup hs ha =>
      cases r
      obtain ⟨its, rv, ⟨o, ho, hc, n, hd⟩, _⟩ := I.tuple hs
      exact .tup ho hc hd (by simpa using NkAll.isKeys I ks _ its ha rv)
theorem NkAll.isKeys (I : Inv X pins σ H s) : ∀ (ks : List NestedKey) (vs : List V) (us : List Value), NkAll X.K H vs ks → Vals vs us → NestedAll s.heap ks us
  | [], _, _, h, r => by
    cases h
    cases r
    exact .nil
  | k :: ks, _, _, h, r => by
    cases h with
    | cons h1 h2 =>
      cases r with
      | cons r1 r2 => exact .cons (Nk.isKey I k _ _ h1 r1) (NkAll.isKeys I ks _ _ h2 r2)
end
end

/-! ### ==, !=, in, not in, index, remove of data -/
section
variable {X : Cx}
theorem room_min {A : Around} {d e : PyData} {n : Nat} (h : d.depth ≤ 32 ∨ e.depth ≤ 32) (hu : A.units + 64 < cLine) (hn : n ≤ 32) : A.units + n + min d.depth e.depth < cLine := by
  have h2 : min d.depth e.depth ≤ d.depth := Nat.min_le_left _ _
  have h3 : min d.depth e.depth ≤ e.depth := Nat.min_le_right _ _
  omega
def rEqN (K : PySem.W.Frag) : R2 := fun x y H Q => ∃ k l, Nk K H x k ∧ Nk K H y l ∧ (k.depth ≤ 32 ∨ l.depth ≤ 32) ∧ Q (.bl (decide (k = l))) H
def rNeN (K : PySem.W.Frag) : R2 := fun x y H Q => ∃ k l, Nk K H x k ∧ Nk K H y l ∧ (k.depth ≤ 32 ∨ l.depth ≤ 32) ∧ Q (.bl (!decide (k = l))) H
theorem op_eqN (hu : X.A.units + 64 < cLine) : OpR X (compareOp .Eq) (rEqN X.K) := by
  intro pins s σ H x y v u Q I rx ry h
  obtain ⟨k, l, hk, hl, hd, q⟩ := h
  obtain ⟨as, r1⟩ := Dp.reads I _ x v (Nk.dp k hk) rx
  obtain ⟨bs, r2⟩ := Dp.reads I _ y u (Nk.dp l hl) ry
  refine SeqAt.eq_plain r1 r2 (data_plain k) (data_plain l) (room_min (n := 0) (by rw [data_depth, data_depth]; exact hd) hu (by decide)) ⟨.bl _, H, I, rfl, ?_⟩
  rw [data_eq]
  exact q
theorem op_neN (hu : X.A.units + 64 < cLine) : OpR X (compareOp .NotEq) (rNeN X.K) := by
  intro pins s σ H x y v u Q I rx ry h
  obtain ⟨k, l, hk, hl, hd, q⟩ := h
  obtain ⟨as, r1⟩ := Dp.reads I _ x v (Nk.dp k hk) rx
  obtain ⟨bs, r2⟩ := Dp.reads I _ y u (Nk.dp l hl) ry
  refine SeqAt.ne_plain r1 r2 (data_plain k) (data_plain l) (room_min (n := 0) (by rw [data_depth, data_depth]; exact hd) hu (by decide)) ⟨.bl _, H, I, rfl, ?_⟩
  rw [data_eq]
  exact q
theorem any_data (k : NestedKey) : ∀ ks : List NestedKey, ((NestedKey.datas ks).any fun z => PyData.eqv z k.data) = decide (k ∈ ks)
  | [] => by simp [NestedKey.datas]
  | l :: ks => by
    rw [NestedKey.datas, List.any_cons, any_data k ks, data_eq]
    by_cases e : l = k
    · subst e; simp
    · rw [decide_eq_false e, Bool.false_or]
      by_cases m : k ∈ ks
      · rw [decide_eq_true m, decide_eq_true (List.mem_cons_of_mem _ m)]
      · rw [decide_eq_false m, decide_eq_false]
        intro z
        rcases List.mem_cons.mp z with z | z
        · exact e z.symm
        · exact m z
/-- k in a list, a tuple of data -/
def SqN (K : PySem.W.Frag) (H : Hp) (p : Addr) (ks : List NestedKey) : Prop := ∃ vs, (SqL K H p vs ∨ SqT K H p vs) ∧ NkAll K H vs ks
def rInN (K : PySem.W.Frag) (neg : Bool) : R2 := fun x y H Q => ∃ k p ks, Nk K H x k ∧ y = .ref p ∧ SqN K H p ks ∧ k.depth ≤ 32 ∧ Q (.bl (if neg then !decide (k ∈ ks) else decide (k ∈ ks))) H
theorem op_inN (hu : X.A.units + 64 < cLine) : OpR X (compareOp .In) (rInN X.K false) := by
  intro pins s σ H x y v u Q I rx ry h
  obtain ⟨k, p, ks, hk, rfl, ⟨vs, hp, hv⟩, hd, q⟩ := h
  obtain ⟨as, r1⟩ := Dp.reads I _ x v (Nk.dp k hk) rx
  rcases hp with hp | hp
  · obtain ⟨bs, r2⟩ := Dp.reads I _ _ u (Dp.lst hp (NkAll.dp ks hv)) ry
    refine SeqAt.in_list_data r2 r1 (datas_plain ks) (data_plain k) ?_ ⟨.bl _, H, I, rfl, ?_⟩
    · rw [Nat.min_comm]
      have h2 : min k.data.depth (PyData.depthAll (NestedKey.datas ks)) ≤ k.data.depth := Nat.min_le_left _ _
      rw [data_depth] at h2
      rw [data_depth]
      omega
    · rw [any_data]
      exact q
  · obtain ⟨bs, r2⟩ := Dp.reads I _ _ u (Dp.tup hp (NkAll.dp ks hv)) ry
    refine SeqAt.in_tuple_data r2 r1 (datas_plain ks) (data_plain k) ?_ ⟨.bl _, H, I, rfl, ?_⟩
    · rw [Nat.min_comm]
      have h2 : min k.data.depth (PyData.depthAll (NestedKey.datas ks)) ≤ k.data.depth := Nat.min_le_left _ _
      rw [data_depth] at h2
      rw [data_depth]
      omega
    · rw [any_data]
      exact q
theorem op_notInN (hu : X.A.units + 64 < cLine) : OpR X (compareOp .NotIn) (rInN X.K true) := by
  intro pins s σ H x y v u Q I rx ry h
  obtain ⟨k, p, ks, hk, rfl, ⟨vs, hp, hv⟩, hd, q⟩ := h
  obtain ⟨as, r1⟩ := Dp.reads I _ x v (Nk.dp k hk) rx
  rcases hp with hp | hp
  · obtain ⟨bs, r2⟩ := Dp.reads I _ _ u (Dp.lst hp (NkAll.dp ks hv)) ry
    refine SeqAt.notIn_list_data r2 r1 (datas_plain ks) (data_plain k) ?_ ⟨.bl _, H, I, rfl, ?_⟩
    · rw [Nat.min_comm]
      have h2 : min k.data.depth (PyData.depthAll (NestedKey.datas ks)) ≤ k.data.depth := Nat.min_le_left _ _
      rw [data_depth] at h2
      rw [data_depth]
      omega
    · rw [any_data]
      exact q
  · obtain ⟨bs, r2⟩ := Dp.reads I _ _ u (Dp.tup hp (NkAll.dp ks hv)) ry
    refine SeqAt.notIn_tuple_data r2 r1 (datas_plain ks) (data_plain k) ?_ ⟨.bl _, H, I, rfl, ?_⟩
    · rw [Nat.min_comm]
      have h2 : min k.data.depth (PyData.depthAll (NestedKey.datas ks)) ≤ k.data.depth := Nat.min_le_left _ _
      rw [data_depth] at h2
      rw [data_depth]
      omega
    · rw [any_data]
      exact q
end
end KW
namespace KW
open PySem PySem.Spec PyProof.Rows L2

/-! ### index, remove -/
theorem place_data {k : NestedKey} : ∀ {ks : List NestedKey}, k ∈ ks → SeqAt.dataPlace (NestedKey.datas ks) k.data = some (ks.idxOf k)
  | [], h => by cases h
  | l :: ks, h => by
    unfold SeqAt.dataPlace
    rw [NestedKey.datas, List.findIdx?_cons, data_eq]
    by_cases e : l = k
    · subst e
      simp
    · rw [decide_eq_false e]
      have hk : k ∈ ks := by
        rcases List.mem_cons.mp h with z | z
        · exact absurd z.symm e
        · exact z
      have ih := place_data hk
      unfold SeqAt.dataPlace at ih
      rw [ih, List.idxOf_cons]
      have hb : (l == k) = false := by simpa using e
      rw [hb]
      rfl
theorem erase_at {k : NestedKey} : ∀ {ks : List NestedKey}, k ∈ ks → ks.eraseIdx (ks.idxOf k) = ks.erase k
  | [], h => by cases h
  | l :: ks, h => by
    rw [List.idxOf_cons]
    by_cases e : l = k
    · subst e
      simp
    · have hk : k ∈ ks := by
        rcases List.mem_cons.mp h with z | z
        · exact absurd z.symm e
        · exact z
      have hb : (l == k) = false := by simpa using e
      rw [hb, List.erase_cons, hb]
      show l :: ks.eraseIdx (ks.idxOf k) = _
      rw [erase_at hk]
      simp
section
variable {X : Cx}
def rIndexN (K : PySem.W.Frag) : V → List V → Hp → VK → Prop := fun x xs H Q => ∃ (a : Addr) (y : V) (k : NestedKey) (ks : List NestedKey) (vs : List V), x = .ref a ∧ xs = [y] ∧ SqL K H a vs ∧ NkAll K H vs ks ∧ Nk K H y k ∧ k.depth ≤ 32 ∧ k ∈ ks ∧ Q (.int (ks.idxOf k : Nat)) H
theorem mt_indexN (hu : X.A.units + 64 < cLine) : MtR X "list.index" (rIndexN X.K) := by
  intro pins s σ H x xs v us Q I rx rxs h
  obtain ⟨a, y, k, ks, vs, rfl, rfl, hs, hv, hy, hd, hk, q⟩ := h
  cases rx
  cases rxs with
  | cons ry rt =>
    rename_i uy ut
    cases rt
    obtain ⟨bs, r1⟩ := Dp.reads I _ y uy (Nk.dp k hy) ry
    obtain ⟨its, rv, ⟨⟨cls, dd, data, sls⟩, n, ho, hc, hdn, hdt⟩, hlen⟩ := I.list hs
    simp only at hc hdt
    subst hc hdt
    obtain ⟨as, h4⟩ := Dp.readsAll I _ _ its (NkAll.dp ks hv) rv
    have h4' : ReadsAll s.heap its.toArray.toList (NestedKey.datas ks) as := h4
    obtain ⟨hj, hit, hno⟩ := SeqAt.hit_at h4' (datas_plain ks) (place_data hk)
    have hvl := rv.length
    have hsl := sizeLine_eq
    have hj' : ks.idxOf k < its.length := by simpa using hj
    have hroom : X.A.units + 1 + min (PyData.depthAll (NestedKey.datas ks)) k.data.depth < cLine := by
      rw [Nat.min_comm]
      have h2 : min k.data.depth (PyData.depthAll (NestedKey.datas ks)) ≤ k.data.depth := Nat.min_le_left _ _
      rw [data_depth] at h2
      rw [data_depth]
      omega
    refine call_meets PySem.F.slot_list_index ⟨_, ho, rfl⟩ PySem.F.entry_list_index (PySem.F.args_list_index_2 _ _)
      (SeqAt.list_indexAt a its.toArray n dd sls uy (fun u => PyData.eqv (SeqAt.readOf s.heap u) k.data) (ks.idxOf k) hj (by omega) hit fun m hm hmj => hno m hm hmj) ⟨ho, SeqAt.items_plain h4' r1 (datas_plain ks) (data_plain k) hroom, ?_⟩
    exact ⟨.int (ks.idxOf k : Nat), H, I.tok _, ⟨_, rfl⟩, q⟩
def rRemoveN (K : PySem.W.Frag) : V → List V → Hp → VK → Prop := fun x xs H Q => ∃ (l : Addr) (y : V) (k : NestedKey) (ks : List NestedKey) (vs : List V), x = .ref l ∧ xs = [y] ∧ H l = some (.lst vs) ∧ NkAll K H vs ks ∧ Nk K H y k ∧ k.depth ≤ 32 ∧ k ∈ ks ∧ Q .non (upd H l (.lst (vs.eraseIdx (ks.idxOf k))))
theorem mt_removeN (hu : X.A.units + 64 < cLine) : MtR X "list.remove" (rRemoveN X.K) := by
  intro pins s σ H x xs v us Q I rx rxs h
  obtain ⟨l, y, k, ks, vs, rfl, rfl, hH, hv, hy, hd, hk, q⟩ := h
  cases rx
  cases rxs with
  | cons ry rt =>
    rename_i uy ut
    cases rt
    obtain ⟨bs, r1⟩ := Dp.reads I _ y uy (Nk.dp k hy) ry
    obtain ⟨z, its, n, r, hl, e⟩ := I.lstM hH
    obtain ⟨as, h4⟩ := Dp.readsAll I _ _ its (NkAll.dp ks hv) r
    have h4' : ReadsAll s.heap its.toArray.toList (NestedKey.datas ks) as := h4
    have hroom : X.A.units + 1 + min (PyData.depthAll (NestedKey.datas ks)) k.data.depth < cLine := by
      rw [Nat.min_comm]
      have h2 : min k.data.depth (PyData.depthAll (NestedKey.datas ks)) ≤ k.data.depth := Nat.min_le_left _ _
      rw [data_depth] at h2
      rw [data_depth]
      omega
    refine SeqAt.remove_list_data ⟨_, e, rfl, _, rfl⟩ h4' r1 (datas_plain ks) (data_plain k) hroom (place_data hk) (by rw [List.size_toArray, ← hl]; exact z) ?_
    refine ⟨.non, _, I.lset (its' := its.eraseIdx (ks.idxOf k)) (t' := s.toks) hH e ?_ (r.eraseIdx (ks.idxOf k)) ?_, rfl, q⟩
    · show its.toArray.eraseIdxIfInBounds (ks.idxOf k) = _
      rw [List.eraseIdxIfInBounds_toArray]
    · have := L2.len_erase vs (ks.idxOf k)
      omega
end

/-! ### dicts whose keys are data -/
def storedV (xs : List (NestedKey × Addr × V)) (k : NestedKey) (a : Addr) (v : V) : List (NestedKey × Addr × V) :=
  if (xs.any fun x => decide (x.1 = k)) = true then xs.map (fun x => if x.1 = k then (x.1, x.2.1, v) else x) else xs ++ [(k, a, v)]
abbrev RX : List (NestedKey × Addr × V) → List (NestedKey × Addr × Value) → Prop := Paired fun p q => p.1 = q.1 ∧ p.2.1 = q.2.1 ∧ RelV p.2.2 q.2.2
def dnOk (P : Program) (w : World) (d : Addr) (xs : List (NestedKey × Addr × V)) (h : Heap) : Prop :=
  xs.length ≤ sizeLine ∧ (d == sysModules) = false ∧ ∃ ys, RX xs ys ∧ ∃ o es ep, h.get? d = some o ∧ o.ExactDict ∧ o.data = .dict es ep ∧ es.toList = ys.map (entryOfKey (nestedKind P w)) ∧ (ys.map (·.1)).Nodup
/-- the dict at d, its pairs with the addresses of their keys -/
def dN (P : Program) (w : World) (d : Addr) (xs : List (NestedKey × Addr × V)) : HO := .ext (dnOk P w d xs)
theorem dN_ok {P : Program} {w : World} {d : Addr} {xs : List (NestedKey × Addr × V)} {H : Hp} {h : Heap} : ObjOk P w H h d (dN P w d xs) ↔ dnOk P w d xs h := by
  constructor
  · rintro ⟨h1, _, _⟩
    exact h1
  · intro h1
    refine ⟨h1, ?_, ?_⟩
    · obtain ⟨_, _, _, _, o, _, _, e, _⟩ := h1
      exact ⟨o, e⟩
    · rintro g1 g2 ⟨a, b, ys, r, o, es, ep, e, c⟩ hk
      exact ⟨a, b, ys, r, o, es, ep, hk _ e, c⟩
theorem RX.any {xs : List (NestedKey × Addr × V)} {ys : List (NestedKey × Addr × Value)} (r : RX xs ys) (k : NestedKey) : (xs.any fun x => decide (x.1 = k)) = (atKey ys k).isSome := by
  unfold RX at r
  induction r with
  | nil => rfl
  | @cons p q ps qs h t ih =>
    rw [List.any_cons, ih, h.1]
    unfold atKey
    rw [List.find?_cons]
    by_cases e : q.1 = k
    · simp [e]
    · simp [e]
theorem RX.stored {xs : List (NestedKey × Addr × V)} {ys : List (NestedKey × Addr × Value)} (r : RX xs ys) (k : NestedKey) (a : Addr) {v : V} {u : Value} (rv : RelV v u) : RX (storedV xs k a v) (storedH ys k a u) := by
  unfold storedV storedH
  rw [r.any k]
  by_cases q : (atKey ys k).isSome = true
  · rw [if_pos q, if_pos q]
    clear q
    unfold RX at r ⊢
    induction r with
    | nil => exact .nil
    | @cons p q ps qs h t ih =>
      rw [List.map_cons, List.map_cons]
      refine .cons ?_ ih
      obtain ⟨h1, h2, h3⟩ := h
      unfold putAt
      by_cases e : p.1 = k
      · rw [if_pos e, if_pos (h1.symm.trans e)]; exact ⟨h1, h2, rv⟩
      · rw [if_neg e, if_neg (fun z => e (h1.trans z))]; exact ⟨h1, h2, h3⟩
  · rw [if_neg q, if_neg q]
    exact Paired.snoc r ⟨rfl, rfl, rv⟩
theorem storedV_len (xs : List (NestedKey × Addr × V)) (k : NestedKey) (a : Addr) (v : V) : (storedV xs k a v).length ≤ xs.length + 1 := by
  unfold storedV
  split
  · rw [List.length_map]; omega
  · rw [List.length_append, List.length_singleton]; omega
/-- the pairs, without addresses -/
def prs (xs : List (NestedKey × Addr × V)) : List (NestedKey × V) := xs.map fun x => (x.1, x.2.2)
theorem prs_stored (xs : List (NestedKey × Addr × V)) (k : NestedKey) (a : Addr) (v : V) : prs (storedV xs k a v) = putK (prs xs) k v := by
  unfold prs storedV putK
  rw [List.any_map]
  have e : ((fun kv : NestedKey × V => decide (kv.1 = k)) ∘ fun x : NestedKey × Addr × V => (x.1, x.2.2)) = fun x => decide (x.1 = k) := rfl
  rw [e]
  by_cases q : (xs.any fun x => decide (x.1 = k)) = true
  · rw [if_pos q, if_pos q, List.map_map, List.map_map]
    refine List.map_congr_left fun x _ => ?_
    show (fun x : NestedKey × Addr × V => (x.1, x.2.2)) (if x.1 = k then (x.1, x.2.1, v) else x) = if x.1 = k then (x.1, v) else (x.1, x.2.2)
    by_cases z : x.1 = k
    · rw [if_pos z, if_pos z]
    · rw [if_neg z, if_neg z]
  · rw [if_neg q, if_neg q, List.map_append]
    rfl
theorem RX.val {xs : List (NestedKey × Addr × V)} {ys : List (NestedKey × Addr × Value)} (r : RX xs ys) (k : NestedKey) : RelO (valV (prs xs) k) ((atKey ys k).map (·.2)) := by
  unfold RX at r
  induction r with
  | nil => exact True.intro
  | @cons p q ps qs h t ih =>
    obtain ⟨h1, h2, h3⟩ := h
    show RelO (valV ((p.1, p.2.2) :: prs ps) k) _
    by_cases e : p.1 = k
    · have e' : q.1 = k := h1.symm.trans e
      have b : atKey (q :: qs) k = some q.2 := by simp [atKey, List.find?_cons, e']
      rw [valV_pos (p := (p.1, p.2.2)) e, b]; exact h3
    · have e' : ¬ q.1 = k := fun z => e (h1.trans z)
      have b : atKey (q :: qs) k = atKey qs k := by simp [atKey, List.find?_cons, e']
      rw [valV_neg (p := (p.1, p.2.2)) e, b]; exact ih
/-- the keys stand at their addresses -/
def KeysAt (K : PySem.W.Frag) (H : Hp) (xs : List (NestedKey × Addr × V)) : Prop := ∀ x ∈ xs, Nk K H (.ref x.2.1) x.1 ∧ x.1.depth ≤ 8
/-- at d stands a dict of these pairs -/
def DN (P : Program) (w : World) (K : PySem.W.Frag) (H : Hp) (d : Addr) (m : List (NestedKey × V)) : Prop := ∃ xs, H d = some (dN P w d xs) ∧ KeysAt K H xs ∧ prs xs = m
theorem DN.ex {P : Program} {w : World} {K : PySem.W.Frag} {H H' : Hp} {d : Addr} {m : List (NestedKey × V)} (h : DN P w K H d m) (e : Ex H H') : DN P w K H' d m := by
  obtain ⟨xs, h1, h2, h3⟩ := h
  exact ⟨xs, e _ _ h1, fun x hx => ⟨(h2 x hx).1.ex e, (h2 x hx).2⟩, h3⟩
/-- .. while another object changes -/
theorem DN.pe {P : Program} {w : World} {K : PySem.W.Frag} {H H' : Hp} {d : Addr} {m : List (NestedKey × V)} (h : DN P w K H d m) (e : Pe H H') (hd : H' d = H d) : DN P w K H' d m := by
  obtain ⟨xs, h1, h2, h3⟩ := h
  exact ⟨xs, hd.trans h1, fun x hx => ⟨Nk.pe e _ (h2 x hx).1, (h2 x hx).2⟩, h3⟩
theorem DN.there {P : Program} {w : World} {K : PySem.W.Frag} {H : Hp} {d : Addr} {m : List (NestedKey × V)} (h : DN P w K H d m) : ∃ φ, H d = some (.ext φ) := by
  obtain ⟨xs, h1, _⟩ := h
  exact ⟨_, h1⟩
section
variable {X : Cx} {pins : List (Addr × Obj)} {σ : L2.St} {H : Hp} {s : Shared} {d : Addr} {m : List (NestedKey × V)}
theorem DN.open (I : Inv X pins σ H s) (h : DN X.prog X.w X.K H d m) : ∃ xs ys, H d = some (dN X.prog X.w d xs) ∧ KeysAt X.K H xs ∧ prs xs = m ∧ RX xs ys ∧ xs.length ≤ sizeLine ∧ (d == sysModules) = false ∧ s.heap.DictOfH (nestedKind X.prog X.w) d ys := by
  obtain ⟨xs, h1, h2, h3⟩ := h
  obtain ⟨z, lo, ys, r, o, es, ep, e1, e2, e3, e4, e5⟩ := dN_ok.mp (I.hok d _ h1)
  refine ⟨xs, ys, h1, h2, h3, r, z, lo, o, es, ep, e1, e2, e3, e4, fun y hy => ?_, e5⟩
  obtain ⟨j, hj⟩ := List.mem_iff_getElem?.mp hy
  have pick : ∀ {ps : List (NestedKey × Addr × V)} {qs : List (NestedKey × Addr × Value)} {j : Nat} {y : NestedKey × Addr × Value}, RX ps qs → qs[j]? = some y → ∃ x ∈ ps, x.1 = y.1 ∧ x.2.1 = y.2.1 := by
    intro ps qs j y r
    unfold RX at r
    induction r generalizing j with
    | nil => intro e; simp at e
    | @cons p q ps qs h t ih =>
      intro e
      cases j with
      | zero =>
        simp at e
        subst e
        exact ⟨p, List.mem_cons_self, h.1, h.2.1⟩
      | succ j =>
        obtain ⟨x, hx, e1⟩ := ih (by simpa using e)
        exact ⟨x, List.mem_cons_of_mem _ hx, e1⟩
  obtain ⟨x, hx, e6, e7⟩ := pick r hj
  obtain ⟨k1, k2⟩ := h2 x hx
  rw [e6, e7] at k1
  rw [e6] at k2
  exact ⟨Nk.isKey I _ _ _ k1 rfl, k2⟩
theorem key_at {k : NestedKey} {b : Addr} (I : Inv X pins σ H s) (h : Nk X.K H (.ref b) k) (hd : k.depth ≤ 8) : (nestedKind X.prog X.w).is s.heap k b := ⟨Nk.isKey I _ _ _ h rfl, hd⟩
end
section
variable {X : Cx}
theorem nroom {A : Around} (hu : A.units + 64 < cLine) : (nestedKind X.prog X.w).room A.in1 := by
  show A.in1.units + 8 < cLine
  rw [Around.in1_units]
  omega
/-- d[k] -/
def rGetN (P : Program) (w : World) (K : PySem.W.Frag) : V → V → Hp → VK → Prop := fun x y H Q => ∃ d b k m v, x = .ref d ∧ y = .ref b ∧ DN P w K H d m ∧ Nk K H (.ref b) k ∧ k.depth ≤ 8 ∧ valV m k = some v ∧ Q v H
theorem get_n (hu : X.A.units + 64 < cLine) : OpR X getItem (rGetN X.prog X.w X.K) := by
  intro pins s σ H x y u i Q I rx ry h
  obtain ⟨d, b, k, m, v, rfl, rfl, hd, hk, hk8, hv, q⟩ := h
  cases rx
  cases ry
  obtain ⟨xs, ys, h1, h2, rfl, r, z, lo, dd⟩ := hd.open I
  obtain ⟨w', hw, rw'⟩ := RelO.some_of (v := v) (o := (atKey ys k).map (·.2)) (by rw [← hv]; exact r.val k)
  obtain ⟨p, hp, hp2⟩ := Option.map_eq_some_iff.mp hw
  refine wpAny_getItem_heap (nroom hu) (key_at I hk hk8) dd hp ?_
  rw [hp2]
  exact ⟨v, H, I.tok _, rw', q⟩
/-- the subscript as an expression -/
def tGetN (r : R2) (td ty : TE) : TE := fun σ H Q => td σ H fun x H1 => ty σ H1 fun y H2 => (∃ d m P w K, x = .ref d ∧ DN P w K H2 d m) ∧ r x y H2 Q
theorem dn_type {pins : List (Addr × Obj)} {σ : L2.St} {H : Hp} {s : Shared} {d : Addr} {xs : List (NestedKey × Addr × V)} {P : Program} {w : World} (I : Inv X pins σ H s) (h : H d = some (dN P w d xs)) : s.TypeIs (.ref d) "dict" := by
  obtain ⟨⟨z, lo, ys, r, o, es, ep, e1, e2, _⟩, _, _⟩ := I.hok d _ h
  exact ⟨o, e1, e2.1⟩
theorem pe_getN {o i : Expr} {td ty : TE} {pos : Pos} (hu : X.A.units + 64 < cLine) (ho : PE X o td) (hi : PE X i ty) (hs : NoSl i) : PE X (.Subscript o i pos) (tGetN (rGetN X.prog X.w X.K) td ty) := by
  refine ⟨fun pins s σ H Q I h => ?_⟩
  refine subD_of PySem.F.slot_dict_getitem.lookup hs (thn (ho.run pins s σ H _ I h) fun u s1 ⟨x, H1, I1, rx, q1⟩ => thn (hi.run pins s1 σ H1 _ I1 q1) fun iv s2 ⟨y, H2, I2, ry, ⟨d, m, P, w, K, ex, xs, hd, _⟩, q2⟩ => ?_)
  refine ⟨?_, get_n hu pins s2 σ H2 x y u iv Q I2 rx ry q2⟩
  subst ex
  cases rx
  exact dn_type I2 hd
/-- k in d, k not in d -/
def rInDN (P : Program) (w : World) (K : PySem.W.Frag) (neg : Bool) : R2 := fun x y H Q => ∃ d b k m, y = .ref d ∧ x = .ref b ∧ DN P w K H d m ∧ Nk K H (.ref b) k ∧ k.depth ≤ 8 ∧ Q (.bl (if neg then !(valV m k).isSome else (valV m k).isSome)) H
theorem op_inDN (hu : X.A.units + 64 < cLine) : OpR X (compareOp .In) (rInDN X.prog X.w X.K false) := by
  intro pins s σ H x y u i Q I rx ry h
  obtain ⟨d, b, k, m, rfl, rfl, hd, hk, hk8, q⟩ := h
  cases rx
  cases ry
  obtain ⟨xs, ys, h1, h2, rfl, r, z, lo, dd⟩ := hd.open I
  refine wpAny_in_heap (nroom hu) (key_at I hk hk8) lo dd ?_
  have e := (r.val k).isSome_eq
  rw [Option.isSome_map] at e
  rw [← e]
  exact ⟨.bl _, H, I.tok _, rfl, q⟩
theorem op_notInDN (hu : X.A.units + 64 < cLine) : OpR X (compareOp .NotIn) (rInDN X.prog X.w X.K true) := by
  intro pins s σ H x y u i Q I rx ry h
  obtain ⟨d, b, k, m, rfl, rfl, hd, hk, hk8, q⟩ := h
  cases rx
  cases ry
  obtain ⟨xs, ys, h1, h2, rfl, r, z, lo, dd⟩ := hd.open I
  refine wpAny_notIn_heap (nroom hu) (key_at I hk hk8) lo dd ?_
  have e := (r.val k).isSome_eq
  rw [Option.isSome_map] at e
  rw [← e]
  exact ⟨.bl _, H, I.tok _, rfl, q⟩
/-- d[k] = v -/
def rSetN (P : Program) (w : World) (K : PySem.W.Frag) : V → V → V → Hp → (Hp → Prop) → Prop := fun o i v H Q => ∃ d b k xs, o = .ref d ∧ i = .ref b ∧ H d = some (dN P w d xs) ∧ KeysAt K H xs ∧ Nk K H (.ref b) k ∧ k.depth ≤ 8 ∧ xs.length < sizeLine ∧ Q (upd H d (dN P w d (storedV xs k b v)))
theorem set_n (hu : X.A.units + 64 < cLine) : PSet X (rSetN X.prog X.w X.K) := by
  intro pins s σ H o i v ov iv u Q I ro ri rv h
  obtain ⟨d, b, k, xs, rfl, rfl, hd, hxs, hk, hk8, hz, q⟩ := h
  cases ro
  cases ri
  obtain ⟨xs', ys, h1, h2, hm, r, z, lo, dd⟩ := DN.open (m := prs xs) I ⟨xs, hd, hxs, rfl⟩
  have e0 : xs' = xs ∨ True := .inr trivial
  obtain ⟨z2, lo2, ys2, r2, o2, es2, ep2, f1, f2, f3, f4, f5⟩ := dN_ok.mp (I.hok d _ hd)
  have dd2 : s.heap.DictOfH (nestedKind X.prog X.w) d ys2 := by
    obtain ⟨o, es, ep, g1, g2, g3, g4, g5, g6⟩ := id dd
    rw [f1] at g1; cases g1
    rw [f3] at g3; cases g3
    refine ⟨o2, es2, ep2, f1, f2, f3, f4, fun y hy => ?_, f5⟩
    -- each key of ys2 stands, by KeysAt
    have pick : ∀ {ps : List (NestedKey × Addr × V)} {qs : List (NestedKey × Addr × Value)} {y : NestedKey × Addr × Value}, RX ps qs → y ∈ qs → ∃ x ∈ ps, x.1 = y.1 ∧ x.2.1 = y.2.1 := by
      intro ps qs y r
      unfold RX at r
      induction r with
      | nil => intro e; cases e
      | @cons p q ps qs h t ih =>
        intro e
        rcases List.mem_cons.mp e with e | e
        · subst e
          exact ⟨p, List.mem_cons_self, h.1, h.2.1⟩
        · obtain ⟨x, hx, e1⟩ := ih e
          exact ⟨x, List.mem_cons_of_mem _ hx, e1⟩
    obtain ⟨x, hx, e6, e7⟩ := pick r2 hy
    obtain ⟨k1, k2⟩ := hxs x hx
    rw [e6, e7] at k1
    rw [e6] at k2
    exact ⟨Nk.isKey I _ _ _ k1 rfl, k2⟩
  have hz2 : ys2.length < sizeLine := by rw [← Paired.length r2]; exact hz
  refine wpAny_setItem_heap (hsz := Nat.le_of_lt hz2) (nroom hu) (key_at I hk hk8) dd2 fun h' dd' hs => ⟨_, ?_, q⟩
  obtain ⟨o', es', ep', g1, g2, g3, g4, _, g6⟩ := dd'
  refine I.write (x := d) (e := d) (t' := s.toks + (nestedKind X.prog X.w).draws k) (by rw [hd]; trivial) (.inl rfl) (fun c x hc e => (hs.2 c hc).trans e) ⟨o', g1⟩ ?_
  refine dN_ok.mpr ⟨?_, lo2, _, r2.stored k b rv, o', es', ep', g1, g2, g3, g4, g6⟩
  have := storedV_len xs k b v
  omega
end
end KW
namespace KW
open PySem PySem.Spec PyProof.Rows L2

/-! ### tuples whose object is known to be plain -/
def PlT (H : Hp) (a : Addr) (xs : List V) : Prop := ∃ o, H a = some (.frz o (.tup xs)) ∧ o.dict = none
theorem PlT.pe {H H' : Hp} {a : Addr} {xs : List V} (h : PlT H a xs) (e : Pe H H') : PlT H' a xs := by
  obtain ⟨o, h1, h2⟩ := h
  exact ⟨o, e.f _ _ _ h1, h2⟩
theorem PlT.sq {K : PySem.W.Frag} {H : Hp} {a : Addr} {xs : List V} (h : PlT H a xs) : SqT K H a xs := by
  obtain ⟨o, h1, h2⟩ := h
  exact .inl (.inr ⟨o, h1⟩)
def tTupF (t : TA) : TE := fun σ H Q => t σ H fun xs H1 => xs.length ≤ sizeLine ∧ ∀ p o, H1 p = none → o.dict = none → Q (.ref p) (upd H1 p (.frz o (.tup xs)))
section
variable {X : Cx} {es : List Expr} {t : TA} {pos : Pos}
theorem pe_tupF {x1} (h : PA X es t) : PE X (.Tuple es x1 pos) (tTupF t) := by
  refine ⟨fun pins s σ H Q I hq => ?_⟩
  refine wpAny_Tuple_spliced (thn (h.run pos pins s σ H _ I hq) fun us s1 ⟨xs, H1, I1, r, z, q⟩ => ⟨by rw [← r.length]; exact z, ?_⟩)
  have hf : H1 s1.heap.objs.size = none := I1.hok.fresh (Nat.le_refl _)
  refine ⟨.ref s1.heap.objs.size, upd H1 s1.heap.objs.size (.frz { cls := .type "tuple", data := .seq us.toArray } (.tup xs)), I1.laid (t' := s1.toks) (fun b u e => Heap.get?_push_of_some _ e) (Nat.le_refl _) ?_, rfl, q _ _ hf rfl⟩
  exact ⟨Heap.get?_push_size _ rfl, z, us, r, ⟨_, Heap.get?_push_size _ rfl, rfl, _, rfl⟩⟩
end

/-! ### {}, {k: v}, dict(pairs) -/
theorem dN_empty {P : Program} {w : World} {H : Hp} (h : Heap) (hb : sysModules < h.objs.size) : ObjOk P w H (h.push { cls := .type "dict", data := .dict #[] }) h.objs.size (dN P w h.objs.size []) :=
  dN_ok.mpr ⟨Nat.zero_le _, beq_eq_false_iff_ne.mpr (Ne.symm (Nat.ne_of_lt hb)), [], .nil, _, #[], 0, Heap.get?_push_size _ rfl, ⟨rfl, rfl, rfl⟩, rfl, rfl, List.nodup_nil⟩
def tDNewN (P : Program) (w : World) : TE := fun _ H Q => ∀ p, H p = none → Q (.ref p) (upd H p (dN P w p []))
def tDisp1N (P : Program) (w : World) (K : PySem.W.Frag) (tk tv : TE) : TE := fun σ H Q => ∀ p, H p = none → tk σ (upd H p (dN P w p [])) fun x H1 => tv σ H1 fun y H2 =>
  H2 p = some (dN P w p []) ∧ ∃ b k, x = .ref b ∧ Nk K H2 (.ref b) k ∧ k.depth ≤ 8 ∧ Q (.ref p) (upd H2 p (dN P w p [(k, b, y)]))
section
variable {prog : Program} {w : World} {K : Type} [DecidableEq K] {knd : HeapKind prog w K} {A : Around} {E : Value → Shared → Prop} {s : Shared}
theorem dict_pairsA {env : Env} {keys : List (Option Expr)} {values : List Expr} {pos : Pos} {pairs : List (Sem Value × Sem Value)} {Q : Value → Shared → Prop} (hu : knd.room A)
    (hshape : (evalEachOpt keys env).zip ((evalEach values env).map fun v => do let x ← v; standAt pos; pure x) = pairs.map fun p => (some p.1, p.2)) (h0 : pairs ≠ []) (hlen : pairs.length ≤ 15)
    (h : wpAny (model prog w) A (evalPairs pairs) (fun vs s₁ => ∃ ps, CarriesH knd s₁.heap vs ps ∧ s₁.heap.DictOfH knd s.heap.objs.size [] ∧
      ∀ h' tk, h'.DictOfH knd s.heap.objs.size (storedAllH [] ps) → Heap.SameBut s.heap.objs.size s₁.heap h' → Q (.ref s.heap.objs.size) { s₁ with heap := h', toks := tk }) E
      { s with heap := s.heap.push { cls := .type "dict", data := .dict #[] } }) :
    wpAny (model prog w) A (eval (.Dict keys values pos) env) Q E s := by
  rw [arm_eval_Dict, hshape, dictDisplay_pairs pairs h0 (by omega)]
  exact wpAny_bind (wpAny_standAt (wpAny_bind (wpAny_subDictH (knd := knd) (Q := fun d s' => wpAny (model prog w) A (pure (Value.ref d)) Q E s') hu hlen
    (wpAny_mono h (fun vs s₁ h₁ => by obtain ⟨ps, hc, hm, hq⟩ := h₁; exact ⟨ps, hc, hm, fun h' tk a b => wpAny_pure (hq h' tk a b)⟩) fun _ _ e => e))))
end
section
variable {X : Cx} {pos : Pos}
theorem pe_dnewN : PE X (.Dict [] [] pos) (tDNewN X.prog X.w) := ⟨fun pins s σ H Q I h =>
  wpAny_Dict_empty ⟨.ref s.heap.objs.size, _, I.laid (a := s.heap.objs.size) (o := dN X.prog X.w s.heap.objs.size []) (t' := s.toks) (fun _ _ q => Heap.get?_push_of_some _ q) (Nat.le_refl _) (dN_empty s.heap I.big), rfl, h _ (I.hok.fresh (Nat.le_refl _))⟩⟩
theorem pe_disp1N {k v : Expr} {tk tv : TE} (hu : X.A.units + 64 < cLine) (hk : PE X k tk) (hv : PE X v tv) : PE X (.Dict [some k] [v] pos) (tDisp1N X.prog X.w X.K tk tv) := by
  refine ⟨fun pins s σ H Q I q => ?_⟩
  have hn := I.hok.fresh (Nat.le_refl s.heap.objs.size)
  have I1 := I.laid (a := s.heap.objs.size) (o := dN X.prog X.w s.heap.objs.size []) (h' := s.heap.push { cls := .type "dict", data := .dict #[] }) (t' := s.toks) (fun _ _ q => Heap.get?_push_of_some _ q) (Nat.le_refl _) (dN_empty s.heap I.big)
  have hroom : (nestedKind X.prog X.w).room X.A := by
    show X.A.units + 8 < cLine
    omega
  refine dict_pairsA (knd := nestedKind X.prog X.w) (pairs := pairTrees [some k] [v] X.env pos) hroom (zip_pairTrees [some k] [v] X.env pos rfl rfl) (by simp [pairTrees]) (by simp [pairTrees]) ?_
  refine pairTrees_cons_walk (thn (hk.run pins _ σ _ _ I1 (q _ hn)) fun u s1 ⟨x, H1, J1, rx, q1⟩ => thn (hv.run pins s1 σ H1 _ J1 q1) fun w2 s2 ⟨y, H2, J2, ry, e, b, kk, ex, hb, h8, q2⟩ => pairTrees_nil_walk ?_)
  subst ex
  cases rx
  obtain ⟨z, lo, ys, r, o, es, ep, e1, e2, e3, e4, e5⟩ := dN_ok.mp (J2.hok _ _ e)
  cases r
  refine ⟨[(kk, b, w2)], ⟨rfl, rfl, key_at J2 hb h8, trivial⟩, ⟨o, es, ep, e1, e2, e3, e4, (fun x hx => by cases hx), List.nodup_nil⟩, fun h' tk' hd' hs => ?_⟩
  obtain ⟨o', es', ep', g1, g2, g3, g4, g5, g6⟩ := hd'
  refine ⟨.ref s.heap.objs.size, _, ?_, rfl, q2⟩
  refine J2.write (x := s.heap.objs.size) (e := s.heap.objs.size) (t' := tk') (by rw [e]; trivial) (.inl rfl) (fun c x hc e => (hs.2 c hc).trans e) ⟨o', g1⟩ ?_
  refine dN_ok.mpr ⟨by show 1 ≤ sizeLine; decide, lo, [(kk, b, w2)], .cons ⟨rfl, rfl, ry⟩ .nil, o', es', ep', g1, g2, g3, g4, g6⟩
/-- dict(t) of a plain tuple of pairs -/
theorem call_dictT (hcalm : X.calm = true) : CallR X (.type "dict") (fun xs H Q => ∃ (a : Addr) (ps : List Addr) (kvs : List (Key × V)), xs = [.ref a] ∧ PlT H a (ps.map V.ref) ∧ Paired (fun p kv => SqT X.K H p [kV kv.1, kv.2]) ps kvs ∧
    ∀ p, H p = none → Q (.ref p) (upd H p (.dK (mergeK [] kvs)))) := by
  intro pins s σ H xs us Q I r q
  obtain ⟨a, ps, kvs, ex, ⟨o, hq, hd⟩, hp, q⟩ := q
  subst ex
  obtain ⟨u, eu, rx⟩ := vals1 r
  subst eu
  cases rx
  obtain ⟨ho, hz, its, rv, o2, ho2, hc, n, hdat⟩ := I.hok a _ hq
  rw [ho] at ho2
  cases ho2
  have ei := refs_at rv
  subst ei
  rw [List.length_map] at hz
  obtain ⟨prs, rel, hl, hpr⟩ := pairs_of I hp
  obtain ⟨us, hus, hps⟩ : ∃ us : List Value, us.length = prs.length ∧ ∀ (j : Nat) (q' : Key × Value), prs[j]? = some q' → ∃ b u, ps[j]? = some b ∧ us[j]? = some u ∧ IsTup s.heap b #[u, q'.2] ∧ keyIs q'.1 u = true := by
    clear q hp rel hq hz rv
    have go : ∀ (prs : List (Key × Value)) (ps : List Addr), (∀ (j : Nat) (q : Key × Value), prs[j]? = some q → ∃ (b : Addr) (u : Value), ps[j]? = some b ∧ IsTup s.heap b #[u, q.2] ∧ keyIs q.1 u = true) →
        ∃ us : List Value, us.length = prs.length ∧ ∀ (j : Nat) (q' : Key × Value), prs[j]? = some q' → ∃ b u, ps[j]? = some b ∧ us[j]? = some u ∧ IsTup s.heap b #[u, q'.2] ∧ keyIs q'.1 u = true := by
      intro prs
      induction prs with
      | nil => exact fun ps _ => ⟨[], rfl, fun j q' e => by simp at e⟩
      | cons p prs ih =>
        intro ps h
        obtain ⟨us, h1, h2⟩ := ih ps.tail fun j q e => by
          obtain ⟨b, u, e1, e2⟩ := h (j + 1) q (by simpa using e)
          refine ⟨b, u, ?_, e2⟩
          cases ps with
          | nil => simp at e1
          | cons _ _ => simpa using e1
        obtain ⟨b, u, e1, e2, e3⟩ := h 0 p rfl
        refine ⟨u :: us, by simp [h1], fun j q' e => ?_⟩
        cases j with
        | zero =>
          have e' : p = q' := by simpa using e
          subst e'
          exact ⟨b, u, e1, rfl, e2, e3⟩
        | succ j =>
          obtain ⟨b', u', f1, f2, f3⟩ := h2 j q' (by simpa using e)
          refine ⟨b', u', ?_, by simpa using f2, f3⟩
          cases ps with
          | nil => simp at f1
          | cons _ _ => simpa using f1
    exact go prs ps hpr
  have hpl : prs.length = ps.length := hl
  have hpi : PairItems s.heap (ps.map Value.ref).toArray (fun j => ps.getD j 0) (us.zip (prs.map (·.2))) := by
    refine ⟨by simp [hus, hpl], fun j k v e => ?_⟩
    obtain ⟨e1, e2⟩ : us[j]? = some k ∧ (prs.map (·.2))[j]? = some v := List.getElem?_zip_eq_some.mp e
    rw [List.getElem?_map] at e2
    obtain ⟨q', hq', rfl⟩ := Option.map_eq_some_iff.mp e2
    obtain ⟨b, u, f1, f2, f3, f4⟩ := hps j q' hq'
    rw [e1] at f2
    cases f2
    have hb : ps.getD j 0 = b := by rw [List.getD_eq_getElem?_getD, f1]; rfl
    refine ⟨?_, .inl ?_⟩
    · show (ps.map Value.ref).toArray[j]? = some (Value.ref (ps.getD j 0))
      rw [hb]
      simp [f1]
    · show s.heap.IsTuple (ps.getD j 0) #[k, q'.2]
      rw [hb]
      exact f3
  have hph : PairsHave (mixKind X.prog X.w) (us.zip (prs.map (·.2))).length (PairRel (us.zip (prs.map (·.2)))) prs := by
    refine ⟨by simp [hus], fun i key v e => ?_⟩
    obtain ⟨e1, e2⟩ : us[i]? = some key ∧ (prs.map (·.2))[i]? = some v := List.getElem?_zip_eq_some.mp e
    rw [List.getElem?_map] at e2
    obtain ⟨q', hq', rfl⟩ := Option.map_eq_some_iff.mp e2
    obtain ⟨b, u, f1, f2, f3, f4⟩ := hps i q' hq'
    rw [e1] at f2
    cases f2
    exact ⟨q'.1, hq', f4⟩
  refine PySem.call_dict_pairs (knd := mixKind X.prog X.w) (kvs := prs) (PairArg.tuple a (ps.map Value.ref).toArray (fun j => ps.getD j 0) (us.zip (prs.map (·.2)))) (I.ok.hd hcalm)
    ⟨⟨o, n, ho, hc, hd, hdat⟩, hpi⟩ hph (by simp [hus, hpl]; exact hz) fun h' tk hd' k => ?_
  have hm : (s.heap.objs.size == sysModules) = false := beq_eq_false_iff_ne.mpr (Nat.ne_of_gt I.big)
  have hlen : (mergeK [] kvs).length ≤ sizeLine := by
    refine Nat.le_trans (length_mergeK kvs []) ?_
    rw [List.length_nil, Nat.zero_add, rel.length, hl]
    exact hz
  exact ⟨.ref s.heap.objs.size, upd H s.heap.objs.size (.dK (mergeK [] kvs)), I.laid (t' := tk) (fun b o e => k b o (by simp) e) (Nat.le_refl _) (show ObjOk X.prog X.w _ _ _ (.dK (mergeK [] kvs)) from ⟨hlen, hm, merged [] prs, KV.merge rel .nil, hd'⟩), rfl, q _ (I.hok.fresh (Nat.le_refl _))⟩
end
end KW
namespace KW
open PySem PySem.Spec PyProof.Rows L2

/-! ### what an expression evaluates to -/
def Ev (te : TE) (σ : L2.St) (H : Hp) (P : V → Hp → Prop) : Prop := ∀ H1, Ex H H1 → ∀ Q : VK, (∀ v H2, Ex H1 H2 → P v H2 → Q v H2) → te σ H1 Q
def EvT (tt : TT) (σ : L2.St) (H : Hp) (b : Bool) : Prop := ∀ H1, Ex H H1 → ∀ Q : Bool → Hp → Prop, (∀ H2, Ex H1 H2 → Q b H2) → tt σ H1 Q
def EvA (ta : TA) (σ : L2.St) (H : Hp) (P : List V → Hp → Prop) : Prop := ∀ H1, Ex H H1 → ∀ Q : List V → Hp → Prop, (∀ vs H2, Ex H1 H2 → P vs H2 → Q vs H2) → ta σ H1 Q
def EvO (to : TO) (σ : L2.St) (H : Hp) (o : Option Int) : Prop := ∀ H1, Ex H H1 → ∀ Q : Option Int → Hp → Prop, (∀ H2, Ex H1 H2 → Q o H2) → to σ H1 Q
/-- a new list, a new object -/
def EvF (te : TE) (σ : L2.St) (H : Hp) (P : Addr → Hp → Prop) : Prop := ∀ H1, Ex H H1 → ∀ Q : VK, (∀ p H2, H1 p = none → Ex H1 H2 → P p H2 → Q (.ref p) H2) → te σ H1 Q
def isN (K : PySem.W.Frag) (k : NestedKey) : V → Hp → Prop := fun v H => Nk K H v k
def isV (v : V) : V → Hp → Prop := fun u _ => u = v
def isL (xs : List V) : Addr → Hp → Prop := fun p H => H p = some (.lst xs)
abbrev EvN (K : PySem.W.Frag) (te : TE) (σ : L2.St) (H : Hp) (k : NestedKey) : Prop := Ev te σ H (isN K k)
abbrev EvV (te : TE) (σ : L2.St) (H : Hp) (v : V) : Prop := Ev te σ H (isV v)
abbrev EvL (te : TE) (σ : L2.St) (H : Hp) (xs : List V) : Prop := EvF te σ H (isL xs)
abbrev EvAN (K : PySem.W.Frag) (ta : TA) (σ : L2.St) (H : Hp) (ks : List NestedKey) : Prop := EvA ta σ H fun vs H' => NkAll K H' vs ks
/-- an assertion that stays while the heap grows -/
def Mono {α : Type} (P : α → Hp → Prop) : Prop := ∀ a H H', Ex H H' → P a H → P a H'
theorem mono_isN {K : PySem.W.Frag} {k : NestedKey} : Mono (isN K k) := fun a H H' e h => Nk.ex h e
theorem mono_isV {v : V} : Mono (isV v) := fun a H H' e h => h
theorem mono_isL {xs : List V} : Mono (isL xs) := fun a H H' e h => e _ _ h

section
variable {K : PySem.W.Frag} {σ : L2.St} {H H' : Hp} {ta tb tc te : TE} {t u : TT} {x y z v : V} {r : R2} {k l : NestedKey} {ks ls : List NestedKey} {i j : Int} {P P1 P2 : V → Hp → Prop}
theorem Ev.mono (h : Ev te σ H P) (e : Ex H H') : Ev te σ H' P := fun H1 a Q q => h H1 (e.trans a) Q q
theorem EvT.mono {b : Bool} (h : EvT t σ H b) (e : Ex H H') : EvT t σ H' b := fun H1 a Q q => h H1 (e.trans a) Q q
theorem EvA.mono {ta : TA} {P : List V → Hp → Prop} (h : EvA ta σ H P) (e : Ex H H') : EvA ta σ H' P := fun H1 a Q q => h H1 (e.trans a) Q q
theorem EvF.mono {P : Addr → Hp → Prop} (h : EvF te σ H P) (e : Ex H H') : EvF te σ H' P := fun H1 a Q q => h H1 (e.trans a) Q q
theorem EvO.mono {to : TO} {o : Option Int} (h : EvO to σ H o) (e : Ex H H') : EvO to σ H' o := fun H1 a Q q => h H1 (e.trans a) Q q
theorem Ev.imp (h : Ev te σ H P) (w : ∀ v H1, Ex H H1 → P v H1 → P1 v H1) : Ev te σ H P1 := fun H1 a Q q => h H1 a Q fun v H2 e p => q v H2 e (w v H2 (a.trans e) p)
theorem EvF.ev {P : Addr → Hp → Prop} (h : EvF te σ H P) : Ev te σ H (fun v H1 => ∃ p, v = .ref p ∧ P p H1) := fun H1 a Q q => h H1 a Q fun p H2 _ e hp => q _ H2 e ⟨p, rfl, hp⟩
theorem evn_var {i : Nat} (h : σ[i]? = some (some v)) (hk : Nk K H v k) : EvN K (tVar i) σ H k := fun H1 e Q q => ⟨v, h, q v H1 (Same.refl _) (hk.ex e)⟩
theorem evv_var {i : Nat} (h : σ[i]? = some (some v)) : EvV (tVar i) σ H v := fun H1 e Q q => ⟨v, h, q v H1 (Same.refl _) rfl⟩
theorem ev_var {i : Nat} (h : σ[i]? = some (some v)) (hP : Mono P) (hp : P v H) : Ev (tVar i) σ H P := fun H1 e Q q => ⟨v, h, q v H1 (Same.refl _) (hP _ _ _ e hp)⟩
theorem evv_c : EvV (tC v) σ H v := fun H1 _ _ q => q v H1 (Same.refl _) rfl
theorem evn_int {n : Int} : EvN K (tC (.int n)) σ H (.num n) := fun H1 _ _ q => q _ H1 (Same.refl _) (.int n)
theorem evn_non : EvN K (tC .non) σ H .none := fun H1 _ _ q => q _ H1 (Same.refl _) .non
theorem evn_str {x : Str} : EvN K (tC (.str x)) σ H (.text x) := fun H1 _ _ q => q _ H1 (Same.refl _) (.str x)
theorem EvV.int {n : Int} (h : EvV te σ H (.int n)) : EvN K te σ H (.num n) := h.imp fun v H1 _ e => by
  cases e
  exact .int n
theorem EvV.str {n : Str} (h : EvV te σ H (.str n)) : EvN K te σ H (.text n) := h.imp fun v H1 _ e => by
  cases e
  exact .str n
theorem EvN.int {n : Int} (h : EvN K te σ H (.num n)) : EvV te σ H (.int n) := h.imp fun v H1 _ e => by
  cases e
  exact rfl
theorem EvN.str {n : Str} (h : EvN K te σ H (.text n)) : EvV te σ H (.str n) := h.imp fun v H1 _ e => by
  cases e
  exact rfl
theorem EvN.non (h : EvN K te σ H .none) : EvV te σ H .non := h.imp fun v H1 _ e => by
  cases e
  exact rfl
theorem nk_non (h : Nk K H v k) : (v = .non ↔ k = .none) := by
  cases h with
  | non => simp
  | int i => simp
  | str x => simp
  | tup h1 h2 => simp
/-- two operands -/
theorem ev_op (ha : Ev ta σ H P1) (hb : Ev tb σ H P2) (m1 : Mono P1) (hr : ∀ x y H1, Ex H H1 → P1 x H1 → P2 y H1 → ∀ Q : VK, (∀ v H2, Ex H1 H2 → P v H2 → Q v H2) → r x y H1 Q) : Ev (tOp r ta tb) σ H P := fun H1 e Q q =>
  ha H1 e _ fun x H2 e2 p1 => hb H2 (e.trans e2) _ fun y H3 e3 p2 => hr x y H3 ((e.trans e2).trans e3) (m1 _ _ _ e3 p1) p2 Q fun v H4 e4 p => q v H4 ((e2.trans e3).trans e4) p
theorem evv_op (ha : EvV ta σ H x) (hb : EvV tb σ H y) (hr : ∀ H1, Ex H H1 → ∀ Q : VK, Q z H1 → r x y H1 Q) : EvV (tOp r ta tb) σ H z :=
  ev_op ha hb mono_isV fun x' y' H1 e p1 p2 Q q => by
    cases p1
    cases p2
    exact hr H1 e Q (q _ H1 (Same.refl _) rfl)
theorem evv_I0 {g : Int → Int → V} (ha : EvV ta σ H (.int i)) (hb : EvV tb σ H (.int j)) : EvV (tOp (rI0 g) ta tb) σ H (g i j) := evv_op ha hb fun H1 _ Q q => ⟨i, j, rfl, rfl, q⟩
theorem evv_I {C : Int → Int → Prop} {g : Int → Int → V} (hc : C i j) (ha : EvV ta σ H (.int i)) (hb : EvV tb σ H (.int j)) : EvV (tOp (rI C g) ta tb) σ H (g i j) := evv_op ha hb fun H1 _ Q q => ⟨i, j, rfl, rfl, hc, q⟩
theorem evv_eq (hs : scal x y = true) (ha : EvV ta σ H x) (hb : EvV tb σ H y) : EvV (tOp rEq ta tb) σ H (.bl (decide (x = y))) := evv_op ha hb fun H1 _ Q q => ⟨hs, q⟩
theorem evv_ne (hs : scal x y = true) (ha : EvV ta σ H x) (hb : EvV tb σ H y) : EvV (tOp rNe ta tb) σ H (.bl (!decide (x = y))) := evv_op ha hb fun H1 _ Q q => ⟨hs, q⟩
theorem evv_is {w : V} (h : EvV te σ H v) (e : v = w) : EvV te σ H w := by
  rw [← e]
  exact h
theorem et_is {a b : Bool} (h : EvT t σ H a) (e : a = b) : EvT t σ H b := by
  rw [← e]
  exact h
theorem evn_is {w : NestedKey} (h : EvN K te σ H k) (e : k = w) : EvN K te σ H w := by
  rw [← e]
  exact h
/-- t[i] of data -/
theorem evn_ix (ha : EvN K ta σ H (.tup ks)) (hb : EvV tb σ H (.int i)) (hk : atI ks i = some k) : EvN K (tOp (rIxT K) ta tb) σ H k :=
  ev_op ha hb mono_isN fun x y H1 e p1 p2 Q q => by
    cases p2
    cases p1 with
    | @tup a xs _ h1 h2 =>
      obtain ⟨j, e1, e2, e3, e4, e5⟩ := atI_get hk
      obtain ⟨v, hv, nv⟩ := h2.get e2
      refine ⟨a, xs, i, v, rfl, rfl, h1, ?_, q v H1 (Same.refl _) nv⟩
      unfold atI at hk ⊢
      rw [h2.length]
      cases hi : ixN ks.length i with
      | none => rw [hi] at hk; cases hk
      | some j' =>
        rw [hi] at hk
        have hk' : ks[j']? = some k := hk
        have ej : j' = j := by
          obtain ⟨g1, _⟩ := ixN_seq hi
          rw [e1] at g1
          exact (Option.some.inj g1).symm
        rw [ej]
        exact hv
/-- xs[i] of a list of data -/
theorem evn_ixL {p : Addr} {vs : List V} (ha : EvV ta σ H (.ref p)) (hs : SqL K H p vs) (hv : NkAll K H vs ks) (hb : EvV tb σ H (.int i)) (hk : atI ks i = some k) : EvN K (tOp (rIxL K) ta tb) σ H k :=
  ev_op ha hb mono_isV fun x y H1 e p1 p2 Q q => by
    cases p1
    cases p2
    obtain ⟨j, e1, e2, e3, e4, e5⟩ := atI_get hk
    obtain ⟨v, hv', nv⟩ := hv.get e2
    refine ⟨p, vs, i, v, rfl, rfl, e.seq hs, ?_, q v H1 (Same.refl _) (nv.ex e)⟩
    unfold atI at hk ⊢
    rw [hv.length]
    cases hi : ixN ks.length i with
    | none => rw [hi] at hk; cases hk
    | some j' =>
      rw [hi] at hk
      have ej : j' = j := by
        obtain ⟨g1, _⟩ := ixN_seq hi
        rw [e1] at g1
        exact (Option.some.inj g1).symm
      rw [ej]
      exact hv'
/-- xs[i] of a list of values -/
theorem evv_ixL {p : Addr} {vs : List V} (ha : EvV ta σ H (.ref p)) (hs : SqL K H p vs) (hb : EvV tb σ H (.int i)) (hk : atI vs i = some v) : EvV (tOp (rIxL K) ta tb) σ H v :=
  evv_op ha hb fun H1 e Q q => ⟨p, vs, i, v, rfl, rfl, e.seq hs, hk, q⟩
/-- .. of a list just made -/
theorem evv_ixN {vs : List V} (ha : EvL ta σ H vs) (hb : EvV tb σ H (.int i)) (hk : atI vs i = some v) : EvV (tOp (rIxL K) ta tb) σ H v := fun H1 e Q q =>
  ha H1 e _ fun p H2 _ e2 hp => hb H2 (e.trans e2) _ fun y H3 e3 p2 => by
    cases p2
    exact ⟨p, vs, i, v, rfl, rfl, .inl (.inl (e3 _ _ hp)), hk, q v H3 (e2.trans e3) rfl⟩
/-- len -/
def rLenS (K : PySem.W.Frag) : List V → Hp → VK → Prop := fun xs H Q => ∃ p ys, xs = [.ref p] ∧ (SqL K H p ys ∨ SqT K H p ys) ∧ Q (.int ys.length) H
theorem evv_lenT (ha : EvN K ta σ H (.tup ks)) : EvV (tCB (rLenS K) (tCons ta tNil)) σ H (.int (ks.length : Int)) := fun H1 e Q q =>
  ha H1 e _ fun x H2 e2 p => by
    cases p with
    | @tup a xs _ h1 h2 => exact ⟨a, xs, rfl, .inr h1, q _ H2 e2 (by rw [h2.length]; rfl)⟩
theorem evv_lenL {p : Addr} {vs : List V} (ha : EvV ta σ H (.ref p)) (hs : SqL K H p vs) : EvV (tCB (rLenS K) (tCons ta tNil)) σ H (.int (vs.length : Int)) := fun H1 e Q q =>
  ha H1 e _ fun x H2 e2 p1 => by
    cases p1
    exact ⟨p, vs, rfl, .inl ((e.trans e2).seq hs), q _ H2 e2 rfl⟩
/-- arguments -/
theorem ea_nil : EvAN K tNil σ H [] := fun H1 _ _ q => q [] H1 (Same.refl _) .nil
theorem ea_cons {tr : TA} (h : EvN K te σ H k) (hr : EvAN K tr σ H ks) : EvAN K (tCons te tr) σ H (k :: ks) := fun H1 e _ q =>
  h H1 e _ fun v H2 e2 p => hr H2 (e.trans e2) _ fun vs H3 e3 ps => q (v :: vs) H3 (e2.trans e3) (.cons (Nk.ex p e3) ps)
theorem eaP_nil : EvA tNil σ H (fun vs _ => vs = []) := fun H1 _ _ q => q [] H1 (Same.refl _) rfl
/-- .. each by its own assertion -/
theorem eaP_cons {tr : TA} {Pr : List V → Hp → Prop} (h : Ev te σ H P) (hr : EvA tr σ H Pr) (hP : Mono P) : EvA (tCons te tr) σ H (fun vs H' => ∃ v ws, vs = v :: ws ∧ P v H' ∧ Pr ws H') := fun H1 e _ q =>
  h H1 e _ fun v H2 e2 p => hr H2 (e.trans e2) _ fun vs H3 e3 ps => q (v :: vs) H3 (e2.trans e3) ⟨v, vs, rfl, hP _ _ _ e3 p, ps⟩
theorem EvA.imp {ta : TA} {P P1 : List V → Hp → Prop} (h : EvA ta σ H P) (w : ∀ v H1, Ex H H1 → P v H1 → P1 v H1) : EvA ta σ H P1 := fun H1 a Q q => h H1 a Q fun v H2 e p => q v H2 e (w v H2 (a.trans e) p)
/-- a tuple of data -/
theorem evn_tup {ta : TA} (h : EvAN K ta σ H ks) (hl : ks.length ≤ 1000 := by decide) : EvN K (tTup ta) σ H (.tup ks) := fun H1 e Q q =>
  h H1 e _ fun vs H2 e2 p => ⟨by rw [p.length]; exact Nat.le_of_lt (small1000 hl), fun a ha => q _ _ (e2.trans (ex_new ha)) (.tup (SqT.of upd_same) (p.ex (ex_new ha)))⟩
theorem evl_lst {ta : TA} {vs : List V} (h : EvA ta σ H (fun ws _ => ws = vs)) (hl : vs.length ≤ 1000 := by decide) : EvL (tLst ta) σ H vs := fun H1 e Q q =>
  h H1 e _ fun ws H2 e2 p => by
    cases p
    exact ⟨Nat.le_of_lt (small1000 hl), fun a ha => q a _ (e2.free ha) (e2.trans (ex_new ha)) upd_same⟩
theorem ea_vnil : EvA tNil σ H (fun ws _ => ws = []) := fun H1 _ _ q => q [] H1 (Same.refl _) rfl
theorem ea_vcons {tr : TA} {vs : List V} (h : EvV te σ H v) (hr : EvA tr σ H (fun ws _ => ws = vs)) : EvA (tCons te tr) σ H (fun ws _ => ws = v :: vs) := fun H1 e _ q =>
  h H1 e _ fun v' H2 e2 p => hr H2 (e.trans e2) _ fun vs' H3 e3 ps => q (v' :: vs') H3 (e2.trans e3) (by
    cases p
    cases ps
    rfl)
/-- t + u -/
theorem evn_cat (ha : EvN K ta σ H (.tup ks)) (hb : EvN K tb σ H (.tup ls)) (hl : ks.length + ls.length ≤ 1000) : EvN K (tOp (rCatA K) ta tb) σ H (.tup (ks ++ ls)) :=
  ev_op ha hb mono_isN fun x y H1 e p1 p2 Q q => by
    cases p1 with
    | @tup a xs _ a1 a2 =>
      cases p2 with
      | @tup b ys _ b1 b2 =>
        refine ⟨a, b, xs, ys, rfl, rfl, a1, b1, by rw [a2.length, b2.length]; exact Nat.le_of_lt (small1000 hl), fun hx => ?_, fun hx hy => ?_, fun hx hy p hp => ?_⟩
        · subst hx
          cases a2
          exact q _ H1 (Same.refl _) (.tup b1 b2)
        · subst hy
          cases b2
          rw [List.append_nil] at q
          exact q _ H1 (Same.refl _) (.tup a1 a2)
        · exact q _ _ (ex_new hp) (.tup (SqT.of upd_same) ((a2.append b2).ex (ex_new hp)))
/-- slices -/
theorem eo_none : EvO tNoPart σ H none := fun H1 _ _ q => q H1 (Same.refl _)
theorem eo_some (h : EvV te σ H (.int i)) : EvO (tPart te) σ H (some i) := fun H1 e _ q => h H1 e _ fun v H2 e2 p => by
  cases p
  exact ⟨i, rfl, q H2 e2⟩
def cutK (xs : List NestedKey) (lo hi : Option Int) : List NestedKey := (xs.drop (HT.sIx xs.length 0 lo)).take (HT.sIx xs.length xs.length hi - HT.sIx xs.length 0 lo)
theorem evn_slice {tl th : TO} {lo hi : Option Int} (ha : EvN K ta σ H (.tup ks)) (hl : EvO tl σ H lo) (hh : EvO th σ H hi) : EvN K (tSl (rSlA K) ta tl th) σ H (.tup (cutK ks lo hi)) := fun H1 e Q q =>
  ha H1 e _ fun x H2 e2 p => hl H2 (e.trans e2) _ fun H3 e3 => hh H3 ((e.trans e2).trans e3) _ fun H4 e4 => by
    have p' : Nk K H4 x (.tup ks) := Nk.ex p (e3.trans e4)
    cases p' with
    | @tup a xs _ a1 a2 =>
      have hlen := a2.length
      refine ⟨a, xs, rfl, a1, fun hw => ?_, fun hw r hr => ?_⟩
      · refine q _ H4 ((e2.trans e3).trans e4) ?_
        have : cutK ks lo hi = ks := by
          unfold cutK
          rw [← hlen, hw.1, hw.2, List.drop_zero, Nat.sub_zero]
          exact List.take_of_length_le (Nat.le_of_eq hlen.symm)
        show Nk K H4 (.ref a) (.tup (cutK ks lo hi))
        rw [this]
        exact .tup a1 a2
      · refine q _ _ (((e2.trans e3).trans e4).trans (ex_new hr)) ?_
        refine .tup (SqT.of upd_same) ?_
        have := ((a2.drop (HT.sIx xs.length 0 lo)).take (HT.sIx xs.length xs.length hi - HT.sIx xs.length 0 lo)).ex (ex_new (o := .tup (cutV xs lo hi)) hr)
        unfold cutK
        unfold cutV at this ⊢
        rw [hlen] at this ⊢
        exact this
theorem cut_to (xs : List NestedKey) (n : Nat) : cutK xs none (some (n : Int)) = xs.take n := by
  unfold cutK
  rw [HT.sIx_none, HT.sIx_nat, List.drop_zero, Nat.sub_zero]
  by_cases h : n ≤ xs.length
  · rw [Nat.min_eq_left h]
  · rw [Nat.min_eq_right (by omega), List.take_of_length_le (Nat.le_refl _), List.take_of_length_le (by omega)]
theorem cut_from (xs : List NestedKey) (n : Nat) : cutK xs (some (n : Int)) none = xs.drop n := by
  unfold cutK
  rw [HT.sIx_none, HT.sIx_nat]
  by_cases h : n ≤ xs.length
  · rw [Nat.min_eq_left h]
    exact List.take_of_length_le (by rw [List.length_drop]; omega)
  · rw [Nat.min_eq_right (by omega), List.drop_eq_nil_of_le (Nat.le_refl _), List.drop_eq_nil_of_le (by omega), List.take_nil]
theorem cut_mid (xs : List NestedKey) (n m : Nat) (h : n ≤ m) : cutK xs (some (n : Int)) (some (m : Int)) = (xs.drop n).take (m - n) := by
  unfold cutK
  rw [HT.sIx_nat, HT.sIx_nat]
  by_cases h1 : n ≤ xs.length
  · rw [Nat.min_eq_left h1]
    by_cases h2 : m ≤ xs.length
    · rw [Nat.min_eq_left h2]
    · rw [Nat.min_eq_right (by omega), List.take_of_length_le (by rw [List.length_drop]; omega), List.take_of_length_le (by rw [List.length_drop]; omega)]
  · rw [Nat.min_eq_right (show xs.length ≤ n by omega), List.drop_eq_nil_of_le (Nat.le_refl _), List.drop_eq_nil_of_le (show xs.length ≤ n by omega), List.take_nil, List.take_nil]
/-- ==, !=, in -/
theorem evv_eqN (ha : EvN K ta σ H k) (hb : EvN K tb σ H l) (hd : k.depth ≤ 32 ∨ l.depth ≤ 32) : EvV (tOp (rEqN K) ta tb) σ H (.bl (decide (k = l))) :=
  ev_op ha hb mono_isN fun x y H1 e p1 p2 Q q => ⟨k, l, p1, p2, hd, q _ H1 (Same.refl _) rfl⟩
theorem evv_neN (ha : EvN K ta σ H k) (hb : EvN K tb σ H l) (hd : k.depth ≤ 32 ∨ l.depth ≤ 32) : EvV (tOp (rNeN K) ta tb) σ H (.bl (!decide (k = l))) :=
  ev_op ha hb mono_isN fun x y H1 e p1 p2 Q q => ⟨k, l, p1, p2, hd, q _ H1 (Same.refl _) rfl⟩
theorem evv_inL {neg : Bool} {p : Addr} {vs : List V} (ha : EvN K ta σ H k) (hb : EvV tb σ H (.ref p)) (hs : SqL K H p vs) (hv : NkAll K H vs ks) (hd : k.depth ≤ 32) : EvV (tOp (rInN K neg) ta tb) σ H (.bl (if neg then !decide (k ∈ ks) else decide (k ∈ ks))) :=
  ev_op ha hb mono_isN fun x y H1 e p1 p2 Q q => by
    cases p2
    exact ⟨k, p, ks, p1, rfl, ⟨vs, .inl (e.seq hs), hv.ex e⟩, hd, q _ H1 (Same.refl _) rfl⟩
theorem evv_inT {neg : Bool} (ha : EvN K ta σ H k) (hb : EvN K tb σ H (.tup ks)) (hd : k.depth ≤ 32) : EvV (tOp (rInN K neg) ta tb) σ H (.bl (if neg then !decide (k ∈ ks) else decide (k ∈ ks))) :=
  ev_op ha hb mono_isN fun x y H1 e p1 p2 Q q => by
    cases p2 with
    | @tup a xs _ h1 h2 => exact ⟨k, a, ks, p1, rfl, ⟨xs, .inr h1, h2⟩, hd, q _ H1 (Same.refl _) rfl⟩
/-- is None -/
def rIsN : R2 := fun x y H Q => y = .non ∧ Q (.bl (decide (x = .non))) H
def rNotN : R2 := fun x y H Q => y = .non ∧ Q (.bl (!decide (x = .non))) H
theorem evv_isN (ha : EvN K ta σ H k) : EvV (tOp rIsN ta (tC .non)) σ H (.bl (decide (k = .none))) :=
  ev_op ha evv_c mono_isN fun x y H1 e p1 p2 Q q => ⟨p2, q _ H1 (Same.refl _) (by
    show V.bl _ = V.bl _
    have := nk_non p1
    by_cases hx : x = .non
    · rw [decide_eq_true hx, decide_eq_true (this.mp hx)]
    · rw [decide_eq_false hx, decide_eq_false fun z => hx (this.mpr z)])⟩
theorem evv_notN (ha : EvN K ta σ H k) : EvV (tOp rNotN ta (tC .non)) σ H (.bl (!decide (k = .none))) :=
  ev_op ha evv_c mono_isN fun x y H1 e p1 p2 Q q => ⟨p2, q _ H1 (Same.refl _) (by
    show V.bl _ = V.bl _
    have := nk_non p1
    by_cases hx : x = .non
    · rw [decide_eq_true hx, decide_eq_true (this.mp hx)]
    · rw [decide_eq_false hx, decide_eq_false fun z => hx (this.mpr z)])⟩
/-- tests -/
theorem et_test {b : Bool} (h : EvV te σ H (.bl b)) : EvT (tTest te) σ H b := fun H1 e _ q => h H1 e _ fun v H2 e2 p => ⟨b, p, q H2 e2⟩
theorem et_B {b : Bool} (h : EvV te σ H (.bl b)) : EvT (tB te) σ H b := fun H1 e _ q => h H1 e _ fun v H2 e2 p => ⟨b, p, q H2 e2⟩
theorem et_and {a b : Bool} (h1 : EvT t σ H a) (h2 : a = true → EvT u σ H b) : EvT (tAnd t u) σ H (a && b) := fun H1 e Q q => h1 H1 e _ fun H2 e2 => by
  cases a with
  | true =>
    show u σ H2 Q
    exact h2 rfl H2 (e.trans e2) Q fun H3 e3 => q H3 (e2.trans e3)
  | false =>
    show Q false H2
    exact q H2 e2
theorem et_or {a b : Bool} (h1 : EvT t σ H a) (h2 : a = false → EvT u σ H b) : EvT (tOr t u) σ H (a || b) := fun H1 e Q q => h1 H1 e _ fun H2 e2 => by
  cases a with
  | true =>
    show Q true H2
    exact q H2 e2
  | false =>
    show u σ H2 Q
    exact h2 rfl H2 (e.trans e2) Q fun H3 e3 => q H3 (e2.trans e3)
theorem et_not {a : Bool} (h1 : EvT t σ H a) : EvT (tNot t) σ H (!a) := fun H1 e _ q => h1 H1 e _ fun H2 e2 => q H2 e2
theorem evv_and {a b : Bool} (h1 : EvV ta σ H (.bl a)) (h2 : a = true → EvV tb σ H (.bl b)) : EvV (tAndV ta tb) σ H (.bl (a && b)) := fun H1 e Q q => h1 H1 e _ fun v H2 e2 p => ⟨a, p, by
  cases a with
  | true =>
    show tb σ H2 Q
    exact h2 rfl H2 (e.trans e2) Q fun w H3 e3 p3 => q w H3 (e2.trans e3) p3
  | false =>
    show Q (.bl false) H2
    exact q _ H2 e2 rfl⟩
/-- a call of a def -/
theorem ev_call {sp : Sp} {E : XK} {ta : TA} {dvs : List V} {Pa : List V → Hp → Prop} (h : EvA ta σ H Pa) (hs : ∀ vs H1, Ex H H1 → Pa vs H1 → ∀ Q : VK, (∀ v H2, Ex H1 H2 → P v H2 → Q v H2) → sp (vs ++ dvs) H1 Q E) : Ev (tCall sp dvs E ta) σ H P := fun H1 e Q q =>
  h H1 e _ fun vs H2 e2 p => hs vs H2 (e.trans e2) p Q fun v H3 e3 pv => q v H3 (e2.trans e3) pv
/-- a call of a builtin -/
theorem ev_cb {rr : List V → Hp → VK → Prop} {ta : TA} {Pa : List V → Hp → Prop} (h : EvA ta σ H Pa) (hs : ∀ vs H1, Ex H H1 → Pa vs H1 → ∀ Q : VK, (∀ v H2, Ex H1 H2 → P v H2 → Q v H2) → rr vs H1 Q) : Ev (tCB rr ta) σ H P := fun H1 e Q q =>
  h H1 e _ fun vs H2 e2 p => hs vs H2 (e.trans e2) p Q fun v H3 e3 pv => q v H3 (e2.trans e3) pv
end

/-! ### statements -/
section
variable {K : PySem.W.Frag} {σ : L2.St} {H : Hp} {te : TE} {t : TT} {D : Ends} {tu tw tz : TS} {P : V → Hp → Prop} {g : TG}
theorem s_asgG (h : Ev te σ H P) (k : ∀ v H1, Ex H H1 → P v H1 → g v σ H1 D.nx) : tAsg te g D σ H := h H (Same.refl _) _ fun v H1 e p => k v H1 e p
theorem s_asg {i : Nat} (h : Ev te σ H P) (k : ∀ v H1, Ex H H1 → P v H1 → D.nx (σ.set i (some v)) H1) : tAsg te (gName i) D σ H := h H (Same.refl _) _ fun v H1 e p => k v H1 e p
theorem s_asgF {i : Nat} {P : Addr → Hp → Prop} (h : EvF te σ H P) (k : ∀ p H1, H p = none → Ex H H1 → P p H1 → D.nx (σ.set i (some (.ref p))) H1) : tAsg te (gName i) D σ H := h H (Same.refl _) _ fun v H1 hn e p => k v H1 hn e p
theorem s_ret (h : Ev te σ H P) (k : ∀ v H1, Ex H H1 → P v H1 → D.rt v H1) : tRet te D σ H := h H (Same.refl _) _ fun v H1 e p => k v H1 e p
theorem s_drop (h : Ev te σ H P) (k : ∀ v H1, Ex H H1 → P v H1 → D.nx σ H1) : tDrop te D σ H := h H (Same.refl _) _ fun v H1 e p => k v H1 e p
theorem s_if {b : Bool} (h : EvT t σ H b) (h1 : b = true → ∀ H1, Ex H H1 → tu D σ H1) (h2 : b = false → ∀ H1, Ex H H1 → tw D σ H1) : tIfS t tu tw D σ H := h H (Same.refl _) _ fun H1 e => by
  cases b with
  | true => exact h1 rfl H1 e
  | false => exact h2 rfl H1 e
theorem q_asgG (h : Ev te σ H P) (k : ∀ v H1, Ex H H1 → P v H1 → g v σ H1 (tz D)) : tSeq (tAsg te g) tz D σ H := s_asgG (D := { D with nx := tz D }) h k
theorem q_asg {i : Nat} (h : Ev te σ H P) (k : ∀ v H1, Ex H H1 → P v H1 → tz D (σ.set i (some v)) H1) : tSeq (tAsg te (gName i)) tz D σ H := s_asg (D := { D with nx := tz D }) h k
theorem q_asgF {i : Nat} {P : Addr → Hp → Prop} (h : EvF te σ H P) (k : ∀ p H1, H p = none → Ex H H1 → P p H1 → tz D (σ.set i (some (.ref p))) H1) : tSeq (tAsg te (gName i)) tz D σ H := s_asgF (D := { D with nx := tz D }) h k
theorem q_drop (h : Ev te σ H P) (k : ∀ v H1, Ex H H1 → P v H1 → tz D σ H1) : tSeq (tDrop te) tz D σ H := s_drop (D := { D with nx := tz D }) h k
theorem q_if {b : Bool} (h : EvT t σ H b) (h1 : b = true → ∀ H1, Ex H H1 → tu { D with nx := tz D } σ H1) (h2 : b = false → ∀ H1, Ex H H1 → tw { D with nx := tz D } σ H1) : tSeq (tIfS t tu tw) tz D σ H := s_if (D := { D with nx := tz D }) h h1 h2
theorem q_when {b : Bool} (h : EvT t σ H b) (h1 : b = true → ∀ H1, Ex H H1 → tu { D with nx := tz D } σ H1) (h2 : b = false → ∀ H1, Ex H H1 → tz D σ H1) : tSeq (tIfS t tu tNext) tz D σ H := s_if (D := { D with nx := tz D }) h h1 h2
theorem s_when {b : Bool} (h : EvT t σ H b) (h1 : b = true → ∀ H1, Ex H H1 → tu D σ H1) (h2 : b = false → ∀ H1, Ex H H1 → D.nx σ H1) : tIfS t tu tNext D σ H := s_if h h1 h2
/-- xs.append(e) as a statement -/
theorem s_app {ta : TE} {l : Addr} {xs : List V} (hl : H l = some (.lst xs)) (ha : EvV ta σ H (.ref l)) (h : Ev te σ H P) (hz : xs.length ≤ 1000) (k : ∀ v H1, Ex H H1 → P v H1 → D.nx σ (upd H1 l (.lst (xs ++ [v])))) :
    tDrop (tBM K "list" rAppend ta (tCons te tNil)) D σ H := ha H (Same.refl _) _ fun x H1 e1 p1 => by
  cases p1
  refine ⟨.inl ⟨rfl, xs, .inl (.inl (e1 _ _ hl))⟩, ?_⟩
  exact h H1 e1 _ fun v H2 e2 p => ⟨l, xs, v, rfl, rfl, e2 _ _ (e1 _ _ hl), small1000 hz, k v H2 (e1.trans e2) p⟩
theorem q_app {ta : TE} {l : Addr} {xs : List V} (hl : H l = some (.lst xs)) (ha : EvV ta σ H (.ref l)) (h : Ev te σ H P) (hz : xs.length ≤ 1000) (k : ∀ v H1, Ex H H1 → P v H1 → tz D σ (upd H1 l (.lst (xs ++ [v])))) :
    tSeq (tDrop (tBM K "list" rAppend ta (tCons te tNil))) tz D σ H := s_app (D := { D with nx := tz D }) hl ha h hz k
/-- a method of a list, by its own rule -/
theorem s_mt {ta : TE} {l : Addr} {xs : List V} {t : TA} {rr : V → List V → Hp → VK → Prop} {Pa : List V → Hp → Prop} (hl : H l = some (.lst xs)) (ha : EvV ta σ H (.ref l)) (h : EvA t σ H Pa)
    (k : ∀ vs H1, Ex H H1 → Pa vs H1 → H1 l = some (.lst xs) → rr (.ref l) vs H1 fun _ H2 => D.nx σ H2) : tDrop (tBM K "list" rr ta t) D σ H := ha H (Same.refl _) _ fun x H1 e1 p1 => by
  cases p1
  refine ⟨.inl ⟨rfl, xs, .inl (.inl (e1 _ _ hl))⟩, ?_⟩
  exact h H1 e1 _ fun vs H2 e2 p => k vs H2 (e1.trans e2) p (e2 _ _ (e1 _ _ hl))
theorem q_mt {ta : TE} {l : Addr} {xs : List V} {t : TA} {rr : V → List V → Hp → VK → Prop} {Pa : List V → Hp → Prop} (hl : H l = some (.lst xs)) (ha : EvV ta σ H (.ref l)) (h : EvA t σ H Pa)
    (k : ∀ vs H1, Ex H H1 → Pa vs H1 → H1 l = some (.lst xs) → rr (.ref l) vs H1 fun _ H2 => tz D σ H2) : tSeq (tDrop (tBM K "list" rr ta t)) tz D σ H := s_mt (D := { D with nx := tz D }) hl ha h k
/-- a for over range(n) -/
theorem s_forR {ta : TA} {j : Nat} {n : Nat} (h : EvA ta σ H (fun vs _ => vs = [.int (n : Int)])) (hn : n ≤ 1000) (Pv : Nat → L2.St → Hp → Prop) (h0 : ∀ H1, Ex H H1 → Pv 0 σ H1)
    (hs : ∀ (i : Nat) σ' H', i < n → Pv i σ' H' → tu { D with nx := Pv (i + 1), ct := Pv (i + 1), bk := D.nx } (σ'.set j (some (.int (i : Int)))) H') (hd : ∀ σ' H', Pv n σ' H' → D.nx σ' H') : tFor (iRng1 ta) (gName j) tu D σ H := h H (Same.refl _) _ fun vs H1 e p => by
  cases p
  refine ⟨(n : Int), rfl, by omega, by omega, ?_⟩
  have := for_range (lo := 0) (n := n) (g := gName j) (tb := tu) (D := D) (σ := σ) (H := H1) Pv (h0 H1 e) (fun i σ' H' hi p => by
    have e0 : (0 : Int) + (i : Int) = (i : Int) := Int.zero_add _
    show tu _ (σ'.set j (some (.int ((0 : Int) + (i : Int))))) H'
    rw [e0]
    exact hs i σ' H' hi p) hd
  simpa using this
theorem q_forR {ta : TA} {j : Nat} {n : Nat} (h : EvA ta σ H (fun vs _ => vs = [.int (n : Int)])) (hn : n ≤ 1000) (Pv : Nat → L2.St → Hp → Prop) (h0 : ∀ H1, Ex H H1 → Pv 0 σ H1)
    (hs : ∀ (i : Nat) σ' H', i < n → Pv i σ' H' → tu { D with nx := Pv (i + 1), ct := Pv (i + 1), bk := tz D } (σ'.set j (some (.int (i : Int)))) H') (hd : ∀ σ' H', Pv n σ' H' → tz D σ' H') : tSeq (tFor (iRng1 ta) (gName j) tu) tz D σ H :=
  s_forR (D := { D with nx := tz D }) h hn Pv h0 hs hd
/-- .. over a tuple of data -/
theorem s_forT {tl : TE} {a : Addr} {xs : List V} {ks : List NestedKey} (h : EvV tl σ H (.ref a)) (h1 : SqT K H a xs) (h2 : NkAll K H xs ks) (Pv : Nat → L2.St → Hp → Prop) (h0 : ∀ H1, Ex H H1 → Pv 0 σ H1) (hp : ∀ i σ' H', Pv i σ' H' → Pe H H')
    (hs : ∀ i k x σ' H', ks[i]? = some k → xs[i]? = some x → Nk K H' x k → Pv i σ' H' → g x σ' H' fun σ2 H2 => tu { D with nx := Pv (i + 1), ct := Pv (i + 1), bk := D.nx } σ2 H2) (hd : ∀ σ' H', Pv ks.length σ' H' → D.nx σ' H') : tFor (iTup K tl) g tu D σ H := h H (Same.refl _) _ fun v H1 e p => by
  cases p
  refine ⟨a, rfl, ⟨xs, (ex_pe e).sqT h1⟩, for_tup (K := K) (a := a) (xs := xs) Pv (h0 H1 e) (fun i σ' H' _ p => (hp i σ' H' p).sqT h1) (fun i x σ' H' hx p => ?_) (fun σ' H' p => ?_)⟩
  · obtain ⟨k, hk, nk⟩ := h2.getV hx
    exact hs i k x σ' H' hk hx (Nk.pe (hp i σ' H' p) _ nk) p
  · rw [h2.length] at p
    exact hd σ' H' p
theorem q_forT {tl : TE} {a : Addr} {xs : List V} {ks : List NestedKey} (h : EvV tl σ H (.ref a)) (h1 : SqT K H a xs) (h2 : NkAll K H xs ks) (Pv : Nat → L2.St → Hp → Prop) (h0 : ∀ H1, Ex H H1 → Pv 0 σ H1) (hp : ∀ i σ' H', Pv i σ' H' → Pe H H')
    (hs : ∀ i k x σ' H', ks[i]? = some k → xs[i]? = some x → Nk K H' x k → Pv i σ' H' → g x σ' H' fun σ2 H2 => tu { D with nx := Pv (i + 1), ct := Pv (i + 1), bk := tz D } σ2 H2) (hd : ∀ σ' H', Pv ks.length σ' H' → tz D σ' H') : tSeq (tFor (iTup K tl) g tu) tz D σ H :=
  s_forT (D := { D with nx := tz D }) h h1 h2 Pv h0 hp hs hd
/-- .. over a list of values -/
theorem s_forL {tl : TE} {a : Addr} {xs : List V} (h : EvV tl σ H (.ref a)) (h1 : SqL K H a xs) (Pv : Nat → L2.St → Hp → Prop) (h0 : ∀ H1, Ex H H1 → Pv 0 σ H1) (hl : ∀ i σ' H', Pv i σ' H' → SqL K H' a xs)
    (hs : ∀ i x σ' H', xs[i]? = some x → Pv i σ' H' → g x σ' H' fun σ2 H2 => tu { D with nx := Pv (i + 1), ct := Pv (i + 1), bk := D.nx } σ2 H2) (hd : ∀ σ' H', Pv xs.length σ' H' → D.nx σ' H') : tFor (iList K tl) g tu D σ H := h H (Same.refl _) _ fun v H1 e p => by
  cases p
  exact ⟨a, rfl, ⟨xs, e.seq h1⟩, for_list (K := K) (a := a) (xs := xs) Pv (h0 H1 e) (fun i σ' H' _ p => hl i σ' H' p) (fun i x σ' H' hx p => hs i x σ' H' hx p) (fun σ' H' p => hd σ' H' p)⟩
theorem q_forL {tl : TE} {a : Addr} {xs : List V} (h : EvV tl σ H (.ref a)) (h1 : SqL K H a xs) (Pv : Nat → L2.St → Hp → Prop) (h0 : ∀ H1, Ex H H1 → Pv 0 σ H1) (hl : ∀ i σ' H', Pv i σ' H' → SqL K H' a xs)
    (hs : ∀ i x σ' H', xs[i]? = some x → Pv i σ' H' → g x σ' H' fun σ2 H2 => tu { D with nx := Pv (i + 1), ct := Pv (i + 1), bk := tz D } σ2 H2) (hd : ∀ σ' H', Pv xs.length σ' H' → tz D σ' H') : tSeq (tFor (iList K tl) g tu) tz D σ H :=
  s_forL (D := { D with nx := tz D }) h h1 Pv h0 hl hs hd
/-- a while, by a word and a measure -/
theorem s_while (W : Nat → L2.St → Hp → Prop) (m0 : Nat) (h0 : W m0 σ H)
    (hs : ∀ m σ' H', W m σ' H' → ∃ b, EvT t σ' H' b ∧ (b = true → ∀ H1, Ex H' H1 → ∃ N : L2.St → Hp → Prop, (∀ σ2 H2, N σ2 H2 → ∃ m', m' < m ∧ W m' σ2 H2) ∧ tu { D with nx := N, ct := N, bk := D.nx } σ' H1) ∧ (b = false → ∀ H1, Ex H' H1 → D.nx σ' H1)) : tWhile t tu D σ H := by
  refine ⟨W, ⟨m0, h0⟩, fun m σ' H' w => ?_⟩
  obtain ⟨b, hb, h1, h2⟩ := hs m σ' H' w
  refine hb H' (Same.refl _) _ fun H1 e => ?_
  cases b with
  | true =>
    rw [if_pos rfl]
    exact h1 rfl H1 e
  | false =>
    rw [if_neg Bool.false_ne_true]
    exact h2 rfl H1 e
theorem q_while (W : Nat → L2.St → Hp → Prop) (m0 : Nat) (h0 : W m0 σ H)
    (hs : ∀ m σ' H', W m σ' H' → ∃ b, EvT t σ' H' b ∧ (b = true → ∀ H1, Ex H' H1 → ∃ N : L2.St → Hp → Prop, (∀ σ2 H2, N σ2 H2 → ∃ m', m' < m ∧ W m' σ2 H2) ∧ tu { D with nx := N, ct := N, bk := tz D } σ' H1) ∧ (b = false → ∀ H1, Ex H' H1 → tz D σ' H1)) : tSeq (tWhile t tu) tz D σ H :=
  s_while (D := { D with nx := tz D }) W m0 h0 hs
end
end KW
namespace KW
open PySem PySem.Spec PyProof.Rows L2

/-! ### the text -/
def top (i : Nat) : Stmt := PySem.Challenge.pw_viewwood_k48_whole_fewest_moves_gone_thr.main.body.getD i (.Pass ⟨0, 0, 0, 0⟩)
abbrev sPlace : Stmt := top 4
abbrev sBoxF : Stmt := top 5
abbrev sRowF : Stmt := top 6
abbrev sWithBox : Stmt := top 7
abbrev sWithRow : Stmt := top 8
abbrev sTurnRow : Stmt := top 9
abbrev sTurnBox : Stmt := top 10
abbrev sTurned : Stmt := top 11
abbrev sLed : Stmt := top 12
abbrev sPlaces : Stmt := top 14
abbrev sPiles : Stmt := top 15
abbrev sRowP : Stmt := top 16
abbrev sIsKept : Stmt := top 18
abbrev sKeptL : Stmt := top 19
abbrev sFill : Stmt := top 20
abbrev sBoxD : Stmt := top 21
abbrev sPlaceB : Stmt := top 22
abbrev sOrder : Stmt := top 23
abbrev sRowD : Stmt := top 24
abbrev sPaper : Stmt := top 25
abbrev sTape : Stmt := top 27
abbrev sDraw : Stmt := top 28
abbrev sNumber : Stmt := top 29
abbrev sSpot : Stmt := top 30
abbrev sLabel : Stmt := top 31
abbrev sLabels : Stmt := top 32
abbrev sShuf : Stmt := top 33
abbrev sMoved : Stmt := top 34
abbrev sFewest : Stmt := top 35
abbrev sLaw : Stmt := top 36

/-- a def of the top as it stands there -/
structure Df (K : PySem.W.Frag) (mg : Str → Option Value) (name : Str) (st : Stmt) (ps : List Str) where
  f : Addr
  fd : FuncData
  F : Fun K name name st f fd
  b : Binds K fd ps []
  g : mg name = some (.ref f)
/-- the built-ins' names are not the module's -/
structure Bl (mg : Str → Option Value) : Prop where
  len : mg "len" = none
  range : mg "range" = none
  tuple : mg "tuple" = none
  dict : mg "dict" = none
  list : mg "list" = none
  int : mg "int" = none
  min : mg "min" = none
  abs : mg "abs" = none
  all : mg "all" = none

/-! ### the data of trees -/
def pairK (p : NestedKey × NestedKey) : NestedKey := .tup [p.1, p.2]
def rowK (ps : List (NestedKey × NestedKey)) : NestedKey := .tup (ps.map pairK)
def numK : Option Nat → NestedKey
  | none => .none
  | some n => .num (n : Int)
def posOf (ls : List NestedKey) (l : NestedKey) : Option Nat := if l ∈ ls then some (ls.idxOf l) else none
theorem call_lenS {X : Cx} : CallR X (.builtin "len") (rLenS X.K) := call_len_seq
theorem op_isNs {X : Cx} : OpR X (compareOp .Is) rIsN := op_isN
theorem op_notNs {X : Cx} : OpR X (compareOp .IsNot) rNotN := op_notN
theorem plainIx {b : Expr} (h : ∀ o i, subscripted b false o i = operate [o, i] (getItem o i) := by intro _ _; rfl) : PlainIx b := h

section
variable {P : Program} {w : World} {K : PySem.W.Frag} {mg : Str → Option Value} {base : Heap}
/-! ### place_of -/
def spPlace (K : PySem.W.Frag) : Sp := fun vs H Q _ => ∃ (v u : V) (ps : List (NestedKey × NestedKey)) (l : NestedKey), vs = [v, u] ∧ Nk K H v (rowK ps) ∧ Nk K H u l ∧ l.depth ≤ 8 ∧ ps.length ≤ 1000 ∧
  ∀ r H', Ex H H' → Nk K H' r (numK (posOf (ps.map (·.1)) l)) → Q r H'
theorem scPlace : FnScope ["row", "label", "k"] ["row", "label"] (defScope sPlace) := ⟨rfl, rfl, rfl, by decide +kernel, rfl, by decide +kernel, by decide +kernel⟩
theorem idxOf_at {α : Type} [DecidableEq α] {l : α} : ∀ {ls : List α} {i : Nat}, ls[i]? = some l → (∀ j, j < i → ls[j]? ≠ some l) → ls.idxOf l = i
  | [], i, h, _ => by simp at h
  | x :: r, 0, h, _ => by
    have e : x = l := Option.some.inj h
    subst e
    simp
  | x :: r, i + 1, h, hn => by
    have hx : x ≠ l := fun e => hn 0 (Nat.succ_pos _) (by rw [e]; rfl)
    have hb : (x == l) = false := by simpa using hx
    rw [List.idxOf_cons, hb, idxOf_at (ls := r) (i := i) h fun j hj => hn (j + 1) (Nat.succ_lt_succ hj)]
    rfl
theorem posOf_some {ls : List NestedKey} {l : NestedKey} {i : Nat} (h : ls[i]? = some l) (hn : ∀ j, j < i → ls[j]? ≠ some l) : posOf ls l = some i := by
  unfold posOf
  rw [if_pos (List.mem_of_getElem? h), idxOf_at h hn]
theorem posOf_none {ls : List NestedKey} {l : NestedKey} (hn : ∀ j, j < ls.length → ls[j]? ≠ some l) : posOf ls l = none := by
  unfold posOf
  rw [if_neg]
  intro hm
  obtain ⟨j, hj⟩ := List.mem_iff_getElem?.mp hm
  exact hn j (List.getElem?_eq_some_iff.mp hj).1 hj
theorem ok_place (D : Df K mg "place_of" sPlace ["row", "label"]) (B : Bl mg) : FnOk P w K mg base CX0 1 D.f D.fd ["row", "label"] (spPlace K) := by
  refine D.F.ok scPlace (fun vs H Q E h => ?_) (fun cdv A outer s H vs Q E hr h => ?_)
  · obtain ⟨v, u, ps, l, rfl, _⟩ := h
    rfl
  obtain ⟨v, u, ps, l, rfl, hv, hu, hd, hl, q⟩ := h
  refine ⟨_, pss_cons (ps_for PassesOwn.never rfl (pi_range1 rfl B.range (pa_cons (pe_callB call_lenS (by rfl) B.len PySem.boot_len (pa_cons (pv 0) pa_nil)) pa_nil)) (pg_name (i := 2) scPlace.nd rfl (.inl rfl))
      (pss_one (ps_if (pt_cmpR (op_eqN hr.units) (pe_ix ix_tup (pe_ix ix_tup (pv 0) (pv 2) plainIx) pe_int plainIx) (pv 1) (nomark _)) (pss_one (ps_ret (pv 2))) pss_nil)))
    (pss_one (ps_ret pe_non)), ?_⟩
  refine q_forR (n := ps.length) ((ea_vcons (evn_var (σ := [some v, some u, none]) (i := 0) rfl hv |> evv_lenT) ea_vnil).imp fun vs H1 _ e => by rw [e, List.length_map]) hl
    (fun i σ' H' => Ex H H' ∧ (∃ z, σ' = [some v, some u, z]) ∧ ∀ j, j < i → (ps.map (·.1))[j]? ≠ some l) (fun H1 e => ⟨e, ⟨none, rfl⟩, fun j hj => absurd hj (Nat.not_lt_zero _)⟩) ?_ ?_
  · rintro i σ' H' hi ⟨e, ⟨z, rfl⟩, hn⟩
    obtain ⟨p, hp⟩ : ∃ p, ps[i]? = some p := ⟨ps[i], List.getElem?_eq_getElem hi⟩
    refine s_when (b := decide (p.1 = l)) (et_test (evv_eqN (K := K) (evn_ix (evn_ix (evn_var rfl (hv.ex e)) (evv_var rfl) (atI_nat (j := i) (v := pairK p) (by rw [List.getElem?_map, hp]; rfl))) evv_c (atI_nat (j := 0) (v := p.1) rfl)) (evn_var rfl (hu.ex e)) (.inr (by omega)))) (fun hb H1 e1 => ?_) (fun hb H1 e1 => ?_)
    · refine s_ret (evn_var (K := K) (k := .num i) rfl (.int _)) fun r H2 e2 hr2 => q r H2 ((e.trans e1).trans e2) ?_
      rw [posOf_some (i := i) (by rw [List.getElem?_map, hp, ← of_decide_eq_true hb]; rfl) hn]
      exact hr2
    · refine ⟨e.trans e1, ⟨_, rfl⟩, fun j hj => ?_⟩
      by_cases hji : j = i
      · subst hji
        rw [List.getElem?_map, hp]
        intro z
        exact of_decide_eq_false hb (Option.some.inj z)
      · exact hn j (by omega)
  · rintro σ' H' ⟨e, ⟨z, rfl⟩, hn⟩
    refine s_ret (evn_non (K := K)) fun r H2 e2 hr2 => q r H2 (e.trans e2) ?_
    rw [posOf_none (by rw [List.length_map]; exact hn)]
    exact hr2
end
end KW
namespace KW
open PySem PySem.Spec PyProof.Rows L2

def leafK : NestedKey := .tup [.text "a", .tup [], .tup [], .tup []]
def leafRow (L : List NestedKey) : List (NestedKey × NestedKey) := L.map fun l => (l, leafK)
def boxB (t : NestedKey) : NestedKey := .tup [.text "b", .tup [.tup [.text "x", .num 1]], .tup [], t]
def wrap : List NestedKey → NestedKey → NestedKey
  | [], t => t
  | a :: A, t => rowK [(a, boxB (wrap A t))]
def treeK (A L : List NestedKey) : NestedKey := wrap A (rowK (leafRow L))
def dep8 (A : List NestedKey) : Prop := ∀ a ∈ A, a.depth ≤ 8
/-- a slot's value, as data -/
theorem call_nk {K : PySem.W.Frag} {σ : L2.St} {H : Hp} {te : TE} {k : NestedKey} (h : EvN K te σ H k) : EvN K te σ H k := h
/-- 0 <= a <= n -/
theorem evv_chain {σ : L2.St} {H : Hp} {ta tb tc : TE} {i j m : Int} {r r' : R2} {b1 b2 : Bool} (ha : EvV ta σ H (.int i)) (hb : EvV tb σ H (.int j)) (hc : EvV tc σ H (.int m))
    (h1 : ∀ H1 (Q : VK), Q (.bl b1) H1 → r (.int i) (.int j) H1 Q) (h2 : ∀ H1 (Q : VK), Q (.bl b2) H1 → r' (.int j) (.int m) H1 Q) : EvV (tChain r r' ta tb tc) σ H (.bl (b1 && b2)) := fun H1 e Q q =>
  ha H1 e _ fun x H2 e2 p1 => hb H2 (e.trans e2) _ fun y H3 e3 p2 => by
    cases p1
    cases p2
    refine h1 _ _ ⟨b1, rfl, ?_⟩
    cases b1 with
    | true =>
      rw [if_pos rfl]
      exact hc H3 ((e.trans e2).trans e3) _ fun z H4 e4 p3 => by
        cases p3
        exact h2 _ _ (q _ H4 ((e2.trans e3).trans e4) rfl)
    | false =>
      rw [if_neg Bool.false_ne_true]
      exact q _ H3 (e2.trans e3) rfl

section
variable {P : Program} {w : World} {K : PySem.W.Frag} {mg : Str → Option Value} {base : Heap}
abbrev DPlace (K : PySem.W.Frag) (mg : Str → Option Value) := Df K mg "place_of" sPlace ["row", "label"]
/-- place_of called on data -/
theorem ev_place {E : XK} {σ : L2.St} {H : Hp} {ta tb : TE} {ps : List (NestedKey × NestedKey)} {l : NestedKey} (ha : EvN K ta σ H (rowK ps)) (hb : EvN K tb σ H l) (hd : l.depth ≤ 8) (hl : ps.length ≤ 1000) :
    EvN K (tCall (spPlace K) [] E (tCons ta (tCons tb tNil))) σ H (numK (posOf (ps.map (·.1)) l)) :=
  ev_call (ea_cons ha (ea_cons hb ea_nil)) fun vs H1 e p Q q => by
    cases p with
    | cons p1 p2 =>
      cases p2 with
      | cons p2 p3 =>
        cases p3
        exact ⟨_, _, ps, l, rfl, p1, p2, hd, hl, fun r H' e' hr => q r H' e' hr⟩
theorem posOf_one (l : NestedKey) : posOf [l] l = some 0 := posOf_some rfl fun j hj => absurd hj (Nat.not_lt_zero _)

/-! ### box_found -/
def spBoxF (K : PySem.W.Frag) : Sp := fun vs H Q _ => ∃ (v u : V) (a : NestedKey) (A : List NestedKey) (T : NestedKey), vs = [v, u] ∧ Nk K H v (wrap (a :: A) T) ∧ Nk K H u (.tup (a :: A)) ∧ dep8 (a :: A) ∧
  ∀ r H', Ex H H' → Nk K H' r (boxB T) → Q r H'
theorem scBoxF : FnScope ["tree", "address", "row", "box", "label", "k"] ["tree", "address"] (defScope sBoxF) := ⟨rfl, rfl, rfl, by decide +kernel, rfl, by decide +kernel, by decide +kernel⟩
theorem drop_cons {α : Type} {ks : List α} {i : Nat} {k : α} (h : ks[i]? = some k) : ks.drop i = k :: ks.drop (i + 1) := by
  obtain ⟨hi, e⟩ := List.getElem?_eq_some_iff.mp h
  rw [List.drop_eq_getElem_cons hi, e]
theorem ok_boxF (D : Df K mg "box_found" sBoxF ["tree", "address"]) (B : Bl mg) (D1 : DPlace K mg) (hm : mg "place_of" = some (.ref D1.f)) : FnOk P w K mg base CX0 2 D.f D.fd ["tree", "address"] (spBoxF K) := by
  have G1 : FnOk P w K mg base CX0 1 D1.f D1.fd ["row", "label"] (spPlace K) := ok_place D1 B
  refine D.F.ok scBoxF (fun vs H Q E h => ?_) (fun cdv A outer s H vs Q E hr h => ?_)
  · obtain ⟨v, u, a, A, T, rfl, _⟩ := h
    rfl
  obtain ⟨v, u, a, Ad, T, rfl, hv, hu, hd, q⟩ := h
  refine ⟨_, pss_cons (ps_set (i := 2) scBoxF.nd rfl (.inl rfl) (pv 0)) (pss_cons (ps_set (i := 3) scBoxF.nd rfl (.inl rfl) pe_non)
    (pss_cons (ps_for PassesOwn.never rfl (pi_tup (pv 1)) (pg_name (i := 4) scBoxF.nd rfl (.inl rfl))
      (pss_cons (ps_set (i := 5) scBoxF.nd rfl (.inl rfl) (pe_call G1 hr (by rfl) D1.g D1.F.kp D1.b .nil pass0 (pa_cons (pv 2) (pa_cons (pv 4) pa_nil))))
      (pss_cons (ps_if (pt_cmpR op_isNs (pv 5) pe_non (nomark _)) (pss_one (ps_ret pe_non)) pss_nil)
      (pss_cons (ps_set (i := 3) scBoxF.nd rfl (.inl rfl) (pe_ix ix_tup (pe_ix ix_tup (pv 2) (pv 5) plainIx) pe_int plainIx))
      (pss_one (ps_set (i := 2) scBoxF.nd rfl (.inl rfl) (pe_ix ix_tup (pv 3) pe_int plainIx)))))))
    (pss_one (ps_ret (pv 3))))), ?_⟩
  refine q_asg (evn_var (σ := [some v, some u, none, none, none, none]) (i := 0) rfl hv) fun v2 H1 e1 h2 => ?_
  refine q_asg (evn_non (K := K)) fun v3 H2 e2 h3 => ?_
  cases h3
  cases hu with
  | @tup ua us _ hu1 hu2 =>
  have e12 : Ex H H2 := e1.trans e2
  refine q_forT (K := K) (a := ua) (xs := us) (ks := a :: Ad) (evv_var rfl) ((ex_pe e12).sqT hu1) (hu2.ex e12)
    (fun i σ' H' => Ex H2 H' ∧ ∃ z1 z2 z3 z4, σ' = [some v, some (.ref ua), some z1, some z2, z3, z4] ∧ Nk K H' z1 (wrap ((a :: Ad).drop i) T) ∧ (0 < i → Nk K H' z2 (boxB (wrap ((a :: Ad).drop i) T))))
    (fun H3 e3 => ⟨e3, v2, .non, none, none, rfl, (h2.ex e2).ex e3, fun h => absurd h (Nat.lt_irrefl _)⟩) (fun i σ' H' p => ex_pe p.1) ?_ ?_
  · rintro i k x σ' H' hk hx nx ⟨e3, z1, z2, z3, z4, rfl, n1, n2⟩
    have hdk : k.depth ≤ 8 := hd k (List.mem_of_getElem? hk)
    rw [drop_cons hk] at n1
    refine q_asg (ev_place (ps := [(k, boxB (wrap ((a :: Ad).drop (i + 1)) T))]) (l := k) (evn_var rfl n1) (evn_var rfl nx) hdk (by show 1 ≤ 1000; decide)) fun z5 H4 e4 h5 => ?_
    have h5' : Nk K H4 z5 (.num 0) := by
      have := h5
      rw [show ([(k, boxB (wrap ((a :: Ad).drop (i + 1)) T))] : List (NestedKey × NestedKey)).map (·.1) = [k] from rfl, posOf_one] at this
      exact this
    refine q_when (et_test (evv_isN (evn_var rfl h5'))) (fun hb => absurd (of_decide_eq_true hb) (by decide)) (fun _ H5 e5 => ?_)
    refine q_asg (evn_ix (K := K) (evn_ix (evn_var rfl ((n1.ex e4).ex e5)) (EvN.int (evn_var rfl (h5'.ex e5))) (atI_nat (j := 0) (v := pairK (k, boxB (wrap ((a :: Ad).drop (i + 1)) T))) rfl)) evv_c (atI_nat (j := 1) (v := boxB (wrap ((a :: Ad).drop (i + 1)) T)) rfl)) fun z6 H6 e6 h6 => ?_
    refine s_asg (evn_ix (K := K) (evn_var rfl h6) evv_c (atI_nat (j := 3) (v := wrap ((a :: Ad).drop (i + 1)) T) rfl)) fun z7 H7 e7 h7 => ?_
    exact ⟨(((e3.trans e4).trans e5).trans e6).trans e7, z7, z6, _, _, rfl, h7, fun _ => h6.ex e7⟩
  · rintro σ' H' ⟨e3, z1, z2, z3, z4, rfl, n1, n2⟩
    have n2 := n2 (Nat.succ_pos _)
    rw [List.drop_length] at n2
    exact s_ret (evn_var rfl n2) fun r H4 e4 h4 => q r H4 ((e12.trans e3).trans e4) h4

theorem ev_boxF {E : XK} {σ : L2.St} {H : Hp} {ta tb : TE} {a : NestedKey} {A : List NestedKey} {T : NestedKey} (ha : EvN K ta σ H (wrap (a :: A) T)) (hb : EvN K tb σ H (.tup (a :: A))) (hd : dep8 (a :: A)) :
    EvN K (tCall (spBoxF K) [] E (tCons ta (tCons tb tNil))) σ H (boxB T) :=
  ev_call (ea_cons ha (ea_cons hb ea_nil)) fun vs H1 e p Q q => by
    cases p with
    | cons p1 p2 =>
      cases p2 with
      | cons p2 p3 =>
        cases p3
        exact ⟨_, _, a, A, T, rfl, p1, p2, hd, fun r H' e' hr => q r H' e' hr⟩

/-! ### row_found -/
def spRowF (K : PySem.W.Frag) : Sp := fun vs H Q _ => ∃ (v u : V) (A : List NestedKey) (T : NestedKey), vs = [v, u] ∧ Nk K H v (wrap A T) ∧ Nk K H u (.tup A) ∧ dep8 A ∧
  ∀ r H', Ex H H' → Nk K H' r T → Q r H'
theorem scRowF : FnScope ["tree", "address", "box"] ["tree", "address"] (defScope sRowF) := ⟨rfl, rfl, rfl, by decide +kernel, rfl, by decide +kernel, by decide +kernel⟩
theorem ok_rowF (D : Df K mg "row_found" sRowF ["tree", "address"]) (B : Bl mg) (D1 : DPlace K mg) (D2 : Df K mg "box_found" sBoxF ["tree", "address"]) : FnOk P w K mg base CX0 3 D.f D.fd ["tree", "address"] (spRowF K) := by
  have G2 : FnOk P w K mg base CX0 2 D2.f D2.fd ["tree", "address"] (spBoxF K) := ok_boxF D2 B D1 D1.g
  refine D.F.ok scRowF (fun vs H Q E h => ?_) (fun cdv A outer s H vs Q E hr h => ?_)
  · obtain ⟨v, u, A, T, rfl, _⟩ := h
    rfl
  obtain ⟨v, u, Ad, T, rfl, hv, hu, hd, q⟩ := h
  refine ⟨_, pss_cons (ps_if (pt_cmpR (op_eqN hr.units) (pv 1) (pe_tup pa_nil) (nomark _)) (pss_one (ps_ret (pv 0))) pss_nil)
    (pss_cons (ps_set (i := 2) scRowF.nd rfl (.inl rfl) (pe_call G2 hr (by rfl) D2.g D2.F.kp D2.b .nil pass0 (pa_cons (pv 0) (pa_cons (pv 1) pa_nil))))
    (pss_cons (ps_if (pt_cmpR op_isNs (pv 2) pe_non (nomark _)) (pss_one (ps_ret pe_non)) pss_nil)
    (pss_one (ps_ret (pe_ix ix_tup (pv 2) pe_int plainIx))))), ?_⟩
  refine q_when (et_test (evv_eqN (σ := [some v, some u, none]) (evn_var (i := 1) rfl hu) (evn_tup ea_nil) (.inr (by decide +kernel)))) (fun hb H1 e1 => ?_) (fun hb H1 e1 => ?_)
  · have hA : Ad = [] := by
      have := of_decide_eq_true hb
      injection this
    subst hA
    exact s_ret (evn_var rfl (hv.ex e1)) fun r H2 e2 h2 => q r H2 (e1.trans e2) h2
  · cases Ad with
    | nil => exact absurd rfl (of_decide_eq_false hb)
    | cons a Ad =>
      refine q_asg (ev_boxF (evn_var rfl (hv.ex e1)) (evn_var rfl (hu.ex e1)) hd) fun z H2 e2 h2 => ?_
      refine q_when (et_test (evv_isN (evn_var rfl h2))) (fun hb => ?_) (fun _ H3 e3 => ?_)
      · exact absurd (of_decide_eq_true hb) (fun z => by cases z)
      · exact s_ret (evn_ix (K := K) (evn_var rfl (h2.ex e3)) evv_c (atI_nat (j := 3) (v := T) rfl)) fun r H4 e4 h4 => q r H4 (((e1.trans e2).trans e3).trans e4) h4
theorem ev_rowF {E : XK} {σ : L2.St} {H : Hp} {ta tb : TE} {A : List NestedKey} {T : NestedKey} (ha : EvN K ta σ H (wrap A T)) (hb : EvN K tb σ H (.tup A)) (hd : dep8 A) :
    EvN K (tCall (spRowF K) [] E (tCons ta (tCons tb tNil))) σ H T :=
  ev_call (ea_cons ha (ea_cons hb ea_nil)) fun vs H1 e p Q q => by
    cases p with
    | cons p1 p2 =>
      cases p2 with
      | cons p2 p3 =>
        cases p3
        exact ⟨_, _, A, T, rfl, p1, p2, hd, fun r H' e' hr => q r H' e' hr⟩

/-! ### with_box -/
def spWithB (K : PySem.W.Frag) (n : Nat) : Sp := fun vs H Q _ => ∃ (v u b : V) (a : NestedKey) (A : List NestedKey) (T T' : NestedKey), vs = [v, u, b] ∧ Nk K H v (wrap (a :: A) T) ∧ Nk K H u (.tup (a :: A)) ∧ Nk K H b (boxB T') ∧ dep8 (a :: A) ∧ A.length < n ∧ A.length ≤ 100 ∧
  ∀ r H', Ex H H' → Nk K H' r (wrap (a :: A) T') → Q r H'
theorem scWithB : FnScope ["row", "address", "box", "k", "tag", "sets", "hands", "inner"] ["row", "address", "box"] (defScope sWithBox) := ⟨rfl, rfl, rfl, by decide +kernel, rfl, by decide +kernel, by decide +kernel⟩
theorem ev_withB {E : XK} {σ : L2.St} {H : Hp} {ta tb tc : TE} {a : NestedKey} {A : List NestedKey} {T T' : NestedKey} {n : Nat} (ha : EvN K ta σ H (wrap (a :: A) T)) (hb : EvN K tb σ H (.tup (a :: A))) (hc : EvN K tc σ H (boxB T')) (hd : dep8 (a :: A)) (hn : A.length < n) (h1 : A.length ≤ 100) :
    EvN K (tCall (spWithB K n) [] E (tCons ta (tCons tb (tCons tc tNil)))) σ H (wrap (a :: A) T') :=
  ev_call (ea_cons ha (ea_cons hb (ea_cons hc ea_nil))) fun vs H1 e p Q q => by
    cases p with
    | cons p1 p2 =>
      cases p2 with
      | cons p2 p3 =>
        cases p3 with
        | cons p3 p4 =>
          cases p4
          exact ⟨_, _, _, a, A, T, T', rfl, p1, p2, p3, hd, hn, h1, fun r H' e' hr => q r H' e' hr⟩
theorem ok_withB (D : Df K mg "with_box" sWithBox ["row", "address", "box"]) (B : Bl mg) (D1 : DPlace K mg) : ∀ n : Nat, FnOk P w K mg base CX0 (n + 1) D.f D.fd ["row", "address", "box"] (spWithB K n)
  | 0 => by
    have no : ∀ vs H Q E, ¬ spWithB K 0 vs H Q E := fun vs H Q E h => by
      obtain ⟨v, u, b, a, A, T, T', _, _, _, _, _, hn, _⟩ := h
      omega
    exact ⟨fun vs H Q E h => absurd h (no vs H Q E), fun A outer s H args us vs Q E _ _ _ _ h => absurd h (no vs H Q E)⟩
  | n + 1 => by
    have G1 : FnOk P w K mg base CX0 1 D1.f D1.fd ["row", "label"] (spPlace K) := ok_place D1 B
    have ih := ok_withB D B D1 n
    refine D.F.ok scWithB (fun vs H Q E h => ?_) (fun cdv A outer s H vs Q E hr h => ?_)
    · obtain ⟨v, u, b, a, A, T, T', rfl, _⟩ := h
      rfl
    obtain ⟨v, u, b, a, Ad, T, T', rfl, hv, hu, hb, hd, hn, h100, q⟩ := h
    have hr1 : Room 1 _ := hr.mono (by omega)
    refine ⟨_, pss_cons (ps_set (i := 3) scWithB.nd rfl (.inl rfl) (pe_call G1 hr1 (by rfl) D1.g D1.F.kp D1.b .nil pass0 (pa_cons (pv 0) (pa_cons (pe_ix ix_tup (pv 1) pe_int plainIx) pa_nil))))
      (pss_cons (ps_if (pt_cmpR op_gt (pe_callB call_lenS (by rfl) B.len PySem.boot_len (pa_cons (pv 1) pa_nil)) pe_int (nomark _))
        (pss_cons (ps_asg (pe_ix ix_tup (pe_ix ix_tup (pv 0) (pv 3) plainIx) pe_int plainIx) (pg_tup rfl (pgs_cons (pg_name (i := 4) scWithB.nd rfl (.inl rfl)) (pgs_cons (pg_name (i := 5) scWithB.nd rfl (.inl rfl)) (pgs_cons (pg_name (i := 6) scWithB.nd rfl (.inl rfl)) (pgs_cons (pg_name (i := 7) scWithB.nd rfl (.inl rfl)) pgs_nil))))))
        (pss_one (ps_set (i := 2) scWithB.nd rfl (.inl rfl) (pe_tup (pa_cons (pv 4) (pa_cons (pv 5) (pa_cons (pv 6) (pa_cons (pe_call ih hr (by rfl) D.g D.F.kp D.b .nil pass0 (pa_cons (pv 7) (pa_cons (pe_slice sl_tupA (pv 1) (po_some pe_int) po_none) (pa_cons (pv 2) pa_nil)))) pa_nil))))))))
        pss_nil)
      (pss_one (ps_ret (pe_op op_catA (pe_op op_catA (pe_slice sl_tupA (pv 0) po_none (po_some (pv 3))) (pe_tup (pa_cons (pe_tup (pa_cons (pe_ix ix_tup (pv 1) pe_int plainIx) (pa_cons (pv 2) pa_nil))) pa_nil))) (pe_slice sl_tupA (pv 0) (po_some (pe_op op_add (pv 3) pe_int)) po_none))))), ?_⟩
    have hda : a.depth ≤ 8 := hd a List.mem_cons_self
    have hu0 : ∀ {σ : L2.St} {H1 : Hp}, Ex H H1 → σ[1]? = some (some u) → EvN K (tOp (rIxT K) (tVar 1) (tC (.int 0))) σ H1 a := fun e hs => evn_ix (K := K) (evn_var hs (hu.ex e)) evv_c (atI_nat (j := 0) (v := a) rfl)
    refine q_asg (ev_place (σ := [some v, some u, some b, none, none, none, none, none]) (ps := [(a, boxB (wrap Ad T))]) (l := a) (evn_var rfl hv) (hu0 (Same.refl _) rfl) hda (by show 1 ≤ 1000; decide)) fun z H1 e1 h1 => ?_
    have h1' : Nk K H1 z (.num 0) := by
      have := h1
      rw [show ([(a, boxB (wrap Ad T))] : List (NestedKey × NestedKey)).map (·.1) = [a] from rfl, posOf_one] at this
      exact this
    -- the end, from a state where the box is told
    have fin : ∀ (t1 t2 t3 t4 : Option V) (b' : V) (H2 : Hp), Ex H1 H2 → Nk K H2 b' (boxB (wrap Ad T')) →
        tRet (tOp (rCatA K) (tOp (rCatA K) (tSl (rSlA K) (tVar 0) tNoPart (tPart (tVar 3))) (tTup (tCons (tTup (tCons (tOp (rIxT K) (tVar 1) (tC (.int 0))) (tCons (tVar 2) tNil))) tNil))) (tSl (rSlA K) (tVar 0) (tPart (tOp (rI0 fun i j => .int (i + j)) (tVar 3) (tC (.int 1)))) tNoPart))
          { nx := fun _ H' => Q .non H', rt := Q } [some v, some u, some b', some z, t1, t2, t3, t4] H2 := fun t1 t2 t3 t4 b' H2 e2 hb' => by
      have e12 := e1.trans e2
      refine s_ret (P := isN K (wrap (a :: Ad) T')) ?_ fun r H3 e3 h3 => q r H3 (e12.trans e3) h3
      have p1 := evn_slice (K := K) (σ := [some v, some u, some b', some z, t1, t2, t3, t4]) (ks := [pairK (a, boxB (wrap Ad T))]) (evn_var (i := 0) rfl (hv.ex e12)) eo_none (eo_some (EvN.int (evn_var (i := 3) rfl (h1'.ex e2))))
      have p2 := evn_tup (K := K) (σ := [some v, some u, some b', some z, t1, t2, t3, t4]) (ea_cons (evn_tup (ea_cons (hu0 e12 rfl) (ea_cons (evn_var (i := 2) rfl hb') ea_nil)) (by show 2 ≤ 1000; decide)) ea_nil) (by show 1 ≤ 1000; decide)
      have p3 := evn_slice (K := K) (σ := [some v, some u, some b', some z, t1, t2, t3, t4]) (ks := [pairK (a, boxB (wrap Ad T))]) (evn_var (i := 0) rfl (hv.ex e12)) (eo_some (evv_I0 (g := fun i j => .int (i + j)) (i := 0) (j := 1) (EvN.int (evn_var (i := 3) rfl (h1'.ex e2))) evv_c)) eo_none
      have := evn_cat (evn_cat p1 p2 (by simp [cutK]; omega)) p3 (by simp [cutK]; omega)
      refine evn_is this ?_
      rw [show (0 : Int) + 1 = ((1 : Nat) : Int) from rfl, show (0 : Int) = ((0 : Nat) : Int) from rfl, cut_to, cut_from]
      rfl
    refine q_if (b := decide (1 < ((a :: Ad).length : Int))) (et_test (evv_I0 (g := fun i j => .bl (decide (j < i))) (evv_lenT (K := K) (ks := a :: Ad) (evn_var (i := 1) rfl (hu.ex e1))) evv_c)) (fun hb1 H2 e2 => ?_) (fun hb1 H2 e2 => ?_)
    · have hlt := of_decide_eq_true hb1
      cases Ad with
      | nil => simp at hlt
      | cons a2 Ad =>
        have e12 := e1.trans e2
        refine q_asgG (P := isN K (boxB (wrap (a2 :: Ad) T))) (evn_ix (K := K) (evn_ix (evn_var rfl (hv.ex e12)) (EvN.int (evn_var rfl (h1'.ex e2))) (atI_nat (j := 0) (v := pairK (a, boxB (wrap (a2 :: Ad) T))) rfl)) evv_c (atI_nat (j := 1) (v := boxB (wrap (a2 :: Ad) T)) rfl)) fun y H3 e3 h3 => ?_
        cases h3 with
        | @tup ya ys _ hy1 hy2 =>
          cases hy2 with
          | cons n1 hy2 =>
          cases hy2 with
          | cons n2 hy2 =>
          cases hy2 with
          | cons n3 hy2 =>
          cases hy2 with
          | cons n4 hy2 =>
          cases hy2
          refine ⟨ya, _, rfl, hy1, rfl, _, _, rfl, _, _, rfl, _, _, rfl, _, _, rfl, rfl, ?_⟩
          have e13 := e12.trans e3
          refine s_asg (P := isN K (boxB (wrap (a2 :: Ad) T'))) ?_ fun b' H4 e4 h4 => fin _ _ _ _ b' H4 ((e2.trans e3).trans e4) h4
          refine evn_tup (ea_cons (evn_var rfl n1) (ea_cons (evn_var rfl n2) (ea_cons (evn_var rfl n3) (ea_cons (ev_withB (T := T) (evn_var rfl n4) ?_ (evn_var rfl (hb.ex e13)) (fun x hx => hd x (List.mem_cons_of_mem _ hx)) (by simp at hn ⊢; omega) (by simp at h100 ⊢; omega)) ea_nil)))) (by show 4 ≤ 1000; decide)
          refine evn_is (evn_slice (ks := a :: a2 :: Ad) (evn_var rfl (hu.ex e13)) (eo_some evv_c) eo_none) ?_
          rw [show (1 : Int) = ((1 : Nat) : Int) from rfl, cut_from]
          rfl
    · have hlt := of_decide_eq_false hb1
      cases Ad with
      | nil => exact fin _ _ _ _ b H2 e2 ((hb.ex e1).ex e2)
      | cons a2 Ad => exact absurd (by simp; omega) hlt
end
end KW
namespace KW
open PySem PySem.Spec PyProof.Rows L2

section
variable {P : Program} {w : World} {K : PySem.W.Frag} {mg : Str → Option Value} {base : Heap}
abbrev DBoxF (K : PySem.W.Frag) (mg : Str → Option Value) := Df K mg "box_found" sBoxF ["tree", "address"]
abbrev DRowF (K : PySem.W.Frag) (mg : Str → Option Value) := Df K mg "row_found" sRowF ["tree", "address"]
abbrev DWithB (K : PySem.W.Frag) (mg : Str → Option Value) := Df K mg "with_box" sWithBox ["row", "address", "box"]
abbrev DWithR (K : PySem.W.Frag) (mg : Str → Option Value) := Df K mg "with_row" sWithRow ["tree", "address", "row"]
abbrev DTurnR (K : PySem.W.Frag) (mg : Str → Option Value) := Df K mg "turned_row" sTurnRow ["row", "deed"]
abbrev DTurned (K : PySem.W.Frag) (mg : Str → Option Value) := Df K mg "turned" sTurned ["tree", "deed"]
abbrev DLed (K : PySem.W.Frag) (mg : Str → Option Value) := Df K mg "led" sLed ["tree", "deeds"]
/-! ### with_row -/
def spWithR (K : PySem.W.Frag) : Sp := fun vs H Q _ => ∃ (v u b : V) (A : List NestedKey) (T T' : NestedKey), vs = [v, u, b] ∧ Nk K H v (wrap A T) ∧ Nk K H u (.tup A) ∧ Nk K H b T' ∧ dep8 A ∧ A.length ≤ 4 ∧
  ∀ r H', Ex H H' → Nk K H' r (wrap A T') → Q r H'
theorem scWithR : FnScope ["tree", "address", "row", "tag", "sets", "hands", "inner"] ["tree", "address", "row"] (defScope sWithRow) := ⟨rfl, rfl, rfl, by decide +kernel, rfl, by decide +kernel, by decide +kernel⟩
theorem ok_withR (D : DWithR K mg) (B : Bl mg) (D1 : DPlace K mg) (D2 : DBoxF K mg) (D3 : DWithB K mg) : FnOk P w K mg base CX0 7 D.f D.fd ["tree", "address", "row"] (spWithR K) := by
  have G2 : FnOk P w K mg base CX0 2 D2.f D2.fd ["tree", "address"] (spBoxF K) := ok_boxF D2 B D1 D1.g
  have G3 : FnOk P w K mg base CX0 6 D3.f D3.fd ["row", "address", "box"] (spWithB K 5) := ok_withB D3 B D1 5
  refine D.F.ok scWithR (fun vs H Q E h => ?_) (fun cdv A outer s H vs Q E hr h => ?_)
  · obtain ⟨v, u, b, A, T, T', rfl, _⟩ := h
    rfl
  obtain ⟨v, u, b, Ad, T, T', rfl, hv, hu, hb, hd, h4, q⟩ := h
  refine ⟨_, pss_cons (ps_if (pt_cmpR (op_eqN hr.units) (pv 1) (pe_tup pa_nil) (nomark _)) (pss_one (ps_ret (pv 2))) pss_nil)
    (pss_cons (ps_asg (pe_call G2 (hr.mono (by decide)) (by rfl) D2.g D2.F.kp D2.b .nil pass0 (pa_cons (pv 0) (pa_cons (pv 1) pa_nil))) (pg_tup rfl (pgs_cons (pg_name (i := 3) scWithR.nd rfl (.inl rfl)) (pgs_cons (pg_name (i := 4) scWithR.nd rfl (.inl rfl)) (pgs_cons (pg_name (i := 5) scWithR.nd rfl (.inl rfl)) (pgs_cons (pg_name (i := 6) scWithR.nd rfl (.inl rfl)) pgs_nil))))))
    (pss_one (ps_ret (pe_call G3 hr (by rfl) D3.g D3.F.kp D3.b .nil pass0 (pa_cons (pv 0) (pa_cons (pv 1) (pa_cons (pe_tup (pa_cons (pv 3) (pa_cons (pv 4) (pa_cons (pv 5) (pa_cons (pv 2) pa_nil))))) pa_nil))))))), ?_⟩
  refine q_when (et_test (evv_eqN (σ := [some v, some u, some b, none, none, none, none]) (evn_var (i := 1) rfl hu) (evn_tup ea_nil) (.inr (by decide +kernel)))) (fun hc H1 e1 => ?_) (fun hc H1 e1 => ?_)
  · have hA : Ad = [] := by
      have := of_decide_eq_true hc
      injection this
    subst hA
    exact s_ret (evn_var rfl (hb.ex e1)) fun r H2 e2 h2 => q r H2 (e1.trans e2) h2
  · cases Ad with
    | nil => exact absurd rfl (of_decide_eq_false hc)
    | cons a Ad =>
      refine q_asgG (ev_boxF (evn_var rfl (hv.ex e1)) (evn_var rfl (hu.ex e1)) hd) fun y H2 e2 h2 => ?_
      cases h2 with
      | @tup ya ys _ hy1 hy2 =>
        cases hy2 with
        | cons n1 hy2 =>
        cases hy2 with
        | cons n2 hy2 =>
        cases hy2 with
        | cons n3 hy2 =>
        cases hy2 with
        | cons n4 hy2 =>
        cases hy2
        refine ⟨ya, _, rfl, hy1, rfl, _, _, rfl, _, _, rfl, _, _, rfl, _, _, rfl, rfl, ?_⟩
        have e12 := e1.trans e2
        refine s_ret (ev_withB (n := 5) (T' := T') (evn_var rfl (hv.ex e12)) (evn_var rfl (hu.ex e12)) ?_ hd (by simp at h4; omega) (by simp at h4; omega)) fun r H3 e3 h3 => q r H3 (e12.trans e3) h3
        exact evn_tup (ea_cons (evn_var rfl n1) (ea_cons (evn_var rfl n2) (ea_cons (evn_var rfl n3) (ea_cons (evn_var rfl (hb.ex e12)) ea_nil)))) (by show 4 ≤ 1000; decide)
theorem ev_withR {E : XK} {σ : L2.St} {H : Hp} {ta tb tc : TE} {A : List NestedKey} {T T' : NestedKey} (ha : EvN K ta σ H (wrap A T)) (hb : EvN K tb σ H (.tup A)) (hc : EvN K tc σ H T') (hd : dep8 A) (h4 : A.length ≤ 4) :
    EvN K (tCall (spWithR K) [] E (tCons ta (tCons tb (tCons tc tNil)))) σ H (wrap A T') :=
  ev_call (ea_cons ha (ea_cons hb (ea_cons hc ea_nil))) fun vs H1 e p Q q => by
    cases p with
    | cons p1 p2 =>
      cases p2 with
      | cons p2 p3 =>
        cases p3 with
        | cons p3 p4 =>
          cases p4
          exact ⟨_, _, _, A, T, T', rfl, p1, p2, p3, hd, h4, fun r H' e' hr => q r H' e' hr⟩

/-! ### turned_row: a move -/
def moveK (A : List NestedKey) (d : NestedKey × Nat) : NestedKey := .tup [.text "move", .tup A, d.1, .num (d.2 : Int)]
theorem erase_cut {l : NestedKey} {L : List NestedKey} (h : l ∈ L) : L.take (L.idxOf l) ++ L.drop (L.idxOf l + 1) = L.erase l := by
  rw [← erase_at h, List.eraseIdx_eq_take_drop_succ]
theorem leaf_take (L : List NestedKey) (n : Nat) : ((leafRow L).map pairK).take n = (leafRow (L.take n)).map pairK := by
  unfold leafRow
  rw [← List.map_take, ← List.map_take]
theorem leaf_drop (L : List NestedKey) (n : Nat) : ((leafRow L).map pairK).drop n = (leafRow (L.drop n)).map pairK := by
  unfold leafRow
  rw [← List.map_drop, ← List.map_drop]
theorem leaf_app (L M : List NestedKey) : (leafRow L).map pairK ++ (leafRow M).map pairK = (leafRow (L ++ M)).map pairK := by
  unfold leafRow
  rw [List.map_append, List.map_append]
theorem leaf_fst (L : List NestedKey) : (leafRow L).map (·.1) = L := by
  unfold leafRow
  rw [List.map_map]
  exact List.map_id L
theorem leaf_len (L : List NestedKey) : (leafRow L).length = L.length := by
  unfold leafRow
  rw [List.length_map]
def spTurnR (K : PySem.W.Frag) : Sp := fun vs H Q _ => ∃ (v u : V) (A L : List NestedKey) (d : NestedKey × Nat), vs = [v, u] ∧ Nk K H v (rowK (leafRow L)) ∧ Nk K H u (moveK A d) ∧ d.1 ∈ L ∧ d.1.depth ≤ 8 ∧ d.2 < L.length ∧ L.length ≤ 100 ∧
  ∀ r H', Ex H H' → Nk K H' r (rowK (leafRow (KM.mv L d))) → Q r H'
theorem scTurnR : FnScope ["row", "deed", "word", "address", "place", "label", "tag", "k", "others"] ["row", "deed"] (defScope sTurnRow) := ⟨rfl, rfl, rfl, by decide +kernel, rfl, by decide +kernel, by decide +kernel⟩
theorem ok_turnR (D : DTurnR K mg) (B : Bl mg) (D1 : DPlace K mg) : FnOk P w K mg base CX0 2 D.f D.fd ["row", "deed"] (spTurnR K) := by
  have G1 : FnOk P w K mg base CX0 1 D1.f D1.fd ["row", "label"] (spPlace K) := ok_place D1 B
  refine D.F.ok scTurnR (fun vs H Q E h => ?_) (fun cdv A outer s H vs Q E hr h => ?_)
  · obtain ⟨v, u, A, L, d, rfl, _⟩ := h
    rfl
  obtain ⟨v, u, Ad, L, ⟨l, p⟩, rfl, hv, hu, hm, hd, hp, hL, q⟩ := h
  simp only at hm hd hp
  refine ⟨_, pss_cons (ps_if (pt_cmpR (op_eqN hr.units) (pe_ix ix_tup (pv 1) pe_int plainIx) pe_str (nomark _)) pss_never pss_nil)
    (pss_cons (ps_set (i := 7) scTurnR.nd rfl (.inl rfl) (pe_call G1 hr (by rfl) D1.g D1.F.kp D1.b .nil pass0 (pa_cons (pv 0) (pa_cons (pe_ix ix_tup (pv 1) pe_int plainIx) pa_nil))))
    (pss_cons (ps_if (pt_cmpR op_isNs (pv 7) pe_non (nomark _)) pss_never pss_nil)
    (pss_cons (ps_set (i := 8) scTurnR.nd rfl (.inl rfl) (pe_op op_catA (pe_slice sl_tupA (pv 0) po_none (po_some (pv 7))) (pe_slice sl_tupA (pv 0) (po_some (pe_op op_add (pv 7) pe_int)) po_none)))
    (pss_cons (ps_if (pt_cmpR (op_eqN hr.units) (pe_ix ix_tup (pv 1) pe_int plainIx) pe_str (nomark _)) pss_never pss_nil)
    (pss_cons (ps_set (i := 4) scTurnR.nd rfl (.inl rfl) (pe_ix ix_tup (pv 1) pe_int plainIx))
    (pss_cons (ps_if (pt_not (pt_chain op_le op_le pe_int (pv 4) (pe_callB call_lenS (by rfl) B.len PySem.boot_len (pa_cons (pv 8) pa_nil)))) pss_never pss_nil)
    (pss_one (ps_ret (pe_op op_catA (pe_op op_catA (pe_slice sl_tupA (pv 8) po_none (po_some (pv 4))) (pe_tup (pa_cons (pe_ix ix_tup (pv 0) (pv 7) plainIx) pa_nil))) (pe_slice sl_tupA (pv 8) (po_some (pv 4)) po_none)))))))))), ?_⟩
  have hw : ∀ {σ : L2.St} {H1 : Hp}, Ex H H1 → σ[1]? = some (some u) → EvN K (tOp (rIxT K) (tVar 1) (tC (.int 0))) σ H1 (.text "move") := fun e hs => evn_ix (K := K) (ks := [.text "move", .tup Ad, l, .num (p : Int)]) (evn_var hs (hu.ex e)) evv_c (atI_nat (j := 0) rfl)
  have hl : ∀ {σ : L2.St} {H1 : Hp}, Ex H H1 → σ[1]? = some (some u) → EvN K (tOp (rIxT K) (tVar 1) (tC (.int 2))) σ H1 l := fun e hs => evn_ix (K := K) (ks := [.text "move", .tup Ad, l, .num (p : Int)]) (evn_var hs (hu.ex e)) evv_c (atI_nat (j := 2) rfl)
  have hpl : ∀ {σ : L2.St} {H1 : Hp}, Ex H H1 → σ[1]? = some (some u) → EvN K (tOp (rIxT K) (tVar 1) (tC (.int 3))) σ H1 (.num (p : Int)) := fun e hs => evn_ix (K := K) (ks := [.text "move", .tup Ad, l, .num (p : Int)]) (evn_var hs (hu.ex e)) evv_c (atI_nat (j := 3) rfl)
  refine q_when (b := false) (et_is (et_test (evv_eqN (hw (σ := [some v, some u, none, none, none, none, none, none, none]) (Same.refl _) rfl) evn_str (.inl (by decide +kernel)))) (by decide +kernel)) (fun h => nomatch h) (fun _ H1 e1 => ?_)
  refine q_asg (ev_place (ps := leafRow L) (l := l) (evn_var rfl (hv.ex e1)) (hl e1 rfl) hd (by rw [leaf_len]; omega)) fun z H2 e2 h2 => ?_
  have h2' : Nk K H2 z (.num (L.idxOf l : Nat)) := by
    have := h2
    unfold isN at this
    rw [leaf_fst] at this
    unfold posOf at this
    rw [if_pos hm] at this
    exact this
  have e12 := e1.trans e2
  refine q_when (b := false) (et_is (et_test (evv_isN (evn_var rfl h2'))) (by simp)) (fun h => nomatch h) (fun _ H3 e3 => ?_)
  have e13 := e12.trans e3
  refine q_asg (P := isN K (rowK (leafRow (L.erase l)))) ?_ fun o H4 e4 h4 => ?_
  · refine evn_is (evn_cat (evn_slice (ks := (leafRow L).map pairK) (evn_var rfl (hv.ex e13)) eo_none (eo_some (EvN.int (evn_var rfl (h2'.ex e3))))) (evn_slice (ks := (leafRow L).map pairK) (evn_var rfl (hv.ex e13)) (eo_some (evv_I0 (g := fun i j => .int (i + j)) (i := (L.idxOf l : Nat)) (j := 1) (EvN.int (evn_var rfl (h2'.ex e3))) evv_c)) eo_none) ?_) ?_
    · rw [cut_to, show ((L.idxOf l : Nat) : Int) + 1 = ((L.idxOf l + 1 : Nat) : Int) by omega, cut_from, List.length_take, List.length_drop, List.length_map, leaf_len]
      omega
    · rw [cut_to, show ((L.idxOf l : Nat) : Int) + 1 = ((L.idxOf l + 1 : Nat) : Int) by omega, cut_from, leaf_take, leaf_drop, leaf_app, erase_cut hm]
      rfl
  have e14 := e13.trans e4
  refine q_when (b := false) (et_is (et_test (evv_eqN (hw e14 rfl) evn_str (.inl (by decide +kernel)))) (by decide +kernel)) (fun h => nomatch h) (fun _ H5 e5 => ?_)
  have e15 := e14.trans e5
  refine q_asg (hpl e15 rfl) fun y H6 e6 h6 => ?_
  have e16 := e15.trans e6
  have hlen : (L.erase l).length = L.length - 1 := List.length_erase_of_mem hm
  refine q_when (b := false) (et_is (et_not (et_test (evv_chain (r := rI0 fun i j => .bl (decide (i ≤ j))) (r' := rI0 fun i j => .bl (decide (i ≤ j))) (b1 := true) (b2 := true) evv_c (EvN.int (evn_var rfl h6)) (evv_lenT (K := K) (ks := (leafRow (L.erase l)).map pairK) (evn_var rfl ((h4.ex e5).ex e6))) (fun H1 Q q => ⟨_, _, rfl, rfl, by
      show Q (V.bl (decide ((0 : Int) ≤ (p : Int)))) H1
      rw [decide_eq_true (by omega)]; exact q⟩) (fun H1 Q q => ⟨_, _, rfl, rfl, by
      show Q (V.bl (decide ((p : Int) ≤ ((((leafRow (L.erase l)).map pairK).length : Nat) : Int)))) H1
      rw [decide_eq_true (by rw [List.length_map, leaf_len, hlen]; omega)]; exact q⟩)))) (by rfl)) (fun h => nomatch h) (fun _ H7 e7 => ?_)
  have e17 := e16.trans e7
  have h4' := ((h4.ex e5).ex e6).ex e7
  have hix : L[L.idxOf l]? = some l := by
    have := List.idxOf_lt_length_of_mem hm
    rw [List.getElem?_eq_getElem this, List.getElem_idxOf]
  refine s_ret (P := isN K (rowK (leafRow (KM.mv L (l, p))))) ?_ fun r H8 e8 h8 => q r H8 (e17.trans e8) h8
  refine evn_is (evn_cat (evn_cat (evn_slice (ks := (leafRow (L.erase l)).map pairK) (evn_var rfl h4') eo_none (eo_some (EvN.int (evn_var rfl (h6.ex e7))))) (evn_tup (ea_cons (evn_ix (ks := (leafRow L).map pairK) (evn_var rfl (hv.ex e17)) (EvN.int (evn_var rfl (((((h2'.ex e3).ex e4).ex e5).ex e6).ex e7))) (atI_nat (j := L.idxOf l) (v := pairK (l, leafK)) (by unfold leafRow; rw [List.getElem?_map, List.getElem?_map, hix]; rfl))) ea_nil) (by show 1 ≤ 1000; decide)) ?_)
    (evn_slice (ks := (leafRow (L.erase l)).map pairK) (evn_var rfl h4') (eo_some (EvN.int (evn_var rfl (h6.ex e7)))) eo_none) ?_) ?_
  · rw [cut_to, List.length_take, List.length_map, leaf_len]
    show min p (L.erase l).length + 1 ≤ 1000
    omega
  · rw [cut_to, cut_from, List.length_append, List.length_take, List.length_drop, List.length_map, leaf_len]
    show min p (L.erase l).length + 1 + ((L.erase l).length - p) ≤ 1000
    omega
  · rw [cut_to, cut_from, leaf_take, leaf_drop]
    unfold KM.mv KM.ins rowK
    rw [List.append_assoc]
    unfold leafRow
    rw [List.map_append, List.map_append, List.map_cons, List.map_cons]
    rfl

theorem ev_turnR {E : XK} {σ : L2.St} {H : Hp} {ta tb : TE} {A L : List NestedKey} {d : NestedKey × Nat} (ha : EvN K ta σ H (rowK (leafRow L))) (hb : EvN K tb σ H (moveK A d)) (hm : d.1 ∈ L) (hd : d.1.depth ≤ 8) (hp : d.2 < L.length) (hL : L.length ≤ 100) :
    EvN K (tCall (spTurnR K) [] E (tCons ta (tCons tb tNil))) σ H (rowK (leafRow (KM.mv L d))) :=
  ev_call (ea_cons ha (ea_cons hb ea_nil)) fun vs H1 e p Q q => by
    cases p with
    | cons p1 p2 =>
      cases p2 with
      | cons p2 p3 =>
        cases p3
        exact ⟨_, _, A, L, d, rfl, p1, p2, hm, hd, hp, hL, fun r H' e' hr => q r H' e' hr⟩

/-! ### turned -/
def spTurned (K : PySem.W.Frag) : Sp := fun vs H Q _ => ∃ (v u : V) (A L : List NestedKey) (d : NestedKey × Nat), vs = [v, u] ∧ Nk K H v (treeK A L) ∧ Nk K H u (moveK A d) ∧ dep8 A ∧ A.length ≤ 4 ∧ d.1 ∈ L ∧ d.1.depth ≤ 8 ∧ d.2 < L.length ∧ L.length ≤ 100 ∧
  ∀ r H', Ex H H' → Nk K H' r (treeK A (KM.mv L d)) → Q r H'
theorem scTurned : FnScope ["tree", "deed", "row", "box"] ["tree", "deed"] (defScope sTurned) := ⟨rfl, rfl, rfl, by decide +kernel, rfl, by decide +kernel, by decide +kernel⟩
theorem ok_turned (D : DTurned K mg) (B : Bl mg) (D1 : DPlace K mg) (D2 : DBoxF K mg) (D3 : DRowF K mg) (D4 : DWithB K mg) (D5 : DWithR K mg) (D6 : DTurnR K mg) : FnOk P w K mg base CX0 8 D.f D.fd ["tree", "deed"] (spTurned K) := by
  have G3 : FnOk P w K mg base CX0 3 D3.f D3.fd ["tree", "address"] (spRowF K) := ok_rowF D3 B D1 D2
  have G5 : FnOk P w K mg base CX0 7 D5.f D5.fd ["tree", "address", "row"] (spWithR K) := ok_withR D5 B D1 D2 D4
  have G6 : FnOk P w K mg base CX0 2 D6.f D6.fd ["row", "deed"] (spTurnR K) := ok_turnR D6 B D1
  refine D.F.ok scTurned (fun vs H Q E h => ?_) (fun cdv A outer s H vs Q E hr h => ?_)
  · obtain ⟨v, u, A, L, d, rfl, _⟩ := h
    rfl
  obtain ⟨v, u, Ad, L, ⟨l, p⟩, rfl, hv, hu, hA, hA4, hm, hd, hp, hL, q⟩ := h
  refine ⟨_, pss_cons (ps_if (pt_cmpR (op_inN hr.units) (pe_ix ix_tup (pv 1) pe_int plainIx) (pe_tup (pa_cons pe_str (pa_cons pe_str (pa_cons pe_str pa_nil)))) (by rfl))
      (pss_cons (ps_set (i := 2) scTurned.nd rfl (.inl rfl) (pe_call G3 (hr.mono (by decide)) (by rfl) D3.g D3.F.kp D3.b .nil pass0 (pa_cons (pv 0) (pa_cons (pe_ix ix_tup (pv 1) pe_int plainIx) pa_nil))))
      (pss_cons (ps_if (pt_cmpR op_isNs (pv 2) pe_non (nomark _)) pss_never pss_nil)
      (pss_cons (ps_set (i := 2) scTurned.nd rfl (.inl rfl) (pe_call G6 (hr.mono (by decide)) (by rfl) D6.g D6.F.kp D6.b .nil pass0 (pa_cons (pv 2) (pa_cons (pv 1) pa_nil))))
      (pss_cons (ps_if (pt_cmpR op_isNs (pv 2) pe_non (nomark _)) pss_never pss_nil)
      (pss_one (ps_ret (pe_call G5 hr (by rfl) D5.g D5.F.kp D5.b .nil pass0 (pa_cons (pv 0) (pa_cons (pe_ix ix_tup (pv 1) pe_int plainIx) (pa_cons (pv 2) pa_nil))))))))))
      pss_nil) pss_never, ?_⟩
  have hw : ∀ {σ : L2.St} {H1 : Hp}, Ex H H1 → σ[1]? = some (some u) → EvN K (tOp (rIxT K) (tVar 1) (tC (.int 0))) σ H1 (.text "move") := fun e hs => evn_ix (K := K) (ks := [.text "move", .tup Ad, l, .num (p : Int)]) (evn_var hs (hu.ex e)) evv_c (atI_nat (j := 0) rfl)
  have ha : ∀ {σ : L2.St} {H1 : Hp}, Ex H H1 → σ[1]? = some (some u) → EvN K (tOp (rIxT K) (tVar 1) (tC (.int 1))) σ H1 (.tup Ad) := fun e hs => evn_ix (K := K) (ks := [.text "move", .tup Ad, l, .num (p : Int)]) (evn_var hs (hu.ex e)) evv_c (atI_nat (j := 1) rfl)
  refine q_if (b := true) (et_is (et_test (evv_inT (neg := false) (ks := [.text "put", .text "take", .text "move"]) (hw (σ := [some v, some u, none, none]) (Same.refl _) rfl) (evn_tup (ea_cons evn_str (ea_cons evn_str (ea_cons evn_str ea_nil))) (by decide)) (by decide +kernel))) (by decide +kernel)) (fun _ H1 e1 => ?_) (fun h => nomatch h)
  refine q_asg (ev_rowF (A := Ad) (evn_var rfl (hv.ex e1)) (ha e1 rfl) hA) fun z H2 e2 h2 => ?_
  have e12 := e1.trans e2
  refine q_when (b := false) (et_is (et_test (evv_isN (evn_var rfl h2))) (by simp [rowK])) (fun h => nomatch h) (fun _ H3 e3 => ?_)
  have e13 := e12.trans e3
  refine q_asg (ev_turnR (A := Ad) (d := (l, p)) (evn_var rfl (h2.ex e3)) (evn_var rfl (hu.ex e13)) hm hd hp hL) fun y H4 e4 h4 => ?_
  have e14 := e13.trans e4
  refine q_when (b := false) (et_is (et_test (evv_isN (evn_var rfl h4))) (by simp [rowK])) (fun h => nomatch h) (fun _ H5 e5 => ?_)
  have e15 := e14.trans e5
  exact s_ret (ev_withR (A := Ad) (T := rowK (leafRow L)) (evn_var rfl (hv.ex e15)) (ha e15 rfl) (evn_var rfl (h4.ex e5)) hA hA4) fun r H6 e6 h6 => q r H6 (e15.trans e6) h6
theorem ev_turned {E : XK} {σ : L2.St} {H : Hp} {ta tb : TE} {A L : List NestedKey} {d : NestedKey × Nat} (ha : EvN K ta σ H (treeK A L)) (hb : EvN K tb σ H (moveK A d)) (hA : dep8 A) (hA4 : A.length ≤ 4) (hm : d.1 ∈ L) (hd : d.1.depth ≤ 8) (hp : d.2 < L.length) (hL : L.length ≤ 100) :
    EvN K (tCall (spTurned K) [] E (tCons ta (tCons tb tNil))) σ H (treeK A (KM.mv L d)) :=
  ev_call (ea_cons ha (ea_cons hb ea_nil)) fun vs H1 e p Q q => by
    cases p with
    | cons p1 p2 =>
      cases p2 with
      | cons p2 p3 =>
        cases p3
        exact ⟨_, _, A, L, d, rfl, p1, p2, hA, hA4, hm, hd, hp, hL, fun r H' e' hr => q r H' e' hr⟩

/-! ### led: a row of moves -/
/-- each move can be done -/
def okMoves : List NestedKey → List (NestedKey × Nat) → Prop
  | _, [] => True
  | L, d :: ds => d.1 ∈ L ∧ d.1.depth ≤ 8 ∧ d.2 < L.length ∧ okMoves (KM.mv L d) ds
def runM (L : List NestedKey) (ds : List (NestedKey × Nat)) : List NestedKey := ds.foldl KM.mv L
theorem ins_len {α : Type} (p : Nat) (x : α) (l : List α) : (KM.ins p x l).length = l.length + 1 := by
  unfold KM.ins
  rw [List.length_append, List.length_take, List.length_cons, List.length_drop]
  omega
theorem mv_len {L : List NestedKey} {d : NestedKey × Nat} (h : d.1 ∈ L) : (KM.mv L d).length = L.length := by
  unfold KM.mv
  rw [ins_len, List.length_erase_of_mem h]
  have := List.length_pos_of_mem h
  omega
theorem okMoves_at : ∀ {ds : List (NestedKey × Nat)} {L : List NestedKey} {i : Nat} {d : NestedKey × Nat}, okMoves L ds → ds[i]? = some d → d.1 ∈ runM L (ds.take i) ∧ d.1.depth ≤ 8 ∧ d.2 < L.length ∧ (runM L (ds.take i)).length = L.length
  | [], _, _, _, _, h => by simp at h
  | e :: ds, L, 0, d, ok, h => by
    have : e = d := Option.some.inj h
    subst this
    exact ⟨ok.1, ok.2.1, ok.2.2.1, rfl⟩
  | e :: ds, L, i + 1, d, ok, h => by
    obtain ⟨h1, h2, h3, h4⟩ := okMoves_at (i := i) ok.2.2.2 (by simpa using h)
    rw [mv_len ok.1] at h3 h4
    exact ⟨h1, h2, h3, h4⟩
theorem runM_succ {ds : List (NestedKey × Nat)} {L : List NestedKey} {i : Nat} {d : NestedKey × Nat} (h : ds[i]? = some d) : runM L (ds.take (i + 1)) = KM.mv (runM L (ds.take i)) d := by
  unfold runM
  rw [List.take_add_one, h, List.foldl_append]
  rfl
def spLed (K : PySem.W.Frag) : Sp := fun vs H Q _ => ∃ (v u : V) (A L : List NestedKey) (ds : List (NestedKey × Nat)), vs = [v, u] ∧ Nk K H v (treeK A L) ∧ Nk K H u (.tup (ds.map (moveK A))) ∧ dep8 A ∧ A.length ≤ 4 ∧ okMoves L ds ∧ L.length ≤ 100 ∧ ds.length ≤ 1000 ∧
  ∀ r H', Ex H H' → Nk K H' r (treeK A (runM L ds)) → Q r H'
theorem scLed : FnScope ["tree", "deeds", "place"] ["tree", "deeds"] (defScope sLed) := ⟨rfl, rfl, rfl, by decide +kernel, rfl, by decide +kernel, by decide +kernel⟩
theorem ok_led (D : DLed K mg) (B : Bl mg) (D1 : DPlace K mg) (D2 : DBoxF K mg) (D3 : DRowF K mg) (D4 : DWithB K mg) (D5 : DWithR K mg) (D6 : DTurnR K mg) (D7 : DTurned K mg) : FnOk P w K mg base CX0 9 D.f D.fd ["tree", "deeds"] (spLed K) := by
  have G7 : FnOk P w K mg base CX0 8 D7.f D7.fd ["tree", "deed"] (spTurned K) := ok_turned D7 B D1 D2 D3 D4 D5 D6
  refine D.F.ok scLed (fun vs H Q E h => ?_) (fun cdv A outer s H vs Q E hr h => ?_)
  · obtain ⟨v, u, A, L, d, rfl, _⟩ := h
    rfl
  obtain ⟨v, u, Ad, L, ds, rfl, hv, hu, hA, hA4, hok, hL, hds, q⟩ := h
  refine ⟨_, pss_cons (ps_for PassesOwn.never rfl (pi_range1 rfl B.range (pa_cons (pe_callB call_lenS (by rfl) B.len PySem.boot_len (pa_cons (pv 1) pa_nil)) pa_nil)) (pg_name (i := 2) scLed.nd rfl (.inl rfl))
      (pss_cons (ps_set (i := 0) scLed.nd rfl (.inl rfl) (pe_call G7 hr (by rfl) D7.g D7.F.kp D7.b .nil pass0 (pa_cons (pv 0) (pa_cons (pe_ix ix_tup (pv 1) (pv 2) plainIx) pa_nil))))
      (pss_one (ps_if (pt_cmpR op_isNs (pv 0) pe_non (nomark _)) pss_never pss_nil))))
    (pss_one (ps_ret (pv 0))), ?_⟩
  refine q_forR (n := ds.length) ((ea_vcons (evn_var (σ := [some v, some u, none]) (i := 1) rfl hu |> evv_lenT) ea_vnil).imp fun vs H1 _ e => by rw [e, List.length_map]) hds
    (fun i σ' H' => Ex H H' ∧ ∃ t z, σ' = [some t, some u, z] ∧ Nk K H' t (treeK Ad (runM L (ds.take i)))) (fun H1 e => ⟨e, v, none, rfl, hv.ex e⟩) ?_ ?_
  · rintro i σ' H' hi ⟨e, t, z, rfl, ht⟩
    obtain ⟨d, hd⟩ : ∃ d, ds[i]? = some d := ⟨ds[i], List.getElem?_eq_getElem hi⟩
    obtain ⟨h1, h2, h3, h4⟩ := okMoves_at hok hd
    refine q_asg (ev_turned (d := d) (evn_var rfl ht) (evn_ix (ks := ds.map (moveK Ad)) (evn_var rfl (hu.ex e)) (evv_var rfl) (atI_nat (j := i) (by rw [List.getElem?_map, hd]; rfl))) hA hA4 h1 h2 (by rw [h4]; exact h3) (by rw [h4]; exact hL)) fun t' H1 e1 ht' => ?_
    have hne : ∀ A M, ¬ treeK A M = .none := fun A M => by
      cases A with
      | nil => simp [treeK, wrap, rowK]
      | cons a A => simp [treeK, wrap, rowK]
    refine s_when (b := false) (et_is (et_test (evv_isN (evn_var rfl ht'))) (decide_eq_false (hne _ _))) (fun h => nomatch h) (fun _ H2 e2 => ?_)
    refine ⟨(e.trans e1).trans e2, t', _, rfl, ?_⟩
    rw [runM_succ hd]
    exact ht'.ex e2
  · rintro σ' H' ⟨e, t, z, rfl, ht⟩
    rw [List.take_length] at ht
    exact s_ret (evn_var rfl ht) fun r H1 e1 h1 => q r H1 (e.trans e1) h1
theorem ev_led {E : XK} {σ : L2.St} {H : Hp} {ta tb : TE} {A L : List NestedKey} {ds : List (NestedKey × Nat)} (ha : EvN K ta σ H (treeK A L)) (hb : EvN K tb σ H (.tup (ds.map (moveK A)))) (hA : dep8 A) (hA4 : A.length ≤ 4) (hok : okMoves L ds) (hL : L.length ≤ 100) (hds : ds.length ≤ 1000) :
    EvN K (tCall (spLed K) [] E (tCons ta (tCons tb tNil))) σ H (treeK A (runM L ds)) :=
  ev_call (ea_cons ha (ea_cons hb ea_nil)) fun vs H1 e p Q q => by
    cases p with
    | cons p1 p2 =>
      cases p2 with
      | cons p2 p3 =>
        cases p3
        exact ⟨_, _, A, L, ds, rfl, p1, p2, hA, hA4, hok, hL, hds, fun r H' e' hr => q r H' e' hr⟩
end
end KW
namespace KW
open PySem PySem.Spec PyProof.Rows L2

/-! ### dicts, as judgments -/
section
variable {P : Program} {w : World} {K : PySem.W.Frag} {σ : L2.St} {H : Hp} {td ty te : TE} {d : Addr} {m : List (NestedKey × V)} {ks : List NestedKey} {v : V}
theorem evv_getN (hd : EvV td σ H (.ref d)) (hm : DN P w K H d m) (hk : EvN K ty σ H (.tup ks)) (h8 : (NestedKey.tup ks).depth ≤ 8) (hv : valV m (.tup ks) = some v) : EvV (tGetN (rGetN P w K) td ty) σ H v := fun H1 e Q q =>
  hd H1 e _ fun x H2 e2 p1 => hk H2 (e.trans e2) _ fun y H3 e3 p2 => by
    cases p1
    have hm' := hm.ex ((e.trans e2).trans e3)
    cases p2 with
    | @tup b xs _ h1 h2 => exact ⟨⟨d, m, P, w, K, rfl, hm'⟩, d, b, .tup ks, m, v, rfl, rfl, hm', .tup h1 h2, h8, hv, q v H3 (e2.trans e3) rfl⟩
theorem evv_inD {neg : Bool} (hk : EvN K ty σ H (.tup ks)) (hd : EvV td σ H (.ref d)) (hm : DN P w K H d m) (h8 : (NestedKey.tup ks).depth ≤ 8) : EvV (tOp (rInDN P w K neg) ty td) σ H (.bl (if neg then !(valV m (.tup ks)).isSome else (valV m (.tup ks)).isSome)) := fun H1 e Q q =>
  hk H1 e _ fun x H2 e2 p1 => hd H2 (e.trans e2) _ fun y H3 e3 p2 => by
    cases p2
    have p1 := Nk.ex p1 e3
    cases p1 with
    | @tup b xs _ h1 h2 => exact ⟨d, b, .tup ks, m, rfl, rfl, hm.ex ((e.trans e2).trans e3), .tup h1 h2, h8, q _ H3 (e2.trans e3) rfl⟩
/-- d[k] = v as a statement -/
theorem s_setD {D : Ends} {Pv : V → Hp → Prop} (hv : Ev te σ H Pv) (hPv : Mono Pv) (hd : EvV td σ H (.ref d)) (hk : EvN K ty σ H (.tup ks)) (hm : DN P w K H d m) (h8 : (NestedKey.tup ks).depth ≤ 8) (hl : m.length ≤ 1000)
    (k : ∀ x H1 H2, Ex H H1 → Pv x H1 → (∀ a, a ≠ d → H2 a = H1 a) → Pe H1 H2 → DN P w K H2 d (putK m (.tup ks) x) → D.nx σ H2) : tAsg te (gSub td ty (rSetN P w K)) D σ H :=
  hv H (Same.refl _) _ fun x H1 e1 p1 => hd H1 e1 _ fun y H2 e2 p2 => hk H2 (e1.trans e2) _ fun z H3 e3 p3 => by
    cases p2
    have e13 := (e1.trans e2).trans e3
    obtain ⟨xs, g1, g2, g3⟩ := hm.ex e13
    cases p3 with
    | @tup b us _ h1 h2 =>
      refine ⟨d, b, .tup ks, xs, rfl, rfl, g1, g2, .tup h1 h2, h8, ?_, k x H3 _ e13 (hPv _ _ _ (e2.trans e3) p1) (fun a ha => upd_ne ha) (pe_updE g1) ?_⟩
      · have : xs.length = m.length := by rw [← g3]; unfold prs; rw [List.length_map]
        rw [this]
        exact small1000 hl
      · refine ⟨storedV xs (.tup ks) b x, upd_same, fun y hy => ?_, by rw [prs_stored, g3]⟩
        have pe : Pe H3 (upd H3 d (dN P w d (storedV xs (.tup ks) b x))) := pe_updE g1
        have : (∃ y' ∈ xs, y.1 = y'.1 ∧ y.2.1 = y'.2.1) ∨ (y.1 = .tup ks ∧ y.2.1 = b) := by
          unfold storedV at hy
          split at hy
          · obtain ⟨y', hy', rfl⟩ := List.mem_map.mp hy
            refine .inl ⟨y', hy', ?_⟩
            split <;> exact ⟨rfl, rfl⟩
          · rcases List.mem_append.mp hy with h | h
            · exact .inl ⟨y, h, rfl, rfl⟩
            · simp only [List.mem_singleton] at h
              subst h
              exact .inr ⟨rfl, rfl⟩
        rcases this with ⟨y', hy', e1, e2⟩ | ⟨e1, e2⟩
        · rw [e1, e2]
          exact ⟨Nk.pe pe _ (g2 y' hy').1, (g2 y' hy').2⟩
        · rw [e1, e2]
          exact ⟨Nk.pe pe _ (.tup h1 h2), h8⟩
theorem q_setD {D : Ends} {tz : TS} {Pv : V → Hp → Prop} (hv : Ev te σ H Pv) (hPv : Mono Pv) (hd : EvV td σ H (.ref d)) (hk : EvN K ty σ H (.tup ks)) (hm : DN P w K H d m) (h8 : (NestedKey.tup ks).depth ≤ 8) (hl : m.length ≤ 1000)
    (k : ∀ x H1 H2, Ex H H1 → Pv x H1 → (∀ a, a ≠ d → H2 a = H1 a) → Pe H1 H2 → DN P w K H2 d (putK m (.tup ks) x) → tz D σ H2) : tSeq (tAsg te (gSub td ty (rSetN P w K))) tz D σ H := s_setD (D := { D with nx := tz D }) hv hPv hd hk hm h8 hl k
/-- {} -/
theorem evf_newD : EvF (tDNewN P w) σ H (fun p H' => DN P w K H' p []) := fun H1 e Q q p hp => q p _ hp (ex_new hp) ⟨[], upd_same, (fun x hx => by cases hx), rfl⟩
end
/-- labels: tuples, not too deep -/
def labK (l : NestedKey) : Prop := ∃ ks, l = .tup ks ∧ l.depth ≤ 2
def labs (L : List NestedKey) : Prop := ∀ l ∈ L, labK l

/-! ### places_in -/
def placesM : Nat → List NestedKey → List (NestedKey × V)
  | _, [] => []
  | i, l :: ls => (l, .int (i : Int)) :: placesM (i + 1) ls
theorem placesM_keys : ∀ (i : Nat) (ls : List NestedKey), (placesM i ls).map (·.1) = ls
  | _, [] => rfl
  | i, l :: ls => by rw [placesM, List.map_cons, placesM_keys (i + 1) ls]
theorem placesM_len (i : Nat) (ls : List NestedKey) : (placesM i ls).length = ls.length := by
  have := congrArg List.length (placesM_keys i ls)
  rwa [List.length_map] at this
theorem placesM_snoc : ∀ (i : Nat) (ls : List NestedKey) (l : NestedKey), placesM i (ls ++ [l]) = placesM i ls ++ [(l, .int ((i + ls.length : Nat) : Int))]
  | i, [], l => by simp [placesM]
  | i, x :: ls, l => by
    rw [List.cons_append, placesM, placesM, placesM_snoc (i + 1) ls l, List.cons_append, List.length_cons]
    rw [show i + 1 + ls.length = i + (ls.length + 1) by omega]
theorem valV_places : ∀ (i : Nat) {ls : List NestedKey} {l : NestedKey}, l ∈ ls → valV (placesM i ls) l = some (.int ((i + ls.idxOf l : Nat) : Int))
  | _, [], _, h => by cases h
  | i, x :: ls, l, h => by
    rw [placesM]
    by_cases e : x = l
    · subst e
      rw [valV_pos rfl]
      simp
    · have hm : l ∈ ls := by
        rcases List.mem_cons.mp h with z | z
        · exact absurd z.symm e
        · exact z
      rw [valV_neg e, valV_places (i + 1) hm, List.idxOf_cons]
      have hb : (x == l) = false := by simpa using e
      rw [hb]
      show some (V.int ((i + 1 + ls.idxOf l : Nat) : Int)) = some (V.int ((i + (ls.idxOf l + 1) : Nat) : Int))
      rw [show i + 1 + ls.idxOf l = i + (ls.idxOf l + 1) by omega]
theorem valV_none_of {m : List (NestedKey × V)} {k : NestedKey} (h : k ∉ m.map (·.1)) : valV m k = none := by
  cases e : valV m k with
  | none => rfl
  | some v => exact absurd (valV_in e) h
section
variable {P : Program} {w : World} {K : PySem.W.Frag} {mg : Str → Option Value} {base : Heap}
abbrev DPlaces (K : PySem.W.Frag) (mg : Str → Option Value) := Df K mg "places_in" sPlaces ["row"]
def spPlaces (P : Program) (w : World) (K : PySem.W.Frag) : Sp := fun vs H Q _ => ∃ (v : V) (L : List NestedKey), vs = [v] ∧ Nk K H v (.tup L) ∧ labs L ∧ L.Nodup ∧ L.length ≤ 500 ∧
  ∀ p H', H p = none → Ex H H' → DN P w K H' p (placesM 0 L) → Q (.ref p) H'
theorem scPlaces : FnScope ["row", "places", "k"] ["row"] (defScope sPlaces) := ⟨rfl, rfl, rfl, by decide +kernel, rfl, by decide +kernel, by decide +kernel⟩
theorem ok_places (D : DPlaces K mg) (B : Bl mg) : FnOk P w K mg base CX0 1 D.f D.fd ["row"] (spPlaces P w K) := by
  refine D.F.ok scPlaces (fun vs H Q E h => ?_) (fun cdv A outer s H vs Q E hr h => ?_)
  · obtain ⟨v, L, rfl, _⟩ := h
    rfl
  obtain ⟨v, L, rfl, hv, hL, hn, hl, q⟩ := h
  refine ⟨_, pss_cons (ps_set (i := 1) scPlaces.nd rfl (.inl rfl) pe_dnewN)
    (pss_cons (ps_for PassesOwn.never rfl (pi_range1 rfl B.range (pa_cons (pe_callB call_lenS (by rfl) B.len PySem.boot_len (pa_cons (pv 0) pa_nil)) pa_nil)) (pg_name (i := 2) scPlaces.nd rfl (.inl rfl))
      (pss_one (ps_asg (pv 2) (pg_sub (pv 1) (pe_ix ix_tup (pv 0) (pv 2) plainIx) (set_n hr.units)))))
    (pss_one (ps_ret (pv 1)))), ?_⟩
  refine q_asgF (σ := [some v, none, none]) (evf_newD (P := P) (w := w) (K := K)) fun p H1 hp e1 hd => ?_
  refine q_forR (n := L.length) ((ea_vcons (evn_var (i := 0) rfl (hv.ex e1) |> evv_lenT) ea_vnil)) (by omega)
    (fun i σ' H' => Ex H H' ∧ (∃ z, σ' = [some v, some (.ref p), z]) ∧ DN P w K H' p (placesM 0 (L.take i))) (fun H2 e2 => ⟨e1.trans e2, ⟨none, rfl⟩, hd.ex e2⟩) ?_ ?_
  · rintro i σ' H' hi ⟨e, ⟨z, rfl⟩, hd'⟩
    obtain ⟨l, hl'⟩ : ∃ l, L[i]? = some l := ⟨L[i], List.getElem?_eq_getElem hi⟩
    obtain ⟨ks, rfl, hdep⟩ := hL l (List.mem_of_getElem? hl')
    refine s_setD (P := P) (w := w) (K := K) (ks := ks) (evv_var rfl) mono_isV (evv_var rfl) (evn_ix (ks := L) (evn_var rfl (hv.ex e)) (evv_var rfl) (atI_nat hl')) hd' (by omega) (by rw [placesM_len, List.length_take]; omega) fun x H2 H3 e2 px hsame pe hd3 => ?_
    cases px
    refine ⟨?_, ⟨_, rfl⟩, ?_⟩
    · intro b o hb
      have hbp : b ≠ p := fun z => by
        rw [z, hp] at hb
        cases hb
      rw [hsame b hbp]
      exact (e.trans e2) _ _ hb
    · have hnew : valV (placesM 0 (L.take i)) (.tup ks) = none := valV_none_of (by
        rw [placesM_keys]
        intro hm
        obtain ⟨j, hj⟩ := List.mem_iff_getElem?.mp hm
        rw [List.getElem?_take] at hj
        split at hj
        · rename_i hji
          have := nd_ix hn hj hl'
          omega
        · cases hj)
      rw [putK_new _ hnew] at hd3
      rw [List.take_add_one, hl']
      show DN P w K H3 p (placesM 0 (L.take i ++ [.tup ks]))
      rw [placesM_snoc, List.length_take, Nat.min_eq_left (by omega), Nat.zero_add]
      exact hd3
  · rintro σ' H' ⟨e, ⟨z, rfl⟩, hd'⟩
    rw [List.take_length] at hd'
    refine s_ret (P := isV (.ref p)) (evv_var rfl) fun r H2 e2 h2 => ?_
    cases h2
    exact q p H2 hp (e.trans e2) (hd'.ex e2)
end
end KW
namespace KW
open PySem PySem.Spec PyProof.Rows L2

section
variable {K : PySem.W.Frag} {σ : L2.St} {H H0 : Hp} {te : TE} {t : TT} {D : Ends} {tu tw tz : TS} {g : TG}
theorem s_forT0 {tl : TE} {a : Addr} {xs : List V} {ks : List NestedKey} (h : EvV tl σ H (.ref a)) (h1 : SqT K H0 a xs) (h2 : NkAll K H0 xs ks) (Pv : Nat → L2.St → Hp → Prop) (e0 : Pe H0 H) (h0 : ∀ H1, Ex H H1 → Pv 0 σ H1) (hp : ∀ i σ' H', Pv i σ' H' → Pe H0 H')
    (hs : ∀ i k x σ' H', ks[i]? = some k → xs[i]? = some x → Nk K H' x k → Pv i σ' H' → g x σ' H' fun σ2 H2 => tu { D with nx := Pv (i + 1), ct := Pv (i + 1), bk := D.nx } σ2 H2) (hd : ∀ σ' H', Pv ks.length σ' H' → D.nx σ' H') : tFor (iTup K tl) g tu D σ H := h H (Same.refl _) _ fun v H1 e p => by
  cases p
  refine ⟨a, rfl, ⟨xs, (e0.trans (ex_pe e)).sqT h1⟩, for_tup (K := K) (a := a) (xs := xs) Pv (h0 H1 e) (fun i σ' H' _ p => (hp i σ' H' p).sqT h1) (fun i x σ' H' hx p => ?_) (fun σ' H' p => ?_)⟩
  · obtain ⟨k, hk, nk⟩ := h2.getV hx
    exact hs i k x σ' H' hk hx (Nk.pe (hp i σ' H' p) _ nk) p
  · rw [h2.length] at p
    exact hd σ' H' p
theorem q_forT0 {tl : TE} {a : Addr} {xs : List V} {ks : List NestedKey} (h : EvV tl σ H (.ref a)) (h1 : SqT K H0 a xs) (h2 : NkAll K H0 xs ks) (Pv : Nat → L2.St → Hp → Prop) (e0 : Pe H0 H) (h0 : ∀ H1, Ex H H1 → Pv 0 σ H1) (hp : ∀ i σ' H', Pv i σ' H' → Pe H0 H')
    (hs : ∀ i k x σ' H', ks[i]? = some k → xs[i]? = some x → Nk K H' x k → Pv i σ' H' → g x σ' H' fun σ2 H2 => tu { D with nx := Pv (i + 1), ct := Pv (i + 1), bk := tz D } σ2 H2) (hd : ∀ σ' H', Pv ks.length σ' H' → tz D σ' H') : tSeq (tFor (iTup K tl) g tu) tz D σ H :=
  s_forT0 (D := { D with nx := tz D }) h h1 h2 Pv e0 h0 hp hs hd
theorem EvF.evn {P : Addr → Hp → Prop} (h : EvF te σ H P) : Ev te σ H (fun v H1 => ∃ p, v = .ref p ∧ H p = none ∧ P p H1) := fun H1 a Q q => h H1 a Q fun p H2 hn e hp => q _ H2 e ⟨p, rfl, a.free hn, hp⟩
end

/-! ### the piles in the heap -/
def optK : Option NestedKey → NestedKey
  | none => .none
  | some x => x
def AH (K : PySem.W.Frag) (H : Hp) : List (NestedKey × V) → List (NestedKey × Option NestedKey) → Prop := Paired fun p q => p.1 = q.1 ∧ Nk K H p.2 (optK q.2)
def PL (K : PySem.W.Frag) (H : Hp) : List Addr → List (List NestedKey) → Prop := Paired fun a p => ∃ vs, H a = some (.lst vs) ∧ NkAll K H vs p
theorem AH.pe {K : PySem.W.Frag} {H H' : Hp} {m : List (NestedKey × V)} {ah : List (NestedKey × Option NestedKey)} (h : AH K H m ah) (e : Pe H H') : AH K H' m ah := Paired.mapP h fun _ _ z => ⟨z.1, Nk.pe e _ z.2⟩
theorem PL.ex {K : PySem.W.Frag} {H H' : Hp} {as : List Addr} {ps : List (List NestedKey)} (h : PL K H as ps) (e : Ex H H') : PL K H' as ps := Paired.mapP h fun _ _ ⟨vs, a, b⟩ => ⟨vs, e _ _ a, b.ex e⟩
theorem PL.pe {K : PySem.W.Frag} {H H' : Hp} : ∀ {as : List Addr} {ps : List (List NestedKey)}, PL K H as ps → Pe H H' → (∀ a ∈ as, H' a = H a) → PL K H' as ps
  | _, _, .nil, _, _ => .nil
  | _, _, .cons ⟨vs, a, b⟩ t, e, s => .cons ⟨vs, (s _ List.mem_cons_self).trans a, NkAll.pe e _ b⟩ (PL.pe t e fun x hx => s x (List.mem_cons_of_mem _ hx))
theorem PL.get {K : PySem.W.Frag} {H : Hp} : ∀ {as : List Addr} {ps : List (List NestedKey)} {i : Nat} {p : List NestedKey}, PL K H as ps → ps[i]? = some p → ∃ a vs, as[i]? = some a ∧ H a = some (.lst vs) ∧ NkAll K H vs p
  | _, _, _, _, .nil, e => by simp at e
  | _, _, 0, _, .cons ⟨vs, a, b⟩ t, e => by
    simp at e
    subst e
    exact ⟨_, vs, rfl, a, b⟩
  | _, _, i + 1, p, .cons _ t, e => by
    obtain ⟨a, vs, h1, h2, h3⟩ := PL.get (i := i) (p := p) t (by simpa using e)
    exact ⟨a, vs, by simpa using h1, h2, h3⟩
/-- one pile is changed -/
theorem PL.set {K : PySem.W.Frag} {H : Hp} : ∀ {as : List Addr} {ps : List (List NestedKey)} {i : Nat} {a : Addr} {vs : List V} {p : List NestedKey}, PL K H as ps → as.Nodup → as[i]? = some a → (∃ ws, H a = some (.lst ws)) → NkAll K H vs p → PL K (upd H a (.lst vs)) as (ps.set i p)
  | _, _, _, _, _, _, .nil, _, h, _, _ => by simp at h
  | b :: as, q :: ps, 0, a, vs, p, .cons ⟨ws, h1, h2⟩ t, hn, h, hw, hv => by
    have e : b = a := Option.some.inj h
    subst e
    obtain ⟨ws', hw⟩ := hw
    have pe : Pe H (upd H b (.lst vs)) := pe_updL hw
    refine .cons ⟨vs, upd_same, NkAll.pe pe _ hv⟩ (PL.pe t pe fun x hx => upd_ne fun z => ?_)
    rw [z] at hx
    exact (List.nodup_cons.mp hn).1 hx
  | b :: as, q :: ps, i + 1, a, vs, p, .cons ⟨ws, h1, h2⟩ t, hn, h, hw, hv => by
    have h' : as[i]? = some a := by simpa using h
    have hne : b ≠ a := fun e => by
      rw [e] at hn
      exact (List.nodup_cons.mp hn).1 (List.mem_of_getElem? h')
    obtain ⟨ws', hw'⟩ := id hw
    have pe : Pe H (upd H a (.lst vs)) := pe_updL hw'
    exact .cons ⟨ws, (upd_ne hne).trans h1, NkAll.pe pe _ h2⟩ (PL.set t (List.nodup_cons.mp hn).2 h' hw hv)
theorem PL.length {K : PySem.W.Frag} {H : Hp} {as : List Addr} {ps : List (List NestedKey)} (h : PL K H as ps) : as.length = ps.length := Paired.length h
theorem PL.lst {K : PySem.W.Frag} {H : Hp} : ∀ {as : List Addr} {ps : List (List NestedKey)}, PL K H as ps → ∀ a ∈ as, ∃ vs, H a = some (.lst vs)
  | _, _, .nil, _, h => by cases h
  | _, _, .cons ⟨vs, a, b⟩ t, x, h => by
    rcases List.mem_cons.mp h with e | h
    · subst e
      exact ⟨vs, a⟩
    · exact PL.lst t x h

structure PSt (P : Program) (w : World) (K : PySem.W.Frag) (H0 H : Hp) (da pp dh : Addr) (as : List Addr) (ln : List NestedKey) (ps : List (List NestedKey)) (ah : List (NestedKey × Option NestedKey)) : Prop where
  ex : Ex H0 H
  ne : da ≠ dh
  at_ : DN P w K H da (placesM 0 ln)
  f1 : H0 pp = none
  f2 : H0 dh = none
  f3 : ∀ a ∈ as, H0 a = none
  pl : H pp = some (.lst (as.map V.ref))
  nin : pp ∉ as
  nd : as.Nodup
  ps_ : PL K H as ps
  ah_ : ∃ m, DN P w K H dh m ∧ AH K H m ah
theorem PSt.grow {P : Program} {w : World} {K : PySem.W.Frag} {H0 H H' : Hp} {da pp dh : Addr} {as : List Addr} {ln : List NestedKey} {ps : List (List NestedKey)} {ah : List (NestedKey × Option NestedKey)} (h : PSt P w K H0 H da pp dh as ln ps ah) (e : Ex H H') : PSt P w K H0 H' da pp dh as ln ps ah :=
  ⟨h.ex.trans e, h.ne, h.at_.ex e, h.f1, h.f2, h.f3, e _ _ h.pl, h.nin, h.nd, h.ps_.ex e, let ⟨m, a, b⟩ := h.ah_; ⟨m, a.ex e, b.pe (ex_pe e)⟩⟩

/-! ### the mirror's own facts -/
section
variable {ln : List NestedKey} {l : NestedKey}
theorem fp_le : ∀ ps : List (List NestedKey), KM.fp ln l ps ≤ ps.length
  | [] => Nat.le_refl _
  | p :: r => by
    unfold KM.fp
    have := fp_le r
    split
    · simp; omega
    · simp
theorem fp_lt : ∀ {ps : List (List NestedKey)} {j : Nat}, j < KM.fp ln l ps → ∃ p, ps[j]? = some p ∧ KM.lastLt ln p l = true
  | [], j, h => by simp [KM.fp] at h
  | p :: r, j, h => by
    unfold KM.fp at h
    split at h
    · rename_i hp
      cases j with
      | zero => exact ⟨p, rfl, hp⟩
      | succ j =>
        obtain ⟨q, h1, h2⟩ := fp_lt (ps := r) (j := j) (by omega)
        exact ⟨q, by simpa using h1, h2⟩
    · omega
theorem fp_at : ∀ {ps : List (List NestedKey)} {p : List NestedKey}, ps[KM.fp ln l ps]? = some p → KM.lastLt ln p l = false
  | [], p, h => by simp at h
  | q :: r, p, h => by
    by_cases hp : KM.lastLt ln q l = true
    · have : KM.fp ln l (q :: r) = KM.fp ln l r + 1 := by
        rw [KM.fp, if_pos hp]
      rw [this] at h
      exact fp_at (ps := r) (by simpa using h)
    · have : KM.fp ln l (q :: r) = 0 := by
        rw [KM.fp, if_neg hp]
      rw [this] at h
      have e : q = p := Option.some.inj h
      rw [← e]
      exact Bool.eq_false_iff.mpr hp
theorem addAt_end : ∀ (ps : List (List NestedKey)), KM.addAt l ps.length ps = ps ++ [[l]]
  | [] => rfl
  | p :: r => by
    show p :: KM.addAt l r.length r = _
    rw [addAt_end r]
    rfl
theorem addAt_set : ∀ {ps : List (List NestedKey)} {k : Nat} {p : List NestedKey}, ps[k]? = some p → KM.addAt l k ps = ps.set k (p ++ [l])
  | [], k, p, h => by simp at h
  | q :: r, 0, p, h => by
    have e : q = p := Option.some.inj h
    subst e
    rfl
  | q :: r, k + 1, p, h => by
    show q :: KM.addAt l k r = _
    rw [addAt_set (ps := r) (k := k) (by simpa using h)]
    rfl
theorem lastAt_get : ∀ {ps : List (List NestedKey)} {k : Nat} {p : List NestedKey}, ps[k]? = some p → KM.lastAt k ps = p.getLast?
  | [], k, p, h => by simp at h
  | q :: r, 0, p, h => by
    have e : q = p := Option.some.inj h
    subst e
    rfl
  | q :: r, k + 1, p, h => lastAt_get (ps := r) (k := k) (by simpa using h)
end
theorem atI_lastK {α : Type} {xs : List α} {y : α} (h : xs.getLast? = some y) : atI xs (-1) = some y := by
  obtain ⟨ys, rfl⟩ : ∃ ys, xs = ys ++ [y] := by
    have hne : xs ≠ [] := by
      intro e
      subst e
      simp at h
    refine ⟨xs.dropLast, ?_⟩
    rw [List.getLast?_eq_getLast hne] at h
    have e : xs.getLast hne = y := Option.some.inj h
    rw [← e, List.dropLast_concat_getLast]
  exact atI_last ys y
theorem putK_last {m : List (NestedKey × V)} {k : NestedKey} {x y : V} (h : k ∉ m.map (·.1)) : putK (m ++ [(k, x)]) k y = m ++ [(k, y)] := by
  unfold putK
  rw [if_pos (by simp)]
  rw [List.map_append]
  congr 1
  · have : m.map (fun kv => if kv.1 = k then (kv.1, y) else kv) = m.map id := List.map_congr_left fun a ha => by
      rw [if_neg]
      · rfl
      · intro e
        exact h (List.mem_map.mpr ⟨a, ha, e⟩)
    rw [this, List.map_id]
  · simp
/-- all piles hold labels, none is empty -/
def PilesOk (lo : List NestedKey) (ps : List (List NestedKey)) : Prop := ∀ p ∈ ps, p ≠ [] ∧ ∀ y ∈ p, y ∈ lo
theorem PilesOk.last {lo : List NestedKey} {ps : List (List NestedKey)} (h : PilesOk lo ps) {j : Nat} {p : List NestedKey} (hp : ps[j]? = some p) : ∃ y, p.getLast? = some y ∧ y ∈ lo := by
  obtain ⟨h1, h2⟩ := h p (List.mem_of_getElem? hp)
  refine ⟨p.getLast h1, List.getLast?_eq_getLast h1, h2 _ (List.getLast_mem h1)⟩
theorem pilesOk_addAt {lo : List NestedKey} {l : NestedKey} (hl : l ∈ lo) : ∀ {ps : List (List NestedKey)} {k : Nat}, PilesOk lo ps → PilesOk lo (KM.addAt l k ps)
  | [], k, _ => by
    intro p hp
    have e : p = [l] := by simpa [KM.addAt] using hp
    subst e
    exact ⟨by simp, fun y hy => by
      have : y = l := by simpa using hy
      rw [this]
      exact hl⟩
  | q :: r, 0, h => by
    intro p hp
    have hp : p ∈ (q ++ [l]) :: r := hp
    rcases List.mem_cons.mp hp with e | hp
    · subst e
      refine ⟨by simp, fun y hy => ?_⟩
      rcases List.mem_append.mp hy with hy | hy
      · exact (h q List.mem_cons_self).2 y hy
      · have : y = l := by simpa using hy
        rw [this]
        exact hl
    · exact h p (List.mem_cons_of_mem _ hp)
  | q :: r, k + 1, h => by
    intro p hp
    have hp : p ∈ q :: KM.addAt l k r := hp
    rcases List.mem_cons.mp hp with e | hp
    · subst e
      exact h p List.mem_cons_self
    · exact pilesOk_addAt hl (fun x hx => h x (List.mem_cons_of_mem _ hx)) p hp
theorem pilesOk_at {lo ln : List NestedKey} : ∀ i, PilesOk lo (KM.pilesAt lo ln i).1
  | 0 => fun p hp => by cases hp
  | i + 1 => by
    unfold KM.pilesAt
    cases h : lo[i]? with
    | none => exact pilesOk_at i
    | some l => exact pilesOk_addAt (List.mem_of_getElem? h) (pilesOk_at i)
theorem ahead_keys {lo ln : List NestedKey} : ∀ i, ((KM.pilesAt lo ln i).2.map (·.1)) = lo.take i
  | 0 => rfl
  | i + 1 => by
    unfold KM.pilesAt
    rw [List.take_add_one]
    cases h : lo[i]? with
    | none =>
      show (KM.pilesAt lo ln i).2.map (·.1) = _
      rw [ahead_keys i]
      simp
    | some l =>
      simp only [KM.pstep]
      rw [List.map_append, ahead_keys i]
      rfl
theorem piles_len {lo ln : List NestedKey} : ∀ i, (KM.pilesAt lo ln i).1.length ≤ i
  | 0 => Nat.le_refl _
  | i + 1 => by
    unfold KM.pilesAt
    have ih := piles_len (lo := lo) (ln := ln) i
    cases h : lo[i]? with
    | none => exact Nat.le_succ_of_le ih
    | some l =>
      have go : ∀ (k : Nat) (ps : List (List NestedKey)), (KM.addAt l k ps).length ≤ ps.length + 1 := by
        intro k ps
        induction ps generalizing k with
        | nil => cases k <;> simp [KM.addAt]
        | cons p r ihp =>
          cases k with
          | zero => simp [KM.addAt]
          | succ k =>
            have := ihp k
            simp [KM.addAt]
            omega
      have := go (KM.fp ln l (KM.pilesAt lo ln i).1) (KM.pilesAt lo ln i).1
      show (KM.addAt l _ _).length ≤ i + 1
      omega
end KW
namespace KW
open PySem PySem.Spec PyProof.Rows L2

section
variable {σ : L2.St} {H : Hp} {ta : TE} {i : Int}
theorem evv_neg (ha : EvV ta σ H (.int i)) : EvV (tUn (rU fun i => .int (-i)) ta) σ H (.int (-i)) := fun H1 e Q q => ha H1 e _ fun x H2 e2 p => by
  cases p
  exact ⟨i, rfl, q _ H2 e2 rfl⟩
end
section
variable {P : Program} {w : World} {K : PySem.W.Frag} {H0 H H1 H2 : Hp} {da pp dh : Addr} {as : List Addr} {ln : List NestedKey} {ps : List (List NestedKey)} {ah ah' : List (NestedKey × Option NestedKey)}
theorem PSt.putD (h : PSt P w K H0 H1 da pp dh as ln ps ah) (hs : ∀ a, a ≠ dh → H2 a = H1 a) (pe : Pe H1 H2) (hd : ∃ m, DN P w K H2 dh m ∧ AH K H2 m ah') : PSt P w K H0 H2 da pp dh as ln ps ah' := by
  obtain ⟨m, hm, _⟩ := h.ah_
  obtain ⟨φ, hφ⟩ := hm.there
  have nl : ∀ a vs, H1 a = some (.lst vs) → a ≠ dh := fun a vs e => ne_of e hφ (by intro z; cases z)
  refine ⟨fun b o e => ?_, h.ne, h.at_.pe pe (hs _ h.ne), h.f1, h.f2, h.f3, (hs _ (nl _ _ h.pl)).trans h.pl, h.nin, h.nd, PL.pe h.ps_ pe fun a ha => ?_, hd⟩
  · have hb : b ≠ dh := fun z => by
      rw [z, h.f2] at e
      cases e
    rw [hs b hb]
    exact h.ex _ _ e
  · obtain ⟨vs, hv⟩ := h.ps_.lst a ha
    exact hs a (nl _ _ hv)
theorem PSt.app {i : Nat} {a : Addr} {vs : List V} {x : V} {p : List NestedKey} {l : NestedKey} (h : PSt P w K H0 H1 da pp dh as ln ps ah) (ha : as[i]? = some a) (hp : ps[i]? = some p) (hv : H1 a = some (.lst vs)) (nv : NkAll K H1 vs p) (nx : Nk K H1 x l) :
    PSt P w K H0 (upd H1 a (.lst (vs ++ [x]))) da pp dh as ln (ps.set i (p ++ [l])) ah := by
  have hm : a ∈ as := List.mem_of_getElem? ha
  obtain ⟨m, hm1, hm2⟩ := h.ah_
  obtain ⟨φ, hφ⟩ := hm1.there
  obtain ⟨φ', hφ'⟩ := h.at_.there
  have pe : Pe H1 (upd H1 a (.lst (vs ++ [x]))) := pe_updL hv
  have n1 : dh ≠ a := ne_of hφ hv (by intro z; cases z)
  have n2 : da ≠ a := ne_of hφ' hv (by intro z; cases z)
  have n3 : pp ≠ a := fun z => h.nin (z ▸ hm)
  exact ⟨ex_mut h.ex (h.f3 a hm), h.ne, h.at_.pe pe (upd_ne n2), h.f1, h.f2, h.f3, (upd_ne n3).trans h.pl, h.nin, h.nd, PL.set h.ps_ h.nd ha ⟨vs, hv⟩ (nv.append (.one nx)), m, hm1.pe pe (upd_ne n1), hm2.pe pe⟩
theorem PL.snoc {a : Addr} (h : PL K H as ps) (ha : H a = some (.lst [])) : PL K H (as ++ [a]) (ps ++ [[]]) := Paired.snoc h ⟨[], ha, .nil⟩
theorem PSt.newPile {a : Addr} (h : PSt P w K H0 H1 da pp dh as ln ps ah) (ha : H1 a = some (.lst [])) (h0 : H0 a = none) (hn : a ∉ as) (hp : a ≠ pp) :
    PSt P w K H0 (upd H1 pp (.lst (as.map V.ref ++ [.ref a]))) da pp dh (as ++ [a]) ln (ps ++ [[]]) ah := by
  obtain ⟨m, hm1, hm2⟩ := h.ah_
  obtain ⟨φ, hφ⟩ := hm1.there
  obtain ⟨φ', hφ'⟩ := h.at_.there
  have pe : Pe H1 (upd H1 pp (.lst (as.map V.ref ++ [.ref a]))) := pe_updL h.pl
  have n1 : dh ≠ pp := ne_of hφ h.pl (by intro z; cases z)
  have n2 : da ≠ pp := ne_of hφ' h.pl (by intro z; cases z)
  have hin : ∀ b ∈ as ++ [a], b ≠ pp := fun b hb z => by
    rcases List.mem_append.mp hb with hb | hb
    · exact h.nin (z ▸ hb)
    · have : b = a := by simpa using hb
      exact hp (this.symm.trans z)
  refine ⟨ex_mut h.ex h.f1, h.ne, h.at_.pe pe (upd_ne n2), h.f1, h.f2, fun b hb => ?_, ?_, fun hb => hin pp hb rfl, nd_snoc h.nd hn, PL.pe (h.ps_.snoc ha) pe fun b hb => upd_ne (hin b hb), m, hm1.pe pe (upd_ne n1), hm2.pe pe⟩
  · rcases List.mem_append.mp hb with hb | hb
    · exact h.f3 b hb
    · have : b = a := by simpa using hb
      rw [this]
      exact h0
  · rw [List.map_append]
    exact upd_same
end
def ltB (ln : List NestedKey) (l : NestedKey) (ps : List (List NestedKey)) (j : Nat) : Bool := match ps[j]? with
  | some p => KM.lastLt ln p l
  | none => false
theorem ltB_true {ln : List NestedKey} {l : NestedKey} {ps : List (List NestedKey)} {j : Nat} (hj : j ≤ KM.fp ln l ps) (h : ltB ln l ps j = true) : j < KM.fp ln l ps := by
  apply Classical.byContradiction
  intro hc
  have e : j = KM.fp ln l ps := by omega
  unfold ltB at h
  cases hp : ps[j]? with
  | none => rw [hp] at h; cases h
  | some p =>
    rw [hp] at h
    have h : KM.lastLt ln p l = true := h
    rw [e] at hp
    rw [fp_at hp] at h
    cases h
theorem ltB_false {ln : List NestedKey} {l : NestedKey} {ps : List (List NestedKey)} {j : Nat} (hj : j ≤ KM.fp ln l ps) (h : ltB ln l ps j = false) : j = KM.fp ln l ps := by
  apply Classical.byContradiction
  intro hc
  obtain ⟨p, h1, h2⟩ := fp_lt (ln := ln) (l := l) (ps := ps) (j := j) (by omega)
  unfold ltB at h
  rw [h1] at h
  have h : KM.lastLt ln p l = false := h
  rw [h2] at h
  cases h
theorem lab8 {l : NestedKey} (h : labK l) : l.depth ≤ 8 := by
  obtain ⟨_, _, h⟩ := h
  omega
theorem addAt_len {l : NestedKey} : ∀ {k : Nat} {ps : List (List NestedKey)} {n : Nat}, (∀ p ∈ ps, p.length ≤ n) → ∀ p ∈ KM.addAt l k ps, p.length ≤ n + 1
  | k, [], n, _, p, hp => by
    have e : p = [l] := by cases k <;> simpa [KM.addAt] using hp
    subst e
    simp
  | 0, q :: r, n, h, p, hp => by
    have hp : p ∈ (q ++ [l]) :: r := hp
    rcases List.mem_cons.mp hp with e | hp
    · subst e
      have := h q List.mem_cons_self
      rw [List.length_append, List.length_singleton]
      omega
    · have := h p (List.mem_cons_of_mem _ hp)
      omega
  | k + 1, q :: r, n, h, p, hp => by
    have hp : p ∈ q :: KM.addAt l k r := hp
    rcases List.mem_cons.mp hp with e | hp
    · subst e
      have := h p List.mem_cons_self
      omega
    · exact addAt_len (fun x hx => h x (List.mem_cons_of_mem _ hx)) p hp
theorem pile_len {lo ln : List NestedKey} : ∀ i, ∀ p ∈ (KM.pilesAt lo ln i).1, p.length ≤ i
  | 0, p, hp => by cases hp
  | i + 1, p, hp => by
    unfold KM.pilesAt at hp
    cases h : lo[i]? with
    | none =>
      rw [h] at hp
      exact Nat.le_succ_of_le (pile_len i p hp)
    | some l =>
      rw [h] at hp
      exact addAt_len (pile_len i) p hp
section
variable {P : Program} {w : World} {K : PySem.W.Frag} {mg : Str → Option Value} {base : Heap}
abbrev DPiles (K : PySem.W.Frag) (mg : Str → Option Value) := Df K mg "piles_of" sPiles ["old", "new"]
def spPiles (P : Program) (w : World) (K : PySem.W.Frag) : Sp := fun vs H Q _ => ∃ (v u : V) (lo ln : List NestedKey), vs = [v, u] ∧ Nk K H v (.tup lo) ∧ Nk K H u (.tup ln) ∧ labs ln ∧ lo.Nodup ∧ ln.Nodup ∧ (∀ l ∈ lo, l ∈ ln) ∧ lo.length ≤ 100 ∧ ln.length ≤ 100 ∧
  ∀ t pp dh as H', Ex H H' → SqT K H' t [.ref pp, .ref dh] → H' pp = some (.lst (as.map V.ref)) → PL K H' as (KM.pilesOf lo ln).1 → (∃ m, DN P w K H' dh m ∧ AH K H' m (KM.pilesOf lo ln).2) → Q (.ref t) H'
theorem scPiles : FnScope ["old", "new", "at", "piles", "ahead", "label", "k"] ["old", "new"] (defScope sPiles) := ⟨rfl, rfl, rfl, by decide +kernel, rfl, by decide +kernel, by decide +kernel⟩
theorem noSlV {b : Expr} (h : ∀ ov iv, subscripted b false ov iv = operate [ov, iv] (getItem ov iv) := by intro _ _; rfl) : NoSl b := h
/-- what one label's turn does behind the search: from a state where the pile at k stands -/
theorem ok_piles (D : DPiles K mg) (B : Bl mg) (D1 : DPlaces K mg) : FnOk P w K mg base CX0 2 D.f D.fd ["old", "new"] (spPiles P w K) := by
  have G1 : FnOk P w K mg base CX0 1 D1.f D1.fd ["row"] (spPlaces P w K) := ok_places D1 B
  refine D.F.ok scPiles (fun vs H Q E h => ?_) (fun cdv A outer s H vs Q E hr h => ?_)
  · obtain ⟨v, u, lo, ln, rfl, _⟩ := h
    rfl
  obtain ⟨v, u, lo, ln, rfl, hv, hu, hln, hno, hnn, hsub, hl1, hl2, q⟩ := h
  refine ⟨_, pss_cons (ps_set (i := 2) scPiles.nd rfl (.inl rfl) (pe_call G1 hr (by rfl) D1.g D1.F.kp D1.b .nil pass0 (pa_cons (pv 1) pa_nil)))
    (pss_cons (ps_set (i := 3) scPiles.nd rfl (.inl rfl) (pe_lst pa_nil))
    (pss_cons (ps_set (i := 4) scPiles.nd rfl (.inl rfl) pe_dnewN)
    (pss_cons (ps_for PassesOwn.never rfl (pi_tup (pv 0)) (pg_name (i := 5) scPiles.nd rfl (.inl rfl))
      (pss_one (ps_if (pt_cmpR (op_inDN hr.units) (pv 5) (pv 2) (by rfl))
        (pss_cons (ps_set (i := 6) scPiles.nd rfl (.inl rfl) pe_int)
        (pss_cons (ps_while PassesOwn.never (PW.pt (pw_and (pt_cmpR op_lt (pv 6) (pe_callB call_lenS (by rfl) B.len PySem.boot_len (pa_cons (pv 3) pa_nil)) (nomark _)) (pw_and1 (pt_cmpR op_lt
              (pe_getN hr.units (pv 2) (pe_ix ix_list (pe_ix ix_list (pv 3) (pv 6) plainIx) (pe_un un_neg pe_int) plainIx) noSlV) (pe_getN hr.units (pv 2) (pv 5) noSlV) (nomark _)))))
            (pss_one (ps_set (i := 6) scPiles.nd rfl (.inl rfl) (pe_op op_add (pv 6) pe_int))))
        (pss_cons (ps_if (pt_cmpR op_eq (pv 6) (pe_callB call_lenS (by rfl) B.len PySem.boot_len (pa_cons (pv 3) pa_nil)) (nomark _))
            (pss_one (ps_expr (pe_bm PySem.F.plainAttrs_list PySem.F.slot_list_append PySem.F.type_list_append mt_append (pv 3) (pa_cons (pe_lst pa_nil) pa_nil)))) pss_nil)
        (pss_cons (ps_asg pe_non (pg_sub (pv 4) (pv 5) (set_n hr.units)))
        (pss_cons (ps_if (pt_cmpR op_gt (pv 6) pe_int (nomark _))
            (pss_one (ps_asg (pe_ix ix_list (pe_ix ix_list (pv 3) (pe_op op_sub (pv 6) pe_int) plainIx) (pe_un un_neg pe_int) plainIx) (pg_sub (pv 4) (pv 5) (set_n hr.units)))) pss_nil)
        (pss_one (ps_expr (pe_bm PySem.F.plainAttrs_list PySem.F.slot_list_append PySem.F.type_list_append mt_append (pe_ix ix_list (pv 3) (pv 6) plainIx) (pa_cons (pv 5) pa_nil)))))))))
        pss_nil)))
    (pss_one (ps_ret (pe_tup (pa_cons (pv 3) (pa_cons (pv 4) pa_nil)))))))), ?_⟩
  -- at = places_in(new)
  refine q_asgF (σ := [some v, some u, none, none, none, none, none]) (P := fun p H' => DN P w K H' p (placesM 0 ln)) (fun H1 e Q' q' => ⟨u, rfl, u, ln, rfl, hu.ex e, hln, hnn, by omega, fun p H2 hp e2 hd => q' p H2 hp e2 hd⟩) fun da H1 hda e1 hat => ?_
  refine q_asgF (evl_lst ea_vnil) fun pp H2 hpp e2 hpl => ?_
  refine q_asgF (evf_newD (P := P) (w := w) (K := K)) fun dh H3 hdh e3 hdn => ?_
  have hdadh : da ≠ dh := by
    obtain ⟨φ, hφ⟩ := (hat.ex e2).there
    exact ne_of_none hφ hdh
  have e13 : Ex H H3 := (e1.trans e2).trans e3
  cases hv with
  | @tup va us _ hv1 hv2 =>
  refine q_forT0 (H0 := H) (K := K) (a := va) (xs := us) (ks := lo) (evv_var rfl) hv1 hv2
    (fun i σ' H' => ∃ as z5 z6, σ' = [some (.ref va), some u, some (.ref da), some (.ref pp), some (.ref dh), z5, z6] ∧ PSt P w K H H' da pp dh as ln (KM.pilesAt lo ln i).1 (KM.pilesAt lo ln i).2)
    (ex_pe e13) (fun H4 e4 => ?_) (fun i σ' H' p => ?_) ?_ ?_
  · refine ⟨[], none, none, rfl, ?_⟩
    have : PSt P w K H H3 da pp dh [] ln [] [] := ⟨e13, hdadh, (hat.ex e2).ex e3, e1.free hpp, (e1.trans e2).free hdh, (fun a ha => by cases ha), e3 _ _ hpl, (by simp), List.nodup_nil, .nil, ⟨[], hdn, .nil⟩⟩
    exact this.grow e4
  · obtain ⟨as, z5, z6, _, st⟩ := p
    exact ex_pe st.ex
  · rintro i l x σ' H' hl hx nx ⟨as, z5, z6, rfl, st⟩
    have hlo : l ∈ lo := List.mem_of_getElem? hl
    have hlln : l ∈ ln := hsub l hlo
    obtain ⟨kl, rfl, hdl⟩ := hln l hlln
    have hl8 : (NestedKey.tup kl).depth ≤ 8 := by omega
    have hOk : PilesOk lo (KM.pilesAt lo ln i).1 := pilesOk_at i
    have hplen : (KM.pilesAt lo ln i).1.length ≤ 100 := by
      have h1 := piles_len (lo := lo) (ln := ln) i
      have h2 := (List.getElem?_eq_some_iff.mp hl).1
      omega
    have hstep : KM.pilesAt lo ln (i + 1) = KM.pstep ln (KM.pilesAt lo ln i) (.tup kl) := by
      rw [KM.pilesAt, hl]
    have hkeys : NestedKey.tup kl ∉ (KM.pilesAt lo ln i).2.map (·.1) := by
      rw [ahead_keys]
      intro hm
      obtain ⟨j, hj⟩ := List.mem_iff_getElem?.mp hm
      rw [List.getElem?_take] at hj
      split at hj
      · rename_i hji
        have := nd_ix hno hj hl
        omega
      · cases hj
    have hpl100 : ∀ p ∈ (KM.pilesAt lo ln i).1, p.length ≤ 100 := fun p hp => by
      have h1 := pile_len (lo := lo) (ln := ln) i p hp
      have h2 := (List.getElem?_eq_some_iff.mp hl).1
      omega
    have hahk := ahead_keys (lo := lo) (ln := ln) i
    rw [hstep]
    generalize KM.pilesAt lo ln i = PA at st hOk hplen hkeys hpl100 hahk
    obtain ⟨ps, ah⟩ := PA
    simp only at st hOk hplen hkeys hpl100 hahk
    refine s_when (b := true) (et_is (et_test (evv_inD (neg := false) (evn_var rfl nx) (evv_var rfl) st.at_ hl8)) (by
      show (valV (placesM 0 ln) (NestedKey.tup kl)).isSome = true
      rw [valV_places 0 hlln]
      rfl)) (fun _ H4 e4 => ?_) (fun h => nomatch h)
    have st := st.grow e4
    have nx := nx.ex e4
    -- k = 0; the search
    refine q_asg (evv_c) fun z H5 e5 hz => ?_
    cases hz
    have st := st.grow e5
    have nx := nx.ex e5
    refine q_while (fun m σ' H' => ∃ j : Nat, m = KM.fp ln (.tup kl) ps - j ∧ j ≤ KM.fp ln (.tup kl) ps ∧ σ' = [some (.ref va), some u, some (.ref da), some (.ref pp), some (.ref dh), some x, some (.int (j : Int))] ∧ Ex H5 H') (KM.fp ln (.tup kl) ps) ⟨0, by omega, Nat.zero_le _, rfl, Same.refl _⟩ ?_
    rintro m σ' H6 ⟨j, rfl, hj, rfl, e6⟩
    have st := st.grow e6
    have nx := nx.ex e6
    have hlen : (as.map V.ref).length = ps.length := by rw [List.length_map]; exact st.ps_.length
    refine ⟨ltB ln (.tup kl) ps j, ?_, fun hb H7 e7 => ?_, fun hb H7 e7 => ?_⟩
    · cases hp : ps[j]? with
      | none =>
        have hjl : ps.length ≤ j := List.getElem?_eq_none_iff.mp hp
        refine et_is (et_and (a := false) (b := false) (et_is (et_test (evv_I0 (g := fun i j => .bl (decide (i < j))) (evv_var rfl) (evv_lenL (evv_var rfl) (SqL.of st.pl)))) (decide_eq_false (by rw [hlen]; omega))) (fun h => nomatch h)) ?_
        unfold ltB
        rw [hp]
        rfl
      | some p =>
        obtain ⟨y, hy, hylo⟩ := hOk.last hp
        obtain ⟨ky, rfl, hdy⟩ := hln y (hsub y hylo)
        obtain ⟨a, vs, ha, hH, hvs⟩ := st.ps_.get hp
        have hjl := (List.getElem?_eq_some_iff.mp hp).1
        refine et_is (et_and (a := true) (b := ltB ln (.tup kl) ps j) (et_is (et_test (evv_I0 (g := fun i j => .bl (decide (i < j))) (evv_var rfl) (evv_lenL (evv_var rfl) (SqL.of st.pl)))) (decide_eq_true (by rw [hlen]; omega)))
          (fun _ => et_is (et_test (evv_I0 (g := fun i j => .bl (decide (i < j))) (evv_getN (evv_var rfl) st.at_ (evn_ixL (evv_ixL (evv_var rfl) (SqL.of st.pl) (evv_var rfl) (atI_nat (v := V.ref a) (by rw [List.getElem?_map, ha]; rfl))) (SqL.of hH) hvs (evv_neg evv_c) (atI_lastK hy)) (by omega) (valV_places 0 (hsub _ hylo)))
            (evv_getN (evv_var rfl) st.at_ (evn_var rfl nx) hl8 (valV_places 0 hlln)))) ?_)) (Bool.true_and _)
        unfold ltB KM.lastLt
        rw [hp]
        simp only [hy, Nat.zero_add]
        exact decide_eq_decide.mpr (by omega)
    · refine ⟨fun σ2 H2 => σ2 = [some (.ref va), some u, some (.ref da), some (.ref pp), some (.ref dh), some x, some (.int ((j + 1 : Nat) : Int))] ∧ Ex H5 H2, fun σ2 H2 hN => ?_, ?_⟩
      · have := ltB_true hj hb
        exact ⟨KM.fp ln (.tup kl) ps - (j + 1), by omega, j + 1, rfl, by omega, hN.1, hN.2⟩
      · refine s_asg (evv_I0 (g := fun i j => .int (i + j)) (evv_var rfl) evv_c) fun y H8 e8 hy => ?_
        cases hy
        exact ⟨rfl, (e6.trans e7).trans e8⟩
    · have hjf := ltB_false hj hb
      subst hjf
      have st := st.grow e7
      have nx := nx.ex e7
      -- the end of a turn, from a state where the pile stands
      have fin : ∀ (as2 : List Addr) (ps2 : List (List NestedKey)) (p2 : List NestedKey) (H8 : Hp) (tc : Int → Int → V) (D' : Ends), tc = (fun i j => .bl (decide (j < i))) → PSt P w K H H8 da pp dh as2 ln ps2 ah → Nk K H8 x (.tup kl) → ps2[KM.fp ln (.tup kl) ps]? = some p2 → KM.addAt (.tup kl) (KM.fp ln (.tup kl) ps) ps = ps2.set (KM.fp ln (.tup kl) ps) (p2 ++ [.tup kl]) →
          (∀ j', j' < KM.fp ln (.tup kl) ps → ps2[j']? = ps[j']?) → p2.length ≤ 100 → ah.length ≤ 100 → D'.nx = (fun σ2 H2 => ∃ as z5 z6, σ2 = [some (.ref va), some u, some (.ref da), some (.ref pp), some (.ref dh), z5, z6] ∧ PSt P w K H H2 da pp dh as ln (KM.pstep ln (ps, ah) (.tup kl)).1 (KM.pstep ln (ps, ah) (.tup kl)).2) →
          tSeq (tAsg (tC .non) (gSub (tVar 4) (tVar 5) (rSetN P w K))) (tSeq (tIfS (tTest (tOp (rI0 tc) (tVar 6) (tC (.int 0)))) (tAsg (tOp (rIxL K) (tOp (rIxL K) (tVar 3) (tOp (rI0 fun i j => .int (i - j)) (tVar 6) (tC (.int 1)))) (tUn (rU fun i => .int (-i)) (tC (.int 1)))) (gSub (tVar 4) (tVar 5) (rSetN P w K))) tNext)
            (tDrop (tBM K "list" rAppend (tOp (rIxL K) (tVar 3) (tVar 6)) (tCons (tVar 5) tNil)))) D' [some (.ref va), some u, some (.ref da), some (.ref pp), some (.ref dh), some x, some (.int ((KM.fp ln (.tup kl) ps : Nat) : Int))] H8 := by
        intro as2 ps2 p2 H8 tc D' htc st nx hp2 hadd hsame hp100 hah hD
        subst htc
        obtain ⟨m, hm1, hm2⟩ := id st.ah_
        have hmk : m.map (·.1) = ah.map (·.1) := by
          have go : ∀ {m : List (NestedKey × V)} {ah : List (NestedKey × Option NestedKey)}, AH K H8 m ah → m.map (·.1) = ah.map (·.1) := by
            intro m ah h
            unfold AH at h
            induction h with
            | nil => rfl
            | cons h _ ih => rw [List.map_cons, List.map_cons, ih, h.1]
          exact go hm2
        have hmlen : m.length ≤ 100 := by
          have := congrArg List.length hmk
          rw [List.length_map, List.length_map] at this
          omega
        have hmn : NestedKey.tup kl ∉ m.map (·.1) := by rw [hmk]; exact hkeys
        refine q_setD (P := P) (w := w) (K := K) (ks := kl) (evn_non (K := K)) mono_isN (evv_var rfl) (evn_var rfl nx) hm1 hl8 (by omega) fun x0 H9 H10 e9 hx0 hs10 pe10 hd10 => ?_
        cases hx0
        have st9 := st.grow e9
        have nx10 : Nk K H10 x (.tup kl) := Nk.pe pe10 _ (nx.ex e9)
        have hd10' : DN P w K H10 dh (m ++ [(.tup kl, V.non)]) := by
          rw [putK_new _ (valV_none_of hmn)] at hd10
          exact hd10
        have hm2' : AH K H10 m ah := (hm2.pe (ex_pe e9)).pe pe10
        have st10 : PSt P w K H H10 da pp dh as2 ln ps2 (ah ++ [(.tup kl, none)]) := st9.putD hs10 pe10 ⟨_, hd10', Paired.snoc hm2' ⟨rfl, .non⟩⟩
        -- the last step, from any state with the right ahead
        have last : ∀ (H11 : Hp) (o : Option NestedKey) (D2 : Ends), D2.nx = D'.nx → o = KM.aheadOf (KM.fp ln (.tup kl) ps) ps → PSt P w K H H11 da pp dh as2 ln ps2 (ah ++ [(.tup kl, o)]) → Nk K H11 x (.tup kl) →
            tDrop (tBM K "list" rAppend (tOp (rIxL K) (tVar 3) (tVar 6)) (tCons (tVar 5) tNil)) D2 [some (.ref va), some u, some (.ref da), some (.ref pp), some (.ref dh), some x, some (.int ((KM.fp ln (.tup kl) ps : Nat) : Int))] H11 := by
          intro H11 o D2 hD2 ho st11 nx11
          obtain ⟨a, vs, ha, hH, hvs⟩ := st11.ps_.get hp2
          refine s_app hH (evv_ixL (evv_var rfl) (SqL.of st11.pl) (evv_var rfl) (atI_nat (v := V.ref a) (by rw [List.getElem?_map, ha]; rfl))) (evn_var rfl nx11) (by rw [hvs.length]; omega) fun y H12 e12 hy => ?_
          rw [hD2, hD]
          refine ⟨as2, _, _, rfl, ?_⟩
          have st12 := (st11.grow e12).app ha hp2 (e12 _ _ hH) (hvs.ex e12) hy
          rw [← hadd, ho] at st12
          exact st12
        refine q_if (b := decide (0 < (KM.fp ln (.tup kl) ps : Nat))) (et_is (et_test (evv_I0 (g := fun i j => .bl (decide (j < i))) (evv_var rfl) evv_c)) (decide_eq_decide.mpr (by omega))) (fun hb H11 e11 => ?_) (fun hb H11 e11 => ?_)
        · have hpos : 0 < KM.fp ln (.tup kl) ps := of_decide_eq_true hb
          obtain ⟨j', hj'⟩ : ∃ j', KM.fp ln (.tup kl) ps = j' + 1 := ⟨KM.fp ln (.tup kl) ps - 1, by omega⟩
          obtain ⟨p', hp'⟩ : ∃ p', ps[j']? = some p' := by
            obtain ⟨p', h1, _⟩ := fp_lt (ln := ln) (l := .tup kl) (ps := ps) (j := j') (by omega)
            exact ⟨p', h1⟩
          obtain ⟨y, hy, hylo⟩ := hOk.last hp'
          obtain ⟨ky, rfl, hdy⟩ := hln y (hsub y hylo)
          have st11 := st10.grow e11
          obtain ⟨a, vs, ha, hH, hvs⟩ := st11.ps_.get (i := j') (p := p') ((hsame j' (by omega)).trans hp')
          have hd11 := hd10'.ex e11
          refine s_setD (P := P) (w := w) (K := K) (ks := kl) (Pv := isN K (.tup ky)) (evn_ixL (evv_ixL (evv_var rfl) (SqL.of st11.pl) (evv_is (evv_I0 (g := fun i j => .int (i - j)) (evv_var rfl) evv_c) (show V.int (((KM.fp ln (.tup kl) ps : Nat) : Int) - 1) = V.int (j' : Int) by rw [hj']; congr 1; omega)) (atI_nat (v := V.ref a) (by rw [List.getElem?_map, ha]; rfl))) (SqL.of hH) hvs (evv_neg evv_c) (atI_lastK hy)) mono_isN (evv_var rfl) (evn_var rfl (nx10.ex e11)) hd11 hl8 (by rw [List.length_append, List.length_singleton]; omega) fun x1 H12 H13 e12 hx1 hs13 pe13 hd13 => ?_
          rw [putK_last hmn] at hd13
          refine last H13 (some (.tup ky)) _ rfl (by
            rw [hj']
            show some (NestedKey.tup ky) = KM.lastAt j' ps
            rw [lastAt_get hp', hy]) ((st11.grow e12).putD hs13 pe13 ⟨_, hd13, Paired.snoc (((hm2'.pe (ex_pe e11)).pe (ex_pe e12)).pe pe13) ⟨rfl, Nk.pe pe13 _ hx1⟩⟩) (Nk.pe pe13 _ ((nx10.ex e11).ex e12))
        · have h0 : KM.fp ln (.tup kl) ps = 0 := by
            have := of_decide_eq_false hb
            omega
          exact last H11 none _ rfl (by rw [h0]; rfl) (st10.grow e11) (nx10.ex e11)
      have hahlen : ah.length ≤ 100 := by
        have h2 := congrArg List.length hahk
        rw [List.length_map, List.length_take] at h2
        omega
      have hplens : ∀ p ∈ ps, p.length ≤ 100 := hpl100
      refine q_when (b := decide (KM.fp ln (.tup kl) ps = ps.length)) (et_is (et_test (evv_eq rfl (evv_var rfl) (evv_lenL (evv_var rfl) (SqL.of st.pl)))) (decide_eq_decide.mpr (by rw [hlen, V.int.injEq]; omega))) (fun hb H8 e8 => ?_) (fun hb H8 e8 => ?_)
      · have hfl := of_decide_eq_true hb
        have st8 := st.grow e8
        refine s_app st8.pl (evv_var rfl) (EvF.evn (evl_lst ea_vnil)) (by rw [hlen]; omega) fun y H9 e9 hy => ?_
        obtain ⟨a', rfl, hn, hlst⟩ := hy
        have st9 := st8.grow e9
        have hnin : a' ∉ as := fun hm => by
          obtain ⟨vs, hv⟩ := st8.ps_.lst a' hm
          rw [hn] at hv
          cases hv
        have hnpp : a' ≠ pp := fun z => by
          rw [z, st8.pl] at hn
          cases hn
        have st10 := st9.newPile hlst (st8.ex.free hn) hnin hnpp
        refine fin (as ++ [a']) (ps ++ [[]]) [] _ _ _ rfl st10 (Nk.pe (pe_updL st9.pl) _ ((nx.ex e8).ex e9)) (by rw [hfl]; simp) ?_ (fun j' hj' => ?_) (by simp) hahlen rfl
        · rw [hfl, addAt_end]
          simp
        · rw [List.getElem?_append_left (by omega)]
      · have hfl := of_decide_eq_false hb
        have hfle := fp_le (ln := ln) (l := .tup kl) ps
        obtain ⟨p2, hp2⟩ : ∃ p2, ps[KM.fp ln (.tup kl) ps]? = some p2 := ⟨ps[KM.fp ln (.tup kl) ps]'(by omega), List.getElem?_eq_getElem (by omega)⟩
        exact fin as ps p2 H8 _ _ rfl (st.grow e8) (nx.ex e8) hp2 (addAt_set hp2) (fun _ _ => rfl) (hplens _ (List.mem_of_getElem? hp2)) hahlen rfl
  · rintro σ' H' ⟨as, z5, z6, rfl, st⟩
    refine s_ret (P := fun v H'' => ∃ t, v = .ref t ∧ Ex H' H'' ∧ SqT K H'' t [.ref pp, .ref dh]) (fun H4 e4 Q' q' => ?_) fun r H4 e4 h4 => ?_
    · exact ⟨_, rfl, _, rfl, by show 2 ≤ sizeLine; decide, fun t ht => q' _ _ (ex_new ht) ⟨t, rfl, e4.trans (ex_new ht), SqT.of upd_same⟩⟩
    · obtain ⟨t, rfl, e5, ht⟩ := h4
      have st := st.grow e5
      exact q t pp dh as H4 st.ex ht st.pl st.ps_ st.ah_
end
end KW
namespace KW
open PySem PySem.Spec PyProof.Rows L2

/-! ### comprehensions -/
/-- what a comprehension has made -/
def Made (R : Nat → V → Hp → Prop) (n : Nat) (p : Addr) (H : Hp) : Prop := ∃ ws, H p = some (.lst ws) ∧ ws.length = n ∧ ∀ i y, ws[i]? = some y → R i y H
section
variable {K : PySem.W.Frag} {σ : L2.St} {H : Hp} {tl te : TE} {tt : TT} {g : TG} {j : Nat} {vs : List Nat} {a : Addr} {xs : List V} {R : Nat → V → Hp → Prop}
theorem made_turn {H1 H' : Hp} {Dl : Addr} {i : Nat} {σ2 : L2.St} (hR : ∀ i y H H', Pe H H' → R i y H → R i y H') (hn : H1 Dl = none) (e : Ex H1 H') (hm : Made R i Dl H') (hi : i ≤ 1000) (ht : EvT tt σ2 H1 true) (he : Ev te σ2 H1 (R i)) :
    tt σ2 H' fun b H3 => if b = true then te σ2 H3 fun y H4 => ∃ acc, H4 Dl = some (.lst acc) ∧ acc.length < sizeLine ∧ (Ex H1 (upd H4 Dl (.lst (acc ++ [y]))) ∧ Made R (i + 1) Dl (upd H4 Dl (.lst (acc ++ [y])))) else (Ex H1 H3 ∧ Made R (i + 1) Dl H3) :=
  ht H' e _ fun H3 e3 => by
    show te σ2 H3 _
    refine he H3 (e.trans e3) _ fun y H4 e4 hy => ?_
    obtain ⟨ws, h1, h2, h3⟩ := hm
    have hD := e4 _ _ (e3 _ _ h1)
    have pe : Pe H4 (upd H4 Dl (.lst (ws ++ [y]))) := pe_updL hD
    refine ⟨ws, hD, by rw [h2]; exact small1000 hi, ex_mut ((e.trans e3).trans e4) hn, ws ++ [y], upd_same, by rw [List.length_append, h2]; rfl, fun i' y' hy' => ?_⟩
    by_cases hlt : i' < ws.length
    · rw [List.getElem?_append_left hlt] at hy'
      exact hR _ _ _ _ ((ex_pe (e3.trans e4)).trans pe) (h3 i' y' hy')
    · rw [List.getElem?_append_right (by omega)] at hy'
      have hi' : i' - ws.length = 0 := by
        have := (List.getElem?_eq_some_iff.mp hy').1
        simp at this
        omega
      rw [hi'] at hy'
      have ey : y = y' := Option.some.inj hy'
      have ei : i' = i := by omega
      rw [ei, ← ey]
      exact hR _ _ _ _ pe hy
theorem evf_lcL (hR : ∀ i y H H', Pe H H' → R i y H → R i y H') (h : EvV tl σ H (.ref a)) (hx : SqL K H a xs) (hz : xs.length ≤ 1000) (hw : ∀ x, wipe ((wipe σ vs).set j (some x)) vs = wipe σ vs)
    (ht : ∀ (i : Nat) (x : V) H1, Ex H H1 → xs[i]? = some x → EvT tt ((wipe σ vs).set j (some x)) H1 true) (he : ∀ (i : Nat) (x : V) H1, Ex H H1 → xs[i]? = some x → Ev te ((wipe σ vs).set j (some x)) H1 (R i)) :
    EvF (tLc (iList K tl) (gName j) tt te vs) σ H (Made R xs.length) := fun H0 e Q q => h H0 e _ fun v H1 e1 hv => by
  cases hv
  refine ⟨a, rfl, ⟨xs, (e.trans e1).seq hx⟩, fun Dl hD => lc_list (K := K) (a := a) (xs := xs) (fun i H' => Ex H1 H' ∧ Made R i Dl H') ⟨ex_new hD, [], upd_same, rfl, fun i y hy => by simp at hy⟩ (fun i H' _ p => ((e.trans e1).trans p.1).seq hx) (fun i x H' hi p => ⟨hw x, ?_⟩) (fun H' p => q Dl H' (e1.free hD) (e1.trans p.1) p.2)⟩
  have hlt := (List.getElem?_eq_some_iff.mp hi).1
  exact made_turn hR hD p.1 p.2 (by omega) (ht i x H1 (e.trans e1) hi) (he i x H1 (e.trans e1) hi)
theorem evf_lcT (hR : ∀ i y H H', Pe H H' → R i y H → R i y H') (h : EvV tl σ H (.ref a)) (hx : SqT K H a xs) (hz : xs.length ≤ 1000) (hw : ∀ x, wipe ((wipe σ vs).set j (some x)) vs = wipe σ vs)
    (ht : ∀ (i : Nat) (x : V) H1, Ex H H1 → xs[i]? = some x → EvT tt ((wipe σ vs).set j (some x)) H1 true) (he : ∀ (i : Nat) (x : V) H1, Ex H H1 → xs[i]? = some x → Ev te ((wipe σ vs).set j (some x)) H1 (R i)) :
    EvF (tLc (iTup K tl) (gName j) tt te vs) σ H (Made R xs.length) := fun H0 e Q q => h H0 e _ fun v H1 e1 hv => by
  cases hv
  refine ⟨a, rfl, ⟨xs, (ex_pe (e.trans e1)).sqT hx⟩, fun Dl hD => lc_tup (K := K) (a := a) (xs := xs) (fun i H' => Ex H1 H' ∧ Made R i Dl H') ⟨ex_new hD, [], upd_same, rfl, fun i y hy => by simp at hy⟩ (fun i H' _ p => (ex_pe ((e.trans e1).trans p.1)).sqT hx) (fun i x H' hi p => ⟨hw x, ?_⟩) (fun H' p => q Dl H' (e1.free hD) (e1.trans p.1) p.2)⟩
  have hlt := (List.getElem?_eq_some_iff.mp hi).1
  exact made_turn hR hD p.1 p.2 (by omega) (ht i x H1 (e.trans e1) hi) (he i x H1 (e.trans e1) hi)
theorem et_yes : EvT tYes σ H true := fun H1 _ _ q => q H1 (Same.refl _)
end
/-- each the data at its place -/
def isAt (K : PySem.W.Frag) (ks : List NestedKey) : Nat → V → Hp → Prop := fun i y H => ∃ k, ks[i]? = some k ∧ Nk K H y k
theorem isAt_pe {K : PySem.W.Frag} {ks : List NestedKey} : ∀ i y H H', Pe H H' → isAt K ks i y H → isAt K ks i y H' := fun i y H H' e ⟨k, h1, h2⟩ => ⟨k, h1, Nk.pe e _ h2⟩
theorem nkAll_of {K : PySem.W.Frag} {H : Hp} : ∀ {ws : List V} {ks : List NestedKey}, ws.length = ks.length → (∀ i y, ws[i]? = some y → isAt K ks i y H) → NkAll K H ws ks
  | [], [], _, _ => .nil
  | [], _ :: _, h, _ => by simp at h
  | _ :: _, [], h, _ => by simp at h
  | w :: ws, k :: ks, h, f => by
    obtain ⟨k', h1, h2⟩ := f 0 w rfl
    have e : k = k' := Option.some.inj h1
    rw [← e] at h2
    refine .cons h2 (nkAll_of (by simpa using h) fun i y hy => ?_)
    obtain ⟨k2, g1, g2⟩ := f (i + 1) y (by simpa using hy)
    exact ⟨k2, by simpa using g1, g2⟩
theorem Made.nk {K : PySem.W.Frag} {H : Hp} {p : Addr} {ks : List NestedKey} (h : Made (isAt K ks) ks.length p H) : ∃ ws, H p = some (.lst ws) ∧ NkAll K H ws ks := by
  obtain ⟨ws, h1, h2, h3⟩ := h
  exact ⟨ws, h1, nkAll_of h2 h3⟩
/-- tuple(xs) -/
def rTupS (K : PySem.W.Frag) : List V → Hp → VK → Prop := fun xs H Q => ∃ p ys, xs = [.ref p] ∧ ((SqL K H p ys ∧ ∀ l, H l = none → Q (.ref l) (upd H l (.tup ys))) ∨ (SqT K H p ys ∧ Q (.ref p) H))
theorem call_tupS {X : Cx} : CallR X (.type "tuple") (rTupS X.K) := call_tuple_of
def rListS (K : PySem.W.Frag) : List V → Hp → VK → Prop := fun xs H Q => ∃ p ys, xs = [.ref p] ∧ (SqL K H p ys ∨ SqT K H p ys) ∧ ∀ l, H l = none → Q (.ref l) (upd H l (.lst ys))
theorem call_listS {X : Cx} : CallR X (.type "list") (rListS X.K) := call_list_of
section
variable {K : PySem.W.Frag} {σ : L2.St} {H : Hp} {ta : TE} {p : Addr} {vs : List V} {ks : List NestedKey}
theorem evn_tupL (ha : EvV ta σ H (.ref p)) (hs : SqL K H p vs) (hv : NkAll K H vs ks) : EvN K (tCB (rTupS K) (tCons ta tNil)) σ H (.tup ks) := fun H1 e Q q =>
  ha H1 e _ fun v H2 e2 h => by
    cases h
    exact ⟨p, vs, rfl, .inl ⟨(e.trans e2).seq hs, fun l hl => q _ _ (e2.trans (ex_new hl)) (.tup (SqT.of upd_same) ((hv.ex (e.trans e2)).ex (ex_new hl)))⟩⟩
/-- .. of a list just made -/
theorem evn_tupF {P : Addr → Hp → Prop} (ha : EvF ta σ H P) (hP : ∀ p H1, Ex H H1 → P p H1 → ∃ vs, H1 p = some (.lst vs) ∧ NkAll K H1 vs ks) : EvN K (tCB (rTupS K) (tCons ta tNil)) σ H (.tup ks) := fun H1 e Q q =>
  ha H1 e _ fun p H2 hn e2 h => by
    obtain ⟨vs, h1, h2⟩ := hP p H2 (e.trans e2) h
    exact ⟨p, vs, rfl, .inl ⟨SqL.of h1, fun l hl => q _ _ (e2.trans (ex_new hl)) (.tup (SqT.of upd_same) (h2.ex (ex_new hl)))⟩⟩
theorem evn_tupT (ha : EvN K ta σ H (.tup ks)) : EvN K (tCB (rTupS K) (tCons ta tNil)) σ H (.tup ks) := fun H1 e Q q =>
  ha H1 e _ fun v H2 e2 h => by
    cases h with
    | @tup a xs _ h1 h2 => exact ⟨a, xs, rfl, .inr ⟨h1, q _ H2 e2 (.tup h1 h2)⟩⟩
theorem evf_listL (ha : EvV ta σ H (.ref p)) (hs : SqL K H p vs) : EvF (tCB (rListS K) (tCons ta tNil)) σ H (isL vs) := fun H1 e Q q =>
  ha H1 e _ fun v H2 e2 h => by
    cases h
    exact ⟨p, vs, rfl, .inl ((e.trans e2).seq hs), fun l hl => q l _ (e2.free hl) (e2.trans (ex_new hl)) upd_same⟩
end
/-! ### the chain -/
section
variable {lo ln : List NestedKey}
theorem chain_end {ah : List (NestedKey × Option NestedKey)} {s : Option NestedKey} : ∀ {n i : Nat}, KM.chainIt ah s i = none → i ≤ n → KM.chain ah s n = KM.chain ah s i
  | 0, i, _, h => by
    have : i = 0 := by omega
    rw [this]
  | n + 1, i, hi, h => by
    by_cases e : i = n + 1
    · rw [e]
    · have hn : KM.chainIt ah s n = none := by
        have go : ∀ d, KM.chainIt ah s (i + d) = none := by
          intro d
          induction d with
          | zero => exact hi
          | succ d ih =>
            show KM.next ah (KM.chainIt ah s (i + d)) = none
            rw [ih]
            rfl
        have := go (n - i)
        rwa [show i + (n - i) = n by omega] at this
      have : KM.chain ah s (n + 1) = KM.chain ah s n := by
        rw [KM.chain, hn]
      rw [this]
      exact chain_end hi (by omega)
theorem chain_len {ah : List (NestedKey × Option NestedKey)} {s : Option NestedKey} : ∀ n, (KM.chain ah s n).length ≤ n
  | 0 => Nat.le_refl _
  | n + 1 => by
    have ih := chain_len (ah := ah) (s := s) n
    rw [KM.chain]
    split
    · omega
    · rw [List.length_append, List.length_singleton]
      omega
end
theorem PL.getA {K : PySem.W.Frag} {H : Hp} : ∀ {as : List Addr} {ps : List (List NestedKey)} {i : Nat} {a : Addr}, PL K H as ps → as[i]? = some a → ∃ p vs, ps[i]? = some p ∧ H a = some (.lst vs) ∧ NkAll K H vs p
  | _, _, _, _, .nil, e => by simp at e
  | _, _, 0, _, .cons ⟨vs, a, b⟩ t, e => by
    simp at e
    subst e
    exact ⟨_, vs, rfl, a, b⟩
  | _, _, i + 1, a, .cons _ t, e => by
    obtain ⟨p, vs, h1, h2, h3⟩ := PL.getA (i := i) (a := a) t (by simpa using e)
    exact ⟨p, vs, by simpa using h1, h2, h3⟩
section
variable {K : PySem.W.Frag} {σ : L2.St} {H : Hp} {ta : TE} {D : Ends} {tz : TS} {l : Addr} {xs : List V} {rr : V → List V → Hp → VK → Prop}
theorem q_mt0 (hl : H l = some (.lst xs)) (ha : EvV ta σ H (.ref l)) (k : ∀ H1, Ex H H1 → H1 l = some (.lst xs) → rr (.ref l) [] H1 fun _ H2 => tz D σ H2) : tSeq (tDrop (tBM0 K "list" rr ta)) tz D σ H := ha H (Same.refl _) _ fun x H1 e1 p1 => by
  cases p1
  exact ⟨.inl ⟨rfl, xs, .inl (.inl (e1 _ _ hl))⟩, k H1 e1 (e1 _ _ hl)⟩
end
theorem AH.get {K : PySem.W.Frag} {H : Hp} {x : NestedKey} {o : Option NestedKey} : ∀ {m : List (NestedKey × V)} {ah : List (NestedKey × Option NestedKey)}, AH K H m ah → KM.lk ah x = some o → ∃ v, valV m x = some v ∧ Nk K H v (optK o)
  | _, _, .nil, h => by simp [KM.lk] at h
  | p :: m, q :: ah, .cons ⟨h1, h2⟩ t, h => by
    unfold KM.lk at h
    by_cases e : q.1 = x
    · rw [if_pos e] at h
      have e2 : q.2 = o := Option.some.inj h
      rw [e2] at h2
      exact ⟨p.2, valV_pos (h1.trans e), h2⟩
    · rw [if_neg e] at h
      obtain ⟨v, g1, g2⟩ := AH.get t h
      exact ⟨v, by rw [valV_neg (fun z => e (h1.symm.trans z))]; exact g1, g2⟩
theorem lk_mem {x : NestedKey} {o : Option NestedKey} : ∀ {ah : List (NestedKey × Option NestedKey)}, KM.lk ah x = some o → x ∈ ah.map (·.1)
  | [], h => by simp [KM.lk] at h
  | q :: ah, h => by
    unfold KM.lk at h
    by_cases e : q.1 = x
    · exact List.mem_cons.mpr (.inl e.symm)
    · rw [if_neg e] at h
      exact List.mem_cons_of_mem _ (lk_mem h)
/-- the chain comes to its end, and all its labels are known -/
structure ChainOk (lo ln : List NestedKey) : Prop where
  ends : KM.chainIt (KM.pilesOf lo ln).2 (KM.startOf (KM.pilesOf lo ln).1) lo.length = none
  known : ∀ i x, i < lo.length → KM.chainIt (KM.pilesOf lo ln).2 (KM.startOf (KM.pilesOf lo ln).1) i = some x → ∃ o, KM.lk (KM.pilesOf lo ln).2 x = some o
section
variable {P : Program} {w : World} {K : PySem.W.Frag} {mg : Str → Option Value} {base : Heap}
abbrev DRowP (K : PySem.W.Frag) (mg : Str → Option Value) := Df K mg "row_paper" sRowP ["old", "new"]
def paperK (lo ln : List NestedKey) : NestedKey := .tup [.tup (KM.stays lo ln), .tup ((KM.pilesOf lo ln).1.map NestedKey.tup)]
def spRowP (K : PySem.W.Frag) : Sp := fun vs H Q _ => ∃ (v u : V) (lo ln : List NestedKey), vs = [v, u] ∧ Nk K H v (.tup lo) ∧ Nk K H u (.tup ln) ∧ labs ln ∧ lo.Nodup ∧ ln.Nodup ∧ (∀ l ∈ lo, l ∈ ln) ∧ lo.length ≤ 100 ∧ ln.length ≤ 100 ∧ ChainOk lo ln ∧
  ∀ r H', Ex H H' → Nk K H' r (paperK lo ln) → Q r H'
theorem scRowP : FnScope ["old", "new", "piles", "ahead", "stays", "label", "pile"] ["old", "new"] (defScope sRowP) := ⟨rfl, rfl, rfl, by decide +kernel, rfl, by decide +kernel, by decide +kernel⟩
theorem ok_rowP (D : DRowP K mg) (B : Bl mg) (D1 : DPlaces K mg) (D2 : DPiles K mg) : FnOk P w K mg base CX0 3 D.f D.fd ["old", "new"] (spRowP K) := by
  have G2 : FnOk P w K mg base CX0 2 D2.f D2.fd ["old", "new"] (spPiles P w K) := ok_piles D2 B D1
  refine D.F.ok scRowP (fun vs H Q E h => ?_) (fun cdv A outer s H vs Q E hr h => ?_)
  · obtain ⟨v, u, lo, ln, rfl, _⟩ := h
    rfl
  obtain ⟨v, u, lo, ln, rfl, hv, hu, hln, hno, hnn, hsub, hl1, hl2, hch, q⟩ := h
  refine ⟨_, pss_cons (ps_asg (pe_call G2 hr (by rfl) D2.g D2.F.kp D2.b .nil pass0 (pa_cons (pv 0) (pa_cons (pv 1) pa_nil))) (pg_tup rfl (pgs_cons (pg_name (i := 2) scRowP.nd rfl (.inl rfl)) (pgs_cons (pg_name (i := 3) scRowP.nd rfl (.inl rfl)) pgs_nil))))
    (pss_cons (ps_set (i := 4) scRowP.nd rfl (.inl rfl) (pe_lst pa_nil))
    (pss_cons (ps_set (i := 5) scRowP.nd rfl (.inl rfl) pe_non)
    (pss_cons (ps_if (pt_cmpR op_gt (pe_callB call_lenS (by rfl) B.len PySem.boot_len (pa_cons (pv 2) pa_nil)) pe_int (nomark _))
        (pss_one (ps_set (i := 5) scRowP.nd rfl (.inl rfl) (pe_ix ix_list (pe_ix ix_list (pv 2) (pe_un un_neg pe_int) plainIx) (pe_un un_neg pe_int) plainIx))) pss_nil)
    (pss_cons (ps_while PassesOwn.never (pt_cmpR op_notNs (pv 5) pe_non (nomark _))
        (pss_cons (ps_expr (pe_bm PySem.F.plainAttrs_list PySem.F.slot_list_append PySem.F.type_list_append mt_append (pv 4) (pa_cons (pv 5) pa_nil)))
        (pss_one (ps_set (i := 5) scRowP.nd rfl (.inl rfl) (pe_getN hr.units (pv 3) (pv 5) noSlV)))))
    (pss_cons (ps_expr (pe_bm0 PySem.F.plainAttrs_list PySem.F.slot_list_reverse PySem.F.type_list_reverse mt_reverse (pv 4)))
    (pss_one (ps_ret (pe_tup (pa_cons (pe_callTy call_tupS (by rfl) B.tuple (by decide +kernel) (pa_cons (pv 4) pa_nil))
      (pa_cons (pe_callTy call_tupS (by rfl) B.tuple (by decide +kernel) (pa_cons
        (pe_lc (own := [("pile", 6)]) (g := gName 6) (tt := tYes) (te := tCB (rTupS K) (tCons (tVar 6) tNil)) rfl scRowP.nd (pi_list (pv 2)) (blkOk_by (N := ["old", "new", "piles", "ahead", "stays", "label", "pile"]) (sc := defScope sRowP) (by decide +kernel)) (fun _ _ _ _ _ => pg_name (i := 6) scRowP.nd rfl (Or.inl rfl)) (fun _ _ _ _ _ => pts_nil)
          (fun _ _ _ _ _ => pe_callTy (T := "tuple") call_tupS (by rfl) B.tuple (by decide +kernel) (pa_cons (pv 6) pa_nil))) pa_nil)) pa_nil)))))))))), ?_⟩
  -- piles, ahead
  refine q_asgG (P := fun r H' => ∃ t pp dh as, r = .ref t ∧ SqT K H' t [.ref pp, .ref dh] ∧ H' pp = some (.lst (as.map V.ref)) ∧ PL K H' as (KM.pilesOf lo ln).1 ∧ (∃ m, DN P w K H' dh m ∧ AH K H' m (KM.pilesOf lo ln).2))
    (ev_call (σ := [some v, some u, none, none, none, none, none]) (ea_cons (K := K) (evn_var (i := 0) rfl hv) (ea_cons (evn_var (i := 1) rfl hu) ea_nil)) fun vs H1 e p Q' q' => by
      cases p with
      | cons p1 p2 =>
        cases p2 with
        | cons p2 p3 =>
          cases p3
          exact ⟨_, _, lo, ln, rfl, p1, p2, hln, hno, hnn, hsub, hl1, hl2, fun t pp dh as H2 e2 h1 h2 h3 h4 => q' _ H2 e2 ⟨t, pp, dh, as, rfl, h1, h2, h3, h4⟩⟩) fun r H1 e1 hr1 => ?_
  obtain ⟨t, pp, dh, as, rfl, ht, hpp, hpl, m, hm1, hm2⟩ := hr1
  refine ⟨t, _, rfl, ht, rfl, _, _, rfl, _, _, rfl, rfl, ?_⟩
  refine q_asgF (evl_lst ea_vnil) fun st H2 hst e2 hst2 => ?_
  refine q_asg (evn_non (K := K)) fun z H3 e3 hz => ?_
  cases hz
  have e23 := e2.trans e3
  have hlen : (as.map V.ref).length = (KM.pilesOf lo ln).1.length := by rw [List.length_map]; exact hpl.length
  have hps100 : (KM.pilesOf lo ln).1.length ≤ 100 := Nat.le_trans (piles_len lo.length) hl1
  have hOk : PilesOk lo (KM.pilesOf lo ln).1 := pilesOk_at lo.length
  have hkeys : (KM.pilesOf lo ln).2.map (·.1) = lo := by
    have := ahead_keys (lo := lo) (ln := ln) lo.length
    rw [List.take_length] at this
    exact this
  obtain ⟨hends, hknown⟩ := hch
  have hst3 : KM.stays lo ln = (KM.chain (KM.pilesOf lo ln).2 (KM.startOf (KM.pilesOf lo ln).1) lo.length).reverse := rfl
  have hst0 : H3 st = some (.lst []) := e3 _ _ hst2
  -- from the chain's start on
  have fin : ∀ (z : V) (H5 : Hp) (D' : Ends), D'.rt = Q → Ex H3 H5 → Nk K H5 z (optK (KM.startOf (KM.pilesOf lo ln).1)) →
      tSeq (tWhile (tTest (tOp rNotN (tVar 5) (tC .non))) (tSeq (tDrop (tBM K "list" rAppend (tVar 4) (tCons (tVar 5) tNil))) (tAsg (tGetN (rGetN P w K) (tVar 3) (tVar 5)) (gName 5))))
        (tSeq (tDrop (tBM0 K "list" rReverse (tVar 4))) (tRet (tTup (tCons (tCB (rTupS K) (tCons (tVar 4) tNil)) (tCons (tCB (rTupS K) (tCons (tLc (iList K (tVar 2)) (gName 6) tYes (tCB (rTupS K) (tCons (tVar 6) tNil)) [6]) tNil)) tNil))))) D'
        [some v, some u, some (.ref pp), some (.ref dh), some (.ref st), some z, none] H5 := by
    intro z H5 D' hD' e35 hz
    refine q_while (fun m' σ' H' => ∃ (i : Nat) (z : V) (vs : List V), m' = lo.length - i ∧ i ≤ lo.length ∧ σ' = [some v, some u, some (.ref pp), some (.ref dh), some (.ref st), some z, none] ∧ Ex H1 H' ∧ H' st = some (.lst vs) ∧ NkAll K H' vs (KM.chain (KM.pilesOf lo ln).2 (KM.startOf (KM.pilesOf lo ln).1) i) ∧ Nk K H' z (optK (KM.chainIt (KM.pilesOf lo ln).2 (KM.startOf (KM.pilesOf lo ln).1) i)))
      lo.length ⟨0, z, [], by omega, Nat.zero_le _, rfl, e23.trans e35, e35 _ _ hst0, .nil, hz⟩ ?_
    rintro m' σ' H' ⟨i, z, vs, rfl, hi, rfl, e, hs, hvs, hz⟩
    cases hci : KM.chainIt (KM.pilesOf lo ln).2 (KM.startOf (KM.pilesOf lo ln).1) i with
    | none =>
      rw [hci] at hz
      refine ⟨false, et_is (et_test (evv_notN (evn_var rfl hz))) (by simp [optK]), (fun h => nomatch h), fun _ H6 e6 => ?_⟩
      have hce := chain_end hci hi
      refine q_mt0 (e6 _ _ hs) (evv_var rfl) fun H7 e7 h7 => ?_
      have e17 := (e.trans e6).trans e7
      have pe : Pe H7 (upd H7 st (.lst vs.reverse)) := pe_updL h7
      have ex8 : Ex H1 (upd H7 st (.lst vs.reverse)) := ex_mut e17 hst
      refine ⟨st, vs, rfl, rfl, h7, ?_⟩
      show tRet _ D' _ _
      refine s_ret (P := isN K (paperK lo ln)) ?_ fun r H9 e9 h9 => by
        rw [hD']
        exact q r H9 ((e1.trans ex8).trans e9) h9
      have n1 : NkAll K (upd H7 st (.lst vs.reverse)) vs.reverse (KM.stays lo ln) := by
        rw [hst3, hce]
        exact (NkAll.pe pe _ ((hvs.ex e6).ex e7)).reverse
      have hpl8 := hpl.ex ex8
      refine evn_tup (ea_cons (evn_tupL (evv_var rfl) (SqL.of upd_same) n1) (ea_cons (evn_tupF (evf_lcL (R := isAt K ((KM.pilesOf lo ln).1.map NestedKey.tup)) isAt_pe (evv_var rfl) (SqL.of (ex8 _ _ hpp)) (by rw [hlen]; omega) (fun _ => rfl) (fun i x H2 e2 hx => et_yes) (fun i x H2 e2 hx => ?_)) (fun p H2 e2 hm => ?_)) ea_nil)) (by show 2 ≤ 1000; decide)
      · rw [List.getElem?_map] at hx
        obtain ⟨a, ha, rfl⟩ := Option.map_eq_some_iff.mp hx
        obtain ⟨p, ws, g1, g2, g3⟩ := (hpl8.ex e2).getA ha
        exact (evn_tupL (ks := p) (evv_var rfl) (SqL.of g2) g3).imp fun y H3 _ hy => ⟨_, by rw [List.getElem?_map, g1]; rfl, hy⟩
      · rw [hlen, ← List.length_map (f := NestedKey.tup)] at hm
        exact hm.nk
    | some x =>
      have hin : i < lo.length := by
        apply Classical.byContradiction
        intro hc
        have : i = lo.length := by omega
        rw [this, hends] at hci
        cases hci
      obtain ⟨o, ho⟩ := hknown i x hin hci
      have hxlo : x ∈ lo := by
        rw [← hkeys]
        exact lk_mem ho
      obtain ⟨kx, rfl, hdx⟩ := hln x (hsub x hxlo)
      rw [hci] at hz
      refine ⟨true, et_is (et_test (evv_notN (evn_var rfl hz))) (by simp [optK]), fun _ H6 e6 => ?_, (fun h => nomatch h)⟩
      refine ⟨fun σ2 H2 => ∃ (z : V) (vs : List V), σ2 = [some v, some u, some (.ref pp), some (.ref dh), some (.ref st), some z, none] ∧ Ex H1 H2 ∧ H2 st = some (.lst vs) ∧ NkAll K H2 vs (KM.chain (KM.pilesOf lo ln).2 (KM.startOf (KM.pilesOf lo ln).1) (i + 1)) ∧ Nk K H2 z (optK (KM.chainIt (KM.pilesOf lo ln).2 (KM.startOf (KM.pilesOf lo ln).1) (i + 1))),
        fun σ2 H2 ⟨z, vs, h1, h2, h3, h4, h5⟩ => ⟨lo.length - (i + 1), by omega, i + 1, z, vs, rfl, hin, h1, h2, h3, h4, h5⟩, ?_⟩
      refine q_app (e6 _ _ hs) (evv_var rfl) (evn_var rfl (hz.ex e6)) (by rw [hvs.length]; have := chain_len (ah := (KM.pilesOf lo ln).2) (s := KM.startOf (KM.pilesOf lo ln).1) i; omega) fun y H7 e7 hy => ?_
      have h7 := e7 _ _ (e6 _ _ hs)
      have e17 := (e.trans e6).trans e7
      have pe : Pe H7 (upd H7 st (.lst (vs ++ [y]))) := pe_updL h7
      have ex8 : Ex H1 (upd H7 st (.lst (vs ++ [y]))) := ex_mut e17 hst
      obtain ⟨v', g1, g2⟩ := hm2.get ho
      refine s_asg (evv_getN (evv_var rfl) (hm1.ex ex8) (evn_var rfl (Nk.pe pe _ ((hz.ex e6).ex e7))) (by omega) g1) fun y2 H9 e9 hy2 => ?_
      cases hy2
      refine ⟨v', vs ++ [y], rfl, ex8.trans e9, e9 _ _ upd_same, ?_, ?_⟩
      · have : KM.chain (KM.pilesOf lo ln).2 (KM.startOf (KM.pilesOf lo ln).1) (i + 1) = KM.chain (KM.pilesOf lo ln).2 (KM.startOf (KM.pilesOf lo ln).1) i ++ [.tup kx] := by
          rw [KM.chain, hci]
        rw [this]
        exact (NkAll.pe pe _ (((hvs.ex e6).ex e7).append (.one hy))).ex e9
      · have : KM.chainIt (KM.pilesOf lo ln).2 (KM.startOf (KM.pilesOf lo ln).1) (i + 1) = o := by
          rw [KM.chainIt, hci]
          show (KM.lk (KM.pilesOf lo ln).2 (.tup kx)).getD none = o
          rw [ho]
          rfl
        rw [this]
        exact g2.ex (ex8.trans e9)
  -- the start
  refine q_if (b := decide (0 < (KM.pilesOf lo ln).1.length)) (et_is (et_test (evv_I0 (g := fun i j => .bl (decide (j < i))) (evv_lenL (evv_var rfl) (SqL.of (e23 _ _ hpp))) evv_c)) (decide_eq_decide.mpr (by rw [hlen]; omega))) (fun hb H4 e4 => ?_) (fun hb H4 e4 => ?_)
  · have hpos := of_decide_eq_true hb
    obtain ⟨p, hp⟩ : ∃ p, (KM.pilesOf lo ln).1[(KM.pilesOf lo ln).1.length - 1]? = some p := ⟨_, List.getElem?_eq_getElem (by omega)⟩
    obtain ⟨y, hy, hylo⟩ := hOk.last hp
    have e14 := e23.trans e4
    obtain ⟨a, vs, ha, hH, hvs⟩ := (hpl.ex e14).get hp
    have hla : (as.map V.ref).getLast? = some (V.ref a) := by
      rw [List.getLast?_eq_getElem?, List.getElem?_map, hlen, ha]
      rfl
    have hstart : KM.startOf (KM.pilesOf lo ln).1 = some y := by
      unfold KM.startOf
      rw [List.getLast?_eq_getElem?, hp]
      exact hy
    refine s_asg (evn_ixL (evv_ixL (evv_var rfl) (SqL.of (e14 _ _ hpp)) (evv_neg evv_c) (atI_lastK hla)) (SqL.of hH) hvs (evv_neg evv_c) (atI_lastK hy)) fun z H5 e5 hz => ?_
    exact fin z H5 _ rfl (e4.trans e5) (by rw [hstart]; exact hz)
  · have h0 : (KM.pilesOf lo ln).1 = [] := by
      have := of_decide_eq_false hb
      exact List.length_eq_zero_iff.mp (by omega)
    exact fin .non H4 _ rfl e4 (by rw [h0]; exact .non)
end
end KW
namespace KW
open PySem PySem.Spec PyProof.Rows L2

/-- the label stands in both rows with one tag -/
def KeptIn (po pn : List (NestedKey × NestedKey)) (l : NestedKey) : Prop := ∃ (k j : Nat) (t : NestedKey) (r r' : List NestedKey),
  posOf (po.map (·.1)) l = some k ∧ po[k]? = some (l, .tup (t :: r)) ∧ posOf (pn.map (·.1)) l = some j ∧ pn[j]? = some (l, .tup (t :: r')) ∧ t.depth ≤ 8
section
variable {P : Program} {w : World} {K : PySem.W.Frag} {mg : Str → Option Value} {base : Heap}
abbrev DIsKept (K : PySem.W.Frag) (mg : Str → Option Value) := Df K mg "is_kept" sIsKept ["old", "new", "label"]
abbrev DKeptL (K : PySem.W.Frag) (mg : Str → Option Value) := Df K mg "kept_labels" sKeptL ["row", "old", "new"]
def spIsKept (K : PySem.W.Frag) : Sp := fun vs H Q _ => ∃ (v u b : V) (po pn : List (NestedKey × NestedKey)) (l : NestedKey), vs = [v, u, b] ∧ Nk K H v (rowK po) ∧ Nk K H u (rowK pn) ∧ Nk K H b l ∧ l.depth ≤ 8 ∧ po.length ≤ 1000 ∧ pn.length ≤ 1000 ∧ KeptIn po pn l ∧
  ∀ H', Ex H H' → Q (.bl true) H'
theorem scIsKept : FnScope ["old", "new", "label", "k", "j"] ["old", "new", "label"] (defScope sIsKept) := ⟨rfl, rfl, rfl, by decide +kernel, rfl, by decide +kernel, by decide +kernel⟩
theorem ok_isKept (D : DIsKept K mg) (B : Bl mg) (D1 : DPlace K mg) : FnOk P w K mg base CX0 2 D.f D.fd ["old", "new", "label"] (spIsKept K) := by
  have G1 : FnOk P w K mg base CX0 1 D1.f D1.fd ["row", "label"] (spPlace K) := ok_place D1 B
  refine D.F.ok scIsKept (fun vs H Q E h => ?_) (fun cdv A outer s H vs Q E hr h => ?_)
  · obtain ⟨v, u, b, po, pn, l, rfl, _⟩ := h
    rfl
  obtain ⟨v, u, b, po, pn, l, rfl, hv, hu, hb, hd, hl1, hl2, ⟨k, j, t, r, r', k1, k2, k3, k4, k5⟩, q⟩ := h
  refine ⟨_, pss_cons (ps_set (i := 3) scIsKept.nd rfl (.inl rfl) (pe_call G1 hr (by rfl) D1.g D1.F.kp D1.b .nil pass0 (pa_cons (pv 0) (pa_cons (pv 2) pa_nil))))
    (pss_cons (ps_set (i := 4) scIsKept.nd rfl (.inl rfl) (pe_call G1 hr (by rfl) D1.g D1.F.kp D1.b .nil pass0 (pa_cons (pv 1) (pa_cons (pv 2) pa_nil))))
    (pss_one (ps_ret (pe_and (pe_cmpR op_notNs (pv 3) pe_non (nomark _)) (pe_and (pe_cmpR op_notNs (pv 4) pe_non (nomark _))
      (pe_one (pe_cmpR (op_eqN hr.units) (pe_ix ix_tup (pe_ix ix_tup (pe_ix ix_tup (pv 0) (pv 3) plainIx) pe_int plainIx) pe_int plainIx) (pe_ix ix_tup (pe_ix ix_tup (pe_ix ix_tup (pv 1) (pv 4) plainIx) pe_int plainIx) pe_int plainIx) (nomark _)))))))), ?_⟩
  refine q_asg (ev_place (σ := [some v, some u, some b, none, none]) (ps := po) (l := l) (evn_var rfl hv) (evn_var rfl hb) hd hl1) fun z H1 e1 h1 => ?_
  rw [k1] at h1
  have h1 : Nk K H1 z (.num (k : Int)) := h1
  refine q_asg (ev_place (ps := pn) (l := l) (evn_var rfl (hu.ex e1)) (evn_var rfl (hb.ex e1)) hd hl2) fun y H2 e2 h2 => ?_
  rw [k3] at h2
  have h2 : Nk K H2 y (.num (j : Int)) := h2
  have e12 := e1.trans e2
  refine s_ret (P := isV (.bl true)) ?_ fun r H3 e3 h3 => by
    cases h3
    exact q H3 (e12.trans e3)
  refine evv_is (evv_and (evv_notN (evn_var rfl (h1.ex e2))) fun _ => evv_and (evv_notN (evn_var rfl h2)) fun _ => evv_eqN
    (evn_ix (evn_ix (evn_ix (ks := po.map pairK) (evn_var rfl (hv.ex e12)) (EvN.int (evn_var rfl (h1.ex e2))) (atI_nat (by rw [List.getElem?_map, k2]; rfl))) evv_c (atI_nat (j := 1) rfl)) evv_c (atI_nat (j := 0) rfl))
    (evn_ix (evn_ix (evn_ix (ks := pn.map pairK) (evn_var rfl (hu.ex e12)) (EvN.int (evn_var rfl h2)) (atI_nat (by rw [List.getElem?_map, k4]; rfl))) evv_c (atI_nat (j := 1) rfl)) evv_c (atI_nat (j := 0) rfl)) (.inl (by omega))) ?_
  simp
theorem ev_isKept {E : XK} {σ : L2.St} {H : Hp} {ta tb tc : TE} {po pn : List (NestedKey × NestedKey)} {l : NestedKey} (ha : EvN K ta σ H (rowK po)) (hb : EvN K tb σ H (rowK pn)) (hc : EvN K tc σ H l) (hd : l.depth ≤ 8) (h1 : po.length ≤ 1000) (h2 : pn.length ≤ 1000) (hk : KeptIn po pn l) :
    EvV (tCall (spIsKept K) [] E (tCons ta (tCons tb (tCons tc tNil)))) σ H (.bl true) :=
  ev_call (ea_cons ha (ea_cons hb (ea_cons hc ea_nil))) fun vs H1 e p Q q => by
    cases p with
    | cons p1 p2 =>
      cases p2 with
      | cons p2 p3 =>
        cases p3 with
        | cons p3 p4 =>
          cases p4
          exact ⟨_, _, _, po, pn, l, rfl, p1, p2, p3, hd, h1, h2, hk, fun H' e' => q _ H' e' rfl⟩

/-! ### kept_labels -/
def spKeptL (K : PySem.W.Frag) : Sp := fun vs H Q _ => ∃ (a v u : V) (pr po pn : List (NestedKey × NestedKey)), vs = [a, v, u] ∧ Nk K H a (rowK pr) ∧ Nk K H v (rowK po) ∧ Nk K H u (rowK pn) ∧ pr.length ≤ 1000 ∧ po.length ≤ 1000 ∧ pn.length ≤ 1000 ∧ (∀ p ∈ pr, p.1.depth ≤ 8 ∧ KeptIn po pn p.1) ∧
  ∀ p ws H', H p = none → Ex H H' → H' p = some (.lst ws) → NkAll K H' ws (pr.map (·.1)) → Q (.ref p) H'
theorem scKeptL : FnScope ["row", "old", "new", "one"] ["row", "old", "new"] (defScope sKeptL) := ⟨rfl, rfl, rfl, by decide +kernel, rfl, by decide +kernel, by decide +kernel⟩
theorem ok_keptL (D : DKeptL K mg) (B : Bl mg) (D1 : DPlace K mg) (D2 : DIsKept K mg) : FnOk P w K mg base CX0 3 D.f D.fd ["row", "old", "new"] (spKeptL K) := by
  have G2 : FnOk P w K mg base CX0 2 D2.f D2.fd ["old", "new", "label"] (spIsKept K) := ok_isKept D2 B D1
  refine D.F.ok scKeptL (fun vs H Q E h => ?_) (fun cdv A outer s H vs Q E hr h => ?_)
  · obtain ⟨a, v, u, pr, po, pn, rfl, _⟩ := h
    rfl
  obtain ⟨a, v, u, pr, po, pn, rfl, ha, hv, hu, l1, l2, l3, hk, q⟩ := h
  refine ⟨_, pss_one (ps_ret (pe_lc (own := [("one", 3)]) (g := gName 3) (tt := tB (tCall (spIsKept K) [] E0 (tCons (tVar 1) (tCons (tVar 2) (tCons (tOp (rIxT K) (tVar 3) (tC (.int 0))) tNil))))) (te := tOp (rIxT K) (tVar 3) (tC (.int 0))) rfl scKeptL.nd (pi_tup (pv 0))
    (blkOk_by (N := ["row", "old", "new", "one"]) (sc := defScope sKeptL) (by decide +kernel)) (fun _ _ _ _ _ => pg_name (i := 3) scKeptL.nd rfl (Or.inl rfl))
    (fun _ _ _ _ _ => pts_one (pt_val (pe_call G2 hr (by rfl) D2.g D2.F.kp D2.b .nil pass0 (pa_cons (pv 1) (pa_cons (pv 2) (pa_cons (pe_ix ix_tup (pv 3) pe_int plainIx) pa_nil))))))
    (fun _ _ _ _ _ => pe_ix ix_tup (pv 3) pe_int plainIx))), ?_⟩
  cases ha with
  | @tup aa xs _ a1 a2 =>
  have hlen : xs.length = pr.length := by rw [a2.length, List.length_map]
  have hel : ∀ {i : Nat} {x : V} {H1 : Hp}, Ex H H1 → xs[i]? = some x → ∃ p, pr[i]? = some p ∧ Nk K H1 x (pairK p) := fun e hx => by
    obtain ⟨k, hk1, hk2⟩ := a2.getV hx
    rw [List.getElem?_map] at hk1
    obtain ⟨p, hp, rfl⟩ := Option.map_eq_some_iff.mp hk1
    exact ⟨p, hp, hk2.ex e⟩
  refine evf_lcT (σ := [some (.ref aa), some v, some u, none]) (R := isAt K (pr.map (·.1))) isAt_pe (evv_var rfl) a1 (by omega) (fun _ => rfl) (fun i x H1 e1 hx => ?_) (fun i x H1 e1 hx => ?_) H (Same.refl _) Q fun p H1 hn e1 hm => ?_
  · obtain ⟨p, hp, np⟩ := hel e1 hx
    obtain ⟨hd, hkp⟩ := hk p (List.mem_of_getElem? hp)
    exact et_B (ev_isKept (evn_var rfl (hv.ex e1)) (evn_var rfl (hu.ex e1)) (evn_ix (evn_var rfl np) evv_c (atI_nat (j := 0) (v := p.1) rfl)) hd l2 l3 hkp)
  · obtain ⟨p, hp, np⟩ := hel e1 hx
    exact (evn_ix (evn_var rfl np) evv_c (atI_nat (j := 0) (v := p.1) rfl)).imp fun y H2 _ hy => ⟨p.1, by rw [List.getElem?_map, hp]; rfl, hy⟩
  · rw [hlen, ← List.length_map (f := (·.1))] at hm
    obtain ⟨ws, h1, h2⟩ := hm.nk
    exact q p ws H1 hn e1 h1 h2
theorem evf_keptL {E : XK} {σ : L2.St} {H : Hp} {ta tb tc : TE} {pr po pn : List (NestedKey × NestedKey)} (ha : EvN K ta σ H (rowK pr)) (hb : EvN K tb σ H (rowK po)) (hc : EvN K tc σ H (rowK pn)) (l1 : pr.length ≤ 1000) (l2 : po.length ≤ 1000) (l3 : pn.length ≤ 1000) (hk : ∀ p ∈ pr, p.1.depth ≤ 8 ∧ KeptIn po pn p.1) :
    EvF (tCall (spKeptL K) [] E (tCons ta (tCons tb (tCons tc tNil)))) σ H (fun p H' => ∃ ws, H' p = some (.lst ws) ∧ NkAll K H' ws (pr.map (·.1))) := fun H1 e1 Q q =>
  ea_cons ha (ea_cons hb (ea_cons hc ea_nil)) H1 e1 _ fun vs H2 e2 p => by
    cases p with
    | cons p1 p2 =>
      cases p2 with
      | cons p2 p3 =>
        cases p3 with
        | cons p3 p4 =>
          cases p4
          exact ⟨_, _, _, pr, po, pn, rfl, p1, p2, p3, l1, l2, l3, hk, fun p ws H' hn e' h1 h2 => q p H' (e2.free hn) (e2.trans e') ⟨ws, h1, h2⟩⟩

/-! ### place_behind -/
abbrev DPlaceB (K : PySem.W.Frag) (mg : Str → Option Value) := Df K mg "place_behind" sPlaceB ["now", "new", "k"]
def spPlaceB (K : PySem.W.Frag) : Sp := fun vs H Q _ => ∃ (p : Addr) (u : V) (k : Nat) (vs0 : List V) (ks : List NestedKey) (pn : List (NestedKey × NestedKey)), vs = [.ref p, u, .int (k : Int)] ∧ SqL K H p vs0 ∧ NkAll K H vs0 ks ∧ Nk K H u (rowK pn) ∧ (∀ j, k = j + 1 → ∃ x, pn[j]? = some x ∧ x.1 ∈ ks ∧ x.1.depth ≤ 8) ∧
  ∀ H', Ex H H' → Q (.int (KM.placeOf ks (KM.prevOf (pn.map (·.1)) k) : Nat)) H'
theorem scPlaceB : FnScope ["now", "new", "k"] ["now", "new", "k"] (defScope sPlaceB) := ⟨rfl, rfl, rfl, by decide +kernel, rfl, by decide +kernel, by decide +kernel⟩
theorem ok_placeB (D : DPlaceB K mg) : FnOk P w K mg base CX0 1 D.f D.fd ["now", "new", "k"] (spPlaceB K) := by
  refine D.F.ok scPlaceB (fun vs H Q E h => ?_) (fun cdv A outer s H vs Q E hr h => ?_)
  · obtain ⟨p, u, k, vs0, ks, pn, rfl, _⟩ := h
    rfl
  obtain ⟨p, u, k, vs0, ks, pn, rfl, hp, hvs, hu, hx, q⟩ := h
  refine ⟨_, pss_cons (ps_if (pt_cmpR op_eq (pv 2) pe_int (nomark _)) (pss_one (ps_ret pe_int)) pss_nil)
    (pss_one (ps_ret (pe_op op_add (pe_bm PySem.F.plainAttrs_list PySem.F.slot_list_index PySem.F.type_list_index (mt_indexN hr.units) (pv 0) (pa_cons (pe_ix ix_tup (pe_ix ix_tup (pv 1) (pe_op op_sub (pv 2) pe_int) plainIx) pe_int plainIx) pa_nil)) pe_int))), ?_⟩
  refine q_when (b := decide (k = 0)) (et_is (et_test (evv_eq rfl (evv_var (σ := [some (.ref p), some u, some (.int (k : Int))]) (i := 2) rfl) evv_c)) (decide_eq_decide.mpr (by rw [V.int.injEq]; omega))) (fun hb H1 e1 => ?_) (fun hb H1 e1 => ?_)
  · have h0 : k = 0 := of_decide_eq_true hb
    subst h0
    refine s_ret (P := isV (.int 0)) evv_c fun r H2 e2 h2 => ?_
    cases h2
    exact q H2 (e1.trans e2)
  · have h0 : k ≠ 0 := of_decide_eq_false hb
    obtain ⟨j, rfl⟩ : ∃ j, k = j + 1 := ⟨k - 1, by omega⟩
    obtain ⟨x, hj, hm, hd⟩ := hx j rfl
    refine s_ret (P := isV (.int ((ks.idxOf x.1 : Nat) + 1 : Int))) (evv_I0 (g := fun i j => .int (i + j)) ?_ evv_c) fun r H2 e2 h2 => ?_
    · refine fun H2 e2 Q' q' => ?_
      refine ⟨_, rfl, .inl ⟨rfl, vs0, (e1.trans e2).seq hp⟩, ?_⟩
      refine ea_cons (K := K) (evn_ix (evn_ix (ks := pn.map pairK) (evn_var rfl (hu.ex e1)) (evv_is (evv_I0 (g := fun i j => .int (i - j)) (evv_var rfl) evv_c) (show V.int (((j + 1 : Nat) : Int) - 1) = V.int (j : Int) by congr 1; omega)) (atI_nat (by rw [List.getElem?_map, hj]; rfl))) evv_c (atI_nat (j := 0) (v := x.1) rfl)) ea_nil H2 e2 _ fun ws H3 e3 p3 => ?_
      cases p3 with
      | cons p3 p4 =>
        cases p4
        exact ⟨p, _, x.1, ks, vs0, rfl, rfl, ((e1.trans e2).trans e3).seq hp, ((hvs.ex e1).ex e2).ex e3, p3, by omega, hm, q' _ H3 e3 rfl⟩
    · cases h2
      have : KM.placeOf ks (KM.prevOf (pn.map (·.1)) (j + 1)) = ks.idxOf x.1 + 1 := by
        have h1 : KM.prevOf (pn.map (·.1)) (j + 1) = some x.1 := by
          show (pn.map (·.1))[j]? = some x.1
          rw [List.getElem?_map, hj]
          rfl
        rw [h1]
        rfl
      have q' := q H2 (e1.trans e2)
      rw [this] at q'
      exact q'
end
end KW
namespace KW
open PySem PySem.Spec PyProof.Rows L2

theorem ins_perm {α : Type} (p : Nat) (x : α) (l : List α) : (KM.ins p x l).Perm (x :: l) := by
  unfold KM.ins
  have := List.perm_middle (a := x) (l₁ := l.take p) (l₂ := l.drop p)
  rwa [List.take_append_drop] at this
theorem ord_perm {L M st : List NestedKey} (h : ∀ l ∈ M, l ∈ L) : ∀ i, (KM.ordAt L M st i).1.Perm L
  | 0 => List.Perm.refl _
  | i + 1 => by
    have ih := ord_perm (st := st) h i
    unfold KM.ordAt
    cases hl : M[i]? with
    | none => exact ih
    | some l =>
      show (KM.ostep st (KM.prevOf M i) l (KM.ordAt L M st i)).1.Perm L
      unfold KM.ostep
      split
      · exact ih
      · have hm : l ∈ (KM.ordAt L M st i).1 := ih.mem_iff.mpr (h l (List.mem_of_getElem? hl))
        exact ((ins_perm _ _ _).trans (List.perm_cons_erase hm).symm).trans ih
theorem ord_len {L M st : List NestedKey} : ∀ i, (KM.ordAt L M st i).2.length ≤ i
  | 0 => Nat.le_refl _
  | i + 1 => by
    have ih := ord_len (L := L) (M := M) (st := st) i
    unfold KM.ordAt
    cases hl : M[i]? with
    | none => exact Nat.le_succ_of_le ih
    | some l =>
      show (KM.ostep st (KM.prevOf M i) l (KM.ordAt L M st i)).2.length ≤ i + 1
      unfold KM.ostep
      split
      · exact Nat.le_succ_of_le ih
      · rw [List.length_append, List.length_singleton]
        omega
def rInsS : V → List V → Hp → VK → Prop := fun x vs H Q => ∃ (l : Addr) (xs : List V) (i : Int) (y : V), x = .ref l ∧ vs = [.int i, y] ∧ H l = some (.lst xs) ∧ xs.length < sizeLine ∧ 0 ≤ i ∧ i < 2 ^ 63 ∧ Q .non (upd H l (.lst (xs.take i.toNat ++ [y] ++ xs.drop i.toNat)))
theorem mt_insS {X : Cx} : MtR X "list.insert" rInsS := mt_insert
/-- all but d is kept -/
def FrB (d : Addr) (H H' : Hp) : Prop := ∀ a o, a ≠ d → H a = some o → H' a = some o
theorem FrB.of {d : Addr} {H H' : Hp} (e : Ex H H') : FrB d H H' := fun a o _ h => e a o h
theorem FrB.trans {d : Addr} {H H1 H2 : Hp} (a : FrB d H H1) (b : FrB d H1 H2) : FrB d H H2 := fun x o hx h => b x o hx (a x o hx h)
theorem FrB.pe {d : Addr} {H H' : Hp} {xs : List V} (e : FrB d H H') (h : H d = some (.lst xs)) : Pe H H' :=
  ⟨fun b ys hb => e b _ (fun z => by rw [z, h] at hb; cases hb) hb, fun b o u hb => e b _ (fun z => by rw [z, h] at hb; cases hb) hb⟩
theorem FrB.mut {d p : Addr} {H H' : Hp} {o : HO} (e : FrB d H H') (h : p = d ∨ H p = none) : FrB d H (upd H' p o) := fun a u ha hu => by
  have : a ≠ p := fun z => by
    rcases h with h | h
    · exact ha (z.trans h)
    · rw [z, h] at hu
      cases hu
  rw [upd_ne this]
  exact e a u ha hu
structure OFix (H : Hp) (dl pnow pmine : Addr) (ds0 : List V) : Prop where
  d0 : H dl = some (.lst ds0)
  n0 : H pnow = none
  m0 : H pmine = none
  nm : pnow ≠ pmine
theorem OFix.dn {H : Hp} {dl pnow pmine : Addr} {ds0 : List V} (h : OFix H dl pnow pmine ds0) : dl ≠ pnow := ne_of_none h.d0 h.n0
theorem OFix.dm {H : Hp} {dl pnow pmine : Addr} {ds0 : List V} (h : OFix H dl pnow pmine ds0) : dl ≠ pmine := ne_of_none h.d0 h.m0
structure OSt (K : PySem.W.Frag) (H H' : Hp) (dl pnow pmine : Addr) (ds0 : List V) (L now ms : List NestedKey) : Prop where
  fr : FrB dl H H'
  d : ∃ ws, H' dl = some (.lst (ds0 ++ ws)) ∧ NkAll K H' ws ms
  n : ∃ nv, H' pnow = some (.lst nv) ∧ NkAll K H' nv now
  m : ∃ mv, H' pmine = some (.lst mv) ∧ NkAll K H' mv L
section
variable {K : PySem.W.Frag} {H H1 H2 : Hp} {dl pnow pmine : Addr} {ds0 : List V} {L now now' ms : List NestedKey}
theorem OSt.grow (h : OSt K H H1 dl pnow pmine ds0 L now ms) (e : Ex H1 H2) : OSt K H H2 dl pnow pmine ds0 L now ms :=
  ⟨h.fr.trans (.of e), let ⟨w, a, b⟩ := h.d; ⟨w, e _ _ a, b.ex e⟩, let ⟨w, a, b⟩ := h.n; ⟨w, e _ _ a, b.ex e⟩, let ⟨w, a, b⟩ := h.m; ⟨w, e _ _ a, b.ex e⟩⟩
theorem OSt.setNow (h : OSt K H H1 dl pnow pmine ds0 L now ms) (fx : OFix H dl pnow pmine ds0) {nv : List V} (hn : NkAll K H1 nv now') : OSt K H (upd H1 pnow (.lst nv)) dl pnow pmine ds0 L now' ms := by
  obtain ⟨v0, a0, _⟩ := h.n
  have pe : Pe H1 (upd H1 pnow (.lst nv)) := pe_updL a0
  obtain ⟨w, a, b⟩ := h.d
  obtain ⟨w', a', b'⟩ := h.m
  exact ⟨h.fr.mut (.inr fx.n0), ⟨w, (upd_ne fx.dn).trans a, NkAll.pe pe _ b⟩, ⟨nv, upd_same, NkAll.pe pe _ hn⟩, ⟨w', (upd_ne (Ne.symm fx.nm)).trans a', NkAll.pe pe _ b'⟩⟩
theorem OSt.addDeed (h : OSt K H H1 dl pnow pmine ds0 L now ms) (fx : OFix H dl pnow pmine ds0) {xs : List V} {y : V} {k : NestedKey} (hx : H1 dl = some (.lst xs)) (hy : Nk K H1 y k) : OSt K H (upd H1 dl (.lst (xs ++ [y]))) dl pnow pmine ds0 L now (ms ++ [k]) := by
  have pe : Pe H1 (upd H1 dl (.lst (xs ++ [y]))) := pe_updL hx
  obtain ⟨w, a, b⟩ := h.d
  obtain ⟨w', a', b'⟩ := h.m
  obtain ⟨w2, a2, b2⟩ := h.n
  rw [hx] at a
  have ea : xs = ds0 ++ w := by
    injection a with a
    injection a
  refine ⟨h.fr.mut (.inl rfl), ⟨w ++ [y], ?_, (NkAll.pe pe _ b).append (.one (Nk.pe pe _ hy))⟩, ⟨w2, (upd_ne (Ne.symm fx.dn)).trans a2, NkAll.pe pe _ b2⟩, ⟨w', (upd_ne (Ne.symm fx.dm)).trans a', NkAll.pe pe _ b'⟩⟩
  rw [ea, List.append_assoc] at *
  exact upd_same
end
section
variable {P : Program} {w : World} {K : PySem.W.Frag} {mg : Str → Option Value} {base : Heap}
abbrev DOrder (K : PySem.W.Frag) (mg : Str → Option Value) := Df K mg "order_deeds" sOrder ["deeds", "address", "old", "new", "stays"]
theorem ev_placeB {E : XK} {σ : L2.St} {H : Hp} {ta tb tc : TE} {p : Addr} {vs0 : List V} {ks : List NestedKey} {pn : List (NestedKey × NestedKey)} {k : Nat} (ha : EvV ta σ H (.ref p)) (hb : EvN K tb σ H (rowK pn)) (hc : EvV tc σ H (.int (k : Int))) (hp : SqL K H p vs0) (hv : NkAll K H vs0 ks)
    (hx : ∀ j, k = j + 1 → ∃ x, pn[j]? = some x ∧ x.1 ∈ ks ∧ x.1.depth ≤ 8) : EvV (tCall (spPlaceB K) [] E (tCons ta (tCons tb (tCons tc tNil)))) σ H (.int (KM.placeOf ks (KM.prevOf (pn.map (·.1)) k) : Nat)) :=
  ev_call (eaP_cons ha (eaP_cons hb (eaP_cons hc eaP_nil mono_isV) mono_isN) mono_isV) fun vs H1 e p Q q => by
    obtain ⟨x1, r1, rfl, h1, x2, r2, rfl, h2, x3, r3, rfl, h3, rfl⟩ := p
    cases h1
    cases h3
    exact ⟨_, x2, k, vs0, ks, pn, rfl, e.seq hp, hv.ex e, h2, hx, fun H' e' => q _ H' e' rfl⟩
def spOrder (K : PySem.W.Frag) : Sp := fun vs H Q _ => ∃ (dl : Addr) (a v u s : V) (ds0 : List V) (Ad st : List NestedKey) (po pn : List (NestedKey × NestedKey)), vs = [.ref dl, a, v, u, s] ∧ H dl = some (.lst ds0) ∧ ds0.length ≤ 500 ∧ Nk K H a (.tup Ad) ∧ Nk K H v (rowK po) ∧ Nk K H u (rowK pn) ∧ Nk K H s (.tup st) ∧
  (∀ p ∈ po, p.1.depth ≤ 8 ∧ KeptIn po pn p.1) ∧ (∀ l ∈ pn.map (·.1), l ∈ po.map (·.1)) ∧ (pn.map (·.1)).Nodup ∧ po.length ≤ 100 ∧ pn.length ≤ 100 ∧
  ∀ H' ws, FrB dl H H' → H' dl = some (.lst (ds0 ++ ws)) → NkAll K H' ws ((KM.ordAt (po.map (·.1)) (pn.map (·.1)) st pn.length).2.map (moveK Ad)) → Q .non H'
theorem scOrder : FnScope ["deeds", "address", "old", "new", "stays", "now", "one", "mine", "k", "label", "box", "place"] ["deeds", "address", "old", "new", "stays"] (defScope sOrder) := ⟨rfl, rfl, rfl, by decide +kernel, rfl, by decide +kernel, by decide +kernel⟩
theorem ok_order (D : DOrder K mg) (B : Bl mg) (D1 : DPlace K mg) (D2 : DIsKept K mg) (D3 : DKeptL K mg) (D4 : DPlaceB K mg) : FnOk P w K mg base CX0 4 D.f D.fd ["deeds", "address", "old", "new", "stays"] (spOrder K) := by
  have G3 : FnOk P w K mg base CX0 3 D3.f D3.fd ["row", "old", "new"] (spKeptL K) := ok_keptL D3 B D1 D2
  have G4 : FnOk P w K mg base CX0 1 D4.f D4.fd ["now", "new", "k"] (spPlaceB K) := ok_placeB D4
  refine D.F.ok scOrder (fun vs H Q E h => ?_) (fun cdv A outer s H vs Q E hr h => ?_)
  · obtain ⟨dl, a, v, u, s, ds0, Ad, st, po, pn, rfl, _⟩ := h
    rfl
  obtain ⟨dl, a, v, u, sv, ds0, Ad, st, po, pn, rfl, hdl, hds, ha, hv, hu, hs, hk, hsub, hnd, l1, l2, q⟩ := h
  refine ⟨_, pss_cons (ps_set (i := 5) scOrder.nd rfl (.inl rfl) (pe_call G3 hr (by rfl) D3.g D3.F.kp D3.b .nil pass0 (pa_cons (pv 2) (pa_cons (pv 2) (pa_cons (pv 3) pa_nil)))))
    (pss_cons (ps_for PassesOwn.never rfl (pi_tup (pv 2)) (pg_name (i := 6) scOrder.nd rfl (.inl rfl))
      (pss_one (ps_if (pt_cmpR (op_notInN hr.units) (pe_ix ix_tup (pv 6) pe_int plainIx) (pv 5) (by rfl)) pss_never pss_nil)))
    (pss_cons (ps_set (i := 7) scOrder.nd rfl (.inl rfl) (pe_callTy call_listS (by rfl) B.list PyProof.Rows.boot_list (pa_cons (pv 5) pa_nil)))
    (pss_one (ps_for PassesOwn.never rfl (pi_range1 rfl B.range (pa_cons (pe_callB call_lenS (by rfl) B.len PySem.boot_len (pa_cons (pv 3) pa_nil)) pa_nil)) (pg_name (i := 8) scOrder.nd rfl (.inl rfl))
      (pss_cons (ps_asg (pe_ix ix_tup (pv 3) (pv 8) plainIx) (pg_tup rfl (pgs_cons (pg_name (i := 9) scOrder.nd rfl (.inl rfl)) (pgs_cons (pg_name (i := 10) scOrder.nd rfl (.inl rfl)) pgs_nil))))
      (pss_one (ps_if (pt_cmpR (op_notInN hr.units) (pv 9) (pv 7) (by rfl)) pss_never
        (pss_one (ps_if (pt_cmpR (op_notInN hr.units) (pv 9) (pv 4) (by rfl))
          (pss_cons (ps_expr (pe_bm PySem.F.plainAttrs_list PySem.F.slot_list_remove PySem.F.type_list_remove (mt_removeN hr.units) (pv 5) (pa_cons (pv 9) pa_nil)))
          (pss_cons (ps_set (i := 11) scOrder.nd rfl (.inl rfl) (pe_call G4 (hr.mono (by decide)) (by rfl) D4.g D4.F.kp D4.b .nil pass0 (pa_cons (pv 5) (pa_cons (pv 3) (pa_cons (pv 8) pa_nil)))))
          (pss_cons (ps_expr (pe_bm PySem.F.plainAttrs_list PySem.F.slot_list_append PySem.F.type_list_append mt_append (pv 0) (pa_cons (pe_tup (pa_cons pe_str (pa_cons (pv 1) (pa_cons (pv 9) (pa_cons (pv 11) pa_nil))))) pa_nil)))
          (pss_one (ps_expr (pe_bm PySem.F.plainAttrs_list PySem.F.slot_list_insert PySem.F.type_list_insert mt_insS (pv 5) (pa_cons (pv 11) (pa_cons (pv 9) pa_nil))))))))
          pss_nil))))))))), ?_⟩
  have hfk : ∀ p ∈ po, p.1.depth ≤ 8 := fun p hp => (hk p hp).1
  refine q_asgF (σ := [some (.ref dl), some a, some v, some u, some sv, none, none, none, none, none, none, none]) (evf_keptL (pr := po) (po := po) (pn := pn) (evn_var (i := 2) rfl hv) (evn_var (i := 2) rfl hv) (evn_var (i := 3) rfl hu) (by omega) (by omega) (by omega) hk) fun pnow H1 hpn e1 hn => ?_
  obtain ⟨nv, hn1, hn2⟩ := hn
  cases hv with
  | @tup va xs _ hv1 hv2 =>
  refine q_forT0 (H0 := H) (K := K) (a := va) (xs := xs) (ks := po.map pairK) (evv_var rfl) hv1 hv2 (fun i σ' H' => Ex H1 H' ∧ ∃ z6, σ' = [some (.ref dl), some a, some (.ref va), some u, some sv, some (.ref pnow), z6, none, none, none, none, none]) (ex_pe e1) (fun H2 e2 => ⟨e2, none, rfl⟩) (fun i σ' H' p => ex_pe (e1.trans p.1)) ?_ ?_
  · rintro i k x σ' H' hk' hx nx ⟨e, z6, rfl⟩
    rw [List.getElem?_map] at hk'
    obtain ⟨p, hp, rfl⟩ := Option.map_eq_some_iff.mp hk'
    have hpm : p ∈ po := List.mem_of_getElem? hp
    refine s_when (b := false) (et_is (et_test (evv_inL (neg := true) (evn_ix (evn_var rfl nx) evv_c (atI_nat (j := 0) (v := p.1) rfl)) (evv_var rfl) (SqL.of (e _ _ hn1)) (hn2.ex e) (by have := hfk p hpm; omega))) ?_) (fun h => nomatch h) (fun _ H3 e3 => ⟨e.trans e3, _, rfl⟩)
    show (!decide (p.1 ∈ po.map (·.1))) = false
    rw [decide_eq_true (List.mem_map_of_mem hpm)]
    rfl
  · rintro σ' H2 ⟨e2, z6, rfl⟩
    refine q_asgF (evf_listL (evv_var rfl) (SqL.of (e2 _ _ hn1))) fun pmine H3 hpm e3 hm => ?_
    have e13 := (e1.trans e2).trans e3
    have fx : OFix H dl pnow pmine ds0 := ⟨hdl, hpn, (e1.trans e2).free hpm, fun z => by
      rw [← z] at hpm
      rw [e2 _ _ hn1] at hpm
      cases hpm⟩
    refine s_forR (n := pn.length) ((ea_vcons (evn_var (k := rowK pn) rfl (hu.ex e13) |> evv_lenT) ea_vnil).imp fun vs H1 _ e => by rw [e, List.length_map]) (by omega)
      (fun i σ' H' => (∃ z8 z9 z10 z11, σ' = [some (.ref dl), some a, some (.ref va), some u, some sv, some (.ref pnow), z6, some (.ref pmine), z8, z9, z10, z11]) ∧ OSt K H H' dl pnow pmine ds0 (po.map (·.1)) (KM.ordAt (po.map (·.1)) (pn.map (·.1)) st i).1 ((KM.ordAt (po.map (·.1)) (pn.map (·.1)) st i).2.map (moveK Ad)))
      (fun H4 e4 => ⟨⟨none, none, none, none, rfl⟩, ?_⟩) ?_ ?_
    · have : OSt K H H3 dl pnow pmine ds0 (po.map (·.1)) (po.map (·.1)) [] := ⟨.of e13, ⟨[], by rw [List.append_nil]; exact e13 _ _ hdl, .nil⟩, ⟨nv, e3 _ _ (e2 _ _ hn1), (hn2.ex e2).ex e3⟩, ⟨nv, hm, (hn2.ex e2).ex e3⟩⟩
      exact this.grow e4
    · rintro i σ' H' hi ⟨⟨z8, z9, z10, z11, rfl⟩, os⟩
      obtain ⟨p, hp⟩ : ∃ p, pn[i]? = some p := ⟨pn[i], List.getElem?_eq_getElem hi⟩
      have hp1 : (pn.map (·.1))[i]? = some p.1 := by rw [List.getElem?_map, hp]; rfl
      have hpo : p.1 ∈ po.map (·.1) := hsub p.1 (List.mem_of_getElem? hp1)
      have hd8 : ∀ l ∈ po.map (·.1), l.depth ≤ 8 := fun l hl => by
        obtain ⟨y, hy, rfl⟩ := List.mem_map.mp hl
        exact hfk y hy
      have hpe : ∀ {H2 : Hp}, OSt K H H2 dl pnow pmine ds0 (po.map (·.1)) (KM.ordAt (po.map (·.1)) (pn.map (·.1)) st i).1 ((KM.ordAt (po.map (·.1)) (pn.map (·.1)) st i).2.map (moveK Ad)) → Pe H H2 := fun o => o.fr.pe hdl
      refine q_asgG (P := isN K (pairK p)) (evn_ix (ks := pn.map pairK) (evn_var rfl (Nk.pe (hpe os) _ hu)) (evv_var rfl) (atI_nat (by rw [List.getElem?_map, hp]; rfl))) fun y H5 e5 hy => ?_
      cases hy with
      | @tup ya ys _ hy1 hy2 =>
        cases hy2 with
        | cons n1 hy2 =>
        cases hy2 with
        | cons n2 hy2 =>
        cases hy2
        refine ⟨ya, _, rfl, hy1, rfl, _, _, rfl, _, _, rfl, rfl, ?_⟩
        have os := os.grow e5
        obtain ⟨mv, hm1, hm2⟩ := os.m
        refine s_if (b := false) (et_is (et_test (evv_inL (neg := true) (evn_var rfl n1) (evv_var rfl) (SqL.of hm1) hm2 (by have := hd8 _ hpo; omega))) (by
          show (!decide (p.1 ∈ po.map (·.1))) = false
          rw [decide_eq_true hpo]
          rfl)) (fun h => nomatch h) (fun _ H6 e6 => ?_)
        have os := os.grow e6
        have n1 := n1.ex e6
        have hs6 := Nk.pe (hpe os) _ hs
        have hord : KM.ordAt (po.map (·.1)) (pn.map (·.1)) st (i + 1) = KM.ostep st (KM.prevOf (pn.map (·.1)) i) p.1 (KM.ordAt (po.map (·.1)) (pn.map (·.1)) st i) := by
          rw [KM.ordAt, hp1]
        have hperm := ord_perm (st := st) hsub i
        have hlen := ord_len (L := po.map (·.1)) (M := pn.map (·.1)) (st := st) i
        rw [hord]
        generalize KM.ordAt (po.map (·.1)) (pn.map (·.1)) st i = S at os hperm hlen
        obtain ⟨now, ms⟩ := S
        simp only at os hperm hlen
        refine s_when (b := !decide (p.1 ∈ st)) (et_test (evv_inT (neg := true) (evn_var rfl n1) (evn_var rfl hs6) (by have := hd8 _ hpo; omega))) (fun hb H7 e7 => ?_) (fun hb H7 e7 => ?_)
        · have hnst : p.1 ∉ st := by simpa using hb
          have hst : KM.ostep st (KM.prevOf (pn.map (·.1)) i) p.1 (now, ms) = (KM.ins (KM.placeOf (now.erase p.1) (KM.prevOf (pn.map (·.1)) i)) p.1 (now.erase p.1), ms ++ [(p.1, KM.placeOf (now.erase p.1) (KM.prevOf (pn.map (·.1)) i))]) := by
            unfold KM.ostep
            rw [if_neg hnst]
          rw [hst]
          have os := os.grow e7
          have n1 := n1.ex e7
          have hnow : p.1 ∈ now := hperm.mem_iff.mpr hpo
          obtain ⟨nv7, hn71, hn72⟩ := os.n
          refine q_mt hn71 (evv_var rfl) (ea_cons (K := K) (evn_var rfl n1) ea_nil) fun vs8 H8 e8 p8 h8 => ?_
          cases p8 with
          | cons p8 p9 =>
          cases p9
          have os8 := os.grow e8
          refine ⟨pnow, _, p.1, now, nv7, rfl, rfl, h8, hn72.ex e8, p8, by have := hd8 _ hpo; omega, hnow, ?_⟩
          have os9 := os8.setNow (now' := now.erase p.1) fx (by
            have := (hn72.ex e8).eraseIdx (now.idxOf p.1)
            rw [erase_at hnow] at this
            exact this)
          have pe9 : Pe H8 (upd H8 pnow (.lst (nv7.eraseIdx (now.idxOf p.1)))) := pe_updL h8
          have n9 := Nk.pe pe9 _ (n1.ex e8)
          have hu9 := Nk.pe (os9.fr.pe hdl) _ hu
          have ha9 := Nk.pe (os9.fr.pe hdl) _ ha
          obtain ⟨nv9, hn91, hn92⟩ := os9.n
          refine q_asg (ev_placeB (pn := pn) (k := i) (evv_var rfl) (evn_var rfl hu9) (evv_var rfl) (SqL.of hn91) hn92 (fun j hj => ?_)) fun z H10 e10 hz => ?_
          · subst hj
            obtain ⟨x, hx⟩ : ∃ x, pn[j]? = some x := ⟨pn[j]'(by omega), List.getElem?_eq_getElem (by omega)⟩
            have hx1 : (pn.map (·.1))[j]? = some x.1 := by rw [List.getElem?_map, hx]; rfl
            have hxo := hsub x.1 (List.mem_of_getElem? hx1)
            refine ⟨x, hx, ?_, hd8 _ hxo⟩
            have hne : x.1 ≠ p.1 := fun z => by
              rw [z] at hx1
              have := nd_ix hnd hx1 hp1
              omega
            exact (List.mem_erase_of_ne hne).mpr (hperm.mem_iff.mpr hxo)
          · cases hz
            have os10 := os9.grow e10
            obtain ⟨ws, hw1, hw2⟩ := os10.d
            have hwl := hw2.length
            rw [List.length_map] at hwl
            refine q_app (P := isN K (moveK Ad (p.1, KM.placeOf (now.erase p.1) (KM.prevOf (pn.map (·.1)) i)))) hw1 (evv_var rfl) (evn_tup (ea_cons evn_str (ea_cons (evn_var rfl (ha9.ex e10)) (ea_cons (evn_var rfl (n9.ex e10)) (ea_cons (EvV.int (evv_var rfl)) ea_nil)))) (by show 4 ≤ 1000; decide)) (by rw [List.length_append]; omega) fun y11 H11 e11 hy11 => ?_
            have os12 := (os10.grow e11).addDeed fx (e11 _ _ hw1) hy11
            have pe12 : Pe H11 (upd H11 dl (.lst (ds0 ++ ws ++ [y11]))) := pe_updL (e11 _ _ hw1)
            have n12 := Nk.pe pe12 _ ((n9.ex e10).ex e11)
            obtain ⟨nv12, hn121, hn122⟩ := os12.n
            have hnl := hn122.length
            have hnl2 : (now.erase p.1).length ≤ 100 := by
              have h1 := List.length_erase_le (a := p.1) (l := now)
              have h2 := hperm.length_eq
              rw [List.length_map] at h2
              omega
            have hpl : KM.placeOf (now.erase p.1) (KM.prevOf (pn.map (·.1)) i) ≤ 101 := by
              unfold KM.placeOf
              split
              · omega
              · have := List.idxOf_le_length (a := ‹_›) (l := now.erase p.1)
                omega
            refine s_mt hn121 (evv_var rfl) (ea_cons (K := K) (EvV.int (evv_var rfl)) (ea_cons (evn_var rfl n12) ea_nil)) fun vs13 H13 e13 p13 h13 => ?_
            cases p13 with
            | cons q1 p13 =>
            cases p13 with
            | cons q2 p13 =>
            cases p13
            cases q1
            refine ⟨pnow, nv12, _, _, rfl, rfl, h13, small1000 (by omega), by omega, by omega, ⟨_, _, _, _, rfl⟩, ?_⟩
            have os13 := (os12.grow e13).setNow (now' := KM.ins (KM.placeOf (now.erase p.1) (KM.prevOf (pn.map (·.1)) i)) p.1 (now.erase p.1)) fx (nv := nv12.take (KM.placeOf (now.erase p.1) (KM.prevOf (pn.map (·.1)) i) : Int).toNat ++ [_] ++ nv12.drop (KM.placeOf (now.erase p.1) (KM.prevOf (pn.map (·.1)) i) : Int).toNat) (by
              unfold KM.ins
              rw [Int.toNat_natCast, List.append_assoc]
              exact ((hn122.ex e13).take _).append (.cons q2 ((hn122.ex e13).drop _)))
            simp only [List.map_append]
            exact os13
        · have hst : p.1 ∈ st := by simpa using hb
          have : KM.ostep st (KM.prevOf (pn.map (·.1)) i) p.1 (now, ms) = (now, ms) := by
            unfold KM.ostep
            rw [if_pos hst]
          rw [this]
          exact ⟨⟨_, _, _, _, rfl⟩, os.grow e7⟩
    · rintro σ' H' ⟨⟨z8, z9, z10, z11, rfl⟩, os⟩
      obtain ⟨ws, h1, h2⟩ := os.d
      exact q H' ws os.fr h1 h2
end
end KW
namespace KW
open PySem PySem.Spec PyProof.Rows L2

/-! ### boxes whose sets are plain tuples -/
def SetsAt (K : PySem.W.Frag) (H : Hp) (p : Addr) (kvs : List (Key × V)) : Prop := ∃ es : List Addr, PlT H p (es.map V.ref) ∧ Paired (fun e kv => SqT K H e [kV kv.1, kv.2]) es kvs
theorem SetsAt.pe {K : PySem.W.Frag} {H H' : Hp} {p : Addr} {kvs : List (Key × V)} (h : SetsAt K H p kvs) (e : Pe H H') : SetsAt K H' p kvs := by
  obtain ⟨es, h1, h2⟩ := h
  exact ⟨es, h1.pe e, Paired.mapP h2 fun _ _ z => e.sqT z⟩
def BoxAt (K : PySem.W.Frag) (H : Hp) (tag : Str) (kvs : List (Key × V)) (v r : V) : Prop := ∃ b p h, v = .ref b ∧ SqT K H b [.str tag, .ref p, h, r] ∧ SetsAt K H p kvs ∧ Nk K H h (.tup [])
theorem BoxAt.pe {K : PySem.W.Frag} {H H' : Hp} {tag : Str} {kvs : List (Key × V)} {v r : V} (h : BoxAt K H tag kvs v r) (e : Pe H H') : BoxAt K H' tag kvs v r := by
  obtain ⟨b, p, x, h1, h2, h3, h4⟩ := h
  exact ⟨b, p, x, h1, e.sqT h2, h3.pe e, Nk.pe e _ h4⟩
def oneInt (kvs : List (Key × V)) : Prop := kvs = [] ∨ ∃ k n, kvs = [(k, V.int n)]
theorem oneInt.merge {kvs : List (Key × V)} (h : oneInt kvs) : mergeK [] kvs = kvs := by
  rcases h with rfl | ⟨k, n, rfl⟩
  · rfl
  · rfl
theorem valV_at {m : List (Key × V)} {i : Nat} {k : Key} {v : V} (h : m[i]? = some (k, v)) : (valV m k).isSome = true := by
  rw [← valV_any]
  exact List.any_eq_true.mpr ⟨(k, v), List.mem_of_getElem? h, decide_eq_true rfl⟩
def rDictT (K : PySem.W.Frag) : List V → Hp → VK → Prop := fun xs H Q => ∃ (a : Addr) (ps : List Addr) (kvs : List (Key × V)), xs = [.ref a] ∧ PlT H a (ps.map V.ref) ∧ Paired (fun p kv => SqT K H p [kV kv.1, kv.2]) ps kvs ∧
    ∀ p, H p = none → Q (.ref p) (upd H p (.dK (mergeK [] kvs)))
theorem call_dictTS {X : Cx} (hc : X.calm = true) : CallR X (.type "dict") (rDictT X.K) := call_dictT hc
section
variable {K : PySem.W.Frag} {σ : L2.St} {H H0 : Hp} {ta tb td ty : TE} {D : Ends} {tu tz : TS} {g : TG}
theorem evv_ixT {a : Addr} {xs : List V} {i : Int} {v : V} (ha : EvV ta σ H (.ref a)) (hs : SqT K H a xs) (hb : EvV tb σ H (.int i)) (hk : atI xs i = some v) : EvV (tOp (rIxT K) ta tb) σ H v :=
  evv_op ha hb fun H1 e Q q => ⟨a, xs, i, v, rfl, rfl, (ex_pe e).sqT hs, hk, q⟩
theorem evf_dict {p : Addr} {kvs : List (Key × V)} (ha : EvV ta σ H (.ref p)) (hs : SetsAt K H p kvs) : EvF (tCB (rDictT K) (tCons ta tNil)) σ H (fun q H' => H' q = some (.dK (mergeK [] kvs))) := fun H1 e Q q =>
  ha H1 e _ fun x H2 e2 hx => by
    cases hx
    obtain ⟨es, h1, h2⟩ := hs.pe (ex_pe (e.trans e2))
    exact ⟨p, es, kvs, rfl, h1, h2, fun r hr => q r _ (e2.free hr) (e2.trans (ex_new hr)) upd_same⟩
theorem evv_dnotin {d : Addr} {m : List (Key × V)} {k : Key} (hy : EvV ty σ H (kV k)) (hd : EvV td σ H (.ref d)) (hm : H d = some (.dK m)) : EvV (tDNotIn ty td) σ H (.bl (!(valV m k).isSome)) := fun H1 e Q q =>
  hy H1 e _ fun y H2 e2 py => hd H2 (e.trans e2) _ fun x H3 e3 px => by
    cases py
    cases px
    exact ⟨d, valV m k, rfl, DGet.k (((e.trans e2).trans e3) _ _ hm), q _ H3 (e2.trans e3) rfl⟩
theorem evv_dget {d : Addr} {m : List (Key × V)} {k : Key} {v : V} (hd : EvV td σ H (.ref d)) (hy : EvV ty σ H (kV k)) (hm : H d = some (.dK m)) (hv : valV m k = some v) : EvV (tDGet td ty) σ H v := fun H1 e Q q =>
  hd H1 e _ fun x H2 e2 px => hy H2 (e.trans e2) _ fun y H3 e3 py => by
    cases py
    cases px
    refine ⟨d, v, rfl, ?_, q _ H3 (e2.trans e3) rfl⟩
    have := DGet.k (k := k) (((e.trans e2).trans e3) _ _ hm)
    rw [hv] at this
    exact this
/-- for k in d, d standing still -/
theorem q_forK {i j : Nat} {d : Addr} {m : List (Key × V)} (hd : H d = some (.dK m)) (hi : σ[i]? = some (some (.ref d))) (Pv : Nat → L2.St → Prop) (h0 : Pv 0 σ)
    (hs : ∀ n k v σ' od H' D', m[n]? = some (k, v) → Pv n σ' → Ex (upd H d (.frz od (.dK m))) H' → D'.nx = (fun σ2 H2 => Pv (n + 1) σ2 ∧ Ex (upd H d (.frz od (.dK m))) H2) → tu D' (σ'.set j (some (kV k))) H')
    (hn : ∀ σ' H', Pv m.length σ' → Ex H H' → tz D σ' H') : tSeq (tLock (tFor (iKeys (tVar i)) (gName j) tu)) tz D σ H := by
  refine ⟨d, .dK m, hd, trivial, fun od => ?_⟩
  refine ⟨.ref d, hi, d, od, rfl, .inl ⟨m, upd_same, fun n m' σ' H' => m' = m.length - n ∧ n ≤ m.length ∧ Pv n σ' ∧ Ex (upd H d (.frz od (.dK m))) H', ⟨m.length, by omega, Nat.zero_le _, h0, Same.refl _⟩, ?_⟩⟩
  rintro n m' σ' H' ⟨rfl, hle, hp, e⟩
  have hf : H' d = some (.frz od (.dK m)) := e _ _ upd_same
  by_cases hlt : n < m.length
  · refine .inr ⟨⟨hf, hlt⟩, fun σ2 H2 => Pv (n + 1) σ2 ∧ Ex (upd H d (.frz od (.dK m))) H2, fun σ2 H2 ⟨a, b⟩ => ⟨m.length - (n + 1), by omega, rfl, hlt, a, b⟩, ?_⟩
    rintro x H2 ⟨rfl, k, v, hk, rfl⟩
    exact hs n k v σ' od H2 _ hk hp e rfl
  · have hn' : n = m.length := by omega
    subst hn'
    refine .inl ⟨⟨hf, Nat.le_refl _⟩, hf, hn _ _ hp fun b o hb => ?_⟩
    by_cases hbd : b = d
    · subst hbd
      rw [hd] at hb
      rw [upd_same]
      exact hb
    · rw [upd_ne hbd]
      exact e _ _ (by rw [upd_ne hbd]; exact hb)
/-- for x in a tuple of values -/
theorem q_forTV {tl : TE} {a : Addr} {xs : List V} (h : EvV tl σ H (.ref a)) (h1 : SqT K H0 a xs) (Pv : Nat → L2.St → Hp → Prop) (e0 : Pe H0 H) (h0 : ∀ H1, Ex H H1 → Pv 0 σ H1) (hp : ∀ i σ' H', Pv i σ' H' → Pe H0 H')
    (hs : ∀ i x σ' H', xs[i]? = some x → Pv i σ' H' → g x σ' H' fun σ2 H2 => tu { D with nx := Pv (i + 1), ct := Pv (i + 1), bk := tz D } σ2 H2) (hd : ∀ σ' H', Pv xs.length σ' H' → tz D σ' H') : tSeq (tFor (iTup K tl) g tu) tz D σ H := h H (Same.refl _) _ fun v H1 e p => by
  cases p
  exact ⟨a, rfl, ⟨xs, (e0.trans (ex_pe e)).sqT h1⟩, for_tup (K := K) (a := a) (xs := xs) (D := { D with nx := tz D }) Pv (h0 H1 e) (fun i σ' H' _ p => (hp i σ' H' p).sqT h1) (fun i x σ' H' hx p => hs i x σ' H' hx p) (fun σ' H' p => hd σ' H' p)⟩
end
section
variable {P : Program} {w : World} {K : PySem.W.Frag} {mg : Str → Option Value} {base : Heap}
abbrev DBoxD (K : PySem.W.Frag) (mg : Str → Option Value) := Df K mg "box_deeds" sBoxD ["deeds", "address", "old", "new"]
def spBoxD (K : PySem.W.Frag) : Sp := fun vs H Q _ => ∃ (d a v u r r' : V) (t t' : Str) (kvs : List (Key × V)), vs = [d, a, v, u] ∧ BoxAt K H t kvs v r ∧ BoxAt K H t' kvs u r' ∧ oneInt kvs ∧ ∀ H', Ex H H' → Q .non H'
theorem scBoxD : FnScope ["deeds", "address", "old", "new", "before", "behind", "name", "number"] ["deeds", "address", "old", "new"] (defScope sBoxD) := ⟨rfl, rfl, rfl, by decide +kernel, rfl, by decide +kernel, by decide +kernel⟩
theorem ok_boxD (D : DBoxD K mg) (B : Bl mg) : FnOk P w K mg base CX0 1 D.f D.fd ["deeds", "address", "old", "new"] (spBoxD K) := by
  refine D.F.ok scBoxD (fun vs H Q E h => ?_) (fun cdv A outer s H vs Q E hr h => ?_)
  · obtain ⟨d, a, v, u, r, r', t, t', kvs, rfl, _⟩ := h
    rfl
  obtain ⟨d, a, v, u, r, r', t, t', kvs, rfl, ⟨ob, op, oh, rfl, ho1, ho2, ho3⟩, ⟨nb, np, nh, rfl, hn1, hn2, hn3⟩, h1, q⟩ := h
  have hu := hu_of hr
  refine ⟨_, pss_cons (ps_set (i := 4) scBoxD.nd rfl (.inl rfl) (pe_callTy (call_dictTS rfl) (by rfl) B.dict PyProof.Rows.boot_dict (pa_cons (pe_ix ix_tup (pv 2) pe_int plainIx) pa_nil)))
    (pss_cons (ps_set (i := 5) scBoxD.nd rfl (.inl rfl) (pe_callTy (call_dictTS rfl) (by rfl) B.dict PyProof.Rows.boot_dict (pa_cons (pe_ix ix_tup (pv 3) pe_int plainIx) pa_nil)))
    (pss_cons (ps_lock (ps_for PassesOwn.never rfl (pi_keys (pv 4)) (pg_name (i := 6) scBoxD.nd rfl (.inl rfl)) (pss_one (ps_if (pt_cmp (pc_dnotin hu (pv 6) (pv 5))) pss_never pss_nil))))
    (pss_cons (ps_for PassesOwn.never rfl (pi_tup (pe_ix ix_tup (pv 3) pe_int plainIx)) (pg_tup rfl (pgs_cons (pg_name (i := 6) scBoxD.nd rfl (.inl rfl)) (pgs_cons (pg_name (i := 7) scBoxD.nd rfl (.inl rfl)) pgs_nil)))
      (pss_one (ps_if (PW.pt (pw_or (pt_cmp (pc_dnotin hu (pv 6) (pv 4))) (pw_or1 (pt_cmpR op_ne (pe_dget hu (pv 4) (pv 6) noSlV) (pv 7) (nomark _))))) pss_never pss_nil)))
    (pss_one (ps_if (pt_cmpR (op_neN hr.units) (pe_ix ix_tup (pv 2) pe_int plainIx) (pe_ix ix_tup (pv 3) pe_int plainIx) (nomark _)) pss_never pss_nil))))), ?_⟩
  refine q_asgF (σ := [some d, some a, some (.ref ob), some (.ref nb), none, none, none, none]) (evf_dict (evv_ixT (K := K) (evv_var (i := 2) rfl) ho1 evv_c (atI_nat (j := 1) rfl)) ho2) fun db H1 hdb e1 h1d => ?_
  refine q_asgF (evf_dict (evv_ixT (K := K) (evv_var rfl) ((ex_pe e1).sqT hn1) evv_c (atI_nat (j := 1) rfl)) (hn2.pe (ex_pe e1))) fun de H2 hde e2 h2d => ?_
  have hne : de ≠ db := fun z => by
    rw [z, h1d] at hde
    cases hde
  have e12 := e1.trans e2
  refine q_forK (m := mergeK [] kvs) (e2 _ _ h1d) rfl (fun n σ' => ∃ z6, σ' = [some d, some a, some (.ref ob), some (.ref nb), some (.ref db), some (.ref de), z6, none]) ⟨none, rfl⟩ ?_ ?_
  · rintro n k v' σ' od H' D' hk ⟨z6, rfl⟩ e hD
    have hde' : H' de = some (.dK (mergeK [] kvs)) := e _ _ (by rw [upd_ne hne]; exact h2d)
    refine s_when (b := false) (et_is (et_B (evv_dnotin (evv_var rfl) (evv_var rfl) hde')) (by rw [valV_at hk]; rfl)) (fun h => nomatch h) (fun _ H3 e3 => ?_)
    rw [hD]
    exact ⟨⟨_, rfl⟩, e.trans e3⟩
  · rintro σ' H3 ⟨z6, rfl⟩ e3
    have e13 := e12.trans e3
    obtain ⟨es, hp1, hp2⟩ := hn2
    refine q_forTV (H0 := H) (K := K) (a := np) (xs := es.map V.ref) (evv_ixT (evv_var rfl) ((ex_pe e13).sqT hn1) evv_c (atI_nat (j := 1) rfl)) hp1.sq (fun i σ' H' => Ex H3 H' ∧ ∃ z6 z7, σ' = [some d, some a, some (.ref ob), some (.ref nb), some (.ref db), some (.ref de), z6, z7])
      (ex_pe e13) (fun H4 e4 => ⟨e4, z6, none, rfl⟩) (fun i σ' H' p => ex_pe (e13.trans p.1)) ?_ ?_
    · rintro i x σ' H' hx ⟨e, z6, z7, rfl⟩
      have hdb' : H' db = some (.dK kvs) := by
        have := e _ _ (e3 _ _ (e2 _ _ h1d))
        rw [h1.merge] at this
        exact this
      rcases h1 with rfl | ⟨k, n, rfl⟩
      · cases hp2
        simp at hx
      · cases hp2 with
        | @cons e0 _ es' _ he ht =>
          cases ht
          have hi : i = 0 := by
            have := (List.getElem?_eq_some_iff.mp hx).1
            simp at this
            omega
          subst hi
          have ex : x = .ref e0 := (Option.some.inj hx).symm
          subst ex
          have pe' : Pe H H' := ex_pe (e13.trans e)
          refine ⟨e0, _, rfl, pe'.sqT he, rfl, _, _, rfl, _, _, rfl, rfl, ?_⟩
          have hvv : valV [(k, V.int n)] k = some (.int n) := valV_pos rfl
          refine s_when (b := false) (et_is (et_or (a := false) (b := false) (et_is (et_B (evv_dnotin (evv_var rfl) (evv_var rfl) hdb')) (by rw [hvv]; rfl)) (fun _ => et_is (et_test (evv_ne rfl (evv_dget (evv_var rfl) (evv_var rfl) hdb' hvv) (evv_var rfl))) (by rw [decide_eq_true rfl]; rfl))) rfl) (fun h => nomatch h) (fun _ H4 e4 => ?_)
          exact ⟨e.trans e4, _, _, rfl⟩
    · rintro σ' H4 ⟨e4, z6, z7, rfl⟩
      have e14 := e13.trans e4
      have pe4 : Pe H H4 := ex_pe e14
      refine s_when (b := false) (et_is (et_test (evv_neN (k := .tup []) (l := .tup []) ((evv_ixT (K := K) (evv_var rfl) (pe4.sqT ho1) evv_c (atI_nat (j := 2) rfl)).imp fun y H5 e5 hy => ?_) ((evv_ixT (K := K) (evv_var rfl) (pe4.sqT hn1) evv_c (atI_nat (j := 2) rfl)).imp fun y H5 e5 hy => ?_) (.inl (by decide +kernel)))) (by rfl)) (fun h => nomatch h) (fun _ H5 e5 => q H5 (e14.trans e5))
      · cases hy
        exact Nk.pe (pe4.trans (ex_pe e5)) _ ho3
      · cases hy
        exact Nk.pe (pe4.trans (ex_pe e5)) _ hn3
theorem ev_boxD {E : XK} {σ : L2.St} {H : Hp} {td ta tb tc : TE} {d a v u r r' : V} {t t' : Str} {kvs : List (Key × V)} {Pd Pa : V → Hp → Prop} (h0 : Ev td σ H Pd) (m0 : Mono Pd) (ha : Ev ta σ H Pa) (ma : Mono Pa) (hb : EvV tb σ H v) (hc : EvV tc σ H u) (b1 : BoxAt K H t kvs v r) (b2 : BoxAt K H t' kvs u r') (h1 : oneInt kvs) :
    EvV (tCall (spBoxD K) [] E (tCons td (tCons ta (tCons tb (tCons tc tNil))))) σ H .non :=
  ev_call (eaP_cons h0 (eaP_cons ha (eaP_cons hb (eaP_cons hc eaP_nil mono_isV) mono_isV) ma) m0) fun vs H1 e p Q q => by
    obtain ⟨x1, _, rfl, _, x2, _, rfl, _, x3, _, rfl, h3, x4, _, rfl, h4, rfl⟩ := p
    cases h3
    cases h4
    exact ⟨x1, x2, v, u, r, r', t, t', kvs, rfl, b1.pe (ex_pe e), b2.pe (ex_pe e), h1, fun H' e' => q _ H' e' rfl⟩
end
end KW
namespace KW
open PySem PySem.Spec PyProof.Rows L2

/-! ### trees in the heap -/
def EntryAt (K : PySem.W.Frag) (H : Hp) (l : NestedKey) (tag : Str) (kvs : List (Key × V)) (e r : V) : Prop := ∃ c lv bv, e = .ref c ∧ SqT K H c [lv, bv] ∧ Nk K H lv l ∧ BoxAt K H tag kvs bv r
theorem EntryAt.pe {K : PySem.W.Frag} {H H' : Hp} {l : NestedKey} {tag : Str} {kvs : List (Key × V)} {e r : V} (h : EntryAt K H l tag kvs e r) (x : Pe H H') : EntryAt K H' l tag kvs e r := by
  obtain ⟨c, lv, bv, h1, h2, h3, h4⟩ := h
  exact ⟨c, lv, bv, h1, x.sqT h2, Nk.pe x _ h3, h4.pe x⟩
def xOne : List (Key × V) := [(.inr "x", .int 1)]
def LeafAt (K : PySem.W.Frag) (H : Hp) (e : V) (l : NestedKey) : Prop := ∃ r, EntryAt K H l "a" [] e r ∧ Nk K H r (.tup [])
def TreeAt (K : PySem.W.Frag) (H : Hp) : List NestedKey → List NestedKey → V → Prop
  | [], L, v => ∃ a xs, v = .ref a ∧ SqT K H a xs ∧ Paired (LeafAt K H) xs L
  | l :: A, L, v => ∃ a e r, v = .ref a ∧ SqT K H a [e] ∧ EntryAt K H l "b" xOne e r ∧ TreeAt K H A L r
theorem TreeAt.pe {K : PySem.W.Frag} {H H' : Hp} (x : Pe H H') : ∀ {A L : List NestedKey} {v : V}, TreeAt K H A L v → TreeAt K H' A L v
  | [], L, v, h => by
    obtain ⟨a, xs, h1, h2, h3⟩ := h
    exact ⟨a, xs, h1, x.sqT h2, Paired.mapP h3 fun _ _ ⟨r, g1, g2⟩ => ⟨r, g1.pe x, Nk.pe x _ g2⟩⟩
  | l :: A, L, v, h => by
    obtain ⟨a, e, r, h1, h2, h3, h4⟩ := h
    exact ⟨a, e, r, h1, x.sqT h2, h3.pe x, TreeAt.pe x h4⟩
theorem BoxAt.nkA {K : PySem.W.Frag} {H : Hp} {v r : V} (h : BoxAt K H "a" [] v r) (hr : Nk K H r (.tup [])) : Nk K H v leafK := by
  obtain ⟨b, p, x, rfl, h2, ⟨es, h3, h4⟩, h5⟩ := h
  cases h4
  exact .tup h2 (.cons (.str _) (.cons (.tup h3.sq .nil) (.cons h5 (.cons hr .nil))))
theorem BoxAt.nkB {K : PySem.W.Frag} {H : Hp} {v r : V} {T : NestedKey} (h : BoxAt K H "b" xOne v r) (hr : Nk K H r T) : Nk K H v (boxB T) := by
  obtain ⟨b, p, x, rfl, h2, ⟨es, h3, h4⟩, h5⟩ := h
  cases h4 with
  | cons he ht =>
    cases ht
    exact .tup h2 (.cons (.str _) (.cons (.tup h3.sq (.cons (.tup he (.cons (.str _) (.cons (.int 1) .nil))) .nil)) (.cons h5 (.cons hr .nil))))
theorem leaf_nk1 {K : PySem.W.Frag} {H : Hp} {x : V} {l : NestedKey} (h : LeafAt K H x l) : Nk K H x (pairK (l, leafK)) := by
  obtain ⟨r, ⟨c, lv, bv, rfl, h2, h3, h4⟩, g⟩ := h
  exact .tup h2 (.cons h3 (.cons (h4.nkA g) .nil))
theorem leaf_nk {K : PySem.W.Frag} {H : Hp} {xs : List V} {L : List NestedKey} (h : Paired (LeafAt K H) xs L) : NkAll K H xs ((leafRow L).map pairK) := by
  induction h with
  | nil => exact .nil
  | cons h _ ih => exact .cons (leaf_nk1 h) ih
theorem TreeAt.nk {K : PySem.W.Frag} {H : Hp} : ∀ {A L : List NestedKey} {v : V}, TreeAt K H A L v → Nk K H v (treeK A L) := by
  intro A
  induction A with
  | nil =>
    intro L v h
    obtain ⟨a, xs, rfl, h2, h3⟩ := h
    exact .tup h2 (leaf_nk h3)
  | cons l A ih =>
    intro L v h
    obtain ⟨a, e, r, rfl, h2, ⟨c, lv, bv, rfl, g2, g3, g4⟩, h4⟩ := h
    exact .tup h2 (.cons (.tup g2 (.cons g3 (.cons (g4.nkB (ih h4)) .nil))) .nil)
theorem tree_empty {K : PySem.W.Frag} {H : Hp} {v : V} (h : Nk K H v (.tup [])) : TreeAt K H [] [] v := by
  cases h with
  | tup h1 h2 =>
    cases h2
    exact ⟨_, [], rfl, h1, .nil⟩
theorem leaf_get {K : PySem.W.Frag} {H : Hp} : ∀ {xs : List V} {L : List NestedKey} {i : Nat} {l : NestedKey}, Paired (LeafAt K H) xs L → L[i]? = some l → ∃ e, xs[i]? = some e ∧ LeafAt K H e l
  | _, _, _, _, .nil, e => by simp at e
  | _, _, 0, _, .cons h t, e => by
    simp at e
    subst e
    exact ⟨_, rfl, h⟩
  | _, _, i + 1, l, .cons _ t, e => by
    obtain ⟨x, h1, h2⟩ := leaf_get (i := i) (l := l) t (by simpa using e)
    exact ⟨x, by simpa using h1, h2⟩
theorem idx_at {l : NestedKey} {L : List NestedKey} (h : l ∈ L) : L[L.idxOf l]? = some l := by
  have := List.idxOf_lt_length_of_mem h
  rw [List.getElem?_eq_getElem this, List.getElem_idxOf]
theorem posOf_mem {l : NestedKey} {L : List NestedKey} (h : l ∈ L) : posOf L l = some (L.idxOf l) := by
  unfold posOf
  rw [if_pos h]
theorem kept_leaf {l : NestedKey} {L M : List NestedKey} (h1 : l ∈ L) (h2 : l ∈ M) : KeptIn (leafRow L) (leafRow M) l := by
  refine ⟨L.idxOf l, M.idxOf l, .text "a", [.tup [], .tup [], .tup []], [.tup [], .tup [], .tup []], ?_, ?_, ?_, ?_, by simp [NestedKey.depth]⟩
  · rw [leaf_fst]; exact posOf_mem h1
  · unfold leafRow
    rw [List.getElem?_map, idx_at h1]
    rfl
  · rw [leaf_fst]; exact posOf_mem h2
  · unfold leafRow
    rw [List.getElem?_map, idx_at h2]
    rfl
theorem kept_one (l T T' : NestedKey) : KeptIn [(l, boxB T)] [(l, boxB T')] l :=
  ⟨0, 0, .text "b", _, _, posOf_one l, rfl, posOf_one l, rfl, by simp [NestedKey.depth]⟩

section
variable {σ : L2.St} {H : Hp} {ta : TA} {D : Ends} {tz : TS} {sp : Sp} {E : XK} {dvs : List V} {Pa : List V → Hp → Prop}
theorem s_call (h : EvA ta σ H Pa) (k : ∀ vs H1, Ex H H1 → Pa vs H1 → sp (vs ++ dvs) H1 (fun _ H2 => D.nx σ H2) E) : tDrop (tCall sp dvs E ta) D σ H := h H (Same.refl _) _ fun vs H1 e p => k vs H1 e p
theorem q_call (h : EvA ta σ H Pa) (k : ∀ vs H1, Ex H H1 → Pa vs H1 → sp (vs ++ dvs) H1 (fun _ H2 => tz D σ H2) E) : tSeq (tDrop (tCall sp dvs E ta)) tz D σ H := s_call (D := { D with nx := tz D }) h k
end
theorem ev_rowP {K : PySem.W.Frag} {E : XK} {σ : L2.St} {H : Hp} {ta tb : TE} {lo ln : List NestedKey} (ha : EvN K ta σ H (.tup lo)) (hb : EvN K tb σ H (.tup ln)) (hln : labs ln) (h1 : lo.Nodup) (h2 : ln.Nodup) (hs : ∀ l ∈ lo, l ∈ ln) (l1 : lo.length ≤ 100) (l2 : ln.length ≤ 100) (hc : ChainOk lo ln) :
    EvN K (tCall (spRowP K) [] E (tCons ta (tCons tb tNil))) σ H (paperK lo ln) :=
  ev_call (ea_cons ha (ea_cons hb ea_nil)) fun vs H1 e p Q q => by
    cases p with
    | cons p1 p2 =>
      cases p2 with
      | cons p2 p3 =>
        cases p3
        exact ⟨_, _, lo, ln, rfl, p1, p2, hln, h1, h2, hs, l1, l2, hc, fun r H' e' hr => q r H' e' hr⟩
/-- all but two lists are kept -/
def Fr2 (d r : Addr) (H H' : Hp) : Prop := ∀ a o, a ≠ d → a ≠ r → H a = some o → H' a = some o
theorem Fr2.of {d r : Addr} {H H' : Hp} (e : Ex H H') : Fr2 d r H H' := fun a o _ _ h => e a o h
theorem Fr2.ofB {d r : Addr} {H H' : Hp} (e : FrB d H H') : Fr2 d r H H' := fun a o h _ g => e a o h g
theorem Fr2.trans {d r : Addr} {H H1 H2 : Hp} (a : Fr2 d r H H1) (b : Fr2 d r H1 H2) : Fr2 d r H H2 := fun x o h1 h2 h => b x o h1 h2 (a x o h1 h2 h)
theorem Fr2.pe {d r : Addr} {H H' : Hp} {xs ys : List V} (e : Fr2 d r H H') (hd : H d = some (.lst xs)) (hr : H r = some (.lst ys)) : Pe H H' :=
  ⟨fun b zs hb => e b _ (fun z => by rw [z, hd] at hb; cases hb) (fun z => by rw [z, hr] at hb; cases hb) hb, fun b o u hb => e b _ (fun z => by rw [z, hd] at hb; cases hb) (fun z => by rw [z, hr] at hb; cases hb) hb⟩
theorem Fr2.updR {d r : Addr} {H H' : Hp} {o : HO} (e : Fr2 d r H H') : Fr2 d r H (upd H' r o) := fun a u h1 h2 hu => by
  rw [upd_ne h2]
  exact e a u h1 h2 hu
def movesK (Ad L M : List NestedKey) : List NestedKey := (KM.ordAt L M (KM.stays L M) M.length).2.map (moveK Ad)
def wgt (A L : List NestedKey) : Nat := A.length + (if L = [] then 0 else 1)
section
variable {P : Program} {w : World} {K : PySem.W.Frag} {mg : Str → Option Value} {base : Heap}
abbrev DRowD (K : PySem.W.Frag) (mg : Str → Option Value) := Df K mg "row_deeds" sRowD ["deeds", "rows", "address", "old", "new"]
structure RowPre (A L M : List NestedKey) : Prop where
  a : labs A
  l : labs L
  nd : L.Nodup
  pm : M.Perm L
  ch : ChainOk L M
  len : L.length ≤ 20
def spRowD (K : PySem.W.Frag) (n : Nat) : Sp := fun vs H Q _ => ∃ (dl rl : Addr) (a v u : V) (ds0 rs0 : List V) (Ad A L M : List NestedKey), vs = [.ref dl, .ref rl, a, v, u] ∧ H dl = some (.lst ds0) ∧ H rl = some (.lst rs0) ∧ dl ≠ rl ∧ Nk K H a (.tup Ad) ∧ Ad.length + n ≤ 100 ∧ TreeAt K H A L v ∧ TreeAt K H A M u ∧
  RowPre A L M ∧ wgt A L < n ∧ ds0.length + 20 * n ≤ 480 ∧ rs0.length + A.length + 1 + L.length ≤ 500 ∧
  ∀ H' ws rs, Fr2 dl rl H H' → H' dl = some (.lst (ds0 ++ ws)) → NkAll K H' ws (movesK (Ad ++ A) L M) → H' rl = some (.lst (rs0 ++ rs)) → rs.length ≤ A.length + 1 + L.length → Q .non H'
theorem scRowD : FnScope ["deeds", "rows", "address", "old", "new", "mine", "stays", "falls", "label", "one", "other"] ["deeds", "rows", "address", "old", "new"] (defScope sRowD) := ⟨rfl, rfl, rfl, by decide +kernel, rfl, by decide +kernel, by decide +kernel⟩
/-- what a row's entries are, seen from both sides -/
structure Sides (K : PySem.W.Frag) (H : Hp) (va ua : Addr) (po pn : List (NestedKey × NestedKey)) (lo ln IA IL IM : List NestedKey) : Prop where
  fo : po.map (·.1) = lo
  fn : pn.map (·.1) = ln
  nv : Nk K H (.ref va) (rowK po)
  nu : Nk K H (.ref ua) (rowK pn)
  kept : ∀ l ∈ lo, KeptIn po pn l
  ent : ∀ l ∈ lo, ∃ (k j : Nat) (xs ys : List V) (e e' r r' : V) (t : Str) (kvs : List (Key × V)), posOf lo l = some k ∧ posOf ln l = some j ∧ SqT K H va xs ∧ xs[k]? = some e ∧ EntryAt K H l t kvs e r ∧ SqT K H ua ys ∧ ys[j]? = some e' ∧ EntryAt K H l t kvs e' r' ∧ oneInt kvs ∧ TreeAt K H IA IL r ∧ TreeAt K H IA IM r'
theorem Sides.pe {H H' : Hp} {va ua : Addr} {po pn : List (NestedKey × NestedKey)} {lo ln IA IL IM : List NestedKey} (h : Sides K H va ua po pn lo ln IA IL IM) (x : Pe H H') : Sides K H' va ua po pn lo ln IA IL IM :=
  ⟨h.fo, h.fn, Nk.pe x _ h.nv, Nk.pe x _ h.nu, h.kept, fun l hl => by
    obtain ⟨k, j, xs, ys, e, e', r, r', t, kvs, h1, h2, h3, h4, h5, h6, h7, h8, h9, h10, h11⟩ := h.ent l hl
    exact ⟨k, j, xs, ys, e, e', r, r', t, kvs, h1, h2, x.sqT h3, h4, h5.pe x, x.sqT h6, h7, h8.pe x, h9, h10.pe x, h11.pe x⟩⟩
/-- one level of trees, seen as rows -/
structure Lev (Aa L M A' IL IM lo ln : List NestedKey) (n : Nat) : Prop where
  lb : labs lo
  nd : lo.Nodup
  pm : ln.Perm lo
  ch : ChainOk lo ln
  len : lo.length ≤ 20
  pre : RowPre A' IL IM
  wg : lo ≠ [] → wgt A' IL < n
  rows : 1 + lo.length * (A'.length + 1 + IL.length) ≤ Aa.length + 1 + L.length
  mv : ∀ Ad : List NestedKey, movesK Ad lo ln ++ lo.flatMap (fun l => movesK ((Ad ++ [l]) ++ A') IL IM) = movesK (Ad ++ Aa) L M
  quiet : ∀ (Ad : List NestedKey) (i : Nat), i < lo.length → (lo.take i).flatMap (fun l => movesK ((Ad ++ [l]) ++ A') IL IM) = []
theorem chain_nil : ChainOk [] [] := ⟨rfl, fun i x h => absurd h (by simp)⟩
theorem stays_one (l : NestedKey) : KM.stays [l] [l] = [l] := by
  simp [KM.stays, KM.pilesOf, KM.pilesAt, KM.pstep, KM.fp, KM.addAt, KM.aheadOf, KM.startOf, KM.chain, KM.chainIt, KM.next, KM.lk]
theorem chain_one (l : NestedKey) : ChainOk [l] [l] := by
  refine ⟨?_, fun i x h e => ?_⟩
  · simp [KM.pilesOf, KM.pilesAt, KM.pstep, KM.fp, KM.addAt, KM.aheadOf, KM.startOf, KM.chainIt, KM.next, KM.lk]
  · have : i = 0 := by simpa using h
    subst this
    simp [KM.pilesOf, KM.pilesAt, KM.pstep, KM.fp, KM.addAt, KM.aheadOf, KM.startOf, KM.chainIt, KM.next, KM.lk] at e ⊢
    exact e
theorem moves_one (Ad : List NestedKey) (l : NestedKey) : movesK Ad [l] [l] = [] := by
  simp [movesK, stays_one, KM.ordAt, KM.ostep]
theorem moves_nil (Ad : List NestedKey) : movesK Ad [] [] = [] := rfl
theorem flat_nil {L : List NestedKey} {f : NestedKey → List NestedKey} (h : ∀ l, f l = []) : L.flatMap f = [] := by
  induction L with
  | nil => rfl
  | cons a L ih => rw [List.flatMap_cons, h, ih]; rfl
theorem pair_len {α β : Type} {R : α → β → Prop} : ∀ {xs : List α} {ys : List β}, Paired R xs ys → xs.length = ys.length
  | _, _, .nil => rfl
  | _, _, .cons _ t => by rw [List.length_cons, List.length_cons, pair_len t]
theorem lev_split {H : Hp} {Aa L M : List NestedKey} {v u : V} {n : Nat} (hv : TreeAt K H Aa L v) (hu : TreeAt K H Aa M u) (pre : RowPre Aa L M) (hw : wgt Aa L < n + 1) :
    ∃ (va ua : Addr) (po pn : List (NestedKey × NestedKey)) (lo ln A' IL IM : List NestedKey), v = .ref va ∧ u = .ref ua ∧ Sides K H va ua po pn lo ln A' IL IM ∧ Lev Aa L M A' IL IM lo ln n := by
  have nv := TreeAt.nk hv
  have nu := TreeAt.nk hu
  cases Aa with
  | nil =>
    obtain ⟨va, xs, rfl, h2, h3⟩ := hv
    obtain ⟨ua, ys, rfl, g2, g3⟩ := hu
    refine ⟨va, ua, leafRow L, leafRow M, L, M, [], [], [], rfl, rfl, ⟨leaf_fst L, leaf_fst M, nv, nu, fun l hl => kept_leaf hl (pre.pm.mem_iff.mpr hl), fun l hl => ?_⟩, ⟨pre.l, pre.nd, pre.pm, pre.ch, pre.len, ⟨fun _ h => by simp at h, fun _ h => by simp at h, .nil, .refl _, chain_nil, by simp⟩, fun hn => ?_, ?_, fun Ad => ?_, fun Ad i _ => flat_nil fun l => moves_nil _⟩⟩
    · have hm := pre.pm.mem_iff.mpr hl
      obtain ⟨e, h4, r, h5, h6⟩ := leaf_get h3 (idx_at hl)
      obtain ⟨e', g4, r', g5, g6⟩ := leaf_get g3 (idx_at hm)
      exact ⟨_, _, xs, ys, e, e', r, r', "a", [], posOf_mem hl, posOf_mem hm, h2, h4, h5, g2, g4, g5, .inl rfl, tree_empty h6, tree_empty g6⟩
    · unfold wgt at hw ⊢
      rw [if_neg hn] at hw
      simp at hw ⊢
      omega
    · simp <;> omega
    · rw [flat_nil (fun l => moves_nil _), List.append_nil, List.append_nil]
  | cons l A =>
    obtain ⟨va, e, r, rfl, h2, h3, h4⟩ := hv
    obtain ⟨ua, e', r', rfl, g2, g3, g4⟩ := hu
    refine ⟨va, ua, [(l, boxB (treeK A L))], [(l, boxB (treeK A M))], [l], [l], A, L, M, rfl, rfl, ⟨rfl, rfl, nv, nu, fun x hx => ?_, fun x hx => ?_⟩, ⟨fun x hx => ?_, by simp, .refl _, chain_one l, by simp, ⟨fun x hx => pre.a x (List.mem_cons_of_mem _ hx), pre.l, pre.nd, pre.pm, pre.ch, pre.len⟩, fun _ => ?_, ?_, fun Ad => ?_, fun Ad i hi => ?_⟩⟩
    · rw [List.mem_singleton.mp hx]
      exact kept_one l _ _
    · rw [List.mem_singleton.mp hx]
      exact ⟨0, 0, [e], [e'], e, e', r, r', "b", xOne, posOf_one l, posOf_one l, h2, rfl, h3, g2, rfl, g3, .inr ⟨_, _, rfl⟩, h4, g4⟩
    · rw [List.mem_singleton.mp hx]
      exact pre.a l (List.mem_cons_self ..)
    · unfold wgt at hw ⊢
      rw [List.length_cons] at hw
      omega
    · simp
      omega
    · rw [moves_one]
      simp
    · have : i = 0 := by simpa using hi
      subst this
      rfl
end
end KW
namespace KW
open PySem PySem.Spec PyProof.Rows L2
section
variable {P : Program} {w : World} {K : PySem.W.Frag} {mg : Str → Option Value} {base : Heap}
theorem evv_place {E : XK} {σ : L2.St} {H : Hp} {ta tb : TE} {ps : List (NestedKey × NestedKey)} {ls : List NestedKey} {l : NestedKey} {k : Nat} (ha : EvN K ta σ H (rowK ps)) (hb : EvN K tb σ H l) (hd : l.depth ≤ 8) (hl : ps.length ≤ 1000) (hf : ps.map (·.1) = ls) (hp : posOf ls l = some k) :
    EvV (tCall (spPlace K) [] E (tCons ta (tCons tb tNil))) σ H (.int (k : Int)) := by
  have := ev_place (E := E) ha hb hd hl
  rw [hf, hp] at this
  exact EvN.int this
theorem rowD_step (D : DRowD K mg) (B : Bl mg) (D1 : DPlace K mg) (D2 : DIsKept K mg) (D3 : DKeptL K mg) (D4 : DPlaceB K mg) (D5 : DPlaces K mg) (D6 : DPiles K mg) (D7 : DRowP K mg) (D8 : DOrder K mg) (D9 : DBoxD K mg) (n : Nat)
    (ih : FnOk P w K mg base CX0 (n + 4) D.f D.fd ["deeds", "rows", "address", "old", "new"] (spRowD K n)) :
    FnOk P w K mg base CX0 (n + 5) D.f D.fd ["deeds", "rows", "address", "old", "new"] (spRowD K (n + 1)) := by
  have G1 : FnOk P w K mg base CX0 1 D1.f D1.fd ["row", "label"] (spPlace K) := ok_place D1 B
  have G3 : FnOk P w K mg base CX0 3 D3.f D3.fd ["row", "old", "new"] (spKeptL K) := ok_keptL D3 B D1 D2
  have G7 : FnOk P w K mg base CX0 3 D7.f D7.fd ["old", "new"] (spRowP K) := ok_rowP D7 B D5 D6
  have G8 : FnOk P w K mg base CX0 4 D8.f D8.fd ["deeds", "address", "old", "new", "stays"] (spOrder K) := ok_order D8 B D1 D2 D3 D4
  have G9 : FnOk P w K mg base CX0 1 D9.f D9.fd ["deeds", "address", "old", "new"] (spBoxD K) := ok_boxD D9 B
  refine D.F.ok scRowD (fun vs H Q E h => ?_) (fun cdv A outer s H vs Q E hr h => ?_)
  · obtain ⟨dl, rl, a, v, u, ds0, rs0, Ad, A, L, M, rfl, _⟩ := h
    rfl
  obtain ⟨dl, rl, a, v, u, ds0, rs0, Ad, Aa, L, M, rfl, hdl, hrl, hne, ha, hAd, hv, hu, pre, hw, hds, hrs, q⟩ := h
  have hr1 : Room 1 _ := hr.mono (by omega)
  have hr3 : Room 3 _ := hr.mono (by omega)
  have hr4 : Room 4 _ := hr.mono (by omega)
  obtain ⟨va, ua, po, pn, lo, ln, A', IL, IM, rfl, rfl, sd, lv⟩ := lev_split hv hu pre (n := n) (by omega)
  refine ⟨_, pss_cons (ps_set (i := 5) scRowD.nd rfl (.inl rfl) (pe_call G3 hr3 (by rfl) D3.g D3.F.kp D3.b .nil pass0 (pa_cons (pv 3) (pa_cons (pv 3) (pa_cons (pv 4) pa_nil)))))
    (pss_cons (ps_asg (pe_call G7 hr3 (by rfl) D7.g D7.F.kp D7.b .nil pass0 (pa_cons (pe_callTy call_tupS (by rfl) B.tuple PyProof.Rows.boot_tuple (pa_cons (pv 5) pa_nil))
        (pa_cons (pe_callTy call_tupS (by rfl) B.tuple PyProof.Rows.boot_tuple (pa_cons (pe_call G3 hr3 (by rfl) D3.g D3.F.kp D3.b .nil pass0 (pa_cons (pv 4) (pa_cons (pv 3) (pa_cons (pv 4) pa_nil)))) pa_nil)) pa_nil)))
      (pg_tup rfl (pgs_cons (pg_name (i := 6) scRowD.nd rfl (.inl rfl)) (pgs_cons (pg_name (i := 7) scRowD.nd rfl (.inl rfl)) pgs_nil))))
    (pss_cons (ps_expr (pe_bm PySem.F.plainAttrs_list PySem.F.slot_list_append PySem.F.type_list_append mt_append (pv 1) (pa_cons (pe_tup (pa_cons (pv 2) (pa_cons (pv 6) (pa_cons (pv 7) pa_nil)))) pa_nil)))
    (pss_cons (ps_expr (pe_call G8 hr4 (by rfl) D8.g D8.F.kp D8.b .nil pass0 (pa_cons (pv 0) (pa_cons (pv 2) (pa_cons (pv 3) (pa_cons (pv 4) (pa_cons (pv 6) pa_nil)))))))
    (pss_one (ps_for PassesOwn.never rfl (pi_list (pv 5)) (pg_name (i := 8) scRowD.nd rfl (.inl rfl))
      (pss_cons (ps_set (i := 9) scRowD.nd rfl (.inl rfl) (pe_ix ix_tup (pe_ix ix_tup (pv 3) (pe_call G1 hr1 (by rfl) D1.g D1.F.kp D1.b .nil pass0 (pa_cons (pv 3) (pa_cons (pv 8) pa_nil))) plainIx) pe_int plainIx))
      (pss_cons (ps_set (i := 10) scRowD.nd rfl (.inl rfl) (pe_ix ix_tup (pe_ix ix_tup (pv 4) (pe_call G1 hr1 (by rfl) D1.g D1.F.kp D1.b .nil pass0 (pa_cons (pv 4) (pa_cons (pv 8) pa_nil))) plainIx) pe_int plainIx))
      (pss_cons (ps_expr (pe_call G9 hr1 (by rfl) D9.g D9.F.kp D9.b .nil pass0 (pa_cons (pv 0) (pa_cons (pe_op op_catA (pv 2) (pe_tup (pa_cons (pv 8) pa_nil))) (pa_cons (pv 9) (pa_cons (pv 10) pa_nil))))))
      (pss_one (ps_expr (pe_call ih hr (by rfl) D.g D.F.kp D.b .nil pass0 (pa_cons (pv 0) (pa_cons (pv 1) (pa_cons (pe_op op_catA (pv 2) (pe_tup (pa_cons (pv 8) pa_nil))) (pa_cons (pe_ix ix_tup (pv 9) pe_int plainIx) (pa_cons (pe_ix ix_tup (pv 10) pe_int plainIx) pa_nil)))))))))))))))), ?_⟩
  have lpo : po.length = lo.length := by rw [← sd.fo, List.length_map]
  have lpn : pn.length = lo.length := by rw [← lv.pm.length_eq, ← sd.fn, List.length_map]
  have l20 := lv.len
  have hkk : ∀ l ∈ lo, l.depth ≤ 8 ∧ KeptIn po pn l := fun l hl => by
    obtain ⟨ks, rfl, hd⟩ := lv.lb l hl
    exact ⟨by omega, sd.kept _ hl⟩
  have hko : ∀ p ∈ po, p.1.depth ≤ 8 ∧ KeptIn po pn p.1 := fun p hp => hkk _ (by rw [← sd.fo]; exact List.mem_map_of_mem hp)
  have hkn : ∀ p ∈ pn, p.1.depth ≤ 8 ∧ KeptIn po pn p.1 := fun p hp => hkk _ (lv.pm.mem_iff.mp (by rw [← sd.fn]; exact List.mem_map_of_mem hp))
  refine q_asgF (σ := [some (.ref dl), some (.ref rl), some a, some (.ref va), some (.ref ua), none, none, none, none, none, none]) (evf_keptL (pr := po) (po := po) (pn := pn) (evn_var (i := 3) rfl sd.nv) (evn_var (i := 3) rfl sd.nv) (evn_var (i := 4) rfl sd.nu) (by omega) (by omega) (by omega) hko) fun pm H1 hpm e1 hm => ?_
  obtain ⟨mv, hm1, hm2⟩ := hm
  rw [sd.fo] at hm2
  have sd1 := sd.pe (ex_pe e1)
  have hpd : pm ≠ dl := fun z => by rw [z, hdl] at hpm; cases hpm
  have hpr : pm ≠ rl := fun z => by rw [z, hrl] at hpm; cases hpm
  refine q_asgG (ev_rowP (lo := lo) (ln := ln) (evn_tupL (evv_var rfl) (SqL.of hm1) hm2) (evn_tupF (evf_keptL (pr := pn) (po := po) (pn := pn) (evn_var rfl sd1.nu) (evn_var rfl sd1.nv) (evn_var rfl sd1.nu) (by omega) (by omega) (by omega) hkn) fun p H2 e2 h2 => ?_) (fun l hl => lv.lb l (lv.pm.mem_iff.mp hl)) lv.nd (lv.pm.nodup_iff.mpr lv.nd) (fun l hl => lv.pm.mem_iff.mpr hl) (by omega) (by have := lv.pm.length_eq; omega) lv.ch) fun y H2 e2 hy => ?_
  · obtain ⟨ws, a1, a2⟩ := h2
    rw [sd.fn] at a2
    exact ⟨ws, a1, a2⟩
  cases hy with
  | @tup ya ys _ hy1 hy2 =>
    cases hy2 with
    | @cons y1 _ _ _ n1 hy2 =>
    cases hy2 with
    | @cons y2 _ _ _ n2 hy2 =>
    cases hy2
    refine ⟨ya, _, rfl, hy1, rfl, _, _, rfl, _, _, rfl, rfl, ?_⟩
    have e12 := e1.trans e2
    refine q_app (e12 _ _ hrl) (evv_var rfl) (evn_tup (ea_cons (evn_var rfl (ha.ex e12)) (ea_cons (evn_var rfl n1) (ea_cons (evn_var rfl n2) ea_nil))) (by show 3 ≤ 1000; decide)) (by omega) fun y3 H3 e3 hy3 => ?_
    have e13 := e12.trans e3
    have f4 : Fr2 dl rl H (upd H3 rl (.lst (rs0 ++ [y3]))) := (Fr2.of e13).updR
    have pe4 := f4.pe hdl hrl
    have pe34 : Pe H3 (upd H3 rl (.lst (rs0 ++ [y3]))) := pe_updL (e13 _ _ hrl)
    have hd4 : upd H3 rl (.lst (rs0 ++ [y3])) dl = some (.lst ds0) := by rw [upd_ne hne]; exact e13 _ _ hdl
    have hm4 : upd H3 rl (.lst (rs0 ++ [y3])) pm = some (.lst mv) := by rw [upd_ne hpr]; exact e3 _ _ (e2 _ _ hm1)
    have hr4' : upd H3 rl (.lst (rs0 ++ [y3])) rl = some (.lst (rs0 ++ [y3])) := upd_same
    have hmv4 := NkAll.pe pe34 _ ((hm2.ex e2).ex e3)
    have n14 := Nk.pe pe34 _ (n1.ex e3)
    generalize upd H3 rl (.lst (rs0 ++ [y3])) = H4 at f4 pe4 pe34 hd4 hm4 hr4' hmv4 n14 ⊢
    have sd4 := sd.pe pe4
    have ha4 := Nk.pe pe4 _ ha
    refine q_call (eaP_cons (evv_var rfl) (eaP_cons (evn_var rfl ha4) (eaP_cons (evn_var rfl sd4.nv) (eaP_cons (evn_var rfl sd4.nu) (eaP_cons (evn_var rfl n14) eaP_nil mono_isN) mono_isN) mono_isN) mono_isN) mono_isV) fun vs H5 e5 p => ?_
    obtain ⟨x1, _, rfl, h1, x2, _, rfl, h2, x3, _, rfl, h3, x4, _, rfl, h4, x5, _, rfl, h5, rfl⟩ := p
    cases h1
    have hfst : (po.map (·.1)) = lo := sd.fo
    have hfstn : (pn.map (·.1)) = ln := sd.fn
    refine ⟨dl, x2, x3, x4, x5, ds0, Ad, KM.stays lo ln, po, pn, rfl, e5 _ _ hd4, by omega, h2, h3, h4, h5, hko, ?_, ?_, by omega, by omega, fun H6 ws6 f6 hd6 hw6 => ?_⟩
    · rw [hfst, hfstn]
      exact fun l hl => lv.pm.mem_iff.mp hl
    · rw [hfstn]
      exact lv.pm.nodup_iff.mpr lv.nd
    have hw6 : NkAll K H6 ws6 (movesK Ad lo ln) := by
      rw [hfst, hfstn, show pn.length = ln.length by rw [← hfstn, List.length_map]] at hw6
      exact hw6
    have f46 : FrB dl H4 H6 := (FrB.of e5).trans f6
    have pe46 := f46.pe hd4
    have hml : (movesK Ad lo ln).length ≤ 20 := by
      unfold movesK
      rw [List.length_map]
      have := ord_len (L := lo) (M := ln) (st := KM.stays lo ln) ln.length
      have := lv.pm.length_eq
      omega
    refine s_forL (evv_var rfl) (SqL.of (f46 _ _ hpd hm4)) (fun i σ' H' => (∃ z8 z9 z10, σ' = [some (.ref dl), some (.ref rl), some a, some (.ref va), some (.ref ua), some (.ref pm), some y1, some y2, z8, z9, z10]) ∧ Fr2 dl rl H H' ∧ H' pm = some (.lst mv) ∧ NkAll K H' mv lo ∧ (∃ ws', H' dl = some (.lst (ds0 ++ ws')) ∧ NkAll K H' ws' (movesK Ad lo ln ++ (lo.take i).flatMap (fun l => movesK ((Ad ++ [l]) ++ A') IL IM))) ∧ (∃ rs, H' rl = some (.lst (rs0 ++ rs)) ∧ rs.length ≤ 1 + i * (A'.length + 1 + IL.length)))
      (fun H7 e7 => ⟨⟨none, none, none, rfl⟩, (f4.trans (.ofB f46)).trans (.of e7), e7 _ _ (f46 _ _ hpd hm4), (NkAll.pe pe46 _ hmv4).ex e7, ⟨ws6, e7 _ _ hd6, ?_⟩, ⟨[y3], e7 _ _ (f46 _ _ (Ne.symm hne) hr4'), by simp⟩⟩) (fun i σ' H' p => SqL.of p.2.2.1) ?_ ?_
    · simpa using hw6.ex e7
    · rintro i x σ' H7 hx ⟨⟨z8, z9, z10, rfl⟩, f7, hm7, hmv7, ⟨ws7, hd7, hw7⟩, ⟨rs7, hr7, hrl7⟩⟩
      obtain ⟨l, hl, nx⟩ := hmv7.getV hx
      have hi : i < lo.length := (List.getElem?_eq_some_iff.mp hl).1
      have hlm : l ∈ lo := List.mem_of_getElem? hl
      have pe7 := f7.pe hdl hrl
      have sd7 := sd.pe pe7
      have ha7 := Nk.pe pe7 _ ha
      have hl8 := (hkk l hlm).1
      obtain ⟨k, j, xs, ys, e, e', r, r', t, kvs, h1, h2, h3, h4, ⟨c, lv1, bv, rfl, b1, b2, b3⟩, h6, h7, ⟨c', lv1', bv', rfl, b1', b2', b3'⟩, h9, h10, h11⟩ := sd7.ent l hlm
      refine q_asg (evv_ixT (K := K) (evv_ixT (K := K) (evv_var rfl) h3 (evv_place (evn_var rfl sd7.nv) (evn_var rfl nx) hl8 (by omega) hfst h1) (atI_nat h4)) b1 evv_c (atI_nat (j := 1) rfl)) fun z H8 e8 hz => ?_
      cases hz
      have sd8 := sd7.pe (ex_pe e8)
      have nx8 := nx.ex e8
      refine q_asg (evv_ixT (K := K) (evv_ixT (K := K) (evv_var rfl) ((ex_pe e8).sqT h6) (evv_place (evn_var rfl sd8.nu) (evn_var rfl nx8) hl8 (by omega) hfstn h2) (atI_nat h7)) ((ex_pe e8).sqT b1') evv_c (atI_nat (j := 1) rfl)) fun z H9 e9 hz => ?_
      cases hz
      have e79 := e8.trans e9
      have pe79 := ex_pe e79
      have nx9 := nx8.ex e9
      have ha9 := ha7.ex e79
      have bx := b3.pe pe79
      have bx' := b3'.pe pe79
      have t1 := h10.pe pe79
      have t2 := h11.pe pe79
      refine q_drop (ev_boxD (d := V.non) (a := V.non) (evv_var rfl) mono_isV (evn_cat (evn_var rfl ha9) (evn_tup (ea_cons (evn_var rfl nx9) ea_nil) (by show 1 ≤ 1000; decide)) (by show Ad.length + 1 ≤ 1000; omega)) mono_isN (evv_var rfl) (evv_var rfl) bx bx' h9) fun _ H10 e10 _ => ?_
      have pe10 := ex_pe e10
      have bx := bx.pe pe10
      have bx' := bx'.pe pe10
      have t1 := t1.pe pe10
      have t2 := t2.pe pe10
      obtain ⟨bb, bp, bh, rfl, c2, _, _⟩ := bx
      obtain ⟨bb', bp', bh', rfl, c2', _, _⟩ := bx'
      have e710 := e79.trans e10
      refine s_call (eaP_cons (evv_var rfl) (eaP_cons (evv_var rfl) (eaP_cons (evn_cat (evn_var rfl (ha9.ex e10)) (evn_tup (ea_cons (evn_var rfl (nx9.ex e10)) ea_nil) (by show 1 ≤ 1000; decide)) (by show Ad.length + 1 ≤ 1000; omega)) (eaP_cons (evv_ixT (K := K) (evv_var rfl) c2 evv_c (atI_nat (j := 3) rfl)) (eaP_cons (evv_ixT (K := K) (evv_var rfl) c2' evv_c (atI_nat (j := 3) rfl)) eaP_nil mono_isV) mono_isV) mono_isN) mono_isV) mono_isV) fun vs H11 e11 p => ?_
      obtain ⟨x1, _, rfl, g1, x2, _, rfl, g2, x3, _, rfl, g3, x4, _, rfl, g4, x5, _, rfl, g5, rfl⟩ := p
      cases g1
      cases g2
      cases g4
      cases g5
      have e711 := e710.trans e11
      have hq := lv.quiet Ad i hi
      rw [hq, List.append_nil] at hw7
      have hwl : ws7.length ≤ 20 := by rw [hw7.length]; exact hml
      have hne0 : lo ≠ [] := fun z => by rw [z] at hi; simp at hi
      have hmul : (i + 1) * (A'.length + 1 + IL.length) ≤ lo.length * (A'.length + 1 + IL.length) := Nat.mul_le_mul_right _ hi
      have hrows := lv.rows
      rw [Nat.succ_mul] at hmul
      refine ⟨dl, rl, x3, _, _, ds0 ++ ws7, rs0 ++ rs7, Ad ++ [l], A', IL, IM, rfl, e711 _ _ hd7, e711 _ _ hr7, hne, g3, by rw [List.length_append, List.length_singleton]; omega, t1.pe (ex_pe e11), t2.pe (ex_pe e11), lv.pre, lv.wg hne0, by rw [List.length_append]; omega, by rw [List.length_append]; omega, fun H12 ws rs f12 hd12 hw12 hr12 hrl12 => ?_⟩
      have f712 : Fr2 dl rl H7 H12 := (Fr2.of e711).trans f12
      have pe712 := f712.pe hd7 hr7
      refine ⟨⟨_, _, _, rfl⟩, f7.trans f712, f712 _ _ hpd hpr hm7, NkAll.pe pe712 _ hmv7, ⟨ws7 ++ ws, by rw [← List.append_assoc]; exact hd12, ?_⟩, ⟨rs7 ++ rs, by rw [← List.append_assoc]; exact hr12, ?_⟩⟩
      · have ht : (lo.take (i + 1)).flatMap (fun l => movesK ((Ad ++ [l]) ++ A') IL IM) = movesK ((Ad ++ [l]) ++ A') IL IM := by
          rw [List.take_succ, hl, List.flatMap_append, hq]
          simp
        rw [ht]
        exact (NkAll.pe pe712 _ hw7).append hw12
      · rw [List.length_append, Nat.succ_mul]
        omega
    · rintro σ' H7 ⟨_, f7, hm7, hmv7, ⟨ws7, hd7, hw7⟩, ⟨rs7, hr7, hrl7⟩⟩
      have hml2 := hmv7.length
      rw [hml2, List.take_length, lv.mv] at hw7
      rw [hml2] at hrl7
      have := lv.rows
      exact q H7 ws7 rs7 f7 hd7 hw7 hr7 (by omega)
end
end KW
namespace KW
open PySem PySem.Spec PyProof.Rows L2
section
variable {K : PySem.W.Frag} {σ : L2.St} {H H0 : Hp} {ta tb td ty te : TE} {t : TA}
/-- a tuple of whatever values -/
theorem ev_tupA {Pa : List V → Hp → Prop} (h : EvA t σ H Pa) (hl : ∀ vs H1, Pa vs H1 → vs.length ≤ 1000) (m : ∀ vs H1 H2, Ex H1 H2 → Pa vs H1 → Pa vs H2) : Ev (tTup t) σ H (fun v H' => ∃ p vs, v = .ref p ∧ SqT K H' p vs ∧ Pa vs H') := fun H1 e Q q =>
  h H1 e _ fun vs H2 e2 p => ⟨Nat.le_of_lt (small1000 (hl vs H2 p)), fun a ha => q _ _ (e2.trans (ex_new ha)) ⟨a, vs, rfl, SqT.of upd_same, m _ _ _ (ex_new ha) p⟩⟩
theorem ev_tupL {p : Addr} {vs : List V} (ha : EvV ta σ H (.ref p)) (hs : SqL K H p vs) : Ev (tCB (rTupS K) (tCons ta tNil)) σ H (fun v H' => ∃ p, v = .ref p ∧ SqT K H' p vs) := fun H1 e Q q =>
  ha H1 e _ fun v H2 e2 h => by
    cases h
    exact ⟨p, vs, rfl, .inl ⟨(e.trans e2).seq hs, fun l hl => q _ _ (e2.trans (ex_new hl)) ⟨l, rfl, SqT.of upd_same⟩⟩⟩
theorem mono_sqt {vs : List V} : Mono (fun (v : V) H' => ∃ p : Addr, v = V.ref p ∧ SqT K H' p vs) := fun a H H' e ⟨p, h1, h2⟩ => ⟨p, h1, (ex_pe e).sqT h2⟩
end
section
variable {P : Program} {w : World} {K : PySem.W.Frag} {mg : Str → Option Value} {base : Heap}
theorem ok_rowD (D : DRowD K mg) (B : Bl mg) (D1 : DPlace K mg) (D2 : DIsKept K mg) (D3 : DKeptL K mg) (D4 : DPlaceB K mg) (D5 : DPlaces K mg) (D6 : DPiles K mg) (D7 : DRowP K mg) (D8 : DOrder K mg) (D9 : DBoxD K mg) (n : Nat) : FnOk P w K mg base CX0 (n + 4) D.f D.fd ["deeds", "rows", "address", "old", "new"] (spRowD K n) := by
  induction n with
  | zero =>
    have no : ∀ vs H Q E, ¬ spRowD K 0 vs H Q E := fun vs H Q E h => by
      obtain ⟨dl, rl, a, v, u, ds0, rs0, Ad, A, L, M, _, _, _, _, _, _, _, _, _, hw, _⟩ := h
      omega
    refine D.F.ok scRowD (fun vs H Q E h => absurd h (no vs H Q E)) (fun cdv A outer s H vs Q E hr h => absurd h (no vs H Q E))
  | succ n ih => exact rowD_step D B D1 D2 D3 D4 D5 D6 D7 D8 D9 n ih
abbrev DPaper (K : PySem.W.Frag) (mg : Str → Option Value) := Df K mg "paper_of" sPaper ["old", "new"]
def spPaper (K : PySem.W.Frag) : Sp := fun vs H Q _ => ∃ (v u : V) (A L M : List NestedKey), vs = [v, u] ∧ TreeAt K H A L v ∧ TreeAt K H A M u ∧ RowPre A L M ∧ A.length ≤ 2 ∧
  ∀ p dv rv H', Ex H H' → SqT K H' p [dv, rv] → Nk K H' dv (.tup (movesK A L M)) → Q (.ref p) H'
theorem scPaper : FnScope ["old", "new", "deeds", "rows"] ["old", "new"] (defScope sPaper) := ⟨rfl, rfl, rfl, by decide +kernel, rfl, by decide +kernel, by decide +kernel⟩
theorem ok_paper (D : DPaper K mg) (D0 : DRowD K mg) (B : Bl mg) (D1 : DPlace K mg) (D2 : DIsKept K mg) (D3 : DKeptL K mg) (D4 : DPlaceB K mg) (D5 : DPlaces K mg) (D6 : DPiles K mg) (D7 : DRowP K mg) (D8 : DOrder K mg) (D9 : DBoxD K mg) : FnOk P w K mg base CX0 9 D.f D.fd ["old", "new"] (spPaper K) := by
  have G : FnOk P w K mg base CX0 8 D0.f D0.fd ["deeds", "rows", "address", "old", "new"] (spRowD K 4) := ok_rowD D0 B D1 D2 D3 D4 D5 D6 D7 D8 D9 4
  refine D.F.ok scPaper (fun vs H Q E h => ?_) (fun cdv A outer s H vs Q E hr h => ?_)
  · obtain ⟨v, u, A, L, M, rfl, _⟩ := h
    rfl
  obtain ⟨v, u, Aa, L, M, rfl, hv, hu, pre, ha2, q⟩ := h
  refine ⟨_, pss_cons (ps_set (i := 2) scPaper.nd rfl (.inl rfl) (pe_lst pa_nil))
    (pss_cons (ps_set (i := 3) scPaper.nd rfl (.inl rfl) (pe_lst pa_nil))
    (pss_cons (ps_expr (pe_call G hr (by rfl) D0.g D0.F.kp D0.b .nil pass0 (pa_cons (pv 2) (pa_cons (pv 3) (pa_cons (pe_tup pa_nil) (pa_cons (pv 0) (pa_cons (pv 1) pa_nil)))))))
    (pss_one (ps_ret (pe_tup (pa_cons (pe_callTy call_tupS (by rfl) B.tuple PyProof.Rows.boot_tuple (pa_cons (pv 2) pa_nil)) (pa_cons (pe_callTy call_tupS (by rfl) B.tuple PyProof.Rows.boot_tuple (pa_cons (pv 3) pa_nil)) pa_nil))))))), ?_⟩
  have hl := pre.len
  have hwt : wgt Aa L < 4 := by
    unfold wgt
    split <;> omega
  refine q_asgF (σ := [some v, some u, none, none]) (evl_lst ea_vnil) fun dl H1 hdl e1 h1 => ?_
  refine q_asgF (evl_lst ea_vnil) fun rl H2 hrl e2 h2 => ?_
  have hne : dl ≠ rl := fun z => by
    rw [← z] at hrl
    rw [h1] at hrl
    cases hrl
  refine q_call (eaP_cons (evv_var rfl) (eaP_cons (evv_var rfl) (eaP_cons (evn_tup (K := K) (ks := []) ea_nil) (eaP_cons (evv_var rfl) (eaP_cons (evv_var rfl) eaP_nil mono_isV) mono_isV) mono_isN) mono_isV) mono_isV) fun vs H3 e3 p => ?_
  obtain ⟨x1, _, rfl, g1, x2, _, rfl, g2, x3, _, rfl, g3, x4, _, rfl, g4, x5, _, rfl, g5, rfl⟩ := p
  cases g1
  cases g2
  cases g4
  cases g5
  have e13 := (e1.trans e2).trans e3
  refine ⟨dl, rl, x3, _, _, [], [], [], Aa, L, M, rfl, (e2.trans e3) _ _ h1, e3 _ _ h2, hne, g3, by simp, hv.pe (ex_pe e13), hu.pe (ex_pe e13), pre, hwt, by simp, by simp; omega, fun H4 ws rs f4 hd4 hw4 hr4 _ => ?_⟩
  have e4 : Ex H H4 := fun b o hb => f4 b o (fun z => by rw [z] at hb; rw [hb] at hdl; cases hdl) (fun z => by rw [z] at hb; rw [e1 _ _ hb] at hrl; cases hrl) (e13 _ _ hb)
  refine s_ret (ev_tupA (K := K) (eaP_cons (evn_tupL (evv_var rfl) (SqL.of hd4) hw4) (eaP_cons (ev_tupL (evv_var rfl) (SqL.of hr4)) eaP_nil mono_sqt) mono_isN) (fun vs H1 p => ?_) ?_) fun r H5 e5 hr5 => ?_
  · obtain ⟨_, _, rfl, _, _, _, rfl, _, rfl⟩ := p
    show 2 ≤ 1000
    decide
  · rintro vs Ha Hb e ⟨x, _, rfl, h1, y, _, rfl, h2, rfl⟩
    exact ⟨x, _, rfl, h1.ex e, y, _, rfl, mono_sqt _ _ _ e h2, rfl⟩
  · obtain ⟨p, vs, rfl, h5, x, _, rfl, h1, y, _, rfl, h2, rfl⟩ := hr5
    rw [List.nil_append] at h1
    exact q p x y H5 (e4.trans e5) h5 h1
end
end KW
namespace KW
open PySem PySem.Spec PyProof.Rows L2

/-! ### a list's place is set -/
section
variable {σ : L2.St} {H : Hp} {te to ti : TE} {D : Ends} {tz : TS}
theorem s_setL {v : V} {t : Addr} {xs : List V} {k : Int} {j : Nat} (h : EvV te σ H v) (ho : EvV to σ H (.ref t)) (hi : EvV ti σ H (.int k)) (hx : H t = some (.lst xs)) (hj : ixN xs.length k = some j) (q : ∀ H1, Ex H H1 → D.nx σ (upd H1 t (.lst (xs.set j v)))) :
    tAsg te (gSub to ti rSetL) D σ H := h H (Same.refl _) _ fun v' H1 e1 p1 => by
  cases p1
  exact ho H1 e1 _ fun o' H2 e2 p2 => by
    cases p2
    exact hi H2 (e1.trans e2) _ fun i' H3 e3 p3 => by
      cases p3
      exact ⟨t, xs, k, j, rfl, rfl, ((e1.trans e2).trans e3) _ _ hx, hj, q H3 ((e1.trans e2).trans e3)⟩
theorem q_setL {v : V} {t : Addr} {xs : List V} {k : Int} {j : Nat} (h : EvV te σ H v) (ho : EvV to σ H (.ref t)) (hi : EvV ti σ H (.int k)) (hx : H t = some (.lst xs)) (hj : ixN xs.length k = some j) (q : ∀ H1, Ex H H1 → tz D σ (upd H1 t (.lst (xs.set j v)))) :
    tSeq (tAsg te (gSub to ti rSetL)) tz D σ H := s_setL (D := { D with nx := tz D }) h ho hi hx hj q
/-- an if whose two roads meet -/
theorem q_whenJ {t : TT} {tu : TS} {b : Bool} {W : L2.St → Hp → Prop} (h : EvT t σ H b) (h1 : ∀ z : L2.St → Hp → Prop, (∀ σ' H', W σ' H' → z σ' H') → b = true → ∀ H1, Ex H H1 → tu { D with nx := z } σ H1) (h2 : b = false → ∀ H1, Ex H H1 → W σ H1) (k : ∀ σ' H', W σ' H' → tz D σ' H') : tSeq (tIfS t tu tNext) tz D σ H :=
  q_when h (h1 (tz D) k) fun e H1 x => k _ _ (h2 e H1 x)
end
/-! ### the tape -/
/-- what stands on the tape, all else kept since H0 -/
structure Tq (K : PySem.W.Frag) (t sc : Addr) (ns : List Int) (H0 H : Hp) (a b c : Int) : Prop where
  fr : FrB t H0 H
  at_ : H t = some (.lst [.ref sc, .int a, .int b, .int c])
  sq : SqL K H sc (ns.map V.int)
theorem seq_kept {K : PySem.W.Frag} {H H' : Hp} {t sc : Addr} {ns : List Int} {r : Addr} {xs : List V} (f : FrB t H H') (ht : H t = some (.lst (.ref r :: xs))) (h : SqL K H sc (ns.map V.int)) : SqL K H' sc (ns.map V.int) := by
  have no : ns.map V.int ≠ .ref r :: xs := fun z => by
    cases ns with
    | nil => cases z
    | cons n ns => cases z
  rcases h with (h | ⟨o, h⟩) | h
  · refine .inl (.inl (f _ _ (fun z => ?_) h))
    rw [z, ht] at h
    injection h with h
    injection h with h
    exact no h.symm
  · refine .inl (.inr ⟨o, f _ _ (fun z => ?_) h⟩)
    rw [z, ht] at h
    cases h
  · exact .inr h
section
variable {K : PySem.W.Frag} {t sc : Addr} {ns : List Int} {H0 H H' : Hp} {a b c a' b' c' : Int}
theorem Tq.grow (h : Tq K t sc ns H0 H a b c) (e : Ex H H') : Tq K t sc ns H0 H' a b c := ⟨h.fr.trans (.of e), e _ _ h.at_, e.seq h.sq⟩
theorem Tq.set (h : Tq K t sc ns H0 H a b c) : Tq K t sc ns H0 (upd H t (.lst [.ref sc, .int a', .int b', .int c'])) a' b' c' :=
  have f : FrB t H (upd H t (.lst [.ref sc, .int a', .int b', .int c'])) := (FrB.of (Same.refl H)).mut (.inl rfl)
  ⟨h.fr.trans f, upd_same, seq_kept f h.at_ h.sq⟩
end
structure Tape where
  t : Addr
  sc : Addr
  ns : List Int
/-- the tape can be drawn from -/
def Tp (K : PySem.W.Frag) (T : Tape) (H : Hp) : Prop := ∃ (a b c : Int), H T.t = some (.lst [.ref T.sc, .int a, .int b, .int c]) ∧ SqL K H T.sc (T.ns.map V.int) ∧ 0 ≤ c
theorem Tp.grow {K : PySem.W.Frag} {T : Tape} {H H' : Hp} (h : Tp K T H) (e : Ex H H') : Tp K T H' := by
  obtain ⟨a, b, c, h1, h2, h3⟩ := h
  exact ⟨a, b, c, e _ _ h1, e.seq h2, h3⟩
/-- all but the tape is kept, and the tape is a tape -/
structure Td (K : PySem.W.Frag) (T : Tape) (H H' : Hp) : Prop where
  fr : FrB T.t H H'
  tp : Tp K T H'
section
variable {K : PySem.W.Frag} {T : Tape} {H H' H1 H2 : Hp}
theorem Td.trans (a : Td K T H H1) (b : Td K T H1 H2) : Td K T H H2 := ⟨a.fr.trans b.fr, b.tp⟩
theorem Td.grow (a : Td K T H H1) (b : Ex H1 H2) : Td K T H H2 := ⟨a.fr.trans (.of b), a.tp.grow b⟩
theorem Tp.td (h : Tp K T H) : Td K T H H := ⟨.of (Same.refl _), h⟩
theorem Tp.pe (h : Tp K T H) (f : FrB T.t H H') : Pe H H' := by
  obtain ⟨a, b, c, h1, _⟩ := h
  exact f.pe h1
theorem Tp.ne (h : Tp K T H) {p : Addr} (hp : H p = none) : T.t ≠ p := by
  obtain ⟨a, b, c, h1, _⟩ := h
  exact ne_of_none h1 hp
/-- a new object may change -/
theorem Td.mut (a : Td K T H H') (h : Tp K T H) {p : Addr} {o : HO} (hp : H p = none) : Td K T H (upd H' p o) := by
  have f : FrB T.t H (upd H' p o) := a.fr.mut (.inr hp)
  obtain ⟨x, y, c, h1, h2, h3⟩ := a.tp
  obtain ⟨x', y', c', g1, g2, g3⟩ := h
  exact ⟨f, x, y, c, (upd_ne (ne_of_none g1 hp)).trans h1, seq_kept f g1 g2, h3⟩
theorem Td.keep (a : Td K T H H') (h : Tp K T H) {p : Addr} {xs : List V} (hp : H p = some (.lst xs)) (hne : T.t ≠ p) : H' p = some (.lst xs) := a.fr _ _ (Ne.symm hne) hp
end
section
variable {P : Program} {w : World} {K : PySem.W.Frag} {mg : Str → Option Value} {base : Heap}
theorem ixN_in {n : Nat} {i : Int} (h0 : 0 ≤ i) (h : i < n) : ixN n i = some i.toNat := by
  unfold ixN
  rw [if_pos h0, if_pos h]
theorem atI_map {ns : List Int} {i : Int} (h0 : 0 ≤ i) (h : i < ns.length) : ∃ m, atI (ns.map V.int) i = some (V.int m) := by
  refine ⟨ns[i.toNat]'(by omega), ?_⟩
  unfold atI
  rw [List.length_map, ixN_in h0 h]
  show (ns.map V.int)[i.toNat]? = _
  rw [List.getElem?_map, List.getElem?_eq_getElem (by omega)]
  rfl
theorem evv_abs {ta : TE} {σ : L2.St} {H : Hp} {i : Int} (ha : EvV ta σ H (.int i)) : EvV (tCB (fun xs H Q => ∃ i : Int, xs = [V.int i] ∧ Q (V.int (if i < 0 then -i else i)) H) (tCons ta tNil)) σ H (.int (if i < 0 then -i else i)) := fun H1 e Q q =>
  ha H1 e _ fun x H2 e2 p => by
    cases p
    exact ⟨i, rfl, q _ H2 e2 rfl⟩
abbrev DDraw (K : PySem.W.Frag) (mg : Str → Option Value) := Df K mg "_law_draw" sDraw ["_law_tape_here", "_law_many"]
def spDraw (K : PySem.W.Frag) : Sp := fun vs H Q _ => ∃ (T : Tape) (m : Nat), vs = [.ref T.t, .int (m : Int)] ∧ Tp K T H ∧ 0 < m ∧ m ≤ 1000 ∧ ∀ (d : Nat) H', Td K T H H' → d < m → Q (.int (d : Int)) H'
theorem scDraw : FnScope ["_law_tape_here", "_law_many", "_law_script", "_law_digit", "_law_cell", "_law_mixed"] ["_law_tape_here", "_law_many"] (defScope sDraw) := ⟨rfl, rfl, rfl, by decide +kernel, rfl, by decide +kernel, by decide +kernel⟩
theorem mod_nat {i : Int} {m : Nat} (h : 0 < m) : ∃ d : Nat, i % (m : Int) = (d : Int) ∧ d < m := by
  have h1 := Int.emod_nonneg i (show (m : Int) ≠ 0 by omega)
  have h2 := Int.emod_lt_of_pos i (show (0 : Int) < (m : Int) by omega)
  exact ⟨(i % (m : Int)).toNat, by omega, by omega⟩
theorem ok_draw (D : DDraw K mg) (B : Bl mg) : FnOk P w K mg base CX0 1 D.f D.fd ["_law_tape_here", "_law_many"] (spDraw K) := by
  refine D.F.ok scDraw (fun vs H Q E h => ?_) (fun cdv A outer s H vs Q E hr h => ?_)
  · obtain ⟨t, m, rfl, _⟩ := h
    rfl
  obtain ⟨⟨t, sc, ns⟩, m, rfl, ⟨a, b, c, ht, hs, hc⟩, hm, hm2, q⟩ := h
  refine ⟨_, pss_cons (ps_set (i := 2) scDraw.nd rfl (.inl rfl) (pe_ix ix_list (pv 0) pe_int plainIx))
    (pss_cons (ps_asg (pe_op op_add (pe_ix ix_list (pv 0) pe_int plainIx) pe_int) (pg_sub (pv 0) pe_int set_list))
    (pss_cons (ps_if (PW.pt (pw_and (pt_cmpR op_eq (pe_ix ix_list (pv 0) pe_int plainIx) pe_int (by rfl)) (pw_and1 (pt_cmpR op_lt (pe_ix ix_list (pv 0) pe_int plainIx) (pe_callB call_lenS (by rfl) B.len PySem.boot_len (pa_cons (pv 2) pa_nil)) (by rfl)))))
      (pss_cons (ps_asg (pe_op op_fdivW (pe_callB call_abs (by rfl) B.abs PyProof.Rows.boot_abs (pa_cons (pe_ix ix_list (pv 2) (pe_ix ix_list (pv 0) pe_int plainIx) plainIx) pa_nil)) (pe_op op_pow pe_int pe_int)) (pg_sub (pv 0) pe_int set_list))
      (pss_one (ps_asg (pe_op op_add (pe_ix ix_list (pv 0) pe_int plainIx) pe_int) (pg_sub (pv 0) pe_int set_list)))) pss_nil)
    (pss_cons (ps_if (pt_cmpR op_gt (pe_ix ix_list (pv 0) pe_int plainIx) pe_int (by rfl))
      (pss_cons (ps_set (i := 3) scDraw.nd rfl (.inl rfl) (pe_op op_mod (pe_ix ix_list (pv 0) pe_int plainIx) (pv 1)))
      (pss_cons (ps_asg (pe_op op_fdiv (pe_ix ix_list (pv 0) pe_int plainIx) (pv 1)) (pg_sub (pv 0) pe_int set_list))
      (pss_one (ps_ret (pv 3))))) pss_nil)
    (pss_cons (ps_set (i := 4) scDraw.nd rfl (.inl rfl) pe_int)
    (pss_cons (ps_if (pt_cmpR op_gt (pe_callB call_lenS (by rfl) B.len PySem.boot_len (pa_cons (pv 2) pa_nil)) pe_int (by rfl))
      (pss_one (ps_set (i := 4) scDraw.nd rfl (.inl rfl) (pe_ix ix_list (pv 2) (pe_op op_mod (pe_ix ix_list (pv 0) pe_int plainIx) (pe_callB call_lenS (by rfl) B.len PySem.boot_len (pa_cons (pv 2) pa_nil))) plainIx))) pss_nil)
    (pss_cons (ps_set (i := 5) scDraw.nd rfl (.inl rfl) (pe_op op_mod (pe_op op_add (pe_op op_add (pe_op op_mul (pe_op op_mod (pv 4) pe_int) pe_int) (pe_op op_mul (pe_ix ix_list (pv 0) pe_int plainIx) pe_int)) pe_int) pe_int))
    (pss_cons (ps_set (i := 5) scDraw.nd rfl (.inl rfl) (pe_op op_mod (pe_op op_mul (pv 5) (pe_op op_add (pv 5) pe_int)) pe_int))
    (pss_one (ps_ret (pe_op op_mod (pe_op op_mod (pe_op op_mul (pv 5) pe_int) pe_int) (pv 1))))))))))), ?_⟩
  have T0 : Tq K t sc ns H H a b c := ⟨.of (Same.refl _), ht, hs⟩
  refine q_asg (σ := [some (.ref t), some (.int (m : Int)), none, none, none, none]) (evv_ixL (K := K) (evv_var rfl) (SqL.of T0.at_) evv_c (atI_nat (j := 0) rfl)) fun _ H1 e1 z => ?_
  cases z
  have T1 := T0.grow e1
  refine q_setL (j := 1) (evv_I0 (g := fun i j => .int (i + j)) (evv_ixL (K := K) (evv_var rfl) (SqL.of T1.at_) evv_c (atI_nat (j := 1) rfl)) evv_c) (evv_var rfl) evv_c T1.at_ rfl fun H2 e2 => ?_
  have T2 := (T1.grow e2).set (a' := a + 1) (b' := b) (c' := c)
  refine q_whenJ (W := fun σ' H' => σ' = [some (.ref t), some (.int (m : Int)), some (.ref sc), none, none, none] ∧ ∃ b' c', Tq K t sc ns H H' (a + 1) b' c' ∧ 0 ≤ c') (b := decide (V.int b = V.int 0) && decide (c < (ns.length : Int)))
    (et_and (et_test (evv_eq rfl (evv_ixL (K := K) (evv_var rfl) (SqL.of T2.at_) evv_c (atI_nat (j := 2) rfl)) evv_c)) (fun _ => et_test (evv_I0 (g := fun i j => .bl (decide (i < j))) (evv_ixL (K := K) (evv_var rfl) (SqL.of T2.at_) evv_c (atI_nat (j := 3) rfl)) (evv_is (evv_lenL (evv_var rfl) T2.sq) (by rw [List.length_map])))))
    (fun z hz hb H3 e3 => ?_) (fun _ H3 e3 => ⟨rfl, _, _, T2.grow e3, hc⟩) ?_
  · have T3 := T2.grow e3
    rw [Bool.and_eq_true] at hb
    have hlt : c < (ns.length : Int) := of_decide_eq_true hb.2
    obtain ⟨cell, hcell⟩ := atI_map hc hlt
    refine q_setL (j := 2) (evv_I (C := CDivW) (g := fun i j => .int (i / j)) ?_ (evv_abs (evv_ixL (K := K) (evv_var rfl) T3.sq (evv_ixL (K := K) (evv_var rfl) (SqL.of T3.at_) evv_c (atI_nat (j := 3) rfl)) hcell)) (evv_I (C := CPow) (g := fun i j => .int (i ^ j.toNat)) ⟨by decide, by decide, by decide⟩ evv_c evv_c)) (evv_var rfl) evv_c T3.at_ rfl fun H4 e4 => ?_
    · exact wide_div (b := 64) (by decide) (by decide) (by decide) (by decide)
    have T4 := (T3.grow e4).set (a' := a + 1) (b' := (if cell < 0 then -cell else cell) / (10 : Int) ^ (18 : Int).toNat) (c' := c)
    refine s_setL (j := 3) (evv_I0 (g := fun i j => .int (i + j)) (evv_ixL (K := K) (evv_var rfl) (SqL.of T4.at_) evv_c (atI_nat (j := 3) rfl)) evv_c) (evv_var rfl) evv_c T4.at_ rfl fun H5 e5 => ?_
    exact hz _ _ ⟨rfl, _, _, (T4.grow e5).set (a' := a + 1) (b' := (if cell < 0 then -cell else cell) / (10 : Int) ^ (18 : Int).toNat) (c' := c + 1), by omega⟩
  rintro σ' H3 ⟨rfl, b3, c3, T3, hc3⟩
  have fin : ∀ {H' : Hp} {b' c' : Int}, Tq K t sc ns H H' (a + 1) b' c' → 0 ≤ c' → Td K ⟨t, sc, ns⟩ H H' := fun T h0 => ⟨T.fr, _, _, _, T.at_, T.sq, h0⟩
  refine q_when (b := decide (0 < b3)) (et_test (evv_I0 (g := fun i j => .bl (decide (j < i))) (evv_ixL (K := K) (evv_var rfl) (SqL.of T3.at_) evv_c (atI_nat (j := 2) rfl)) evv_c)) (fun hb H4 e4 => ?_) (fun hb H4 e4 => ?_)
  · have T4 := T3.grow e4
    obtain ⟨d, hd, hdm⟩ := mod_nat (i := b3) hm
    refine q_asg (evv_I (C := fun _ j => 0 < j) (g := fun i j => .int (i % j)) (by omega) (evv_ixL (K := K) (evv_var rfl) (SqL.of T4.at_) evv_c (atI_nat (j := 2) rfl)) (evv_var rfl)) fun y H5 e5 hy => ?_
    cases hy
    have T5 := T4.grow e5
    refine q_setL (j := 2) (evv_I (C := CDiv) (g := fun i j => .int (i / j)) ⟨by omega, by omega⟩ (evv_ixL (K := K) (evv_var rfl) (SqL.of T5.at_) evv_c (atI_nat (j := 2) rfl)) (evv_var rfl)) (evv_var rfl) evv_c T5.at_ rfl fun H6 e6 => ?_
    have T6 := (T5.grow e6).set (a' := a + 1) (b' := b3 / (m : Int)) (c' := c3)
    refine s_ret (evv_var rfl) fun r H7 e7 hr7 => ?_
    cases hr7
    rw [hd]
    exact q d H7 (fin (T6.grow e7) hc3) hdm
  · have T4 := T3.grow e4
    refine q_asg evv_c fun y H5 e5 hy => ?_
    cases hy
    have T5 := T4.grow e5
    refine q_whenJ (W := fun σ' H' => (∃ cell : Int, σ' = [some (.ref t), some (.int (m : Int)), some (.ref sc), none, some (.int cell), none]) ∧ Tq K t sc ns H H' (a + 1) b3 c3) (b := decide ((0 : Int) < (ns.length : Int)))
      (et_test (evv_I0 (g := fun i j => .bl (decide (j < i))) (evv_is (evv_lenL (evv_var rfl) T5.sq) (by rw [List.length_map])) evv_c)) (fun z hz hb H6 e6 => ?_) (fun _ H6 e6 => ⟨⟨0, rfl⟩, T5.grow e6⟩) ?_
    · have T6 := T5.grow e6
      have h0 : (0 : Int) < (ns.length : Int) := of_decide_eq_true hb
      obtain ⟨cell, hcell⟩ := atI_map (ns := ns) (i := (a + 1) % (ns.length : Int)) (Int.emod_nonneg _ (by omega)) (Int.emod_lt_of_pos _ h0)
      refine s_asg (evv_ixL (K := K) (evv_var rfl) T6.sq (evv_I (C := fun _ j => 0 < j) (g := fun i j => .int (i % j)) h0 (evv_ixL (K := K) (evv_var rfl) (SqL.of T6.at_) evv_c (atI_nat (j := 1) rfl)) (evv_is (evv_lenL (evv_var rfl) T6.sq) (by rw [List.length_map]))) hcell) fun y H7 e7 hy => ?_
      cases hy
      exact hz _ _ ⟨⟨cell, rfl⟩, T6.grow e7⟩
    rintro σ' H6 ⟨⟨cell, rfl⟩, T6⟩
    refine q_asg (evv_I (C := fun _ j => 0 < j) (g := fun i j => .int (i % j)) (by decide) (evv_I0 (g := fun i j => .int (i + j)) (evv_I0 (g := fun i j => .int (i + j)) (evv_I (C := CMul) (g := fun i j => .int (i * j)) (.inr (by decide)) (evv_I (C := fun _ j => 0 < j) (g := fun i j => .int (i % j)) (by decide) (evv_var rfl) evv_c) evv_c) (evv_I (C := CMul) (g := fun i j => .int (i * j)) (.inr (by decide)) (evv_ixL (K := K) (evv_var rfl) (SqL.of T6.at_) evv_c (atI_nat (j := 1) rfl)) evv_c)) evv_c) evv_c) fun y H7 e7 hy => ?_
    have T7 := T6.grow e7
    obtain ⟨d, hd, hdm⟩ := mod_nat (i := cell % 2147483647 * 48271 + (a + 1) * 7919 + 12345) (m := 2147483629) (by decide)
    have hy2 : y = .int (d : Int) := hy.trans (congrArg V.int hd)
    cases hy2
    refine q_asg (evv_I (C := fun _ j => 0 < j) (g := fun i j => .int (i % j)) (by decide) (evv_I (C := CMul) (g := fun i j => .int (i * j)) (.inl ⟨by omega, by omega⟩) (evv_var rfl) (evv_I0 (g := fun i j => .int (i + j)) (evv_var rfl) evv_c)) evv_c) fun y8 H8 e8 hy8 => ?_
    have T8 := T7.grow e8
    cases hy8
    obtain ⟨d9, hd9, hdm9⟩ := mod_nat (i := (d : Int) * ((d : Int) + 40692) % 2147483587 * 16807 % 2147483563) hm
    refine s_ret (evv_I (C := fun _ j => 0 < j) (g := fun i j => .int (i % j)) (by omega) (evv_I (C := fun _ j => 0 < j) (g := fun i j => .int (i % j)) (by decide) (evv_I (C := CMul) (g := fun i j => .int (i * j)) (.inr (by decide)) (evv_var rfl) evv_c) evv_c) (evv_var rfl)) fun r H9 e9 hr9 => ?_
    have hr10 : r = .int (d9 : Int) := hr9.trans (congrArg V.int hd9)
    rw [hr10]
    exact q d9 H9 (fin (T8.grow e9) hc3) hdm9
end
end KW
namespace KW
open PySem PySem.Spec PyProof.Rows L2

/-! ### what draws from the tape -/
def EvD (K : PySem.W.Frag) (T : Tape) (te : TE) (σ : L2.St) (H : Hp) (P : V → Hp → Prop) : Prop := ∀ H1, Td K T H H1 → ∀ Q : VK, (∀ v H2, Td K T H1 H2 → P v H2 → Q v H2) → te σ H1 Q
/-- the value alone -/
abbrev EvS (K : PySem.W.Frag) (T : Tape) (te : TE) (σ : L2.St) (H : Hp) (S : V → Prop) : Prop := EvD K T te σ H fun v _ => S v
def EvSA (K : PySem.W.Frag) (T : Tape) (ta : TA) (σ : L2.St) (H : Hp) (S : List V → Prop) : Prop := ∀ H1, Td K T H H1 → ∀ Q : List V → Hp → Prop, (∀ vs H2, Td K T H1 H2 → S vs → Q vs H2) → ta σ H1 Q
def isNat (m : Nat) (v : V) : Prop := ∃ d : Nat, d < m ∧ v = .int (d : Int)
section
variable {K : PySem.W.Frag} {T : Tape} {σ : L2.St} {H H' : Hp} {ta tb tc te : TE} {r : R2} {P P1 P2 : V → Hp → Prop} {S S1 S2 : V → Prop} {D : Ends} {tz tu : TS}
theorem evs_of {v : V} (h : ∀ H1, Td K T H H1 → EvV te σ H1 v) : EvS K T te σ H (fun w => w = v) := fun H1 d Q q => h H1 d H1 (Same.refl _) Q fun w H2 e p => q w H2 (d.tp.td.grow e) p
theorem evs_var {i : Nat} {v : V} (h : σ[i]? = some (some v)) : EvS K T (tVar i) σ H (fun w => w = v) := evs_of fun _ _ => evv_var h
theorem evs_op (ha : EvS K T ta σ H S1) (hb : EvS K T tb σ H S2) (hr : ∀ x y H1, Td K T H H1 → S1 x → S2 y → ∀ Q : VK, (∀ v, S v → Q v H1) → r x y H1 Q) : EvS K T (tOp r ta tb) σ H S := fun H1 d Q q =>
  ha H1 d _ fun x H2 d2 p1 => hb H2 (d.trans d2) _ fun y H3 d3 p2 => hr x y H3 ((d.trans d2).trans d3) p1 p2 Q fun v p => q v H3 (d2.trans d3) p
theorem evs_sub {i : Int} (ha : EvS K T ta σ H (fun v => ∃ j : Int, v = .int j)) : EvS K T (tOp (rI0 fun i j => .int (i - j)) ta (tC (.int i))) σ H (fun v => ∃ j : Int, v = .int j) :=
  evs_op ha (evs_of fun _ _ => evv_c) fun x y H1 _ ⟨j, hj⟩ hy Q q => ⟨j, i, hj, hy, q _ ⟨_, rfl⟩⟩
theorem EvD.impS (h : EvS K T te σ H S1) (w : ∀ v, S1 v → S v) : EvS K T te σ H S := fun H1 d Q q => h H1 d Q fun v H2 d2 p => q v H2 d2 (w v p)
theorem evs_gt {m : Nat} (ha : EvS K T ta σ H (isNat m)) : EvS K T (tOp (rI0 fun i j => .bl (decide (j < i))) ta (tC (.int 0))) σ H (fun v => ∃ b, v = .bl b) :=
  evs_op ha (evs_of fun _ _ => evv_c) fun x y H1 _ ⟨d, _, hd⟩ hy Q q => ⟨_, 0, hd, hy, q _ ⟨_, rfl⟩⟩
/-- a list just made, at a drawn place -/
theorem evs_ixL {vs : List V} {m : Nat} (ha : ∀ H1, Td K T H H1 → EvL ta σ H1 vs) (hb : EvS K T tb σ H (isNat m)) (hm : vs.length = m := by rfl) : EvS K T (tOp (rIxL K) ta tb) σ H (fun v => v ∈ vs) := fun H1 d Q q =>
  ha H1 d H1 (Same.refl _) _ fun p H2 hn e2 hp => by
    have d2 := d.tp.td.grow e2
    refine hb H2 (d.trans d2) _ fun y H3 d3 ⟨k, hk, hy⟩ => ?_
    have hlt : k < vs.length := by omega
    refine ⟨p, vs, (k : Int), vs[k], rfl, hy, SqL.of (d3.fr _ _ (Ne.symm (d.tp.ne hn)) hp), atI_nat (List.getElem?_eq_getElem hlt), q _ H3 (d2.trans d3) (List.getElem_mem hlt)⟩
theorem esa_nil : EvSA K T tNil σ H (fun vs => vs = []) := fun H1 d _ q => q [] H1 d.tp.td rfl
theorem esa_cons {tr : TA} {Sr : List V → Prop} (h : EvS K T te σ H S) (hr : EvSA K T tr σ H Sr) : EvSA K T (tCons te tr) σ H (fun vs => ∃ v ws, vs = v :: ws ∧ S v ∧ Sr ws) := fun H1 d _ q =>
  h H1 d _ fun v H2 d2 p => hr H2 (d.trans d2) _ fun vs H3 d3 ps => q (v :: vs) H3 (d2.trans d3) ⟨v, vs, rfl, p, ps⟩
theorem evd_tup {ta : TA} {Sa : List V → Prop} (h : EvSA K T ta σ H Sa) (hl : ∀ vs, Sa vs → vs.length ≤ 1000) : EvD K T (tTup ta) σ H (fun v H' => ∃ a vs, v = .ref a ∧ SqT K H' a vs ∧ Sa vs) := fun H1 d Q q =>
  h H1 d _ fun vs H2 d2 p => ⟨Nat.le_of_lt (small1000 (hl vs p)), fun a ha => q _ _ (d2.grow (ex_new ha)) ⟨a, vs, rfl, SqT.of upd_same, p⟩⟩
theorem s_retD (tp : Tp K T H) (h : EvD K T te σ H P) (k : ∀ v H1, Td K T H H1 → P v H1 → D.rt v H1) : tRet te D σ H := h H tp.td _ fun v H1 e p => k v H1 e p
theorem q_asgD {i : Nat} (tp : Tp K T H) (h : EvD K T te σ H P) (k : ∀ v H1, Td K T H H1 → P v H1 → tz D (σ.set i (some v)) H1) : tSeq (tAsg te (gName i)) tz D σ H := h H tp.td _ fun v H1 e p => k v H1 e p
theorem s_asgD {i : Nat} (tp : Tp K T H) (h : EvD K T te σ H P) (k : ∀ v H1, Td K T H H1 → P v H1 → D.nx (σ.set i (some v)) H1) : tAsg te (gName i) D σ H := h H tp.td _ fun v H1 e p => k v H1 e p
/-- an if on a draw: either road -/
theorem q_whenD {W : L2.St → Hp → Prop} (tp : Tp K T H) (h : EvS K T te σ H (fun v => ∃ b, v = .bl b)) (h1 : ∀ z : L2.St → Hp → Prop, (∀ σ' H', W σ' H' → z σ' H') → ∀ H1, Td K T H H1 → tu { D with nx := z } σ H1) (h2 : ∀ H1, Td K T H H1 → W σ H1) (k : ∀ σ' H', W σ' H' → tz D σ' H') : tSeq (tIfS (tTest te) tu tNext) tz D σ H :=
  h H tp.td _ fun v H1 e ⟨b, hb⟩ => ⟨b, hb, by
    cases b with
    | true => exact h1 (tz D) k H1 e
    | false => exact k _ _ (h2 H1 e)⟩
/-- a call -/
theorem evd_call1 {sp : Sp} {E : XK} (ha : ∀ H1, Td K T H H1 → EvV ta σ H1 (.ref T.t)) (hs : ∀ H1, Td K T H H1 → ∀ Q : VK, (∀ v H2, Td K T H1 H2 → P v H2 → Q v H2) → sp [.ref T.t] H1 Q E) : EvD K T (tCall sp [] E (tCons ta tNil)) σ H P := fun H1 d Q q =>
  ha H1 d H1 (Same.refl _) _ fun v H2 e p => by
    cases p
    have d2 := d.tp.td.grow e
    exact hs H2 (d.trans d2) Q fun v H3 d3 pv => q v H3 (d2.trans d3) pv
theorem evs_draw {E : XK} {m : Nat} (ha : ∀ H1, Td K T H H1 → EvV ta σ H1 (.ref T.t)) (hb : ∀ H1, Td K T H H1 → EvV tb σ H1 (.int (m : Int))) (h0 : 0 < m) (h1 : m ≤ 1000) : EvS K T (tCall (spDraw K) [] E (tCons ta (tCons tb tNil))) σ H (isNat m) := fun H1 d Q q =>
  ha H1 d H1 (Same.refl _) _ fun v H2 e p => by
    cases p
    have d2 := d.tp.td.grow e
    refine hb H2 (d.trans d2) H2 (Same.refl _) _ fun v H3 e3 p => ?_
    cases p
    have d3 := d2.grow e3
    exact ⟨T, m, rfl, d3.tp, h0, h1, fun k H4 d4 hk => q _ H4 (d3.trans d4) ⟨k, hk, rfl⟩⟩
theorem evs_draw0 {E : XK} {i : Nat} {m : Nat} (ht : σ[i]? = some (some (.ref T.t))) (h0 : 0 < m := by decide) (h1 : m ≤ 1000 := by decide) : EvS K T (tCall (spDraw K) [] E (tCons (tVar i) (tCons (tC (.int (m : Int))) tNil))) σ H (isNat m) :=
  evs_draw (fun _ _ => evv_var ht) (fun _ _ => evv_c) h0 h1
theorem evd_cb1 {rr : List V → Hp → VK → Prop} (ha : EvD K T ta σ H P1) (hs : ∀ v H1, Td K T H H1 → P1 v H1 → ∀ Q : VK, (∀ u H2, Td K T H1 H2 → P u H2 → Q u H2) → rr [v] H1 Q) : EvD K T (tCB rr (tCons ta tNil)) σ H P := fun H1 d Q q =>
  ha H1 d _ fun v H2 d2 p => hs v H2 (d.trans d2) p Q fun u H3 d3 pu => q u H3 (d2.trans d3) pu
/-- a turn of a comprehension that draws -/
theorem made_turnD {R : Nat → V → Hp → Prop} (hR : ∀ i y H H', Pe H H' → R i y H → R i y H') {H1 H' : Hp} {Dl : Addr} {i : Nat} {σ2 : L2.St} (tp : Tp K T H1) (hn : H1 Dl = none) (d : Td K T H1 H') (hm : Made R i Dl H') (hi : i ≤ 1000) (he : EvD K T te σ2 H1 (R i)) :
    tYes σ2 H' fun b H3 => if b = true then te σ2 H3 fun y H4 => ∃ acc, H4 Dl = some (.lst acc) ∧ acc.length < sizeLine ∧ (Td K T H1 (upd H4 Dl (.lst (acc ++ [y]))) ∧ Made R (i + 1) Dl (upd H4 Dl (.lst (acc ++ [y])))) else (Td K T H1 H3 ∧ Made R (i + 1) Dl H3) := by
  show te σ2 H' _
  refine he H' d _ fun y H4 d4 hy => ?_
  obtain ⟨ws, h1, h2, h3⟩ := hm
  have hD := d4.fr _ _ (Ne.symm (tp.ne hn)) h1
  have pe : Pe H4 (upd H4 Dl (.lst (ws ++ [y]))) := pe_updL hD
  refine ⟨ws, hD, by rw [h2]; exact small1000 hi, (d.trans d4).mut tp hn, ws ++ [y], upd_same, by rw [List.length_append, h2]; rfl, fun i' y' hy' => ?_⟩
  by_cases hlt : i' < ws.length
  · rw [List.getElem?_append_left hlt] at hy'
    exact hR _ _ _ _ ((d.tp.pe d4.fr).trans pe) (h3 i' y' hy')
  · rw [List.getElem?_append_right (by omega)] at hy'
    have hi' : i' - ws.length = 0 := by
      have := (List.getElem?_eq_some_iff.mp hy').1
      simp at this
      omega
    rw [hi'] at hy'
    have ey : y = y' := Option.some.inj hy'
    have ei : i' = i := by omega
    rw [ei, ← ey]
    exact hR _ _ _ _ pe hy
theorem evd_lcR {R : Nat → V → Hp → Prop} {j : Nat} {vs : List Nat} {N : Nat} (hR : ∀ i y H H', Pe H H' → R i y H → R i y H') (h : EvS K T ta σ H (fun v => ∃ n : Nat, n ≤ N ∧ v = .int (n : Int))) (hN : N ≤ 1000) (hw : ∀ x, wipe ((wipe σ vs).set j (some x)) vs = wipe σ vs)
    (he : ∀ (i : Nat) (x : V) H1, Td K T H H1 → EvD K T te ((wipe σ vs).set j (some x)) H1 (R i)) :
    EvD K T (tLc (iRng1 (tCons ta tNil)) (gName j) tYes te vs) σ H (fun v H' => ∃ p n, n ≤ N ∧ v = .ref p ∧ T.t ≠ p ∧ Made R n p H') := fun H0 d Q q => h H0 d _ fun v H1 d1 ⟨n, hn, hv⟩ => by
  subst hv
  refine ⟨(n : Int), rfl, by omega, by omega, fun Dl hD => ?_⟩
  rw [Int.toNat_natCast]
  refine lc_range (lo := 0) (n := n) (fun i H' => Td K T H1 H' ∧ Made R i Dl H') ⟨d1.tp.td.grow (ex_new hD), [], upd_same, rfl, fun i y hy => by simp at hy⟩ (fun i H' hi p => ⟨hw _, ?_⟩) (fun H' p => q _ H' (d1.trans p.1) ⟨Dl, n, hn, rfl, d1.tp.ne hD, p.2⟩)
  exact made_turnD hR d1.tp hD p.1 p.2 (by omega) (he i _ H1 (d.trans d1))
end
theorem made_any {K : PySem.W.Frag} {H : Hp} {S : NestedKey → Prop} : ∀ (ws : List V), (∀ (i : Nat) (y : V), ws[i]? = some y → ∃ k, Nk K H y k ∧ S k) → ∃ ks, NkAll K H ws ks ∧ ∀ k ∈ ks, S k
  | [], _ => ⟨[], .nil, by simp⟩
  | w :: ws, h => by
    obtain ⟨k, h1, h2⟩ := h 0 w rfl
    obtain ⟨ks, h3, h4⟩ := made_any ws fun i y hy => h (i + 1) y (by simpa using hy)
    exact ⟨k :: ks, .cons h1 h3, fun x hx => by
      rcases List.mem_cons.mp hx with rfl | hx
      · exact h2
      · exact h4 x hx⟩
section
variable {P : Program} {w : World} {K : PySem.W.Frag} {mg : Str → Option Value} {base : Heap}
abbrev DNumber (K : PySem.W.Frag) (mg : Str → Option Value) := Df K mg "_law_number" sNumber ["_law_tape_here"]
def spNumber (K : PySem.W.Frag) : Sp := fun vs H Q _ => ∃ (T : Tape), vs = [.ref T.t] ∧ Tp K T H ∧ ∀ (i : Int) H', Td K T H H' → Q (.int i) H'
theorem scNumber : FnScope ["_law_tape_here"] ["_law_tape_here"] (defScope sNumber) := ⟨rfl, rfl, rfl, by decide +kernel, rfl, by decide +kernel, by decide +kernel⟩
theorem ok_number (D : DNumber K mg) (D1 : DDraw K mg) (B : Bl mg) : FnOk P w K mg base CX0 2 D.f D.fd ["_law_tape_here"] (spNumber K) := by
  have G1 : FnOk P w K mg base CX0 1 D1.f D1.fd ["_law_tape_here", "_law_many"] (spDraw K) := ok_draw D1 B
  refine D.F.ok scNumber (fun vs H Q E h => ?_) (fun cdv A outer s H vs Q E hr h => ?_)
  · obtain ⟨T, rfl, _⟩ := h
    rfl
  obtain ⟨T, rfl, tp, q⟩ := h
  refine ⟨_, pss_cons (ps_if (pt_cmpR op_gt (pe_call G1 hr (by rfl) D1.g D1.F.kp D1.b .nil pass0 (pa_cons (pv 0) (pa_cons pe_int pa_nil))) pe_int (by rfl))
      (pss_one (ps_ret (pe_op op_sub (pe_call G1 hr (by rfl) D1.g D1.F.kp D1.b .nil pass0 (pa_cons (pv 0) (pa_cons pe_int pa_nil))) pe_int))) pss_nil)
    (pss_one (ps_ret (pe_ix ix_list (pe_lst (pa_cons (pe_op op_pow pe_int pe_int) (pa_cons (pe_un un_neg (pe_op op_pow pe_int pe_int)) (pa_cons pe_int (pa_cons (pe_un un_neg pe_int) pa_nil)))))
      (pe_call G1 hr (by rfl) D1.g D1.F.kp D1.b .nil pass0 (pa_cons (pv 0) (pa_cons pe_int pa_nil))) plainIx))), ?_⟩
  refine q_whenD (σ := [some (.ref T.t)]) (K := K) (T := T) (W := fun σ' H' => σ' = [some (.ref T.t)] ∧ Td K T H H') tp (evs_gt (m := 8) (evs_draw0 rfl)) (fun z hz H1 d1 => ?_) (fun H1 d1 => ⟨rfl, d1⟩) ?_
  · exact s_retD d1.tp (evs_sub ((evs_draw0 (m := 9) rfl).impS fun v ⟨d, _, h⟩ => ⟨_, h⟩)) fun v H2 d2 ⟨j, hj⟩ => by
      rw [hj]
      exact q _ H2 (d1.trans d2)
  rintro σ' H1 ⟨rfl, d1⟩
  refine s_retD d1.tp (evs_ixL (m := 4) (vs := [.int ((10 : Int) ^ (9 : Int).toNat), .int (-((10 : Int) ^ (9 : Int).toNat)), .int 999983, .int (-70001)])
    (fun H2 d2 => evl_lst (ea_vcons (evv_I (C := CPow) (g := fun i j => .int (i ^ j.toNat)) ⟨by decide, by decide, by decide⟩ evv_c evv_c) (ea_vcons (evv_neg (evv_I (C := CPow) (g := fun i j => .int (i ^ j.toNat)) ⟨by decide, by decide, by decide⟩ evv_c evv_c)) (ea_vcons evv_c (ea_vcons (evv_neg evv_c) ea_vnil))))) (evs_draw0 (m := 4) rfl)) fun v H2 d2 hv => ?_
  have : ∃ i : Int, v = .int i := by
    simp only [List.mem_cons, List.not_mem_nil, or_false] at hv
    rcases hv with rfl | rfl | rfl | rfl <;> exact ⟨_, rfl⟩
  obtain ⟨i, rfl⟩ := this
  exact q _ H2 (d1.trans d2)
abbrev DSpot (K : PySem.W.Frag) (mg : Str → Option Value) := Df K mg "_law_spot" sSpot ["_law_tape_here"]
def spSpot (K : PySem.W.Frag) : Sp := fun vs H Q _ => ∃ (T : Tape), vs = [.ref T.t] ∧ Tp K T H ∧ ∀ r k H', Td K T H H' → Nk K H' r k → k.depth ≤ 1 → Q r H'
theorem scSpot : FnScope ["_law_tape_here", "_law_key"] ["_law_tape_here"] (defScope sSpot) := ⟨rfl, rfl, rfl, by decide +kernel, rfl, by decide +kernel, by decide +kernel⟩
theorem ok_spot (D : DSpot K mg) (D0 : DNumber K mg) (D1 : DDraw K mg) (B : Bl mg) : FnOk P w K mg base CX0 3 D.f D.fd ["_law_tape_here"] (spSpot K) := by
  have G1 : FnOk P w K mg base CX0 1 D1.f D1.fd ["_law_tape_here", "_law_many"] (spDraw K) := ok_draw D1 B
  have G2 : FnOk P w K mg base CX0 2 D0.f D0.fd ["_law_tape_here"] (spNumber K) := ok_number D0 D1 B
  refine D.F.ok scSpot (fun vs H Q E h => ?_) (fun cdv A outer s H vs Q E hr h => ?_)
  · obtain ⟨T, rfl, _⟩ := h
    rfl
  obtain ⟨T, rfl, tp, q⟩ := h
  have hr1 : Room 1 _ := hr.mono (by decide)
  refine ⟨_, pss_cons (ps_set (i := 1) scSpot.nd rfl (.inl rfl) pe_non)
    (pss_cons (ps_if (pt_cmpR op_gt (pe_call G1 hr1 (by rfl) D1.g D1.F.kp D1.b .nil pass0 (pa_cons (pv 0) (pa_cons pe_int pa_nil))) pe_int (by rfl))
      (pss_one (ps_set (i := 1) scSpot.nd rfl (.inl rfl) (pe_call G2 hr (by rfl) D0.g D0.F.kp D0.b .nil pass0 (pa_cons (pv 0) pa_nil)))) pss_nil)
    (pss_one (ps_ret (pe_tup (pa_cons (pv 1) (pa_cons (pe_ix ix_list (pe_lst (pa_cons pe_int (pa_cons pe_int (pa_cons pe_int (pa_cons pe_int (pa_cons pe_int (pa_cons (pe_op op_pow pe_int pe_int) pa_nil)))))))
      (pe_call G1 hr1 (by rfl) D1.g D1.F.kp D1.b .nil pass0 (pa_cons (pv 0) (pa_cons pe_int pa_nil))) plainIx) pa_nil)))))), ?_⟩
  refine q_asg (σ := [some (.ref T.t), none]) evv_c fun _ H1 e1 z => ?_
  cases z
  have d1 : Td K T H H1 := tp.td.grow e1
  refine q_whenD (K := K) (T := T) (W := fun σ' H' => (∃ kv k, σ' = [some (.ref T.t), some kv] ∧ (∀ H2, Nk K H2 kv k) ∧ k.depth = 0) ∧ Td K T H H') d1.tp (evs_gt (m := 3) (evs_draw0 rfl)) (fun z hz H2 d2 => ?_) (fun H2 d2 => ⟨⟨.non, .none, rfl, fun _ => .non, by simp [NestedKey.depth]⟩, d1.trans d2⟩) ?_
  · refine s_asgD d2.tp (evd_call1 (P := fun v _ => ∃ i : Int, v = .int i) (fun _ _ => evv_var rfl) fun H3 d3 Q' q' => ⟨T, rfl, d3.tp, fun i H4 d4 => q' _ H4 d4 ⟨i, rfl⟩⟩) fun v H3 d3 hv => ?_
    obtain ⟨i, rfl⟩ := hv
    exact hz _ _ ⟨⟨.int i, .num i, rfl, fun _ => .int i, by simp [NestedKey.depth]⟩, (d1.trans d2).trans d3⟩
  rintro σ' H2 ⟨⟨kv, k, rfl, hk, hk0⟩, d2⟩
  refine s_retD d2.tp (evd_tup (esa_cons (evs_var rfl) (esa_cons (evs_ixL (m := 6) (vs := [.int 0, .int 0, .int 1, .int 2, .int 11, .int ((10 : Int) ^ (12 : Int).toNat)])
    (fun H2 d2 => evl_lst (ea_vcons evv_c (ea_vcons evv_c (ea_vcons evv_c (ea_vcons evv_c (ea_vcons evv_c (ea_vcons (evv_I (C := CPow) (g := fun i j => .int (i ^ j.toNat)) ⟨by decide, by decide, by decide⟩ evv_c evv_c) ea_vnil))))))) (evs_draw0 (m := 6) rfl)) esa_nil)) (fun vs hv => ?_)) fun v H3 d3 hv => ?_
  · obtain ⟨_, _, rfl, _, _, _, rfl, _, rfl⟩ := hv
    show 2 ≤ 1000
    decide
  · obtain ⟨a, vs, rfl, hs, x, _, rfl, rfl, y, _, rfl, hy, rfl⟩ := hv
    have : ∃ i : Int, y = .int i := by
      simp only [List.mem_cons, List.not_mem_nil, or_false] at hy
      rcases hy with rfl | rfl | rfl | rfl | rfl | rfl <;> exact ⟨_, rfl⟩
    obtain ⟨i, rfl⟩ := this
    refine q _ (.tup [k, .num i]) H3 (d2.trans d3) (.tup hs (.cons (hk H3) (.cons (.int i) .nil))) ?_
    simp [NestedKey.depth, NestedKey.depthAll, hk0]
abbrev DLabel (K : PySem.W.Frag) (mg : Str → Option Value) := Df K mg "_law_label" sLabel ["_law_tape_here"]
def spLabel (K : PySem.W.Frag) : Sp := fun vs H Q _ => ∃ (T : Tape), vs = [.ref T.t] ∧ Tp K T H ∧ ∀ r k H', Td K T H H' → Nk K H' r k → labK k → Q r H'
theorem scLabel : FnScope ["_law_tape_here", "_law_k"] ["_law_tape_here"] (defScope sLabel) := ⟨rfl, rfl, rfl, by decide +kernel, rfl, by decide +kernel, by decide +kernel⟩
theorem depthAll_le {n : Nat} : ∀ {ks : List NestedKey}, (∀ k ∈ ks, k.depth ≤ n) → NestedKey.depthAll ks ≤ n
  | [], _ => by simp [NestedKey.depthAll]
  | k :: ks, h => by
    have h1 := h k (List.mem_cons_self ..)
    have h2 := depthAll_le fun x hx => h x (List.mem_cons_of_mem _ hx)
    simp only [NestedKey.depthAll]
    omega
theorem ok_label (D : DLabel K mg) (D0 : DSpot K mg) (D2 : DNumber K mg) (D1 : DDraw K mg) (B : Bl mg) : FnOk P w K mg base CX0 4 D.f D.fd ["_law_tape_here"] (spLabel K) := by
  have G1 : FnOk P w K mg base CX0 1 D1.f D1.fd ["_law_tape_here", "_law_many"] (spDraw K) := ok_draw D1 B
  have G3 : FnOk P w K mg base CX0 3 D0.f D0.fd ["_law_tape_here"] (spSpot K) := ok_spot D0 D2 D1 B
  refine D.F.ok scLabel (fun vs H Q E h => ?_) (fun cdv A outer s H vs Q E hr h => ?_)
  · obtain ⟨T, rfl, _⟩ := h
    rfl
  obtain ⟨T, rfl, tp, q⟩ := h
  refine ⟨_, pss_one (ps_ret (pe_callTy call_tupS (by rfl) B.tuple PyProof.Rows.boot_tuple (pa_cons
    (pe_lc (own := [("_law_k", 1)]) (g := gName 1) (tt := tYes) (te := tCall (spSpot K) [] E0 (tCons (tVar 0) tNil)) rfl scLabel.nd
      (pi_range1 rfl B.range (pa_cons (pe_ix ix_list (pe_lst (pa_cons pe_int (pa_cons pe_int (pa_cons pe_int (pa_cons pe_int (pa_cons pe_int pa_nil)))))) (pe_call G1 (hr.mono (by decide)) (by rfl) D1.g D1.F.kp D1.b .nil pass0 (pa_cons (pv 0) (pa_cons pe_int pa_nil))) plainIx) pa_nil))
      (blkOk_by (N := ["_law_tape_here", "_law_k"]) (sc := defScope sLabel) (by decide +kernel)) (fun _ _ _ _ _ => pg_name (i := 1) scLabel.nd rfl (Or.inl rfl)) (fun _ _ _ _ _ => pts_nil)
      (fun _ _ _ _ _ => pe_call G3 hr (by rfl) D0.g D0.F.kp D0.b .nil pass0 (pa_cons (pv 0) pa_nil))) pa_nil))), ?_⟩
  refine s_retD (σ := [some (.ref T.t), none]) tp (evd_cb1 (K := K) (P := fun v H' => ∃ k, Nk K H' v k ∧ labK k)
    (evd_lcR (K := K) (T := T) (R := fun _ y H => ∃ k, Nk K H y k ∧ k.depth ≤ 1) (j := 1) (vs := [1]) (te := tCall (spSpot K) [] E0 (tCons (tVar 0) tNil)) (N := 3) (fun i y H H' e ⟨k, h1, h2⟩ => ⟨k, Nk.pe e _ h1, h2⟩)
      ((evs_ixL (m := 5) (vs := [.int 1, .int 1, .int 1, .int 2, .int 3]) (fun H2 d2 => evl_lst (ea_vcons evv_c (ea_vcons evv_c (ea_vcons evv_c (ea_vcons evv_c (ea_vcons evv_c ea_vnil)))))) (evs_draw0 (i := 0) (m := 5) rfl)).impS fun v hv => by
        simp only [List.mem_cons, List.not_mem_nil, or_false] at hv
        rcases hv with rfl | rfl | rfl | rfl | rfl
        · exact ⟨1, by decide, rfl⟩
        · exact ⟨1, by decide, rfl⟩
        · exact ⟨1, by decide, rfl⟩
        · exact ⟨2, by decide, rfl⟩
        · exact ⟨3, by decide, rfl⟩) (by decide) (fun x => rfl)
      (fun i x H1 d1 => evd_call1 (fun _ _ => evv_var rfl) fun H3 d3 Q' q' => ⟨T, rfl, d3.tp, fun r k H4 d4 h4 h5 => q' _ H4 d4 ⟨k, h4, h5⟩⟩)) fun v H1 d1 ⟨p, n, hn, hv, hp, ws, h1, h2, h3⟩ Q' q' => ?_) fun r H1 d1 ⟨k, h1, h2⟩ => q r k H1 d1 h1 h2
  subst hv
  obtain ⟨ks, h4, h5⟩ := made_any ws h3
  refine ⟨p, ws, rfl, .inl ⟨SqL.of h1, fun l hl => q' _ _ (d1.tp.td.grow (ex_new hl)) ⟨.tup ks, .tup (SqT.of upd_same) (h4.ex (ex_new hl)), ks, rfl, ?_⟩⟩⟩
  have := depthAll_le h5
  simp only [NestedKey.depth]
  omega
end
end KW
namespace KW
open PySem PySem.Spec PyProof.Rows L2

section
variable {P : Program} {w : World} {K : PySem.W.Frag} {mg : Str → Option Value} {base : Heap}
abbrev DTape (K : PySem.W.Frag) (mg : Str → Option Value) := Df K mg "_law_tape" sTape ["_law_script"]
def spTape (K : PySem.W.Frag) : Sp := fun vs H Q _ => ∃ v, vs = [v] ∧ ∀ p H', H p = none → Ex H H' → H' p = some (.lst [v, .int 0, .int 0, .int 0]) → Q (.ref p) H'
theorem scTape : FnScope ["_law_script"] ["_law_script"] (defScope sTape) := ⟨rfl, rfl, rfl, by decide +kernel, rfl, by decide +kernel, by decide +kernel⟩
theorem ok_tape (D : DTape K mg) : FnOk P w K mg base CX0 1 D.f D.fd ["_law_script"] (spTape K) := by
  refine D.F.ok scTape (fun vs H Q E h => ?_) (fun cdv A outer s H vs Q E hr h => ?_)
  · obtain ⟨v, rfl, _⟩ := h
    rfl
  obtain ⟨v, rfl, q⟩ := h
  refine ⟨_, pss_one (ps_ret (pe_lst (pa_cons (pv 0) (pa_cons pe_int (pa_cons pe_int (pa_cons pe_int pa_nil)))))), ?_⟩
  exact evl_lst (σ := [some v]) (H := H) (ea_vcons (evv_var (i := 0) rfl) (ea_vcons evv_c (ea_vcons evv_c (ea_vcons evv_c ea_vnil)))) (by show 4 ≤ 1000; decide) H (Same.refl _) _ fun p H1 hp e1 h1 => q p H1 hp e1 h1
abbrev DLabels (K : PySem.W.Frag) (mg : Str → Option Value) := Df K mg "_law_labels" sLabels ["_law_tape_here", "_law_many"]
def spLabels (K : PySem.W.Frag) : Sp := fun vs H Q _ => ∃ (T : Tape) (m : Nat), vs = [.ref T.t, .int (m : Int)] ∧ Tp K T H ∧ m ≤ 5 ∧
  ∀ p ws L H', Td K T H H' → H p = none → H' p = some (.lst ws) → NkAll K H' ws L → labs L → L.Nodup → L.length ≤ m → Q (.ref p) H'
theorem scLabels : FnScope ["_law_tape_here", "_law_many", "_law_found", "_law_k", "_law_label_here"] ["_law_tape_here", "_law_many"] (defScope sLabels) := ⟨rfl, rfl, rfl, by decide +kernel, rfl, by decide +kernel, by decide +kernel⟩
theorem labs_nil : labs [] := fun _ h => by simp at h
theorem labs_app {L : List NestedKey} {l : NestedKey} (h : labs L) (hl : labK l) : labs (L ++ [l]) := fun x hx => by
  rcases List.mem_append.mp hx with hx | hx
  · exact h x hx
  · rw [List.mem_singleton.mp hx]
    exact hl
theorem nd_app {L : List NestedKey} {l : NestedKey} (h : L.Nodup) (hl : l ∉ L) : (L ++ [l]).Nodup := by
  rw [List.nodup_append]
  exact ⟨h, by simp, fun a ha b hb => by
    rw [List.mem_singleton.mp hb]
    exact fun z => hl (z ▸ ha)⟩
theorem ok_labels (D : DLabels K mg) (D3 : DLabel K mg) (D0 : DSpot K mg) (D2 : DNumber K mg) (D1 : DDraw K mg) (B : Bl mg) : FnOk P w K mg base CX0 5 D.f D.fd ["_law_tape_here", "_law_many"] (spLabels K) := by
  have G4 : FnOk P w K mg base CX0 4 D3.f D3.fd ["_law_tape_here"] (spLabel K) := ok_label D3 D0 D2 D1 B
  refine D.F.ok scLabels (fun vs H Q E h => ?_) (fun cdv A outer s H vs Q E hr h => ?_)
  · obtain ⟨T, m, rfl, _⟩ := h
    rfl
  obtain ⟨T, m, rfl, tp, hm, q⟩ := h
  refine ⟨_, pss_cons (ps_set (i := 2) scLabels.nd rfl (.inl rfl) (pe_lst pa_nil))
    (pss_cons (ps_for PassesOwn.never rfl (pi_range1 rfl B.range (pa_cons (pv 1) pa_nil)) (pg_name (i := 3) scLabels.nd rfl (.inl rfl))
      (pss_cons (ps_set (i := 4) scLabels.nd rfl (.inl rfl) (pe_call G4 hr (by rfl) D3.g D3.F.kp D3.b .nil pass0 (pa_cons (pv 0) pa_nil)))
      (pss_one (ps_if (pt_cmpR (op_notInN hr.units) (pv 4) (pv 2) (by rfl)) (pss_one (ps_expr (pe_bm PySem.F.plainAttrs_list PySem.F.slot_list_append PySem.F.type_list_append mt_append (pv 2) (pa_cons (pv 4) pa_nil)))) pss_nil))))
    (pss_one (ps_ret (pv 2)))), ?_⟩
  refine q_asgF (σ := [some (.ref T.t), some (.int (m : Int)), none, none, none]) (evl_lst ea_vnil) fun p H1 hp e1 h1 => ?_
  have htp := tp.ne hp
  refine q_forR (n := m) (ea_vcons (evv_var rfl) ea_vnil) (by omega) (fun i σ' H' => (∃ z3 z4, σ' = [some (.ref T.t), some (.int (m : Int)), some (.ref p), z3, z4]) ∧ Td K T H H' ∧ ∃ ws L, H' p = some (.lst ws) ∧ NkAll K H' ws L ∧ labs L ∧ L.Nodup ∧ L.length ≤ i)
    (fun H2 e2 => ⟨⟨none, none, rfl⟩, (tp.td.grow e1).grow e2, [], [], e2 _ _ h1, .nil, labs_nil, .nil, Nat.le_refl _⟩) ?_ ?_
  · rintro i σ' H2 hi ⟨⟨z3, z4, rfl⟩, d2, ws, L, g1, g2, g3, g4, g5⟩
    refine q_asgD (K := K) (T := T) (P := fun v H' => ∃ k, Nk K H' v k ∧ labK k) d2.tp (evd_call1 (fun _ _ => evv_var rfl) fun H3 d3 Q' q' => ⟨T, rfl, d3.tp, fun r k H4 d4 h4 h5 => q' r H4 d4 ⟨k, h4, h5⟩⟩) fun v H3 d3 hv => ?_
    obtain ⟨k, hk, hlk⟩ := hv
    have g1 := d3.fr _ _ (Ne.symm htp) g1
    have g2 := NkAll.pe (d2.tp.pe d3.fr) _ g2
    have d3 := d2.trans d3
    obtain ⟨ks, hks, hdk⟩ := hlk
    refine s_when (b := !decide (k ∈ L)) (et_test (evv_inL (neg := true) (evn_var rfl hk) (evv_var rfl) (SqL.of g1) g2 (by omega))) (fun hb H4 e4 => ?_) (fun hb H4 e4 => ?_)
    · have hni : k ∉ L := by simpa using hb
      refine s_app (e4 _ _ g1) (evv_var rfl) (ev_var (P := isN K k) rfl mono_isN (Nk.ex hk e4)) (by have := g2.length; omega) fun v' H5 e5 hv' => ?_
      have hH5 := e5 _ _ (e4 _ _ g1)
      have pe : Pe H5 (upd H5 p (.lst (ws ++ [v']))) := pe_updL hH5
      exact ⟨⟨_, _, rfl⟩, ((d3.grow e4).grow e5).mut tp hp, ws ++ [v'], L ++ [k], upd_same, (NkAll.pe pe _ ((g2.ex e4).ex e5)).append (.one (Nk.pe pe _ hv')), labs_app g3 ⟨ks, hks, hdk⟩, nd_app g4 hni, by rw [List.length_append, List.length_singleton]; omega⟩
    · exact ⟨⟨_, _, rfl⟩, d3.grow e4, ws, L, e4 _ _ g1, g2.ex e4, g3, g4, by omega⟩
  · rintro σ' H2 ⟨⟨z3, z4, rfl⟩, d2, ws, L, g1, g2, g3, g4, g5⟩
    refine s_ret (evv_var rfl) fun r H3 e3 hr3 => ?_
    cases hr3
    exact q p ws L H3 (d2.grow e3) hp (e3 _ _ g1) (g2.ex e3) g3 g4 g5
abbrev DShuf (K : PySem.W.Frag) (mg : Str → Option Value) := Df K mg "_law_shuffled" sShuf ["_law_tape_here", "_law_labels_here"]
def spShuf (K : PySem.W.Frag) : Sp := fun vs H Q _ => ∃ (T : Tape) (b : Addr) (vs0 : List V) (L : List NestedKey), vs = [.ref T.t, .ref b] ∧ Tp K T H ∧ H b = some (.lst vs0) ∧ NkAll K H vs0 L ∧ L.length ≤ 5 ∧
  ∀ p ws M H', Td K T H H' → H p = none → H' p = some (.lst ws) → NkAll K H' ws M → M.Perm L → Q (.ref p) H'
theorem scShuf : FnScope ["_law_tape_here", "_law_labels_here", "_law_left", "_law_found", "_law_way", "_law_many"] ["_law_tape_here", "_law_labels_here"] (defScope sShuf) := ⟨rfl, rfl, rfl, by decide +kernel, rfl, by decide +kernel, by decide +kernel⟩
theorem perm_ix {α : Type} : ∀ {L : List α} {k : Nat} (hk : k < L.length), (L[k] :: L.eraseIdx k).Perm L
  | [], _, h => absurd h (Nat.not_lt_zero _)
  | a :: l, 0, _ => List.Perm.refl _
  | a :: l, k + 1, h => by
    have hk : k < l.length := by simpa using h
    have ih := perm_ix (L := l) (k := k) hk
    exact (List.Perm.swap a l[k] (l.eraseIdx k)).trans (ih.cons a)
theorem perm_move {α : Type} {M L R : List α} {k : Nat} (hk : k < L.length) (h : (M ++ L).Perm R) : ((M ++ [L[k]]) ++ L.eraseIdx k).Perm R := by
  rw [List.append_assoc]
  exact (List.Perm.append_left M (perm_ix hk)).trans h
theorem seq_in {n k : Nat} (h : k < n) : seqIndex? (k : Int) n = some k := by
  have := (ixN_seq (ixN_in (n := n) (i := (k : Int)) (by omega) (by omega))).1
  simpa using this
theorem ok_shuf (D : DShuf K mg) (D1 : DDraw K mg) (B : Bl mg) : FnOk P w K mg base CX0 2 D.f D.fd ["_law_tape_here", "_law_labels_here"] (spShuf K) := by
  have G1 : FnOk P w K mg base CX0 1 D1.f D1.fd ["_law_tape_here", "_law_many"] (spDraw K) := ok_draw D1 B
  refine D.F.ok scShuf (fun vs H Q E h => ?_) (fun cdv A outer s H vs Q E hr h => ?_)
  · obtain ⟨T, b, vs0, L, rfl, _⟩ := h
    rfl
  obtain ⟨T, b, vs0, L, rfl, tp, hb, hL, hl5, q⟩ := h
  refine ⟨_, pss_cons (ps_set (i := 2) scShuf.nd rfl (.inl rfl) (pe_callTy call_listS (by rfl) B.list PyProof.Rows.boot_list (pa_cons (pv 1) pa_nil)))
    (pss_cons (ps_set (i := 3) scShuf.nd rfl (.inl rfl) (pe_lst pa_nil))
    (pss_cons (ps_set (i := 4) scShuf.nd rfl (.inl rfl) (pe_call G1 hr (by rfl) D1.g D1.F.kp D1.b .nil pass0 (pa_cons (pv 0) (pa_cons pe_int pa_nil))))
    (pss_cons (ps_if (pt_cmpR op_eq (pv 4) pe_int (by rfl)) (pss_one (ps_ret (pv 2))) pss_nil)
    (pss_cons (ps_if (pt_cmpR op_eq (pv 4) pe_int (by rfl)) (pss_one (ps_ret (pe_revL (pv 2)))) pss_nil)
    (pss_cons (ps_while PassesOwn.never (pt_cmpR op_gt (pe_callB call_lenS (by rfl) B.len PySem.boot_len (pa_cons (pv 2) pa_nil)) pe_int (by rfl))
      (pss_cons (ps_set (i := 5) scShuf.nd rfl (.inl rfl) (pe_callB call_lenS (by rfl) B.len PySem.boot_len (pa_cons (pv 2) pa_nil)))
      (pss_cons (ps_if (pt_cmpR op_eq (pv 4) pe_int (by rfl)) (pss_one (ps_set (i := 5) scShuf.nd rfl (.inl rfl) (pe_callB (call_min2 rfl) (by rfl) B.min PyProof.Rows.boot_min (pa_cons pe_int (pa_cons (pv 5) pa_nil))))) pss_nil)
      (pss_one (ps_expr (pe_bm PySem.F.plainAttrs_list PySem.F.slot_list_append PySem.F.type_list_append mt_append (pv 3) (pa_cons (pe_bm PySem.F.plainAttrs_list PySem.F.slot_list_pop PySem.F.type_list_pop mt_popAt (pv 2) (pa_cons (pe_call G1 hr (by rfl) D1.g D1.F.kp D1.b .nil pass0 (pa_cons (pv 0) (pa_cons (pv 5) pa_nil))) pa_nil)) pa_nil)))))))
    (pss_one (ps_ret (pv 3)))))))), ?_⟩
  refine q_asgF (σ := [some (.ref T.t), some (.ref b), none, none, none, none]) (evf_listL (K := K) (evv_var rfl) (SqL.of hb)) fun p H1 hp e1 h1 => ?_
  refine q_asgF (evl_lst ea_vnil) fun f H2 hf e2 h2 => ?_
  have hfp : p ≠ f := fun z => by
    rw [← z] at hf
    rw [h1] at hf
    cases hf
  have hf0 : H f = none := e1.free hf
  have d2 : Td K T H H2 := (tp.td.grow e1).grow e2
  have h12 := e2 _ _ h1
  have hL2 := (hL.ex e1).ex e2
  refine q_asgD (K := K) (T := T) d2.tp (evs_draw0 (m := 5) rfl) fun v H3 d3 ⟨way, _, hv⟩ => ?_
  subst hv
  have htp := tp.ne hp
  have htf := tp.ne hf0
  have h13 := d3.fr _ _ (Ne.symm htp) h12
  have h23 := d3.fr _ _ (Ne.symm htf) h2
  have hL3 := NkAll.pe (d2.tp.pe d3.fr) _ hL2
  have d3 := d2.trans d3
  refine q_when (b := decide (V.int (way : Int) = V.int 0)) (et_test (evv_eq rfl (evv_var rfl) evv_c)) (fun _ H4 e4 => ?_) (fun _ H4 e4 => ?_)
  · refine s_ret (evv_var rfl) fun r H5 e5 hr5 => ?_
    cases hr5
    exact q p vs0 L H5 ((d3.grow e4).grow e5) hp ((e4.trans e5) _ _ h13) (hL3.ex (e4.trans e5)) (.refl _)
  refine q_when (b := decide (V.int (way : Int) = V.int 1)) (et_test (evv_eq rfl (evv_var rfl) evv_c)) (fun _ H5 e5 => ?_) (fun _ H5 e5 => ?_)
  · refine ⟨.ref p, rfl, p, vs0, rfl, SqL.of ((e4.trans e5) _ _ h13), fun r hr => ?_⟩
    have e45 := (e4.trans e5).trans (ex_new (o := .lst vs0.reverse) hr)
    refine q r vs0.reverse L.reverse _ (d3.grow e45) ?_ upd_same (hL3.ex e45).reverse (List.reverse_perm L)
    · cases hh : H r with
      | none => rfl
      | some o =>
        exfalso
        have hH5r : ∃ o, H5 r = some o := by
          by_cases hrt : r = T.t
          · obtain ⟨x, y, c, g1, _⟩ := (d3.grow (e4.trans e5)).tp
            exact ⟨_, by rw [hrt]; exact g1⟩
          · exact ⟨o, (d3.grow (e4.trans e5)).fr _ _ hrt hh⟩
        obtain ⟨o', ho'⟩ := hH5r
        rw [hr] at ho'
        cases ho'
  have d5 := d3.grow (e4.trans e5)
  refine q_while (fun m σ' H' => (∃ z5, σ' = [some (.ref T.t), some (.ref b), some (.ref p), some (.ref f), some (.int (way : Int)), z5]) ∧ Td K T H H' ∧ ∃ lv L1 fv M1, H' p = some (.lst lv) ∧ NkAll K H' lv L1 ∧ H' f = some (.lst fv) ∧ NkAll K H' fv M1 ∧ (M1 ++ L1).Perm L ∧ L1.length = m) L.length
    ⟨⟨none, rfl⟩, d5, vs0, L, [], [], (e4.trans e5) _ _ h13, hL3.ex (e4.trans e5), (e4.trans e5) _ _ h23, .nil, .refl _, rfl⟩ ?_
  rintro m σ' H6 ⟨⟨z5, rfl⟩, d6, lv, L1, fv, M1, g1, g2, g3, g4, g5, g6⟩
  have hlv := g2.length
  have hlm : m ≤ 5 := by
    have := g5.length_eq
    rw [List.length_append] at this
    omega
  have hfl : fv.length ≤ 5 := by
    have h1 := g5.length_eq
    have := g4.length
    rw [List.length_append] at h1
    omega
  refine ⟨decide ((0 : Int) < (lv.length : Int)), et_test (evv_I0 (g := fun i j => .bl (decide (j < i))) (evv_lenL (evv_var rfl) (SqL.of g1)) evv_c), fun hb H7 e7 => ?_, fun hb H7 e7 => ?_⟩
  · have hpos : 0 < m := by
      have : (0 : Int) < (lv.length : Int) := of_decide_eq_true hb
      omega
    refine ⟨fun σ' H' => (∃ z5, σ' = [some (.ref T.t), some (.ref b), some (.ref p), some (.ref f), some (.int (way : Int)), z5]) ∧ Td K T H H' ∧ ∃ lv L1 fv M1, H' p = some (.lst lv) ∧ NkAll K H' lv L1 ∧ H' f = some (.lst fv) ∧ NkAll K H' fv M1 ∧ (M1 ++ L1).Perm L ∧ L1.length = m - 1, fun σ2 H2 hN => ⟨m - 1, by omega, hN⟩, ?_⟩
    refine q_asg (evv_lenL (evv_var rfl) (SqL.of (e7 _ _ g1))) fun y H8 e8 hy => ?_
    cases hy
    have e78 := e7.trans e8
    refine q_whenJ (W := fun σ' H' => (∃ n : Nat, σ' = [some (.ref T.t), some (.ref b), some (.ref p), some (.ref f), some (.int (way : Int)), some (.int (n : Int))] ∧ 0 < n ∧ n ≤ m) ∧ Ex H6 H') (b := decide (V.int (way : Int) = V.int 4)) (et_test (evv_eq rfl (evv_var rfl) evv_c)) (fun z hz _ H9 e9 => ?_) (fun _ H9 e9 => ⟨⟨lv.length, rfl, by omega, by omega⟩, e78.trans e9⟩) ?_
    · refine s_asg (P := isV (.int (if (lv.length : Int) < 2 then (lv.length : Int) else 2))) (ev_cb (ea_vcons evv_c (ea_vcons (evv_var rfl) ea_vnil)) fun vs H10 e10 p10 Q' q' => ?_) fun y H10 e10 hy => ?_
      · cases p10
        exact ⟨2, (lv.length : Int), rfl, q' _ H10 (Same.refl _) rfl⟩
      · cases hy
        refine hz _ _ ⟨⟨if lv.length < 2 then lv.length else 2, ?_, ?_, ?_⟩, (e78.trans e9).trans e10⟩
        · by_cases h : lv.length < 2
          · rw [if_pos h, if_pos (by omega)]
            rfl
          · rw [if_neg h, if_neg (by omega)]
            rfl
        · split <;> omega
        · split <;> omega
    rintro σ' H9 ⟨⟨n, rfl, hn0, hnm⟩, e9⟩
    have d9 := d6.grow e9
    refine ⟨.ref f, rfl, .inl ⟨rfl, fv, .inl (.inl (e9 _ _ g3))⟩, .ref p, rfl, .inl ⟨rfl, lv, .inl (.inl (e9 _ _ g1))⟩, ?_⟩
    refine evs_draw (K := K) (T := T) (H := H9) (m := n) (fun _ _ => evv_var rfl) (fun _ _ => evv_var rfl) hn0 (by omega) H9 d9.tp.td _ fun kv H10 d10 ⟨k, hk, hkv⟩ => ?_
    subst hkv
    have g1' := d10.fr _ _ (Ne.symm htp) (e9 _ _ g1)
    have g3' := d10.fr _ _ (Ne.symm htf) (e9 _ _ g3)
    have pe10 := d9.tp.pe d10.fr
    have g2' := NkAll.pe pe10 _ (g2.ex e9)
    have g4' := NkAll.pe pe10 _ (g4.ex e9)
    have d10 := d9.trans d10
    have hkL : k < L1.length := by omega
    obtain ⟨y, hy, hny⟩ := g2'.get (List.getElem?_eq_getElem hkL)
    refine ⟨p, lv, (k : Int), k, y, rfl, rfl, g1', by omega, by omega, seq_in (by omega), hy, ?_⟩
    have pe11 : Pe H10 (upd H10 p (.lst (lv.eraseIdx k))) := pe_updL g1'
    have d11 : Td K T H (upd H10 p (.lst (lv.eraseIdx k))) := d10.mut tp hp
    have g3'' : upd H10 p (.lst (lv.eraseIdx k)) f = some (.lst fv) := (upd_ne (Ne.symm hfp)).trans g3'
    refine ⟨f, fv, y, rfl, rfl, g3'', small1000 (by omega), ?_⟩
    have pe12 : Pe (upd H10 p (.lst (lv.eraseIdx k))) (upd (upd H10 p (.lst (lv.eraseIdx k))) f (.lst (fv ++ [y]))) := pe_updL g3''
    have pe13 := pe11.trans pe12
    refine ⟨⟨_, rfl⟩, d11.mut tp hf0, lv.eraseIdx k, L1.eraseIdx k, fv ++ [y], M1 ++ [L1[k]], (upd_ne hfp).trans upd_same, (NkAll.pe pe13 _ g2').eraseIdx k, upd_same, (NkAll.pe pe13 _ g4').append (.one (Nk.pe pe13 _ hny)), perm_move hkL g5, ?_⟩
    rw [List.length_eraseIdx_of_lt hkL]
    omega
  · have hm0 : L1 = [] := by
      have h0 : ¬ (0 : Int) < (lv.length : Int) := of_decide_eq_false hb
      exact List.length_eq_zero_iff.mp (by omega)
    rw [hm0, List.append_nil] at g5
    refine s_ret (evv_var rfl) fun r H8 e8 hr8 => ?_
    cases hr8
    exact q f fv M1 H8 ((d6.grow e7).grow e8) hf0 ((e7.trans e8) _ _ g3) (g4.ex (e7.trans e8)) g5
end
end KW
namespace KW
open PySem PySem.Spec PyProof.Rows L2

theorem movedK_len {α : Type} (row : List α) (k : Nat) : ∀ j, (KM.movedK row k j).length ≤ j
  | 0 => Nat.le_refl _
  | j + 1 => by
    have ih := movedK_len row k j
    unfold KM.movedK
    split
    · omega
    · rw [List.length_append, List.length_singleton]
      omega
theorem movedAt_len {α : Type} (row : List α) : ∀ k, (KM.movedAt row k).length ≤ k * row.length
  | 0 => by simp [KM.movedAt]
  | k + 1 => by
    have ih := movedAt_len row k
    have := movedK_len row k row.length
    unfold KM.movedAt
    rw [List.length_append, Nat.succ_mul]
    omega
section
variable {P : Program} {w : World} {K : PySem.W.Frag} {mg : Str → Option Value} {base : Heap}
abbrev DMoved (K : PySem.W.Frag) (mg : Str → Option Value) := Df K mg "_law_moved" sMoved ["_law_row"]
def spMoved (K : PySem.W.Frag) : Sp := fun vs H Q _ => ∃ (v : V) (L : List NestedKey), vs = [v] ∧ Nk K H v (.tup L) ∧ L.length ≤ 5 ∧
  ∀ p ws H', H p = none → Ex H H' → H' p = some (.lst ws) → NkAll K H' ws ((KM.moved L).map NestedKey.tup) → Q (.ref p) H'
theorem scMoved : FnScope ["_law_row", "_law_found", "_law_k", "_law_left", "_law_j"] ["_law_row"] (defScope sMoved) := ⟨rfl, rfl, rfl, by decide +kernel, rfl, by decide +kernel, by decide +kernel⟩
theorem ok_moved (D : DMoved K mg) (B : Bl mg) : FnOk P w K mg base CX0 1 D.f D.fd ["_law_row"] (spMoved K) := by
  refine D.F.ok scMoved (fun vs H Q E h => ?_) (fun cdv A outer s H vs Q E hr h => ?_)
  · obtain ⟨v, L, rfl, _⟩ := h
    rfl
  obtain ⟨v, L, rfl, hv, hl, q⟩ := h
  refine ⟨_, pss_cons (ps_set (i := 1) scMoved.nd rfl (.inl rfl) (pe_lst pa_nil))
    (pss_cons (ps_for PassesOwn.never rfl (pi_range1 rfl B.range (pa_cons (pe_callB call_lenS (by rfl) B.len PySem.boot_len (pa_cons (pv 0) pa_nil)) pa_nil)) (pg_name (i := 2) scMoved.nd rfl (.inl rfl))
      (pss_cons (ps_set (i := 3) scMoved.nd rfl (.inl rfl) (pe_op op_catA (pe_slice sl_tupA (pv 0) po_none (po_some (pv 2))) (pe_slice sl_tupA (pv 0) (po_some (pe_op op_add (pv 2) pe_int)) po_none)))
      (pss_one (ps_for PassesOwn.never rfl (pi_range1 rfl B.range (pa_cons (pe_callB call_lenS (by rfl) B.len PySem.boot_len (pa_cons (pv 0) pa_nil)) pa_nil)) (pg_name (i := 4) scMoved.nd rfl (.inl rfl))
        (pss_one (ps_if (pt_cmpR op_ne (pv 4) (pv 2) (by rfl)) (pss_one (ps_expr (pe_bm PySem.F.plainAttrs_list PySem.F.slot_list_append PySem.F.type_list_append mt_append (pv 1) (pa_cons
          (pe_op op_catA (pe_op op_catA (pe_slice sl_tupA (pv 3) po_none (po_some (pv 4))) (pe_slice sl_tupA (pv 0) (po_some (pv 2)) (po_some (pe_op op_add (pv 2) pe_int)))) (pe_slice sl_tupA (pv 3) (po_some (pv 4)) po_none)) pa_nil)))) pss_nil))))))
    (pss_one (ps_ret (pv 1)))), ?_⟩
  refine q_asgF (σ := [some v, none, none, none, none]) (evl_lst ea_vnil) fun p H1 hp e1 h1 => ?_
  refine q_forR (n := L.length) ((ea_vcons (evn_var rfl (hv.ex e1) |> evv_lenT) ea_vnil).imp fun vs H2 _ e => e) (by omega)
    (fun i σ' H' => (∃ z2 z3 z4, σ' = [some v, some (.ref p), z2, z3, z4]) ∧ Ex H H' ∧ ∃ ws, H' p = some (.lst ws) ∧ NkAll K H' ws ((KM.movedAt L i).map NestedKey.tup))
    (fun H2 e2 => ⟨⟨none, none, none, rfl⟩, e1.trans e2, [], e2 _ _ h1, .nil⟩) ?_ ?_
  · rintro k σ' H2 hk ⟨⟨z2, z3, z4, rfl⟩, e2, ws, g1, g2⟩
    have hml := movedAt_len L k
    refine q_asg (P := isN K (.tup (KM.leftOf L k))) (evn_is (evn_cat (evn_slice (evn_var rfl (hv.ex e2)) eo_none (eo_some (evv_var rfl))) (evn_slice (evn_var rfl (hv.ex e2)) (eo_some (evv_is (evv_I0 (g := fun i j => .int (i + j)) (evv_var rfl) evv_c) (show V.int ((k : Int) + 1) = V.int ((k + 1 : Nat) : Int) by rfl))) eo_none) (by rw [cut_to, cut_from, List.length_take, List.length_drop]; omega)) (by rw [cut_to, cut_from]; rfl)) fun y H3 e3 hy => ?_
    have e13 := e2.trans e3
    refine s_forR (n := L.length) ((ea_vcons (evn_var rfl (hv.ex e13) |> evv_lenT) ea_vnil).imp fun vs H2 _ e => e) (by omega)
      (fun j σ' H' => (∃ z4, σ' = [some v, some (.ref p), some (.int (k : Int)), some y, z4]) ∧ Ex H H' ∧ Nk K H' y (.tup (KM.leftOf L k)) ∧ ∃ ws, H' p = some (.lst ws) ∧ NkAll K H' ws ((KM.movedAt L k ++ KM.movedK L k j).map NestedKey.tup))
      (fun H4 e4 => ⟨⟨z4, rfl⟩, e13.trans e4, hy.ex e4, ws, (e3.trans e4) _ _ g1, ?_⟩) ?_ ?_
    · show NkAll K H4 ws ((KM.movedAt L k ++ []).map NestedKey.tup)
      rw [List.append_nil]
      exact g2.ex (e3.trans e4)
    · rintro j σ' H4 hj ⟨⟨z4', rfl⟩, e4, hy4, ws4, g1, g2⟩
      have hmk := movedK_len L k j
      have hleft : (KM.leftOf L k).length = L.length - 1 := by
        unfold KM.leftOf
        rw [List.length_append, List.length_take, List.length_drop]
        omega
      refine s_when (b := !decide (V.int (j : Int) = V.int (k : Int))) (et_test (evv_ne rfl (evv_var rfl) (evv_var rfl))) (fun hb H5 e5 => ?_) (fun hb H5 e5 => ?_)
      · have hne : j ≠ k := fun z => by
          rw [z] at hb
          simp at hb
        refine s_app (P := isN K (.tup (KM.movedTo L k j))) (e5 _ _ g1) (evv_var rfl) (evn_is (evn_cat (evn_cat (evn_slice (evn_var rfl (hy4.ex e5)) eo_none (eo_some (evv_var rfl))) (evn_slice (evn_var rfl (hv.ex (e4.trans e5))) (eo_some (evv_var rfl)) (eo_some (evv_is (evv_I0 (g := fun i j => .int (i + j)) (evv_var rfl) evv_c) (show V.int ((k : Int) + 1) = V.int ((k + 1 : Nat) : Int) by rfl)))) ?_) (evn_slice (evn_var rfl (hy4.ex e5)) (eo_some (evv_var rfl)) eo_none) ?_) ?_) ?_ fun v5 H6 e6 hv5 => ?_
        · rw [cut_to, cut_mid _ _ _ (Nat.le_succ k), List.length_take, List.length_take, List.length_drop]
          omega
        · rw [List.length_append, cut_to, cut_from, cut_mid _ _ _ (Nat.le_succ k), List.length_take, List.length_take, List.length_drop, List.length_drop]
          omega
        · rw [cut_to, cut_from, cut_mid _ _ _ (Nat.le_succ k), show k + 1 - k = 1 by omega, List.append_assoc]
          rfl
        · rw [g2.length, List.length_map, List.length_append]
          have : k * L.length ≤ 5 * 5 := Nat.mul_le_mul (by omega) hl
          omega
        · have pe : Pe H6 (upd H6 p (.lst (ws4 ++ [v5]))) := pe_updL ((e5.trans e6) _ _ g1)
          refine ⟨⟨_, rfl⟩, ex_mut ((e4.trans e5).trans e6) hp, Nk.pe pe _ ((hy4.ex e5).ex e6), ws4 ++ [v5], upd_same, ?_⟩
          have : KM.movedK L k (j + 1) = KM.movedK L k j ++ [KM.movedTo L k j] := by
            rw [KM.movedK, if_neg hne]
          rw [this, ← List.append_assoc, List.map_append]
          exact (NkAll.pe pe _ ((g2.ex e5).ex e6)).append (.one (Nk.pe pe _ hv5))
      · have heq : j = k := by
          have : V.int (j : Int) = V.int (k : Int) := by simpa using hb
          injection this with this
          omega
        refine ⟨⟨_, rfl⟩, e4.trans e5, hy4.ex e5, ws4, e5 _ _ g1, ?_⟩
        have : KM.movedK L k (j + 1) = KM.movedK L k j := by
          rw [KM.movedK, if_pos heq]
        rw [this]
        exact g2.ex e5
    · rintro σ' H4 ⟨⟨z4', rfl⟩, e4, hy4, ws4, g1, g2⟩
      exact ⟨⟨_, _, _, rfl⟩, e4, ws4, g1, g2⟩
  · rintro σ' H2 ⟨⟨z2, z3, z4, rfl⟩, e2, ws, g1, g2⟩
    refine s_ret (evv_var rfl) fun r H3 e3 hr3 => ?_
    cases hr3
    exact q p ws H3 hp (e2.trans e3) (e3 _ _ g1) (g2.ex e3)
end
end KW
namespace KW
open PySem PySem.Spec PyProof.Rows L2

/-! ### the search's states -/
abbrev NS := KM.BS (List NestedKey)
def good (r : List NestedKey) : Prop := r.length ≤ 5 ∧ ∀ l ∈ r, l.depth ≤ 2
theorem good.d8 {r : List NestedKey} (h : good r) : (NestedKey.tup r).depth ≤ 8 := by
  have := depthAll_le h.2
  simp only [NestedKey.depth]
  omega
theorem moved_mem {row : List NestedKey} {k : Nat} : ∀ {j : Nat} {o : List NestedKey}, o ∈ KM.movedK row k j → ∃ i, o = KM.movedTo row k i
  | 0, o, h => by simp [KM.movedK] at h
  | j + 1, o, h => by
    unfold KM.movedK at h
    split at h
    · exact moved_mem h
    · rcases List.mem_append.mp h with h | h
      · exact moved_mem h
      · exact ⟨j, List.mem_singleton.mp h⟩
theorem movedAt_mem {row : List NestedKey} : ∀ {k : Nat} {o : List NestedKey}, o ∈ KM.movedAt row k → ∃ i j, i < k ∧ o = KM.movedTo row i j
  | 0, o, h => by simp [KM.movedAt] at h
  | k + 1, o, h => by
    unfold KM.movedAt at h
    rcases List.mem_append.mp h with h | h
    · obtain ⟨i, j, h1, h2⟩ := movedAt_mem h
      exact ⟨i, j, by omega, h2⟩
    · obtain ⟨j, h2⟩ := moved_mem h
      exact ⟨k, j, by omega, h2⟩
theorem moved_good {row o : List NestedKey} (h : good row) (ho : o ∈ KM.moved row) : good o := by
  obtain ⟨k, j, hk, rfl⟩ := movedAt_mem ho
  have hr := h.1
  refine ⟨?_, fun l hl => ?_⟩
  · unfold KM.movedTo KM.leftOf
    simp only [List.length_append, List.length_take, List.length_drop]
    omega
  · refine h.2 l ?_
    have hleft : ∀ x, x ∈ KM.leftOf row k → x ∈ row := fun x hx => by
      unfold KM.leftOf at hx
      rcases List.mem_append.mp hx with hx | hx
      · exact List.mem_of_mem_take hx
      · exact List.mem_of_mem_drop hx
    unfold KM.movedTo at hl
    rcases List.mem_append.mp hl with hl | hl
    · exact hleft l (List.mem_of_mem_take hl)
    · rcases List.mem_append.mp hl with hl | hl
      · exact List.mem_of_mem_drop (List.mem_of_mem_take hl)
      · exact hleft l (List.mem_of_mem_drop hl)
structure QOk (s : NS) : Prop where
  g : ∀ r ∈ s.2, good r ∧ ∃ n, KM.lk s.1 r = some n
  len : s.2.length ≤ s.1.length
theorem lk_new {ps : List (List NestedKey × Nat)} {o : List NestedKey} {n : Nat} (h : KM.lk ps o = none) : KM.lk (ps ++ [(o, n)]) o = some n := by
  induction ps with
  | nil => simp [KM.lk]
  | cons p r ih =>
    rw [KM.lk] at h
    split at h
    · cases h
    · rename_i e
      rw [List.cons_append, KM.lk, if_neg e]
      exact ih h
theorem see_ok {s : NS} {row o : List NestedKey} (h : QOk s) (ho : good o) : QOk (KM.see row s o) := by
  unfold KM.see
  split
  · exact h
  · rename_i hn
    have hn : KM.lk s.1 o = none := by simpa using hn
    refine ⟨fun r hr => ?_, ?_⟩
    · rcases List.mem_append.mp hr with hr | hr
      · obtain ⟨h1, n, h2⟩ := h.g r hr
        exact ⟨h1, n, KM.lk_app _ _ _ _ h2⟩
      · rw [List.mem_singleton.mp hr]
        exact ⟨ho, _, lk_new hn⟩
    · have := h.len
      simp only [List.length_append, List.length_singleton]
      omega
theorem seeAll_ok {row : List NestedKey} : ∀ {os : List (List NestedKey)} {s : NS}, QOk s → (∀ o ∈ os, good o) → QOk (KM.seeAll row os s)
  | [], _, h, _ => h
  | o :: os, s, h, ho => seeAll_ok (os := os) (see_ok h (ho o (List.mem_cons_self ..))) fun x hx => ho x (List.mem_cons_of_mem _ hx)
theorem QOk.rest {a : List (List NestedKey × Nat)} {row : List NestedKey} {rest : List (List NestedKey)} (h : QOk (a, row :: rest)) : QOk (a, rest) :=
  ⟨fun r hr => h.g r (List.mem_cons_of_mem _ hr), by have := h.len; simp at this ⊢; omega⟩
theorem bfs_ok {L : List NestedKey} (h : good L) : ∀ t, QOk (KM.bfsAt KM.moved L t)
  | 0 => ⟨fun r hr => by
      have : r = L := by simpa [KM.bfsAt] using hr
      rw [this]
      exact ⟨h, 0, by simp [KM.bfsAt, KM.lk]⟩, by simp [KM.bfsAt]⟩
  | t + 1 => by
    have ih := bfs_ok h t
    show QOk (KM.bstep KM.moved (KM.bfsAt KM.moved L t))
    generalize KM.bfsAt KM.moved L t = s at ih
    obtain ⟨a, qq⟩ := s
    cases qq with
    | nil => exact ih
    | cons row rest => exact seeAll_ok ih.rest fun o ho => moved_good (ih.g row (List.mem_cons_self ..)).1 ho
theorem see_len {s : NS} {row o : List NestedKey} : s.1.length ≤ (KM.see row s o).1.length := by
  unfold KM.see
  split
  · exact Nat.le_refl _
  · simp
theorem seeAll_len {row : List NestedKey} : ∀ {os : List (List NestedKey)} {s : NS}, s.1.length ≤ (KM.seeAll row os s).1.length
  | [], _ => Nat.le_refl _
  | o :: os, s => Nat.le_trans (see_len (row := row) (o := o)) (seeAll_len (os := os) (s := KM.see row s o))
theorem seeAll_take {row : List NestedKey} {os : List (List NestedKey)} {s : NS} (i : Nat) : (KM.seeAll row (os.take i) s).1.length ≤ (KM.seeAll row os s).1.length := by
  have : KM.seeAll row os s = KM.seeAll row (os.drop i) (KM.seeAll row (os.take i) s) := by
    unfold KM.seeAll
    rw [← List.foldl_append, List.take_append_drop]
  rw [this]
  exact seeAll_len
theorem seeAll_succ {row o : List NestedKey} {os : List (List NestedKey)} {s : NS} {i : Nat} (h : os[i]? = some o) : KM.seeAll row (os.take (i + 1)) s = KM.see row (KM.seeAll row (os.take i) s) o := by
  unfold KM.seeAll
  rw [List.take_add_one, h, List.foldl_append]
  rfl
theorem bstep_len {s : NS} : s.1.length ≤ (KM.bstep KM.moved s).1.length := by
  obtain ⟨a, qq⟩ := s
  cases qq with
  | nil => exact Nat.le_refl _
  | cons row rest => exact seeAll_len (s := (a, rest))
theorem bfs_len {L : List NestedKey} (t : Nat) : ∀ d, (KM.bfsAt KM.moved L t).1.length ≤ (KM.bfsAt KM.moved L (t + d)).1.length
  | 0 => Nat.le_refl _
  | d + 1 => Nat.le_trans (bfs_len t d) bstep_len
/-- what the search finds -/
structure BfsOk (L M : List NestedKey) (Tm n : Nat) : Prop where
  stop : (KM.bfsAt KM.moved L Tm).2 = []
  len : (KM.bfsAt KM.moved L Tm).1.length ≤ 500
  val : KM.lk (KM.bfsAt KM.moved L Tm).1 M = some n
theorem BfsOk.lenAt {L M : List NestedKey} {Tm n t : Nat} (h : BfsOk L M Tm n) (ht : t ≤ Tm) : (KM.bfsAt KM.moved L t).1.length ≤ 500 := by
  have := bfs_len (L := L) t (Tm - t)
  rw [show t + (Tm - t) = Tm by omega] at this
  exact Nat.le_trans this h.len
theorem BfsOk.at_ {L M : List NestedKey} {Tm n t : Nat} (h : BfsOk L M Tm n) (ht : t ≤ Tm) (hd : (KM.bfsAt KM.moved L t).2 = [] ∨ (KM.lk (KM.bfsAt KM.moved L t).1 M).isSome = true) : KM.lk (KM.bfsAt KM.moved L t).1 M = some n := by
  rcases hd with hd | hd
  · have := KM.bfs_stop KM.moved L t hd (Tm - t)
    rw [show t + (Tm - t) = Tm by omega] at this
    rw [← this]
    exact h.val
  · obtain ⟨v, hv⟩ := Option.isSome_iff_exists.mp hd
    have := KM.bfs_mono KM.moved L M v t hv (Tm - t)
    rw [show t + (Tm - t) = Tm by omega, h.val] at this
    rw [hv]
    exact this.symm
/-! the dict that holds them -/
def dM (ps : List (List NestedKey × Nat)) : List (NestedKey × V) := ps.map fun p => (NestedKey.tup p.1, V.int (p.2 : Int))
theorem valV_dM (r : List NestedKey) : ∀ ps : List (List NestedKey × Nat), valV (dM ps) (.tup r) = (KM.lk ps r).map fun n => V.int (n : Int)
  | [] => rfl
  | p :: ps => by
    rw [KM.lk]
    show valV ((NestedKey.tup p.1, V.int (p.2 : Int)) :: dM ps) (.tup r) = _
    by_cases e : p.1 = r
    · rw [if_pos e, valV_pos (by rw [e])]
      rfl
    · rw [if_neg e, valV_neg (fun z => e (by injection z))]
      exact valV_dM r ps
theorem putK_dM {ps : List (List NestedKey × Nat)} {r : List NestedKey} {n : Nat} (h : KM.lk ps r = none) : putK (dM ps) (.tup r) (.int (n : Int)) = dM (ps ++ [(r, n)]) := by
  unfold putK
  rw [valV_any, valV_dM, h, if_neg (by simp)]
  unfold dM
  rw [List.map_append]
  rfl
section
variable {P : Program} {w : World} {K : PySem.W.Frag} {σ : L2.St} {H : Hp} {td ty tl tk tv : TE} {d : Addr} {v : V} {ks : List NestedKey} {D : Ends} {tz tu : TS} {g : TG}
theorem evf_disp1 (hk : EvN K tk σ H (.tup ks)) (hv : EvV tv σ H v) (h8 : (NestedKey.tup ks).depth ≤ 8) : EvF (tDisp1N P w K tk tv) σ H (fun p H' => DN P w K H' p [(.tup ks, v)]) := fun H1 e Q q p hp =>
  hk _ (e.trans (ex_new hp)) _ fun x H2 e2 px => hv H2 ((e.trans (ex_new hp)).trans e2) _ fun y H3 e3 py => by
    cases py
    have e13 := (ex_new (o := dN P w p []) hp).trans (e2.trans e3)
    have h3 : H3 p = some (dN P w p []) := (e2.trans e3) _ _ upd_same
    cases px with
    | @tup b us _ h1 h2 =>
      have hn : Nk K H3 (.ref b) (.tup ks) := Nk.ex (.tup h1 h2) e3
      have pe : Pe H3 (upd H3 p (dN P w p [(NestedKey.tup ks, b, v)])) := pe_updE h3
      refine ⟨h3, b, .tup ks, rfl, hn, h8, q p _ hp (ex_mut e13 hp) ⟨[(.tup ks, b, v)], upd_same, fun z hz => ?_, rfl⟩⟩
      rw [List.mem_singleton.mp hz]
      exact ⟨Nk.pe pe _ hn, h8⟩
/-- x = a list's own i-th, taken out -/
theorem q_popAt {ta : TE} {j : Nat} {l : Addr} {xs : List V} {i : Nat} {y : V} (hl : H l = some (.lst xs)) (ha : EvV ta σ H (.ref l)) (hi : EvV ty σ H (.int (i : Int))) (h2 : i < xs.length) (hz : xs.length ≤ 1000) (hy : xs[i]? = some y)
    (k : ∀ H1, Ex H H1 → tz D (σ.set j (some y)) (upd H1 l (.lst (xs.eraseIdx i)))) : tSeq (tAsg (tBM K "list" rPopAt ta (tCons ty tNil)) (gName j)) tz D σ H := ha H (Same.refl _) _ fun x H1 e1 p1 => by
  cases p1
  refine ⟨.inl ⟨rfl, xs, .inl (.inl (e1 _ _ hl))⟩, ?_⟩
  refine hi H1 e1 _ fun z H2 e2 p2 => ?_
  cases p2
  exact ⟨l, xs, (i : Int), i, y, rfl, rfl, (e1.trans e2) _ _ hl, by omega, by omega, seq_in h2, hy, k H2 (e1.trans e2)⟩
/-- for x in a list just made -/
theorem s_forLF {Pf : Addr → Hp → Prop} (h : EvF tl σ H Pf) (k : ∀ a H1, H a = none → Ex H H1 → Pf a H1 → ∃ (xs : List V) (Pv : Nat → L2.St → Hp → Prop), SqL K H1 a xs ∧ Pv 0 σ H1 ∧ (∀ i σ' H', Pv i σ' H' → SqL K H' a xs) ∧
    (∀ i x σ' H', xs[i]? = some x → Pv i σ' H' → g x σ' H' fun σ2 H2 => tu { D with nx := Pv (i + 1), ct := Pv (i + 1), bk := D.nx } σ2 H2) ∧ (∀ σ' H', Pv xs.length σ' H' → D.nx σ' H')) : tFor (iList K tl) g tu D σ H := h H (Same.refl _) _ fun a H1 ha e p => by
  obtain ⟨xs, Pv, h1, h2, h3, h4, h5⟩ := k a H1 ha e p
  exact ⟨a, rfl, ⟨xs, h1⟩, for_list (K := K) (a := a) (xs := xs) Pv h2 (fun i σ' H' _ p => h3 i σ' H' p) (fun i x σ' H' hx p => h4 i x σ' H' hx p) (fun σ' H' p => h5 σ' H' p)⟩
end
structure FSt (P : Program) (w : World) (K : PySem.W.Frag) (H : Hp) (sd fq : Addr) (s : NS) (H' : Hp) : Prop where
  ex : Ex H H'
  dn : DN P w K H' sd (dM s.1)
  qu : ∃ qv, H' fq = some (.lst qv) ∧ NkAll K H' qv (s.2.map NestedKey.tup)
theorem FSt.grow {P : Program} {w : World} {K : PySem.W.Frag} {H H1 H2 : Hp} {sd fq : Addr} {s : NS} (h : FSt P w K H sd fq s H1) (e : Ex H1 H2) : FSt P w K H sd fq s H2 :=
  ⟨h.ex.trans e, h.dn.ex e, let ⟨qv, a, b⟩ := h.qu; ⟨qv, e _ _ a, b.ex e⟩⟩
section
variable {P : Program} {w : World} {K : PySem.W.Frag} {mg : Str → Option Value} {base : Heap}
theorem evf_moved {E : XK} {σ : L2.St} {H : Hp} {ta : TE} {L : List NestedKey} (ha : EvN K ta σ H (.tup L)) (hl : L.length ≤ 5) : EvF (tCall (spMoved K) [] E (tCons ta tNil)) σ H (fun p H' => ∃ ws, H' p = some (.lst ws) ∧ NkAll K H' ws ((KM.moved L).map NestedKey.tup)) := fun H1 e Q q =>
  ha H1 e _ fun v H2 e2 p => ⟨v, L, rfl, p, hl, fun p ws H3 hp e3 h3 h4 => q p H3 (e2.free hp) (e2.trans e3) ⟨ws, h3, h4⟩⟩
abbrev DFew (K : PySem.W.Frag) (mg : Str → Option Value) := Df K mg "_law_fewest" sFewest ["_law_old", "_law_new"]
def spFew (K : PySem.W.Frag) : Sp := fun vs H Q _ => ∃ (v u : V) (L M : List NestedKey) (Tm n : Nat), vs = [v, u] ∧ Nk K H v (.tup L) ∧ Nk K H u (.tup M) ∧ good L ∧ good M ∧ BfsOk L M Tm n ∧ ∀ H', Ex H H' → Q (.int (n : Int)) H'
theorem scFew : FnScope ["_law_old", "_law_new", "_law_seen", "_law_fresh", "_law_row", "_law_other"] ["_law_old", "_law_new"] (defScope sFewest) := ⟨rfl, rfl, rfl, by decide +kernel, rfl, by decide +kernel, by decide +kernel⟩
theorem ok_few (D : DFew K mg) (D1 : DMoved K mg) (B : Bl mg) : FnOk P w K mg base CX0 2 D.f D.fd ["_law_old", "_law_new"] (spFew K) := by
  have G1 : FnOk P w K mg base CX0 1 D1.f D1.fd ["_law_row"] (spMoved K) := ok_moved D1 B
  refine D.F.ok scFew (fun vs H Q E h => ?_) (fun cdv A outer s H vs Q E hr h => ?_)
  · obtain ⟨v, u, L, M, Tm, n, rfl, _⟩ := h
    rfl
  obtain ⟨v, u, L, M, Tm, n, rfl, hv, hu, gL, gM, bo, q⟩ := h
  refine ⟨_, pss_cons (ps_set (i := 2) scFew.nd rfl (.inl rfl) (pe_disp1N hr.units (pv 0) pe_int))
    (pss_cons (ps_set (i := 3) scFew.nd rfl (.inl rfl) (pe_lst (pa_cons (pv 0) pa_nil)))
    (pss_cons (ps_while PassesOwn.never (PW.pt (pw_and (pt_cmpR op_gt (pe_callB call_lenS (by rfl) B.len PySem.boot_len (pa_cons (pv 3) pa_nil)) pe_int (by rfl)) (pw_and1 (pt_cmpR (op_notInDN hr.units) (pv 1) (pv 2) (by rfl)))))
      (pss_cons (ps_set (i := 4) scFew.nd rfl (.inl rfl) (pe_bm PySem.F.plainAttrs_list PySem.F.slot_list_pop PySem.F.type_list_pop mt_popAt (pv 3) (pa_cons pe_int pa_nil)))
      (pss_one (ps_for PassesOwn.never rfl (pi_list (pe_call G1 hr (by rfl) D1.g D1.F.kp D1.b .nil pass0 (pa_cons (pv 4) pa_nil))) (pg_name (i := 5) scFew.nd rfl (.inl rfl))
        (pss_one (ps_if (pt_cmpR (op_notInDN hr.units) (pv 5) (pv 2) (by rfl))
          (pss_cons (ps_asg (pe_op op_add (pe_getN hr.units (pv 2) (pv 4) noSlV) pe_int) (pg_sub (pv 2) (pv 5) (set_n hr.units)))
          (pss_one (ps_expr (pe_bm PySem.F.plainAttrs_list PySem.F.slot_list_append PySem.F.type_list_append mt_append (pv 3) (pa_cons (pv 5) pa_nil))))) pss_nil))))))
    (pss_one (ps_ret (pe_getN hr.units (pv 2) (pv 1) noSlV))))), ?_⟩
  refine q_asgF (σ := [some v, some u, none, none, none, none]) (evf_disp1 (P := P) (w := w) (K := K) (v := .int 0) (evn_var (i := 0) rfl hv) evv_c gL.d8) fun sd H1 hsd e1 h1 => ?_
  refine q_asgF (evl_lst (ea_vcons (evv_var rfl) ea_vnil) (by show 1 ≤ 1000; decide)) fun fq H2 hfq e2 h2 => ?_
  have hne : sd ≠ fq := fun z => by
    obtain ⟨φ, hφ⟩ := h1.there
    rw [z, hfq] at hφ
    cases hφ
  have hfq0 : H fq = none := e1.free hfq
  refine q_while (fun m σ' H' => ∃ t, t ≤ Tm ∧ m = Tm - t ∧ (∃ z4 z5, σ' = [some v, some u, some (.ref sd), some (.ref fq), z4, z5]) ∧ FSt P w K H sd fq (KM.bfsAt KM.moved L t) H') Tm
    ⟨0, Nat.zero_le _, rfl, ⟨none, none, rfl⟩, ⟨e1.trans e2, h1.ex e2, [v], h2, .one (hv.ex (e1.trans e2))⟩⟩ ?_
  rintro m σ' H3 ⟨t, ht, hm, ⟨z4, z5, rfl⟩, st⟩
  have bok := bfs_ok gL t
  have hstep : KM.bfsAt KM.moved L (t + 1) = KM.bstep KM.moved (KM.bfsAt KM.moved L t) := rfl
  have hstop : t = Tm → (KM.bfsAt KM.moved L t).2 = [] := fun e => by rw [e]; exact bo.stop
  have hend := fun hd => bo.at_ ht hd
  have hlen1 := fun (h : t + 1 ≤ Tm) => bo.lenAt h
  rw [hstep] at hlen1
  generalize hB : KM.bfsAt KM.moved L t = s at st bok hstep hstop hend hlen1
  obtain ⟨qv, hq1, hq2⟩ := st.qu
  have hql := hq2.length
  rw [List.length_map] at hql
  refine ⟨decide ((0 : Int) < (qv.length : Int)) && !(valV (dM s.1) (.tup M)).isSome, et_and (et_test (evv_I0 (g := fun i j => .bl (decide (j < i))) (evv_lenL (evv_var rfl) (SqL.of hq1)) evv_c)) (fun _ => et_test (evv_inD (neg := true) (evn_var rfl (hu.ex st.ex)) (evv_var rfl) st.dn gM.d8)), fun hb H4 e4 => ?_, fun hb H4 e4 => ?_⟩
  · rw [Bool.and_eq_true] at hb
    have hpos : (0 : Int) < (qv.length : Int) := of_decide_eq_true hb.1
    obtain ⟨a, qq⟩ := s
    cases qq with
    | nil =>
      simp only [List.length_nil] at hql
      omega
    | cons row rest =>
    have htl : t < Tm := by
      rcases Nat.lt_or_ge t Tm with h | h
      · exact h
      · have := hstop (by omega)
        cases this
    obtain ⟨grow, c, hc⟩ := bok.g row (List.mem_cons_self ..)
    have hlk : KM.lk a row = some c := hc
    have hbl := bok.len
    have hal : a.length ≤ 500 := Nat.le_trans (seeAll_len (row := row) (os := KM.moved row) (s := (a, rest))) (hlen1 htl)
    refine ⟨fun σ2 H2' => ∃ t', t' ≤ Tm ∧ Tm - (t + 1) = Tm - t' ∧ (∃ z4 z5, σ2 = [some v, some u, some (.ref sd), some (.ref fq), z4, z5]) ∧ FSt P w K H sd fq (KM.bfsAt KM.moved L t') H2', fun σ2 H2' hN => ⟨Tm - (t + 1), by omega, hN⟩, ?_⟩
    cases hq2 with
    | @cons x qv' _ _ hx hq2 =>
    refine q_popAt (i := 0) (y := x) (e4 _ _ hq1) (evv_var rfl) evv_c (by rw [List.length_cons]; omega) (by rw [List.length_cons] at hql ⊢; simp at hql hbl; omega) rfl fun H5 e5 => ?_
    have e45 := e4.trans e5
    have pe6 : Pe H5 (upd H5 fq (.lst ((x :: qv').eraseIdx 0))) := pe_updL (e45 _ _ hq1)
    have st6 : FSt P w K H sd fq (a, rest) (upd H5 fq (.lst ((x :: qv').eraseIdx 0))) := ⟨ex_mut (st.ex.trans e45) hfq0, (st.dn.ex e45).pe pe6 (upd_ne hne), qv', upd_same, NkAll.pe pe6 _ (hq2.ex e45)⟩
    have hx6 := Nk.pe pe6 _ (hx.ex e45)
    generalize upd H5 fq (.lst ((x :: qv').eraseIdx 0)) = H6 at st6 hx6 ⊢
    refine s_forLF (evf_moved (evn_var rfl hx6) grow.1) fun al H7 hal7 e7 hws => ?_
    obtain ⟨ws, hw1, hw2⟩ := hws
    have hasd : al ≠ sd := fun z => by
      obtain ⟨φ, hφ⟩ := st6.dn.there
      rw [← z, hal7] at hφ
      cases hφ
    have hafq : al ≠ fq := fun z => by
      obtain ⟨qv6, hq6, _⟩ := st6.qu
      rw [← z, hal7] at hq6
      cases hq6
    refine ⟨ws, fun i σ' H' => (∃ z5, σ' = [some v, some u, some (.ref sd), some (.ref fq), some x, z5]) ∧ FSt P w K H sd fq (KM.seeAll row ((KM.moved row).take i) (a, rest)) H' ∧ H' al = some (.lst ws) ∧ NkAll K H' ws ((KM.moved row).map NestedKey.tup) ∧ Nk K H' x (.tup row), SqL.of hw1, ⟨⟨z5, rfl⟩, st6.grow e7, hw1, hw2, hx6.ex e7⟩, fun i σ' H' p => SqL.of p.2.2.1, ?_, ?_⟩
    · rintro i y σ' H8 hy ⟨⟨z5', rfl⟩, st8, ha8, hw8, hx8⟩
      obtain ⟨k, hk, hny⟩ := hw8.getV hy
      rw [List.getElem?_map] at hk
      obtain ⟨o, ho, rfl⟩ := Option.map_eq_some_iff.mp hk
      have hgo : good o := moved_good grow (List.mem_of_getElem? ho)
      have hS : QOk (KM.seeAll row ((KM.moved row).take i) (a, rest)) := seeAll_ok bok.rest fun z hz => moved_good grow (List.mem_of_mem_take hz)
      have hSl : (KM.seeAll row ((KM.moved row).take i) (a, rest)).1.length ≤ 500 := Nat.le_trans (seeAll_take i) (hlen1 htl)
      have hSr : KM.lk (KM.seeAll row ((KM.moved row).take i) (a, rest)).1 row = some c := KM.seeAll_mono row row c _ (a, rest) hlk
      have hsucc := seeAll_succ (row := row) (s := (a, rest)) ho
      generalize KM.seeAll row ((KM.moved row).take i) (a, rest) = S at st8 hS hSl hSr hsucc
      have hsl := hS.len
      refine s_when (b := !(valV (dM S.1) (.tup o)).isSome) (et_test (evv_inD (neg := true) (evn_var rfl hny) (evv_var rfl) st8.dn hgo.d8)) (fun hb8 H9 e9 => ?_) (fun hb8 H9 e9 => ?_)
      · have hno : KM.lk S.1 o = none := by
          rw [valV_dM] at hb8
          cases hlo : KM.lk S.1 o with
          | none => rfl
          | some z => rw [hlo] at hb8; cases hb8
        have st9 := st8.grow e9
        refine q_setD (P := P) (w := w) (K := K) (ks := o) (Pv := isV (.int ((c : Int) + 1))) (evv_I0 (g := fun i j => .int (i + j)) (evv_getN (evv_var rfl) st9.dn (evn_var rfl (hx8.ex e9)) grow.d8 (by rw [valV_dM, hSr]; rfl)) evv_c) mono_isV (evv_var rfl) (evn_var rfl (hny.ex e9)) st9.dn hgo.d8 (by unfold dM; rw [List.length_map]; omega) fun x1 H10 H11 e10 hx1 hs11 pe11 hd11 => ?_
        cases hx1
        have hput : putK (dM S.1) (.tup o) (.int ((c : Int) + 1)) = dM (S.1 ++ [(o, c + 1)]) := putK_dM hno
        rw [hput] at hd11
        have st10 := st9.grow e10
        obtain ⟨qv10, hq10, hqn10⟩ := st10.qu
        have hq11 : H11 fq = some (.lst qv10) := (hs11 fq (Ne.symm hne)).trans hq10
        have ha11 : H11 al = some (.lst ws) := (hs11 al hasd).trans (e10 _ _ (e9 _ _ ha8))
        have ex11 : Ex H H11 := fun b ob hb => by
          rw [hs11 b (ne_of_none hb hsd)]
          exact st10.ex _ _ hb
        have hny11 := Nk.pe pe11 _ ((hny.ex e9).ex e10)
        refine s_app (P := isN K (.tup o)) hq11 (evv_var rfl) (evn_var rfl hny11) (by rw [hqn10.length, List.length_map]; omega) fun y12 H12 e12 hy12 => ?_
        have pe13 : Pe H12 (upd H12 fq (.lst (qv10 ++ [y12]))) := pe_updL (e12 _ _ hq11)
        have hsee : KM.see row S o = (S.1 ++ [(o, c + 1)], S.2 ++ [o]) := by
          unfold KM.see
          rw [hno, hSr]
          rfl
        have st13 : FSt P w K H sd fq (S.1 ++ [(o, c + 1)], S.2 ++ [o]) (upd H12 fq (.lst (qv10 ++ [y12]))) := by
          refine ⟨ex_mut (ex11.trans e12) hfq0, (hd11.ex e12).pe pe13 (upd_ne hne), qv10 ++ [y12], upd_same, ?_⟩
          rw [List.map_append]
          exact (NkAll.pe pe13 _ ((NkAll.pe pe11 _ hqn10).ex e12)).append (.one (Nk.pe pe13 _ hy12))
        rw [← hsee, ← hsucc] at st13
        refine ⟨⟨_, rfl⟩, st13, (upd_ne hafq).trans (e12 _ _ ha11), ?_, ?_⟩
        · exact NkAll.pe pe13 _ ((NkAll.pe pe11 _ ((hw8.ex e9).ex e10)).ex e12)
        · exact Nk.pe pe13 _ ((Nk.pe pe11 _ ((hx8.ex e9).ex e10)).ex e12)
      · have hso : (KM.lk S.1 o).isSome = true := by
          rw [valV_dM] at hb8
          cases hlo : KM.lk S.1 o with
          | none => rw [hlo] at hb8; cases hb8
          | some z => rfl
        have hsee : KM.see row S o = S := by
          unfold KM.see
          rw [if_pos hso]
        have st9 := st8.grow e9
        have hsx := hsucc.trans hsee
        rw [← hsx] at st9
        exact ⟨⟨_, rfl⟩, st9, e9 _ _ ha8, hw8.ex e9, hx8.ex e9⟩
    · rintro σ' H8 ⟨⟨z5', rfl⟩, st8, _⟩
      refine ⟨t + 1, htl, rfl, ⟨_, _, rfl⟩, ?_⟩
      rw [hw2.length, List.length_map, List.take_length] at st8
      rw [hstep]
      exact st8
  · have hd : s.2 = [] ∨ (KM.lk s.1 M).isSome = true := by
      rcases Nat.eq_zero_or_pos qv.length with h | h
      · exact .inl (List.length_eq_zero_iff.mp (by omega))
      · right
        rw [decide_eq_true (show (0 : Int) < (qv.length : Int) by omega), Bool.true_and, valV_dM] at hb
        cases hlo : KM.lk s.1 M with
        | none => rw [hlo] at hb; cases hb
        | some z => rfl
    have hval := hend hd
    refine s_ret (evv_getN (evv_var rfl) (st.dn.ex e4) (evn_var rfl (hu.ex (st.ex.trans e4))) gM.d8 (by rw [valV_dM, hval]; rfl)) fun r H5 e5 hr5 => ?_
    cases hr5
    exact q H5 ((st.ex.trans e4).trans e5)
end
end KW
namespace KW
open PySem PySem.Spec PyProof.Rows L2

/-! ### trees made -/
section
variable {K : PySem.W.Frag} {σ : L2.St} {H : Hp} {tl tr ts tb to ta te : TE} {l : NestedKey} {tag : Str} {kvs : List (Key × V)} {Pr : V → Hp → Prop}
def isSets (K : PySem.W.Frag) (kvs : List (Key × V)) : V → Hp → Prop := fun v H' => ∃ p, v = .ref p ∧ SetsAt K H' p kvs
theorem mono_sets : Mono (isSets K kvs) := fun a H H' e ⟨p, h1, h2⟩ => ⟨p, h1, h2.pe (ex_pe e)⟩
theorem ev_setsA : Ev (tTupF tNil) σ H (isSets K []) := fun H1 e Q q => by
  refine ⟨Nat.zero_le _, fun p o hp ho => q _ _ (ex_new hp) ⟨p, rfl, [], ⟨o, upd_same, ho⟩, .nil⟩⟩
theorem ev_setsB : Ev (tTupF (tCons (tTup (tCons (tC (.str "x")) (tCons (tC (.int 1)) tNil))) tNil)) σ H (isSets K xOne) := fun H1 e Q q => by
  refine ⟨Nat.le_of_lt (small1000 (by show 2 ≤ 1000; decide)), fun a ha => ⟨Nat.le_of_lt (small1000 (by show 1 ≤ 1000; decide)), fun p o hp ho => q _ _ ((ex_new ha).trans (ex_new hp)) ⟨p, rfl, [a], ⟨o, upd_same, ho⟩, .cons ?_ .nil⟩⟩⟩
  exact (ex_pe (ex_new hp)).sqT (SqT.of upd_same)
theorem ev_box (hs : Ev ts σ H (isSets K kvs)) (hr : Ev tr σ H Pr) (mr : Mono Pr) : Ev (tTup (tCons (tC (.str tag)) (tCons ts (tCons (tTup tNil) (tCons tr tNil))))) σ H (fun v H' => ∃ r, BoxAt K H' tag kvs v r ∧ Pr r H') := by
  refine (ev_tupA (K := K) (eaP_cons (evv_c (v := .str tag)) (eaP_cons hs (eaP_cons (evn_tup (K := K) (ks := []) ea_nil) (eaP_cons hr eaP_nil mr) mono_isN) mono_sets) mono_isV) (fun vs H1 p => ?_) ?_).imp fun v H1 _ hv => ?_
  · obtain ⟨_, _, rfl, _, _, _, rfl, _, _, _, rfl, _, _, _, rfl, _, rfl⟩ := p
    show 4 ≤ 1000
    decide
  · rintro vs Ha Hb e ⟨x, _, rfl, h1, y, _, rfl, h2, z, _, rfl, h3, u, _, rfl, h4, rfl⟩
    exact ⟨x, _, rfl, h1, y, _, rfl, mono_sets _ _ _ e h2, z, _, rfl, mono_isN _ _ _ e h3, u, _, rfl, mr _ _ _ e h4, rfl⟩
  · obtain ⟨b, vs, rfl, hq, x, _, rfl, h1, y, _, rfl, ⟨p, rfl, h2⟩, z, _, rfl, h3, u, _, rfl, h4, rfl⟩ := hv
    cases h1
    exact ⟨u, ⟨b, p, z, rfl, hq, h2, h3⟩, h4⟩
theorem mono_box (mr : Mono Pr) : Mono (fun (v : V) H' => ∃ r, BoxAt K H' tag kvs v r ∧ Pr r H') := fun a H H' e ⟨r, h1, h2⟩ => ⟨r, h1.pe (ex_pe e), mr _ _ _ e h2⟩
theorem ev_entry (hl : EvN K tl σ H l) (hb : Ev tb σ H (fun v H' => ∃ r, BoxAt K H' tag kvs v r ∧ Pr r H')) (mr : Mono Pr) : Ev (tTup (tCons tl (tCons tb tNil))) σ H (fun v H' => ∃ r, EntryAt K H' l tag kvs v r ∧ Pr r H') := by
  refine (ev_tupA (K := K) (eaP_cons hl (eaP_cons hb eaP_nil (mono_box mr)) mono_isN) (fun vs H1 p => ?_) ?_).imp fun v H1 _ hv => ?_
  · obtain ⟨_, _, rfl, _, _, _, rfl, _, rfl⟩ := p
    show 2 ≤ 1000
    decide
  · rintro vs Ha Hb e ⟨x, _, rfl, h1, y, _, rfl, h2, rfl⟩
    exact ⟨x, _, rfl, mono_isN _ _ _ e h1, y, _, rfl, mono_box mr _ _ _ e h2, rfl⟩
  · obtain ⟨c, vs, rfl, hq, x, _, rfl, h1, y, _, rfl, ⟨r, h2, h3⟩, rfl⟩ := hv
    exact ⟨r, ⟨c, x, y, rfl, hq, h1, h2⟩, h3⟩
theorem mono_entry (mr : Mono Pr) : Mono (fun (v : V) H' => ∃ r, EntryAt K H' l tag kvs v r ∧ Pr r H') := fun a H H' e ⟨r, h1, h2⟩ => ⟨r, h1.pe (ex_pe e), mr _ _ _ e h2⟩
theorem ev_leaf (hl : EvN K tl σ H l) : Ev (tTup (tCons tl (tCons (tTup (tCons (tC (.str "a")) (tCons (tTupF tNil) (tCons (tTup tNil) (tCons (tTup tNil) tNil))))) tNil))) σ H (fun v H' => LeafAt K H' v l) :=
  ev_entry hl (ev_box ev_setsA (evn_tup (K := K) (ks := []) ea_nil) mono_isN) mono_isN
def isTree (K : PySem.W.Frag) (A L : List NestedKey) : V → Hp → Prop := fun v H' => TreeAt K H' A L v
theorem mono_tree {A L : List NestedKey} : Mono (isTree K A L) := fun a H H' e h => TreeAt.pe (ex_pe e) h
theorem ev_wrap {A L : List NestedKey} (hl : EvN K tl σ H l) (ho : Ev to σ H (isTree K A L)) :
    Ev (tTup (tCons (tTup (tCons tl (tCons (tTup (tCons (tC (.str "b")) (tCons (tTupF (tCons (tTup (tCons (tC (.str "x")) (tCons (tC (.int 1)) tNil))) tNil)) (tCons (tTup tNil) (tCons to tNil))))) tNil))) tNil)) σ H (isTree K (l :: A) L) := by
  refine (ev_tupA (K := K) (eaP_cons (ev_entry hl (ev_box ev_setsB ho mono_tree) mono_tree) eaP_nil (mono_entry mono_tree)) (fun vs H1 p => ?_) ?_).imp fun v H1 _ hv => ?_
  · obtain ⟨_, _, rfl, _, rfl⟩ := p
    show 1 ≤ 1000
    decide
  · rintro vs Ha Hb e ⟨x, _, rfl, h1, rfl⟩
    exact ⟨x, _, rfl, mono_entry mono_tree _ _ _ e h1, rfl⟩
  · obtain ⟨a, vs, rfl, hq, x, _, rfl, ⟨r, h1, h2⟩, rfl⟩ := hv
    exact ⟨a, x, r, rfl, hq, h1, h2⟩
def isLeafAt (K : PySem.W.Frag) (L : List NestedKey) : Nat → V → Hp → Prop := fun i y H => ∃ l, L[i]? = some l ∧ LeafAt K H y l
theorem LeafAt.pe {H H' : Hp} {e : V} (x : Pe H H') (h : LeafAt K H e l) : LeafAt K H' e l := by
  obtain ⟨r, h1, h2⟩ := h
  exact ⟨r, h1.pe x, Nk.pe x _ h2⟩
theorem paired_of {H : Hp} : ∀ {ws : List V} {L : List NestedKey}, ws.length = L.length → (∀ (i : Nat) (y : V), ws[i]? = some y → isLeafAt K L i y H) → Paired (LeafAt K H) ws L
  | [], [], _, _ => .nil
  | [], _ :: _, h, _ => by simp at h
  | _ :: _, [], h, _ => by simp at h
  | w :: ws, k :: ks, h, f => by
    obtain ⟨k', h1, h2⟩ := f 0 w rfl
    have e : k = k' := Option.some.inj h1
    rw [← e] at h2
    refine .cons h2 (paired_of (by simpa using h) fun i y hy => ?_)
    obtain ⟨k2, g1, g2⟩ := f (i + 1) y (by simpa using hy)
    exact ⟨k2, by simpa using g1, g2⟩
theorem ev_cbF {rr : List V → Hp → VK → Prop} {Pf : Addr → Hp → Prop} {P : V → Hp → Prop} (h : EvF ta σ H Pf) (hs : ∀ p H1, Ex H H1 → Pf p H1 → ∀ Q : VK, (∀ v H2, Ex H1 H2 → P v H2 → Q v H2) → rr [.ref p] H1 Q) : Ev (tCB rr (tCons ta tNil)) σ H P := fun H1 e Q q =>
  h H1 e _ fun p H2 _ e2 hp => hs p H2 (e.trans e2) hp Q fun v H3 e3 pv => q v H3 (e2.trans e3) pv
/-- tuple([..] for each label) -/
theorem ev_leaves {j : Nat} {vs : List Nat} {a : Addr} {xs : List V} {L : List NestedKey} (h : EvV ta σ H (.ref a)) (hx : SqL K H a xs) (hL : NkAll K H xs L) (hz : L.length ≤ 1000) (hw : ∀ x, wipe ((wipe σ vs).set j (some x)) vs = wipe σ vs)
    (hj : ∀ x, ((wipe σ vs).set j (some x))[j]? = some (some x)) :
    Ev (tCB (rTupS K) (tCons (tLc (iList K ta) (gName j) tYes (tTup (tCons (tVar j) (tCons (tTup (tCons (tC (.str "a")) (tCons (tTupF tNil) (tCons (tTup tNil) (tCons (tTup tNil) tNil))))) tNil))) vs) tNil)) σ H (isTree K [] L) := by
  have hl := hL.length
  refine ev_cbF (evf_lcL (K := K) (R := isLeafAt K L) (xs := xs) (fun i y H H' x ⟨l, h1, h2⟩ => ⟨l, h1, LeafAt.pe x h2⟩) h hx (by omega) hw (fun i x H1 _ _ => et_yes) (fun i x H2 e2 hi => ?_)) fun p H2 e2 hm Q q => ?_
  · obtain ⟨l, hl1, hl2⟩ := hL.getV hi
    exact (ev_leaf (evn_var (hj x) (hl2.ex e2))).imp fun v H3 _ hv => ⟨l, hl1, hv⟩
  · obtain ⟨ws, h1, h2, h3⟩ := hm
    refine ⟨p, ws, rfl, .inl ⟨SqL.of h1, fun q' hq' => q _ _ (ex_new hq') ⟨q', ws, rfl, SqT.of upd_same, ?_⟩⟩⟩
    exact Paired.mapP (paired_of (by omega) h3) fun _ _ z => LeafAt.pe (ex_pe (ex_new hq')) z
theorem evl_rev {a : Addr} {xs : List V} (h : EvV te σ H (.ref a)) (hs : SqL K H a xs) : EvL (tRevL K te) σ H xs.reverse := fun H1 e Q q =>
  h H1 e _ fun x H2 e2 p => ⟨a, xs, p, (e.trans e2).seq hs, fun r hr => q r _ (e2.free hr) (e2.trans (ex_new hr)) upd_same⟩
theorem evs_ixD {T : Tape} {t : TA} {m : Nat} {S : V → Prop} (ha : EvSA K T t σ H (fun vs => vs.length = m ∧ ∀ v ∈ vs, S v)) (hm : m ≤ 1000) (hb : EvS K T tb σ H (isNat m)) : EvS K T (tOp (rIxL K) (tLst t) tb) σ H S := fun H1 d Q q =>
  ha H1 d _ fun vs H2 d2 ⟨hl, hv⟩ => ⟨Nat.le_of_lt (small1000 (by omega)), fun p hp => by
    have d3 := d2.grow (ex_new (o := .lst vs) hp)
    refine hb _ (d.trans d3) _ fun y H3 d4 ⟨k, hk, hy⟩ => ?_
    have hlt : k < vs.length := by omega
    exact ⟨p, vs, (k : Int), vs[k], rfl, hy, SqL.of (d4.fr _ _ (Ne.symm (d2.tp.ne hp)) upd_same), atI_nat (List.getElem?_eq_getElem hlt), q _ H3 (d3.trans d4) (hv _ (List.getElem_mem hlt))⟩⟩
theorem evd_call2 {T : Tape} {S : V → Prop} {sp : Sp} {E : XK} {P : V → Hp → Prop} (ha : ∀ H1, Td K T H H1 → EvV ta σ H1 (.ref T.t)) (hb : EvS K T tb σ H S) (hs : ∀ y H1, Td K T H H1 → S y → ∀ Q : VK, (∀ v H2, Td K T H1 H2 → P v H2 → Q v H2) → sp [.ref T.t, y] H1 Q E) :
    EvD K T (tCall sp [] E (tCons ta (tCons tb tNil))) σ H P := fun H1 d Q q =>
  ha H1 d H1 (Same.refl _) _ fun v H2 e p => by
    cases p
    have d2 := d.tp.td.grow e
    refine hb H2 (d.trans d2) _ fun y H3 d3 hy => ?_
    exact hs y H3 ((d.trans d2).trans d3) hy Q fun v H4 d4 pv => q v H4 ((d2.trans d3).trans d4) pv
end
/-! ### depths -/
theorem treeK_depth {L : List NestedKey} (hL : labs L) : ∀ {A : List NestedKey}, labs A → (treeK A L).depth ≤ 4 + 3 * A.length
  | [], _ => by
    have : ∀ k ∈ (leafRow L).map pairK, k.depth ≤ 3 := fun k hk => by
      obtain ⟨p, hp, rfl⟩ := List.mem_map.mp hk
      obtain ⟨l, hl, rfl⟩ := List.mem_map.mp hp
      obtain ⟨ks, e, hd⟩ := hL l hl
      simp only [pairK, leafK, NestedKey.depth, NestedKey.depthAll]
      omega
    have h2 := depthAll_le this
    show (NestedKey.tup _).depth ≤ _
    simp only [NestedKey.depth]
    simp only [List.length_nil]
    omega
  | a :: A, hA => by
    have ih := treeK_depth hL (A := A) fun x hx => hA x (List.mem_cons_of_mem _ hx)
    obtain ⟨ks, e, hd⟩ := hA a (List.mem_cons_self ..)
    show (rowK [(a, boxB (treeK A L))]).depth ≤ _
    simp only [rowK, pairK, boxB, List.map_cons, List.map_nil, NestedKey.depth, NestedKey.depthAll, List.length_cons]
    omega
/-- what the plain mirrors promise of a row and its other order -/
structure RowMath (L M : List NestedKey) (Tm n : Nat) : Prop where
  ch : ChainOk L M
  bo : BfsOk L M Tm n
  ok : okMoves L (KM.ordAt L M (KM.stays L M) M.length).2
  run : runM L (KM.ordAt L M (KM.stays L M) M.length).2 = M
  num : (KM.ordAt L M (KM.stays L M) M.length).2.length = n
section
variable {P : Program} {w : World} {K : PySem.W.Frag} {mg : Str → Option Value} {base : Heap}
theorem ev_paper0 {E : XK} {σ : L2.St} {H : Hp} {ta tb : TE} {A L M : List NestedKey} (ha : Ev ta σ H (isTree K A L)) (hb : Ev tb σ H (isTree K A M)) (pre : RowPre A L M) (h2 : A.length ≤ 2) : EvN K (tOp (rIxT K) (tCall (spPaper K) [] E (tCons ta (tCons tb tNil))) (tC (.int 0))) σ H (.tup (movesK A L M)) := fun H1 e Q q =>
  ha H1 e _ fun v H2 e2 hv => hb H2 (e.trans e2) _ fun u H3 e3 hu =>
    ⟨v, u, A, L, M, rfl, mono_tree _ _ _ e3 hv, hu, pre, h2, fun p dv rv H4 e4 h4 h5 => ⟨p, [dv, rv], 0, dv, rfl, rfl, h4, rfl, q dv H4 ((e2.trans e3).trans e4) h5⟩⟩
abbrev DLaw (K : PySem.W.Frag) (mg : Str → Option Value) := Df K mg "law" sLaw ["_law_script"]
def spLaw (K : PySem.W.Frag) : Sp := fun vs H Q _ => ∃ (a : Addr) (ns : List Int), vs = [.ref a] ∧ SqL K H a (ns.map V.int) ∧ ns.length ≤ 63 ∧ ∀ H', Q (.bl true) H'
theorem scLaw : FnScope ["_law_script", "_law_tape_here", "_law_labels_here", "_law_other", "_law_fewest_here", "_law_old", "_law_new", "_law_outer", "_law_label_here", "_law_deeds", "_law_k", "_law_deed"] ["_law_script"] (defScope sLaw) := ⟨rfl, rfl, rfl, by decide +kernel, rfl, by decide +kernel, by decide +kernel⟩
end
end KW
namespace KW
open PySem PySem.Spec PyProof.Rows L2
section
variable {K : PySem.W.Frag} {T : Tape} {σ : L2.St} {H : Hp} {ta tb te : TE}
theorem ev_callF {sp : Sp} {E : XK} {t : TA} {dvs : List V} {Pa : List V → Hp → Prop} {P : Addr → Hp → Prop} (h : EvA t σ H Pa) (hs : ∀ vs H1, Ex H H1 → Pa vs H1 → ∀ Q : VK, (∀ p H2, H1 p = none → Ex H1 H2 → P p H2 → Q (.ref p) H2) → sp (vs ++ dvs) H1 Q E) : EvF (tCall sp dvs E t) σ H P := fun H1 e Q q =>
  h H1 e _ fun vs H2 e2 p => hs vs H2 (e.trans e2) p Q fun v H3 hp e3 pv => q v H3 (e2.free hp) (e2.trans e3) pv
theorem EvSA.imp {t : TA} {S S1 : List V → Prop} (h : EvSA K T t σ H S1) (w : ∀ vs, S1 vs → S vs) : EvSA K T t σ H S := fun H1 d Q q => h H1 d Q fun v H2 d2 p => q v H2 d2 (w v p)
theorem evs_eq0 {m : Nat} (ha : EvS K T ta σ H (isNat m)) : EvS K T (tOp rEq ta (tC (.int 0))) σ H (fun v => ∃ b, v = .bl b) :=
  evs_op ha (evs_of fun _ _ => evv_c) fun x y H1 _ ⟨d, _, hd⟩ hy Q q => by
    subst hd
    subst hy
    exact ⟨rfl, q _ ⟨_, rfl⟩⟩
theorem all_true : ∀ {ws : List V}, (∀ (i : Nat) (y : V), ws[i]? = some y → y = V.bl true) → ws = (List.replicate ws.length true).map V.bl
  | [], _ => rfl
  | w :: ws, h => by
    have h0 := h 0 w rfl
    have ih := all_true (ws := ws) fun i y hy => h (i + 1) y (by simpa using hy)
    rw [List.length_cons, List.replicate_succ, List.map_cons, ← ih, h0]
theorem rep_all (n : Nat) : (List.replicate n true).all id = true := by
  induction n with
  | zero => rfl
  | succ n ih => rw [List.replicate_succ, List.all_cons, ih]; rfl
theorem ev_all {Pn : Nat} (h : EvF te σ H (Made (fun _ y _ => y = V.bl true) Pn)) : EvV (tCB (rAll K) (tCons te tNil)) σ H (.bl true) :=
  ev_cbF h fun p H1 e hm Q q => by
    obtain ⟨ws, h1, h2, h3⟩ := hm
    refine ⟨p, List.replicate ws.length true, rfl, ?_, ?_⟩
    · rw [← all_true h3]
      exact SqL.of h1
    · rw [rep_all]
      exact q _ H1 (Same.refl _) rfl
end
section
variable {P : Program} {w : World} {K : PySem.W.Frag} {mg : Str → Option Value} {base : Heap}
theorem labK_d {l : NestedKey} (h : labK l) : l.depth ≤ 2 := by
  obtain ⟨ks, _, hd⟩ := h
  exact hd
theorem ok_law (hmath : ∀ L M : List NestedKey, labs L → L.Nodup → M.Perm L → L.length ≤ 5 → ∃ Tm n, RowMath L M Tm n) (D : DLaw K mg) (B : Bl mg) (DTa : DTape K mg) (DDr : DDraw K mg) (DNu : DNumber K mg) (DSp : DSpot K mg) (DLa : DLabel K mg) (DLs : DLabels K mg) (DSh : DShuf K mg) (DMo : DMoved K mg) (DFe : DFew K mg)
    (D1 : DPlace K mg) (DBF : DBoxF K mg) (DRF : DRowF K mg) (DWB : DWithB K mg) (DWR : DWithR K mg) (DTR : DTurnR K mg) (DTu : DTurned K mg) (DLe : DLed K mg)
    (DPl : DPlaces K mg) (DPi : DPiles K mg) (DRP : DRowP K mg) (DIs : DIsKept K mg) (DKe : DKeptL K mg) (DBo : DBoxD K mg) (DPB : DPlaceB K mg) (DOr : DOrder K mg) (DRo : DRowD K mg) (DPa : DPaper K mg) : FnOk P w K mg base CX0 10 D.f D.fd ["_law_script"] (spLaw K) := by
  have GT : FnOk P w K mg base CX0 1 DTa.f DTa.fd ["_law_script"] (spTape K) := ok_tape DTa
  have GD : FnOk P w K mg base CX0 1 DDr.f DDr.fd ["_law_tape_here", "_law_many"] (spDraw K) := ok_draw DDr B
  have G4 : FnOk P w K mg base CX0 4 DLa.f DLa.fd ["_law_tape_here"] (spLabel K) := ok_label DLa DSp DNu DDr B
  have GL : FnOk P w K mg base CX0 5 DLs.f DLs.fd ["_law_tape_here", "_law_many"] (spLabels K) := ok_labels DLs DLa DSp DNu DDr B
  have GS : FnOk P w K mg base CX0 2 DSh.f DSh.fd ["_law_tape_here", "_law_labels_here"] (spShuf K) := ok_shuf DSh DDr B
  have GF : FnOk P w K mg base CX0 2 DFe.f DFe.fd ["_law_old", "_law_new"] (spFew K) := ok_few DFe DMo B
  have GP : FnOk P w K mg base CX0 9 DPa.f DPa.fd ["old", "new"] (spPaper K) := ok_paper DPa DRo B D1 DIs DKe DPB DPl DPi DRP DOr DBo
  have GE : FnOk P w K mg base CX0 9 DLe.f DLe.fd ["tree", "deeds"] (spLed K) := ok_led DLe B D1 DBF DRF DWB DWR DTR DTu
  refine D.F.ok scLaw (fun vs H Q E h => ?_) (fun cdv A outer s H vs Q E hr h => ?_)
  · obtain ⟨a, ns, rfl, _⟩ := h
    rfl
  obtain ⟨a, ns, rfl, hsc, _, q⟩ := h
  have hr1 : Room 1 _ := hr.mono (by decide)
  have hr2 : Room 2 _ := hr.mono (by decide)
  have hr4 : Room 4 _ := hr.mono (by decide)
  have hr5 : Room 5 _ := hr.mono (by decide)
  refine ⟨_, (pss_cons (ps_set (i := 1) scLaw.nd rfl (.inr rfl) (pe_call GT hr1 (by rfl) DTa.g DTa.F.kp DTa.b .nil pass0 (pa_cons (pv 0) pa_nil)))
    (pss_cons (ps_set (i := 2) scLaw.nd rfl (.inl rfl) (pe_call GL hr5 (by rfl) DLs.g DLs.F.kp DLs.b .nil pass0 (pa_cons (pv 1) (pa_cons (pe_ix ix_list (pe_lst (pa_cons (pe_call GD hr1 (by rfl) DDr.g DDr.F.kp DDr.b .nil pass0 (pa_cons (pv 1) (pa_cons pe_int pa_nil))) (pa_cons pe_int pa_nil))) (pe_callTy (T := "int") call_int1 (by rfl) B.int PyProof.Rows.boot_int (pa_cons (pe_cmpR op_eq (pe_call GD hr1 (by rfl) DDr.g DDr.F.kp DDr.b .nil pass0 (pa_cons (pv 1) (pa_cons pe_int pa_nil))) pe_int (by rfl)) pa_nil)) plainIx) pa_nil))))
    (pss_cons (ps_set (i := 3) scLaw.nd rfl (.inl rfl) (pe_call GS hr2 (by rfl) DSh.g DSh.F.kp DSh.b .nil pass0 (pa_cons (pv 1) (pa_cons (pv 2) pa_nil))))
    (pss_cons (ps_set (i := 4) scLaw.nd rfl (.inl rfl) (pe_call GF hr2 (by rfl) DFe.g DFe.F.kp DFe.b .nil pass0 (pa_cons (pe_callTy (T := "tuple") call_tupS (by rfl) B.tuple PyProof.Rows.boot_tuple (pa_cons (pv 2) pa_nil)) (pa_cons (pe_callTy (T := "tuple") call_tupS (by rfl) B.tuple PyProof.Rows.boot_tuple (pa_cons (pv 3) pa_nil)) pa_nil))))
    (pss_cons (ps_set (i := 5) scLaw.nd rfl (.inl rfl) (pe_callTy (T := "tuple") call_tupS (by rfl) B.tuple PyProof.Rows.boot_tuple (pa_cons (pe_lc (own := [("_law_label_here", 8)]) (g := gName 8) (tt := tYes) (te := tTup (tCons (tVar 8) (tCons (tTup (tCons (tC (.str "a")) (tCons (tTupF tNil) (tCons (tTup tNil) (tCons (tTup tNil) tNil))))) tNil))) rfl scLaw.nd (pi_list (pv 2)) (blkOk_by (N := ["_law_script", "_law_tape_here", "_law_labels_here", "_law_other", "_law_fewest_here", "_law_old", "_law_new", "_law_outer", "_law_label_here", "_law_deeds", "_law_k", "_law_deed"]) (sc := defScope sLaw) (by decide +kernel)) (fun _ _ _ _ _ => pg_name (i := 8) scLaw.nd rfl (Or.inl rfl)) (fun _ _ _ _ _ => pts_nil) (fun _ _ _ _ _ => (pe_tup (pa_cons (pv 8) (pa_cons (pe_tup (pa_cons pe_str (pa_cons (pe_tupF pa_nil) (pa_cons (pe_tup pa_nil) (pa_cons (pe_tup pa_nil) pa_nil))))) pa_nil))))) pa_nil)))
    (pss_cons (ps_set (i := 6) scLaw.nd rfl (.inl rfl) (pe_callTy (T := "tuple") call_tupS (by rfl) B.tuple PyProof.Rows.boot_tuple (pa_cons (pe_lc (own := [("_law_label_here", 8)]) (g := gName 8) (tt := tYes) (te := tTup (tCons (tVar 8) (tCons (tTup (tCons (tC (.str "a")) (tCons (tTupF tNil) (tCons (tTup tNil) (tCons (tTup tNil) tNil))))) tNil))) rfl scLaw.nd (pi_list (pv 3)) (blkOk_by (N := ["_law_script", "_law_tape_here", "_law_labels_here", "_law_other", "_law_fewest_here", "_law_old", "_law_new", "_law_outer", "_law_label_here", "_law_deeds", "_law_k", "_law_deed"]) (sc := defScope sLaw) (by decide +kernel)) (fun _ _ _ _ _ => pg_name (i := 8) scLaw.nd rfl (Or.inl rfl)) (fun _ _ _ _ _ => pts_nil) (fun _ _ _ _ _ => (pe_tup (pa_cons (pv 8) (pa_cons (pe_tup (pa_cons pe_str (pa_cons (pe_tupF pa_nil) (pa_cons (pe_tup pa_nil) (pa_cons (pe_tup pa_nil) pa_nil))))) pa_nil))))) pa_nil)))
    (pss_cons (ps_set (i := 7) scLaw.nd rfl (.inr rfl) (pe_lc (own := [("_law_k", 10)]) (g := gName 10) (tt := tYes) (te := tCall (spLabel K) [] E0 (tCons (tVar 1) tNil)) rfl scLaw.nd (pi_range1 rfl B.range (pa_cons (pe_call GD hr1 (by rfl) DDr.g DDr.F.kp DDr.b .nil pass0 (pa_cons (pv 1) (pa_cons pe_int pa_nil))) pa_nil)) (blkOk_by (N := ["_law_script", "_law_tape_here", "_law_labels_here", "_law_other", "_law_fewest_here", "_law_old", "_law_new", "_law_outer", "_law_label_here", "_law_deeds", "_law_k", "_law_deed"]) (sc := defScope sLaw) (by decide +kernel)) (fun _ _ _ _ _ => pg_name (i := 10) scLaw.nd rfl (Or.inl rfl)) (fun _ _ _ _ _ => pts_nil) (fun _ _ _ _ _ => (pe_call G4 hr4 (by rfl) DLa.g DLa.F.kp DLa.b .nil pass0 (pa_cons (pv 1) pa_nil)))))
    (pss_cons (ps_for PassesOwn.never rfl (pi_list (pv 7)) (pg_name (i := 8) scLaw.nd rfl (.inl rfl)) (pss_cons (ps_set (i := 5) scLaw.nd rfl (.inl rfl) (pe_tup (pa_cons (pe_tup (pa_cons (pv 8) (pa_cons (pe_tup (pa_cons pe_str (pa_cons (pe_tupF (pa_cons (pe_tup (pa_cons pe_str (pa_cons pe_int pa_nil))) pa_nil)) (pa_cons (pe_tup pa_nil) (pa_cons (pv 5) pa_nil))))) pa_nil))) pa_nil))) (pss_one (ps_set (i := 6) scLaw.nd rfl (.inl rfl) (pe_tup (pa_cons (pe_tup (pa_cons (pv 8) (pa_cons (pe_tup (pa_cons pe_str (pa_cons (pe_tupF (pa_cons (pe_tup (pa_cons pe_str (pa_cons pe_int pa_nil))) pa_nil)) (pa_cons (pe_tup pa_nil) (pa_cons (pv 6) pa_nil))))) pa_nil))) pa_nil))))))
    (pss_cons (ps_set (i := 9) scLaw.nd rfl (.inl rfl) (pe_ix ix_tup (pe_call GP hr (by rfl) DPa.g DPa.F.kp DPa.b .nil pass0 (pa_cons (pv 5) (pa_cons (pv 6) pa_nil))) pe_int plainIx))
    (pss_cons (ps_if (PW.pt (pw_or (pt_cmpR op_ne (pe_callB call_lenS (by rfl) B.len PySem.boot_len (pa_cons (pv 9) pa_nil)) (pv 4) (by rfl)) (pw_or1 (pt_cmpR (op_neN hr.units) (pe_call GE hr (by rfl) DLe.g DLe.F.kp DLe.b .nil pass0 (pa_cons (pv 5) (pa_cons (pv 9) pa_nil))) (pv 6) (by rfl))))) pss_never pss_nil)
    (pss_one (ps_ret (pe_callB (cr_all rfl) (by rfl) B.all PyProof.Rows.boot_all (pa_cons (pe_lc (own := [("_law_deed", 11)]) (g := gName 11) (tt := tYes) (te := tAndV (tOp rEq (tOp (rIxT K) (tVar 11) (tC (.int 0))) (tC (.str "move"))) (tOp (rEqN K) (tOp (rIxT K) (tVar 11) (tC (.int 1))) (tCB (rTupS K) (tCons (tRevL K (tVar 7)) tNil)))) rfl scLaw.nd (pi_tup (pv 9)) (blkOk_by (N := ["_law_script", "_law_tape_here", "_law_labels_here", "_law_other", "_law_fewest_here", "_law_old", "_law_new", "_law_outer", "_law_label_here", "_law_deeds", "_law_k", "_law_deed"]) (sc := defScope sLaw) (by decide +kernel)) (fun _ _ _ _ _ => pg_name (i := 11) scLaw.nd rfl (Or.inl rfl)) (fun _ _ _ _ _ => pts_nil) (fun _ _ _ _ _ => pe_and (pe_cmpR op_eq (pe_ix ix_tup (pv 11) pe_int plainIx) pe_str (by rfl)) (pe_one (pe_cmpR (op_eqN hr.units) (pe_ix ix_tup (pv 11) pe_int plainIx) (pe_callTy (T := "tuple") call_tupS (by rfl) B.tuple PyProof.Rows.boot_tuple (pa_cons (pe_revL (pv 7)) pa_nil)) (by rfl))))) pa_nil)))))))))))))), ?_⟩
  refine q_asgF (σ := [some (.ref a), none, none, none, none, none, none, none, none, none, none, none]) (P := fun p H' => H' p = some (.lst [.ref a, .int 0, .int 0, .int 0])) (ev_callF (ea_vcons (evv_var rfl) ea_vnil) fun vs H1 e hv Q' q' => by
    subst hv
    exact ⟨_, rfl, fun p H' hp e' hh => q' p H' hp e' hh⟩) fun t H1 ht e1 h1 => ?_
  have tp1 : Tp K ⟨t, a, ns⟩ H1 := ⟨0, 0, 0, h1, e1.seq hsc, Int.le_refl _⟩
  generalize hT : (⟨t, a, ns⟩ : Tape) = T at tp1
  have hTt : T.t = t := by rw [← hT]
  subst hTt
  refine q_asgD (K := K) (T := T) (P := fun v H' => ∃ p ws L, v = .ref p ∧ T.t ≠ p ∧ H' p = some (.lst ws) ∧ NkAll K H' ws L ∧ labs L ∧ L.Nodup ∧ L.length ≤ 5) tp1
    (evd_call2 (S := fun v => ∃ m : Nat, m ≤ 5 ∧ v = .int (m : Int)) (fun _ _ => evv_var rfl)
      (evs_ixD (m := 2) (S := fun v => ∃ m : Nat, m ≤ 5 ∧ v = .int (m : Int)) ((esa_cons (evs_draw0 (i := 1) (m := 5) rfl) (esa_cons (evs_of fun _ _ => evv_c) esa_nil)).imp fun vs hv => ?_) (by decide)
        (evd_cb1 (evs_eq0 (evs_draw0 (i := 1) (m := 4) rfl)) fun v H2 d2 hv Q' q' => ?_)) fun y H2 d2 hy Q' q' => ?_) fun v2 H2 d2 hv2 => ?_
  · obtain ⟨x, _, rfl, ⟨k, hk, rfl⟩, y, _, rfl, rfl, rfl⟩ := hv
    refine ⟨rfl, fun v hv => ?_⟩
    rcases List.mem_cons.mp hv with rfl | hv
    · exact ⟨k, by omega, rfl⟩
    · rw [List.mem_singleton.mp hv]
      exact ⟨5, by decide, rfl⟩
  · obtain ⟨b, rfl⟩ := hv
    refine .inr ⟨b, rfl, q' _ H2 d2.tp.td ?_⟩
    cases b with
    | true => exact ⟨1, by decide, rfl⟩
    | false => exact ⟨0, by decide, rfl⟩
  · obtain ⟨m, hm, rfl⟩ := hy
    exact ⟨T, m, rfl, d2.tp, hm, fun p ws L H3 d3 hp hp3 hn hl1 hl2 hl3 => q' _ H3 d3 ⟨p, ws, L, rfl, d2.tp.ne hp, hp3, hn, hl1, hl2, by omega⟩⟩
  obtain ⟨lb, lws, L, rfl, hlb, hl2, hln2, hL1, hL2, hL3⟩ := hv2
  refine q_asgD (K := K) (T := T) (P := fun v H' => ∃ p ws M, v = .ref p ∧ T.t ≠ p ∧ H' p = some (.lst ws) ∧ NkAll K H' ws M ∧ M.Perm L) d2.tp
    (evd_call2 (S := fun v => v = .ref lb) (fun _ _ => evv_var rfl) (evs_var rfl) fun y H3 d3 hy Q' q' => ?_) fun v3 H3 d3 hv3 => ?_
  · subst hy
    exact ⟨T, lb, lws, L, rfl, d3.tp, d3.fr _ _ (Ne.symm hlb) hl2, NkAll.pe (d2.tp.pe d3.fr) _ hln2, hL3, fun p ws M H4 d4 hp hp4 hn hM => q' _ H4 d4 ⟨p, ws, M, rfl, d3.tp.ne hp, hp4, hn, hM⟩⟩
  obtain ⟨ob, ows, M, rfl, hob, ho3, hon3, hM⟩ := hv3
  have hl3 := d3.fr _ _ (Ne.symm hlb) hl2
  have hln3 := NkAll.pe (d2.tp.pe d3.fr) _ hln2
  obtain ⟨Tm, n, rm⟩ := hmath L M hL1 hL2 hM hL3
  have hMl : M.length = L.length := hM.length_eq
  have hM1 : labs M := fun l hl => hL1 l (hM.mem_iff.mp hl)
  have gL : good L := ⟨hL3, fun l hl => labK_d (hL1 l hl)⟩
  have gM : good M := ⟨by omega, fun l hl => labK_d (hM1 l hl)⟩
  refine q_asg (P := isV (.int (n : Int))) (ev_call (ea_cons (K := K) (evn_tupL (evv_var rfl) (SqL.of hl3) hln3) (ea_cons (evn_tupL (evv_var rfl) (SqL.of ho3) hon3) ea_nil)) fun vs H4 e4 p4 Q' q' => ?_) fun v4 H4 e4 hv4 => ?_
  · cases p4 with
    | cons p1 p4 =>
    cases p4 with
    | cons p2 p4 =>
    cases p4
    exact ⟨_, _, L, M, Tm, n, rfl, p1, p2, gL, gM, rm.bo, fun H5 e5 => q' _ H5 e5 rfl⟩
  cases hv4
  refine q_asg (P := isTree K [] L) (ev_leaves (evv_var rfl) (SqL.of (e4 _ _ hl3)) (hln3.ex e4) (by omega) (fun x => rfl) (fun x => rfl)) fun v5 H5 e5 hv5 => ?_
  refine q_asg (P := isTree K [] M) (ev_leaves (evv_var rfl) (SqL.of ((e4.trans e5) _ _ ho3)) (hon3.ex (e4.trans e5)) (by omega) (fun x => rfl) (fun x => rfl)) fun v6 H6 e6 hv6 => ?_
  have hv5 := mono_tree _ _ _ e6 hv5
  have tp6 : Tp K T H6 := d3.tp.grow ((e4.trans e5).trans e6)
  refine q_asgD (K := K) (T := T) (P := fun v H' => ∃ p k, k ≤ 2 ∧ v = .ref p ∧ T.t ≠ p ∧ Made (fun _ y H => ∃ k, Nk K H y k ∧ labK k) k p H') tp6
    (evd_lcR (K := K) (T := T) (R := fun _ y H => ∃ k, Nk K H y k ∧ labK k) (j := 10) (vs := [10]) (N := 2) (fun i y H H' e ⟨k, h1, h2⟩ => ⟨k, Nk.pe e _ h1, h2⟩)
      ((evs_draw0 (i := 1) (m := 3) rfl).impS fun v ⟨k, hk, hv⟩ => ⟨k, by omega, hv⟩) (by decide) (fun x => rfl)
      (fun i x H7 d7 => evd_call1 (fun _ _ => evv_var rfl) fun H8 d8 Q' q' => ⟨T, rfl, d8.tp, fun r k H9 d9 h9 h10 => q' _ H9 d9 ⟨k, h9, h10⟩⟩)) fun v7 H7 d7 hv7 => ?_
  obtain ⟨up, uk, huk, rfl, hup, uws, hu1, hu2, hu3⟩ := hv7
  obtain ⟨A0, hA1, hA2⟩ := made_any uws hu3
  have hA0l : A0.length ≤ 2 := by rw [← hA1.length]; omega
  have pe67 := tp6.pe d7.fr
  have hv5 : isTree K [] L v5 H7 := TreeAt.pe pe67 hv5
  have hv6 : isTree K [] M v6 H7 := TreeAt.pe pe67 hv6
  refine q_forL (evv_var rfl) (SqL.of hu1) (fun i σ' H' => ∃ o5 o6 z8, σ' = [some (.ref a), some (.ref T.t), some (.ref lb), some (.ref ob), some (.int (n : Int)), some o5, some o6, some (.ref up), z8, none, none, none] ∧ isTree K ((A0.take i).reverse) L o5 H' ∧ isTree K ((A0.take i).reverse) M o6 H' ∧ Ex H7 H')
    (fun H8 e8 => ⟨v5, v6, none, rfl, mono_tree _ _ _ e8 hv5, mono_tree _ _ _ e8 hv6, e8⟩) (fun i σ' H' ⟨_, _, _, _, _, _, e⟩ => SqL.of (e _ _ hu1)) ?_ ?_
  · rintro i x σ' H8 hx ⟨o5, o6, z8, rfl, t5, t6, e8⟩
    obtain ⟨l, hl, nx⟩ := hA1.getV hx
    have htk : (A0.take (i + 1)).reverse = l :: (A0.take i).reverse := by
      rw [List.take_add_one, hl, List.reverse_append]
      rfl
    refine q_asg (ev_wrap (evn_var rfl (nx.ex e8)) (ev_var rfl mono_tree t5)) fun y9 H9 e9 hy9 => ?_
    refine s_asg (ev_wrap (evn_var rfl (nx.ex (e8.trans e9))) (ev_var rfl mono_tree (mono_tree _ _ _ e9 t6))) fun y10 H10 e10 hy10 => ?_
    rw [← htk] at hy9 hy10
    exact ⟨y9, y10, _, rfl, mono_tree _ _ _ e10 hy9, hy10, (e8.trans e9).trans e10⟩
  rintro σ' H8 ⟨o5, o6, z8, rfl, t5, t6, e8⟩
  rw [hA1.length, List.take_length] at t5 t6
  have hA : labs A0.reverse := fun l hl => hA2 l (List.mem_reverse.mp hl)
  have hAl : A0.reverse.length ≤ 2 := by rw [List.length_reverse]; exact hA0l
  have pre : RowPre A0.reverse L M := ⟨hA, hL1, hL2, hM, rm.ch, by omega⟩
  refine q_asg (ev_paper0 (ev_var rfl mono_tree t5) (ev_var rfl mono_tree t6) pre hAl) fun dv H9 e9 hd9 => ?_
  have t5 := mono_tree _ _ _ e9 t5
  have t6 := mono_tree _ _ _ e9 t6
  have hdl : (movesK A0.reverse L M).length = n := by
    unfold movesK
    rw [List.length_map]
    exact rm.num
  have hod := ord_len (L := L) (M := M) (st := KM.stays L M) M.length
  refine q_when (b := false) (et_is (et_or (a := false) (b := false) (et_is (et_test (evv_ne rfl (evv_is (evv_lenT (evn_var rfl hd9)) (by rw [hdl])) (evv_var rfl))) (by rw [decide_eq_true rfl]; rfl)) (fun _ => et_is (et_test (evv_neN (k := treeK A0.reverse M) (l := treeK A0.reverse M) (evn_is (ev_led (ds := (KM.ordAt L M (KM.stays L M) M.length).2) (evn_var rfl (TreeAt.nk t5)) (evn_var rfl hd9) (fun x hx => by obtain ⟨ks, _, h⟩ := hA x hx; omega) (by omega) rm.ok (by omega) (by omega)) (by rw [rm.run])) (evn_var rfl (TreeAt.nk t6)) (.inl (by have := treeK_depth hM1 hA; omega)))) (by rw [decide_eq_true rfl]; rfl))) rfl) (fun h => nomatch h) (fun _ H10 e10 => ?_)
  have hd10 := Nk.ex hd9 e10
  cases hd10 with
  | @tup da dws _ ds1 ds2 =>
  have hal : (NestedKey.tup A0.reverse).depth ≤ 32 := by
    have := depthAll_le (n := 2) fun k hk => labK_d (hA k hk)
    simp only [NestedKey.depth]
    omega
  have hdw : dws.length ≤ 1000 := by rw [ds2.length, hdl, ← rm.num]; omega
  have hup10 : SqL K H10 up uws := SqL.of (((e8.trans e9).trans e10) _ _ hu1)
  have hA10 := hA1.ex ((e8.trans e9).trans e10)
  refine s_ret (ev_all (Pn := dws.length) (evf_lcT (K := K) (R := fun _ y _ => y = V.bl true) (fun _ _ _ _ _ h => h) (evv_var rfl) ds1 hdw (fun x => rfl) (fun i x H11 _ _ => et_yes) (fun i x H11 e11 hx => ?_))) fun r H11 e11 hr11 => ?_
  · obtain ⟨k, hk, nx⟩ := ds2.getV hx
    unfold movesK at hk
    rw [List.getElem?_map] at hk
    obtain ⟨d, _, rfl⟩ := Option.map_eq_some_iff.mp hk
    have nx := nx.ex e11
    refine evv_is (evv_and (a := true) (b := true) (evv_is (evv_eq rfl (EvN.str (evn_ix (ks := [.text "move", .tup A0.reverse, d.1, .num (d.2 : Int)]) (evn_var rfl nx) evv_c (atI_nat (j := 0) rfl))) evv_c) (by rw [decide_eq_true rfl])) (fun _ => evv_is (evv_eqN (k := .tup A0.reverse) (l := .tup A0.reverse) (evn_ix (ks := [.text "move", .tup A0.reverse, d.1, .num (d.2 : Int)]) (evn_var rfl nx) evv_c (atI_nat (j := 1) rfl)) (evn_tupF (evl_rev (evv_var rfl) (e11.seq hup10)) fun p H12 e12 hp => ⟨_, hp, ((hA10.ex e11).ex e12).reverse⟩) (.inl hal)) (by rw [decide_eq_true rfl]))) rfl
  · cases hr11
    exact q H11
end
end KW
namespace KW
open PySem PySem.Spec PyProof.Rows L2

def nm (L : List NestedKey) (i : Nat) : NestedKey := match L[i]? with
  | some l => l
  | none => .num (i : Int)
theorem nm_some {L : List NestedKey} {i : Nat} {l : NestedKey} (h : L[i]? = some l) : nm L i = l := by
  unfold nm
  rw [h]
theorem nm_none {L : List NestedKey} {i : Nat} (h : L[i]? = none) : nm L i = .num (i : Int) := by
  unfold nm
  rw [h]
theorem nm_inj {L : List NestedKey} (hL : labs L) (hn : L.Nodup) : KM.Inj (nm L) := fun i j e => by
  cases hi : L[i]? with
  | some l =>
    rw [nm_some hi] at e
    cases hj : L[j]? with
    | some m =>
      rw [nm_some hj] at e
      subst e
      exact nd_ix hn hi hj
    | none =>
      rw [nm_none hj] at e
      obtain ⟨ks, h, _⟩ := hL l (List.mem_of_getElem? hi)
      rw [h] at e
      cases e
  | none =>
    rw [nm_none hi] at e
    cases hj : L[j]? with
    | some m =>
      rw [nm_some hj] at e
      obtain ⟨ks, h, _⟩ := hL m (List.mem_of_getElem? hj)
      rw [h] at e
      cases e
    | none =>
      rw [nm_none hj] at e
      injection e with e
      omega
theorem nm_row (L : List NestedKey) : (List.range L.length).map (nm L) = L := by
  refine List.ext_getElem? fun i => ?_
  rw [List.getElem?_map]
  by_cases h : i < L.length
  · rw [List.getElem?_range h]
    show some (nm L i) = L[i]?
    rw [List.getElem?_eq_getElem h, nm_some (List.getElem?_eq_getElem h)]
  · rw [List.getElem?_eq_none (l := List.range L.length) (by rw [List.length_range]; omega), List.getElem?_eq_none (by omega)]
    rfl
theorem ix_row {L : List NestedKey} (hn : L.Nodup) : L.map (fun l => L.idxOf l) = List.range L.length := by
  refine List.ext_getElem? fun i => ?_
  rw [List.getElem?_map]
  by_cases h : i < L.length
  · rw [List.getElem?_range h, List.getElem?_eq_getElem h]
    show some (L.idxOf L[i]) = some i
    congr 1
    refine idxOf_at (List.getElem?_eq_getElem h) fun j hj hh => ?_
    have := nd_ix hn hh (List.getElem?_eq_getElem h)
    omega
  · rw [List.getElem?_eq_none (l := List.range L.length) (by rw [List.length_range]; omega), List.getElem?_eq_none (by omega)]
    rfl
theorem nm_ix {L : List NestedKey} {l : NestedKey} (h : l ∈ L) : nm L (L.idxOf l) = l := nm_some (idx_at h)
theorem nm_other {L M : List NestedKey} (hM : M.Perm L) : (M.map fun l => L.idxOf l).map (nm L) = M := by
  rw [List.map_map]
  have : ∀ N : List NestedKey, (∀ l ∈ N, l ∈ L) → N.map (nm L ∘ fun l => L.idxOf l) = N := fun N => by
    induction N with
    | nil => exact fun _ => rfl
    | cons a N ih =>
      intro h
      rw [List.map_cons, ih fun l hl => h l (List.mem_cons_of_mem _ hl)]
      show nm L (L.idxOf a) :: N = a :: N
      rw [nm_ix (h a (List.mem_cons_self ..))]
  exact this M fun l hl => hM.mem_iff.mp hl
theorem mv_perm {L : List NestedKey} {d : NestedKey × Nat} (h : d.1 ∈ L) : (KM.mv L d).Perm L := by
  unfold KM.mv
  exact (ins_perm _ _ _).trans (List.perm_cons_erase h).symm
theorem ok_of_G : ∀ {ds : List (NestedKey × Nat)} {L : List NestedKey}, KM.okG L ds = true → (∀ l ∈ L, l.depth ≤ 8) → okMoves L ds
  | [], _, _, _ => trivial
  | d :: ds, L, h, h8 => by
    rw [KM.okG, Bool.and_eq_true, Bool.and_eq_true] at h
    have h1 : d.1 ∈ L := of_decide_eq_true h.1
    exact ⟨h1, h8 _ h1, of_decide_eq_true h.2.1, ok_of_G h.2.2 fun l hl => h8 l ((mv_perm h1).mem_iff.mp hl)⟩
theorem all_B : ∀ n, n ≤ 5 → KM.allB n (KM.bfsAt KM.moved (List.range n) (KM.fact n)) = true
  | 0, _ => KM.b0
  | 1, _ => KM.b1
  | 2, _ => KM.b2
  | 3, _ => KM.b3
  | 4, _ => KM.b4
  | 5, _ => KM.b5
  | n + 6, h => absurd h (by omega)
theorem row_math (L M : List NestedKey) (hL : labs L) (hn : L.Nodup) (hM : M.Perm L) (h5 : L.length ≤ 5) : ∃ Tm n, RowMath L M Tm n := by
  have hf := nm_inj hL hn
  have hB := all_B L.length h5
  have hp : (M.map fun l => L.idxOf l).Perm (List.range L.length) := by
    rw [← ix_row hn]
    exact hM.map _
  have eL := (nm_row L).symm
  have eM := (nm_other hM).symm
  have h8 : ∀ l ∈ L, l.depth ≤ 8 := fun l hl => by have := labK_d (hL l hl); omega
  generalize hR : List.range L.length = R at hB hp eL
  generalize (M.map fun l => L.idxOf l) = p at hp eM
  generalize hfm : nm L = f at hf eL eM
  unfold KM.allB at hB
  rw [hR, Bool.and_eq_true, Bool.and_eq_true] at hB
  obtain ⟨⟨hs, hlen⟩, hall⟩ := hB
  have hpp := List.all_eq_true.mp hall p (KM.mem_perms _ _ hp)
  rw [Bool.and_eq_true] at hpp
  obtain ⟨ho, hlk⟩ := hpp
  unfold KM.orderB at ho
  rw [Bool.and_eq_true] at ho
  obtain ⟨hc, hr⟩ := ho
  unfold KM.chainB at hc
  rw [Bool.and_eq_true] at hc
  unfold KM.rowB at hr
  rw [Bool.and_eq_true] at hr
  have hlk : KM.lk (KM.bfsAt KM.moved R (KM.fact L.length)).1 p = some (KM.order R p).2.length := by simpa using hlk
  have hrun : (KM.order R p).2.foldl KM.mv R = p := by simpa using hr.2
  have hce : KM.chainIt (KM.pilesOf R p).2 (KM.startOf (KM.pilesOf R p).1) R.length = none := by simpa using hc.1
  have hbfs := KM.map_bfs (KM.inj_map hf) (m := KM.moved) (m' := KM.moved) (fun r => KM.map_moved r) R (KM.fact L.length)
  have hpil := KM.map_pilesOf hf R p
  have hst := KM.map_stays hf R p
  have hord := KM.map_ordAt hf R p (KM.stays R p) p.length
  rw [← hst] at hord
  rw [← eL, ← eM] at hpil hord
  rw [← eL] at hbfs
  have hpl : M.length = p.length := by rw [eM, List.length_map]
  have hRl : R.length = L.length := by rw [← hR, List.length_range]
  rw [← hpl] at hord
  have hds : (KM.ordAt L M (KM.stays L M) M.length).2 = KM.mDs f (KM.order R p).2 := by
    rw [hord, hpl]
    rfl
  refine ⟨KM.fact L.length, (KM.order R p).2.length, ⟨?_, fun i x hi hx => ?_⟩, ⟨?_, ?_, ?_⟩, ?_, ?_, ?_⟩
  · rw [hpil]
    show KM.chainIt (KM.mAh f _) (KM.startOf (List.map (List.map f) _)) _ = none
    rw [KM.map_startOf, KM.map_chainIt hf, ← hRl, hce]
    rfl
  · rw [hpil] at hx ⊢
    have hx : KM.chainIt (KM.mAh f (KM.pilesOf R p).2) (KM.startOf (List.map (List.map f) (KM.pilesOf R p).1)) i = some x := hx
    rw [KM.map_startOf, KM.map_chainIt hf] at hx
    obtain ⟨y, hy, rfl⟩ := Option.map_eq_some_iff.mp hx
    have hk := List.all_eq_true.mp hc.2 i (List.mem_range.mpr (by omega))
    rw [hy] at hk
    obtain ⟨o, ho⟩ := Option.isSome_iff_exists.mp hk
    refine ⟨o.map f, ?_⟩
    show KM.lk (List.map (fun q => (f q.1, q.2.map f)) (KM.pilesOf R p).2) (f y) = _
    rw [KM.map_lk hf (Option.map f), ho]
    rfl
  · rw [hbfs]
    show List.map _ _ = []
    rw [List.isEmpty_iff.mp hs]
    rfl
  · rw [hbfs]
    show (List.map _ _).length ≤ 500
    rw [List.length_map]
    exact of_decide_eq_true hlen
  · rw [hbfs, eM]
    exact (KM.map_lkN (KM.inj_map hf) _ _).trans hlk
  · rw [hds]
    refine ok_of_G ?_ h8
    rw [eL, KM.map_okG hf]
    exact hr.1
  · rw [hds]
    unfold runM
    rw [eL, KM.map_run hf, hrun]
    exact eM.symm
  · rw [hds]
    unfold KM.mDs
    rw [List.length_map]
end KW
namespace KW
open PySem PySem.Spec PyProof.Rows L2
def df_mk {K : PySem.W.Frag} {h : Heap} {mg : Str → Option Value} (X : K.In h) (G : h.Ns mainGlobals mg) {x : Str} {st : Stmt} {ps : List Str} {f : Addr} {od an : Option Addr} {sl : Array (Option Value)} {oc kV dc pm cd ct : Value}
    (a : PySem.W.nsIn K mainGlobals x = some (some (.ref f))) (l : K.lookup f = some ⟨oc, od, .func (PySem.W.fnOf x x (defArgs st) (defBody st) (defScope st) .none kV dc pm an cd ct), sl⟩) (c : PySem.W.codeIn K cd x = true) (k : PySem.W.keepIn K (.ref f) = true)
    (hb : ∀ (kV doc pm : Value) (an : Option Addr) (cdv ct : Value) (us : List Value), us.length = ps.length → bindArgs (PySem.W.fnOf x x (defArgs st) (defBody st) (defScope st) .none kV doc pm an cdv ct) ⟨us, []⟩ = pure (ps.zip us)) : Df K mg x st ps :=
  have F := fun_mk (st := st) l c k
  ⟨f, _, F, F.binds hb, PySem.W.mg_of X G a⟩
theorem all_mk {l : PySem.W.OpenLaw} {w : World} {K : PySem.W.Frag} {h : Heap} {mg : Str → Option Value} {fa : Addr} (X : K.In h) (G : h.Ns mainGlobals mg) (hfa : mg "law" = some (.ref fa))
    {f1 : Addr} {od1 an1 : Option Addr} {sl1 : Array (Option Value)} {oc1 kV1 dc1 pm1 cd1 ct1 : Value}
    (a1 : PySem.W.nsIn K mainGlobals "law" = some (some (.ref f1))) (l1 : K.lookup f1 = some ⟨oc1, od1, .func (PySem.W.fnOf "law" "law" (defArgs sLaw) (defBody sLaw) (defScope sLaw) .none kV1 dc1 pm1 an1 cd1 ct1), sl1⟩) (c1 : PySem.W.codeIn K cd1 "law" = true) (k1 : PySem.W.keepIn K (.ref f1) = true)
    {f2 : Addr} {od2 an2 : Option Addr} {sl2 : Array (Option Value)} {oc2 kV2 dc2 pm2 cd2 ct2 : Value}
    (a2 : PySem.W.nsIn K mainGlobals "place_of" = some (some (.ref f2))) (l2 : K.lookup f2 = some ⟨oc2, od2, .func (PySem.W.fnOf "place_of" "place_of" (defArgs sPlace) (defBody sPlace) (defScope sPlace) .none kV2 dc2 pm2 an2 cd2 ct2), sl2⟩) (c2 : PySem.W.codeIn K cd2 "place_of" = true) (k2 : PySem.W.keepIn K (.ref f2) = true)
    {f3 : Addr} {od3 an3 : Option Addr} {sl3 : Array (Option Value)} {oc3 kV3 dc3 pm3 cd3 ct3 : Value}
    (a3 : PySem.W.nsIn K mainGlobals "box_found" = some (some (.ref f3))) (l3 : K.lookup f3 = some ⟨oc3, od3, .func (PySem.W.fnOf "box_found" "box_found" (defArgs sBoxF) (defBody sBoxF) (defScope sBoxF) .none kV3 dc3 pm3 an3 cd3 ct3), sl3⟩) (c3 : PySem.W.codeIn K cd3 "box_found" = true) (k3 : PySem.W.keepIn K (.ref f3) = true)
    {f4 : Addr} {od4 an4 : Option Addr} {sl4 : Array (Option Value)} {oc4 kV4 dc4 pm4 cd4 ct4 : Value}
    (a4 : PySem.W.nsIn K mainGlobals "row_found" = some (some (.ref f4))) (l4 : K.lookup f4 = some ⟨oc4, od4, .func (PySem.W.fnOf "row_found" "row_found" (defArgs sRowF) (defBody sRowF) (defScope sRowF) .none kV4 dc4 pm4 an4 cd4 ct4), sl4⟩) (c4 : PySem.W.codeIn K cd4 "row_found" = true) (k4 : PySem.W.keepIn K (.ref f4) = true)
    {f5 : Addr} {od5 an5 : Option Addr} {sl5 : Array (Option Value)} {oc5 kV5 dc5 pm5 cd5 ct5 : Value}
    (a5 : PySem.W.nsIn K mainGlobals "with_box" = some (some (.ref f5))) (l5 : K.lookup f5 = some ⟨oc5, od5, .func (PySem.W.fnOf "with_box" "with_box" (defArgs sWithBox) (defBody sWithBox) (defScope sWithBox) .none kV5 dc5 pm5 an5 cd5 ct5), sl5⟩) (c5 : PySem.W.codeIn K cd5 "with_box" = true) (k5 : PySem.W.keepIn K (.ref f5) = true)
    {f6 : Addr} {od6 an6 : Option Addr} {sl6 : Array (Option Value)} {oc6 kV6 dc6 pm6 cd6 ct6 : Value}
    (a6 : PySem.W.nsIn K mainGlobals "with_row" = some (some (.ref f6))) (l6 : K.lookup f6 = some ⟨oc6, od6, .func (PySem.W.fnOf "with_row" "with_row" (defArgs sWithRow) (defBody sWithRow) (defScope sWithRow) .none kV6 dc6 pm6 an6 cd6 ct6), sl6⟩) (c6 : PySem.W.codeIn K cd6 "with_row" = true) (k6 : PySem.W.keepIn K (.ref f6) = true)
    {f7 : Addr} {od7 an7 : Option Addr} {sl7 : Array (Option Value)} {oc7 kV7 dc7 pm7 cd7 ct7 : Value}
    (a7 : PySem.W.nsIn K mainGlobals "turned_row" = some (some (.ref f7))) (l7 : K.lookup f7 = some ⟨oc7, od7, .func (PySem.W.fnOf "turned_row" "turned_row" (defArgs sTurnRow) (defBody sTurnRow) (defScope sTurnRow) .none kV7 dc7 pm7 an7 cd7 ct7), sl7⟩) (c7 : PySem.W.codeIn K cd7 "turned_row" = true) (k7 : PySem.W.keepIn K (.ref f7) = true)
    {f8 : Addr} {od8 an8 : Option Addr} {sl8 : Array (Option Value)} {oc8 kV8 dc8 pm8 cd8 ct8 : Value}
    (a8 : PySem.W.nsIn K mainGlobals "turned" = some (some (.ref f8))) (l8 : K.lookup f8 = some ⟨oc8, od8, .func (PySem.W.fnOf "turned" "turned" (defArgs sTurned) (defBody sTurned) (defScope sTurned) .none kV8 dc8 pm8 an8 cd8 ct8), sl8⟩) (c8 : PySem.W.codeIn K cd8 "turned" = true) (k8 : PySem.W.keepIn K (.ref f8) = true)
    {f9 : Addr} {od9 an9 : Option Addr} {sl9 : Array (Option Value)} {oc9 kV9 dc9 pm9 cd9 ct9 : Value}
    (a9 : PySem.W.nsIn K mainGlobals "led" = some (some (.ref f9))) (l9 : K.lookup f9 = some ⟨oc9, od9, .func (PySem.W.fnOf "led" "led" (defArgs sLed) (defBody sLed) (defScope sLed) .none kV9 dc9 pm9 an9 cd9 ct9), sl9⟩) (c9 : PySem.W.codeIn K cd9 "led" = true) (k9 : PySem.W.keepIn K (.ref f9) = true)
    {f10 : Addr} {od10 an10 : Option Addr} {sl10 : Array (Option Value)} {oc10 kV10 dc10 pm10 cd10 ct10 : Value}
    (a10 : PySem.W.nsIn K mainGlobals "places_in" = some (some (.ref f10))) (l10 : K.lookup f10 = some ⟨oc10, od10, .func (PySem.W.fnOf "places_in" "places_in" (defArgs sPlaces) (defBody sPlaces) (defScope sPlaces) .none kV10 dc10 pm10 an10 cd10 ct10), sl10⟩) (c10 : PySem.W.codeIn K cd10 "places_in" = true) (k10 : PySem.W.keepIn K (.ref f10) = true)
    {f11 : Addr} {od11 an11 : Option Addr} {sl11 : Array (Option Value)} {oc11 kV11 dc11 pm11 cd11 ct11 : Value}
    (a11 : PySem.W.nsIn K mainGlobals "piles_of" = some (some (.ref f11))) (l11 : K.lookup f11 = some ⟨oc11, od11, .func (PySem.W.fnOf "piles_of" "piles_of" (defArgs sPiles) (defBody sPiles) (defScope sPiles) .none kV11 dc11 pm11 an11 cd11 ct11), sl11⟩) (c11 : PySem.W.codeIn K cd11 "piles_of" = true) (k11 : PySem.W.keepIn K (.ref f11) = true)
    {f12 : Addr} {od12 an12 : Option Addr} {sl12 : Array (Option Value)} {oc12 kV12 dc12 pm12 cd12 ct12 : Value}
    (a12 : PySem.W.nsIn K mainGlobals "row_paper" = some (some (.ref f12))) (l12 : K.lookup f12 = some ⟨oc12, od12, .func (PySem.W.fnOf "row_paper" "row_paper" (defArgs sRowP) (defBody sRowP) (defScope sRowP) .none kV12 dc12 pm12 an12 cd12 ct12), sl12⟩) (c12 : PySem.W.codeIn K cd12 "row_paper" = true) (k12 : PySem.W.keepIn K (.ref f12) = true)
    {f13 : Addr} {od13 an13 : Option Addr} {sl13 : Array (Option Value)} {oc13 kV13 dc13 pm13 cd13 ct13 : Value}
    (a13 : PySem.W.nsIn K mainGlobals "is_kept" = some (some (.ref f13))) (l13 : K.lookup f13 = some ⟨oc13, od13, .func (PySem.W.fnOf "is_kept" "is_kept" (defArgs sIsKept) (defBody sIsKept) (defScope sIsKept) .none kV13 dc13 pm13 an13 cd13 ct13), sl13⟩) (c13 : PySem.W.codeIn K cd13 "is_kept" = true) (k13 : PySem.W.keepIn K (.ref f13) = true)
    {f14 : Addr} {od14 an14 : Option Addr} {sl14 : Array (Option Value)} {oc14 kV14 dc14 pm14 cd14 ct14 : Value}
    (a14 : PySem.W.nsIn K mainGlobals "kept_labels" = some (some (.ref f14))) (l14 : K.lookup f14 = some ⟨oc14, od14, .func (PySem.W.fnOf "kept_labels" "kept_labels" (defArgs sKeptL) (defBody sKeptL) (defScope sKeptL) .none kV14 dc14 pm14 an14 cd14 ct14), sl14⟩) (c14 : PySem.W.codeIn K cd14 "kept_labels" = true) (k14 : PySem.W.keepIn K (.ref f14) = true)
    {f15 : Addr} {od15 an15 : Option Addr} {sl15 : Array (Option Value)} {oc15 kV15 dc15 pm15 cd15 ct15 : Value}
    (a15 : PySem.W.nsIn K mainGlobals "box_deeds" = some (some (.ref f15))) (l15 : K.lookup f15 = some ⟨oc15, od15, .func (PySem.W.fnOf "box_deeds" "box_deeds" (defArgs sBoxD) (defBody sBoxD) (defScope sBoxD) .none kV15 dc15 pm15 an15 cd15 ct15), sl15⟩) (c15 : PySem.W.codeIn K cd15 "box_deeds" = true) (k15 : PySem.W.keepIn K (.ref f15) = true)
    {f16 : Addr} {od16 an16 : Option Addr} {sl16 : Array (Option Value)} {oc16 kV16 dc16 pm16 cd16 ct16 : Value}
    (a16 : PySem.W.nsIn K mainGlobals "place_behind" = some (some (.ref f16))) (l16 : K.lookup f16 = some ⟨oc16, od16, .func (PySem.W.fnOf "place_behind" "place_behind" (defArgs sPlaceB) (defBody sPlaceB) (defScope sPlaceB) .none kV16 dc16 pm16 an16 cd16 ct16), sl16⟩) (c16 : PySem.W.codeIn K cd16 "place_behind" = true) (k16 : PySem.W.keepIn K (.ref f16) = true)
    {f17 : Addr} {od17 an17 : Option Addr} {sl17 : Array (Option Value)} {oc17 kV17 dc17 pm17 cd17 ct17 : Value}
    (a17 : PySem.W.nsIn K mainGlobals "order_deeds" = some (some (.ref f17))) (l17 : K.lookup f17 = some ⟨oc17, od17, .func (PySem.W.fnOf "order_deeds" "order_deeds" (defArgs sOrder) (defBody sOrder) (defScope sOrder) .none kV17 dc17 pm17 an17 cd17 ct17), sl17⟩) (c17 : PySem.W.codeIn K cd17 "order_deeds" = true) (k17 : PySem.W.keepIn K (.ref f17) = true)
    {f18 : Addr} {od18 an18 : Option Addr} {sl18 : Array (Option Value)} {oc18 kV18 dc18 pm18 cd18 ct18 : Value}
    (a18 : PySem.W.nsIn K mainGlobals "row_deeds" = some (some (.ref f18))) (l18 : K.lookup f18 = some ⟨oc18, od18, .func (PySem.W.fnOf "row_deeds" "row_deeds" (defArgs sRowD) (defBody sRowD) (defScope sRowD) .none kV18 dc18 pm18 an18 cd18 ct18), sl18⟩) (c18 : PySem.W.codeIn K cd18 "row_deeds" = true) (k18 : PySem.W.keepIn K (.ref f18) = true)
    {f19 : Addr} {od19 an19 : Option Addr} {sl19 : Array (Option Value)} {oc19 kV19 dc19 pm19 cd19 ct19 : Value}
    (a19 : PySem.W.nsIn K mainGlobals "paper_of" = some (some (.ref f19))) (l19 : K.lookup f19 = some ⟨oc19, od19, .func (PySem.W.fnOf "paper_of" "paper_of" (defArgs sPaper) (defBody sPaper) (defScope sPaper) .none kV19 dc19 pm19 an19 cd19 ct19), sl19⟩) (c19 : PySem.W.codeIn K cd19 "paper_of" = true) (k19 : PySem.W.keepIn K (.ref f19) = true)
    {f20 : Addr} {od20 an20 : Option Addr} {sl20 : Array (Option Value)} {oc20 kV20 dc20 pm20 cd20 ct20 : Value}
    (a20 : PySem.W.nsIn K mainGlobals "_law_tape" = some (some (.ref f20))) (l20 : K.lookup f20 = some ⟨oc20, od20, .func (PySem.W.fnOf "_law_tape" "_law_tape" (defArgs sTape) (defBody sTape) (defScope sTape) .none kV20 dc20 pm20 an20 cd20 ct20), sl20⟩) (c20 : PySem.W.codeIn K cd20 "_law_tape" = true) (k20 : PySem.W.keepIn K (.ref f20) = true)
    {f21 : Addr} {od21 an21 : Option Addr} {sl21 : Array (Option Value)} {oc21 kV21 dc21 pm21 cd21 ct21 : Value}
    (a21 : PySem.W.nsIn K mainGlobals "_law_draw" = some (some (.ref f21))) (l21 : K.lookup f21 = some ⟨oc21, od21, .func (PySem.W.fnOf "_law_draw" "_law_draw" (defArgs sDraw) (defBody sDraw) (defScope sDraw) .none kV21 dc21 pm21 an21 cd21 ct21), sl21⟩) (c21 : PySem.W.codeIn K cd21 "_law_draw" = true) (k21 : PySem.W.keepIn K (.ref f21) = true)
    {f22 : Addr} {od22 an22 : Option Addr} {sl22 : Array (Option Value)} {oc22 kV22 dc22 pm22 cd22 ct22 : Value}
    (a22 : PySem.W.nsIn K mainGlobals "_law_number" = some (some (.ref f22))) (l22 : K.lookup f22 = some ⟨oc22, od22, .func (PySem.W.fnOf "_law_number" "_law_number" (defArgs sNumber) (defBody sNumber) (defScope sNumber) .none kV22 dc22 pm22 an22 cd22 ct22), sl22⟩) (c22 : PySem.W.codeIn K cd22 "_law_number" = true) (k22 : PySem.W.keepIn K (.ref f22) = true)
    {f23 : Addr} {od23 an23 : Option Addr} {sl23 : Array (Option Value)} {oc23 kV23 dc23 pm23 cd23 ct23 : Value}
    (a23 : PySem.W.nsIn K mainGlobals "_law_spot" = some (some (.ref f23))) (l23 : K.lookup f23 = some ⟨oc23, od23, .func (PySem.W.fnOf "_law_spot" "_law_spot" (defArgs sSpot) (defBody sSpot) (defScope sSpot) .none kV23 dc23 pm23 an23 cd23 ct23), sl23⟩) (c23 : PySem.W.codeIn K cd23 "_law_spot" = true) (k23 : PySem.W.keepIn K (.ref f23) = true)
    {f24 : Addr} {od24 an24 : Option Addr} {sl24 : Array (Option Value)} {oc24 kV24 dc24 pm24 cd24 ct24 : Value}
    (a24 : PySem.W.nsIn K mainGlobals "_law_label" = some (some (.ref f24))) (l24 : K.lookup f24 = some ⟨oc24, od24, .func (PySem.W.fnOf "_law_label" "_law_label" (defArgs sLabel) (defBody sLabel) (defScope sLabel) .none kV24 dc24 pm24 an24 cd24 ct24), sl24⟩) (c24 : PySem.W.codeIn K cd24 "_law_label" = true) (k24 : PySem.W.keepIn K (.ref f24) = true)
    {f25 : Addr} {od25 an25 : Option Addr} {sl25 : Array (Option Value)} {oc25 kV25 dc25 pm25 cd25 ct25 : Value}
    (a25 : PySem.W.nsIn K mainGlobals "_law_labels" = some (some (.ref f25))) (l25 : K.lookup f25 = some ⟨oc25, od25, .func (PySem.W.fnOf "_law_labels" "_law_labels" (defArgs sLabels) (defBody sLabels) (defScope sLabels) .none kV25 dc25 pm25 an25 cd25 ct25), sl25⟩) (c25 : PySem.W.codeIn K cd25 "_law_labels" = true) (k25 : PySem.W.keepIn K (.ref f25) = true)
    {f26 : Addr} {od26 an26 : Option Addr} {sl26 : Array (Option Value)} {oc26 kV26 dc26 pm26 cd26 ct26 : Value}
    (a26 : PySem.W.nsIn K mainGlobals "_law_shuffled" = some (some (.ref f26))) (l26 : K.lookup f26 = some ⟨oc26, od26, .func (PySem.W.fnOf "_law_shuffled" "_law_shuffled" (defArgs sShuf) (defBody sShuf) (defScope sShuf) .none kV26 dc26 pm26 an26 cd26 ct26), sl26⟩) (c26 : PySem.W.codeIn K cd26 "_law_shuffled" = true) (k26 : PySem.W.keepIn K (.ref f26) = true)
    {f27 : Addr} {od27 an27 : Option Addr} {sl27 : Array (Option Value)} {oc27 kV27 dc27 pm27 cd27 ct27 : Value}
    (a27 : PySem.W.nsIn K mainGlobals "_law_moved" = some (some (.ref f27))) (l27 : K.lookup f27 = some ⟨oc27, od27, .func (PySem.W.fnOf "_law_moved" "_law_moved" (defArgs sMoved) (defBody sMoved) (defScope sMoved) .none kV27 dc27 pm27 an27 cd27 ct27), sl27⟩) (c27 : PySem.W.codeIn K cd27 "_law_moved" = true) (k27 : PySem.W.keepIn K (.ref f27) = true)
    {f28 : Addr} {od28 an28 : Option Addr} {sl28 : Array (Option Value)} {oc28 kV28 dc28 pm28 cd28 ct28 : Value}
    (a28 : PySem.W.nsIn K mainGlobals "_law_fewest" = some (some (.ref f28))) (l28 : K.lookup f28 = some ⟨oc28, od28, .func (PySem.W.fnOf "_law_fewest" "_law_fewest" (defArgs sFewest) (defBody sFewest) (defScope sFewest) .none kV28 dc28 pm28 an28 cd28 ct28), sl28⟩) (c28 : PySem.W.codeIn K cd28 "_law_fewest" = true) (k28 : PySem.W.keepIn K (.ref f28) = true)
    (z1 : PySem.W.nsIn K mainGlobals "len" = some none)
    (z2 : PySem.W.nsIn K mainGlobals "range" = some none)
    (z3 : PySem.W.nsIn K mainGlobals "tuple" = some none)
    (z4 : PySem.W.nsIn K mainGlobals "dict" = some none)
    (z5 : PySem.W.nsIn K mainGlobals "list" = some none)
    (z6 : PySem.W.nsIn K mainGlobals "int" = some none)
    (z7 : PySem.W.nsIn K mainGlobals "min" = some none)
    (z8 : PySem.W.nsIn K mainGlobals "abs" = some none)
    (z9 : PySem.W.nsIn K mainGlobals "all" = some none)
    : ∃ fd : FuncData, (∀ (s : Shared) (v : Value), BindsTo s fd ⟨[v], []⟩ [("_law_script", v)]) ∧ ∀ base : Heap, K.In base → base.Ns mainGlobals mg → FnOk l.prog w K mg base CX0 10 fa fd ["_law_script"] (spLaw K) := by
  have e := hfa.symm.trans (PySem.W.mg_of X G a1)
  cases e
  have D2 : Df K mg "place_of" sPlace ["row", "label"] := df_mk X G a2 l2 c2 k2 fun _ _ _ _ _ _ us hl => match us, hl with | [_, _], _ => rfl
  have D3 : Df K mg "box_found" sBoxF ["tree", "address"] := df_mk X G a3 l3 c3 k3 fun _ _ _ _ _ _ us hl => match us, hl with | [_, _], _ => rfl
  have D4 : Df K mg "row_found" sRowF ["tree", "address"] := df_mk X G a4 l4 c4 k4 fun _ _ _ _ _ _ us hl => match us, hl with | [_, _], _ => rfl
  have D5 : Df K mg "with_box" sWithBox ["row", "address", "box"] := df_mk X G a5 l5 c5 k5 fun _ _ _ _ _ _ us hl => match us, hl with | [_, _, _], _ => rfl
  have D6 : Df K mg "with_row" sWithRow ["tree", "address", "row"] := df_mk X G a6 l6 c6 k6 fun _ _ _ _ _ _ us hl => match us, hl with | [_, _, _], _ => rfl
  have D7 : Df K mg "turned_row" sTurnRow ["row", "deed"] := df_mk X G a7 l7 c7 k7 fun _ _ _ _ _ _ us hl => match us, hl with | [_, _], _ => rfl
  have D8 : Df K mg "turned" sTurned ["tree", "deed"] := df_mk X G a8 l8 c8 k8 fun _ _ _ _ _ _ us hl => match us, hl with | [_, _], _ => rfl
  have D9 : Df K mg "led" sLed ["tree", "deeds"] := df_mk X G a9 l9 c9 k9 fun _ _ _ _ _ _ us hl => match us, hl with | [_, _], _ => rfl
  have D10 : Df K mg "places_in" sPlaces ["row"] := df_mk X G a10 l10 c10 k10 fun _ _ _ _ _ _ us hl => match us, hl with | [_], _ => rfl
  have D11 : Df K mg "piles_of" sPiles ["old", "new"] := df_mk X G a11 l11 c11 k11 fun _ _ _ _ _ _ us hl => match us, hl with | [_, _], _ => rfl
  have D12 : Df K mg "row_paper" sRowP ["old", "new"] := df_mk X G a12 l12 c12 k12 fun _ _ _ _ _ _ us hl => match us, hl with | [_, _], _ => rfl
  have D13 : Df K mg "is_kept" sIsKept ["old", "new", "label"] := df_mk X G a13 l13 c13 k13 fun _ _ _ _ _ _ us hl => match us, hl with | [_, _, _], _ => rfl
  have D14 : Df K mg "kept_labels" sKeptL ["row", "old", "new"] := df_mk X G a14 l14 c14 k14 fun _ _ _ _ _ _ us hl => match us, hl with | [_, _, _], _ => rfl
  have D15 : Df K mg "box_deeds" sBoxD ["deeds", "address", "old", "new"] := df_mk X G a15 l15 c15 k15 fun _ _ _ _ _ _ us hl => match us, hl with | [_, _, _, _], _ => rfl
  have D16 : Df K mg "place_behind" sPlaceB ["now", "new", "k"] := df_mk X G a16 l16 c16 k16 fun _ _ _ _ _ _ us hl => match us, hl with | [_, _, _], _ => rfl
  have D17 : Df K mg "order_deeds" sOrder ["deeds", "address", "old", "new", "stays"] := df_mk X G a17 l17 c17 k17 fun _ _ _ _ _ _ us hl => match us, hl with | [_, _, _, _, _], _ => rfl
  have D18 : Df K mg "row_deeds" sRowD ["deeds", "rows", "address", "old", "new"] := df_mk X G a18 l18 c18 k18 fun _ _ _ _ _ _ us hl => match us, hl with | [_, _, _, _, _], _ => rfl
  have D19 : Df K mg "paper_of" sPaper ["old", "new"] := df_mk X G a19 l19 c19 k19 fun _ _ _ _ _ _ us hl => match us, hl with | [_, _], _ => rfl
  have D20 : Df K mg "_law_tape" sTape ["_law_script"] := df_mk X G a20 l20 c20 k20 fun _ _ _ _ _ _ us hl => match us, hl with | [_], _ => rfl
  have D21 : Df K mg "_law_draw" sDraw ["_law_tape_here", "_law_many"] := df_mk X G a21 l21 c21 k21 fun _ _ _ _ _ _ us hl => match us, hl with | [_, _], _ => rfl
  have D22 : Df K mg "_law_number" sNumber ["_law_tape_here"] := df_mk X G a22 l22 c22 k22 fun _ _ _ _ _ _ us hl => match us, hl with | [_], _ => rfl
  have D23 : Df K mg "_law_spot" sSpot ["_law_tape_here"] := df_mk X G a23 l23 c23 k23 fun _ _ _ _ _ _ us hl => match us, hl with | [_], _ => rfl
  have D24 : Df K mg "_law_label" sLabel ["_law_tape_here"] := df_mk X G a24 l24 c24 k24 fun _ _ _ _ _ _ us hl => match us, hl with | [_], _ => rfl
  have D25 : Df K mg "_law_labels" sLabels ["_law_tape_here", "_law_many"] := df_mk X G a25 l25 c25 k25 fun _ _ _ _ _ _ us hl => match us, hl with | [_, _], _ => rfl
  have D26 : Df K mg "_law_shuffled" sShuf ["_law_tape_here", "_law_labels_here"] := df_mk X G a26 l26 c26 k26 fun _ _ _ _ _ _ us hl => match us, hl with | [_, _], _ => rfl
  have D27 : Df K mg "_law_moved" sMoved ["_law_row"] := df_mk X G a27 l27 c27 k27 fun _ _ _ _ _ _ us hl => match us, hl with | [_], _ => rfl
  have D28 : Df K mg "_law_fewest" sFewest ["_law_old", "_law_new"] := df_mk X G a28 l28 c28 k28 fun _ _ _ _ _ _ us hl => match us, hl with | [_, _], _ => rfl
  have F1 := fun_mk (st := sLaw) l1 c1 k1
  have b1 := F1.binds (ps := ["_law_script"]) fun _ _ _ _ _ _ us hl => match us, hl with | [_], _ => rfl
  have B : Bl mg := ⟨PySem.W.mg_none_of X G z1, PySem.W.mg_none_of X G z2, PySem.W.mg_none_of X G z3, PySem.W.mg_none_of X G z4, PySem.W.mg_none_of X G z5, PySem.W.mg_none_of X G z6, PySem.W.mg_none_of X G z7, PySem.W.mg_none_of X G z8, PySem.W.mg_none_of X G z9⟩
  exact ⟨PySem.W.fnOf "law" "law" (defArgs sLaw) (defBody sLaw) (defScope sLaw) .none kV1 dc1 pm1 an1 cd1 ct1, fun s v => .of_eq rfl, fun base _ _ => ok_law row_math ⟨fa, _, F1, b1, PySem.W.mg_of X G a1⟩ B D20 D21 D22 D23 D24 D25 D26 D27 D28 D2 D3 D4 D5 D6 D7 D8 D9 D10 D11 D12 D13 D14 D15 D16 D17 D18 D19⟩
end KW
open PySem PySem.W PyProof.Rows
set_option maxRecDepth 100000 in
set_option maxHeartbeats 0 in
theorem PySem.Challenge.cw_viewwood_k48_whole_fewest_moves_gone_thr_holds : PySem.Challenge.rw_viewwood_k48_whole_fewest_moves_gone_thr.Holds := by
  w_on; o_law; k_head; (case hw => w_witness2)
  k_fill
  refine L2.walk_of (l := PySem.Challenge.rw_viewwood_k48_whole_fewest_moves_gone_thr) (n := 63) (k := 10) (x := "_law_script") (CX := fun _ => L2.CX0) (sp := fun w => KW.spLaw _) rfl (by decide) rfl ⟨rfl, by decide, by decide⟩ (fun w h Y => PySem.W.kIn_of Y) ?F (fun _ _ a ns hl _ hS => ⟨a, ns, rfl, hS, hl, fun _ => rfl⟩) (fun _ _ _ _ _ h => h)
  case F =>
    intro w mg fa h KX G hmg
    refine' KW.all_mk KX G hmg ?a1 ?l1 ?c1 ?k1 ?a2 ?l2 ?c2 ?k2 ?a3 ?l3 ?c3 ?k3 ?a4 ?l4 ?c4 ?k4 ?a5 ?l5 ?c5 ?k5 ?a6 ?l6 ?c6 ?k6 ?a7 ?l7 ?c7 ?k7 ?a8 ?l8 ?c8 ?k8 ?a9 ?l9 ?c9 ?k9 ?a10 ?l10 ?c10 ?k10 ?a11 ?l11 ?c11 ?k11 ?a12 ?l12 ?c12 ?k12 ?a13 ?l13 ?c13 ?k13 ?a14 ?l14 ?c14 ?k14 ?a15 ?l15 ?c15 ?k15 ?a16 ?l16 ?c16 ?k16 ?a17 ?l17 ?c17 ?k17 ?a18 ?l18 ?c18 ?k18 ?a19 ?l19 ?c19 ?k19 ?a20 ?l20 ?c20 ?k20 ?a21 ?l21 ?c21 ?k21 ?a22 ?l22 ?c22 ?k22 ?a23 ?l23 ?c23 ?k23 ?a24 ?l24 ?c24 ?k24 ?a25 ?l25 ?c25 ?k25 ?a26 ?l26 ?c26 ?k26 ?a27 ?l27 ?c27 ?k27 ?a28 ?l28 ?c28 ?k28 ?z1 ?z2 ?z3 ?z4 ?z5 ?z6 ?z7 ?z8 ?z9
    (case a1 => k_is); (case l1 => k_is); (case c1 => k_is); (case k1 => k_is)
    (case a2 => k_is); (case l2 => k_is); (case c2 => k_is); (case k2 => k_is)
    (case a3 => k_is); (case l3 => k_is); (case c3 => k_is); (case k3 => k_is)
    (case a4 => k_is); (case l4 => k_is); (case c4 => k_is); (case k4 => k_is)
    (case a5 => k_is); (case l5 => k_is); (case c5 => k_is); (case k5 => k_is)
    (case a6 => k_is); (case l6 => k_is); (case c6 => k_is); (case k6 => k_is)
    (case a7 => k_is); (case l7 => k_is); (case c7 => k_is); (case k7 => k_is)
    (case a8 => k_is); (case l8 => k_is); (case c8 => k_is); (case k8 => k_is)
    (case a9 => k_is); (case l9 => k_is); (case c9 => k_is); (case k9 => k_is)
    (case a10 => k_is); (case l10 => k_is); (case c10 => k_is); (case k10 => k_is)
    (case a11 => k_is); (case l11 => k_is); (case c11 => k_is); (case k11 => k_is)
    (case a12 => k_is); (case l12 => k_is); (case c12 => k_is); (case k12 => k_is)
    (case a13 => k_is); (case l13 => k_is); (case c13 => k_is); (case k13 => k_is)
    (case a14 => k_is); (case l14 => k_is); (case c14 => k_is); (case k14 => k_is)
    (case a15 => k_is); (case l15 => k_is); (case c15 => k_is); (case k15 => k_is)
    (case a16 => k_is); (case l16 => k_is); (case c16 => k_is); (case k16 => k_is)
    (case a17 => k_is); (case l17 => k_is); (case c17 => k_is); (case k17 => k_is)
    (case a18 => k_is); (case l18 => k_is); (case c18 => k_is); (case k18 => k_is)
    (case a19 => k_is); (case l19 => k_is); (case c19 => k_is); (case k19 => k_is)
    (case a20 => k_is); (case l20 => k_is); (case c20 => k_is); (case k20 => k_is)
    (case a21 => k_is); (case l21 => k_is); (case c21 => k_is); (case k21 => k_is)
    (case a22 => k_is); (case l22 => k_is); (case c22 => k_is); (case k22 => k_is)
    (case a23 => k_is); (case l23 => k_is); (case c23 => k_is); (case k23 => k_is)
    (case a24 => k_is); (case l24 => k_is); (case c24 => k_is); (case k24 => k_is)
    (case a25 => k_is); (case l25 => k_is); (case c25 => k_is); (case k25 => k_is)
    (case a26 => k_is); (case l26 => k_is); (case c26 => k_is); (case k26 => k_is)
    (case a27 => k_is); (case l27 => k_is); (case c27 => k_is); (case k27 => k_is)
    (case a28 => k_is); (case l28 => k_is); (case c28 => k_is); (case k28 => k_is)
    (case z1 => k_is); (case z2 => k_is); (case z3 => k_is); (case z4 => k_is)
    (case z5 => k_is); (case z6 => k_is); (case z7 => k_is); (case z8 => k_is)
    (case z9 => k_is)
