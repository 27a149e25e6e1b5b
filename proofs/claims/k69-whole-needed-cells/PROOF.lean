import PyProof.Rows.All
import Wide.All
import OpenK.AllK
import Wide.FinOn
import HandS.ForMost
import HandS.IsInst
import HandS.Flt
import HandS.ReCall
import KE.KDictKeyed
import KE.KeyNested
import KE.KDictLaw
import KE.SortData
import PySem.Challenge.RW_stow_k69_whole_needed_cells
set_option Elab.async false
set_option linter.all false
set_option maxRecDepth 100000
set_option maxHeartbeats 4000000
namespace SM
/-! the plain mirror: no program in sight -/
/-- a layout: its pieces (at, long) -/
abbrev Layt := List (Nat × Nat)
/-- pairs in Python's order -/
def pLe (p q : Nat × Nat) : Bool := if p.1 = q.1 then Nat.ble p.2 q.2 else Nat.ble p.1 q.1
def lLe : Layt → Layt → Bool
  | [], _ => true
  | _ :: _, [] => false
  | p :: L, q :: M => if p = q then lLe L M else pLe p q
section
variable {α : Type} (le : α → α → Bool)
def ins (x : α) : List α → List α
  | [] => [x]
  | y :: l => if le x y = true then x :: y :: l else y :: ins x l
def isort : List α → List α
  | [] => []
  | x :: l => ins le x (isort l)
end
def liveM (L : Layt) : Nat := (L.map (·.2)).sum
def layRow (t : List Bool) (p : Nat × Nat) : List Bool := (List.range p.2).foldl (fun t k => t.set (p.1 + k) true) t
def takenM (cells : Nat) (L : Layt) : List Bool := L.foldl layRow (List.replicate cells false)
def runM (taken : List Bool) (a run : Nat) : Nat := if taken.getD a false = true then 0 else run + 1
def freeStep (size : Nat) (taken : List Bool) (st : List Nat × Nat) (a : Nat) : List Nat × Nat :=
  (if size ≤ runM taken a st.2 then st.1 ++ [a + 1 - size] else st.1, runM taken a st.2)
def freeM (cells : Nat) (L : Layt) (size : Nat) : List Nat := ((List.range cells).foldl (freeStep size (takenM cells L)) ([], 0)).1
def withM (L : Layt) (a l : Nat) : Layt := isort pLe (L ++ [(a, l)])
def withoutM (L : Layt) (a : Nat) : Layt := L.filter fun p => !decide (p.1 = a)
def endM (L : Layt) : Nat := match L.getLast? with | some p => p.1 + p.2 | none => 0
def leftM (cells most top a : Nat) (L : Layt) : Nat := min (min top (cells - a)) (most - liveM L)
def growM (cells most top a : Nat) (L : Layt) : List Layt := if a < endM L then [] else (List.range (leftM cells most top a L)).map fun k => withM L a (k + 1)
def addM (cells most top : Nat) (found : List Layt) (a : Nat) : List Layt := found ++ found.flatMap (growM cells most top a)
def foundM (cells most top : Nat) : List Layt := (List.range cells).foldl (addM cells most top) [[]]
def allM (cells most top : Nat) : List Layt := isort lLe (foundM cells most top)
def askM (L : Layt) (most top : Nat) : Nat := min top (most - liveM L)
/-- a deed: (true, at): give; (false, size): ask -/
abbrev Deed := Bool × Nat
abbrev Lost := List (Layt × (Nat × Deed))
def look {β : Type} (d : List (Layt × β)) (L : Layt) : Option β := match d with
  | [] => none
  | p :: r => if p.1 = L then some p.2 else look r L
def placeM (cells : Nat) (L : Layt) (size : Nat) (lost : Lost) : Option Nat := (freeM cells L size).find? fun a => (look lost (withM L a size)).isNone
def deedM (cells : Nat) (L : Layt) (greatest : Nat) (lost : Lost) : Option Deed :=
  match L.find? fun p => (look lost (withoutM L p.1)).isSome with
  | some p => some (true, p.1)
  | none => match (List.range greatest).find? fun k => (placeM cells L (k + 1) lost).isNone with
    | some k => some (false, k + 1)
    | none => none
def fallenM (cells most top rank : Nat) (lost : Lost) (left : List Layt) : Lost := left.filterMap fun L => (deedM cells L (askM L most top) lost).map fun d => (L, (rank, d))
def restM (cells most top : Nat) (lost : Lost) (left : List Layt) : List Layt := left.filter fun L => (deedM cells L (askM L most top) lost).isNone
def foeLoop (cells most top : Nat) : Nat → Nat → Lost → List Layt → Lost
  | 0, _, lost, _ => lost
  | n + 1, rank, lost, left => match fallenM cells most top rank lost left with
    | [] => lost
    | p :: f => foeLoop cells most top n (rank + 1) ((p :: f) ++ lost) (restM cells most top lost left)
def foeM (cells most top : Nat) : Lost := foeLoop cells most top ((allM cells most top).length + 1) 0 [] (allM cells most top)

/-! the law's own functions -/
def liesM (cells : Nat) (L : Layt) (a size : Nat) : Bool := Nat.ble (a + size) cells && L.all fun p => !(Nat.blt a (p.1 + p.2) && Nat.blt p.1 (a + size))
def grownM (L : Layt) (a size : Nat) : Layt := (L.filter fun p => decide (p.1 < a)) ++ [(a, size)] ++ (L.filter fun p => decide (a < p.1))
def mayM (L : Layt) (most top : Nat) : List Deed := (L.map fun p => (true, p.1)) ++ (((List.range top).filter fun k => decide (liveM L + (k + 1) ≤ most)).map fun k => (false, k + 1))
def behindM (cells most top : Nat) (L : Layt) (d : Deed) : Option (List Layt) :=
  if d.1 = true then (if (L.map (·.1)).contains d.2 = true then some [withoutM L d.2] else none)
  else if d.2 < 1 ∨ top < d.2 ∨ most < liveM L + d.2 then none
  else some (((List.range cells).filter fun a => liesM cells L a d.2).map fun a => grownM L a d.2)
def placesM (cells most top : Nat) (lost : Lost) (L : Layt) : List (Option Nat) := (List.range top).map fun k => if k + 1 ≤ askM L most top then placeM cells L (k + 1) lost else none
def nextM (cells most top : Nat) (lost : Lost) (L : Layt) (d : Deed) : Option Layt :=
  if d.1 = true then some (withoutM L d.2)
  else match (placesM cells most top lost L).getD (d.2 - 1) none with
    | none => none
    | some a => if liesM cells L a d.2 = true then some (grownM L a d.2) else none
def safeM (all : List Layt) (lost : Lost) : List Layt := all.filter fun L => (look lost L).isNone
/-- the places of a safe layout's asks hold out for ever -/
def okHold (cells most top : Nat) : Bool :=
  let lost := foeM cells most top
  let safe := safeM (allM cells most top) lost
  safe.contains [] && safe.all fun L => (!(mayM L most top).isEmpty) && (mayM L most top).all fun d => match nextM cells most top lost L d with
    | some L' => safe.contains L'
    | none => false
/-- the rank falls -/
def okBeat (cells most top : Nat) : Bool :=
  let lost := foeM cells most top
  (look lost []).isSome && lost.all fun e => Nat.ble e.1.length 8 && Nat.ble e.2.1 200 && match behindM cells most top e.1 e.2.2 with
    | none => false
    | some Ls => Ls.all fun L' => match look lost L' with
      | none => false
      | some v => Nat.blt v.1 e.2.1
def needGo (most top : Nat) : Nat → Nat → Nat
  | 0, c => c
  | n + 1, c => if (look (foeM c most top) []).isSome = true then needGo most top n (c + 1) else c
def needM (most top : Nat) : Nat := needGo most top 6 most
def okNeed (most top : Nat) : Bool := Nat.ble most (needM most top) && Nat.ble (needM most top) 6 && (look (foeM (needM most top) most top) []).isNone &&
  (List.range (needM most top - most)).all fun k => (look (foeM (most + k) most top) []).isSome
/-- what the walks ask of all layouts -/
def okAll (cells most top : Nat) : Bool := Nat.ble (foundM cells most top).length 200 && (foundM cells most top).all fun L => Nat.ble L.length 8 && Nat.ble (liveM L) most && L.all fun p => Nat.ble (p.1 + p.2) cells && Nat.ble 1 p.2
set_option maxHeartbeats 0
theorem need_all : ∀ m ∈ [1, 2, 3, 4], ∀ t ∈ [1, 2, 3], okNeed m t = true := by decide +kernel
theorem hold_all : ∀ m ∈ [1, 2, 3, 4], ∀ t ∈ [1, 2, 3], okHold (needM m t) m t = true := by decide +kernel
theorem beat_all : ∀ m ∈ [1, 2, 3, 4], ∀ t ∈ [1, 2, 3], needM m t = 1 ∨ okBeat (needM m t - 1) m t = true := by decide +kernel
theorem all_all : ∀ c ∈ [1, 2, 3, 4, 5, 6], ∀ m ∈ [1, 2, 3, 4], ∀ t ∈ [1, 2, 3], okAll c m t = true := by decide +kernel
end SM
namespace SM
section
variable {α : Type} {le : α → α → Bool}
theorem ins_perm (x : α) : ∀ l : List α, (ins le x l).Perm (x :: l)
  | [] => List.Perm.refl _
  | y :: l => by
    unfold ins
    split
    · exact List.Perm.refl _
    · exact ((ins_perm x l).cons y).trans (List.Perm.swap x y l)
theorem isort_perm : ∀ l : List α, (isort le l).Perm l
  | [] => List.Perm.refl _
  | x :: l => (ins_perm x _).trans ((isort_perm l).cons x)
theorem ins_sorted (tr : ∀ a b c, le a b = true → le b c = true → le a c = true) (tot : ∀ a b, le a b = true ∨ le b a = true) (x : α) : ∀ l : List α, l.Pairwise (fun a b => le a b = true) → (ins le x l).Pairwise (fun a b => le a b = true)
  | [], _ => by simp [ins]
  | y :: l, h => by
    rw [List.pairwise_cons] at h
    unfold ins
    split
    · rename_i hxy
      refine List.pairwise_cons.mpr ⟨fun z hz => ?_, List.pairwise_cons.mpr h⟩
      rcases List.mem_cons.mp hz with e | hz
      · rw [e]; exact hxy
      · exact tr _ _ _ hxy (h.1 z hz)
    · rename_i hxy
      have hyx : le y x = true := (tot x y).resolve_left hxy
      refine List.pairwise_cons.mpr ⟨fun z hz => ?_, ins_sorted tr tot x l h.2⟩
      rcases List.mem_cons.mp ((ins_perm x l).mem_iff.mp hz) with e | hz
      · rw [e]; exact hyx
      · exact h.1 z hz
theorem isort_sorted (tr : ∀ a b c, le a b = true → le b c = true → le a c = true) (tot : ∀ a b, le a b = true ∨ le b a = true) : ∀ l : List α, (isort le l).Pairwise (fun a b => le a b = true)
  | [] => List.Pairwise.nil
  | x :: l => ins_sorted tr tot x _ (isort_sorted tr tot l)
theorem sorted_uniq (an : ∀ a b, le a b = true → le b a = true → a = b) : ∀ l m : List α, l.Pairwise (fun a b => le a b = true) → m.Pairwise (fun a b => le a b = true) → l.Perm m → l = m
  | [], m, _, _, p => (List.Perm.eq_nil p.symm).symm
  | x :: l, [], _, _, p => absurd p.length_eq (by simp)
  | x :: l, y :: m, hl, hm, p => by
    rw [List.pairwise_cons] at hl hm
    have e : x = y := by
      have hx := p.mem_iff.mp (List.mem_cons_self (a := x) (l := l))
      have hy := p.mem_iff.mpr (List.mem_cons_self (a := y) (l := m))
      rcases List.mem_cons.mp hx with e | hx
      · exact e
      rcases List.mem_cons.mp hy with e | hy
      · exact e.symm
      exact an _ _ (hl.1 y hy) (hm.1 x hx)
    subst e
    rw [sorted_uniq an l m hl.2 hm.2 p.cons_inv]
theorem sort_eq (tr : ∀ a b c, le a b = true → le b c = true → le a c = true) (tot : ∀ a b, le a b = true ∨ le b a = true) (an : ∀ a b, le a b = true → le b a = true → a = b) (l : List α) : l.mergeSort le = isort le l := by
  refine sorted_uniq an _ _ ?_ (isort_sorted tr tot l) ((List.mergeSort_perm l le).trans (isort_perm l).symm)
  exact List.pairwise_mergeSort tr (fun a b => by rw [Bool.or_eq_true]; exact tot a b) l
end
theorem pLe_iff (p q : Nat × Nat) : pLe p q = true ↔ p.1 < q.1 ∨ (p.1 = q.1 ∧ p.2 ≤ q.2) := by
  unfold pLe
  split
  · rename_i e
    rw [Nat.ble_eq]
    omega
  · rename_i e
    rw [Nat.ble_eq]
    omega
theorem pLe_tr (a b c : Nat × Nat) (h : pLe a b = true) (k : pLe b c = true) : pLe a c = true := by
  rw [pLe_iff] at *
  omega
theorem pLe_tot (a b : Nat × Nat) : pLe a b = true ∨ pLe b a = true := by
  rw [pLe_iff, pLe_iff]
  omega
theorem pLe_an (a b : Nat × Nat) (h : pLe a b = true) (k : pLe b a = true) : a = b := by
  rw [pLe_iff] at *
  obtain ⟨a1, a2⟩ := a
  obtain ⟨b1, b2⟩ := b
  simp only at h k
  rw [Prod.mk.injEq]
  omega
theorem lLe_cons (p q : Nat × Nat) (L M : Layt) : lLe (p :: L) (q :: M) = if p = q then lLe L M else pLe p q := by rw [lLe]
theorem lLe_tr : ∀ a b c : Layt, lLe a b = true → lLe b c = true → lLe a c = true
  | [], _, _, _, _ => by simp [lLe]
  | p :: a, [], _, h, _ => by simp [lLe] at h
  | p :: a, q :: b, [], _, k => by simp [lLe] at k
  | p :: a, q :: b, r :: c, h, k => by
    rw [lLe_cons] at *
    by_cases e1 : p = q
    · subst e1
      by_cases e2 : p = r
      · rw [if_pos e2] at k ⊢
        rw [if_pos rfl] at h
        exact lLe_tr a b c h k
      · rw [if_neg e2] at k ⊢
        exact k
    · rw [if_neg e1] at h
      by_cases e2 : q = r
      · subst e2
        rw [if_neg e1]
        exact h
      · rw [if_neg e2] at k
        have h3 := pLe_tr _ _ _ h k
        by_cases e3 : p = r
        · subst e3
          exact absurd (pLe_an _ _ h k) e1
        · rw [if_neg e3]
          exact h3
theorem lLe_tot : ∀ a b : Layt, lLe a b = true ∨ lLe b a = true
  | [], _ => .inl (by simp [lLe])
  | _ :: _, [] => .inr (by simp [lLe])
  | p :: a, q :: b => by
    rw [lLe_cons, lLe_cons]
    by_cases e : p = q
    · rw [if_pos e, if_pos e.symm]
      exact lLe_tot a b
    · rw [if_neg e, if_neg (fun z => e z.symm)]
      exact pLe_tot p q
theorem lLe_an : ∀ a b : Layt, lLe a b = true → lLe b a = true → a = b
  | [], [], _, _ => rfl
  | [], _ :: _, _, k => by simp [lLe] at k
  | _ :: _, [], h, _ => by simp [lLe] at h
  | p :: a, q :: b, h, k => by
    rw [lLe_cons] at h k
    by_cases e : p = q
    · subst e
      rw [if_pos rfl] at h k
      rw [lLe_an a b h k]
    · rw [if_neg e] at h
      rw [if_neg (fun z => e z.symm)] at k
      exact absurd (pLe_an _ _ h k) e
theorem pSort (l : List (Nat × Nat)) : l.mergeSort pLe = isort pLe l := sort_eq pLe_tr pLe_tot pLe_an l
theorem lSort (l : List Layt) : l.mergeSort lLe = isort lLe l := sort_eq lLe_tr lLe_tot lLe_an l
end SM
namespace SM
/-! ### lengths and stages -/
theorem layRow_len (t : List Bool) (p : Nat × Nat) : (layRow t p).length = t.length := by
  unfold layRow
  generalize p.2 = n
  induction n with
  | zero => rfl
  | succ n ih => rw [List.range_succ, List.foldl_append, List.foldl_cons, List.foldl_nil, List.length_set, ih]
theorem rows_len (L : Layt) : ∀ t : List Bool, (L.foldl layRow t).length = t.length := by
  induction L with
  | nil => intro t; rfl
  | cons p L ih => intro t; rw [List.foldl_cons, ih, layRow_len]
theorem taken_len (cells : Nat) (L : Layt) : (takenM cells L).length = cells := by
  unfold takenM
  rw [rows_len, List.length_replicate]
/-- the part of a row's laying -/
def rowTo (t : List Bool) (a k : Nat) : List Bool := (List.range k).foldl (fun t k => t.set (a + k) true) t
theorem rowTo_zero (t : List Bool) (a : Nat) : rowTo t a 0 = t := rfl
theorem rowTo_succ (t : List Bool) (a k : Nat) : rowTo t a (k + 1) = (rowTo t a k).set (a + k) true := by
  unfold rowTo
  rw [List.range_succ, List.foldl_append, List.foldl_cons, List.foldl_nil]
theorem rowTo_len (t : List Bool) (a k : Nat) : (rowTo t a k).length = t.length := by
  induction k with
  | zero => rfl
  | succ k ih => rw [rowTo_succ, List.length_set, ih]
theorem rowTo_all (t : List Bool) (p : Nat × Nat) : rowTo t p.1 p.2 = layRow t p := rfl
def freeTo (size : Nat) (taken : List Bool) (i : Nat) : List Nat × Nat := (List.range i).foldl (freeStep size taken) ([], 0)
theorem freeTo_succ (size : Nat) (taken : List Bool) (i : Nat) : freeTo size taken (i + 1) = freeStep size taken (freeTo size taken i) i := by
  unfold freeTo
  rw [List.range_succ, List.foldl_append, List.foldl_cons, List.foldl_nil]
theorem freeTo_le (size : Nat) (taken : List Bool) (i : Nat) : (freeTo size taken i).1.length ≤ i ∧ (freeTo size taken i).2 ≤ i := by
  induction i with
  | zero => exact ⟨Nat.le_refl _, Nat.le_refl _⟩
  | succ i ih =>
    rw [freeTo_succ]
    unfold freeStep runM
    refine ⟨?_, ?_⟩
    · dsimp only
      split
      · split
        · rw [List.length_append, List.length_singleton]; omega
        · omega
      · split
        · rw [List.length_append, List.length_singleton]; omega
        · omega
    · dsimp only
      split
      · omega
      · omega
def stage (cells most top i : Nat) : List Layt := (List.range i).foldl (addM cells most top) [[]]
theorem stage_succ (cells most top i : Nat) : stage cells most top (i + 1) = stage cells most top i ++ (stage cells most top i).flatMap (growM cells most top i) := by
  unfold stage
  rw [List.range_succ, List.foldl_append, List.foldl_cons, List.foldl_nil]
  rfl
theorem stage_mono (cells most top : Nat) {i j : Nat} (h : i ≤ j) : ∃ r, stage cells most top j = stage cells most top i ++ r := by
  induction j with
  | zero =>
    have : i = 0 := by omega
    subst this
    exact ⟨[], by rw [List.append_nil]⟩
  | succ j ih =>
    by_cases e : i = j + 1
    · subst e
      exact ⟨[], by rw [List.append_nil]⟩
    · obtain ⟨r, hr⟩ := ih (by omega)
      rw [stage_succ, hr, List.append_assoc]
      exact ⟨_, rfl⟩
theorem stage_zero (cells most top : Nat) : stage cells most top 0 = [[]] := rfl
theorem stage_head (cells most top i : Nat) : ∃ r, stage cells most top i = [] :: r := by
  obtain ⟨r, hr⟩ := stage_mono cells most top (Nat.zero_le i)
  exact ⟨r, hr⟩
/-- a turn's part -/
def part (cells most top i : Nat) (F : List Layt) (j : Nat) : List Layt := F ++ (F.take j).flatMap (growM cells most top i)
theorem part_zero (cells most top i : Nat) (F : List Layt) : part cells most top i F 0 = F := by simp [part]
theorem part_succ (cells most top i : Nat) (F : List Layt) {j : Nat} {L : Layt} (h : F[j]? = some L) : part cells most top i F (j + 1) = part cells most top i F j ++ growM cells most top i L := by
  unfold part
  rw [List.take_add_one, h, List.flatMap_append, List.append_assoc]
  simp
theorem part_all (cells most top i : Nat) (F : List Layt) : part cells most top i F F.length = F ++ F.flatMap (growM cells most top i) := by
  unfold part
  rw [List.take_length]
theorem part_le (cells most top i : Nat) (F : List Layt) (j : Nat) : (part cells most top i F j).length ≤ (F ++ F.flatMap (growM cells most top i)).length := by
  unfold part
  rw [List.length_append, List.length_append]
  have e : F.flatMap (growM cells most top i) = (F.take j).flatMap (growM cells most top i) ++ (F.drop j).flatMap (growM cells most top i) := by
    rw [← List.flatMap_append, List.take_append_drop]
  rw [e, List.length_append]
  omega
structure AllOk (cells most top : Nat) : Prop where
  few : (foundM cells most top).length ≤ 200
  lay : ∀ L ∈ foundM cells most top, L.length ≤ 8 ∧ liveM L ≤ most ∧ ∀ p ∈ L, p.1 + p.2 ≤ cells ∧ 1 ≤ p.2
theorem AllOk.of {cells most top : Nat} (h : okAll cells most top = true) : AllOk cells most top := by
  unfold okAll at h
  rw [Bool.and_eq_true, Nat.ble_eq, List.all_eq_true] at h
  refine ⟨h.1, fun L hL => ?_⟩
  have q := h.2 L hL
  rw [Bool.and_eq_true, Bool.and_eq_true, Nat.ble_eq, Nat.ble_eq, List.all_eq_true] at q
  refine ⟨q.1.1, q.1.2, fun p hp => ?_⟩
  have z := q.2 p hp
  rw [Bool.and_eq_true, Nat.ble_eq, Nat.ble_eq] at z
  exact z
theorem AllOk.stage {cells most top : Nat} (h : AllOk cells most top) {i : Nat} (hi : i ≤ cells) : (stage cells most top i).length ≤ 200 ∧ ∀ L ∈ SM.stage cells most top i, L.length ≤ 8 ∧ liveM L ≤ most ∧ ∀ p ∈ L, p.1 + p.2 ≤ cells ∧ 1 ≤ p.2 := by
  obtain ⟨r, hr⟩ := stage_mono cells most top hi
  have e : foundM cells most top = SM.stage cells most top i ++ r := hr
  have h1 := h.few
  have h2 := h.lay
  rw [e] at h1 h2
  rw [List.length_append] at h1
  exact ⟨by omega, fun L hL => h2 L (List.mem_append_left _ hL)⟩
theorem liveM_nil : liveM [] = 0 := rfl
end SM
namespace SM
theorem look_cons {β : Type} (p : Layt × β) (r : List (Layt × β)) (L : Layt) : look (p :: r) L = if p.1 = L then some p.2 else look r L := by rw [look]
theorem look_append {β : Type} (a b : List (Layt × β)) (L : Layt) : look (a ++ b) L = (look a L).or (look b L) := by
  induction a with
  | nil => simp [look]
  | cons p a ih =>
    rw [List.cons_append, look_cons, look_cons]
    by_cases e : p.1 = L
    · rw [if_pos e, if_pos e]; rfl
    · rw [if_neg e, if_neg e, ih]
theorem look_mem {β : Type} {d : List (Layt × β)} {L : Layt} {b : β} (h : look d L = some b) : (L, b) ∈ d := by
  induction d with
  | nil => simp [look] at h
  | cons p d ih =>
    unfold look at h
    by_cases e : p.1 = L
    · rw [if_pos e] at h
      cases h
      subst e
      exact List.mem_cons_self ..
    · rw [if_neg e] at h
      exact List.mem_cons_of_mem _ (ih h)
theorem look_none_iff {β : Type} (d : List (Layt × β)) : d = [] ↔ ∀ L, look d L = none := by
  constructor
  · intro e L; subst e; rfl
  · intro h
    cases d with
    | nil => rfl
    | cons p d =>
      have := h p.1
      unfold look at this
      rw [if_pos rfl] at this
      cases this
/-- what falls, as a function -/
def fallF (cells most top rank : Nat) (lost : Lost) (left : List Layt) : Layt → Option (Nat × Deed) := fun M => if M ∈ left then (deedM cells M (askM M most top) lost).map fun d => (rank, d) else none
theorem look_fallen (cells most top rank : Nat) (lost : Lost) (left : List Layt) (M : Layt) : look (fallenM cells most top rank lost left) M = fallF cells most top rank lost left M := by
  induction left with
  | nil => simp [fallenM, fallF, look]
  | cons L left ih =>
    unfold fallenM at ih ⊢
    rw [List.filterMap_cons]
    unfold fallF at ih ⊢
    by_cases e : L = M
    · subst e
      rw [if_pos (List.mem_cons_self ..)]
      cases q : deedM cells L (askM L most top) lost with
      | none =>
        rw [q] at ih
        show look (List.filterMap _ left) L = _
        rw [ih]
        split <;> rfl
      | some d =>
        show look ((L, (rank, d)) :: _) L = _
        unfold look
        rw [if_pos rfl]
        rfl
    · have em : (M ∈ L :: left) ↔ M ∈ left := by
        rw [List.mem_cons]
        constructor
        · rintro (h | h)
          · exact absurd h.symm e
          · exact h
        · exact .inr
      have ei : (if M ∈ L :: left then (deedM cells M (askM M most top) lost).map fun d => (rank, d) else none) = (if M ∈ left then (deedM cells M (askM M most top) lost).map fun d => (rank, d) else none) := by
        by_cases h : M ∈ left
        · rw [if_pos h, if_pos (em.mpr h)]
        · rw [if_neg h, if_neg (fun z => h (em.mp z))]
      rw [ei]
      cases q : deedM cells L (askM L most top) lost with
      | none => exact ih
      | some d =>
        show look ((L, (rank, d)) :: _) M = _
        unfold look
        rw [if_neg e]
        exact ih
theorem fallen_len (cells most top rank : Nat) (lost : Lost) (left : List Layt) : (fallenM cells most top rank lost left).length + (restM cells most top lost left).length = left.length := by
  induction left with
  | nil => rfl
  | cons L left ih =>
    unfold fallenM restM at *
    rw [List.filterMap_cons, List.filter_cons]
    cases q : deedM cells L (askM L most top) lost with
    | none =>
      show (List.filterMap _ left).length + (if true = true then L :: _ else _).length = _
      rw [if_pos rfl, List.length_cons, List.length_cons]
      omega
    | some d =>
      show ((L, (rank, d)) :: _).length + (if false = true then L :: _ else _).length = _
      rw [if_neg (by decide), List.length_cons, List.length_cons]
      omega
theorem fallen_snoc (cells most top rank : Nat) (lost : Lost) (l : List Layt) (L : Layt) : fallenM cells most top rank lost (l ++ [L]) = fallenM cells most top rank lost l ++ ((deedM cells L (askM L most top) lost).map fun d => (L, (rank, d))).toList := by
  unfold fallenM
  rw [List.filterMap_append, List.filterMap_cons]
  cases deedM cells L (askM L most top) lost with
  | none => rfl
  | some d => rfl
theorem rest_sub {cells most top : Nat} {lost : Lost} {left : List Layt} {L : Layt} (h : L ∈ restM cells most top lost left) : L ∈ left := (List.mem_filter.mp h).1
theorem all_mem {cells most top : Nat} {L : Layt} : L ∈ allM cells most top ↔ L ∈ foundM cells most top := (isort_perm _).mem_iff
theorem all_len (cells most top : Nat) : (allM cells most top).length = (foundM cells most top).length := (isort_perm _).length_eq
theorem find_none_take {α : Type} {p : α → Bool} {l : List α} {i : Nat} {x : α} (h : (l.take i).find? p = none) (hx : l[i]? = some x) (hp : p x = false) : (l.take (i + 1)).find? p = none := by
  rw [List.take_add_one, hx, List.find?_append, h]
  simp [hp]
theorem find_some_at {α : Type} {p : α → Bool} {l : List α} {i : Nat} {x : α} (h : (l.take i).find? p = none) (hx : l[i]? = some x) (hp : p x = true) : l.find? p = some x := by
  have hi := (List.getElem?_eq_some_iff.mp hx).1
  have e : l = l.take i ++ (x :: l.drop (i + 1)) := by
    have := (List.getElem?_eq_some_iff.mp hx).2
    rw [← this, ← List.drop_eq_getElem_cons hi, List.take_append_drop]
  rw [e, List.find?_append, h, List.find?_cons, hp]
  rfl
end SM
namespace L2.SW
open SM PySem PySem.Spec PyProof.Rows
/-! ### layouts in the heap -/
def PairAt (H : Hp) (a : Addr) (p : Nat × Nat) : Prop := H a = some (.tup [.int (p.1 : Int), .int (p.2 : Int)])
def LayAt (H : Hp) (a : Addr) (L : Layt) : Prop := ∃ ps : List Addr, H a = some (.tup (ps.map V.ref)) ∧ Paired (PairAt H) ps L
def LaysAt (H : Hp) (as : List Addr) (Ls : List Layt) : Prop := Paired (LayAt H) as Ls
/-- the tuples stand -/
def Tk (H H' : Hp) : Prop := ∀ b xs, H b = some (.tup xs) → H' b = some (.tup xs)
theorem Tk.refl (H : Hp) : Tk H H := fun _ _ h => h
theorem Tk.trans {H H1 H2 : Hp} (a : Tk H H1) (b : Tk H1 H2) : Tk H H2 := fun c xs h => b c xs (a c xs h)
theorem Same_tk {H H' : Hp} (k : Same H H') : Tk H H' := fun b xs h => k b _ h
theorem Tk.new {H : Hp} {p : Addr} {o : HO} (hp : H p = none) : Tk H (upd H p o) := fun b xs h => by
  rw [upd_ne (ne_of_none h hp)]; exact h
theorem Tk.over {H : Hp} {p : Addr} {o u : HO} (hp : H p = some u) (hu : ∀ xs, u ≠ .tup xs) : Tk H (upd H p o) := fun b xs h => by
  rw [upd_ne (fun e => by rw [e, hp] at h; exact hu xs (Option.some.inj h))]; exact h
theorem sNew {H : Hp} {p : Addr} {o : HO} (hp : H p = none) : Same H (upd H p o) := fun b u h => by
  rw [upd_ne (ne_of_none h hp)]; exact h
theorem sOver {H H1 : Hp} {p : Addr} {o : HO} (k : Same H H1) (hp : H p = none) : Same H (upd H1 p o) := fun b u h => by
  rw [upd_ne (ne_of_none h hp)]; exact k b u h
theorem PairAt.keep {H H' : Hp} (k : Tk H H') {a : Addr} {p : Nat × Nat} (h : PairAt H a p) : PairAt H' a p := k a _ h
theorem LayAt.keep {H H' : Hp} (k : Tk H H') {a : Addr} {L : Layt} (h : LayAt H a L) : LayAt H' a L := by
  obtain ⟨ps, h1, h2⟩ := h
  exact ⟨ps, k _ _ h1, Paired.mapP h2 fun _ _ z => z.keep k⟩
theorem LaysAt.keep {H H' : Hp} (k : Tk H H') {as : List Addr} {Ls : List Layt} (h : LaysAt H as Ls) : LaysAt H' as Ls := Paired.mapP h fun _ _ z => z.keep k
theorem Paired.app {α β : Type} {F : α → β → Prop} : ∀ {l₁ : List α} {l₂ : List β} {m₁ : List α} {m₂ : List β}, Paired F l₁ l₂ → Paired F m₁ m₂ → Paired F (l₁ ++ m₁) (l₂ ++ m₂)
  | _, _, _, _, .nil, h => h
  | _, _, _, _, .cons r t, h => .cons r (Paired.app t h)
theorem Paired.get {α β : Type} {F : α → β → Prop} : ∀ {l₁ : List α} {l₂ : List β} {i : Nat} {a : α}, Paired F l₁ l₂ → l₁[i]? = some a → ∃ b, l₂[i]? = some b ∧ F a b
  | _, _, _, _, .nil, e => by simp at e
  | _, _, 0, _, .cons r _, e => by simp at e; subst e; exact ⟨_, rfl, r⟩
  | _, _, i + 1, a, .cons _ t, e => by
    obtain ⟨b, h1, h2⟩ := Paired.get (i := i) (a := a) t (by simpa using e)
    exact ⟨b, by simpa using h1, h2⟩
/-! ### keys -/
def keyP (p : Nat × Nat) : NestedKey := .tup [.num (p.1 : Int), .num (p.2 : Int)]
def keyL (L : Layt) : NestedKey := .tup (L.map keyP)
theorem keyP_inj {p q : Nat × Nat} (h : keyP p = keyP q) : p = q := by
  unfold keyP at h
  injection h with h
  injection h with h1 h2
  injection h1 with h1
  injection h2 with h2 _
  injection h2 with h2
  obtain ⟨a, b⟩ := p
  obtain ⟨c, d⟩ := q
  simp only at h1 h2
  rw [Prod.mk.injEq]
  omega
theorem keyL_inj {L M : Layt} (h : keyL L = keyL M) : L = M := by
  unfold keyL at h
  injection h with h
  have : ∀ (L M : Layt), L.map keyP = M.map keyP → L = M := by
    intro L
    induction L with
    | nil => intro M h; cases M with
      | nil => rfl
      | cons q M => simp at h
    | cons p L ih => intro M h; cases M with
      | nil => simp at h
      | cons q M =>
        rw [List.map_cons, List.map_cons] at h
        injection h with h1 h2
        rw [keyP_inj h1, ih M h2]
  exact this L M h
theorem keyP_depth (p : Nat × Nat) : (keyP p).depth = 1 := by
  simp [keyP, NestedKey.depth, NestedKey.depthAll]
theorem keyL_depth (L : Layt) : (keyL L).depth ≤ 8 := by
  have : NestedKey.depthAll (L.map keyP) ≤ 1 := by
    induction L with
    | nil => simp [NestedKey.depthAll]
    | cons p L ih =>
      rw [List.map_cons, NestedKey.depthAll, keyP_depth]
      omega
  unfold keyL
  rw [NestedKey.depth]
  omega
section
variable {P : Program} {w : World} {H : Hp} {h : Heap} {a : Addr}
theorem pair_is (ok : HOk P w H h) {p : Nat × Nat} (l : PairAt H a p) : NestedIs h (keyP p) (.ref a) := by
  obtain ⟨_, its, r, o, h1, h2, n, h3⟩ := (show ObjOk P w H h a (.tup _) from ok a _ l)
  refine .tup h1 h2 h3 ?_
  cases r with
  | cons r1 t =>
    cases t with
    | cons r2 t2 =>
      cases t2
      obtain ⟨t1, rfl⟩ := r1
      obtain ⟨t2, rfl⟩ := r2
      exact .cons (.int _ _) (.cons (.int _ _) .nil)
theorem lay_is (ok : HOk P w H h) {L : Layt} (l : LayAt H a L) : (nestedKind P w).is h (keyL L) a := by
  refine ⟨?_, keyL_depth L⟩
  obtain ⟨ps, hp, hq⟩ := l
  obtain ⟨z, its, r, o, h1, h2, n, h3⟩ := (show ObjOk P w H h a (.tup _) from ok a _ hp)
  refine .tup h1 h2 h3 ?_
  show NestedAll h (L.map keyP) its
  clear hp h3 z
  induction hq generalizing its with
  | nil =>
    cases r
    exact .nil
  | cons f t ih =>
    rw [List.map_cons] at r
    cases r with
    | cons r1 t1 =>
      cases r1
      exact .cons (pair_is ok f) (ih _ t1)
end
/-! ### a dict of layouts -/
def phi (P : Program) (w : World) (d : Addr) (xs : List (NestedKey × Addr × Value)) : Heap → Prop := fun h =>
  ∃ o es ep, h.get? d = some o ∧ o.ExactDict ∧ o.data = .dict es ep ∧ es.toList = xs.map (entryOfKey (nestedKind P w))
def RelF {β : Type} (R : Hp → V → β → Prop) (H : Hp) : Option β → Option Value → Prop
  | none, none => True
  | some b, some u => ∃ v, RelV v u ∧ R H v b
  | _, _ => False
/-- the raw part: a dict of these entries, keyed by layouts -/
structure DRaw (P : Program) (w : World) (H : Hp) (d : Addr) (xs : List (NestedKey × Addr × Value)) : Prop where
  at_ : H d = some (.ext (phi P w d xs))
  nd : (xs.map (·.1)).Nodup
  keys : ∀ x ∈ xs, ∃ L, x.1 = keyL L ∧ LayAt H x.2.1 L
  ns : (d == sysModules) = false
/-- at d stands a dict that tells f, of at most n entries -/
def DRep {β : Type} (P : Program) (w : World) (R : Hp → V → β → Prop) (H : Hp) (d : Addr) (f : Layt → Option β) (n : Nat) : Prop :=
  ∃ xs, DRaw P w H d xs ∧ xs.length ≤ n ∧ ∀ L, RelF R H (f L) (valueAt (pairsH xs) (keyL L))
/-- R leans on tracked things that are no such dict -/
def NoExt {β : Type} (R : Hp → V → β → Prop) : Prop := ∀ (H H' : Hp) (v : V) (b : β), (∀ a o, H a = some o → (∀ φ, o ≠ .ext φ) → H' a = some o) → R H v b → R H' v b
theorem RelF.keep {β : Type} {R : Hp → V → β → Prop} (hR : NoExt R) {H H' : Hp} (k : ∀ a o, H a = some o → (∀ φ, o ≠ .ext φ) → H' a = some o) {x : Option β} {y : Option Value} (h : RelF R H x y) : RelF R H' x y := by
  match x, y, h with
  | none, none, _ => trivial
  | some b, some p, h =>
    obtain ⟨v, h1, h2⟩ := h
    exact ⟨v, h1, hR _ _ _ _ k h2⟩
theorem DRaw.keep {P : Program} {w : World} {H H' : Hp} {d : Addr} {xs : List (NestedKey × Addr × Value)} (h : DRaw P w H d xs) (k : Tk H H') (hd : H' d = H d) : DRaw P w H' d xs :=
  ⟨by rw [hd]; exact h.at_, h.nd, fun x hx => let ⟨L, e, l⟩ := h.keys x hx; ⟨L, e, l.keep k⟩, h.ns⟩
theorem DRep.same {β : Type} {P : Program} {w : World} {R : Hp → V → β → Prop} (hR : NoExt R) {H H' : Hp} {d : Addr} {f : Layt → Option β} {n : Nat} (h : DRep P w R H d f n) (k : Same H H') : DRep P w R H' d f n := by
  obtain ⟨xs, h1, h2, h3⟩ := h
  exact ⟨xs, h1.keep (Same_tk k) ((k _ _ h1.at_).trans h1.at_.symm), h2, fun L => (h3 L).keep hR fun a o e _ => k a o e⟩
/-- behind a change of other things than what it leans on -/
theorem DRep.keep {β : Type} {P : Program} {w : World} {R : Hp → V → β → Prop} (hR : NoExt R) {H H' : Hp} {d : Addr} {f : Layt → Option β} {n : Nat} (h : DRep P w R H d f n) (hd : H' d = H d) (k : ∀ a o, H a = some o → (∀ φ, o ≠ .ext φ) → H' a = some o) : DRep P w R H' d f n := by
  obtain ⟨xs, h1, h2, h3⟩ := h
  exact ⟨xs, h1.keep (fun b ys e => k b _ e (fun φ q => nomatch q)) hd, h2, fun L => (h3 L).keep hR k⟩
theorem DRep.mono {β : Type} {P : Program} {w : World} {R : Hp → V → β → Prop} {H : Hp} {d : Addr} {f : Layt → Option β} {n m : Nat} (h : DRep P w R H d f n) (hm : n ≤ m) : DRep P w R H d f m := by
  obtain ⟨xs, h1, h2, h3⟩ := h
  exact ⟨xs, h1, by omega, h3⟩
theorem DRep.congr {β : Type} {P : Program} {w : World} {R : Hp → V → β → Prop} {H : Hp} {d : Addr} {f g : Layt → Option β} {n : Nat} (h : DRep P w R H d f n) (e : ∀ L, f L = g L) : DRep P w R H d g n := by
  have : f = g := funext e
  subst this
  exact h
theorem DRep.at_ {β : Type} {P : Program} {w : World} {R : Hp → V → β → Prop} {H : Hp} {d : Addr} {f : Layt → Option β} {n : Nat} (h : DRep P w R H d f n) : ∃ φ, H d = some (.ext φ) := let ⟨_, h1, _⟩ := h; ⟨_, h1.at_⟩
section
variable {P : Program} {w : World} {H : Hp} {h : Heap} {d : Addr} {xs : List (NestedKey × Addr × Value)}
theorem DRaw.dict (ok : HOk P w H h) (D : DRaw P w H d xs) : h.DictOfH (nestedKind P w) d xs := by
  obtain ⟨⟨o, es, ep, h1, h2, h3, h4⟩, _⟩ := (show ObjOk P w H h d (.ext (phi P w d xs)) from ok d _ D.at_)
  refine ⟨o, es, ep, h1, h2, h3, h4, fun x hx => ?_, D.nd⟩
  obtain ⟨L, e, l⟩ := D.keys x hx
  rw [e]
  exact lay_is ok l
theorem phi_obj {H' : Hp} (hd : h.DictOfH (nestedKind P w) d xs) : ObjOk P w H' h d (.ext (phi P w d xs)) := by
  obtain ⟨o, es, ep, h1, h2, h3, h4, _, _⟩ := hd
  refine ⟨⟨o, es, ep, h1, h2, h3, h4⟩, ⟨o, h1⟩, fun g g' x k => ?_⟩
  obtain ⟨o', es', ep', k1, k2, k3, k4⟩ := x
  exact ⟨o', es', ep', k _ k1, k2, k3, k4⟩
end
/-- y in d, d[y] -/
def DHas (P : Program) (w : World) (H : Hp) (d : Addr) (L : Layt) (b : Bool) : Prop := ∃ xs, DRaw P w H d xs ∧ (valueAt (pairsH xs) (keyL L)).isSome = b
def DVal (P : Program) (w : World) (H : Hp) (d : Addr) (L : Layt) (v : V) : Prop := ∃ xs u, DRaw P w H d xs ∧ valueAt (pairsH xs) (keyL L) = some u ∧ RelV v u
theorem RelF.isSome_eq {β : Type} {R : Hp → V → β → Prop} {H : Hp} {x : Option β} {y : Option Value} (h : RelF R H x y) : y.isSome = x.isSome := by
  match x, y, h with
  | none, none, _ => rfl
  | some b, some p, h => rfl
theorem DRep.has {β : Type} {P : Program} {w : World} {R : Hp → V → β → Prop} {H : Hp} {d : Addr} {f : Layt → Option β} {n : Nat} (h : DRep P w R H d f n) (L : Layt) : DHas P w H d L (f L).isSome := by
  obtain ⟨xs, h1, _, h3⟩ := h
  exact ⟨xs, h1, (h3 L).isSome_eq⟩
theorem DRep.val {β : Type} {P : Program} {w : World} {R : Hp → V → β → Prop} {H : Hp} {d : Addr} {f : Layt → Option β} {n : Nat} (h : DRep P w R H d f n) {L : Layt} {b : β} (e : f L = some b) : ∃ v, DVal P w H d L v ∧ R H v b := by
  obtain ⟨xs, h1, _, h3⟩ := h
  have := h3 L
  rw [e] at this
  cases q : valueAt (pairsH xs) (keyL L) with
  | none => rw [q] at this; exact this.elim
  | some p =>
    rw [q] at this
    obtain ⟨v, r1, r2⟩ := this
    exact ⟨v, ⟨xs, p, h1, q, r1⟩, r2⟩
/-! ### rules -/
def rInN (P : Program) (w : World) (neg : Bool) : R2 := fun x y H Q => ∃ a d L b, x = .ref a ∧ y = .ref d ∧ LayAt H a L ∧ DHas P w H d L b ∧ Q (.bl (if neg then !b else b)) H
def rIxN (P : Program) (w : World) : R2 := fun x y H Q => ∃ a d L v, x = .ref d ∧ y = .ref a ∧ LayAt H a L ∧ DVal P w H d L v ∧ Q v H
def fset {β : Type} (f : Layt → Option β) (L : Layt) (b : β) : Layt → Option β := fun M => if M = L then some b else f M
def rSetN {β : Type} (P : Program) (w : World) (R : Hp → V → β → Prop) : TSet := fun o i v H Q => ∃ d a L b f n, o = .ref d ∧ i = .ref a ∧ LayAt H a L ∧ DRep P w R H d f n ∧ n < sizeLine ∧ R H v b ∧
  ∀ H', (∀ c, c ≠ d → H' c = H c) → DRep P w R H' d (fset f L b) (n + 1) → Q H'
theorem key_stored {P : NestedKey → Addr → Prop} {xs : List (NestedKey × Addr × Value)} {k : NestedKey} {a : Addr} {v : Value} (h : ∀ x ∈ xs, P x.1 x.2.1) (hk : P k a) : ∀ x ∈ storedH xs k a v, P x.1 x.2.1 := by
  intro x hx
  unfold storedH at hx
  split at hx
  · obtain ⟨y, hy, rfl⟩ := List.mem_map.mp hx
    have := h y hy
    unfold putAt
    split
    · exact this
    · exact this
  · rcases List.mem_append.mp hx with hx | hx
    · exact h x hx
    · rw [List.mem_singleton.mp hx]
      exact hk
theorem key_storedAll {P : NestedKey → Addr → Prop} : ∀ {ps xs : List (NestedKey × Addr × Value)}, (∀ x ∈ xs, P x.1 x.2.1) → (∀ x ∈ ps, P x.1 x.2.1) → ∀ x ∈ storedAllH xs ps, P x.1 x.2.1
  | [], _, h, _ => h
  | p :: ps, xs, h, hp => by
    show ∀ x ∈ storedAllH (storedH xs p.1 p.2.1 p.2.2) ps, P x.1 x.2.1
    exact key_storedAll (key_stored h (hp p (List.mem_cons_self ..))) fun x hx => hp x (List.mem_cons_of_mem _ hx)
theorem len_stored (xs : List (NestedKey × Addr × Value)) (k : NestedKey) (a : Addr) (v : Value) : (storedH xs k a v).length ≤ xs.length + 1 := by
  unfold storedH
  split
  · rw [List.length_map]; omega
  · rw [List.length_append, List.length_singleton]; omega
theorem len_storedAll : ∀ (ps xs : List (NestedKey × Addr × Value)), (storedAllH xs ps).length ≤ xs.length + ps.length
  | [], xs => Nat.le_refl _
  | p :: ps, xs => by
    have h1 := len_storedAll ps (storedH xs p.1 p.2.1 p.2.2)
    have h2 := len_stored xs p.1 p.2.1 p.2.2
    show (storedAllH (storedH xs p.1 p.2.1 p.2.2) ps).length ≤ _
    rw [List.length_cons]
    omega
theorem valueAt_rev {kvs : List (NestedKey × Value)} (hn : (kvs.map (·.1)).Nodup) (k : NestedKey) : valueAt kvs.reverse k = valueAt kvs k := by
  cases q : valueAt kvs k with
  | none =>
    rw [valueAt_none] at q ⊢
    rw [List.map_reverse, List.mem_reverse]
    exact q
  | some v =>
    refine valueAt_of_mem ?_ ?_
    · rw [List.map_reverse]
      exact (List.reverse_perm _).nodup_iff.mpr hn
    · rw [List.mem_reverse]
      exact valueAt_mem q
theorem DRaw.new_ {P : Program} {w : World} {H H' : Hp} {h' : Heap} {d : Addr} {xs ys : List (NestedKey × Addr × Value)} (D : DRaw P w H d xs) (dd : h'.DictOfH (nestedKind P w) d ys) (hk : Tk H H') (hy : ∀ x ∈ ys, ∃ L, x.1 = keyL L ∧ LayAt H x.2.1 L) (hd : H' d = some (.ext (phi P w d ys))) : DRaw P w H' d ys := by
  obtain ⟨o, es, ep, h1, h2, h3, h4, _, h5⟩ := dd
  exact ⟨hd, h5, fun x hx => let ⟨L, e, l⟩ := hy x hx; ⟨L, e, l.keep hk⟩, D.ns⟩
section
variable {X : Cx}
theorem op_inN (hu : X.A.units + 64 < cLine) : OpR X (compareOp .In) (rInN X.prog X.w false) := by
  intro pins s σ H x y v u Q I rx ry h
  obtain ⟨a, d, L, b, rfl, rfl, hl, ⟨xs, D, e⟩, q⟩ := h
  cases rx
  cases ry
  refine wpAny_in_heap (knd := nestedKind X.prog X.w) (by show X.A.units + 1 + 8 < cLine; omega) (lay_is I.hok hl) D.ns (D.dict I.hok) ?_
  rw [valueAt_pairsH, Option.isSome_map] at e
  rw [e]
  exact ⟨.bl b, H, I.tok _, rfl, q⟩
theorem op_notInN (hu : X.A.units + 64 < cLine) : OpR X (compareOp .NotIn) (rInN X.prog X.w true) := by
  intro pins s σ H x y v u Q I rx ry h
  obtain ⟨a, d, L, b, rfl, rfl, hl, ⟨xs, D, e⟩, q⟩ := h
  cases rx
  cases ry
  refine notIn_keyed (knd := nestedKind X.prog X.w) (kvs := pairsH xs) (by show X.A.units + 1 + 8 < cLine; omega) (lay_is I.hok hl) D.ns ⟨xs, D.dict I.hok, rfl⟩ ?_
  rw [e]
  exact ⟨.bl (!b), H, I.tok _, rfl, q⟩
theorem ix_N (hu : X.A.units + 64 < cLine) : IxR X (rIxN X.prog X.w) := by
  intro value slice pins s σ H x y v u Q I rx ry h hs
  obtain ⟨a, d, L, z, rfl, rfl, hl, ⟨xs, p, D, e, rz⟩, q⟩ := h
  cases rx
  cases ry
  have dd := D.dict I.hok
  have fin : EP X pins σ Q p { s with toks := s.toks + (nestedKind X.prog X.w).draws (keyL L) } := ⟨z, H, I.tok _, rz, q⟩
  exact tail_any dd.typeIs F.slot_dict_getitem.lookup (getItem_keyed (knd := nestedKind X.prog X.w) (kvs := pairsH xs) (by show X.A.units + 1 + 8 < cLine; omega) (lay_is I.hok hl) ⟨xs, dd, rfl⟩ e fin) hs
/-- the dict at d is replaced -/
theorem n_write {pins : List (Addr × Obj)} {σ : St} {H : Hp} {s : Shared} {d : Addr} {xs ys : List (NestedKey × Addr × Value)} {h' : Heap} {t' : Nat} (I : Inv X pins σ H s) (D : DRaw X.prog X.w H d xs) (dd : h'.DictOfH (nestedKind X.prog X.w) d ys) (hs : Heap.SameBut d s.heap h') :
    Inv X pins σ (upd H d (.ext (phi X.prog X.w d ys))) { s with heap := h', toks := t' } := by
  have he : ∃ q, h'.get? d = some q := let ⟨q, _, _, hq, _⟩ := dd; ⟨q, hq⟩
  exact d_write I (by rw [D.at_]; exact True.intro) hs he (phi_obj dd)
theorem set_N {β : Type} {R : Hp → V → β → Prop} (hR : NoExt R) (hu : X.A.units + 64 < cLine) : PSet X (rSetN X.prog X.w R) := by
  intro pins s σ H o i v ov iv u Q I ro ri rv h
  obtain ⟨d, a, L, b, f, n, rfl, rfl, hl, ⟨xs, D, hlen, hf⟩, hn, hb, q⟩ := h
  cases ro
  cases ri
  refine wpAny_setItem_heap (knd := nestedKind X.prog X.w) (hsz := by omega) (by show X.A.units + 1 + 8 < cLine; omega) (lay_is I.hok hl) (D.dict I.hok) fun h' dd hs => ?_
  have hk : Tk H (upd H d (.ext (phi X.prog X.w d (storedH xs (keyL L) a u)))) := Tk.over D.at_ fun xs q => nomatch q
  refine ⟨_, n_write I D dd hs, q _ (fun c hc => upd_ne hc) ⟨storedH xs (keyL L) a u, D.new_ dd hk (key_stored (P := fun k a => ∃ L, k = keyL L ∧ LayAt H a L) D.keys ⟨L, rfl, hl⟩) upd_same, ?_, fun M => ?_⟩⟩
  · have := len_stored xs (keyL L) a u
    omega
  · rw [pairsH_storedH, valueAt_stored]
    have kk : ∀ a o, H a = some o → (∀ φ, o ≠ .ext φ) → upd H d (.ext (phi X.prog X.w d (storedH xs (keyL L) a u))) a = some o := fun c o e ne => by
      rw [upd_ne (fun z => by rw [z, D.at_] at e; exact ne _ (Option.some.inj e).symm)]
      exact e
    have kk' : ∀ c o, H c = some o → (∀ φ, o ≠ .ext φ) → upd H d (.ext (phi X.prog X.w d (storedH xs (keyL L) a u))) c = some o := fun c o e ne => by
      rw [upd_ne (fun z => by rw [z, D.at_] at e; exact ne _ (Option.some.inj e).symm)]
      exact e
    unfold fset
    by_cases e : M = L
    · rw [if_pos e, if_pos (by rw [e])]
      exact ⟨v, rv, hR _ _ _ _ kk' hb⟩
    · rw [if_neg e, if_neg (fun z => e (keyL_inj z))]
      exact (hf M).keep hR kk'
/-- {} -/
def tDNewN (P : Program) (w : World) : TE := fun _ H Q => ∀ p, H p = none → (p == sysModules) = false → Q (.ref p) (upd H p (.ext (phi P w p [])))
theorem pe_dnewN {pos : Pos} : PE X (.Dict [] [] pos) (tDNewN X.prog X.w) := ⟨fun pins s σ H Q I h =>
  wpAny_Dict_empty ⟨.ref s.heap.objs.size, _, I.laid (a := s.heap.objs.size) (o := .ext (phi X.prog X.w s.heap.objs.size [])) (t' := s.toks) (fun _ _ q => Heap.get?_push_of_some _ q) (Nat.le_refl _) (phi_obj (Heap.DictOfH.new s.heap)), rfl,
    h _ (I.hok.fresh (Nat.le_refl _)) (beq_eq_false_iff_ne.mpr (Ne.symm (Nat.ne_of_lt I.big)))⟩⟩
theorem DRep.empty {β : Type} {P : Program} {w : World} {R : Hp → V → β → Prop} {H : Hp} {p : Addr} (hp : (p == sysModules) = false) : DRep P w R (upd H p (.ext (phi P w p []))) p (fun _ => none) 0 :=
  ⟨[], ⟨upd_same, List.nodup_nil, (fun _ h => nomatch h), hp⟩, Nat.le_refl _, fun _ => trivial⟩
/-- len(d) -/
theorem call_lenN {β : Type} {R : Hp → V → β → Prop} : CallR X (.builtin "len") (fun xs H Q => ∃ d f n, xs = [.ref d] ∧ DRep X.prog X.w R H d f n ∧ n ≤ sizeLine ∧ ∀ k : Nat, (k = 0 ↔ ∀ L, f L = none) → Q (.int (k : Int)) H) := by
  intro pins s σ H vs us Q I r h
  obtain ⟨d, f, n, rfl, ⟨xs, D, hlen, hf⟩, hn, q⟩ := h
  obtain ⟨u, rfl, ru⟩ := vals1 r
  cases ru
  have hm : s.heap.DictKeyed (nestedKind X.prog X.w) d (pairsH xs) := ⟨xs, D.dict I.hok, rfl⟩
  have hz := pairsH_length xs
  refine call_len_slot (n := ((pairsH xs).length : Nat)) hm.typeIs F.slot_dict_len (fun Q' hq => len_keyed (knd := nestedKind X.prog X.w) D.ns hm hq) (by omega) (by rw [sizeLine_eq] at hn; omega) ?_
  refine ⟨.int (((pairsH xs).length : Nat) : Int), H, I.tok _, ⟨_, rfl⟩, q _ ?_⟩
  rw [hz]
  constructor
  · intro e L
    have : xs = [] := List.length_eq_zero_iff.mp e
    subst this
    have := hf L
    cases e : f L with
    | none => rfl
    | some b => rw [e] at this; exact this.elim
  · intro e
    cases xs with
    | nil => rfl
    | cons x xs =>
      obtain ⟨L, e1, _⟩ := D.keys x (List.mem_cons_self ..)
      have h1 := hf L
      rw [e L] at h1
      have h2 : valueAt (pairsH (x :: xs)) (keyL L) = some x.2.2 := by
        show valueAt ((x.1, x.2.2) :: pairsH xs) (keyL L) = _
        rw [valueAt_cons, if_pos e1]
      rw [h2] at h1
      exact h1.elim
/-- isinstance(d, T) -/
theorem call_isiN : CallR X (.builtin "isinstance") (fun xs H Q => ∃ d c u b ys, xs = [.ref d, c] ∧ ClsV c u ∧ DRaw X.prog X.w H d ys ∧ PySem.W.kitOne X.K (.type "dict") u = some b ∧ Q (.bl b) H) := by
  intro pins s σ H xs us Q I r h
  obtain ⟨d, c, u, b, ys, rfl, k, D, e, q⟩ := h
  obtain ⟨u1, u2, rfl, r1, r2⟩ := vals2 r
  have e2 := k.eq r2
  subst e2
  cases r1
  obtain ⟨o, _, _, h1, h2, _⟩ := D.dict I.hok
  exact PySem.W.kia_one PySem.W.kitx_dict I.kIn ⟨o, h1, h2.1⟩ e (fun z => nomatch z) fun tk => ⟨.bl b, H, I.tok tk, rfl, q⟩
/-- d.update(e) -/
def rUpdN {β : Type} (P : Program) (w : World) (R : Hp → V → β → Prop) : V → List V → Hp → VK → Prop := fun x xs H Q => ∃ d e f g n m, x = .ref d ∧ xs = [.ref e] ∧ d ≠ e ∧ DRep P w R H d f n ∧ DRep P w R H e g m ∧ n + m ≤ sizeLine ∧
  ((∃ L, f L ≠ none) ∨ ∀ L M, g L ≠ none → g M ≠ none → (keyL L).hash w = (keyL M).hash w → L = M) ∧
  ∀ H', (∀ c, c ≠ d → H' c = H c) → DRep P w R H' d (fun L => (g L).or (f L)) (n + m) → Q .non H'
theorem mt_updN {β : Type} {R : Hp → V → β → Prop} (hR : NoExt R) (hu : X.A.units + 64 < cLine) : MtR X "dict.update" (rUpdN X.prog X.w R) := by
  intro pins s σ H x vs v us Q I rx rv h
  obtain ⟨d, e, f, g, n, m, rfl, rfl, hde, ⟨xs, D, hlen, hf⟩, ⟨ys, D2, hlen2, hg⟩, hsz, hap, q⟩ := h
  cases rx
  obtain ⟨u, rfl, ru⟩ := rv.one
  cases ru
  have d1 := D.dict I.hok
  have d2 := D2.dict I.hok
  refine call_update_dictH (knd := nestedKind X.prog X.w) (by show X.A.units + 1 + 8 < cLine; omega) hde D2.ns d1 d2 ?_ (by omega) fun h' dd _ hs => ?_
  · rcases hap with ⟨L, hL⟩ | hap
    · refine .inl fun z => hL ?_
      subst z
      have := hf L
      cases e : f L with
      | none => rfl
      | some b => rw [e] at this; exact this.elim
    · refine .inr ⟨fun y hy => ?_, ?_⟩
      · exact (nestedKind_stays (prog := X.prog) (w := X.w)).tuple (let ⟨_, _, _, _, _, _, _, his, _⟩ := d2; his y hy)
      · have nd := D2.nd
        have hk : ∀ y ∈ ys, ∃ L, y.1 = keyL L ∧ g L ≠ none := fun y hy => by
          obtain ⟨L, e1, _⟩ := D2.keys y hy
          refine ⟨L, e1, fun z => ?_⟩
          have h1 := hg L
          rw [z] at h1
          have h2 : valueAt (pairsH ys) (keyL L) = some y.2.2 := by
            refine valueAt_of_mem ?_ ?_
            · rw [pairsH, List.map_map]
              exact nd
            · rw [← e1]
              exact List.mem_map.mpr ⟨y, hy, rfl⟩
          rw [h2] at h1
          exact h1.elim
        clear hg d2 D2 hlen2
        show (ys.map fun x => (x.1).hash X.w).Nodup
        induction ys with
        | nil => exact List.nodup_nil
        | cons y ys ih =>
          rw [List.map_cons, List.nodup_cons] at nd ⊢
          refine ⟨fun hm => ?_, ih nd.2 fun z hz => hk z (List.mem_cons_of_mem _ hz)⟩
          obtain ⟨z, hz, e⟩ := List.mem_map.mp hm
          obtain ⟨L, e1, g1⟩ := hk y (List.mem_cons_self ..)
          obtain ⟨M, e2, g2⟩ := hk z (List.mem_cons_of_mem _ hz)
          have : L = M := hap L M g1 g2 (by rw [← e1, ← e2]; exact e.symm)
          refine nd.1 (List.mem_map.mpr ⟨z, hz, ?_⟩)
          rw [e1, e2, this]
  · have hk : Tk H (upd H d (.ext (phi X.prog X.w d (storedAllH xs ys)))) := Tk.over D.at_ fun xs q => nomatch q
    refine ⟨.non, _, n_write (t' := s.toks) I D dd hs, rfl, q _ (fun c hc => upd_ne hc) ⟨_, D.new_ dd hk (key_storedAll (P := fun k a => ∃ L, k = keyL L ∧ LayAt H a L) D.keys D2.keys) upd_same, ?_, fun M => ?_⟩⟩
    · have := len_storedAll ys xs
      omega
    · have kk' : ∀ c o, H c = some o → (∀ φ, o ≠ .ext φ) → upd H d (.ext (phi X.prog X.w d (storedAllH xs ys))) c = some o := fun c o e ne => by
        rw [upd_ne (fun z => by rw [z, D.at_] at e; exact ne _ (Option.some.inj e).symm)]
        exact e
      rw [pairsH_storedAllH, valueAt_merged, valueAt_rev (by rw [pairsH, List.map_map]; exact D2.nd)]
      have h1 := (hg M).keep hR kk'
      have h2 := (hf M).keep hR kk'
      cases e1 : g M with
      | none =>
        rw [e1] at h1
        cases e2 : valueAt (pairsH ys) (keyL M) with
        | none =>
          show RelF R _ ((g M).or (f M)) _
          rw [e1]
          exact h2
        | some p => rw [e2] at h1; exact h1.elim
      | some b =>
        rw [e1] at h1
        cases e2 : valueAt (pairsH ys) (keyL M) with
        | none => rw [e2] at h1; exact h1.elim
        | some p =>
          rw [e2] at h1
          show RelF R _ ((g M).or (f M)) _
          rw [e1]
          exact h1
def tyN (P : Program) (w : World) (x : V) (H : Hp) : Prop := ∃ d xs, x = .ref d ∧ DRaw P w H d xs
theorem tyN_ok : TyOk X "dict" (tyN X.prog X.w) := by
  intro pins σ H s x v I r h
  obtain ⟨d, xs, rfl, D⟩ := h
  cases r
  obtain ⟨o, _, _, h1, h2, _⟩ := D.dict I.hok
  refine ⟨⟨o, h1, h2.1⟩, fun a e => ?_⟩
  cases e
  exact ⟨o, h1, h2.2.1⟩
end
theorem DRep.raw {β : Type} {P : Program} {w : World} {R : Hp → V → β → Prop} {H : Hp} {d : Addr} {f : Layt → Option β} {n : Nat} (h : DRep P w R H d f n) : ∃ xs, DRaw P w H d xs := let ⟨xs, h1, _⟩ := h; ⟨xs, h1⟩
end L2.SW
namespace L2.SW
open SM PySem PySem.Spec PyProof.Rows
/-! ### sorted lists of layouts, of pairs -/
open PySem.W in
def encP (p : Nat × Nat) : PyData := .tuple [.int (p.1 : Int), .int (p.2 : Int)]
def encL (L : Layt) : PyData := .tuple (L.map encP)
section
open PySem.W
theorem alikeP (p q : Nat × Nat) : alike (encP p) (encP q) = true := by
  simp [encP, alike, alikeAll]
theorem alikeAllP : ∀ L M : Layt, alikeAll (L.map encP) (M.map encP) = true
  | [], _ => by simp [alikeAll]
  | _ :: _, [] => by simp [alikeAll]
  | p :: L, q :: M => by rw [List.map_cons, List.map_cons, alikeAll, alikeP, alikeAllP L M]; rfl
theorem alikeL (L M : Layt) : alike (encL L) (encL M) = true := by
  unfold encL
  rw [alike]
  exact alikeAllP L M
theorem eqvP (p q : Nat × Nat) : PyData.eqv (encP p) (encP q) = decide (p = q) := by
  obtain ⟨a, b⟩ := p
  obtain ⟨c, d⟩ := q
  have e : PyData.eqv (encP (a, b)) (encP (c, d)) = (decide ((a : Int) = c) && decide ((b : Int) = d)) := by
    simp [encP, PyData.eqv, PyData.eqvAll]
    rfl
  rw [e, ← Bool.decide_and]
  refine decide_eq_decide.mpr ?_
  rw [Prod.mk.injEq]
  omega
theorem ltP_enc (p q : Nat × Nat) : dataLt (encP p) (encP q) = !(pLe q p) := by
  unfold encP
  rw [dataLt_ii]
  cases h : pLe q p with
  | true =>
    rw [pLe_iff] at h
    refine decide_eq_false ?_
    omega
  | false =>
    have h' : ¬ pLe q p = true := by rw [h]; decide
    rw [pLe_iff] at h'
    refine decide_eq_true ?_
    omega
theorem ltL_all : ∀ L M : Layt, PyProof.Rows.lexLt itemOrd (keyToksAll (L.map encP)) (keyToksAll (M.map encP)) = !(lLe M L)
  | [], [] => by simp [lLe, lex_irrefl]
  | [], q :: M => by
    rw [List.map_cons, List.map_nil, toks_all_cons]
    simp only [keyToksAll]
    rw [lex_diff (O := itemOrd) (by simp)]
    simp [itemLt, lLe]
  | p :: L, [] => by
    rw [List.map_cons, List.map_nil, toks_all_cons]
    simp only [keyToksAll]
    rw [lex_diff (O := itemOrd) (by simp)]
    simp [itemLt, lLe]
  | p :: L, q :: M => by
    rw [List.map_cons, List.map_cons, dataLt_cons (alikeP p q), eqvP, lLe_cons]
    by_cases e : p = q
    · rw [if_pos (decide_eq_true e), if_pos e.symm]
      exact ltL_all L M
    · rw [if_neg (by rw [decide_eq_false e]; decide), if_neg (fun z => e z.symm)]
      exact ltP_enc p q
theorem dataLeP : dataLe false encP = pLe := by
  rw [dataLe_eq]
  funext a b
  show (!dataLt (encP b) (encP a)) = _
  rw [ltP_enc, Bool.not_not]
theorem dataLeL : dataLe false encL = lLe := by
  rw [dataLe_eq]
  funext a b
  show (!dataLt (encL b) (encL a)) = _
  unfold encL
  rw [dataLt_tuple, ltL_all, Bool.not_not]
theorem depthP (p : Nat × Nat) : (encP p).depth = 1 := by simp [encP, PyData.depth, PyData.depthAll]
theorem depthL (L : Layt) : (encL L).depth ≤ 2 := by
  have : PyData.depthAll (L.map encP) ≤ 1 := by
    induction L with
    | nil => simp [PyData.depthAll]
    | cons p L ih =>
      rw [List.map_cons, PyData.depthAll, depthP]
      omega
  unfold encL
  rw [PyData.depth]
  omega
end
section
variable {P : Program} {w : World} {H : Hp} {h : Heap} {a : Addr}
theorem pair_reads (ok : HOk P w H h) {p : Nat × Nat} (l : PairAt H a p) : ∃ as, Reads h (.ref a) (encP p) as := by
  obtain ⟨_, its, r, o, h1, h2, n, h3⟩ := (show ObjOk P w H h a (.tup _) from ok a _ l)
  cases r with
  | cons r1 t =>
    cases t with
    | cons r2 t2 =>
      cases t2
      obtain ⟨t1, rfl⟩ := r1
      obtain ⟨t2, rfl⟩ := r2
      exact ⟨_, .tuple h1 h2 h3 (.cons (.int _ _) (.cons (.int _ _) .nil))⟩
theorem lay_reads (ok : HOk P w H h) {L : Layt} (l : LayAt H a L) : ∃ as, Reads h (.ref a) (encL L) as := by
  obtain ⟨ps, hp, hq⟩ := l
  obtain ⟨z, its, r, o, h1, h2, n, h3⟩ := (show ObjOk P w H h a (.tup _) from ok a _ hp)
  have : ∃ as, ReadsAll h its (L.map encP) as := by
    clear hp h3 z
    induction hq generalizing its with
    | nil =>
      cases r
      exact ⟨_, .nil⟩
    | cons f t ih =>
      rw [List.map_cons] at r
      cases r with
      | cons r1 t1 =>
        cases r1
        obtain ⟨as, q1⟩ := pair_reads ok f
        obtain ⟨bs, q2⟩ := ih _ t1
        exact ⟨_, .cons q1 q2⟩
  obtain ⟨as, q⟩ := this
  exact ⟨as, .tuple h1 h2 h3 q⟩
end
section
variable {prog : Program} {w : World} {A : Around} {s : Shared}
open PySem.W PySem.SeqAt
/-- a value that reads as a tuple -/
theorem reads_tup {h : Heap} {v : Value} {xs : List PyData} {as : List Addr} (r : Reads h v (.tuple xs) as) : ∃ (a : Addr) (us : Array Value) (n : Nat) (dd : Option Addr) (sl : Array (Option Value)), v = .ref a ∧ h.get? a = some ⟨.type "tuple", dd, .seq us n, sl⟩ ∧ ReadsAll h us.toList xs as ∧ us.size = xs.length := by
  cases r with
  | tuple q1 q2 q3 q4 =>
    rename_i a ob us n
    obtain ⟨cl, dd, da, sl⟩ := ob
    have e1 : cl = .type "tuple" := q2
    have e2 : da = .seq us n := q3
    rw [e1, e2] at q1
    have hn := SeqAt.ReadsAll.length _ _ _ q4
    rw [Array.length_toList] at hn
    exact ⟨a, us, n, dd, sl, rfl, q1, q4, hn⟩
theorem oneLt_tup {E : Value → Shared → Prop} {xs ys : List PyData} {a b : Value} {as bs : List Addr} {Q : Bool → Shared → Prop} (ra : Reads s.heap a (.tuple xs) as) (rb : Reads s.heap b (.tuple ys) bs) (h : alike (.tuple xs) (.tuple ys) = true)
    (hu : A.units + min (PyData.tuple xs).depth (PyData.tuple ys).depth < cLine) (hq : Q (dataLt (.tuple xs) (.tuple ys)) s) : wpAny (model prog w) A (oneLt' true a b) Q E s := by
  have al : alikeAll xs ys = true := by
    rw [alike] at h
    exact h
  obtain ⟨p, us, n, dd, sl, rfl, o1, r1, z1⟩ := reads_tup ra
  obtain ⟨q, ws, m, dd2, sl2, rfl, o2, r2, z2⟩ := reads_tup rb
  have ty : s.TypeIs (.ref p) "tuple" := ⟨_, o1, rfl⟩
  rw [dataLt_tuple, ← firstLt_toks xs ys al, ← z1, ← z2] at hq
  rw [oneLt'_eq, if_pos rfl]
  refine wpAny_bind (wpAny_cRoomFor (SeqAt.room_here hu) (wpAny_bind (wpAny_callSpecialIfBound?_slot ty F.slot_tuple_lt (call_meets F.slot_tuple_lt ty F.entry_tuple_lt (F.args_tuple_lt_2 _ _)
    (tuple_ltAt p q us ws n m dd dd2 sl sl2 (pairEq xs ys) (fun j => dataLt (xs.getD j .none) (ys.getD j .none))) ⟨o1, o2, fun j j1 j2 => ?_, fun j j1 j2 hj => ?_, wpAny_truthy_bool hq⟩))))
  · have t := eqAt_alikeAll xs ys A.in1 s us.toList ws.toList _ _ r1 r2 al (SeqAt.room_in hu) j (by rw [Array.length_toList]; exact j1) (by rw [Array.length_toList]; exact j2)
    rw [Array.getElem_toList, Array.getElem_toList] at t
    exact t
  · have t := rcLt_alikeAll xs ys A.in1 s us.toList ws.toList _ _ r1 r2 al (SeqAt.room_in hu) j (by rw [Array.length_toList]; exact j1) (by rw [Array.length_toList]; exact j2) hj
    rw [Array.getElem_toList, Array.getElem_toList] at t
    exact t
theorem firsts_any {M : Model} {E : Value → Shared → Prop} : ∀ (vs : List Value) {Q : List (Option Value) → Shared → Prop}, (∀ v ∈ vs, ∃ a o xs n, v = Value.ref a ∧ s.heap.get? a = some o ∧ o.cls = .type "tuple" ∧ o.data = .seq xs n) →
    (∀ os : List (Option Value), os.length = vs.length → (∀ (i : Nat) (a : Addr) (o : Obj) (xs : Array Value) (n : Nat), vs[i]? = some (Value.ref a) → s.heap.get? a = some o → o.data = .seq xs n → os[i]? = some xs[0]?) → Q os s) → wpAny M A (vs.mapM firstOfTuple') Q E s
  | [], _, _, h => by rw [List.mapM_nil]; exact wpAny_pure (h [] rfl fun i _ _ _ _ e => by simp at e)
  | v :: vs, Q, t, h => by
    obtain ⟨a, o, xs, n, rfl, ho, hc, hd⟩ := t _ (List.mem_cons_self ..)
    rw [List.mapM_cons]
    refine wpAny_bind ?_
    rw [kas_first_eq]
    have lk : Looks M s.heap (typeOf (.ref a)) o.cls := (Looks.ld ho).andThen .now
    refine wpAny_bind (lk.here ?_)
    rw [hc, if_neg (by simp)]
    refine wpAny_bind (listItems_at ho hd (wpAny_pure (wpAny_bind (firsts_any vs (Q := fun bs s' => wpAny M A (pure (xs[0]? :: bs)) Q E s') (fun v hv => t v (List.mem_cons_of_mem _ hv)) fun os h1 h2 => wpAny_pure (h _ (by simp [h1]) fun i b o' ys m e1 e2 e3 => ?_)))))
    cases i with
    | zero =>
      rw [List.getElem?_cons_zero] at e1
      cases e1
      rw [ho] at e2
      cases e2
      rw [hd] at e3
      cases e3
      rfl
    | succ i =>
      rw [List.getElem?_cons_succ] at e1 ⊢
      exact h2 i b o' ys m e1 e2 e3
theorem kind_mixed {M : Model} {E : Value → Shared → Prop} {vs : List Value} {Q : SortKind → Shared → Prop} (h2 : 2 ≤ vs.length) (hv : ∀ v ∈ vs, ∃ a o xs n, v = Value.ref a ∧ s.heap.get? a = some o ∧ o.cls = .type "tuple" ∧ o.data = .seq xs n)
    (h0 : ∃ a o n, vs[0]? = some (.ref a) ∧ s.heap.get? a = some o ∧ o.data = .seq #[] n) (h : Q oneType' s) : wpAny M A (keyKind' vs.toArray) Q E s := by
  rw [keyKind'_eq, List.mapM_toArray, map_eq_pure_bind]
  refine wpAny_bind (wpAny_bind (firsts_any vs hv fun os hl ho => wpAny_pure ?_))
  obtain ⟨a, o, n, e1, e2, e3⟩ := h0
  have z : os[0]? = some none := ho 0 a o #[] n e1 e2 e3
  have hm : (none : Option Value) ∈ os := List.mem_of_getElem? z
  rw [if_neg (by
    rw [List.all_toArray, List.all_eq_true]
    intro q
    have := q _ hm
    simp at this)]
  rw [if_neg (by
    show ¬ (((os.toArray)[0]?).bind id).isSome = true
    rw [List.getElem?_toArray, z]
    simp)]
  rw [oneTypeOnly'_eq, List.mapM_toArray, map_eq_pure_bind]
  refine wpAny_bind (wpAny_bind (wpAny_bind (kas_mapM (r := Value.type "tuple") _ (fun v hv' Q' hq => ?_) (wpAny_pure ?_))))
  · obtain ⟨a, o, xs, n, rfl, ho, hc, hd⟩ := hv v hv'
    exact (show Looks M s.heap (typeOf (.ref a)) (.type "tuple") from hc ▸ ((Looks.ld ho).andThen .now)).here hq
  · have hall : ((List.map (fun _ => Value.type "tuple") vs).toArray.all fun x => x == Value.type "tuple") = true := by
      simp only [List.all_toArray, List.all_map, List.all_eq_true]
      intro _ _
      exact beq_self_eq_true _
    have h00 : (List.map (fun _ => Value.type "tuple") vs).toArray[0]? = some (Value.type "tuple") := by
      rw [List.getElem?_toArray, List.getElem?_map, e1]
      rfl
    rw [h00]
    simp only [hall, if_true]
    exact wpAny_pure (wpAny_pure h)
theorem sortsMixed {vs : List Value} {ds : List PyData} (e : EachIs (fun v d => ∃ as, Reads s.heap v d as) vs ds) (hal : AllAlike ds) (ht : ∀ d ∈ ds, ∃ xs, d = .tuple xs) (h0 : ∃ r, ds = .tuple [] :: r) (hu : ∀ d, d ∈ ds → A.units + d.depth < cLine) :
    SortsAt prog w A s (dataKind s.heap ds) vs := by
  refine ⟨fun v hv => let ⟨_, hd, _, r⟩ := e.left v hv; ⟨_, dataKind_some hal hd r⟩, oneType', fun E x y a b Q ha hb hq => ?_, fun h2 E Q hq => kind_mixed h2 (fun v hv => ?_) ?_ hq⟩
  · obtain ⟨d1, l1, m1, r1, rfl⟩ := dataKind_inv ha
    obtain ⟨d2, l2, m2, r2, rfl⟩ := dataKind_inv hb
    obtain ⟨xs, rfl⟩ := ht d1 m1
    obtain ⟨ys, rfl⟩ := ht d2 m2
    have u1 := hu _ m1
    rw [keyLt'_oneType]
    exact oneLt_tup r1 r2 (hal _ m1 _ m2) (by omega) hq
  · · obtain ⟨d, hd, _, r⟩ := e.left v hv
      obtain ⟨xs, rfl⟩ := ht d hd
      cases r with
      | tuple h1 h2 h3 h4 => exact ⟨_, _, _, _, rfl, h1, h2, h3⟩
  · · obtain ⟨r, rfl⟩ := h0
      cases e with
      | cons q t =>
        obtain ⟨as, q⟩ := q
        cases q with
        | @tuple a o us n _ _ h1 h2 h3 h4 =>
          have : us = #[] := by
            cases hh : us.toList with
            | nil => exact Array.toList_eq_nil_iff.mp hh
            | cons f r => rw [hh] at h4; cases h4
          subst this
          exact ⟨_, _, _, rfl, h1, h3⟩
end
/-- the values are addresses of what Rel says -/
theorem each_refs {β : Type} {Rel : Addr → β → Prop} : ∀ {vs : List Value} {bs : List β}, PySem.W.EachIs (fun v b => ∃ a, v = Value.ref a ∧ Rel a b) vs bs → ∃ as : List Addr, vs = as.map Value.ref ∧ Paired Rel as bs
  | _, _, .nil => ⟨[], rfl, .nil⟩
  | _, _, .cons h t => by
    obtain ⟨a, rfl, r⟩ := h
    obtain ⟨as, e, p⟩ := each_refs t
    exact ⟨a :: as, by rw [e]; rfl, .cons r p⟩
theorem refs_vals : ∀ {as : List Addr} {us : List Value}, Vals (as.map V.ref) us → us = as.map Value.ref
  | [], _, r => by cases r; rfl
  | a :: as, _, r => by
    rw [List.map_cons] at r
    cases r with
    | cons r t =>
      cases r
      rw [refs_vals t]
      rfl
theorem vals_refs (l : List Addr) : Vals (l.map V.ref) (l.map Value.ref) := by
  induction l with
  | nil => exact .nil
  | cons a l ih => exact .cons rfl ih
theorem each_of {β : Type} {Rel : Addr → β → Prop} : ∀ {as : List Addr} {bs : List β}, Paired Rel as bs → PySem.W.EachIs (fun v b => ∃ a, v = Value.ref a ∧ Rel a b) (as.map Value.ref) bs
  | _, _, .nil => .nil
  | _, _, .cons r t => .cons ⟨_, rfl, r⟩ (each_of t)
def rSortG {β : Type} (K : PySem.W.Frag) (Rel : Hp → Addr → β → Prop) (ok : List β → Prop) (srt : List β → List β) : List V → Hp → VK → Prop := fun vs H Q => ∃ (a : Addr) (as : List Addr) (bs : List β), vs = [V.ref a] ∧ SqL K H a (as.map V.ref) ∧ Paired (Rel H) as bs ∧ ok bs ∧
  ∀ p as', H p = none → Paired (Rel H) as' (srt bs) → Q (.ref p) (upd H p (.lst (as'.map V.ref)))
section
variable {X : Cx}
open PySem.W
theorem sort_gen {β : Type} {Rel : Hp → Addr → β → Prop} {ok : List β → Prop} {srt : List β → List β} (enc : β → PyData) (hs : ∀ bs, bs.mergeSort (dataLe false enc) = srt bs) (hal : ∀ b b', alike (enc b) (enc b') = true)
    (hread : ∀ (H : Hp) (h : Heap) (a : Addr) (b : β), HOk X.prog X.w H h → Rel H a b → ∃ as, Reads h (.ref a) (enc b) as)
    (hS : ∀ (A : Around) (s : Shared) (vs : List Value) (bs : List β), ok bs → A.units ≤ X.A.units + 2 → EachIs (fun v d => ∃ as, Reads s.heap v d as) vs (bs.map enc) → SortsAt X.prog X.w A s (dataKind s.heap (bs.map enc)) vs) :
    CallR X (.builtin "sorted") (rSortG X.K Rel ok srt) := by
  intro pins s σ H vs us Q I r h
  obtain ⟨a, as, bs, rfl, hq, hp, hok, q⟩ := h
  obtain ⟨its, rv, hl, hz⟩ := I.list hq
  obtain ⟨u, rfl, ru⟩ := vals1 r
  cases ru
  have e1 := refs_vals rv
  subst e1
  have hE := each_of hp
  have hR : EachIs (fun v b => ∃ as, Reads s.heap v (enc b) as) (as.map Value.ref) bs := hE.mono fun v b ⟨c, e, rl⟩ => by subst e; exact hread H s.heap c b I.hok rl
  have hR' : EachIs (fun v b => ∃ bs, Reads (sortingHeap (copyHeap s.heap (as.map Value.ref)) (s.heap.objs.size + 1) (as.map Value.ref)) v (enc b) bs) (as.map Value.ref) bs := hR.mono fun _ _ ⟨as, r⟩ => ⟨as, PyProof.Rows.Reads.keeps (fun _ _ => sorting_copy_old) r⟩
  have hlen : (as.map Value.ref).length ≤ sizeLine := by
    rw [List.length_map] at hz ⊢
    exact hz
  refine sorted_vals hl.isList (hS _ { s with heap := sortingHeap (copyHeap s.heap (as.map Value.ref)) (s.heap.objs.size + 1) (as.map Value.ref) } _ bs hok (Nat.le_refl _) (each_map (R := fun v d => ∃ as, Reads (sortingHeap (copyHeap s.heap _) (s.heap.objs.size + 1) _) v d as) enc hR')) hlen ?_
  have hout := sortVals_data (R := fun v b => ∃ a, v = Value.ref a ∧ Rel H a b) false hE hR' (AllAlike.of hal)
  rw [hs] at hout
  obtain ⟨as', eo, po⟩ := each_refs hout
  rw [eo]
  obtain ⟨c, hc⟩ := sortedAll_at s.heap (as.map Value.ref) (as'.map Value.ref).toArray
  have hlo : (as'.map V.ref).length ≤ sizeLine := by
    have := congrArg List.length eo
    rw [sortVals_length false rfl, List.length_map, List.length_map] at this
    rw [List.length_map, ← this]
    rw [List.length_map] at hlen
    exact hlen
  have hfree : H (s.heap.objs.size + 1) = none := I.hok.fresh (Nat.le_succ _)
  exact ⟨.ref (s.heap.objs.size + 1), _, I.laid (t' := s.toks) (a := s.heap.objs.size + 1) (o := .lst (as'.map V.ref)) (fun _ _ => sortedAll_old) (Nat.le_succ _) ⟨hlo, as'.map Value.ref, c, vals_refs as', hc⟩, rfl, q _ as' hfree po⟩
theorem cr_sortedPairs (hu : X.A.units + 64 < cLine) : CallR X (.builtin "sorted") (rSortG X.K PairAt (fun _ => True) (isort pLe)) := by
  refine sort_gen encP (fun bs => by rw [dataLeP, pSort]) alikeP (fun H h a b ok l => pair_reads ok l) fun A s vs bs _ hA hE => ?_
  refine SortsAt.data hE (AllAlike.of alikeP) (Sortable.tuples fun b => ⟨_, _, rfl⟩) fun d hd => ?_
  obtain ⟨b, _, rfl⟩ := List.mem_map.mp hd
  rw [depthP]
  omega
theorem cr_sortedLays (hu : X.A.units + 64 < cLine) : CallR X (.builtin "sorted") (rSortG X.K LayAt (fun bs => ∃ r, bs = [] :: r) (isort lLe)) := by
  refine sort_gen encL (fun bs => by rw [dataLeL, lSort]) alikeL (fun H h a b ok l => lay_reads ok l) fun A s vs bs hb hA hE => ?_
  obtain ⟨r, rfl⟩ := hb
  refine sortsMixed hE (AllAlike.of alikeL) (fun d hd => ?_) ⟨r.map encL, rfl⟩ fun d hd => ?_
  · obtain ⟨b, _, rfl⟩ := List.mem_map.mp hd
    exact ⟨_, rfl⟩
  · obtain ⟨b, _, rfl⟩ := List.mem_map.mp hd
    have := depthL b
    omega
end
end L2.SW
namespace L2.SW
open SM PySem PySem.Spec PyProof.Rows
/-! ### the text -/
def topS (i : Nat) : Stmt := PySem.Challenge.pw_stow_k69_whole_needed_cells.main.body.getD i (.Pass ⟨0, 0, 0, 0⟩)
abbrev sLive : Stmt := topS 1
abbrev sFree : Stmt := topS 2
abbrev sWith : Stmt := topS 3
abbrev sWithout : Stmt := topS 4
abbrev sAll : Stmt := topS 5
/-- what the top has left of a def -/
structure Df (K : PySem.W.Frag) (mg : Str → Option Value) (x : Str) (st : Stmt) (ps : List Str) where
  f : Addr
  fd : FuncData
  F : Fun K x x st f fd
  b : Binds K fd ps []
  m : mg x = some (.ref f)
/-- the built-ins' names are free -/
structure Bl (mg : Str → Option Value) : Prop where
  sum : mg "sum" = none
  range : mg "range" = none
  tuple : mg "tuple" = none
  sorted : mg "sorted" = none
  list : mg "list" = none
  len : mg "len" = none
  min : mg "min" = none
  max : mg "max" = none
  isinstance : mg "isinstance" = none
  int : mg "int" = none
  bool : mg "bool" = none
  str : mg "str" = none
  dict : mg "dict" = none
/-! ### small things -/
theorem lay_item {H : Hp} {ps : List Addr} {L : Layt} (hq : Paired (PairAt H) ps L) {i : Nat} {x : V} (hi : (ps.map V.ref)[i]? = some x) : ∃ b p, x = .ref b ∧ ps[i]? = some b ∧ L[i]? = some p ∧ PairAt H b p := by
  rw [List.getElem?_map] at hi
  cases e : ps[i]? with
  | none => rw [e] at hi; cases hi
  | some b =>
    rw [e] at hi
    obtain ⟨p, h1, h2⟩ := Paired.get hq e
    exact ⟨b, p, (Option.some.inj hi).symm, rfl, h1, h2⟩
theorem take_snoc {α : Type} {l : List α} {i : Nat} {x : α} (h : l[i]? = some x) : l.take (i + 1) = l.take i ++ [x] := by
  rw [List.take_add_one, h]
  rfl
theorem paired_len {ps : List Addr} {H : Hp} {L : Layt} (hq : Paired (PairAt H) ps L) : (ps.map V.ref).length = L.length := by
  rw [List.length_map, hq.length]
theorem sum_cast : ∀ ns : List Nat, (ns.map fun n => ((n : Nat) : Int)).sum = ((ns.sum : Nat) : Int)
  | [] => rfl
  | n :: ns => by
    rw [List.map_cons, List.sum_cons, List.sum_cons, sum_cast ns]
    omega
theorem item1 {a b : V} : atI [a, b] 1 = some b := rfl
theorem item0 {a b : V} : atI [a, b] 0 = some a := rfl
theorem small8 {n : Nat} (h : n ≤ 1000) : n ≤ sizeLine := Nat.le_of_lt (small1000 h)
section
variable {P : Program} {w : World} {K : PySem.W.Frag} {mg : Str → Option Value} {base : Heap}
/-! ### live_cells -/
def spLive : Sp := fun vs H Q _ => ∃ (a : Addr) (L : Layt), vs = [.ref a] ∧ LayAt H a L ∧ L.length ≤ 1000 ∧ ∀ H', Same H H' → Q (.int (liveM L : Int)) H'
theorem scLive : FnScope ["layout", "piece"] ["layout"] (defScope sLive) := ⟨rfl, rfl, rfl, by decide +kernel, rfl, by decide +kernel, by decide +kernel⟩
theorem ok_live (D : Df K mg "live_cells" sLive ["layout"]) (T : Bl mg) : FnOk P w K mg base CX0 1 D.f D.fd ["layout"] spLive := by
  refine D.F.ok scLive (fun vs H Q E h => ?_) (fun cdv A outer s H vs Q E hr h => ?_)
  · obtain ⟨a, L, rfl, _⟩ := h
    rfl
  · obtain ⟨a, L, rfl, hl, hlen, q⟩ := h
    refine ⟨_, pss_one (ps_ret (pe_callB (cr_sum rfl) (by rfl) T.sum (by decide +kernel) (pa_cons
      (pe_lc (own := [("piece", 1)]) (g := gName 1) (tt := tYes) rfl scLive.nd (pi_tup (pv 0)) (blkOk_by (N := ["layout", "piece"]) (sc := defScope sLive) (by decide +kernel))
        (fun _ _ _ _ _ => pg_name (i := 1) scLive.nd rfl (Or.inl rfl)) (fun _ _ _ _ _ => pts_nil) (fun _ _ _ _ _ => pe_ix (r := rIxT K) ix_tup (pv 1) pe_int (fun _ _ => rfl))) pa_nil))), ?_⟩
    obtain ⟨ps, hp, hq⟩ := hl
    refine ⟨_, rfl, a, rfl, ⟨_, SqT.of hp⟩, fun D nD => lc_tup (K := K) (a := a) (xs := ps.map V.ref) (fun i H' => Same H H' ∧ H' D = some (.lst ((L.take i).map fun p => V.int (p.2 : Int))))
      ⟨sNew nD, upd_same⟩ (fun i H' _ ⟨sm, _⟩ => SqT.of (sm _ _ hp)) ?_ ?_⟩
    · rintro i x H' hi ⟨sm, hD⟩
      obtain ⟨b, p, rfl, _, hL, hb⟩ := lay_item hq hi
      refine ⟨rfl, _, rfl, b, _, _, _, rfl, rfl, SqT.of (sm _ _ hb), item1, _, hD, ?_, sOver sm nD, ?_⟩
      · rw [List.length_map, List.length_take]
        exact small1000 (by omega)
      · rw [upd_same, take_snoc hL, List.map_append]
        rfl
    · rintro H' ⟨sm, hD⟩
      rw [paired_len hq, List.take_length] at hD
      refine ⟨D, (L.map (·.2)).map fun n => ((n : Nat) : Int), rfl, SqL.of ?_, ?_⟩
      · rw [hD, List.map_map, List.map_map]
        rfl
      · rw [sum_cast]
        exact q H' sm
end
end L2.SW
namespace L2.SW
open SM PySem PySem.Spec PyProof.Rows
theorem Paired.snoc1 {α β : Type} {F : α → β → Prop} {as : List α} {bs : List β} {a : α} {b : β} (h : Paired F as bs) (r : F a b) : Paired F (as ++ [a]) (bs ++ [b]) := PySem.Paired.snoc h r
theorem dec_at (a b : Nat) : decide (V.int (a : Int) = V.int (b : Int)) = decide (a = b) := by
  refine decide_eq_decide.mpr ⟨fun e => ?_, fun e => by rw [e]⟩
  injection e with e
  omega
theorem refs_snoc (as : List Addr) (b : Addr) : (as ++ [b]).map V.ref = as.map V.ref ++ [V.ref b] := by
  rw [List.map_append]
  rfl
section
variable {P : Program} {w : World} {K : PySem.W.Frag} {mg : Str → Option Value} {base : Heap}
/-! ### with_piece -/
def spWith : Sp := fun vs H Q _ => ∃ (a : Addr) (L : Layt) (x l : Nat), vs = [.ref a, .int (x : Int), .int (l : Int)] ∧ LayAt H a L ∧ L.length ≤ 900 ∧ ∀ H' p, Same H H' → LayAt H' p (withM L x l) → Q (.ref p) H'
theorem scWith : FnScope ["layout", "at", "long"] ["layout", "at", "long"] (defScope sWith) := ⟨rfl, rfl, rfl, by decide +kernel, rfl, by decide +kernel, by decide +kernel⟩
theorem ok_with (D : Df K mg "with_piece" sWith ["layout", "at", "long"]) (T : Bl mg) : FnOk P w K mg base CX0 1 D.f D.fd ["layout", "at", "long"] spWith := by
  refine D.F.ok scWith (fun vs H Q E h => ?_) (fun cdv A outer s H vs Q E hr h => ?_)
  · obtain ⟨a, L, x, l, rfl, _⟩ := h
    rfl
  · obtain ⟨a, L, x, l, rfl, hl, hlen, q⟩ := h
    refine ⟨_, pss_one (ps_ret (pe_callTy call_tuple_of (by rfl) T.tuple (by decide +kernel) (pa_cons (pe_callB (cr_sortedPairs hr.units) (by rfl) T.sorted (by decide +kernel) (pa_cons
      (pe_op op_cat (pe_callTy call_list_of (by rfl) T.list (by decide +kernel) (pa_cons (pv 0) pa_nil)) (pe_lst (pa_cons (pe_tup (pa_cons (pv 1) (pa_cons (pv 2) pa_nil))) pa_nil))) pa_nil)) pa_nil))), ?_⟩
    obtain ⟨ps, hp, hq⟩ := hl
    have hlen' := paired_len hq
    refine ⟨_, rfl, a, _, rfl, .inr (SqT.of hp), fun m nm => ?_⟩
    have s1 : Same H (upd H m (.lst (ps.map V.ref))) := sNew nm
    refine ⟨_, rfl, _, rfl, small8 (show 2 ≤ 1000 by decide), fun t nt => ⟨small8 (show 1 ≤ 1000 by decide), fun n nn => ?_⟩⟩
    have s2 := s1.trans (sNew (o := .tup [.int (x : Int), .int (l : Int)]) nt)
    have s3 := s2.trans (sNew (o := .lst [.ref t]) nn)
    have em : upd (upd (upd H m (.lst (ps.map V.ref))) t (.tup [.int (x : Int), .int (l : Int)])) n (.lst [.ref t]) m = some (.lst (ps.map V.ref)) :=
      sNew nn _ _ (sNew nt _ _ upd_same)
    refine ⟨m, n, _, _, rfl, rfl, em, upd_same, small8 (by rw [hlen']; show L.length + 1 ≤ 1000; omega), fun c nc => ?_⟩
    have s4 := s3.trans (sNew (o := .lst (ps.map V.ref ++ [.ref t])) nc)
    have hpair : Paired (PairAt (upd (upd (upd (upd H m (.lst (ps.map V.ref))) t (.tup [.int (x : Int), .int (l : Int)])) n (.lst [.ref t])) c (.lst (ps.map V.ref ++ [.ref t])))) (ps ++ [t]) (L ++ [(x, l)]) :=
      Paired.snoc1 (Paired.mapP hq fun _ _ z => z.keep (Same_tk s4)) (sNew nc _ _ (sNew nn _ _ upd_same))
    refine ⟨c, ps ++ [t], L ++ [(x, l)], rfl, SqL.of (by rw [upd_same, refs_snoc]), hpair, trivial, fun z as' nz hs => ?_⟩
    have s5 := s4.trans (sNew (o := .lst (as'.map V.ref)) nz)
    refine ⟨z, _, rfl, .inl ⟨SqL.of upd_same, fun p np => ?_⟩⟩
    refine q _ p (s5.trans (sNew np)) ⟨as', upd_same, Paired.mapP hs fun _ _ r => ?_⟩
    exact (r.keep (Tk.new nz)).keep (Tk.new np)
/-! ### without_piece -/
def spWithout : Sp := fun vs H Q _ => ∃ (a : Addr) (L : Layt) (x : Nat), vs = [.ref a, .int (x : Int)] ∧ LayAt H a L ∧ L.length ≤ 900 ∧ ∀ H' p, Same H H' → LayAt H' p (withoutM L x) → Q (.ref p) H'
theorem scWithout : FnScope ["layout", "at", "piece"] ["layout", "at"] (defScope sWithout) := ⟨rfl, rfl, rfl, by decide +kernel, rfl, by decide +kernel, by decide +kernel⟩
theorem ok_without (D : Df K mg "without_piece" sWithout ["layout", "at"]) (T : Bl mg) : FnOk P w K mg base CX0 1 D.f D.fd ["layout", "at"] spWithout := by
  refine D.F.ok scWithout (fun vs H Q E h => ?_) (fun cdv A outer s H vs Q E hr h => ?_)
  · obtain ⟨a, L, x, rfl, _⟩ := h
    rfl
  · obtain ⟨a, L, x, rfl, hl, hlen, q⟩ := h
    refine ⟨_, pss_one (ps_ret (pe_callTy call_tuple_of (by rfl) T.tuple (by decide +kernel) (pa_cons
      (pe_lc (own := [("piece", 2)]) (g := gName 2) rfl scWithout.nd (pi_tup (pv 0)) (blkOk_by (N := ["layout", "at", "piece"]) (sc := defScope sWithout) (by decide +kernel))
        (fun _ _ _ _ _ => pg_name (i := 2) scWithout.nd rfl (Or.inl rfl)) (fun _ _ _ _ _ => pts_one (pt_cmpR op_ne (pe_ix (r := rIxT K) ix_tup (pv 2) pe_int (fun _ _ => rfl)) (pv 1) (nomark _))) (fun _ _ _ _ _ => pv 2)) pa_nil))), ?_⟩
    obtain ⟨ps, hp, hq⟩ := hl
    refine ⟨_, rfl, a, rfl, ⟨_, SqT.of hp⟩, fun D nD => lc_tup (K := K) (a := a) (xs := ps.map V.ref) (fun i H' => Same H H' ∧ ∃ as, H' D = some (.lst (as.map V.ref)) ∧ Paired (PairAt H) as (withoutM (L.take i) x) ∧ as.length ≤ i)
      ⟨sNew nD, [], upd_same, .nil, Nat.le_refl _⟩ (fun i H' _ ⟨sm, _⟩ => SqT.of (sm _ _ hp)) ?_ ?_⟩
    · rintro i y H' hi ⟨sm, as, hD, has, hal⟩
      have hil : i < L.length := by
        have := (List.getElem?_eq_some_iff.mp hi).1
        rw [paired_len hq] at this
        exact this
      obtain ⟨b, p, rfl, _, hL, hb⟩ := lay_item hq hi
      refine ⟨rfl, _, rfl, b, _, _, _, rfl, rfl, SqT.of (sm _ _ hb), item0, _, rfl, rfl, _, rfl, ?_⟩
      rw [dec_at]
      have et : withoutM (L.take (i + 1)) x = withoutM (L.take i) x ++ (if p.1 = x then [] else [p]) := by
        unfold withoutM
        rw [take_snoc hL, List.filter_append]
        by_cases e : p.1 = x
        · rw [if_pos e, List.filter_cons_of_neg (by rw [decide_eq_true e]; decide)]
          rfl
        · rw [if_neg e, List.filter_cons_of_pos (by rw [decide_eq_false e]; decide)]
          rfl
      by_cases e : p.1 = x
      · rw [if_pos e, List.append_nil] at et
        rw [decide_eq_true e]
        refine iteF ⟨sm, as, hD, ?_, by omega⟩
        rw [et]
        exact has
      · rw [if_neg e] at et
        rw [decide_eq_false e]
        refine ⟨_, rfl, _, hD, ?_, sOver sm nD, as ++ [b], ?_, ?_, ?_⟩
        · rw [List.length_map]
          exact small1000 (by omega)
        · rw [upd_same, refs_snoc]
        · rw [et]
          exact Paired.snoc1 has hb
        · rw [List.length_append, List.length_singleton]
          omega
    · rintro H' ⟨sm, as, hD, has, hal⟩
      rw [paired_len hq, List.take_length] at has
      refine ⟨D, _, rfl, .inl ⟨SqL.of hD, fun z nz => q _ z (sm.trans (sNew nz)) ⟨as, upd_same, Paired.mapP has fun _ _ r => ?_⟩⟩⟩
      exact (r.keep (Same_tk sm)).keep (Tk.new nz)
end
end L2.SW
namespace L2.SW
open SM PySem PySem.Spec PyProof.Rows
def nats (ns : List Nat) : List V := ns.map fun n : Nat => V.int (n : Int)
theorem nats_snoc (ns : List Nat) (k : Nat) : nats (ns ++ [k]) = nats ns ++ [V.int (k : Int)] := by
  unfold nats
  rw [List.map_append]
  rfl
theorem nats_len (ns : List Nat) : (nats ns).length = ns.length := by unfold nats; rw [List.length_map]
theorem set_map (t : List Bool) (i : Nat) : (t.map V.bl).set i (V.bl true) = (t.set i true).map V.bl := by rw [List.map_set]
theorem ixN_nat {n i : Nat} (h : i < n) : ixN n (i : Int) = some i := by
  unfold ixN
  rw [if_pos (by omega), if_pos (by omega)]
  simp
theorem atB {t : List Bool} {i : Nat} (h : i < t.length) : atI (t.map V.bl) (i : Int) = some (V.bl (t.getD i false)) := by
  refine atI_nat ?_
  rw [List.getElem?_map, List.getElem?_eq_getElem h, List.getD_eq_getElem?_getD, List.getElem?_eq_getElem h]
  rfl
theorem rep_one (b : V) (n : Nat) : (List.replicate n [b]).flatten = List.replicate n b := by
  induction n with
  | zero => rfl
  | succ n ih => rw [List.replicate_succ, List.flatten_cons, ih]; rfl
section
variable {P : Program} {w : World} {K : PySem.W.Frag} {mg : Str → Option Value} {base : Heap}
/-! ### free_places -/
def spFree : Sp := fun vs H Q _ => ∃ (c size : Nat) (a : Addr) (L : Layt), vs = [.int (c : Int), .ref a, .int (size : Int)] ∧ LayAt H a L ∧ (∀ p ∈ L, p.1 + p.2 ≤ c) ∧ c ≤ 900 ∧
  ∀ H' p, Same H H' → H p = none → H' p = some (.lst (nats (freeM c L size))) → Q (.ref p) H'
theorem scFree : FnScope ["cells", "layout", "size", "taken", "piece", "k", "found", "run", "at"] ["cells", "layout", "size"] (defScope sFree) := ⟨rfl, rfl, rfl, by decide +kernel, rfl, by decide +kernel, by decide +kernel⟩
theorem ok_free (D : Df K mg "free_places" sFree ["cells", "layout", "size"]) (T : Bl mg) : FnOk P w K mg base CX0 1 D.f D.fd ["cells", "layout", "size"] spFree := by
  refine D.F.ok scFree (fun vs H Q E h => ?_) (fun cdv A outer s H vs Q E hr h => ?_)
  · obtain ⟨c, size, a, L, rfl, _⟩ := h
    rfl
  · obtain ⟨c, size, a, L, rfl, hl, hwf, hc, q⟩ := h
    refine ⟨_, pss_cons (ps_set (i := 3) scFree.nd rfl (.inl rfl) (pe_op op_rep (pe_lst (pa_cons pe_bl pa_nil)) (pv 0)))
      (pss_cons (ps_for PassesOwn.never rfl (pi_tup (pv 1)) (pg_name (i := 4) scFree.nd rfl (.inl rfl))
        (pss_one (ps_for PassesOwn.never rfl (pi_range1 (by rfl) T.range (pa_cons (pe_ix ix_tup (pv 4) pe_int (fun _ _ => rfl)) pa_nil)) (pg_name (i := 5) scFree.nd rfl (.inl rfl))
          (pss_one (ps_asg pe_bl (pg_sub (pv 3) (pe_op op_add (pe_ix ix_tup (pv 4) pe_int (fun _ _ => rfl)) (pv 5)) set_list))))))
      (pss_cons (ps_set (i := 6) scFree.nd rfl (.inl rfl) (pe_lst pa_nil))
      (pss_cons (ps_set (i := 7) scFree.nd rfl (.inl rfl) pe_int)
      (pss_cons (ps_for PassesOwn.never rfl (pi_range1 (by rfl) T.range (pa_cons (pv 0) pa_nil)) (pg_name (i := 8) scFree.nd rfl (.inl rfl))
        (pss_cons (ps_set (i := 7) scFree.nd rfl (.inl rfl) (pe_op op_add (pv 7) pe_int))
        (pss_cons (ps_if (pt_val (pe_ix ix_list (pv 3) (pv 8) (fun _ _ => rfl))) (pss_one (ps_set (i := 7) scFree.nd rfl (.inl rfl) pe_int)) pss_nil)
        (pss_one (ps_if (pt_cmpR op_ge (pv 7) (pv 2) (nomark _)) (pss_one (ps_expr (pe_bm PySem.F.plainAttrs_list PySem.F.slot_list_append PySem.F.type_list_append
          mt_append (pv 6) (pa_cons (pe_op op_add (pe_op op_sub (pv 8) (pv 2)) pe_int) pa_nil)))) pss_nil)))))
      (pss_one (ps_ret (pv 6))))))), ?_⟩
    obtain ⟨ps, hp, hq⟩ := hl
    -- taken = [False] * cells
    refine ⟨small8 (show 1 ≤ 1000 by decide), fun z nz => ⟨_, rfl, z, _, _, rfl, rfl, upd_same, by omega, by omega, ?_, fun t nt => ?_⟩⟩
    · show 1 * ((c : Int)).toNat ≤ sizeLine
      exact small8 (by rw [Int.toNat_natCast]; omega)
    have s1 := (sNew (o := .lst [V.bl false]) nz)
    have s2 := s1.trans (sNew (o := .lst (List.replicate ((c : Int)).toNat [V.bl false]).flatten) nt)
    have nt0 : H t = none := s1.free nt
    -- for piece in layout
    refine ⟨_, rfl, a, rfl, ⟨_, SqT.of (s2 _ _ hp)⟩, for_tup (K := K) (a := a) (xs := ps.map V.ref) (fun i σ H' => ∃ y4 y5, σ = [some (.int (c : Int)), some (.ref a), some (.int (size : Int)), some (.ref t), y4, y5, none, none, none] ∧
        Same H H' ∧ H' t = some (.lst (((L.take i).foldl layRow (List.replicate c false)).map V.bl)))
      ⟨none, none, rfl, s2, ?_⟩ (fun i σ H' _ ⟨_, _, _, sm, _⟩ => SqT.of (sm _ _ hp)) ?_ ?_⟩
    · rw [upd_same, rep_one, Int.toNat_natCast, List.take_zero, List.foldl_nil, List.map_replicate]
    · rintro i y σ H' hi ⟨y4, y5, rfl, sm, ht⟩
      obtain ⟨b, p, rfl, _, hL, hb⟩ := lay_item hq hi
      have hpm : p ∈ L := List.mem_of_getElem? hL
      have hpc := hwf p hpm
      refine ⟨_, rfl, b, _, _, _, rfl, rfl, SqT.of (sm _ _ hb), item1, _, rfl, by omega, by omega, for_range (lo := 0) (n := p.2) (fun k σ H2 => ∃ y5, σ = [some (.int (c : Int)), some (.ref a), some (.int (size : Int)), some (.ref t), some (.ref b), y5, none, none, none] ∧
        Same H H2 ∧ H2 t = some (.lst ((rowTo ((L.take i).foldl layRow (List.replicate c false)) p.1 k).map V.bl)))
        ⟨y5, rfl, sm, ht⟩ ?_ ?_⟩
      · rintro k σ H2 hk ⟨y5, rfl, sm2, ht2⟩
        rw [Int.zero_add]
        have hlen : (rowTo ((L.take i).foldl layRow (List.replicate c false)) p.1 k).length = c := by
          rw [rowTo_len, rows_len, List.length_replicate]
        refine ⟨_, rfl, _, rfl, b, _, _, _, rfl, rfl, SqT.of (sm2 _ _ hb), item0, _, rfl, _, _, rfl, rfl, t, _, _, p.1 + k, rfl, rfl, ht2, ?_, _, rfl, sOver sm2 nt0, ?_⟩
        · rw [List.length_map, hlen, show ((p.1 : Int) + (k : Int)) = ((p.1 + k : Nat) : Int) by omega]
          exact ixN_nat (by omega)
        · rw [upd_same, set_map, rowTo_succ]
      · rintro σ H2 ⟨y5, rfl, sm2, ht2⟩
        refine ⟨_, _, rfl, sm2, ?_⟩
        rw [ht2, rowTo_all, take_snoc hL, List.foldl_append, List.foldl_cons, List.foldl_nil]
    · rintro σ H' ⟨y4, y5, rfl, sm, ht⟩
      rw [paired_len hq, List.take_length] at ht
      -- found = []; run = 0
      refine ⟨Nat.zero_le _, fun f nf => ?_⟩
      have nf0 : H f = none := sm.free nf
      have htf : t ≠ f := ne_of_none ht nf
      have sm1 : Same H (upd H' f (.lst [])) := sOver sm nf0
      refine ⟨_, rfl, _, rfl, by omega, by omega, for_range (lo := 0) (n := c) (fun i σ H2 => ∃ y8, σ = [some (.int (c : Int)), some (.ref a), some (.int (size : Int)), some (.ref t), y4, y5, some (.ref f), some (.int ((freeTo size (takenM c L) i).2 : Int)), y8] ∧
        Same H H2 ∧ H2 t = some (.lst ((takenM c L).map V.bl)) ∧ H2 f = some (.lst (nats (freeTo size (takenM c L) i).1)))
        ⟨none, rfl, sm1, ?_, (upd_same : upd H' f (.lst []) f = _)⟩ ?_ ?_⟩
      · rw [upd_ne htf]
        exact ht
      · rintro i σ H2 hi ⟨y8, rfl, sm2, ht2, hf2⟩
        rw [Int.zero_add]
        have hle := freeTo_le size (takenM c L) i
        refine ⟨_, rfl, _, _, rfl, rfl, _, rfl, _, rfl, t, _, _, _, rfl, rfl, SqL.of ht2, atB (by rw [taken_len]; exact hi), _, rfl, ?_⟩
        have est := freeTo_succ size (takenM c L) i
        have fin : ∀ (r : Nat) (z : Int), z = (r : Int) → r = runM (takenM c L) i (freeTo size (takenM c L) i).2 → r ≤ i + 1 → ∀ H3, H3 f = some (.lst (nats (if size ≤ r then (freeTo size (takenM c L) i).1 ++ [i + 1 - size] else (freeTo size (takenM c L) i).1))) → Same H H3 → H3 t = some (.lst ((takenM c L).map V.bl)) →
            ∃ y8, [some (.int (c : Int)), some (.ref a), some (.int (size : Int)), some (.ref t), y4, y5, some (.ref f), some (.int z), some (.int (i : Int))] = [some (.int (c : Int)), some (.ref a), some (.int (size : Int)), some (.ref t), y4, y5, some (.ref f), some (V.int ((freeTo size (takenM c L) (i + 1)).2 : Int)), y8] ∧
              Same H H3 ∧ H3 t = some (.lst ((takenM c L).map V.bl)) ∧ H3 f = some (.lst (nats (freeTo size (takenM c L) (i + 1)).1)) := by
          intro r z ez er _ H3 h1 h2 h3
          subst ez
          refine ⟨some (.int (i : Int)), ?_, h2, h3, ?_⟩
          · rw [est]
            unfold freeStep
            rw [← er]
          · rw [est, h1]
            unfold freeStep
            rw [← er]
        refine ite2 (fun hb => ?_) (fun hb => ?_)
        · have er : 0 = runM (takenM c L) i (freeTo size (takenM c L) i).2 := by
            unfold runM
            rw [if_pos hb]
          refine ⟨_, rfl, _, rfl, _, _, rfl, rfl, _, rfl, ?_⟩
          refine ite2 (fun hs => ?_) (fun hs => ?_)
          · have hs' : size ≤ 0 := by have := of_decide_eq_true hs; omega
            refine ⟨_, rfl, .inl ⟨rfl, _, SqL.of hf2⟩, _, rfl, _, rfl, _, _, rfl, rfl, _, _, rfl, rfl, f, _, _, rfl, rfl, hf2, ?_, ?_⟩
            · rw [nats_len]
              exact small1000 (by omega)
            · refine fin 0 0 rfl er (by omega) _ ?_ (sOver sm2 nf0) (by rw [upd_ne htf]; exact ht2)
              rw [upd_same, if_pos hs', nats_snoc]
              have : ((i : Int) - (size : Int) + 1) = ((i + 1 - size : Nat) : Int) := by omega
              show some (HO.lst (nats _ ++ [V.int ((i : Int) - (size : Int) + 1)])) = _
              rw [this]
          · have hs' : ¬ size ≤ 0 := fun z => hs (decide_eq_true (by omega))
            exact fin 0 0 rfl er (by omega) _ (by rw [hf2, if_neg hs']) sm2 ht2
        · have hb' : ¬ (takenM c L).getD i false = true := hb
          have er : (freeTo size (takenM c L) i).2 + 1 = runM (takenM c L) i (freeTo size (takenM c L) i).2 := by
            unfold runM
            rw [if_neg hb']
          refine ⟨_, rfl, _, rfl, _, _, rfl, rfl, _, rfl, ?_⟩
          refine ite2 (fun hs => ?_) (fun hs => ?_)
          · have hs' : size ≤ (freeTo size (takenM c L) i).2 + 1 := by have := of_decide_eq_true hs; omega
            refine ⟨_, rfl, .inl ⟨rfl, _, SqL.of hf2⟩, _, rfl, _, rfl, _, _, rfl, rfl, _, _, rfl, rfl, f, _, _, rfl, rfl, hf2, ?_, ?_⟩
            · rw [nats_len]
              exact small1000 (by omega)
            · refine fin ((freeTo size (takenM c L) i).2 + 1) _ (by omega) er (by omega) _ ?_ (sOver sm2 nf0) (by rw [upd_ne htf]; exact ht2)
              rw [upd_same, if_pos hs', nats_snoc]
              have : ((i : Int) - (size : Int) + 1) = ((i + 1 - size : Nat) : Int) := by omega
              show some (HO.lst (nats _ ++ [V.int ((i : Int) - (size : Int) + 1)])) = _
              rw [this]
          · have hs' : ¬ size ≤ (freeTo size (takenM c L) i).2 + 1 := fun z => hs (decide_eq_true (by omega))
            exact fin ((freeTo size (takenM c L) i).2 + 1) _ (by omega) er (by omega) _ (by rw [hf2, if_neg hs']) sm2 ht2
      · rintro σ H2 ⟨y8, rfl, sm2, ht2, hf2⟩
        exact ⟨_, rfl, q _ f sm2 nf0 hf2⟩
end
end L2.SW
namespace L2.SW
open SM PySem PySem.Spec PyProof.Rows
theorem lays_item {H : Hp} {as : List Addr} {Ls : List Layt} (hq : LaysAt H as Ls) {i : Nat} {x : V} (hi : (as.map V.ref)[i]? = some x) : ∃ b L, x = .ref b ∧ as[i]? = some b ∧ Ls[i]? = some L ∧ LayAt H b L := by
  rw [List.getElem?_map] at hi
  cases e : as[i]? with
  | none => rw [e] at hi; cases hi
  | some b =>
    rw [e] at hi
    obtain ⟨p, h1, h2⟩ := Paired.get hq e
    exact ⟨b, p, (Option.some.inj hi).symm, rfl, h1, h2⟩
theorem lays_len {as : List Addr} {H : Hp} {Ls : List Layt} (hq : LaysAt H as Ls) : (as.map V.ref).length = Ls.length := by
  rw [List.length_map, Paired.length hq]
theorem min3 (x y z : Int) : ∃ m : Int, nuMin3 (.int x) (.int y) (.int z) = some (.int m) ∧ m = min (min x y) z := by
  have e2 : ∀ x y : Int, nuMin2 (.int x) (.int y) = some (.int (if y < x then y else x)) := by
    intro x y
    show (some (decide (y < x))).map _ = _
    by_cases h : y < x
    · rw [decide_eq_true h, if_pos h]; rfl
    · rw [decide_eq_false h, if_neg h]; rfl
  refine ⟨if z < (if y < x then y else x) then z else (if y < x then y else x), ?_, ?_⟩
  · unfold nuMin3
    rw [e2]
    show nuMin2 _ _ = _
    rw [e2]
  · split
    · split at * <;> omega
    · split at * <;> omega
section
variable {P : Program} {w : World} {K : PySem.W.Frag} {mg : Str → Option Value} {base : Heap}
/-! ### all_layouts -/
theorem PT.weak {X : Cx} {e : Expr} {t t' : TT} (h : PT X e t) (k : ∀ σ H Q, t' σ H Q → t σ H Q) : PT X e t' := ⟨fun pins s σ H Q I q => h.run pins s σ H Q I (k σ H Q q)⟩
theorem PE.weak {X : Cx} {e : Expr} {t t' : TE} (h : PE X e t) (k : ∀ σ H Q, t' σ H Q → t σ H Q) : PE X e t' := ⟨fun pins s σ H Q I q => h.run pins s σ H Q I (k σ H Q q)⟩
/-- a layout's last cell against a cell -/
def tEnd (iL iA : Nat) : TT := fun σ H Q => ∃ b L i, σ[iL]? = some (some (.ref b)) ∧ σ[iA]? = some (some (.int ((i : Nat) : Int))) ∧ LayAt H b L ∧ Q (decide (i < endM L)) H
theorem endM_snoc (L : Layt) (p : Nat × Nat) : endM (L ++ [p]) = p.1 + p.2 := by
  unfold endM
  rw [List.getLast?_append]
  rfl
theorem lay_snoc {H : Hp} {b : Addr} {L : Layt} (h : LayAt H b L) : L = [] ∧ H b = some (.tup []) ∨ ∃ (L' : Layt) (p : Nat × Nat) (ps : List Addr) (b' : Addr), L = L' ++ [p] ∧ H b = some (.tup (ps.map V.ref ++ [V.ref b'])) ∧ PairAt H b' p := by
  obtain ⟨ps, hp, hq⟩ := h
  rcases List.eq_nil_or_concat L with e | ⟨L', p, e⟩
  · subst e
    cases hq
    exact .inl ⟨rfl, hp⟩
  · refine .inr ?_
    rw [List.concat_eq_append] at e
    subst e
    have hl := hq.length
    rw [List.length_append, List.length_singleton] at hl
    rcases List.eq_nil_or_concat ps with e | ⟨ps', b', e⟩
    · rw [e] at hl; simp at hl
    · rw [List.concat_eq_append] at e
      subst e
      have hi : (ps' ++ [b'])[ps'.length]? = some b' := by simp
      obtain ⟨r, h1, h2⟩ := Paired.get hq hi
      have : ps'.length = L'.length := by
        rw [List.length_append, List.length_singleton] at hl
        omega
      rw [this] at h1
      have h1' : (L' ++ [p])[L'.length]? = some p := by simp
      rw [h1'] at h1
      cases h1
      exact ⟨L', p, ps', b', rfl, by rw [hp, refs_snoc], h2⟩
def spAll : Sp := fun vs H Q _ => ∃ (c m t : Nat), vs = [.int (c : Int), .int (m : Int), .int (t : Int)] ∧ AllOk c m t ∧ c ≤ 900 ∧ m ≤ 900 ∧ t ≤ 900 ∧
  ∀ H' p as, Same H H' → H p = none → H' p = some (.lst (as.map V.ref)) → LaysAt H' as (allM c m t) → Q (.ref p) H'
theorem scAll : FnScope ["cells", "most", "top", "found", "at", "layout", "left", "long"] ["cells", "most", "top"] (defScope sAll) := ⟨rfl, rfl, rfl, by decide +kernel, rfl, by decide +kernel, by decide +kernel⟩
theorem ok_all (D : Df K mg "all_layouts" sAll ["cells", "most", "top"]) (DL : Df K mg "live_cells" sLive ["layout"]) (DW : Df K mg "with_piece" sWith ["layout", "at", "long"]) (T : Bl mg) : FnOk P w K mg base CX0 2 D.f D.fd ["cells", "most", "top"] spAll := by
  have GL : FnOk P w K mg base CX0 1 DL.f DL.fd ["layout"] spLive := ok_live DL T
  have GW : FnOk P w K mg base CX0 1 DW.f DW.fd ["layout", "at", "long"] spWith := ok_with DW T
  refine D.F.ok scAll (fun vs H Q E h => ?_) (fun cdv A outer s H vs Q E hr h => ?_)
  · obtain ⟨c, m, t, rfl, _⟩ := h
    rfl
  · obtain ⟨c, m, t, rfl, hok, hc, hm, ht, q⟩ := h
    refine ⟨_, pss_cons (ps_set (i := 3) scAll.nd rfl (.inl rfl) (pe_lst (pa_cons (pe_tup pa_nil) pa_nil)))
      (pss_cons (ps_for PassesOwn.never rfl (pi_range1 (by rfl) T.range (pa_cons (pv 0) pa_nil)) (pg_name (i := 4) scAll.nd rfl (.inl rfl))
        (pss_one (ps_for PassesOwn.never rfl (pi_list (pe_callTy call_list_of (by rfl) T.list (by decide +kernel) (pa_cons (pv 3) pa_nil))) (pg_name (i := 5) scAll.nd rfl (.inl rfl))
          (pss_cons (ps_if (PT.weak (t' := tEnd 5 4) (PW.pt (pw_and (pt_cmpR op_gt (pe_callB call_len_seq (by rfl) T.len PySem.boot_len (pa_cons (pv 5) pa_nil)) pe_int (nomark _))
              (pw_and1 (pt_cmpR op_gt (pe_op op_add (pe_ix ix_tup (pe_ix ix_tup (pv 5) (pe_un un_neg pe_int) (fun _ _ => rfl)) pe_int (fun _ _ => rfl)) (pe_ix ix_tup (pe_ix ix_tup (pv 5) (pe_un un_neg pe_int) (fun _ _ => rfl)) pe_int (fun _ _ => rfl))) (pv 4) (nomark _))))) (fun σ H Q => by
              rintro ⟨b, L, i, e5, e4, hb, q⟩
              rcases lay_snoc hb with ⟨rfl, hp⟩ | ⟨L', p, ps, b', rfl, hp, hb'⟩
              · exact ⟨_, e5, b, _, rfl, .inr (SqT.of hp), _, _, rfl, rfl, _, rfl, q⟩
              · refine ⟨_, e5, b, _, rfl, .inr (SqT.of hp), _, _, rfl, rfl, _, rfl, ?_⟩
                have hpos : decide ((0 : Int) < ((ps.map V.ref ++ [V.ref b']).length : Int)) = true := decide_eq_true (by rw [List.length_append, List.length_singleton]; omega)
                show (if decide ((0 : Int) < ((ps.map V.ref ++ [V.ref b']).length : Int)) = true then _ else _)
                rw [if_pos hpos]
                refine ⟨_, e5, _, rfl, b, _, _, _, rfl, rfl, SqT.of hp, atI_last _ _, b', _, _, _, rfl, rfl, SqT.of hb', item0, _, e5, _, rfl, b, _, _, _, rfl, rfl, SqT.of hp, atI_last _ _, b', _, _, _, rfl, rfl, SqT.of hb', item1, _, _, rfl, rfl, _, e4, _, _, rfl, rfl, _, rfl, ?_⟩
                rw [endM_snoc] at q
                have : decide ((i : Int) < (p.1 : Int) + (p.2 : Int)) = decide (i < p.1 + p.2) := decide_eq_decide.mpr (by omega)
                show Q (decide ((i : Int) < (p.1 : Int) + (p.2 : Int))) H
                rw [this]
                exact q)) (pss_one ps_continue) pss_nil)
          (pss_cons (ps_set (i := 6) scAll.nd rfl (.inl rfl) (pe_callB (call_min3Nu rfl) (by rfl) T.min (by decide +kernel) (pa_cons (pv 2) (pa_cons (pe_op op_sub (pv 0) (pv 4)) (pa_cons (pe_op op_sub (pv 1)
              (pe_call GL hr rfl DL.m DL.F.kp DL.b .nil pass0 (pa_cons (pv 5) pa_nil))) pa_nil)))))
          (pss_one (ps_for PassesOwn.never rfl (pi_range2 (by rfl) T.range (pa_cons pe_int (pa_cons (pe_op op_add (pv 6) pe_int) pa_nil))) (pg_name (i := 7) scAll.nd rfl (.inl rfl))
            (pss_one (ps_expr (pe_bm PySem.F.plainAttrs_list PySem.F.slot_list_append PySem.F.type_list_append mt_append (pv 3)
              (pa_cons (pe_call GW hr rfl DW.m DW.F.kp DW.b .nil pass0 (pa_cons (pv 5) (pa_cons (pv 4) (pa_cons (pv 7) pa_nil)))) pa_nil))))))))))) 
      (pss_one (ps_ret (pe_callB (cr_sortedLays hr.units) (by rfl) T.sorted (by decide +kernel) (pa_cons (pv 3) pa_nil))))), ?_⟩
    -- found = [()]
    refine ⟨small8 (show 0 ≤ 1000 by decide), fun e ne => ⟨small8 (show 1 ≤ 1000 by decide), fun f nf => ?_⟩⟩
    have s1 := sNew (o := .tup []) ne
    have s2 := s1.trans (sNew (o := .lst [V.ref e]) nf)
    have nf0 : H f = none := s1.free nf
    have he : LayAt (upd (upd H e (.tup [])) f (.lst [V.ref e])) e [] := ⟨[], sNew nf _ _ upd_same, .nil⟩
    -- for at in range(cells)
    refine ⟨_, rfl, _, rfl, by omega, by omega, for_range (lo := 0) (n := c) (fun i σ H' => ∃ y4 y5 y6 y7 as, σ = [some (.int (c : Int)), some (.int (m : Int)), some (.int (t : Int)), some (.ref f), y4, y5, y6, y7] ∧
        Same H H' ∧ H' f = some (.lst (as.map V.ref)) ∧ LaysAt H' as (stage c m t i))
      ⟨none, none, none, none, [e], rfl, s2, upd_same, .cons he .nil⟩ ?_ ?_⟩
    · rintro i σ H1 hi ⟨y4, y5, y6, y7, as, rfl, sm, hf, has⟩
      rw [Int.zero_add]
      -- for layout in list(found)
      refine ⟨_, rfl, f, _, rfl, .inl (SqL.of hf), fun l nl => ⟨l, rfl, ⟨_, SqL.of upd_same⟩, ?_⟩⟩
      have nl0 : H l = none := sm.free nl
      have hlf : f ≠ l := ne_of_none hf nl
      have hst := hok.stage (Nat.le_of_lt hi)
      have hst1 := hok.stage (Nat.succ_le_of_lt hi)
      rw [stage_succ] at hst1
      have hlay := has.keep (Tk.new (o := .lst (as.map V.ref)) nl)
      refine for_list (K := K) (a := l) (xs := as.map V.ref) (fun j σ H2 => ∃ y5 y6 y7 bs, σ = [some (.int (c : Int)), some (.int (m : Int)), some (.int (t : Int)), some (.ref f), some (.int (i : Int)), y5, y6, y7] ∧
        Same H H2 ∧ H2 l = some (.lst (as.map V.ref)) ∧ H2 f = some (.lst (bs.map V.ref)) ∧ LaysAt H2 as (stage c m t i) ∧ LaysAt H2 bs (part c m t i (stage c m t i) j))
        ⟨y5, y6, y7, as, rfl, sOver sm nl0, upd_same, by rw [upd_ne hlf]; exact hf, hlay, by rw [part_zero]; exact hlay⟩ (fun j σ H2 _ ⟨_, _, _, _, _, _, hl2, _⟩ => SqL.of hl2) ?_ ?_
      · rintro j x σ H2 hj ⟨y5, y6, y7, bs, rfl, sm2, hl2, hf2, has2, hbs2⟩
        obtain ⟨b, L, rfl, _, hL, hb⟩ := lays_item has2 hj
        have hLm := hst.2 L (List.mem_of_getElem? hL)
        have hps := part_succ c m t i (stage c m t i) hL
        obtain ⟨ps, hp, hq⟩ := id hb
        have hpl := paired_len hq
        have hgr : ¬ i < endM L → growM c m t i L = (List.range (leftM c m t i L)).map fun k => withM L i (k + 1) := fun h => by
          unfold growM
          rw [if_neg h]
        have hpl := part_le c m t i (stage c m t i) (j + 1)
        refine ⟨b, L, i, rfl, rfl, hb, ite2 (fun he => ?_) (fun he => ?_)⟩
        · have he' := of_decide_eq_true he
          refine ⟨_, _, _, bs, rfl, sm2, hl2, hf2, has2, ?_⟩
          rw [hps]
          unfold growM
          rw [if_pos he', List.append_nil]
          exact hbs2
        · have he' : ¬ i < endM L := fun z => he (decide_eq_true z)
          rw [hps, hgr he', List.length_append, List.length_map, List.length_range] at hpl
          -- left = min(..)
          refine ⟨_, rfl, _, rfl, _, rfl, _, _, rfl, rfl, _, rfl, _, rfl, b, L, rfl, hb, by omega, fun H3 sm3 => ⟨_, _, rfl, rfl, ?_⟩⟩
          obtain ⟨z, hz, ez⟩ := min3 (t : Int) ((c : Int) - (i : Int)) ((m : Int) - (liveM L : Int))
          have ezl : (z + 1 - 1).toNat = leftM c m t i L := by
            unfold leftM
            omega
          refine ⟨_, _, _, _, rfl, hz, ?_⟩
          refine ⟨_, rfl, _, _, rfl, rfl, _, _, rfl, ⟨by omega, by omega, by omega, by omega⟩, ?_⟩
          have hcur := hbs2.keep (Same_tk sm3)
          have nf3 : H3 f = some (.lst (bs.map V.ref)) := sm3 _ _ hf2
          refine for_range (lo := 1) (n := (z + 1 - 1).toNat) (fun k σ H4 => ∃ y7 ds, σ = [some (.int (c : Int)), some (.int (m : Int)), some (.int (t : Int)), some (.ref f), some (.int (i : Int)), some (.ref b), some (.int z), y7] ∧
            Same H H4 ∧ H4 l = some (.lst (as.map V.ref)) ∧ H4 f = some (.lst (ds.map V.ref)) ∧ LaysAt H4 as (stage c m t i) ∧ LayAt H4 b L ∧ LaysAt H4 ds (part c m t i (stage c m t i) j ++ (List.range k).map fun k => withM L i (k + 1)))
            ⟨y7, bs, rfl, sm2.trans sm3, sm3 _ _ hl2, nf3, has2.keep (Same_tk sm3), hb.keep (Same_tk sm3), by rw [List.range_zero, List.map_nil, List.append_nil]; exact hcur⟩ ?_ ?_
          · rintro k σ H4 hk ⟨y7, ds, rfl, sm4, hl4, hf4, has4, hb4, hds4⟩
            rw [ezl] at hk
            have hdl := hds4.length
            rw [List.length_append, List.length_map, List.length_range] at hdl
            refine ⟨_, rfl, .inl ⟨rfl, _, SqL.of hf4⟩, _, rfl, _, rfl, _, rfl, b, L, i, k + 1, ?_, hb4, by omega, fun H5 p sm5 hp5 => ?_⟩
            · rw [show ((1 : Int) + (k : Int)) = ((k + 1 : Nat) : Int) by omega]
              rfl
            have hf5 := sm5 _ _ hf4
            refine ⟨f, _, _, rfl, rfl, hf5, by rw [List.length_map]; exact small1000 (by omega), ?_⟩
            have tk : Tk H5 (upd H5 f (.lst (ds.map V.ref ++ [V.ref p]))) := Tk.over hf5 (fun xs q => nomatch q)
            refine ⟨_, ds ++ [p], rfl, sOver (sm4.trans sm5) nf0, ?_, by rw [upd_same, refs_snoc], (has4.keep (Same_tk sm5)).keep tk, (hb4.keep (Same_tk sm5)).keep tk, ?_⟩
            · rw [upd_ne hlf.symm]
              exact sm5 _ _ hl4
            · rw [List.range_succ, List.map_append, ← List.append_assoc]
              exact Paired.snoc1 ((hds4.keep (Same_tk sm5)).keep tk) (hp5.keep tk)
          · rintro σ H4 ⟨y7, ds, rfl, sm4, hl4, hf4, has4, hb4, hds4⟩
            refine ⟨_, _, _, ds, rfl, sm4, hl4, hf4, has4, ?_⟩
            rw [hps, hgr he', ← ezl]
            exact hds4
      · rintro σ H2 ⟨y5, y6, y7, bs, rfl, sm2, hl2, hf2, has2, hbs2⟩
        rw [lays_len has2, part_all] at hbs2
        exact ⟨_, _, _, _, bs, rfl, sm2, hf2, by rw [stage_succ]; exact hbs2⟩
    · rintro σ H1 ⟨y4, y5, y6, y7, as, rfl, sm, hf, has⟩
      refine ⟨_, rfl, f, as, stage c m t c, rfl, SqL.of hf, has, stage_head c m t c, fun z as' nz hs => ?_⟩
      exact q _ z as' (sm.trans (sNew nz)) (sm.free nz) upd_same (LaysAt.keep (Tk.new nz) hs)
end
end L2.SW
namespace L2.SW
open SM PySem PySem.Spec PyProof.Rows
abbrev sAsk : Stmt := topS 7
abbrev sPlace : Stmt := topS 8
abbrev sDeed : Stmt := topS 9
abbrev sFoe : Stmt := topS 10
abbrev sSafe : Stmt := topS 11
abbrev sNeed : Stmt := topS 12
def deedS : Bool → Str
  | true => "give"
  | false => "ask"
def DeedAt (H : Hp) (v : V) (d : Deed) : Prop := ∃ q, v = .ref q ∧ H q = some (.tup [.str (deedS d.1), .int (d.2 : Int)])
def WR : Hp → V → Nat × Deed → Prop := fun H v b => ∃ p x, v = .ref p ∧ H p = some (.tup [.int (b.1 : Int), x]) ∧ DeedAt H x b.2
theorem WR_no : NoExt WR := by
  rintro H H' v b k ⟨p, x, rfl, h1, q, rfl, h2⟩
  exact ⟨p, _, rfl, k _ _ h1 (fun φ z => nomatch z), q, rfl, k _ _ h2 (fun φ z => nomatch z)⟩
def oV : Option Nat → V
  | none => .non
  | some a => .int (a : Int)
theorem nats_item {ns : List Nat} {i : Nat} {x : V} (h : (nats ns)[i]? = some x) : ∃ a, x = .int ((a : Nat) : Int) ∧ ns[i]? = some a := by
  unfold nats at h
  rw [List.getElem?_map] at h
  cases e : ns[i]? with
  | none => rw [e] at h; cases h
  | some a =>
    rw [e] at h
    exact ⟨a, (Option.some.inj h).symm, rfl⟩
section
variable {P : Program} {w : World} {K : PySem.W.Frag} {mg : Str → Option Value} {base : Heap}
/-! ### askable -/
def spAsk : Sp := fun vs H Q _ => ∃ (a : Addr) (L : Layt) (m t : Nat), vs = [.ref a, .int (m : Int), .int (t : Int)] ∧ LayAt H a L ∧ Q (.int (askM L m t : Int)) H
theorem scAsk : FnScope ["layout", "most", "top", "live", "piece"] ["layout", "most", "top"] (defScope sAsk) := ⟨rfl, rfl, rfl, by decide +kernel, rfl, by decide +kernel, by decide +kernel⟩
theorem live_snoc (L : Layt) (p : Nat × Nat) : liveM (L ++ [p]) = liveM L + p.2 := by
  unfold liveM
  rw [List.map_append, List.sum_append]
  rfl
theorem ok_ask (D : Df K mg "askable" sAsk ["layout", "most", "top"]) (T : Bl mg) : FnOk P w K mg base CX0 1 D.f D.fd ["layout", "most", "top"] spAsk := by
  refine D.F.ok scAsk (fun vs H Q E h => ?_) (fun cdv A outer s H vs Q E hr h => ?_)
  · obtain ⟨a, L, m, t, rfl, _⟩ := h
    rfl
  · obtain ⟨a, L, m, t, rfl, hl, q⟩ := h
    refine ⟨_, pss_cons (ps_set (i := 3) scAsk.nd rfl (.inl rfl) pe_int)
      (pss_cons (ps_for PassesOwn.never rfl (pi_tup (pv 0)) (pg_name (i := 4) scAsk.nd rfl (.inl rfl))
        (pss_one (ps_set (i := 3) scAsk.nd rfl (.inl rfl) (pe_op op_add (pv 3) (pe_ix ix_tup (pv 4) pe_int (fun _ _ => rfl))))))
      (pss_one (ps_ret (pe_callB (call_max2 rfl) (by rfl) T.max (by decide +kernel) (pa_cons pe_int (pa_cons (pe_callB (call_min2 rfl) (by rfl) T.min (by decide +kernel) (pa_cons (pv 2) (pa_cons (pe_op op_sub (pv 1) (pv 3)) pa_nil))) pa_nil)))))), ?_⟩
    obtain ⟨ps, hp, hq⟩ := hl
    refine ⟨_, rfl, a, rfl, ⟨_, SqT.of hp⟩, for_tup (K := K) (a := a) (xs := ps.map V.ref) (fun i σ H' => ∃ y4, σ = [some (.ref a), some (.int (m : Int)), some (.int (t : Int)), some (.int (liveM (L.take i) : Int)), y4] ∧ H' = H)
      ⟨none, rfl, rfl⟩ (fun i σ H' _ ⟨_, _, e⟩ => SqT.of (by rw [e]; exact hp)) ?_ ?_⟩
    · rintro i y σ H' hi ⟨y4, rfl, rfl⟩
      obtain ⟨b, p, rfl, _, hL, hb⟩ := lay_item hq hi
      refine ⟨_, rfl, _, rfl, b, _, _, _, rfl, rfl, SqT.of hb, item1, _, _, rfl, rfl, some (.ref b), ?_, rfl⟩
      rw [take_snoc hL, live_snoc]
      rw [show ((liveM (L.take i) + p.2 : Nat) : Int) = (liveM (L.take i) : Int) + (p.2 : Int) by omega]
      rfl
    · rintro σ H' ⟨y4, rfl, rfl⟩
      rw [paired_len hq, List.take_length]
      refine ⟨_, rfl, _, rfl, _, rfl, _, _, rfl, rfl, _, _, rfl, _, _, rfl, ?_⟩
      have e : (if (if ((m : Int) - (liveM L : Int)) < (t : Int) then ((m : Int) - (liveM L : Int)) else (t : Int)) > 0 then (if ((m : Int) - (liveM L : Int)) < (t : Int) then ((m : Int) - (liveM L : Int)) else (t : Int)) else 0) = (askM L m t : Int) := by
        unfold askM
        split <;> split <;> omega
      show Q (.int (if (if ((m : Int) - (liveM L : Int)) < (t : Int) then ((m : Int) - (liveM L : Int)) else (t : Int)) > 0 then (if ((m : Int) - (liveM L : Int)) < (t : Int) then ((m : Int) - (liveM L : Int)) else (t : Int)) else 0)) _
      rw [e]
      exact q
/-! ### place_that_holds -/
def spPlace (P : Program) (w : World) : Sp := fun vs H Q _ => ∃ (c size : Nat) (a d : Addr) (L : Layt) (lost : Lost) (n : Nat), vs = [.int (c : Int), .ref a, .int (size : Int), .ref d] ∧ LayAt H a L ∧ (∀ p ∈ L, p.1 + p.2 ≤ c) ∧ c ≤ 900 ∧ L.length ≤ 800 ∧ DRep P w WR H d (look lost) n ∧
  ∀ H', Same H H' → Q (oV (placeM c L size lost)) H'
theorem scPlace : FnScope ["cells", "layout", "size", "lost", "at"] ["cells", "layout", "size", "lost"] (defScope sPlace) := ⟨rfl, rfl, rfl, by decide +kernel, rfl, by decide +kernel, by decide +kernel⟩
theorem ok_place (D : Df K mg "place_that_holds" sPlace ["cells", "layout", "size", "lost"]) (DF : Df K mg "free_places" sFree ["cells", "layout", "size"]) (DW : Df K mg "with_piece" sWith ["layout", "at", "long"]) (T : Bl mg) :
    FnOk P w K mg base CX0 2 D.f D.fd ["cells", "layout", "size", "lost"] (spPlace P w) := by
  have GF : FnOk P w K mg base CX0 1 DF.f DF.fd ["cells", "layout", "size"] spFree := ok_free DF T
  have GW : FnOk P w K mg base CX0 1 DW.f DW.fd ["layout", "at", "long"] spWith := ok_with DW T
  refine D.F.ok scPlace (fun vs H Q E h => ?_) (fun cdv A outer s H vs Q E hr h => ?_)
  · obtain ⟨c, size, a, d, L, lost, n, rfl, _⟩ := h
    rfl
  · obtain ⟨c, size, a, d, L, lost, n, rfl, hl, hwf, hc, hlen, hd, q⟩ := h
    refine ⟨_, pss_cons (ps_for PassesOwn.never rfl (pi_list (pe_call GF hr rfl DF.m DF.F.kp DF.b .nil pass0 (pa_cons (pv 0) (pa_cons (pv 1) (pa_cons (pv 2) pa_nil))))) (pg_name (i := 4) scPlace.nd rfl (.inl rfl))
        (pss_one (ps_if (pt_cmpR (op_notInN hr.units) (pe_call GW hr rfl DW.m DW.F.kp DW.b .nil pass0 (pa_cons (pv 1) (pa_cons (pv 4) (pa_cons (pv 2) pa_nil)))) (pv 3) (by rfl)) (pss_one (ps_ret (pv 4))) pss_nil)))
      (pss_one (ps_ret pe_non)), ?_⟩
    refine ⟨_, rfl, _, rfl, _, rfl, c, size, a, L, rfl, hl, hwf, hc, fun H1 f s1 nf hf => ⟨f, rfl, ⟨_, SqL.of hf⟩, ?_⟩⟩
    refine for_list (K := K) (a := f) (xs := nats (freeM c L size)) (fun i σ H' => ∃ y4, σ = [some (.int (c : Int)), some (.ref a), some (.int (size : Int)), some (.ref d), y4] ∧ Same H H' ∧ H' f = some (.lst (nats (freeM c L size))) ∧
        ((freeM c L size).take i).find? (fun a => (look lost (withM L a size)).isNone) = none)
      ⟨none, rfl, s1, hf, rfl⟩ (fun i σ H' _ ⟨_, _, _, hf', _⟩ => SqL.of hf') ?_ ?_
    · rintro i x σ H' hi ⟨y4, rfl, sm, hf', hn⟩
      obtain ⟨z, rfl, hz⟩ := nats_item hi
      refine ⟨_, rfl, _, rfl, _, rfl, a, L, z, size, rfl, hl.keep (Same_tk sm), by omega, fun H2 p sm2 hp => ?_⟩
      have smm := sm.trans sm2
      refine ⟨_, rfl, p, d, withM L z size, _, rfl, rfl, hp, (hd.same WR_no smm).has _, _, rfl, ?_⟩
      cases e : look lost (withM L z size) with
      | none =>
        refine ⟨_, rfl, ?_⟩
        have : placeM c L size lost = some z := find_some_at hn hz (by rw [e]; rfl)
        have q' := q H2 smm
        rw [this] at q'
        exact q'
      | some b =>
        exact ⟨_, rfl, smm, sm2 _ _ hf', find_none_take hn hz (by rw [e]; rfl)⟩
    · rintro σ H' ⟨y4, rfl, sm, hf', hn⟩
      rw [nats_len, List.take_length] at hn
      have q' := q H' sm
      have : placeM c L size lost = none := hn
      rw [this] at q'
      exact q'
/-! ### deed_that_beats -/
def spDeed (P : Program) (w : World) : Sp := fun vs H Q _ => ∃ (c g : Nat) (a d : Addr) (L : Layt) (lost : Lost) (n : Nat), vs = [.int (c : Int), .ref a, .int (g : Int), .ref d] ∧ LayAt H a L ∧ (∀ p ∈ L, p.1 + p.2 ≤ c) ∧ c ≤ 900 ∧ g ≤ 900 ∧ L.length ≤ 800 ∧ DRep P w WR H d (look lost) n ∧
  (deedM c L g lost = none → ∀ H', Same H H' → Q .non H') ∧ ∀ b, deedM c L g lost = some b → ∀ H' q, Same H H' → H' q = some (.tup [.str (deedS b.1), .int (b.2 : Int)]) → Q (.ref q) H'
theorem scDeed : FnScope ["cells", "layout", "greatest", "lost", "piece", "size"] ["cells", "layout", "greatest", "lost"] (defScope sDeed) := ⟨rfl, rfl, rfl, by decide +kernel, rfl, by decide +kernel, by decide +kernel⟩
theorem ok_deed (D : Df K mg "deed_that_beats" sDeed ["cells", "layout", "greatest", "lost"]) (DO : Df K mg "without_piece" sWithout ["layout", "at"]) (DP : Df K mg "place_that_holds" sPlace ["cells", "layout", "size", "lost"])
    (DF : Df K mg "free_places" sFree ["cells", "layout", "size"]) (DW : Df K mg "with_piece" sWith ["layout", "at", "long"]) (T : Bl mg) : FnOk P w K mg base CX0 3 D.f D.fd ["cells", "layout", "greatest", "lost"] (spDeed P w) := by
  have GO : FnOk P w K mg base CX0 1 DO.f DO.fd ["layout", "at"] spWithout := ok_without DO T
  have GP : FnOk P w K mg base CX0 2 DP.f DP.fd ["cells", "layout", "size", "lost"] (spPlace P w) := ok_place DP DF DW T
  refine D.F.ok scDeed (fun vs H Q E h => ?_) (fun cdv A outer s H vs Q E hr h => ?_)
  · obtain ⟨c, g, a, d, L, lost, n, rfl, _⟩ := h
    rfl
  · obtain ⟨c, g, a, d, L, lost, n, rfl, hl, hwf, hc, hg, hlen, hd, qn, qs⟩ := h
    refine ⟨_, pss_cons (ps_for PassesOwn.never rfl (pi_tup (pv 1)) (pg_name (i := 4) scDeed.nd rfl (.inl rfl))
        (pss_one (ps_if (pt_cmpR (op_inN hr.units) (pe_call GO (hr.mono (by decide)) rfl DO.m DO.F.kp DO.b .nil pass0 (pa_cons (pv 1) (pa_cons (pe_ix ix_tup (pv 4) pe_int (fun _ _ => rfl)) pa_nil))) (pv 3) (by rfl))
          (pss_one (ps_ret (pe_tup (pa_cons pe_str (pa_cons (pe_ix ix_tup (pv 4) pe_int (fun _ _ => rfl)) pa_nil))))) pss_nil)))
      (pss_cons (ps_for PassesOwn.never rfl (pi_range2 (by rfl) T.range (pa_cons pe_int (pa_cons (pe_op op_add (pv 2) pe_int) pa_nil))) (pg_name (i := 5) scDeed.nd rfl (.inl rfl))
        (pss_one (ps_if (pt_cmpR op_isN (pe_call GP hr rfl DP.m DP.F.kp DP.b .nil pass0 (pa_cons (pv 0) (pa_cons (pv 1) (pa_cons (pv 5) (pa_cons (pv 3) pa_nil))))) pe_non (nomark _))
          (pss_one (ps_ret (pe_tup (pa_cons pe_str (pa_cons (pv 5) pa_nil))))) pss_nil)))
      (pss_one (ps_ret pe_non))), ?_⟩
    obtain ⟨ps, hp, hq⟩ := id hl
    refine ⟨_, rfl, a, rfl, ⟨_, SqT.of hp⟩, for_tup (K := K) (a := a) (xs := ps.map V.ref) (fun i σ H' => ∃ y4, σ = [some (.int (c : Int)), some (.ref a), some (.int (g : Int)), some (.ref d), y4, none] ∧ Same H H' ∧
        (L.take i).find? (fun p => (look lost (withoutM L p.1)).isSome) = none)
      ⟨none, rfl, Same.refl H, rfl⟩ (fun i σ H' _ ⟨_, _, sm, _⟩ => SqT.of (sm _ _ hp)) ?_ ?_⟩
    · rintro i y σ H' hi ⟨y4, rfl, sm, hn⟩
      obtain ⟨b, p, rfl, _, hL, hb⟩ := lay_item hq hi
      refine ⟨_, rfl, _, rfl, b, _, _, _, rfl, rfl, SqT.of (sm _ _ hb), item0, a, L, p.1, rfl, hl.keep (Same_tk sm), by omega, fun H2 z sm2 hz => ?_⟩
      have smm := sm.trans sm2
      refine ⟨_, rfl, z, d, withoutM L p.1, _, rfl, rfl, hz, (hd.same WR_no smm).has _, _, rfl, ?_⟩
      cases e : look lost (withoutM L p.1) with
      | none => exact ⟨_, rfl, smm, find_none_take hn hL (by rw [e]; rfl)⟩
      | some w =>
        refine ⟨_, rfl, b, _, _, _, rfl, rfl, SqT.of (smm _ _ hb), item0, small8 (show 2 ≤ 1000 by decide), fun v nv => ?_⟩
        have ef : L.find? (fun p => (look lost (withoutM L p.1)).isSome) = some p := find_some_at hn hL (by rw [e]; rfl)
        refine qs (true, p.1) ?_ _ v (smm.trans (sNew nv)) upd_same
        unfold deedM
        rw [ef]
    · rintro σ H' ⟨y4, rfl, sm, hn⟩
      rw [paired_len hq, List.take_length] at hn
      have eD : deedM c L g lost = match (List.range g).find? fun k => (placeM c L (k + 1) lost).isNone with
          | some k => some (false, k + 1)
          | none => none := by
        unfold deedM
        rw [hn] <;> rfl
      refine ⟨_, rfl, _, _, rfl, rfl, _, _, rfl, ⟨by omega, by omega, by omega, by omega⟩, ?_⟩
      have en : ((g : Int) + 1 - 1).toNat = g := by omega
      refine for_range (lo := 1) (n := ((g : Int) + 1 - 1).toNat) (fun k σ H2 => ∃ y5, σ = [some (.int (c : Int)), some (.ref a), some (.int (g : Int)), some (.ref d), y4, y5] ∧ Same H H2 ∧ ((List.range g).take k).find? (fun k => (placeM c L (k + 1) lost).isNone) = none)
        ⟨none, rfl, sm, rfl⟩ ?_ ?_
      · rintro k σ H2 hk ⟨y5, rfl, sm2, hn2⟩
        rw [en] at hk
        have hkk : (List.range g)[k]? = some k := by rw [List.getElem?_range hk]
        refine ⟨_, rfl, _, rfl, _, rfl, _, rfl, c, k + 1, a, d, L, lost, n, ?_, hl.keep (Same_tk sm2), hwf, hc, hlen, hd.same WR_no sm2, fun H3 sm3 => ?_⟩
        · rw [show ((1 : Int) + (k : Int)) = ((k + 1 : Nat) : Int) by omega]
          rfl
        have smm := sm2.trans sm3
        refine ⟨rfl, _, rfl, ?_⟩
        cases e : placeM c L (k + 1) lost with
        | none =>
          refine ⟨_, rfl, small8 (show 2 ≤ 1000 by decide), fun v nv => ?_⟩
          have ef := find_some_at hn2 hkk (show (placeM c L (k + 1) lost).isNone = true by rw [e]; rfl)
          refine qs (false, k + 1) ?_ _ v (smm.trans (sNew nv)) ?_
          · rw [eD, ef]
          · rw [upd_same]
            show some (HO.tup [_, V.int ((1 : Int) + (k : Int))]) = _
            rw [show ((1 : Int) + (k : Int)) = ((k + 1 : Nat) : Int) by omega]
            rfl
        | some z => exact ⟨_, rfl, smm, find_none_take hn2 hkk (by rw [e]; rfl)⟩
      · rintro σ H2 ⟨y5, rfl, sm2, hn2⟩
        rw [en, List.take_of_length_le (by rw [List.length_range]; exact Nat.le_refl _)] at hn2
        refine qn ?_ H2 sm2
        rw [eD, hn2]
end
end L2.SW
namespace L2.SW
open SM PySem PySem.Spec PyProof.Rows
theorem sOff {H1 H3 H' : Hp} {e : Addr} (k : Same H1 H3) (he : H1 e = none) (h : ∀ c, c ≠ e → H' c = H3 c) : Same H1 H' := fun b o hb => by
  rw [h b (ne_of_none hb he)]
  exact k b o hb
/-- no two layouts of the room hash alike -/
def HApart (w : World) (c m t : Nat) : Prop := ∀ L ∈ allM c m t, ∀ M ∈ allM c m t, (keyL L).hash w = (keyL M).hash w → L = M
theorem fallF_snoc (c m t rank : Nat) (lost : Lost) (l : List Layt) (L M : Layt) : fallF c m t rank lost (l ++ [L]) M = match deedM c L (askM L m t) lost with
    | none => fallF c m t rank lost l M
    | some d => fset (fallF c m t rank lost l) L (rank, d) M := by
  unfold fallF
  cases q : deedM c L (askM L m t) lost with
  | none =>
    show _ = if M ∈ l then _ else none
    by_cases h : M ∈ l
    · rw [if_pos h, if_pos (List.mem_append_left _ h)]
    · rw [if_neg h]
      by_cases e : M = L
      · subst e
        rw [q]
        split <;> rfl
      · rw [if_neg]
        intro z
        rcases List.mem_append.mp z with z | z
        · exact h z
        · exact e (List.mem_singleton.mp z)
  | some d =>
    show _ = fset _ L (rank, d) M
    unfold fset
    by_cases e : M = L
    · subst e
      rw [if_pos rfl, if_pos (List.mem_append_right _ (List.mem_singleton.mpr rfl)), q]
      rfl
    · rw [if_neg e]
      dsimp only
      by_cases h : M ∈ l
      · rw [if_pos h, if_pos (List.mem_append_left _ h)]
      · rw [if_neg h, if_neg]
        intro z
        rcases List.mem_append.mp z with z | z
        · exact h z
        · exact e (List.mem_singleton.mp z)
theorem restM_snoc (c m t : Nat) (lost : Lost) (l : List Layt) (L : Layt) : restM c m t lost (l ++ [L]) = restM c m t lost l ++ (if (deedM c L (askM L m t) lost).isNone = true then [L] else []) := by
  unfold restM
  rw [List.filter_append, List.filter_cons]
  rfl
/-- between the rounds -/
def FoeW (P : Program) (w : World) (H : Hp) (c m t : Nat) (d : Addr) : Nat → St → Hp → Prop := fun mm σ H' => ∃ (l : Addr) (rank : Nat) (more : Bool) (y7 y8 y9 : Option V) (as : List Addr) (left : List Layt) (lost : Lost) (n : Nat),
  σ = [some (.int (c : Int)), some (.int (m : Int)), some (.int (t : Int)), some (.ref d), some (.ref l), some (.int (rank : Int)), some (.bl more), y7, y8, y9] ∧ Same H H' ∧ H' l = some (.lst (as.map V.ref)) ∧ LaysAt H' as left ∧
  DRep P w WR H' d (look lost) n ∧ n + left.length ≤ 200 ∧ (∀ L ∈ left, L ∈ allM c m t) ∧ mm = (if more = true then left.length + 1 else 0) ∧
  (more = true → ∃ k, left.length < k ∧ foeLoop c m t k rank lost left = foeM c m t) ∧ (more = false → ∀ L, look lost L = look (foeM c m t) L)
section
variable {P : Program} {w : World} {K : PySem.W.Frag} {mg : Str → Option Value} {base : Heap}
def spFoe (P : Program) (w : World) : Sp := fun vs H Q _ => ∃ (c m t : Nat), vs = [.int (c : Int), .int (m : Int), .int (t : Int)] ∧ AllOk c m t ∧ HApart w c m t ∧ c ≤ 900 ∧ m ≤ 900 ∧ t ≤ 900 ∧
  ∀ H' d n, Same H H' → H d = none → n ≤ 200 → DRep P w WR H' d (look (foeM c m t)) n → Q (.ref d) H'
theorem scFoe : FnScope ["cells", "most", "top", "lost", "left", "rank", "more", "fallen", "layout", "deed"] ["cells", "most", "top"] (defScope sFoe) := ⟨rfl, rfl, rfl, by decide +kernel, rfl, by decide +kernel, by decide +kernel⟩
theorem ok_foe (D : Df K mg "foe_ways" sFoe ["cells", "most", "top"]) (DA : Df K mg "all_layouts" sAll ["cells", "most", "top"]) (DK : Df K mg "askable" sAsk ["layout", "most", "top"]) (DD : Df K mg "deed_that_beats" sDeed ["cells", "layout", "greatest", "lost"])
    (DL : Df K mg "live_cells" sLive ["layout"]) (DO : Df K mg "without_piece" sWithout ["layout", "at"]) (DP : Df K mg "place_that_holds" sPlace ["cells", "layout", "size", "lost"])
    (DF : Df K mg "free_places" sFree ["cells", "layout", "size"]) (DW : Df K mg "with_piece" sWith ["layout", "at", "long"]) (T : Bl mg) : FnOk P w K mg base CX0 4 D.f D.fd ["cells", "most", "top"] (spFoe P w) := by
  have GA : FnOk P w K mg base CX0 2 DA.f DA.fd ["cells", "most", "top"] spAll := ok_all DA DL DW T
  have GK : FnOk P w K mg base CX0 1 DK.f DK.fd ["layout", "most", "top"] spAsk := ok_ask DK T
  have GD : FnOk P w K mg base CX0 3 DD.f DD.fd ["cells", "layout", "greatest", "lost"] (spDeed P w) := ok_deed DD DO DP DF DW T
  refine D.F.ok scFoe (fun vs H Q E h => ?_) (fun cdv A outer s H vs Q E hr h => ?_)
  · obtain ⟨c, m, t, rfl, _⟩ := h
    rfl
  · obtain ⟨c, m, t, rfl, hok, hap, hc, hm, ht, q⟩ := h
    refine ⟨_, pss_cons (ps_set (i := 3) scFoe.nd rfl (.inl rfl) pe_dnewN)
      (pss_cons (ps_set (i := 4) scFoe.nd rfl (.inl rfl) (pe_call GA (hr.mono (by decide)) rfl DA.m DA.F.kp DA.b .nil pass0 (pa_cons (pv 0) (pa_cons (pv 1) (pa_cons (pv 2) pa_nil)))))
      (pss_cons (ps_set (i := 5) scFoe.nd rfl (.inl rfl) pe_int)
      (pss_cons (ps_set (i := 6) scFoe.nd rfl (.inl rfl) pe_bl)
      (pss_cons (ps_while PassesOwn.never (pt_val (pv 6))
        (pss_cons (ps_set (i := 7) scFoe.nd rfl (.inr rfl) pe_dnewN)
        (pss_cons (ps_for PassesOwn.never rfl (pi_list (pv 4)) (pg_name (i := 8) scFoe.nd rfl (.inl rfl))
          (pss_cons (ps_set (i := 9) scFoe.nd rfl (.inl rfl) (pe_call GD hr rfl DD.m DD.F.kp DD.b .nil pass0 (pa_cons (pv 0) (pa_cons (pv 8) (pa_cons (pe_call GK (hr.mono (by decide)) rfl DK.m DK.F.kp DK.b .nil pass0 (pa_cons (pv 8) (pa_cons (pv 1) (pa_cons (pv 2) pa_nil)))) (pa_cons (pv 3) pa_nil))))))
          (pss_one (ps_if (pt_cmpR op_notN (pv 9) pe_non (nomark _)) (pss_one (ps_asg (pe_tup (pa_cons (pv 5) (pa_cons (pv 9) pa_nil))) (pg_sub (pv 7) (pv 8) (set_N WR_no hr.units)))) pss_nil))))
        (pss_cons (ps_set (i := 6) scFoe.nd rfl (.inl rfl) (pe_cmpR op_gt (pe_callB (call_lenN (R := WR)) (by rfl) T.len PySem.boot_len (pa_cons (pv 7) pa_nil)) pe_int (nomark _)))
        (pss_cons (ps_expr (pe_mG tyN_ok PySem.F.plainAttrs_dict PySem.F.slot_dict_update PySem.F.type_dict_update (mt_updN WR_no hr.units) (pv 3) (pa_cons (pv 7) pa_nil)))
        (pss_cons (ps_setLc (i := 4) (own := [("layout", 8)]) (g := gName 8) rfl scFoe.nd rfl rfl (sw_true rfl rfl rfl (by decide +kernel)) (pi_list (pv 4)) (blkOk_by (N := ["cells", "most", "top", "lost", "left", "rank", "more", "fallen", "layout", "deed"]) (sc := defScope sFoe) (by decide +kernel))
            (fun _ _ _ _ _ => pg_name (i := 8) scFoe.nd rfl (Or.inl rfl)) (fun _ _ _ _ _ => pts_one (pt_cmpR (r := rInN P w true) (op_notInN hr.units) (pv 8) (pv 7) (by rfl))) (fun _ _ _ _ _ => pv 8))
        (pss_one (ps_set (i := 5) scFoe.nd rfl (.inl rfl) (pe_op op_add (pv 5) pe_int)))))))))
      (pss_one (ps_ret (pv 3))))))), ?_⟩
    have hfew : (allM c m t).length ≤ 200 := by rw [all_len]; exact hok.few
    have hlay : ∀ L ∈ allM c m t, L.length ≤ 8 ∧ liveM L ≤ m ∧ ∀ p ∈ L, p.1 + p.2 ≤ c ∧ 1 ≤ p.2 := fun L hL => hok.lay L (all_mem.mp hL)
    -- lost = {}; left = all_layouts(..); rank = 0; more = True
    refine fun d nd hds => ⟨_, rfl, _, rfl, _, rfl, c, m, t, rfl, hok, hc, hm, ht, fun H1 l as s1 nl hl1 has => ?_⟩
    have s0 : Same H H1 := (sNew nd).trans s1
    have hd1 : DRep P w WR H1 d (look ([] : Lost)) 0 := (DRep.empty hds).same WR_no s1
    refine ⟨FoeW P w H c m t d, ⟨_, l, 0, true, none, none, none, as, allM c m t, [], 0, rfl, s0, hl1, has, hd1, by omega, fun L hL => hL, rfl, fun _ => ⟨(allM c m t).length + 1, by omega, rfl⟩, fun z => nomatch z⟩, ?_⟩
    rintro mm σ H1 ⟨l, rank, more, y7, y8, y9, as, left, lost, n, rfl, s0, hl1, has, hd1, hn, hsub, hmm, hk, hend⟩
    refine ⟨_, rfl, more, rfl, ?_⟩
    cases more with
    | false => exact ⟨_, rfl, q H1 d n s0 nd (by omega) (hd1.congr (hend rfl))⟩
    | true =>
      obtain ⟨k, hkl, hkf⟩ := hk rfl
      rw [if_pos rfl] at hmm
      refine ⟨fun σ' H' => ∃ mm', mm' < mm ∧ FoeW P w H c m t d mm' σ' H', fun _ _ h => h, ?_⟩
      -- fallen = {}
      refine fun e ne hes => ?_
      have hde : d ≠ e := fun z => by rw [z] at hd1; obtain ⟨φ, hφ⟩ := hd1.at_; rw [ne] at hφ; cases hφ
      refine ⟨_, rfl, l, rfl, ⟨_, SqL.of (sNew ne _ _ hl1)⟩, for_list (K := K) (a := l) (xs := as.map V.ref) (fun i σ H3 => ∃ y8 y9, σ = [some (.int (c : Int)), some (.int (m : Int)), some (.int (t : Int)), some (.ref d), some (.ref l), some (.int (rank : Int)), some (.bl true), some (.ref e), y8, y9] ∧
          Same H1 H3 ∧ DRep P w WR H3 e (fallF c m t rank lost (left.take i)) (fallenM c m t rank lost (left.take i)).length)
        ⟨y8, y9, rfl, sNew ne, (DRep.empty hes).congr fun L => by unfold fallF; rw [List.take_zero]; rfl⟩ (fun i σ H3 _ ⟨_, _, _, sm, _⟩ => SqL.of (sm _ _ hl1)) ?_ ?_⟩
      · rintro i x σ H3 hi ⟨y8, y9, rfl, sm, he3⟩
        obtain ⟨b, L, rfl, _, hL, hb⟩ := lays_item has hi
        have hLm := List.mem_of_getElem? hL
        have hLa := hlay L (hsub L hLm)
        have hb3 := hb.keep (Same_tk sm)
        have hlen3 : (fallenM c m t rank lost (left.take i)).length ≤ left.length := by
          have h1 := fallen_len c m t rank lost (left.take i)
          rw [List.length_take] at h1
          omega
        refine ⟨_, rfl, _, rfl, _, rfl, _, rfl, _, rfl, b, L, m, t, rfl, hb3, _, rfl, c, askM L m t, b, d, L, lost, n, rfl, hb3, fun p hp => (hLa.2.2 p hp).1, hc, ?_, by omega, hd1.same WR_no sm, fun e0 H4 s4 => ?_, fun dd e1 H4 z s4 hz => ?_⟩
        · unfold askM
          omega
        · refine ⟨_, rfl, rfl, _, rfl, iteNS rfl ?_⟩
          refine ⟨_, _, rfl, sm.trans s4, ?_⟩
          have e2 : fallenM c m t rank lost (left.take (i + 1)) = fallenM c m t rank lost (left.take i) := by
            rw [take_snoc hL, fallen_snoc, e0]
            exact List.append_nil _
          rw [e2]
          refine (he3.same WR_no s4).congr fun M => ?_
          rw [take_snoc hL, fallF_snoc, e0]
        · refine ⟨_, rfl, rfl, _, rfl, ?_⟩
          show (if (!decide (V.ref z = V.non)) = true then _ else _)
          rw [if_pos (by rw [decide_eq_false (fun q => nomatch q)]; rfl)]
          refine ⟨_, rfl, _, rfl, small8 (show 2 ≤ 1000 by decide), fun v nv => ?_⟩
          have he5 := (he3.same WR_no s4).same WR_no (sNew (o := .tup [.int (rank : Int), .ref z]) nv)
          have s5 := s4.trans (sNew (o := .tup [.int (rank : Int), .ref z]) nv)
          refine ⟨_, rfl, _, rfl, e, b, L, (rank, dd), _, _, rfl, rfl, hb3.keep (Same_tk s5), he5, small1000 (by omega), ⟨v, .ref z, rfl, upd_same, z, rfl, sNew nv _ _ hz⟩, fun H6 hoff hD => ?_⟩
          refine ⟨_, _, rfl, sOff (sm.trans s5) ne hoff, ?_⟩
          have e2 : (fallenM c m t rank lost (left.take (i + 1))).length = (fallenM c m t rank lost (left.take i)).length + 1 := by
            rw [take_snoc hL, fallen_snoc, e1, List.length_append]
            rfl
          rw [e2]
          refine hD.congr fun M => ?_
          rw [take_snoc hL, fallF_snoc, e1]
      · rintro σ H3 ⟨y8, y9, rfl, sm, he3⟩
        rw [lays_len has, List.take_length] at he3
        have hlen3 := fallen_len c m t rank lost left
        -- more = len(fallen) > 0
        refine ⟨_, rfl, e, _, _, rfl, he3, small8 (by omega), fun kk hkk => ⟨_, _, rfl, rfl, ?_⟩⟩
        -- lost.update(fallen)
        refine ⟨_, rfl, ⟨d, _, rfl, ((hd1.same WR_no sm).raw).choose_spec⟩, _, rfl, d, e, look lost, fallF c m t rank lost left, n, _, rfl, rfl, hde, hd1.same WR_no sm, he3, small8 (by omega), .inr fun L M hL hM he => ?_, fun H6 hoff hD => ?_⟩
        · have hin : ∀ L, fallF c m t rank lost left L ≠ none → L ∈ allM c m t := fun L h => by
            unfold fallF at h
            by_cases z : L ∈ left
            · exact hsub L z
            · rw [if_neg z] at h; exact absurd rfl h
          exact hap L (hin L hL) M (hin M hM) he
        · have hd3 := hd1.same WR_no sm
          have hnd : ∀ a o, H3 a = some o → (∀ φ, o ≠ .ext φ) → a ≠ d := fun a o h1 h2 z => by
            obtain ⟨φ, hφ⟩ := hd3.at_
            rw [z, hφ] at h1
            exact h2 φ (Option.some.inj h1).symm
          have he6 : DRep P w WR H6 e (fallF c m t rank lost left) (fallenM c m t rank lost left).length :=
            he3.keep WR_no (hoff e hde.symm) fun a o h1 h2 => by rw [hoff a (hnd a o h1 h2)]; exact h1
          have tk6 : Tk H1 H6 := fun b xs h1 => by
            have h3 := sm _ _ h1
            rw [hoff b (hnd b _ h3 fun φ z => nomatch z)]
            exact h3
          have hl6 : H6 l = some (.lst (as.map V.ref)) := by
            have h3 := sm _ _ hl1
            rw [hoff l (hnd l _ h3 fun φ z => nomatch z)]
            exact h3
          have has6 := has.keep tk6
          have sH6 : Same H H6 := sOff (s0.trans sm) nd hoff
          refine ⟨_, rfl, l, rfl, ⟨_, SqL.of hl6⟩, fun N nN => lc_list (K := K) (a := l) (xs := as.map V.ref) (fun i H7 => Same H6 H7 ∧ ∃ bs, H7 N = some (.lst (bs.map V.ref)) ∧ LaysAt H7 bs (restM c m t lost (left.take i)) ∧ bs.length ≤ i)
            ⟨sNew nN, [], upd_same, .nil, Nat.le_refl _⟩ (fun i H7 _ ⟨s7, _⟩ => SqL.of (s7 _ _ hl6)) ?_ ?_⟩
          · rintro i x H7 hi ⟨s7, bs, hN, hbs, hbl⟩
            have hil : i < left.length := by
              have := (List.getElem?_eq_some_iff.mp hi).1
              rw [lays_len has6] at this
              exact this
            obtain ⟨b, L, rfl, _, hL, hb⟩ := lays_item has6 hi
            have hLm := List.mem_of_getElem? hL
            refine ⟨rfl, _, rfl, _, rfl, b, e, L, _, rfl, rfl, hb.keep (Same_tk s7), (he6.same WR_no s7).has L, _, rfl, ?_⟩
            have eb : (fallF c m t rank lost left L).isSome = (deedM c L (askM L m t) lost).isSome := by
              unfold fallF
              rw [if_pos hLm, Option.isSome_map]
            have er := restM_snoc c m t lost (left.take i) L
            rw [← take_snoc hL] at er
            show (if (!(fallF c m t rank lost left L).isSome) = true then _ else _)
            rw [eb]
            cases qq : deedM c L (askM L m t) lost with
            | none =>
              rw [qq, if_pos (show (none : Option Deed).isNone = true from rfl)] at er
              refine ⟨_, rfl, _, hN, by rw [List.length_map]; exact small1000 (by omega), sOver s7 nN, bs ++ [b], by rw [upd_same, refs_snoc], ?_, by rw [List.length_append, List.length_singleton]; omega⟩
              rw [er]
              have tk : Tk H7 (upd H7 N (.lst (bs.map V.ref ++ [V.ref b]))) := Tk.over hN (fun xs q => nomatch q)
              exact Paired.snoc1 (hbs.keep tk) ((hb.keep (Same_tk s7)).keep tk)
            | some dd =>
              rw [qq, if_neg (show ¬ (some dd : Option Deed).isNone = true from fun z => nomatch z), List.append_nil] at er
              refine ⟨s7, bs, hN, ?_, by omega⟩
              rw [er]
              exact hbs
          · rintro H7 ⟨s7, bs, hN, hbs, hbl⟩
            rw [lays_len has6, List.take_length] at hbs
            refine ⟨_, rfl, _, _, rfl, rfl, ?_⟩
            have hD7 : DRep P w WR H7 d (look (fallenM c m t rank lost left ++ lost)) (n + (fallenM c m t rank lost left).length) :=
              (hD.same WR_no s7).congr fun L => by rw [look_append, look_fallen]
            have hkz : kk = 0 ↔ fallenM c m t rank lost left = [] := by
              rw [hkk, look_none_iff]
              exact ⟨fun h L => by rw [look_fallen]; exact h L, fun h L => by rw [← look_fallen]; exact h L⟩
            obtain ⟨k', rfl⟩ : ∃ k', k = k' + 1 := ⟨k - 1, by omega⟩
            by_cases hF : fallenM c m t rank lost left = []
            · have hz := hkz.mpr hF
              refine ⟨0, by omega, N, rank + 1, decide ((0 : Int) < ((kk : Nat) : Int)), _, _, _, bs, restM c m t lost left, _, _, rfl, sH6.trans s7, hN, hbs, hD7, by omega, fun L hL => hsub L (rest_sub hL), ?_, fun z => ?_, fun _ L => ?_⟩
              · rw [if_neg]
                intro z
                have := of_decide_eq_true z
                omega
              · have := of_decide_eq_true z
                omega
              · rw [hF, List.nil_append]
                have : foeLoop c m t (k' + 1) rank lost left = lost := by
                  unfold foeLoop
                  rw [hF]
                rw [← hkf, this]
            · have hz : kk ≠ 0 := fun z => hF (hkz.mp z)
              have hpos : 0 < (fallenM c m t rank lost left).length := by
                cases hq : fallenM c m t rank lost left with
                | nil => exact absurd hq hF
                | cons p f => rw [List.length_cons]; omega
              refine ⟨(restM c m t lost left).length + 1, by omega, N, rank + 1, decide ((0 : Int) < ((kk : Nat) : Int)), _, _, _, bs, restM c m t lost left, _, _, rfl, sH6.trans s7, hN, hbs, hD7, by omega, fun L hL => hsub L (rest_sub hL), ?_, fun _ => ⟨k', by omega, ?_⟩, fun z => ?_⟩
              · rw [if_pos]
                exact decide_eq_true (by omega)
              · rw [← hkf]
                rw [show foeLoop c m t (k' + 1) rank lost left = match fallenM c m t rank lost left with
                  | [] => lost
                  | p :: f => foeLoop c m t k' (rank + 1) ((p :: f) ++ lost) (restM c m t lost left) from rfl]
                cases hq : fallenM c m t rank lost left with
                | nil => exact absurd hq hF
                | cons p f => rfl
              · have := of_decide_eq_false z
                omega
end
end L2.SW
namespace L2.SW
open SM PySem PySem.Spec PyProof.Rows
def SR : Hp → V → List (Option Nat) → Prop := fun H v b => ∃ p, v = .ref p ∧ H p = some (.lst (b.map oV))
theorem SR_no : NoExt SR := by
  rintro H H' v b k ⟨p, rfl, h1⟩
  exact ⟨p, rfl, k _ _ h1 (fun φ z => nomatch z)⟩
/-- the safe layouts among these, with their places -/
def safeF (c m t : Nat) (lost : Lost) (all : List Layt) : Layt → Option (List (Option Nat)) := fun M => if M ∈ all ∧ look lost M = none then some (placesM c m t lost M) else none
theorem safeF_snoc (c m t : Nat) (lost : Lost) (l : List Layt) (L M : Layt) : safeF c m t lost (l ++ [L]) M = if look lost L = none then fset (safeF c m t lost l) L (placesM c m t lost L) M else safeF c m t lost l M := by
  unfold safeF
  by_cases h : look lost L = none
  · rw [if_pos h]
    unfold fset
    by_cases e : M = L
    · subst e
      rw [if_pos rfl, if_pos ⟨List.mem_append_right _ (List.mem_singleton.mpr rfl), h⟩]
    · rw [if_neg e]
      dsimp only
      by_cases q : M ∈ l ∧ look lost M = none
      · rw [if_pos q, if_pos ⟨List.mem_append_left _ q.1, q.2⟩]
      · rw [if_neg q, if_neg]
        rintro ⟨z, z2⟩
        rcases List.mem_append.mp z with z | z
        · exact q ⟨z, z2⟩
        · exact e (List.mem_singleton.mp z)
  · rw [if_neg h]
    by_cases q : M ∈ l ∧ look lost M = none
    · rw [if_pos q, if_pos ⟨List.mem_append_left _ q.1, q.2⟩]
    · rw [if_neg q, if_neg]
      rintro ⟨z, z2⟩
      rcases List.mem_append.mp z with z | z
      · exact q ⟨z, z2⟩
      · rw [List.mem_singleton.mp z] at z2
        exact h z2
theorem places_len (c m t : Nat) (lost : Lost) (L : Layt) : (placesM c m t lost L).length = t := by
  unfold placesM
  rw [List.length_map, List.length_range]
theorem places_at (c m t : Nat) (lost : Lost) (L : Layt) {k : Nat} (h : k < t) : (placesM c m t lost L)[k]? = some (if k + 1 ≤ askM L m t then placeM c L (k + 1) lost else none) := by
  unfold placesM
  rw [List.getElem?_map, List.getElem?_range h]
  rfl
section
variable {P : Program} {w : World} {K : PySem.W.Frag} {mg : Str → Option Value} {base : Heap}
def spSafe (P : Program) (w : World) : Sp := fun vs H Q _ => ∃ (c m t : Nat), vs = [.int (c : Int), .int (m : Int), .int (t : Int)] ∧ AllOk c m t ∧ HApart w c m t ∧ c ≤ 900 ∧ m ≤ 900 ∧ t ≤ 900 ∧
  ∀ H' d n, Same H H' → H d = none → n ≤ 200 → DRep P w SR H' d (safeF c m t (foeM c m t) (allM c m t)) n → Q (.ref d) H'
theorem scSafe : FnScope ["cells", "most", "top", "lost", "found", "layout", "places", "size", "at"] ["cells", "most", "top"] (defScope sSafe) := ⟨rfl, rfl, rfl, by decide +kernel, rfl, by decide +kernel, by decide +kernel⟩
theorem ok_safe (D : Df K mg "safe_layouts" sSafe ["cells", "most", "top"]) (DE : Df K mg "foe_ways" sFoe ["cells", "most", "top"]) (DA : Df K mg "all_layouts" sAll ["cells", "most", "top"]) (DK : Df K mg "askable" sAsk ["layout", "most", "top"]) (DD : Df K mg "deed_that_beats" sDeed ["cells", "layout", "greatest", "lost"])
    (DL : Df K mg "live_cells" sLive ["layout"]) (DO : Df K mg "without_piece" sWithout ["layout", "at"]) (DP : Df K mg "place_that_holds" sPlace ["cells", "layout", "size", "lost"])
    (DF : Df K mg "free_places" sFree ["cells", "layout", "size"]) (DW : Df K mg "with_piece" sWith ["layout", "at", "long"]) (T : Bl mg) : FnOk P w K mg base CX0 5 D.f D.fd ["cells", "most", "top"] (spSafe P w) := by
  have GE : FnOk P w K mg base CX0 4 DE.f DE.fd ["cells", "most", "top"] (spFoe P w) := ok_foe DE DA DK DD DL DO DP DF DW T
  have GA : FnOk P w K mg base CX0 2 DA.f DA.fd ["cells", "most", "top"] spAll := ok_all DA DL DW T
  have GK : FnOk P w K mg base CX0 1 DK.f DK.fd ["layout", "most", "top"] spAsk := ok_ask DK T
  have GP : FnOk P w K mg base CX0 2 DP.f DP.fd ["cells", "layout", "size", "lost"] (spPlace P w) := ok_place DP DF DW T
  refine D.F.ok scSafe (fun vs H Q E h => ?_) (fun cdv A outer s H vs Q E hr h => ?_)
  · obtain ⟨c, m, t, rfl, _⟩ := h
    rfl
  · obtain ⟨c, m, t, rfl, hok, hap, hc, hm, ht, q⟩ := h
    refine ⟨_, pss_cons (ps_set (i := 3) scSafe.nd rfl (.inl rfl) (pe_call GE hr rfl DE.m DE.F.kp DE.b .nil pass0 (pa_cons (pv 0) (pa_cons (pv 1) (pa_cons (pv 2) pa_nil)))))
      (pss_cons (ps_set (i := 4) scSafe.nd rfl (.inl rfl) pe_dnewN)
      (pss_cons (ps_for PassesOwn.never rfl (pi_list (pe_call GA (hr.mono (by decide)) rfl DA.m DA.F.kp DA.b .nil pass0 (pa_cons (pv 0) (pa_cons (pv 1) (pa_cons (pv 2) pa_nil))))) (pg_name (i := 5) scSafe.nd rfl (.inl rfl))
        (pss_cons (ps_if (pt_cmpR (op_inN hr.units) (pv 5) (pv 3) (by rfl)) (pss_one ps_continue) pss_nil)
        (pss_cons (ps_set (i := 6) scSafe.nd rfl (.inl rfl) (pe_lst pa_nil))
        (pss_cons (ps_for PassesOwn.never rfl (pi_range2 (by rfl) T.range (pa_cons pe_int (pa_cons (pe_op op_add (pv 2) pe_int) pa_nil))) (pg_name (i := 7) scSafe.nd rfl (.inl rfl))
          (pss_cons (ps_set (i := 8) scSafe.nd rfl (.inl rfl) pe_non)
          (pss_cons (ps_if (pt_cmpR op_le (pv 7) (pe_call GK (hr.mono (by decide)) rfl DK.m DK.F.kp DK.b .nil pass0 (pa_cons (pv 5) (pa_cons (pv 1) (pa_cons (pv 2) pa_nil)))) (nomark _))
            (pss_one (ps_set (i := 8) scSafe.nd rfl (.inl rfl) (pe_call GP (hr.mono (by decide)) rfl DP.m DP.F.kp DP.b .nil pass0 (pa_cons (pv 0) (pa_cons (pv 5) (pa_cons (pv 7) (pa_cons (pv 3) pa_nil))))))) pss_nil)
          (pss_one (ps_expr (pe_bm PySem.F.plainAttrs_list PySem.F.slot_list_append PySem.F.type_list_append mt_append (pv 6) (pa_cons (pv 8) pa_nil)))))))
        (pss_one (ps_asg (pv 6) (pg_sub (pv 4) (pv 5) (set_N SR_no hr.units))))))))
      (pss_one (ps_ret (pv 4))))), ?_⟩
    have hlay : ∀ L ∈ allM c m t, L.length ≤ 8 ∧ liveM L ≤ m ∧ ∀ p ∈ L, p.1 + p.2 ≤ c ∧ 1 ≤ p.2 := fun L hL => hok.lay L (all_mem.mp hL)
    have hfew : (allM c m t).length ≤ 200 := by rw [all_len]; exact hok.few
    refine ⟨_, rfl, _, rfl, _, rfl, c, m, t, rfl, hok, hap, hc, hm, ht, fun H1 d n s1 nd hn hd1 => ?_⟩
    -- found = {}
    refine fun e ne hes => ?_
    have ne0 : H e = none := s1.free ne
    have hfd := DRep.empty (β := List (Option Nat)) (P := P) (w := w) (R := SR) (H := H1) hes
    -- for layout in all_layouts(..)
    refine ⟨_, rfl, _, rfl, _, rfl, c, m, t, rfl, hok, hc, hm, ht, fun H2 l as s2 nl hl2 has => ⟨l, rfl, ⟨_, SqL.of hl2⟩, ?_⟩⟩
    have hfd2 := hfd.same SR_no s2
    have s12 : Same H1 H2 := (sNew ne).trans s2
    refine for_list (K := K) (a := l) (xs := as.map V.ref) (fun i σ H3 => ∃ y5 y6 y7 y8, σ = [some (.int (c : Int)), some (.int (m : Int)), some (.int (t : Int)), some (.ref d), some (.ref e), y5, y6, y7, y8] ∧
        Same H1 H3 ∧ H3 l = some (.lst (as.map V.ref)) ∧ LaysAt H3 as (allM c m t) ∧ DRep P w SR H3 e (safeF c m t (foeM c m t) ((allM c m t).take i)) i)
      ⟨none, none, none, none, rfl, s12, hl2, has, hfd2.congr fun L => by unfold safeF; rw [List.take_zero, if_neg]; exact fun z => nomatch z.1⟩ (fun i σ H3 _ ⟨_, _, _, _, _, _, hl3, _⟩ => SqL.of hl3) ?_ ?_
    · rintro i x σ H3 hi ⟨y5, y6, y7, y8, rfl, sm, hl3, has3, he3⟩
      have hil : i < (allM c m t).length := by
        have := (List.getElem?_eq_some_iff.mp hi).1
        rw [lays_len has3] at this
        exact this
      obtain ⟨b, L, rfl, _, hL, hb⟩ := lays_item has3 hi
      have hLa := hlay L (List.mem_of_getElem? hL)
      have hsn := fun M => safeF_snoc c m t (foeM c m t) ((allM c m t).take i) L M
      rw [← take_snoc hL] at hsn
      have hd3 := hd1.same WR_no sm
      refine ⟨_, rfl, _, rfl, b, d, L, _, rfl, rfl, hb, hd3.has L, _, rfl, ?_⟩
      show (if (look (foeM c m t) L).isSome = true then _ else _)
      refine ite2 (fun hin => ?_) (fun hin => ?_)
      · refine ⟨_, _, _, _, rfl, sm, hl3, has3, (he3.mono (Nat.le_succ i)).congr fun M => ?_⟩
        rw [hsn, if_neg]
        intro z
        rw [z] at hin
        exact nomatch hin
      · have hno : look (foeM c m t) L = none := by
          cases z : look (foeM c m t) L with
          | none => rfl
          | some v => rw [z] at hin; exact absurd rfl hin
        -- places = []
        refine ⟨Nat.zero_le _, fun p np => ?_⟩
        refine ⟨_, rfl, _, _, rfl, rfl, _, _, rfl, ⟨by omega, by omega, by omega, by omega⟩, ?_⟩
        have en : ((t : Int) + 1 - 1).toNat = t := by omega
        refine for_range (lo := 1) (n := ((t : Int) + 1 - 1).toNat) (fun k σ H5 => ∃ y7 y8, σ = [some (.int (c : Int)), some (.int (m : Int)), some (.int (t : Int)), some (.ref d), some (.ref e), some (.ref b), some (.ref p), y7, y8] ∧
            Same H3 H5 ∧ H5 p = some (.lst (((placesM c m t (foeM c m t) L).take k).map oV)))
          ⟨y7, y8, rfl, sNew np, upd_same⟩ ?_ ?_
        · rintro k σ H5 hk ⟨y7, y8, rfl, s5, hp5⟩
          rw [en] at hk
          have hb5 := hb.keep (Same_tk s5)
          have hpa := places_at c m t (foeM c m t) L hk
          have fin : ∀ (H6 : Hp) (z : V), z = oV (if k + 1 ≤ askM L m t then placeM c L (k + 1) (foeM c m t) else none) → Same H3 H6 → H6 p = some (.lst (((placesM c m t (foeM c m t) L).take k).map oV)) → ∃ xs y, z = y ∧ H6 p = some (.lst xs) ∧ xs.length < sizeLine ∧
              Same H3 (upd H6 p (.lst (xs ++ [y]))) ∧ (upd H6 p (.lst (xs ++ [y]))) p = some (.lst (((placesM c m t (foeM c m t) L).take (k + 1)).map oV)) := by
            intro H6 z ez s6 hp6
            refine ⟨_, z, rfl, hp6, ?_, sOver s6 np, ?_⟩
            · rw [List.length_map, List.length_take]
              exact small1000 (by omega)
            · rw [upd_same, take_snoc hpa, List.map_append, ez]
              rfl
          refine ⟨_, rfl, _, rfl, _, rfl, _, rfl, b, L, m, t, rfl, hb5, _, _, rfl, rfl, _, rfl, ?_⟩
          refine ite2 (fun hle => ?_) (fun hle => ?_)
          · have hle' : k + 1 ≤ askM L m t := by have := of_decide_eq_true hle; omega
            refine ⟨_, rfl, _, rfl, _, rfl, _, rfl, c, k + 1, b, d, L, foeM c m t, n, ?_, hb5, fun p hp => (hLa.2.2 p hp).1, hc, by omega, hd3.same WR_no s5, fun H6 s6 => ?_⟩
            · rw [show ((1 : Int) + (k : Int)) = ((k + 1 : Nat) : Int) by omega]
              rfl
            · obtain ⟨xs, y, ez, hx, hxl, hs, hp'⟩ := fin H6 (oV (placeM c L (k + 1) (foeM c m t))) (by rw [if_pos hle']) (s5.trans s6) (s6 _ _ hp5)
              subst ez
              exact ⟨_, rfl, .inl ⟨rfl, _, SqL.of hx⟩, _, rfl, p, _, _, rfl, rfl, hx, hxl, _, _, rfl, hs, hp'⟩
          · have hle' : ¬ k + 1 ≤ askM L m t := fun z => hle (decide_eq_true (by omega))
            obtain ⟨xs, y, ez, hx, hxl, hs, hp'⟩ := fin H5 .non (by rw [if_neg hle']; rfl) s5 hp5
            subst ez
            exact ⟨_, rfl, .inl ⟨rfl, _, SqL.of hx⟩, _, rfl, p, _, _, rfl, rfl, hx, hxl, _, _, rfl, hs, hp'⟩
        · rintro σ H5 ⟨y7, y8, rfl, s5, hp5⟩
          rw [en, List.take_of_length_le (by rw [places_len]; exact Nat.le_refl _)] at hp5
          have he5 := he3.same SR_no s5
          refine ⟨_, rfl, _, rfl, _, rfl, e, b, L, placesM c m t (foeM c m t) L, _, i, rfl, rfl, hb.keep (Same_tk s5), he5, small1000 (by omega), ⟨p, rfl, hp5⟩, fun H6 hoff hD => ?_⟩
          have hne : ∀ a o, H5 a = some o → (∀ φ, o ≠ .ext φ) → a ≠ e := fun a o h1 h2 z => by
            obtain ⟨φ, hφ⟩ := he5.at_
            rw [z, hφ] at h1
            exact h2 φ (Option.some.inj h1).symm
          have hl5 := s5 _ _ hl3
          have tk : Tk H3 H6 := fun b xs h1 => by
            have h3 := s5 _ _ h1
            rw [hoff b (hne b _ h3 fun φ z => nomatch z)]
            exact h3
          refine ⟨_, _, _, _, rfl, sOff (sm.trans s5) ne hoff, ?_, has3.keep tk, hD.congr fun M => ?_⟩
          · rw [hoff l (hne l _ hl5 fun φ z => nomatch z)]
            exact hl5
          · rw [hsn, if_pos hno]
    · rintro σ H3 ⟨y5, y6, y7, y8, rfl, sm, hl3, has3, he3⟩
      rw [lays_len has3, List.take_length] at he3
      exact ⟨_, rfl, q H3 e _ (s1.trans sm) ne0 hfew he3⟩
/-! ### needed_cells -/
def spNeed (w : World) : Sp := fun vs H Q _ => ∃ (m t : Nat), vs = [.int (m : Int), .int (t : Int)] ∧ 1 ≤ m ∧ (∀ c, m ≤ c → c ≤ 6 → AllOk c m t ∧ HApart w c m t) ∧ m ≤ 900 ∧ t ≤ 900 ∧ okNeed m t = true ∧
  ∀ H', Same H H' → Q (.int (needM m t : Int)) H'
theorem scNeed : FnScope ["most", "top", "cells"] ["most", "top"] (defScope sNeed) := ⟨rfl, rfl, rfl, by decide +kernel, rfl, by decide +kernel, by decide +kernel⟩
theorem okNeed_of {m t : Nat} (h : okNeed m t = true) : m ≤ needM m t ∧ needM m t ≤ 6 ∧ look (foeM (needM m t) m t) [] = none ∧ ∀ k, k < needM m t - m → (look (foeM (m + k) m t) []).isSome = true := by
  unfold okNeed at h
  rw [Bool.and_eq_true, Bool.and_eq_true, Bool.and_eq_true, Nat.ble_eq, Nat.ble_eq, List.all_eq_true] at h
  obtain ⟨⟨⟨h1, h2⟩, h3⟩, h4⟩ := h
  exact ⟨h1, h2, Option.isNone_iff_eq_none.mp h3, fun k hk => h4 k (List.mem_range.mpr hk)⟩
theorem ok_need (D : Df K mg "needed_cells" sNeed ["most", "top"]) (DE : Df K mg "foe_ways" sFoe ["cells", "most", "top"]) (DA : Df K mg "all_layouts" sAll ["cells", "most", "top"]) (DK : Df K mg "askable" sAsk ["layout", "most", "top"]) (DD : Df K mg "deed_that_beats" sDeed ["cells", "layout", "greatest", "lost"])
    (DL : Df K mg "live_cells" sLive ["layout"]) (DO : Df K mg "without_piece" sWithout ["layout", "at"]) (DP : Df K mg "place_that_holds" sPlace ["cells", "layout", "size", "lost"])
    (DF : Df K mg "free_places" sFree ["cells", "layout", "size"]) (DW : Df K mg "with_piece" sWith ["layout", "at", "long"]) (T : Bl mg) : FnOk P w K mg base CX0 5 D.f D.fd ["most", "top"] (spNeed w) := by
  have GE : FnOk P w K mg base CX0 4 DE.f DE.fd ["cells", "most", "top"] (spFoe P w) := ok_foe DE DA DK DD DL DO DP DF DW T
  refine D.F.ok scNeed (fun vs H Q E h => ?_) (fun cdv A outer s H vs Q E hr h => ?_)
  · obtain ⟨m, t, rfl, _⟩ := h
    rfl
  · obtain ⟨m, t, rfl, hm1, hgood, hm, ht, hneed, q⟩ := h
    obtain ⟨n1, n2, n3, n4⟩ := okNeed_of hneed
    refine ⟨_, pss_cons (ps_set (i := 2) scNeed.nd rfl (.inl rfl) (pv 0))
      (pss_cons (ps_while PassesOwn.never (pt_cmpR (op_inN hr.units) (pe_tup pa_nil) (pe_call GE hr rfl DE.m DE.F.kp DE.b .nil pass0 (pa_cons (pv 2) (pa_cons (pv 0) (pa_cons (pv 1) pa_nil)))) (by rfl))
        (pss_one (ps_set (i := 2) scNeed.nd rfl (.inl rfl) (pe_op op_add (pv 2) pe_int))))
      (pss_one (ps_ret (pv 2)))), ?_⟩
    refine ⟨_, rfl, fun mm σ H' => ∃ x : Nat, σ = [some (.int (m : Int)), some (.int (t : Int)), some (.int (x : Int))] ∧ Same H H' ∧ m ≤ x ∧ x ≤ needM m t ∧ mm = needM m t - x, ⟨_, m, rfl, Same.refl H, Nat.le_refl _, n1, rfl⟩, ?_⟩
    rintro mm σ H1 ⟨x, rfl, s1, hx1, hx2, rfl⟩
    refine ⟨Nat.zero_le _, fun e ne => ⟨_, rfl, _, rfl, _, rfl, x, m, t, rfl, (hgood x hx1 (by omega)).1, (hgood x hx1 (by omega)).2, by omega, hm, ht, fun H2 d n s2 nd hn hD => ?_⟩⟩
    have hE : LayAt H2 e [] := ⟨[], s2 _ _ upd_same, .nil⟩
    have sm : Same H H2 := (s1.trans (sNew ne)).trans s2
    refine ⟨e, d, [], _, rfl, rfl, hE, hD.has [], _, rfl, ?_⟩
    show (if (look (foeM x m t) []).isSome = true then _ else _)
    refine ite2 (fun hin => ?_) (fun hin => ?_)
    · have hlt : x < needM m t := by
        by_cases z : x = needM m t
        · rw [z, n3] at hin
          exact nomatch hin
        · omega
      refine ⟨fun σ' H' => ∃ mm', mm' < needM m t - x ∧ ∃ x : Nat, σ' = [some (.int (m : Int)), some (.int (t : Int)), some (.int (x : Int))] ∧ Same H H' ∧ m ≤ x ∧ x ≤ needM m t ∧ mm' = needM m t - x, fun _ _ h => h, ?_⟩
      exact ⟨_, rfl, _, _, rfl, rfl, needM m t - (x + 1), by omega, x + 1, rfl, sm, by omega, by omega, rfl⟩
    · have hx : x = needM m t := by
        by_cases z : x = needM m t
        · exact z
        · have := n4 (x - m) (by omega)
          rw [show m + (x - m) = x by omega] at this
          exact absurd this hin
      subst hx
      exact ⟨_, rfl, q H2 sm⟩
end
end L2.SW
namespace L2.SW
open SM PySem PySem.Spec PyProof.Rows
abbrev sCell : Stmt := topS 14
abbrev sDraw : Stmt := topS 15
abbrev sOther : Stmt := topS 16
abbrev sWhole : Stmt := topS 17
abbrev sLies : Stmt := topS 18
abbrev sGrown : Stmt := topS 19
abbrev sLess : Stmt := topS 20
abbrev sLawLive : Stmt := topS 21
theorem emod_nat (x : Int) {n : Nat} (h : 0 < n) : ∃ z : Nat, z < n ∧ x % (n : Int) = (z : Int) := by
  have h1 := Int.emod_nonneg x (show (n : Int) ≠ 0 by omega)
  have h2 := Int.emod_lt_of_pos x (show (0 : Int) < (n : Int) by omega)
  exact ⟨(x % (n : Int)).toNat, by omega, by omega⟩
section
variable {P : Program} {w : World} {K : PySem.W.Frag} {mg : Str → Option Value} {base : Heap}
/-! ### cells and draws -/
def spCell (K : PySem.W.Frag) : Sp := fun vs H Q _ => ∃ (a : Addr) (ns : List Int) (k : Nat), vs = [.ref a, .int (k : Int)] ∧ SqL K H a (ns.map V.int) ∧ ∀ z : Int, Q (.int z) H
theorem scCell : FnScope ["_law_script", "_law_k"] ["_law_script", "_law_k"] (defScope sCell) := ⟨rfl, rfl, rfl, by decide +kernel, rfl, by decide +kernel, by decide +kernel⟩
theorem ok_cell (D : Df K mg "_law_cell_at" sCell ["_law_script", "_law_k"]) (T : Bl mg) : FnOk P w K mg base CX0 1 D.f D.fd ["_law_script", "_law_k"] (spCell K) := by
  refine D.F.ok scCell (fun vs H Q E h => ?_) (fun cdv A outer s H vs Q E hr h => ?_)
  · obtain ⟨a, ns, k, rfl, _⟩ := h
    rfl
  · obtain ⟨a, ns, k, rfl, hS, q⟩ := h
    refine ⟨_, pss_cons (ps_if (pt_cmpR op_lt (pv 1) (pe_callB call_len_seq (by rfl) T.len PySem.boot_len (pa_cons (pv 0) pa_nil)) (nomark _)) (pss_one (ps_ret (pe_ix ix_list (pv 0) (pv 1) (fun _ _ => rfl)))) pss_nil)
      (pss_one (ps_ret pe_int)), ?_⟩
    refine ⟨_, rfl, _, rfl, a, _, rfl, .inl hS, _, _, rfl, rfl, _, rfl, ?_⟩
    refine ite2 (fun hlt => ?_) (fun hlt => q 0)
    have hlt' := of_decide_eq_true hlt
    have hk : k < ns.length := by
      rw [List.length_map] at hlt'
      omega
    exact ⟨_, rfl, _, rfl, a, _, _, _, rfl, rfl, hS, atI_nat (by rw [List.getElem?_map, List.getElem?_eq_getElem hk]; rfl), q _⟩
def spDraw (K : PySem.W.Frag) : Sp := fun vs H Q _ => ∃ (a : Addr) (ns : List Int) (k n : Nat), vs = [.ref a, .int (k : Int), .int (n : Int)] ∧ SqL K H a (ns.map V.int) ∧ k ≤ 1000 ∧ 0 < n ∧ ∀ z : Nat, z < n → Q (.int (z : Int)) H
theorem scDraw : FnScope ["_law_script", "_law_k", "_law_many"] ["_law_script", "_law_k", "_law_many"] (defScope sDraw) := ⟨rfl, rfl, rfl, by decide +kernel, rfl, by decide +kernel, by decide +kernel⟩
theorem ok_draw (D : Df K mg "_law_draw" sDraw ["_law_script", "_law_k", "_law_many"]) (DC : Df K mg "_law_cell_at" sCell ["_law_script", "_law_k"]) (T : Bl mg) : FnOk P w K mg base CX0 2 D.f D.fd ["_law_script", "_law_k", "_law_many"] (spDraw K) := by
  have GC : FnOk P w K mg base CX0 1 DC.f DC.fd ["_law_script", "_law_k"] (spCell K) := ok_cell DC T
  refine D.F.ok scDraw (fun vs H Q E h => ?_) (fun cdv A outer s H vs Q E hr h => ?_)
  · obtain ⟨a, ns, k, n, rfl, _⟩ := h
    rfl
  · obtain ⟨a, ns, k, n, rfl, hS, hk, hn, q⟩ := h
    refine ⟨_, pss_one (ps_ret (pe_op op_mod (pe_op op_mod (pe_op op_mul (pe_op op_add (pe_op op_mod (pe_call GC hr rfl DC.m DC.F.kp DC.b .nil pass0 (pa_cons (pv 0) (pa_cons (pv 1) pa_nil))) pe_int) (pe_op op_mul (pv 1) (pv 1))) pe_int) pe_int) (pv 2))), ?_⟩
    refine ⟨_, rfl, _, rfl, a, ns, k, rfl, hS, fun z => ?_⟩
    refine ⟨_, _, rfl, rfl, (by show (0 : Int) < 1000003; decide), _, rfl, _, rfl, _, _, rfl, rfl, .inl ⟨by omega, by omega⟩, _, _, rfl, rfl, _, _, rfl, rfl, .inr ⟨by decide, by decide⟩, _, _, rfl, rfl, (by show (0 : Int) < 999983; decide), _, rfl, _, _, rfl, rfl, (by show (0 : Int) < (n : Int); omega), ?_⟩
    show Q (.int (((z % 1000003 + (k : Int) * (k : Int)) * 48271) % 999983 % (n : Int))) H
    obtain ⟨y, h1, h2⟩ := emod_nat (((z % 1000003 + (k : Int) * (k : Int)) * 48271) % 999983) hn
    rw [h2]
    exact q y h1
theorem scOther : FnScope ["_law_script", "_law_k", "_law_many"] ["_law_script", "_law_k", "_law_many"] (defScope sOther) := ⟨rfl, rfl, rfl, by decide +kernel, rfl, by decide +kernel, by decide +kernel⟩
theorem ok_other (D : Df K mg "_law_other" sOther ["_law_script", "_law_k", "_law_many"]) (DC : Df K mg "_law_cell_at" sCell ["_law_script", "_law_k"]) (T : Bl mg) : FnOk P w K mg base CX0 2 D.f D.fd ["_law_script", "_law_k", "_law_many"] (spDraw K) := by
  have GC : FnOk P w K mg base CX0 1 DC.f DC.fd ["_law_script", "_law_k"] (spCell K) := ok_cell DC T
  refine D.F.ok scOther (fun vs H Q E h => ?_) (fun cdv A outer s H vs Q E hr h => ?_)
  · obtain ⟨a, ns, k, n, rfl, _⟩ := h
    rfl
  · obtain ⟨a, ns, k, n, rfl, hS, hk, hn, q⟩ := h
    refine ⟨_, pss_one (ps_ret (pe_op op_mod (pe_op op_mod (pe_op op_mul (pe_op op_add (pe_op op_add (pe_op op_mod (pe_call GC hr rfl DC.m DC.F.kp DC.b .nil pass0 (pa_cons (pv 0) (pa_cons (pv 1) pa_nil))) pe_int) (pe_op op_mul pe_int (pv 1))) pe_int) pe_int) pe_int) (pv 2))), ?_⟩
    refine ⟨_, rfl, _, rfl, a, ns, k, rfl, hS, fun z => ?_⟩
    refine ⟨_, _, rfl, rfl, (by show (0 : Int) < 1000033; decide), _, rfl, _, _, rfl, rfl, .inl ⟨by decide, by decide⟩, _, _, rfl, rfl, _, _, rfl, rfl, _, _, rfl, rfl, .inr ⟨by decide, by decide⟩, _, _, rfl, rfl, (by show (0 : Int) < 1000003; decide), _, rfl, _, _, rfl, rfl, (by show (0 : Int) < (n : Int); omega), ?_⟩
    show Q (.int (((z % 1000033 + 7 * (k : Int) + 1) * 69621) % 1000003 % (n : Int))) H
    obtain ⟨y, h1, h2⟩ := emod_nat (((z % 1000033 + 7 * (k : Int) + 1) * 69621) % 1000003) hn
    rw [h2]
    exact q y h1
/-! ### whole -/
def spWhole : Sp := fun vs H Q _ => ∃ i : Int, vs = [.int i] ∧ Q (.bl true) H
theorem scWhole : FnScope ["_law_found"] ["_law_found"] (defScope sWhole) := ⟨rfl, rfl, rfl, by decide +kernel, rfl, by decide +kernel, by decide +kernel⟩
theorem ok_whole (D : Df K mg "_law_whole" sWhole ["_law_found"]) (T : Bl mg) : FnOk P w K mg base CX0 1 D.f D.fd ["_law_found"] spWhole := by
  refine D.F.ok scWhole (fun vs H Q E h => ?_) (fun cdv A outer s H vs Q E hr h => ?_)
  · obtain ⟨i, rfl, _⟩ := h
    rfl
  · obtain ⟨i, rfl, q⟩ := h
    refine ⟨_, pss_one (ps_ret (pe_and (pe_callB call_isi (by rfl) T.isinstance (by decide +kernel) (pa_cons (pv 0) (pa_cons (pe_bltn (v := .ty "int") (by rfl) T.int (by decide +kernel) rfl) pa_nil)))
      (pe_one (pe_not (pe_callB call_isi (by rfl) T.isinstance (by decide +kernel) (pa_cons (pv 0) (pa_cons (pe_bltn (v := .ty "bool") (by rfl) T.bool (by decide +kernel) rfl) pa_nil))))))), ?_⟩
    refine ⟨_, rfl, .int i, .ty "int", .type "int", .type "int", true, rfl, .ty _, .base (.int i), kit_ty (by decide +kernel), true, rfl, ?_⟩
    exact ⟨_, rfl, .int i, .ty "bool", .type "int", .type "bool", false, rfl, .ty _, .base (.int i), kit_ty (by decide +kernel), false, rfl, q⟩
/-! ### lies_free -/
def spLies : Sp := fun vs H Q _ => ∃ (a : Addr) (L : Layt) (c x s : Nat), vs = [.ref a, .int (c : Int), .int (x : Int), .int (s : Int)] ∧ LayAt H a L ∧ Q (.bl (liesM c L x s)) H
theorem scLies : FnScope ["_law_layout", "_law_cells", "_law_at", "_law_size", "_law_piece"] ["_law_layout", "_law_cells", "_law_at", "_law_size"] (defScope sLies) := ⟨rfl, rfl, rfl, by decide +kernel, rfl, by decide +kernel, by decide +kernel⟩
def hitsM (L : Layt) (x s : Nat) : Bool := L.all fun p => !(Nat.blt x (p.1 + p.2) && Nat.blt p.1 (x + s))
theorem ok_lies (D : Df K mg "_law_lies_free" sLies ["_law_layout", "_law_cells", "_law_at", "_law_size"]) : FnOk P w K mg base CX0 1 D.f D.fd ["_law_layout", "_law_cells", "_law_at", "_law_size"] spLies := by
  refine D.F.ok scLies (fun vs H Q E h => ?_) (fun cdv A outer s H vs Q E hr h => ?_)
  · obtain ⟨a, L, c, x, z, rfl, _⟩ := h
    rfl
  · obtain ⟨a, L, c, x, z, rfl, hl, q⟩ := h
    refine ⟨_, pss_cons (ps_if (PW.pt (pw_or (pt_cmpR op_lt (pv 2) pe_int (nomark _)) (pw_or1 (pt_cmpR op_gt (pe_op op_add (pv 2) (pv 3)) (pv 1) (nomark _))))) (pss_one (ps_ret pe_bl)) pss_nil)
      (pss_cons (ps_for PassesOwn.never rfl (pi_tup (pv 0)) (pg_name (i := 4) scLies.nd rfl (.inl rfl))
        (pss_one (ps_if (PW.pt (pw_and (pt_cmpR op_lt (pv 2) (pe_op op_add (pe_ix ix_tup (pv 4) pe_int (fun _ _ => rfl)) (pe_ix ix_tup (pv 4) pe_int (fun _ _ => rfl))) (nomark _))
          (pw_and1 (pt_cmpR op_lt (pe_ix ix_tup (pv 4) pe_int (fun _ _ => rfl)) (pe_op op_add (pv 2) (pv 3)) (nomark _))))) (pss_one (ps_ret pe_bl)) pss_nil)))
      (pss_one (ps_ret pe_bl))), ?_⟩
    obtain ⟨ps, hp, hq⟩ := hl
    refine ⟨_, rfl, _, _, rfl, rfl, _, rfl, ?_⟩
    show (if decide ((x : Int) < 0) = true then _ else _)
    rw [if_neg (by rw [decide_eq_false (by omega)]; decide)]
    refine ⟨_, rfl, _, rfl, _, _, rfl, rfl, _, rfl, _, _, rfl, rfl, _, rfl, ?_⟩
    refine ite2 (fun hgt => ?_) (fun hgt => ?_)
    · have hgt' := of_decide_eq_true hgt
      have : liesM c L x z = false := by
        unfold liesM
        have : Nat.ble (x + z) c = false := by
          cases e : Nat.ble (x + z) c with
          | false => rfl
          | true => have := Nat.le_of_ble_eq_true e; omega
        rw [this]
        rfl
      rw [this] at q
      exact q
    · have hle : x + z ≤ c := by
        by_cases e : x + z ≤ c
        · exact e
        · exact absurd (decide_eq_true (by omega)) hgt
      have eM : liesM c L x z = hitsM L x z := by
        unfold liesM
        rw [Nat.ble_eq.mpr hle]
        rfl
      rw [eM] at q
      refine ⟨_, rfl, a, rfl, ⟨_, SqT.of hp⟩, for_tup (K := K) (a := a) (xs := ps.map V.ref) (fun i σ H' => ∃ y4, σ = [some (.ref a), some (.int (c : Int)), some (.int (x : Int)), some (.int (z : Int)), y4] ∧ H' = H ∧ hitsM (L.take i) x z = true)
        ⟨none, rfl, rfl, rfl⟩ (fun i σ H' _ ⟨_, _, e, _⟩ => SqT.of (by rw [e]; exact hp)) ?_ ?_⟩
      · rintro i y σ H' hi ⟨y4, rfl, rfl, hh⟩
        obtain ⟨b, p, rfl, _, hL, hb⟩ := lay_item hq hi
        have hT : ∀ k : Int, True := fun _ => trivial
        refine ⟨_, rfl, _, rfl, b, _, _, _, rfl, rfl, SqT.of hb, item0, _, rfl, b, _, _, _, rfl, rfl, SqT.of hb, item1, _, _, rfl, rfl, _, _, rfl, rfl, _, rfl, ?_⟩
        have es : hitsM (L.take (i + 1)) x z = (hitsM (L.take i) x z && !(Nat.blt x (p.1 + p.2) && Nat.blt p.1 (x + z))) := by
          unfold hitsM
          rw [take_snoc hL, List.all_append]
          simp
        have b1 : Nat.blt x (p.1 + p.2) = decide ((x : Int) < (p.1 : Int) + (p.2 : Int)) := by
          rw [Bool.eq_iff_iff, Nat.blt_eq, decide_eq_true_iff]
          omega
        have b2 : Nat.blt p.1 (x + z) = decide ((p.1 : Int) < (x : Int) + (z : Int)) := by
          rw [Bool.eq_iff_iff, Nat.blt_eq, decide_eq_true_iff]
          omega
        refine ite2 (fun h1 => ?_) (fun h1 => ?_)
        · refine ⟨_, rfl, b, _, _, _, rfl, rfl, SqT.of hb, item0, _, rfl, _, rfl, _, _, rfl, rfl, _, _, rfl, rfl, _, rfl, ?_⟩
          refine ite2 (fun h2 => ?_) (fun h2 => ?_)
          · have hf : hitsM L x z = false := by
              cases e : hitsM L x z with
              | false => rfl
              | true =>
                unfold hitsM at e
                rw [List.all_eq_true] at e
                have := e p (List.mem_of_getElem? hL)
                rw [b1, b2, show decide ((x : Int) < (p.1 : Int) + (p.2 : Int)) = true from h1, show decide ((p.1 : Int) < (x : Int) + (z : Int)) = true from h2] at this
                exact nomatch this
            rw [hf] at q
            exact q
          · refine ⟨_, rfl, rfl, ?_⟩
            have h2' : decide ((p.1 : Int) < (x : Int) + (z : Int)) = false := by
              cases e : decide ((p.1 : Int) < (x : Int) + (z : Int)) with
              | false => rfl
              | true => exact absurd e h2
            rw [es, hh, b2, h2', Bool.and_false]
            rfl
        · refine ⟨_, rfl, rfl, ?_⟩
          have h1' : decide ((x : Int) < (p.1 : Int) + (p.2 : Int)) = false := by
            cases e : decide ((x : Int) < (p.1 : Int) + (p.2 : Int)) with
            | false => rfl
            | true => exact absurd e h1
          rw [es, hh, b1, h1', Bool.false_and]
          rfl
      · rintro σ H' ⟨y4, rfl, rfl, hh⟩
        rw [paired_len hq, List.take_length] at hh
        rw [hh] at q
        exact q
end
end L2.SW
namespace L2.SW
open SM PySem PySem.Spec PyProof.Rows
abbrev sIsWay : Stmt := topS 22
theorem filt_snoc (f : Nat × Nat → Bool) (l : Layt) (p : Nat × Nat) : (l ++ [p]).filter f = l.filter f ++ (if f p = true then [p] else []) := by
  rw [List.filter_append, List.filter_cons]
  rfl
section
variable {P : Program} {w : World} {K : PySem.W.Frag} {mg : Str → Option Value} {base : Heap}
/-! ### grown -/
def spGrown : Sp := fun vs H Q _ => ∃ (a : Addr) (L : Layt) (x s : Nat), vs = [.ref a, .int (x : Int), .int (s : Int)] ∧ LayAt H a L ∧ L.length ≤ 400 ∧ ∀ H' p, Same H H' → LayAt H' p (grownM L x s) → Q (.ref p) H'
theorem scGrown : FnScope ["_law_layout", "_law_at", "_law_size", "_law_ahead", "_law_behind_here", "_law_piece"] ["_law_layout", "_law_at", "_law_size"] (defScope sGrown) := ⟨rfl, rfl, rfl, by decide +kernel, rfl, by decide +kernel, by decide +kernel⟩
theorem ok_grown (D : Df K mg "_law_grown" sGrown ["_law_layout", "_law_at", "_law_size"]) (T : Bl mg) : FnOk P w K mg base CX0 1 D.f D.fd ["_law_layout", "_law_at", "_law_size"] spGrown := by
  refine D.F.ok scGrown (fun vs H Q E h => ?_) (fun cdv A outer s H vs Q E hr h => ?_)
  · obtain ⟨a, L, x, z, rfl, _⟩ := h
    rfl
  · obtain ⟨a, L, x, z, rfl, hl, hlen, q⟩ := h
    refine ⟨_, pss_cons (ps_setLc (i := 3) (own := [("_law_piece", 5)]) (g := gName 5) rfl scGrown.nd rfl rfl (sw_true rfl rfl rfl (by decide +kernel)) (pi_tup (pv 0)) (blkOk_by (N := ["_law_layout", "_law_at", "_law_size", "_law_ahead", "_law_behind_here", "_law_piece"]) (sc := defScope sGrown) (by decide +kernel))
        (fun _ _ _ _ _ => pg_name (i := 5) scGrown.nd rfl (Or.inl rfl)) (fun _ _ _ _ _ => pts_one (pt_cmpR op_lt (pe_ix (r := rIxT K) ix_tup (pv 5) pe_int (fun _ _ => rfl)) (pv 1) (nomark _))) (fun _ _ _ _ _ => pv 5))
      (pss_cons (ps_setLc (i := 4) (own := [("_law_piece", 5)]) (g := gName 5) rfl scGrown.nd rfl rfl (sw_true rfl rfl rfl (by decide +kernel)) (pi_tup (pv 0)) (blkOk_by (N := ["_law_layout", "_law_at", "_law_size", "_law_ahead", "_law_behind_here", "_law_piece"]) (sc := defScope sGrown) (by decide +kernel))
        (fun _ _ _ _ _ => pg_name (i := 5) scGrown.nd rfl (Or.inl rfl)) (fun _ _ _ _ _ => pts_one (pt_cmpR op_gt (pe_ix (r := rIxT K) ix_tup (pv 5) pe_int (fun _ _ => rfl)) (pv 1) (nomark _))) (fun _ _ _ _ _ => pv 5))
      (pss_one (ps_ret (pe_callTy call_tuple_of (by rfl) T.tuple (by decide +kernel) (pa_cons (pe_op op_cat (pe_op op_cat (pv 3) (pe_lst (pa_cons (pe_tup (pa_cons (pv 1) (pa_cons (pv 2) pa_nil))) pa_nil))) (pv 4)) pa_nil))))), ?_⟩
    obtain ⟨ps, hp, hq⟩ := hl
    refine ⟨_, rfl, a, rfl, ⟨_, SqT.of hp⟩, fun D nD => lc_tup (K := K) (a := a) (xs := ps.map V.ref) (fun i H' => Same H H' ∧ ∃ as, H' D = some (.lst (as.map V.ref)) ∧ Paired (PairAt H) as ((L.take i).filter fun p => decide (p.1 < x)) ∧ as.length ≤ i)
      ⟨sNew nD, [], upd_same, .nil, Nat.le_refl _⟩ (fun i H' _ ⟨sm, _⟩ => SqT.of (sm _ _ hp)) ?_ ?_⟩
    · rintro i y H' hi ⟨sm, as, hD, has, hal⟩
      have hil : i < L.length := by
        have := (List.getElem?_eq_some_iff.mp hi).1
        rw [paired_len hq] at this
        exact this
      obtain ⟨b, p, rfl, _, hL, hb⟩ := lay_item hq hi
      refine ⟨rfl, _, rfl, b, _, _, _, rfl, rfl, SqT.of (sm _ _ hb), item0, _, rfl, _, _, rfl, rfl, _, rfl, ?_⟩
      have et := filt_snoc (fun p => decide (p.1 < x)) (L.take i) p
      rw [← take_snoc hL] at et
      refine ite2 (fun hh => ?_) (fun hh => ?_)
      · have hh' := of_decide_eq_true hh
        rw [if_pos (decide_eq_true (by omega))] at et
        refine ⟨_, rfl, _, hD, ?_, sOver sm nD, as ++ [b], ?_, ?_, ?_⟩
        · rw [List.length_map]
          exact small1000 (by omega)
        · rw [upd_same, refs_snoc]
        · rw [et]
          exact Paired.snoc1 has hb
        · rw [List.length_append, List.length_singleton]
          omega
      · rw [if_neg (fun z => hh (decide_eq_true (by have := of_decide_eq_true z; omega))), List.append_nil] at et
        refine ⟨sm, as, hD, ?_, by omega⟩
        rw [et]
        exact has
    · rintro H1 ⟨sm, as, hD, has, hal⟩
      rw [paired_len hq, List.take_length] at has
      rw [paired_len hq] at hal
      have nD0 : H D = none := nD
      refine ⟨_, rfl, a, rfl, ⟨_, SqT.of (sm _ _ hp)⟩, fun F nF => lc_tup (K := K) (a := a) (xs := ps.map V.ref) (fun i H' => Same H1 H' ∧ ∃ as, H' F = some (.lst (as.map V.ref)) ∧ Paired (PairAt H) as ((L.take i).filter fun p => decide (x < p.1)) ∧ as.length ≤ i)
        ⟨sNew nF, [], upd_same, .nil, Nat.le_refl _⟩ (fun i H' _ ⟨sm', _⟩ => SqT.of (sm' _ _ (sm _ _ hp))) ?_ ?_⟩
      · rintro i y H' hi ⟨sm', as', hF, has', hal'⟩
        have hil : i < L.length := by
          have := (List.getElem?_eq_some_iff.mp hi).1
          rw [paired_len hq] at this
          exact this
        obtain ⟨b, p, rfl, _, hL, hb⟩ := lay_item hq hi
        refine ⟨rfl, _, rfl, b, _, _, _, rfl, rfl, SqT.of (sm' _ _ (sm _ _ hb)), item0, _, rfl, _, _, rfl, rfl, _, rfl, ?_⟩
        have et := filt_snoc (fun p => decide (x < p.1)) (L.take i) p
        rw [← take_snoc hL] at et
        refine ite2 (fun hh => ?_) (fun hh => ?_)
        · have hh' := of_decide_eq_true hh
          rw [if_pos (decide_eq_true (by omega))] at et
          refine ⟨_, rfl, _, hF, ?_, sOver sm' nF, as' ++ [b], ?_, ?_, ?_⟩
          · rw [List.length_map]
            exact small1000 (by omega)
          · rw [upd_same, refs_snoc]
          · rw [et]
            exact Paired.snoc1 has' hb
          · rw [List.length_append, List.length_singleton]
            omega
        · rw [if_neg (fun z => hh (decide_eq_true (by have := of_decide_eq_true z; omega))), List.append_nil] at et
          refine ⟨sm', as', hF, ?_, by omega⟩
          rw [et]
          exact has'
      · rintro H2 ⟨sm', as', hF, has', hal'⟩
        rw [paired_len hq, List.take_length] at has'
        rw [paired_len hq] at hal'
        have s2 := sm.trans sm'
        -- ahead + [(at, size)] + behind
        refine ⟨_, rfl, _, rfl, _, rfl, small8 (show 2 ≤ 1000 by decide), fun t nt => ⟨small8 (show 1 ≤ 1000 by decide), fun n nn => ?_⟩⟩
        have s3 := (s2.trans (sNew (o := .tup [.int (x : Int), .int (z : Int)]) nt)).trans (sNew (o := .lst [.ref t]) nn)
        have hD3 := sNew (o := .lst [.ref t]) nn _ _ (sNew (o := .tup [.int (x : Int), .int (z : Int)]) nt _ _ (sm' _ _ hD))
        have hF3 := sNew (o := .lst [.ref t]) nn _ _ (sNew (o := .tup [.int (x : Int), .int (z : Int)]) nt _ _ hF)
        refine ⟨D, n, _, _, rfl, rfl, hD3, upd_same, small8 (by rw [List.length_map]; show as.length + 1 ≤ 1000; omega), fun c nc => ⟨_, rfl, ?_⟩⟩
        have hF4 := sNew (o := .lst (as.map V.ref ++ [.ref t])) nc _ _ hF3
        refine ⟨c, F, _, _, rfl, rfl, upd_same, hF4, small8 (by rw [List.length_append, List.length_map, List.length_map, List.length_singleton]; omega), fun e ne => ?_⟩
        refine ⟨e, _, rfl, .inl ⟨SqL.of upd_same, fun r nr => ?_⟩⟩
        have s4 := ((s3.trans (sNew (o := .lst (as.map V.ref ++ [.ref t])) nc)).trans (sNew (o := .lst ((as.map V.ref ++ [V.ref t]) ++ as'.map V.ref)) ne)).trans (sNew (o := .tup ((as.map V.ref ++ [V.ref t]) ++ as'.map V.ref)) nr)
        refine q _ r s4 ⟨(as ++ [t]) ++ as', ?_, ?_⟩
        · rw [upd_same, List.map_append, refs_snoc]
        · unfold grownM
          refine Paired.app (Paired.app (Paired.mapP has fun _ _ r => r.keep (Same_tk s4)) (.cons ?_ .nil)) (Paired.mapP has' fun _ _ r => r.keep (Same_tk s4))
          exact sNew nr _ _ (sNew ne _ _ (sNew nc _ _ (sNew nn _ _ upd_same)))
/-! ### less, live -/
theorem scLess : FnScope ["_law_layout", "_law_at", "_law_piece"] ["_law_layout", "_law_at"] (defScope sLess) := ⟨rfl, rfl, rfl, by decide +kernel, rfl, by decide +kernel, by decide +kernel⟩
theorem ok_less (D : Df K mg "_law_less" sLess ["_law_layout", "_law_at"]) (T : Bl mg) : FnOk P w K mg base CX0 1 D.f D.fd ["_law_layout", "_law_at"] spWithout := by
  refine D.F.ok scLess (fun vs H Q E h => ?_) (fun cdv A outer s H vs Q E hr h => ?_)
  · obtain ⟨a, L, x, rfl, _⟩ := h
    rfl
  · obtain ⟨a, L, x, rfl, hl, hlen, q⟩ := h
    refine ⟨_, pss_one (ps_ret (pe_callTy call_tuple_of (by rfl) T.tuple (by decide +kernel) (pa_cons
      (pe_lc (own := [("_law_piece", 2)]) (g := gName 2) rfl scLess.nd (pi_tup (pv 0)) (blkOk_by (N := ["_law_layout", "_law_at", "_law_piece"]) (sc := defScope sLess) (by decide +kernel))
        (fun _ _ _ _ _ => pg_name (i := 2) scLess.nd rfl (Or.inl rfl)) (fun _ _ _ _ _ => pts_one (pt_cmpR op_ne (pe_ix (r := rIxT K) ix_tup (pv 2) pe_int (fun _ _ => rfl)) (pv 1) (nomark _))) (fun _ _ _ _ _ => pv 2)) pa_nil))), ?_⟩
    obtain ⟨ps, hp, hq⟩ := hl
    refine ⟨_, rfl, a, rfl, ⟨_, SqT.of hp⟩, fun D nD => lc_tup (K := K) (a := a) (xs := ps.map V.ref) (fun i H' => Same H H' ∧ ∃ as, H' D = some (.lst (as.map V.ref)) ∧ Paired (PairAt H) as (withoutM (L.take i) x) ∧ as.length ≤ i)
      ⟨sNew nD, [], upd_same, .nil, Nat.le_refl _⟩ (fun i H' _ ⟨sm, _⟩ => SqT.of (sm _ _ hp)) ?_ ?_⟩
    · rintro i y H' hi ⟨sm, as, hD, has, hal⟩
      have hil : i < L.length := by
        have := (List.getElem?_eq_some_iff.mp hi).1
        rw [paired_len hq] at this
        exact this
      obtain ⟨b, p, rfl, _, hL, hb⟩ := lay_item hq hi
      refine ⟨rfl, _, rfl, b, _, _, _, rfl, rfl, SqT.of (sm _ _ hb), item0, _, rfl, rfl, _, rfl, ?_⟩
      rw [dec_at]
      have et : withoutM (L.take (i + 1)) x = withoutM (L.take i) x ++ (if p.1 = x then [] else [p]) := by
        unfold withoutM
        rw [take_snoc hL, List.filter_append]
        by_cases e : p.1 = x
        · rw [if_pos e, List.filter_cons_of_neg (by rw [decide_eq_true e]; decide)]
          rfl
        · rw [if_neg e, List.filter_cons_of_pos (by rw [decide_eq_false e]; decide)]
          rfl
      by_cases e : p.1 = x
      · rw [if_pos e, List.append_nil] at et
        rw [decide_eq_true e]
        refine iteF ⟨sm, as, hD, ?_, by omega⟩
        rw [et]
        exact has
      · rw [if_neg e] at et
        rw [decide_eq_false e]
        refine ⟨_, rfl, _, hD, ?_, sOver sm nD, as ++ [b], ?_, ?_, ?_⟩
        · rw [List.length_map]
          exact small1000 (by omega)
        · rw [upd_same, refs_snoc]
        · rw [et]
          exact Paired.snoc1 has hb
        · rw [List.length_append, List.length_singleton]
          omega
    · rintro H' ⟨sm, as, hD, has, hal⟩
      rw [paired_len hq, List.take_length] at has
      refine ⟨D, _, rfl, .inl ⟨SqL.of hD, fun z nz => q _ z (sm.trans (sNew nz)) ⟨as, upd_same, Paired.mapP has fun _ _ r => ?_⟩⟩⟩
      exact (r.keep (Same_tk sm)).keep (Tk.new nz)
theorem scLawLive : FnScope ["_law_layout", "_law_piece"] ["_law_layout"] (defScope sLawLive) := ⟨rfl, rfl, rfl, by decide +kernel, rfl, by decide +kernel, by decide +kernel⟩
theorem ok_lawLive (D : Df K mg "_law_live" sLawLive ["_law_layout"]) (T : Bl mg) : FnOk P w K mg base CX0 1 D.f D.fd ["_law_layout"] spLive := by
  refine D.F.ok scLawLive (fun vs H Q E h => ?_) (fun cdv A outer s H vs Q E hr h => ?_)
  · obtain ⟨a, L, rfl, _⟩ := h
    rfl
  · obtain ⟨a, L, rfl, hl, hlen, q⟩ := h
    refine ⟨_, pss_one (ps_ret (pe_callB (cr_sum rfl) (by rfl) T.sum (by decide +kernel) (pa_cons
      (pe_lc (own := [("_law_piece", 1)]) (g := gName 1) (tt := tYes) rfl scLawLive.nd (pi_tup (pv 0)) (blkOk_by (N := ["_law_layout", "_law_piece"]) (sc := defScope sLawLive) (by decide +kernel))
        (fun _ _ _ _ _ => pg_name (i := 1) scLawLive.nd rfl (Or.inl rfl)) (fun _ _ _ _ _ => pts_nil) (fun _ _ _ _ _ => pe_ix (r := rIxT K) ix_tup (pv 1) pe_int (fun _ _ => rfl))) pa_nil))), ?_⟩
    obtain ⟨ps, hp, hq⟩ := hl
    refine ⟨_, rfl, a, rfl, ⟨_, SqT.of hp⟩, fun D nD => lc_tup (K := K) (a := a) (xs := ps.map V.ref) (fun i H' => Same H H' ∧ H' D = some (.lst ((L.take i).map fun p => V.int (p.2 : Int))))
      ⟨sNew nD, upd_same⟩ (fun i H' _ ⟨sm, _⟩ => SqT.of (sm _ _ hp)) ?_ ?_⟩
    · rintro i x H' hi ⟨sm, hD⟩
      obtain ⟨b, p, rfl, _, hL, hb⟩ := lay_item hq hi
      refine ⟨rfl, _, rfl, b, _, _, _, rfl, rfl, SqT.of (sm _ _ hb), item1, _, hD, ?_, sOver sm nD, ?_⟩
      · rw [List.length_map, List.length_take]
        exact small1000 (by omega)
      · rw [upd_same, take_snoc hL, List.map_append]
        rfl
    · rintro H' ⟨sm, hD⟩
      rw [paired_len hq, List.take_length] at hD
      refine ⟨D, (L.map (·.2)).map fun n => ((n : Nat) : Int), rfl, SqL.of ?_, ?_⟩
      · rw [hD, List.map_map, List.map_map]
        rfl
      · rw [sum_cast]
        exact q H' sm
/-! ### is_way -/
def spIsWay : Sp := fun vs H Q _ => ∃ (v : V) (b : Nat × Deed), vs = [v] ∧ WR H v b ∧ ∀ H', Same H H' → Q (.bl true) H'
theorem scIsWay : FnScope ["_law_way", "_law_deed"] ["_law_way"] (defScope sIsWay) := ⟨rfl, rfl, rfl, by decide +kernel, rfl, by decide +kernel, by decide +kernel⟩
theorem deed_in (b : Bool) : inV (V.str (deedS b)) [V.str "give", V.str "ask"] = true := by
  cases b <;> decide +kernel
theorem ok_isWay (D : Df K mg "_law_is_way" sIsWay ["_law_way"]) (DW : Df K mg "_law_whole" sWhole ["_law_found"]) (T : Bl mg) : FnOk P w K mg base CX0 2 D.f D.fd ["_law_way"] spIsWay := by
  have GW : FnOk P w K mg base CX0 1 DW.f DW.fd ["_law_found"] spWhole := ok_whole DW T
  refine D.F.ok scIsWay (fun vs H Q E h => ?_) (fun cdv A outer s H vs Q E hr h => ?_)
  · obtain ⟨v, b, rfl, _⟩ := h
    rfl
  · obtain ⟨v, b, rfl, ⟨p, x, rfl, hp, d, rfl, hd⟩, q⟩ := h
    refine ⟨_, pss_cons (ps_if (PW.pt (pw_or (pt_not (pt_val (pe_callB call_isi (by rfl) T.isinstance (by decide +kernel) (pa_cons (pv 0) (pa_cons (pe_bltn (v := .ty "tuple") (by rfl) T.tuple (by decide +kernel) rfl) pa_nil)))))
          (pw_or (pt_cmpR op_ne (pe_callB call_len_seq (by rfl) T.len PySem.boot_len (pa_cons (pv 0) pa_nil)) pe_int (nomark _))
          (pw_or (pt_not (pt_val (pe_call GW hr rfl DW.m DW.F.kp DW.b .nil pass0 (pa_cons (pe_ix ix_tup (pv 0) pe_int (fun _ _ => rfl)) pa_nil))))
          (pw_or1 (pt_cmpR op_lt (pe_ix ix_tup (pv 0) pe_int (fun _ _ => rfl)) pe_int (nomark _))))))) (pss_one (ps_ret pe_bl)) pss_nil)
      (pss_cons (ps_set (i := 1) scIsWay.nd rfl (.inl rfl) (pe_ix ix_tup (pv 0) pe_int (fun _ _ => rfl)))
      (pss_cons (ps_if (PW.pt (pw_or (pt_not (pt_val (pe_callB call_isi (by rfl) T.isinstance (by decide +kernel) (pa_cons (pv 1) (pa_cons (pe_bltn (v := .ty "tuple") (by rfl) T.tuple (by decide +kernel) rfl) pa_nil)))))
          (pw_or (pt_cmpR op_ne (pe_callB call_len_seq (by rfl) T.len PySem.boot_len (pa_cons (pv 1) pa_nil)) pe_int (nomark _))
          (pw_or1 (pt_not (pt_val (pe_callB call_isi (by rfl) T.isinstance (by decide +kernel) (pa_cons (pe_ix ix_tup (pv 1) pe_int (fun _ _ => rfl)) (pa_cons (pe_bltn (v := .ty "str") (by rfl) T.str (by decide +kernel) rfl) pa_nil))))))))) (pss_one (ps_ret pe_bl)) pss_nil)
      (pss_one (ps_ret (pe_and (pe_call GW hr rfl DW.m DW.F.kp DW.b .nil pass0 (pa_cons (pe_ix ix_tup (pv 1) pe_int (fun _ _ => rfl)) pa_nil))
        (pe_one (pe_cmpR op_in_seq (pe_ix ix_tup (pv 1) pe_int (fun _ _ => rfl)) (pe_tup (pa_cons pe_str (pa_cons pe_str pa_nil))) (by rfl)))))))), ?_⟩
    refine ⟨_, rfl, .ref p, .ty "tuple", .type "tuple", .type "tuple", true, rfl, .ty _, .base (.tup hp), kit_ty (by decide +kernel), true, rfl, ?_⟩
    refine ⟨_, rfl, p, _, rfl, .inr (SqT.of hp), rfl, _, rfl, iteNS rfl ?_⟩
    refine ⟨_, rfl, p, _, _, _, rfl, rfl, SqT.of hp, item0, _, rfl, true, rfl, ?_⟩
    refine ⟨_, rfl, p, _, _, _, rfl, rfl, SqT.of hp, item0, _, _, rfl, rfl, _, rfl, ?_⟩
    show (if decide ((b.1 : Int) < 0) = true then _ else _)
    rw [if_neg (by rw [decide_eq_false (by omega)]; decide)]
    refine ⟨_, rfl, p, _, _, _, rfl, rfl, SqT.of hp, item1, ?_⟩
    refine ⟨_, rfl, .ref d, .ty "tuple", .type "tuple", .type "tuple", true, rfl, .ty _, .base (.tup hd), kit_ty (by decide +kernel), true, rfl, ?_⟩
    refine ⟨_, rfl, d, _, rfl, .inr (SqT.of hd), rfl, _, rfl, iteNS rfl ?_⟩
    refine ⟨_, rfl, d, _, _, _, rfl, rfl, SqT.of hd, item0, .str (deedS b.2.1), .ty "str", .type "str", .type "str", true, rfl, .ty _, .base (.str _), kit_ty (by decide +kernel), true, rfl, ?_⟩
    refine ⟨_, rfl, d, _, _, _, rfl, rfl, SqT.of hd, item1, _, rfl, true, rfl, ?_⟩
    refine ⟨_, rfl, d, _, _, _, rfl, rfl, SqT.of hd, item0, small8 (show 2 ≤ 1000 by decide), fun t nt => ?_⟩
    refine ⟨t, _, rfl, .inr (SqT.of upd_same), rfl, rfl, ?_⟩
    have := deed_in b.2.1
    show Q (.bl (inV (V.str (deedS b.2.1)) [V.str "give", V.str "ask"])) _
    rw [this]
    exact q _ (sNew nt)
end
end L2.SW
namespace L2.SW
open SM PySem PySem.Spec PyProof.Rows
abbrev sBehind : Stmt := topS 23
abbrev sMay : Stmt := topS 24
abbrev sNext : Stmt := topS 25
theorem give_eq : decide (V.str (deedS true) = V.str "give") = true := by decide +kernel
theorem ask_ne : decide (V.str (deedS false) = V.str "give") = false := by decide +kernel
theorem DeedAt.keep {H H' : Hp} (k : Tk H H') {v : V} {d : Deed} (h : DeedAt H v d) : DeedAt H' v d := by
  obtain ⟨q, e, h⟩ := h
  exact ⟨q, e, k _ _ h⟩
theorem nats_in (x : Nat) (ns : List Nat) : inV (V.int (x : Int)) (nats ns) = ns.contains x := by
  unfold inV nats
  induction ns with
  | nil => rfl
  | cons n ns ih =>
    rw [List.map_cons, List.any_cons, ih, List.contains_cons]
    have : eqV (V.int (n : Int)) (V.int (x : Int)) = (x == n) := by
      show ((n : Int) == (x : Int)) = _
      rw [Bool.eq_iff_iff, beq_iff_eq, beq_iff_eq]
      omega
    rw [this]
theorem nats_flat (ns : List Nat) : (nats ns).all flatV = true := by
  unfold nats
  rw [List.all_map, List.all_eq_true]
  intro _ _
  rfl
theorem filter_take {f : Nat → Bool} {i : Nat} {n : Nat} (h : i < n) : ((List.range n).take (i + 1)).filter f = ((List.range n).take i).filter f ++ (if f i = true then [i] else []) := by
  rw [List.take_add_one, List.getElem?_range h, List.filter_append]
  show _ ++ [i].filter f = _
  rw [List.filter_cons]
  rfl
section
variable {P : Program} {w : World} {K : PySem.W.Frag} {mg : Str → Option Value} {base : Heap}
/-! ### behind -/
def spBehind : Sp := fun vs H Q _ => ∃ (a : Addr) (L : Layt) (dv : V) (d : Deed) (c m t : Nat) (Ls : List Layt), vs = [.ref a, dv, .int (c : Int), .int (m : Int), .int (t : Int)] ∧ LayAt H a L ∧ DeedAt H dv d ∧ L.length ≤ 300 ∧ c ≤ 300 ∧ behindM c m t L d = some Ls ∧
  ∀ H' p as, Same H H' → H' p = some (.lst (as.map V.ref)) → LaysAt H' as Ls → Q (.ref p) H'
theorem scBehind : FnScope ["_law_layout", "_law_deed", "_law_cells", "_law_most", "_law_top", "_law_free", "_law_piece", "_law_at"] ["_law_layout", "_law_deed", "_law_cells", "_law_most", "_law_top"] (defScope sBehind) := ⟨rfl, rfl, rfl, by decide +kernel, rfl, by decide +kernel, by decide +kernel⟩
theorem ok_behind (D : Df K mg "_law_behind" sBehind ["_law_layout", "_law_deed", "_law_cells", "_law_most", "_law_top"]) (DL : Df K mg "_law_less" sLess ["_law_layout", "_law_at"]) (DV : Df K mg "_law_live" sLawLive ["_law_layout"])
    (DF : Df K mg "_law_lies_free" sLies ["_law_layout", "_law_cells", "_law_at", "_law_size"]) (DG : Df K mg "_law_grown" sGrown ["_law_layout", "_law_at", "_law_size"]) (T : Bl mg) :
    FnOk P w K mg base CX0 2 D.f D.fd ["_law_layout", "_law_deed", "_law_cells", "_law_most", "_law_top"] spBehind := by
  have GL : FnOk P w K mg base CX0 1 DL.f DL.fd ["_law_layout", "_law_at"] spWithout := ok_less DL T
  have GV : FnOk P w K mg base CX0 1 DV.f DV.fd ["_law_layout"] spLive := ok_lawLive DV T
  have GF : FnOk P w K mg base CX0 1 DF.f DF.fd ["_law_layout", "_law_cells", "_law_at", "_law_size"] spLies := ok_lies DF
  have GG : FnOk P w K mg base CX0 1 DG.f DG.fd ["_law_layout", "_law_at", "_law_size"] spGrown := ok_grown DG T
  refine D.F.ok scBehind (fun vs H Q E h => ?_) (fun cdv A outer s H vs Q E hr h => ?_)
  · obtain ⟨a, L, dv, d, c, m, t, Ls, rfl, _⟩ := h
    rfl
  · obtain ⟨a, L, dv, d, c, m, t, Ls, rfl, hl, ⟨z, rfl, hz⟩, hlen, hc, hb, q⟩ := h
    refine ⟨_, pss_cons (ps_if (pt_cmpR op_eq (pe_ix ix_tup (pv 1) pe_int (fun _ _ => rfl)) pe_str (nomark _))
        (pss_cons (ps_if (pt_cmpR op_notIn_seq (pe_ix ix_tup (pv 1) pe_int (fun _ _ => rfl))
            (pe_lc (own := [("_law_piece", 6)]) (g := gName 6) (tt := tYes) rfl scBehind.nd (pi_tup (pv 0)) (blkOk_by (N := ["_law_layout", "_law_deed", "_law_cells", "_law_most", "_law_top", "_law_free", "_law_piece", "_law_at"]) (sc := defScope sBehind) (by decide +kernel))
              (fun _ _ _ _ _ => pg_name (i := 6) scBehind.nd rfl (Or.inl rfl)) (fun _ _ _ _ _ => pts_nil) (fun _ _ _ _ _ => pe_ix (r := rIxT K) ix_tup (pv 6) pe_int (fun _ _ => rfl))) (by rfl)) (pss_one (ps_ret pe_non)) pss_nil)
        (pss_one (ps_ret (pe_lst (pa_cons (pe_call GL hr rfl DL.m DL.F.kp DL.b .nil pass0 (pa_cons (pv 0) (pa_cons (pe_ix ix_tup (pv 1) pe_int (fun _ _ => rfl)) pa_nil))) pa_nil))))) pss_nil)
      (pss_cons (ps_if (PW.pt (pw_or (pt_cmpR op_lt (pe_ix ix_tup (pv 1) pe_int (fun _ _ => rfl)) pe_int (nomark _)) (pw_or (pt_cmpR op_gt (pe_ix ix_tup (pv 1) pe_int (fun _ _ => rfl)) (pv 4) (nomark _))
          (pw_or1 (pt_cmpR op_gt (pe_op op_add (pe_call GV hr rfl DV.m DV.F.kp DV.b .nil pass0 (pa_cons (pv 0) pa_nil)) (pe_ix ix_tup (pv 1) pe_int (fun _ _ => rfl))) (pv 3) (nomark _)))))) (pss_one (ps_ret pe_non)) pss_nil)
      (pss_cons (ps_setLc (i := 5) (own := [("_law_at", 7)]) (g := gName 7) rfl scBehind.nd rfl rfl (sw_true rfl rfl rfl (by decide +kernel)) (pi_range1 (by rfl) T.range (pa_cons (pv 2) pa_nil)) (blkOk_by (N := ["_law_layout", "_law_deed", "_law_cells", "_law_most", "_law_top", "_law_free", "_law_piece", "_law_at"]) (sc := defScope sBehind) (by decide +kernel))
          (fun _ _ _ _ _ => pg_name (i := 7) scBehind.nd rfl (Or.inl rfl)) (fun _ _ _ _ _ => pts_one (pt_val (pe_call GF hr rfl DF.m DF.F.kp DF.b .nil pass0 (pa_cons (pv 0) (pa_cons (pv 2) (pa_cons (pv 7) (pa_cons (pe_ix (r := rIxT K) ix_tup (pv 1) pe_int (fun _ _ => rfl)) pa_nil)))))))
          (fun _ _ _ _ _ => pv 7))
      (pss_one (ps_ret (pe_lc (own := [("_law_at", 7)]) (g := gName 7) (tt := tYes) rfl scBehind.nd (pi_list (pv 5)) (blkOk_by (N := ["_law_layout", "_law_deed", "_law_cells", "_law_most", "_law_top", "_law_free", "_law_piece", "_law_at"]) (sc := defScope sBehind) (by decide +kernel))
          (fun _ _ _ _ _ => pg_name (i := 7) scBehind.nd rfl (Or.inl rfl)) (fun _ _ _ _ _ => pts_nil)
          (fun _ _ _ _ _ => pe_call GG hr rfl DG.m DG.F.kp DG.b .nil pass0 (pa_cons (pv 0) (pa_cons (pv 7) (pa_cons (pe_ix (r := rIxT K) ix_tup (pv 1) pe_int (fun _ _ => rfl)) pa_nil))))))))), ?_⟩
    obtain ⟨ps, hp, hq⟩ := id hl
    obtain ⟨g, n⟩ := d
    refine ⟨_, rfl, z, _, _, _, rfl, rfl, SqT.of hz, item0, rfl, _, rfl, ?_⟩
    cases g with
    | true =>
      show (if decide (V.str (deedS true) = V.str "give") = true then _ else _)
      rw [if_pos give_eq]
      unfold behindM at hb
      rw [if_pos rfl] at hb
      have hin : (L.map (·.1)).contains n = true := by
        by_cases e : (L.map (·.1)).contains n = true
        · exact e
        · rw [if_neg e] at hb; cases hb
      rw [if_pos hin] at hb
      cases hb
      refine ⟨_, rfl, z, _, _, _, rfl, rfl, SqT.of hz, item1, _, rfl, a, rfl, ⟨_, SqT.of hp⟩, fun D nD => lc_tup (K := K) (a := a) (xs := ps.map V.ref) (fun i H' => Same H H' ∧ H' D = some (.lst (nats ((L.take i).map (·.1)))))
        ⟨sNew nD, upd_same⟩ (fun i H' _ ⟨sm, _⟩ => SqT.of (sm _ _ hp)) ?_ ?_⟩
      · rintro i x H' hi ⟨sm, hD⟩
        obtain ⟨b, p, rfl, _, hL, hb⟩ := lay_item hq hi
        refine ⟨rfl, _, rfl, b, _, _, _, rfl, rfl, SqT.of (sm _ _ hb), item0, _, hD, ?_, sOver sm nD, ?_⟩
        · rw [nats_len, List.length_map, List.length_take]
          exact small1000 (by omega)
        · rw [upd_same, take_snoc hL, List.map_append]
          show _ = some (HO.lst (nats (_ ++ [p.1])))
          rw [nats_snoc]
      · rintro H1 ⟨sm, hD⟩
        rw [paired_len hq, List.take_length] at hD
        refine ⟨D, _, rfl, .inl (SqL.of hD), rfl, nats_flat _, _, rfl, ?_⟩
        show (if (if true = true then !inV (V.int (n : Int)) (nats (L.map (·.1))) else inV (V.int (n : Int)) (nats (L.map (·.1)))) = true then _ else _)
        rw [nats_in, hin, if_neg (by decide)]
        refine ⟨_, rfl, _, rfl, z, _, _, _, rfl, rfl, SqT.of (sm _ _ hz), item1, a, L, n, rfl, hl.keep (Same_tk sm), by omega, fun H2 e s2 he => ⟨small8 (show 1 ≤ 1000 by decide), fun f nf => ?_⟩⟩
        exact q _ f [e] ((sm.trans s2).trans (sNew nf)) upd_same (.cons (he.keep (Tk.new nf)) .nil)
    | false =>
      show (if decide (V.str (deedS false) = V.str "give") = true then _ else _)
      rw [if_neg (by rw [ask_ne]; decide)]
      unfold behindM at hb
      rw [if_neg (show ¬ ((false, n) : Deed).1 = true from fun z => nomatch z)] at hb
      have hcond : ¬ (n < 1 ∨ t < n ∨ m < liveM L + n) := fun e => by rw [if_pos e] at hb; cases hb
      rw [if_neg hcond] at hb
      have hLs : Ls = ((List.range c).filter fun a => liesM c L a n).map fun a => grownM L a n := (Option.some.inj hb).symm
      refine ⟨_, rfl, z, _, _, _, rfl, rfl, SqT.of hz, item1, _, _, rfl, rfl, _, rfl, ?_⟩
      show (if decide ((n : Int) < 1) = true then _ else _)
      rw [if_neg (by rw [decide_eq_false (by omega)]; decide)]
      refine ⟨_, rfl, z, _, _, _, rfl, rfl, SqT.of hz, item1, _, rfl, _, _, rfl, rfl, _, rfl, ?_⟩
      show (if decide ((t : Int) < (n : Int)) = true then _ else _)
      rw [if_neg (by rw [decide_eq_false (by omega)]; decide)]
      refine ⟨_, rfl, a, L, rfl, hl, by omega, fun H1 s1 => ?_⟩
      refine ⟨_, rfl, z, _, _, _, rfl, rfl, SqT.of (s1 _ _ hz), item1, _, _, rfl, rfl, _, rfl, _, _, rfl, rfl, _, rfl, ?_⟩
      show (if decide ((m : Int) < (liveM L : Int) + (n : Int)) = true then _ else _)
      rw [if_neg (by rw [decide_eq_false (by omega)]; decide)]
      -- free = [..]
      refine ⟨_, rfl, _, rfl, by omega, by omega, fun D nD => ?_⟩
      have nD0 : H D = none := s1.free nD
      refine lc_range (lo := 0) (n := c) (fun i H' => Same H H' ∧ H' D = some (.lst (nats (((List.range c).take i).filter fun a => liesM c L a n))))
        ⟨s1.trans (sNew nD), upd_same⟩ ?_ ?_
      · rintro i H' hi ⟨sm, hD⟩
        rw [Int.zero_add]
        have hfl : (((List.range c).take i).filter fun a => liesM c L a n).length ≤ i := by
          refine Nat.le_trans (List.length_filter_le _ _) ?_
          rw [List.length_take]
          omega
        refine ⟨rfl, _, rfl, _, rfl, _, rfl, _, rfl, z, _, _, _, rfl, rfl, SqT.of (sm _ _ hz), item1, a, L, c, i, n, rfl, hl.keep (Same_tk sm), _, rfl, ?_⟩
        have ef := filter_take (f := fun a => liesM c L a n) hi
        refine ite2 (fun hh => ?_) (fun hh => ?_)
        · rw [if_pos hh] at ef
          refine ⟨_, rfl, _, hD, ?_, sOver sm nD0, ?_⟩
          · rw [nats_len]
            exact small1000 (by omega)
          · rw [upd_same, ef, nats_snoc]
        · rw [if_neg hh, List.append_nil] at ef
          exact ⟨sm, by rw [ef]; exact hD⟩
      · rintro H2 ⟨sm, hD⟩
        rw [List.take_of_length_le (by rw [List.length_range]; exact Nat.le_refl _)] at hD
        have hfl : ((List.range c).filter fun a => liesM c L a n).length ≤ c := by
          refine Nat.le_trans (List.length_filter_le _ _) ?_
          rw [List.length_range]
          exact Nat.le_refl _
        refine ⟨_, rfl, D, rfl, ⟨_, SqL.of hD⟩, fun F nF => lc_list (K := K) (a := D) (xs := nats ((List.range c).filter fun a => liesM c L a n)) (fun i H' => Same H2 H' ∧ ∃ as, H' F = some (.lst (as.map V.ref)) ∧ LaysAt H' as ((((List.range c).filter fun a => liesM c L a n).take i).map fun a => grownM L a n))
          ⟨sNew nF, [], upd_same, .nil⟩ (fun i H' _ ⟨s', _⟩ => SqL.of (s' _ _ hD)) ?_ ?_⟩
        · rintro i x H' hi ⟨s', as, hF, has⟩
          obtain ⟨y, rfl, hy⟩ := nats_item hi
          have hil := (List.getElem?_eq_some_iff.mp hy).1
          have hal := has.length
          rw [List.length_map, List.length_take] at hal
          have ss := sm.trans s'
          refine ⟨rfl, _, rfl, _, rfl, _, rfl, z, _, _, _, rfl, rfl, SqT.of (ss _ _ hz), item1, a, L, y, n, rfl, hl.keep (Same_tk ss), by omega, fun H3 e s3 he => ?_⟩
          have hF3 := s3 _ _ hF
          refine ⟨_, hF3, by rw [List.length_map]; exact small1000 (by omega), sOver (s'.trans s3) nF, as ++ [e], by rw [upd_same, refs_snoc], ?_⟩
          have tk : Tk H3 (upd H3 F (.lst (as.map V.ref ++ [V.ref e]))) := Tk.over hF3 (fun xs q => nomatch q)
          rw [take_snoc hy, List.map_append]
          exact Paired.snoc1 ((has.keep (Same_tk s3)).keep tk) (he.keep tk)
        · rintro H3 ⟨s', as, hF, has⟩
          rw [nats_len, List.take_length, ← hLs] at has
          exact q H3 F as (sm.trans s') hF has
end
end L2.SW
namespace L2.SW
open SM PySem PySem.Spec PyProof.Rows
/-- the deeds at these addresses -/
def DeedsAt (H : Hp) (as : List Addr) (ds : List Deed) : Prop := Paired (fun a d => DeedAt H (.ref a) d) as ds
theorem DeedsAt.keep {H H' : Hp} (k : Tk H H') {as : List Addr} {ds : List Deed} (h : DeedsAt H as ds) : DeedsAt H' as ds := Paired.mapP h fun _ _ z => z.keep k
section
variable {P : Program} {w : World} {K : PySem.W.Frag} {mg : Str → Option Value} {base : Heap}
/-! ### may -/
def spMay : Sp := fun vs H Q _ => ∃ (a : Addr) (L : Layt) (m t : Nat), vs = [.ref a, .int (m : Int), .int (t : Int)] ∧ LayAt H a L ∧ L.length ≤ 300 ∧ t ≤ 300 ∧
  ∀ H' p as, Same H H' → H' p = some (.lst (as.map V.ref)) → DeedsAt H' as (mayM L m t) → Q (.ref p) H'
theorem scMay : FnScope ["_law_layout", "_law_most", "_law_top", "_law_gives", "_law_asks", "_law_piece", "_law_size"] ["_law_layout", "_law_most", "_law_top"] (defScope sMay) := ⟨rfl, rfl, rfl, by decide +kernel, rfl, by decide +kernel, by decide +kernel⟩
theorem ok_may (D : Df K mg "_law_may" sMay ["_law_layout", "_law_most", "_law_top"]) (DV : Df K mg "_law_live" sLawLive ["_law_layout"]) (T : Bl mg) : FnOk P w K mg base CX0 2 D.f D.fd ["_law_layout", "_law_most", "_law_top"] spMay := by
  have GV : FnOk P w K mg base CX0 1 DV.f DV.fd ["_law_layout"] spLive := ok_lawLive DV T
  refine D.F.ok scMay (fun vs H Q E h => ?_) (fun cdv A outer s H vs Q E hr h => ?_)
  · obtain ⟨a, L, m, t, rfl, _⟩ := h
    rfl
  · obtain ⟨a, L, m, t, rfl, hl, hlen, ht, q⟩ := h
    refine ⟨_, pss_cons (ps_setLc (i := 3) (own := [("_law_piece", 5)]) (g := gName 5) (tt := tYes) rfl scMay.nd rfl rfl (sw_true rfl rfl rfl (by decide +kernel)) (pi_tup (pv 0)) (blkOk_by (N := ["_law_layout", "_law_most", "_law_top", "_law_gives", "_law_asks", "_law_piece", "_law_size"]) (sc := defScope sMay) (by decide +kernel))
          (fun _ _ _ _ _ => pg_name (i := 5) scMay.nd rfl (Or.inl rfl)) (fun _ _ _ _ _ => pts_nil) (fun _ _ _ _ _ => pe_tup (pa_cons pe_str (pa_cons (pe_ix (r := rIxT K) ix_tup (pv 5) pe_int (fun _ _ => rfl)) pa_nil))))
      (pss_cons (ps_setLc (i := 4) (own := [("_law_size", 6)]) (g := gName 6) rfl scMay.nd rfl rfl (sw_true rfl rfl rfl (by decide +kernel)) (pi_range2 (by rfl) T.range (pa_cons pe_int (pa_cons (pe_op op_add (pv 2) pe_int) pa_nil))) (blkOk_by (N := ["_law_layout", "_law_most", "_law_top", "_law_gives", "_law_asks", "_law_piece", "_law_size"]) (sc := defScope sMay) (by decide +kernel))
          (fun _ _ _ _ _ => pg_name (i := 6) scMay.nd rfl (Or.inl rfl)) (fun _ _ _ _ _ => pts_one (pt_cmpR op_le (pe_op op_add (pe_call GV hr rfl DV.m DV.F.kp DV.b .nil pass0 (pa_cons (pv 0) pa_nil)) (pv 6)) (pv 1) (nomark _))) (fun _ _ _ _ _ => pe_tup (pa_cons pe_str (pa_cons (pv 6) pa_nil))))
      (pss_one (ps_ret (pe_op op_cat (pv 3) (pv 4))))), ?_⟩
    obtain ⟨ps, hp, hq⟩ := id hl
    refine ⟨_, rfl, a, rfl, ⟨_, SqT.of hp⟩, fun D nD => lc_tup (K := K) (a := a) (xs := ps.map V.ref) (fun i H' => Same H H' ∧ ∃ as, H' D = some (.lst (as.map V.ref)) ∧ DeedsAt H' as ((L.take i).map fun p => (true, p.1)))
      ⟨sNew nD, [], upd_same, .nil⟩ (fun i H' _ ⟨sm, _⟩ => SqT.of (sm _ _ hp)) ?_ ?_⟩
    · rintro i x H' hi ⟨sm, as, hD, has⟩
      have hal := has.length
      rw [List.length_map, List.length_take] at hal
      obtain ⟨b, p, rfl, _, hL, hb⟩ := lay_item hq hi
      refine ⟨rfl, _, rfl, b, _, _, _, rfl, rfl, SqT.of (sm _ _ hb), item0, small8 (show 2 ≤ 1000 by decide), fun v nv => ?_⟩
      have hD3 := sNew (o := .tup [.str "give", .int (p.1 : Int)]) nv _ _ hD
      refine ⟨_, hD3, by rw [List.length_map]; exact small1000 (by omega), sOver (sm.trans (sNew nv)) nD, as ++ [v], by rw [upd_same, refs_snoc], ?_⟩
      have tk : Tk (upd H' v (.tup [.str "give", .int (p.1 : Int)])) (upd (upd H' v (.tup [.str "give", .int (p.1 : Int)])) D (.lst (as.map V.ref ++ [V.ref v]))) := Tk.over hD3 (fun xs q => nomatch q)
      rw [take_snoc hL, List.map_append]
      exact Paired.snoc1 ((has.keep (Tk.new nv)).keep tk) ⟨v, rfl, tk _ _ upd_same⟩
    · rintro H1 ⟨sm, as, hD, has⟩
      rw [paired_len hq, List.take_length] at has
      have hal := has.length
      rw [List.length_map] at hal
      -- asks
      refine ⟨_, rfl, _, _, rfl, rfl, _, _, rfl, ⟨by omega, by omega, by omega, by omega⟩, fun F nF => ?_⟩
      have en : ((t : Int) + 1 - 1).toNat = t := by omega
      refine lc_range (lo := 1) (n := ((t : Int) + 1 - 1).toNat) (fun i H' => Same H1 H' ∧ ∃ bs, H' F = some (.lst (bs.map V.ref)) ∧ DeedsAt H' bs ((((List.range t).take i).filter fun k => decide (liveM L + (k + 1) ≤ m)).map fun k => (false, k + 1)))
        ⟨sNew nF, [], upd_same, .nil⟩ ?_ ?_
      · rintro i H' hi ⟨s', bs, hF, hbs⟩
        rw [en] at hi
        have hbl := hbs.length
        rw [List.length_map] at hbl
        have hfl : (((List.range t).take i).filter fun k => decide (liveM L + (k + 1) ≤ m)).length ≤ i := by
          refine Nat.le_trans (List.length_filter_le _ _) ?_
          rw [List.length_take]
          omega
        have ss := sm.trans s'
        refine ⟨rfl, _, rfl, a, L, rfl, hl.keep (Same_tk ss), by omega, fun H3 s3 => ?_⟩
        refine ⟨_, rfl, _, _, rfl, rfl, _, rfl, _, _, rfl, rfl, _, rfl, ?_⟩
        have ef := filter_take (f := fun k => decide (liveM L + (k + 1) ≤ m)) hi
        have hF3 := s3 _ _ hF
        refine ite2 (fun hh => ?_) (fun hh => ?_)
        · have hh' : liveM L + (i + 1) ≤ m := by have := of_decide_eq_true hh; omega
          rw [if_pos (decide_eq_true hh')] at ef
          refine ⟨_, rfl, small8 (show 2 ≤ 1000 by decide), fun v nv => ?_⟩
          have hF4 := sNew (o := .tup [.str "ask", .int ((1 : Int) + (i : Int))]) nv _ _ hF3
          refine ⟨_, hF4, by rw [List.length_map]; exact small1000 (by omega), sOver ((s'.trans s3).trans (sNew nv)) nF, bs ++ [v], by rw [upd_same, refs_snoc], ?_⟩
          have tk : Tk (upd H3 v (.tup [.str "ask", .int ((1 : Int) + (i : Int))])) (upd (upd H3 v (.tup [.str "ask", .int ((1 : Int) + (i : Int))])) F (.lst (bs.map V.ref ++ [V.ref v]))) := Tk.over hF4 (fun xs q => nomatch q)
          rw [ef, List.map_append]
          refine Paired.snoc1 (((hbs.keep (Same_tk s3)).keep (Tk.new nv)).keep tk) ⟨v, rfl, ?_⟩
          refine tk _ _ ?_
          rw [upd_same, show ((1 : Int) + (i : Int)) = ((i + 1 : Nat) : Int) by omega]
          rfl
        · have hh' : ¬ liveM L + (i + 1) ≤ m := fun z => hh (decide_eq_true (by omega))
          rw [if_neg (by rw [decide_eq_false hh']; decide), List.append_nil] at ef
          refine ⟨s'.trans s3, bs, hF3, ?_⟩
          rw [ef]
          exact hbs.keep (Same_tk s3)
      · rintro H2 ⟨s', bs, hF, hbs⟩
        rw [en, List.take_of_length_le (by rw [List.length_range]; exact Nat.le_refl _)] at hbs
        have hbl := hbs.length
        rw [List.length_map] at hbl
        have hfl : ((List.range t).filter fun k => decide (liveM L + (k + 1) ≤ m)).length ≤ t := by
          refine Nat.le_trans (List.length_filter_le _ _) ?_
          rw [List.length_range]
          exact Nat.le_refl _
        have hD2 := s' _ _ hD
        refine ⟨_, rfl, _, rfl, D, F, _, _, rfl, rfl, hD2, hF, small8 (by rw [List.length_map, List.length_map]; omega), fun e ne => ?_⟩
        refine q _ e (as ++ bs) ((sm.trans s').trans (sNew ne)) (by rw [upd_same, List.map_append]) ?_
        unfold mayM
        exact Paired.app ((has.keep (Same_tk s')).keep (Tk.new ne)) (hbs.keep (Tk.new ne))
/-! ### next -/
def spNext (P : Program) (w : World) : Sp := fun vs H Q _ => ∃ (sd a : Addr) (L L' : Layt) (dv : V) (d : Deed) (c m t n : Nat) (lost : Lost) (all : List Layt), vs = [.ref sd, .ref a, dv, .int (c : Int), .int (t : Int)] ∧ LayAt H a L ∧ DeedAt H dv d ∧ L.length ≤ 300 ∧ DRep P w SR H sd (safeF c m t lost all) n ∧
  (L ∈ all ∧ look lost L = none) ∧ (d.1 = false → 1 ≤ d.2) ∧ nextM c m t lost L d = some L' ∧ ∀ H' p, Same H H' → LayAt H' p L' → Q (.ref p) H'
theorem scNext : FnScope ["_law_safe", "_law_layout", "_law_deed", "_law_cells", "_law_top", "_law_places", "_law_at"] ["_law_safe", "_law_layout", "_law_deed", "_law_cells", "_law_top"] (defScope sNext) := ⟨rfl, rfl, rfl, by decide +kernel, rfl, by decide +kernel, by decide +kernel⟩
theorem ok_next (D : Df K mg "_law_next" sNext ["_law_safe", "_law_layout", "_law_deed", "_law_cells", "_law_top"]) (DL : Df K mg "_law_less" sLess ["_law_layout", "_law_at"]) (DW : Df K mg "_law_whole" sWhole ["_law_found"])
    (DF : Df K mg "_law_lies_free" sLies ["_law_layout", "_law_cells", "_law_at", "_law_size"]) (DG : Df K mg "_law_grown" sGrown ["_law_layout", "_law_at", "_law_size"]) (T : Bl mg) :
    FnOk P w K mg base CX0 2 D.f D.fd ["_law_safe", "_law_layout", "_law_deed", "_law_cells", "_law_top"] (spNext P w) := by
  have GL : FnOk P w K mg base CX0 1 DL.f DL.fd ["_law_layout", "_law_at"] spWithout := ok_less DL T
  have GW : FnOk P w K mg base CX0 1 DW.f DW.fd ["_law_found"] spWhole := ok_whole DW T
  have GF : FnOk P w K mg base CX0 1 DF.f DF.fd ["_law_layout", "_law_cells", "_law_at", "_law_size"] spLies := ok_lies DF
  have GG : FnOk P w K mg base CX0 1 DG.f DG.fd ["_law_layout", "_law_at", "_law_size"] spGrown := ok_grown DG T
  refine D.F.ok scNext (fun vs H Q E h => ?_) (fun cdv A outer s H vs Q E hr h => ?_)
  · obtain ⟨sd, a, L, L', dv, d, c, m, t, n, lost, all, rfl, _⟩ := h
    rfl
  · obtain ⟨sd, a, L, L', dv, d, c, m, t, n, lost, all, rfl, hl, ⟨z, rfl, hz⟩, hlen, hsd, hsafe, hd1, hnx, q⟩ := h
    refine ⟨_, pss_cons (ps_if (pt_cmpR op_eq (pe_ix ix_tup (pv 2) pe_int (fun _ _ => rfl)) pe_str (nomark _))
        (pss_one (ps_ret (pe_call GL hr rfl DL.m DL.F.kp DL.b .nil pass0 (pa_cons (pv 1) (pa_cons (pe_ix ix_tup (pv 2) pe_int (fun _ _ => rfl)) pa_nil))))) pss_nil)
      (pss_cons (ps_set (i := 5) scNext.nd rfl (.inl rfl) (pe_ix (ix_N hr.units) (pv 0) (pv 1) (fun _ _ => rfl)))
      (pss_cons (ps_if (PW.pt (pw_or (pt_not (pt_val (pe_callB call_isi (by rfl) T.isinstance (by decide +kernel) (pa_cons (pv 5) (pa_cons (pe_bltn (v := .ty "list") (by rfl) T.list (by decide +kernel) rfl) pa_nil)))))
          (pw_or1 (pt_cmpR op_ne (pe_callB call_len_seq (by rfl) T.len PySem.boot_len (pa_cons (pv 5) pa_nil)) (pv 4) (nomark _))))) (pss_one (ps_ret pe_non)) pss_nil)
      (pss_cons (ps_set (i := 6) scNext.nd rfl (.inl rfl) (pe_ix ix_list (pv 5) (pe_op op_sub (pe_ix ix_tup (pv 2) pe_int (fun _ _ => rfl)) pe_int) (fun _ _ => rfl)))
      (pss_cons (ps_if (PW.pt (pw_or (pt_not (pt_val (pe_call GW hr rfl DW.m DW.F.kp DW.b .nil pass0 (pa_cons (pv 6) pa_nil))))
          (pw_or1 (pt_not (pt_val (pe_call GF hr rfl DF.m DF.F.kp DF.b .nil pass0 (pa_cons (pv 1) (pa_cons (pv 3) (pa_cons (pv 6) (pa_cons (pe_ix ix_tup (pv 2) pe_int (fun _ _ => rfl)) pa_nil)))))))))) (pss_one (ps_ret pe_non)) pss_nil)
      (pss_one (ps_ret (pe_call GG hr rfl DG.m DG.F.kp DG.b .nil pass0 (pa_cons (pv 1) (pa_cons (pv 6) (pa_cons (pe_ix ix_tup (pv 2) pe_int (fun _ _ => rfl)) pa_nil)))))))))), ?_⟩
    obtain ⟨g, x⟩ := d
    refine ⟨_, rfl, z, _, _, _, rfl, rfl, SqT.of hz, item0, rfl, _, rfl, ?_⟩
    cases g with
    | true =>
      show (if decide (V.str (deedS true) = V.str "give") = true then _ else _)
      rw [if_pos give_eq]
      unfold nextM at hnx
      rw [if_pos rfl] at hnx
      cases hnx
      exact ⟨_, rfl, _, rfl, z, _, _, _, rfl, rfl, SqT.of hz, item1, a, L, x, rfl, hl, by omega, q⟩
    | false =>
      show (if decide (V.str (deedS false) = V.str "give") = true then _ else _)
      rw [if_neg (by rw [ask_ne]; decide)]
      unfold nextM at hnx
      rw [if_neg (show ¬ ((false, x) : Deed).1 = true from fun z => nomatch z)] at hnx
      have hx : 1 ≤ x := hd1 rfl
      have hF : safeF c m t lost all L = some (placesM c m t lost L) := by
        unfold safeF
        rw [if_pos hsafe]
      obtain ⟨v, hv, p, rfl, hpl⟩ := hsd.val hF
      have hnx' : (match (placesM c m t lost L).getD (x - 1) none with
        | none => none
        | some a => if liesM c L a x = true then some (grownM L a x) else none) = some L' := hnx
      cases ep : (placesM c m t lost L).getD (x - 1) none with
      | none => rw [ep] at hnx'; cases hnx'
      | some y =>
        rw [ep] at hnx'
        have hli : liesM c L y x = true := by
          by_cases e : liesM c L y x = true
          · exact e
          · have h2 : (if liesM c L y x = true then some (grownM L y x) else none) = some L' := hnx'
            rw [if_neg e] at h2
            cases h2
        have hL' : grownM L y x = L' := by
          have h2 : (if liesM c L y x = true then some (grownM L y x) else none) = some L' := hnx'
          rw [if_pos hli] at h2
          exact Option.some.inj h2
        have hget : ((placesM c m t lost L).map oV)[x - 1]? = some (.int (y : Int)) := by
          rw [List.getD_eq_getElem?_getD] at ep
          cases e : (placesM c m t lost L)[x - 1]? with
          | none => rw [e] at ep; cases ep
          | some o =>
            rw [e] at ep
            have : o = some y := ep
            rw [List.getElem?_map, e, this]
            rfl
        have hlen2 : ((placesM c m t lost L).map oV).length = t := by rw [List.length_map, places_len]
        -- places = safe[layout]
        refine ⟨_, rfl, _, rfl, a, sd, L, _, rfl, rfl, hl, hv, ?_⟩
        refine ⟨_, rfl, .ref p, .ty "list", .type "list", .type "list", true, rfl, .ty _, .base (.lst hpl), kit_ty (by decide +kernel), true, rfl, ?_⟩
        refine ⟨_, rfl, p, _, rfl, .inl (SqL.of hpl), _, rfl, rfl, _, rfl, ?_⟩
        rw [hlen2]
        refine iteNS rfl ?_
        refine ⟨_, rfl, _, rfl, z, _, _, _, rfl, rfl, SqT.of hz, item1, _, _, rfl, rfl, p, _, _, _, rfl, rfl, SqL.of hpl, at_of (j := x - 1) (show ((x : Int) - 1) = ((x - 1 : Nat) : Int) by omega) hget, ?_⟩
        refine ⟨_, rfl, _, rfl, true, rfl, ?_⟩
        refine ⟨_, rfl, _, rfl, _, rfl, _, rfl, z, _, _, _, rfl, rfl, SqT.of hz, item1, a, L, c, y, x, rfl, hl, _, rfl, ?_⟩
        rw [hli]
        refine ⟨_, rfl, _, rfl, _, rfl, z, _, _, _, rfl, rfl, SqT.of hz, item1, a, L, y, x, rfl, hl, by omega, ?_⟩
        rw [hL']
        exact q
end
end L2.SW
namespace L2.SW
open SM PySem PySem.Spec PyProof.Rows
abbrev sHolds : Stmt := topS 26
abbrev sBeat : Stmt := topS 27
abbrev sLaw : Stmt := topS 28
theorem cutV_item {ns : List Int} {lo hi : Option Int} {i : Nat} {x : V} (h : (cutV (ns.map V.int) lo hi)[i]? = some x) : ∃ u, x = V.int u := by
  have hm : x ∈ cutV (ns.map V.int) lo hi := List.mem_of_getElem? h
  unfold cutV at hm
  have h2 := List.mem_of_mem_drop (List.mem_of_mem_take hm)
  obtain ⟨u, _, e⟩ := List.mem_map.mp h2
  exact ⟨u, e.symm⟩
theorem deeds_item {H : Hp} {as : List Addr} {ds : List Deed} (h : DeedsAt H as ds) {z : Nat} (hz : z < ds.length) : ∃ q d, (as.map V.ref)[z]? = some (.ref q) ∧ d ∈ ds ∧ DeedAt H (.ref q) d := by
  have hl := h.length
  have hz' : z < as.length := by omega
  obtain ⟨d, h1, h2⟩ := Paired.get h (List.getElem?_eq_getElem hz')
  exact ⟨as[z], d, by rw [List.getElem?_map, List.getElem?_eq_getElem hz']; rfl, List.mem_of_getElem? h1, h2⟩
theorem may_ask {L : Layt} {m t : Nat} {d : Deed} (h : d ∈ mayM L m t) : d.1 = false → 1 ≤ d.2 := by
  intro e
  unfold mayM at h
  rcases List.mem_append.mp h with h | h
  · obtain ⟨p, _, rfl⟩ := List.mem_map.mp h
    cases e
  · obtain ⟨k, _, rfl⟩ := List.mem_map.mp h
    exact Nat.succ_le_succ (Nat.zero_le k)
theorem hold_of {c m t : Nat} (h : okHold c m t = true) : ([] ∈ allM c m t ∧ look (foeM c m t) [] = none) ∧ ∀ L, L ∈ allM c m t → look (foeM c m t) L = none → 0 < (mayM L m t).length ∧ ∀ d ∈ mayM L m t, ∃ L', nextM c m t (foeM c m t) L d = some L' ∧ L' ∈ allM c m t ∧ look (foeM c m t) L' = none := by
  unfold okHold at h
  dsimp only at h
  rw [Bool.and_eq_true, List.all_eq_true, List.contains_iff_mem] at h
  have mem : ∀ L, L ∈ safeM (allM c m t) (foeM c m t) ↔ L ∈ allM c m t ∧ look (foeM c m t) L = none := by
    intro L
    unfold safeM
    rw [List.mem_filter, Option.isNone_iff_eq_none]
  refine ⟨(mem _).mp h.1, fun L h1 h2 => ?_⟩
  have q := h.2 L ((mem L).mpr ⟨h1, h2⟩)
  rw [Bool.and_eq_true, List.all_eq_true] at q
  refine ⟨?_, fun d hd => ?_⟩
  · cases e : mayM L m t with
    | nil => rw [e] at q; exact absurd q.1 (by decide)
    | cons d r => rw [List.length_cons]; omega
  · have z := q.2 d hd
    cases e : nextM c m t (foeM c m t) L d with
    | none => rw [e] at z; cases z
    | some L' =>
      rw [e] at z
      have z' : (safeM (allM c m t) (foeM c m t)).contains L' = true := z
      rw [List.contains_iff_mem] at z'
      exact ⟨L', rfl, (mem L').mp z'⟩
theorem beat_of {c m t : Nat} (h : okBeat c m t = true) : (∃ v, look (foeM c m t) [] = some v) ∧ ∀ L v, look (foeM c m t) L = some v → L.length ≤ 8 ∧ v.1 ≤ 200 ∧ ∃ Ls, behindM c m t L v.2 = some Ls ∧ ∀ L' ∈ Ls, ∃ v', look (foeM c m t) L' = some v' ∧ v'.1 < v.1 := by
  unfold okBeat at h
  dsimp only at h
  rw [Bool.and_eq_true, List.all_eq_true] at h
  refine ⟨Option.isSome_iff_exists.mp h.1, fun L v hv => ?_⟩
  have q := h.2 _ (look_mem hv)
  rw [Bool.and_eq_true, Bool.and_eq_true, Nat.ble_eq, Nat.ble_eq] at q
  refine ⟨q.1.1, q.1.2, ?_⟩
  have z := q.2
  cases e : behindM c m t L v.2 with
  | none =>
    rw [show behindM c m t ((L, v) : Layt × (Nat × Deed)).1 ((L, v) : Layt × (Nat × Deed)).2.2 = behindM c m t L v.2 from rfl, e] at z
    cases z
  | some Ls =>
    rw [show behindM c m t ((L, v) : Layt × (Nat × Deed)).1 ((L, v) : Layt × (Nat × Deed)).2.2 = behindM c m t L v.2 from rfl, e] at z
    have z' : (Ls.all fun L' => match look (foeM c m t) L' with
      | none => false
      | some v' => Nat.blt v'.1 v.1) = true := z
    rw [List.all_eq_true] at z'
    refine ⟨Ls, rfl, fun L' hL' => ?_⟩
    have y := z' L' hL'
    cases e2 : look (foeM c m t) L' with
    | none => rw [e2] at y; cases y
    | some v' =>
      rw [e2] at y
      have y' : Nat.blt v'.1 v.1 = true := y
      rw [Nat.blt_eq] at y'
      exact ⟨v', rfl, y'⟩
section
variable {P : Program} {w : World} {K : PySem.W.Frag} {mg : Str → Option Value} {base : Heap}
/-- all that the top has left -/
structure Tops (K : PySem.W.Frag) (mg : Str → Option Value) where
  T : Bl mg
  live : Df K mg "live_cells" sLive ["layout"]
  free : Df K mg "free_places" sFree ["cells", "layout", "size"]
  with_ : Df K mg "with_piece" sWith ["layout", "at", "long"]
  without : Df K mg "without_piece" sWithout ["layout", "at"]
  all : Df K mg "all_layouts" sAll ["cells", "most", "top"]
  ask : Df K mg "askable" sAsk ["layout", "most", "top"]
  place : Df K mg "place_that_holds" sPlace ["cells", "layout", "size", "lost"]
  deed : Df K mg "deed_that_beats" sDeed ["cells", "layout", "greatest", "lost"]
  foe : Df K mg "foe_ways" sFoe ["cells", "most", "top"]
  safe : Df K mg "safe_layouts" sSafe ["cells", "most", "top"]
  need : Df K mg "needed_cells" sNeed ["most", "top"]
  cell : Df K mg "_law_cell_at" sCell ["_law_script", "_law_k"]
  draw : Df K mg "_law_draw" sDraw ["_law_script", "_law_k", "_law_many"]
  other : Df K mg "_law_other" sOther ["_law_script", "_law_k", "_law_many"]
  whole : Df K mg "_law_whole" sWhole ["_law_found"]
  lies : Df K mg "_law_lies_free" sLies ["_law_layout", "_law_cells", "_law_at", "_law_size"]
  grown : Df K mg "_law_grown" sGrown ["_law_layout", "_law_at", "_law_size"]
  less : Df K mg "_law_less" sLess ["_law_layout", "_law_at"]
  lawLive : Df K mg "_law_live" sLawLive ["_law_layout"]
  isWay : Df K mg "_law_is_way" sIsWay ["_law_way"]
  behind : Df K mg "_law_behind" sBehind ["_law_layout", "_law_deed", "_law_cells", "_law_most", "_law_top"]
  may : Df K mg "_law_may" sMay ["_law_layout", "_law_most", "_law_top"]
  next : Df K mg "_law_next" sNext ["_law_safe", "_law_layout", "_law_deed", "_law_cells", "_law_top"]
  holds : Df K mg "_law_holds_out" sHolds ["_law_script", "_law_cells", "_law_most", "_law_top"]
  beat : Df K mg "_law_is_beaten" sBeat ["_law_script", "_law_cells", "_law_most", "_law_top"]
/-! ### holds_out -/
def spHolds (K : PySem.W.Frag) (w : World) : Sp := fun vs H Q _ => ∃ (a : Addr) (ns : List Int) (c m t : Nat), vs = [.ref a, .int (c : Int), .int (m : Int), .int (t : Int)] ∧ SqL K H a (ns.map V.int) ∧ AllOk c m t ∧ HApart w c m t ∧ c ≤ 300 ∧ m ≤ 300 ∧ t ≤ 300 ∧ okHold c m t = true ∧
  ∀ H', Same H H' → Q (.bl true) H'
theorem scHolds : FnScope ["_law_script", "_law_cells", "_law_most", "_law_top", "_law_safe", "_law_layout", "_law_cell", "_law_deeds"] ["_law_script", "_law_cells", "_law_most", "_law_top"] (defScope sHolds) := ⟨rfl, rfl, rfl, by decide +kernel, rfl, by decide +kernel, by decide +kernel⟩
theorem ok_holds (Z : Tops K mg) : FnOk P w K mg base CX0 6 Z.holds.f Z.holds.fd ["_law_script", "_law_cells", "_law_most", "_law_top"] (spHolds K w) := by
  have T := Z.T
  have GS : FnOk P w K mg base CX0 5 Z.safe.f Z.safe.fd ["cells", "most", "top"] (spSafe P w) := ok_safe Z.safe Z.foe Z.all Z.ask Z.deed Z.live Z.without Z.place Z.free Z.with_ T
  have GM : FnOk P w K mg base CX0 2 Z.may.f Z.may.fd ["_law_layout", "_law_most", "_law_top"] spMay := ok_may Z.may Z.lawLive T
  have GN : FnOk P w K mg base CX0 2 Z.next.f Z.next.fd ["_law_safe", "_law_layout", "_law_deed", "_law_cells", "_law_top"] (spNext P w) := ok_next Z.next Z.less Z.whole Z.lies Z.grown T
  refine Z.holds.F.ok scHolds (fun vs H Q E h => ?_) (fun cdv A outer s H vs Q E hr h => ?_)
  · obtain ⟨a, ns, c, m, t, rfl, _⟩ := h
    rfl
  · obtain ⟨a, ns, c, m, t, rfl, hS, hok, hap, hc, hm, ht, hh, q⟩ := h
    refine ⟨_, pss_cons (ps_set (i := 4) scHolds.nd rfl (.inl rfl) (pe_call GS hr rfl Z.safe.m Z.safe.F.kp Z.safe.b .nil pass0 (pa_cons (pv 1) (pa_cons (pv 2) (pa_cons (pv 3) pa_nil)))))
      (pss_cons (ps_set (i := 5) scHolds.nd rfl (.inl rfl) (pe_tup pa_nil))
      (pss_cons (ps_if (PW.pt (pw_or (pt_not (pt_val (pe_callB call_isiN (by rfl) T.isinstance (by decide +kernel) (pa_cons (pv 4) (pa_cons (pe_bltn (v := .ty "dict") (by rfl) T.dict (by decide +kernel) rfl) pa_nil))))) (pw_or1 (pt_cmpR (op_notInN hr.units) (pv 5) (pv 4) (by rfl))))) (pss_one (ps_ret pe_bl)) pss_nil)
      (pss_cons (ps_for PassesOwn.never rfl (pi_list (pe_slice sl_list (pv 0) (po_some pe_int) (po_some pe_int))) (pg_name (i := 6) scHolds.nd rfl (.inl rfl))
        (pss_cons (ps_set (i := 7) scHolds.nd rfl (.inl rfl) (pe_call GM (hr.mono (by decide)) rfl Z.may.m Z.may.F.kp Z.may.b .nil pass0 (pa_cons (pv 5) (pa_cons (pv 2) (pa_cons (pv 3) pa_nil)))))
        (pss_cons (ps_set (i := 5) scHolds.nd rfl (.inl rfl) (pe_call GN (hr.mono (by decide)) rfl Z.next.m Z.next.F.kp Z.next.b .nil pass0 (pa_cons (pv 4) (pa_cons (pv 5) (pa_cons (pe_ix ix_list (pv 7) (pe_op op_mod (pv 6) (pe_callB call_len_seq (by rfl) T.len PySem.boot_len (pa_cons (pv 7) pa_nil))) (fun _ _ => rfl)) (pa_cons (pv 1) (pa_cons (pv 3) pa_nil)))))))
        (pss_one (ps_if (PW.pt (pw_or (pt_cmpR op_isN (pv 5) pe_non (nomark _)) (pw_or1 (pt_cmpR (op_notInN hr.units) (pv 5) (pv 4) (by rfl))))) (pss_one (ps_ret pe_bl)) pss_nil)))))
      (pss_one (ps_ret pe_bl))))), ?_⟩
    obtain ⟨h0, hstep⟩ := hold_of hh
    have hlay : ∀ L ∈ allM c m t, L.length ≤ 8 ∧ liveM L ≤ m ∧ ∀ p ∈ L, p.1 + p.2 ≤ c ∧ 1 ≤ p.2 := fun L hL => hok.lay L (all_mem.mp hL)
    have hF : ∀ L, L ∈ allM c m t → look (foeM c m t) L = none → (safeF c m t (foeM c m t) (allM c m t) L).isSome = true := fun L h1 h2 => by
      unfold safeF
      rw [if_pos ⟨h1, h2⟩]
      rfl
    refine ⟨_, rfl, _, rfl, _, rfl, c, m, t, rfl, hok, hap, by omega, by omega, by omega, fun H1 sd n s1 nd hn hD => ?_⟩
    -- layout = ()
    refine ⟨Nat.zero_le _, fun e ne => ?_⟩
    have s2 : Same H (upd H1 e (.tup [])) := s1.trans (sNew ne)
    have hD2 := hD.same SR_no (sNew (o := .tup []) ne)
    obtain ⟨ys, hraw⟩ := hD2.raw
    have hE : LayAt (upd H1 e (.tup [])) e [] := ⟨[], upd_same, .nil⟩
    refine ⟨_, rfl, sd, .ty "dict", .type "dict", true, ys, rfl, .ty _, hraw, kit_ty (by decide +kernel), true, rfl, ?_⟩
    refine ⟨_, rfl, _, rfl, e, sd, [], _, rfl, rfl, hE, hD2.has [], _, rfl, ?_⟩
    show (if (!(safeF c m t (foeM c m t) (allM c m t) []).isSome) = true then _ else _)
    rw [hF [] h0.1 h0.2, if_neg (by decide)]
    -- for cell in script[2:200]
    refine ⟨_, rfl, _, rfl, _, rfl, a, _, rfl, s2.seq hS, fun p np => ⟨p, rfl, ⟨_, SqL.of upd_same⟩, ?_⟩⟩
    have np0 : H p = none := s2.free np
    refine for_list (K := K) (a := p) (xs := cutV (ns.map V.int) (some 2) (some 200)) (fun i σ H' => ∃ (b : Addr) (L : Layt) (y6 y7 : Option V), σ = [some (.ref a), some (.int (c : Int)), some (.int (m : Int)), some (.int (t : Int)), some (.ref sd), some (.ref b), y6, y7] ∧
        Same H H' ∧ H' p = some (.lst (cutV (ns.map V.int) (some 2) (some 200))) ∧ LayAt H' b L ∧ L ∈ allM c m t ∧ look (foeM c m t) L = none ∧ DRep P w SR H' sd (safeF c m t (foeM c m t) (allM c m t)) n)
      ⟨e, [], none, none, rfl, s2.trans (sNew np), upd_same, hE.keep (Tk.new np), h0.1, h0.2, hD2.same SR_no (sNew np)⟩ (fun i σ H' _ ⟨_, _, _, _, _, _, hp, _⟩ => SqL.of hp) ?_ ?_
    · rintro i x σ H' hi ⟨b, L, y6, y7, rfl, sm, hp, hb, hL1, hL2, hD'⟩
      obtain ⟨u, rfl⟩ := cutV_item hi
      have hLa := hlay L hL1
      obtain ⟨hm0, hmay⟩ := hstep L hL1 hL2
      -- deeds
      refine ⟨_, rfl, _, rfl, _, rfl, b, L, m, t, rfl, hb, by omega, ht, fun H2 f as s3 hf has => ?_⟩
      have hal := has.length
      have hla : (as.map V.ref).length = (mayM L m t).length := by rw [List.length_map, hal]
      obtain ⟨z, hz1, hz2⟩ := emod_nat u hm0
      obtain ⟨qa, d, hg, hdm, hdd⟩ := deeds_item has hz1
      obtain ⟨L', hn1, hn2, hn3⟩ := hmay d hdm
      have ss := sm.trans s3
      refine ⟨_, rfl, _, rfl, _, rfl, _, rfl, _, rfl, f, _, rfl, .inl (SqL.of hf), _, _, rfl, rfl, ?_, f, _, _, _, rfl, rfl, SqL.of hf, at_of (j := z) ?_ hg, ?_⟩
      · rw [hla]
        show (0 : Int) < _
        omega
      · show u % (((as.map V.ref).length : Nat) : Int) = _
        rw [hla]
        exact hz2
      refine ⟨_, rfl, _, rfl, sd, b, L, L', .ref qa, d, c, m, t, n, foeM c m t, allM c m t, rfl, hb.keep (Same_tk s3), hdd, by omega, hD'.same SR_no s3, ⟨hL1, hL2⟩, may_ask hdm, hn1, fun H3 g s4 hg4 => ?_⟩
      have hD4 := (hD'.same SR_no s3).same SR_no s4
      refine ⟨_, rfl, rfl, _, rfl, ?_⟩
      show (if decide (V.ref g = V.non) = true then _ else _)
      rw [if_neg (by rw [decide_eq_false (fun q => nomatch q)]; decide)]
      refine ⟨_, rfl, _, rfl, g, sd, L', _, rfl, rfl, hg4, hD4.has L', _, rfl, ?_⟩
      show (if (!(safeF c m t (foeM c m t) (allM c m t) L').isSome) = true then _ else _)
      rw [hF L' hn2 hn3, if_neg (by decide)]
      exact ⟨g, L', _, _, rfl, ss.trans s4, s4 _ _ (s3 _ _ hp), hg4, hn2, hn3, hD4⟩
    · rintro σ H' ⟨b, L, y6, y7, rfl, sm, _⟩
      exact q H' sm
/-! ### is_beaten -/
def spBeat (K : PySem.W.Frag) (w : World) : Sp := fun vs H Q _ => ∃ (a : Addr) (ns : List Int) (c m t : Nat), vs = [.ref a, .int (c : Int), .int (m : Int), .int (t : Int)] ∧ SqL K H a (ns.map V.int) ∧ AllOk c m t ∧ HApart w c m t ∧ c ≤ 300 ∧ m ≤ 300 ∧ t ≤ 300 ∧ okBeat c m t = true ∧
  ∀ H', Same H H' → Q (.bl true) H'
theorem scBeat : FnScope ["_law_script", "_law_cells", "_law_most", "_law_top", "_law_lost", "_law_layout", "_law_turn", "_law_way", "_law_behind_here"] ["_law_script", "_law_cells", "_law_most", "_law_top"] (defScope sBeat) := ⟨rfl, rfl, rfl, by decide +kernel, rfl, by decide +kernel, by decide +kernel⟩
def BeatW (P : Program) (w : World) (H : Hp) (a : Addr) (c m t : Nat) (ld : Addr) (n : Nat) : Nat → St → Hp → Prop := fun mm σ H' => ∃ (b : Addr) (L : Layt) (v : Nat × Deed) (turn : Nat) (y7 y8 : Option V),
  σ = [some (.ref a), some (.int (c : Int)), some (.int (m : Int)), some (.int (t : Int)), some (.ref ld), some (.ref b), some (.int (turn : Int)), y7, y8] ∧ Same H H' ∧ LayAt H' b L ∧ look (foeM c m t) L = some v ∧ mm = v.1 ∧ turn + v.1 ≤ 200 ∧ DRep P w WR H' ld (look (foeM c m t)) n
theorem ok_beat (Z : Tops K mg) : FnOk P w K mg base CX0 5 Z.beat.f Z.beat.fd ["_law_script", "_law_cells", "_law_most", "_law_top"] (spBeat K w) := by
  have T := Z.T
  have GE : FnOk P w K mg base CX0 4 Z.foe.f Z.foe.fd ["cells", "most", "top"] (spFoe P w) := ok_foe Z.foe Z.all Z.ask Z.deed Z.live Z.without Z.place Z.free Z.with_ T
  have GI : FnOk P w K mg base CX0 2 Z.isWay.f Z.isWay.fd ["_law_way"] spIsWay := ok_isWay Z.isWay Z.whole T
  have GB : FnOk P w K mg base CX0 2 Z.behind.f Z.behind.fd ["_law_layout", "_law_deed", "_law_cells", "_law_most", "_law_top"] spBehind := ok_behind Z.behind Z.less Z.lawLive Z.lies Z.grown T
  have GO : FnOk P w K mg base CX0 2 Z.other.f Z.other.fd ["_law_script", "_law_k", "_law_many"] (spDraw K) := ok_other Z.other Z.cell T
  refine Z.beat.F.ok scBeat (fun vs H Q E h => ?_) (fun cdv A outer s H vs Q E hr h => ?_)
  · obtain ⟨a, ns, c, m, t, rfl, _⟩ := h
    rfl
  · obtain ⟨a, ns, c, m, t, rfl, hS, hok, hap, hc, hm, ht, hh, q⟩ := h
    refine ⟨_, pss_cons (ps_set (i := 4) scBeat.nd rfl (.inl rfl) (pe_call GE hr rfl Z.foe.m Z.foe.F.kp Z.foe.b .nil pass0 (pa_cons (pv 1) (pa_cons (pv 2) (pa_cons (pv 3) pa_nil)))))
      (pss_cons (ps_set (i := 5) scBeat.nd rfl (.inl rfl) (pe_tup pa_nil))
      (pss_cons (ps_if (PW.pt (pw_or (pt_not (pt_val (pe_callB call_isiN (by rfl) T.isinstance (by decide +kernel) (pa_cons (pv 4) (pa_cons (pe_bltn (v := .ty "dict") (by rfl) T.dict (by decide +kernel) rfl) pa_nil)))))
          (pw_or (pt_cmpR (op_notInN hr.units) (pv 5) (pv 4) (by rfl)) (pw_or1 (pt_not (pt_val (pe_call GI (hr.mono (by decide)) rfl Z.isWay.m Z.isWay.F.kp Z.isWay.b .nil pass0 (pa_cons (pe_ix (ix_N hr.units) (pv 4) (pv 5) (fun _ _ => rfl)) pa_nil)))))))) (pss_one (ps_ret pe_bl)) pss_nil)
      (pss_cons (ps_set (i := 6) scBeat.nd rfl (.inl rfl) pe_int)
      (pss_one (ps_while PassesOwn.never (pt_val pe_bl)
        (pss_cons (ps_set (i := 7) scBeat.nd rfl (.inl rfl) (pe_ix (ix_N hr.units) (pv 4) (pv 5) (fun _ _ => rfl)))
        (pss_cons (ps_set (i := 8) scBeat.nd rfl (.inl rfl) (pe_call GB (hr.mono (by decide)) rfl Z.behind.m Z.behind.F.kp Z.behind.b .nil pass0 (pa_cons (pv 5) (pa_cons (pe_ix ix_tup (pv 7) pe_int (fun _ _ => rfl)) (pa_cons (pv 1) (pa_cons (pv 2) (pa_cons (pv 3) pa_nil)))))))
        (pss_cons (ps_if (pt_cmpR op_isN (pv 8) pe_non (nomark _)) (pss_one (ps_ret pe_bl)) pss_nil)
        (pss_cons (ps_if (pt_cmpR op_eq (pe_callB call_len_seq (by rfl) T.len PySem.boot_len (pa_cons (pv 8) pa_nil)) pe_int (nomark _)) (pss_one (ps_ret pe_bl)) pss_nil)
        (pss_cons (ps_set (i := 5) scBeat.nd rfl (.inl rfl) (pe_ix ix_list (pv 8) (pe_call GO (hr.mono (by decide)) rfl Z.other.m Z.other.F.kp Z.other.b .nil pass0 (pa_cons (pv 0) (pa_cons (pe_op op_add pe_int (pv 6)) (pa_cons (pe_callB call_len_seq (by rfl) T.len PySem.boot_len (pa_cons (pv 8) pa_nil)) pa_nil)))) (fun _ _ => rfl)))
        (pss_cons (ps_if (PW.pt (pw_or (pt_cmpR (op_notInN hr.units) (pv 5) (pv 4) (by rfl)) (pw_or (pt_not (pt_val (pe_call GI (hr.mono (by decide)) rfl Z.isWay.m Z.isWay.F.kp Z.isWay.b .nil pass0 (pa_cons (pe_ix (ix_N hr.units) (pv 4) (pv 5) (fun _ _ => rfl)) pa_nil))))
            (pw_or1 (pt_cmpR op_ge (pe_ix ix_tup (pe_ix (ix_N hr.units) (pv 4) (pv 5) (fun _ _ => rfl)) pe_int (fun _ _ => rfl)) (pe_ix ix_tup (pv 7) pe_int (fun _ _ => rfl)) (nomark _)))))) (pss_one (ps_ret pe_bl)) pss_nil)
        (pss_one (ps_set (i := 6) scBeat.nd rfl (.inl rfl) (pe_op op_add (pv 6) pe_int)))))))))))))), ?_⟩
    obtain ⟨⟨v0, hv0⟩, hstep⟩ := beat_of hh
    refine ⟨_, rfl, _, rfl, _, rfl, c, m, t, rfl, hok, hap, by omega, by omega, by omega, fun H1 ld n s1 nd hn hD => ?_⟩
    refine ⟨Nat.zero_le _, fun e ne => ?_⟩
    have s2 : Same H (upd H1 e (.tup [])) := s1.trans (sNew ne)
    have hD2 := hD.same WR_no (sNew (o := .tup []) ne)
    obtain ⟨ys, hraw⟩ := hD2.raw
    have hE : LayAt (upd H1 e (.tup [])) e [] := ⟨[], upd_same, .nil⟩
    refine ⟨_, rfl, ld, .ty "dict", .type "dict", true, ys, rfl, .ty _, hraw, kit_ty (by decide +kernel), true, rfl, ?_⟩
    refine ⟨_, rfl, _, rfl, e, ld, [], _, rfl, rfl, hE, hD2.has [], _, rfl, ?_⟩
    show (if (!(look (foeM c m t) []).isSome) = true then _ else _)
    rw [hv0, if_neg (show ¬ (!(some v0).isSome) = true from fun z => nomatch z)]
    obtain ⟨x0, hx0, hw0⟩ := hD2.val hv0
    refine ⟨_, rfl, _, rfl, e, ld, [], _, rfl, rfl, hE, hx0, x0, v0, rfl, hw0, fun H3 s3 => ⟨true, rfl, ?_⟩⟩
    have hD3 := hD2.same WR_no s3
    refine ⟨BeatW P w H a c m t ld n, ⟨_, e, [], v0, 0, none, none, rfl, s2.trans s3, hE.keep (Same_tk s3), hv0, rfl, ?_, hD3⟩, ?_⟩
    · have := (hstep [] v0 hv0).2.1
      omega
    rintro mm σ H4 ⟨b, L, v, turn, y7, y8, rfl, sm, hb, hv, rfl, htu, hD4⟩
    refine ⟨true, rfl, fun σ' H' => ∃ mm', mm' < v.1 ∧ BeatW P w H a c m t ld n mm' σ' H', fun _ _ h => h, ?_⟩
    obtain ⟨hl8, hr2, Ls, hLs, hfall⟩ := hstep L v hv
    -- way = lost[layout]
    obtain ⟨x, hx, hw⟩ := hD4.val hv
    refine ⟨_, rfl, _, rfl, b, ld, L, x, rfl, rfl, hb, hx, ?_⟩
    obtain ⟨wp, wx, rfl, hwp, hwd⟩ := hw
    refine ⟨_, rfl, _, rfl, wp, _, _, _, rfl, rfl, SqT.of hwp, item1, _, rfl, _, rfl, _, rfl, b, L, wx, v.2, c, m, t, Ls, rfl, hb, hwd, by omega, hc, hLs, fun H5 f as s5 hf has => ?_⟩
    have hal := has.length
    have hla : (as.map V.ref).length = Ls.length := by rw [List.length_map, hal]
    refine ⟨_, rfl, rfl, _, rfl, ?_⟩
    show (if decide (V.ref f = V.non) = true then _ else _)
    rw [if_neg (by rw [decide_eq_false (fun q => nomatch q)]; decide)]
    refine ⟨_, rfl, f, _, rfl, .inl (SqL.of hf), rfl, _, rfl, ?_⟩
    have s45 := sm.trans s5
    by_cases h0 : (as.map V.ref).length = 0
    · rw [h0]
      exact q H5 s45
    · show (if decide (V.int (((as.map V.ref).length : Nat) : Int) = V.int 0) = true then _ else _)
      rw [if_neg (by rw [decide_eq_false (fun z => h0 (by injection z with z; omega))]; decide)]
      refine ⟨_, rfl, _, rfl, _, rfl, _, _, rfl, rfl, _, rfl, f, _, rfl, .inl (SqL.of hf), a, ns, 2 + turn, (as.map V.ref).length, ?_, s45.seq hS, by omega, by omega, fun z hz => ?_⟩
      · show ([V.ref a, V.int ((2 : Int) + (turn : Int)), V.int (((as.map V.ref).length : Nat) : Int)] : List V) = _
        rw [show (2 : Int) + (turn : Int) = ((2 + turn : Nat) : Int) by omega]
      have hz' : z < as.length := by rw [List.length_map] at hz; exact hz
      obtain ⟨L', hL1, hL2⟩ := Paired.get has (List.getElem?_eq_getElem hz')
      obtain ⟨v', hv', hlt⟩ := hfall L' (List.mem_of_getElem? hL1)
      refine ⟨f, _, _, .ref as[z], rfl, rfl, SqL.of hf, atI_nat (by rw [List.getElem?_map, List.getElem?_eq_getElem hz']; rfl), ?_⟩
      have hD5 := hD4.same WR_no s5
      refine ⟨_, rfl, _, rfl, as[z], ld, L', _, rfl, rfl, hL2, hD5.has L', _, rfl, ?_⟩
      show (if (!(look (foeM c m t) L').isSome) = true then _ else _)
      rw [hv', if_neg (show ¬ (!(some v').isSome) = true from fun z => nomatch z)]
      obtain ⟨x', hx', hw'⟩ := hD5.val hv'
      refine ⟨_, rfl, _, rfl, as[z], ld, L', _, rfl, rfl, hL2, hx', x', v', rfl, hw', fun H6 s6 => ⟨true, rfl, ?_⟩⟩
      have hD6 := hD5.same WR_no s6
      obtain ⟨x2, hx2, wp2, wx2, rfl, hwp2, hwd2⟩ := hD6.val hv'
      have s56 := s5.trans s6
      refine ⟨_, rfl, _, rfl, as[z], ld, L', _, rfl, rfl, hL2.keep (Same_tk s6), hx2, wp2, _, _, _, rfl, rfl, SqT.of hwp2, item0, _, rfl, wp, _, _, _, rfl, rfl, SqT.of (s56 _ _ hwp), item0, _, _, rfl, rfl, _, rfl, ?_⟩
      show (if decide ((v.1 : Int) ≤ (v'.1 : Int)) = true then _ else _)
      rw [if_neg (by rw [decide_eq_false (by omega)]; decide)]
      refine ⟨_, rfl, _, _, rfl, rfl, v'.1, hlt, as[z], L', v', turn + 1, some (.ref wp), some (.ref f), ?_, s45.trans s6, hL2.keep (Same_tk s6), hv', rfl, by omega, hD6⟩
      rw [show ((turn + 1 : Nat) : Int) = (turn : Int) + 1 by omega]
      rfl
end
end L2.SW
namespace L2.SW
open SM PySem PySem.Spec PyProof.Rows
/-! ### hashes -/
def ph (p : Nat × Nat) : Int := reduceHash (Builtin.Tuple.tupleHashOf [hashInt (p.1 : Int), hashInt (p.2 : Int)])
def lh (L : Layt) : Int := reduceHash (Builtin.Tuple.tupleHashOf (L.map ph))
theorem hash_keyP (w : World) (p : Nat × Nat) : (keyP p).hash w = ph p := by
  unfold keyP ph
  simp [NestedKey.hash, NestedKey.hashes]
theorem hash_keyL (w : World) (L : Layt) : (keyL L).hash w = lh L := by
  have : NestedKey.hashes w (L.map keyP) = L.map ph := by
    induction L with
    | nil => simp [NestedKey.hashes]
    | cons p L ih => rw [List.map_cons, NestedKey.hashes, hash_keyP, ih]; rfl
  unfold keyL lh
  rw [NestedKey.hash, this]
def nodupI : List Int → Bool
  | [] => true
  | x :: l => (l.all fun y => !decide (x = y)) && nodupI l
theorem nodupI_inj : ∀ {l : List Layt}, nodupI (l.map lh) = true → ∀ L ∈ l, ∀ M ∈ l, lh L = lh M → L = M
  | [], _, _, h, _, _, _ => nomatch h
  | x :: l, h, L, hL, M, hM, e => by
    rw [List.map_cons] at h
    unfold nodupI at h
    rw [Bool.and_eq_true, List.all_eq_true] at h
    have no : ∀ y ∈ l, lh x ≠ lh y := fun y hy z => by
      have := h.1 (lh y) (List.mem_map.mpr ⟨y, hy, rfl⟩)
      rw [decide_eq_true z] at this
      exact nomatch this
    rcases List.mem_cons.mp hL with e1 | h1
    · rcases List.mem_cons.mp hM with e2 | h2
      · rw [e1, e2]
      · rw [e1] at e
        exact absurd e (no M h2)
    · rcases List.mem_cons.mp hM with e2 | h2
      · rw [e2] at e
        exact absurd e.symm (no L h1)
      · exact nodupI_inj h.2 L h1 M h2 e
set_option maxHeartbeats 0 in
theorem hash_all : ∀ c ∈ [1, 2, 3, 4, 5, 6], ∀ m ∈ [1, 2, 3, 4], ∀ t ∈ [1, 2, 3], nodupI ((allM c m t).map lh) = true := by decide +kernel
theorem apart_of (w : World) {c m t : Nat} (h : nodupI ((allM c m t).map lh) = true) : HApart w c m t := fun L hL M hM e => by
  rw [hash_keyL, hash_keyL] at e
  exact nodupI_inj h L hL M hM e
section
variable {P : Program} {w : World} {K : PySem.W.Frag} {mg : Str → Option Value} {base : Heap}
/-! ### the law -/
def spLaw (K : PySem.W.Frag) : Sp := fun vs H Q _ => ∃ (a : Addr) (ns : List Int), vs = [.ref a] ∧ SqL K H a (ns.map V.int) ∧ ns.length ≤ 63 ∧ ∀ H', Q (.bl true) H'
theorem scLaw : FnScope ["_law_script", "_law_most", "_law_top", "_law_cells"] ["_law_script"] (defScope sLaw) := ⟨rfl, rfl, rfl, by decide +kernel, rfl, by decide +kernel, by decide +kernel⟩
theorem ok_law (Z : Tops K mg) {f : Addr} {fd : FuncData} (F : Fun K "law" "law" sLaw f fd) : FnOk P w K mg base CX0 7 f fd ["_law_script"] (spLaw K) := by
  have T := Z.T
  have GD : FnOk P w K mg base CX0 2 Z.draw.f Z.draw.fd ["_law_script", "_law_k", "_law_many"] (spDraw K) := ok_draw Z.draw Z.cell T
  have GN : FnOk P w K mg base CX0 5 Z.need.f Z.need.fd ["most", "top"] (spNeed w) := ok_need Z.need Z.foe Z.all Z.ask Z.deed Z.live Z.without Z.place Z.free Z.with_ T
  have GW : FnOk P w K mg base CX0 1 Z.whole.f Z.whole.fd ["_law_found"] spWhole := ok_whole Z.whole T
  have GH : FnOk P w K mg base CX0 6 Z.holds.f Z.holds.fd ["_law_script", "_law_cells", "_law_most", "_law_top"] (spHolds K w) := ok_holds Z
  have GB : FnOk P w K mg base CX0 5 Z.beat.f Z.beat.fd ["_law_script", "_law_cells", "_law_most", "_law_top"] (spBeat K w) := ok_beat Z
  refine F.ok scLaw (fun vs H Q E h => ?_) (fun cdv A outer s H vs Q E hr h => ?_)
  · obtain ⟨a, ns, rfl, _⟩ := h
    rfl
  · obtain ⟨a, ns, rfl, hS, hlen, q⟩ := h
    refine ⟨_, pss_cons (ps_set (i := 1) scLaw.nd rfl (.inl rfl) (pe_op op_add pe_int (pe_call GD (hr.mono (by decide)) rfl Z.draw.m Z.draw.F.kp Z.draw.b .nil pass0 (pa_cons (pv 0) (pa_cons pe_int (pa_cons pe_int pa_nil))))))
      (pss_cons (ps_set (i := 2) scLaw.nd rfl (.inl rfl) (pe_op op_add pe_int (pe_call GD (hr.mono (by decide)) rfl Z.draw.m Z.draw.F.kp Z.draw.b .nil pass0 (pa_cons (pv 0) (pa_cons pe_int (pa_cons pe_int pa_nil))))))
      (pss_cons (ps_set (i := 3) scLaw.nd rfl (.inl rfl) (pe_call GN (hr.mono (by decide)) rfl Z.need.m Z.need.F.kp Z.need.b .nil pass0 (pa_cons (pv 1) (pa_cons (pv 2) pa_nil))))
      (pss_cons (ps_if (PW.pt (pw_or (pt_not (pt_val (pe_call GW (hr.mono (by decide)) rfl Z.whole.m Z.whole.F.kp Z.whole.b .nil pass0 (pa_cons (pv 3) pa_nil)))) (pw_or (pt_cmpR op_lt (pv 3) (pv 1) (nomark _)) (pw_or1 (pt_cmpR op_gt (pv 3) pe_int (nomark _)))))) (pss_one (ps_ret pe_bl)) pss_nil)
      (pss_cons (ps_if (pt_not (pt_val (pe_call GH hr rfl Z.holds.m Z.holds.F.kp Z.holds.b .nil pass0 (pa_cons (pv 0) (pa_cons (pv 3) (pa_cons (pv 1) (pa_cons (pv 2) pa_nil))))))) (pss_one (ps_ret pe_bl)) pss_nil)
      (pss_one (ps_ret (pe_or (pe_cmpR op_eq (pv 3) pe_int (nomark _)) (pe_one (pe_call GB (hr.mono (by decide)) rfl Z.beat.m Z.beat.F.kp Z.beat.b .nil pass0 (pa_cons (pv 0) (pa_cons (pe_op op_sub (pv 3) pe_int) (pa_cons (pv 1) (pa_cons (pv 2) pa_nil))))))))))))), ?_⟩
    refine ⟨_, rfl, a, ns, 0, 4, rfl, hS, by omega, by omega, fun z0 hz0 => ⟨_, _, rfl, rfl, ?_⟩⟩
    refine ⟨_, rfl, a, ns, 1, 3, rfl, hS, by omega, by omega, fun z1 hz1 => ⟨_, _, rfl, rfl, ?_⟩⟩
    show tSeq _ _ _ [some (.ref a), some (.int ((1 : Int) + (z0 : Int))), some (.int ((1 : Int) + (z1 : Int))), none] H
    rw [show (1 : Int) + (z0 : Int) = ((1 + z0 : Nat) : Int) by omega, show (1 : Int) + (z1 : Int) = ((1 + z1 : Nat) : Int) by omega]
    generalize hm : 1 + z0 = m
    generalize ht : 1 + z1 = t
    have hm' : m ∈ [1, 2, 3, 4] := by
      have : m = 1 ∨ m = 2 ∨ m = 3 ∨ m = 4 := by omega
      rcases this with rfl | rfl | rfl | rfl <;> decide
    have ht' : t ∈ [1, 2, 3] := by
      have : t = 1 ∨ t = 2 ∨ t = 3 := by omega
      rcases this with rfl | rfl | rfl <;> decide
    have good : ∀ c, 1 ≤ c → c ≤ 6 → AllOk c m t ∧ HApart w c m t := fun c h1 h6 => by
      have hc : c ∈ [1, 2, 3, 4, 5, 6] := by
        have : c = 1 ∨ c = 2 ∨ c = 3 ∨ c = 4 ∨ c = 5 ∨ c = 6 := by omega
        rcases this with rfl | rfl | rfl | rfl | rfl | rfl <;> decide
      exact ⟨AllOk.of (all_all c hc m hm' t ht'), apart_of w (hash_all c hc m hm' t ht')⟩
    have hneed := need_all m hm' t ht'
    obtain ⟨n1, n2, n3, n4⟩ := okNeed_of hneed
    refine ⟨_, rfl, _, rfl, m, t, rfl, by omega, fun c h1 h2 => good c (by omega) h2, by omega, by omega, hneed, fun H1 s1 => ?_⟩
    refine ⟨_, rfl, _, rfl, true, rfl, ?_⟩
    refine ⟨_, rfl, _, rfl, _, _, rfl, rfl, _, rfl, ?_⟩
    show (if decide ((needM m t : Int) < (m : Int)) = true then _ else _)
    rw [if_neg (by rw [decide_eq_false (by omega)]; decide)]
    refine ⟨_, rfl, _, _, rfl, rfl, _, rfl, ?_⟩
    show (if decide ((6 : Int) < (needM m t : Int)) = true then _ else _)
    rw [if_neg (by rw [decide_eq_false (by omega)]; decide)]
    have g := good (needM m t) (by omega) n2
    refine ⟨_, rfl, _, rfl, _, rfl, _, rfl, a, ns, needM m t, m, t, rfl, s1.seq hS, g.1, g.2, by omega, by omega, by omega, hold_all m hm' t ht', fun H2 s2 => ⟨true, rfl, ?_⟩⟩
    refine ⟨_, rfl, rfl, _, rfl, ?_⟩
    by_cases h1 : needM m t = 1
    · show (if decide (V.int (needM m t : Int) = V.int 1) = true then _ else _)
      rw [if_pos (decide_eq_true (by rw [h1]; rfl))]
      exact q H2
    · show (if decide (V.int (needM m t : Int) = V.int 1) = true then _ else _)
      rw [if_neg (by rw [decide_eq_false (fun z => h1 (by injection z with z; omega))]; decide)]
      have g2 := good (needM m t - 1) (by omega) (by omega)
      have hbt : okBeat (needM m t - 1) m t = true := (beat_all m hm' t ht').resolve_left h1
      refine ⟨_, rfl, _, rfl, _, _, rfl, rfl, _, rfl, _, rfl, a, ns, needM m t - 1, m, t, ?_, s2.seq (s1.seq hS), g2.1, g2.2, by omega, by omega, by omega, hbt, fun H3 s3 => q H3⟩
      show ([V.ref a, V.int ((needM m t : Int) - 1), V.int (m : Int), V.int (t : Int)] : List V) = _
      rw [show ((needM m t : Int) - 1) = ((needM m t - 1 : Nat) : Int) by omega]
end
end L2.SW
namespace L2.SW
open SM PySem PySem.Spec PyProof.Rows
/-! ### what the top has written -/
theorem all_mk {l : PySem.W.OpenLaw} {w : World} {K : PySem.W.Frag} {h : Heap} {mg : Str → Option Value} {fa : Addr} (X : K.In h) (G : h.Ns mainGlobals mg) (hfa : mg "law" = some (.ref fa))
    {f0 : Addr} {od0 an0 : Option Addr} {sl0 : Array (Option Value)} {oc0 kV0 dc0 pm0 cd0 ct0 : Value}
    {f1 : Addr} {od1 an1 : Option Addr} {sl1 : Array (Option Value)} {oc1 kV1 dc1 pm1 cd1 ct1 : Value}
    {f2 : Addr} {od2 an2 : Option Addr} {sl2 : Array (Option Value)} {oc2 kV2 dc2 pm2 cd2 ct2 : Value}
    {f3 : Addr} {od3 an3 : Option Addr} {sl3 : Array (Option Value)} {oc3 kV3 dc3 pm3 cd3 ct3 : Value}
    {f4 : Addr} {od4 an4 : Option Addr} {sl4 : Array (Option Value)} {oc4 kV4 dc4 pm4 cd4 ct4 : Value}
    {f5 : Addr} {od5 an5 : Option Addr} {sl5 : Array (Option Value)} {oc5 kV5 dc5 pm5 cd5 ct5 : Value}
    {f6 : Addr} {od6 an6 : Option Addr} {sl6 : Array (Option Value)} {oc6 kV6 dc6 pm6 cd6 ct6 : Value}
    {f7 : Addr} {od7 an7 : Option Addr} {sl7 : Array (Option Value)} {oc7 kV7 dc7 pm7 cd7 ct7 : Value}
    {f8 : Addr} {od8 an8 : Option Addr} {sl8 : Array (Option Value)} {oc8 kV8 dc8 pm8 cd8 ct8 : Value}
    {f9 : Addr} {od9 an9 : Option Addr} {sl9 : Array (Option Value)} {oc9 kV9 dc9 pm9 cd9 ct9 : Value}
    {f10 : Addr} {od10 an10 : Option Addr} {sl10 : Array (Option Value)} {oc10 kV10 dc10 pm10 cd10 ct10 : Value}
    {f11 : Addr} {od11 an11 : Option Addr} {sl11 : Array (Option Value)} {oc11 kV11 dc11 pm11 cd11 ct11 : Value}
    {f12 : Addr} {od12 an12 : Option Addr} {sl12 : Array (Option Value)} {oc12 kV12 dc12 pm12 cd12 ct12 : Value}
    {f13 : Addr} {od13 an13 : Option Addr} {sl13 : Array (Option Value)} {oc13 kV13 dc13 pm13 cd13 ct13 : Value}
    {f14 : Addr} {od14 an14 : Option Addr} {sl14 : Array (Option Value)} {oc14 kV14 dc14 pm14 cd14 ct14 : Value}
    {f15 : Addr} {od15 an15 : Option Addr} {sl15 : Array (Option Value)} {oc15 kV15 dc15 pm15 cd15 ct15 : Value}
    {f16 : Addr} {od16 an16 : Option Addr} {sl16 : Array (Option Value)} {oc16 kV16 dc16 pm16 cd16 ct16 : Value}
    {f17 : Addr} {od17 an17 : Option Addr} {sl17 : Array (Option Value)} {oc17 kV17 dc17 pm17 cd17 ct17 : Value}
    {f18 : Addr} {od18 an18 : Option Addr} {sl18 : Array (Option Value)} {oc18 kV18 dc18 pm18 cd18 ct18 : Value}
    {f19 : Addr} {od19 an19 : Option Addr} {sl19 : Array (Option Value)} {oc19 kV19 dc19 pm19 cd19 ct19 : Value}
    {f20 : Addr} {od20 an20 : Option Addr} {sl20 : Array (Option Value)} {oc20 kV20 dc20 pm20 cd20 ct20 : Value}
    {f21 : Addr} {od21 an21 : Option Addr} {sl21 : Array (Option Value)} {oc21 kV21 dc21 pm21 cd21 ct21 : Value}
    {f22 : Addr} {od22 an22 : Option Addr} {sl22 : Array (Option Value)} {oc22 kV22 dc22 pm22 cd22 ct22 : Value}
    {f23 : Addr} {od23 an23 : Option Addr} {sl23 : Array (Option Value)} {oc23 kV23 dc23 pm23 cd23 ct23 : Value}
    {f24 : Addr} {od24 an24 : Option Addr} {sl24 : Array (Option Value)} {oc24 kV24 dc24 pm24 cd24 ct24 : Value}
    {f25 : Addr} {od25 an25 : Option Addr} {sl25 : Array (Option Value)} {oc25 kV25 dc25 pm25 cd25 ct25 : Value}
    (a0 : PySem.W.nsIn K mainGlobals "live_cells" = some (some (.ref f0))) (l0 : K.lookup f0 = some ⟨oc0, od0, .func (PySem.W.fnOf "live_cells" "live_cells" (defArgs sLive) (defBody sLive) (defScope sLive) .none kV0 dc0 pm0 an0 cd0 ct0), sl0⟩) (c0 : PySem.W.codeIn K cd0 "live_cells" = true) (k0 : PySem.W.keepIn K (.ref f0) = true)
    (a1 : PySem.W.nsIn K mainGlobals "free_places" = some (some (.ref f1))) (l1 : K.lookup f1 = some ⟨oc1, od1, .func (PySem.W.fnOf "free_places" "free_places" (defArgs sFree) (defBody sFree) (defScope sFree) .none kV1 dc1 pm1 an1 cd1 ct1), sl1⟩) (c1 : PySem.W.codeIn K cd1 "free_places" = true) (k1 : PySem.W.keepIn K (.ref f1) = true)
    (a2 : PySem.W.nsIn K mainGlobals "with_piece" = some (some (.ref f2))) (l2 : K.lookup f2 = some ⟨oc2, od2, .func (PySem.W.fnOf "with_piece" "with_piece" (defArgs sWith) (defBody sWith) (defScope sWith) .none kV2 dc2 pm2 an2 cd2 ct2), sl2⟩) (c2 : PySem.W.codeIn K cd2 "with_piece" = true) (k2 : PySem.W.keepIn K (.ref f2) = true)
    (a3 : PySem.W.nsIn K mainGlobals "without_piece" = some (some (.ref f3))) (l3 : K.lookup f3 = some ⟨oc3, od3, .func (PySem.W.fnOf "without_piece" "without_piece" (defArgs sWithout) (defBody sWithout) (defScope sWithout) .none kV3 dc3 pm3 an3 cd3 ct3), sl3⟩) (c3 : PySem.W.codeIn K cd3 "without_piece" = true) (k3 : PySem.W.keepIn K (.ref f3) = true)
    (a4 : PySem.W.nsIn K mainGlobals "all_layouts" = some (some (.ref f4))) (l4 : K.lookup f4 = some ⟨oc4, od4, .func (PySem.W.fnOf "all_layouts" "all_layouts" (defArgs sAll) (defBody sAll) (defScope sAll) .none kV4 dc4 pm4 an4 cd4 ct4), sl4⟩) (c4 : PySem.W.codeIn K cd4 "all_layouts" = true) (k4 : PySem.W.keepIn K (.ref f4) = true)
    (a5 : PySem.W.nsIn K mainGlobals "askable" = some (some (.ref f5))) (l5 : K.lookup f5 = some ⟨oc5, od5, .func (PySem.W.fnOf "askable" "askable" (defArgs sAsk) (defBody sAsk) (defScope sAsk) .none kV5 dc5 pm5 an5 cd5 ct5), sl5⟩) (c5 : PySem.W.codeIn K cd5 "askable" = true) (k5 : PySem.W.keepIn K (.ref f5) = true)
    (a6 : PySem.W.nsIn K mainGlobals "place_that_holds" = some (some (.ref f6))) (l6 : K.lookup f6 = some ⟨oc6, od6, .func (PySem.W.fnOf "place_that_holds" "place_that_holds" (defArgs sPlace) (defBody sPlace) (defScope sPlace) .none kV6 dc6 pm6 an6 cd6 ct6), sl6⟩) (c6 : PySem.W.codeIn K cd6 "place_that_holds" = true) (k6 : PySem.W.keepIn K (.ref f6) = true)
    (a7 : PySem.W.nsIn K mainGlobals "deed_that_beats" = some (some (.ref f7))) (l7 : K.lookup f7 = some ⟨oc7, od7, .func (PySem.W.fnOf "deed_that_beats" "deed_that_beats" (defArgs sDeed) (defBody sDeed) (defScope sDeed) .none kV7 dc7 pm7 an7 cd7 ct7), sl7⟩) (c7 : PySem.W.codeIn K cd7 "deed_that_beats" = true) (k7 : PySem.W.keepIn K (.ref f7) = true)
    (a8 : PySem.W.nsIn K mainGlobals "foe_ways" = some (some (.ref f8))) (l8 : K.lookup f8 = some ⟨oc8, od8, .func (PySem.W.fnOf "foe_ways" "foe_ways" (defArgs sFoe) (defBody sFoe) (defScope sFoe) .none kV8 dc8 pm8 an8 cd8 ct8), sl8⟩) (c8 : PySem.W.codeIn K cd8 "foe_ways" = true) (k8 : PySem.W.keepIn K (.ref f8) = true)
    (a9 : PySem.W.nsIn K mainGlobals "safe_layouts" = some (some (.ref f9))) (l9 : K.lookup f9 = some ⟨oc9, od9, .func (PySem.W.fnOf "safe_layouts" "safe_layouts" (defArgs sSafe) (defBody sSafe) (defScope sSafe) .none kV9 dc9 pm9 an9 cd9 ct9), sl9⟩) (c9 : PySem.W.codeIn K cd9 "safe_layouts" = true) (k9 : PySem.W.keepIn K (.ref f9) = true)
    (a10 : PySem.W.nsIn K mainGlobals "needed_cells" = some (some (.ref f10))) (l10 : K.lookup f10 = some ⟨oc10, od10, .func (PySem.W.fnOf "needed_cells" "needed_cells" (defArgs sNeed) (defBody sNeed) (defScope sNeed) .none kV10 dc10 pm10 an10 cd10 ct10), sl10⟩) (c10 : PySem.W.codeIn K cd10 "needed_cells" = true) (k10 : PySem.W.keepIn K (.ref f10) = true)
    (a11 : PySem.W.nsIn K mainGlobals "_law_cell_at" = some (some (.ref f11))) (l11 : K.lookup f11 = some ⟨oc11, od11, .func (PySem.W.fnOf "_law_cell_at" "_law_cell_at" (defArgs sCell) (defBody sCell) (defScope sCell) .none kV11 dc11 pm11 an11 cd11 ct11), sl11⟩) (c11 : PySem.W.codeIn K cd11 "_law_cell_at" = true) (k11 : PySem.W.keepIn K (.ref f11) = true)
    (a12 : PySem.W.nsIn K mainGlobals "_law_draw" = some (some (.ref f12))) (l12 : K.lookup f12 = some ⟨oc12, od12, .func (PySem.W.fnOf "_law_draw" "_law_draw" (defArgs sDraw) (defBody sDraw) (defScope sDraw) .none kV12 dc12 pm12 an12 cd12 ct12), sl12⟩) (c12 : PySem.W.codeIn K cd12 "_law_draw" = true) (k12 : PySem.W.keepIn K (.ref f12) = true)
    (a13 : PySem.W.nsIn K mainGlobals "_law_other" = some (some (.ref f13))) (l13 : K.lookup f13 = some ⟨oc13, od13, .func (PySem.W.fnOf "_law_other" "_law_other" (defArgs sOther) (defBody sOther) (defScope sOther) .none kV13 dc13 pm13 an13 cd13 ct13), sl13⟩) (c13 : PySem.W.codeIn K cd13 "_law_other" = true) (k13 : PySem.W.keepIn K (.ref f13) = true)
    (a14 : PySem.W.nsIn K mainGlobals "_law_whole" = some (some (.ref f14))) (l14 : K.lookup f14 = some ⟨oc14, od14, .func (PySem.W.fnOf "_law_whole" "_law_whole" (defArgs sWhole) (defBody sWhole) (defScope sWhole) .none kV14 dc14 pm14 an14 cd14 ct14), sl14⟩) (c14 : PySem.W.codeIn K cd14 "_law_whole" = true) (k14 : PySem.W.keepIn K (.ref f14) = true)
    (a15 : PySem.W.nsIn K mainGlobals "_law_lies_free" = some (some (.ref f15))) (l15 : K.lookup f15 = some ⟨oc15, od15, .func (PySem.W.fnOf "_law_lies_free" "_law_lies_free" (defArgs sLies) (defBody sLies) (defScope sLies) .none kV15 dc15 pm15 an15 cd15 ct15), sl15⟩) (c15 : PySem.W.codeIn K cd15 "_law_lies_free" = true) (k15 : PySem.W.keepIn K (.ref f15) = true)
    (a16 : PySem.W.nsIn K mainGlobals "_law_grown" = some (some (.ref f16))) (l16 : K.lookup f16 = some ⟨oc16, od16, .func (PySem.W.fnOf "_law_grown" "_law_grown" (defArgs sGrown) (defBody sGrown) (defScope sGrown) .none kV16 dc16 pm16 an16 cd16 ct16), sl16⟩) (c16 : PySem.W.codeIn K cd16 "_law_grown" = true) (k16 : PySem.W.keepIn K (.ref f16) = true)
    (a17 : PySem.W.nsIn K mainGlobals "_law_less" = some (some (.ref f17))) (l17 : K.lookup f17 = some ⟨oc17, od17, .func (PySem.W.fnOf "_law_less" "_law_less" (defArgs sLess) (defBody sLess) (defScope sLess) .none kV17 dc17 pm17 an17 cd17 ct17), sl17⟩) (c17 : PySem.W.codeIn K cd17 "_law_less" = true) (k17 : PySem.W.keepIn K (.ref f17) = true)
    (a18 : PySem.W.nsIn K mainGlobals "_law_live" = some (some (.ref f18))) (l18 : K.lookup f18 = some ⟨oc18, od18, .func (PySem.W.fnOf "_law_live" "_law_live" (defArgs sLawLive) (defBody sLawLive) (defScope sLawLive) .none kV18 dc18 pm18 an18 cd18 ct18), sl18⟩) (c18 : PySem.W.codeIn K cd18 "_law_live" = true) (k18 : PySem.W.keepIn K (.ref f18) = true)
    (a19 : PySem.W.nsIn K mainGlobals "_law_is_way" = some (some (.ref f19))) (l19 : K.lookup f19 = some ⟨oc19, od19, .func (PySem.W.fnOf "_law_is_way" "_law_is_way" (defArgs sIsWay) (defBody sIsWay) (defScope sIsWay) .none kV19 dc19 pm19 an19 cd19 ct19), sl19⟩) (c19 : PySem.W.codeIn K cd19 "_law_is_way" = true) (k19 : PySem.W.keepIn K (.ref f19) = true)
    (a20 : PySem.W.nsIn K mainGlobals "_law_behind" = some (some (.ref f20))) (l20 : K.lookup f20 = some ⟨oc20, od20, .func (PySem.W.fnOf "_law_behind" "_law_behind" (defArgs sBehind) (defBody sBehind) (defScope sBehind) .none kV20 dc20 pm20 an20 cd20 ct20), sl20⟩) (c20 : PySem.W.codeIn K cd20 "_law_behind" = true) (k20 : PySem.W.keepIn K (.ref f20) = true)
    (a21 : PySem.W.nsIn K mainGlobals "_law_may" = some (some (.ref f21))) (l21 : K.lookup f21 = some ⟨oc21, od21, .func (PySem.W.fnOf "_law_may" "_law_may" (defArgs sMay) (defBody sMay) (defScope sMay) .none kV21 dc21 pm21 an21 cd21 ct21), sl21⟩) (c21 : PySem.W.codeIn K cd21 "_law_may" = true) (k21 : PySem.W.keepIn K (.ref f21) = true)
    (a22 : PySem.W.nsIn K mainGlobals "_law_next" = some (some (.ref f22))) (l22 : K.lookup f22 = some ⟨oc22, od22, .func (PySem.W.fnOf "_law_next" "_law_next" (defArgs sNext) (defBody sNext) (defScope sNext) .none kV22 dc22 pm22 an22 cd22 ct22), sl22⟩) (c22 : PySem.W.codeIn K cd22 "_law_next" = true) (k22 : PySem.W.keepIn K (.ref f22) = true)
    (a23 : PySem.W.nsIn K mainGlobals "_law_holds_out" = some (some (.ref f23))) (l23 : K.lookup f23 = some ⟨oc23, od23, .func (PySem.W.fnOf "_law_holds_out" "_law_holds_out" (defArgs sHolds) (defBody sHolds) (defScope sHolds) .none kV23 dc23 pm23 an23 cd23 ct23), sl23⟩) (c23 : PySem.W.codeIn K cd23 "_law_holds_out" = true) (k23 : PySem.W.keepIn K (.ref f23) = true)
    (a24 : PySem.W.nsIn K mainGlobals "_law_is_beaten" = some (some (.ref f24))) (l24 : K.lookup f24 = some ⟨oc24, od24, .func (PySem.W.fnOf "_law_is_beaten" "_law_is_beaten" (defArgs sBeat) (defBody sBeat) (defScope sBeat) .none kV24 dc24 pm24 an24 cd24 ct24), sl24⟩) (c24 : PySem.W.codeIn K cd24 "_law_is_beaten" = true) (k24 : PySem.W.keepIn K (.ref f24) = true)
    (a25 : PySem.W.nsIn K mainGlobals "law" = some (some (.ref f25))) (l25 : K.lookup f25 = some ⟨oc25, od25, .func (PySem.W.fnOf "law" "law" (defArgs sLaw) (defBody sLaw) (defScope sLaw) .none kV25 dc25 pm25 an25 cd25 ct25), sl25⟩) (c25 : PySem.W.codeIn K cd25 "law" = true) (k25 : PySem.W.keepIn K (.ref f25) = true)
    (z_sum : PySem.W.nsIn K mainGlobals "sum" = some none)
    (z_range : PySem.W.nsIn K mainGlobals "range" = some none)
    (z_tuple : PySem.W.nsIn K mainGlobals "tuple" = some none)
    (z_sorted : PySem.W.nsIn K mainGlobals "sorted" = some none)
    (z_list : PySem.W.nsIn K mainGlobals "list" = some none)
    (z_len : PySem.W.nsIn K mainGlobals "len" = some none)
    (z_min : PySem.W.nsIn K mainGlobals "min" = some none)
    (z_max : PySem.W.nsIn K mainGlobals "max" = some none)
    (z_isinstance : PySem.W.nsIn K mainGlobals "isinstance" = some none)
    (z_int : PySem.W.nsIn K mainGlobals "int" = some none)
    (z_bool : PySem.W.nsIn K mainGlobals "bool" = some none)
    (z_str : PySem.W.nsIn K mainGlobals "str" = some none)
    (z_dict : PySem.W.nsIn K mainGlobals "dict" = some none)
    : ∃ fd : FuncData, (∀ (s : Shared) (v : Value), BindsTo s fd ⟨[v], []⟩ [("_law_script", v)]) ∧ ∀ base : Heap, K.In base → base.Ns mainGlobals mg → FnOk l.prog w K mg base CX0 7 fa fd ["_law_script"] (spLaw K) := by
  have e := hfa.symm.trans (PySem.W.mg_of X G a25)
  cases e
  have T : Bl mg := ⟨PySem.W.mg_none_of X G z_sum, PySem.W.mg_none_of X G z_range, PySem.W.mg_none_of X G z_tuple, PySem.W.mg_none_of X G z_sorted, PySem.W.mg_none_of X G z_list, PySem.W.mg_none_of X G z_len, PySem.W.mg_none_of X G z_min, PySem.W.mg_none_of X G z_max, PySem.W.mg_none_of X G z_isinstance, PySem.W.mg_none_of X G z_int, PySem.W.mg_none_of X G z_bool, PySem.W.mg_none_of X G z_str, PySem.W.mg_none_of X G z_dict⟩
  have F0 := fun_mk (st := sLive) l0 c0 k0
  have b0 := F0.binds (ps := ["layout"]) fun _ _ _ _ _ _ us hl => match us, hl with | [_], _ => rfl
  have F1 := fun_mk (st := sFree) l1 c1 k1
  have b1 := F1.binds (ps := ["cells", "layout", "size"]) fun _ _ _ _ _ _ us hl => match us, hl with | [_, _, _], _ => rfl
  have F2 := fun_mk (st := sWith) l2 c2 k2
  have b2 := F2.binds (ps := ["layout", "at", "long"]) fun _ _ _ _ _ _ us hl => match us, hl with | [_, _, _], _ => rfl
  have F3 := fun_mk (st := sWithout) l3 c3 k3
  have b3 := F3.binds (ps := ["layout", "at"]) fun _ _ _ _ _ _ us hl => match us, hl with | [_, _], _ => rfl
  have F4 := fun_mk (st := sAll) l4 c4 k4
  have b4 := F4.binds (ps := ["cells", "most", "top"]) fun _ _ _ _ _ _ us hl => match us, hl with | [_, _, _], _ => rfl
  have F5 := fun_mk (st := sAsk) l5 c5 k5
  have b5 := F5.binds (ps := ["layout", "most", "top"]) fun _ _ _ _ _ _ us hl => match us, hl with | [_, _, _], _ => rfl
  have F6 := fun_mk (st := sPlace) l6 c6 k6
  have b6 := F6.binds (ps := ["cells", "layout", "size", "lost"]) fun _ _ _ _ _ _ us hl => match us, hl with | [_, _, _, _], _ => rfl
  have F7 := fun_mk (st := sDeed) l7 c7 k7
  have b7 := F7.binds (ps := ["cells", "layout", "greatest", "lost"]) fun _ _ _ _ _ _ us hl => match us, hl with | [_, _, _, _], _ => rfl
  have F8 := fun_mk (st := sFoe) l8 c8 k8
  have b8 := F8.binds (ps := ["cells", "most", "top"]) fun _ _ _ _ _ _ us hl => match us, hl with | [_, _, _], _ => rfl
  have F9 := fun_mk (st := sSafe) l9 c9 k9
  have b9 := F9.binds (ps := ["cells", "most", "top"]) fun _ _ _ _ _ _ us hl => match us, hl with | [_, _, _], _ => rfl
  have F10 := fun_mk (st := sNeed) l10 c10 k10
  have b10 := F10.binds (ps := ["most", "top"]) fun _ _ _ _ _ _ us hl => match us, hl with | [_, _], _ => rfl
  have F11 := fun_mk (st := sCell) l11 c11 k11
  have b11 := F11.binds (ps := ["_law_script", "_law_k"]) fun _ _ _ _ _ _ us hl => match us, hl with | [_, _], _ => rfl
  have F12 := fun_mk (st := sDraw) l12 c12 k12
  have b12 := F12.binds (ps := ["_law_script", "_law_k", "_law_many"]) fun _ _ _ _ _ _ us hl => match us, hl with | [_, _, _], _ => rfl
  have F13 := fun_mk (st := sOther) l13 c13 k13
  have b13 := F13.binds (ps := ["_law_script", "_law_k", "_law_many"]) fun _ _ _ _ _ _ us hl => match us, hl with | [_, _, _], _ => rfl
  have F14 := fun_mk (st := sWhole) l14 c14 k14
  have b14 := F14.binds (ps := ["_law_found"]) fun _ _ _ _ _ _ us hl => match us, hl with | [_], _ => rfl
  have F15 := fun_mk (st := sLies) l15 c15 k15
  have b15 := F15.binds (ps := ["_law_layout", "_law_cells", "_law_at", "_law_size"]) fun _ _ _ _ _ _ us hl => match us, hl with | [_, _, _, _], _ => rfl
  have F16 := fun_mk (st := sGrown) l16 c16 k16
  have b16 := F16.binds (ps := ["_law_layout", "_law_at", "_law_size"]) fun _ _ _ _ _ _ us hl => match us, hl with | [_, _, _], _ => rfl
  have F17 := fun_mk (st := sLess) l17 c17 k17
  have b17 := F17.binds (ps := ["_law_layout", "_law_at"]) fun _ _ _ _ _ _ us hl => match us, hl with | [_, _], _ => rfl
  have F18 := fun_mk (st := sLawLive) l18 c18 k18
  have b18 := F18.binds (ps := ["_law_layout"]) fun _ _ _ _ _ _ us hl => match us, hl with | [_], _ => rfl
  have F19 := fun_mk (st := sIsWay) l19 c19 k19
  have b19 := F19.binds (ps := ["_law_way"]) fun _ _ _ _ _ _ us hl => match us, hl with | [_], _ => rfl
  have F20 := fun_mk (st := sBehind) l20 c20 k20
  have b20 := F20.binds (ps := ["_law_layout", "_law_deed", "_law_cells", "_law_most", "_law_top"]) fun _ _ _ _ _ _ us hl => match us, hl with | [_, _, _, _, _], _ => rfl
  have F21 := fun_mk (st := sMay) l21 c21 k21
  have b21 := F21.binds (ps := ["_law_layout", "_law_most", "_law_top"]) fun _ _ _ _ _ _ us hl => match us, hl with | [_, _, _], _ => rfl
  have F22 := fun_mk (st := sNext) l22 c22 k22
  have b22 := F22.binds (ps := ["_law_safe", "_law_layout", "_law_deed", "_law_cells", "_law_top"]) fun _ _ _ _ _ _ us hl => match us, hl with | [_, _, _, _, _], _ => rfl
  have F23 := fun_mk (st := sHolds) l23 c23 k23
  have b23 := F23.binds (ps := ["_law_script", "_law_cells", "_law_most", "_law_top"]) fun _ _ _ _ _ _ us hl => match us, hl with | [_, _, _, _], _ => rfl
  have F24 := fun_mk (st := sBeat) l24 c24 k24
  have b24 := F24.binds (ps := ["_law_script", "_law_cells", "_law_most", "_law_top"]) fun _ _ _ _ _ _ us hl => match us, hl with | [_, _, _, _], _ => rfl
  have F25 := fun_mk (st := sLaw) l25 c25 k25
  let Z : Tops K mg := {
    T := T
    live := ⟨f0, _, F0, b0, PySem.W.mg_of X G a0⟩
    free := ⟨f1, _, F1, b1, PySem.W.mg_of X G a1⟩
    with_ := ⟨f2, _, F2, b2, PySem.W.mg_of X G a2⟩
    without := ⟨f3, _, F3, b3, PySem.W.mg_of X G a3⟩
    all := ⟨f4, _, F4, b4, PySem.W.mg_of X G a4⟩
    ask := ⟨f5, _, F5, b5, PySem.W.mg_of X G a5⟩
    place := ⟨f6, _, F6, b6, PySem.W.mg_of X G a6⟩
    deed := ⟨f7, _, F7, b7, PySem.W.mg_of X G a7⟩
    foe := ⟨f8, _, F8, b8, PySem.W.mg_of X G a8⟩
    safe := ⟨f9, _, F9, b9, PySem.W.mg_of X G a9⟩
    need := ⟨f10, _, F10, b10, PySem.W.mg_of X G a10⟩
    cell := ⟨f11, _, F11, b11, PySem.W.mg_of X G a11⟩
    draw := ⟨f12, _, F12, b12, PySem.W.mg_of X G a12⟩
    other := ⟨f13, _, F13, b13, PySem.W.mg_of X G a13⟩
    whole := ⟨f14, _, F14, b14, PySem.W.mg_of X G a14⟩
    lies := ⟨f15, _, F15, b15, PySem.W.mg_of X G a15⟩
    grown := ⟨f16, _, F16, b16, PySem.W.mg_of X G a16⟩
    less := ⟨f17, _, F17, b17, PySem.W.mg_of X G a17⟩
    lawLive := ⟨f18, _, F18, b18, PySem.W.mg_of X G a18⟩
    isWay := ⟨f19, _, F19, b19, PySem.W.mg_of X G a19⟩
    behind := ⟨f20, _, F20, b20, PySem.W.mg_of X G a20⟩
    may := ⟨f21, _, F21, b21, PySem.W.mg_of X G a21⟩
    next := ⟨f22, _, F22, b22, PySem.W.mg_of X G a22⟩
    holds := ⟨f23, _, F23, b23, PySem.W.mg_of X G a23⟩
    beat := ⟨f24, _, F24, b24, PySem.W.mg_of X G a24⟩
  }
  exact ⟨PySem.W.fnOf "law" "law" (defArgs sLaw) (defBody sLaw) (defScope sLaw) .none kV25 dc25 pm25 an25 cd25 ct25, fun s v => .of_eq rfl, fun base _ _ => ok_law Z F25⟩
theorem walk {l : PySem.W.OpenLaw} {q : Program} {loose : List Str} {XP : (Str → Option Value) → Heap → Prop} {YP : World → Heap → Prop} {d : DefRec} {K : Params → PySem.W.Frag} (hn : l.most = some 63) (hdf : d.params.defaults = [])
    (hY : ∀ (w : World) (h : Heap), YP w h → (K w.params).In h)
    (F : ∀ (w : World) (mg : Str → Option Value) (fa : Addr) (h : Heap), (K w.params).In h → h.Ns mainGlobals mg → mg d.name = some (.ref fa) →
      ∃ fd : FuncData, (∀ (s : Shared) (u : Value), BindsTo s fd ⟨[u], []⟩ [("_law_script", u)]) ∧ ∀ base : Heap, (K w.params).In base → base.Ns mainGlobals mg → FnOk l.prog w (K w.params) mg base CX0 7 fa fd ["_law_script"] (spLaw (K w.params))) :
    PySem.W.WalkO q loose XP YP l.row.toRowW d [] (fun f vs => PySem.call f vs) :=
  L2.walk_of (n := 63) (k := 7) (x := "_law_script") (CX := fun _ => CX0) (sp := fun w => spLaw (K w.params)) hn (by decide) hdf ⟨rfl, by decide, by decide⟩ hY F (fun _ _ a ns hl _ hS => ⟨a, ns, rfl, hS, hl, fun _ => rfl⟩) fun _ _ _ _ _ z => z
end L2.SW

open PySem PySem.W PyProof.Rows in
set_option maxRecDepth 100000 in
set_option maxHeartbeats 0 in
theorem PySem.Challenge.cw_stow_k69_whole_needed_cells_holds : PySem.Challenge.rw_stow_k69_whole_needed_cells.Holds := by
  w_on; o_law; k_head; (case hw => w_witness2)
  k_fill
  refine L2.SW.walk (l := PySem.Challenge.rw_stow_k69_whole_needed_cells) rfl rfl (fun w h Y => PySem.W.kIn_of Y) ?F
  case F =>
    intro w mg fa h KX G hmg
    refine' L2.SW.all_mk KX G hmg ?a0 ?l0 ?c0 ?k0 ?a1 ?l1 ?c1 ?k1 ?a2 ?l2 ?c2 ?k2 ?a3 ?l3 ?c3 ?k3 ?a4 ?l4 ?c4 ?k4 ?a5 ?l5 ?c5 ?k5 ?a6 ?l6 ?c6 ?k6 ?a7 ?l7 ?c7 ?k7 ?a8 ?l8 ?c8 ?k8 ?a9 ?l9 ?c9 ?k9 ?a10 ?l10 ?c10 ?k10 ?a11 ?l11 ?c11 ?k11 ?a12 ?l12 ?c12 ?k12 ?a13 ?l13 ?c13 ?k13 ?a14 ?l14 ?c14 ?k14 ?a15 ?l15 ?c15 ?k15 ?a16 ?l16 ?c16 ?k16 ?a17 ?l17 ?c17 ?k17 ?a18 ?l18 ?c18 ?k18 ?a19 ?l19 ?c19 ?k19 ?a20 ?l20 ?c20 ?k20 ?a21 ?l21 ?c21 ?k21 ?a22 ?l22 ?c22 ?k22 ?a23 ?l23 ?c23 ?k23 ?a24 ?l24 ?c24 ?k24 ?a25 ?l25 ?c25 ?k25 ?z_sum ?z_range ?z_tuple ?z_sorted ?z_list ?z_len ?z_min ?z_max ?z_isinstance ?z_int ?z_bool ?z_str ?z_dict
    (case a0 => k_is)
    (case l0 => k_is)
    (case c0 => k_is)
    (case k0 => k_is)
    (case a1 => k_is)
    (case l1 => k_is)
    (case c1 => k_is)
    (case k1 => k_is)
    (case a2 => k_is)
    (case l2 => k_is)
    (case c2 => k_is)
    (case k2 => k_is)
    (case a3 => k_is)
    (case l3 => k_is)
    (case c3 => k_is)
    (case k3 => k_is)
    (case a4 => k_is)
    (case l4 => k_is)
    (case c4 => k_is)
    (case k4 => k_is)
    (case a5 => k_is)
    (case l5 => k_is)
    (case c5 => k_is)
    (case k5 => k_is)
    (case a6 => k_is)
    (case l6 => k_is)
    (case c6 => k_is)
    (case k6 => k_is)
    (case a7 => k_is)
    (case l7 => k_is)
    (case c7 => k_is)
    (case k7 => k_is)
    (case a8 => k_is)
    (case l8 => k_is)
    (case c8 => k_is)
    (case k8 => k_is)
    (case a9 => k_is)
    (case l9 => k_is)
    (case c9 => k_is)
    (case k9 => k_is)
    (case a10 => k_is)
    (case l10 => k_is)
    (case c10 => k_is)
    (case k10 => k_is)
    (case a11 => k_is)
    (case l11 => k_is)
    (case c11 => k_is)
    (case k11 => k_is)
    (case a12 => k_is)
    (case l12 => k_is)
    (case c12 => k_is)
    (case k12 => k_is)
    (case a13 => k_is)
    (case l13 => k_is)
    (case c13 => k_is)
    (case k13 => k_is)
    (case a14 => k_is)
    (case l14 => k_is)
    (case c14 => k_is)
    (case k14 => k_is)
    (case a15 => k_is)
    (case l15 => k_is)
    (case c15 => k_is)
    (case k15 => k_is)
    (case a16 => k_is)
    (case l16 => k_is)
    (case c16 => k_is)
    (case k16 => k_is)
    (case a17 => k_is)
    (case l17 => k_is)
    (case c17 => k_is)
    (case k17 => k_is)
    (case a18 => k_is)
    (case l18 => k_is)
    (case c18 => k_is)
    (case k18 => k_is)
    (case a19 => k_is)
    (case l19 => k_is)
    (case c19 => k_is)
    (case k19 => k_is)
    (case a20 => k_is)
    (case l20 => k_is)
    (case c20 => k_is)
    (case k20 => k_is)
    (case a21 => k_is)
    (case l21 => k_is)
    (case c21 => k_is)
    (case k21 => k_is)
    (case a22 => k_is)
    (case l22 => k_is)
    (case c22 => k_is)
    (case k22 => k_is)
    (case a23 => k_is)
    (case l23 => k_is)
    (case c23 => k_is)
    (case k23 => k_is)
    (case a24 => k_is)
    (case l24 => k_is)
    (case c24 => k_is)
    (case k24 => k_is)
    (case a25 => k_is)
    (case l25 => k_is)
    (case c25 => k_is)
    (case k25 => k_is)
    (case z_sum => k_is)
    (case z_range => k_is)
    (case z_tuple => k_is)
    (case z_sorted => k_is)
    (case z_list => k_is)
    (case z_len => k_is)
    (case z_min => k_is)
    (case z_max => k_is)
    (case z_isinstance => k_is)
    (case z_int => k_is)
    (case z_bool => k_is)
    (case z_str => k_is)
    (case z_dict => k_is)
#print axioms PySem.Challenge.cw_stow_k69_whole_needed_cells_holds
